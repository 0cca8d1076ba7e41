import PyProof.Rows.All
import Wide.All
import OpenK.AllK
import Wide.FinOn
import PySem.Challenge.RW_pb0024_01
open PySem PySem.W PySem.Calls PyProof.Rows
set_option Elab.async false
set_option maxRecDepth 100000
set_option maxHeartbeats 8000000
set_option linter.unusedVariables false
set_option linter.unusedSimpArgs false
namespace Mine.hd
noncomputable def stmtAt (i : Nat) : Stmt := (PySem.Challenge.pw_pb0024_01.main.body.drop i).headD (.Pass ⟨0,0,0,0⟩)
noncomputable def methAt (i j : Nat) : Stmt := match stmtAt i with
  | .ClassDef (body := b) .. => (b.drop j).headD (.Pass ⟨0,0,0,0⟩)
  | _ => .Pass ⟨0,0,0,0⟩
noncomputable abbrev pickA {s : Stmt} {n a b d r t sc q x p} (_ : s = .FunctionDef n a b d r t sc q x p) : Arguments := a
noncomputable abbrev pickB {s : Stmt} {n a b d r t sc q x p} (_ : s = .FunctionDef n a b d r t sc q x p) : List Stmt := b
noncomputable abbrev pickS {s : Stmt} {n a b d r t sc q x p} (_ : s = .FunctionDef n a b d r t sc q x p) : Scope := sc
noncomputable abbrev a0 : Arguments := pickA (s := methAt 1 0) rfl
noncomputable abbrev b0 : List Stmt := pickB (s := methAt 1 0) rfl
noncomputable abbrev s0 : Scope := pickS (s := methAt 1 0) rfl
noncomputable abbrev a1 : Arguments := pickA (s := stmtAt 2) rfl
noncomputable abbrev b1 : List Stmt := pickB (s := stmtAt 2) rfl
noncomputable abbrev s1 : Scope := pickS (s := stmtAt 2) rfl
noncomputable abbrev a2 : Arguments := pickA (s := stmtAt 3) rfl
noncomputable abbrev b2 : List Stmt := pickB (s := stmtAt 3) rfl
noncomputable abbrev s2 : Scope := pickS (s := stmtAt 3) rfl
noncomputable abbrev a3 : Arguments := pickA (s := stmtAt 4) rfl
noncomputable abbrev b3 : List Stmt := pickB (s := stmtAt 4) rfl
noncomputable abbrev s3 : Scope := pickS (s := stmtAt 4) rfl
noncomputable abbrev a4 : Arguments := pickA (s := stmtAt 5) rfl
noncomputable abbrev b4 : List Stmt := pickB (s := stmtAt 5) rfl
noncomputable abbrev s4 : Scope := pickS (s := stmtAt 5) rfl
noncomputable abbrev a5 : Arguments := pickA (s := stmtAt 6) rfl
noncomputable abbrev b5 : List Stmt := pickB (s := stmtAt 6) rfl
noncomputable abbrev s5 : Scope := pickS (s := stmtAt 6) rfl
noncomputable abbrev a6 : Arguments := pickA (s := methAt 8 0) rfl
noncomputable abbrev b6 : List Stmt := pickB (s := methAt 8 0) rfl
noncomputable abbrev s6 : Scope := pickS (s := methAt 8 0) rfl
noncomputable abbrev a7 : Arguments := pickA (s := stmtAt 11) rfl
noncomputable abbrev b7 : List Stmt := pickB (s := stmtAt 11) rfl
noncomputable abbrev s7 : Scope := pickS (s := stmtAt 11) rfl
noncomputable abbrev a8 : Arguments := pickA (s := stmtAt 12) rfl
noncomputable abbrev b8 : List Stmt := pickB (s := stmtAt 12) rfl
noncomputable abbrev s8 : Scope := pickS (s := stmtAt 12) rfl
noncomputable abbrev a9 : Arguments := pickA (s := methAt 14 0) rfl
noncomputable abbrev b9 : List Stmt := pickB (s := methAt 14 0) rfl
noncomputable abbrev s9 : Scope := pickS (s := methAt 14 0) rfl
noncomputable abbrev a10 : Arguments := pickA (s := methAt 15 0) rfl
noncomputable abbrev b10 : List Stmt := pickB (s := methAt 15 0) rfl
noncomputable abbrev s10 : Scope := pickS (s := methAt 15 0) rfl
noncomputable abbrev a11 : Arguments := pickA (s := methAt 16 0) rfl
noncomputable abbrev b11 : List Stmt := pickB (s := methAt 16 0) rfl
noncomputable abbrev s11 : Scope := pickS (s := methAt 16 0) rfl
noncomputable abbrev a12 : Arguments := pickA (s := methAt 29 0) rfl
noncomputable abbrev b12 : List Stmt := pickB (s := methAt 29 0) rfl
noncomputable abbrev s12 : Scope := pickS (s := methAt 29 0) rfl
noncomputable abbrev a13 : Arguments := pickA (s := stmtAt 30) rfl
noncomputable abbrev b13 : List Stmt := pickB (s := stmtAt 30) rfl
noncomputable abbrev s13 : Scope := pickS (s := stmtAt 30) rfl
noncomputable abbrev a14 : Arguments := pickA (s := stmtAt 31) rfl
noncomputable abbrev b14 : List Stmt := pickB (s := stmtAt 31) rfl
noncomputable abbrev s14 : Scope := pickS (s := stmtAt 31) rfl
noncomputable abbrev a15 : Arguments := pickA (s := stmtAt 32) rfl
noncomputable abbrev b15 : List Stmt := pickB (s := stmtAt 32) rfl
noncomputable abbrev s15 : Scope := pickS (s := stmtAt 32) rfl
noncomputable abbrev a16 : Arguments := pickA (s := stmtAt 33) rfl
noncomputable abbrev b16 : List Stmt := pickB (s := stmtAt 33) rfl
noncomputable abbrev s16 : Scope := pickS (s := stmtAt 33) rfl
noncomputable abbrev a17 : Arguments := pickA (s := stmtAt 34) rfl
noncomputable abbrev b17 : List Stmt := pickB (s := stmtAt 34) rfl
noncomputable abbrev s17 : Scope := pickS (s := stmtAt 34) rfl
noncomputable abbrev a18 : Arguments := pickA (s := methAt 36 0) rfl
noncomputable abbrev b18 : List Stmt := pickB (s := methAt 36 0) rfl
noncomputable abbrev s18 : Scope := pickS (s := methAt 36 0) rfl
noncomputable abbrev a19 : Arguments := pickA (s := stmtAt 37) rfl
noncomputable abbrev b19 : List Stmt := pickB (s := stmtAt 37) rfl
noncomputable abbrev s19 : Scope := pickS (s := stmtAt 37) rfl
noncomputable abbrev a20 : Arguments := pickA (s := stmtAt 38) rfl
noncomputable abbrev b20 : List Stmt := pickB (s := stmtAt 38) rfl
noncomputable abbrev s20 : Scope := pickS (s := stmtAt 38) rfl
noncomputable abbrev a21 : Arguments := pickA (s := stmtAt 39) rfl
noncomputable abbrev b21 : List Stmt := pickB (s := stmtAt 39) rfl
noncomputable abbrev s21 : Scope := pickS (s := stmtAt 39) rfl
noncomputable abbrev a22 : Arguments := pickA (s := stmtAt 40) rfl
noncomputable abbrev b22 : List Stmt := pickB (s := stmtAt 40) rfl
noncomputable abbrev s22 : Scope := pickS (s := stmtAt 40) rfl
noncomputable abbrev a23 : Arguments := pickA (s := stmtAt 41) rfl
noncomputable abbrev b23 : List Stmt := pickB (s := stmtAt 41) rfl
noncomputable abbrev s23 : Scope := pickS (s := stmtAt 41) rfl
noncomputable abbrev a24 : Arguments := pickA (s := stmtAt 42) rfl
noncomputable abbrev b24 : List Stmt := pickB (s := stmtAt 42) rfl
noncomputable abbrev s24 : Scope := pickS (s := stmtAt 42) rfl
noncomputable abbrev a25 : Arguments := pickA (s := stmtAt 43) rfl
noncomputable abbrev b25 : List Stmt := pickB (s := stmtAt 43) rfl
noncomputable abbrev s25 : Scope := pickS (s := stmtAt 43) rfl
noncomputable abbrev a26 : Arguments := pickA (s := stmtAt 44) rfl
noncomputable abbrev b26 : List Stmt := pickB (s := stmtAt 44) rfl
noncomputable abbrev s26 : Scope := pickS (s := stmtAt 44) rfl
noncomputable abbrev a27 : Arguments := pickA (s := stmtAt 45) rfl
noncomputable abbrev b27 : List Stmt := pickB (s := stmtAt 45) rfl
noncomputable abbrev s27 : Scope := pickS (s := stmtAt 45) rfl
noncomputable abbrev a28 : Arguments := pickA (s := stmtAt 46) rfl
noncomputable abbrev b28 : List Stmt := pickB (s := stmtAt 46) rfl
noncomputable abbrev s28 : Scope := pickS (s := stmtAt 46) rfl
noncomputable abbrev a29 : Arguments := pickA (s := stmtAt 47) rfl
noncomputable abbrev b29 : List Stmt := pickB (s := stmtAt 47) rfl
noncomputable abbrev s29 : Scope := pickS (s := stmtAt 47) rfl
noncomputable abbrev a30 : Arguments := pickA (s := stmtAt 48) rfl
noncomputable abbrev b30 : List Stmt := pickB (s := stmtAt 48) rfl
noncomputable abbrev s30 : Scope := pickS (s := stmtAt 48) rfl
noncomputable abbrev a31 : Arguments := pickA (s := stmtAt 49) rfl
noncomputable abbrev b31 : List Stmt := pickB (s := stmtAt 49) rfl
noncomputable abbrev s31 : Scope := pickS (s := stmtAt 49) rfl
noncomputable abbrev a32 : Arguments := pickA (s := stmtAt 50) rfl
noncomputable abbrev b32 : List Stmt := pickB (s := stmtAt 50) rfl
noncomputable abbrev s32 : Scope := pickS (s := stmtAt 50) rfl
noncomputable abbrev a33 : Arguments := pickA (s := stmtAt 51) rfl
noncomputable abbrev b33 : List Stmt := pickB (s := stmtAt 51) rfl
noncomputable abbrev s33 : Scope := pickS (s := stmtAt 51) rfl
noncomputable abbrev a34 : Arguments := pickA (s := stmtAt 52) rfl
noncomputable abbrev b34 : List Stmt := pickB (s := stmtAt 52) rfl
noncomputable abbrev s34 : Scope := pickS (s := stmtAt 52) rfl
noncomputable abbrev a35 : Arguments := pickA (s := stmtAt 53) rfl
noncomputable abbrev b35 : List Stmt := pickB (s := stmtAt 53) rfl
noncomputable abbrev s35 : Scope := pickS (s := stmtAt 53) rfl
noncomputable abbrev a36 : Arguments := pickA (s := methAt 55 0) rfl
noncomputable abbrev b36 : List Stmt := pickB (s := methAt 55 0) rfl
noncomputable abbrev s36 : Scope := pickS (s := methAt 55 0) rfl
noncomputable abbrev a37 : Arguments := pickA (s := methAt 55 1) rfl
noncomputable abbrev b37 : List Stmt := pickB (s := methAt 55 1) rfl
noncomputable abbrev s37 : Scope := pickS (s := methAt 55 1) rfl
noncomputable abbrev a38 : Arguments := pickA (s := stmtAt 56) rfl
noncomputable abbrev b38 : List Stmt := pickB (s := stmtAt 56) rfl
noncomputable abbrev s38 : Scope := pickS (s := stmtAt 56) rfl
noncomputable abbrev a39 : Arguments := pickA (s := stmtAt 57) rfl
noncomputable abbrev b39 : List Stmt := pickB (s := stmtAt 57) rfl
noncomputable abbrev s39 : Scope := pickS (s := stmtAt 57) rfl
noncomputable abbrev a40 : Arguments := pickA (s := stmtAt 58) rfl
noncomputable abbrev b40 : List Stmt := pickB (s := stmtAt 58) rfl
noncomputable abbrev s40 : Scope := pickS (s := stmtAt 58) rfl
noncomputable abbrev a41 : Arguments := pickA (s := stmtAt 59) rfl
noncomputable abbrev b41 : List Stmt := pickB (s := stmtAt 59) rfl
noncomputable abbrev s41 : Scope := pickS (s := stmtAt 59) rfl
noncomputable abbrev a42 : Arguments := pickA (s := stmtAt 60) rfl
noncomputable abbrev b42 : List Stmt := pickB (s := stmtAt 60) rfl
noncomputable abbrev s42 : Scope := pickS (s := stmtAt 60) rfl
noncomputable abbrev a43 : Arguments := pickA (s := stmtAt 62) rfl
noncomputable abbrev b43 : List Stmt := pickB (s := stmtAt 62) rfl
noncomputable abbrev s43 : Scope := pickS (s := stmtAt 62) rfl
noncomputable abbrev a44 : Arguments := pickA (s := stmtAt 63) rfl
noncomputable abbrev b44 : List Stmt := pickB (s := stmtAt 63) rfl
noncomputable abbrev s44 : Scope := pickS (s := stmtAt 63) rfl
noncomputable abbrev a45 : Arguments := pickA (s := stmtAt 64) rfl
noncomputable abbrev b45 : List Stmt := pickB (s := stmtAt 64) rfl
noncomputable abbrev s45 : Scope := pickS (s := stmtAt 64) rfl
noncomputable def heap_39 : Params → Frag := fun P =>
  (nat_lit 2, Obj.mk Value.none none (Data.dict #[DictEntry.mk (PyData.keyHash P (Str.ofString "type.__subclasses__.Exception.0")) (Value.str (Str.ofString "type.__subclasses__.Exception.0") 357) (Value.int 119 0), DictEntry.mk (PyData.keyHash P (Str.ofString "type.__subclasses__.Exception.n")) (Value.str (Str.ofString "type.__subclasses__.Exception.n") 358) (Value.int 1 0)] 2) #[]) ::
  (nat_lit 3, Obj.mk (Value.type "dict") none (Data.dict (List.toArray (DictEntry.mk (PyData.keyHash P (Str.ofString "__name__")) (Value.str (Str.ofString "__name__") 165) (Value.str (Str.ofString "law_pb0024_01") 784) :: DictEntry.mk (PyData.keyHash P (Str.ofString "__doc__")) (Value.str (Str.ofString "__doc__") 166) Value.none :: DictEntry.mk (PyData.keyHash P (Str.ofString "__package__")) (Value.str (Str.ofString "__package__") 167) Value.none :: DictEntry.mk (PyData.keyHash P (Str.ofString "__loader__")) (Value.str (Str.ofString "__loader__") 168) (Value.builtin "__main__.__loader__#opaque") :: DictEntry.mk (PyData.keyHash P (Str.ofString "__spec__")) (Value.str (Str.ofString "__spec__") 169) Value.none :: DictEntry.mk (PyData.keyHash P (Str.ofString "__annotations__")) (Value.str (Str.ofString "__annotations__") 170) (Value.ref 6) :: DictEntry.mk (PyData.keyHash P (Str.ofString "__builtins__")) (Value.str (Str.ofString "__builtins__") 171) (Value.ref 4) :: DictEntry.mk (PyData.keyHash P (Str.ofString "__file__")) (Value.str (Str.ofString "__file__") 173) (Value.str (Str.ofString "/claim/cut.py") 172) :: DictEntry.mk (PyData.keyHash P (Str.ofString "__cached__")) (Value.str (Str.ofString "__cached__") 174) Value.none :: DictEntry.mk (PyData.keyHash P (Str.ofString "Clock")) (Value.str (Str.ofString "Clock") 216) (Value.ref 31) :: DictEntry.mk (PyData.keyHash P (Str.ofString "time_after")) (Value.str (Str.ofString "time_after") 224) (Value.ref 42) :: DictEntry.mk (PyData.keyHash P (Str.ofString "next_time")) (Value.str (Str.ofString "next_time") 233) (Value.ref 49) :: DictEntry.mk (PyData.keyHash P (Str.ofString "move_clock")) (Value.str (Str.ofString "move_clock") 241) (Value.ref 56) :: DictEntry.mk (PyData.keyHash P (Str.ofString "is_due")) (Value.str (Str.ofString "is_due") 249) (Value.ref 63) :: DictEntry.mk (PyData.keyHash P (Str.ofString "least_wait")) (Value.str (Str.ofString "least_wait") 260) (Value.ref 70) :: DictEntry.mk (PyData.keyHash P (Str.ofString "Limits")) (Value.str (Str.ofString "Limits") 313) (Value.ref 88) :: DictEntry.mk (PyData.keyHash P (Str.ofString "OVER")) (Value.str (Str.ofString "OVER") 317) (Value.str (Str.ofString "over") 316) :: DictEntry.mk (PyData.keyHash P (Str.ofString "leave_queue")) (Value.str (Str.ofString "leave_queue") 323) (Value.ref 97) :: DictEntry.mk (PyData.keyHash P (Str.ofString "drain_queues")) (Value.str (Str.ofString "drain_queues") 329) (Value.ref 102) :: DictEntry.mk (PyData.keyHash P (Str.ofString "AdaError")) (Value.str (Str.ofString "AdaError") 360) (Value.ref 119) :: DictEntry.mk (PyData.keyHash P (Str.ofString "AdaRaise")) (Value.str (Str.ofString "AdaRaise") 389) (Value.ref 139) :: DictEntry.mk (PyData.keyHash P (Str.ofString "Deadlock")) (Value.str (Str.ofString "Deadlock") 414) (Value.ref 158) :: DictEntry.mk (PyData.keyHash P (Str.ofString "FRESH")) (Value.str (Str.ofString "FRESH") 418) (Value.str (Str.ofString "fresh") 417) :: DictEntry.mk (PyData.keyHash P (Str.ofString "READY")) (Value.str (Str.ofString "READY") 420) (Value.str (Str.ofString "ready") 419) :: DictEntry.mk (PyData.keyHash P (Str.ofString "ACTIVATING")) (Value.str (Str.ofString "ACTIVATING") 422) (Value.str (Str.ofString "activating") 421) :: DictEntry.mk (PyData.keyHash P (Str.ofString "CALLING")) (Value.str (Str.ofString "CALLING") 424) (Value.str (Str.ofString "calling") 423) :: DictEntry.mk (PyData.keyHash P (Str.ofString "MEETING")) (Value.str (Str.ofString "MEETING") 426) (Value.str (Str.ofString "meeting") 425) :: DictEntry.mk (PyData.keyHash P (Str.ofString "ACCEPTING")) (Value.str (Str.ofString "ACCEPTING") 428) (Value.str (Str.ofString "accepting") 427) :: DictEntry.mk (PyData.keyHash P (Str.ofString "DELAYED")) (Value.str (Str.ofString "DELAYED") 430) (Value.str (Str.ofString "delayed") 429) :: DictEntry.mk (PyData.keyHash P (Str.ofString "LEAVING")) (Value.str (Str.ofString "LEAVING") 432) (Value.str (Str.ofString "leaving") 431) :: DictEntry.mk (PyData.keyHash P (Str.ofString "COMPLETED")) (Value.str (Str.ofString "COMPLETED") 434) (Value.str (Str.ofString "completed") 433) :: DictEntry.mk (PyData.keyHash P (Str.ofString "DONE")) (Value.str (Str.ofString "DONE") 436) (Value.str (Str.ofString "done") 435) :: DictEntry.mk (PyData.keyHash P (Str.ofString "TASKING_ERROR")) (Value.str (Str.ofString "TASKING_ERROR") 438) (Value.str (Str.ofString "tasking_error") 437) :: DictEntry.mk (PyData.keyHash P (Str.ofString "TaskThing")) (Value.str (Str.ofString "TaskThing") 494) (Value.ref 177) :: DictEntry.mk (PyData.keyHash P (Str.ofString "wake_up")) (Value.str (Str.ofString "wake_up") 503) (Value.ref 188) :: DictEntry.mk (PyData.keyHash P (Str.ofString "finish_call")) (Value.str (Str.ofString "finish_call") 511) (Value.ref 195) :: DictEntry.mk (PyData.keyHash P (Str.ofString "cancel_call")) (Value.str (Str.ofString "cancel_call") 518) (Value.ref 202) :: DictEntry.mk (PyData.keyHash P (Str.ofString "delay_task")) (Value.str (Str.ofString "delay_task") 527) (Value.ref 209) :: DictEntry.mk (PyData.keyHash P (Str.ofString "time_is_up")) (Value.str (Str.ofString "time_is_up") 534) (Value.ref 216) :: DictEntry.mk (PyData.keyHash P (Str.ofString "Master")) (Value.str (Str.ofString "Master") 569) (Value.ref 233) :: DictEntry.mk (PyData.keyHash P (Str.ofString "make_task")) (Value.str (Str.ofString "make_task") 580) (Value.ref 244) :: DictEntry.mk (PyData.keyHash P (Str.ofString "activate_tasks")) (Value.str (Str.ofString "activate_tasks") 589) (Value.ref 251) :: DictEntry.mk (PyData.keyHash P (Str.ofString "end_activation")) (Value.str (Str.ofString "end_activation") 599) (Value.ref 258) :: DictEntry.mk (PyData.keyHash P (Str.ofString "are_done")) (Value.str (Str.ofString "are_done") 605) (Value.ref 263) :: DictEntry.mk (PyData.keyHash P (Str.ofString "end_fresh")) (Value.str (Str.ofString "end_fresh") 613) (Value.ref 270) :: DictEntry.mk (PyData.keyHash P (Str.ofString "drop_fresh")) (Value.str (Str.ofString "drop_fresh") 621) (Value.ref 277) :: DictEntry.mk (PyData.keyHash P (Str.ofString "complete_task")) (Value.str (Str.ofString "complete_task") 630) (Value.ref 284) :: DictEntry.mk (PyData.keyHash P (Str.ofString "is_held")) (Value.str (Str.ofString "is_held") 637) (Value.ref 291) :: DictEntry.mk (PyData.keyHash P (Str.ofString "end_abnormal")) (Value.str (Str.ofString "end_abnormal") 644) (Value.ref 298) :: DictEntry.mk (PyData.keyHash P (Str.ofString "settle_abnormal")) (Value.str (Str.ofString "settle_abnormal") 653) (Value.ref 305) :: DictEntry.mk (PyData.keyHash P (Str.ofString "settle_ends")) (Value.str (Str.ofString "settle_ends") 659) (Value.ref 310) :: DictEntry.mk (PyData.keyHash P (Str.ofString "can_terminate")) (Value.str (Str.ofString "can_terminate") 665) (Value.ref 315) :: DictEntry.mk (PyData.keyHash P (Str.ofString "is_quiet")) (Value.str (Str.ofString "is_quiet") 674) (Value.ref 322) :: DictEntry.mk (PyData.keyHash P (Str.ofString "ended_masters")) (Value.str (Str.ofString "ended_masters") 680) (Value.ref 327) :: DictEntry.mk (PyData.keyHash P (Str.ofString "terminate_below")) (Value.str (Str.ofString "terminate_below") 689) (Value.ref 334) :: DictEntry.mk (PyData.keyHash P (Str.ofString "settle_terminates")) (Value.str (Str.ofString "settle_terminates") 695) (Value.ref 339) :: DictEntry.mk (PyData.keyHash P (Str.ofString "settle_tasks")) (Value.str (Str.ofString "settle_tasks") 702) (Value.ref 346) :: DictEntry.mk (PyData.keyHash P (Str.ofString "Tasking")) (Value.str (Str.ofString "Tasking") 747) (Value.ref 370) :: DictEntry.mk (PyData.keyHash P (Str.ofString "ready_tasks")) (Value.str (Str.ofString "ready_tasks") 753) (Value.ref 379) :: DictEntry.mk (PyData.keyHash P (Str.ofString "waiting_tasks")) (Value.str (Str.ofString "waiting_tasks") 759) (Value.ref 384) :: DictEntry.mk (PyData.keyHash P (Str.ofString "pass_time")) (Value.str (Str.ofString "pass_time") 765) (Value.ref 389) :: DictEntry.mk (PyData.keyHash P (Str.ofString "choose_among")) (Value.str (Str.ofString "choose_among") 775) (Value.ref 396) :: DictEntry.mk (PyData.keyHash P (Str.ofString "pick_task")) (Value.str (Str.ofString "pick_task") 783) (Value.ref 403) :: DictEntry.mk (PyData.keyHash P (Str.ofString "_law_figure")) (Value.str (Str.ofString "_law_figure") 793) (Value.ref 410) :: DictEntry.mk (PyData.keyHash P (Str.ofString "_law_rows_told")) (Value.str (Str.ofString "_law_rows_told") 799) (Value.ref 415) :: DictEntry.mk (PyData.keyHash P (Str.ofString "law")) (Value.str (Str.ofString "law") 805) (Value.ref 420) :: [])) 66) #[]) ::
  (nat_lit 22, Obj.mk (Value.type "tuple") none (Data.seq #[]) #[]) ::
  (nat_lit 24, Obj.mk (Value.type "tuple") none (Data.seq #[Value.str (Str.ofString "self") 204]) #[]) ::
  (nat_lit 25, Obj.mk (Value.type "tuple") none (Data.seq #[]) #[]) ::
  (nat_lit 27, Obj.mk (Value.type "code") none (Data.fields #[Value.str (Str.ofString "__init__") 201, Value.str (Str.ofString "Clock.__init__") 202, Value.str (Str.ofString "/claim/cut.py") 203, Value.int 4 0, Value.int 1 0, Value.int 0 0, Value.int 0 0, Value.int 3 0, Value.ref 22, Value.bool true, Value.int 181 0, Value.ref 23, Value.none, Value.ref 24, Value.ref 25, Value.ref 26, Value.int 205 0, Value.int 4 0, Value.str (Str.ofString "/claim/cut.py") 206]) #[]) ::
  (nat_lit 28, Obj.mk (Value.type "function") none (Data.func (FuncData.mk (Str.ofString "__init__") (Str.ofString "Clock.__init__") a0 (FuncBody.stmts b0) s0 3 [] Value.none Value.none Value.none (Value.str (Str.ofString "adacore.clock") 187) none (Value.ref 27) Value.none 0)) #[]) ::
  (nat_lit 29, Obj.mk (Value.type "tuple") none (Data.seq #[Value.str (Str.ofString "now") 208]) #[]) ::
  (nat_lit 30, Obj.mk (Value.type "dict") none (Data.dict #[DictEntry.mk (PyData.keyHash P (Str.ofString "__module__")) (Value.str (Str.ofString "__module__") 196) (Value.str (Str.ofString "adacore.clock") 187), DictEntry.mk (PyData.keyHash P (Str.ofString "__firstlineno__")) (Value.str (Str.ofString "__firstlineno__") 200) (Value.int 2 199), DictEntry.mk (PyData.keyHash P (Str.ofString "__init__")) (Value.str (Str.ofString "__init__") 207) (Value.ref 28), DictEntry.mk (PyData.keyHash P (Str.ofString "__static_attributes__")) (Value.str (Str.ofString "__static_attributes__") 209) (Value.ref 29), DictEntry.mk (PyData.keyHash P (Str.ofString "__dict__")) (Value.str (Str.ofString "__dict__") 211) (Value.ref 32), DictEntry.mk (PyData.keyHash P (Str.ofString "__weakref__")) (Value.str (Str.ofString "__weakref__") 213) (Value.ref 33), DictEntry.mk (PyData.keyHash P (Str.ofString "__doc__")) (Value.str (Str.ofString "__doc__") 214) Value.none] 4) #[]) ::
  (nat_lit 31, Obj.mk (Value.type "type") none (Data.cls (ClassData.mk (Str.ofString "Clock") [Value.type "object"] [Value.ref 31, Value.type "object"] 30 (Str.ofString "Clock") true [] [] false none false)) #[none, none, some (Value.str (Str.ofString "Clock") 189), some (Value.str (Str.ofString "Clock") 197), some (Value.builtin "object.__new__"), some (Value.bool true)]) ::
  (nat_lit 32, Obj.mk (Value.type "getset_descriptor") none (Data.fields #[Value.str (Str.ofString "__dict__") 210, Value.ref 31, Value.builtin "function.__dict__", Value.builtin "function.__dict__#set"]) #[]) ::
  (nat_lit 33, Obj.mk (Value.type "getset_descriptor") none (Data.fields #[Value.str (Str.ofString "__weakref__") 212, Value.ref 31, Value.builtin "ExceptionGroup.__weakref__", Value.none]) #[]) ::
  (nat_lit 36, Obj.mk (Value.type "tuple") none (Data.seq #[]) #[]) ::
  (nat_lit 38, Obj.mk (Value.type "tuple") none (Data.seq #[Value.str (Str.ofString "clock") 220, Value.str (Str.ofString "wait") 221]) #[]) ::
  (nat_lit 39, Obj.mk (Value.type "tuple") none (Data.seq #[]) #[]) ::
  (nat_lit 41, Obj.mk (Value.type "code") none (Data.fields #[Value.str (Str.ofString "time_after") 217, Value.str (Str.ofString "time_after") 218, Value.str (Str.ofString "/claim/cut.py") 219, Value.int 6 0, Value.int 2 0, Value.int 0 0, Value.int 0 0, Value.int 3 0, Value.ref 36, Value.bool true, Value.int 181 0, Value.ref 37, Value.none, Value.ref 38, Value.ref 39, Value.ref 40, Value.int 222 0, Value.int 6 0, Value.str (Str.ofString "/claim/cut.py") 223]) #[]) ::
  (nat_lit 42, Obj.mk (Value.type "function") none (Data.func (FuncData.mk (Str.ofString "time_after") (Str.ofString "time_after") a1 (FuncBody.stmts b1) s1 3 [] Value.none Value.none Value.none (Value.str (Str.ofString "adacore.clock") 187) none (Value.ref 41) Value.none 0)) #[]) ::
  (nat_lit 43, Obj.mk (Value.type "tuple") none (Data.seq #[]) #[]) ::
  (nat_lit 45, Obj.mk (Value.type "tuple") none (Data.seq #[Value.str (Str.ofString "times") 228, Value.str (Str.ofString "least") 229, Value.str (Str.ofString "time") 230]) #[]) ::
  (nat_lit 46, Obj.mk (Value.type "tuple") none (Data.seq #[]) #[]) ::
  (nat_lit 48, Obj.mk (Value.type "code") none (Data.fields #[Value.str (Str.ofString "next_time") 225, Value.str (Str.ofString "next_time") 226, Value.str (Str.ofString "/claim/cut.py") 227, Value.int 8 0, Value.int 1 0, Value.int 0 0, Value.int 0 0, Value.int 3 0, Value.ref 43, Value.bool true, Value.int 181 0, Value.ref 44, Value.none, Value.ref 45, Value.ref 46, Value.ref 47, Value.int 231 0, Value.int 8 0, Value.str (Str.ofString "/claim/cut.py") 232]) #[]) ::
  (nat_lit 49, Obj.mk (Value.type "function") none (Data.func (FuncData.mk (Str.ofString "next_time") (Str.ofString "next_time") a2 (FuncBody.stmts b2) s2 3 [] Value.none Value.none Value.none (Value.str (Str.ofString "adacore.clock") 187) none (Value.ref 48) Value.none 0)) #[]) ::
  (nat_lit 50, Obj.mk (Value.type "tuple") none (Data.seq #[]) #[]) ::
  (nat_lit 52, Obj.mk (Value.type "tuple") none (Data.seq #[Value.str (Str.ofString "clock") 237, Value.str (Str.ofString "time") 238]) #[]) ::
  (nat_lit 53, Obj.mk (Value.type "tuple") none (Data.seq #[]) #[]) ::
  (nat_lit 55, Obj.mk (Value.type "code") none (Data.fields #[Value.str (Str.ofString "move_clock") 234, Value.str (Str.ofString "move_clock") 235, Value.str (Str.ofString "/claim/cut.py") 236, Value.int 14 0, Value.int 2 0, Value.int 0 0, Value.int 0 0, Value.int 3 0, Value.ref 50, Value.bool true, Value.int 181 0, Value.ref 51, Value.none, Value.ref 52, Value.ref 53, Value.ref 54, Value.int 239 0, Value.int 14 0, Value.str (Str.ofString "/claim/cut.py") 240]) #[]) ::
  (nat_lit 56, Obj.mk (Value.type "function") none (Data.func (FuncData.mk (Str.ofString "move_clock") (Str.ofString "move_clock") a3 (FuncBody.stmts b3) s3 3 [] Value.none Value.none Value.none (Value.str (Str.ofString "adacore.clock") 187) none (Value.ref 55) Value.none 0)) #[]) ::
  (nat_lit 57, Obj.mk (Value.type "tuple") none (Data.seq #[]) #[]) ::
  (nat_lit 59, Obj.mk (Value.type "tuple") none (Data.seq #[Value.str (Str.ofString "clock") 245, Value.str (Str.ofString "time") 246]) #[]) ::
  (nat_lit 60, Obj.mk (Value.type "tuple") none (Data.seq #[]) #[]) ::
  (nat_lit 62, Obj.mk (Value.type "code") none (Data.fields #[Value.str (Str.ofString "is_due") 242, Value.str (Str.ofString "is_due") 243, Value.str (Str.ofString "/claim/cut.py") 244, Value.int 16 0, Value.int 2 0, Value.int 0 0, Value.int 0 0, Value.int 3 0, Value.ref 57, Value.bool true, Value.int 181 0, Value.ref 58, Value.none, Value.ref 59, Value.ref 60, Value.ref 61, Value.int 247 0, Value.int 16 0, Value.str (Str.ofString "/claim/cut.py") 248]) #[]) ::
  (nat_lit 63, Obj.mk (Value.type "function") none (Data.func (FuncData.mk (Str.ofString "is_due") (Str.ofString "is_due") a4 (FuncBody.stmts b4) s4 3 [] Value.none Value.none Value.none (Value.str (Str.ofString "adacore.clock") 187) none (Value.ref 62) Value.none 0)) #[]) ::
  (nat_lit 64, Obj.mk (Value.type "tuple") none (Data.seq #[]) #[]) ::
  (nat_lit 66, Obj.mk (Value.type "tuple") none (Data.seq #[Value.str (Str.ofString "alternatives") 253, Value.str (Str.ofString "best") 254, Value.str (Str.ofString "index") 255, Value.str (Str.ofString "kind") 256, Value.str (Str.ofString "data") 257]) #[]) ::
  (nat_lit 67, Obj.mk (Value.type "tuple") none (Data.seq #[]) #[]) ::
  (nat_lit 69, Obj.mk (Value.type "code") none (Data.fields #[Value.str (Str.ofString "least_wait") 250, Value.str (Str.ofString "least_wait") 251, Value.str (Str.ofString "/claim/cut.py") 252, Value.int 18 0, Value.int 1 0, Value.int 0 0, Value.int 0 0, Value.int 3 0, Value.ref 64, Value.bool true, Value.int 181 0, Value.ref 65, Value.none, Value.ref 66, Value.ref 67, Value.ref 68, Value.int 258 0, Value.int 18 0, Value.str (Str.ofString "/claim/cut.py") 259]) #[]) ::
  (nat_lit 70, Obj.mk (Value.type "function") none (Data.func (FuncData.mk (Str.ofString "least_wait") (Str.ofString "least_wait") a5 (FuncBody.stmts b5) s5 3 [] Value.none Value.none Value.none (Value.str (Str.ofString "adacore.clock") 187) none (Value.ref 69) Value.none 0)) #[]) ::
  (nat_lit 78, Obj.mk (Value.type "tuple") none (Data.seq #[Value.int 32 275, Value.int 1000000 278, Value.int 50 279, Value.int 10000 282, Value.int 100000 285, Value.int 50 286]) #[]) ::
  (nat_lit 79, Obj.mk (Value.type "tuple") none (Data.seq #[]) #[]) ::
  (nat_lit 81, Obj.mk (Value.type "tuple") none (Data.seq #[Value.str (Str.ofString "self") 290, Value.str (Str.ofString "width") 291, Value.str (Str.ofString "steps") 292, Value.str (Str.ofString "depth") 293, Value.str (Str.ofString "members") 294, Value.str (Str.ofString "text") 295, Value.str (Str.ofString "tasks") 296]) #[]) ::
  (nat_lit 82, Obj.mk (Value.type "tuple") none (Data.seq #[]) #[]) ::
  (nat_lit 84, Obj.mk (Value.type "code") none (Data.fields #[Value.str (Str.ofString "__init__") 287, Value.str (Str.ofString "Limits.__init__") 288, Value.str (Str.ofString "/claim/cut.py") 289, Value.int 27 0, Value.int 7 0, Value.int 0 0, Value.int 0 0, Value.int 3 0, Value.ref 79, Value.bool true, Value.int 181 0, Value.ref 80, Value.none, Value.ref 81, Value.ref 82, Value.ref 83, Value.int 297 0, Value.int 27 0, Value.str (Str.ofString "/claim/cut.py") 298]) #[]) ::
  (nat_lit 85, Obj.mk (Value.type "function") none (Data.func (FuncData.mk (Str.ofString "__init__") (Str.ofString "Limits.__init__") a6 (FuncBody.stmts b6) s6 3 [] (Value.ref 78) Value.none Value.none (Value.str (Str.ofString "adacore.limits") 261) none (Value.ref 84) Value.none 0)) #[]) ::
  (nat_lit 86, Obj.mk (Value.type "tuple") none (Data.seq #[Value.str (Str.ofString "depth") 300, Value.str (Str.ofString "members") 301, Value.str (Str.ofString "steps") 302, Value.str (Str.ofString "tasks") 303, Value.str (Str.ofString "text") 304, Value.str (Str.ofString "width") 305]) #[]) ::
  (nat_lit 87, Obj.mk (Value.type "dict") none (Data.dict #[DictEntry.mk (PyData.keyHash P (Str.ofString "__module__")) (Value.str (Str.ofString "__module__") 270) (Value.str (Str.ofString "adacore.limits") 261), DictEntry.mk (PyData.keyHash P (Str.ofString "__firstlineno__")) (Value.str (Str.ofString "__firstlineno__") 274) (Value.int 25 273), DictEntry.mk (PyData.keyHash P (Str.ofString "__init__")) (Value.str (Str.ofString "__init__") 299) (Value.ref 85), DictEntry.mk (PyData.keyHash P (Str.ofString "__static_attributes__")) (Value.str (Str.ofString "__static_attributes__") 306) (Value.ref 86), DictEntry.mk (PyData.keyHash P (Str.ofString "__dict__")) (Value.str (Str.ofString "__dict__") 308) (Value.ref 89), DictEntry.mk (PyData.keyHash P (Str.ofString "__weakref__")) (Value.str (Str.ofString "__weakref__") 310) (Value.ref 90), DictEntry.mk (PyData.keyHash P (Str.ofString "__doc__")) (Value.str (Str.ofString "__doc__") 311) Value.none] 4) #[]) ::
  (nat_lit 88, Obj.mk (Value.type "type") none (Data.cls (ClassData.mk (Str.ofString "Limits") [Value.type "object"] [Value.ref 88, Value.type "object"] 87 (Str.ofString "Limits") true [] [] false none false)) #[none, none, some (Value.str (Str.ofString "Limits") 263), some (Value.str (Str.ofString "Limits") 271), some (Value.builtin "object.__new__"), some (Value.bool true)]) ::
  (nat_lit 89, Obj.mk (Value.type "getset_descriptor") none (Data.fields #[Value.str (Str.ofString "__dict__") 307, Value.ref 88, Value.builtin "function.__dict__", Value.builtin "function.__dict__#set"]) #[]) ::
  (nat_lit 90, Obj.mk (Value.type "getset_descriptor") none (Data.fields #[Value.str (Str.ofString "__weakref__") 309, Value.ref 88, Value.builtin "ExceptionGroup.__weakref__", Value.none]) #[]) ::
  (nat_lit 93, Obj.mk (Value.type "tuple") none (Data.seq #[]) #[]) ::
  (nat_lit 96, Obj.mk (Value.type "code") none (Data.fields #[Value.str (Str.ofString "leave_queue") 318, Value.str (Str.ofString "leave_queue") 319, Value.str (Str.ofString "/claim/cut.py") 320, Value.int 36 0, Value.int 2 0, Value.int 0 0, Value.int 0 0, Value.int 3 0, Value.ref 93, Value.bool true, Value.int 181 0, Value.ref 94, Value.none, Value.none, Value.none, Value.ref 95, Value.int 321 0, Value.int 36 0, Value.str (Str.ofString "/claim/cut.py") 322]) #[]) ::
  (nat_lit 97, Obj.mk (Value.type "function") none (Data.func (FuncData.mk (Str.ofString "leave_queue") (Str.ofString "leave_queue") a7 (FuncBody.stmts b7) s7 3 [] Value.none Value.none Value.none (Value.str (Str.ofString "adacore.entryqueues") 314) none (Value.ref 96) Value.none 0)) #[]) ::
  (nat_lit 98, Obj.mk (Value.type "tuple") none (Data.seq #[]) #[]) ::
  (nat_lit 101, Obj.mk (Value.type "code") none (Data.fields #[Value.str (Str.ofString "drain_queues") 324, Value.str (Str.ofString "drain_queues") 325, Value.str (Str.ofString "/claim/cut.py") 326, Value.int 38 0, Value.int 1 0, Value.int 0 0, Value.int 0 0, Value.int 3 0, Value.ref 98, Value.bool true, Value.int 181 0, Value.ref 99, Value.none, Value.none, Value.none, Value.ref 100, Value.int 327 0, Value.int 38 0, Value.str (Str.ofString "/claim/cut.py") 328]) #[]) ::
  (nat_lit 102, Obj.mk (Value.type "function") none (Data.func (FuncData.mk (Str.ofString "drain_queues") (Str.ofString "drain_queues") a8 (FuncBody.stmts b8) s8 3 [] Value.none Value.none Value.none (Value.str (Str.ofString "adacore.entryqueues") 314) none (Value.ref 101) Value.none 0)) #[]) ::
  (nat_lit 103, Obj.mk (Value.type "tuple") none (Data.seq #[Value.type "Exception"]) #[]) ::
  (nat_lit 110, Obj.mk (Value.type "tuple") none (Data.seq #[]) #[]) ::
  (nat_lit 112, Obj.mk (Value.type "tuple") none (Data.seq #[Value.str (Str.ofString "self") 347, Value.str (Str.ofString "text") 348]) #[]) ::
  (nat_lit 113, Obj.mk (Value.type "tuple") none (Data.seq #[]) #[]) ::
  (nat_lit 115, Obj.mk (Value.type "code") none (Data.fields #[Value.str (Str.ofString "__init__") 344, Value.str (Str.ofString "AdaError.__init__") 345, Value.str (Str.ofString "/claim/cut.py") 346, Value.int 48 0, Value.int 2 0, Value.int 0 0, Value.int 0 0, Value.int 3 0, Value.ref 110, Value.bool true, Value.int 181 0, Value.ref 111, Value.none, Value.ref 112, Value.ref 113, Value.ref 114, Value.int 349 0, Value.int 48 0, Value.str (Str.ofString "/claim/cut.py") 350]) #[]) ::
  (nat_lit 116, Obj.mk (Value.type "function") none (Data.func (FuncData.mk (Str.ofString "__init__") (Str.ofString "AdaError.__init__") a9 (FuncBody.stmts b9) s9 3 [] Value.none Value.none Value.none (Value.str (Str.ofString "adacore.errors") 330) none (Value.ref 115) Value.none 0)) #[]) ::
  (nat_lit 117, Obj.mk (Value.type "tuple") none (Data.seq #[Value.str (Str.ofString "text") 352]) #[]) ::
  (nat_lit 118, Obj.mk (Value.type "dict") none (Data.dict #[DictEntry.mk (PyData.keyHash P (Str.ofString "__module__")) (Value.str (Str.ofString "__module__") 339) (Value.str (Str.ofString "adacore.errors") 330), DictEntry.mk (PyData.keyHash P (Str.ofString "__firstlineno__")) (Value.str (Str.ofString "__firstlineno__") 343) (Value.int 46 342), DictEntry.mk (PyData.keyHash P (Str.ofString "__init__")) (Value.str (Str.ofString "__init__") 351) (Value.ref 116), DictEntry.mk (PyData.keyHash P (Str.ofString "__static_attributes__")) (Value.str (Str.ofString "__static_attributes__") 353) (Value.ref 117), DictEntry.mk (PyData.keyHash P (Str.ofString "__weakref__")) (Value.str (Str.ofString "__weakref__") 355) (Value.ref 120), DictEntry.mk (PyData.keyHash P (Str.ofString "__doc__")) (Value.str (Str.ofString "__doc__") 356) Value.none] 3) #[]) ::
  (nat_lit 119, Obj.mk (Value.type "type") none (Data.cls (ClassData.mk (Str.ofString "AdaError") [Value.type "Exception"] [Value.ref 119, Value.type "Exception", Value.type "BaseException", Value.type "object"] 118 (Str.ofString "AdaError") true [] [Value.ref 139, Value.ref 158] false none false)) #[some (Value.ref 103), none, some (Value.str (Str.ofString "AdaError") 332), some (Value.str (Str.ofString "AdaError") 340), some (Value.builtin "Exception.__new__"), some (Value.bool true)]) ::
  (nat_lit 120, Obj.mk (Value.type "getset_descriptor") none (Data.fields #[Value.str (Str.ofString "__weakref__") 354, Value.ref 119, Value.builtin "ExceptionGroup.__weakref__", Value.none]) #[]) ::
  (nat_lit 123, Obj.mk (Value.type "tuple") none (Data.seq #[Value.ref 119]) #[]) ::
  (nat_lit 130, Obj.mk (Value.type "tuple") none (Data.seq #[]) #[]) ::
  (nat_lit 132, Obj.mk (Value.type "tuple") none (Data.seq #[Value.str (Str.ofString "self") 376, Value.str (Str.ofString "name") 377, Value.str (Str.ofString "line") 378, Value.str (Str.ofString "text") 379]) #[]) ::
  (nat_lit 133, Obj.mk (Value.type "tuple") none (Data.seq #[]) #[]) ::
  (nat_lit 135, Obj.mk (Value.type "code") none (Data.fields #[Value.str (Str.ofString "__init__") 373, Value.str (Str.ofString "AdaRaise.__init__") 374, Value.str (Str.ofString "/claim/cut.py") 375, Value.int 53 0, Value.int 4 0, Value.int 0 0, Value.int 0 0, Value.int 3 0, Value.ref 130, Value.bool true, Value.int 181 0, Value.ref 131, Value.none, Value.ref 132, Value.ref 133, Value.ref 134, Value.int 380 0, Value.int 53 0, Value.str (Str.ofString "/claim/cut.py") 381]) #[]) ::
  (nat_lit 136, Obj.mk (Value.type "function") none (Data.func (FuncData.mk (Str.ofString "__init__") (Str.ofString "AdaRaise.__init__") a10 (FuncBody.stmts b10) s10 3 [] Value.none Value.none Value.none (Value.str (Str.ofString "adacore.errors") 330) none (Value.ref 135) Value.none 0)) #[]) ::
  (nat_lit 137, Obj.mk (Value.type "tuple") none (Data.seq #[Value.str (Str.ofString "line") 383, Value.str (Str.ofString "name") 384, Value.str (Str.ofString "word") 385]) #[]) ::
  (nat_lit 138, Obj.mk (Value.type "dict") none (Data.dict #[DictEntry.mk (PyData.keyHash P (Str.ofString "__module__")) (Value.str (Str.ofString "__module__") 368) (Value.str (Str.ofString "adacore.errors") 330), DictEntry.mk (PyData.keyHash P (Str.ofString "__firstlineno__")) (Value.str (Str.ofString "__firstlineno__") 372) (Value.int 51 371), DictEntry.mk (PyData.keyHash P (Str.ofString "__init__")) (Value.str (Str.ofString "__init__") 382) (Value.ref 136), DictEntry.mk (PyData.keyHash P (Str.ofString "__static_attributes__")) (Value.str (Str.ofString "__static_attributes__") 386) (Value.ref 137), DictEntry.mk (PyData.keyHash P (Str.ofString "__doc__")) (Value.str (Str.ofString "__doc__") 387) Value.none] 2) #[]) ::
  (nat_lit 139, Obj.mk (Value.type "type") none (Data.cls (ClassData.mk (Str.ofString "AdaRaise") [Value.ref 119] [Value.ref 139, Value.ref 119, Value.type "Exception", Value.type "BaseException", Value.type "object"] 138 (Str.ofString "AdaRaise") true [] [] false none false)) #[some (Value.ref 123), none, some (Value.str (Str.ofString "AdaRaise") 361), some (Value.str (Str.ofString "AdaRaise") 369), some (Value.builtin "Exception.__new__"), some (Value.bool true)]) ::
  (nat_lit 142, Obj.mk (Value.type "tuple") none (Data.seq #[Value.ref 119]) #[]) ::
  (nat_lit 149, Obj.mk (Value.type "tuple") none (Data.seq #[]) #[]) ::
  (nat_lit 151, Obj.mk (Value.type "tuple") none (Data.seq #[Value.str (Str.ofString "self") 405, Value.str (Str.ofString "tasks") 406]) #[]) ::
  (nat_lit 152, Obj.mk (Value.type "tuple") none (Data.seq #[]) #[]) ::
  (nat_lit 154, Obj.mk (Value.type "code") none (Data.fields #[Value.str (Str.ofString "__init__") 402, Value.str (Str.ofString "Deadlock.__init__") 403, Value.str (Str.ofString "/claim/cut.py") 404, Value.int 60 0, Value.int 2 0, Value.int 0 0, Value.int 0 0, Value.int 3 0, Value.ref 149, Value.bool true, Value.int 181 0, Value.ref 150, Value.none, Value.ref 151, Value.ref 152, Value.ref 153, Value.int 407 0, Value.int 60 0, Value.str (Str.ofString "/claim/cut.py") 408]) #[]) ::
  (nat_lit 155, Obj.mk (Value.type "function") none (Data.func (FuncData.mk (Str.ofString "__init__") (Str.ofString "Deadlock.__init__") a11 (FuncBody.stmts b11) s11 3 [] Value.none Value.none Value.none (Value.str (Str.ofString "adacore.errors") 330) none (Value.ref 154) Value.none 0)) #[]) ::
  (nat_lit 156, Obj.mk (Value.type "tuple") none (Data.seq #[Value.str (Str.ofString "tasks") 410]) #[]) ::
  (nat_lit 157, Obj.mk (Value.type "dict") none (Data.dict #[DictEntry.mk (PyData.keyHash P (Str.ofString "__module__")) (Value.str (Str.ofString "__module__") 397) (Value.str (Str.ofString "adacore.errors") 330), DictEntry.mk (PyData.keyHash P (Str.ofString "__firstlineno__")) (Value.str (Str.ofString "__firstlineno__") 401) (Value.int 58 400), DictEntry.mk (PyData.keyHash P (Str.ofString "__init__")) (Value.str (Str.ofString "__init__") 409) (Value.ref 155), DictEntry.mk (PyData.keyHash P (Str.ofString "__static_attributes__")) (Value.str (Str.ofString "__static_attributes__") 411) (Value.ref 156), DictEntry.mk (PyData.keyHash P (Str.ofString "__doc__")) (Value.str (Str.ofString "__doc__") 412) Value.none] 2) #[]) ::
  (nat_lit 158, Obj.mk (Value.type "type") none (Data.cls (ClassData.mk (Str.ofString "Deadlock") [Value.ref 119] [Value.ref 158, Value.ref 119, Value.type "Exception", Value.type "BaseException", Value.type "object"] 157 (Str.ofString "Deadlock") true [] [] false none false)) #[some (Value.ref 142), none, some (Value.str (Str.ofString "Deadlock") 390), some (Value.str (Str.ofString "Deadlock") 398), some (Value.builtin "Exception.__new__"), some (Value.bool true)]) ::
  (nat_lit 168, Obj.mk (Value.type "tuple") none (Data.seq #[]) #[]) ::
  (nat_lit 170, Obj.mk (Value.type "tuple") none (Data.seq #[Value.str (Str.ofString "self") 454, Value.str (Str.ofString "number") 455, Value.str (Str.ofString "name") 456, Value.str (Str.ofString "master") 457]) #[]) ::
  (nat_lit 171, Obj.mk (Value.type "tuple") none (Data.seq #[]) #[]) ::
  (nat_lit 173, Obj.mk (Value.type "code") none (Data.fields #[Value.str (Str.ofString "__init__") 451, Value.str (Str.ofString "TaskThing.__init__") 452, Value.str (Str.ofString "/claim/cut.py") 453, Value.int 77 0, Value.int 4 0, Value.int 0 0, Value.int 0 0, Value.int 3 0, Value.ref 168, Value.bool true, Value.int 181 0, Value.ref 169, Value.none, Value.ref 170, Value.ref 171, Value.ref 172, Value.int 458 0, Value.int 77 0, Value.str (Str.ofString "/claim/cut.py") 459]) #[]) ::
  (nat_lit 174, Obj.mk (Value.type "function") none (Data.func (FuncData.mk (Str.ofString "__init__") (Str.ofString "TaskThing.__init__") a12 (FuncBody.stmts b12) s12 3 [] Value.none Value.none Value.none (Value.str (Str.ofString "adacore.rendezvous") 415) none (Value.ref 173) Value.none 0)) #[]) ::
  (nat_lit 175, Obj.mk (Value.type "tuple") none (Data.seq (List.toArray (Value.str (Str.ofString "activator") 461 :: Value.str (Str.ofString "answer") 462 :: Value.str (Str.ofString "bases") 463 :: Value.str (Str.ofString "call") 464 :: Value.str (Str.ofString "caught") 465 :: Value.str (Str.ofString "frame") 466 :: Value.str (Str.ofString "has_failed") 467 :: Value.str (Str.ofString "inside") 468 :: Value.str (Str.ofString "is_abnormal") 469 :: Value.str (Str.ofString "late") 470 :: Value.str (Str.ofString "leaving") 471 :: Value.str (Str.ofString "line") 472 :: Value.str (Str.ofString "master") 473 :: Value.str (Str.ofString "masters") 474 :: Value.str (Str.ofString "name") 475 :: Value.str (Str.ofString "number") 476 :: Value.str (Str.ofString "open") 477 :: Value.str (Str.ofString "pending") 478 :: Value.str (Str.ofString "queues") 479 :: Value.str (Str.ofString "raised") 480 :: Value.str (Str.ofString "result") 481 :: Value.str (Str.ofString "resume") 482 :: Value.str (Str.ofString "serving") 483 :: Value.str (Str.ofString "stack") 484 :: Value.str (Str.ofString "state") 485 :: Value.str (Str.ofString "wake") 486 :: []))) #[]) ::
  (nat_lit 176, Obj.mk (Value.type "dict") none (Data.dict #[DictEntry.mk (PyData.keyHash P (Str.ofString "__module__")) (Value.str (Str.ofString "__module__") 446) (Value.str (Str.ofString "adacore.rendezvous") 415), DictEntry.mk (PyData.keyHash P (Str.ofString "__firstlineno__")) (Value.str (Str.ofString "__firstlineno__") 450) (Value.int 75 449), DictEntry.mk (PyData.keyHash P (Str.ofString "__init__")) (Value.str (Str.ofString "__init__") 460) (Value.ref 174), DictEntry.mk (PyData.keyHash P (Str.ofString "__static_attributes__")) (Value.str (Str.ofString "__static_attributes__") 487) (Value.ref 175), DictEntry.mk (PyData.keyHash P (Str.ofString "__dict__")) (Value.str (Str.ofString "__dict__") 489) (Value.ref 178), DictEntry.mk (PyData.keyHash P (Str.ofString "__weakref__")) (Value.str (Str.ofString "__weakref__") 491) (Value.ref 179), DictEntry.mk (PyData.keyHash P (Str.ofString "__doc__")) (Value.str (Str.ofString "__doc__") 492) Value.none] 4) #[]) ::
  (nat_lit 177, Obj.mk (Value.type "type") none (Data.cls (ClassData.mk (Str.ofString "TaskThing") [Value.type "object"] [Value.ref 177, Value.type "object"] 176 (Str.ofString "TaskThing") true [] [] false none false)) #[none, none, some (Value.str (Str.ofString "TaskThing") 439), some (Value.str (Str.ofString "TaskThing") 447), some (Value.builtin "object.__new__"), some (Value.bool true)]) ::
  (nat_lit 178, Obj.mk (Value.type "getset_descriptor") none (Data.fields #[Value.str (Str.ofString "__dict__") 488, Value.ref 177, Value.builtin "function.__dict__", Value.builtin "function.__dict__#set"]) #[]) ::
  (nat_lit 179, Obj.mk (Value.type "getset_descriptor") none (Data.fields #[Value.str (Str.ofString "__weakref__") 490, Value.ref 177, Value.builtin "ExceptionGroup.__weakref__", Value.none]) #[]) ::
  (nat_lit 182, Obj.mk (Value.type "tuple") none (Data.seq #[]) #[]) ::
  (nat_lit 184, Obj.mk (Value.type "tuple") none (Data.seq #[Value.str (Str.ofString "task") 498, Value.str (Str.ofString "answer") 499, Value.str (Str.ofString "raised") 500]) #[]) ::
  (nat_lit 185, Obj.mk (Value.type "tuple") none (Data.seq #[]) #[]) ::
  (nat_lit 187, Obj.mk (Value.type "code") none (Data.fields #[Value.str (Str.ofString "wake_up") 495, Value.str (Str.ofString "wake_up") 496, Value.str (Str.ofString "/claim/cut.py") 497, Value.int 104 0, Value.int 3 0, Value.int 0 0, Value.int 0 0, Value.int 3 0, Value.ref 182, Value.bool true, Value.int 181 0, Value.ref 183, Value.none, Value.ref 184, Value.ref 185, Value.ref 186, Value.int 501 0, Value.int 104 0, Value.str (Str.ofString "/claim/cut.py") 502]) #[]) ::
  (nat_lit 188, Obj.mk (Value.type "function") none (Data.func (FuncData.mk (Str.ofString "wake_up") (Str.ofString "wake_up") a13 (FuncBody.stmts b13) s13 3 [] Value.none Value.none Value.none (Value.str (Str.ofString "adacore.rendezvous") 415) none (Value.ref 187) Value.none 0)) #[]) ::
  (nat_lit 189, Obj.mk (Value.type "tuple") none (Data.seq #[]) #[]) ::
  (nat_lit 191, Obj.mk (Value.type "tuple") none (Data.seq #[Value.str (Str.ofString "call") 507, Value.str (Str.ofString "raised") 508]) #[]) ::
  (nat_lit 192, Obj.mk (Value.type "tuple") none (Data.seq #[]) #[]) ::
  (nat_lit 194, Obj.mk (Value.type "code") none (Data.fields #[Value.str (Str.ofString "finish_call") 504, Value.str (Str.ofString "finish_call") 505, Value.str (Str.ofString "/claim/cut.py") 506, Value.int 111 0, Value.int 2 0, Value.int 0 0, Value.int 0 0, Value.int 3 0, Value.ref 189, Value.bool true, Value.int 181 0, Value.ref 190, Value.none, Value.ref 191, Value.ref 192, Value.ref 193, Value.int 509 0, Value.int 111 0, Value.str (Str.ofString "/claim/cut.py") 510]) #[]) ::
  (nat_lit 195, Obj.mk (Value.type "function") none (Data.func (FuncData.mk (Str.ofString "finish_call") (Str.ofString "finish_call") a14 (FuncBody.stmts b14) s14 3 [] Value.none Value.none Value.none (Value.str (Str.ofString "adacore.rendezvous") 415) none (Value.ref 194) Value.none 0)) #[]) ::
  (nat_lit 196, Obj.mk (Value.type "tuple") none (Data.seq #[]) #[]) ::
  (nat_lit 198, Obj.mk (Value.type "tuple") none (Data.seq #[Value.str (Str.ofString "call") 515]) #[]) ::
  (nat_lit 199, Obj.mk (Value.type "tuple") none (Data.seq #[]) #[]) ::
  (nat_lit 201, Obj.mk (Value.type "code") none (Data.fields #[Value.str (Str.ofString "cancel_call") 512, Value.str (Str.ofString "cancel_call") 513, Value.str (Str.ofString "/claim/cut.py") 514, Value.int 115 0, Value.int 1 0, Value.int 0 0, Value.int 0 0, Value.int 3 0, Value.ref 196, Value.bool true, Value.int 181 0, Value.ref 197, Value.none, Value.ref 198, Value.ref 199, Value.ref 200, Value.int 516 0, Value.int 115 0, Value.str (Str.ofString "/claim/cut.py") 517]) #[]) ::
  (nat_lit 202, Obj.mk (Value.type "function") none (Data.func (FuncData.mk (Str.ofString "cancel_call") (Str.ofString "cancel_call") a15 (FuncBody.stmts b15) s15 3 [] Value.none Value.none Value.none (Value.str (Str.ofString "adacore.rendezvous") 415) none (Value.ref 201) Value.none 0)) #[]) ::
  (nat_lit 203, Obj.mk (Value.type "tuple") none (Data.seq #[]) #[]) ::
  (nat_lit 205, Obj.mk (Value.type "tuple") none (Data.seq #[Value.str (Str.ofString "tasking") 522, Value.str (Str.ofString "task") 523, Value.str (Str.ofString "wait") 524]) #[]) ::
  (nat_lit 206, Obj.mk (Value.type "tuple") none (Data.seq #[]) #[]) ::
  (nat_lit 208, Obj.mk (Value.type "code") none (Data.fields #[Value.str (Str.ofString "delay_task") 519, Value.str (Str.ofString "delay_task") 520, Value.str (Str.ofString "/claim/cut.py") 521, Value.int 119 0, Value.int 3 0, Value.int 0 0, Value.int 0 0, Value.int 3 0, Value.ref 203, Value.bool true, Value.int 181 0, Value.ref 204, Value.none, Value.ref 205, Value.ref 206, Value.ref 207, Value.int 525 0, Value.int 119 0, Value.str (Str.ofString "/claim/cut.py") 526]) #[]) ::
  (nat_lit 209, Obj.mk (Value.type "function") none (Data.func (FuncData.mk (Str.ofString "delay_task") (Str.ofString "delay_task") a16 (FuncBody.stmts b16) s16 3 [] Value.none Value.none Value.none (Value.str (Str.ofString "adacore.rendezvous") 415) none (Value.ref 208) Value.none 0)) #[]) ::
  (nat_lit 210, Obj.mk (Value.type "tuple") none (Data.seq #[]) #[]) ::
  (nat_lit 212, Obj.mk (Value.type "tuple") none (Data.seq #[Value.str (Str.ofString "task") 531]) #[]) ::
  (nat_lit 213, Obj.mk (Value.type "tuple") none (Data.seq #[]) #[]) ::
  (nat_lit 215, Obj.mk (Value.type "code") none (Data.fields #[Value.str (Str.ofString "time_is_up") 528, Value.str (Str.ofString "time_is_up") 529, Value.str (Str.ofString "/claim/cut.py") 530, Value.int 125 0, Value.int 1 0, Value.int 0 0, Value.int 0 0, Value.int 3 0, Value.ref 210, Value.bool true, Value.int 181 0, Value.ref 211, Value.none, Value.ref 212, Value.ref 213, Value.ref 214, Value.int 532 0, Value.int 125 0, Value.str (Str.ofString "/claim/cut.py") 533]) #[]) ::
  (nat_lit 216, Obj.mk (Value.type "function") none (Data.func (FuncData.mk (Str.ofString "time_is_up") (Str.ofString "time_is_up") a17 (FuncBody.stmts b17) s17 3 [] Value.none Value.none Value.none (Value.str (Str.ofString "adacore.rendezvous") 415) none (Value.ref 215) Value.none 0)) #[]) ::
  (nat_lit 224, Obj.mk (Value.type "tuple") none (Data.seq #[]) #[]) ::
  (nat_lit 226, Obj.mk (Value.type "tuple") none (Data.seq #[Value.str (Str.ofString "self") 552, Value.str (Str.ofString "number") 553, Value.str (Str.ofString "owner") 554]) #[]) ::
  (nat_lit 227, Obj.mk (Value.type "tuple") none (Data.seq #[]) #[]) ::
  (nat_lit 229, Obj.mk (Value.type "code") none (Data.fields #[Value.str (Str.ofString "__init__") 549, Value.str (Str.ofString "Master.__init__") 550, Value.str (Str.ofString "/claim/cut.py") 551, Value.int 136 0, Value.int 3 0, Value.int 0 0, Value.int 0 0, Value.int 3 0, Value.ref 224, Value.bool true, Value.int 181 0, Value.ref 225, Value.none, Value.ref 226, Value.ref 227, Value.ref 228, Value.int 555 0, Value.int 136 0, Value.str (Str.ofString "/claim/cut.py") 556]) #[]) ::
  (nat_lit 230, Obj.mk (Value.type "function") none (Data.func (FuncData.mk (Str.ofString "__init__") (Str.ofString "Master.__init__") a18 (FuncBody.stmts b18) s18 3 [] Value.none Value.none Value.none (Value.str (Str.ofString "adacore.masters") 535) none (Value.ref 229) Value.none 0)) #[]) ::
  (nat_lit 231, Obj.mk (Value.type "tuple") none (Data.seq #[Value.str (Str.ofString "dependents") 558, Value.str (Str.ofString "is_ended") 559, Value.str (Str.ofString "number") 560, Value.str (Str.ofString "owner") 561]) #[]) ::
  (nat_lit 232, Obj.mk (Value.type "dict") none (Data.dict #[DictEntry.mk (PyData.keyHash P (Str.ofString "__module__")) (Value.str (Str.ofString "__module__") 544) (Value.str (Str.ofString "adacore.masters") 535), DictEntry.mk (PyData.keyHash P (Str.ofString "__firstlineno__")) (Value.str (Str.ofString "__firstlineno__") 548) (Value.int 134 547), DictEntry.mk (PyData.keyHash P (Str.ofString "__init__")) (Value.str (Str.ofString "__init__") 557) (Value.ref 230), DictEntry.mk (PyData.keyHash P (Str.ofString "__static_attributes__")) (Value.str (Str.ofString "__static_attributes__") 562) (Value.ref 231), DictEntry.mk (PyData.keyHash P (Str.ofString "__dict__")) (Value.str (Str.ofString "__dict__") 564) (Value.ref 234), DictEntry.mk (PyData.keyHash P (Str.ofString "__weakref__")) (Value.str (Str.ofString "__weakref__") 566) (Value.ref 235), DictEntry.mk (PyData.keyHash P (Str.ofString "__doc__")) (Value.str (Str.ofString "__doc__") 567) Value.none] 4) #[]) ::
  (nat_lit 233, Obj.mk (Value.type "type") none (Data.cls (ClassData.mk (Str.ofString "Master") [Value.type "object"] [Value.ref 233, Value.type "object"] 232 (Str.ofString "Master") true [] [] false none false)) #[none, none, some (Value.str (Str.ofString "Master") 537), some (Value.str (Str.ofString "Master") 545), some (Value.builtin "object.__new__"), some (Value.bool true)]) ::
  (nat_lit 234, Obj.mk (Value.type "getset_descriptor") none (Data.fields #[Value.str (Str.ofString "__dict__") 563, Value.ref 233, Value.builtin "function.__dict__", Value.builtin "function.__dict__#set"]) #[]) ::
  (nat_lit 235, Obj.mk (Value.type "getset_descriptor") none (Data.fields #[Value.str (Str.ofString "__weakref__") 565, Value.ref 233, Value.builtin "ExceptionGroup.__weakref__", Value.none]) #[]) ::
  (nat_lit 238, Obj.mk (Value.type "tuple") none (Data.seq #[]) #[]) ::
  (nat_lit 240, Obj.mk (Value.type "tuple") none (Data.seq #[Value.str (Str.ofString "tasking") 573, Value.str (Str.ofString "name") 574, Value.str (Str.ofString "master") 575, Value.str (Str.ofString "line") 576, Value.str (Str.ofString "task") 577]) #[]) ::
  (nat_lit 241, Obj.mk (Value.type "tuple") none (Data.seq #[]) #[]) ::
  (nat_lit 243, Obj.mk (Value.type "code") none (Data.fields #[Value.str (Str.ofString "make_task") 570, Value.str (Str.ofString "make_task") 571, Value.str (Str.ofString "/claim/cut.py") 572, Value.int 141 0, Value.int 4 0, Value.int 0 0, Value.int 0 0, Value.int 3 0, Value.ref 238, Value.bool true, Value.int 181 0, Value.ref 239, Value.none, Value.ref 240, Value.ref 241, Value.ref 242, Value.int 578 0, Value.int 141 0, Value.str (Str.ofString "/claim/cut.py") 579]) #[]) ::
  (nat_lit 244, Obj.mk (Value.type "function") none (Data.func (FuncData.mk (Str.ofString "make_task") (Str.ofString "make_task") a19 (FuncBody.stmts b19) s19 3 [] Value.none Value.none Value.none (Value.str (Str.ofString "adacore.masters") 535) none (Value.ref 243) Value.none 0)) #[]) ::
  (nat_lit 245, Obj.mk (Value.type "tuple") none (Data.seq #[]) #[]) ::
  (nat_lit 247, Obj.mk (Value.type "tuple") none (Data.seq #[Value.str (Str.ofString "activator") 584, Value.str (Str.ofString "fresh") 585, Value.str (Str.ofString "task") 586]) #[]) ::
  (nat_lit 248, Obj.mk (Value.type "tuple") none (Data.seq #[]) #[]) ::
  (nat_lit 250, Obj.mk (Value.type "code") none (Data.fields #[Value.str (Str.ofString "activate_tasks") 581, Value.str (Str.ofString "activate_tasks") 582, Value.str (Str.ofString "/claim/cut.py") 583, Value.int 148 0, Value.int 2 0, Value.int 0 0, Value.int 0 0, Value.int 3 0, Value.ref 245, Value.bool true, Value.int 181 0, Value.ref 246, Value.none, Value.ref 247, Value.ref 248, Value.ref 249, Value.int 587 0, Value.int 148 0, Value.str (Str.ofString "/claim/cut.py") 588]) #[]) ::
  (nat_lit 251, Obj.mk (Value.type "function") none (Data.func (FuncData.mk (Str.ofString "activate_tasks") (Str.ofString "activate_tasks") a20 (FuncBody.stmts b20) s20 3 [] Value.none Value.none Value.none (Value.str (Str.ofString "adacore.masters") 535) none (Value.ref 250) Value.none 0)) #[]) ::
  (nat_lit 252, Obj.mk (Value.type "tuple") none (Data.seq #[]) #[]) ::
  (nat_lit 254, Obj.mk (Value.type "tuple") none (Data.seq #[Value.str (Str.ofString "task") 593, Value.str (Str.ofString "has_failed") 594, Value.str (Str.ofString "activator") 595, Value.str (Str.ofString "raised") 596]) #[]) ::
  (nat_lit 255, Obj.mk (Value.type "tuple") none (Data.seq #[]) #[]) ::
  (nat_lit 257, Obj.mk (Value.type "code") none (Data.fields #[Value.str (Str.ofString "end_activation") 590, Value.str (Str.ofString "end_activation") 591, Value.str (Str.ofString "/claim/cut.py") 592, Value.int 156 0, Value.int 2 0, Value.int 0 0, Value.int 0 0, Value.int 3 0, Value.ref 252, Value.bool true, Value.int 181 0, Value.ref 253, Value.none, Value.ref 254, Value.ref 255, Value.ref 256, Value.int 597 0, Value.int 156 0, Value.str (Str.ofString "/claim/cut.py") 598]) #[]) ::
  (nat_lit 258, Obj.mk (Value.type "function") none (Data.func (FuncData.mk (Str.ofString "end_activation") (Str.ofString "end_activation") a21 (FuncBody.stmts b21) s21 3 [] Value.none Value.none Value.none (Value.str (Str.ofString "adacore.masters") 535) none (Value.ref 257) Value.none 0)) #[]) ::
  (nat_lit 259, Obj.mk (Value.type "tuple") none (Data.seq #[]) #[]) ::
  (nat_lit 262, Obj.mk (Value.type "code") none (Data.fields #[Value.str (Str.ofString "are_done") 600, Value.str (Str.ofString "are_done") 601, Value.str (Str.ofString "/claim/cut.py") 602, Value.int 167 0, Value.int 1 0, Value.int 0 0, Value.int 0 0, Value.int 3 0, Value.ref 259, Value.bool true, Value.int 181 0, Value.ref 260, Value.none, Value.none, Value.none, Value.ref 261, Value.int 603 0, Value.int 167 0, Value.str (Str.ofString "/claim/cut.py") 604]) #[]) ::
  (nat_lit 263, Obj.mk (Value.type "function") none (Data.func (FuncData.mk (Str.ofString "are_done") (Str.ofString "are_done") a22 (FuncBody.stmts b22) s22 3 [] Value.none Value.none Value.none (Value.str (Str.ofString "adacore.masters") 535) none (Value.ref 262) Value.none 0)) #[]) ::
  (nat_lit 264, Obj.mk (Value.type "tuple") none (Data.seq #[]) #[]) ::
  (nat_lit 266, Obj.mk (Value.type "tuple") none (Data.seq #[Value.str (Str.ofString "task") 609, Value.str (Str.ofString "call") 610]) #[]) ::
  (nat_lit 267, Obj.mk (Value.type "tuple") none (Data.seq #[]) #[]) ::
  (nat_lit 269, Obj.mk (Value.type "code") none (Data.fields #[Value.str (Str.ofString "end_fresh") 606, Value.str (Str.ofString "end_fresh") 607, Value.str (Str.ofString "/claim/cut.py") 608, Value.int 169 0, Value.int 1 0, Value.int 0 0, Value.int 0 0, Value.int 3 0, Value.ref 264, Value.bool true, Value.int 181 0, Value.ref 265, Value.none, Value.ref 266, Value.ref 267, Value.ref 268, Value.int 611 0, Value.int 169 0, Value.str (Str.ofString "/claim/cut.py") 612]) #[]) ::
  (nat_lit 270, Obj.mk (Value.type "function") none (Data.func (FuncData.mk (Str.ofString "end_fresh") (Str.ofString "end_fresh") a23 (FuncBody.stmts b23) s23 3 [] Value.none Value.none Value.none (Value.str (Str.ofString "adacore.masters") 535) none (Value.ref 269) Value.none 0)) #[]) ::
  (nat_lit 271, Obj.mk (Value.type "tuple") none (Data.seq #[]) #[]) ::
  (nat_lit 273, Obj.mk (Value.type "tuple") none (Data.seq #[Value.str (Str.ofString "master") 617, Value.str (Str.ofString "task") 618]) #[]) ::
  (nat_lit 274, Obj.mk (Value.type "tuple") none (Data.seq #[]) #[]) ::
  (nat_lit 276, Obj.mk (Value.type "code") none (Data.fields #[Value.str (Str.ofString "drop_fresh") 614, Value.str (Str.ofString "drop_fresh") 615, Value.str (Str.ofString "/claim/cut.py") 616, Value.int 173 0, Value.int 1 0, Value.int 0 0, Value.int 0 0, Value.int 3 0, Value.ref 271, Value.bool true, Value.int 181 0, Value.ref 272, Value.none, Value.ref 273, Value.ref 274, Value.ref 275, Value.int 619 0, Value.int 173 0, Value.str (Str.ofString "/claim/cut.py") 620]) #[]) ::
  (nat_lit 277, Obj.mk (Value.type "function") none (Data.func (FuncData.mk (Str.ofString "drop_fresh") (Str.ofString "drop_fresh") a24 (FuncBody.stmts b24) s24 3 [] Value.none Value.none Value.none (Value.str (Str.ofString "adacore.masters") 535) none (Value.ref 276) Value.none 0)) #[]) ::
  (nat_lit 278, Obj.mk (Value.type "tuple") none (Data.seq #[]) #[]) ::
  (nat_lit 280, Obj.mk (Value.type "tuple") none (Data.seq #[Value.str (Str.ofString "task") 625, Value.str (Str.ofString "call") 626, Value.str (Str.ofString "master") 627]) #[]) ::
  (nat_lit 281, Obj.mk (Value.type "tuple") none (Data.seq #[]) #[]) ::
  (nat_lit 283, Obj.mk (Value.type "code") none (Data.fields #[Value.str (Str.ofString "complete_task") 622, Value.str (Str.ofString "complete_task") 623, Value.str (Str.ofString "/claim/cut.py") 624, Value.int 177 0, Value.int 1 0, Value.int 0 0, Value.int 0 0, Value.int 3 0, Value.ref 278, Value.bool true, Value.int 181 0, Value.ref 279, Value.none, Value.ref 280, Value.ref 281, Value.ref 282, Value.int 628 0, Value.int 177 0, Value.str (Str.ofString "/claim/cut.py") 629]) #[]) ::
  (nat_lit 284, Obj.mk (Value.type "function") none (Data.func (FuncData.mk (Str.ofString "complete_task") (Str.ofString "complete_task") a25 (FuncBody.stmts b25) s25 3 [] Value.none Value.none Value.none (Value.str (Str.ofString "adacore.masters") 535) none (Value.ref 283) Value.none 0)) #[]) ::
  (nat_lit 285, Obj.mk (Value.type "tuple") none (Data.seq #[]) #[]) ::
  (nat_lit 287, Obj.mk (Value.type "tuple") none (Data.seq #[Value.str (Str.ofString "task") 634]) #[]) ::
  (nat_lit 288, Obj.mk (Value.type "tuple") none (Data.seq #[]) #[]) ::
  (nat_lit 290, Obj.mk (Value.type "code") none (Data.fields #[Value.str (Str.ofString "is_held") 631, Value.str (Str.ofString "is_held") 632, Value.str (Str.ofString "/claim/cut.py") 633, Value.int 189 0, Value.int 1 0, Value.int 0 0, Value.int 0 0, Value.int 3 0, Value.ref 285, Value.bool true, Value.int 181 0, Value.ref 286, Value.none, Value.ref 287, Value.ref 288, Value.ref 289, Value.int 635 0, Value.int 189 0, Value.str (Str.ofString "/claim/cut.py") 636]) #[]) ::
  (nat_lit 291, Obj.mk (Value.type "function") none (Data.func (FuncData.mk (Str.ofString "is_held") (Str.ofString "is_held") a26 (FuncBody.stmts b26) s26 3 [] Value.none Value.none Value.none (Value.str (Str.ofString "adacore.masters") 535) none (Value.ref 290) Value.none 0)) #[]) ::
  (nat_lit 292, Obj.mk (Value.type "tuple") none (Data.seq #[]) #[]) ::
  (nat_lit 294, Obj.mk (Value.type "tuple") none (Data.seq #[Value.str (Str.ofString "task") 641]) #[]) ::
  (nat_lit 295, Obj.mk (Value.type "tuple") none (Data.seq #[]) #[]) ::
  (nat_lit 297, Obj.mk (Value.type "code") none (Data.fields #[Value.str (Str.ofString "end_abnormal") 638, Value.str (Str.ofString "end_abnormal") 639, Value.str (Str.ofString "/claim/cut.py") 640, Value.int 193 0, Value.int 1 0, Value.int 0 0, Value.int 0 0, Value.int 3 0, Value.ref 292, Value.bool true, Value.int 181 0, Value.ref 293, Value.none, Value.ref 294, Value.ref 295, Value.ref 296, Value.int 642 0, Value.int 193 0, Value.str (Str.ofString "/claim/cut.py") 643]) #[]) ::
  (nat_lit 298, Obj.mk (Value.type "function") none (Data.func (FuncData.mk (Str.ofString "end_abnormal") (Str.ofString "end_abnormal") a27 (FuncBody.stmts b27) s27 3 [] Value.none Value.none Value.none (Value.str (Str.ofString "adacore.masters") 535) none (Value.ref 297) Value.none 0)) #[]) ::
  (nat_lit 299, Obj.mk (Value.type "tuple") none (Data.seq #[]) #[]) ::
  (nat_lit 301, Obj.mk (Value.type "tuple") none (Data.seq #[Value.str (Str.ofString "tasking") 648, Value.str (Str.ofString "is_moved") 649, Value.str (Str.ofString "task") 650]) #[]) ::
  (nat_lit 302, Obj.mk (Value.type "tuple") none (Data.seq #[]) #[]) ::
  (nat_lit 304, Obj.mk (Value.type "code") none (Data.fields #[Value.str (Str.ofString "settle_abnormal") 645, Value.str (Str.ofString "settle_abnormal") 646, Value.str (Str.ofString "/claim/cut.py") 647, Value.int 200 0, Value.int 1 0, Value.int 0 0, Value.int 0 0, Value.int 3 0, Value.ref 299, Value.bool true, Value.int 181 0, Value.ref 300, Value.none, Value.ref 301, Value.ref 302, Value.ref 303, Value.int 651 0, Value.int 200 0, Value.str (Str.ofString "/claim/cut.py") 652]) #[]) ::
  (nat_lit 305, Obj.mk (Value.type "function") none (Data.func (FuncData.mk (Str.ofString "settle_abnormal") (Str.ofString "settle_abnormal") a28 (FuncBody.stmts b28) s28 3 [] Value.none Value.none Value.none (Value.str (Str.ofString "adacore.masters") 535) none (Value.ref 304) Value.none 0)) #[]) ::
  (nat_lit 306, Obj.mk (Value.type "tuple") none (Data.seq #[]) #[]) ::
  (nat_lit 309, Obj.mk (Value.type "code") none (Data.fields #[Value.str (Str.ofString "settle_ends") 654, Value.str (Str.ofString "settle_ends") 655, Value.str (Str.ofString "/claim/cut.py") 656, Value.int 207 0, Value.int 1 0, Value.int 0 0, Value.int 0 0, Value.int 3 0, Value.ref 306, Value.bool true, Value.int 181 0, Value.ref 307, Value.none, Value.none, Value.none, Value.ref 308, Value.int 657 0, Value.int 207 0, Value.str (Str.ofString "/claim/cut.py") 658]) #[]) ::
  (nat_lit 310, Obj.mk (Value.type "function") none (Data.func (FuncData.mk (Str.ofString "settle_ends") (Str.ofString "settle_ends") a29 (FuncBody.stmts b29) s29 3 [] Value.none Value.none Value.none (Value.str (Str.ofString "adacore.masters") 535) none (Value.ref 309) Value.none 0)) #[]) ::
  (nat_lit 311, Obj.mk (Value.type "tuple") none (Data.seq #[]) #[]) ::
  (nat_lit 314, Obj.mk (Value.type "code") none (Data.fields #[Value.str (Str.ofString "can_terminate") 660, Value.str (Str.ofString "can_terminate") 661, Value.str (Str.ofString "/claim/cut.py") 662, Value.int 218 0, Value.int 1 0, Value.int 0 0, Value.int 0 0, Value.int 3 0, Value.ref 311, Value.bool true, Value.int 181 0, Value.ref 312, Value.none, Value.none, Value.none, Value.ref 313, Value.int 663 0, Value.int 218 0, Value.str (Str.ofString "/claim/cut.py") 664]) #[]) ::
  (nat_lit 315, Obj.mk (Value.type "function") none (Data.func (FuncData.mk (Str.ofString "can_terminate") (Str.ofString "can_terminate") a30 (FuncBody.stmts b30) s30 3 [] Value.none Value.none Value.none (Value.str (Str.ofString "adacore.masters") 535) none (Value.ref 314) Value.none 0)) #[]) ::
  (nat_lit 316, Obj.mk (Value.type "tuple") none (Data.seq #[]) #[]) ::
  (nat_lit 318, Obj.mk (Value.type "tuple") none (Data.seq #[Value.str (Str.ofString "task") 669, Value.str (Str.ofString "master") 670, Value.str (Str.ofString "other") 671]) #[]) ::
  (nat_lit 319, Obj.mk (Value.type "tuple") none (Data.seq #[]) #[]) ::
  (nat_lit 321, Obj.mk (Value.type "code") none (Data.fields #[Value.str (Str.ofString "is_quiet") 666, Value.str (Str.ofString "is_quiet") 667, Value.str (Str.ofString "/claim/cut.py") 668, Value.int 220 0, Value.int 1 0, Value.int 0 0, Value.int 0 0, Value.int 3 0, Value.ref 316, Value.bool true, Value.int 181 0, Value.ref 317, Value.none, Value.ref 318, Value.ref 319, Value.ref 320, Value.int 672 0, Value.int 220 0, Value.str (Str.ofString "/claim/cut.py") 673]) #[]) ::
  (nat_lit 322, Obj.mk (Value.type "function") none (Data.func (FuncData.mk (Str.ofString "is_quiet") (Str.ofString "is_quiet") a31 (FuncBody.stmts b31) s31 3 [] Value.none Value.none Value.none (Value.str (Str.ofString "adacore.masters") 535) none (Value.ref 321) Value.none 0)) #[]) ::
  (nat_lit 323, Obj.mk (Value.type "tuple") none (Data.seq #[]) #[]) ::
  (nat_lit 326, Obj.mk (Value.type "code") none (Data.fields #[Value.str (Str.ofString "ended_masters") 675, Value.str (Str.ofString "ended_masters") 676, Value.str (Str.ofString "/claim/cut.py") 677, Value.int 230 0, Value.int 1 0, Value.int 0 0, Value.int 0 0, Value.int 3 0, Value.ref 323, Value.bool true, Value.int 181 0, Value.ref 324, Value.none, Value.none, Value.none, Value.ref 325, Value.int 678 0, Value.int 230 0, Value.str (Str.ofString "/claim/cut.py") 679]) #[]) ::
  (nat_lit 327, Obj.mk (Value.type "function") none (Data.func (FuncData.mk (Str.ofString "ended_masters") (Str.ofString "ended_masters") a32 (FuncBody.stmts b32) s32 3 [] Value.none Value.none Value.none (Value.str (Str.ofString "adacore.masters") 535) none (Value.ref 326) Value.none 0)) #[]) ::
  (nat_lit 328, Obj.mk (Value.type "tuple") none (Data.seq #[]) #[]) ::
  (nat_lit 330, Obj.mk (Value.type "tuple") none (Data.seq #[Value.str (Str.ofString "task") 684, Value.str (Str.ofString "master") 685, Value.str (Str.ofString "other") 686]) #[]) ::
  (nat_lit 331, Obj.mk (Value.type "tuple") none (Data.seq #[]) #[]) ::
  (nat_lit 333, Obj.mk (Value.type "code") none (Data.fields #[Value.str (Str.ofString "terminate_below") 681, Value.str (Str.ofString "terminate_below") 682, Value.str (Str.ofString "/claim/cut.py") 683, Value.int 235 0, Value.int 1 0, Value.int 0 0, Value.int 0 0, Value.int 3 0, Value.ref 328, Value.bool true, Value.int 181 0, Value.ref 329, Value.none, Value.ref 330, Value.ref 331, Value.ref 332, Value.int 687 0, Value.int 235 0, Value.str (Str.ofString "/claim/cut.py") 688]) #[]) ::
  (nat_lit 334, Obj.mk (Value.type "function") none (Data.func (FuncData.mk (Str.ofString "terminate_below") (Str.ofString "terminate_below") a33 (FuncBody.stmts b33) s33 3 [] Value.none Value.none Value.none (Value.str (Str.ofString "adacore.masters") 535) none (Value.ref 333) Value.none 0)) #[]) ::
  (nat_lit 335, Obj.mk (Value.type "tuple") none (Data.seq #[]) #[]) ::
  (nat_lit 338, Obj.mk (Value.type "code") none (Data.fields #[Value.str (Str.ofString "settle_terminates") 690, Value.str (Str.ofString "settle_terminates") 691, Value.str (Str.ofString "/claim/cut.py") 692, Value.int 241 0, Value.int 1 0, Value.int 0 0, Value.int 0 0, Value.int 3 0, Value.ref 335, Value.bool true, Value.int 181 0, Value.ref 336, Value.none, Value.none, Value.none, Value.ref 337, Value.int 693 0, Value.int 241 0, Value.str (Str.ofString "/claim/cut.py") 694]) #[]) ::
  (nat_lit 339, Obj.mk (Value.type "function") none (Data.func (FuncData.mk (Str.ofString "settle_terminates") (Str.ofString "settle_terminates") a34 (FuncBody.stmts b34) s34 3 [] Value.none Value.none Value.none (Value.str (Str.ofString "adacore.masters") 535) none (Value.ref 338) Value.none 0)) #[]) ::
  (nat_lit 340, Obj.mk (Value.type "tuple") none (Data.seq #[]) #[]) ::
  (nat_lit 342, Obj.mk (Value.type "tuple") none (Data.seq #[Value.str (Str.ofString "tasking") 699]) #[]) ::
  (nat_lit 343, Obj.mk (Value.type "tuple") none (Data.seq #[]) #[]) ::
  (nat_lit 345, Obj.mk (Value.type "code") none (Data.fields #[Value.str (Str.ofString "settle_tasks") 696, Value.str (Str.ofString "settle_tasks") 697, Value.str (Str.ofString "/claim/cut.py") 698, Value.int 251 0, Value.int 1 0, Value.int 0 0, Value.int 0 0, Value.int 3 0, Value.ref 340, Value.bool true, Value.int 181 0, Value.ref 341, Value.none, Value.ref 342, Value.ref 343, Value.ref 344, Value.int 700 0, Value.int 251 0, Value.str (Str.ofString "/claim/cut.py") 701]) #[]) ::
  (nat_lit 346, Obj.mk (Value.type "function") none (Data.func (FuncData.mk (Str.ofString "settle_tasks") (Str.ofString "settle_tasks") a35 (FuncBody.stmts b35) s35 3 [] Value.none Value.none Value.none (Value.str (Str.ofString "adacore.masters") 535) none (Value.ref 345) Value.none 0)) #[]) ::
  (nat_lit 354, Obj.mk (Value.type "tuple") none (Data.seq #[]) #[]) ::
  (nat_lit 356, Obj.mk (Value.type "tuple") none (Data.seq #[Value.str (Str.ofString "self") 720, Value.str (Str.ofString "limits") 721, Value.str (Str.ofString "choose") 722]) #[]) ::
  (nat_lit 357, Obj.mk (Value.type "tuple") none (Data.seq #[]) #[]) ::
  (nat_lit 359, Obj.mk (Value.type "code") none (Data.fields #[Value.str (Str.ofString "__init__") 717, Value.str (Str.ofString "Tasking.__init__") 718, Value.str (Str.ofString "/claim/cut.py") 719, Value.int 257 0, Value.int 3 0, Value.int 0 0, Value.int 0 0, Value.int 3 0, Value.ref 354, Value.bool true, Value.int 181 0, Value.ref 355, Value.none, Value.ref 356, Value.ref 357, Value.ref 358, Value.int 723 0, Value.int 257 0, Value.str (Str.ofString "/claim/cut.py") 724]) #[]) ::
  (nat_lit 360, Obj.mk (Value.type "function") none (Data.func (FuncData.mk (Str.ofString "__init__") (Str.ofString "Tasking.__init__") a36 (FuncBody.stmts b36) s36 3 [] Value.none Value.none Value.none (Value.str (Str.ofString "adacore.scheduler") 703) none (Value.ref 359) Value.none 0)) #[]) ::
  (nat_lit 361, Obj.mk (Value.type "tuple") none (Data.seq #[]) #[]) ::
  (nat_lit 363, Obj.mk (Value.type "tuple") none (Data.seq #[Value.str (Str.ofString "self") 729]) #[]) ::
  (nat_lit 364, Obj.mk (Value.type "tuple") none (Data.seq #[]) #[]) ::
  (nat_lit 366, Obj.mk (Value.type "code") none (Data.fields #[Value.str (Str.ofString "next_number") 726, Value.str (Str.ofString "Tasking.next_number") 727, Value.str (Str.ofString "/claim/cut.py") 728, Value.int 266 0, Value.int 1 0, Value.int 0 0, Value.int 0 0, Value.int 3 0, Value.ref 361, Value.bool true, Value.int 181 0, Value.ref 362, Value.none, Value.ref 363, Value.ref 364, Value.ref 365, Value.int 730 0, Value.int 266 0, Value.str (Str.ofString "/claim/cut.py") 731]) #[]) ::
  (nat_lit 367, Obj.mk (Value.type "function") none (Data.func (FuncData.mk (Str.ofString "next_number") (Str.ofString "Tasking.next_number") a37 (FuncBody.stmts b37) s37 3 [] Value.none Value.none Value.none (Value.str (Str.ofString "adacore.scheduler") 703) none (Value.ref 366) Value.none 0)) #[]) ::
  (nat_lit 368, Obj.mk (Value.type "tuple") none (Data.seq #[Value.str (Str.ofString "choose") 733, Value.str (Str.ofString "clock") 734, Value.str (Str.ofString "library") 735, Value.str (Str.ofString "limits") 736, Value.str (Str.ofString "numbers") 737, Value.str (Str.ofString "settled") 738, Value.str (Str.ofString "tasks") 739]) #[]) ::
  (nat_lit 369, Obj.mk (Value.type "dict") none (Data.dict #[DictEntry.mk (PyData.keyHash P (Str.ofString "__module__")) (Value.str (Str.ofString "__module__") 712) (Value.str (Str.ofString "adacore.scheduler") 703), DictEntry.mk (PyData.keyHash P (Str.ofString "__firstlineno__")) (Value.str (Str.ofString "__firstlineno__") 716) (Value.int 255 715), DictEntry.mk (PyData.keyHash P (Str.ofString "__init__")) (Value.str (Str.ofString "__init__") 725) (Value.ref 360), DictEntry.mk (PyData.keyHash P (Str.ofString "next_number")) (Value.str (Str.ofString "next_number") 732) (Value.ref 367), DictEntry.mk (PyData.keyHash P (Str.ofString "__static_attributes__")) (Value.str (Str.ofString "__static_attributes__") 740) (Value.ref 368), DictEntry.mk (PyData.keyHash P (Str.ofString "__dict__")) (Value.str (Str.ofString "__dict__") 742) (Value.ref 371), DictEntry.mk (PyData.keyHash P (Str.ofString "__weakref__")) (Value.str (Str.ofString "__weakref__") 744) (Value.ref 372), DictEntry.mk (PyData.keyHash P (Str.ofString "__doc__")) (Value.str (Str.ofString "__doc__") 745) Value.none] 4) #[]) ::
  (nat_lit 370, Obj.mk (Value.type "type") none (Data.cls (ClassData.mk (Str.ofString "Tasking") [Value.type "object"] [Value.ref 370, Value.type "object"] 369 (Str.ofString "Tasking") true [] [] false none false)) #[none, none, some (Value.str (Str.ofString "Tasking") 705), some (Value.str (Str.ofString "Tasking") 713), some (Value.builtin "object.__new__"), some (Value.bool true)]) ::
  (nat_lit 371, Obj.mk (Value.type "getset_descriptor") none (Data.fields #[Value.str (Str.ofString "__dict__") 741, Value.ref 370, Value.builtin "function.__dict__", Value.builtin "function.__dict__#set"]) #[]) ::
  (nat_lit 372, Obj.mk (Value.type "getset_descriptor") none (Data.fields #[Value.str (Str.ofString "__weakref__") 743, Value.ref 370, Value.builtin "ExceptionGroup.__weakref__", Value.none]) #[]) ::
  (nat_lit 375, Obj.mk (Value.type "tuple") none (Data.seq #[]) #[]) ::
  (nat_lit 378, Obj.mk (Value.type "code") none (Data.fields #[Value.str (Str.ofString "ready_tasks") 748, Value.str (Str.ofString "ready_tasks") 749, Value.str (Str.ofString "/claim/cut.py") 750, Value.int 269 0, Value.int 1 0, Value.int 0 0, Value.int 0 0, Value.int 3 0, Value.ref 375, Value.bool true, Value.int 181 0, Value.ref 376, Value.none, Value.none, Value.none, Value.ref 377, Value.int 751 0, Value.int 269 0, Value.str (Str.ofString "/claim/cut.py") 752]) #[]) ::
  (nat_lit 379, Obj.mk (Value.type "function") none (Data.func (FuncData.mk (Str.ofString "ready_tasks") (Str.ofString "ready_tasks") a38 (FuncBody.stmts b38) s38 3 [] Value.none Value.none Value.none (Value.str (Str.ofString "adacore.scheduler") 703) none (Value.ref 378) Value.none 0)) #[]) ::
  (nat_lit 380, Obj.mk (Value.type "tuple") none (Data.seq #[]) #[]) ::
  (nat_lit 383, Obj.mk (Value.type "code") none (Data.fields #[Value.str (Str.ofString "waiting_tasks") 754, Value.str (Str.ofString "waiting_tasks") 755, Value.str (Str.ofString "/claim/cut.py") 756, Value.int 271 0, Value.int 1 0, Value.int 0 0, Value.int 0 0, Value.int 3 0, Value.ref 380, Value.bool true, Value.int 181 0, Value.ref 381, Value.none, Value.none, Value.none, Value.ref 382, Value.int 757 0, Value.int 271 0, Value.str (Str.ofString "/claim/cut.py") 758]) #[]) ::
  (nat_lit 384, Obj.mk (Value.type "function") none (Data.func (FuncData.mk (Str.ofString "waiting_tasks") (Str.ofString "waiting_tasks") a39 (FuncBody.stmts b39) s39 3 [] Value.none Value.none Value.none (Value.str (Str.ofString "adacore.scheduler") 703) none (Value.ref 383) Value.none 0)) #[]) ::
  (nat_lit 385, Obj.mk (Value.type "tuple") none (Data.seq #[]) #[]) ::
  (nat_lit 388, Obj.mk (Value.type "code") none (Data.fields #[Value.str (Str.ofString "pass_time") 760, Value.str (Str.ofString "pass_time") 761, Value.str (Str.ofString "/claim/cut.py") 762, Value.int 273 0, Value.int 1 0, Value.int 0 0, Value.int 0 0, Value.int 3 0, Value.ref 385, Value.bool true, Value.int 181 0, Value.ref 386, Value.none, Value.none, Value.none, Value.ref 387, Value.int 763 0, Value.int 273 0, Value.str (Str.ofString "/claim/cut.py") 764]) #[]) ::
  (nat_lit 389, Obj.mk (Value.type "function") none (Data.func (FuncData.mk (Str.ofString "pass_time") (Str.ofString "pass_time") a40 (FuncBody.stmts b40) s40 3 [] Value.none Value.none Value.none (Value.str (Str.ofString "adacore.scheduler") 703) none (Value.ref 388) Value.none 0)) #[]) ::
  (nat_lit 390, Obj.mk (Value.type "tuple") none (Data.seq #[]) #[]) ::
  (nat_lit 392, Obj.mk (Value.type "tuple") none (Data.seq #[Value.str (Str.ofString "tasking") 769, Value.str (Str.ofString "ready") 770, Value.str (Str.ofString "chosen") 771, Value.str (Str.ofString "task") 772]) #[]) ::
  (nat_lit 393, Obj.mk (Value.type "tuple") none (Data.seq #[]) #[]) ::
  (nat_lit 395, Obj.mk (Value.type "code") none (Data.fields #[Value.str (Str.ofString "choose_among") 766, Value.str (Str.ofString "choose_among") 767, Value.str (Str.ofString "/claim/cut.py") 768, Value.int 281 0, Value.int 2 0, Value.int 0 0, Value.int 0 0, Value.int 3 0, Value.ref 390, Value.bool true, Value.int 181 0, Value.ref 391, Value.none, Value.ref 392, Value.ref 393, Value.ref 394, Value.int 773 0, Value.int 281 0, Value.str (Str.ofString "/claim/cut.py") 774]) #[]) ::
  (nat_lit 396, Obj.mk (Value.type "function") none (Data.func (FuncData.mk (Str.ofString "choose_among") (Str.ofString "choose_among") a41 (FuncBody.stmts b41) s41 3 [] Value.none Value.none Value.none (Value.str (Str.ofString "adacore.scheduler") 703) none (Value.ref 395) Value.none 0)) #[]) ::
  (nat_lit 397, Obj.mk (Value.type "tuple") none (Data.seq #[]) #[]) ::
  (nat_lit 399, Obj.mk (Value.type "tuple") none (Data.seq #[Value.str (Str.ofString "tasking") 779, Value.str (Str.ofString "ready") 780]) #[]) ::
  (nat_lit 400, Obj.mk (Value.type "tuple") none (Data.seq #[]) #[]) ::
  (nat_lit 402, Obj.mk (Value.type "code") none (Data.fields #[Value.str (Str.ofString "pick_task") 776, Value.str (Str.ofString "pick_task") 777, Value.str (Str.ofString "/claim/cut.py") 778, Value.int 287 0, Value.int 1 0, Value.int 0 0, Value.int 0 0, Value.int 3 0, Value.ref 397, Value.bool true, Value.int 181 0, Value.ref 398, Value.none, Value.ref 399, Value.ref 400, Value.ref 401, Value.int 781 0, Value.int 287 0, Value.str (Str.ofString "/claim/cut.py") 782]) #[]) ::
  (nat_lit 403, Obj.mk (Value.type "function") none (Data.func (FuncData.mk (Str.ofString "pick_task") (Str.ofString "pick_task") a42 (FuncBody.stmts b42) s42 3 [] Value.none Value.none Value.none (Value.str (Str.ofString "adacore.scheduler") 703) none (Value.ref 402) Value.none 0)) #[]) ::
  (nat_lit 404, Obj.mk (Value.type "tuple") none (Data.seq #[]) #[]) ::
  (nat_lit 406, Obj.mk (Value.type "tuple") none (Data.seq #[Value.str (Str.ofString "hand") 789, Value.str (Str.ofString "many") 790]) #[]) ::
  (nat_lit 407, Obj.mk (Value.type "tuple") none (Data.seq #[]) #[]) ::
  (nat_lit 409, Obj.mk (Value.type "code") none (Data.fields #[Value.str (Str.ofString "_law_figure") 786, Value.str (Str.ofString "_law_figure") 787, Value.str (Str.ofString "/claim/cut.py") 788, Value.int 297 0, Value.int 2 0, Value.int 0 0, Value.int 0 0, Value.int 3 0, Value.ref 404, Value.bool true, Value.int 181 0, Value.ref 405, Value.none, Value.ref 406, Value.ref 407, Value.ref 408, Value.int 791 0, Value.int 297 0, Value.str (Str.ofString "/claim/cut.py") 792]) #[]) ::
  (nat_lit 410, Obj.mk (Value.type "function") none (Data.func (FuncData.mk (Str.ofString "_law_figure") (Str.ofString "_law_figure") a43 (FuncBody.stmts b43) s43 3 [] Value.none Value.none Value.none (Value.str (Str.ofString "law_pb0024_01") 784) none (Value.ref 409) Value.none 0)) #[]) ::
  (nat_lit 411, Obj.mk (Value.type "tuple") none (Data.seq #[]) #[]) ::
  (nat_lit 414, Obj.mk (Value.type "code") none (Data.fields #[Value.str (Str.ofString "_law_rows_told") 794, Value.str (Str.ofString "_law_rows_told") 795, Value.str (Str.ofString "/claim/cut.py") 796, Value.int 299 0, Value.int 1 0, Value.int 0 0, Value.int 0 0, Value.int 3 0, Value.ref 411, Value.bool true, Value.int 181 0, Value.ref 412, Value.none, Value.none, Value.none, Value.ref 413, Value.int 797 0, Value.int 299 0, Value.str (Str.ofString "/claim/cut.py") 798]) #[]) ::
  (nat_lit 415, Obj.mk (Value.type "function") none (Data.func (FuncData.mk (Str.ofString "_law_rows_told") (Str.ofString "_law_rows_told") a44 (FuncBody.stmts b44) s44 3 [] Value.none Value.none Value.none (Value.str (Str.ofString "law_pb0024_01") 784) none (Value.ref 414) Value.none 0)) #[]) ::
  (nat_lit 416, Obj.mk (Value.type "tuple") none (Data.seq #[]) #[]) ::
  (nat_lit 419, Obj.mk (Value.type "code") none (Data.fields #[Value.str (Str.ofString "law") 800, Value.str (Str.ofString "law") 801, Value.str (Str.ofString "/claim/cut.py") 802, Value.int 321 0, Value.int 1 0, Value.int 0 0, Value.int 0 0, Value.int 3 0, Value.ref 416, Value.bool true, Value.int 181 0, Value.ref 417, Value.none, Value.none, Value.none, Value.ref 418, Value.int 803 0, Value.int 321 0, Value.str (Str.ofString "/claim/cut.py") 804]) #[]) ::
  (nat_lit 420, Obj.mk (Value.type "function") none (Data.func (FuncData.mk (Str.ofString "law") (Str.ofString "law") a45 (FuncBody.stmts b45) s45 3 [] Value.none Value.none Value.none (Value.str (Str.ofString "law_pb0024_01") 784) none (Value.ref 419) Value.none 0)) #[]) :: []
end Mine.hd

namespace Mine
theorem kfilled : Mine.hd.heap_39 = Mine.hd.heap_39 ∧ PySem.Challenge.rw_pb0024_01 = PySem.Challenge.rw_pb0024_01 := by
  k_fill
  exact ⟨rfl, rfl⟩
local macro_rules | `(tactic| k_all) => `(tactic| assumption)
local macro_rules | `(tactic| walk_at $s:str) => `(tactic| k_extra $s)
local macro_rules | `(tactic| k_ne) => `(tactic| first | with_reducible assumption | with_reducible exact Ne.symm (by with_reducible assumption) | exact Nat.ne_of_lt (by walk_at "CJ") | exact Nat.ne_of_gt (by walk_at "CJ") | walk_at "CJ" | exact Ne.symm (by walk_at "CJ"))
local macro_rules | `(tactic| walk_at "TAIL1") => `(tactic| (intro h' F' N'))
local macro_rules | `(tactic| walk_at "TAIL2") => `(tactic| (intro h' tk' F' f' c' N'))
local macro_rules | `(tactic| walk_at "TAIL3") => `(tactic| (intro h' tk' F' N'))
local macro_rules | `(tactic| walk_at "TAIL4") => `(tactic| (intro d' h' F' N' l1 lo' hs' fs' hi' fi'; (try k_lt l1); (try k_sweep)))
local macro_rules | `(tactic| walk_at "TAIL5") => `(tactic| (intro h' tk' F' D' N'))
local macro_rules | `(tactic| walk_at "TAIL6") => `(tactic| (intro h' tk' F' k' t' vs' n'' hk1' hk2' hH' N'; (try dsimp only at N')))
local macro_rules | `(tactic| walk_at "TAIL7") => `(tactic| (intro h' tk' F' se' tse' N'))
local macro_rules | `(tactic| walk_at "TAIL8") => `(tactic| (intro h' tk' F' D' hD' N'))
local macro_rules | `(tactic| walk_at "TAIL9") => `(tactic| (intro h' tk' F' D' v' us' i' u' hiw' hus' N'))
local macro_rules | `(tactic| walk_at "TAIL10") => `(tactic| (intro h' tk' F' j' t' hs' nh' row' rv' q1' q2' q3' q4' N'))
local macro_rules | `(tactic| walk_at "TAIL11") => `(tactic| (intro h' tk' F' ts' tn' hsm' hAs' N'))
local macro_rules | `(tactic| walk_at "TAIL12") => `(tactic| (intro _))
local macro_rules | `(tactic| walk_at "TAIL13") => `(tactic| (intro h' F' N' hi' hl' hs'; (try k_sweep)))
local macro_rules | `(tactic| walk_at "TAIL14") => `(tactic| (intro h' F' N' hi'))
local macro_rules | `(tactic| walk_at "TAIL15") => `(tactic| (intro h' tk' F' p' hP' N'; simp only [AllLt] at hP'))
local macro_rules | `(tactic| walk_at "TAIL16") => `(tactic| (intro h' tk' F' vs' n'' hH' N'; (try dsimp only at N')))
theorem freshA0 : True := by
  k_with_none
  (k_with "CJ" => (first | with_reducible assumption | with_reducible exact And.left (by first | with_reducible assumption | with_reducible exact And.right (by first | with_reducible assumption | with_reducible exact And.right (by first | with_reducible assumption | with_reducible exact And.right (by first | with_reducible assumption | with_reducible exact And.right (by first | with_reducible assumption | with_reducible exact And.right (by first | with_reducible assumption | with_reducible exact And.right (by first | with_reducible assumption | with_reducible exact And.right (by first | with_reducible assumption | with_reducible exact And.right (by first | with_reducible assumption | with_reducible exact And.right (by first | with_reducible assumption | with_reducible exact And.right (by first | with_reducible assumption | with_reducible exact And.right (by first | with_reducible assumption | with_reducible exact And.right (by first | with_reducible assumption | with_reducible exact And.right (by first | with_reducible assumption | with_reducible exact And.right (by first | with_reducible assumption | with_reducible exact And.right (by first | with_reducible assumption | with_reducible exact And.right (by first | with_reducible assumption | with_reducible exact And.right (by first | with_reducible assumption | with_reducible exact And.right (by first | with_reducible assumption | with_reducible exact And.right (by first | with_reducible assumption | with_reducible exact And.right (by first | with_reducible assumption | with_reducible exact And.right (by first | with_reducible assumption | with_reducible exact And.right (by with_reducible assumption)))))))))))))))))))))))))
  (k_with "execs cons" => (k_here; (fail_if_success (fail_if_success k_gentoks)); (with_reducible refine gen_toks ?_); intro tk))
  (k_with "execs nil" => (k_here; (fail_if_success (fail_if_success k_gentoks)); (with_reducible refine gen_toks ?_); intro tk))
  w_top off
  trivial
noncomputable abbrev Led := List (Addr × Obj)
/-- what a call of the text's own def does, over a ledger -/
noncomputable def Spec (w : World) (D U : Nat) (f : Addr) (vs : List Value) (news : Led) (post : Value → Led → Prop) : Prop :=
  ∀ (pr : Program) (loose : List Str) (mean : ExcName → Option Value) (mg mb : Str → Option Value) (cn : Str) (cnm : List (Str × NameKind)) (cig cic : Bool) (cmo : List (Str × Const)) (a : Addr) (ccd : Value) (cl : List (Str × Addr)) (outer : List Env) (A₀ : Around)
    (base h₀ : Heap) (L : Addr) (m : Str → Option Value) (s : Shared) (Q E : Value → Shared → Prop),
    Below A₀ base outer h₀ → Fr h₀ L s.heap m → (Mine.hd.heap_39 w.params).In h₀ → News h₀ L s.heap news → Top pr loose mean mg mb h₀ →
    (∀ r news' h' tk', post r news' → Fr h₀ L h' m → News h₀ L h' news' → Q r { s with heap := h', toks := tk' }) →
    wpAny (model PySem.Challenge.pw_pb0024_01 w) (ktrTop D U none cn ⟨.function, cnm, cig, cic, cmo⟩ L a ccd cl outer) (call (.ref f) vs) Q E s

theorem around_le {M : Model} {α : Type} {A B : Around} {t : Sem α} {Q : α → Shared → Prop} {E : Value → Shared → Prop} {s : Shared} (h1 : A.handled = B.handled) (h2 : A.depth ≤ B.depth) (h3 : A.frames = B.frames) (h4 : B.guards = none) (h5 : A.units ≤ B.units)
    (h : wpAny M B t Q E s) : wpAny M A t Q E s := by
  intro Γ p hΓ
  refine h Γ p ⟨hΓ.1.trans h1, Nat.le_trans hΓ.2.1 h2, fun l hl => hΓ.2.2.1 l (h3.trans hl), fun g hg => ?_, Nat.le_trans hΓ.2.2.2.2 h5⟩
  rw [h4] at hg; cases hg

theorem Spec.use {w : World} {D U : Nat} {f : Addr} {vs : List Value} {news : Led} {post : Value → Led → Prop} (S : Spec w D U f vs news post)
    {pr : Program} {loose : List Str} {mean : ExcName → Option Value} {mg mb : Str → Option Value} {cn : Str} {cnm : List (Str × NameKind)} {cig cic : Bool} {cmo : List (Str × Const)} {a : Addr} {ccd : Value} {cl : List (Str × Addr)} {outer : List Env} {A A₀ : Around}
    {base h₀ : Heap} {L : Addr} {m : Str → Option Value} {s : Shared} {Q E : Value → Shared → Prop}
    (B : Below A₀ base outer h₀) (F : Fr h₀ L s.heap m) (X : (Mine.hd.heap_39 w.params).In h₀) (N : News h₀ L s.heap news) (T : Top pr loose mean mg mb h₀)
    (h1 : A.handled = none) (h2 : A.depth ≤ D) (h3 : A.frames = some (envX cn ⟨.function, cnm, cig, cic, cmo⟩ L a ccd cl :: outer)) (h5 : A.units ≤ U)
    (h : ∀ r news' h' tk', post r news' → Fr h₀ L h' m → News h₀ L h' news' → Q r { s with heap := h', toks := tk' }) :
    wpAny (model PySem.Challenge.pw_pb0024_01 w) A (call (.ref f) vs) Q E s :=
  around_le (B := ktrTop D U none cn ⟨.function, cnm, cig, cic, cmo⟩ L a ccd cl outer) h1 h2 h3 rfl h5 (S pr loose mean mg mb cn cnm cig cic cmo a ccd cl outer A₀ base h₀ L m s Q E B F X N T h)

theorem Spec.perm {w : World} {D U : Nat} {f : Addr} {vs : List Value} {l news : Led} {post post' : Value → Led → Prop} (S : Spec w D U f vs l post) (hs : ∀ p ∈ l, p ∈ news)
    (hp : ∀ r l', post r l' → ∃ news', post' r news' ∧ ∀ p ∈ news', p ∈ l') : Spec w D U f vs news post' := by
  intro pr loose mean mg mb cn cnm cig cic cmo a ccd cl outer A₀ base h₀ L m s Q E B F X N T h
  refine S pr loose mean mg mb cn cnm cig cic cmo a ccd cl outer A₀ base h₀ L m s Q E B F X (fun p hp' => N p (hs p hp')) T fun r l' h' tk' hpost F' N' => ?_
  obtain ⟨news', q, k⟩ := hp r l' hpost
  exact h r news' h' tk' q F' fun p hp' => N' p (k p hp')

theorem Spec.upd {w : World} {D U : Nat} {f : Addr} {vs : List Value} {d : Addr} {o : Obj} {news : Led} {g : Obj → Led} {post : Value → Led → Prop} (u : UpdF d o news g)
    (S : ∀ rest : Led, (∀ p ∈ rest, p.1 ≠ d) → Spec w D U f vs ((d, o) :: rest) fun r l => ∃ o', post r (g o') ∧ ∀ p ∈ (d, o') :: rest, p ∈ l) : Spec w D U f vs news post := by
  obtain ⟨pre, pst, rfl, hg, h1, h2⟩ := u.split
  refine (S (pre ++ pst) fun p hp => (List.mem_append.mp hp).elim (h1 p) (h2 p)).perm (fun p hp => ?_) fun r l' hl => ?_
  · rcases List.mem_cons.mp hp with rfl | hp
    · exact List.mem_append_right _ (.head _)
    · exact (List.mem_append.mp hp).elim (fun h => List.mem_append_left _ h) fun h => List.mem_append_right _ (.tail _ h)
  · obtain ⟨o', q, k⟩ := hl
    refine ⟨g o', q, fun p hp => k p ?_⟩
    rw [hg] at hp
    rcases List.mem_append.mp hp with hp | hp
    · exact .tail _ (List.mem_append_left _ hp)
    · rcases List.mem_cons.mp hp with rfl | hp
      · exact .head _
      · exact .tail _ (List.mem_append_right _ hp)
section
variable {F : Heap → Prop} {K : Value → Led → Heap → Nat → Prop} {α β γ δ ε ζ : Type}
/- the ends of a call's contract, its parts brought in at once -/
theorem cps2 {r₀ : Value} {l₀ : Led} (h : ∀ h' tk', F h' → K r₀ l₀ h' tk') : ∀ r l h' tk', r = r₀ ∧ l = l₀ → F h' → K r l h' tk' := by
  rintro _ _ h' tk' ⟨rfl, rfl⟩; exact h h' tk'
theorem cpsD {f : α → Value} {g : α → Led} (h : ∀ h' tk', F h' → ∀ D, K (f D) (g D) h' tk') : ∀ r l h' tk', (∃ D, r = f D ∧ l = g D) → F h' → K r l h' tk' := by
  rintro _ _ h' tk' ⟨D, rfl, rfl⟩ q; exact h h' tk' q D
theorem cpsP {P : α → Prop} {f : α → Value} {g : α → Led} (h : ∀ h' tk', F h' → ∀ D, P D → K (f D) (g D) h' tk') : ∀ r l h' tk', (∃ D, P D ∧ r = f D ∧ l = g D) → F h' → K r l h' tk' := by
  rintro _ _ h' tk' ⟨D, p, rfl, rfl⟩ q; exact h h' tk' q D p
theorem cpsDD {f : α → Value} {g : α → β → Led} (h : ∀ h' tk', F h' → ∀ a b, K (f a) (g a b) h' tk') : ∀ r l h' tk', (∃ a b, r = f a ∧ l = g a b) → F h' → K r l h' tk' := by
  rintro _ _ h' tk' ⟨a, b, rfl, rfl⟩ q; exact h h' tk' q a b
theorem cpsF {f : α → β → Value} {g : γ → δ → Led} {A B : α → Prop} {C : γ → Prop} (h : ∀ h' tk', F h' → ∀ k t vs n, A k → B k → C vs → K (f k t) (g vs n) h' tk') :
    ∀ r l h' tk', (∃ k t vs n, r = f k t ∧ A k ∧ B k ∧ C vs ∧ l = g vs n) → F h' → K r l h' tk' := by
  rintro _ _ h' tk' ⟨k, t, vs, n, rfl, a, b, c, rfl⟩ q; exact h h' tk' q k t vs n a b c
theorem cpsT {r₀ : Value} {g : α → β → Led} {C : α → Prop} (h : ∀ h' tk', F h' → ∀ vs n, C vs → K r₀ (g vs n) h' tk') : ∀ r l h' tk', (∃ vs n, r = r₀ ∧ C vs ∧ l = g vs n) → F h' → K r l h' tk' := by
  rintro _ _ h' tk' ⟨vs, n, rfl, c, rfl⟩ q; exact h h' tk' q vs n c
theorem cpsS {r₀ : Value} {g : α → β → Led} (h : ∀ h' tk', F h' → ∀ a b, K r₀ (g a b) h' tk') : ∀ r l h' tk', (r = r₀ ∧ ∃ a b, l = g a b) → F h' → K r l h' tk' := by
  rintro _ _ h' tk' ⟨rfl, a, b, rfl⟩ q; exact h h' tk' q a b
theorem cpsW {r₀ : Value} {g : α → β → Led} {A B : α → Prop} (h : ∀ h' tk', F h' → ∀ a b, A a → B a → K r₀ (g a b) h' tk') : ∀ r l h' tk', (r = r₀ ∧ ∃ a b, A a ∧ B a ∧ l = g a b) → F h' → K r l h' tk' := by
  rintro _ _ h' tk' ⟨rfl, a, b, p, p', rfl⟩ q; exact h h' tk' q a b p p'
end
/-- the count of tokens let go: a lemma's own binder, so that it stays a letter in the proof -/
theorem gen_toks {α : Type} {M : Model} {A : Around} {t : Sem α} {Q : α → Shared → Prop} {E : Value → Shared → Prop} {h : Heap} {g : Array GenState} {d : Drawn} {X : Nat} {o : OsState} (k : ∀ tk, wpAny M A t Q E ⟨h, g, d, tk, o⟩) : wpAny M A t Q E ⟨h, g, d, X, o⟩ := k X
theorem ex2 {α1 α2 : Type} {p : α1 → α2 → Prop} {b : Prop} (h : ∃ a1 a2, p a1 a2) (k : ∀ a1 a2, p a1 a2 → b) : b := let ⟨a1, a2, q⟩ := h; k a1 a2 q
theorem ex3 {α1 α2 α3 : Type} {p : α1 → α2 → α3 → Prop} {b : Prop} (h : ∃ a1 a2 a3, p a1 a2 a3) (k : ∀ a1 a2 a3, p a1 a2 a3 → b) : b := let ⟨a1, a2, a3, q⟩ := h; k a1 a2 a3 q
theorem ex4 {α1 α2 α3 α4 : Type} {p : α1 → α2 → α3 → α4 → Prop} {b : Prop} (h : ∃ a1 a2 a3 a4, p a1 a2 a3 a4) (k : ∀ a1 a2 a3 a4, p a1 a2 a3 a4 → b) : b := let ⟨a1, a2, a3, a4, q⟩ := h; k a1 a2 a3 a4 q
theorem ex5 {α1 α2 α3 α4 α5 : Type} {p : α1 → α2 → α3 → α4 → α5 → Prop} {b : Prop} (h : ∃ a1 a2 a3 a4 a5, p a1 a2 a3 a4 a5) (k : ∀ a1 a2 a3 a4 a5, p a1 a2 a3 a4 a5 → b) : b := let ⟨a1, a2, a3, a4, a5, q⟩ := h; k a1 a2 a3 a4 a5 q
theorem ex6 {α1 α2 α3 α4 α5 α6 : Type} {p : α1 → α2 → α3 → α4 → α5 → α6 → Prop} {b : Prop} (h : ∃ a1 a2 a3 a4 a5 a6, p a1 a2 a3 a4 a5 a6) (k : ∀ a1 a2 a3 a4 a5 a6, p a1 a2 a3 a4 a5 a6 → b) : b := let ⟨a1, a2, a3, a4, a5, a6, q⟩ := h; k a1 a2 a3 a4 a5 a6 q
theorem ex7 {α1 α2 α3 α4 α5 α6 α7 : Type} {p : α1 → α2 → α3 → α4 → α5 → α6 → α7 → Prop} {b : Prop} (h : ∃ a1 a2 a3 a4 a5 a6 a7, p a1 a2 a3 a4 a5 a6 a7) (k : ∀ a1 a2 a3 a4 a5 a6 a7, p a1 a2 a3 a4 a5 a6 a7 → b) : b := let ⟨a1, a2, a3, a4, a5, a6, a7, q⟩ := h; k a1 a2 a3 a4 a5 a6 a7 q
theorem ex8 {α1 α2 α3 α4 α5 α6 α7 α8 : Type} {p : α1 → α2 → α3 → α4 → α5 → α6 → α7 → α8 → Prop} {b : Prop} (h : ∃ a1 a2 a3 a4 a5 a6 a7 a8, p a1 a2 a3 a4 a5 a6 a7 a8) (k : ∀ a1 a2 a3 a4 a5 a6 a7 a8, p a1 a2 a3 a4 a5 a6 a7 a8 → b) : b := let ⟨a1, a2, a3, a4, a5, a6, a7, a8, q⟩ := h; k a1 a2 a3 a4 a5 a6 a7 a8 q
theorem ex9 {α1 α2 α3 α4 α5 α6 α7 α8 α9 : Type} {p : α1 → α2 → α3 → α4 → α5 → α6 → α7 → α8 → α9 → Prop} {b : Prop} (h : ∃ a1 a2 a3 a4 a5 a6 a7 a8 a9, p a1 a2 a3 a4 a5 a6 a7 a8 a9) (k : ∀ a1 a2 a3 a4 a5 a6 a7 a8 a9, p a1 a2 a3 a4 a5 a6 a7 a8 a9 → b) : b := let ⟨a1, a2, a3, a4, a5, a6, a7, a8, a9, q⟩ := h; k a1 a2 a3 a4 a5 a6 a7 a8 a9 q
theorem ex10 {α1 α2 α3 α4 α5 α6 α7 α8 α9 α10 : Type} {p : α1 → α2 → α3 → α4 → α5 → α6 → α7 → α8 → α9 → α10 → Prop} {b : Prop} (h : ∃ a1 a2 a3 a4 a5 a6 a7 a8 a9 a10, p a1 a2 a3 a4 a5 a6 a7 a8 a9 a10) (k : ∀ a1 a2 a3 a4 a5 a6 a7 a8 a9 a10, p a1 a2 a3 a4 a5 a6 a7 a8 a9 a10 → b) : b := let ⟨a1, a2, a3, a4, a5, a6, a7, a8, a9, a10, q⟩ := h; k a1 a2 a3 a4 a5 a6 a7 a8 a9 a10 q
theorem ex16 {α1 α2 α3 α4 α5 α6 α7 α8 α9 α10 α11 α12 α13 α14 α15 α16 : Type} {p : α1 → α2 → α3 → α4 → α5 → α6 → α7 → α8 → α9 → α10 → α11 → α12 → α13 → α14 → α15 → α16 → Prop} {b : Prop} (h : ∃ a1 a2 a3 a4 a5 a6 a7 a8 a9 a10 a11 a12 a13 a14 a15 a16, p a1 a2 a3 a4 a5 a6 a7 a8 a9 a10 a11 a12 a13 a14 a15 a16) (k : ∀ a1 a2 a3 a4 a5 a6 a7 a8 a9 a10 a11 a12 a13 a14 a15 a16, p a1 a2 a3 a4 a5 a6 a7 a8 a9 a10 a11 a12 a13 a14 a15 a16 → b) : b := let ⟨a1, a2, a3, a4, a5, a6, a7, a8, a9, a10, a11, a12, a13, a14, a15, a16, q⟩ := h; k a1 a2 a3 a4 a5 a6 a7 a8 a9 a10 a11 a12 a13 a14 a15 a16 q
theorem freshA1 : True := by
  k_with_none
  (k_with "CJ" => (first | with_reducible assumption | with_reducible exact And.left (by first | with_reducible assumption | with_reducible exact And.right (by first | with_reducible assumption | with_reducible exact And.right (by first | with_reducible assumption | with_reducible exact And.right (by first | with_reducible assumption | with_reducible exact And.right (by first | with_reducible assumption | with_reducible exact And.right (by first | with_reducible assumption | with_reducible exact And.right (by first | with_reducible assumption | with_reducible exact And.right (by first | with_reducible assumption | with_reducible exact And.right (by first | with_reducible assumption | with_reducible exact And.right (by first | with_reducible assumption | with_reducible exact And.right (by first | with_reducible assumption | with_reducible exact And.right (by first | with_reducible assumption | with_reducible exact And.right (by first | with_reducible assumption | with_reducible exact And.right (by first | with_reducible assumption | with_reducible exact And.right (by first | with_reducible assumption | with_reducible exact And.right (by first | with_reducible assumption | with_reducible exact And.right (by first | with_reducible assumption | with_reducible exact And.right (by first | with_reducible assumption | with_reducible exact And.right (by first | with_reducible assumption | with_reducible exact And.right (by first | with_reducible assumption | with_reducible exact And.right (by first | with_reducible assumption | with_reducible exact And.right (by first | with_reducible assumption | with_reducible exact And.right (by with_reducible assumption)))))))))))))))))))))))))
  (k_with "execs cons" => (k_here; (fail_if_success (fail_if_success k_gentoks)); (with_reducible refine gen_toks ?_); intro tk))
  (k_with "execs nil" => (k_here; (fail_if_success (fail_if_success k_gentoks)); (with_reducible refine gen_toks ?_); intro tk))
  w_top off
  trivial
theorem pop0 {prog : Program} {w : World} {A : Around} {E : Value → Shared → Prop} {s : Shared} {h₀ : Heap} {L D : Addr} {m : Str → Option Value} {news news' : Led} {n : Nat} {q : List Value} {y : Value} {u : Tok} {Q : Value → Shared → Prop}
    (F : Fr h₀ L s.heap m) (N : News h₀ L s.heap news) (U : Upd D (W.listOf (y :: q).toArray n) (W.listOf q.toArray (n + 1)) news news') (hz : q.length < 1000)
    (h : ∀ h', Fr h₀ L h' m → News h₀ L h' news' → Q y { s with heap := h' }) : wpAny (model prog w) A (call (.builtin "list.pop") [.ref D, .int 0 u]) Q E s :=
  kl_popAt (i := 0) (k := 0) (p := []) (q := q) (y := y) F N rfl (by simp [seqIndex?]) rfl U (by show q.length + 1 ≤ sizeLine; rw [sizeLine_eq]; omega) h

theorem rulesA1x1 : True := by
  (k_with "call builtin:list.pop" => ((k_here; k_dflt (refine' pop0 ?F ?N ?U ?z ?_; (case F => k_asm); (case N => k_asm); (case U => k_upd); (case z => omega)); walk_at "TAIL1")))
  trivial
theorem figure_nil {w : World} {hl : Addr} {n : Nat} {many : Int} {tm : Tok} (rest : Led) (hoff : ∀ p ∈ rest, p.1 ≠ hl) :
    Spec w 400 1000 410 [.ref hl, .int many tm] ((hl, W.listOf #[] n) :: rest) fun r l => (∃ t, r = .int 0 t) ∧ l = (hl, W.listOf #[] n) :: rest := by
  intro pr loose mean mg mb cn cnm cig cic cmo a ccd cl outer A₀ base h₀ L m s Q E B F X N T hret
  k_steps
  exact hret _ _ _ _ ⟨⟨_, rfl⟩, rfl⟩ (by assumption) (by assumption)
theorem figure_cons {w : World} {hl : Addr} {n : Nat} {many : Int} {tm : Tok} {k : Int} {tk : Tok} {vs : List Value} (hm : 0 < many) (hsz : vs.length < 100) (rest : Led) (hoff : ∀ p ∈ rest, p.1 ≠ hl) :
    Spec w 400 1000 410 [.ref hl, .int many tm] ((hl, W.listOf (Value.int k tk :: vs).toArray n) :: rest) fun r l => (∃ t, r = .int (k.fmod many) t) ∧ l = (hl, W.listOf vs.toArray (n + 1)) :: rest := by
  intro pr loose mean mg mb cn cnm cig cic cmo a ccd cl outer A₀ base h₀ L m s Q E B F X N T hret
  k_steps
  exact hret _ _ _ _ ⟨⟨_, rfl⟩, rfl⟩ (by assumption) (by assumption)

/-- the hand: a short list of ints -/
structure Hand (vs : List Value) : Prop where
  whole : ∀ v ∈ vs, ∃ k t, v = Value.int k t
  brief : vs.length < 100

theorem figure_spec {w : World} {hl : Addr} {n : Nat} {many : Int} {tm : Tok} {vs : List Value} {news : Led} {g : Obj → Led} (u : UpdF hl (W.listOf vs.toArray n) news g) (H : Hand vs) (hm : 0 < many) :
    Spec w 400 1000 410 [.ref hl, .int many tm] news fun r l => ∃ k t vs' n', r = .int k t ∧ 0 ≤ k ∧ k < many ∧ Hand vs' ∧ l = g (W.listOf vs'.toArray n') := by
  refine Spec.upd u fun rest hoff => ?_
  cases vs with
  | nil =>
    refine (figure_nil rest hoff).perm (fun _ h => h) fun r l ⟨⟨t, e⟩, e2⟩ => ⟨_, ⟨_, ⟨0, t, [], n, e, Int.le_refl _, hm, H, rfl⟩, fun p hp => hp⟩, ?_⟩
    subst e2; exact fun p hp => hp
  | cons v vs =>
    obtain ⟨k, tk, rfl⟩ := H.whole v (.head _)
    have hs := H.brief
    rw [List.length_cons] at hs
    refine (figure_cons hm (by omega) rest hoff).perm (fun _ h => h) fun r l ⟨⟨t, e⟩, e2⟩ => ⟨_, ⟨_, ⟨_, t, vs, n + 1, e, Int.fmod_nonneg_of_pos _ hm, Int.fmod_lt_of_pos _ hm, ⟨fun v hv => H.whole v (.tail _ hv), by omega⟩, rfl⟩, fun p hp => hp⟩, ?_⟩
    subst e2; exact fun p hp => hp
theorem freshB0 : True := by
  k_with_none
  (k_with "CJ" => (first | with_reducible assumption | with_reducible exact And.left (by first | with_reducible assumption | with_reducible exact And.right (by first | with_reducible assumption | with_reducible exact And.right (by first | with_reducible assumption | with_reducible exact And.right (by first | with_reducible assumption | with_reducible exact And.right (by first | with_reducible assumption | with_reducible exact And.right (by first | with_reducible assumption | with_reducible exact And.right (by first | with_reducible assumption | with_reducible exact And.right (by first | with_reducible assumption | with_reducible exact And.right (by first | with_reducible assumption | with_reducible exact And.right (by first | with_reducible assumption | with_reducible exact And.right (by first | with_reducible assumption | with_reducible exact And.right (by first | with_reducible assumption | with_reducible exact And.right (by first | with_reducible assumption | with_reducible exact And.right (by first | with_reducible assumption | with_reducible exact And.right (by first | with_reducible assumption | with_reducible exact And.right (by first | with_reducible assumption | with_reducible exact And.right (by first | with_reducible assumption | with_reducible exact And.right (by first | with_reducible assumption | with_reducible exact And.right (by first | with_reducible assumption | with_reducible exact And.right (by first | with_reducible assumption | with_reducible exact And.right (by first | with_reducible assumption | with_reducible exact And.right (by first | with_reducible assumption | with_reducible exact And.right (by with_reducible assumption)))))))))))))))))))))))))
  (k_with "execs cons" => (k_here; (fail_if_success (fail_if_success k_gentoks)); (with_reducible refine gen_toks ?_); intro tk))
  (k_with "execs nil" => (k_here; (fail_if_success (fail_if_success k_gentoks)); (with_reducible refine gen_toks ?_); intro tk))
  w_top off
  trivial
section
variable {prog : Program} {w : World} {A : Around} {E : Value → Shared → Prop} {s : Shared} {x y : Str} {t u : Tok} {Q : Value → Shared → Prop}
theorem eqs_tt (e : (x == y) = true) (h : Q (.bool true) s) : wpAny (model prog w) A (compareOp .Eq (.str x t) (.str y u)) Q E s := PyProof.Rows.eq_str (by rw [e]; exact h)
theorem eqs_ff (e : (x == y) = false) (h : Q (.bool false) s) : wpAny (model prog w) A (compareOp .Eq (.str x t) (.str y u)) Q E s := PyProof.Rows.eq_str (by rw [e]; exact h)
theorem nes_tt (e : (x != y) = true) (h : Q (.bool true) s) : wpAny (model prog w) A (compareOp .NotEq (.str x t) (.str y u)) Q E s := PyProof.Rows.ne_str (by rw [e]; exact h)
theorem nes_ff (e : (x != y) = false) (h : Q (.bool false) s) : wpAny (model prog w) A (compareOp .NotEq (.str x t) (.str y u)) Q E s := PyProof.Rows.ne_str (by rw [e]; exact h)
end

set_option genInjectivity false in
set_option genSizeOf false in
/-- a task, as its object and its dict lie -/
structure TR where
  a : Addr
  d : Addr
  q : Addr
  sv : Addr
  ms : Addr
  k : Nat → Tok
  num : Int
  tn : Tok
  st : Str
  ts : Tok
  wk : Value
  name : Value
  master : Value
  open_ : Value
  late : Value
  call : Value
  raised : Value
  answer : Value
  inside : Value
  pending : Value
  failed : Value
  stack : Value
  frame : Value
  result : Value
  bases : Value
  caught : Value
  resume : Value
  leaving : Value
  line : Value

noncomputable abbrev en (w : World) (name : Str) (t : Tok) (v : Value) : DictEntry := ⟨PyData.keyHash w.params name, .str name t, v⟩
noncomputable abbrev tes (w : World) (t : TR) (act : Value) : List DictEntry :=
  [en w "number" (t.k 0) (.int t.num t.tn), en w "name" (t.k 1) t.name, en w "master" (t.k 2) t.master, en w "state" (t.k 3) (.str t.st t.ts), en w "queues" (t.k 4) (.ref t.q),
   en w "open" (t.k 5) t.open_, en w "wake" (t.k 6) t.wk, en w "late" (t.k 7) t.late, en w "call" (t.k 8) t.call, en w "serving" (t.k 9) (.ref t.sv), en w "masters" (t.k 10) (.ref t.ms),
   en w "raised" (t.k 11) t.raised, en w "answer" (t.k 12) t.answer, en w "is_abnormal" (t.k 13) (.bool false), en w "inside" (t.k 14) t.inside, en w "activator" (t.k 15) act,
   en w "pending" (t.k 16) t.pending, en w "has_failed" (t.k 17) t.failed, en w "stack" (t.k 18) t.stack, en w "frame" (t.k 19) t.frame, en w "result" (t.k 20) t.result, en w "bases" (t.k 21) t.bases,
   en w "caught" (t.k 22) t.caught, en w "resume" (t.k 23) t.resume, en w "leaving" (t.k 24) t.leaving, en w "line" (t.k 25) t.line]
noncomputable abbrev tl (w : World) (t : TR) (rest : Led) : Led := (t.a, instObj 177 t.d) :: (t.d, dictOf (tes w t .none) 26) :: (t.q, dictOf [] 0) :: (t.sv, W.listOf #[] 0) :: (t.ms, W.listOf #[] 0) :: rest
/-- the ledger of many tasks -/
noncomputable def tls (w : World) (ts : List TR) (rest : Led) : Led := ts.foldr (tl w) rest
structure TR.Ok (t : TR) : Prop where
  h1 : @Ne Nat t.a t.d
  h2 : @Ne Nat t.q t.d
  h3 : @Ne Nat t.sv t.d
  h4 : @Ne Nat t.ms t.d
noncomputable def Off (d : Addr) (rest : Led) : Prop := ∀ p ∈ rest, p.1 ≠ d


theorem wake_spec {w : World} (t : TR) (ans rai : Value) (rest : Led) (hoff : ∀ p ∈ rest, p.1 ≠ t.d) (hok : t.Ok) :
    Spec w 400 1000 188 [.ref t.a, ans, rai] (tl w t rest) fun r l => r = .none ∧ ∃ o tk, l = tl w { t with st := "ready", ts := tk, open_ := o, wk := .none, late := .none, answer := ans, raised := rai } rest := by
  intro pr loose mean mg mb cn cnm cig cic cmo a ccd cl outer A₀ base h₀ L m s Q E B F X N T hret
  have ⟨h1, h2, h3, h4⟩ := hok
  k_steps
  exact hret _ _ _ _ ⟨rfl, _, _, rfl⟩ (by assumption) (fun p hp => ‹News h₀ L _ (_ :: (t.a, _) :: _)› p (.tail _ hp))

set_option genInjectivity false in
set_option genSizeOf false in
/-- the system: tasking, clock, the tasks' list, the library's master -/
structure SY where
  T : Addr
  TD : Addr
  C : Addr
  CD : Addr
  TL : Addr
  n : Nat
  LB : Addr
  LBD : Addr
  k : Nat → Tok
  lim : Value
  choose : Value
  numbers : Value
  lnum : Value
  lown : Value
  ldep : Value
noncomputable abbrev tkd (w : World) (y : SY) (se : Int) (tse : Tok) : List DictEntry := [en w "limits" (y.k 0) y.lim, en w "choose" (y.k 1) y.choose, en w "clock" (y.k 2) (.ref y.C), en w "tasks" (y.k 3) (.ref y.TL), en w "numbers" (y.k 4) y.numbers, en w "settled" (y.k 5) (.int se tse), en w "library" (y.k 6) (.ref y.LB)]
noncomputable abbrev ckd (w : World) (y : SY) (now : Int) (tn : Tok) : List DictEntry := [en w "now" (y.k 7) (.int now tn)]
noncomputable abbrev lbd (w : World) (y : SY) : List DictEntry := [en w "number" (y.k 8) y.lnum, en w "owner" (y.k 9) y.lown, en w "dependents" (y.k 10) y.ldep, en w "is_ended" (y.k 11) (.bool false)]
/-- the ledger of the system: its clock at now, its count of settlings se -/
noncomputable abbrev syl (w : World) (y : SY) (now : Int) (tn : Tok) (se : Int) (tse : Tok) (vs : List Value) (rest : Led) : Led :=
  (y.T, instObj 370 y.TD) :: (y.TD, dictOf (tkd w y se tse) 7) :: (y.C, instObj 31 y.CD) :: (y.CD, dictOf (ckd w y now tn) 1) :: (y.TL, W.listOf vs.toArray y.n) :: (y.LB, instObj 233 y.LBD) :: (y.LBD, dictOf (lbd w y) 4) :: rest
theorem freshL0 : True := by
  k_with_none
  (k_with "CJ" => (first | with_reducible assumption | with_reducible exact And.left (by first | with_reducible assumption | with_reducible exact And.right (by first | with_reducible assumption | with_reducible exact And.right (by first | with_reducible assumption | with_reducible exact And.right (by first | with_reducible assumption | with_reducible exact And.right (by first | with_reducible assumption | with_reducible exact And.right (by first | with_reducible assumption | with_reducible exact And.right (by first | with_reducible assumption | with_reducible exact And.right (by first | with_reducible assumption | with_reducible exact And.right (by first | with_reducible assumption | with_reducible exact And.right (by first | with_reducible assumption | with_reducible exact And.right (by first | with_reducible assumption | with_reducible exact And.right (by first | with_reducible assumption | with_reducible exact And.right (by first | with_reducible assumption | with_reducible exact And.right (by first | with_reducible assumption | with_reducible exact And.right (by first | with_reducible assumption | with_reducible exact And.right (by first | with_reducible assumption | with_reducible exact And.right (by first | with_reducible assumption | with_reducible exact And.right (by first | with_reducible assumption | with_reducible exact And.right (by first | with_reducible assumption | with_reducible exact And.right (by first | with_reducible assumption | with_reducible exact And.right (by first | with_reducible assumption | with_reducible exact And.right (by first | with_reducible assumption | with_reducible exact And.right (by with_reducible assumption)))))))))))))))))))))))))
  (k_with "execs cons" => (k_here; (fail_if_success (fail_if_success k_gentoks)); (with_reducible refine gen_toks ?_); intro tk))
  (k_with "execs nil" => (k_here; (fail_if_success (fail_if_success k_gentoks)); (with_reducible refine gen_toks ?_); intro tk))
  w_top off
  trivial
section
variable {prog : Program} {w : World} {A : Around} {E : Value → Shared → Prop} {s : Shared} {env : Env} {h₀ : Heap} {x : Str} {body : List Stmt} {Q : Flow → Shared → Prop}

theorem unrEnd_mono {L I : Addr} {it : Obj} {s₁ s₂ : Shared} {R R' : (Str → Option Value) → Led → Prop} (h : UnrEnd h₀ L s₁ I it R s₂) (k : ∀ m n, R m n → R' m n) : UnrEnd h₀ L s₁ I it R' s₂ :=
  let ⟨h', tk, m', n', e, F, N, o, r⟩ := h; ⟨h', tk, m', n', e, F, N, o, k _ _ r⟩

theorem listRest_ind {I : Addr} {lp : Addr × Obj} (J : List Value → (Str → Option Value) → Led → Prop)
    (step : ∀ v r m news, J (v :: r) m news → ∀ (it : Obj) h tk, it.cls = .type "list_iterator" → Fr h₀ env.locals h (fun y => if y = x then some v else m y) → News h₀ env.locals h ((I, it) :: news) →
      wpAny (model prog w) A (execs body env) (UnrPost h₀ env.locals { s with heap := h, toks := tk } I it (fun m' n' => lp ∈ n' ∧ J r m' n') Q) E { s with heap := h, toks := tk })
    (done : ∀ m news, J [] m news → ∀ h tk, Fr h₀ env.locals h m → News h₀ env.locals h news → Q .next { s with heap := h, toks := tk }) :
    ∀ vs m news, J vs m news → ListRest prog w A E h₀ env x body Q s I lp vs m news
  | [], m, news, hj => fun h tk F N => done m news hj h tk F N
  | v :: r, m, news, hj => fun it h tk hc F N => by
    refine wpAny_mono (step v r m news hj it h tk hc F N) (fun f s₂ p => ?_) fun _ _ e => e
    have k : ∀ m' n', lp ∈ n' ∧ J r m' n' → lp ∈ n' ∧ ListRest prog w A E h₀ env x body Q s I lp r m' n' := fun m' n' q => ⟨q.1, listRest_ind J step done r m' n' q.2⟩
    cases f with
    | ret v => exact p
    | brk => exact p
    | next => exact unrEnd_mono p k
    | cont => exact unrEnd_mono p k
end

section
variable {prog : Program} {w : World} {A : Around} {E : Value → Shared → Prop} {s : Shared} {h₀ : Heap} {L : Addr} {m : Str → Option Value} {env : Env} {elt ct : Expr} {x : Str} {scope : Scope} {cl : List (Str × Addr)} {S : Led → Prop} {P : Nat → Value → Prop} {Fin : List Value → Led → Prop}
theorem compEnd_mono {s₁ s₂ : Shared} {I C D : Addr} {oI oC oD : Obj} {R R' : Value → Led → Prop} {y : Value} (h : LCg.CompEnd h₀ L m s₁ I oI C oC D oD S R y s₂) (k : ∀ n, S n → R y n → R' y n) : LCg.CompEnd h₀ L m s₁ I oI C oC D oD S R' y s₂ :=
  let ⟨h', tk, n', e, F, N, o, hs, r⟩ := h; ⟨h', tk, n', e, F, N, o, hs, k _ hs r⟩
theorem compRest_ind {n : Nat} (J : Nat → List Value → Led → Prop)
    (step : ∀ i ys news, i < n → J i ys news → ∀ v I oI C oC D m₂ h tk (E' : Value → Shared → Prop), P i v → LCg.NsObj oC m₂ → m₂ x = some v → Fr h₀ L h m → News h₀ L h ((I, oI) :: (C, oC) :: (D, LCg.lst ys) :: news) → LCg.Off3 I C D news → ((@Ne Nat I C) ∧ (@Ne Nat I D) ∧ (@Ne Nat C D)) →
      wpAny (model prog w) A (eval elt (compEnvC scope cl C env)) (LCg.CompEnd h₀ L m { s with heap := h, toks := tk } I oI C oC D (LCg.lst ys) S (fun y news' => J (i + 1) (ys ++ [y]) news')) E' { s with heap := h, toks := tk })
    (done : ∀ ys news, J n ys news → Fin ys news) :
    ∀ k i ys news, i + k = n → J i ys news → LCg.CompRest prog w A h₀ L m env elt x scope cl s S P Fin k i ys news
  | 0, i, ys, news, e, hj => done ys news (by have : i = n := by omega
                                              rw [← this]; exact hj)
  | k + 1, i, ys, news, e, hj => fun v I oI C oC D m₂ h tk E' hp hC hx F N o ne => by
    refine wpAny_mono (step i ys news (by omega) hj v I oI C oC D m₂ h tk E' hp hC hx F N o ne) (fun y s₂ p => ?_) fun _ _ e => e
    exact compEnd_mono p fun n' _ q => compRest_ind J step done k (i + 1) (ys ++ [y]) n' (by omega) q
theorem compRestT_ind {n : Nat} (J : Nat → List Value → Led → Prop)
    (step : ∀ i ys news, i < n → J i ys news → ∀ v I oI C oC D m₂ h tk (E' : Value → Shared → Prop), P i v → LCg.NsObj oC m₂ → m₂ x = some v → Fr h₀ L h m → News h₀ L h ((I, oI) :: (C, oC) :: (D, LCg.lst ys) :: news) → LCg.Off3 I C D news → ((@Ne Nat I C) ∧ (@Ne Nat I D) ∧ (@Ne Nat C D)) →
      wpAny (model prog w) A (isTrue ct (compEnvC scope cl C env) (eval ct (compEnvC scope cl C env))) (fun ok s' => if ok = true then
        wpAny (model prog w) A (eval elt (compEnvC scope cl C env)) (LCg.CompEnd h₀ L m { s with heap := h, toks := tk } I oI C oC D (LCg.lst ys) S (fun y news' => J (i + 1) (ys ++ [y]) news')) E' s'
        else LCg.CompEnd h₀ L m { s with heap := h, toks := tk } I oI C oC D (LCg.lst ys) S (fun _ news' => J (i + 1) ys news') Value.none s') E' { s with heap := h, toks := tk })
    (done : ∀ ys news, J n ys news → Fin ys news) :
    ∀ k i ys news, i + k = n → J i ys news → LCt.CompRestT prog w A h₀ L m env ct elt x scope cl s S P Fin k i ys news
  | 0, i, ys, news, e, hj => done ys news (by have : i = n := by omega
                                              rw [← this]; exact hj)
  | k + 1, i, ys, news, e, hj => fun v I oI C oC D m₂ h tk E' hp hC hx F N o ne => by
    refine wpAny_mono (step i ys news (by omega) hj v I oI C oC D m₂ h tk E' hp hC hx F N o ne) (fun ok s₂ p => ?_) fun _ _ e => e
    cases ok with
    | true =>
      simp only [if_true] at p ⊢
      exact wpAny_mono p (fun y s₃ q => compEnd_mono q fun n' _ q => compRestT_ind J step done k (i + 1) (ys ++ [y]) n' (by omega) q) fun _ _ e => e
    | false =>
      simp only [Bool.false_eq_true, if_false] at p ⊢
      exact compEnd_mono p fun n' _ q => compRestT_ind J step done k (i + 1) ys n' (by omega) q
end

/-- an end at which the frame is m and the ledger led -/
noncomputable def Ends (h₀ : Heap) (L : Addr) (m : Str → Option Value) (s : Shared) (led : Led) (s' : Shared) : Prop :=
  ∃ h' tk, s' = { s with heap := h', toks := tk } ∧ Fr h₀ L h' m ∧ News h₀ L h' led
theorem Ends.intro {h₀ : Heap} {L : Addr} {m : Str → Option Value} {s : Shared} {led : Led} {h' : Heap} {tk : Nat} (F : Fr h₀ L h' m) (N : News h₀ L h' led) : Ends h₀ L m s led { s with heap := h', toks := tk } := ⟨h', tk, rfl, F, N⟩
theorem News.sub {h₀ h : Heap} {L : Addr} {l l' : Led} (N : News h₀ L h l) (k : ∀ p ∈ l', p ∈ l) : News h₀ L h l' := fun p hp => N p (k p hp)

section
variable {w : World}
theorem mem_tls {ts : List TR} {rest : Led} {p : Addr × Obj} : p ∈ tls w ts rest ↔ (∃ t ∈ ts, p ∈ tl w t []) ∨ p ∈ rest := by
  induction ts with
  | nil => exact ⟨.inr, fun h => h.elim (fun ⟨_, h, _⟩ => nomatch h) id⟩
  | cons t ts ih =>
    refine (List.mem_append : p ∈ tl w t [] ++ tls w ts rest ↔ _).trans ((or_congr Iff.rfl ih).trans (or_assoc.symm.trans (or_congr ?_ Iff.rfl)))
    simp only [List.mem_cons, exists_eq_or_imp]
theorem mem_tl {t : TR} {rest : Led} {p : Addr × Obj} : p ∈ tl w t rest ↔ p ∈ tl w t [] ∨ p ∈ rest := (List.mem_append : p ∈ tl w t [] ++ rest ↔ _)
noncomputable def vals (ts : List TR) : List Value := ts.map fun t => .ref t.a
noncomputable def ta (t : TR) : List Addr := [t.a, t.d, t.q, t.sv, t.ms]
noncomputable def tas (ts : List TR) : List Addr := ts.flatMap ta
theorem mem_tl_ta {t : TR} {p : Addr × Obj} (h : p ∈ tl w t []) : p.1 ∈ ta t := by
  simp only [List.mem_cons, List.not_mem_nil, or_false] at h
  rcases h with h | h | h | h | h <;> rw [h] <;> simp [ta]
theorem mem_tls_tas {ts : List TR} {p : Addr × Obj} (h : p ∈ tls w ts []) : p.1 ∈ tas ts := by
  rcases mem_tls.mp h with ⟨t, ht, h⟩ | h
  · exact List.mem_flatMap.mpr ⟨t, ht, mem_tl_ta h⟩
  · cases h
theorem ok_of_nodup {t : TR} (h : (ta t).Nodup) : t.Ok := by
  simp only [ta, List.nodup_cons, List.mem_cons, List.not_mem_nil, or_false, not_or, not_false_eq_true, List.nodup_nil, and_true] at h
  obtain ⟨⟨a, -, -, -⟩, ⟨b1, b2, b3⟩, _, _⟩ := h
  exact ⟨a, Ne.symm b1, Ne.symm b2, Ne.symm b3⟩
/-- tasks that lie apart from each other; the rest lies off them -/
structure Apart (ts : List TR) (rest : Led) : Prop where
  nodup : (tas ts).Nodup
  off : ∀ p ∈ rest, p.1 ∉ tas ts
theorem Apart.at {pre post : List TR} {t : TR} {rest : Led} (h : Apart (pre ++ t :: post) rest) : t.Ok ∧ ∀ p ∈ tls w pre (tls w post rest), p.1 ≠ t.d := by
  have hn := h.nodup
  simp only [tas, List.flatMap_append, List.flatMap_cons] at hn
  rw [List.nodup_append] at hn
  obtain ⟨n1, n2, n3⟩ := hn
  rw [List.nodup_append] at n2
  obtain ⟨n4, n5, n6⟩ := n2
  have hd : t.d ∈ ta t := by simp [ta]
  refine ⟨ok_of_nodup n4, fun p hp e => ?_⟩
  rcases mem_tls.mp hp with ⟨t', ht, hp⟩ | hp
  · exact n3 p.1 (List.mem_flatMap.mpr ⟨t', ht, mem_tl_ta hp⟩) p.1 (by rw [e]; exact List.mem_append_left _ hd) rfl
  · rcases mem_tls.mp hp with ⟨t', ht, hp⟩ | hp
    · exact n6 t.d hd p.1 (List.mem_flatMap.mpr ⟨t', ht, mem_tl_ta hp⟩) e.symm
    · refine h.off p hp ?_
      rw [e]
      simp only [tas, List.flatMap_append, List.flatMap_cons, List.mem_append]
      exact .inr (.inl hd)
theorem tls_split {pre post : List TR} {t : TR} {rest : Led} : ∀ p, p ∈ tls w (pre ++ t :: post) rest ↔ p ∈ tl w t (tls w pre (tls w post rest)) := by
  intro p
  rw [mem_tl, mem_tls, mem_tls, mem_tls]
  simp only [List.mem_append, List.mem_cons]
  constructor
  · rintro (⟨t', h | rfl | h, hp⟩ | h)
    · exact .inr (.inl ⟨t', h, hp⟩)
    · exact .inl hp
    · exact .inr (.inr (.inl ⟨t', h, hp⟩))
    · exact .inr (.inr (.inr h))
  · rintro (hp | ⟨t', h, hp⟩ | ⟨t', h, hp⟩ | h)
    · exact .inl ⟨t, .inr (.inl rfl), hp⟩
    · exact .inl ⟨t', .inl h, hp⟩
    · exact .inl ⟨t', .inr (.inr h), hp⟩
    · exact .inr h
end
theorem freshL1 : True := by
  k_with_none
  (k_with "CJ" => (first | with_reducible assumption | with_reducible exact And.left (by first | with_reducible assumption | with_reducible exact And.right (by first | with_reducible assumption | with_reducible exact And.right (by first | with_reducible assumption | with_reducible exact And.right (by first | with_reducible assumption | with_reducible exact And.right (by first | with_reducible assumption | with_reducible exact And.right (by first | with_reducible assumption | with_reducible exact And.right (by first | with_reducible assumption | with_reducible exact And.right (by first | with_reducible assumption | with_reducible exact And.right (by first | with_reducible assumption | with_reducible exact And.right (by first | with_reducible assumption | with_reducible exact And.right (by first | with_reducible assumption | with_reducible exact And.right (by first | with_reducible assumption | with_reducible exact And.right (by first | with_reducible assumption | with_reducible exact And.right (by first | with_reducible assumption | with_reducible exact And.right (by first | with_reducible assumption | with_reducible exact And.right (by first | with_reducible assumption | with_reducible exact And.right (by first | with_reducible assumption | with_reducible exact And.right (by first | with_reducible assumption | with_reducible exact And.right (by first | with_reducible assumption | with_reducible exact And.right (by first | with_reducible assumption | with_reducible exact And.right (by first | with_reducible assumption | with_reducible exact And.right (by first | with_reducible assumption | with_reducible exact And.right (by with_reducible assumption)))))))))))))))))))))))))
  (k_with "execs cons" => (k_here; (fail_if_success (fail_if_success k_gentoks)); (with_reducible refine gen_toks ?_); intro tk))
  (k_with "execs nil" => (k_here; (fail_if_success (fail_if_success k_gentoks)); (with_reducible refine gen_toks ?_); intro tk))
  w_top off
  trivial
/-- a goal at which the walk stands still -/
noncomputable def Wrap (P : Prop) : Prop := P
theorem Wrap.intro {P : Prop} (h : P) : Wrap P := h
theorem mem_tas_led (w : World) {ts : List TR} (rest : Led) {a : Addr} (h : a ∈ tas ts) : ∃ p ∈ tls w ts rest, p.1 = a := by
  obtain ⟨t, ht, ha⟩ := List.mem_flatMap.mp h
  simp only [ta, List.mem_cons, List.not_mem_nil, or_false] at ha
  have k : ∀ p ∈ tl w t [], p ∈ tls w ts rest := fun p hp => mem_tls.mpr (.inl ⟨t, ht, hp⟩)
  rcases ha with h | h | h | h | h
  · exact ⟨_, k (t.a, _) (.head _), h.symm⟩
  · exact ⟨_, k (t.d, _) (.tail _ (.head _)), h.symm⟩
  · exact ⟨_, k (t.q, _) (.tail _ (.tail _ (.head _))), h.symm⟩
  · exact ⟨_, k (t.sv, _) (.tail _ (.tail _ (.tail _ (.head _)))), h.symm⟩
  · exact ⟨_, k (t.ms, _) (.tail _ (.tail _ (.tail _ (.tail _ (.head _))))), h.symm⟩
theorem vals_cons {v : Value} {r : List Value} {rem : List TR} (h : v :: r = vals rem) : ∃ t rem', rem = t :: rem' ∧ v = .ref t.a ∧ r = vals rem' := by
  cases rem with
  | nil => cases h
  | cons t rem' => exact ⟨t, rem', rfl, (List.cons.inj h).1, (List.cons.inj h).2⟩

section
variable {prog : Program} {w : World} {A : Around} {E : Value → Shared → Prop} {s : Shared} {env : Env} {test : PySem.Expr} {body orelse : List Stmt} {Q : Flow → Shared → Prop}
/-- what stands behind a while's body: the walk stands still at the next turn -/
noncomputable def WhlW (prog : Program) (w : World) (A : Around) (env : Env) (test : PySem.Expr) (body orelse : List Stmt) (Q : Flow → Shared → Prop) (f : Flow) (s : Shared) : Prop :=
  match f with
  | .ret v => Q (.ret v) s
  | .brk => Q .next s
  | _ => Wrap (WhlRest prog w A (fun _ _ => False) env test body orelse Q 100 s)
theorem whl_turnW (h : wpAny (model prog w) A (isTrue test env (eval test env)) (fun b s₂ => if b = true then wpAny (model prog w) A (execs body env) (WhlW prog w A env test body orelse Q) (fun _ _ => False) s₂ else wpAny (model prog w) A (execs orelse env) Q (fun _ _ => False) s₂) (fun _ _ => False) s) :
    WhlRest prog w A (fun _ _ => False) env test body orelse Q 100 s := by
  refine whl_turn PassesOwn.never (wpAny_mono h (fun b s₂ q => ?_) fun _ _ e => e)
  cases b with
  | true =>
    rw [if_pos rfl] at q
    refine WhlIf.yes rfl (wpAny_mono q (fun f s₃ p => ?_) fun _ _ e => e)
    cases f <;> exact p
  | false =>
    rw [if_neg Bool.false_ne_true] at q
    exact WhlIf.no rfl q
theorem whl_startW {pos : Pos} (h : Wrap (WhlRest prog w A (fun _ _ => False) env test body orelse Q 100 s)) : wpAny (model prog w) A (exec (.While test body orelse pos) env) Q E s := wpAny_noRaise (whl_start 100 h)
end

section
variable {prog : Program} {w : World} {A : Around} {E : Value → Shared → Prop} {s : Shared} {env : Env} {h₀ : Heap} {x : Str} {body : List Stmt} {Q : Flow → Shared → Prop}
theorem iter_nil {ax : Addr} {n : Nat} {m₀ : Str → Option Value} {news : Led} (hh : A.handled = none) (F : Fr h₀ env.locals s.heap m₀) (N : News h₀ env.locals s.heap news) (hm : (ax, W.listOf #[] n) ∈ news)
    (h : ∀ h' tk, Fr h₀ env.locals h' m₀ → News h₀ env.locals h' news → Q .next { s with heap := h', toks := tk }) :
    wpAny (model prog w) A (pyIter (.ref ax)) (fun it s₂ => LoopAtV prog w A h₀ env x body Q E it s₂) E s :=
  iter_listUnr (lo := W.listOf #[] n) (vs := []) hh F N hm rfl rfl fun _ _ => ListRest.zero h
theorem list_for {σ : Type} (mm : σ → Str → Option Value) (K : σ → List Value → List Value → Prop) (σ₀ : σ) (vs₀ : List Value) {ax : Addr} {n : Nat} {m₀ : Str → Option Value} {news : Led}
    (hh : A.handled = none) (F : Fr h₀ env.locals s.heap m₀) (N : News h₀ env.locals s.heap news) (hl : (ax, W.listOf vs₀.toArray n) ∈ news) (hm : ∀ y, y ≠ x → m₀ y = mm σ₀ y) (hK : K σ₀ [] vs₀)
    (turn : ∀ σ done v rem I it h tk, K σ done (v :: rem) → (∀ p ∈ news, p.1 < I) → Fr h₀ env.locals h (fun y => if y = x then some v else mm σ y) → News h₀ env.locals h ((I, it) :: news) →
      wpAny (model prog w) A (execs body env) (fun f s₂ => match f with
        | .ret v => Q (.ret v) s₂
        | .brk => Q .next s₂
        | _ => Wrap (∃ σ' m', K σ' (done ++ [v]) rem ∧ (∀ y, y ≠ x → m' y = mm σ' y) ∧ Ends h₀ env.locals m' { s with heap := h, toks := tk } ((I, it) :: news) s₂)) E { s with heap := h, toks := tk })
    (done : ∀ σ u h tk, K σ vs₀ [] → Fr h₀ env.locals h (fun y => if y = x then u else mm σ y) → News h₀ env.locals h news → Q .next { s with heap := h, toks := tk }) :
    wpAny (model prog w) A (pyIter (.ref ax)) (fun it s₂ => LoopAtV prog w A h₀ env x body Q E it s₂) E s := by
  refine iter_listUnr (lo := W.listOf vs₀.toArray n) (vs := vs₀) hh F N hl rfl rfl fun I hI => ?_
  refine listRest_ind (fun vs m news' => ∃ σ done, vs₀ = done ++ vs ∧ K σ done vs ∧ (∀ y, y ≠ x → m y = mm σ y) ∧ news' = news) ?_ ?_ _ _ _ ⟨σ₀, [], rfl, hK, hm, rfl⟩
  · rintro v r m news' ⟨σ, dn, hv, hk, hm', rfl⟩ it h tk hit F₁ N₁
    have e : (fun y => if y = x then some v else m y) = fun y => if y = x then some v else mm σ y := by
      funext y
      by_cases h1 : y = x
      · simp [h1]
      · simp only [if_neg h1]; exact hm' y h1
    rw [e] at F₁
    refine wpAny_mono (turn σ dn v r I it h tk hk hI F₁ N₁) (fun f s₂ p => ?_) fun _ _ e => e
    have fin : (∃ σ' m', K σ' (dn ++ [v]) r ∧ (∀ y, y ≠ x → m' y = mm σ' y) ∧ Ends h₀ env.locals m' { s with heap := h, toks := tk } ((I, it) :: news') s₂) →
        UnrEnd h₀ env.locals { s with heap := h, toks := tk } I it (fun m' n' => (ax, W.listOf vs₀.toArray n) ∈ n' ∧ ∃ σ done, vs₀ = done ++ r ∧ K σ done r ∧ (∀ y, y ≠ x → m' y = mm σ y) ∧ n' = news') s₂ := by
      rintro ⟨σ', m', hk', hm', h', tk', rfl, F', N'⟩
      exact ⟨h', tk', m', news', rfl, F', N', fun p hp => Nat.ne_of_lt (hI p hp), hl, σ', dn ++ [v], by rw [hv]; simp, hk', hm', rfl⟩
    cases f with
    | ret v => exact p
    | brk => exact p
    | next => exact fin p
    | cont => exact fin p
  · rintro m news' ⟨σ, dn, hv, hk, hm', rfl⟩ h tk F₁ N₁
    rw [List.append_nil] at hv
    subst hv
    have e : (fun y => if y = x then m x else mm σ y) = m := by
      funext y
      by_cases h1 : y = x
      · simp [h1]
      · simp only [if_neg h1]; exact (hm' y h1).symm
    exact done σ (m x) h tk hk (by rw [e]; exact F₁) N₁
theorem list_for1 {σ : Type} (nm : Str) (val : σ → Value) (M : Str → Option Value) (K : σ → List Value → List Value → Prop) (σ₀ : σ) (vs₀ : List Value) {ax : Addr} {n : Nat} {news : Led}
    (hh : A.handled = none) (F : Fr h₀ env.locals s.heap (fun y => if y = nm then some (val σ₀) else M y)) (N : News h₀ env.locals s.heap news) (hl : (ax, W.listOf vs₀.toArray n) ∈ news) (hK : K σ₀ [] vs₀)
    (turn : ∀ σ done v rem I it h tk, K σ done (v :: rem) → (∀ p ∈ news, p.1 < I) → Fr h₀ env.locals h (fun y => if y = x then some v else if y = nm then some (val σ) else M y) → News h₀ env.locals h ((I, it) :: news) →
      wpAny (model prog w) A (execs body env) (fun f s₂ => match f with
        | .ret v => Q (.ret v) s₂
        | .brk => Q .next s₂
        | _ => Wrap (∃ σ' m', K σ' (done ++ [v]) rem ∧ (∀ y, y ≠ x → m' y = if y = nm then some (val σ') else M y) ∧ Ends h₀ env.locals m' { s with heap := h, toks := tk } ((I, it) :: news) s₂)) E { s with heap := h, toks := tk })
    (done : ∀ σ u h tk, K σ vs₀ [] → Fr h₀ env.locals h (fun y => if y = x then u else if y = nm then some (val σ) else M y) → News h₀ env.locals h news → Q .next { s with heap := h, toks := tk }) :
    wpAny (model prog w) A (pyIter (.ref ax)) (fun it s₂ => LoopAtV prog w A h₀ env x body Q E it s₂) E s :=
  list_for (fun σ y => if y = nm then some (val σ) else M y) K σ₀ vs₀ hh F N hl (fun _ _ => rfl) hK turn done
theorem tasks_for {σ : Type} (mm : σ → Str → Option Value) (pre : σ → Led) (ad wr : List Addr) (rest : Led) (ts₀ : List TR) (K : σ → List TR → List TR → Prop) (σ₀ : σ) {TL : Addr} {n : Nat} {vs₀ : List Value} (hvs : vals ts₀ = vs₀) {m₀ : Str → Option Value} {news : Led}
    (hh : A.handled = none) (F : Fr h₀ env.locals s.heap m₀) (N : News h₀ env.locals s.heap news) (hsub : ∀ p ∈ pre σ₀ ++ tls w ts₀ rest, p ∈ news)
    (hm : ∀ y, y ≠ x → m₀ y = mm σ₀ y) (hlp : ∀ σ, (TL, W.listOf vs₀.toArray n) ∈ pre σ) (had : ∀ σ, (pre σ).map (·.1) = ad) (hap : Apart ts₀ rest) (hoff : ∀ a ∈ ad, a ∉ tas ts₀) (hwr : ∀ a ∈ wr, a ∈ ad ∧ ∀ p ∈ rest, p.1 ≠ a) (hK : K σ₀ [] ts₀)
    (turn : ∀ σ done t rem h tk other, K σ done (t :: rem) → t.Ok → (∀ p ∈ other, p.1 ≠ t.d) → (∀ a ∈ ad, a ≠ t.d) → (∀ a ∈ wr, ∀ p ∈ other, p.1 ≠ a) → (∀ p ∈ tls w done (tls w rem rest), p ∈ other) → tas (done ++ t :: rem) = tas ts₀ →
      Fr h₀ env.locals h (fun y => if y = x then some (.ref t.a) else mm σ y) → News h₀ env.locals h (pre σ ++ tl w t other) →
      wpAny (model prog w) A (execs body env) (fun f s₂ => match f with
        | .ret v => Q (.ret v) s₂
        | .brk => Q .next s₂
        | _ => Wrap (∃ σ' t' m', K σ' (done ++ [t']) rem ∧ ta t' = ta t ∧ (∀ y, y ≠ x → m' y = mm σ' y) ∧ Ends h₀ env.locals m' { s with heap := h, toks := tk } (pre σ' ++ tl w t' other) s₂)) E { s with heap := h, toks := tk })
    (done : ∀ σ ts' u h tk, K σ ts' [] → tas ts' = tas ts₀ → Fr h₀ env.locals h (fun y => if y = x then u else mm σ y) → News h₀ env.locals h (pre σ ++ tls w ts' rest) → Q .next { s with heap := h, toks := tk }) :
    wpAny (model prog w) A (pyIter (.ref TL)) (fun it s₂ => LoopAtV prog w A h₀ env x body Q E it s₂) E s := by
  subst hvs
  have N₀ := News.sub N hsub
  refine iter_listUnr (lo := W.listOf (vals ts₀).toArray n) (vs := vals ts₀) hh F N₀ (List.mem_append_left _ (hlp σ₀)) rfl rfl fun I hI => ?_
  have hIad : ∀ a ∈ ad, a < I := by
    intro a ha
    rw [← had σ₀] at ha
    obtain ⟨p, hp, rfl⟩ := List.mem_map.mp ha
    exact hI p (List.mem_append_left _ hp)
  have hIt : ∀ a ∈ tas ts₀, a < I := by
    intro a ha
    obtain ⟨p, hp, rfl⟩ := mem_tas_led w rest ha
    exact hI p (List.mem_append_right _ hp)
  have hIr : ∀ p ∈ rest, p.1 < I := fun p hp => hI p (List.mem_append_right _ (mem_tls.mpr (.inr hp)))
  have off : ∀ σ (ts' : List TR), tas ts' = tas ts₀ → ∀ p ∈ pre σ ++ tls w ts' rest, p.1 < I := by
    intro σ ts' ht p hp
    rcases List.mem_append.mp hp with hp | hp
    · exact hIad _ (by rw [← had σ]; exact List.mem_map_of_mem hp)
    · rcases mem_tls.mp hp with ⟨t, h1, h2⟩ | hp
      · exact hIt _ (by rw [← ht]; exact List.mem_flatMap.mpr ⟨t, h1, mem_tl_ta h2⟩)
      · exact hIr p hp
  refine listRest_ind (fun vs m news => ∃ σ done rem, vs = vals rem ∧ K σ done rem ∧ tas (done ++ rem) = tas ts₀ ∧ (∀ y, y ≠ x → m y = mm σ y) ∧ news = pre σ ++ tls w (done ++ rem) rest) ?_ ?_ _ _ _ ⟨σ₀, [], ts₀, rfl, hK, rfl, hm, rfl⟩
  · rintro v r m news ⟨σ, done, rem, hv, hk, ht, hm', rfl⟩ it h tk hit F₁ N₁
    obtain ⟨t, rem', rfl, rfl, rfl⟩ := vals_cons hv
    have ap : Apart (done ++ t :: rem') rest := ⟨by rw [ht]; exact hap.nodup, by rw [ht]; exact hap.off⟩
    have htd : t.d ∈ tas ts₀ := by rw [← ht]; exact List.mem_flatMap.mpr ⟨t, by simp, by simp [ta]⟩
    have e : (fun y => if y = x then some (Value.ref t.a) else m y) = fun y => if y = x then some (Value.ref t.a) else mm σ y := by
      funext y
      by_cases h1 : y = x
      · simp [h1]
      · simp only [if_neg h1]; exact hm' y h1
    rw [e] at F₁
    refine wpAny_mono (turn σ done t rem' h tk ((I, it) :: tls w done (tls w rem' rest)) hk (ap.at (w := w)).1 ?_ (fun a ha q => hoff a ha (q ▸ htd)) ?_ (fun p hp => .tail _ hp) ht F₁ (News.sub N₁ ?_)) (fun f s₂ p => ?_) fun _ _ e => e
    · intro p hp
      rcases List.mem_cons.mp hp with rfl | hp
      · exact fun q => absurd (hIt _ htd) (q ▸ Nat.lt_irrefl _)
      · exact ap.at.2 p hp
    · intro a ha p hp e
      rcases List.mem_cons.mp hp with rfl | hp
      · exact Nat.lt_irrefl _ ((show I = a from e) ▸ hIad a (hwr a ha).1)
      · have q : ∀ (ts' : List TR), (∀ t' ∈ ts', t' ∈ done ++ t :: rem') → ∀ p ∈ tls w ts' [], p.1 ≠ a := fun ts' hs p hp e => by
          rcases mem_tls.mp hp with ⟨t', h1, h2⟩ | h
          · exact hoff a (hwr a ha).1 (by rw [← ht, ← e]; exact List.mem_flatMap.mpr ⟨t', hs t' h1, mem_tl_ta h2⟩)
          · cases h
        rcases mem_tls.mp hp with h | hp
        · exact q done (fun _ h => List.mem_append_left _ h) p (mem_tls.mpr (.inl h)) e
        · rcases mem_tls.mp hp with h | hp
          · exact q rem' (fun _ h => List.mem_append_right _ (.tail _ h)) p (mem_tls.mpr (.inl h)) e
          · exact (hwr a ha).2 p hp e
    · intro p hp
      rcases List.mem_append.mp hp with hp | hp
      · exact .tail _ (List.mem_append_left _ hp)
      · rcases mem_tl.mp hp with hp | hp
        · exact .tail _ (List.mem_append_right _ ((tls_split p).mpr (mem_tl.mpr (.inl hp))))
        · rcases List.mem_cons.mp hp with rfl | hp
          · exact .head _
          · exact .tail _ (List.mem_append_right _ ((tls_split p).mpr (mem_tl.mpr (.inr hp))))
    · have fin : (∃ σ' t' m', K σ' (done ++ [t']) rem' ∧ ta t' = ta t ∧ (∀ y, y ≠ x → m' y = mm σ' y) ∧ Ends h₀ env.locals m' { s with heap := h, toks := tk } (pre σ' ++ tl w t' ((I, it) :: tls w done (tls w rem' rest))) s₂) →
          UnrEnd h₀ env.locals { s with heap := h, toks := tk } I it (fun m' n' => (TL, W.listOf (vals ts₀).toArray n) ∈ n' ∧ ∃ σ done rem, vals rem' = vals rem ∧ K σ done rem ∧ tas (done ++ rem) = tas ts₀ ∧ (∀ y, y ≠ x → m' y = mm σ y) ∧ n' = pre σ ++ tls w (done ++ rem) rest) s₂ := by
        rintro ⟨σ', t', m', hk', ht', hm', h', tk', rfl, F', N'⟩
        have ht2 : tas ((done ++ [t']) ++ rem') = tas ts₀ := by
          rw [← ht]
          simp only [tas, List.flatMap_append, List.flatMap_cons, List.flatMap_nil, List.append_nil, ht', List.append_assoc]
        refine ⟨h', tk', m', pre σ' ++ tls w ((done ++ [t']) ++ rem') rest, rfl, F', News.sub N' ?_, fun p hp => Nat.ne_of_lt (off σ' _ ht2 p hp), List.mem_append_left _ (hlp σ'), σ', done ++ [t'], rem', rfl, hk', ht2, hm', rfl⟩
        intro p hp
        rcases List.mem_cons.mp hp with rfl | hp
        · exact List.mem_append_right _ (mem_tl.mpr (.inr (.head _)))
        · rcases List.mem_append.mp hp with hp | hp
          · exact List.mem_append_left _ hp
          · rw [show done ++ [t'] ++ rem' = done ++ t' :: rem' by simp] at hp
            rcases mem_tl.mp ((tls_split p).mp hp) with hp | hp
            · exact List.mem_append_right _ (mem_tl.mpr (.inl hp))
            · exact List.mem_append_right _ (mem_tl.mpr (.inr (.tail _ hp)))
      cases f with
      | ret v => exact p
      | brk => exact p
      | next => exact fin p
      | cont => exact fin p
  · rintro m news ⟨σ, dn, rem, hv, hk, ht, hm', rfl⟩ h tk F₁ N₁
    have hr : rem = [] := by
      cases rem with
      | nil => rfl
      | cons t r => cases hv
    subst hr
    rw [List.append_nil] at ht N₁
    have e : (fun y => if y = x then m x else mm σ y) = m := by
      funext y
      by_cases h1 : y = x
      · simp [h1]
      · simp only [if_neg h1]; exact (hm' y h1).symm
    exact done σ dn (m x) h tk hk ht (by rw [e]; exact F₁) N₁

theorem tasks_for1 {σ : Type} (nm : Str) (val : σ → Value) (M : Str → Option Value) (pre : σ → Led) (ad wr : List Addr) (rest : Led) (ts₀ : List TR) (K : σ → List TR → List TR → Prop) (σ₀ : σ) {TL : Addr} {n : Nat} {vs₀ : List Value} (hvs : vals ts₀ = vs₀) {news : Led}
    (hh : A.handled = none) (F : Fr h₀ env.locals s.heap (fun y => if y = nm then some (val σ₀) else M y)) (N : News h₀ env.locals s.heap news) (hsub : ∀ p ∈ pre σ₀ ++ tls w ts₀ rest, p ∈ news)
    (hlp : ∀ σ, (TL, W.listOf vs₀.toArray n) ∈ pre σ) (had : ∀ σ, (pre σ).map (·.1) = ad) (hap : Apart ts₀ rest) (hoff : ∀ a ∈ ad, a ∉ tas ts₀) (hwr : ∀ a ∈ wr, a ∈ ad ∧ ∀ p ∈ rest, p.1 ≠ a) (hK : K σ₀ [] ts₀)
    (turn : ∀ σ done t rem h tk other, K σ done (t :: rem) → t.Ok → (∀ p ∈ other, p.1 ≠ t.d) → (∀ a ∈ ad, a ≠ t.d) → (∀ a ∈ wr, ∀ p ∈ other, p.1 ≠ a) → (∀ p ∈ tls w done (tls w rem rest), p ∈ other) → tas (done ++ t :: rem) = tas ts₀ →
      Fr h₀ env.locals h (fun y => if y = x then some (.ref t.a) else (if y = nm then some (val σ) else M y)) → News h₀ env.locals h (pre σ ++ tl w t other) →
      wpAny (model prog w) A (execs body env) (fun f s₂ => match f with
        | .ret v => Q (.ret v) s₂
        | .brk => Q .next s₂
        | _ => Wrap (∃ σ' t' m', K σ' (done ++ [t']) rem ∧ ta t' = ta t ∧ (∀ y, y ≠ x → m' y = (if y = nm then some (val σ') else M y)) ∧ Ends h₀ env.locals m' { s with heap := h, toks := tk } (pre σ' ++ tl w t' other) s₂)) E { s with heap := h, toks := tk })
    (done : ∀ σ ts' u h tk, K σ ts' [] → tas ts' = tas ts₀ → Fr h₀ env.locals h (fun y => if y = x then u else (if y = nm then some (val σ) else M y)) → News h₀ env.locals h (pre σ ++ tls w ts' rest) → Q .next { s with heap := h, toks := tk }) :
    wpAny (model prog w) A (pyIter (.ref TL)) (fun it s₂ => LoopAtV prog w A h₀ env x body Q E it s₂) E s :=
  tasks_for (fun σ y => if y = nm then some (val σ) else M y) pre ad wr rest ts₀ K σ₀ hvs hh F N hsub (fun _ _ => rfl) hlp had hap hoff hwr hK turn done
end

/-- one task of the ledger to the front -/
theorem turn_perm {w : World} {ts pre1 post : List TR} {t : TR} (sp : ts = pre1 ++ t :: post) (I C D : Addr × Obj) (P rest : Led) (p : Addr × Obj) :
    p ∈ I :: C :: D :: (P ++ tls w ts rest) ↔ p ∈ C :: tl w t (I :: D :: P ++ tls w pre1 (tls w post rest)) := by
  have h1 : p ∈ tls w ts rest ↔ p ∈ tl w t [] ++ tls w pre1 (tls w post rest) := by rw [sp]; exact tls_split p
  have h2 : (I :: C :: D :: (P ++ (tl w t [] ++ tls w pre1 (tls w post rest)))).Perm (C :: (tl w t [] ++ (I :: D :: (P ++ tls w pre1 (tls w post rest))))) := by
    refine (List.Perm.swap C I _).trans (List.Perm.cons C ?_)
    refine (List.Perm.append_left [I, D] (List.perm_append_comm_assoc P (tl w t []) (tls w pre1 (tls w post rest)))).trans ?_
    exact List.perm_append_comm_assoc [I, D] (tl w t []) (P ++ tls w pre1 (tls w post rest))
  refine Iff.trans ?_ h2.mem_iff
  have h3 : p ∈ P ++ tls w ts rest ↔ p ∈ P ++ (tl w t [] ++ tls w pre1 (tls w post rest)) := List.mem_append.trans ((or_congr Iff.rfl h1).trans List.mem_append.symm)
  exact (List.mem_append (s := [I, C, D])).trans ((or_congr Iff.rfl h3).trans (List.mem_append (s := [I, C, D])).symm)
section
variable {prog : Program} {w : World} {A : Around} {E : Value → Shared → Prop} {s : Shared} {h₀ : Heap} {L : Addr} {m : Str → Option Value} {env : Env} {elt ct : Expr} {x : Str} {scope : Scope} {cl : List (Str × Addr)} {Fin : List Value → Led → Prop}
theorem vals_get {ts : List TR} {i : Nat} {v : Value} (h : (vals ts).toArray[i]? = some v) : ∃ t, ts[i]? = some t ∧ v = .ref t.a := by
  have h' : (vals ts)[i]? = some v := by simpa using h
  rw [vals, List.getElem?_map] at h'
  obtain ⟨t, h1, h2⟩ := Option.map_eq_some_iff.mp h'
  exact ⟨t, h1, h2.symm⟩
theorem at_split {α : Type} {ts : List α} {i : Nat} {t : α} (h : ts[i]? = some t) : ts = ts.take i ++ t :: ts.drop (i + 1) := by
  have hl : i < ts.length := (List.getElem?_eq_some_iff.mp h).1
  have he : ts[i] = t := (List.getElem?_eq_some_iff.mp h).2
  rw [← he, ← List.drop_eq_getElem_cons hl, List.take_append_drop]
theorem take_filter_succ {ts : List TR} {i : Nat} {t : TR} (c : TR → Bool) (f : TR → Value) (h : ts[i]? = some t) : ((ts.take (i + 1)).filter c).map f = ((ts.take i).filter c).map f ++ (if c t = true then [f t] else []) := by
  rw [List.take_add_one, h]
  simp only [Option.toList_some, List.filter_append, List.map_append]
  cases hc : c t <;> simp [hc]

theorem tasks_compT (c : TR → Bool) (f : TR → Value) (pre : Led) (rest : Led) (ts : List TR) {TL : Addr} {n : Nat} {vs : List Value} (hvs : vals ts = vs) (hlp : (TL, W.listOf vs.toArray n) ∈ pre)
    (test : ∀ t ∈ ts, ∀ C oC m₂ h tk (E' : Value → Shared → Prop) other, LCg.NsObj oC m₂ → m₂ x = some (.ref t.a) → Fr h₀ L h m → News h₀ L h ((C, oC) :: tl w t other) →
      wpAny (model prog w) A (isTrue ct (compEnvC scope cl C env) (eval ct (compEnvC scope cl C env))) (fun ok s' => Wrap (ok = c t ∧ Ends h₀ L m { s with heap := h, toks := tk } ((C, oC) :: tl w t other) s')) E' { s with heap := h, toks := tk })
    (item : ∀ t ∈ ts, c t = true → ∀ C oC m₂ h tk (E' : Value → Shared → Prop) other, LCg.NsObj oC m₂ → m₂ x = some (.ref t.a) → Fr h₀ L h m → News h₀ L h ((C, oC) :: tl w t other) →
      wpAny (model prog w) A (eval elt (compEnvC scope cl C env)) (fun y s' => Wrap (y = f t ∧ Ends h₀ L m { s with heap := h, toks := tk } ((C, oC) :: tl w t other) s')) E' { s with heap := h, toks := tk })
    (done : Fin ((ts.filter c).map f) (pre ++ tls w ts rest)) :
    LCt.CompRestT prog w A h₀ L m env ct elt x scope cl s (LCg.SrcAt h₀ TL vs.toArray) (fun i v => vs.toArray[i]? = some v) Fin vs.toArray.size 0 [] (pre ++ tls w ts rest) := by
  subst hvs
  have hsz : (vals ts).toArray.size = ts.length := by simp [vals]
  refine compRestT_ind (n := ts.length) (fun i ys news => ys = ((ts.take i).filter c).map f ∧ news = pre ++ tls w ts rest) ?_ ?_ _ _ _ _ (by rw [hsz]; omega) ⟨by simp, rfl⟩
  · rintro i ys news hi ⟨rfl, rfl⟩ v I oI C oC D m₂ h tk E' hv hC hx F N o ne
    obtain ⟨t, ht, rfl⟩ := vals_get hv
    have hmem : t ∈ ts := List.mem_of_getElem? ht
    have sp := at_split ht
    generalize hys : ((ts.take i).filter c).map f = ys at N ⊢
    have perm : ∀ p, p ∈ (I, oI) :: (C, oC) :: (D, LCg.lst ys) :: (pre ++ tls w ts rest) ↔ p ∈ (C, oC) :: tl w t ((I, oI) :: (D, LCg.lst ys) :: pre ++ tls w (ts.take i) (tls w (ts.drop (i + 1)) rest)) := turn_perm sp _ _ _ pre rest
    have N₁ := News.sub N fun p hp => (perm p).mpr hp
    have fin : ∀ {s' : Shared} {ys' : List Value} (y : Value), Ends h₀ L m { s with heap := h, toks := tk } ((C, oC) :: tl w t ((I, oI) :: (D, LCg.lst ys) :: pre ++ tls w (ts.take i) (tls w (ts.drop (i + 1)) rest))) s' → ys' = ((ts.take (i + 1)).filter c).map f →
        LCg.CompEnd h₀ L m { s with heap := h, toks := tk } I oI C oC D (LCg.lst ys) (LCg.SrcAt h₀ TL (vals ts).toArray) (fun _ news' => ys' = ((ts.take (i + 1)).filter c).map f ∧ news' = pre ++ tls w ts rest) y s' := by
      intro s' ys' y ⟨h', tk', e0, F', N'⟩ e
      subst e0
      exact ⟨h', tk', _, rfl, F', News.sub N' fun p hp => (perm p).mp hp, o, .inr ⟨_, List.mem_append_left _ hlp, rfl, _, rfl⟩, e, rfl⟩
    refine wpAny_mono (test t hmem C oC m₂ h tk E' _ hC hx F N₁) (fun ok s₂ q => ?_) fun _ _ e => e
    obtain ⟨rfl, h', tk', rfl, F', N'⟩ := q
    cases hc : c t with
    | true =>
      simp only [if_true]
      refine wpAny_mono (item t hmem hc C oC m₂ h' tk' E' _ hC hx F' N') (fun y s₃ q => ?_) fun _ _ e => e
      obtain ⟨rfl, h'', tk'', rfl, F'', N''⟩ := q
      exact fin (f t) ⟨h'', tk'', rfl, F'', N''⟩ (by rw [take_filter_succ c f ht, hc, hys]; rfl)
    | false =>
      simp only [Bool.false_eq_true, if_false]
      exact fin Value.none ⟨h', tk', rfl, F', N'⟩ (by rw [take_filter_succ c f ht, hc, hys]; simp)
  · rintro ys news ⟨rfl, rfl⟩
    rw [List.take_length]
    exact done

theorem tasks_comp (f : TR → Value) (pre : Led) (rest : Led) (ts : List TR) {TL : Addr} {n : Nat} {vs : List Value} (hvs : vals ts = vs) (hlp : (TL, W.listOf vs.toArray n) ∈ pre)
    (item : ∀ t ∈ ts, ∀ C oC m₂ h tk (E' : Value → Shared → Prop) other, LCg.NsObj oC m₂ → m₂ x = some (.ref t.a) → Fr h₀ L h m → News h₀ L h ((C, oC) :: tl w t other) →
      wpAny (model prog w) A (eval elt (compEnvC scope cl C env)) (fun y s' => Wrap (y = f t ∧ Ends h₀ L m { s with heap := h, toks := tk } ((C, oC) :: tl w t other) s')) E' { s with heap := h, toks := tk })
    (done : Fin (ts.map f) (pre ++ tls w ts rest)) :
    LCg.CompRest prog w A h₀ L m env elt x scope cl s (LCg.SrcAt h₀ TL vs.toArray) (fun i v => vs.toArray[i]? = some v) Fin vs.toArray.size 0 [] (pre ++ tls w ts rest) := by
  subst hvs
  have hsz : (vals ts).toArray.size = ts.length := by simp [vals]
  refine compRest_ind (n := ts.length) (fun i ys news => ys = (ts.take i).map f ∧ news = pre ++ tls w ts rest) ?_ ?_ _ _ _ _ (by rw [hsz]; omega) ⟨by simp, rfl⟩
  · rintro i ys news hi ⟨rfl, rfl⟩ v I oI C oC D m₂ h tk E' hv hC hx F N o ne
    obtain ⟨t, ht, rfl⟩ := vals_get hv
    have hmem : t ∈ ts := List.mem_of_getElem? ht
    have sp := at_split ht
    generalize hys : (ts.take i).map f = ys at N ⊢
    have perm : ∀ p, p ∈ (I, oI) :: (C, oC) :: (D, LCg.lst ys) :: (pre ++ tls w ts rest) ↔ p ∈ (C, oC) :: tl w t ((I, oI) :: (D, LCg.lst ys) :: pre ++ tls w (ts.take i) (tls w (ts.drop (i + 1)) rest)) := turn_perm sp _ _ _ pre rest
    refine wpAny_mono (item t hmem C oC m₂ h tk E' _ hC hx F (News.sub N fun p hp => (perm p).mpr hp)) (fun y s₃ q => ?_) fun _ _ e => e
    obtain ⟨rfl, h', tk', rfl, F', N'⟩ := q
    refine ⟨h', tk', _, rfl, F', News.sub N' fun p hp => (perm p).mp hp, o, .inr ⟨_, List.mem_append_left _ hlp, rfl, _, rfl⟩, ?_, rfl⟩
    rw [List.take_add_one, ht, List.map_append, hys]; rfl
  · rintro ys news ⟨rfl, rfl⟩
    rw [List.take_length]
    exact done
end
theorem freshS7 : True := by
  k_with_none
  (k_with "CJ" => (first | with_reducible assumption | with_reducible exact And.left (by first | with_reducible assumption | with_reducible exact And.right (by first | with_reducible assumption | with_reducible exact And.right (by first | with_reducible assumption | with_reducible exact And.right (by first | with_reducible assumption | with_reducible exact And.right (by first | with_reducible assumption | with_reducible exact And.right (by first | with_reducible assumption | with_reducible exact And.right (by first | with_reducible assumption | with_reducible exact And.right (by first | with_reducible assumption | with_reducible exact And.right (by first | with_reducible assumption | with_reducible exact And.right (by first | with_reducible assumption | with_reducible exact And.right (by first | with_reducible assumption | with_reducible exact And.right (by first | with_reducible assumption | with_reducible exact And.right (by first | with_reducible assumption | with_reducible exact And.right (by first | with_reducible assumption | with_reducible exact And.right (by first | with_reducible assumption | with_reducible exact And.right (by first | with_reducible assumption | with_reducible exact And.right (by first | with_reducible assumption | with_reducible exact And.right (by first | with_reducible assumption | with_reducible exact And.right (by first | with_reducible assumption | with_reducible exact And.right (by first | with_reducible assumption | with_reducible exact And.right (by first | with_reducible assumption | with_reducible exact And.right (by first | with_reducible assumption | with_reducible exact And.right (by with_reducible assumption)))))))))))))))))))))))))
  (k_with "execs cons" => (k_here; (fail_if_success (fail_if_success k_gentoks)); (with_reducible refine gen_toks ?_); intro tk))
  (k_with "execs nil" => (k_here; (fail_if_success (fail_if_success k_gentoks)); (with_reducible refine gen_toks ?_); intro tk))
  w_top off
  trivial
theorem rulesS7x1 : True := by
  (k_with "compareOp Eq str str" => (first | refine eqs_ff (by first | decide | (dsimp only; decide)) ?_ | refine eqs_tt (by first | decide | (dsimp only; decide)) ?_))
  (k_with "compareOp NotEq str str" => (first | refine nes_ff (by first | decide | (dsimp only; decide)) ?_ | refine nes_tt (by first | decide | (dsimp only; decide)) ?_))
  (k_with "exec" => ((k_here; (with_reducible show wpAny _ _ (exec (Stmt.While _ _ _ _) _) _ _ _); k_dflt (refine whl_startW ?_))))
  (k_with "WhlW" => ((dsimp only [WhlW])))
  trivial
local macro_rules | `(tactic| walk_at "WHOLE1") => `(tactic| (k_here; (rename Fr _ _ _ _ => lF'); (with_unfolding_all refine' For_invVF lF' ?k1 ?k2 ?_; (case k1 => exact rfl); (case k2 => exact rfl); k_whole)))
theorem rulesS7x2 : True := by
  (k_with "exec For Name Name cons nil" => (walk_at "WHOLE1"))
  trivial
noncomputable def lessV (acc v : Value) : Value := match v with
  | .int i t => (match acc with
    | .int j u => if i < j then .int i t else .int j u
    | _ => .int i t)
  | _ => acc
noncomputable def leastV (vs : List Value) : Value := vs.foldl lessV .none
noncomputable def NI (v : Value) : Prop := v = .none ∨ ∃ i t, v = .int i t
theorem leastV_snoc (vs : List Value) (v : Value) : leastV (vs ++ [v]) = lessV (leastV vs) v := by simp [leastV]
theorem less_NI {a v : Value} (ha : NI a) (hv : NI v) : NI (lessV a v) := by
  rcases ha with rfl | ⟨j, u, rfl⟩ <;> rcases hv with rfl | ⟨i, t, rfl⟩
  · exact .inl rfl
  · exact .inr ⟨_, _, rfl⟩
  · exact .inr ⟨_, _, rfl⟩
  · simp only [lessV]; split <;> exact .inr ⟨_, _, rfl⟩
theorem least_NI {vs : List Value} (h : ∀ v ∈ vs, NI v) : NI (leastV vs) := by
  unfold leastV
  have : ∀ (vs : List Value) (a : Value), NI a → (∀ v ∈ vs, NI v) → NI (vs.foldl lessV a) := by
    intro vs
    induction vs with
    | nil => intro a ha _; exact ha
    | cons v vs ih => intro a ha h; exact ih _ (less_NI ha (h v (.head _))) fun v hv => h v (.tail _ hv)
  exact this vs _ (.inl rfl) h
theorem next_spec {w : World} (D : Addr) (n : Nat) (vs : List Value) (news : Led) (hl : (D, W.listOf vs.toArray n) ∈ news) (hni : ∀ v ∈ vs, NI v) :
    Spec w 395 950 49 [.ref D] news fun r l => r = leastV vs ∧ l = news := by
  intro pr loose mean mg mb cn cnm cig cic cmo a ccd cl outer A₀ base h₀ L m s Q E B F X N T hret
  k_steps
  refine list_for1 (σ := Value) "least" id _ (fun a dn rem => vs = dn ++ rem ∧ a = leastV dn) .none vs (by rfl) (by assumption) (by assumption) hl ⟨rfl, rfl⟩ ?_ ?_
  · rintro _ dn v rem I it h tk ⟨hv, rfl⟩ hI F' N'
    have hv1 : NI v := hni v (by rw [hv]; simp)
    have ha : NI (leastV dn) := least_NI fun v h => hni v (by rw [hv]; exact List.mem_append_left _ h)
    have hs := leastV_snoc dn v
    generalize leastV dn = a at F' N' ha hs
    dsimp only [id] at F'
    rcases hv1 with rfl | ⟨i, t, rfl⟩
    · k_steps
      exact ⟨a, _, ⟨by rw [hv]; simp, hs.symm⟩, fun _ h1 => if_neg h1, Ends.intro (by assumption) (by assumption)⟩
    · rcases ha with rfl | ⟨j, u, rfl⟩
      · k_steps
        show Wrap _
        rename Fr _ _ _ _ => lF'
        refine ⟨.int i t, _, ⟨by rw [hv]; simp, hs.symm⟩, ?_, Ends.intro lF' (by assumption)⟩
        intro z h1
        by_cases h : z = "least" <;> simp [h, h1]
      · k_steps
        all_goals (show Wrap _; rename Fr _ _ _ _ => lF')
        · have hc : lessV (.int j u) (.int i t) = .int i t := by
            show (if i < j then Value.int i t else .int j u) = _
            rw [if_pos (by assumption)]
          refine ⟨.int i t, _, ⟨by rw [hv]; simp, (hs.trans hc).symm⟩, ?_, Ends.intro lF' (by assumption)⟩
          intro z h1
          by_cases h : z = "least" <;> simp [h, h1]
        · have hc : lessV (.int j u) (.int i t) = .int j u := by
            show (if i < j then Value.int i t else .int j u) = _
            rw [if_neg (by omega)]
          refine ⟨.int j u, _, ⟨by rw [hv]; simp, (hs.trans hc).symm⟩, ?_, Ends.intro lF' (by assumption)⟩
          exact fun _ h1 => if_neg h1
  · rintro _ u h tk ⟨_, rfl⟩ F' N'
    dsimp only [id] at F'
    k_steps
    exact hret _ _ _ _ ⟨rfl, rfl⟩ (by assumption) (by assumption)
theorem freshS1 : True := by
  k_with_none
  (k_with "CJ" => (first | with_reducible assumption | with_reducible exact And.left (by first | with_reducible assumption | with_reducible exact And.right (by first | with_reducible assumption | with_reducible exact And.right (by first | with_reducible assumption | with_reducible exact And.right (by first | with_reducible assumption | with_reducible exact And.right (by first | with_reducible assumption | with_reducible exact And.right (by first | with_reducible assumption | with_reducible exact And.right (by first | with_reducible assumption | with_reducible exact And.right (by first | with_reducible assumption | with_reducible exact And.right (by first | with_reducible assumption | with_reducible exact And.right (by first | with_reducible assumption | with_reducible exact And.right (by first | with_reducible assumption | with_reducible exact And.right (by first | with_reducible assumption | with_reducible exact And.right (by first | with_reducible assumption | with_reducible exact And.right (by first | with_reducible assumption | with_reducible exact And.right (by first | with_reducible assumption | with_reducible exact And.right (by first | with_reducible assumption | with_reducible exact And.right (by first | with_reducible assumption | with_reducible exact And.right (by first | with_reducible assumption | with_reducible exact And.right (by first | with_reducible assumption | with_reducible exact And.right (by first | with_reducible assumption | with_reducible exact And.right (by first | with_reducible assumption | with_reducible exact And.right (by first | with_reducible assumption | with_reducible exact And.right (by with_reducible assumption)))))))))))))))))))))))))
  (k_with "execs cons" => (k_here; (fail_if_success (fail_if_success k_gentoks)); (with_reducible refine gen_toks ?_); intro tk))
  (k_with "execs nil" => (k_here; (fail_if_success (fail_if_success k_gentoks)); (with_reducible refine gen_toks ?_); intro tk))
  w_top off
  trivial
/-- the addresses of the system -/
noncomputable def ya (y : SY) : List Addr := [y.T, y.TD, y.C, y.CD, y.TL, y.LB, y.LBD]
structure Good (y : SY) (vs : List Value) (ts : List TR) (rest : Led) : Prop where
  hv : vals ts = vs
  few : vs.length ≤ 100
  ap : Apart ts rest
  off : ∀ a ∈ ya y, a ∉ tas ts
  nd : (ya y).Nodup
  roff : ∀ p ∈ rest, p.1 ∉ ya y
theorem Good.tls_off {w : World} {y : SY} {vs : List Value} {ts : List TR} {rest : Led} (G : Good y vs ts rest) {a : Addr} (ha : a ∈ ya y) : ∀ p ∈ tls w ts rest, p.1 ≠ a := by
  intro p hp e
  rcases mem_tls.mp hp with ⟨t, h1, h2⟩ | h
  · exact G.off a ha (List.mem_flatMap.mpr ⟨t, h1, e ▸ mem_tl_ta h2⟩)
  · exact G.roff p h (e ▸ ha)
theorem Good.neTD {y : SY} {vs : List Value} {ts : List TR} {rest : Led} (G : Good y vs ts rest) : (@Ne Nat y.T y.TD) ∧ (@Ne Nat y.C y.TD) ∧ (@Ne Nat y.CD y.TD) ∧ (@Ne Nat y.TL y.TD) ∧ (@Ne Nat y.LB y.TD) ∧ (@Ne Nat y.LBD y.TD) := by
  have h := G.nd
  simp only [ya, List.nodup_cons, List.mem_cons, List.not_mem_nil, or_false, not_or, not_false_eq_true, List.nodup_nil, and_true] at h
  obtain ⟨⟨a1, -⟩, ⟨b1, b2, b3, b4, b5⟩, -⟩ := h
  exact ⟨a1, Ne.symm b1, Ne.symm b2, Ne.symm b3, Ne.symm b4, Ne.symm b5⟩
theorem Good.neCD {y : SY} {vs : List Value} {ts : List TR} {rest : Led} (G : Good y vs ts rest) : (@Ne Nat y.T y.CD) ∧ (@Ne Nat y.TD y.CD) ∧ (@Ne Nat y.C y.CD) ∧ (@Ne Nat y.TL y.CD) ∧ (@Ne Nat y.LB y.CD) ∧ (@Ne Nat y.LBD y.CD) := by
  have h := G.nd
  simp only [ya, List.nodup_cons, List.mem_cons, List.not_mem_nil, or_false, not_or, not_false_eq_true, List.nodup_nil, and_true] at h
  obtain ⟨⟨-, -, a3, -⟩, ⟨-, b2, -⟩, ⟨c1, -⟩, ⟨d1, d2, d3⟩, -⟩ := h
  exact ⟨a3, b2, c1, Ne.symm d1, Ne.symm d2, Ne.symm d3⟩
theorem Good.tas {y : SY} {vs : List Value} {ts ts' : List TR} {rest : Led} (G : Good y vs ts rest) (h : Mine.tas ts' = Mine.tas ts) (hv : vals ts' = vals ts) : Good y vs ts' rest :=
  ⟨hv.trans G.hv, G.few, ⟨h ▸ G.ap.nodup, h ▸ G.ap.off⟩, by rw [h]; exact G.off, G.nd, G.roff⟩
theorem ya_ne {y : SY} {d : Addr} (h : ∀ a ∈ ya y, a ≠ d) : (@Ne Nat y.T d) ∧ (@Ne Nat y.TD d) ∧ (@Ne Nat y.C d) ∧ (@Ne Nat y.CD d) ∧ (@Ne Nat y.TL d) ∧ (@Ne Nat y.LB d) ∧ (@Ne Nat y.LBD d) :=
  ⟨h _ (by simp [ya]), h _ (by simp [ya]), h _ (by simp [ya]), h _ (by simp [ya]), h _ (by simp [ya]), h _ (by simp [ya]), h _ (by simp [ya])⟩

theorem abn_spec {w : World} (y : SY) (now : Int) (tn : Tok) (se : Int) (tse : Tok) (vs : List Value) (ts : List TR) (rest : Led) (G : Good y vs ts rest) :
    Spec w 390 900 305 [.ref y.T] (syl w y now tn se tse vs (tls w ts rest)) fun r l => r = .bool false ∧ l = (syl w y now tn se tse vs (tls w ts rest)) := by
  intro pr loose mean mg mb cn cnm cig cic cmo a ccd cl outer A₀ base h₀ L m s Q E B F X N T hret
  k_steps
  refine tasks_for (w := w) (σ := Unit) (fun _ => _) (fun _ => syl w y now tn se tse vs []) (ya y) [] rest ts (fun _ done rem => done ++ rem = ts) () G.hv (by rfl) (by assumption) (by assumption) (fun p hp => hp) (fun _ _ => rfl) (fun _ => by k_mem) (fun _ => rfl) G.ap G.off (fun _ h => nomatch h) rfl ?_ ?_
  · intro _ done t rem h tk other hK hok hoff had hwr hsub htas F' N'
    replace N' : News _ _ _ (syl w y now tn se tse vs (tl w t other)) := N'
    k_steps
    exact ⟨(), t, _, by simpa using hK, rfl, fun _ h1 => if_neg h1, Ends.intro (by assumption) (by assumption)⟩
  · intro _ ts' u h tk hK htas F' N'
    replace N' : News _ _ _ (syl w y now tn se tse vs (tls w ts' rest)) := N'
    rw [List.append_nil] at hK
    subst hK
    k_steps
    exact hret _ _ _ _ ⟨rfl, rfl⟩ (by assumption) (by assumption)
theorem freshS2 : True := by
  k_with_none
  (k_with "CJ" => (first | with_reducible assumption | with_reducible exact And.left (by first | with_reducible assumption | with_reducible exact And.right (by first | with_reducible assumption | with_reducible exact And.right (by first | with_reducible assumption | with_reducible exact And.right (by first | with_reducible assumption | with_reducible exact And.right (by first | with_reducible assumption | with_reducible exact And.right (by first | with_reducible assumption | with_reducible exact And.right (by first | with_reducible assumption | with_reducible exact And.right (by first | with_reducible assumption | with_reducible exact And.right (by first | with_reducible assumption | with_reducible exact And.right (by first | with_reducible assumption | with_reducible exact And.right (by first | with_reducible assumption | with_reducible exact And.right (by first | with_reducible assumption | with_reducible exact And.right (by first | with_reducible assumption | with_reducible exact And.right (by first | with_reducible assumption | with_reducible exact And.right (by first | with_reducible assumption | with_reducible exact And.right (by first | with_reducible assumption | with_reducible exact And.right (by first | with_reducible assumption | with_reducible exact And.right (by first | with_reducible assumption | with_reducible exact And.right (by first | with_reducible assumption | with_reducible exact And.right (by first | with_reducible assumption | with_reducible exact And.right (by first | with_reducible assumption | with_reducible exact And.right (by first | with_reducible assumption | with_reducible exact And.right (by with_reducible assumption)))))))))))))))))))))))))
  (k_with "execs cons" => (k_here; (fail_if_success (fail_if_success k_gentoks)); (with_reducible refine gen_toks ?_); intro tk))
  (k_with "execs nil" => (k_here; (fail_if_success (fail_if_success k_gentoks)); (with_reducible refine gen_toks ?_); intro tk))
  w_top off
  trivial
theorem rulesS2x1 : True := by
  (k_with "compareOp Eq str str" => (first | refine eqs_ff (by first | decide | (dsimp only; decide)) ?_ | refine eqs_tt (by first | decide | (dsimp only; decide)) ?_))
  (k_with "compareOp NotEq str str" => (first | refine nes_ff (by first | decide | (dsimp only; decide)) ?_ | refine nes_tt (by first | decide | (dsimp only; decide)) ?_))
  trivial
noncomputable def Known (t : TR) : Prop := t.st = "ready" ∨ t.st = "delayed" ∨ t.st = "completed" ∨ t.st = "done"
noncomputable def isC (t : TR) : Bool := t.st == "completed"
noncomputable def settleT (t : TR) : TR := if t.st = "completed" then { t with st := "done", ts := 435 } else t
theorem any_ff {pre : List TR} {t : TR} (h : isC t = false) : pre.any isC = (pre ++ [t]).any isC := by
  rw [List.any_append, List.any_cons, List.any_nil, Bool.or_false, h, Bool.or_false]
theorem any_tt {pre : List TR} {t : TR} (h : isC t = true) : true = (pre ++ [t]).any isC := by
  rw [List.any_append, List.any_cons, List.any_nil, Bool.or_false, h, Bool.or_true]
theorem ends_spec {w : World} (y : SY) (now : Int) (tn : Tok) (se : Int) (tse : Tok) (vs : List Value) (ts : List TR) (rest : Led) (G : Good y vs ts rest) (hkn : ∀ t ∈ ts, Known t) :
    Spec w 390 900 310 [.ref y.T] (syl w y now tn se tse vs (tls w ts rest)) fun r l => r = .bool (ts.any isC) ∧ l = (syl w y now tn se tse vs (tls w (ts.map settleT) rest)) := by
  intro pr loose mean mg mb cn cnm cig cic cmo a ccd cl outer A₀ base h₀ L m s Q E B F X N T hret
  k_steps
  refine tasks_for1 (w := w) (σ := Bool) "is_moved" .bool _ (fun _ => syl w y now tn se tse vs []) (ya y) [] rest ts (fun b done rem => ∃ pre, ts = pre ++ rem ∧ done = pre.map settleT ∧ b = pre.any isC) false G.hv (by rfl) (by assumption) (by assumption) (fun p hp => hp) (fun _ => by k_mem) (fun _ => rfl) G.ap G.off (fun _ h => nomatch h) ⟨[], rfl, rfl, rfl⟩ ?_ ?_
  · rintro b done t rem h tk other ⟨pre, hts, rfl, rfl⟩ hok hoff had hwr hsub htas F' N'
    replace N' : News _ _ _ (syl w y now tn se tse vs (tl w t other)) := N'
    have ⟨h1, h2, h3, h4⟩ := hok
    have ⟨y1, y2, y3, y4, y5, y6, y7⟩ := ya_ne had
    have hst : Known t := hkn t (by rw [hts]; simp)
    obtain ⟨ta, td, tq, tsv, tms, tk', tnum, ttn, tst, tts, twk, tname, tmaster, topen, tlate, tcall, traised, tanswer, tinside, tpending, tfailed, tstack, tframe, tresult, tbases, tcaught, tresume, tleaving, tline⟩ := t
    dsimp only [Known] at hst h1 h2 h3 h4 hoff had y1 y2 y3 y4 y5 y6 y7
    rcases hst with hst | hst | hst | hst <;> subst hst
    · k_steps
      exact ⟨_, _, _, ⟨pre ++ [_], by rw [hts, List.append_assoc]; rfl, by rw [List.map_append]; rfl, any_ff rfl⟩, rfl, fun _ h1 => if_neg h1, Ends.intro (by assumption) (by assumption)⟩
    · k_steps
      exact ⟨_, _, _, ⟨pre ++ [_], by rw [hts, List.append_assoc]; rfl, by rw [List.map_append]; rfl, any_ff rfl⟩, rfl, fun _ h1 => if_neg h1, Ends.intro (by assumption) (by assumption)⟩
    · dsimp only [tl, tes] at N'
      k_steps
      show Wrap _
      rename Fr _ _ _ _ => lF'
      rename News _ _ _ _ => lN'
      refine ⟨true, settleT _, _, ⟨pre ++ [_], by rw [hts, List.append_assoc]; rfl, by rw [List.map_append]; rfl, any_tt rfl⟩, rfl, ?_, Ends.intro lF' ?_⟩
      · intro z h1
        by_cases h : z = "is_moved" <;> simp [h, h1]
      · exact News.sub lN' fun p hp => .tail _ (.tail _ hp)
    · k_steps
      exact ⟨_, _, _, ⟨pre ++ [_], by rw [hts, List.append_assoc]; rfl, by rw [List.map_append]; rfl, any_ff rfl⟩, rfl, fun _ h1 => if_neg h1, Ends.intro (by assumption) (by assumption)⟩
  · rintro b ts' u h tk ⟨pre, hts, rfl, rfl⟩ htas F' N'
    rw [List.append_nil] at hts
    subst hts
    replace N' : News _ _ _ (syl w y now tn se tse vs (tls w (ts.map settleT) rest)) := N'
    k_steps
    exact hret _ _ _ _ ⟨rfl, rfl⟩ (by assumption) (by assumption)
theorem freshS3 : True := by
  k_with_none
  (k_with "CJ" => (first | with_reducible assumption | with_reducible exact And.left (by first | with_reducible assumption | with_reducible exact And.right (by first | with_reducible assumption | with_reducible exact And.right (by first | with_reducible assumption | with_reducible exact And.right (by first | with_reducible assumption | with_reducible exact And.right (by first | with_reducible assumption | with_reducible exact And.right (by first | with_reducible assumption | with_reducible exact And.right (by first | with_reducible assumption | with_reducible exact And.right (by first | with_reducible assumption | with_reducible exact And.right (by first | with_reducible assumption | with_reducible exact And.right (by first | with_reducible assumption | with_reducible exact And.right (by first | with_reducible assumption | with_reducible exact And.right (by first | with_reducible assumption | with_reducible exact And.right (by first | with_reducible assumption | with_reducible exact And.right (by first | with_reducible assumption | with_reducible exact And.right (by first | with_reducible assumption | with_reducible exact And.right (by first | with_reducible assumption | with_reducible exact And.right (by first | with_reducible assumption | with_reducible exact And.right (by first | with_reducible assumption | with_reducible exact And.right (by first | with_reducible assumption | with_reducible exact And.right (by first | with_reducible assumption | with_reducible exact And.right (by first | with_reducible assumption | with_reducible exact And.right (by first | with_reducible assumption | with_reducible exact And.right (by with_reducible assumption)))))))))))))))))))))))))
  (k_with "execs cons" => (k_here; (fail_if_success (fail_if_success k_gentoks)); (with_reducible refine gen_toks ?_); intro tk))
  (k_with "execs nil" => (k_here; (fail_if_success (fail_if_success k_gentoks)); (with_reducible refine gen_toks ?_); intro tk))
  w_top off
  trivial
theorem allLt_mem {d : Addr} : ∀ {l : Led}, AllLt d l → ∀ p ∈ l, p.1 < d
  | [], _, _, h => nomatch h
  | _ :: _, x, p, h => by
    rcases List.mem_cons.mp h with rfl | h
    · exact x.1
    · exact allLt_mem x.2 p h
theorem allLt_tas {w : World} {d : Addr} {ts : List TR} {rest : Led} (h : AllLt d (tls w ts rest)) : ∀ a ∈ tas ts, a < d := fun a ha => by
  obtain ⟨p, hp, rfl⟩ := mem_tas_led w rest ha
  exact allLt_mem h p hp
theorem em_spec {w : World} (y : SY) (now : Int) (tn : Tok) (se : Int) (tse : Tok) (vs : List Value) (ts : List TR) (rest : Led) (G : Good y vs ts rest) :
    Spec w 388 890 327 [.ref y.T] (syl w y now tn se tse vs (tls w ts rest)) fun r l => ∃ f c, r = .ref f ∧ l = ((f, W.listOf #[] c) :: syl w y now tn se tse vs (tls w ts rest)) := by
  intro pr loose mean mg mb cn cnm cig cic cmo a ccd cl outer A₀ base h₀ L m s Q E B F X N T hret
  k_steps
  rename_i f' _ l1 _ _ _
  have hf := allLt_tas l1.2.2.2.2.2.2.2
  refine tasks_for (w := w) (σ := Unit) (fun _ => _) (fun _ => (f', W.listOf #[] 0) :: syl w y now tn se tse vs []) (f' :: ya y) [f'] rest ts (fun _ done rem => done ++ rem = ts) () G.hv (by rfl) (by assumption) (by assumption) (fun p hp => hp) (fun _ _ => rfl) (fun _ => by k_mem) (fun _ => rfl) G.ap (List.forall_mem_cons.mpr ⟨fun h => Nat.lt_irrefl _ (hf _ h), G.off⟩) (List.forall_mem_cons.mpr ⟨⟨by simp, fun p hp => Nat.ne_of_lt (allLt_mem l1.2.2.2.2.2.2.2 p (mem_tls.mpr (.inr hp)))⟩, fun _ h => nomatch h⟩) rfl ?_ ?_
  · intro c done t rem h tk other hK hok hoff had hwr hsub htas F' N'
    replace N' : News _ _ _ ((f', W.listOf #[] 0) :: syl w y now tn se tse vs (tl w t other)) := N'
    have hfd := ltN (hf t.d (by rw [← htas]; simp [tas, ta]))
    have hfa := ltN (hf t.a (by rw [← htas]; simp [tas, ta]))
    have hfq := ltN (hf t.q (by rw [← htas]; simp [tas, ta]))
    have hfs := ltN (hf t.sv (by rw [← htas]; simp [tas, ta]))
    have hfm := ltN (hf t.ms (by rw [← htas]; simp [tas, ta]))
    have hfo := hwr f' (by first | k_mem | simp)
    dsimp only [tl, tes] at N'
    k_steps
    exact ⟨(), t, _, by simpa using hK, rfl, fun _ h1 => if_neg h1, Ends.intro (by assumption) (News.sub (by assumption) fun p hp => .tail _ hp)⟩
  · intro c ts' u h tk hK htas F' N'
    replace N' : News _ _ _ ((f', W.listOf #[] 0) :: syl w y now tn se tse vs (tls w ts' rest)) := N'
    rw [List.append_nil] at hK
    subst hK
    k_steps
    exact hret _ _ _ _ ⟨f', 0, rfl, rfl⟩ (by assumption) (by assumption)
theorem freshS6 : True := by
  k_with_none
  (k_with "CJ" => (first | with_reducible assumption | with_reducible exact And.left (by first | with_reducible assumption | with_reducible exact And.right (by first | with_reducible assumption | with_reducible exact And.right (by first | with_reducible assumption | with_reducible exact And.right (by first | with_reducible assumption | with_reducible exact And.right (by first | with_reducible assumption | with_reducible exact And.right (by first | with_reducible assumption | with_reducible exact And.right (by first | with_reducible assumption | with_reducible exact And.right (by first | with_reducible assumption | with_reducible exact And.right (by first | with_reducible assumption | with_reducible exact And.right (by first | with_reducible assumption | with_reducible exact And.right (by first | with_reducible assumption | with_reducible exact And.right (by first | with_reducible assumption | with_reducible exact And.right (by first | with_reducible assumption | with_reducible exact And.right (by first | with_reducible assumption | with_reducible exact And.right (by first | with_reducible assumption | with_reducible exact And.right (by first | with_reducible assumption | with_reducible exact And.right (by first | with_reducible assumption | with_reducible exact And.right (by first | with_reducible assumption | with_reducible exact And.right (by first | with_reducible assumption | with_reducible exact And.right (by first | with_reducible assumption | with_reducible exact And.right (by first | with_reducible assumption | with_reducible exact And.right (by first | with_reducible assumption | with_reducible exact And.right (by with_reducible assumption)))))))))))))))))))))))))
  (k_with "execs cons" => (k_here; (fail_if_success (fail_if_success k_gentoks)); (with_reducible refine gen_toks ?_); intro tk))
  (k_with "execs nil" => (k_here; (fail_if_success (fail_if_success k_gentoks)); (with_reducible refine gen_toks ?_); intro tk))
  w_top off
  trivial
theorem rulesS6x1 : True := by
  (k_with "compareOp Eq str str" => (first | refine eqs_ff (by first | decide | (dsimp only; decide)) ?_ | refine eqs_tt (by first | decide | (dsimp only; decide)) ?_))
  (k_with "compareOp NotEq str str" => (first | refine nes_ff (by first | decide | (dsimp only; decide)) ?_ | refine nes_tt (by first | decide | (dsimp only; decide)) ?_))
  (k_with "exec" => ((k_here; (with_reducible show wpAny _ _ (exec (Stmt.While _ _ _ _) _) _ _ _); k_dflt (refine whl_startW ?_))))
  (k_with "WhlW" => ((dsimp only [WhlW])))
  trivial
theorem Wrap.out {P : Prop} (h : Wrap P) : P := h
theorem rulesS6x2 : True := by
  (k_with "CompSrcT" => ((refine Wrap.out ?_)))
  (k_with "CompSrc" => ((refine Wrap.out ?_)))
  trivial
theorem off1_mem {D : Addr} : ∀ {l : Led}, LCg.Off1 D l → ∀ p ∈ l, p.1 ≠ D
  | [], _, _, h => nomatch h
  | _ :: _, x, p, h => by
    rcases List.mem_cons.mp h with rfl | h
    · exact x.1
    · exact off1_mem x.2 p h
noncomputable def isR (t : TR) : Bool := t.st == "ready"
noncomputable def isL (t : TR) : Bool := t.st != "done"
noncomputable def numV (t : TR) : Value := .int t.num t.tn
theorem size_of {vs : List Value} (h : vs.length ≤ 100) : vs.toArray.size ≤ sizeLine := by rw [List.size_toArray, sizeLine_eq]; omega
theorem ready_spec {w : World} (y : SY) (now : Int) (tn : Tok) (se : Int) (tse : Tok) (vs : List Value) (ts : List TR) (rest : Led) (G : Good y vs ts rest) (hkn : ∀ t ∈ ts, Known t) :
    Spec w 390 900 379 [.ref y.T] (syl w y now tn se tse vs (tls w ts rest)) fun r l => ∃ D, (∀ p ∈ syl w y now tn se tse vs (tls w ts rest), p.1 ≠ D) ∧ r = .ref D ∧ l = ((D, LCg.lst (vals (ts.filter isR))) :: syl w y now tn se tse vs (tls w ts rest)) := by
  intro pr loose mean mg mb cn cnm cig cic cmo a ccd cl outer A₀ base h₀ L m s Q E B F X N T hret
  k_steps
  refine LCt.CompSrcT.ledger (by rfl) (by assumption) (by assumption) (by k_mem) (size_of G.few) fun g' => ?_
  refine tasks_compT isR (fun t => .ref t.a) (syl w y now tn se tse vs []) rest ts G.hv (by k_mem) ?_ ?_ ?_
  · intro t ht C oC m₂ h tk E' other hC hx F' N'
    have hst : Known t := hkn t ht
    obtain ⟨ta, td, tq, tsv, tms, tk', tnum, ttn, tst, tts, twk, tname, tmaster, topen, tlate, tcall, traised, tanswer, tinside, tpending, tfailed, tstack, tframe, tresult, tbases, tcaught, tresume, tleaving, tline⟩ := t
    dsimp only [Known] at hst hx
    rcases hst with hst | hst | hst | hst <;> subst hst
    all_goals (dsimp only [tl, tes] at N'; k_steps; exact ⟨rfl, Ends.intro (by assumption) (by assumption)⟩)
  · intro t ht _ C oC m₂ h tk E' other hC hx F' N'
    k_steps
    exact ⟨rfl, Ends.intro (by assumption) (by assumption)⟩
  · intro D h tk F' N' o1
    k_steps
    exact hret _ _ _ _ ⟨D, off1_mem o1, rfl, rfl⟩ (by assumption) (by assumption)

theorem waiting_spec {w : World} (y : SY) (now : Int) (tn : Tok) (se : Int) (tse : Tok) (vs : List Value) (ts : List TR) (rest : Led) (G : Good y vs ts rest) (hkn : ∀ t ∈ ts, Known t) :
    Spec w 390 900 384 [.ref y.T] (syl w y now tn se tse vs (tls w ts rest)) fun r l => ∃ D, r = .ref D ∧ l = ((D, LCg.lst ((ts.filter isL).map numV)) :: syl w y now tn se tse vs (tls w ts rest)) := by
  intro pr loose mean mg mb cn cnm cig cic cmo a ccd cl outer A₀ base h₀ L m s Q E B F X N T hret
  k_steps
  refine LCt.CompSrcT.ledger (by rfl) (by assumption) (by assumption) (by k_mem) (size_of G.few) fun g' => ?_
  refine tasks_compT isL numV (syl w y now tn se tse vs []) rest ts G.hv (by k_mem) ?_ ?_ ?_
  · intro t ht C oC m₂ h tk E' other hC hx F' N'
    have hst : Known t := hkn t ht
    obtain ⟨ta, td, tq, tsv, tms, tk', tnum, ttn, tst, tts, twk, tname, tmaster, topen, tlate, tcall, traised, tanswer, tinside, tpending, tfailed, tstack, tframe, tresult, tbases, tcaught, tresume, tleaving, tline⟩ := t
    dsimp only [Known] at hst hx
    rcases hst with hst | hst | hst | hst <;> subst hst
    all_goals (dsimp only [tl, tes] at N'; k_steps; exact ⟨rfl, Ends.intro (by assumption) (by assumption)⟩)
  · intro t ht _ C oC m₂ h tk E' other hC hx F' N'
    k_steps
    exact ⟨rfl, Ends.intro (by assumption) (by assumption)⟩
  · intro D h tk F' N' o1
    k_steps
    exact hret _ _ _ _ ⟨D, rfl, rfl⟩ (by assumption) (by assumption)
theorem freshD0 : True := by
  k_with_none
  (k_with "CJ" => (first | with_reducible assumption | with_reducible exact And.left (by first | with_reducible assumption | with_reducible exact And.right (by first | with_reducible assumption | with_reducible exact And.right (by first | with_reducible assumption | with_reducible exact And.right (by first | with_reducible assumption | with_reducible exact And.right (by first | with_reducible assumption | with_reducible exact And.right (by first | with_reducible assumption | with_reducible exact And.right (by first | with_reducible assumption | with_reducible exact And.right (by first | with_reducible assumption | with_reducible exact And.right (by first | with_reducible assumption | with_reducible exact And.right (by first | with_reducible assumption | with_reducible exact And.right (by first | with_reducible assumption | with_reducible exact And.right (by first | with_reducible assumption | with_reducible exact And.right (by first | with_reducible assumption | with_reducible exact And.right (by first | with_reducible assumption | with_reducible exact And.right (by first | with_reducible assumption | with_reducible exact And.right (by first | with_reducible assumption | with_reducible exact And.right (by first | with_reducible assumption | with_reducible exact And.right (by first | with_reducible assumption | with_reducible exact And.right (by first | with_reducible assumption | with_reducible exact And.right (by first | with_reducible assumption | with_reducible exact And.right (by first | with_reducible assumption | with_reducible exact And.right (by first | with_reducible assumption | with_reducible exact And.right (by with_reducible assumption)))))))))))))))))))))))))
  (k_with "execs cons" => (k_here; (fail_if_success (fail_if_success k_gentoks)); (with_reducible refine gen_toks ?_); intro tk))
  (k_with "execs nil" => (k_here; (fail_if_success (fail_if_success k_gentoks)); (with_reducible refine gen_toks ?_); intro tk))
  w_top off
  trivial
theorem rulesD0x1 : True := by
  (k_with "compareOp Eq str str" => (first | refine eqs_ff (by first | decide | (dsimp only; decide)) ?_ | refine eqs_tt (by first | decide | (dsimp only; decide)) ?_))
  (k_with "compareOp NotEq str str" => (first | refine nes_ff (by first | decide | (dsimp only; decide)) ?_ | refine nes_tt (by first | decide | (dsimp only; decide)) ?_))
  (k_with "exec" => ((k_here; (with_reducible show wpAny _ _ (exec (Stmt.While _ _ _ _) _) _ _ _); k_dflt (refine whl_startW ?_))))
  (k_with "WhlW" => ((dsimp only [WhlW])))
  (k_with "exec For Name Name cons nil" => (walk_at "WHOLE1"))
  trivial
inductive AS where
  | rdy
  | slp (d : Int)
  | cmp
  | fin
  deriving DecidableEq
/-- how a task stands -/
noncomputable def Is (t : TR) : AS → Prop
  | .rdy => t.st = "ready" ∧ t.wk = .none
  | .slp d => t.st = "delayed" ∧ ∃ u, t.wk = .int d u
  | .cmp => t.st = "completed" ∧ t.wk = .none
  | .fin => t.st = "done" ∧ t.wk = .none
theorem Is.known {t : TR} {a : AS} (h : Is t a) : Known t := by
  cases a with
  | rdy => exact .inl h.1
  | slp d => exact .inr (.inl h.1)
  | cmp => exact .inr (.inr (.inl h.1))
  | fin => exact .inr (.inr (.inr h.1))
theorem Is.ni {t : TR} {a : AS} (h : Is t a) : NI t.wk := by
  cases a with
  | slp d => exact .inr ⟨_, h.2⟩
  | _ => exact .inl h.2
inductive All2 {α β : Type} (R : α → β → Prop) : List α → List β → Prop
  | nil : All2 R [] []
  | cons {a b as bs} : R a b → All2 R as bs → All2 R (a :: as) (b :: bs)
theorem All2.length {α β : Type} {R : α → β → Prop} {as : List α} {bs : List β} (h : All2 R as bs) : as.length = bs.length := by
  induction h with
  | nil => rfl
  | cons _ _ ih => simp [ih]
theorem All2.append {α β : Type} {R : α → β → Prop} {as cs : List α} {bs ds : List β} (h : All2 R as bs) (k : All2 R cs ds) : All2 R (as ++ cs) (bs ++ ds) := by
  induction h with
  | nil => exact k
  | cons x _ ih => exact .cons x ih
theorem All2.left {α β : Type} {R : α → β → Prop} {as : List α} {bs : List β} (h : All2 R as bs) : ∀ a ∈ as, ∃ b ∈ bs, R a b := by
  induction h with
  | nil => intro a ha; cases ha
  | cons x _ ih =>
    intro a ha
    rcases List.mem_cons.mp ha with rfl | ha
    · exact ⟨_, .head _, x⟩
    · obtain ⟨b, hb, hr⟩ := ih a ha; exact ⟨b, .tail _ hb, hr⟩
theorem All2.get {α β : Type} {R : α → β → Prop} {as : List α} {bs : List β} (h : All2 R as bs) : ∀ {i : Nat} {a : α}, as[i]? = some a → ∃ b, bs[i]? = some b ∧ R a b := by
  induction h with
  | nil => intro i a ha; simp at ha
  | cons x _ ih =>
    intro i a ha
    cases i with
    | zero => simp at ha; subst ha; exact ⟨_, rfl, x⟩
    | succ i => exact ih ha
theorem All2.get' {α β : Type} {R : α → β → Prop} {as : List α} {bs : List β} (h : All2 R as bs) : ∀ {i : Nat} {b : β}, bs[i]? = some b → ∃ a, as[i]? = some a ∧ R a b := by
  induction h with
  | nil => intro i a ha; simp at ha
  | cons x _ ih =>
    intro i a ha
    cases i with
    | zero => simp at ha; subst ha; exact ⟨_, rfl, x⟩
    | succ i => exact ih ha
theorem All2.split {α β : Type} {R : α → β → Prop} : ∀ {pre post : List α} {a : α} {bs : List β}, All2 R (pre ++ a :: post) bs → ∃ pre' b post', bs = pre' ++ b :: post' ∧ All2 R pre pre' ∧ R a b ∧ All2 R post post'
  | [], post, a, _, .cons x h => ⟨[], _, _, rfl, .nil, x, h⟩
  | p :: pre, post, a, _, .cons x h =>
    let ⟨pre', b, post', e, h1, h2, h3⟩ := All2.split h
    ⟨_ :: pre', b, post', by rw [e]; rfl, .cons x h1, h2, h3⟩
theorem All2.mapR {α β γ : Type} {R : α → β → Prop} {S : α → γ → Prop} (f : β → γ) (k : ∀ a b, R a b → S a (f b)) {as : List α} {bs : List β} (h : All2 R as bs) : All2 S as (bs.map f) := by
  induction h with
  | nil => exact .nil
  | cons x _ ih => exact .cons (k _ _ x) ih
theorem All2.mapL {α β γ : Type} {R : α → β → Prop} {S : γ → β → Prop} (f : α → γ) (k : ∀ a b, R a b → S (f a) b) {as : List α} {bs : List β} (h : All2 R as bs) : All2 S (as.map f) bs := by
  induction h with
  | nil => exact .nil
  | cons x _ ih => exact .cons (k _ _ x) ih
theorem All2.mono {α β : Type} {R S : α → β → Prop} (k : ∀ a b, R a b → S a b) {as : List α} {bs : List β} (h : All2 R as bs) : All2 S as bs := by
  induction h with
  | nil => exact .nil
  | cons x _ ih => exact .cons (k _ _ x) ih
/-- the task lies where it lay and bears the number that it bore -/
noncomputable def Same (t t' : TR) : Prop := ta t' = ta t ∧ t'.num = t.num ∧ t'.tn = t.tn
theorem same_refl (ts : List TR) : All2 Same ts ts := by
  induction ts with
  | nil => exact .nil
  | cons t ts ih => exact .cons ⟨rfl, rfl, rfl⟩ ih
theorem same_trans {a b c : List TR} (h : All2 Same a b) (k : All2 Same b c) : All2 Same a c := by
  induction h generalizing c with
  | nil => cases k; exact .nil
  | cons x _ ih => cases k with
    | cons y k => exact .cons ⟨y.1.trans x.1, y.2.1.trans x.2.1, y.2.2.trans x.2.2⟩ (ih k)
theorem same_tas {a b : List TR} (h : All2 Same a b) : tas b = tas a := by
  induction h with
  | nil => rfl
  | cons x _ ih => simp only [tas, List.flatMap_cons] at ih ⊢; rw [x.1, ih]
theorem same_vals {a b : List TR} (h : All2 Same a b) : vals b = vals a := by
  induction h with
  | nil => rfl
  | cons x _ ih =>
    simp only [vals, List.map_cons] at ih ⊢
    rw [ih, (List.cons.inj x.1).1]
theorem Good.same {y : SY} {vs : List Value} {ts ts' : List TR} {rest : Led} (G : Good y vs ts rest) (h : All2 Same ts ts') : Good y vs ts' rest := G.tas (same_tas h) (same_vals h)
noncomputable def settleA : AS → AS
  | .cmp => .fin
  | a => a
noncomputable def wakeA (now : Int) : AS → AS
  | .slp d => if d ≤ now then .rdy else .slp d
  | a => a
noncomputable def lessA (acc : Option Int) : AS → Option Int
  | .slp d => (match acc with | some j => if d < j then some d else some j | none => some d)
  | _ => acc
noncomputable def leastA (as : List AS) : Option Int := as.foldl lessA none
noncomputable def VO (v : Value) (o : Option Int) : Prop := match o with
  | none => v = .none
  | some i => ∃ t, v = .int i t
theorem VO.less {v : Value} {o : Option Int} {t : TR} {a : AS} (h : VO v o) (k : Is t a) : VO (lessV v t.wk) (lessA o a) := by
  cases a with
  | slp d =>
    obtain ⟨_, u, hu⟩ := k
    rw [hu]
    cases o with
    | none => rw [show v = .none from h]; exact ⟨u, rfl⟩
    | some j =>
      obtain ⟨t, rfl⟩ := h
      show VO (if d < j then Value.int d u else .int j t) (if d < j then some d else some j)
      split <;> exact ⟨_, rfl⟩
  | _ =>
    have e : t.wk = .none := k.2
    rw [e]; exact h
theorem least_VO {ts : List TR} {as : List AS} (h : All2 Is ts as) : VO (leastV (ts.map (·.wk))) (leastA as) := by
  have : ∀ (v : Value) (o : Option Int), VO v o → VO ((ts.map (·.wk)).foldl lessV v) (as.foldl lessA o) := by
    induction h with
    | nil => exact fun _ _ h => h
    | cons x _ ih => exact fun v o h => ih _ _ (h.less x)
  exact this _ _ rfl
theorem Is.settle {t : TR} {a : AS} (h : Is t a) : Is (settleT t) (settleA a) := by
  unfold settleT
  cases a with
  | cmp => rw [if_pos h.1]; exact ⟨rfl, h.2⟩
  | rdy => rw [if_neg (by rw [h.1]; decide)]; exact h
  | slp d => rw [if_neg (by rw [h.1]; decide)]; exact h
  | fin => rw [if_neg (by rw [h.1]; decide)]; exact h
theorem settle_All2 {ts : List TR} {as : List AS} (h : All2 Is ts as) : All2 Is (ts.map settleT) (as.map settleA) := by
  induction h with
  | nil => exact .nil
  | cons x _ ih => exact .cons x.settle ih
theorem settle_sameT (ts : List TR) : All2 Same ts (ts.map settleT) := by
  induction ts with
  | nil => exact .nil
  | cons t ts ih =>
    refine .cons ?_ ih
    unfold settleT
    split <;> exact ⟨rfl, rfl, rfl⟩
theorem freshS18 : True := by
  k_with_none
  (k_with "CJ" => (first | with_reducible assumption | with_reducible exact And.left (by first | with_reducible assumption | with_reducible exact And.right (by first | with_reducible assumption | with_reducible exact And.right (by first | with_reducible assumption | with_reducible exact And.right (by first | with_reducible assumption | with_reducible exact And.right (by first | with_reducible assumption | with_reducible exact And.right (by first | with_reducible assumption | with_reducible exact And.right (by first | with_reducible assumption | with_reducible exact And.right (by first | with_reducible assumption | with_reducible exact And.right (by first | with_reducible assumption | with_reducible exact And.right (by first | with_reducible assumption | with_reducible exact And.right (by first | with_reducible assumption | with_reducible exact And.right (by first | with_reducible assumption | with_reducible exact And.right (by first | with_reducible assumption | with_reducible exact And.right (by first | with_reducible assumption | with_reducible exact And.right (by first | with_reducible assumption | with_reducible exact And.right (by first | with_reducible assumption | with_reducible exact And.right (by first | with_reducible assumption | with_reducible exact And.right (by first | with_reducible assumption | with_reducible exact And.right (by first | with_reducible assumption | with_reducible exact And.right (by first | with_reducible assumption | with_reducible exact And.right (by first | with_reducible assumption | with_reducible exact And.right (by first | with_reducible assumption | with_reducible exact And.right (by with_reducible assumption)))))))))))))))))))))))))
  (k_with "execs cons" => (k_here; (fail_if_success (fail_if_success k_gentoks)); (with_reducible refine gen_toks ?_); intro tk))
  (k_with "execs nil" => (k_here; (fail_if_success (fail_if_success k_gentoks)); (with_reducible refine gen_toks ?_); intro tk))
  w_top off
  trivial
theorem rulesS18x1 : True := by
  (k_with "compareOp Eq str str" => (first | refine eqs_ff (by first | decide | (dsimp only; decide)) ?_ | refine eqs_tt (by first | decide | (dsimp only; decide)) ?_))
  (k_with "compareOp NotEq str str" => (first | refine nes_ff (by first | decide | (dsimp only; decide)) ?_ | refine nes_tt (by first | decide | (dsimp only; decide)) ?_))
  (k_with "exec" => ((k_here; (with_reducible show wpAny _ _ (exec (Stmt.While _ _ _ _) _) _ _ _); k_dflt (refine whl_startW ?_))))
  (k_with "WhlW" => ((dsimp only [WhlW])))
  (k_with "exec For Name Name cons nil" => (walk_at "WHOLE1"))
  trivial
theorem wrap18 {P : Prop} (h : P) : Wrap P := h
/-- is_due as a plain function -/
noncomputable def dueB (v : Value) (now : Int) : Bool := match v with | .int d _ => decide (d ≤ now) | _ => false
theorem due_small {w : World} (C CD : Addr) (kn : Tok) (now : Int) (tn : Tok) (v : Value) (hv : NI v) (rest : Led) :
    Spec w 398 985 63 [.ref C, v] ((C, instObj 31 CD) :: (CD, dictOf [en w "now" kn (.int now tn)] 1) :: rest) fun r l => r = .bool (dueB v now) ∧ l = (C, instObj 31 CD) :: (CD, dictOf [en w "now" kn (.int now tn)] 1) :: rest := by
  intro pr loose mean mg mb cn cnm cig cic cmo a ccd cl outer A₀ base h₀ L m s Q E B F X N T hret
  rcases hv with rfl | ⟨d, u, rfl⟩
  · k_steps
    exact hret _ _ _ _ ⟨rfl, rfl⟩ (by assumption) (by assumption)
  · k_steps
    exact hret _ _ _ _ ⟨rfl, rfl⟩ (by assumption) (by assumption)
/-- is_due, over any ledger -/
theorem due_spec {w : World} {C CD : Addr} {kn : Tok} {now : Int} {tn : Tok} {v : Value} {b : Bool} {news : Led} (hv : NI v) (hb : dueB v now = b) (h1 : (C, instObj 31 CD) ∈ news) (h2 : (CD, dictOf [en w "now" kn (.int now tn)] 1) ∈ news) :
    Spec w 398 985 63 [.ref C, v] news fun r l => r = .bool b ∧ l = news :=
  (due_small C CD kn now tn v hv news).perm (fun p hp => (List.mem_cons.mp hp).elim (fun e => e ▸ h1) fun hp => (List.mem_cons.mp hp).elim (fun e => e ▸ h2) id)
    fun r l q => ⟨news, ⟨q.1.trans (hb ▸ rfl), rfl⟩, fun p hp => q.2 ▸ .tail _ (.tail _ hp)⟩
theorem rulesS18x2 : True := by
  (k_with "call ref" => ((k_here; (with_reducible show wpAny _ _ (call (Value.ref 188) _) _ _ _); refine Wrap.out ?_)))
  trivial
/-- time_is_up of a task that sleeps -/
theorem up_spec {w : World} (t : TR) (rest : Led) (hst : t.st = "delayed") (hoff : ∀ p ∈ rest, p.1 ≠ t.d) (hok : t.Ok) :
    Spec w 397 980 216 [.ref t.a] (tl w t rest) fun r l => r = .none ∧ ∃ o tk, l = tl w { t with st := "ready", ts := tk, open_ := o, wk := .none, late := .none, answer := .none, raised := .none } rest := by
  intro pr loose mean mg mb cn cnm cig cic cmo a ccd cl outer A₀ base h₀ L m s Q E B F X N T hret
  have key := wake_spec (w := w) t .none .none rest hoff hok
  dsimp only [tl, tes] at key N
  rw [hst] at key N
  replace key := wrap18 key
  k_steps
  refine wrap18 ?_
  refine' Spec.use key ?k1 ?k2 ?k3 ?k4 ?k5 ?k6 ?k7 ?k8 ?k9 ?_
  (case k4 => k_asm)
  (case k1 => k_asm)
  (case k2 => k_asm)
  (case k3 => k_asm)
  (case k5 => k_asm)
  (case k8 => exact rfl)
  (case k6 => exact rfl)
  (case k7 => exact Nat.le_of_ble_eq_true rfl)
  (case k9 => exact Nat.le_of_ble_eq_true rfl)
  refine cpsS ?_
  intro h' tk' F' o' t' N'
  k_steps
  exact hret _ _ _ _ ⟨rfl, o', t', rfl⟩ (by assumption) (by assumption)
theorem swap18 {α : Type} (a b r : List α) {p : α} (h : p ∈ a ++ (b ++ r)) : p ∈ b ++ (a ++ r) :=
  (List.mem_append.mp h).elim (fun h => List.mem_append_right _ (List.mem_append_left _ h)) fun h => (List.mem_append.mp h).elim (fun h => List.mem_append_left _ h) fun h => List.mem_append_right _ (List.mem_append_right _ h)
theorem up_syl {w : World} (y : SY) (now : Int) (tn : Tok) (se : Int) (tse : Tok) (vs : List Value) (t : TR) (other : Led) (hst : t.st = "delayed") (had : ∀ a ∈ ya y, a ≠ t.d) (hoff : ∀ p ∈ other, p.1 ≠ t.d) (hok : t.Ok) :
    Spec w 397 980 216 [.ref t.a] (syl w y now tn se tse vs (tl w t other)) fun r l => r = .none ∧ ∃ o tk, l = syl w y now tn se tse vs (tl w { t with st := "ready", ts := tk, open_ := o, wk := .none, late := .none, answer := .none, raised := .none } other) := by
  refine (up_spec t (syl w y now tn se tse vs other) hst (fun p hp => ?_) hok).perm (fun p hp => swap18 (tl w t []) (syl w y now tn se tse vs []) other hp) fun r l => ?_
  · rcases List.mem_append.mp (show p ∈ syl w y now tn se tse vs [] ++ other from hp) with hp | hp
    · exact had _ (List.mem_map_of_mem (f := Prod.fst) hp)
    · exact hoff p hp
  · rintro ⟨rfl, o, tk, rfl⟩
    exact ⟨_, ⟨rfl, o, tk, rfl⟩, fun p hp => swap18 (syl w y now tn se tse vs []) (tl w _ []) other hp⟩
theorem due_no {t : TR} {a : AS} {now : Int} (h : Is t a) (hb : dueB t.wk now = false) : wakeA now a = a := by
  cases a with
  | slp d =>
    obtain ⟨_, u, hu⟩ := h
    rw [hu] at hb
    exact if_neg (of_decide_eq_false hb)
  | _ => rfl
theorem due_yes {t : TR} {a : AS} {now : Int} (h : Is t a) (hb : dueB t.wk now = true) : t.st = "delayed" ∧ wakeA now a = .rdy := by
  cases a with
  | slp d =>
    obtain ⟨hs, u, hu⟩ := h
    rw [hu] at hb
    exact ⟨hs, if_pos (of_decide_eq_true hb)⟩
  | _ => rw [h.2] at hb; cases hb
section
open PySem PySem.W PySem.Calls PyProof.Rows PyProof.V PySem.Spec
theorem freshL4 : True := by
  k_with_none
  (k_with "CJ" => (first | with_reducible assumption | with_reducible exact And.left (by first | with_reducible assumption | with_reducible exact And.right (by first | with_reducible assumption | with_reducible exact And.right (by first | with_reducible assumption | with_reducible exact And.right (by first | with_reducible assumption | with_reducible exact And.right (by first | with_reducible assumption | with_reducible exact And.right (by first | with_reducible assumption | with_reducible exact And.right (by first | with_reducible assumption | with_reducible exact And.right (by first | with_reducible assumption | with_reducible exact And.right (by first | with_reducible assumption | with_reducible exact And.right (by first | with_reducible assumption | with_reducible exact And.right (by first | with_reducible assumption | with_reducible exact And.right (by first | with_reducible assumption | with_reducible exact And.right (by first | with_reducible assumption | with_reducible exact And.right (by first | with_reducible assumption | with_reducible exact And.right (by first | with_reducible assumption | with_reducible exact And.right (by first | with_reducible assumption | with_reducible exact And.right (by first | with_reducible assumption | with_reducible exact And.right (by first | with_reducible assumption | with_reducible exact And.right (by first | with_reducible assumption | with_reducible exact And.right (by first | with_reducible assumption | with_reducible exact And.right (by first | with_reducible assumption | with_reducible exact And.right (by first | with_reducible assumption | with_reducible exact And.right (by with_reducible assumption)))))))))))))))))))))))))
  (k_with "execs cons" => (k_here; (fail_if_success (fail_if_success k_gentoks)); (with_reducible refine gen_toks ?_); intro tk))
  (k_with "execs nil" => (k_here; (fail_if_success (fail_if_success k_gentoks)); (with_reducible refine gen_toks ?_); intro tk))
  w_top off
  trivial
section
variable {prog : Program} {w : World} {A : Around} {E : Value → Shared → Prop} {s : Shared} {h₀ : Heap} {L : Addr} {m : Str → Option Value} {news : Led}
theorem nil_isDict {K : Type} [DecidableEq K] (h : Heap) (knd : KeyKind prog w K) : (dictOf [] 0).IsDictOf knd [] := by
  obtain ⟨o, ho, hd⟩ := Heap.dictOf_iff.mp (Heap.DictOf.new (knd := knd) h)
  rw [Heap.get?_push_size _ rfl] at ho
  have e : dictOf [] 0 = o := Option.some.inj ho
  exact e ▸ hd
theorem newDictL {env : Env} {pos : Pos} {Q : Value → Shared → Prop} (F : Fr h₀ L s.heap m) (N : News h₀ L s.heap news) (hbig : h₀.NoLimit)
    (k : ∀ d h', Fr h₀ L h' m → News h₀ L h' ((d, dictOf [] 0) :: news) → (∀ p ∈ news, p.1 < d) → (d == sysModules) = false → Obj.IsDictOf (strKind prog w) (dictOf [] 0) [] → FlatPairs PyData.str [] [] →
      Obj.IsDictOf (intKind prog w) (dictOf [] 0) [] → FlatPairs PyData.int [] [] → Q (.ref d) { s with heap := h' }) : wpAny (model prog w) A (eval (.Dict [] [] pos) env) Q E s :=
  wpAny_Dict_empty (k _ _ (F.push _) (News.push F N _) (fun p hp => Heap.lt_size (N p hp).1) (F.notModules (modules_low hbig)) (nil_isDict s.heap _) .nil (nil_isDict s.heap _) .nil)
end
section
variable {prog : Program} {w : World} {A : Around} {E : Value → Shared → Prop} {s : Shared} {env : Env} {h₀ : Heap} {x : Str} {body : List Stmt} {Q : Flow → Shared → Prop}
theorem iter_dict_nil {d : Addr} {m₀ : Str → Option Value} {news : Led} (hh : A.handled = none) (F : Fr h₀ env.locals s.heap m₀) (N : News h₀ env.locals s.heap news) (hm : (d, dictOf [] 0) ∈ news) (lo : (d == sysModules) = false)
    (h : ∀ h' tk, Fr h₀ env.locals h' m₀ → News h₀ env.locals h' news → Q .next { s with heap := h', toks := tk }) :
    wpAny (model prog w) A (pyIter (.ref d)) (fun it s₂ => LoopAtV prog w A h₀ env x body Q E it s₂) E s := by
  have hx := N _ hm
  obtain ⟨es, ep, h1, h2, h3, h4, h5⟩ := nil_isDict s.heap (strKind prog w)
  have hat : s.heap.DictAt (strKind prog w) d [] ep := ⟨_, es, hx.1, h1, h2, h3, h4, h5⟩
  have hne : d ≠ s.heap.objs.size := Nat.ne_of_lt (Heap.lt_size hx.1)
  refine wpAny_pyIter_dict lo hat ?_
  have W := Walks.dictKeys (prog := prog) (w := w) (knd := strKind prog w) hh s.heap.objs.size d hne [] ep
  have hnew := next_is_new F
  let J : Nat → (Str → Option Value) → Led → Prop := fun _ m₁ news₁ => m₁ = m₀ ∧ news₁ = news
  refine ⟨_, _, _, 0, _, _, m₀, news, J, rfl, W, ?_, ?_, ?_, ⟨⟨_, Heap.get?_push_size _ rfl, rfl, rfl⟩, ⟨_, es, Heap.get?_push_of_some _ hx.1, h1, h2, h3, h4, h5⟩⟩, F.push _, (fun p hp => ⟨Heap.get?_push_of_some _ (N p hp).1, (N p hp).2⟩), ⟨rfl, rfl⟩, ?_, ?_⟩
  · intro hmm
    rcases List.mem_cons.mp hmm with e | hmm
    · exact absurd F.ns.lt (e ▸ Nat.lt_irrefl _)
    · exact hx.2.1 (List.mem_singleton.mp hmm).symm
  · intro b hb
    rw [List.mem_singleton.mp hb]
    exact hnew
  · intro p hp hI
    exact absurd (Heap.lt_size (N p hp).1) ((List.mem_singleton.mp hI) ▸ Nat.lt_irrefl _)
  · rintro i v m₁ news₁ s₁ own _ hin
    exact absurd hin (Nat.not_lt_zero _)
  · rintro h' tk m' news' F' N' _ ⟨rfl, rfl⟩
    exact h h' tk F' N'
end
theorem allLt_ne {d : Addr} {l : Led} (h : AllLt d l) {e : Addr} (he : d ≤ e) : ∀ p ∈ l, p.1 ≠ e := fun p hp => Nat.ne_of_lt (Nat.lt_of_lt_of_le (allLt_mem h p hp) he)
end
theorem freshS4 : True := by
  k_with_none
  (k_with "CJ" => (first | with_reducible assumption | with_reducible exact And.left (by first | with_reducible assumption | with_reducible exact And.right (by first | with_reducible assumption | with_reducible exact And.right (by first | with_reducible assumption | with_reducible exact And.right (by first | with_reducible assumption | with_reducible exact And.right (by first | with_reducible assumption | with_reducible exact And.right (by first | with_reducible assumption | with_reducible exact And.right (by first | with_reducible assumption | with_reducible exact And.right (by first | with_reducible assumption | with_reducible exact And.right (by first | with_reducible assumption | with_reducible exact And.right (by first | with_reducible assumption | with_reducible exact And.right (by first | with_reducible assumption | with_reducible exact And.right (by first | with_reducible assumption | with_reducible exact And.right (by first | with_reducible assumption | with_reducible exact And.right (by first | with_reducible assumption | with_reducible exact And.right (by first | with_reducible assumption | with_reducible exact And.right (by first | with_reducible assumption | with_reducible exact And.right (by first | with_reducible assumption | with_reducible exact And.right (by first | with_reducible assumption | with_reducible exact And.right (by first | with_reducible assumption | with_reducible exact And.right (by first | with_reducible assumption | with_reducible exact And.right (by first | with_reducible assumption | with_reducible exact And.right (by first | with_reducible assumption | with_reducible exact And.right (by with_reducible assumption)))))))))))))))))))))))))
  (k_with "execs cons" => (k_here; (fail_if_success (fail_if_success k_gentoks)); (with_reducible refine gen_toks ?_); intro tk))
  (k_with "execs nil" => (k_here; (fail_if_success (fail_if_success k_gentoks)); (with_reducible refine gen_toks ?_); intro tk))
  w_top off
  trivial
theorem rulesS4x1 : True := by
  (k_with "call ref" => ((k_here; (with_reducible show wpAny _ _ (call (Value.ref 327) _) _ _ _); k_dflt (refine' Spec.use (em_spec _ _ _ _ _ _ _ _ ?g1) ?k1 ?k2 ?k3 ?k4 ?k5 ?k6 ?k7 ?k8 ?k9 ?_; (case k1 => k_asm); (case k2 => k_asm); (case k3 => k_asm); (case k4 => k_asm); (case k5 => k_asm); (case k8 => exact rfl); (case k6 => exact rfl); (case k7 => exact Nat.le_of_ble_eq_true rfl); (case k9 => exact Nat.le_of_ble_eq_true rfl); (case g1 => k_asm)); refine cpsDD ?_; walk_at "TAIL2")))
  trivial
theorem st_spec {w : World} (y : SY) (now : Int) (tn : Tok) (se : Int) (tse : Tok) (vs : List Value) (ts : List TR) (rest : Led) (G : Good y vs ts rest) :
    Spec w 386 880 339 [.ref y.T] (syl w y now tn se tse vs (tls w ts rest)) fun r l => r = .bool false ∧ l = (syl w y now tn se tse vs (tls w ts rest)) := by
  intro pr loose mean mg mb cn cnm cig cic cmo a ccd cl outer A₀ base h₀ L m s Q E B F X N T hret
  k_steps
  refine iter_nil (by rfl) (by assumption) (by assumption) (by k_mem) fun h' tk' F' N' => ?_
  k_steps
  exact hret _ _ _ _ ⟨rfl, rfl⟩ (by assumption) (News.sub (by assumption) fun p hp => .tail _ hp)
theorem freshS5 : True := by
  k_with_none
  (k_with "CJ" => (first | with_reducible assumption | with_reducible exact And.left (by first | with_reducible assumption | with_reducible exact And.right (by first | with_reducible assumption | with_reducible exact And.right (by first | with_reducible assumption | with_reducible exact And.right (by first | with_reducible assumption | with_reducible exact And.right (by first | with_reducible assumption | with_reducible exact And.right (by first | with_reducible assumption | with_reducible exact And.right (by first | with_reducible assumption | with_reducible exact And.right (by first | with_reducible assumption | with_reducible exact And.right (by first | with_reducible assumption | with_reducible exact And.right (by first | with_reducible assumption | with_reducible exact And.right (by first | with_reducible assumption | with_reducible exact And.right (by first | with_reducible assumption | with_reducible exact And.right (by first | with_reducible assumption | with_reducible exact And.right (by first | with_reducible assumption | with_reducible exact And.right (by first | with_reducible assumption | with_reducible exact And.right (by first | with_reducible assumption | with_reducible exact And.right (by first | with_reducible assumption | with_reducible exact And.right (by first | with_reducible assumption | with_reducible exact And.right (by first | with_reducible assumption | with_reducible exact And.right (by first | with_reducible assumption | with_reducible exact And.right (by first | with_reducible assumption | with_reducible exact And.right (by first | with_reducible assumption | with_reducible exact And.right (by with_reducible assumption)))))))))))))))))))))))))
  (k_with "execs cons" => (k_here; (fail_if_success (fail_if_success k_gentoks)); (with_reducible refine gen_toks ?_); intro tk))
  (k_with "execs nil" => (k_here; (fail_if_success (fail_if_success k_gentoks)); (with_reducible refine gen_toks ?_); intro tk))
  w_top off
  trivial
theorem rulesS5x1 : True := by
  (k_with "compareOp Eq str str" => (first | refine eqs_ff (by first | decide | (dsimp only; decide)) ?_ | refine eqs_tt (by first | decide | (dsimp only; decide)) ?_))
  (k_with "compareOp NotEq str str" => (first | refine nes_ff (by first | decide | (dsimp only; decide)) ?_ | refine nes_tt (by first | decide | (dsimp only; decide)) ?_))
  (k_with "exec" => ((k_here; (with_reducible show wpAny _ _ (exec (Stmt.While _ _ _ _) _) _ _ _); k_dflt (refine whl_startW ?_))))
  (k_with "WhlW" => ((dsimp only [WhlW])))
  trivial
theorem Spec.conv {w : World} {D U : Nat} {f : Addr} {vs : List Value} {news : Led} {post post' : Value → Led → Prop} (S : Spec w D U f vs news post) (h : ∀ r l, post r l → post' r l) : Spec w D U f vs news post' :=
  S.perm (fun _ h => h) fun r l p => ⟨l, h r l p, fun _ h => h⟩
theorem ends_tt {w : World} (y : SY) (now : Int) (tn : Tok) (se : Int) (tse : Tok) (vs : List Value) (ts : List TR) (rest : Led) (G : Good y vs ts rest) (hkn : ∀ t ∈ ts, Known t) (hC : ts.any isC = true) :
    Spec w 390 900 310 [.ref y.T] (syl w y now tn se tse vs (tls w ts rest)) fun r l => r = .bool true ∧ l = (syl w y now tn se tse vs (tls w (ts.map settleT) rest)) :=
  (ends_spec y now tn se tse vs ts rest G hkn).conv fun r l h => ⟨hC ▸ h.1, h.2⟩
theorem ends_ff {w : World} (y : SY) (now : Int) (tn : Tok) (se : Int) (tse : Tok) (vs : List Value) (ts : List TR) (rest : Led) (G : Good y vs ts rest) (hkn : ∀ t ∈ ts, Known t) (hC : ts.any isC = false) :
    Spec w 390 900 310 [.ref y.T] (syl w y now tn se tse vs (tls w ts rest)) fun r l => r = .bool false ∧ l = (syl w y now tn se tse vs (tls w (ts.map settleT) rest)) :=
  (ends_spec y now tn se tse vs ts rest G hkn).conv fun r l h => ⟨hC ▸ h.1, h.2⟩
theorem settle_ta (t : TR) : ta (settleT t) = ta t := by unfold settleT; split <;> rfl
theorem tas_map {f : TR → TR} (h : ∀ t, ta (f t) = ta t) (ts : List TR) : tas (ts.map f) = tas ts := by
  unfold tas; rw [List.flatMap_map]; congr 1; funext t; exact h t
theorem vals_map {f : TR → TR} (h : ∀ t, ta (f t) = ta t) (ts : List TR) : vals (ts.map f) = vals ts := by
  unfold vals
  rw [List.map_map]
  congr 1; funext t
  have e : (f t).a = t.a := (List.cons.inj (h t)).1
  show Value.ref (f t).a = _
  rw [e]
theorem settle_known {ts : List TR} (h : ∀ t ∈ ts, Known t) : ∀ t ∈ ts.map settleT, Known t := by
  intro t ht
  obtain ⟨t', h1, rfl⟩ := List.mem_map.mp ht
  unfold settleT
  split
  · exact .inr (.inr (.inr rfl))
  · exact h t' h1
theorem settle_none (ts : List TR) : (ts.map settleT).any isC = false := by
  rw [List.any_eq_false]
  intro t ht
  obtain ⟨t', h1, rfl⟩ := List.mem_map.mp ht
  unfold settleT
  split
  · exact Bool.false_ne_true
  · rename_i h; simpa [isC] using h
theorem settle_same {ts : List TR} (h : ts.any isC = false) : ts.map settleT = ts := by
  conv => rhs; rw [← List.map_id ts]
  refine List.map_congr_left fun t ht => ?_
  have := List.any_eq_false.mp h t ht
  unfold settleT
  rw [if_neg]; · rfl
  · simpa [isC] using this
theorem rulesS5x2 : True := by
  (k_with "call ref" => ((k_here; (with_reducible show wpAny _ _ (call (Value.ref 305) _) _ _ _); k_dflt (refine' Spec.use (abn_spec _ _ _ _ _ _ _ _ ?g1) ?k1 ?k2 ?k3 ?k4 ?k5 ?k6 ?k7 ?k8 ?k9 ?_; (case k4 => k_asm); (case k1 => k_asm); (case k2 => k_asm); (case k3 => k_asm); (case k5 => k_asm); (case k8 => exact rfl); (case k6 => exact rfl); (case k7 => exact Nat.le_of_ble_eq_true rfl); (case k9 => exact Nat.le_of_ble_eq_true rfl); (case g1 => k_asm); skip); refine cps2 ?_; walk_at "TAIL3")))
  (k_with "call ref" => ((k_here; (with_reducible show wpAny _ _ (call (Value.ref 310) _) _ _ _); k_dflt (refine' Spec.use (ends_tt _ _ _ _ _ _ _ _ ?g1 ?g2 ?g3) ?k1 ?k2 ?k3 ?k4 ?k5 ?k6 ?k7 ?k8 ?k9 ?_; (case k4 => k_asm); (case k1 => k_asm); (case k2 => k_asm); (case k3 => k_asm); (case k5 => k_asm); (case k8 => exact rfl); (case k6 => exact rfl); (case k7 => exact Nat.le_of_ble_eq_true rfl); (case k9 => exact Nat.le_of_ble_eq_true rfl); (case g1 => k_asm); (case g2 => k_asm); (case g3 => k_asm); skip); refine cps2 ?_; walk_at "TAIL3")))
  (k_with "call ref" => ((k_here; (with_reducible show wpAny _ _ (call (Value.ref 310) _) _ _ _); k_dflt (refine' Spec.use (ends_ff _ _ _ _ _ _ _ _ ?g1 ?g2 ?g3) ?k1 ?k2 ?k3 ?k4 ?k5 ?k6 ?k7 ?k8 ?k9 ?_; (case k4 => k_asm); (case k1 => k_asm); (case k2 => k_asm); (case k3 => k_asm); (case k5 => k_asm); (case k8 => exact rfl); (case k6 => exact rfl); (case k7 => exact Nat.le_of_ble_eq_true rfl); (case k9 => exact Nat.le_of_ble_eq_true rfl); (case g1 => k_asm); (case g2 => k_asm); (case g3 => k_asm); skip); refine cps2 ?_; walk_at "TAIL3")))
  (k_with "call ref" => ((k_here; (with_reducible show wpAny _ _ (call (Value.ref 339) _) _ _ _); k_dflt (refine' Spec.use (st_spec _ _ _ _ _ _ _ _ ?g1) ?k1 ?k2 ?k3 ?k4 ?k5 ?k6 ?k7 ?k8 ?k9 ?_; (case k4 => k_asm); (case k1 => k_asm); (case k2 => k_asm); (case k3 => k_asm); (case k5 => k_asm); (case k8 => exact rfl); (case k6 => exact rfl); (case k7 => exact Nat.le_of_ble_eq_true rfl); (case k9 => exact Nat.le_of_ble_eq_true rfl); (case g1 => k_asm); skip); refine cps2 ?_; walk_at "TAIL3")))
  trivial
theorem settle_spec {w : World} (y : SY) (now : Int) (tn : Tok) (se : Int) (tse : Tok) (vs : List Value) (ts : List TR) (rest : Led) (G : Good y vs ts rest) (hkn : ∀ t ∈ ts, Known t) :
    Spec w 380 850 346 [.ref y.T] (syl w y now tn se tse vs (tls w ts rest)) fun r l => r = .none ∧ ∃ se' tse', l = (syl w y now tn se' tse' vs (tls w (ts.map settleT) rest)) := by
  intro pr loose mean mg mb cn cnm cig cic cmo a ccd cl outer A₀ base h₀ L m s Q E B F X N T hret
  have G2 : Good y vs (ts.map settleT) rest := G.tas (tas_map settle_ta ts) (vals_map settle_ta ts)
  have hTD : ∀ p ∈ tls w (ts.map settleT) rest, p.1 ≠ y.TD := G2.tls_off (by simp [ya])
  have ⟨y1, y2, y3, y4, y5, y6⟩ := G.neTD
  have hkn2 := settle_known hkn
  have hC2 := settle_none ts
  have hs2 := settle_same hC2
  have G3 : Good y vs ((ts.map settleT).map settleT) rest := by rw [hs2]; exact G2
  cases hC : ts.any isC with
  | false =>
    k_steps
    refine whl_turnW ?_
    k_steps
    exact hret _ _ _ _ ⟨rfl, _, _, rfl⟩ (by assumption) (by assumption)
  | true =>
    k_steps
    refine whl_turnW ?_
    k_steps
    rename News _ _ _ _ => lN'
    replace lN' : News _ _ _ (syl w y now tn _ _ vs (tls w (ts.map settleT) rest)) := lN'
    refine whl_turnW ?_
    k_steps
    rename News _ _ _ _ => lN'
    rw [hs2] at lN'
    exact hret _ _ _ _ ⟨rfl, _, _, rfl⟩ (by assumption) (by assumption)
theorem freshS12 : True := by
  k_with_none
  (k_with "CJ" => (first | with_reducible assumption | with_reducible exact And.left (by first | with_reducible assumption | with_reducible exact And.right (by first | with_reducible assumption | with_reducible exact And.right (by first | with_reducible assumption | with_reducible exact And.right (by first | with_reducible assumption | with_reducible exact And.right (by first | with_reducible assumption | with_reducible exact And.right (by first | with_reducible assumption | with_reducible exact And.right (by first | with_reducible assumption | with_reducible exact And.right (by first | with_reducible assumption | with_reducible exact And.right (by first | with_reducible assumption | with_reducible exact And.right (by first | with_reducible assumption | with_reducible exact And.right (by first | with_reducible assumption | with_reducible exact And.right (by first | with_reducible assumption | with_reducible exact And.right (by first | with_reducible assumption | with_reducible exact And.right (by first | with_reducible assumption | with_reducible exact And.right (by first | with_reducible assumption | with_reducible exact And.right (by first | with_reducible assumption | with_reducible exact And.right (by first | with_reducible assumption | with_reducible exact And.right (by first | with_reducible assumption | with_reducible exact And.right (by first | with_reducible assumption | with_reducible exact And.right (by first | with_reducible assumption | with_reducible exact And.right (by first | with_reducible assumption | with_reducible exact And.right (by first | with_reducible assumption | with_reducible exact And.right (by with_reducible assumption)))))))))))))))))))))))))
  (k_with "execs cons" => (k_here; (fail_if_success (fail_if_success k_gentoks)); (with_reducible refine gen_toks ?_); intro tk))
  (k_with "execs nil" => (k_here; (fail_if_success (fail_if_success k_gentoks)); (with_reducible refine gen_toks ?_); intro tk))
  w_top off
  trivial
theorem rulesS12x1 : True := by
  (k_with "compareOp Eq str str" => (first | refine eqs_ff (by first | decide | (dsimp only; decide)) ?_ | refine eqs_tt (by first | decide | (dsimp only; decide)) ?_))
  (k_with "compareOp NotEq str str" => (first | refine nes_ff (by first | decide | (dsimp only; decide)) ?_ | refine nes_tt (by first | decide | (dsimp only; decide)) ?_))
  (k_with "exec" => ((k_here; (with_reducible show wpAny _ _ (exec (Stmt.While _ _ _ _) _) _ _ _); k_dflt (refine whl_startW ?_))))
  (k_with "WhlW" => ((dsimp only [WhlW])))
  (k_with "exec For Name Name cons nil" => (walk_at "WHOLE1"))
  (k_with "eval Dict nil nil" => ((k_here; k_dflt (refine' newDictL ?k1 ?k2 (TopRead.nolimit (by k_asm)) ?_; (case k1 => k_asm); (case k2 => k_asm); k_whole); walk_at "TAIL4")))
  (k_with "pyIter ref" => ((refine Wrap.out ?_)))
  trivial
theorem wrap_in' {P : Prop} (h : P) : Wrap P := h
theorem drain_spec {w : World} (q : Addr) (rest : Led) (hoff : ∀ p ∈ rest, p.1 ≠ q) (hq : (q == sysModules) = false) :
    Spec w 392 920 102 [.ref q] ((q, dictOf [] 0) :: rest) fun r l => ∃ D, r = .ref D ∧ l = (D, LCg.lst []) :: (q, dictOf [] 0) :: rest := by
  intro pr loose mean mg mb cn cnm cig cic cmo a ccd cl outer A₀ base h₀ L m s Q E B F X N T hret
  k_steps
  rename_i L' _ _ _ _ _ _ l1 _ _ _ _ _ _ _ _ _ _ _ l2
  have hr1 : ∀ p ∈ rest, p.1 ≠ L' + 1 := allLt_ne l1.2 (Nat.le_succ _)
  k_steps
  refine wrap_in' (iter_dict_nil (by rfl) (by assumption) (by assumption) (by k_mem) hq fun h' tk' F' N' => ?_)
  k_steps
  rename_i v0 n0 _ _ _ _ _ _ e0 _ _ _ _ _ _ hL8 D1 _ _ _ _ _ _ lN _ _
  have hy : ys = [] := List.length_eq_zero_iff.mp (by rw [hL8, List.length_map]; exact e0)
  subst hy
  exact hret _ _ _ _ ⟨D1, rfl, rfl⟩ (by assumption) (News.sub lN fun p hp => by
    rcases List.mem_cons.mp hp with rfl | hp
    · exact .head _
    · exact .tail _ (.tail _ (.tail _ (.tail _ hp))))
theorem News.snoc {h₀ h : Heap} {L : Addr} {p : Addr × Obj} {l l' : Led} (N : News h₀ L h l) (hm : p ∈ l) (hs : ∀ q ∈ l', q ∈ l) : News h₀ L h (p :: l') := fun q hq => (List.mem_cons.mp hq).elim (fun e => e ▸ N _ hm) fun hq => N q (hs q hq)
/-- drain_queues at a task's own queues, the whole ledger kept -/
theorem drain_t {w : World} (led : Led) (q : Addr) (hq : (q == sysModules) = false) (hm : (q, dictOf [] 0) ∈ led) :
    Spec w 392 920 102 [.ref q] led fun r l => ∃ D, r = .ref D ∧ l = (D, LCg.lst []) :: led := by
  intro pr loose mean mg mb cn cnm cig cic cmo a ccd cl outer A₀ base h₀ L m s Q E B F X N T hret
  have hat := (N _ hm).1
  have key : ∀ p ∈ led, p.1 = q → p = (q, dictOf [] 0) := fun p hp e => by
    have h1 := (N p hp).1
    rw [e, hat] at h1
    exact Prod.ext e (Option.some.inj h1).symm
  refine drain_spec q (led.filter fun p => p.1 ≠ q) (fun p hp => by simpa using (List.mem_filter.mp hp).2) hq pr loose mean mg mb cn cnm cig cic cmo a ccd cl outer A₀ base h₀ L m s Q E B F X (News.sub N ?_) T ?_
  · intro p hp
    rcases List.mem_cons.mp hp with rfl | hp
    · exact hm
    · exact (List.mem_filter.mp hp).1
  · rintro r l h' tk' ⟨D, h1, rfl⟩ F' N'
    refine hret r _ h' tk' ⟨D, h1, rfl⟩ F' (News.sub N' fun p hp => ?_)
    rcases List.mem_cons.mp hp with rfl | hp
    · exact .head _
    · by_cases e : p.1 = q
      · rw [key p hp e]; exact .tail _ (.head _)
      · exact .tail _ (.tail _ (List.mem_filter.mpr ⟨hp, by simpa using e⟩))
theorem rulesS12x2 : True := by
  (k_with "pyIter ref" => ((k_here; k_dflt (refine' iter_nil ?k0 ?k1 ?k2 ?k3 ?_; (case k0 => exact rfl); (case k1 => k_asm); (case k2 => k_asm); (case k3 => k_mem)); walk_at "TAIL3")))
  trivial
local macro_rules | `(tactic| walk_at "WHOLE2") => `(tactic| (k_here; (rename Fr _ _ _ _ => lF'); (with_unfolding_all refine' For_invVF lF' ?k1 ?k2 ?_; (case k1 => exact rfl); (case k2 => exact rfl); k_whole)))
theorem rulesS12x3 : True := by
  (k_with "exec For Name Attribute cons nil" => (walk_at "WHOLE2"))
  (k_with "call ref" => ((k_here; (with_reducible show wpAny _ _ (call (Value.ref 102) _) _ _ _); k_dflt (refine' Spec.use (drain_t _ _ ?g1 ?g2) ?k1 ?k2 ?k3 ?k4 ?k5 ?k6 ?k7 ?k8 ?k9 ?_; (case k4 => k_asm); (case k1 => k_asm); (case k2 => k_asm); (case k3 => k_asm); (case k5 => k_asm); (case k8 => exact rfl); (case k6 => exact rfl); (case k7 => exact Nat.le_of_ble_eq_true rfl); (case k9 => exact Nat.le_of_ble_eq_true rfl); (case g1 => first | assumption | k_mem); (case g2 => first | assumption | k_mem); skip); refine cpsD ?_; walk_at "TAIL5")))
  trivial
theorem complete_spec {w : World} (t : TR) (rest : Led) (hoff : ∀ p ∈ rest, p.1 ≠ t.d) (hok : t.Ok) (hst : t.st = "ready") (hq : (t.q == sysModules) = false) :
    Spec w 390 900 284 [.ref t.a] (tl w t rest) fun r l => r = .none ∧ ∃ t', Same t t' ∧ Is t' .cmp ∧ l = tl w t' rest := by
  intro pr loose mean mg mb cn cnm cig cic cmo a ccd cl outer A₀ base h₀ L m s Q E B F X N T hret
  have ⟨h1, h2, h3, h4⟩ := hok
  obtain ⟨ta, td, tq, tsv, tms, tk', tnum, ttn, tst, tts, twk, tname, tmaster, topen, tlate, tcall, traised, tanswer, tinside, tpending, tfailed, tstack, tframe, tresult, tbases, tcaught, tresume, tleaving, tline⟩ := t
  dsimp only at hst h1 h2 h3 h4 hoff hq
  subst hst
  dsimp only [tl, tes] at N
  k_steps
  rename News _ _ _ _ => lN'
  replace lN' := News.sub lN' (fun p hp => List.Mem.tail _ hp)
  refine whl_turnW ?_
  k_steps
  rename News _ _ _ _ => lN'
  exact hret _ _ _ _ ⟨rfl, ⟨ta, td, tq, tsv, tms, tk', tnum, ttn, "completed", 433, .none, tname, tmaster, _, tlate, tcall, traised, tanswer, tinside, tpending, tfailed, tstack, tframe, tresult, tbases, tcaught, tresume, tleaving, tline⟩, ⟨rfl, rfl, rfl⟩, ⟨rfl, rfl⟩, rfl⟩ (by assumption) (News.sub lN' fun p hp => .tail _ hp)
theorem freshS8 : True := by
  k_with_none
  (k_with "CJ" => (first | with_reducible assumption | with_reducible exact And.left (by first | with_reducible assumption | with_reducible exact And.right (by first | with_reducible assumption | with_reducible exact And.right (by first | with_reducible assumption | with_reducible exact And.right (by first | with_reducible assumption | with_reducible exact And.right (by first | with_reducible assumption | with_reducible exact And.right (by first | with_reducible assumption | with_reducible exact And.right (by first | with_reducible assumption | with_reducible exact And.right (by first | with_reducible assumption | with_reducible exact And.right (by first | with_reducible assumption | with_reducible exact And.right (by first | with_reducible assumption | with_reducible exact And.right (by first | with_reducible assumption | with_reducible exact And.right (by first | with_reducible assumption | with_reducible exact And.right (by first | with_reducible assumption | with_reducible exact And.right (by first | with_reducible assumption | with_reducible exact And.right (by first | with_reducible assumption | with_reducible exact And.right (by first | with_reducible assumption | with_reducible exact And.right (by first | with_reducible assumption | with_reducible exact And.right (by first | with_reducible assumption | with_reducible exact And.right (by first | with_reducible assumption | with_reducible exact And.right (by first | with_reducible assumption | with_reducible exact And.right (by first | with_reducible assumption | with_reducible exact And.right (by first | with_reducible assumption | with_reducible exact And.right (by with_reducible assumption)))))))))))))))))))))))))
  (k_with "execs cons" => (k_here; (fail_if_success (fail_if_success k_gentoks)); (with_reducible refine gen_toks ?_); intro tk))
  (k_with "execs nil" => (k_here; (fail_if_success (fail_if_success k_gentoks)); (with_reducible refine gen_toks ?_); intro tk))
  w_top off
  trivial
theorem rulesS8x1 : True := by
  (k_with "compareOp Eq str str" => (first | refine eqs_ff (by first | decide | (dsimp only; decide)) ?_ | refine eqs_tt (by first | decide | (dsimp only; decide)) ?_))
  (k_with "compareOp NotEq str str" => (first | refine nes_ff (by first | decide | (dsimp only; decide)) ?_ | refine nes_tt (by first | decide | (dsimp only; decide)) ?_))
  (k_with "exec" => ((k_here; (with_reducible show wpAny _ _ (exec (Stmt.While _ _ _ _) _) _ _ _); k_dflt (refine whl_startW ?_))))
  (k_with "WhlW" => ((dsimp only [WhlW])))
  (k_with "exec For Name Name cons nil" => (walk_at "WHOLE1"))
  (k_with "CompSrc" => ((refine Wrap.out ?_)))
  trivial
theorem next_int {w : World} (D : Addr) (n : Nat) (vs : List Value) (news : Led) (i : Int) (u : Tok) (hl : (D, W.listOf vs.toArray n) ∈ news) (hni : ∀ v ∈ vs, NI v) (hle : leastV vs = .int i u) :
    Spec w 395 950 49 [.ref D] news fun r l => r = .int i u ∧ l = news := fun pr loose mean mg mb cn cnm cig cic cmo a ccd cl outer A₀ base h₀ L m s Q E B F X N T hret =>
  next_spec D n vs news hl hni pr loose mean mg mb cn cnm cig cic cmo a ccd cl outer A₀ base h₀ L m s Q E B F X N T fun r l h' tk' hp => hret r l h' tk' ⟨hp.1.trans hle, hp.2⟩
theorem rulesS8x2 : True := by
  (k_with "call ref" => ((k_here; (with_reducible show wpAny _ _ (call (Value.ref 49) _) _ _ _); k_dflt (refine' Spec.use (next_int _ _ _ _ _ _ ?g1 ?g2 ?g3) ?k1 ?k2 ?k3 ?k4 ?k5 ?k6 ?k7 ?k8 ?k9 ?_; (case k4 => k_asm); (case k1 => k_asm); (case k2 => k_asm); (case k3 => k_asm); (case k5 => k_asm); (case k8 => exact rfl); (case k6 => exact rfl); (case k7 => exact Nat.le_of_ble_eq_true rfl); (case k9 => exact Nat.le_of_ble_eq_true rfl); (case g1 => first | k_mem | assumption); (case g2 => first | k_mem | assumption); (case g3 => first | k_mem | assumption); skip); refine cps2 ?_; walk_at "TAIL3")))
  (k_with "call ref" => ((k_here; (with_reducible show wpAny _ _ (call (Value.ref 63) _) _ _ _); k_dflt (refine' Spec.use (due_spec ?g1 ?g2 ?g3 ?g4) ?k1 ?k2 ?k3 ?k4 ?k5 ?k6 ?k7 ?k8 ?k9 ?_; (case k4 => k_asm); (case k1 => k_asm); (case k2 => k_asm); (case k3 => k_asm); (case k5 => k_asm); (case k8 => exact rfl); (case k6 => exact rfl); (case k7 => exact Nat.le_of_ble_eq_true rfl); (case k9 => exact Nat.le_of_ble_eq_true rfl); (case g3 => k_mem); (case g4 => k_mem); (case g1 => assumption); (case g2 => assumption); skip); refine cps2 ?_; walk_at "TAIL3")))
  (k_with "call ref" => ((k_here; (with_reducible show wpAny _ _ (call (Value.ref 216) _) _ _ _); refine Wrap.out ?_)))
  trivial
noncomputable def mx (now i : Int) : Int := if i > now then i else now
theorem pass_spec {w : World} (y : SY) (now : Int) (tn : Tok) (se : Int) (tse : Tok) (vs : List Value) (ts : List TR) (rest : Led) (as : List AS) (i : Int) (G : Good y vs ts rest) (hA : All2 Is ts as) (hle : leastA as = some i) :
    Spec w 385 880 389 [.ref y.T] (syl w y now tn se tse vs (tls w ts rest)) fun r l => r = .none ∧ ∃ ts' tn', All2 Same ts ts' ∧ All2 Is ts' (as.map (wakeA (mx now i))) ∧ l = syl w y (mx now i) tn' se tse vs (tls w ts' rest) := by
  intro pr loose mean mg mb cn cnm cig cic cmo a ccd cl outer A₀ base h₀ L m s Q E B F X N T hret
  have hwk : ∀ v ∈ ts.map (·.wk), NI v := by
    intro v hv
    obtain ⟨t, ht, rfl⟩ := List.mem_map.mp hv
    obtain ⟨a, _, ha⟩ := hA.left t ht
    exact ha.ni
  have hl := least_VO hA
  rw [hle] at hl
  obtain ⟨u, hl⟩ := hl
  have hCD : ∀ p ∈ tls w ts rest, p.1 ≠ y.CD := G.tls_off (by simp [ya])
  have ⟨y1, y2, y3, y4, y5, y6⟩ := G.neCD
  k_steps
  refine LCg.CompSrc.ledger (by rfl) (by assumption) (by assumption) (by k_mem) (size_of G.few) fun g' => ?_
  refine tasks_comp (fun t => t.wk) (syl w y now tn se tse vs []) rest ts G.hv (by k_mem) ?_ ?_
  · intro t ht C oC m₂ h tk E' other hC hx F' N'
    have hn : NI t.wk := let ⟨a, _, ha⟩ := hA.left t ht; ha.ni
    dsimp only [tl, tes] at N'
    rcases hn with e | ⟨d, u, e⟩
    all_goals (
      rw [e] at N'
      k_steps
      exact ⟨e.symm, Ends.intro (by assumption) (by dsimp only [tl, tes]; rw [e]; assumption)⟩)
  · intro D h tk F' N' o1
    replace N' : News _ _ _ ((D, LCg.lst (ts.map (·.wk))) :: syl w y now tn se tse vs (tls w ts rest)) := N'
    have hDC : @Ne Nat D y.CD := Ne.symm o1.2.2.2.1
    k_steps
    rename News _ _ _ _ => lN'
    replace lN' : News _ _ _ ((D, LCg.lst (ts.map (·.wk))) :: syl w y (mx now i) (if i > now then u else tn) se tse vs (tls w ts rest)) := lN'
    generalize (if i > now then u else tn) = tnw at lN'
    generalize mx now i = nw at lN' hret
    refine tasks_for (w := w) (σ := Unit) (fun _ => _) (fun _ => syl w y nw tnw se tse vs []) (ya y) [] rest ts
      (fun _ dn rem => ∃ tp ap ar, ts = tp ++ rem ∧ as = ap ++ ar ∧ All2 Is rem ar ∧ All2 Same tp dn ∧ All2 Is dn (ap.map (wakeA nw))) () G.hv (by rfl) (by assumption) lN' (fun p hp => .tail _ hp) (fun _ _ => rfl) (fun _ => by k_mem) (fun _ => rfl) G.ap G.off (fun _ h => nomatch h) ⟨[], [], as, rfl, rfl, hA, .nil, .nil⟩ ?_ ?_
    · rintro _ dn t rem h tk other ⟨tp, ap, ar, hts, has, hrem, hdn1, hdn2⟩ hok hoff had hwr hsub htas F' N'
      replace N' : News _ _ _ (syl w y nw tnw se tse vs (tl w t other)) := N'
      cases hrem with
      | cons hta hrem =>
      rename_i a ar
      have hni : NI t.wk := hta.ni
      have hni' := hni
      have ht1 : ts = (tp ++ [t]) ++ rem := by rw [hts]; simp
      have ht2 : as = (ap ++ [a]) ++ ar := by rw [has]; simp
      have ht3 : ∀ t', Same t t' → All2 Same (tp ++ [t]) (dn ++ [t']) := fun t' h => hdn1.append (.cons h .nil)
      have ht4 : ∀ t', Is t' (wakeA nw a) → All2 Is (dn ++ [t']) ((ap ++ [a]).map (wakeA nw)) := fun t' h => by rw [List.map_append]; exact hdn2.append (.cons h .nil)
      cases hb : dueB t.wk nw with
      | false =>
        rw [due_no hta hb] at ht4
        dsimp only [tl, tes] at N'
        rcases hni with e | ⟨d, u, e⟩
        all_goals (
          rw [e] at N' hb
          have hn : NI _ := e ▸ hni'
          k_steps
          exact ⟨(), t, _, ⟨_, _, ar, ht1, ht2, hrem, ht3 _ ⟨rfl, rfl, rfl⟩, ht4 _ hta⟩, rfl, fun _ h1 => if_neg h1, Ends.intro (by assumption) (by dsimp only [tl, tes]; rw [e]; assumption)⟩)
      | true =>
        have ⟨hst, hw⟩ := due_yes hta hb
        rw [hw] at ht4
        have key := up_syl (w := w) y nw tnw se tse vs t other hst had hoff hok
        dsimp only [tl, tes] at N'
        rcases hni with e | ⟨d, u, e⟩
        · rw [e] at hb; cases hb
        dsimp only [tl, tes] at key
        rw [e] at N' hb key
        replace key := wrap18 key
        have hn : NI _ := e ▸ hni'
        k_steps
        refine wrap18 ?_
        refine' Spec.use key ?k1 ?k2 ?k3 ?k4 ?k5 ?k6 ?k7 ?k8 ?k9 ?_
        (case k4 => k_asm)
        (case k1 => k_asm)
        (case k2 => k_asm)
        (case k3 => k_asm)
        (case k5 => k_asm)
        (case k8 => exact rfl)
        (case k6 => exact rfl)
        (case k7 => exact Nat.le_of_ble_eq_true rfl)
        (case k9 => exact Nat.le_of_ble_eq_true rfl)
        refine cpsS ?_
        intro h' tk' F' o' t' N'
        k_steps
        exact ⟨(), { t with st := "ready", ts := t', open_ := o', wk := .none, late := .none, answer := .none, raised := .none }, _, ⟨_, _, ar, ht1, ht2, hrem, ht3 _ ⟨rfl, rfl, rfl⟩, ht4 _ ⟨rfl, rfl⟩⟩, rfl, fun _ h1 => if_neg h1, Ends.intro (by assumption) (by assumption)⟩
    · rintro _ ts' u h tk ⟨tp, ap, ar, hts, has, hrem, hdn1, hdn2⟩ htas F' N'
      replace N' : News _ _ _ (syl w y nw tnw se tse vs (tls w ts' rest)) := N'
      cases hrem
      rw [List.append_nil] at hts has
      subst hts has
      k_steps
      exact hret _ _ _ _ ⟨rfl, _, _, hdn1, hdn2, rfl⟩ (by assumption) (by assumption)
theorem freshL2 : True := by
  k_with_none
  (k_with "CJ" => (first | with_reducible assumption | with_reducible exact And.left (by first | with_reducible assumption | with_reducible exact And.right (by first | with_reducible assumption | with_reducible exact And.right (by first | with_reducible assumption | with_reducible exact And.right (by first | with_reducible assumption | with_reducible exact And.right (by first | with_reducible assumption | with_reducible exact And.right (by first | with_reducible assumption | with_reducible exact And.right (by first | with_reducible assumption | with_reducible exact And.right (by first | with_reducible assumption | with_reducible exact And.right (by first | with_reducible assumption | with_reducible exact And.right (by first | with_reducible assumption | with_reducible exact And.right (by first | with_reducible assumption | with_reducible exact And.right (by first | with_reducible assumption | with_reducible exact And.right (by first | with_reducible assumption | with_reducible exact And.right (by first | with_reducible assumption | with_reducible exact And.right (by first | with_reducible assumption | with_reducible exact And.right (by first | with_reducible assumption | with_reducible exact And.right (by first | with_reducible assumption | with_reducible exact And.right (by first | with_reducible assumption | with_reducible exact And.right (by first | with_reducible assumption | with_reducible exact And.right (by first | with_reducible assumption | with_reducible exact And.right (by first | with_reducible assumption | with_reducible exact And.right (by first | with_reducible assumption | with_reducible exact And.right (by with_reducible assumption)))))))))))))))))))))))))
  (k_with "execs cons" => (k_here; (fail_if_success (fail_if_success k_gentoks)); (with_reducible refine gen_toks ?_); intro tk))
  (k_with "execs nil" => (k_here; (fail_if_success (fail_if_success k_gentoks)); (with_reducible refine gen_toks ?_); intro tk))
  w_top off
  trivial
section
variable {prog : Program} {w : World} {A : Around} {E : Value → Shared → Prop} {s : Shared} {env : Env} {h₀ : Heap} {x : Str} {body : List Stmt} {Q : Flow → Shared → Prop}
theorem rangeRest_ind {I : Addr} {a : Int} {n : Nat} (J : Nat → (Str → Option Value) → Led → Prop)
    (step : ∀ i m news, i < n → J i m news → ∀ t h tk, Fr h₀ env.locals h (fun y => if y = x then some (.int (a + (i : Int)) t) else m y) → News h₀ env.locals h ((I, itR (a + ((i + 1 : Nat) : Int)) ((n : Int) - ((i + 1 : Nat) : Int))) :: news) →
      wpAny (model prog w) A (execs body env) (UnrPost h₀ env.locals { s with heap := h, toks := tk } I (itR (a + ((i + 1 : Nat) : Int)) ((n : Int) - ((i + 1 : Nat) : Int))) (J (i + 1)) Q) E { s with heap := h, toks := tk })
    (done : ∀ m news, J n m news → ∀ h tk, Fr h₀ env.locals h m → News h₀ env.locals h news → Q .next { s with heap := h, toks := tk }) :
    ∀ k i m news, i + k = n → J i m news → RangeRest prog w A E h₀ env x body Q s I a n k i m news
  | 0, i, m, news, e, hj => fun h tk F N => done m news (by have : i = n := by omega
                                                            rw [← this]; exact hj) h tk F N
  | k + 1, i, m, news, e, hj => fun t h tk F N => by
    refine wpAny_mono (step i m news (by omega) hj t h tk F N) (fun f s₂ p => ?_) fun _ _ e => e
    have kk : ∀ m' n', J (i + 1) m' n' → RangeRest prog w A E h₀ env x body Q s I a n k (i + 1) m' n' := fun m' n' q => rangeRest_ind J step done k (i + 1) m' n' (by omega) q
    cases f with
    | ret v => exact p
    | brk => exact p
    | next => exact unrEnd_mono p kk
    | cont => exact unrEnd_mono p kk

/-- what a turn of a loop over a range leaves -/
noncomputable def REnd (h₀ : Heap) (L : Addr) (s : Shared) (I : Addr) (it : Obj) (R : (Str → Option Value) → Led → Prop) (s₂ : Shared) : Prop :=
  ∃ h' tk m' news', s₂ = { s with heap := h', toks := tk } ∧ Fr h₀ L h' m' ∧ News h₀ L h' ((I, it) :: news') ∧ R m' news'
theorem range_for (J : Nat → (Str → Option Value) → Led → Prop) {r : Addr} {b₀ : Int} {t₀ u₀ v₀ : Tok} {n : Nat} {m₀ : Str → Option Value} {news : Led}
    (hh : A.handled = none) (hr : IsRange s.heap r 0 b₀ 1 t₀ u₀ v₀) (hb : b₀ = (n : Int)) (hn : n ≤ 1000) (F : Fr h₀ env.locals s.heap m₀) (N : News h₀ env.locals s.heap news)
    (hJ : ∀ I : Addr, (∀ p ∈ news, p.1 < I) → J 0 m₀ news)
    (turn : ∀ I i m news', (∀ p ∈ news, p.1 < I) → i < n → J i m news' → ∀ t h tk it, it.cls = .type "range_iterator" → Fr h₀ env.locals h (fun y => if y = x then some (.int (i : Int) t) else m y) → News h₀ env.locals h ((I, it) :: news') →
      wpAny (model prog w) A (execs body env) (fun f s₂ => match f with
        | .ret v => Q (.ret v) s₂
        | .brk => Q .next s₂
        | _ => Wrap (REnd h₀ env.locals { s with heap := h, toks := tk } I it (fun m' n' => (∀ p ∈ n', p.1 ≠ I) ∧ J (i + 1) m' n') s₂)) E { s with heap := h, toks := tk })
    (done : ∀ m news', J n m news' → ∀ h tk, Fr h₀ env.locals h m → News h₀ env.locals h news' → Q .next { s with heap := h, toks := tk }) :
    wpAny (model prog w) A (pyIter (.ref r)) (fun it s₂ => LoopAtV prog w A h₀ env x body Q E it s₂) E s := by
  subst hb
  have hsz : Builtin.Range.rangeSize 0 (n : Int) 1 = (n : Int) := by rw [rangeSize_nat]; omega
  refine iter_rangeUnr (n := n) hh hr (small_one (by decide) (by decide) (by omega) (by omega)) hsz F N fun I hI => ?_
  refine rangeRest_ind J ?_ done n 0 m₀ news (by omega) (hJ I hI)
  intro i m news' hi hj t h tk F₁ N₁
  rw [Int.zero_add] at F₁
  refine wpAny_mono (turn I i m news' hI hi hj t h tk _ rfl F₁ N₁) (fun f s₂ p => ?_) fun _ _ e => e
  have fin : REnd h₀ env.locals { s with heap := h, toks := tk } I (itR (0 + ((i + 1 : Nat) : Int)) ((n : Int) - ((i + 1 : Nat) : Int))) (fun m' n' => (∀ p ∈ n', p.1 ≠ I) ∧ J (i + 1) m' n') s₂ →
      UnrEnd h₀ env.locals { s with heap := h, toks := tk } I (itR (0 + ((i + 1 : Nat) : Int)) ((n : Int) - ((i + 1 : Nat) : Int))) (J (i + 1)) s₂ := by
    rintro ⟨h', tk', m', n', rfl, F', N', ho, hj'⟩
    exact ⟨h', tk', m', n', rfl, F', N', ho, hj'⟩
  cases f with
  | ret v => exact p
  | brk => exact p
  | next => exact fin p
  | cont => exact fin p
end
theorem freshL3 : True := by
  k_with_none
  (k_with "CJ" => (first | with_reducible assumption | with_reducible exact And.left (by first | with_reducible assumption | with_reducible exact And.right (by first | with_reducible assumption | with_reducible exact And.right (by first | with_reducible assumption | with_reducible exact And.right (by first | with_reducible assumption | with_reducible exact And.right (by first | with_reducible assumption | with_reducible exact And.right (by first | with_reducible assumption | with_reducible exact And.right (by first | with_reducible assumption | with_reducible exact And.right (by first | with_reducible assumption | with_reducible exact And.right (by first | with_reducible assumption | with_reducible exact And.right (by first | with_reducible assumption | with_reducible exact And.right (by first | with_reducible assumption | with_reducible exact And.right (by first | with_reducible assumption | with_reducible exact And.right (by first | with_reducible assumption | with_reducible exact And.right (by first | with_reducible assumption | with_reducible exact And.right (by first | with_reducible assumption | with_reducible exact And.right (by first | with_reducible assumption | with_reducible exact And.right (by first | with_reducible assumption | with_reducible exact And.right (by first | with_reducible assumption | with_reducible exact And.right (by first | with_reducible assumption | with_reducible exact And.right (by first | with_reducible assumption | with_reducible exact And.right (by first | with_reducible assumption | with_reducible exact And.right (by first | with_reducible assumption | with_reducible exact And.right (by with_reducible assumption)))))))))))))))))))))))))
  (k_with "execs cons" => (k_here; (fail_if_success (fail_if_success k_gentoks)); (with_reducible refine gen_toks ?_); intro tk))
  (k_with "execs nil" => (k_here; (fail_if_success (fail_if_success k_gentoks)); (with_reducible refine gen_toks ?_); intro tk))
  w_top off
  trivial
noncomputable def lawDef : Stmt := (PySem.Challenge.pw_pb0024_01.main.body.drop 64).headD (.Pass ⟨0,0,0,0⟩)
noncomputable def lawStmts : List Stmt := match lawDef with
  | .FunctionDef (body := b) .. => b
  | _ => []
noncomputable def lawScope : Scope := match lawDef with
  | .FunctionDef (scope := b) .. => b
  | _ => ⟨.function, [], false, false, []⟩
noncomputable def forBody : List Stmt → List Stmt
  | .For (body := b) .. :: _ => b
  | _ => []
noncomputable def sleepsBody : List Stmt := forBody (lawStmts.drop 3)
noncomputable def turnBody : List Stmt := forBody (lawStmts.drop 12)
theorem Hand.of {vs : List Value} {ns : List Int} (h : IntsAre vs ns) (hl : ns.length < 100) : Hand vs := by
  refine ⟨fun v hv => ?_, by rw [h.length]; exact hl⟩
  clear hl
  induction h with
  | nil => cases hv
  | cons k t _ ih =>
    rcases List.mem_cons.mp hv with rfl | hv
    · exact ⟨_, _, rfl⟩
    · exact ih hv
theorem next_nil {w : World} (D : Addr) (n : Nat) (news : Led) (hl : (D, W.listOf #[] n) ∈ news) :
    Spec w 395 950 49 [.ref D] news fun r l => r = .none ∧ l = news := next_spec D n [] news hl fun _ h => nomatch h
theorem next_404 {w : World} (D : Addr) (n : Nat) (t u : Tok) (news : Led) (hl : (D, W.listOf #[.int 4 t, .none, .int 4 u] n) ∈ news) :
    Spec w 395 950 49 [.ref D] news fun r l => r = .int 4 t ∧ l = news := next_spec D n [.int 4 t, .none, .int 4 u] news hl fun v h => by
      simp only [List.mem_cons, List.not_mem_nil, or_false] at h
      rcases h with rfl | rfl | rfl
      · exact .inr ⟨_, _, rfl⟩
      · exact .inl rfl
      · exact .inr ⟨_, _, rfl⟩

section
variable {prog : Program} {w : World} {A : Around} {E : Value → Shared → Prop} {s : Shared} {h₀ : Heap} {L : Addr} {m : Str → Option Value} {env : Env} {elt ct : Expr} {x : Str} {scope : Scope} {cl : List (Str × Addr)} {Fin : List Value → Led → Prop}
theorem all2_take_snoc {α β : Type} {R : α → β → Prop} {ts : List α} {ys : List β} {i : Nat} {t : α} {y : β} (h : All2 R (ts.take i) ys) (ht : ts[i]? = some t) (hy : R t y) : All2 R (ts.take (i + 1)) (ys ++ [y]) := by
  rw [List.take_add_one, ht]
  exact h.append (.cons hy .nil)
theorem tasks_compR (R : TR → Value → Prop) (pre : Led) (rest : Led) (ts : List TR) {TL : Addr} {n : Nat} {vs : List Value} (hvs : vals ts = vs) (hlp : (TL, W.listOf vs.toArray n) ∈ pre)
    (item : ∀ t ∈ ts, ∀ C oC m₂ h tk (E' : Value → Shared → Prop) other, LCg.NsObj oC m₂ → m₂ x = some (.ref t.a) → Fr h₀ L h m → News h₀ L h ((C, oC) :: tl w t other) →
      wpAny (model prog w) A (eval elt (compEnvC scope cl C env)) (fun y s' => Wrap (R t y ∧ Ends h₀ L m { s with heap := h, toks := tk } ((C, oC) :: tl w t other) s')) E' { s with heap := h, toks := tk })
    (done : ∀ ys, All2 R ts ys → Fin ys (pre ++ tls w ts rest)) :
    LCg.CompRest prog w A h₀ L m env elt x scope cl s (LCg.SrcAt h₀ TL vs.toArray) (fun i v => vs.toArray[i]? = some v) Fin vs.toArray.size 0 [] (pre ++ tls w ts rest) := by
  subst hvs
  have hsz : (vals ts).toArray.size = ts.length := by simp [vals]
  refine compRest_ind (n := ts.length) (fun i ys news => All2 R (ts.take i) ys ∧ news = pre ++ tls w ts rest) ?_ ?_ _ _ _ _ (by rw [hsz]; omega) ⟨.nil, rfl⟩
  · rintro i ys news hi ⟨hys, rfl⟩ v I oI C oC D m₂ h tk E' hv hC hx F N o ne
    obtain ⟨t, ht, rfl⟩ := vals_get hv
    have hmem : t ∈ ts := List.mem_of_getElem? ht
    have sp := at_split ht
    have perm : ∀ p, p ∈ (I, oI) :: (C, oC) :: (D, LCg.lst ys) :: (pre ++ tls w ts rest) ↔ p ∈ (C, oC) :: tl w t ((I, oI) :: (D, LCg.lst ys) :: pre ++ tls w (ts.take i) (tls w (ts.drop (i + 1)) rest)) := turn_perm sp _ _ _ pre rest
    refine wpAny_mono (item t hmem C oC m₂ h tk E' _ hC hx F (News.sub N fun p hp => (perm p).mpr hp)) (fun y s₃ q => ?_) fun _ _ e => e
    obtain ⟨hr, h', tk', rfl, F', N'⟩ := q
    exact ⟨h', tk', _, rfl, F', News.sub N' fun p hp => (perm p).mp hp, o, .inr ⟨_, List.mem_append_left _ hlp, rfl, _, rfl⟩, all2_take_snoc hys ht hr, rfl⟩
  · rintro ys news ⟨hys, rfl⟩
    rw [List.take_length] at hys
    exact done ys hys
end
theorem item_spec {prog : Program} {w : World} {A : Around} {E : Value → Shared → Prop} {s : Shared} {value slice : PySem.Expr} {h₀ : Heap} {L l : Addr} {m : Str → Option Value} {news : Led} {vs : List Value} {n : Nat} {k : Int} {u : Tok} {v : Value} {Q : Value → Shared → Prop}
    (F : Fr h₀ L s.heap m) (N : News h₀ L s.heap news) (hl : (l, W.listOf vs.toArray n) ∈ news) (h0 : 0 ≤ k) (hhi : k < 2 ^ 63) (hx : vs[k.toNat]? = some v) (h : Q v s)
    (hs : subscripted slice false (.ref l) (.int k u) = operate [.ref l, .int k u] (getItem (.ref l) (.int k u)) := by with_unfolding_all rfl) :
    wpAny (model prog w) A (subscriptTail value slice (.ref l) (.int k u)) Q E s :=
  have hL : s.heap.IsList l vs.toArray := ⟨_, (N _ hl).1, rfl, n, rfl⟩
  tail_any hL.typeIs slot_list_getitem.lookup (wpAny_getItem_list hL h0 hhi (by simpa using hx) h) hs
section
variable {prog : Program} {w : World} {A : Around} {E : Value → Shared → Prop} {s : Shared} {h₀ : Heap} {L l : Addr} {news : Led} {vs : List Value} {n : Nat}
theorem lenS {Q : Value → Shared → Prop} (N : News h₀ L s.heap news) (hl : (l, W.listOf vs.toArray n) ∈ news) (hz : vs.length ≤ 1000)
    (h : Q (.int (vs.length : Int) (s.toks + 1)) { s with toks := s.toks + 1 + 1 }) : wpAny (model prog w) A (call (.builtin "len") [.ref l]) Q E s :=
  len_list (items := vs.toArray) ⟨_, (N _ hl).1, rfl, n, rfl⟩ (by rw [List.size_toArray]; omega) (by rw [List.size_toArray]; exact h)
theorem truthS {Q : Bool → Shared → Prop} (N : News h₀ L s.heap news) (hl : (l, W.listOf vs.toArray n) ∈ news) (hz : vs.length ≤ 1000)
    (h : Q (!vs.isEmpty) { s with toks := s.toks + 1 + 1 }) : wpAny (model prog w) A (truthy (.ref l)) Q E s :=
  wpAny_truthy_list (items := vs.toArray) ⟨_, (N _ hl).1, rfl, n, rfl⟩ (by rw [List.size_toArray]; omega) (by rw [List.isEmpty_toArray]; exact h)
end
theorem ints_all2 {ts : List TR} {f : TR → Int} {ys : List Value} (h : All2 (fun t y => ∃ u, y = Value.int (f t) u) ts ys) : IntsAre ys (ts.map f) := by
  induction h with
  | nil => exact .nil
  | cons x _ ih => obtain ⟨u, rfl⟩ := x; exact .cons _ _ ih
noncomputable def MarkW : Prop := True
theorem wrap_in {P : Prop} (h : P) : Wrap P := h
/-- the law's own frame -/
noncomputable abbrev lawEnv (L fa : Addr) (cd : Value) : Env := envOfC "law" lawScope L fa cd
theorem freshS13 : True := by
  k_with_none
  (k_with "CJ" => (first | with_reducible assumption | with_reducible exact And.left (by first | with_reducible assumption | with_reducible exact And.right (by first | with_reducible assumption | with_reducible exact And.right (by first | with_reducible assumption | with_reducible exact And.right (by first | with_reducible assumption | with_reducible exact And.right (by first | with_reducible assumption | with_reducible exact And.right (by first | with_reducible assumption | with_reducible exact And.right (by first | with_reducible assumption | with_reducible exact And.right (by first | with_reducible assumption | with_reducible exact And.right (by first | with_reducible assumption | with_reducible exact And.right (by first | with_reducible assumption | with_reducible exact And.right (by first | with_reducible assumption | with_reducible exact And.right (by first | with_reducible assumption | with_reducible exact And.right (by first | with_reducible assumption | with_reducible exact And.right (by first | with_reducible assumption | with_reducible exact And.right (by first | with_reducible assumption | with_reducible exact And.right (by first | with_reducible assumption | with_reducible exact And.right (by first | with_reducible assumption | with_reducible exact And.right (by first | with_reducible assumption | with_reducible exact And.right (by first | with_reducible assumption | with_reducible exact And.right (by first | with_reducible assumption | with_reducible exact And.right (by first | with_reducible assumption | with_reducible exact And.right (by first | with_reducible assumption | with_reducible exact And.right (by with_reducible assumption)))))))))))))))))))))))))
  (k_with "execs cons" => (k_here; (fail_if_success (fail_if_success k_gentoks)); (with_reducible refine gen_toks ?_); intro tk))
  (k_with "execs nil" => (k_here; (fail_if_success (fail_if_success k_gentoks)); (with_reducible refine gen_toks ?_); intro tk))
  w_top off
  trivial
theorem rulesS13x1 : True := by
  (k_with "compareOp Eq str str" => (first | refine eqs_ff (by first | decide | (dsimp only; decide)) ?_ | refine eqs_tt (by first | decide | (dsimp only; decide)) ?_))
  (k_with "compareOp NotEq str str" => (first | refine nes_ff (by first | decide | (dsimp only; decide)) ?_ | refine nes_tt (by first | decide | (dsimp only; decide)) ?_))
  (k_with "exec" => ((k_here; (with_reducible show wpAny _ _ (exec (Stmt.While _ _ _ _) _) _ _ _); k_dflt (refine whl_startW ?_))))
  (k_with "WhlW" => ((dsimp only [WhlW])))
  (k_with "exec For Name Name cons nil" => (walk_at "WHOLE1"))
  trivial
theorem delay_spec {w : World} (y : SY) (now : Int) (tn : Tok) (se : Int) (tse : Tok) (vs : List Value) (t : TR) (d : Int) (u : Tok) (rest : Led) (hst : t.st = "ready") (hwk : t.wk = .none) (hok : t.Ok) (hy : ∀ a ∈ ya y, a ≠ t.d) (hoff : ∀ p ∈ rest, p.1 ≠ t.d) :
    Spec w 390 900 209 [.ref y.T, .ref t.a, .int d u] (syl w y now tn se tse vs (tl w t rest)) fun r l => r = .none ∧ ∃ t', Same t t' ∧ Is t' (if d > 0 then .slp (now + d) else .rdy) ∧ l = syl w y now tn se tse vs (tl w t' rest) := by
  intro pr loose mean mg mb cn cnm cig cic cmo a ccd cl outer A₀ base h₀ L m s Q E B F X N T hret
  have ⟨h1, h2, h3, h4⟩ := hok
  have ⟨y1, y2, y3, y4, y5, y6, y7⟩ := ya_ne hy
  obtain ⟨ta, td, tq, tsv, tms, tk', tnum, ttn, tst, tts, twk, tname, tmaster, topen, tlate, tcall, traised, tanswer, tinside, tpending, tfailed, tstack, tframe, tresult, tbases, tcaught, tresume, tleaving, tline⟩ := t
  dsimp only at hst hwk h1 h2 h3 h4 hoff y1 y2 y3 y4 y5 y6 y7
  subst hst hwk
  dsimp only [tl, tes] at N
  by_cases hd : d > 0
  · rw [if_pos hd] at hret
    k_steps
    rename News _ _ _ _ => lN'
    have e : (if 0 > d then (0 : Int) else d) = d := if_neg (by omega)
    rw [e] at lN'
    exact hret _ _ _ _ ⟨rfl, ⟨ta, td, tq, tsv, tms, tk', tnum, ttn, "delayed", 429, .int (now + d) _, tname, tmaster, topen, tlate, tcall, .none, .none, tinside, tpending, tfailed, tstack, tframe, tresult, tbases, tcaught, tresume, tleaving, tline⟩, ⟨rfl, rfl, rfl⟩, ⟨rfl, _, rfl⟩, rfl⟩ (by assumption) lN'
  · rw [if_neg hd] at hret
    k_steps
    rename News _ _ _ _ => lN'
    exact hret _ _ _ _ ⟨rfl, ⟨ta, td, tq, tsv, tms, tk', tnum, ttn, "ready", tts, .none, tname, tmaster, topen, tlate, tcall, .none, .none, tinside, tpending, tfailed, tstack, tframe, tresult, tbases, tcaught, tresume, tleaving, tline⟩, ⟨rfl, rfl, rfl⟩, ⟨rfl, rfl⟩, rfl⟩ (by assumption) lN'
theorem freshS9 : True := by
  k_with_none
  (k_with "CJ" => (first | with_reducible assumption | with_reducible exact And.left (by first | with_reducible assumption | with_reducible exact And.right (by first | with_reducible assumption | with_reducible exact And.right (by first | with_reducible assumption | with_reducible exact And.right (by first | with_reducible assumption | with_reducible exact And.right (by first | with_reducible assumption | with_reducible exact And.right (by first | with_reducible assumption | with_reducible exact And.right (by first | with_reducible assumption | with_reducible exact And.right (by first | with_reducible assumption | with_reducible exact And.right (by first | with_reducible assumption | with_reducible exact And.right (by first | with_reducible assumption | with_reducible exact And.right (by first | with_reducible assumption | with_reducible exact And.right (by first | with_reducible assumption | with_reducible exact And.right (by first | with_reducible assumption | with_reducible exact And.right (by first | with_reducible assumption | with_reducible exact And.right (by first | with_reducible assumption | with_reducible exact And.right (by first | with_reducible assumption | with_reducible exact And.right (by first | with_reducible assumption | with_reducible exact And.right (by first | with_reducible assumption | with_reducible exact And.right (by first | with_reducible assumption | with_reducible exact And.right (by first | with_reducible assumption | with_reducible exact And.right (by first | with_reducible assumption | with_reducible exact And.right (by first | with_reducible assumption | with_reducible exact And.right (by with_reducible assumption)))))))))))))))))))))))))
  (k_with "execs cons" => (k_here; (fail_if_success (fail_if_success k_gentoks)); (with_reducible refine gen_toks ?_); intro tk))
  (k_with "execs nil" => (k_here; (fail_if_success (fail_if_success k_gentoks)); (with_reducible refine gen_toks ?_); intro tk))
  w_top off
  trivial
theorem rulesS9x1 : True := by
  (k_with "compareOp Eq str str" => (first | refine eqs_ff (by first | decide | (dsimp only; decide)) ?_ | refine eqs_tt (by first | decide | (dsimp only; decide)) ?_))
  (k_with "compareOp NotEq str str" => (first | refine nes_ff (by first | decide | (dsimp only; decide)) ?_ | refine nes_tt (by first | decide | (dsimp only; decide)) ?_))
  (k_with "exec" => ((k_here; (with_reducible show wpAny _ _ (exec (Stmt.While _ _ _ _) _) _ _ _); k_dflt (refine whl_startW ?_))))
  (k_with "WhlW" => ((dsimp only [WhlW])))
  (k_with "exec For Name Name cons nil" => (walk_at "WHOLE1"))
  (k_with "pyIter ref" => ((refine Wrap.out ?_)))
  (k_with "call ref" => ((k_here; (with_reducible show wpAny _ _ (call (Value.ref 410) _) _ _ _); k_dflt (refine' Spec.use (figure_spec ?u1 ?g1 ?g2) ?k1 ?k2 ?k3 ?k4 ?k5 ?k6 ?k7 ?k8 ?k9 ?_; (case k4 => k_asm); (case k1 => k_asm); (case k2 => k_asm); (case k3 => k_asm); (case k5 => k_asm); (case k8 => exact rfl); (case k6 => exact rfl); (case k7 => exact Nat.le_of_ble_eq_true rfl); (case k9 => exact Nat.le_of_ble_eq_true rfl); (case u1 => k_updF); (case g1 => assumption); (case g2 => omega)); refine cpsF ?_; walk_at "TAIL6")))
  (k_with "call ref" => ((k_here; (with_reducible show wpAny _ _ (call (Value.ref 49) _) _ _ _); k_dflt (refine' Spec.use (next_nil _ _ _ ?g1) ?k1 ?k2 ?k3 ?k4 ?k5 ?k6 ?k7 ?k8 ?k9 ?_; (case k4 => k_asm); (case k1 => k_asm); (case k2 => k_asm); (case k3 => k_asm); (case k5 => k_asm); (case k8 => exact rfl); (case k6 => exact rfl); (case k7 => exact Nat.le_of_ble_eq_true rfl); (case k9 => exact Nat.le_of_ble_eq_true rfl); (case g1 => k_mem); skip); refine cps2 ?_; walk_at "TAIL3")))
  (k_with "call ref" => ((k_here; (with_reducible show wpAny _ _ (call (Value.ref 49) _) _ _ _); k_dflt (refine' Spec.use (next_404 _ _ _ _ _ ?g1) ?k1 ?k2 ?k3 ?k4 ?k5 ?k6 ?k7 ?k8 ?k9 ?_; (case k4 => k_asm); (case k1 => k_asm); (case k2 => k_asm); (case k3 => k_asm); (case k5 => k_asm); (case k8 => exact rfl); (case k6 => exact rfl); (case k7 => exact Nat.le_of_ble_eq_true rfl); (case k9 => exact Nat.le_of_ble_eq_true rfl); (case g1 => k_mem); skip); refine cps2 ?_; walk_at "TAIL3")))
  trivial
local macro_rules | `(tactic| walk_at "WHOLE3") => `(tactic| ((rename Fr _ _ _ _ => F'); (rename News _ _ _ _ => N'); (with_unfolding_all refine range1_rows F' N' ?_; intro _ _ _ _ _ hR' F' N' _)))
theorem rulesS9x2 : True := by
  (k_with "call type:range" => (walk_at "WHOLE3"))
  trivial
local macro_rules | `(tactic| walk_at "WHOLE4") => `(tactic| ((rename MarkW => hMk); refine Wrap.out ?_))
theorem rulesS9x3 : True := by
  (k_with "CompSrc" => (walk_at "WHOLE4"))
  trivial
local macro_rules | `(tactic| walk_at "WHOLE5") => `(tactic| ((rename MarkW => hMk); refine Wrap.out ?_))
theorem rulesS9x4 : True := by
  (k_with "CompSrcT" => (walk_at "WHOLE5"))
  (k_with "call builtin:len" => ((k_here; k_dflt (refine' lenS ?N ?m ?z ?_; (case N => k_asm); (case m => k_mem); (case z => assumption)))))
  (k_with "truthy ref" => ((k_here; k_dflt (refine' truthS ?N ?m ?z ?_; (case N => k_asm); (case m => k_mem); (case z => assumption)))))
  trivial
noncomputable def chDef : Stmt := (lawStmts.drop 5).headD (.Pass ⟨0,0,0,0⟩)
noncomputable def chBody : List Stmt := match chDef with
  | .FunctionDef (body := b) .. => b
  | _ => []
noncomputable def chParams : Arguments := match chDef with
  | .FunctionDef (args := b) .. => b
  | _ => ⟨[], [], none, [], [], none, []⟩
noncomputable def chScope : Scope := match chDef with
  | .FunctionDef (scope := b) .. => b
  | _ => ⟨.function, [], false, false, []⟩
set_option genInjectivity false in
set_option genSizeOf false in
/-- the law's own objects about the choice -/
structure CH where
  ch : Addr
  cc : Addr
  cR : Addr
  cH : Addr
  H : Addr
  RR : Addr
  qual : Str
  doc : Value
  pm : Value
  ctv : Value
  oc : Obj
  oR : Obj
  oH : Obj
  vs : Array Value
  t : Tok
noncomputable abbrev chl (c : CH) (hs : List Value) (nh : Nat) (rr : List Value) (nr : Nat) (rest : Led) : Led :=
  (c.H, W.listOf hs.toArray nh) :: (c.RR, W.listOf rr.toArray nr) :: (c.ch, fnMade "_law_chooser" c.qual chParams chBody chScope [("ready_rows", c.cR), ("hand", c.cH)] c.doc c.pm c.cc c.ctv) :: (c.cc, c.oc) :: (c.cR, c.oR) :: (c.cH, c.oH) :: rest
structure CH.Ok (c : CH) : Prop where
  d1 : c.oc.data = .fields c.vs
  d2 : c.vs[1]? = some (.str c.qual c.t)
  dR : c.oR.data = .cell (some (.ref c.RR))
  dH : c.oH.data = .cell (some (.ref c.H))
  a1 : @Ne Nat c.RR c.H
  a2 : @Ne Nat c.ch c.H
  a3 : @Ne Nat c.cc c.H
  a4 : @Ne Nat c.cR c.H
  a5 : @Ne Nat c.cH c.H
  b2 : @Ne Nat c.ch c.RR
  b3 : @Ne Nat c.cc c.RR
  b4 : @Ne Nat c.cR c.RR
  b5 : @Ne Nat c.cH c.RR
theorem chooser_spec {w : World} (c : CH) (hc : c.Ok) (D : Addr) (rd : List TR) (rest : Led) (hs : List Value) (nh : Nat) (rr : List Value) (nr : Nat) (hH : Hand hs) (hrr : rr.length < 100) (hD1 : @Ne Nat D c.H) (hD2 : @Ne Nat D c.RR)
    (hne : rd ≠ []) (hfew : rd.length ≤ 100) (hCH : ∀ p ∈ tls w rd rest, p.1 ≠ c.H) (hCR : ∀ p ∈ tls w rd rest, p.1 ≠ c.RR) :
    Spec w 380 830 c.ch [.ref D] ((D, LCg.lst (vals rd)) :: chl c hs nh rr nr (tls w rd rest)) fun r l => ∃ (j : Nat) (t : TR) (hs' : List Value) (nh' : Nat) (row : Addr) (rv : List Value), rd[j]? = some t ∧ r = .ref t.a ∧ Hand hs' ∧ IntsAre rv (rd.map (·.num - 1)) ∧ (∀ p ∈ chl c hs nh rr nr (tls w rd rest), p.1 ≠ row) ∧
      l = (row, LCg.lst rv) :: (D, LCg.lst (vals rd)) :: chl c hs' nh' (rr ++ [.ref row]) (nr + 1) (tls w rd rest) := by
  intro pr loose mean mg mb cn cnm cig cic cmo a ccd cl outer A₀ base h₀ L m s Q E B F X N T hret
  obtain ⟨d1, d2, dR, dH, a1, a2, a3, a4, a5, b2, b3, b4, b5⟩ := hc
  have hz : (vals rd).length ≤ 1000 := by rw [vals, List.length_map]; omega
  have hz0 : 0 < rd.length := List.length_pos_iff.mpr hne
  have hzl : (vals rd).length = rd.length := List.length_map ..
  have hMk : MarkW := trivial
  have hcd := codeHd_of_K (c := 419) (P := 417) X (by kernel_rfl)
  have e1 : chBody = chBody := rfl
  conv at e1 => rhs; whnf
  have e2 : chParams = chParams := rfl
  conv at e2 => rhs; whnf
  have e3 : chScope = chScope := rfl
  conv at e3 => rhs; whnf
  unfold chl at N
  rw [e1, e2, e3] at N
  k_steps
  refine wrap_in (LCg.CompSrc.ledger (by rfl) (by assumption) (by assumption) (by k_mem) (size_of (by simpa [vals] using hfew)) fun g' => ?_)
  refine tasks_compR (fun t y => ∃ u, y = .int (t.num - 1) u) ((D, LCg.lst (vals rd)) :: chl c hs nh rr nr []) rest rd rfl (by k_mem) ?_ ?_
  · intro t ht C oC m₂ h tk E' other hC hx F' N'
    obtain ⟨ta, td, tq, tsv, tms, tk', tnum, ttn, tst, tts, twk, tname, tmaster, topen, tlate, tcall, traised, tanswer, tinside, tpending, tfailed, tstack, tframe, tresult, tbases, tcaught, tresume, tleaving, tline⟩ := t
    dsimp only at hx
    dsimp only [tl, tes] at N'
    k_steps
    exact ⟨⟨_, rfl⟩, Ends.intro (by assumption) (by assumption)⟩
  · intro ys hys row h tk F' N' o1
    have hi := ints_all2 (f := fun t => t.num - 1) hys
    replace N' : News _ _ _ ((row, LCg.lst ys) :: (D, LCg.lst (vals rd)) :: chl c hs nh rr nr (tls w rd rest)) := N'
    have hfr : ∀ p ∈ chl c hs nh rr nr (tls w rd rest), p.1 ≠ row := fun p hp => off1_mem o1 p (.tail _ hp)
    have n1 : @Ne Nat row c.H := Ne.symm o1.2.1
    have n2 : @Ne Nat row c.RR := Ne.symm o1.2.2.1
    unfold chl at N'
    rw [e1, e2, e3] at N'
    k_steps
    rename_i k' t' vs' n' hk1 hk2 hH' gN
    have hk3 : k'.toNat < rd.length := by omega
    have hx : (vals rd)[k'.toNat]? = some (.ref (rd[k'.toNat]'hk3).a) := by
      rw [vals, List.getElem?_map, List.getElem?_eq_getElem hk3]; rfl
    refine item_spec (by assumption) gN (by k_mem) hk1 (by omega) hx ?_
    k_steps
    rename News _ _ _ _ => lN'
    rw [← e1, ← e2, ← e3] at lN'
    exact hret _ _ _ _ ⟨k'.toNat, _, vs', n', row, ys, List.getElem?_eq_getElem hk3, rfl, hH', hi, hfr, rfl⟩ (by assumption) lN'
theorem freshS10 : True := by
  k_with_none
  (k_with "CJ" => (first | with_reducible assumption | with_reducible exact And.left (by first | with_reducible assumption | with_reducible exact And.right (by first | with_reducible assumption | with_reducible exact And.right (by first | with_reducible assumption | with_reducible exact And.right (by first | with_reducible assumption | with_reducible exact And.right (by first | with_reducible assumption | with_reducible exact And.right (by first | with_reducible assumption | with_reducible exact And.right (by first | with_reducible assumption | with_reducible exact And.right (by first | with_reducible assumption | with_reducible exact And.right (by first | with_reducible assumption | with_reducible exact And.right (by first | with_reducible assumption | with_reducible exact And.right (by first | with_reducible assumption | with_reducible exact And.right (by first | with_reducible assumption | with_reducible exact And.right (by first | with_reducible assumption | with_reducible exact And.right (by first | with_reducible assumption | with_reducible exact And.right (by first | with_reducible assumption | with_reducible exact And.right (by first | with_reducible assumption | with_reducible exact And.right (by first | with_reducible assumption | with_reducible exact And.right (by first | with_reducible assumption | with_reducible exact And.right (by first | with_reducible assumption | with_reducible exact And.right (by first | with_reducible assumption | with_reducible exact And.right (by first | with_reducible assumption | with_reducible exact And.right (by first | with_reducible assumption | with_reducible exact And.right (by with_reducible assumption)))))))))))))))))))))))))
  (k_with "execs cons" => (k_here; (fail_if_success (fail_if_success k_gentoks)); (with_reducible refine gen_toks ?_); intro tk))
  (k_with "execs nil" => (k_here; (fail_if_success (fail_if_success k_gentoks)); (with_reducible refine gen_toks ?_); intro tk))
  w_top off
  trivial
theorem rulesS10x1 : True := by
  (k_with "compareOp Eq str str" => (first | refine eqs_ff (by first | decide | (dsimp only; decide)) ?_ | refine eqs_tt (by first | decide | (dsimp only; decide)) ?_))
  (k_with "compareOp NotEq str str" => (first | refine nes_ff (by first | decide | (dsimp only; decide)) ?_ | refine nes_tt (by first | decide | (dsimp only; decide)) ?_))
  (k_with "exec" => ((k_here; (with_reducible show wpAny _ _ (exec (Stmt.While _ _ _ _) _) _ _ _); k_dflt (refine whl_startW ?_))))
  (k_with "WhlW" => ((dsimp only [WhlW])))
  (k_with "exec For Name Name cons nil" => (walk_at "WHOLE1"))
  (k_with "pyIter ref" => ((refine Wrap.out ?_)))
  (k_with "call ref" => ((k_here; (with_reducible show wpAny _ _ (call (Value.ref 410) _) _ _ _); k_dflt (refine' Spec.use (figure_spec ?u1 ?g1 ?g2) ?k1 ?k2 ?k3 ?k4 ?k5 ?k6 ?k7 ?k8 ?k9 ?_; (case k4 => k_asm); (case k1 => k_asm); (case k2 => k_asm); (case k3 => k_asm); (case k5 => k_asm); (case k8 => exact rfl); (case k6 => exact rfl); (case k7 => exact Nat.le_of_ble_eq_true rfl); (case k9 => exact Nat.le_of_ble_eq_true rfl); (case u1 => k_updF); (case g1 => assumption); (case g2 => omega)); refine cpsF ?_; walk_at "TAIL6")))
  (k_with "call ref" => ((k_here; (with_reducible show wpAny _ _ (call (Value.ref 49) _) _ _ _); k_dflt (refine' Spec.use (next_nil _ _ _ ?g1) ?k1 ?k2 ?k3 ?k4 ?k5 ?k6 ?k7 ?k8 ?k9 ?_; (case k4 => k_asm); (case k1 => k_asm); (case k2 => k_asm); (case k3 => k_asm); (case k5 => k_asm); (case k8 => exact rfl); (case k6 => exact rfl); (case k7 => exact Nat.le_of_ble_eq_true rfl); (case k9 => exact Nat.le_of_ble_eq_true rfl); (case g1 => k_mem); skip); refine cps2 ?_; walk_at "TAIL3")))
  (k_with "call ref" => ((k_here; (with_reducible show wpAny _ _ (call (Value.ref 49) _) _ _ _); k_dflt (refine' Spec.use (next_404 _ _ _ _ _ ?g1) ?k1 ?k2 ?k3 ?k4 ?k5 ?k6 ?k7 ?k8 ?k9 ?_; (case k4 => k_asm); (case k1 => k_asm); (case k2 => k_asm); (case k3 => k_asm); (case k5 => k_asm); (case k8 => exact rfl); (case k6 => exact rfl); (case k7 => exact Nat.le_of_ble_eq_true rfl); (case k9 => exact Nat.le_of_ble_eq_true rfl); (case g1 => k_mem); skip); refine cps2 ?_; walk_at "TAIL3")))
  (k_with "call type:range" => (walk_at "WHOLE3"))
  (k_with "CompSrc" => (walk_at "WHOLE4"))
  (k_with "CompSrcT" => (walk_at "WHOLE5"))
  (k_with "call builtin:len" => ((k_here; k_dflt (refine' lenS ?N ?m ?z ?_; (case N => k_asm); (case m => k_mem); (case z => assumption)))))
  (k_with "truthy ref" => ((k_here; k_dflt (refine' truthS ?N ?m ?z ?_; (case N => k_asm); (case m => k_mem); (case z => assumption)))))
  trivial
/-- the objects of the choice lie apart -/
structure GoodC (c : CH) (rest : Led) : Prop where
  ok : c.Ok
  o1 : ∀ p ∈ rest, p.1 ≠ c.H
  o2 : ∀ p ∈ rest, p.1 ≠ c.RR
theorem mem_syl {w : World} {y : SY} {now : Int} {tn : Tok} {se : Int} {tse : Tok} {vs : List Value} {rest : Led} {p : Addr × Obj} : p ∈ syl w y now tn se tse vs rest ↔ p ∈ syl w y now tn se tse vs [] ∨ p ∈ rest := (List.mem_append : p ∈ syl w y now tn se tse vs [] ++ rest ↔ _)
theorem mem_chl {c : CH} {hs : List Value} {nh : Nat} {rr : List Value} {nr : Nat} {rest : Led} {p : Addr × Obj} : p ∈ chl c hs nh rr nr rest ↔ p ∈ chl c hs nh rr nr [] ∨ p ∈ rest := (List.mem_append : p ∈ chl c hs nh rr nr [] ++ rest ↔ _)
theorem syl_ya {w : World} {y : SY} {now : Int} {tn : Tok} {se : Int} {tse : Tok} {vs : List Value} {p : Addr × Obj} (h : p ∈ syl w y now tn se tse vs []) : p.1 ∈ ya y := (List.mem_map_of_mem (f := Prod.fst) h : p.1 ∈ List.map Prod.fst (syl w y now tn se tse vs []))
theorem Good.offC {w : World} {y : SY} {vs : List Value} {ts rd : List TR} {c : CH} {hs : List Value} {nh : Nat} {rr : List Value} {nr : Nat} {rest : Led} {now : Int} {tn : Tok} {se : Int} {tse : Tok} (G : Good y vs ts (chl c hs nh rr nr rest)) (hrd : ∀ t ∈ rd, t ∈ ts) {a : Addr} (ho : ∀ p ∈ rest, p.1 ≠ a) (ha : ∃ o, (a, o) ∈ chl c hs nh rr nr []) :
    ∀ p ∈ tls w rd (syl w y now tn se tse vs (tls w ts rest)), p.1 ≠ a := by
  obtain ⟨o, ha⟩ := ha
  have h1 : a ∉ Mine.tas ts := G.ap.off (a, o) (mem_chl.mpr (.inl ha))
  have h2 : a ∉ ya y := G.roff (a, o) (mem_chl.mpr (.inl ha))
  intro p hp e
  rcases mem_tls.mp hp with ⟨t, ht, hp⟩ | hp
  · exact h1 (List.mem_flatMap.mpr ⟨t, hrd t ht, e ▸ mem_tl_ta hp⟩)
  · rcases mem_syl.mp hp with hp | hp
    · exact h2 (e ▸ syl_ya hp)
    · rcases mem_tls.mp hp with ⟨t, ht, hp⟩ | hp
      · exact h1 (List.mem_flatMap.mpr ⟨t, ht, e ▸ mem_tl_ta hp⟩)
      · exact ho p hp e
theorem chooser_in {w : World} (y : SY) (now : Int) (tn : Tok) (se : Int) (tse : Tok) (vs : List Value) (ts : List TR) (c : CH) (hs : List Value) (nh : Nat) (rr : List Value) (nr : Nat) (rest : Led) (G : Good y vs ts (chl c hs nh rr nr rest)) (GC : GoodC c rest) (D : Addr) (rd : List TR) (hrd : ∀ t ∈ rd, t ∈ ts)
    (hH : Hand hs) (hrr : rr.length < 100) (hD : ∀ p ∈ syl w y now tn se tse vs (tls w ts (chl c hs nh rr nr rest)), p.1 ≠ D) (hne : rd ≠ []) (hfew : rd.length ≤ 100) :
    Spec w 380 830 c.ch [.ref D] ((D, LCg.lst (vals rd)) :: syl w y now tn se tse vs (tls w ts (chl c hs nh rr nr rest))) fun r l => ∃ (j : Nat) (t : TR) (hs' : List Value) (nh' : Nat) (row : Addr) (rv : List Value), rd[j]? = some t ∧ r = .ref t.a ∧ Hand hs' ∧ IntsAre rv (rd.map (·.num - 1)) ∧ (∀ p ∈ syl w y now tn se tse vs (tls w ts (chl c hs nh rr nr rest)), p.1 ≠ row) ∧
      l = (row, LCg.lst rv) :: (D, LCg.lst (vals rd)) :: syl w y now tn se tse vs (tls w ts (chl c hs' nh' (rr ++ [.ref row]) (nr + 1) rest)) := by
  have m1 : ∀ {p}, p ∈ chl c hs nh rr nr [] → p ∈ syl w y now tn se tse vs (tls w ts (chl c hs nh rr nr rest)) := fun h => mem_syl.mpr (.inr (mem_tls.mpr (.inr (mem_chl.mpr (.inl h)))))
  refine (chooser_spec c GC.ok D rd (syl w y now tn se tse vs (tls w ts rest)) hs nh rr nr hH hrr (Ne.symm (hD _ (m1 (.head _)))) (Ne.symm (hD _ (m1 (.tail _ (.head _))))) hne hfew
    (G.offC hrd GC.o1 ⟨_, .head _⟩) (G.offC hrd GC.o2 ⟨_, .tail _ (.head _)⟩)).perm ?_ ?_
  · intro p hp
    rcases List.mem_cons.mp hp with rfl | hp
    · exact .head _
    · refine .tail _ ?_
      rcases mem_chl.mp hp with hp | hp
      · exact m1 hp
      · rcases mem_tls.mp hp with ⟨t, ht, hp⟩ | hp
        · exact mem_syl.mpr (.inr (mem_tls.mpr (.inl ⟨t, hrd t ht, hp⟩)))
        · rcases mem_syl.mp hp with hp | hp
          · exact mem_syl.mpr (.inl hp)
          · rcases mem_tls.mp hp with hp | hp
            · exact mem_syl.mpr (.inr (mem_tls.mpr (.inl hp)))
            · exact mem_syl.mpr (.inr (mem_tls.mpr (.inr (mem_chl.mpr (.inr hp)))))
  · rintro r l ⟨j, t, hs', nh', row, rv, h1, h2, h3, h4, hfr, rfl⟩
    have hfr' : ∀ p ∈ syl w y now tn se tse vs (tls w ts (chl c hs nh rr nr rest)), p.1 ≠ row := by
      intro p hp
      refine hfr p ?_
      rcases mem_syl.mp hp with hp | hp
      · exact mem_chl.mpr (.inr (mem_tls.mpr (.inr (mem_syl.mpr (.inl hp)))))
      · rcases mem_tls.mp hp with hp | hp
        · exact mem_chl.mpr (.inr (mem_tls.mpr (.inr (mem_syl.mpr (.inr (mem_tls.mpr (.inl hp)))))))
        · rcases mem_chl.mp hp with hp | hp
          · exact mem_chl.mpr (.inl hp)
          · exact mem_chl.mpr (.inr (mem_tls.mpr (.inr (mem_syl.mpr (.inr (mem_tls.mpr (.inr hp)))))))
    refine ⟨_, ⟨j, t, hs', nh', row, rv, h1, h2, h3, h4, hfr', rfl⟩, fun p hp => ?_⟩
    rcases List.mem_cons.mp hp with rfl | hp
    · exact .head _
    · refine .tail _ ?_
      rcases List.mem_cons.mp hp with rfl | hp
      · exact .head _
      · refine .tail _ ?_
        rcases mem_syl.mp hp with hp | hp
        · exact mem_chl.mpr (.inr (mem_tls.mpr (.inr (mem_syl.mpr (.inl hp)))))
        · rcases mem_tls.mp hp with hp | hp
          · exact mem_chl.mpr (.inr (mem_tls.mpr (.inr (mem_syl.mpr (.inr (mem_tls.mpr (.inl hp)))))))
          · rcases mem_chl.mp hp with hp | hp
            · exact mem_chl.mpr (.inl hp)
            · exact mem_chl.mpr (.inr (mem_tls.mpr (.inr (mem_syl.mpr (.inr (mem_tls.mpr (.inr hp)))))))
/-- no two tasks bear one number -/
noncomputable def Nums (ts : List TR) : Prop := ∀ (i j : Nat) t t', ts[i]? = some t → ts[j]? = some t' → t.num = t'.num → i = j
theorem among_spec {w : World} (y : SY) (now : Int) (tn : Tok) (se : Int) (tse : Tok) (vs : List Value) (ts : List TR) (c : CH) (hs : List Value) (nh : Nat) (rr : List Value) (nr : Nat) (rest : Led) (hyc : y.choose = .ref c.ch) (G : Good y vs ts (chl c hs nh rr nr rest)) (GC : GoodC c rest) (D : Addr) (rd : List TR) (hrd : ∀ t ∈ rd, t ∈ ts) (hnum : Nums rd)
    (hH : Hand hs) (hrr : rr.length < 100) (hD : ∀ p ∈ syl w y now tn se tse vs (tls w ts (chl c hs nh rr nr rest)), p.1 ≠ D) (hne : rd ≠ []) (hfew : rd.length ≤ 100) :
    Spec w 370 800 396 [.ref y.T, .ref D] ((D, LCg.lst (vals rd)) :: syl w y now tn se tse vs (tls w ts (chl c hs nh rr nr rest))) fun r l => ∃ (j : Nat) (t : TR) (hs' : List Value) (nh' : Nat) (row : Addr) (rv : List Value), rd[j]? = some t ∧ r = .ref t.a ∧ Hand hs' ∧ IntsAre rv (rd.map (·.num - 1)) ∧ (∀ p ∈ syl w y now tn se tse vs (tls w ts (chl c hs nh rr nr rest)), p.1 ≠ row) ∧
      l = (row, LCg.lst rv) :: syl w y now tn se tse vs (tls w ts (chl c hs' nh' (rr ++ [.ref row]) (nr + 1) rest)) := by
  intro pr loose mean mg mb cn cnm cig cic cmo a ccd cl outer A₀ base h₀ L m s Q E B F X N T hret
  have hMk : MarkW := trivial
  obtain ⟨yT, yTD, yC, yCD, yTL, yn, yLB, yLBD, yk, ylim, ych, ynb, yln, ylo, yld⟩ := y
  dsimp only at hyc
  subst hyc
  have hcd := codeHd_of_K (c := 419) (P := 417) X (by kernel_rfl)
  replace N : News h₀ L s.heap ((c.ch, fnMade "_law_chooser" c.qual chParams chBody chScope [("ready_rows", c.cR), ("hand", c.cH)] c.doc c.pm c.cc c.ctv) :: (D, LCg.lst (vals rd)) :: syl w ⟨yT, yTD, yC, yCD, yTL, yn, yLB, yLBD, yk, ylim, .ref c.ch, ynb, yln, ylo, yld⟩ now tn se tse vs (tls w ts (chl c hs nh rr nr rest))) := by
    refine News.sub N fun p hp => ?_
    rcases List.mem_cons.mp hp with rfl | hp
    · exact .tail _ (mem_syl.mpr (.inr (mem_tls.mpr (.inr (.tail _ (.tail _ (.head _)))))))
    · exact hp
  dsimp only [syl, tkd, ckd, lbd] at N
  k_steps
  rename News _ _ _ _ => lN'
  refine Spec.use (chooser_in _ now tn se tse vs ts c hs nh rr nr rest G GC D rd hrd hH hrr hD hne hfew) (by assumption) (by assumption) (by assumption) (News.sub lN' fun p hp => .tail _ hp) (by assumption) rfl (Nat.le_of_ble_eq_true rfl) rfl (Nat.le_of_ble_eq_true rfl) ?_
  rintro r n' h' tk' ⟨j, t, hs', nh', row, rv, hj, rfl, hH', hrv, hfr, rfl⟩ F' N'
  k_steps
  refine wrap_in (list_for (fun _ => _) (fun (_ : Unit) dn rem => vals rd = dn ++ rem ∧ dn.length ≤ j) () (vals rd) (by rfl) (by assumption) (by assumption) (by k_mem) (fun _ _ => rfl) ⟨rfl, Nat.zero_le _⟩ ?_ ?_)
  · rintro _ dn v rem I it h tk ⟨hv, hle⟩ hI F₁ N₁
    have hget : (vals rd)[dn.length]? = some v := by rw [hv]; simp
    rw [vals, List.getElem?_map] at hget
    obtain ⟨ti, hti, rfl⟩ := Option.map_eq_some_iff.mp hget
    have mi : ∀ p ∈ tl w ti [], p ∈ tls w ts (chl c hs' nh' (rr ++ [Value.ref row]) (nr + 1) rest) := fun p hp => mem_tls.mpr (.inl ⟨ti, hrd ti (List.mem_of_getElem? hti), hp⟩)
    have mt : ∀ p ∈ tl w t [], p ∈ tls w ts (chl c hs' nh' (rr ++ [Value.ref row]) (nr + 1) rest) := fun p hp => mem_tls.mpr (.inl ⟨t, hrd t (List.mem_of_getElem? hj), hp⟩)
    by_cases hij : dn.length = j
    · have e : ti = t := by rw [hij, hj] at hti; exact (Option.some.inj hti).symm
      subst e
      replace N₁ := News.sub N₁ (l' := tl w ti ((I, it) :: (row, LCg.lst rv) :: syl w ⟨yT, yTD, yC, yCD, yTL, yn, yLB, yLBD, yk, ylim, .ref c.ch, ynb, yln, ylo, yld⟩ now tn se tse vs (tls w ts (chl c hs' nh' (rr ++ [Value.ref row]) (nr + 1) rest)))) (by
        intro p hp
        rcases mem_tl.mp hp with hp | hp
        · exact .tail _ (.tail _ (.tail _ (mem_syl.mpr (.inr (mi p hp)))))
        · rcases List.mem_cons.mp hp with rfl | hp
          · exact .head _
          · rcases List.mem_cons.mp hp with rfl | hp
            · exact .tail _ (.head _)
            · exact .tail _ (.tail _ (.tail _ hp)))
      k_steps
      rotate_left
      · exfalso; omega
      rename News _ _ _ _ => lN'
      exact hret _ _ _ _ ⟨j, ti, hs', nh', row, rv, hj, rfl, hH', hrv, hfr, rfl⟩ (by assumption) (News.sub lN' fun p hp => .tail _ (.tail _ (.tail _ (.tail _ (.tail _ (.tail _ hp))))))
    · have hne2 : ti.num ≠ t.num := fun e => hij (hnum _ _ _ _ hti hj e)
      have N₂ := News.sub N₁ (l' := tl w ti (tl w t ((I, it) :: (row, LCg.lst rv) :: (D, LCg.lst (vals rd)) :: syl w ⟨yT, yTD, yC, yCD, yTL, yn, yLB, yLBD, yk, ylim, .ref c.ch, ynb, yln, ylo, yld⟩ now tn se tse vs (tls w ts (chl c hs' nh' (rr ++ [Value.ref row]) (nr + 1) rest))))) (by
        intro p hp
        rcases mem_tl.mp hp with hp | hp
        · exact .tail _ (.tail _ (.tail _ (mem_syl.mpr (.inr (mi p hp)))))
        · rcases mem_tl.mp hp with hp | hp
          · exact .tail _ (.tail _ (.tail _ (mem_syl.mpr (.inr (mt p hp)))))
          · exact hp)
      clear N₁
      k_steps
      · exfalso; omega
      refine wrap_in ⟨(), _, ⟨by rw [hv]; simp, by rw [List.length_append, List.length_singleton]; omega⟩, fun _ h1 => if_neg h1, Ends.intro (by assumption) (News.sub (by assumption) fun p hp => .tail _ (.tail _ (.tail _ (.tail _ (.tail _ (.tail _ (.tail _ (.tail _ (.tail _ (.tail _ hp))))))))))⟩
  · rintro _ u h tk ⟨hv, hle⟩ F₁ N₁
    exfalso
    have : j < rd.length := (List.getElem?_eq_some_iff.mp hj).1
    rw [vals, List.length_map] at hle
    omega
theorem freshD1 : True := by
  k_with_none
  (k_with "CJ" => (first | with_reducible assumption | with_reducible exact And.left (by first | with_reducible assumption | with_reducible exact And.right (by first | with_reducible assumption | with_reducible exact And.right (by first | with_reducible assumption | with_reducible exact And.right (by first | with_reducible assumption | with_reducible exact And.right (by first | with_reducible assumption | with_reducible exact And.right (by first | with_reducible assumption | with_reducible exact And.right (by first | with_reducible assumption | with_reducible exact And.right (by first | with_reducible assumption | with_reducible exact And.right (by first | with_reducible assumption | with_reducible exact And.right (by first | with_reducible assumption | with_reducible exact And.right (by first | with_reducible assumption | with_reducible exact And.right (by first | with_reducible assumption | with_reducible exact And.right (by first | with_reducible assumption | with_reducible exact And.right (by first | with_reducible assumption | with_reducible exact And.right (by first | with_reducible assumption | with_reducible exact And.right (by first | with_reducible assumption | with_reducible exact And.right (by first | with_reducible assumption | with_reducible exact And.right (by first | with_reducible assumption | with_reducible exact And.right (by first | with_reducible assumption | with_reducible exact And.right (by first | with_reducible assumption | with_reducible exact And.right (by first | with_reducible assumption | with_reducible exact And.right (by first | with_reducible assumption | with_reducible exact And.right (by with_reducible assumption)))))))))))))))))))))))))
  (k_with "execs cons" => (k_here; (fail_if_success (fail_if_success k_gentoks)); (with_reducible refine gen_toks ?_); intro tk))
  (k_with "execs nil" => (k_here; (fail_if_success (fail_if_success k_gentoks)); (with_reducible refine gen_toks ?_); intro tk))
  w_top off
  trivial
noncomputable def rdyA : AS → Bool
  | .rdy => true
  | _ => false
noncomputable def livA : AS → Bool
  | .fin => false
  | _ => true
theorem Is.isR {t : TR} {a : AS} (h : Is t a) : isR t = rdyA a := by
  unfold Mine.isR
  cases a with
  | rdy => rw [h.1]; decide
  | slp d => rw [h.1]; show (Str.ofString "delayed" == Str.ofString "ready") = false; decide
  | cmp => rw [h.1]; decide
  | fin => rw [h.1]; decide
theorem Is.isL {t : TR} {a : AS} (h : Is t a) : isL t = livA a := by
  unfold Mine.isL
  cases a with
  | rdy => rw [h.1]; decide
  | slp d => rw [h.1]; show (Str.ofString "delayed" != Str.ofString "done") = true; decide
  | cmp => rw [h.1]; decide
  | fin => rw [h.1]; decide
theorem filter_ne {ts : List TR} {as : List AS} {p : TR → Bool} {q : AS → Bool} (k : ∀ t a, Is t a → p t = q a) (h : All2 Is ts as) (hq : as.any q = true) : ts.filter p ≠ [] := by
  induction h with
  | nil => cases hq
  | cons x _ ih =>
    rw [List.any_cons, Bool.or_eq_true] at hq
    rw [List.filter_cons]
    split
    · exact List.cons_ne_nil _ _
    · rename_i hp
      rcases hq with hq | hq
      · rw [k _ _ x] at hp; exact absurd hq hp
      · exact ih hq
theorem filter_nil {ts : List TR} {as : List AS} {p : TR → Bool} {q : AS → Bool} (k : ∀ t a, Is t a → p t = q a) (h : All2 Is ts as) (hq : as.any q = false) : ts.filter p = [] := by
  induction h with
  | nil => rfl
  | cons x _ ih =>
    rw [List.any_cons, Bool.or_eq_false_iff] at hq
    rw [List.filter_cons, k _ _ x, hq.1, if_neg Bool.false_ne_true]
    exact ih hq.2
theorem leastA_none {as : List AS} (h : leastA as = none) (hr : as.any rdyA = false) (hc : as.any (fun a => a == AS.cmp) = false) : as.any livA = false := by
  have key : ∀ (as : List AS) (o : Option Int), as.foldl lessA o = none → o = none ∧ ∀ a ∈ as, ∀ d, a ≠ .slp d := by
    intro as
    induction as with
    | nil => intro o h; exact ⟨h, fun _ h => nomatch h⟩
    | cons a as ih =>
      intro o h
      obtain ⟨h1, h2⟩ := ih _ h
      cases a with
      | slp d =>
        exfalso
        simp only [lessA] at h1
        cases o with
        | none => cases h1
        | some j => simp only at h1; split at h1 <;> cases h1
      | rdy => exact ⟨h1, List.forall_mem_cons.mpr ⟨fun _ e => (nomatch e), h2⟩⟩
      | cmp => exact ⟨h1, List.forall_mem_cons.mpr ⟨fun _ e => (nomatch e), h2⟩⟩
      | fin => exact ⟨h1, List.forall_mem_cons.mpr ⟨fun _ e => (nomatch e), h2⟩⟩
  have h3 := (key as none h).2
  rw [List.any_eq_false] at hr hc ⊢
  intro a ha
  cases a with
  | slp d => exact absurd rfl (h3 _ ha d)
  | rdy => exact absurd rfl (hr _ ha)
  | cmp => exact absurd rfl (hc _ ha)
  | fin => exact Bool.false_ne_true
theorem settle_cmp (as : List AS) : (as.map settleA).any (fun a => a == AS.cmp) = false := by
  rw [List.any_eq_false]
  intro a ha
  obtain ⟨a', _, rfl⟩ := List.mem_map.mp ha
  cases a' <;> simp [settleA]
theorem leastA_some {as : List AS} {i : Int} (h : leastA as = some i) : AS.slp i ∈ as := by
  have key : ∀ (as : List AS) (o : Option Int), as.foldl lessA o = some i → o = some i ∨ AS.slp i ∈ as := by
    intro as
    induction as with
    | nil => intro o h; exact .inl h
    | cons a as ih =>
      intro o h
      rcases ih _ h with h | h
      · cases a with
        | slp d =>
          simp only [lessA] at h
          cases o with
          | none => simp only [Option.some.injEq] at h; subst h; exact .inr (.head _)
          | some j =>
            simp only at h
            split at h
            · simp only [Option.some.injEq] at h; subst h; exact .inr (.head _)
            · exact .inl h
        | rdy => exact .inl h
        | cmp => exact .inl h
        | fin => exact .inl h
      · exact .inr (.tail _ h)
  rcases key as none h with h | h
  · cases h
  · exact h
theorem leastA_le {as : List AS} {i : Int} (h : leastA as = some i) : ∀ d, AS.slp d ∈ as → i ≤ d := by
  have key : ∀ (as : List AS) (o : Option Int), as.foldl lessA o = some i → (∀ j, o = some j → i ≤ j) ∧ ∀ d, AS.slp d ∈ as → i ≤ d := by
    intro as
    induction as with
    | nil => intro o h; exact ⟨fun j e => by rw [List.foldl_nil] at h; rw [h] at e; cases e; exact Int.le_refl _, fun _ h => nomatch h⟩
    | cons a as ih =>
      intro o h
      obtain ⟨h1, h2⟩ := ih _ h
      cases a with
      | slp d =>
        cases o with
        | none =>
          refine ⟨fun j e => (nomatch e), fun d' hd => ?_⟩
          rcases List.mem_cons.mp hd with e | hd
          · cases e; exact h1 _ rfl
          · exact h2 _ hd
        | some j =>
          simp only [lessA] at h1
          by_cases hdj : d < j
          · rw [if_pos hdj] at h1
            have h3 := h1 _ rfl
            refine ⟨fun j' e => by cases e; omega, fun d' hd => ?_⟩
            rcases List.mem_cons.mp hd with e | hd
            · cases e; exact h3
            · exact h2 _ hd
          · rw [if_neg hdj] at h1
            have h3 := h1 _ rfl
            refine ⟨fun j' e => by cases e; exact h3, fun d' hd => ?_⟩
            rcases List.mem_cons.mp hd with e | hd
            · cases e; omega
            · exact h2 _ hd
      | rdy => exact ⟨h1, fun d' hd => (List.mem_cons.mp hd).elim (fun e => nomatch e) (h2 _)⟩
      | cmp => exact ⟨h1, fun d' hd => (List.mem_cons.mp hd).elim (fun e => nomatch e) (h2 _)⟩
      | fin => exact ⟨h1, fun d' hd => (List.mem_cons.mp hd).elim (fun e => nomatch e) (h2 _)⟩
  exact (key as none h).2
theorem wake_rdy {as : List AS} {i now : Int} (h : leastA as = some i) (hi : i ≤ now) : (as.map (wakeA now)).any rdyA = true := by
  rw [List.any_eq_true]
  exact ⟨.rdy, List.mem_map.mpr ⟨.slp i, leastA_some h, if_pos hi⟩, rfl⟩
theorem wake_cmp {as : List AS} {now : Int} (h : as.any (fun a => a == AS.cmp) = false) : (as.map (wakeA now)).any (fun a => a == AS.cmp) = false := by
  rw [List.any_eq_false] at h ⊢
  intro a ha
  obtain ⟨a', h1, rfl⟩ := List.mem_map.mp ha
  have := h a' h1
  cases a' with
  | slp d => simp only [wakeA]; split <;> simp
  | cmp => exact absurd rfl this
  | rdy => simp [wakeA]
  | fin => simp [wakeA]
theorem settle_idA {as : List AS} (h : as.any (fun a => a == AS.cmp) = false) : as.map settleA = as := by
  conv => rhs; rw [← List.map_id as]
  refine List.map_congr_left fun a ha => ?_
  have := List.any_eq_false.mp h a ha
  cases a with
  | cmp => exact absurd rfl this
  | _ => rfl
theorem nums_filter {ts : List TR} (h : (ts.map (·.num)).Nodup) (p : TR → Bool) : Nums (ts.filter p) := by
  have h2 : ((ts.filter p).map (·.num)).Nodup := List.Nodup.sublist ((List.filter_sublist).map _) h
  intro i j t t' hi hj e
  have a1 : ((ts.filter p).map (·.num))[i]? = some t.num := by rw [List.getElem?_map, hi]; rfl
  have a2 : ((ts.filter p).map (·.num))[j]? = some t.num := by rw [List.getElem?_map, hj, e]; rfl
  have li := (List.getElem?_eq_some_iff.mp a1)
  have lj := (List.getElem?_eq_some_iff.mp a2)
  obtain ⟨li, ei⟩ := li
  obtain ⟨lj, ej⟩ := lj
  have hp := List.pairwise_iff_getElem.mp h2
  rcases Nat.lt_trichotomy i j with hlt | he | hlt
  · exact absurd (ei.trans ej.symm) (hp i j li lj hlt)
  · exact he
  · exact absurd (ej.trans ei.symm) (hp j i lj li hlt)
theorem same_nums {a b : List TR} (h : All2 Same a b) : b.map (·.num) = a.map (·.num) := by
  induction h with
  | nil => rfl
  | cons x _ ih => rw [List.map_cons, List.map_cons, ih, x.2.1]
theorem all2_known {ts : List TR} {as : List AS} (h : All2 Is ts as) : ∀ t ∈ ts, Known t := fun t ht => by
  obtain ⟨a, _, ha⟩ := h.left t ht
  exact ha.known
theorem freshS11 : True := by
  k_with_none
  (k_with "CJ" => (first | with_reducible assumption | with_reducible exact And.left (by first | with_reducible assumption | with_reducible exact And.right (by first | with_reducible assumption | with_reducible exact And.right (by first | with_reducible assumption | with_reducible exact And.right (by first | with_reducible assumption | with_reducible exact And.right (by first | with_reducible assumption | with_reducible exact And.right (by first | with_reducible assumption | with_reducible exact And.right (by first | with_reducible assumption | with_reducible exact And.right (by first | with_reducible assumption | with_reducible exact And.right (by first | with_reducible assumption | with_reducible exact And.right (by first | with_reducible assumption | with_reducible exact And.right (by first | with_reducible assumption | with_reducible exact And.right (by first | with_reducible assumption | with_reducible exact And.right (by first | with_reducible assumption | with_reducible exact And.right (by first | with_reducible assumption | with_reducible exact And.right (by first | with_reducible assumption | with_reducible exact And.right (by first | with_reducible assumption | with_reducible exact And.right (by first | with_reducible assumption | with_reducible exact And.right (by first | with_reducible assumption | with_reducible exact And.right (by first | with_reducible assumption | with_reducible exact And.right (by first | with_reducible assumption | with_reducible exact And.right (by first | with_reducible assumption | with_reducible exact And.right (by first | with_reducible assumption | with_reducible exact And.right (by with_reducible assumption)))))))))))))))))))))))))
  (k_with "execs cons" => (k_here; (fail_if_success (fail_if_success k_gentoks)); (with_reducible refine gen_toks ?_); intro tk))
  (k_with "execs nil" => (k_here; (fail_if_success (fail_if_success k_gentoks)); (with_reducible refine gen_toks ?_); intro tk))
  w_top off
  trivial
theorem cpsM {F : Heap → Prop} {K : Value → Led → Heap → Nat → Prop} {α β γ δ ε ζ : Type} {A : α → β → Prop} {f : β → Value} {B : γ → Prop} {C : ζ → Prop} {D : ε → Prop} {g : γ → δ → ε → ζ → Led} (h : ∀ h' tk', F h' → ∀ j t hs nh row rv, A j t → B hs → C rv → D row → K (f t) (g hs nh row rv) h' tk') :
    ∀ r l h' tk', (∃ j t hs nh row rv, A j t ∧ r = f t ∧ B hs ∧ C rv ∧ D row ∧ l = g hs nh row rv) → F h' → K r l h' tk' := by
  rintro _ _ h' tk' ⟨j, t, hs, nh, row, rv, a, rfl, b, c, d, rfl⟩ q; exact h h' tk' q j t hs nh row rv a b c d
theorem cpsV {F : Heap → Prop} {K : Value → Led → Heap → Nat → Prop} {α β γ δ ε : Type} {A : β → γ → δ → ε → Prop} {B : γ → Prop} {f : α → Value} {g : α → β → γ → Led} (h : ∀ h' tk', F h' → ∀ D v us i u, A v us i u → B us → K (f D) (g D v us) h' tk') :
    ∀ r l h' tk', (∃ D v us i u, A v us i u ∧ B us ∧ r = f D ∧ l = g D v us) → F h' → K r l h' tk' := by
  rintro _ _ h' tk' ⟨D, v, us, i, u, a, b, rfl, rfl⟩ q; exact h h' tk' q D v us i u a b
theorem rulesS11x1 : True := by
  (k_with "compareOp Eq str str" => (first | refine eqs_ff (by first | decide | (dsimp only; decide)) ?_ | refine eqs_tt (by first | decide | (dsimp only; decide)) ?_))
  (k_with "compareOp NotEq str str" => (first | refine nes_ff (by first | decide | (dsimp only; decide)) ?_ | refine nes_tt (by first | decide | (dsimp only; decide)) ?_))
  (k_with "exec" => ((k_here; (with_reducible show wpAny _ _ (exec (Stmt.While _ _ _ _) _) _ _ _); k_dflt (refine whl_startW ?_))))
  (k_with "WhlW" => ((dsimp only [WhlW])))
  (k_with "exec For Name Name cons nil" => (walk_at "WHOLE1"))
  (k_with "pyIter ref" => ((refine Wrap.out ?_)))
  (k_with "call ref" => ((k_here; (with_reducible show wpAny _ _ (call (Value.ref 410) _) _ _ _); k_dflt (refine' Spec.use (figure_spec ?u1 ?g1 ?g2) ?k1 ?k2 ?k3 ?k4 ?k5 ?k6 ?k7 ?k8 ?k9 ?_; (case k4 => k_asm); (case k1 => k_asm); (case k2 => k_asm); (case k3 => k_asm); (case k5 => k_asm); (case k8 => exact rfl); (case k6 => exact rfl); (case k7 => exact Nat.le_of_ble_eq_true rfl); (case k9 => exact Nat.le_of_ble_eq_true rfl); (case u1 => k_updF); (case g1 => assumption); (case g2 => omega)); refine cpsF ?_; walk_at "TAIL6")))
  (k_with "call ref" => ((k_here; (with_reducible show wpAny _ _ (call (Value.ref 49) _) _ _ _); k_dflt (refine' Spec.use (next_nil _ _ _ ?g1) ?k1 ?k2 ?k3 ?k4 ?k5 ?k6 ?k7 ?k8 ?k9 ?_; (case k4 => k_asm); (case k1 => k_asm); (case k2 => k_asm); (case k3 => k_asm); (case k5 => k_asm); (case k8 => exact rfl); (case k6 => exact rfl); (case k7 => exact Nat.le_of_ble_eq_true rfl); (case k9 => exact Nat.le_of_ble_eq_true rfl); (case g1 => k_mem); skip); refine cps2 ?_; walk_at "TAIL3")))
  (k_with "call ref" => ((k_here; (with_reducible show wpAny _ _ (call (Value.ref 49) _) _ _ _); k_dflt (refine' Spec.use (next_404 _ _ _ _ _ ?g1) ?k1 ?k2 ?k3 ?k4 ?k5 ?k6 ?k7 ?k8 ?k9 ?_; (case k4 => k_asm); (case k1 => k_asm); (case k2 => k_asm); (case k3 => k_asm); (case k5 => k_asm); (case k8 => exact rfl); (case k6 => exact rfl); (case k7 => exact Nat.le_of_ble_eq_true rfl); (case k9 => exact Nat.le_of_ble_eq_true rfl); (case g1 => k_mem); skip); refine cps2 ?_; walk_at "TAIL3")))
  (k_with "call type:range" => (walk_at "WHOLE3"))
  (k_with "CompSrc" => (walk_at "WHOLE4"))
  (k_with "CompSrcT" => (walk_at "WHOLE5"))
  (k_with "call builtin:len" => ((k_here; k_dflt (refine' lenS ?N ?m ?z ?_; (case N => k_asm); (case m => k_mem); (case z => assumption)))))
  (k_with "truthy ref" => ((k_here; k_dflt (refine' truthS ?N ?m ?z ?_; (case N => k_asm); (case m => k_mem); (case z => assumption)))))
  trivial
section
variable {prog : Program} {w : World} {A : Around} {E : Value → Shared → Prop} {s : Shared} {h₀ : Heap} {L l : Addr} {news : Led} {vs : List Value} {n : Nat}
theorem News.tl {h : Heap} {p : Addr × Obj} {l : Led} (N : News h₀ L h (p :: l)) : News h₀ L h l := fun q hq => N q (.tail _ hq)
theorem truth_tt {Q : Bool → Shared → Prop} (N : News h₀ L s.heap news) (hl : (l, W.listOf vs.toArray n) ∈ news) (hz : vs.length ≤ 1000) (hne : vs ≠ [])
    (h : Q true { s with toks := s.toks + 1 + 1 }) : wpAny (model prog w) A (truthy (.ref l)) Q E s := truthS N hl hz (by cases vs with | nil => exact absurd rfl hne | cons _ _ => exact h)
theorem truth_ff {Q : Bool → Shared → Prop} (N : News h₀ L s.heap news) (hl : (l, W.listOf vs.toArray n) ∈ news) (hz : vs.length ≤ 1000) (hne : vs = [])
    (h : Q false { s with toks := s.toks + 1 + 1 }) : wpAny (model prog w) A (truthy (.ref l)) Q E s := truthS N hl hz (by subst hne; exact h)
end
theorem rulesS11x2 : True := by
  (k_with "truthy ref" => ((k_here; k_dflt (first | (refine' truth_tt ?N ?m ?z ?y ?_; (case N => k_asm); (case m => k_mem); (case z => assumption); (case y => assumption)) | (refine' truth_ff ?N ?m ?z ?y ?_; (case N => k_asm); (case m => k_mem); (case z => assumption); (case y => assumption))))))
  trivial
theorem waiting_some {w : World} (y : SY) (now : Int) (tn : Tok) (se : Int) (tse : Tok) (vs : List Value) (ts : List TR) (rest : Led) (G : Good y vs ts rest) (hkn : ∀ t ∈ ts, Known t) (hne : ts.filter isL ≠ []) :
    Spec w 390 900 384 [.ref y.T] (syl w y now tn se tse vs (tls w ts rest)) fun r l => ∃ D v us i u, IntsAre (v :: us) (i :: u) ∧ us.length ≤ 100 ∧ r = .ref D ∧ l = ((D, LCg.lst (v :: us)) :: syl w y now tn se tse vs (tls w ts rest)) :=
  (waiting_spec y now tn se tse vs ts rest G hkn).conv fun r l ⟨D, h1, h2⟩ => by
    have hlen : (ts.filter isL).length ≤ 100 := by
      refine Nat.le_trans (List.length_filter_le ..) ?_
      have := G.few
      rw [← G.hv, vals, List.length_map] at this
      exact this
    cases hf : ts.filter isL with
    | nil => exact absurd hf hne
    | cons t us =>
      rw [hf] at h2 hlen
      refine ⟨D, numV t, us.map numV, t.num, us.map (·.num), ?_, by rw [List.length_map]; rw [List.length_cons] at hlen; omega, h1, h2⟩
      have : ∀ l : List TR, IntsAre (l.map numV) (l.map (·.num)) := fun l => by
        induction l with
        | nil => exact .nil
        | cons x _ ih => exact .cons _ _ ih
      exact this (t :: us)
theorem waiting_none {w : World} (y : SY) (now : Int) (tn : Tok) (se : Int) (tse : Tok) (vs : List Value) (ts : List TR) (rest : Led) (G : Good y vs ts rest) (hkn : ∀ t ∈ ts, Known t) (hne : ts.filter isL = []) :
    Spec w 390 900 384 [.ref y.T] (syl w y now tn se tse vs (tls w ts rest)) fun r l => ∃ D, r = .ref D ∧ l = ((D, LCg.lst []) :: syl w y now tn se tse vs (tls w ts rest)) :=
  (waiting_spec y now tn se tse vs ts rest G hkn).conv fun r l ⟨D, h1, h2⟩ => by
    rw [hne] at h2
    exact ⟨D, h1, h2⟩
theorem rulesS11x3 : True := by
  (k_with "call ref" => ((k_here; (with_reducible show wpAny _ _ (call (Value.ref 346) _) _ _ _); k_dflt (refine' Spec.use (settle_spec _ _ _ _ _ _ _ _ ?g1 ?g2) ?k1 ?k2 ?k3 ?k4 ?k5 ?k6 ?k7 ?k8 ?k9 ?_; (case k4 => k_asm); (case k1 => k_asm); (case k2 => k_asm); (case k3 => k_asm); (case k5 => k_asm); (case k8 => exact rfl); (case k6 => exact rfl); (case k7 => exact Nat.le_of_ble_eq_true rfl); (case k9 => exact Nat.le_of_ble_eq_true rfl); (case g1 => k_asm); (case g2 => k_asm); skip); refine cpsS ?_; walk_at "TAIL7")))
  (k_with "call ref" => ((k_here; (with_reducible show wpAny _ _ (call (Value.ref 379) _) _ _ _); k_dflt (refine' Spec.use (ready_spec _ _ _ _ _ _ _ _ ?g1 ?g2) ?k1 ?k2 ?k3 ?k4 ?k5 ?k6 ?k7 ?k8 ?k9 ?_; (case k4 => k_asm); (case k1 => k_asm); (case k2 => k_asm); (case k3 => k_asm); (case k5 => k_asm); (case k8 => exact rfl); (case k6 => exact rfl); (case k7 => exact Nat.le_of_ble_eq_true rfl); (case k9 => exact Nat.le_of_ble_eq_true rfl); (case g1 => k_asm); (case g2 => k_asm); skip); refine cpsP ?_; walk_at "TAIL8")))
  (k_with "call ref" => ((k_here; (with_reducible show wpAny _ _ (call (Value.ref 384) _) _ _ _); k_dflt (refine' Spec.use (waiting_some _ _ _ _ _ _ _ _ ?g1 ?g2 ?g3) ?k1 ?k2 ?k3 ?k4 ?k5 ?k6 ?k7 ?k8 ?k9 ?_; (case k4 => exact News.tl (by k_asm)); (case k1 => k_asm); (case k2 => k_asm); (case k3 => k_asm); (case k5 => k_asm); (case k8 => exact rfl); (case k6 => exact rfl); (case k7 => exact Nat.le_of_ble_eq_true rfl); (case k9 => exact Nat.le_of_ble_eq_true rfl); (case g1 => k_asm); (case g2 => k_asm); (case g3 => k_asm); skip); refine cpsV ?_; walk_at "TAIL9")))
  (k_with "call ref" => ((k_here; (with_reducible show wpAny _ _ (call (Value.ref 384) _) _ _ _); k_dflt (refine' Spec.use (waiting_none _ _ _ _ _ _ _ _ ?g1 ?g2 ?g3) ?k1 ?k2 ?k3 ?k4 ?k5 ?k6 ?k7 ?k8 ?k9 ?_; (case k4 => exact News.tl (by k_asm)); (case k1 => k_asm); (case k2 => k_asm); (case k3 => k_asm); (case k5 => k_asm); (case k8 => exact rfl); (case k6 => exact rfl); (case k7 => exact Nat.le_of_ble_eq_true rfl); (case k9 => exact Nat.le_of_ble_eq_true rfl); (case g1 => k_asm); (case g2 => k_asm); (case g3 => k_asm); skip); refine cpsD ?_; walk_at "TAIL5")))
  (k_with "call ref" => ((k_here; (with_reducible show wpAny _ _ (call (Value.ref 396) _) _ _ _); k_dflt (refine' Spec.use (among_spec _ _ _ _ _ _ _ _ _ _ _ _ _ ?g1 ?g2 ?g3 _ _ ?g4 ?g5 ?g6 ?g7 ?g8 ?g9 ?g10) ?k1 ?k2 ?k3 ?k4 ?k5 ?k6 ?k7 ?k8 ?k9 ?_; (case k4 => k_asm); (case k1 => k_asm); (case k2 => k_asm); (case k3 => k_asm); (case k5 => k_asm); (case k8 => exact rfl); (case k6 => exact rfl); (case k7 => exact Nat.le_of_ble_eq_true rfl); (case k9 => exact Nat.le_of_ble_eq_true rfl); (case g1 => assumption); (case g2 => assumption); (case g3 => assumption); (case g4 => assumption); (case g5 => assumption); (case g6 => assumption); (case g7 => assumption); (case g8 => assumption); (case g9 => assumption); (case g10 => assumption); skip); refine cpsM ?_; walk_at "TAIL10")))
  trivial
theorem pick_ready {w : World} (y : SY) (now : Int) (tn : Tok) (se : Int) (tse : Tok) (vs : List Value) (ts : List TR)(c : CH) (hs : List Value) (nh : Nat) (rr : List Value) (nr : Nat) (rest : Led) (as : List AS) (hyc : y.choose = .ref c.ch) (G : Good y vs ts (chl c hs nh rr nr rest)) (GC : GoodC c rest) (hA : All2 Is ts as) (hnd : (ts.map (·.num)).Nodup)
    (hH : Hand hs) (hrr : rr.length < 100) (hr : (as.map settleA).any rdyA = true) :
    Spec w 350 700 403 [.ref y.T] (syl w y now tn se tse vs (tls w ts (chl c hs nh rr nr rest))) fun r l => ∃ (ts' : List TR) (j : Nat) (t : TR) (hs' : List Value) (nh' : Nat) (row : Addr) (rv : List Value) (se' : Int) (tse' : Tok), All2 Same ts ts' ∧ All2 Is ts' (as.map settleA) ∧ (ts'.filter isR)[j]? = some t ∧ r = .ref t.a ∧ Hand hs' ∧ IntsAre rv ((ts'.filter isR).map (·.num - 1)) ∧ (∀ p ∈ syl w y now tn se' tse' vs (tls w ts' (chl c hs nh rr nr rest)), p.1 ≠ row) ∧
      l = (row, LCg.lst rv) :: syl w y now tn se' tse' vs (tls w ts' (chl c hs' nh' (rr ++ [.ref row]) (nr + 1) rest)) := by
  intro pr loose mean mg mb cn cnm cig cic cmo a ccd cl outer A₀ base h₀ L m s Q E B F X N T hret
  have hMk : MarkW := trivial
  have hkn := all2_known hA
  have hs1 := settle_sameT ts
  have G1 := G.same hs1
  have hA1 := settle_All2 hA
  have hkn1 := all2_known hA1
  have hnd1 : ((ts.map settleT).map (·.num)).Nodup := by rw [same_nums hs1]; exact hnd
  have hne := filter_ne (fun _ _ h => h.isR) hA1 hr
  have hlen : ((ts.map settleT).filter isR).length ≤ 100 := by
    refine Nat.le_trans (List.length_filter_le ..) ?_
    have := G1.few
    rw [← G1.hv, vals, List.length_map] at this
    exact this
  have hvz : (vals ((ts.map settleT).filter isR)).length ≤ 1000 := by rw [vals, List.length_map]; omega
  have hvne : vals ((ts.map settleT).filter isR) ≠ [] := by
    intro e; rw [vals, List.map_eq_nil_iff] at e; exact hne e
  have hin : ∀ t ∈ (ts.map settleT).filter isR, t ∈ ts.map settleT := fun t h => (List.mem_filter.mp h).1
  have hnums := nums_filter hnd1 isR
  k_steps
  refine whl_turnW ?_
  k_steps
  rename_i j' t' hs' nh' row' rv' q1' q2' q3' q4' _ _ _ _ _
  exact hret _ _ _ _ ⟨_, j', t', hs', nh', row', rv', _, _, hs1, hA1, q1', rfl, q2', q3', q4', rfl⟩ (by assumption) (by assumption)
theorem rulesS11x4 : True := by
  (k_with "call ref" => ((k_here; (with_reducible show wpAny _ _ (call (Value.ref 389) _) _ _ _); k_dflt (refine' Spec.use (pass_spec _ _ _ _ _ _ _ _ _ _ ?g1 ?g2 ?g3) ?k1 ?k2 ?k3 ?k4 ?k5 ?k6 ?k7 ?k8 ?k9 ?_; (case k4 => exact News.tl (News.tl (by k_asm))); (case k1 => k_asm); (case k2 => k_asm); (case k3 => k_asm); (case k5 => k_asm); (case k8 => exact rfl); (case k6 => exact rfl); (case k7 => exact Nat.le_of_ble_eq_true rfl); (case k9 => exact Nat.le_of_ble_eq_true rfl); (case g1 => assumption); (case g2 => assumption); (case g3 => assumption); skip); refine cpsW ?_; walk_at "TAIL11")))
  trivial
theorem pick_none {w : World} (y : SY) (now : Int) (tn : Tok) (se : Int) (tse : Tok) (vs : List Value) (ts : List TR)(c : CH) (hs : List Value) (nh : Nat) (rr : List Value) (nr : Nat) (rest : Led) (as : List AS) (G : Good y vs ts (chl c hs nh rr nr rest)) (hA : All2 Is ts as) (hr : (as.map settleA).any livA = false) :
    Spec w 350 700 403 [.ref y.T] (syl w y now tn se tse vs (tls w ts (chl c hs nh rr nr rest))) fun r l => ∃ (ts' : List TR) (se' : Int) (tse' : Tok), All2 Same ts ts' ∧ All2 Is ts' (as.map settleA) ∧ r = .none ∧
      l = syl w y now tn se' tse' vs (tls w ts' (chl c hs nh rr nr rest)) := by
  intro pr loose mean mg mb cn cnm cig cic cmo a ccd cl outer A₀ base h₀ L m s Q E B F X N T hret
  have hMk : MarkW := trivial
  have hkn := all2_known hA
  have hs1 := settle_sameT ts
  have G1 := G.same hs1
  have hA1 := settle_All2 hA
  have hkn1 := all2_known hA1
  have hr2 : (as.map settleA).any rdyA = false := by
    rw [List.any_eq_false] at hr ⊢
    intro a ha
    have := hr a ha
    cases a <;> simp_all [livA, rdyA]
  have hR0 := filter_nil (fun _ _ h => h.isR) hA1 hr2
  have hL0 := filter_nil (fun _ _ h => h.isL) hA1 hr
  have hvne : vals ((ts.map settleT).filter isR) = [] := by rw [hR0]; rfl
  have hvz : (vals ((ts.map settleT).filter isR)).length ≤ 1000 := by rw [hvne]; exact Nat.zero_le _
  k_steps
  refine whl_turnW ?_
  k_steps
  exact hret _ _ _ _ ⟨_, _, _, hs1, hA1, rfl, rfl⟩ (by assumption) (News.tl (News.tl (by assumption)))
theorem pick_wait {w : World} (y : SY) (now : Int) (tn : Tok) (se : Int) (tse : Tok) (vs : List Value) (ts : List TR)(c : CH) (hs : List Value) (nh : Nat) (rr : List Value) (nr : Nat) (rest : Led) (as : List AS) (i : Int) (hyc : y.choose = .ref c.ch) (G : Good y vs ts (chl c hs nh rr nr rest)) (GC : GoodC c rest) (hA : All2 Is ts as) (hnd : (ts.map (·.num)).Nodup)
    (hH : Hand hs) (hrr : rr.length < 100) (hr : (as.map settleA).any rdyA = false) (hle : leastA (as.map settleA) = some i) :
    Spec w 350 700 403 [.ref y.T] (syl w y now tn se tse vs (tls w ts (chl c hs nh rr nr rest))) fun r l => ∃ (ts' : List TR) (j : Nat) (t : TR) (hs' : List Value) (nh' : Nat) (row : Addr) (rv : List Value) (se' : Int) (tse' tn' : Tok), All2 Same ts ts' ∧ All2 Is ts' ((as.map settleA).map (wakeA (mx now i))) ∧ (ts'.filter isR)[j]? = some t ∧ r = .ref t.a ∧ Hand hs' ∧ IntsAre rv ((ts'.filter isR).map (·.num - 1)) ∧ (∀ p ∈ syl w y (mx now i) tn' se' tse' vs (tls w ts' (chl c hs nh rr nr rest)), p.1 ≠ row) ∧
      l = (row, LCg.lst rv) :: syl w y (mx now i) tn' se' tse' vs (tls w ts' (chl c hs' nh' (rr ++ [.ref row]) (nr + 1) rest)) := by
  intro pr loose mean mg mb cn cnm cig cic cmo a ccd cl outer A₀ base h₀ L m s Q E B F X N T hret
  have hMk : MarkW := trivial
  have hkn := all2_known hA
  have hs1 := settle_sameT ts
  have G1 := G.same hs1
  have hA1 := settle_All2 hA
  have hkn1 := all2_known hA1
  have hR0 := filter_nil (fun _ _ h => h.isR) hA1 hr
  have hlive : (as.map settleA).any livA = true := by
    rw [List.any_eq_true]
    exact ⟨_, leastA_some hle, rfl⟩
  have hL0 := filter_ne (fun _ _ h => h.isL) hA1 hlive
  have hvne : vals ((ts.map settleT).filter isR) = [] := by rw [hR0]; rfl
  have hvz : (vals ((ts.map settleT).filter isR)).length ≤ 1000 := by rw [hvne]; exact Nat.zero_le _
  k_steps
  refine whl_turnW ?_
  k_steps
  · rename_i hbad _ _ _ _
    simp at hbad
  rename_i ts2 tn2 hsm2 hA2 N2
  have hc2 := wake_cmp (now := mx now i) (settle_cmp as)
  have hs2 := settle_sameT ts2
  have G2 := G1.same hsm2
  have G3 := G2.same hs2
  have hkn2 := all2_known hA2
  have hA3 := settle_All2 hA2
  rw [settle_idA hc2] at hA3
  have hkn3 := all2_known hA3
  have hS := same_trans hs1 (same_trans hsm2 hs2)
  have hnd1 : ((ts2.map settleT).map (·.num)).Nodup := by rw [same_nums hS]; exact hnd
  have hwr : ((as.map settleA).map (wakeA (mx now i))).any rdyA = true := wake_rdy hle (by unfold mx; split <;> omega)
  have hne := filter_ne (fun _ _ h => h.isR) hA3 hwr
  have hlen : ((ts2.map settleT).filter isR).length ≤ 100 := by
    refine Nat.le_trans (List.length_filter_le ..) ?_
    have := G3.few
    rw [← G3.hv, vals, List.length_map] at this
    exact this
  have hvz2 : (vals ((ts2.map settleT).filter isR)).length ≤ 1000 := by rw [vals, List.length_map]; omega
  have hvne2 : vals ((ts2.map settleT).filter isR) ≠ [] := by
    intro e; rw [vals, List.map_eq_nil_iff] at e; exact hne e
  have hin : ∀ t ∈ (ts2.map settleT).filter isR, t ∈ ts2.map settleT := fun t h => (List.mem_filter.mp h).1
  have hnums := nums_filter hnd1 isR
  refine whl_turnW ?_
  k_steps
  rename_i j' t' hs' nh' row' rv' q1' q2' q3' q4' _ _ _ _ _
  exact hret _ _ _ _ ⟨_, j', t', hs', nh', row', rv', _, _, _, hS, hA3, q1', rfl, q2', q3', q4', rfl⟩ (by assumption) (by assumption)
theorem freshL5 : True := by
  k_with_none
  (k_with "CJ" => (first | with_reducible assumption | with_reducible exact And.left (by first | with_reducible assumption | with_reducible exact And.right (by first | with_reducible assumption | with_reducible exact And.right (by first | with_reducible assumption | with_reducible exact And.right (by first | with_reducible assumption | with_reducible exact And.right (by first | with_reducible assumption | with_reducible exact And.right (by first | with_reducible assumption | with_reducible exact And.right (by first | with_reducible assumption | with_reducible exact And.right (by first | with_reducible assumption | with_reducible exact And.right (by first | with_reducible assumption | with_reducible exact And.right (by first | with_reducible assumption | with_reducible exact And.right (by first | with_reducible assumption | with_reducible exact And.right (by first | with_reducible assumption | with_reducible exact And.right (by first | with_reducible assumption | with_reducible exact And.right (by first | with_reducible assumption | with_reducible exact And.right (by first | with_reducible assumption | with_reducible exact And.right (by first | with_reducible assumption | with_reducible exact And.right (by first | with_reducible assumption | with_reducible exact And.right (by first | with_reducible assumption | with_reducible exact And.right (by first | with_reducible assumption | with_reducible exact And.right (by first | with_reducible assumption | with_reducible exact And.right (by first | with_reducible assumption | with_reducible exact And.right (by first | with_reducible assumption | with_reducible exact And.right (by with_reducible assumption)))))))))))))))))))))))))
  (k_with "execs cons" => (k_here; (fail_if_success (fail_if_success k_gentoks)); (with_reducible refine gen_toks ?_); intro tk))
  (k_with "execs nil" => (k_here; (fail_if_success (fail_if_success k_gentoks)); (with_reducible refine gen_toks ?_); intro tk))
  w_top off
  trivial
theorem ints_snoc {ys : List Value} {ns : List Int} {k : Int} {t : Tok} (h : IntsAre ys ns) : IntsAre (ys ++ [.int k t]) (ns ++ [k]) := by
  induction h with
  | nil => exact .cons _ _ .nil
  | cons _ _ _ ih => exact .cons _ _ ih
theorem ints_getv {vs : List Value} {ns : List Int} (h : IntsAre vs ns) {i : Nat} {v : Value} (e : vs[i]? = some v) : ∃ k t, ns[i]? = some k ∧ v = .int k t := by
  have hl : i < ns.length := by rw [← h.length]; exact (List.getElem?_eq_some_iff.mp e).1
  obtain ⟨t, ht⟩ := h.get i ns[i] (List.getElem?_eq_getElem hl)
  exact ⟨ns[i], t, List.getElem?_eq_getElem hl, Option.some.inj (e.symm.trans ht)⟩
section
variable {prog : Program} {w : World} {A : Around} {E : Value → Shared → Prop} {s : Shared} {h₀ : Heap} {L : Addr} {m : Str → Option Value} {env : Env} {elt ct : Expr} {x : Str} {scope : Scope} {cl : List (Str × Addr)} {S : Led → Prop} {P : Nat → Value → Prop} {Fin : List Value → Led → Prop}
theorem take_snoc_f {ks : List Int} {i : Nat} {k : Int} (p : Int → Bool) (f : Int → Int) (h : ks[i]? = some k) : ((ks.take (i + 1)).filter p).map f = ((ks.take i).filter p).map f ++ (if p k = true then [f k] else []) := by
  rw [List.take_add_one, h]
  simp only [Option.toList_some, List.filter_append, List.map_append]
  cases hc : p k <;> simp [hc]
theorem int_compT (ks : List Int) (p : Int → Bool) (f : Int → Int) (led : Led) (hS : S led) (hP : ∀ i v, P i v → i < ks.length → ∃ k t, ks[i]? = some k ∧ v = .int k t)
    (test : ∀ k t, k ∈ ks → ∀ C oC m₂ h tk (E' : Value → Shared → Prop) I oI D oD, LCg.NsObj oC m₂ → m₂ x = some (.int k t) → Fr h₀ L h m → News h₀ L h ((C, oC) :: (I, oI) :: (D, oD) :: led) →
      wpAny (model prog w) A (isTrue ct (compEnvC scope cl C env) (eval ct (compEnvC scope cl C env))) (fun ok s' => Wrap (ok = p k ∧ Ends h₀ L m { s with heap := h, toks := tk } ((C, oC) :: (I, oI) :: (D, oD) :: led) s')) E' { s with heap := h, toks := tk })
    (item : ∀ k t, k ∈ ks → p k = true → ∀ C oC m₂ h tk (E' : Value → Shared → Prop) I oI D oD, LCg.NsObj oC m₂ → m₂ x = some (.int k t) → Fr h₀ L h m → News h₀ L h ((C, oC) :: (I, oI) :: (D, oD) :: led) →
      wpAny (model prog w) A (eval elt (compEnvC scope cl C env)) (fun y s' => Wrap ((∃ u, y = .int (f k) u) ∧ Ends h₀ L m { s with heap := h, toks := tk } ((C, oC) :: (I, oI) :: (D, oD) :: led) s')) E' { s with heap := h, toks := tk })
    (done : ∀ ys, IntsAre ys ((ks.filter p).map f) → Fin ys led) :
    LCt.CompRestT prog w A h₀ L m env ct elt x scope cl s S P Fin ks.length 0 [] led := by
  refine compRestT_ind (n := ks.length) (fun i ys news => IntsAre ys (((ks.take i).filter p).map f) ∧ news = led) ?_ ?_ _ _ _ _ (by omega) ⟨.nil, rfl⟩
  · rintro i ys news hi ⟨hys, rfl⟩ v I oI C oC D m₂ h tk E' hv hC hx F N o ne
    obtain ⟨k, t, hk, rfl⟩ := hP i v hv hi
    have hmem : k ∈ ks := List.mem_of_getElem? hk
    have perm : ∀ p, p ∈ (I, oI) :: (C, oC) :: (D, LCg.lst ys) :: news ↔ p ∈ (C, oC) :: (I, oI) :: (D, LCg.lst ys) :: news := fun p => (List.Perm.swap _ _ _).mem_iff
    refine wpAny_mono (test k t hmem C oC m₂ h tk E' I oI D _ hC hx F (News.sub N fun p hp => (perm p).mpr hp)) (fun ok s₂ q => ?_) fun _ _ e => e
    obtain ⟨rfl, h', tk', rfl, F', N'⟩ := q
    cases hc : p k with
    | true =>
      simp only [if_true]
      refine wpAny_mono (item k t hmem hc C oC m₂ h' tk' E' I oI D _ hC hx F' N') (fun y s₃ q => ?_) fun _ _ e => e
      obtain ⟨⟨u, rfl⟩, h'', tk'', rfl, F'', N''⟩ := q
      refine ⟨h'', tk'', news, rfl, F'', News.sub N'' fun p hp => (perm p).mp hp, o, hS, ?_, rfl⟩
      rw [take_snoc_f p f hk, hc]
      exact ints_snoc hys
    | false =>
      simp only [Bool.false_eq_true, if_false]
      refine ⟨h', tk', news, rfl, F', News.sub N' fun p hp => (perm p).mp hp, o, hS, ?_, rfl⟩
      rw [take_snoc_f p f hk, hc]
      simpa using hys
  · rintro ys news ⟨hys, rfl⟩
    rw [List.take_length] at hys
    exact done ys hys
theorem int_comp (ks : List Int) (f : Int → Int) (led : Led) (hS : S led) (hP : ∀ i v, P i v → i < ks.length → ∃ k t, ks[i]? = some k ∧ v = .int k t)
    (item : ∀ k t, k ∈ ks → ∀ C oC m₂ h tk (E' : Value → Shared → Prop) I oI D oD, LCg.NsObj oC m₂ → m₂ x = some (.int k t) → Fr h₀ L h m → News h₀ L h ((C, oC) :: (I, oI) :: (D, oD) :: led) →
      wpAny (model prog w) A (eval elt (compEnvC scope cl C env)) (fun y s' => Wrap ((∃ u, y = .int (f k) u) ∧ Ends h₀ L m { s with heap := h, toks := tk } ((C, oC) :: (I, oI) :: (D, oD) :: led) s')) E' { s with heap := h, toks := tk })
    (done : ∀ ys, IntsAre ys (ks.map f) → Fin ys led) :
    LCg.CompRest prog w A h₀ L m env elt x scope cl s S P Fin ks.length 0 [] led := by
  refine compRest_ind (n := ks.length) (fun i ys news => IntsAre ys ((ks.take i).map f) ∧ news = led) ?_ ?_ _ _ _ _ (by omega) ⟨.nil, rfl⟩
  · rintro i ys news hi ⟨hys, rfl⟩ v I oI C oC D m₂ h tk E' hv hC hx F N o ne
    obtain ⟨k, t, hk, rfl⟩ := hP i v hv hi
    have hmem : k ∈ ks := List.mem_of_getElem? hk
    have perm : ∀ p, p ∈ (I, oI) :: (C, oC) :: (D, LCg.lst ys) :: news ↔ p ∈ (C, oC) :: (I, oI) :: (D, LCg.lst ys) :: news := fun p => (List.Perm.swap _ _ _).mem_iff
    refine wpAny_mono (item k t hmem C oC m₂ h tk E' I oI D _ hC hx F (News.sub N fun p hp => (perm p).mpr hp)) (fun y s₃ q => ?_) fun _ _ e => e
    obtain ⟨⟨u, rfl⟩, h'', tk'', rfl, F'', N''⟩ := q
    refine ⟨h'', tk'', news, rfl, F'', News.sub N'' fun p hp => (perm p).mp hp, o, hS, ?_, rfl⟩
    rw [List.take_add_one, hk, List.map_append]
    exact ints_snoc hys
  · rintro ys news ⟨hys, rfl⟩
    rw [List.take_length] at hys
    exact done ys hys
end
/-- the first n naturals, as ints -/
noncomputable def nats (n : Nat) : List Int := (List.range n).map fun (i : Nat) => (i : Int)
theorem nats_len (n : Nat) : (nats n).length = n := by simp [nats]
theorem nats_get {n i : Nat} (h : i < n) : (nats n)[i]? = some (i : Int) := by
  rw [nats, List.getElem?_map, List.getElem?_range h]; rfl
theorem mem_nats {n : Nat} {k : Int} : k ∈ nats n ↔ 0 ≤ k ∧ k < n := by
  simp only [nats, List.mem_map, List.mem_range]
  constructor
  · rintro ⟨i, hi, rfl⟩; omega
  · rintro ⟨h0, h1⟩; exact ⟨k.toNat, by omega, by omega⟩
theorem freshD2 : True := by
  k_with_none
  (k_with "CJ" => (first | with_reducible assumption | with_reducible exact And.left (by first | with_reducible assumption | with_reducible exact And.right (by first | with_reducible assumption | with_reducible exact And.right (by first | with_reducible assumption | with_reducible exact And.right (by first | with_reducible assumption | with_reducible exact And.right (by first | with_reducible assumption | with_reducible exact And.right (by first | with_reducible assumption | with_reducible exact And.right (by first | with_reducible assumption | with_reducible exact And.right (by first | with_reducible assumption | with_reducible exact And.right (by first | with_reducible assumption | with_reducible exact And.right (by first | with_reducible assumption | with_reducible exact And.right (by first | with_reducible assumption | with_reducible exact And.right (by first | with_reducible assumption | with_reducible exact And.right (by first | with_reducible assumption | with_reducible exact And.right (by first | with_reducible assumption | with_reducible exact And.right (by first | with_reducible assumption | with_reducible exact And.right (by first | with_reducible assumption | with_reducible exact And.right (by first | with_reducible assumption | with_reducible exact And.right (by first | with_reducible assumption | with_reducible exact And.right (by first | with_reducible assumption | with_reducible exact And.right (by first | with_reducible assumption | with_reducible exact And.right (by first | with_reducible assumption | with_reducible exact And.right (by first | with_reducible assumption | with_reducible exact And.right (by with_reducible assumption)))))))))))))))))))))))))
  (k_with "execs cons" => (k_here; (fail_if_success (fail_if_success k_gentoks)); (with_reducible refine gen_toks ?_); intro tk))
  (k_with "execs nil" => (k_here; (fail_if_success (fail_if_success k_gentoks)); (with_reducible refine gen_toks ?_); intro tk))
  w_top off
  trivial
/-- how the tasks stand by the law's own count: p, who is left; du, when each is due -/
noncomputable def Stand (n : Nat) (p : Int → Bool) (du : Int → Int) (now : Int) (σ : Int → AS) : Prop :=
  ∀ i ∈ nats n, (p i = true → σ i = if du i ≤ now then .rdy else .slp (du i)) ∧ (p i = false → σ i = .cmp ∨ σ i = .fin)
section
variable {n : Nat} {p : Int → Bool} {du : Int → Int} {now : Int} {σ : Int → AS}
/-- after settling: none is just completed -/
noncomputable def Stand1 (n : Nat) (p : Int → Bool) (du : Int → Int) (now : Int) (σ : Int → AS) : Prop :=
  ∀ i ∈ nats n, (p i = true → σ i = if du i ≤ now then .rdy else .slp (du i)) ∧ (p i = false → σ i = .fin)
theorem Stand.settle (h : Stand n p du now σ) : Stand1 n p du now (fun i => settleA (σ i)) := fun i hi => by
  obtain ⟨h1, h2⟩ := h i hi
  refine ⟨fun hp => ?_, fun hp => ?_⟩
  · show settleA (σ i) = _
    rw [h1 hp]; split <;> rfl
  · show settleA (σ i) = _
    rcases h2 hp with e | e <;> rw [e] <;> rfl
theorem Stand1.weak (h : Stand1 n p du now σ) : Stand n p du now σ := fun i hi => ⟨(h i hi).1, fun hp => .inr ((h i hi).2 hp)⟩
theorem settle_map (σ : Int → AS) (n : Nat) : ((nats n).map σ).map settleA = (nats n).map fun i => settleA (σ i) := by rw [List.map_map]; rfl
theorem Stand1.rdy (h : Stand1 n p du now σ) {i : Int} (hi : i ∈ nats n) : rdyA (σ i) = (p i && decide (du i ≤ now)) := by
  obtain ⟨h1, h2⟩ := h i hi
  cases hp : p i with
  | true =>
    rw [h1 hp]
    by_cases hd : du i ≤ now
    · rw [if_pos hd]; simp [rdyA, hd]
    · rw [if_neg hd]; simp [rdyA, hd]
  | false => rw [h2 hp]; rfl
theorem Stand1.any_rdy (h : Stand1 n p du now σ) : ((nats n).map σ).any rdyA = !(((nats n).filter p).filter fun i => decide (du i ≤ now)).isEmpty := by
  rw [List.filter_filter]
  cases he : ((nats n).filter fun i => (decide (du i ≤ now) && p i)).isEmpty with
  | true =>
    rw [List.isEmpty_iff, List.filter_eq_nil_iff] at he
    rw [Bool.not_true, List.any_eq_false]
    intro a ha
    obtain ⟨i, hi, rfl⟩ := List.mem_map.mp ha
    rw [h.rdy hi, Bool.and_comm]
    exact he i hi
  | false =>
    rw [Bool.not_false, List.any_eq_true]
    have hne : ((nats n).filter fun i => (decide (du i ≤ now) && p i)) ≠ [] := fun e => by rw [e] at he; cases he
    obtain ⟨i, hi⟩ := List.exists_mem_of_ne_nil _ hne
    obtain ⟨h1, h2⟩ := List.mem_filter.mp hi
    exact ⟨σ i, List.mem_map_of_mem h1, by rw [h.rdy h1, Bool.and_comm]; exact h2⟩
theorem Stand1.none (h : Stand1 n p du now σ) (hl : (nats n).filter p = []) : ((nats n).map σ).any livA = false := by
  rw [List.any_eq_false]
  intro a ha
  obtain ⟨i, hi, rfl⟩ := List.mem_map.mp ha
  have hp : p i = false := by
    have := List.filter_eq_nil_iff.mp hl i hi
    cases hq : p i
    · rfl
    · exact absurd hq this
  rw [(h i hi).2 hp]
  exact Bool.false_ne_true
theorem Stand1.least (h : Stand1 n p du now σ) (hl : (nats n).filter p ≠ []) (hq : (((nats n).filter p).filter fun i => decide (du i ≤ now)) = []) :
    ∃ j, leastA ((nats n).map σ) = some j ∧ now < j ∧ j ∈ ((nats n).filter p).map du ∧ ∀ d ∈ ((nats n).filter p).map du, j ≤ d := by
  have hq' : ∀ i ∈ (nats n).filter p, ¬ du i ≤ now := fun i hi => by
    have := List.filter_eq_nil_iff.mp hq i hi
    simpa using this
  have hs : ∀ i ∈ (nats n).filter p, σ i = .slp (du i) := fun i hi => by
    obtain ⟨h1, h2⟩ := List.mem_filter.mp hi
    rw [(h i h1).1 h2, if_neg (hq' i hi)]
  obtain ⟨i0, hi0⟩ := List.exists_mem_of_ne_nil _ hl
  have hm0 : AS.slp (du i0) ∈ (nats n).map σ := List.mem_map.mpr ⟨i0, (List.mem_filter.mp hi0).1, hs i0 hi0⟩
  cases hL : leastA ((nats n).map σ) with
  | none =>
    exfalso
    have hr : ((nats n).map σ).any rdyA = false := by rw [h.any_rdy, hq]; rfl
    have hc : ((nats n).map σ).any (fun a => a == AS.cmp) = false := by
      rw [List.any_eq_false]
      intro a ha
      obtain ⟨i, hi, rfl⟩ := List.mem_map.mp ha
      cases hp : p i with
      | true => rw [hs i (List.mem_filter.mpr ⟨hi, hp⟩)]; simp
      | false => rw [(h i hi).2 hp]; simp
    have := leastA_none hL hr hc
    exact absurd rfl (List.any_eq_false.mp this _ hm0)
  | some j =>
    have hj := leastA_some hL
    obtain ⟨i, hi, he⟩ := List.mem_map.mp hj
    have hp : p i = true := by
      cases hp : p i with
      | true => rfl
      | false => rw [(h i hi).2 hp] at he; cases he
    have hmem : i ∈ (nats n).filter p := List.mem_filter.mpr ⟨hi, hp⟩
    have hd : du i = j := by rw [hs i hmem] at he; exact AS.slp.inj he
    refine ⟨j, rfl, by have := hq' i hmem; omega, List.mem_map.mpr ⟨i, hmem, hd⟩, fun d hd => ?_⟩
    obtain ⟨i', hi', rfl⟩ := List.mem_map.mp hd
    exact leastA_le hL _ (List.mem_map.mpr ⟨i', (List.mem_filter.mp hi').1, hs i' hi'⟩)
theorem Stand1.wake (h : Stand1 n p du now σ) {j : Int} (hj : now ≤ j) : Stand1 n p du j (fun i => wakeA j (σ i)) := fun i hi => by
  obtain ⟨h1, h2⟩ := h i hi
  refine ⟨fun hp => ?_, fun hp => ?_⟩
  · show wakeA j (σ i) = _
    rw [h1 hp]
    by_cases hd : du i ≤ now
    · rw [if_pos hd, if_pos (by omega)]; rfl
    · rw [if_neg hd]; rfl
  · show wakeA j (σ i) = _
    rw [h2 hp]; rfl
/-- the numbers of the ready ones -/
theorem Stand1.rows (h : Stand1 n p du now σ) {ts : List TR} (hA : All2 Is ts ((nats n).map σ)) (hnum : ts.map (·.num) = (nats n).map (· + 1)) :
    (ts.filter isR).map (·.num - 1) = ((nats n).filter p).filter fun i => decide (du i ≤ now) := by
  rw [List.filter_filter]
  have h1 : ts.map (·.num - 1) = nats n := by
    have : (ts.map (·.num)).map (· - 1) = ((nats n).map (· + 1)).map (· - 1) := by rw [hnum]
    rw [List.map_map, List.map_map] at this
    have e : ((fun x : Int => x - 1) ∘ (fun x => x + 1)) = id := by funext x; simp
    rw [e, List.map_id] at this
    exact this
  have key : ∀ (ts : List TR) (is : List Int) (σ : Int → AS), All2 Is ts (is.map σ) → ts.map (·.num - 1) = is → (∀ i ∈ is, rdyA (σ i) = (decide (du i ≤ now) && p i)) → (ts.filter isR).map (·.num - 1) = is.filter fun i => (decide (du i ≤ now) && p i) := by
    intro ts
    induction ts with
    | nil => intro is σ _ e _; cases is with | nil => rfl | cons _ _ => cases e
    | cons t ts ih =>
      intro is σ hA e hr
      cases is with
      | nil => cases e
      | cons i is =>
        cases hA with
        | cons hx hA =>
          obtain ⟨e1, e2⟩ := List.cons.inj e
          have hi := hr i (.head _)
          have ht : isR t = (decide (du i ≤ now) && p i) := by rw [hx.isR, hi]
          rw [List.filter_cons, List.filter_cons, ht]
          cases hb : (decide (du i ≤ now) && p i) with
          | true => simp only [if_true, List.map_cons]; rw [ih is σ hA e2 (fun i hi => hr i (.tail _ hi)), show t.num - 1 = i from e1]
          | false => simp only [Bool.false_eq_true, if_false]; exact ih is σ hA e2 fun i hi => hr i (.tail _ hi)
  exact key ts (nats n) σ hA h1 fun i hi => by rw [h.rdy hi, Bool.and_comm]
end
theorem freshL6 : True := by
  k_with_none
  (k_with "CJ" => (first | with_reducible assumption | with_reducible exact And.left (by first | with_reducible assumption | with_reducible exact And.right (by first | with_reducible assumption | with_reducible exact And.right (by first | with_reducible assumption | with_reducible exact And.right (by first | with_reducible assumption | with_reducible exact And.right (by first | with_reducible assumption | with_reducible exact And.right (by first | with_reducible assumption | with_reducible exact And.right (by first | with_reducible assumption | with_reducible exact And.right (by first | with_reducible assumption | with_reducible exact And.right (by first | with_reducible assumption | with_reducible exact And.right (by first | with_reducible assumption | with_reducible exact And.right (by first | with_reducible assumption | with_reducible exact And.right (by first | with_reducible assumption | with_reducible exact And.right (by first | with_reducible assumption | with_reducible exact And.right (by first | with_reducible assumption | with_reducible exact And.right (by first | with_reducible assumption | with_reducible exact And.right (by first | with_reducible assumption | with_reducible exact And.right (by first | with_reducible assumption | with_reducible exact And.right (by first | with_reducible assumption | with_reducible exact And.right (by first | with_reducible assumption | with_reducible exact And.right (by first | with_reducible assumption | with_reducible exact And.right (by first | with_reducible assumption | with_reducible exact And.right (by first | with_reducible assumption | with_reducible exact And.right (by with_reducible assumption)))))))))))))))))))))))))
  (k_with "execs cons" => (k_here; (fail_if_success (fail_if_success k_gentoks)); (with_reducible refine gen_toks ?_); intro tk))
  (k_with "execs nil" => (k_here; (fail_if_success (fail_if_success k_gentoks)); (with_reducible refine gen_toks ?_); intro tk))
  w_top off
  trivial
set_option genInjectivity false in
set_option genSizeOf false in
structure RW where
  a : Addr
  vs : List Value
  ns : List Int
noncomputable def rls (rows : List RW) (rest : Led) : Led := rows.foldr (fun r l => (r.a, LCg.lst r.vs) :: l) rest
noncomputable def rvals (rows : List RW) : List Value := rows.map fun r => .ref r.a
set_option genInjectivity false in
set_option genSizeOf false in
/-- what stays through the turns: the law's frame, its cells but now's, the rows of sleeps -/
structure LC where
  L : Addr
  fa : Addr
  o1 : Obj
  o2 : Obj
  o3 : Obj
  o4 : Obj
  SL : Addr
  nSL : Nat
  AT : Addr
  DU : Addr
  rows : List RW
noncomputable abbrev LC.c1 (k : LC) : Addr := k.L + 1
noncomputable abbrev LC.c2 (k : LC) : Addr := k.L + 1 + 1
noncomputable abbrev LC.c3 (k : LC) : Addr := k.L + 1 + 1 + 1
noncomputable abbrev LC.c4 (k : LC) : Addr := k.L + 1 + 1 + 1 + 1
noncomputable abbrev LC.c5 (k : LC) : Addr := k.L + 1 + 1 + 1 + 1 + 1
noncomputable abbrev LC.c6 (k : LC) : Addr := k.L + 1 + 1 + 1 + 1 + 1 + 1
noncomputable abbrev LC.c7 (k : LC) : Addr := k.L + 1 + 1 + 1 + 1 + 1 + 1 + 1
/-- the law's own objects -/
noncomputable abbrev lawl (k : LC) (o5 : Obj) (atv : List Value) (nat : Nat) (duv : List Value) (ndu : Nat) (rest : Led) : Led :=
  (k.c5, o5) :: (k.AT, W.listOf atv.toArray nat) :: (k.DU, W.listOf duv.toArray ndu) :: (k.c1, k.o1) :: (k.c2, k.o2) :: (k.c3, k.o3) :: (k.c4, k.o4) :: (k.SL, W.listOf (rvals k.rows).toArray k.nSL) :: rls k.rows rest
/-- the whole of the law's ledger -/
noncomputable abbrev full (w : World) (k : LC) (y : SY) (c : CH) (vs : List Value) (now : Int) (tn : Tok) (se : Int) (tse : Tok) (ts : List TR) (hs : List Value) (nh : Nat) (rr : List Value) (nr : Nat) (o5 : Obj) (atv : List Value) (nat : Nat) (duv : List Value) (ndu : Nat) (ex : Led) : Led :=
  syl w y now tn se tse vs (tls w ts (chl c hs nh rr nr (lawl k o5 atv nat duv ndu ex)))
structure LC.Ok (k : LC) (y : SY) (c : CH) : Prop where
  d1 : k.o1.data = .cell (some (.ref k.SL))
  d2 : k.o2.data = .cell (some (.ref y.T))
  d3 : k.o3.data = .cell (some (.ref k.AT))
  d4 : k.o4.data = .cell (some (.ref k.DU))
  cR : c.cR = k.c7
  cH : c.cH = k.c6
  rowInts : ∀ r ∈ k.rows, IntsAre r.vs r.ns
  rowFew : ∀ r ∈ k.rows, 1 ≤ r.ns.length ∧ r.ns.length ≤ 4
  rowCnt : k.rows.length ≤ 4
noncomputable def lenF (k : LC) (i : Int) : Int := ((k.rows.map fun r => (r.ns.length : Int)).getD i.toNat 0)
theorem lenF_get {k : LC} {i : Int} (h0 : 0 ≤ i) (h1 : i < k.rows.length) : ∃ r, k.rows[i.toNat]? = some r ∧ r ∈ k.rows ∧ lenF k i = r.ns.length ∧ (rvals k.rows)[i.toNat]? = some (.ref r.a) := by
  have hl : i.toNat < k.rows.length := by omega
  refine ⟨k.rows[i.toNat], List.getElem?_eq_getElem hl, List.getElem_mem hl, ?_, ?_⟩
  · unfold lenF
    rw [List.getD_eq_getElem?_getD, List.getElem?_map, List.getElem?_eq_getElem hl]; rfl
  · rw [rvals, List.getElem?_map, List.getElem?_eq_getElem hl]; rfl
theorem mem_rls {rows : List RW} {rest : Led} {p : Addr × Obj} : p ∈ rls rows rest ↔ (∃ r ∈ rows, p = (r.a, LCg.lst r.vs)) ∨ p ∈ rest := by
  induction rows with
  | nil => simp [rls]
  | cons r rows ih =>
    have e : rls (r :: rows) rest = (r.a, LCg.lst r.vs) :: rls rows rest := rfl
    rw [e, List.mem_cons, ih]
    simp only [List.mem_cons, exists_eq_or_imp]
    constructor
    · rintro (h | h | h)
      · exact .inl (.inl h)
      · exact .inl (.inr h)
      · exact .inr h
    · rintro ((h | h) | h)
      · exact .inl h
      · exact .inr (.inl h)
      · exact .inr (.inr h)

theorem item_last {prog : Program} {w : World} {A : Around} {E : Value → Shared → Prop} {s : Shared} {value slice : PySem.Expr} {h₀ : Heap} {L l : Addr} {news : Led} {vs : List Value} {n : Nat} {u : Tok} {v : Value} {Q : Value → Shared → Prop}
    (N : News h₀ L s.heap news) (hl : (l, W.listOf (vs ++ [v]).toArray n) ∈ news) (hz : vs.length < 100) (h : Q v s)
    (hs : subscripted slice false (.ref l) (.int (-1) u) = operate [.ref l, .int (-1) u] (getItem (.ref l) (.int (-1) u)) := by with_unfolding_all rfl) :
    wpAny (model prog w) A (subscriptTail value slice (.ref l) (.int (-1) u)) Q E s :=
  have hL : s.heap.IsList l (vs ++ [v]).toArray := ⟨_, (N _ hl).1, rfl, n, rfl⟩
  tail_any hL.typeIs slot_list_getitem.lookup (wpAny_getItem_list_neg hL (by decide) (by rw [List.size_toArray, List.length_append, List.length_singleton]; omega) (by decide) (by
    rw [List.size_toArray, List.length_append, List.length_singleton]
    have e : (-1 + ((vs.length + 1 : Nat) : Int)).toNat = vs.length := by omega
    rw [e]; simp) h) hs
section
variable {prog : Program} {w : World} {A : Around} {E : Value → Shared → Prop} {s : Shared} {h₀ : Heap} {L a b : Addr} {news : Led} {vs us : List Value} {n1 n2 : Nat} {ns ms : List Int} {Q : Value → Shared → Prop}
theorem neL_same (N : News h₀ L s.heap news) (h1 : (a, W.listOf vs.toArray n1) ∈ news) (h2 : (b, W.listOf us.toArray n2) ∈ news) (i1 : IntsAre vs ns) (i2 : IntsAre us ns) (hu : A.units + 64 < cLine) (h : Q (.bool false) s) :
    wpAny (model prog w) A (compareOp .NotEq (.ref a) (.ref b)) Q E s :=
  ne_intsK ⟨_, (N _ h1).1, rfl, n1, rfl⟩ i1 ⟨_, (N _ h2).1, rfl, n2, rfl⟩ i2 hu (by simpa using h)
theorem eqL_nil (N : News h₀ L s.heap news) (h1 : (a, W.listOf vs.toArray n1) ∈ news) (h2 : (b, W.listOf #[] n2) ∈ news) (i1 : IntsAre vs ns) (hne : ns = []) (hu : A.units + 64 < cLine) (h : Q (.bool true) s) :
    wpAny (model prog w) A (compareOp .Eq (.ref a) (.ref b)) Q E s :=
  eq_intsK ⟨_, (N _ h1).1, rfl, n1, rfl⟩ i1 ⟨_, (N _ h2).1, rfl, n2, rfl⟩ .nil hu (by simpa [hne] using h)
theorem eqL_cons (N : News h₀ L s.heap news) (h1 : (a, W.listOf vs.toArray n1) ∈ news) (h2 : (b, W.listOf #[] n2) ∈ news) (i1 : IntsAre vs ns) (hne : ns ≠ []) (hu : A.units + 64 < cLine) (h : Q (.bool false) s) :
    wpAny (model prog w) A (compareOp .Eq (.ref a) (.ref b)) Q E s :=
  eq_intsK ⟨_, (N _ h1).1, rfl, n1, rfl⟩ i1 ⟨_, (N _ h2).1, rfl, n2, rfl⟩ .nil hu (by simpa [hne] using h)
end
/-- all that lies off the object d -/
structure OffAll (d : Addr) (as : List Addr) (rest : Led) : Prop where
  h1 : ∀ a ∈ as, @Ne Nat a d
  h2 : ∀ p ∈ rest, p.1 ≠ d
/-- the ledger behind the choice: the row just told, the task that is chosen, then the rest -/
noncomputable abbrev formT (w : World) (k : LC) (y : SY) (c : CH) (vs : List Value) (now : Int) (tn : Tok) (se : Int) (tse : Tok) (D row : Addr) (lv rv : List Value) (t : TR) (pre post : List TR) (hs : List Value) (nh : Nat) (rr : List Value) (nr : Nat) (o5 : Obj) (atv : List Value) (nat : Nat) (duv : List Value) (ndu : Nat) (ex : Led) : Led :=
  (D, LCg.lst lv) :: (row, LCg.lst rv) :: (c.RR, W.listOf rr.toArray nr) :: (c.cR, c.oR) :: (k.c5, o5) :: (k.AT, W.listOf atv.toArray nat) :: (k.DU, W.listOf duv.toArray ndu) :: (k.c1, k.o1) :: (k.c2, k.o2) :: (k.c3, k.o3) :: (k.c4, k.o4) :: (k.SL, W.listOf (rvals k.rows).toArray k.nSL) ::
    tl w t (syl w y now tn se tse vs (rls k.rows (tls w pre (tls w post (chl c hs nh rr nr ex)))))
theorem tl_in {w : World} {t : TR} {rest : Led} {p : Addr × Obj} (l : Led) (h : p ∈ tl w t (l ++ rest)) : p ∈ l ++ tl w t rest := by
  rcases mem_tl.mp h with h | h
  · exact List.mem_append_right _ (mem_tl.mpr (.inl h))
  · rcases List.mem_append.mp h with h | h
    · exact List.mem_append_left _ h
    · exact List.mem_append_right _ (mem_tl.mpr (.inr h))
theorem freshL7 : True := by
  k_with_none
  (k_with "CJ" => (first | with_reducible assumption | with_reducible exact And.left (by first | with_reducible assumption | with_reducible exact And.right (by first | with_reducible assumption | with_reducible exact And.right (by first | with_reducible assumption | with_reducible exact And.right (by first | with_reducible assumption | with_reducible exact And.right (by first | with_reducible assumption | with_reducible exact And.right (by first | with_reducible assumption | with_reducible exact And.right (by first | with_reducible assumption | with_reducible exact And.right (by first | with_reducible assumption | with_reducible exact And.right (by first | with_reducible assumption | with_reducible exact And.right (by first | with_reducible assumption | with_reducible exact And.right (by first | with_reducible assumption | with_reducible exact And.right (by first | with_reducible assumption | with_reducible exact And.right (by first | with_reducible assumption | with_reducible exact And.right (by first | with_reducible assumption | with_reducible exact And.right (by first | with_reducible assumption | with_reducible exact And.right (by first | with_reducible assumption | with_reducible exact And.right (by first | with_reducible assumption | with_reducible exact And.right (by first | with_reducible assumption | with_reducible exact And.right (by first | with_reducible assumption | with_reducible exact And.right (by first | with_reducible assumption | with_reducible exact And.right (by first | with_reducible assumption | with_reducible exact And.right (by first | with_reducible assumption | with_reducible exact And.right (by with_reducible assumption)))))))))))))))))))))))))
  (k_with "execs cons" => (k_here; (fail_if_success (fail_if_success k_gentoks)); (with_reducible refine gen_toks ?_); intro tk))
  (k_with "execs nil" => (k_here; (fail_if_success (fail_if_success k_gentoks)); (with_reducible refine gen_toks ?_); intro tk))
  w_top off
  trivial
/-- all of the ledger lies off the object d -/
structure OffP (d : Addr) (rest : Led) : Prop where
  h : ∀ p ∈ rest, p.1 ≠ d
/-- the ledger at a turn's end, but the law's two lists of ints, its cells of them and the task in hand -/
noncomputable abbrev formE (w : World) (k : LC) (y : SY) (c : CH) (vs : List Value) (now : Int) (tn : Tok) (se : Int) (tse : Tok) (pre post : List TR) (hs : List Value) (nh : Nat) (rr : List Value) (nr : Nat) (ex : Led) : Led :=
  (k.c1, k.o1) :: (k.c2, k.o2) :: (k.SL, W.listOf (rvals k.rows).toArray k.nSL) :: syl w y now tn se tse vs (rls k.rows (tls w pre (tls w post (chl c hs nh rr nr ex))))
theorem OffP.mk' {d : Addr} {as : List Addr} {w : World} {k : LC} {y : SY} {c : CH} {vs : List Value} {now : Int} {tn : Tok} {se : Int} {tse : Tok} {pre post : List TR} {hs : List Value} {nh : Nat} {rr : List Value} {nr : Nat} {ex : Led} {t' : TR} {o5 : Obj}
    (o : OffAll d as (rls k.rows (tls w pre (tls w post (chl c hs nh rr nr ex))))) (hy : ∀ a ∈ ya y, a ∈ as) (ht : ∀ a ∈ ta t', a ∈ as) (h1 : k.c1 ∈ as) (h2 : k.c2 ∈ as) (h3 : k.c3 ∈ as) (h4 : k.c4 ∈ as) (h5 : k.c5 ∈ as) (h6 : k.SL ∈ as) :
    OffP d ((k.c3, k.o3) :: (k.c4, k.o4) :: (k.c5, o5) :: tl w t' (formE w k y c vs now tn se tse pre post hs nh rr nr ex)) := by
  refine ⟨fun p hp => ?_⟩
  rcases List.mem_cons.mp hp with rfl | hp
  · exact o.h1 _ h3
  rcases List.mem_cons.mp hp with rfl | hp
  · exact o.h1 _ h4
  rcases List.mem_cons.mp hp with rfl | hp
  · exact o.h1 _ h5
  rcases mem_tl.mp hp with hp | hp
  · exact o.h1 _ (ht _ (mem_tl_ta hp))
  rcases List.mem_cons.mp hp with rfl | hp
  · exact o.h1 _ h1
  rcases List.mem_cons.mp hp with rfl | hp
  · exact o.h1 _ h2
  rcases List.mem_cons.mp hp with rfl | hp
  · exact o.h1 _ h6
  rcases mem_syl.mp hp with hp | hp
  · exact o.h1 _ (hy _ (syl_ya hp))
  exact o.h2 p hp
theorem OffP.cons {d a : Addr} {o : Obj} {rest : Led} (h1 : @Ne Nat a d) (h : OffP d rest) : OffP d ((a, o) :: rest) := ⟨fun p hp => by
  rcases List.mem_cons.mp hp with rfl | hp
  · exact h1
  · exact h.h p hp⟩
theorem OffP.swap {d a : Addr} {o o' : Obj} {rest : Led} (h : OffP d ((a, o) :: rest)) : OffP d ((a, o') :: rest) := ⟨fun p hp => by
  rcases List.mem_cons.mp hp with rfl | hp
  · exact h.h (a, o) (.head _)
  · exact h.h p (.tail _ hp)⟩
section
variable {prog : Program} {w : World} {A : Around} {E : Value → Shared → Prop} {s : Shared} {h₀ : Heap} {L D C B : Addr} {m : Str → Option Value} {oC oB : Obj} {vs : List Value} {ns : List Int} {n : Nat} {k x : Int} {t u : Tok} {rest : Led}
theorem setL0 {Q : Unit → Shared → Prop} (F : Fr h₀ L s.heap m) (N : News h₀ L s.heap ((D, W.listOf vs.toArray n) :: rest)) (o : OffP D rest) (hi : IntsAre vs ns) (h0 : 0 ≤ k) (h1 : k < ns.length) (hfit : k < 2 ^ 63)
    (h : ∀ h', Fr h₀ L h' m → News h₀ L h' ((D, W.listOf (vs.set k.toNat (.int x u)).toArray n) :: rest) → IntsAre (vs.set k.toNat (.int x u)) (ns.set k.toNat x) → Q () { s with heap := h' }) :
    wpAny (model prog w) A (setItem (.ref D) (.int k t) (.int x u)) Q E s :=
  PySem.W.ksa_set F N (.head o.h) hi h0 h1 hfit fun h' F' N' i' _ _ => h h' F' N' i'
theorem setL1 {Q : Unit → Shared → Prop} (F : Fr h₀ L s.heap m) (N : News h₀ L s.heap ((C, oC) :: (D, W.listOf vs.toArray n) :: rest)) (ne : @Ne Nat C D) (o : OffP D rest) (hi : IntsAre vs ns) (h0 : 0 ≤ k) (h1 : k < ns.length) (hfit : k < 2 ^ 63)
    (h : ∀ h', Fr h₀ L h' m → News h₀ L h' ((C, oC) :: (D, W.listOf (vs.set k.toNat (.int x u)).toArray n) :: rest) → IntsAre (vs.set k.toNat (.int x u)) (ns.set k.toNat x) → Q () { s with heap := h' }) :
    wpAny (model prog w) A (setItem (.ref D) (.int k t) (.int x u)) Q E s :=
  PySem.W.ksa_set F N (.tail ne (.head o.h)) hi h0 h1 hfit fun h' F' N' i' _ _ => h h' F' N' i'
theorem setL2 {Q : Unit → Shared → Prop} (F : Fr h₀ L s.heap m) (N : News h₀ L s.heap ((B, oB) :: (C, oC) :: (D, W.listOf vs.toArray n) :: rest)) (ne' : @Ne Nat B D) (ne : @Ne Nat C D) (o : OffP D rest) (hi : IntsAre vs ns) (h0 : 0 ≤ k) (h1 : k < ns.length) (hfit : k < 2 ^ 63)
    (h : ∀ h', Fr h₀ L h' m → News h₀ L h' ((B, oB) :: (C, oC) :: (D, W.listOf (vs.set k.toNat (.int x u)).toArray n) :: rest) → IntsAre (vs.set k.toNat (.int x u)) (ns.set k.toNat x) → Q () { s with heap := h' }) :
    wpAny (model prog w) A (setItem (.ref D) (.int k t) (.int x u)) Q E s :=
  PySem.W.ksa_set F N (.tail ne' (.tail ne (.head o.h))) hi h0 h1 hfit fun h' F' N' i' _ _ => h h' F' N' i'
end
/-- the law's ledger at the end of a turn: the lists in front, the task, the rest -/
noncomputable abbrev formZ (w : World) (k : LC) (y : SY) (c : CH) (vs : List Value) (now : Int) (tn : Tok) (se : Int) (tse : Tok) (t : TR) (pre post : List TR) (hs : List Value) (nh : Nat) (rr : List Value) (nr : Nat) (o5 : Obj) (atv : List Value) (nat : Nat) (duv : List Value) (ndu : Nat) (ex : Led) : Led :=
  (k.AT, W.listOf atv.toArray nat) :: (k.DU, W.listOf duv.toArray ndu) :: (k.c3, k.o3) :: (k.c4, k.o4) :: (k.c5, o5) :: tl w t (formE w k y c vs now tn se tse pre post hs nh rr nr ex)
/-- the ledger's middle part, before the task's own -/
noncomputable abbrev formM (k : LC) (c : CH) (r : RW) (D row Y : Addr) (lv rv yv rr : List Value) (nr : Nat) (o5 : Obj) (atv : List Value) (nat : Nat) (duv : List Value) (ndu : Nat) (rest : Led) : Led :=
  (Y, LCg.lst yv) :: (r.a, LCg.lst r.vs) :: (D, LCg.lst lv) :: (row, LCg.lst rv) :: (c.RR, W.listOf rr.toArray nr) :: (k.c7, c.oR) :: (k.c5, o5) :: (k.AT, W.listOf atv.toArray nat) :: (k.DU, W.listOf duv.toArray ndu) :: (k.c1, k.o1) :: (k.c2, k.o2) :: (k.c3, k.o3) :: (k.c4, k.o4) :: (k.SL, W.listOf (rvals k.rows).toArray k.nSL) :: rest
noncomputable abbrev formU (w : World) (k : LC) (c : CH) (pre post : List TR) (hs : List Value) (nh : Nat) (rr : List Value) (nr : Nat) (ex : Led) : Led :=
  rls k.rows (tls w pre (tls w post (chl c hs nh rr nr ex)))
section
variable {w : World} {k : LC} {y : SY} {c : CH} {vs : List Value} {now : Int} {tn : Tok} {se : Int} {tse : Tok} {t : TR} {pre post : List TR} {hs : List Value} {nh : Nat} {rr : List Value} {nr : Nat} {o5 : Obj} {atv : List Value} {nat : Nat} {duv : List Value} {ndu : Nat} {ex : Led} {r : RW} {D row Y : Addr} {lv rv yv : List Value} {p : Addr × Obj}
theorem toC (h : p ∈ tl w t (formM k c r D row Y lv rv yv rr nr o5 atv nat duv ndu (syl w y now tn se tse vs (formU w k c pre post hs nh rr nr ex)))) :
    p ∈ formM k c r D row Y lv rv yv rr nr o5 atv nat duv ndu (tl w t (syl w y now tn se tse vs (formU w k c pre post hs nh rr nr ex))) :=
  tl_in [_, _, _, _, _, _, _, _, _, _, _, _, _, _] h
theorem app3 {α : Type} {p : α} {a b d : List α} (h : p ∈ a ++ (b ++ d)) : p ∈ b ++ (a ++ d) :=
  (List.mem_append.mp h).elim (fun h => List.mem_append_right _ (List.mem_append_left _ h)) fun h => (List.mem_append.mp h).elim (fun h => List.mem_append_left _ h) fun h => List.mem_append_right _ (List.mem_append_right _ h)
theorem toD (h : p ∈ syl w y now tn se tse vs (tl w t (formM k c r D row Y lv rv yv rr nr o5 atv nat duv ndu (formU w k c pre post hs nh rr nr ex)))) :
    p ∈ formM k c r D row Y lv rv yv rr nr o5 atv nat duv ndu (tl w t (syl w y now tn se tse vs (formU w k c pre post hs nh rr nr ex))) := by
  have h : p ∈ syl w y now tn se tse vs [] ++ (tl w t [] ++ (formM k c r D row Y lv rv yv rr nr o5 atv nat duv ndu [] ++ formU w k c pre post hs nh rr nr ex)) := h
  show p ∈ formM k c r D row Y lv rv yv rr nr o5 atv nat duv ndu [] ++ (tl w t [] ++ (syl w y now tn se tse vs [] ++ formU w k c pre post hs nh rr nr ex))
  rw [List.mem_append, List.mem_append, List.mem_append] at h ⊢
  rcases h with h | h | h | h <;> simp only [h, true_or, or_true]
theorem inM1 (h : p ∈ [(k.AT, W.listOf atv.toArray nat), (k.DU, W.listOf duv.toArray ndu), (k.c3, k.o3), (k.c4, k.o4), (k.c5, o5)]) : p ∈ formM k c r D row Y lv rv yv rr nr o5 atv nat duv ndu [] := by
  have key : ∀ q ∈ [(k.AT, W.listOf atv.toArray nat), (k.DU, W.listOf duv.toArray ndu), (k.c3, k.o3), (k.c4, k.o4), (k.c5, o5)], q ∈ formM k c r D row Y lv rv yv rr nr o5 atv nat duv ndu [] := by
    iterate 5 refine List.forall_mem_cons.mpr ⟨by k_mem, ?_⟩
    exact List.forall_mem_nil _
  exact key p h
theorem inM2 (h : p ∈ [(k.c1, k.o1), (k.c2, k.o2), (k.SL, W.listOf (rvals k.rows).toArray k.nSL)]) : p ∈ formM k c r D row Y lv rv yv rr nr o5 atv nat duv ndu [] := by
  have key : ∀ q ∈ [(k.c1, k.o1), (k.c2, k.o2), (k.SL, W.listOf (rvals k.rows).toArray k.nSL)], q ∈ formM k c r D row Y lv rv yv rr nr o5 atv nat duv ndu [] := by
    iterate 3 refine List.forall_mem_cons.mpr ⟨by k_mem, ?_⟩
    exact List.forall_mem_nil _
  exact key p h
theorem ofC (h : p ∈ formZ w k y c vs now tn se tse t pre post hs nh rr nr o5 atv nat duv ndu ex) :
    p ∈ tl w t (formM k c r D row Y lv rv yv rr nr o5 atv nat duv ndu (syl w y now tn se tse vs (formU w k c pre post hs nh rr nr ex))) := by
  have h : p ∈ [(k.AT, W.listOf atv.toArray nat), (k.DU, W.listOf duv.toArray ndu), (k.c3, k.o3), (k.c4, k.o4), (k.c5, o5)] ++ (tl w t [] ++ ([(k.c1, k.o1), (k.c2, k.o2), (k.SL, W.listOf (rvals k.rows).toArray k.nSL)] ++ (syl w y now tn se tse vs [] ++ formU w k c pre post hs nh rr nr ex))) := h
  show p ∈ tl w t [] ++ (formM k c r D row Y lv rv yv rr nr o5 atv nat duv ndu [] ++ (syl w y now tn se tse vs [] ++ formU w k c pre post hs nh rr nr ex))
  rw [List.mem_append, List.mem_append, List.mem_append, List.mem_append] at h
  rw [List.mem_append, List.mem_append, List.mem_append]
  rcases h with h | h | h | h | h
  · exact .inr (.inl (inM1 h))
  · exact .inl h
  · exact .inr (.inl (inM2 h))
  · exact .inr (.inr (.inl h))
  · exact .inr (.inr (.inr h))
theorem ofD (h : p ∈ formZ w k y c vs now tn se tse t pre post hs nh rr nr o5 atv nat duv ndu ex) :
    p ∈ syl w y now tn se tse vs (tl w t (formM k c r D row Y lv rv yv rr nr o5 atv nat duv ndu (formU w k c pre post hs nh rr nr ex))) := by
  have h : p ∈ tl w t [] ++ (formM k c r D row Y lv rv yv rr nr o5 atv nat duv ndu [] ++ (syl w y now tn se tse vs [] ++ formU w k c pre post hs nh rr nr ex)) := ofC h
  show p ∈ syl w y now tn se tse vs [] ++ (tl w t [] ++ (formM k c r D row Y lv rv yv rr nr o5 atv nat duv ndu [] ++ formU w k c pre post hs nh rr nr ex))
  rw [List.mem_append, List.mem_append, List.mem_append] at h ⊢
  rcases h with h | h | h | h <;> simp only [h, true_or, or_true]
theorem five_three {α : Type} (c5 AT DU c1 c2 c3 c4 SL : α) (r : List α) : (c5 :: AT :: DU :: c1 :: c2 :: c3 :: c4 :: SL :: r).Perm (AT :: DU :: c3 :: c4 :: c5 :: c1 :: c2 :: SL :: r) :=
  (List.perm_append_comm_assoc [c5] [AT, DU] (c1 :: c2 :: c3 :: c4 :: SL :: r)).trans (List.Perm.append_left [AT, DU] (List.perm_append_comm_assoc [c5, c1, c2] [c3, c4] (SL :: r)))
theorem mem_full {ts : List TR} : p ∈ full w k y c vs now tn se tse ts hs nh rr nr o5 atv nat duv ndu ex ↔ p ∈ syl w y now tn se tse vs [] ∨ (∃ t ∈ ts, p ∈ tl w t []) ∨ p ∈ chl c hs nh rr nr [] ∨
    p ∈ [(k.AT, W.listOf atv.toArray nat), (k.DU, W.listOf duv.toArray ndu), (k.c3, k.o3), (k.c4, k.o4), (k.c5, o5)] ∨ p ∈ [(k.c1, k.o1), (k.c2, k.o2), (k.SL, W.listOf (rvals k.rows).toArray k.nSL)] ∨ (∃ r ∈ k.rows, p = (r.a, LCg.lst r.vs)) ∨ p ∈ ex := by
  rw [mem_syl, mem_tls, mem_chl]
  refine or_congr Iff.rfl (or_congr Iff.rfl (or_congr Iff.rfl ?_))
  refine (five_three _ _ _ _ _ _ _ _ _).mem_iff.trans ?_
  refine (List.mem_append : p ∈ [(k.AT, W.listOf atv.toArray nat), (k.DU, W.listOf duv.toArray ndu), (k.c3, k.o3), (k.c4, k.o4), (k.c5, o5)] ++ ([(k.c1, k.o1), (k.c2, k.o2), (k.SL, W.listOf (rvals k.rows).toArray k.nSL)] ++ rls k.rows ex) ↔ _).trans (or_congr Iff.rfl ?_)
  exact List.mem_append.trans (or_congr Iff.rfl mem_rls)
theorem mem_formU : p ∈ formU w k c pre post hs nh rr nr ex ↔ (∃ r ∈ k.rows, p = (r.a, LCg.lst r.vs)) ∨ (∃ t ∈ pre, p ∈ tl w t []) ∨ (∃ t ∈ post, p ∈ tl w t []) ∨ p ∈ chl c hs nh rr nr [] ∨ p ∈ ex := by
  rw [mem_rls, mem_tls, mem_tls, mem_chl]
theorem toF (h : p ∈ full w k y c vs now tn se tse (pre ++ t :: post) hs nh rr nr o5 atv nat duv ndu ex) :
    p ∈ formZ w k y c vs now tn se tse t pre post hs nh rr nr o5 atv nat duv ndu ex := by
  rw [mem_full] at h
  show p ∈ [(k.AT, W.listOf atv.toArray nat), (k.DU, W.listOf duv.toArray ndu), (k.c3, k.o3), (k.c4, k.o4), (k.c5, o5)] ++ (tl w t [] ++ ([(k.c1, k.o1), (k.c2, k.o2), (k.SL, W.listOf (rvals k.rows).toArray k.nSL)] ++ (syl w y now tn se tse vs [] ++ formU w k c pre post hs nh rr nr ex)))
  rw [List.mem_append, List.mem_append, List.mem_append, List.mem_append, mem_formU]
  rcases h with h | ⟨t', ht, h⟩ | h | h | h | h | h
  · exact .inr (.inr (.inr (.inl h)))
  · rcases List.mem_append.mp ht with ht | ht
    · exact .inr (.inr (.inr (.inr (.inr (.inl ⟨t', ht, h⟩)))))
    · rcases List.mem_cons.mp ht with rfl | ht
      · exact .inr (.inl h)
      · exact .inr (.inr (.inr (.inr (.inr (.inr (.inl ⟨t', ht, h⟩))))))
  · exact .inr (.inr (.inr (.inr (.inr (.inr (.inr (.inl h)))))))
  · exact .inl h
  · exact .inr (.inr (.inl h))
  · exact .inr (.inr (.inr (.inr (.inl h))))
  · exact .inr (.inr (.inr (.inr (.inr (.inr (.inr (.inr h)))))))
theorem offM {d : Addr} {rest : Led} (h : ∀ a ∈ [Y, r.a, D, row, c.RR, k.c7, k.c5, k.AT, k.DU, k.c1, k.c2, k.c3, k.c4, k.SL], @Ne Nat a d) (hr : ∀ p ∈ rest, p.1 ≠ d) : ∀ p ∈ formM k c r D row Y lv rv yv rr nr o5 atv nat duv ndu rest, p.1 ≠ d := by
  have key : ∀ (l : Led) (q : Led), (∀ a ∈ l.map (·.1), @Ne Nat a d) → (∀ p ∈ q, p.1 ≠ d) → ∀ p ∈ l ++ q, p.1 ≠ d := by
    intro l q h1 h2 p hp
    rcases List.mem_append.mp hp with hp | hp
    · exact h1 _ (List.mem_map_of_mem hp)
    · exact h2 p hp
  exact key (formM k c r D row Y lv rv yv rr nr o5 atv nat duv ndu []) rest h hr
theorem offSyl {d : Addr} {rest : Led} (h : ∀ a ∈ ya y, a ≠ d) (hr : ∀ p ∈ rest, p.1 ≠ d) : ∀ p ∈ syl w y now tn se tse vs rest, p.1 ≠ d := by
  intro p hp
  rcases mem_syl.mp hp with hp | hp
  · exact h _ (syl_ya hp)
  · exact hr p hp
end
theorem freshL8 : True := by
  k_with_none
  (k_with "CJ" => (first | with_reducible assumption | with_reducible exact And.left (by first | with_reducible assumption | with_reducible exact And.right (by first | with_reducible assumption | with_reducible exact And.right (by first | with_reducible assumption | with_reducible exact And.right (by first | with_reducible assumption | with_reducible exact And.right (by first | with_reducible assumption | with_reducible exact And.right (by first | with_reducible assumption | with_reducible exact And.right (by first | with_reducible assumption | with_reducible exact And.right (by first | with_reducible assumption | with_reducible exact And.right (by first | with_reducible assumption | with_reducible exact And.right (by first | with_reducible assumption | with_reducible exact And.right (by first | with_reducible assumption | with_reducible exact And.right (by first | with_reducible assumption | with_reducible exact And.right (by first | with_reducible assumption | with_reducible exact And.right (by first | with_reducible assumption | with_reducible exact And.right (by first | with_reducible assumption | with_reducible exact And.right (by first | with_reducible assumption | with_reducible exact And.right (by first | with_reducible assumption | with_reducible exact And.right (by first | with_reducible assumption | with_reducible exact And.right (by first | with_reducible assumption | with_reducible exact And.right (by first | with_reducible assumption | with_reducible exact And.right (by first | with_reducible assumption | with_reducible exact And.right (by first | with_reducible assumption | with_reducible exact And.right (by with_reducible assumption)))))))))))))))))))))))))
  (k_with "execs cons" => (k_here; (fail_if_success (fail_if_success k_gentoks)); (with_reducible refine gen_toks ?_); intro tk))
  (k_with "execs nil" => (k_here; (fail_if_success (fail_if_success k_gentoks)); (with_reducible refine gen_toks ?_); intro tk))
  w_top off
  trivial
noncomputable def ca (c : CH) : List Addr := [c.H, c.RR, c.ch, c.cc, c.cR, c.cH]
noncomputable def la (k : LC) : List Addr := [k.c5, k.AT, k.DU, k.c1, k.c2, k.c3, k.c4, k.SL]
noncomputable def ra (k : LC) : List Addr := k.rows.map (·.a)
noncomputable def xa (ex : Led) : List Addr := ex.map (·.1)
noncomputable def Dj (a b : List Addr) : Prop := ∀ x ∈ a, ∀ y ∈ b, @Ne Nat x y
/-- all that the law has made lies apart -/
structure Far (y : SY) (tA : List Addr) (c : CH) (k : LC) (ex : Led) : Prop where
  ny : (ya y).Nodup
  nt : tA.Nodup
  nl : (la k).Nodup
  yt : Dj (ya y) tA
  yc : Dj (ya y) (ca c)
  yl : Dj (ya y) (la k)
  yr : Dj (ya y) (ra k)
  yx : Dj (ya y) (xa ex)
  tc : Dj tA (ca c)
  tl : Dj tA (la k)
  tr : Dj tA (ra k)
  tx : Dj tA (xa ex)
  cl : Dj (ca c) (la k)
  cr : Dj (ca c) (ra k)
  cx : Dj (ca c) (xa ex)
  lr : Dj (la k) (ra k)
  lx : Dj (la k) (xa ex)
theorem Far.of {y : SY} {tA : List Addr} {c : CH} {k : LC} {ex : Led} (h : (ya y ++ (tA ++ (ca c ++ (la k ++ (ra k ++ xa ex))))).Nodup) : Far y tA c k ex := by
  rw [List.nodup_append, List.nodup_append, List.nodup_append, List.nodup_append, List.nodup_append] at h
  obtain ⟨h1, ⟨h2, ⟨h3, ⟨h4, ⟨h5, h6, h56⟩, h4x⟩, h3x⟩, h2x⟩, h1x⟩ := h
  constructor
  · exact h1
  · exact h2
  · exact h4
  · exact fun a ha b hb => h1x a ha b (by simp only [List.mem_append, hb, true_or, or_true])
  · exact fun a ha b hb => h1x a ha b (by simp only [List.mem_append, hb, true_or, or_true])
  · exact fun a ha b hb => h1x a ha b (by simp only [List.mem_append, hb, true_or, or_true])
  · exact fun a ha b hb => h1x a ha b (by simp only [List.mem_append, hb, true_or, or_true])
  · exact fun a ha b hb => h1x a ha b (by simp only [List.mem_append, hb, true_or, or_true])
  · exact fun a ha b hb => h2x a ha b (by simp only [List.mem_append, hb, true_or, or_true])
  · exact fun a ha b hb => h2x a ha b (by simp only [List.mem_append, hb, true_or, or_true])
  · exact fun a ha b hb => h2x a ha b (by simp only [List.mem_append, hb, true_or, or_true])
  · exact fun a ha b hb => h2x a ha b (by simp only [List.mem_append, hb, true_or, or_true])
  · exact fun a ha b hb => h3x a ha b (by simp only [List.mem_append, hb, true_or, or_true])
  · exact fun a ha b hb => h3x a ha b (by simp only [List.mem_append, hb, true_or, or_true])
  · exact fun a ha b hb => h3x a ha b (by simp only [List.mem_append, hb, true_or, or_true])
  · exact fun a ha b hb => h4x a ha b (by simp only [List.mem_append, hb, true_or, or_true])
  · exact fun a ha b hb => h4x a ha b (by simp only [List.mem_append, hb, true_or, or_true])
theorem Far.ex {y : SY} {tA : List Addr} {c : CH} {k : LC} {ex ex' : Led} (h : Far y tA c k ex) (h1 : Dj (ya y) (xa ex')) (h2 : Dj tA (xa ex')) (h3 : Dj (ca c) (xa ex')) (h4 : Dj (la k) (xa ex')) : Far y tA c k ex' :=
  ⟨h.ny, h.nt, h.nl, h.yt, h.yc, h.yl, h.yr, h1, h.tc, h.tl, h.tr, h2, h.cl, h.cr, h3, h.lr, h4⟩
section
variable {w : World} {k : LC} {y : SY} {c : CH} {vs : List Value} {now : Int} {tn : Tok} {se : Int} {tse : Tok} {t : TR} {ts pre post : List TR} {hs : List Value} {nh : Nat} {rr : List Value} {nr : Nat} {o5 : Obj} {atv : List Value} {nat : Nat} {duv : List Value} {ndu : Nat} {ex : Led} {p : Addr × Obj}
theorem chl_ca (h : p ∈ chl c hs nh rr nr []) : p.1 ∈ ca c := (List.mem_map_of_mem (f := Prod.fst) h : p.1 ∈ List.map Prod.fst (chl c hs nh rr nr []))
theorem rls_ra {rows : List RW} {p : Addr × Obj} (h : ∃ r ∈ rows, p = (r.a, LCg.lst r.vs)) : p.1 ∈ rows.map (·.a) := by
  obtain ⟨r, hr, rfl⟩ := h; exact List.mem_map_of_mem hr
theorem mem_lawl {rest : Led} : p ∈ lawl k o5 atv nat duv ndu rest ↔ p ∈ [(k.c5, o5), (k.AT, W.listOf atv.toArray nat), (k.DU, W.listOf duv.toArray ndu), (k.c1, k.o1), (k.c2, k.o2), (k.c3, k.o3), (k.c4, k.o4), (k.SL, W.listOf (rvals k.rows).toArray k.nSL)] ∨ (∃ r ∈ k.rows, p = (r.a, LCg.lst r.vs)) ∨ p ∈ rest := (List.mem_append : p ∈ [(k.c5, o5), (k.AT, W.listOf atv.toArray nat), (k.DU, W.listOf duv.toArray ndu), (k.c1, k.o1), (k.c2, k.o2), (k.c3, k.o3), (k.c4, k.o4), (k.SL, W.listOf (rvals k.rows).toArray k.nSL)] ++ rls k.rows rest ↔ _).trans (or_congr Iff.rfl mem_rls)
theorem lawl_la (h : p ∈ [(k.c5, o5), (k.AT, W.listOf atv.toArray nat), (k.DU, W.listOf duv.toArray ndu), (k.c1, k.o1), (k.c2, k.o2), (k.c3, k.o3), (k.c4, k.o4), (k.SL, W.listOf (rvals k.rows).toArray k.nSL)]) : p.1 ∈ la k := (List.mem_map_of_mem (f := Prod.fst) h : p.1 ∈ List.map Prod.fst [(k.c5, o5), (k.AT, W.listOf atv.toArray nat), (k.DU, W.listOf duv.toArray ndu), (k.c1, k.o1), (k.c2, k.o2), (k.c3, k.o3), (k.c4, k.o4), (k.SL, W.listOf (rvals k.rows).toArray k.nSL)])
/-- where an entry of the law's ledger lies -/
theorem full_at (h : p ∈ full w k y c vs now tn se tse ts hs nh rr nr o5 atv nat duv ndu ex) : p.1 ∈ ya y ∨ p.1 ∈ tas ts ∨ p.1 ∈ ca c ∨ p.1 ∈ la k ∨ p.1 ∈ ra k ∨ p.1 ∈ xa ex := by
  rcases mem_syl.mp h with h | h
  · exact .inl (syl_ya h)
  rcases mem_tls.mp h with ⟨t, ht, h⟩ | h
  · exact .inr (.inl (List.mem_flatMap.mpr ⟨t, ht, mem_tl_ta h⟩))
  rcases mem_chl.mp h with h | h
  · exact .inr (.inr (.inl (chl_ca h)))
  rcases mem_lawl.mp h with h | h | h
  · exact .inr (.inr (.inr (.inl (lawl_la h))))
  · exact .inr (.inr (.inr (.inr (.inl (rls_ra h)))))
  · exact .inr (.inr (.inr (.inr (.inr (List.mem_map_of_mem h)))))
theorem ya_syl {a : Addr} (h : a ∈ ya y) : ∃ p ∈ syl w y now tn se tse vs [], p.1 = a := List.mem_map.mp (show a ∈ List.map Prod.fst (syl w y now tn se tse vs []) from h)
theorem ca_chl {a : Addr} (h : a ∈ ca c) : ∃ p ∈ chl c hs nh rr nr [], p.1 = a := List.mem_map.mp (show a ∈ List.map Prod.fst (chl c hs nh rr nr []) from h)
theorem la_lawl {a : Addr} (h : a ∈ la k) : ∃ p ∈ [(k.c5, o5), (k.AT, W.listOf atv.toArray nat), (k.DU, W.listOf duv.toArray ndu), (k.c1, k.o1), (k.c2, k.o2), (k.c3, k.o3), (k.c4, k.o4), (k.SL, W.listOf (rvals k.rows).toArray k.nSL)], p.1 = a := List.mem_map.mp (show a ∈ List.map Prod.fst [(k.c5, o5), (k.AT, W.listOf atv.toArray nat), (k.DU, W.listOf duv.toArray ndu), (k.c1, k.o1), (k.c2, k.o2), (k.c3, k.o3), (k.c4, k.o4), (k.SL, W.listOf (rvals k.rows).toArray k.nSL)] from h)
/-- what lies off the ledger lies off all its addresses -/
structure Fresh (y : SY) (tA : List Addr) (c : CH) (k : LC) (ex : Led) (d : Addr) : Prop where
  fy : ∀ a ∈ ya y, @Ne Nat a d
  ft : ∀ a ∈ tA, @Ne Nat a d
  fc : ∀ a ∈ ca c, @Ne Nat a d
  fl : ∀ a ∈ la k, @Ne Nat a d
  fr : ∀ a ∈ ra k, @Ne Nat a d
  fx : ∀ a ∈ xa ex, @Ne Nat a d
theorem Fresh.of {d : Addr} (h : ∀ p ∈ full w k y c vs now tn se tse ts hs nh rr nr o5 atv nat duv ndu ex, p.1 ≠ d) : Fresh y (tas ts) c k ex d := by
  constructor
  · intro a ha
    obtain ⟨p, hp, rfl⟩ := ya_syl (w := w) (now := now) (tn := tn) (se := se) (tse := tse) (vs := vs) ha
    exact h p (mem_syl.mpr (.inl hp))
  · intro a ha
    obtain ⟨p, hp, rfl⟩ := mem_tas_led w (chl c hs nh rr nr (lawl k o5 atv nat duv ndu ex)) ha
    exact h p (mem_syl.mpr (.inr hp))
  · intro a ha
    obtain ⟨p, hp, rfl⟩ := ca_chl (hs := hs) (nh := nh) (rr := rr) (nr := nr) ha
    exact h p (mem_syl.mpr (.inr (mem_tls.mpr (.inr (mem_chl.mpr (.inl hp))))))
  · intro a ha
    obtain ⟨p, hp, rfl⟩ := la_lawl (o5 := o5) (atv := atv) (nat := nat) (duv := duv) (ndu := ndu) ha
    exact h p (mem_syl.mpr (.inr (mem_tls.mpr (.inr (mem_chl.mpr (.inr (mem_lawl.mpr (.inl hp))))))))
  · intro a ha
    obtain ⟨r, hr, rfl⟩ := List.mem_map.mp ha
    exact h (r.a, LCg.lst r.vs) (mem_syl.mpr (.inr (mem_tls.mpr (.inr (mem_chl.mpr (.inr (mem_lawl.mpr (.inr (.inl ⟨r, hr, rfl⟩)))))))))
  · intro a ha
    obtain ⟨p, hp, rfl⟩ := List.mem_map.mp ha
    exact h p (mem_syl.mpr (.inr (mem_tls.mpr (.inr (mem_chl.mpr (.inr (mem_lawl.mpr (.inr (.inr hp)))))))))
theorem Far.cons {tA : List Addr} {d : Addr} {o : Obj} (h : Far y tA c k ex) (f : Fresh y tA c k ex d) : Far y tA c k ((d, o) :: ex) :=
  h.ex (fun a ha b hb => (List.mem_cons.mp hb).elim (fun e => e ▸ f.fy a ha) fun hb => h.yx a ha b hb) (fun a ha b hb => (List.mem_cons.mp hb).elim (fun e => e ▸ f.ft a ha) fun hb => h.tx a ha b hb)
    (fun a ha b hb => (List.mem_cons.mp hb).elim (fun e => e ▸ f.fc a ha) fun hb => h.cx a ha b hb) (fun a ha b hb => (List.mem_cons.mp hb).elim (fun e => e ▸ f.fl a ha) fun hb => h.lx a ha b hb)
theorem Far.good (f : Far y (tas ts) c k ex) (hv : vals ts = vs) (few : vs.length ≤ 100) : Good y vs ts (chl c hs nh rr nr (lawl k o5 atv nat duv ndu ex)) := by
  refine ⟨hv, few, ⟨f.nt, fun p hp ht => ?_⟩, fun a ha ht => f.yt a ha a ht rfl, f.ny, fun p hp hy => ?_⟩
  · rcases mem_chl.mp hp with hp | hp
    · exact f.tc _ ht _ (chl_ca hp) rfl
    rcases mem_lawl.mp hp with hp | hp | hp
    · exact f.tl _ ht _ (lawl_la hp) rfl
    · exact f.tr _ ht _ (rls_ra hp) rfl
    · exact f.tx _ ht _ (List.mem_map_of_mem hp) rfl
  · rcases mem_chl.mp hp with hp | hp
    · exact f.yc _ hy _ (chl_ca hp) rfl
    rcases mem_lawl.mp hp with hp | hp | hp
    · exact f.yl _ hy _ (lawl_la hp) rfl
    · exact f.yr _ hy _ (rls_ra hp) rfl
    · exact f.yx _ hy _ (List.mem_map_of_mem hp) rfl
theorem Far.goodC {tA : List Addr} (f : Far y tA c k ex) (hc : c.Ok) : GoodC c (lawl k o5 atv nat duv ndu ex) := by
  have key : ∀ a ∈ ca c, ∀ p ∈ lawl k o5 atv nat duv ndu ex, p.1 ≠ a := fun a ha p hp => by
    rcases mem_lawl.mp hp with hp | hp | hp
    · exact Ne.symm (f.cl _ ha _ (lawl_la hp))
    · exact Ne.symm (f.cr _ ha _ (rls_ra hp))
    · exact Ne.symm (f.cx _ ha _ (List.mem_map_of_mem hp))
  exact ⟨hc, key _ (by simp [ca]), key _ (by simp [ca])⟩
/-- the rest of the ledger, off one of its own -/
theorem offU {d : Addr} (h1 : ∀ a ∈ ra k, @Ne Nat a d) (h2 : ∀ a ∈ tas (pre ++ post), @Ne Nat a d) (h3 : ∀ a ∈ ca c, @Ne Nat a d) (h4 : ∀ a ∈ xa ex, @Ne Nat a d) : ∀ p ∈ formU w k c pre post hs nh rr nr ex, p.1 ≠ d := by
  intro p hp
  rcases mem_formU.mp hp with hp | ⟨t, ht, hp⟩ | ⟨t, ht, hp⟩ | hp | hp
  · exact h1 _ (rls_ra hp)
  · exact h2 _ (List.mem_flatMap.mpr ⟨t, List.mem_append_left _ ht, mem_tl_ta hp⟩)
  · exact h2 _ (List.mem_flatMap.mpr ⟨t, List.mem_append_right _ ht, mem_tl_ta hp⟩)
  · exact h3 _ (chl_ca hp)
  · exact h4 _ (List.mem_map_of_mem hp)
theorem tas_sub {a : Addr} (h : a ∈ tas (pre ++ post)) : a ∈ tas (pre ++ t :: post) := by
  simp only [tas, List.flatMap_append, List.flatMap_cons, List.mem_append] at h ⊢
  rcases h with h | h
  · exact .inl h
  · exact .inr (.inr h)
theorem tas_own {a : Addr} (h : a ∈ ta t) : a ∈ tas (pre ++ t :: post) := by
  simp only [tas, List.flatMap_append, List.flatMap_cons, List.mem_append]
  exact .inr (.inl h)
/-- one of the law's own lists, off all else -/
theorem Far.offL {D row : Addr} {r : RW} {as : List Addr} {d : Addr} (f : Far y (tas (pre ++ t :: post)) c k ex) (fD : Fresh y (tas (pre ++ t :: post)) c k ex D) (fR : Fresh y (tas (pre ++ t :: post)) c k ex row) (hd : d ∈ la k) (h7 : c.cR = k.c7) (hr : r ∈ k.rows)
    (has : ∀ a ∈ as, @Ne Nat a d) (x : Addr) (hx : x = D ∨ x = row ∨ x = c.RR ∨ x = k.c7 ∨ x ∈ as ∨ x = r.a ∨ x ∈ ta t ∨ x ∈ ya y) : @Ne Nat x d := by
  rcases hx with rfl | rfl | rfl | rfl | h | rfl | h | h
  · exact Ne.symm (fD.fl _ hd)
  · exact Ne.symm (fR.fl _ hd)
  · exact f.cl _ (by simp [ca]) _ hd
  · exact h7 ▸ f.cl c.cR (by simp [ca]) _ hd
  · exact has _ h
  · exact Ne.symm (f.lr _ hd _ (List.mem_map_of_mem hr))
  · exact f.tl _ (tas_own h) _ hd
  · exact f.yl _ h _ hd
theorem la_ne {k : LC} (h : (la k).Nodup) : (∀ a ∈ [k.c5, k.DU, k.c1, k.c2, k.c3, k.c4, k.SL], @Ne Nat a k.AT) ∧ (∀ a ∈ [k.c5, k.AT, k.c1, k.c2, k.c3, k.c4, k.SL], @Ne Nat a k.DU) ∧ (∀ a ∈ [k.AT, k.DU, k.c1, k.c2, k.c3, k.c4, k.SL], @Ne Nat a k.c5) := by
  unfold la at h
  rw [List.nodup_cons, List.nodup_cons, List.nodup_cons] at h
  obtain ⟨h1, h2, h3, h4⟩ := h
  simp only [List.mem_cons, List.not_mem_nil, or_false, not_or] at h1 h2 h3
  obtain ⟨a1, a2, a3, a4, a5, a6, a7⟩ := h1
  obtain ⟨b1, b2, b3, b4, b5, b6⟩ := h2
  obtain ⟨e1, e2, e3, e4, e5⟩ := h3
  refine ⟨fun a ha => ?_, fun a ha => ?_, fun a ha => ?_⟩ <;> simp only [List.mem_cons, List.not_mem_nil, or_false] at ha
  · rcases ha with rfl | rfl | rfl | rfl | rfl | rfl | rfl
    · exact a1
    · exact Ne.symm b1
    · exact Ne.symm b2
    · exact Ne.symm b3
    · exact Ne.symm b4
    · exact Ne.symm b5
    · exact Ne.symm b6
  · rcases ha with rfl | rfl | rfl | rfl | rfl | rfl | rfl
    · exact a2
    · exact b1
    · exact Ne.symm e1
    · exact Ne.symm e2
    · exact Ne.symm e3
    · exact Ne.symm e4
    · exact Ne.symm e5
  · rcases ha with rfl | rfl | rfl | rfl | rfl | rfl | rfl
    · exact Ne.symm a1
    · exact Ne.symm a2
    · exact Ne.symm a3
    · exact Ne.symm a4
    · exact Ne.symm a5
    · exact Ne.symm a6
    · exact Ne.symm a7
theorem Far.oA {D row : Addr} {r : RW} (f : Far y (tas (pre ++ t :: post)) c k ex) (fD : Fresh y (tas (pre ++ t :: post)) c k ex D) (fR : Fresh y (tas (pre ++ t :: post)) c k ex row) (h7 : c.cR = k.c7) (hr : r ∈ k.rows) :
    OffAll k.AT (D :: row :: c.RR :: k.c7 :: k.c5 :: k.DU :: k.c1 :: k.c2 :: k.c3 :: k.c4 :: k.SL :: r.a :: (ta t ++ ya y)) (rls k.rows (tls w pre (tls w post (chl c hs nh rr nr ex)))) := by
  have hd : k.AT ∈ la k := by simp [la]
  refine ⟨fun x hx => f.offL fD fR hd h7 hr (as := [k.c5, k.DU, k.c1, k.c2, k.c3, k.c4, k.SL]) (la_ne f.nl).1 x ?_, offU (fun a ha => Ne.symm (f.lr _ hd _ ha)) (fun a ha => f.tl _ (tas_sub ha) _ hd) (fun a ha => f.cl _ ha _ hd) fun a ha => Ne.symm (f.lx _ hd _ ha)⟩
  rcases List.mem_cons.mp hx with h | hx
  · exact .inl h
  rcases List.mem_cons.mp hx with h | hx
  · exact .inr (.inl h)
  rcases List.mem_cons.mp hx with h | hx
  · exact .inr (.inr (.inl h))
  rcases List.mem_cons.mp hx with h | hx
  · exact .inr (.inr (.inr (.inl h)))
  rcases List.mem_append.mp (show x ∈ [k.c5, k.DU, k.c1, k.c2, k.c3, k.c4, k.SL] ++ (r.a :: (ta t ++ ya y)) from hx) with h | hx
  · exact .inr (.inr (.inr (.inr (.inl h))))
  rcases List.mem_cons.mp hx with h | hx
  · exact .inr (.inr (.inr (.inr (.inr (.inl h)))))
  exact .inr (.inr (.inr (.inr (.inr (.inr (List.mem_append.mp hx))))))
theorem Far.oD {D row : Addr} {r : RW} (f : Far y (tas (pre ++ t :: post)) c k ex) (fD : Fresh y (tas (pre ++ t :: post)) c k ex D) (fR : Fresh y (tas (pre ++ t :: post)) c k ex row) (h7 : c.cR = k.c7) (hr : r ∈ k.rows) :
    OffAll k.DU (D :: row :: c.RR :: k.c7 :: k.c5 :: k.AT :: k.c1 :: k.c2 :: k.c3 :: k.c4 :: k.SL :: r.a :: (ta t ++ ya y)) (rls k.rows (tls w pre (tls w post (chl c hs nh rr nr ex)))) := by
  have hd : k.DU ∈ la k := by simp [la]
  refine ⟨fun x hx => f.offL fD fR hd h7 hr (as := [k.c5, k.AT, k.c1, k.c2, k.c3, k.c4, k.SL]) (la_ne f.nl).2.1 x ?_, offU (fun a ha => Ne.symm (f.lr _ hd _ ha)) (fun a ha => f.tl _ (tas_sub ha) _ hd) (fun a ha => f.cl _ ha _ hd) fun a ha => Ne.symm (f.lx _ hd _ ha)⟩
  rcases List.mem_cons.mp hx with h | hx
  · exact .inl h
  rcases List.mem_cons.mp hx with h | hx
  · exact .inr (.inl h)
  rcases List.mem_cons.mp hx with h | hx
  · exact .inr (.inr (.inl h))
  rcases List.mem_cons.mp hx with h | hx
  · exact .inr (.inr (.inr (.inl h)))
  rcases List.mem_append.mp (show x ∈ [k.c5, k.AT, k.c1, k.c2, k.c3, k.c4, k.SL] ++ (r.a :: (ta t ++ ya y)) from hx) with h | hx
  · exact .inr (.inr (.inr (.inr (.inl h))))
  rcases List.mem_cons.mp hx with h | hx
  · exact .inr (.inr (.inr (.inr (.inr (.inl h)))))
  exact .inr (.inr (.inr (.inr (.inr (.inr (List.mem_append.mp hx))))))
theorem tas_apart (h : (tas (pre ++ t :: post)).Nodup) : t.Ok ∧ ∀ a ∈ tas (pre ++ post), @Ne Nat a t.d := by
  simp only [tas, List.flatMap_append, List.flatMap_cons] at h
  rw [List.nodup_append] at h
  obtain ⟨n1, n2, n3⟩ := h
  rw [List.nodup_append] at n2
  obtain ⟨n4, n5, n6⟩ := n2
  have hd : t.d ∈ ta t := by simp [ta]
  refine ⟨ok_of_nodup n4, fun a ha => ?_⟩
  simp only [tas, List.flatMap_append, List.mem_append] at ha
  rcases ha with ha | ha
  · exact n3 a ha t.d (List.mem_append_left _ hd)
  · exact Ne.symm (n6 t.d hd a ha)
theorem Far.ot {D row : Addr} {r : RW} (f : Far y (tas (pre ++ t :: post)) c k ex) (fD : Fresh y (tas (pre ++ t :: post)) c k ex D) (fR : Fresh y (tas (pre ++ t :: post)) c k ex row) (h7 : c.cR = k.c7) (hr : r ∈ k.rows) :
    OffAll t.d (D :: row :: c.RR :: k.c7 :: k.c5 :: k.AT :: k.DU :: k.c1 :: k.c2 :: k.c3 :: k.c4 :: k.SL :: r.a :: ya y) (rls k.rows (tls w pre (tls w post (chl c hs nh rr nr ex)))) := by
  have hd : t.d ∈ tas (pre ++ t :: post) := tas_own (by simp [ta])
  refine ⟨fun x hx => ?_, offU (fun a ha => Ne.symm (f.tr _ hd _ ha)) (tas_apart f.nt).2 (fun a ha => Ne.symm (f.tc _ hd _ ha)) fun a ha => Ne.symm (f.tx _ hd _ ha)⟩
  have hl : ∀ a ∈ la k, @Ne Nat a t.d := fun a ha => Ne.symm (f.tl _ hd _ ha)
  simp only [List.mem_cons] at hx
  rcases hx with rfl | rfl | rfl | rfl | rfl | rfl | rfl | rfl | rfl | rfl | rfl | rfl | rfl | h
  · exact Ne.symm (fD.ft _ hd)
  · exact Ne.symm (fR.ft _ hd)
  · exact Ne.symm (f.tc _ hd _ (by simp [ca]))
  · exact h7 ▸ Ne.symm (f.tc _ hd c.cR (by simp [ca]))
  · exact hl _ (by simp [la])
  · exact hl _ (by simp [la])
  · exact hl _ (by simp [la])
  · exact hl _ (by simp [la])
  · exact hl _ (by simp [la])
  · exact hl _ (by simp [la])
  · exact hl _ (by simp [la])
  · exact hl _ (by simp [la])
  · exact Ne.symm (f.tr _ hd _ (List.mem_map_of_mem hr))
  · exact f.yt _ h _ hd
end
/-- a sum with one place raised by one -/
theorem sum_set : ∀ (l : List Int) (i : Nat), i < l.length → (l.set i (l.getD i 0 + 1)).sum = l.sum + 1
  | [], _, h => absurd h (Nat.not_lt_zero _)
  | a :: l, 0, _ => by simp only [List.set_cons_zero, List.getD_cons_zero, List.sum_cons]; omega
  | a :: l, i + 1, h => by
    have ih := sum_set l i (by simpa using h)
    simp only [List.set_cons_succ, List.getD_cons_succ, List.sum_cons, ih]; omega
theorem sum_le : ∀ (l : List Int) (b : Int), (∀ x ∈ l, x ≤ b) → l.sum ≤ b * l.length
  | [], b, _ => by simp
  | a :: l, b, h => by
    have ih := sum_le l b fun x hx => h x (.tail _ hx)
    have h1 := h a (.head _)
    simp only [List.sum_cons, List.length_cons]
    have : b * ((l.length + 1 : Nat) : Int) = b * (l.length : Int) + b := by rw [Int.natCast_add, Int.mul_add]; simp
    rw [this]; omega
theorem getD_set {l : List Int} {i j : Nat} {x : Int} (hi : i < l.length) : (l.set i x).getD j 0 = if j = i then x else l.getD j 0 := by
  rw [List.getD_eq_getElem?_getD, List.getD_eq_getElem?_getD, List.getElem?_set]
  by_cases h : i = j
  · subst h; simp [hi]
  · rw [if_neg h, if_neg (fun e => h e.symm)]
theorem All2.set {α β : Type} {R : α → β → Prop} {as : List α} {bs : List β} (h : All2 R as bs) : ∀ {i : Nat} {a : α} {b : β}, R a b → All2 R (as.set i a) (bs.set i b) := by
  induction h with
  | nil => exact fun _ => .nil
  | cons x h ih =>
    intro i a b r
    cases i with
    | zero => exact .cons r h
    | succ i => exact .cons x (ih r)
theorem set_mid {α : Type} {pre post : List α} {t t' : α} : pre ++ t' :: post = (pre ++ t :: post).set pre.length t' := by
  rw [List.set_append_right _ _ (Nat.le_refl _), Nat.sub_self, List.set_cons_zero]
theorem map_set_nats {n : Nat} {σ : Int → AS} {i : Nat} {a : AS} (hi : i < n) : (nats n).map (fun j => if j = (i : Int) then a else σ j) = ((nats n).map σ).set i a := by
  refine List.ext_getElem? fun j => ?_
  rw [List.getElem?_set, List.length_map, nats_len, List.getElem?_map, List.getElem?_map]
  by_cases hj : j < n
  · rw [nats_get hj]
    by_cases e : i = j
    · subst e; simp [hi]
    · rw [if_neg e]
      have : ¬ ((j : Int) = (i : Int)) := fun h => e (by omega)
      simp [this]
  · have hl : (nats n)[j]? = none := List.getElem?_eq_none (by rw [nats_len]; omega)
    rw [hl]
    have : i ≠ j := by omega
    simp [this]
theorem freshT3 : True := by
  k_with_none
  (k_with "CJ" => (first | with_reducible assumption | with_reducible exact And.left (by first | with_reducible assumption | with_reducible exact And.right (by first | with_reducible assumption | with_reducible exact And.right (by first | with_reducible assumption | with_reducible exact And.right (by first | with_reducible assumption | with_reducible exact And.right (by first | with_reducible assumption | with_reducible exact And.right (by first | with_reducible assumption | with_reducible exact And.right (by first | with_reducible assumption | with_reducible exact And.right (by first | with_reducible assumption | with_reducible exact And.right (by first | with_reducible assumption | with_reducible exact And.right (by first | with_reducible assumption | with_reducible exact And.right (by first | with_reducible assumption | with_reducible exact And.right (by first | with_reducible assumption | with_reducible exact And.right (by first | with_reducible assumption | with_reducible exact And.right (by first | with_reducible assumption | with_reducible exact And.right (by first | with_reducible assumption | with_reducible exact And.right (by first | with_reducible assumption | with_reducible exact And.right (by first | with_reducible assumption | with_reducible exact And.right (by first | with_reducible assumption | with_reducible exact And.right (by first | with_reducible assumption | with_reducible exact And.right (by first | with_reducible assumption | with_reducible exact And.right (by first | with_reducible assumption | with_reducible exact And.right (by first | with_reducible assumption | with_reducible exact And.right (by with_reducible assumption)))))))))))))))))))))))))
  (k_with "execs cons" => (k_here; (fail_if_success (fail_if_success k_gentoks)); (with_reducible refine gen_toks ?_); intro tk))
  (k_with "execs nil" => (k_here; (fail_if_success (fail_if_success k_gentoks)); (with_reducible refine gen_toks ?_); intro tk))
  w_top off
  trivial
theorem rulesT3x1 : True := by
  (k_with "compareOp Eq str str" => (first | refine eqs_ff (by first | decide | (dsimp only; decide)) ?_ | refine eqs_tt (by first | decide | (dsimp only; decide)) ?_))
  (k_with "compareOp NotEq str str" => (first | refine nes_ff (by first | decide | (dsimp only; decide)) ?_ | refine nes_tt (by first | decide | (dsimp only; decide)) ?_))
  (k_with "exec" => ((k_here; (with_reducible show wpAny _ _ (exec (Stmt.While _ _ _ _) _) _ _ _); k_dflt (refine whl_startW ?_))))
  (k_with "WhlW" => ((dsimp only [WhlW])))
  (k_with "exec For Name Name cons nil" => (walk_at "WHOLE1"))
  (k_with "pyIter ref" => ((refine Wrap.out ?_)))
  (k_with "call ref" => ((k_here; (with_reducible show wpAny _ _ (call (Value.ref 410) _) _ _ _); k_dflt (refine' Spec.use (figure_spec ?u1 ?g1 ?g2) ?k1 ?k2 ?k3 ?k4 ?k5 ?k6 ?k7 ?k8 ?k9 ?_; (case k4 => k_asm); (case k1 => k_asm); (case k2 => k_asm); (case k3 => k_asm); (case k5 => k_asm); (case k8 => exact rfl); (case k6 => exact rfl); (case k7 => exact Nat.le_of_ble_eq_true rfl); (case k9 => exact Nat.le_of_ble_eq_true rfl); (case u1 => k_updF); (case g1 => assumption); (case g2 => omega)); refine cpsF ?_; walk_at "TAIL6")))
  (k_with "call ref" => ((k_here; (with_reducible show wpAny _ _ (call (Value.ref 49) _) _ _ _); k_dflt (refine' Spec.use (next_nil _ _ _ ?g1) ?k1 ?k2 ?k3 ?k4 ?k5 ?k6 ?k7 ?k8 ?k9 ?_; (case k4 => k_asm); (case k1 => k_asm); (case k2 => k_asm); (case k3 => k_asm); (case k5 => k_asm); (case k8 => exact rfl); (case k6 => exact rfl); (case k7 => exact Nat.le_of_ble_eq_true rfl); (case k9 => exact Nat.le_of_ble_eq_true rfl); (case g1 => k_mem); skip); refine cps2 ?_; walk_at "TAIL3")))
  (k_with "call ref" => ((k_here; (with_reducible show wpAny _ _ (call (Value.ref 49) _) _ _ _); k_dflt (refine' Spec.use (next_404 _ _ _ _ _ ?g1) ?k1 ?k2 ?k3 ?k4 ?k5 ?k6 ?k7 ?k8 ?k9 ?_; (case k4 => k_asm); (case k1 => k_asm); (case k2 => k_asm); (case k3 => k_asm); (case k5 => k_asm); (case k8 => exact rfl); (case k6 => exact rfl); (case k7 => exact Nat.le_of_ble_eq_true rfl); (case k9 => exact Nat.le_of_ble_eq_true rfl); (case g1 => k_mem); skip); refine cps2 ?_; walk_at "TAIL3")))
  (k_with "call type:range" => (walk_at "WHOLE3"))
  (k_with "CompSrc" => (walk_at "WHOLE4"))
  (k_with "CompSrcT" => (walk_at "WHOLE5"))
  (k_with "call builtin:len" => ((k_here; k_dflt (refine' lenS ?N ?m ?z ?_; (case N => k_asm); (case m => k_mem); (case z => assumption)))))
  (k_with "truthy ref" => ((k_here; k_dflt (refine' truthS ?N ?m ?z ?_; (case N => k_asm); (case m => k_mem); (case z => assumption)))))
  (k_with "subscriptTail" => ((k_here; (with_reducible show wpAny _ _ (subscriptTail _ _ (Value.ref (LC.SL _)) _) _ _ _); k_dflt (refine' item_spec ?k1 ?k2 ?k3 ?k4 ?k5 ?k6 ?_; (case k6 => assumption); (case k1 => k_asm); (case k2 => k_asm); (case k3 => k_mem); (case k4 => first | assumption | omega); (case k5 => omega)))))
  (k_with "call ref" => ((k_here; (with_reducible show wpAny _ _ (call (Value.ref 403) _) _ _ _); refine Wrap.out ?_)))
  (k_with "call ref" => ((k_here; (with_reducible show wpAny _ _ (call (Value.ref 284) _) _ _ _); refine Wrap.out ?_)))
  (k_with "call ref" => ((k_here; (with_reducible show wpAny _ _ (call (Value.ref 209) _) _ _ _); refine Wrap.out ?_)))
  (k_with "subscriptTail" => ((k_here; (with_reducible show wpAny _ _ (subscriptTail _ _ (Value.ref (CH.RR _)) _) _ _ _); k_dflt (refine' item_last ?k2 ?k3 ?k4 ?_; (case k2 => k_asm); (case k3 => k_mem); (case k4 => assumption)))))
  (k_with "subscriptTail" => ((k_here; (with_reducible show wpAny _ _ (subscriptTail _ _ (Value.ref (LC.AT _)) (Value.int _ _)) _ _ _); k_dflt (refine' PySem.W.ksa_sub ?k1 ?k2 ?k3 ?k4 ?k5 ?k6 ?_ ?k7; (case k1 => k_asm); (case k2 => k_mem); (case k3 => with_reducible assumption); (case k4 => first | assumption | omega); (case k5 => omega); (case k6 => omega); (case k7 => with_unfolding_all rfl); k_whole); walk_at "TAIL12")))
  (k_with "subscriptTail" => ((k_here; (with_reducible show wpAny _ _ (subscriptTail _ _ (Value.ref (LC.DU _)) (Value.int _ _)) _ _ _); k_dflt (refine' PySem.W.ksa_sub ?k1 ?k2 ?k3 ?k4 ?k5 ?k6 ?_ ?k7; (case k1 => k_asm); (case k2 => k_mem); (case k3 => with_reducible assumption); (case k4 => first | assumption | omega); (case k5 => omega); (case k6 => omega); (case k7 => with_unfolding_all rfl); k_whole); walk_at "TAIL12")))
  (k_with "subscriptTail" => ((k_here; (with_reducible show wpAny _ _ (subscriptTail _ _ (Value.ref (RW.a _)) (Value.int _ _)) _ _ _); k_dflt (refine' PySem.W.ksa_sub ?k1 ?k2 ?k3 ?k4 ?k5 ?k6 ?_ ?k7; (case k1 => k_asm); (case k2 => k_mem); (case k3 => with_reducible assumption); (case k4 => first | assumption | omega); (case k5 => omega); (case k6 => omega); (case k7 => with_unfolding_all rfl); k_whole); walk_at "TAIL12")))
  (k_with "setItem ref int" => ((k_here; (with_reducible show wpAny _ _ (setItem (Value.ref _) (Value.int _ _) (Value.int _ _)) _ _ _); k_dflt (refine' PySem.W.ksa_set ?k1 ?k2 ?k3 ?k4 ?k5 ?k6 ?k7 ?_; (case k1 => k_asm); (case k2 => k_asm); (case k3 => k_upd); (case k4 => with_reducible assumption); (case k5 => first | assumption | omega); (case k6 => omega); (case k7 => omega); k_whole); walk_at "TAIL13")))
  (k_with "compareOp NotEq ref ref" => ((k_here; k_dflt (refine' neL_same ?k1 ?k2 ?k3 ?k4 ?k5 ?k6 ?_; (case k1 => k_asm); (case k2 => k_mem); (case k3 => k_mem); (case k4 => with_reducible assumption); (case k5 => with_reducible assumption); (case k6 => exact Nat.le_of_ble_eq_true rfl)))))
  (k_with "compareOp Eq ref ref" => ((k_here; k_dflt (first | (refine' eqL_nil ?k1 ?k2 ?k3 ?k4 ?k5 ?k6 ?_; (case k1 => k_asm); (case k2 => k_mem); (case k3 => k_mem); (case k4 => with_reducible assumption); (case k5 => with_reducible assumption); (case k6 => exact Nat.le_of_ble_eq_true rfl)) | (refine' eqL_cons ?k1 ?k2 ?k3 ?k4 ?k5 ?k6 ?_; (case k1 => k_asm); (case k2 => k_mem); (case k3 => k_mem); (case k4 => with_reducible assumption); (case k5 => with_reducible assumption); (case k6 => exact Nat.le_of_ble_eq_true rfl))))))
  trivial
theorem turn3 {w : World} {pr : Program} {loose : List Str} {mean : ExcName → Option Value} {mg mb : Str → Option Value} {base h₀ : Heap} {m : Str → Option Value} {s : Shared} {Q : Flow → Shared → Prop} {E : Value → Shared → Prop}
    (k : LC) (D : Addr) (lv : List Value) (o5 : Obj) (duv : List Value) (ndu : Nat) (dus left : List Int) (tnw : Tok) (now now1 : Int) (Z : Led)
    (B : Below callerA base [] h₀) (X : (Mine.hd.heap_39 w.params).In h₀) (T : Top pr loose mean mg mb h₀)
    (d4 : k.o4.data = .cell (some (.ref k.DU))) (d5 : o5.data = .cell (some (.int now tnw))) (hdu : IntsAre duv dus) (ldu : dus.length = k.rows.length) (hrows : k.rows.length ≤ 4)
    (hlv : IntsAre lv left) (hleft : ∀ i ∈ left, 0 ≤ i ∧ i < k.rows.length) (hleft2 : left.length ≤ 100)
    (off5 : ∀ p ∈ ((D, LCg.lst lv) :: (k.DU, W.listOf duv.toArray ndu) :: (k.c4, k.o4) :: Z), p.1 ≠ k.c5)
    (hnow : (now1 = now ∧ (left.filter fun i => decide (dus.getD i.toNat 0 ≤ now)) ≠ []) ∨ ((left.filter fun i => decide (dus.getD i.toNat 0 ≤ now)) = [] ∧ now1 ∈ left.map (fun i => dus.getD i.toNat 0) ∧ ∀ d ∈ left.map (fun i => dus.getD i.toNat 0), now1 ≤ d))
    (F : Fr h₀ k.L s.heap (fun z => if z = "left" then some (.ref D) else m z)) (N : News h₀ k.L s.heap ((k.c5, o5) :: (D, LCg.lst lv) :: (k.DU, W.listOf duv.toArray ndu) :: (k.c4, k.o4) :: Z))
    (hnext : ∀ o5' tnw' h' tk', o5'.data = .cell (some (.int now1 tnw')) → Fr h₀ k.L h' (fun z => if z = "left" then some (.ref D) else m z) → News h₀ k.L h' ((k.c5, o5') :: (D, LCg.lst lv) :: (k.DU, W.listOf duv.toArray ndu) :: (k.c4, k.o4) :: Z) →
      wpAny (model PySem.Challenge.pw_pb0024_01 w) (callerA.deeper (lawEnv k.L k.fa (.ref 419))) (execs (turnBody.drop 4) (lawEnv k.L k.fa (.ref 419))) Q E { s with heap := h', toks := tk' }) :
    wpAny (model PySem.Challenge.pw_pb0024_01 w) (callerA.deeper (lawEnv k.L k.fa (.ref 419))) (execs (turnBody.drop 3) (lawEnv k.L k.fa (.ref 419))) Q E s := by
  have hMk : MarkW := trivial
  generalize hR : turnBody.drop 4 = rest4 at hnext
  have e : turnBody.drop 3 = (turnBody.drop 3).headD (.Pass ⟨0,0,0,0⟩) :: turnBody.drop 4 := by rfl
  rw [e, hR]
  clear e hR
  have e : (turnBody.drop 3).headD (.Pass ⟨0,0,0,0⟩) = (turnBody.drop 3).headD (.Pass ⟨0,0,0,0⟩) := rfl
  conv at e => rhs; whnf
  rw [e]
  clear e
  have e : lawScope = lawScope := rfl
  conv at e => rhs; whnf
  unfold lawEnv at hnext ⊢
  rw [e] at hnext ⊢
  clear e
  have hcd := codeHd_of_K (c := 419) (P := 417) X (by kernel_rfl)
  have hlvz : lv.length ≤ 100 := by rw [hlv.length]; exact hleft2
  have hlsz : lv.toArray.size = left.length := by rw [List.size_toArray, hlv.length]
  replace hnext : Wrap (∀ o5' tnw' h' tk', o5'.data = .cell (some (.int now1 tnw')) → Fr h₀ k.L h' (fun z => if z = "left" then some (.ref D) else m z) → News h₀ k.L h' ((k.c5, o5') :: (D, LCg.lst lv) :: (k.DU, W.listOf duv.toArray ndu) :: (k.c4, k.o4) :: Z) → _) := hnext
  have hDU5 : @Ne Nat k.DU k.c5 := off5 (k.DU, W.listOf duv.toArray ndu) (by first | k_mem | simp)
  have hD5 : @Ne Nat D k.c5 := off5 (D, LCg.lst lv) (by first | k_mem | simp)
  have h45 : @Ne Nat k.c4 k.c5 := off5 (k.c4, k.o4) (by first | k_mem | simp)
  replace off5 : ∀ p ∈ Z, p.1 ≠ k.c5 := fun p hp => off5 p (by simp [hp])
  k_steps
  refine wrap_in (LCt.CompSrcT.ledger (its := lv.toArray) (by rfl) (by assumption) (by assumption) (by k_mem) (size_of hlvz) fun g' => ?_)
  rw [hlsz]
  refine int_compT left (fun i => decide (dus.getD i.toNat 0 ≤ now)) id _ (.inr ⟨_, by k_mem, rfl, _, rfl⟩) (fun i v hv _ => ints_getv hlv (by simpa using hv)) ?_ ?_ ?_
  · intro i ti hi C oC m₂ h tk E' I oI Dn oD hC hx F' N'
    obtain ⟨hi0, hi1⟩ := hleft i hi
    k_steps
    exact ⟨rfl, Ends.intro (by assumption) (by assumption)⟩
  · intro i ti hi hp C oC m₂ h tk E' I oI Dn oD hC hx F' N'
    k_steps
    exact ⟨⟨_, rfl⟩, Ends.intro (by assumption) (by assumption)⟩
  · intro yv hyv Y h tk F' N' o1
    rw [List.map_id] at hyv
    have hY5 : @Ne Nat Y k.c5 := fun e => off1_mem o1 (k.c5, o5) (by k_mem) e.symm
    clear o1 N F
    rcases hnow with ⟨rfl, hne⟩ | ⟨hne, hmem, hle⟩
    · k_steps
      rename News _ _ _ _ => N3
      exact hnext o5 tnw _ _ d5 (by assumption) (News.tl (News.tl N3))
    · k_steps
      refine wrap_in (LCg.CompSrc.ledger (its := lv.toArray) (by rfl) (by assumption) (by assumption) (by k_mem) (size_of hlvz) fun g' => ?_)
      rw [hlsz]
      refine int_comp left (fun i => dus.getD i.toNat 0) _ (.inr ⟨_, by k_mem, rfl, _, rfl⟩) (fun i v hv _ => ints_getv hlv (by simpa using hv)) ?_ ?_
      · intro i ti hi C oC m₂ h tk E' I oI Dn oD hC hx F' N'
        obtain ⟨hi0, hi1⟩ := hleft i hi
        k_steps
        exact ⟨⟨_, rfl⟩, Ends.intro (by assumption) (by assumption)⟩
      · intro zv hzv W' h tk F' N' o1
        have hW5 : @Ne Nat W' k.c5 := fun e => off1_mem o1 (k.c5, o5) (by k_mem) e.symm
        clear o1
        have hpos : 0 < (left.map fun i => dus.getD i.toNat 0).length := List.length_pos_of_mem hmem
        k_steps
        rename News _ _ _ _ => N3
        replace N3 := News.tl (News.tl (News.tl N3))
        rename _ ∈ List.map _ _ => hM1
        rename ∀ (a : Int), a ∈ List.map _ _ → _ ≤ a => hM2
        k_steps
        rename News _ _ _ _ => N4
        rename _ = Data.cell _ => hd4
        have eM := Int.le_antisymm (hle _ hM1) (hM2 _ hmem)
        rw [← eM] at hd4
        exact hnext _ _ _ _ hd4 (by assumption) N4
theorem freshT4 : True := by
  k_with_none
  (k_with "CJ" => (first | with_reducible assumption | with_reducible exact And.left (by first | with_reducible assumption | with_reducible exact And.right (by first | with_reducible assumption | with_reducible exact And.right (by first | with_reducible assumption | with_reducible exact And.right (by first | with_reducible assumption | with_reducible exact And.right (by first | with_reducible assumption | with_reducible exact And.right (by first | with_reducible assumption | with_reducible exact And.right (by first | with_reducible assumption | with_reducible exact And.right (by first | with_reducible assumption | with_reducible exact And.right (by first | with_reducible assumption | with_reducible exact And.right (by first | with_reducible assumption | with_reducible exact And.right (by first | with_reducible assumption | with_reducible exact And.right (by first | with_reducible assumption | with_reducible exact And.right (by first | with_reducible assumption | with_reducible exact And.right (by first | with_reducible assumption | with_reducible exact And.right (by first | with_reducible assumption | with_reducible exact And.right (by first | with_reducible assumption | with_reducible exact And.right (by first | with_reducible assumption | with_reducible exact And.right (by first | with_reducible assumption | with_reducible exact And.right (by first | with_reducible assumption | with_reducible exact And.right (by first | with_reducible assumption | with_reducible exact And.right (by first | with_reducible assumption | with_reducible exact And.right (by first | with_reducible assumption | with_reducible exact And.right (by with_reducible assumption)))))))))))))))))))))))))
  (k_with "execs cons" => (k_here; (fail_if_success (fail_if_success k_gentoks)); (with_reducible refine gen_toks ?_); intro tk))
  (k_with "execs nil" => (k_here; (fail_if_success (fail_if_success k_gentoks)); (with_reducible refine gen_toks ?_); intro tk))
  w_top off
  trivial
theorem rulesT4x1 : True := by
  (k_with "compareOp Eq str str" => (first | refine eqs_ff (by first | decide | (dsimp only; decide)) ?_ | refine eqs_tt (by first | decide | (dsimp only; decide)) ?_))
  (k_with "compareOp NotEq str str" => (first | refine nes_ff (by first | decide | (dsimp only; decide)) ?_ | refine nes_tt (by first | decide | (dsimp only; decide)) ?_))
  (k_with "exec" => ((k_here; (with_reducible show wpAny _ _ (exec (Stmt.While _ _ _ _) _) _ _ _); k_dflt (refine whl_startW ?_))))
  (k_with "WhlW" => ((dsimp only [WhlW])))
  (k_with "exec For Name Name cons nil" => (walk_at "WHOLE1"))
  (k_with "pyIter ref" => ((refine Wrap.out ?_)))
  (k_with "call ref" => ((k_here; (with_reducible show wpAny _ _ (call (Value.ref 410) _) _ _ _); k_dflt (refine' Spec.use (figure_spec ?u1 ?g1 ?g2) ?k1 ?k2 ?k3 ?k4 ?k5 ?k6 ?k7 ?k8 ?k9 ?_; (case k4 => k_asm); (case k1 => k_asm); (case k2 => k_asm); (case k3 => k_asm); (case k5 => k_asm); (case k8 => exact rfl); (case k6 => exact rfl); (case k7 => exact Nat.le_of_ble_eq_true rfl); (case k9 => exact Nat.le_of_ble_eq_true rfl); (case u1 => k_updF); (case g1 => assumption); (case g2 => omega)); refine cpsF ?_; walk_at "TAIL6")))
  (k_with "call ref" => ((k_here; (with_reducible show wpAny _ _ (call (Value.ref 49) _) _ _ _); k_dflt (refine' Spec.use (next_nil _ _ _ ?g1) ?k1 ?k2 ?k3 ?k4 ?k5 ?k6 ?k7 ?k8 ?k9 ?_; (case k4 => k_asm); (case k1 => k_asm); (case k2 => k_asm); (case k3 => k_asm); (case k5 => k_asm); (case k8 => exact rfl); (case k6 => exact rfl); (case k7 => exact Nat.le_of_ble_eq_true rfl); (case k9 => exact Nat.le_of_ble_eq_true rfl); (case g1 => k_mem); skip); refine cps2 ?_; walk_at "TAIL3")))
  (k_with "call ref" => ((k_here; (with_reducible show wpAny _ _ (call (Value.ref 49) _) _ _ _); k_dflt (refine' Spec.use (next_404 _ _ _ _ _ ?g1) ?k1 ?k2 ?k3 ?k4 ?k5 ?k6 ?k7 ?k8 ?k9 ?_; (case k4 => k_asm); (case k1 => k_asm); (case k2 => k_asm); (case k3 => k_asm); (case k5 => k_asm); (case k8 => exact rfl); (case k6 => exact rfl); (case k7 => exact Nat.le_of_ble_eq_true rfl); (case k9 => exact Nat.le_of_ble_eq_true rfl); (case g1 => k_mem); skip); refine cps2 ?_; walk_at "TAIL3")))
  (k_with "call type:range" => (walk_at "WHOLE3"))
  (k_with "CompSrc" => (walk_at "WHOLE4"))
  (k_with "CompSrcT" => (walk_at "WHOLE5"))
  (k_with "call builtin:len" => ((k_here; k_dflt (refine' lenS ?N ?m ?z ?_; (case N => k_asm); (case m => k_mem); (case z => assumption)))))
  (k_with "truthy ref" => ((k_here; k_dflt (refine' truthS ?N ?m ?z ?_; (case N => k_asm); (case m => k_mem); (case z => assumption)))))
  (k_with "subscriptTail" => ((k_here; (with_reducible show wpAny _ _ (subscriptTail _ _ (Value.ref (LC.SL _)) _) _ _ _); k_dflt (refine' item_spec ?k1 ?k2 ?k3 ?k4 ?k5 ?k6 ?_; (case k6 => assumption); (case k1 => k_asm); (case k2 => k_asm); (case k3 => k_mem); (case k4 => first | assumption | omega); (case k5 => omega)))))
  (k_with "call ref" => ((k_here; (with_reducible show wpAny _ _ (call (Value.ref 403) _) _ _ _); refine Wrap.out ?_)))
  (k_with "call ref" => ((k_here; (with_reducible show wpAny _ _ (call (Value.ref 284) _) _ _ _); refine Wrap.out ?_)))
  (k_with "call ref" => ((k_here; (with_reducible show wpAny _ _ (call (Value.ref 209) _) _ _ _); refine Wrap.out ?_)))
  (k_with "subscriptTail" => ((k_here; (with_reducible show wpAny _ _ (subscriptTail _ _ (Value.ref (CH.RR _)) _) _ _ _); k_dflt (refine' item_last ?k2 ?k3 ?k4 ?_; (case k2 => k_asm); (case k3 => k_mem); (case k4 => assumption)))))
  (k_with "subscriptTail" => ((k_here; (with_reducible show wpAny _ _ (subscriptTail _ _ (Value.ref (LC.AT _)) (Value.int _ _)) _ _ _); k_dflt (refine' PySem.W.ksa_sub ?k1 ?k2 ?k3 ?k4 ?k5 ?k6 ?_ ?k7; (case k1 => k_asm); (case k2 => k_mem); (case k3 => with_reducible assumption); (case k4 => first | assumption | omega); (case k5 => omega); (case k6 => omega); (case k7 => with_unfolding_all rfl); k_whole); walk_at "TAIL12")))
  (k_with "subscriptTail" => ((k_here; (with_reducible show wpAny _ _ (subscriptTail _ _ (Value.ref (LC.DU _)) (Value.int _ _)) _ _ _); k_dflt (refine' PySem.W.ksa_sub ?k1 ?k2 ?k3 ?k4 ?k5 ?k6 ?_ ?k7; (case k1 => k_asm); (case k2 => k_mem); (case k3 => with_reducible assumption); (case k4 => first | assumption | omega); (case k5 => omega); (case k6 => omega); (case k7 => with_unfolding_all rfl); k_whole); walk_at "TAIL12")))
  (k_with "subscriptTail" => ((k_here; (with_reducible show wpAny _ _ (subscriptTail _ _ (Value.ref (RW.a _)) (Value.int _ _)) _ _ _); k_dflt (refine' PySem.W.ksa_sub ?k1 ?k2 ?k3 ?k4 ?k5 ?k6 ?_ ?k7; (case k1 => k_asm); (case k2 => k_mem); (case k3 => with_reducible assumption); (case k4 => first | assumption | omega); (case k5 => omega); (case k6 => omega); (case k7 => with_unfolding_all rfl); k_whole); walk_at "TAIL12")))
  (k_with "setItem ref int" => ((k_here; (with_reducible show wpAny _ _ (setItem (Value.ref (LC.AT _)) (Value.int _ _) (Value.int _ _)) _ _ _); k_dflt (refine' setL0 ?k1 ?k2 ?k3 ?k4 ?k5 ?k6 ?k7 ?_; (case k1 => k_asm); (case k2 => k_asm); (case k3 => first | with_reducible assumption | exact OffP.swap (by with_reducible assumption)); (case k4 => with_reducible assumption); (case k5 => first | assumption | omega); (case k6 => omega); (case k7 => omega)); walk_at "TAIL14")))
  (k_with "setItem ref int" => ((k_here; (with_reducible show wpAny _ _ (setItem (Value.ref (LC.AT _)) (Value.int _ _) (Value.int _ _)) _ _ _); k_dflt (refine' setL1 ?k1 ?k2 ?k8 ?k3 ?k4 ?k5 ?k6 ?k7 ?_; (case k1 => k_asm); (case k2 => k_asm); (case k8 => k_ne); (case k3 => first | with_reducible assumption | exact OffP.swap (by with_reducible assumption)); (case k4 => with_reducible assumption); (case k5 => first | assumption | omega); (case k6 => omega); (case k7 => omega)); walk_at "TAIL14")))
  (k_with "setItem ref int" => ((k_here; (with_reducible show wpAny _ _ (setItem (Value.ref (LC.DU _)) (Value.int _ _) (Value.int _ _)) _ _ _); k_dflt (refine' setL1 ?k1 ?k2 ?k8 ?k3 ?k4 ?k5 ?k6 ?k7 ?_; (case k1 => k_asm); (case k2 => k_asm); (case k8 => with_reducible assumption); (case k3 => first | with_reducible assumption | exact OffP.swap (by with_reducible assumption)); (case k4 => with_reducible assumption); (case k5 => first | assumption | omega); (case k6 => omega); (case k7 => omega)); walk_at "TAIL14")))
  (k_with "setItem ref int" => ((k_here; (with_reducible show wpAny _ _ (setItem (Value.ref (LC.DU _)) (Value.int _ _) (Value.int _ _)) _ _ _); k_dflt (refine' setL2 ?k1 ?k2 ?k9 ?k8 ?k3 ?k4 ?k5 ?k6 ?k7 ?_; (case k1 => k_asm); (case k2 => k_asm); (case k9 => k_ne); (case k8 => with_reducible assumption); (case k3 => first | with_reducible assumption | exact OffP.swap (by with_reducible assumption)); (case k4 => with_reducible assumption); (case k5 => first | assumption | omega); (case k6 => omega); (case k7 => omega)); walk_at "TAIL14")))
  (k_with "compareOp NotEq ref ref" => ((k_here; k_dflt (refine' neL_same ?k1 ?k2 ?k3 ?k4 ?k5 ?k6 ?_; (case k1 => k_asm); (case k2 => k_mem); (case k3 => k_mem); (case k4 => with_reducible assumption); (case k5 => with_reducible assumption); (case k6 => exact Nat.le_of_ble_eq_true rfl)))))
  (k_with "compareOp Eq ref ref" => ((k_here; k_dflt (first | (refine' eqL_nil ?k1 ?k2 ?k3 ?k4 ?k5 ?k6 ?_; (case k1 => k_asm); (case k2 => k_mem); (case k3 => k_mem); (case k4 => with_reducible assumption); (case k5 => with_reducible assumption); (case k6 => exact Nat.le_of_ble_eq_true rfl)) | (refine' eqL_cons ?k1 ?k2 ?k3 ?k4 ?k5 ?k6 ?_; (case k1 => k_asm); (case k2 => k_mem); (case k3 => k_mem); (case k4 => with_reducible assumption); (case k5 => with_reducible assumption); (case k6 => exact Nat.le_of_ble_eq_true rfl))))))
  trivial
theorem turn4 {w : World} {pr : Program} {loose : List Str} {mean : ExcName → Option Value} {mg mb : Str → Option Value} {base h₀ : Heap} {m : Str → Option Value} {s : Shared} {Q : Flow → Shared → Prop} {E : Value → Shared → Prop}
    (k : LC) (y : SY) (c : CH) (vs : List Value) (now : Int) (tn : Tok) (se : Int) (tse : Tok) (D row : Addr) (lv rv : List Value) (t : TR) (pre post : List TR) (hs : List Value) (nh : Nat) (rr : List Value) (nr : Nat) (o5 : Obj) (atv : List Value) (nat : Nat) (duv : List Value) (ndu : Nat) (ex : Led) (ats dus left : List Int) (tnw : Tok)
    (B : Below callerA base [] h₀) (X : (Mine.hd.heap_39 w.params).In h₀) (T : Top pr loose mean mg mb h₀)
    (K : k.Ok y c) (hRR : c.oR.data = .cell (some (.ref c.RR))) (d5 : o5.data = .cell (some (.int now tnw))) (hat : IntsAre atv ats) (hdu : IntsAre duv dus) (lat : ats.length = k.rows.length) (ldu : dus.length = k.rows.length)
    (hlv : IntsAre lv left) (hleft : ∀ i ∈ left, 0 ≤ i ∧ i < k.rows.length) (hleft2 : left.length ≤ 100) (hrv : IntsAre rv (left.filter fun i => decide (dus.getD i.toNat 0 ≤ now)))
    (hnum : t.num = (pre.length : Int) + 1) (hpl : pre.length < k.rows.length) (hrr : rr.length < 100)
    (r : RW) (hr : r ∈ k.rows) (hrv1 : (rvals k.rows)[(t.num - 1).toNat]? = some (.ref r.a)) (hat0 : 0 ≤ ats.getD (t.num - 1).toNat 0) (hatl : ats.getD (t.num - 1).toNat 0 ≤ (r.ns.length : Int)) (hst : Is t .rdy) (hok : t.Ok) (hq : (t.q == sysModules) = false)
    (oA : OffAll k.AT (D :: row :: c.RR :: k.c7 :: k.c5 :: k.DU :: k.c1 :: k.c2 :: k.c3 :: k.c4 :: k.SL :: r.a :: (ta t ++ ya y)) (rls k.rows (tls w pre (tls w post (chl c hs nh (rr ++ [.ref row]) nr ex)))))
    (oD : OffAll k.DU (D :: row :: c.RR :: k.c7 :: k.c5 :: k.AT :: k.c1 :: k.c2 :: k.c3 :: k.c4 :: k.SL :: r.a :: (ta t ++ ya y)) (rls k.rows (tls w pre (tls w post (chl c hs nh (rr ++ [.ref row]) nr ex)))))
    (ot : OffAll t.d (D :: row :: c.RR :: k.c7 :: k.c5 :: k.AT :: k.DU :: k.c1 :: k.c2 :: k.c3 :: k.c4 :: k.SL :: r.a :: ya y) (rls k.rows (tls w pre (tls w post (chl c hs nh (rr ++ [.ref row]) nr ex)))))
    (F : Fr h₀ k.L s.heap (fun z => if z = "task" then some (.ref t.a) else if z = "left" then some (.ref D) else m z)) (N : News h₀ k.L s.heap (formT w k y c vs now tn se tse D row lv rv t pre post hs nh (rr ++ [.ref row]) nr o5 atv nat duv ndu ex))
    (hQ : ∀ t' atv' duv' dus' m' h' tk', Same t t' → IntsAre atv' (ats.set (t.num - 1).toNat (ats.getD (t.num - 1).toNat 0 + 1)) → IntsAre duv' dus' →
      ((ats.getD (t.num - 1).toNat 0 = (r.ns.length : Int) ∧ Is t' .cmp ∧ dus' = dus) ∨ (ats.getD (t.num - 1).toNat 0 < (r.ns.length : Int) ∧ ∃ d : Int, Is t' (if d > 0 then .slp (now + d) else .rdy) ∧ dus' = dus.set (t.num - 1).toNat (if d > 0 then now + d else now))) →
      Fr h₀ k.L h' m' → News h₀ k.L h' (full w k y c vs now tn se tse (pre ++ t' :: post) hs nh (rr ++ [.ref row]) nr o5 atv' nat duv' ndu ex) → Q .next { s with heap := h', toks := tk' }) :
    wpAny (model PySem.Challenge.pw_pb0024_01 w) (callerA.deeper (lawEnv k.L k.fa (.ref 419))) (execs (turnBody.drop 4) (lawEnv k.L k.fa (.ref 419))) Q E s := by
  have hMk : MarkW := trivial
  have e : turnBody.drop 4 = turnBody.drop 4 := rfl
  conv at e => rhs; whnf
  rw [e]
  clear e
  have e : lawScope = lawScope := rfl
  conv at e => rhs; whnf
  unfold lawEnv
  rw [e]
  clear e
  have hcd := codeHd_of_K (c := 419) (P := 417) X (by kernel_rfl)
  obtain ⟨d1, d2, d3, d4, eR, eH, hints, hfew, hcnt⟩ := K
  have hzS : (rvals k.rows).length ≤ 1000 := by rw [rvals, List.length_map]; omega
  have hrz : r.vs.length ≤ 1000 := by rw [(hints r hr).length]; have := hfew r hr; omega
  have hri := hints r hr
  have hrlen := hri.length
  replace N := News.snoc (p := (r.a, LCg.lst r.vs)) N (by unfold formT; repeat (first | exact mem_rls.mpr (.inl ⟨r, hr, rfl⟩) | refine List.Mem.tail _ ?_)) (fun _ h => h)
  unfold formT at N
  rw [eR] at N
  k_steps
  · exfalso; omega
  have hlvz : lv.length ≤ 100 := by rw [hlv.length]; exact hleft2
  have hlsz : lv.toArray.size = left.length := by rw [List.size_toArray, hlv.length]
  refine wrap_in (LCt.CompSrcT.ledger (its := lv.toArray) (by rfl) (by assumption) (by assumption) (by k_mem) (size_of hlvz) fun g' => ?_)
  rw [hlsz]
  refine int_compT left (fun i => decide (dus.getD i.toNat 0 ≤ now)) id _ (.inr ⟨_, by k_mem, rfl, _, rfl⟩) (fun i v hv _ => ints_getv hlv (by simpa using hv)) ?_ ?_ ?_
  · intro i ti hi C oC m₂ h tk E' I oI Dn oD hC hx F' N'
    obtain ⟨hi0, hi1⟩ := hleft i hi
    k_steps
    exact ⟨rfl, Ends.intro (by assumption) (by assumption)⟩
  · intro i ti hi hp C oC m₂ h tk E' I oI Dn oD hC hx F' N'
    k_steps
    exact ⟨⟨_, rfl⟩, Ends.intro (by assumption) (by assumption)⟩
  · intro yv hyv Y h tk F' N' o1
    rw [List.map_id] at hyv
    have oYA : @Ne Nat Y k.AT := fun e => off1_mem o1 (k.AT, W.listOf atv.toArray nat) (by k_mem) e.symm
    have oYU : @Ne Nat Y k.DU := fun e => off1_mem o1 (k.DU, W.listOf duv.toArray ndu) (by k_mem) e.symm
    have oYt : @Ne Nat Y t.d := fun e => off1_mem o1 (t.d, dictOf (tes w t .none) 26) (by k_mem) e.symm
    clear o1
    have hM : ∀ a ∈ [Y, r.a, D, row, c.RR, k.c7, k.c5, k.AT, k.DU, k.c1, k.c2, k.c3, k.c4, k.SL], @Ne Nat a t.d := by
      intro a ha
      rcases List.mem_cons.mp ha with rfl | ha
      · exact oYt
      rcases List.mem_cons.mp ha with rfl | ha
      · exact ot.h1 _ (by k_mem)
      · exact ot.h1 a (List.mem_append_left (r.a :: ya y) ha)
    have hYt : ∀ a ∈ ya y, a ≠ t.d := fun a ha => ot.h1 a (by repeat (first | exact ha | refine List.Mem.tail _ ?_))
    have hUt := ot.h2
    have oA' : ∀ t', (∀ a ∈ ta t', a ∈ ta t) → OffP k.AT ((k.DU, W.listOf duv.toArray ndu) :: (k.c3, k.o3) :: (k.c4, k.o4) :: (k.c5, o5) :: tl w t' (formE w k y c vs now tn se tse pre post hs nh (rr ++ [.ref row]) nr ex)) := fun t' h' =>
      OffP.cons (oA.h1 _ (by first | k_mem | simp)) (OffP.mk' oA (fun a ha => by repeat (first | exact List.mem_append_right _ ha | refine List.Mem.tail _ ?_)) (fun a ha => by repeat (first | exact List.mem_append_left _ (h' a ha) | refine List.Mem.tail _ ?_)) (by first | k_mem | simp) (by first | k_mem | simp) (by first | k_mem | simp) (by first | k_mem | simp) (by first | k_mem | simp) (by first | k_mem | simp))
    have oD' : ∀ t', (∀ a ∈ ta t', a ∈ ta t) → OffP k.DU ((k.c3, k.o3) :: (k.c4, k.o4) :: (k.c5, o5) :: tl w t' (formE w k y c vs now tn se tse pre post hs nh (rr ++ [.ref row]) nr ex)) := fun t' h' =>
      OffP.mk' oD (fun a ha => by repeat (first | exact List.mem_append_right _ ha | refine List.Mem.tail _ ?_)) (fun a ha => by repeat (first | exact List.mem_append_left _ (h' a ha) | refine List.Mem.tail _ ?_)) (by first | k_mem | simp) (by first | k_mem | simp) (by first | k_mem | simp) (by first | k_mem | simp) (by first | k_mem | simp) (by first | k_mem | simp)
    have nAD : @Ne Nat k.AT k.DU := oD.h1 _ (by first | k_mem | simp)
    k_steps
    · rename ats.getD _ 0 = _ => hfin
      rename News _ _ _ _ => N2
      replace N2 : News h₀ k.L _ (tl w t (formM k c r D row Y lv rv yv (rr ++ [Value.ref row]) nr o5 atv nat duv ndu (syl w y now tn se tse vs (formU w k c pre post hs nh (rr ++ [Value.ref row]) nr ex)))) := News.sub N2 fun p hp => toC hp
      unfold Wrap
      refine Spec.use (complete_spec t _ (offM hM (offSyl hYt hUt)) hok hst.1 hq) B (by assumption) (by assumption) N2 (by assumption) rfl (Nat.le_of_ble_eq_true rfl) rfl (Nat.le_of_ble_eq_true rfl) ?_
      rintro r' n' h' tk' ⟨rfl, t', hsm, hst', rfl⟩ F' N'
      replace N' : News h₀ k.L _ (formZ w k y c vs now tn se tse t' pre post hs nh (rr ++ [Value.ref row]) nr o5 atv nat duv ndu ex) := News.sub N' fun p hp => ofC hp
      have oA1 := (oA' t' (by rw [hsm.1]; exact fun _ h => h))
      clear N2
      dsimp only [formZ] at N'
      generalize hZ : formE w k y c vs now tn se tse pre post hs nh (rr ++ [Value.ref row]) nr ex = Z at N' oA1
      k_steps
      rename News _ _ _ _ => N3
      rename IntsAre (List.set _ _ _) _ => hi3
      refine hQ t' _ _ _ _ _ _ hsm hi3 hdu (.inl ⟨by rw [hfin, hrlen], hst', rfl⟩) (by assumption) (News.sub N3 fun p hp => ?_)
      subst hZ
      exact toF hp
    · rename ats.getD _ 0 ≠ _ => hfin
      rename News _ _ _ _ => N2
      replace N2 : News h₀ k.L _ (syl w y now tn se tse vs (tl w t (formM k c r D row Y lv rv yv (rr ++ [Value.ref row]) nr o5 atv nat duv ndu (formU w k c pre post hs nh (rr ++ [Value.ref row]) nr ex)))) := News.sub N2 fun p hp => toD hp
      unfold Wrap
      refine Spec.use (delay_spec y now tn se tse vs t _ _ _ hst.1 hst.2 hok hYt (offM hM hUt)) B (by assumption) (by assumption) N2 (by assumption) rfl (Nat.le_of_ble_eq_true rfl) rfl (Nat.le_of_ble_eq_true rfl) ?_
      rintro r' n' h' tk' ⟨rfl, t', hsm, hst', rfl⟩ F' N'
      replace N' : News h₀ k.L _ (formZ w k y c vs now tn se tse t' pre post hs nh (rr ++ [Value.ref row]) nr o5 atv nat duv ndu ex) := News.sub N' fun p hp => ofD hp
      clear N2
      have oA1 := (oA' t' (by rw [hsm.1]; exact fun _ h => h))
      have oD1 := (oD' t' (by rw [hsm.1]; exact fun _ h => h))
      dsimp only [formZ] at N'
      generalize hZ : formE w k y c vs now tn se tse pre post hs nh (rr ++ [Value.ref row]) nr ex = Z at N' oA1 oD1
      have hlt : ats.getD (t.num - 1).toNat 0 < (r.ns.length : Int) := by omega
      have ea : t'.a = t.a := (List.cons.inj hsm.1).1
      obtain ⟨dd, hdd⟩ : ∃ dd, dd = r.ns.getD (ats.getD (t.num - 1).toNat 0).toNat 0 := ⟨_, rfl⟩
      rw [← hdd] at hst'
      by_cases hd : dd > 0
      · rw [if_pos hd] at hst'
        have hst2 := hst'
        obtain ⟨hs1, u1, hs2⟩ := hst'
        obtain ⟨ta', td, tq, tsv, tms, tk', tnum, ttn, tst, tts, twk, tname, tmaster, topen, tlate, tcall, traised, tanswer, tinside, tpending, tfailed, tstack, tframe, tresult, tbases, tcaught, tresume, tleaving, tline⟩ := t'
        dsimp only at hs1 hs2 ea
        subst hs1 hs2 ea
        dsimp only [tl, tes] at N'
        k_steps
        · exfalso
          rename (_ != _) = true => hbad
          have hx := decide_eq_false (p := r.ns.getD (ats.getD (t.num - 1).toNat 0).toNat 0 ≤ 0) (by omega)
          rw [hx] at hbad
          exact absurd hbad (by decide)
        · rename News _ _ _ _ => N3
          rename IntsAre (List.set _ _ _) (List.set ats _ _) => hi3
          rename IntsAre (List.set _ _ _) (List.set dus _ _) => hi4
          refine hQ _ _ _ _ _ _ _ hsm hi3 hi4 (.inr ⟨hlt, dd, by rw [if_pos hd]; exact hst2, ?_⟩) (by assumption) (News.sub (News.tl N3) fun p hp => ?_)
          · rw [← hdd, decide_eq_true (p := 0 < dd) hd, if_pos hd]; rfl
          · subst hZ
            exact toF hp
      · rw [if_neg hd] at hst'
        have hst2 := hst'
        obtain ⟨hs1, hs2⟩ := hst'
        obtain ⟨ta', td, tq, tsv, tms, tk', tnum, ttn, tst, tts, twk, tname, tmaster, topen, tlate, tcall, traised, tanswer, tinside, tpending, tfailed, tstack, tframe, tresult, tbases, tcaught, tresume, tleaving, tline⟩ := t'
        dsimp only at hs1 hs2 ea
        subst hs1 hs2 ea
        dsimp only [tl, tes] at N'
        k_steps
        · exfalso
          rename (_ != _) = true => hbad
          have hx := decide_eq_true (p := r.ns.getD (ats.getD (t.num - 1).toNat 0).toNat 0 ≤ 0) (by omega)
          rw [hx] at hbad
          exact absurd hbad (by decide)
        · rename News _ _ _ _ => N3
          rename IntsAre (List.set _ _ _) (List.set ats _ _) => hi3
          rename IntsAre (List.set _ _ _) (List.set dus _ _) => hi4
          refine hQ _ _ _ _ _ _ _ hsm hi3 hi4 (.inr ⟨hlt, dd, by rw [if_neg hd]; exact hst2, ?_⟩) (by assumption) (News.sub (News.tl N3) fun p hp => ?_)
          · rw [← hdd, decide_eq_false (p := 0 < dd) hd, if_neg hd]; exact congrArg _ (Int.add_zero now)
          · subst hZ
            exact toF hp
theorem freshT2 : True := by
  k_with_none
  (k_with "CJ" => (first | with_reducible assumption | with_reducible exact And.left (by first | with_reducible assumption | with_reducible exact And.right (by first | with_reducible assumption | with_reducible exact And.right (by first | with_reducible assumption | with_reducible exact And.right (by first | with_reducible assumption | with_reducible exact And.right (by first | with_reducible assumption | with_reducible exact And.right (by first | with_reducible assumption | with_reducible exact And.right (by first | with_reducible assumption | with_reducible exact And.right (by first | with_reducible assumption | with_reducible exact And.right (by first | with_reducible assumption | with_reducible exact And.right (by first | with_reducible assumption | with_reducible exact And.right (by first | with_reducible assumption | with_reducible exact And.right (by first | with_reducible assumption | with_reducible exact And.right (by first | with_reducible assumption | with_reducible exact And.right (by first | with_reducible assumption | with_reducible exact And.right (by first | with_reducible assumption | with_reducible exact And.right (by first | with_reducible assumption | with_reducible exact And.right (by first | with_reducible assumption | with_reducible exact And.right (by first | with_reducible assumption | with_reducible exact And.right (by first | with_reducible assumption | with_reducible exact And.right (by first | with_reducible assumption | with_reducible exact And.right (by first | with_reducible assumption | with_reducible exact And.right (by first | with_reducible assumption | with_reducible exact And.right (by with_reducible assumption)))))))))))))))))))))))))
  (k_with "execs cons" => (k_here; (fail_if_success (fail_if_success k_gentoks)); (with_reducible refine gen_toks ?_); intro tk))
  (k_with "execs nil" => (k_here; (fail_if_success (fail_if_success k_gentoks)); (with_reducible refine gen_toks ?_); intro tk))
  w_top off
  trivial
theorem rulesT2x1 : True := by
  (k_with "compareOp Eq str str" => (first | refine eqs_ff (by first | decide | (dsimp only; decide)) ?_ | refine eqs_tt (by first | decide | (dsimp only; decide)) ?_))
  (k_with "compareOp NotEq str str" => (first | refine nes_ff (by first | decide | (dsimp only; decide)) ?_ | refine nes_tt (by first | decide | (dsimp only; decide)) ?_))
  (k_with "exec" => ((k_here; (with_reducible show wpAny _ _ (exec (Stmt.While _ _ _ _) _) _ _ _); k_dflt (refine whl_startW ?_))))
  (k_with "WhlW" => ((dsimp only [WhlW])))
  (k_with "exec For Name Name cons nil" => (walk_at "WHOLE1"))
  (k_with "pyIter ref" => ((refine Wrap.out ?_)))
  (k_with "call ref" => ((k_here; (with_reducible show wpAny _ _ (call (Value.ref 410) _) _ _ _); k_dflt (refine' Spec.use (figure_spec ?u1 ?g1 ?g2) ?k1 ?k2 ?k3 ?k4 ?k5 ?k6 ?k7 ?k8 ?k9 ?_; (case k4 => k_asm); (case k1 => k_asm); (case k2 => k_asm); (case k3 => k_asm); (case k5 => k_asm); (case k8 => exact rfl); (case k6 => exact rfl); (case k7 => exact Nat.le_of_ble_eq_true rfl); (case k9 => exact Nat.le_of_ble_eq_true rfl); (case u1 => k_updF); (case g1 => assumption); (case g2 => omega)); refine cpsF ?_; walk_at "TAIL6")))
  (k_with "call ref" => ((k_here; (with_reducible show wpAny _ _ (call (Value.ref 49) _) _ _ _); k_dflt (refine' Spec.use (next_nil _ _ _ ?g1) ?k1 ?k2 ?k3 ?k4 ?k5 ?k6 ?k7 ?k8 ?k9 ?_; (case k4 => k_asm); (case k1 => k_asm); (case k2 => k_asm); (case k3 => k_asm); (case k5 => k_asm); (case k8 => exact rfl); (case k6 => exact rfl); (case k7 => exact Nat.le_of_ble_eq_true rfl); (case k9 => exact Nat.le_of_ble_eq_true rfl); (case g1 => k_mem); skip); refine cps2 ?_; walk_at "TAIL3")))
  (k_with "call ref" => ((k_here; (with_reducible show wpAny _ _ (call (Value.ref 49) _) _ _ _); k_dflt (refine' Spec.use (next_404 _ _ _ _ _ ?g1) ?k1 ?k2 ?k3 ?k4 ?k5 ?k6 ?k7 ?k8 ?k9 ?_; (case k4 => k_asm); (case k1 => k_asm); (case k2 => k_asm); (case k3 => k_asm); (case k5 => k_asm); (case k8 => exact rfl); (case k6 => exact rfl); (case k7 => exact Nat.le_of_ble_eq_true rfl); (case k9 => exact Nat.le_of_ble_eq_true rfl); (case g1 => k_mem); skip); refine cps2 ?_; walk_at "TAIL3")))
  (k_with "call type:range" => (walk_at "WHOLE3"))
  (k_with "CompSrc" => (walk_at "WHOLE4"))
  (k_with "CompSrcT" => (walk_at "WHOLE5"))
  (k_with "call builtin:len" => ((k_here; k_dflt (refine' lenS ?N ?m ?z ?_; (case N => k_asm); (case m => k_mem); (case z => assumption)))))
  (k_with "truthy ref" => ((k_here; k_dflt (refine' truthS ?N ?m ?z ?_; (case N => k_asm); (case m => k_mem); (case z => assumption)))))
  (k_with "subscriptTail" => ((k_here; (with_reducible show wpAny _ _ (subscriptTail _ _ (Value.ref (LC.SL _)) _) _ _ _); k_dflt (refine' item_spec ?k1 ?k2 ?k3 ?k4 ?k5 ?k6 ?_; (case k6 => assumption); (case k1 => k_asm); (case k2 => k_asm); (case k3 => k_mem); (case k4 => first | assumption | omega); (case k5 => omega)))))
  (k_with "call ref" => ((k_here; (with_reducible show wpAny _ _ (call (Value.ref 403) _) _ _ _); refine Wrap.out ?_)))
  (k_with "call ref" => ((k_here; (with_reducible show wpAny _ _ (call (Value.ref 284) _) _ _ _); refine Wrap.out ?_)))
  (k_with "call ref" => ((k_here; (with_reducible show wpAny _ _ (call (Value.ref 209) _) _ _ _); refine Wrap.out ?_)))
  (k_with "subscriptTail" => ((k_here; (with_reducible show wpAny _ _ (subscriptTail _ _ (Value.ref (CH.RR _)) _) _ _ _); k_dflt (refine' item_last ?k2 ?k3 ?k4 ?_; (case k2 => k_asm); (case k3 => k_mem); (case k4 => assumption)))))
  (k_with "subscriptTail" => ((k_here; (with_reducible show wpAny _ _ (subscriptTail _ _ (Value.ref (LC.AT _)) (Value.int _ _)) _ _ _); k_dflt (refine' PySem.W.ksa_sub ?k1 ?k2 ?k3 ?k4 ?k5 ?k6 ?_ ?k7; (case k1 => k_asm); (case k2 => k_mem); (case k3 => with_reducible assumption); (case k4 => first | assumption | omega); (case k5 => omega); (case k6 => omega); (case k7 => with_unfolding_all rfl); k_whole); walk_at "TAIL12")))
  (k_with "subscriptTail" => ((k_here; (with_reducible show wpAny _ _ (subscriptTail _ _ (Value.ref (LC.DU _)) (Value.int _ _)) _ _ _); k_dflt (refine' PySem.W.ksa_sub ?k1 ?k2 ?k3 ?k4 ?k5 ?k6 ?_ ?k7; (case k1 => k_asm); (case k2 => k_mem); (case k3 => with_reducible assumption); (case k4 => first | assumption | omega); (case k5 => omega); (case k6 => omega); (case k7 => with_unfolding_all rfl); k_whole); walk_at "TAIL12")))
  (k_with "subscriptTail" => ((k_here; (with_reducible show wpAny _ _ (subscriptTail _ _ (Value.ref (RW.a _)) (Value.int _ _)) _ _ _); k_dflt (refine' PySem.W.ksa_sub ?k1 ?k2 ?k3 ?k4 ?k5 ?k6 ?_ ?k7; (case k1 => k_asm); (case k2 => k_mem); (case k3 => with_reducible assumption); (case k4 => first | assumption | omega); (case k5 => omega); (case k6 => omega); (case k7 => with_unfolding_all rfl); k_whole); walk_at "TAIL12")))
  (k_with "setItem ref int" => ((k_here; (with_reducible show wpAny _ _ (setItem (Value.ref _) (Value.int _ _) (Value.int _ _)) _ _ _); k_dflt (refine' PySem.W.ksa_set ?k1 ?k2 ?k3 ?k4 ?k5 ?k6 ?k7 ?_; (case k1 => k_asm); (case k2 => k_asm); (case k3 => k_upd); (case k4 => with_reducible assumption); (case k5 => first | assumption | omega); (case k6 => omega); (case k7 => omega); k_whole); walk_at "TAIL13")))
  (k_with "compareOp NotEq ref ref" => ((k_here; k_dflt (refine' neL_same ?k1 ?k2 ?k3 ?k4 ?k5 ?k6 ?_; (case k1 => k_asm); (case k2 => k_mem); (case k3 => k_mem); (case k4 => with_reducible assumption); (case k5 => with_reducible assumption); (case k6 => exact Nat.le_of_ble_eq_true rfl)))))
  (k_with "compareOp Eq ref ref" => ((k_here; k_dflt (first | (refine' eqL_nil ?k1 ?k2 ?k3 ?k4 ?k5 ?k6 ?_; (case k1 => k_asm); (case k2 => k_mem); (case k3 => k_mem); (case k4 => with_reducible assumption); (case k5 => with_reducible assumption); (case k6 => exact Nat.le_of_ble_eq_true rfl)) | (refine' eqL_cons ?k1 ?k2 ?k3 ?k4 ?k5 ?k6 ?_; (case k1 => k_asm); (case k2 => k_mem); (case k3 => k_mem); (case k4 => with_reducible assumption); (case k5 => with_reducible assumption); (case k6 => exact Nat.le_of_ble_eq_true rfl))))))
  trivial
section
variable {w : World} {k : LC} {y : SY} {c : CH} {vs : List Value} {now : Int} {tn : Tok} {se : Int} {tse : Tok} {ts : List TR} {hs : List Value} {nh : Nat} {rr : List Value} {nr : Nat} {o5 : Obj} {atv : List Value} {nat : Nat} {duv : List Value} {ndu : Nat} {ex : Led} {p : Addr × Obj}
theorem toLaw (h : p ∈ lawl k o5 atv nat duv ndu (syl w y now tn se tse vs (tls w ts (chl c hs nh rr nr ex)))) : p ∈ full w k y c vs now tn se tse ts hs nh rr nr o5 atv nat duv ndu ex := by
  rcases mem_lawl.mp h with h | h | h
  · exact mem_syl.mpr (.inr (mem_tls.mpr (.inr (mem_chl.mpr (.inr (mem_lawl.mpr (.inl h)))))))
  · exact mem_syl.mpr (.inr (mem_tls.mpr (.inr (mem_chl.mpr (.inr (mem_lawl.mpr (.inr (.inl h))))))))
  rcases mem_syl.mp h with h | h
  · exact mem_syl.mpr (.inl h)
  rcases mem_tls.mp h with h | h
  · exact mem_syl.mpr (.inr (mem_tls.mpr (.inl h)))
  rcases mem_chl.mp h with h | h
  · exact mem_syl.mpr (.inr (mem_tls.mpr (.inr (mem_chl.mpr (.inl h)))))
  · exact mem_syl.mpr (.inr (mem_tls.mpr (.inr (mem_chl.mpr (.inr (mem_lawl.mpr (.inr (.inr h))))))))
theorem ofLaw (h : p ∈ full w k y c vs now tn se tse ts hs nh rr nr o5 atv nat duv ndu ex) : p ∈ lawl k o5 atv nat duv ndu (syl w y now tn se tse vs (tls w ts (chl c hs nh rr nr ex))) := by
  rcases mem_syl.mp h with h | h
  · exact mem_lawl.mpr (.inr (.inr (mem_syl.mpr (.inl h))))
  rcases mem_tls.mp h with h | h
  · exact mem_lawl.mpr (.inr (.inr (mem_syl.mpr (.inr (mem_tls.mpr (.inl h))))))
  rcases mem_chl.mp h with h | h
  · exact mem_lawl.mpr (.inr (.inr (mem_syl.mpr (.inr (mem_tls.mpr (.inr (mem_chl.mpr (.inl h))))))))
  rcases mem_lawl.mp h with h | h | h
  · exact mem_lawl.mpr (.inl h)
  · exact mem_lawl.mpr (.inr (.inl h))
  · exact mem_lawl.mpr (.inr (.inr (mem_syl.mpr (.inr (mem_tls.mpr (.inr (mem_chl.mpr (.inr h))))))))
theorem fullX {p0 : Addr × Obj} (h : p ∈ full w k y c vs now tn se tse ts hs nh rr nr o5 atv nat duv ndu (p0 :: ex)) : p ∈ p0 :: full w k y c vs now tn se tse ts hs nh rr nr o5 atv nat duv ndu ex := by
  rcases mem_syl.mp h with h | h
  · exact .tail _ (mem_syl.mpr (.inl h))
  rcases mem_tls.mp h with h | h
  · exact .tail _ (mem_syl.mpr (.inr (mem_tls.mpr (.inl h))))
  rcases mem_chl.mp h with h | h
  · exact .tail _ (mem_syl.mpr (.inr (mem_tls.mpr (.inr (mem_chl.mpr (.inl h))))))
  rcases mem_lawl.mp h with h | h | h
  · exact .tail _ (mem_syl.mpr (.inr (mem_tls.mpr (.inr (mem_chl.mpr (.inr (mem_lawl.mpr (.inl h))))))))
  · exact .tail _ (mem_syl.mpr (.inr (mem_tls.mpr (.inr (mem_chl.mpr (.inr (mem_lawl.mpr (.inr (.inl h)))))))))
  rcases List.mem_cons.mp h with rfl | h
  · exact .head _
  · exact .tail _ (mem_syl.mpr (.inr (mem_tls.mpr (.inr (mem_chl.mpr (.inr (mem_lawl.mpr (.inr (.inr h)))))))))
theorem fullH {p0 : Addr × Obj} : p0 ∈ full w k y c vs now tn se tse ts hs nh rr nr o5 atv nat duv ndu (p0 :: ex) :=
  mem_syl.mpr (.inr (mem_tls.mpr (.inr (mem_chl.mpr (.inr (mem_lawl.mpr (.inr (.inr (.head _)))))))))
end
theorem nums_nodup {ts : List TR} {n : Nat} (h : ts.map (·.num) = (nats n).map (· + 1)) : (ts.map (·.num)).Nodup := by
  rw [h, nats, List.map_map]
  refine List.Pairwise.map _ (fun a b h e => h ?_) List.nodup_range
  simp only [Function.comp] at e
  omega
theorem turn0 {w : World} {pr : Program} {loose : List Str} {mean : ExcName → Option Value} {mg mb : Str → Option Value} {base h₀ : Heap} {m : Str → Option Value} {s : Shared} {Q : Flow → Shared → Prop} {E : Value → Shared → Prop}
    (k : LC) (y : SY) (c : CH) (vs : List Value) (now : Int) (tn : Tok) (se : Int) (tse : Tok) (ts : List TR) (hs : List Value) (nh : Nat) (rr : List Value) (nr : Nat) (o5 : Obj) (atv : List Value) (nat : Nat) (duv : List Value) (ndu : Nat) (ex : Led) (ats dus : List Int) (σ : Int → AS)
    (B : Below callerA base [] h₀) (X : (Mine.hd.heap_39 w.params).In h₀) (T : Top pr loose mean mg mb h₀)
    (K : k.Ok y c) (Cok : c.Ok) (hyc : y.choose = .ref c.ch) (far : Far y (tas ts) c k ex) (hv : vals ts = vs) (hnum : ts.map (·.num) = (nats k.rows.length).map (· + 1))
    (hat : IntsAre atv ats) (hA : All2 Is ts ((nats k.rows.length).map σ)) (hS : Stand k.rows.length (fun i => decide (ats.getD i.toNat 0 ≤ lenF k i)) (fun i => dus.getD i.toNat 0) now σ) (hH : Hand hs) (hrr : rr.length < 100) (lat : ats.length = k.rows.length)
    (F : Fr h₀ k.L s.heap m) (N : News h₀ k.L s.heap (full w k y c vs now tn se tse ts hs nh rr nr o5 atv nat duv ndu ex))
    (hret : ∀ m' h' tk', Fr h₀ k.L h' m' → News h₀ k.L h' ex → Q (.ret (.bool true)) { s with heap := h', toks := tk' })
    (hnext : ∀ (D : Addr) (lv : List Value) (left : List Int) (now1 : Int) (tn1 : Tok) (se1 : Int) (tse1 : Tok) (ts1 : List TR) (σ1 : Int → AS) (j : Nat) (t : TR) (hs1 : List Value) (nh1 : Nat) (row : Addr) (rv : List Value) (h' : Heap) (tk' : Nat), left = (nats k.rows.length).filter (fun i => decide (ats.getD i.toNat 0 ≤ lenF k i)) → IntsAre lv left → Fresh y (tas ts) c k ex D → Fresh y (tas ts) c k ((D, LCg.lst lv) :: ex) row →
      ((now1 = now ∧ (left.filter fun i => decide (dus.getD i.toNat 0 ≤ now)) ≠ []) ∨ ((left.filter fun i => decide (dus.getD i.toNat 0 ≤ now)) = [] ∧ now1 ∈ left.map (fun i => dus.getD i.toNat 0) ∧ ∀ d ∈ left.map (fun i => dus.getD i.toNat 0), now1 ≤ d)) →
      Stand1 k.rows.length (fun i => decide (ats.getD i.toNat 0 ≤ lenF k i)) (fun i => dus.getD i.toNat 0) now1 σ1 → All2 Same ts ts1 → All2 Is ts1 ((nats k.rows.length).map σ1) → (ts1.filter isR)[j]? = some t → Hand hs1 → IntsAre rv ((ts1.filter isR).map (·.num - 1)) →
      Fr h₀ k.L h' (fun z => if z = "task" then some (.ref t.a) else if z = "left" then some (.ref D) else m z) →
      News h₀ k.L h' ((row, LCg.lst rv) :: full w k y c vs now1 tn1 se1 tse1 ts1 hs1 nh1 (rr ++ [.ref row]) (nr + 1) o5 atv nat duv ndu ((D, LCg.lst lv) :: ex)) →
      wpAny (model PySem.Challenge.pw_pb0024_01 w) (callerA.deeper (lawEnv k.L k.fa (.ref 419))) (execs (turnBody.drop 3) (lawEnv k.L k.fa (.ref 419))) Q E { s with heap := h', toks := tk' }) :
    wpAny (model PySem.Challenge.pw_pb0024_01 w) (callerA.deeper (lawEnv k.L k.fa (.ref 419))) (execs turnBody (lawEnv k.L k.fa (.ref 419))) Q E s := by
  have hMk : MarkW := trivial
  generalize hR : turnBody.drop 3 = rest3 at hnext
  have e : turnBody = (turnBody.drop 0).headD (.Pass ⟨0,0,0,0⟩) :: (turnBody.drop 1).headD (.Pass ⟨0,0,0,0⟩) :: (turnBody.drop 2).headD (.Pass ⟨0,0,0,0⟩) :: turnBody.drop 3 := by rfl
  rw [e, hR]
  clear e hR
  have e : (turnBody.drop 0).headD (.Pass ⟨0,0,0,0⟩) = (turnBody.drop 0).headD (.Pass ⟨0,0,0,0⟩) := rfl
  conv at e => rhs; whnf
  rw [e]
  clear e
  have e : (turnBody.drop 1).headD (.Pass ⟨0,0,0,0⟩) = (turnBody.drop 1).headD (.Pass ⟨0,0,0,0⟩) := rfl
  conv at e => rhs; whnf
  rw [e]
  clear e
  have e : (turnBody.drop 2).headD (.Pass ⟨0,0,0,0⟩) = (turnBody.drop 2).headD (.Pass ⟨0,0,0,0⟩) := rfl
  conv at e => rhs; whnf
  rw [e]
  clear e
  have e : lawScope = lawScope := rfl
  conv at e => rhs; whnf
  unfold lawEnv at hnext ⊢
  rw [e] at hnext ⊢
  clear e
  have hcd := codeHd_of_K (c := 419) (P := 417) X (by kernel_rfl)
  have K' := K
  obtain ⟨d1, d2, d3, d4, eR, eH, hints, hfew, hcnt⟩ := K'
  have hzS : (rvals k.rows).length ≤ 1000 := by rw [rvals, List.length_map]; omega
  have N1 : News h₀ k.L s.heap (lawl k o5 atv nat duv ndu (syl w y now tn se tse vs (tls w ts (chl c hs nh rr nr ex)))) := News.sub N fun p hp => toLaw hp
  have hvl : vs.length ≤ 100 := by
    rw [← hv, vals, List.length_map, hA.length, List.length_map, nats_len]; omega
  have hnd := nums_nodup hnum
  replace hnext := wrap_in hnext
  replace hret := wrap_in hret
  clear N
  generalize hZ : syl w y now tn se tse vs (tls w ts (chl c hs nh rr nr ex)) = Z at N1
  dsimp only [lawl] at N1
  k_steps
  rename_i hR _ lN _
  refine wrap_in (LCt.CompSrcT.range (n := (nats k.rows.length).length) (by rfl) (by assumption) lN hR (small_one (by decide) (by decide) (by omega) (by omega)) (by rw [rangeSize_nat, nats_len, rvals, List.length_map]; omega) (by rw [nats_len, sizeLine_eq]; omega) fun g' => ?_)
  refine int_compT (nats k.rows.length) (fun i => decide (ats.getD i.toNat 0 ≤ lenF k i)) id _ trivial (fun i v ⟨t, hv⟩ hi => ⟨_, t, by rw [nats_get (by rwa [nats_len] at hi)], by rw [hv, Int.zero_add]⟩) ?_ ?_ ?_
  · intro i t hi C oC m₂ h tk E' I oI D oD hC hx F' N'
    obtain ⟨hi0, hi1⟩ := mem_nats.mp hi
    obtain ⟨r, hr, hrm, hrl, hrv⟩ := lenF_get hi0 hi1
    have hrz : r.vs.length ≤ 1000 := by rw [(hints r hrm).length]; have := hfew r hrm; omega
    have hrl2 : (r.vs.length : Int) = lenF k i := by rw [(hints r hrm).length, hrl]
    replace N' := News.snoc (p := (r.a, LCg.lst r.vs)) N' (by repeat (first | exact mem_rls.mpr (.inl ⟨r, hrm, rfl⟩) | refine List.Mem.tail _ ?_)) (fun _ h => h)
    k_steps
    exact ⟨by rw [hrl2], Ends.intro (by assumption) (News.tl N')⟩
  · intro i t hi hp C oC m₂ h tk E' I oI D oD hC hx F' N'
    k_steps
    exact ⟨⟨_, rfl⟩, Ends.intro (by assumption) (by assumption)⟩
  · intro lv hlv D h tk F' N' o1
    k_steps
    unfold Wrap
    rw [List.map_id] at hlv
    have hS1 := hS.settle
    subst hZ
    have fD : Fresh y (tas ts) c k ex D := Fresh.of fun p hp => off1_mem o1 p (ofLaw hp)
    clear o1
    have farD := far.cons (o := LCg.lst lv) fD
    have hlvz : lv.length ≤ 1000 := by
      rw [hlv.length]
      refine Nat.le_trans (List.length_filter_le ..) ?_
      rw [nats_len]; omega
    rename News _ _ _ _ => N2
    replace N2 : News h₀ k.L _ (full w k y c vs now tn se tse ts hs nh rr nr o5 atv nat duv ndu ((D, LCg.lst lv) :: ex)) := News.sub N2 fun p hp => by
      rcases List.mem_cons.mp (fullX hp) with rfl | hp
      · exact .head _
      · exact .tail _ (ofLaw hp)
    by_cases hl : (nats k.rows.length).filter (fun i => decide (ats.getD i.toNat 0 ≤ lenF k i)) = []
    · refine Spec.use (pick_none y now tn se tse vs ts c hs nh rr nr (lawl k o5 atv nat duv ndu ((D, LCg.lst lv) :: ex)) _ (farD.good hv hvl) hA (by rw [settle_map]; exact hS1.none hl)) B (by assumption) (by assumption) N2 (by assumption) rfl (Nat.le_of_ble_eq_true rfl) rfl (Nat.le_of_ble_eq_true rfl) ?_
      intro r n' h' tk' hq1
      refine ex3 hq1 fun ts' se' tse' hp2 => ?_
      clear hq1
      have hsm := hp2.1
      have hA' := hp2.2.1
      have eq3 := hp2.2.2.1
      have eq4 := hp2.2.2.2
      clear hp2
      subst eq3
      subst eq4
      intro F' N'
      replace N' : News h₀ k.L h' ((D, LCg.lst lv) :: ex) := News.sub N' fun p hp => by
        rcases List.mem_cons.mp hp with rfl | hp
        · exact fullH
        · exact mem_syl.mpr (.inr (mem_tls.mpr (.inr (mem_chl.mpr (.inr (mem_lawl.mpr (.inr (.inr (.tail _ hp)))))))))
      k_steps
      rename News _ _ _ _ => N3
      exact hret _ _ _ (by assumption) (News.sub N3 fun p hp => .tail _ (.tail _ hp))
    · by_cases hq : (((nats k.rows.length).filter (fun i => decide (ats.getD i.toNat 0 ≤ lenF k i))).filter fun i => decide (dus.getD i.toNat 0 ≤ now)) = []
      · obtain ⟨j0, hj1, hj2, hj3, hj4⟩ := hS1.least hl hq
        rw [← settle_map] at hj1
        refine Spec.use (pick_wait y now tn se tse vs ts c hs nh rr nr (lawl k o5 atv nat duv ndu ((D, LCg.lst lv) :: ex)) _ j0 hyc (farD.good hv hvl) (farD.goodC Cok) hA hnd hH hrr (by rw [settle_map, hS1.any_rdy, hq]; rfl) hj1) B (by assumption) (by assumption) N2 (by assumption) rfl (Nat.le_of_ble_eq_true rfl) rfl (Nat.le_of_ble_eq_true rfl) ?_
        intro r n' h' tk' hq5
        refine ex10 hq5 fun ts' j t hs' nh' row rv se' tse' tn' hp6 => ?_
        clear hq5
        have hsm := hp6.1
        have hA' := hp6.2.1
        have hj := hp6.2.2.1
        have eq7 := hp6.2.2.2.1
        have hH' := hp6.2.2.2.2.1
        have hrv := hp6.2.2.2.2.2.1
        have hfr := hp6.2.2.2.2.2.2.1
        have eq8 := hp6.2.2.2.2.2.2.2
        clear hp6
        subst eq7
        subst eq8
        intro F' N'
        have emx : mx now j0 = j0 := by unfold mx; split <;> omega
        rw [emx] at hA' hfr N'
        have hS2 := hS1.wake (j := j0) (by omega)
        rw [settle_map, List.map_map] at hA'
        have fR : Fresh y (tas ts) c k ((D, LCg.lst lv) :: ex) row := by rw [← same_tas hsm]; exact Fresh.of hfr
        obtain ⟨Z, hZ⟩ : ∃ Z, Z = full w k y c vs j0 tn' se' tse' ts' hs' nh' (rr ++ [.ref row]) (nr + 1) o5 atv nat duv ndu ((D, LCg.lst lv) :: ex) := ⟨_, rfl⟩
        replace N' : News h₀ k.L h' ((D, LCg.lst lv) :: (row, LCg.lst rv) :: Z) := News.sub N' fun p hp => by
          rcases List.mem_cons.mp hp with rfl | hp
          · exact .tail _ fullH
          · rw [hZ] at hp; exact hp
        k_steps
        rename News _ _ _ _ => N3
        subst hZ
        refine hnext D lv _ j0 tn' se' tse' ts' _ j t hs' nh' row rv _ _ rfl hlv fD fR (.inr ⟨hq, hj3, hj4⟩) hS2 hsm hA' hj hH' hrv (by assumption) (News.sub N3 fun p hp => .tail _ (.tail _ hp))
      · refine Spec.use (pick_ready y now tn se tse vs ts c hs nh rr nr (lawl k o5 atv nat duv ndu ((D, LCg.lst lv) :: ex)) _ hyc (farD.good hv hvl) (farD.goodC Cok) hA hnd hH hrr (by rw [settle_map, hS1.any_rdy]; simpa using hq)) B (by assumption) (by assumption) N2 (by assumption) rfl (Nat.le_of_ble_eq_true rfl) rfl (Nat.le_of_ble_eq_true rfl) ?_
        intro r n' h' tk' hq9
        refine ex9 hq9 fun ts' j t hs' nh' row rv se' tse' hp10 => ?_
        clear hq9
        have hsm := hp10.1
        have hA' := hp10.2.1
        have hj := hp10.2.2.1
        have eq11 := hp10.2.2.2.1
        have hH' := hp10.2.2.2.2.1
        have hrv := hp10.2.2.2.2.2.1
        have hfr := hp10.2.2.2.2.2.2.1
        have eq12 := hp10.2.2.2.2.2.2.2
        clear hp10
        subst eq11
        subst eq12
        intro F' N'
        rw [settle_map] at hA'
        have fR : Fresh y (tas ts) c k ((D, LCg.lst lv) :: ex) row := by rw [← same_tas hsm]; exact Fresh.of hfr
        obtain ⟨Z, hZ⟩ : ∃ Z, Z = full w k y c vs now tn se' tse' ts' hs' nh' (rr ++ [.ref row]) (nr + 1) o5 atv nat duv ndu ((D, LCg.lst lv) :: ex) := ⟨_, rfl⟩
        replace N' : News h₀ k.L h' ((D, LCg.lst lv) :: (row, LCg.lst rv) :: Z) := News.sub N' fun p hp => by
          rcases List.mem_cons.mp hp with rfl | hp
          · exact .tail _ fullH
          · rw [hZ] at hp; exact hp
        k_steps
        rename News _ _ _ _ => N3
        subst hZ
        refine hnext D lv _ now tn se' tse' ts' _ j t hs' nh' row rv _ _ rfl hlv fD fR (.inl ⟨rfl, hq⟩) hS1 hsm hA' hj hH' hrv (by assumption) (News.sub N3 fun p hp => .tail _ (.tail _ hp))
theorem freshT5 : True := by
  k_with_none
  (k_with "CJ" => (first | with_reducible assumption | with_reducible exact And.left (by first | with_reducible assumption | with_reducible exact And.right (by first | with_reducible assumption | with_reducible exact And.right (by first | with_reducible assumption | with_reducible exact And.right (by first | with_reducible assumption | with_reducible exact And.right (by first | with_reducible assumption | with_reducible exact And.right (by first | with_reducible assumption | with_reducible exact And.right (by first | with_reducible assumption | with_reducible exact And.right (by first | with_reducible assumption | with_reducible exact And.right (by first | with_reducible assumption | with_reducible exact And.right (by first | with_reducible assumption | with_reducible exact And.right (by first | with_reducible assumption | with_reducible exact And.right (by first | with_reducible assumption | with_reducible exact And.right (by first | with_reducible assumption | with_reducible exact And.right (by first | with_reducible assumption | with_reducible exact And.right (by first | with_reducible assumption | with_reducible exact And.right (by first | with_reducible assumption | with_reducible exact And.right (by first | with_reducible assumption | with_reducible exact And.right (by first | with_reducible assumption | with_reducible exact And.right (by first | with_reducible assumption | with_reducible exact And.right (by first | with_reducible assumption | with_reducible exact And.right (by first | with_reducible assumption | with_reducible exact And.right (by first | with_reducible assumption | with_reducible exact And.right (by with_reducible assumption)))))))))))))))))))))))))
  (k_with "execs cons" => (k_here; (fail_if_success (fail_if_success k_gentoks)); (with_reducible refine gen_toks ?_); intro tk))
  (k_with "execs nil" => (k_here; (fail_if_success (fail_if_success k_gentoks)); (with_reducible refine gen_toks ?_); intro tk))
  w_top off
  trivial
/-- what holds between the turns -/
structure TI (k : LC) (ts : List TR) (now : Int) (rr : List Value) (o5 : Obj) (atv duv : List Value) (ats dus : List Int) (tnw : Tok) (σ : Int → AS) (hs : List Value) (i : Nat) : Prop where
  d5 : o5.data = .cell (some (.int now tnw))
  hat : IntsAre atv ats
  hdu : IntsAre duv dus
  hA : All2 Is ts ((nats k.rows.length).map σ)
  hS : Stand k.rows.length (fun i => decide (ats.getD i.toNat 0 ≤ lenF k i)) (fun i => dus.getD i.toNat 0) now σ
  hH : Hand hs
  hrr : rr.length = i
  lat : ats.length = k.rows.length
  ldu : dus.length = k.rows.length
  hnum : ts.map (·.num) = (nats k.rows.length).map (· + 1)
  hq : ∀ t ∈ ts, (t.q == sysModules) = false
  sum : ats.sum = (i : Int)
  atb : ∀ j ∈ nats k.rows.length, 0 ≤ ats.getD j.toNat 0 ∧ ats.getD j.toNat 0 ≤ lenF k j + 1
theorem fr_swap {h₀ h : Heap} {L : Addr} {a b : Option Value} {m : Str → Option Value} (F : Fr h₀ L h (fun z => if z = "task" then a else if z = "left" then b else m z)) : Fr h₀ L h (fun z => if z = "left" then b else if z = "task" then a else m z) := by
  have e : (fun z : Str => if z = "task" then a else if z = "left" then b else m z) = (fun z : Str => if z = "left" then b else if z = "task" then a else m z) := by
    funext z
    by_cases h1 : z = "left"
    · subst h1
      rw [if_neg (by decide), if_pos rfl, if_pos rfl]
    · rw [if_neg h1, if_neg h1]
  rw [← e]; exact F
theorem fr_swap' {h₀ h : Heap} {L : Addr} {a b : Option Value} {m : Str → Option Value} (F : Fr h₀ L h (fun z => if z = "left" then b else if z = "task" then a else m z)) : Fr h₀ L h (fun z => if z = "task" then a else if z = "left" then b else m z) := by
  have e : (fun z : Str => if z = "task" then a else if z = "left" then b else m z) = (fun z : Str => if z = "left" then b else if z = "task" then a else m z) := by
    funext z
    by_cases h1 : z = "left"
    · subst h1
      rw [if_neg (by decide), if_pos rfl, if_pos rfl]
    · rw [if_neg h1, if_neg h1]
  rw [e]; exact F
noncomputable abbrev formY (w : World) (k : LC) (y : SY) (c : CH) (vs : List Value) (now : Int) (tn : Tok) (se : Int) (tse : Tok) (row : Addr) (rv : List Value) (t : TR) (pre post : List TR) (hs : List Value) (nh : Nat) (rr : List Value) (nr : Nat) (atv : List Value) (nat : Nat) (ex : Led) : Led :=
  (row, LCg.lst rv) :: (c.RR, W.listOf rr.toArray nr) :: (c.cR, c.oR) :: (k.AT, W.listOf atv.toArray nat) :: (k.c1, k.o1) :: (k.c2, k.o2) :: (k.c3, k.o3) :: (k.SL, W.listOf (rvals k.rows).toArray k.nSL) ::
    tl w t (syl w y now tn se tse vs (rls k.rows (tls w pre (tls w post (chl c hs nh rr nr ex)))))
section
variable {w : World} {k : LC} {y : SY} {c : CH} {vs : List Value} {now : Int} {tn : Tok} {se : Int} {tse : Tok} {t : TR} {ts pre post : List TR} {hs : List Value} {nh : Nat} {rr : List Value} {nr : Nat} {o5 : Obj} {atv : List Value} {nat : Nat} {duv : List Value} {ndu : Nat} {ex : Led} {p : Addr × Obj} {D row : Addr} {lv rv : List Value}
theorem fullT {p0 : Addr × Obj} (h : p ∈ full w k y c vs now tn se tse ts hs nh rr nr o5 atv nat duv ndu ex) : p ∈ full w k y c vs now tn se tse ts hs nh rr nr o5 atv nat duv ndu (p0 :: ex) := by
  rcases mem_syl.mp h with h | h
  · exact mem_syl.mpr (.inl h)
  rcases mem_tls.mp h with h | h
  · exact mem_syl.mpr (.inr (mem_tls.mpr (.inl h)))
  rcases mem_chl.mp h with h | h
  · exact mem_syl.mpr (.inr (mem_tls.mpr (.inr (mem_chl.mpr (.inl h)))))
  rcases mem_lawl.mp h with h | h | h
  · exact mem_syl.mpr (.inr (mem_tls.mpr (.inr (mem_chl.mpr (.inr (mem_lawl.mpr (.inl h)))))))
  · exact mem_syl.mpr (.inr (mem_tls.mpr (.inr (mem_chl.mpr (.inr (mem_lawl.mpr (.inr (.inl h))))))))
  · exact mem_syl.mpr (.inr (mem_tls.mpr (.inr (mem_chl.mpr (.inr (mem_lawl.mpr (.inr (.inr (.tail _ h)))))))))
theorem fullS (h : p ∈ syl w y now tn se tse vs []) : p ∈ full w k y c vs now tn se tse ts hs nh rr nr o5 atv nat duv ndu ex := mem_syl.mpr (.inl h)
theorem fullTs (h : ∃ t ∈ ts, p ∈ tl w t []) : p ∈ full w k y c vs now tn se tse ts hs nh rr nr o5 atv nat duv ndu ex := mem_syl.mpr (.inr (mem_tls.mpr (.inl h)))
theorem fullC (h : p ∈ chl c hs nh rr nr []) : p ∈ full w k y c vs now tn se tse ts hs nh rr nr o5 atv nat duv ndu ex := mem_syl.mpr (.inr (mem_tls.mpr (.inr (mem_chl.mpr (.inl h)))))
theorem fullL (h : p ∈ [(k.c5, o5), (k.AT, W.listOf atv.toArray nat), (k.DU, W.listOf duv.toArray ndu), (k.c1, k.o1), (k.c2, k.o2), (k.c3, k.o3), (k.c4, k.o4), (k.SL, W.listOf (rvals k.rows).toArray k.nSL)]) : p ∈ full w k y c vs now tn se tse ts hs nh rr nr o5 atv nat duv ndu ex := mem_syl.mpr (.inr (mem_tls.mpr (.inr (mem_chl.mpr (.inr (mem_lawl.mpr (.inl h)))))))
theorem fullR (h : ∃ r ∈ k.rows, p = (r.a, LCg.lst r.vs)) : p ∈ full w k y c vs now tn se tse ts hs nh rr nr o5 atv nat duv ndu ex := mem_syl.mpr (.inr (mem_tls.mpr (.inr (mem_chl.mpr (.inr (mem_lawl.mpr (.inr (.inl h))))))))
theorem fullE (h : p ∈ ex) : p ∈ full w k y c vs now tn se tse ts hs nh rr nr o5 atv nat duv ndu ex := mem_syl.mpr (.inr (mem_tls.mpr (.inr (mem_chl.mpr (.inr (mem_lawl.mpr (.inr (.inr h))))))))
theorem toY (h : p ∈ (k.c5, o5) :: (D, LCg.lst lv) :: (k.DU, W.listOf duv.toArray ndu) :: (k.c4, k.o4) :: formY w k y c vs now tn se tse row rv t pre post hs nh rr nr atv nat ex) :
    p ∈ (row, LCg.lst rv) :: full w k y c vs now tn se tse (pre ++ t :: post) hs nh rr nr o5 atv nat duv ndu ((D, LCg.lst lv) :: ex) := by
  rcases List.mem_cons.mp h with rfl | h
  · exact .tail _ (fullL (.head _))
  rcases List.mem_cons.mp h with rfl | h
  · exact .tail _ (fullE (.head _))
  rcases List.mem_cons.mp h with rfl | h
  · exact .tail _ (fullL (.tail _ (.tail _ (.head _))))
  rcases List.mem_cons.mp h with rfl | h
  · exact .tail _ (fullL (.tail _ (.tail _ (.tail _ (.tail _ (.tail _ (.tail _ (.head _))))))))
  rcases List.mem_cons.mp h with rfl | h
  · exact .head _
  refine .tail _ ?_
  rcases List.mem_cons.mp h with rfl | h
  · exact fullC (.tail _ (.head _))
  rcases List.mem_cons.mp h with rfl | h
  · exact fullC (.tail _ (.tail _ (.tail _ (.tail _ (.head _)))))
  rcases List.mem_cons.mp h with rfl | h
  · exact fullL (.tail _ (.head _))
  rcases List.mem_cons.mp h with rfl | h
  · exact fullL (.tail _ (.tail _ (.tail _ (.head _))))
  rcases List.mem_cons.mp h with rfl | h
  · exact fullL (.tail _ (.tail _ (.tail _ (.tail _ (.head _)))))
  rcases List.mem_cons.mp h with rfl | h
  · exact fullL (.tail _ (.tail _ (.tail _ (.tail _ (.tail _ (.head _))))))
  rcases List.mem_cons.mp h with rfl | h
  · exact fullL (.tail _ (.tail _ (.tail _ (.tail _ (.tail _ (.tail _ (.tail _ (.head _))))))))
  rcases mem_tl.mp h with h | h
  · exact fullTs ⟨t, List.mem_append_right _ (.head _), h⟩
  rcases mem_syl.mp h with h | h
  · exact fullS h
  rcases mem_formU.mp h with h | ⟨t', ht, h⟩ | ⟨t', ht, h⟩ | h | h
  · exact fullR h
  · exact fullTs ⟨t', List.mem_append_left _ ht, h⟩
  · exact fullTs ⟨t', List.mem_append_right _ (.tail _ ht), h⟩
  · exact fullC h
  · exact fullE (.tail _ h)
theorem ofY (h : p ∈ formT w k y c vs now tn se tse D row lv rv t pre post hs nh rr nr o5 atv nat duv ndu ex) :
    p ∈ (k.c5, o5) :: (D, LCg.lst lv) :: (k.DU, W.listOf duv.toArray ndu) :: (k.c4, k.o4) :: formY w k y c vs now tn se tse row rv t pre post hs nh rr nr atv nat ex := by
  have key : ∀ (l l' : Led) (q : Led), (∀ p ∈ l, p ∈ l') → p ∈ l ++ q → p ∈ l' ++ q := fun l l' q hl h => (List.mem_append.mp h).elim (fun h => List.mem_append_left _ (hl _ h)) fun h => List.mem_append_right _ h
  refine key [_, _, _, _, _, _, _, _, _, _, _, _] [_, _, _, _, _, _, _, _, _, _, _, _] (tl w t (syl w y now tn se tse vs (rls k.rows (tls w pre (tls w post (chl c hs nh rr nr ex)))))) ?_ h
  iterate 12 refine List.forall_mem_cons.mpr ⟨by k_mem, ?_⟩
  exact List.forall_mem_nil _
theorem Far.off5 (f : Far y (tas (pre ++ t :: post)) c k ex) (fD : Fresh y (tas (pre ++ t :: post)) c k ex D) (fR : Fresh y (tas (pre ++ t :: post)) c k ex row) :
    ∀ p ∈ ((D, LCg.lst lv) :: (k.DU, W.listOf duv.toArray ndu) :: (k.c4, k.o4) :: formY w k y c vs now tn se tse row rv t pre post hs nh rr nr atv nat ex), p.1 ≠ k.c5 := by
  have hd : k.c5 ∈ la k := by simp [la]
  have hl := (la_ne f.nl).2.2
  intro p h
  rcases List.mem_cons.mp h with rfl | h
  · exact Ne.symm (fD.fl _ hd)
  rcases List.mem_cons.mp h with rfl | h
  · exact hl _ (.tail _ (.head _))
  rcases List.mem_cons.mp h with rfl | h
  · exact hl _ (.tail _ (.tail _ (.tail _ (.tail _ (.tail _ (.head _))))))
  rcases List.mem_cons.mp h with rfl | h
  · exact Ne.symm (fR.fl _ hd)
  rcases List.mem_cons.mp h with rfl | h
  · exact f.cl _ (.tail _ (.head _)) _ hd
  rcases List.mem_cons.mp h with rfl | h
  · exact f.cl _ (.tail _ (.tail _ (.tail _ (.tail _ (.head _))))) _ hd
  rcases List.mem_cons.mp h with rfl | h
  · exact hl _ (.head _)
  rcases List.mem_cons.mp h with rfl | h
  · exact hl _ (.tail _ (.tail _ (.head _)))
  rcases List.mem_cons.mp h with rfl | h
  · exact hl _ (.tail _ (.tail _ (.tail _ (.head _))))
  rcases List.mem_cons.mp h with rfl | h
  · exact hl _ (.tail _ (.tail _ (.tail _ (.tail _ (.head _)))))
  rcases List.mem_cons.mp h with rfl | h
  · exact hl _ (.tail _ (.tail _ (.tail _ (.tail _ (.tail _ (.tail _ (.head _)))))))
  rcases mem_tl.mp h with h | h
  · exact f.tl _ (tas_own (mem_tl_ta h)) _ hd
  rcases mem_syl.mp h with h | h
  · exact f.yl _ (syl_ya h) _ hd
  exact offU (fun a ha => Ne.symm (f.lr _ hd _ ha)) (fun a ha => f.tl _ (tas_sub ha) _ hd) (fun a ha => f.cl _ ha _ hd) (fun a ha => Ne.symm (f.lx _ hd _ ha)) p h
theorem Fresh.tlx {tA : List Addr} {d : Addr} {p0 : Addr × Obj} (f : Fresh y tA c k (p0 :: ex) d) : Fresh y tA c k ex d := ⟨f.fy, f.ft, f.fc, f.fl, f.fr, fun a ha => f.fx a (.tail _ ha)⟩
end
theorem same_nums' {a b : List TR} (h : All2 Same a b) : b.map (·.num) = a.map (·.num) := by
  induction h with
  | nil => rfl
  | cons x _ ih => simp only [List.map_cons, ih, x.2.1]
theorem same_q {a b : List TR} (h : All2 Same a b) (hq : ∀ t ∈ a, (t.q == sysModules) = false) : ∀ t ∈ b, (t.q == sysModules) = false := by
  induction h with
  | nil => exact fun _ h => nomatch h
  | cons x _ ih =>
    intro t ht
    rcases List.mem_cons.mp ht with rfl | ht
    · have e : t.q = _ := (List.cons.inj (List.cons.inj (List.cons.inj x.1).2).2).1
      rw [e]; exact hq _ (.head _)
    · exact ih (fun t ht => hq t (.tail _ ht)) t ht
theorem same_mid {pre post : List TR} {t t' : TR} (h : Same t t') : All2 Same (pre ++ t :: post) (pre ++ t' :: post) := (same_refl pre).append (.cons h (same_refl post))
/-- the law of a turn: what holds behind it -/
theorem TI.step {k : LC} {ts pre post : List TR} {now : Int} {rr : List Value} {o5 : Obj} {atv duv : List Value} {ats dus : List Int} {tnw : Tok} {σ : Int → AS} {hs : List Value} {i : Nat} (I : TI k ts now rr o5 atv duv ats dus tnw σ hs i)
    {now1 : Int} {σ1 : Int → AS} {t t' : TR} {o5' : Obj} {tnw' : Tok} {hs' atv' duv' : List Value} {dus' : List Int} {row : Addr} {r : RW}
    (hS1 : Stand1 k.rows.length (fun i => decide (ats.getD i.toNat 0 ≤ lenF k i)) (fun i => dus.getD i.toNat 0) now1 σ1) (hsm : All2 Same ts (pre ++ t :: post)) (hA1 : All2 Is (pre ++ t :: post) ((nats k.rows.length).map σ1))
    (hnum : t.num = (pre.length : Int) + 1) (hpl : pre.length < k.rows.length) (hp : ats.getD pre.length 0 ≤ lenF k (pre.length : Int)) (hrl : lenF k (pre.length : Int) = r.ns.length)
    (hs1 : Same t t') (hat' : IntsAre atv' (ats.set (t.num - 1).toNat (ats.getD (t.num - 1).toNat 0 + 1))) (hdu' : IntsAre duv' dus')
    (hc : (ats.getD (t.num - 1).toNat 0 = (r.ns.length : Int) ∧ Is t' .cmp ∧ dus' = dus) ∨ (ats.getD (t.num - 1).toNat 0 < (r.ns.length : Int) ∧ ∃ d : Int, Is t' (if d > 0 then .slp (now1 + d) else .rdy) ∧ dus' = dus.set (t.num - 1).toNat (if d > 0 then now1 + d else now1)))
    (d5' : o5'.data = .cell (some (.int now1 tnw'))) (hH' : Hand hs') : ∃ ats' σ', TI k (pre ++ t' :: post) now1 (rr ++ [.ref row]) o5' atv' duv' ats' dus' tnw' σ' hs' (i + 1) := by
  have en : (t.num - 1).toNat = pre.length := by omega
  rw [en] at hat' hc
  obtain ⟨a0, ha0⟩ : ∃ a0, a0 = ats.getD pre.length 0 := ⟨_, rfl⟩
  have hb := I.atb (pre.length : Int) (mem_nats.mpr ⟨by omega, by omega⟩)
  rw [Int.toNat_natCast, ← ha0] at hb
  rw [← ha0] at hp hat' hc
  have hla : pre.length < ats.length := by rw [I.lat]; exact hpl
  obtain ⟨b, hb1, hb2, hl', hst, hdl⟩ : ∃ b : AS, Is t' b ∧ (∀ j ∈ nats k.rows.length, j ≠ (pre.length : Int) → dus'.getD j.toNat 0 = dus.getD j.toNat 0) ∧ dus'.length = k.rows.length ∧
      ((decide (a0 + 1 ≤ lenF k (pre.length : Int)) = true → b = if dus'.getD pre.length 0 ≤ now1 then .rdy else .slp (dus'.getD pre.length 0)) ∧ (decide (a0 + 1 ≤ lenF k (pre.length : Int)) = false → b = .cmp ∨ b = .fin)) ∧ True := by
    rcases hc with ⟨h1, h2, rfl⟩ | ⟨h1, d, h2, rfl⟩
    · refine ⟨.cmp, h2, fun _ _ _ => rfl, I.ldu, ⟨fun h => ?_, fun _ => .inl rfl⟩, trivial⟩
      exfalso
      have := of_decide_eq_true h
      omega
    · have hld : pre.length < dus.length := by rw [I.ldu]; exact hpl
      refine ⟨_, h2, fun j hj hne => ?_, by rw [List.length_set]; exact I.ldu, ⟨fun _ => ?_, fun h => ?_⟩, trivial⟩
      · have := mem_nats.mp hj
        rw [getD_set hld, if_neg (by omega)]
      · rw [getD_set hld, if_pos rfl]
        by_cases hd : d > 0
        · rw [if_pos hd, if_pos hd, if_neg (by omega)]
        · rw [if_neg hd, if_neg hd, if_pos (by omega)]
      · exfalso
        have := of_decide_eq_false h
        omega
  refine ⟨_, fun j => if j = (pre.length : Int) then b else σ1 j, d5', hat', hdu', ?_, ?_, hH', ?_, ?_, hl', ?_, ?_, ?_, ?_⟩
  · rw [map_set_nats hpl, set_mid (t := t) (t' := t')]
    exact hA1.set hb1
  · intro j hj
    have hj' := mem_nats.mp hj
    dsimp only
    have h0 := hS1.weak j hj
    by_cases e : j = (pre.length : Int)
    · subst e
      have e1 : (ats.set pre.length (a0 + 1)).getD ((pre.length : Int)).toNat 0 = a0 + 1 := by rw [Int.toNat_natCast, getD_set hla, if_pos rfl]
      rw [if_pos rfl]
      refine ⟨fun hp' => ?_, fun hp' => ?_⟩
      · exact hst.1 (decide_eq_true (by rw [← e1]; exact of_decide_eq_true hp'))
      · exact hst.2 (decide_eq_false (by rw [← e1]; exact of_decide_eq_false hp'))
    · have e1 : (ats.set pre.length (a0 + 1)).getD j.toNat 0 = ats.getD j.toNat 0 := by rw [getD_set hla, if_neg (by omega)]
      have e2 := hb2 j hj e
      rw [if_neg e]
      refine ⟨fun hp' => ?_, fun hp' => ?_⟩
      · rw [h0.1 (decide_eq_true (by rw [← e1]; exact of_decide_eq_true hp'))]
        simp only [e2]
      · exact h0.2 (decide_eq_false (by rw [← e1]; exact of_decide_eq_false hp'))
  · rw [List.length_append, I.hrr]; rfl
  · rw [List.length_set]; exact I.lat
  · rw [same_nums' (same_mid hs1), same_nums' hsm]; exact I.hnum
  · exact same_q (same_trans hsm (same_mid hs1)) I.hq
  · rw [ha0, sum_set _ _ hla, I.sum]; omega
  · intro j hj
    have hj' := mem_nats.mp hj
    have h1 := I.atb j hj
    rw [getD_set hla]
    by_cases e : j = (pre.length : Int)
    · subst e
      rw [Int.toNat_natCast, if_pos rfl]
      omega
    · rw [if_neg (by omega)]
      exact h1
theorem turn_spec {w : World} {pr : Program} {loose : List Str} {mean : ExcName → Option Value} {mg mb : Str → Option Value} {base h₀ : Heap} {m : Str → Option Value} {s : Shared} {Q : Flow → Shared → Prop} {E : Value → Shared → Prop}
    (k : LC) (y : SY) (c : CH) (vs : List Value) (now : Int) (tn : Tok) (se : Int) (tse : Tok) (ts : List TR) (hs : List Value) (nh : Nat) (rr : List Value) (nr : Nat) (o5 : Obj) (atv : List Value) (nat : Nat) (duv : List Value) (ndu : Nat) (ex : Led) (ats dus : List Int) (tnw : Tok) (σ : Int → AS) (i : Nat)
    (B : Below callerA base [] h₀) (X : (Mine.hd.heap_39 w.params).In h₀) (T : Top pr loose mean mg mb h₀)
    (K : k.Ok y c) (Cok : c.Ok) (hyc : y.choose = .ref c.ch) (far : Far y (tas ts) c k ex) (hv : vals ts = vs) (I : TI k ts now rr o5 atv duv ats dus tnw σ hs i) (hi : i < 40)
    (F : Fr h₀ k.L s.heap m) (N : News h₀ k.L s.heap (full w k y c vs now tn se tse ts hs nh rr nr o5 atv nat duv ndu ex))
    (hret : ∀ m' h' tk', Fr h₀ k.L h' m' → News h₀ k.L h' ex → Q (.ret (.bool true)) { s with heap := h', toks := tk' })
    (hnext : ∀ (now' : Int) (tn' : Tok) (se' : Int) (tse' : Tok) (ts' : List TR) (hs' : List Value) (nh' : Nat) (rr' : List Value) (nr' : Nat) (o5' : Obj) (atv' duv' : List Value) (ats' dus' : List Int) (tnw' : Tok) (σ' : Int → AS) (m' : Str → Option Value) (h' : Heap) (tk' : Nat),
      All2 Same ts ts' → TI k ts' now' rr' o5' atv' duv' ats' dus' tnw' σ' hs' (i + 1) → Fr h₀ k.L h' m' → News h₀ k.L h' (full w k y c vs now' tn' se' tse' ts' hs' nh' rr' nr' o5' atv' nat duv' ndu ex) → Q .next { s with heap := h', toks := tk' }) :
    wpAny (model PySem.Challenge.pw_pb0024_01 w) (callerA.deeper (lawEnv k.L k.fa (.ref 419))) (execs turnBody (lawEnv k.L k.fa (.ref 419))) Q E s := by
  refine turn0 k y c vs now tn se tse ts hs nh rr nr o5 atv nat duv ndu ex ats dus σ B X T K Cok hyc far hv I.hnum I.hat I.hA I.hS I.hH (by rw [I.hrr]; omega) I.lat F N hret ?_
  rintro D lv left now1 tn1 se1 tse1 ts1 σ1 j t hs1 nh1 row rv h1 tk1 hleft hlv fD fR hnow hS1 hsm hA1 hj hH1 hrv F1 N1
  have hnum1 : ts1.map (·.num) = (nats k.rows.length).map (· + 1) := by rw [same_nums' hsm]; exact I.hnum
  have hrows := hS1.rows hA1 hnum1
  rw [← hleft] at hrows
  rw [hrows] at hrv
  have htf : t ∈ ts1.filter isR := List.mem_of_getElem? hj
  obtain ⟨ht1, htR⟩ := List.mem_filter.mp htf
  obtain ⟨q, hq⟩ := List.getElem?_of_mem ht1
  have hql : q < ts1.length := (List.getElem?_eq_some_iff.mp hq).1
  have hqn : q < k.rows.length := by
    have := hA1.length
    rw [List.length_map, nats_len] at this
    omega
  have hnumt : t.num = (q : Int) + 1 := by
    have e1 : (ts1.map (·.num))[q]? = some t.num := by rw [List.getElem?_map, hq]; rfl
    rw [hnum1, List.getElem?_map, nats_get hqn] at e1
    exact (Option.some.inj e1).symm
  have hqL : (q : Int) ∈ left.filter fun i => decide (dus.getD i.toNat 0 ≤ now1) := by
    rw [← hrows]
    exact List.mem_map.mpr ⟨t, htf, by omega⟩
  obtain ⟨hqL1, hqL2⟩ := List.mem_filter.mp hqL
  rw [hleft] at hqL1
  obtain ⟨hqN, hqP⟩ := List.mem_filter.mp hqL1
  have hqP' := of_decide_eq_true hqP
  have hqD := of_decide_eq_true hqL2
  have hIs : Is t .rdy := by
    obtain ⟨b, hb, hI⟩ := hA1.get hq
    rw [List.getElem?_map, nats_get hqn] at hb
    have hb : σ1 (q : Int) = b := Option.some.inj hb
    rw [(hS1 (q : Int) hqN).1 hqP, if_pos hqD] at hb
    rw [hb]; exact hI
  obtain ⟨r, hr1, hrm, hrl, hrv1⟩ := lenF_get (k := k) (i := (q : Int)) (by omega) (by omega)
  have hsp := at_split hq
  obtain ⟨pre, post, hpre, hts⟩ : ∃ pre post, pre.length = q ∧ ts1 = pre ++ t :: post := ⟨ts1.take q, ts1.drop (q + 1), by rw [List.length_take]; omega, hsp⟩
  subst hts
  have hb := I.atb (q : Int) hqN
  have hleftm : ∀ i ∈ left, 0 ≤ i ∧ i < k.rows.length := fun i hi => by
    rw [hleft] at hi
    exact mem_nats.mp (List.mem_filter.mp hi).1
  have hleft2 : left.length ≤ 100 := by
    rw [hleft]
    refine Nat.le_trans (List.length_filter_le ..) ?_
    rw [nats_len]
    have := K.rowCnt
    omega
  have etas := same_tas hsm
  rw [← etas] at far fD fR
  have fR' := fR.tlx
  refine turn3 k D lv o5 duv ndu dus left tnw now now1 (formY w k y c vs now1 tn1 se1 tse1 row rv t pre post hs1 nh1 (rr ++ [.ref row]) (nr + 1) atv nat ex) B X T K.d4 I.d5 I.hdu I.ldu K.rowCnt hlv hleftm hleft2
    (far.off5 fD fR') hnow (fr_swap F1) (News.sub N1 fun p hp => toY hp) ?_
  intro o5' tnw' h2 tk2 d5' F2 N2
  refine turn4 k y c vs now1 tn1 se1 tse1 D row lv rv t pre post hs1 nh1 rr (nr + 1) o5' atv nat duv ndu ex ats dus left tnw' B X T K Cok.dR d5' I.hat I.hdu I.lat I.ldu hlv hleftm hleft2 hrv (by rw [hpre]; exact hnumt) (by omega) (by rw [I.hrr]; omega)
    r hrm (by rw [hnumt, Int.add_sub_cancel]; exact hrv1) (by rw [hnumt, Int.add_sub_cancel]; exact hb.1) (by rw [hnumt, Int.add_sub_cancel, ← hrl]; exact hqP') hIs (tas_apart far.nt).1 (same_q hsm I.hq t (by first | k_mem | simp))
    (far.oA fD fR' K.cR hrm) (far.oD fD fR' K.cR hrm) (far.ot fD fR' K.cR hrm) (fr_swap' F2) (News.sub N2 fun p hp => ofY hp) ?_
  intro t' atv' duv' dus' m' h3 tk3 hst hat' hdu' hc F3 N3
  subst hpre
  rw [Int.toNat_natCast] at hqP'
  obtain ⟨ats', σ', I'⟩ := I.step (row := row) (r := r) hS1 hsm hA1 hnumt hqn hqP' hrl hst hat' hdu' hc d5' hH1
  exact hnext _ _ _ _ _ _ _ _ _ _ _ _ _ _ _ _ _ _ _ (same_trans hsm (same_mid hst)) I' F3 N3
theorem freshT6 : True := by
  k_with_none
  (k_with "CJ" => (first | with_reducible assumption | with_reducible exact And.left (by first | with_reducible assumption | with_reducible exact And.right (by first | with_reducible assumption | with_reducible exact And.right (by first | with_reducible assumption | with_reducible exact And.right (by first | with_reducible assumption | with_reducible exact And.right (by first | with_reducible assumption | with_reducible exact And.right (by first | with_reducible assumption | with_reducible exact And.right (by first | with_reducible assumption | with_reducible exact And.right (by first | with_reducible assumption | with_reducible exact And.right (by first | with_reducible assumption | with_reducible exact And.right (by first | with_reducible assumption | with_reducible exact And.right (by first | with_reducible assumption | with_reducible exact And.right (by first | with_reducible assumption | with_reducible exact And.right (by first | with_reducible assumption | with_reducible exact And.right (by first | with_reducible assumption | with_reducible exact And.right (by first | with_reducible assumption | with_reducible exact And.right (by first | with_reducible assumption | with_reducible exact And.right (by first | with_reducible assumption | with_reducible exact And.right (by first | with_reducible assumption | with_reducible exact And.right (by first | with_reducible assumption | with_reducible exact And.right (by first | with_reducible assumption | with_reducible exact And.right (by first | with_reducible assumption | with_reducible exact And.right (by first | with_reducible assumption | with_reducible exact And.right (by with_reducible assumption)))))))))))))))))))))))))
  (k_with "execs cons" => (k_here; (fail_if_success (fail_if_success k_gentoks)); (with_reducible refine gen_toks ?_); intro tk))
  (k_with "execs nil" => (k_here; (fail_if_success (fail_if_success k_gentoks)); (with_reducible refine gen_toks ?_); intro tk))
  w_top off
  trivial
theorem rulesT6x1 : True := by
  (k_with "compareOp Eq str str" => (first | refine eqs_ff (by first | decide | (dsimp only; decide)) ?_ | refine eqs_tt (by first | decide | (dsimp only; decide)) ?_))
  (k_with "compareOp NotEq str str" => (first | refine nes_ff (by first | decide | (dsimp only; decide)) ?_ | refine nes_tt (by first | decide | (dsimp only; decide)) ?_))
  (k_with "exec" => ((k_here; (with_reducible show wpAny _ _ (exec (Stmt.While _ _ _ _) _) _ _ _); k_dflt (refine whl_startW ?_))))
  (k_with "WhlW" => ((dsimp only [WhlW])))
  (k_with "exec For Name Name cons nil" => (walk_at "WHOLE1"))
  (k_with "pyIter ref" => ((refine Wrap.out ?_)))
  (k_with "call ref" => ((k_here; (with_reducible show wpAny _ _ (call (Value.ref 410) _) _ _ _); k_dflt (refine' Spec.use (figure_spec ?u1 ?g1 ?g2) ?k1 ?k2 ?k3 ?k4 ?k5 ?k6 ?k7 ?k8 ?k9 ?_; (case k4 => k_asm); (case k1 => k_asm); (case k2 => k_asm); (case k3 => k_asm); (case k5 => k_asm); (case k8 => exact rfl); (case k6 => exact rfl); (case k7 => exact Nat.le_of_ble_eq_true rfl); (case k9 => exact Nat.le_of_ble_eq_true rfl); (case u1 => k_updF); (case g1 => assumption); (case g2 => omega)); refine cpsF ?_; walk_at "TAIL6")))
  (k_with "call ref" => ((k_here; (with_reducible show wpAny _ _ (call (Value.ref 49) _) _ _ _); k_dflt (refine' Spec.use (next_nil _ _ _ ?g1) ?k1 ?k2 ?k3 ?k4 ?k5 ?k6 ?k7 ?k8 ?k9 ?_; (case k4 => k_asm); (case k1 => k_asm); (case k2 => k_asm); (case k3 => k_asm); (case k5 => k_asm); (case k8 => exact rfl); (case k6 => exact rfl); (case k7 => exact Nat.le_of_ble_eq_true rfl); (case k9 => exact Nat.le_of_ble_eq_true rfl); (case g1 => k_mem); skip); refine cps2 ?_; walk_at "TAIL3")))
  (k_with "call ref" => ((k_here; (with_reducible show wpAny _ _ (call (Value.ref 49) _) _ _ _); k_dflt (refine' Spec.use (next_404 _ _ _ _ _ ?g1) ?k1 ?k2 ?k3 ?k4 ?k5 ?k6 ?k7 ?k8 ?k9 ?_; (case k4 => k_asm); (case k1 => k_asm); (case k2 => k_asm); (case k3 => k_asm); (case k5 => k_asm); (case k8 => exact rfl); (case k6 => exact rfl); (case k7 => exact Nat.le_of_ble_eq_true rfl); (case k9 => exact Nat.le_of_ble_eq_true rfl); (case g1 => k_mem); skip); refine cps2 ?_; walk_at "TAIL3")))
  (k_with "call type:range" => (walk_at "WHOLE3"))
  (k_with "CompSrc" => (walk_at "WHOLE4"))
  (k_with "CompSrcT" => (walk_at "WHOLE5"))
  (k_with "call builtin:len" => ((k_here; k_dflt (refine' lenS ?N ?m ?z ?_; (case N => k_asm); (case m => k_mem); (case z => assumption)))))
  (k_with "truthy ref" => ((k_here; k_dflt (refine' truthS ?N ?m ?z ?_; (case N => k_asm); (case m => k_mem); (case z => assumption)))))
  (k_with "subscriptTail" => ((k_here; (with_reducible show wpAny _ _ (subscriptTail _ _ (Value.ref (LC.SL _)) _) _ _ _); k_dflt (refine' item_spec ?k1 ?k2 ?k3 ?k4 ?k5 ?k6 ?_; (case k6 => assumption); (case k1 => k_asm); (case k2 => k_asm); (case k3 => k_mem); (case k4 => first | assumption | omega); (case k5 => omega)))))
  (k_with "call ref" => ((k_here; (with_reducible show wpAny _ _ (call (Value.ref 403) _) _ _ _); refine Wrap.out ?_)))
  (k_with "call ref" => ((k_here; (with_reducible show wpAny _ _ (call (Value.ref 284) _) _ _ _); refine Wrap.out ?_)))
  (k_with "call ref" => ((k_here; (with_reducible show wpAny _ _ (call (Value.ref 209) _) _ _ _); refine Wrap.out ?_)))
  (k_with "subscriptTail" => ((k_here; (with_reducible show wpAny _ _ (subscriptTail _ _ (Value.ref (CH.RR _)) _) _ _ _); k_dflt (refine' item_last ?k2 ?k3 ?k4 ?_; (case k2 => k_asm); (case k3 => k_mem); (case k4 => assumption)))))
  (k_with "subscriptTail" => ((k_here; (with_reducible show wpAny _ _ (subscriptTail _ _ (Value.ref (LC.AT _)) (Value.int _ _)) _ _ _); k_dflt (refine' PySem.W.ksa_sub ?k1 ?k2 ?k3 ?k4 ?k5 ?k6 ?_ ?k7; (case k1 => k_asm); (case k2 => k_mem); (case k3 => with_reducible assumption); (case k4 => first | assumption | omega); (case k5 => omega); (case k6 => omega); (case k7 => with_unfolding_all rfl); k_whole); walk_at "TAIL12")))
  (k_with "subscriptTail" => ((k_here; (with_reducible show wpAny _ _ (subscriptTail _ _ (Value.ref (LC.DU _)) (Value.int _ _)) _ _ _); k_dflt (refine' PySem.W.ksa_sub ?k1 ?k2 ?k3 ?k4 ?k5 ?k6 ?_ ?k7; (case k1 => k_asm); (case k2 => k_mem); (case k3 => with_reducible assumption); (case k4 => first | assumption | omega); (case k5 => omega); (case k6 => omega); (case k7 => with_unfolding_all rfl); k_whole); walk_at "TAIL12")))
  (k_with "subscriptTail" => ((k_here; (with_reducible show wpAny _ _ (subscriptTail _ _ (Value.ref (RW.a _)) (Value.int _ _)) _ _ _); k_dflt (refine' PySem.W.ksa_sub ?k1 ?k2 ?k3 ?k4 ?k5 ?k6 ?_ ?k7; (case k1 => k_asm); (case k2 => k_mem); (case k3 => with_reducible assumption); (case k4 => first | assumption | omega); (case k5 => omega); (case k6 => omega); (case k7 => with_unfolding_all rfl); k_whole); walk_at "TAIL12")))
  (k_with "setItem ref int" => ((k_here; (with_reducible show wpAny _ _ (setItem (Value.ref _) (Value.int _ _) (Value.int _ _)) _ _ _); k_dflt (refine' PySem.W.ksa_set ?k1 ?k2 ?k3 ?k4 ?k5 ?k6 ?k7 ?_; (case k1 => k_asm); (case k2 => k_asm); (case k3 => k_upd); (case k4 => with_reducible assumption); (case k5 => first | assumption | omega); (case k6 => omega); (case k7 => omega); k_whole); walk_at "TAIL13")))
  (k_with "compareOp NotEq ref ref" => ((k_here; k_dflt (refine' neL_same ?k1 ?k2 ?k3 ?k4 ?k5 ?k6 ?_; (case k1 => k_asm); (case k2 => k_mem); (case k3 => k_mem); (case k4 => with_reducible assumption); (case k5 => with_reducible assumption); (case k6 => exact Nat.le_of_ble_eq_true rfl)))))
  (k_with "compareOp Eq ref ref" => ((k_here; k_dflt (first | (refine' eqL_nil ?k1 ?k2 ?k3 ?k4 ?k5 ?k6 ?_; (case k1 => k_asm); (case k2 => k_mem); (case k3 => k_mem); (case k4 => with_reducible assumption); (case k5 => with_reducible assumption); (case k6 => exact Nat.le_of_ble_eq_true rfl)) | (refine' eqL_cons ?k1 ?k2 ?k3 ?k4 ?k5 ?k6 ?_; (case k1 => k_asm); (case k2 => k_mem); (case k3 => k_mem); (case k4 => with_reducible assumption); (case k5 => with_reducible assumption); (case k6 => exact Nat.le_of_ble_eq_true rfl))))))
  trivial
theorem TI.stop {k : LC} {ts : List TR} {now : Int} {rr : List Value} {o5 : Obj} {atv duv : List Value} {ats dus : List Int} {tnw : Tok} {σ : Int → AS} {hs : List Value} {i : Nat} {y : SY} {c : CH} (K : k.Ok y c) (I : TI k ts now rr o5 atv duv ats dus tnw σ hs i) : i < 40 := by
  have h1 : ats.sum ≤ 5 * ats.length := sum_le ats 5 fun x hx => by
    obtain ⟨j, hj⟩ := List.getElem?_of_mem hx
    have hjl : j < ats.length := (List.getElem?_eq_some_iff.mp hj).1
    have hjn : j < k.rows.length := by rw [← I.lat]; exact hjl
    have h2 := I.atb (j : Int) (mem_nats.mpr ⟨by omega, by omega⟩)
    obtain ⟨r, -, hr, hl, -⟩ := lenF_get (k := k) (i := (j : Int)) (by omega) (by omega)
    have h3 := (K.rowFew r hr).2
    have h4 : ats.getD ((j : Int)).toNat 0 = x := by rw [Int.toNat_natCast, List.getD_eq_getElem?_getD, hj]; rfl
    omega
  have h2 := I.sum
  have h3 := I.lat
  have h4 := K.rowCnt
  omega
theorem loop_spec {w : World} {pr : Program} {loose : List Str} {mean : ExcName → Option Value} {mg mb : Str → Option Value} {base h₀ : Heap} {m : Str → Option Value} {s : Shared} {Q : Flow → Shared → Prop}
    (k : LC) (y : SY) (c : CH) (vs : List Value) (now : Int) (tn : Tok) (se : Int) (tse : Tok) (ts : List TR) (hs : List Value) (nh : Nat) (rr : List Value) (nr : Nat) (o5 : Obj) (atv : List Value) (nat : Nat) (duv : List Value) (ndu : Nat) (ex : Led) (ats dus : List Int) (tnw : Tok) (σ : Int → AS)
    (B : Below callerA base [] h₀) (X : (Mine.hd.heap_39 w.params).In h₀) (T : Top pr loose mean mg mb h₀)
    (K : k.Ok y c) (Cok : c.Ok) (hyc : y.choose = .ref c.ch) (far : Far y (tas ts) c k ex) (hv : vals ts = vs) (I : TI k ts now rr o5 atv duv ats dus tnw σ hs 0)
    (F : Fr h₀ k.L s.heap m) (N : News h₀ k.L s.heap (full w k y c vs now tn se tse ts hs nh rr nr o5 atv nat duv ndu ex))
    (hret : ∀ m' h' tk', Fr h₀ k.L h' m' → News h₀ k.L h' ex → Q (.ret (.bool true)) { s with heap := h', toks := tk' }) :
    wpAny (model PySem.Challenge.pw_pb0024_01 w) (callerA.deeper (lawEnv k.L k.fa (.ref 419))) (execs (lawStmts.drop 12) (lawEnv k.L k.fa (.ref 419))) Q (fun _ _ => False) s := by
  have hMk : MarkW := trivial
  have e : lawStmts.drop 12 = lawStmts.drop 12 := rfl
  conv at e => rhs; whnf
  rw [e]
  clear e
  have e : lawScope = lawScope := rfl
  conv at e => rhs; whnf
  unfold lawEnv
  rw [e]
  have hcd := codeHd_of_K (c := 419) (P := 417) X (by kernel_rfl)
  replace hret := wrap_in hret
  obtain ⟨Z, hZ⟩ : ∃ Z, Z = full w k y c vs now tn se tse ts hs nh rr nr o5 atv nat duv ndu ex := ⟨_, rfl⟩
  rw [← hZ] at N
  k_steps
  rename IsRange _ _ _ _ _ _ _ _ => hR
  rename ∀ (b : Addr) (o : Obj), _ = some o → _ = some o => hkeep
  subst hZ
  refine wrap_in (range_for (n := 40) (fun i _ news => ∃ (now' : Int) (tn' : Tok) (se' : Int) (tse' : Tok) (ts' : List TR) (hs' : List Value) (nh' : Nat) (rr' : List Value) (nr' : Nat) (o5' : Obj) (atv' duv' : List Value) (ats' dus' : List Int) (tnw' : Tok) (σ' : Int → AS),
    news = full w k y c vs now' tn' se' tse' ts' hs' nh' rr' nr' o5' atv' nat duv' ndu ex ∧ All2 Same ts ts' ∧ TI k ts' now' rr' o5' atv' duv' ats' dus' tnw' σ' hs' i) (by rfl) hR (by rfl) (by decide) (by assumption) (by assumption)
    (fun _ _ => ⟨_, _, _, _, _, _, _, _, _, _, _, _, _, _, _, _, rfl, same_refl ts, I⟩) ?_ ?_)
  · intro It i m₁ _ hIt hi hq1
    refine ex16 hq1 fun now' tn' se' tse' ts' hs' nh' rr' nr' o5' atv' duv' ats' dus' tnw' σ' hp2 => ?_
    clear hq1
    have eq3 := hp2.1
    have hsm := hp2.2.1
    have I' := hp2.2.2
    clear hp2
    subst eq3
    intro t₁ h₁ tk₁ it hit F₁ N₁
    have etas := same_tas hsm
    have fI : Fresh y (tas ts') c k ex It := by rw [etas]; exact Fresh.of fun p hp => Nat.ne_of_lt (hIt p hp)
    rw [← etas] at far
    refine turn_spec k y c vs now' tn' se' tse' ts' hs' nh' rr' nr' o5' atv' nat duv' ndu ((It, it) :: ex) ats' dus' tnw' σ' i B X T K Cok hyc (far.cons fI) (by rw [same_vals hsm]; exact hv) I' hi F₁ (News.sub N₁ fun p hp => fullX hp) (fun m' h' tk' F' N' => hret m' h' tk' F' (News.tl N')) ?_
    intro now2 tn2 se2 tse2 ts2 hs2 nh2 rr2 nr2 o52 atv2 duv2 ats2 dus2 tnw2 σ2 m2 h2 tk2 hsm2 I2 F2 N2
    have fI2 : Fresh y (tas ts2) c k ex It := by rw [same_tas hsm2]; exact fI
    refine wrap_in ⟨h2, tk2, m2, full w k y c vs now2 tn2 se2 tse2 ts2 hs2 nh2 rr2 nr2 o52 atv2 nat duv2 ndu ex, rfl, F2, News.sub N2 fun p hp => ?_, fun p hp => ?_, _, _, _, _, _, _, _, _, _, _, _, _, _, _, _, _, rfl, same_trans hsm hsm2, I2⟩
    · rcases List.mem_cons.mp hp with rfl | hp
      · exact fullH
      · exact fullT hp
    · rcases full_at hp with h | h | h | h | h | h
      · exact fI2.fy _ h
      · exact fI2.ft _ h
      · exact fI2.fc _ h
      · exact fI2.fl _ h
      · exact fI2.fr _ h
      · exact fI2.fx _ h
  · intro m₁ _ hq4
    refine ex16 hq4 fun now' tn' se' tse' ts' hs' nh' rr' nr' o5' atv' duv' ats' dus' tnw' σ' hp5 => ?_
    clear hq4
    have eq6 := hp5.1
    have hsm := hp5.2.1
    have I' := hp5.2.2
    clear hp5
    subst eq6
    intro h₁ tk₁ F₁ N₁
    exact absurd (I'.stop K) (Nat.lt_irrefl _)
theorem freshS14 : True := by
  k_with_none
  (k_with "CJ" => (first | with_reducible assumption | with_reducible exact And.left (by first | with_reducible assumption | with_reducible exact And.right (by first | with_reducible assumption | with_reducible exact And.right (by first | with_reducible assumption | with_reducible exact And.right (by first | with_reducible assumption | with_reducible exact And.right (by first | with_reducible assumption | with_reducible exact And.right (by first | with_reducible assumption | with_reducible exact And.right (by first | with_reducible assumption | with_reducible exact And.right (by first | with_reducible assumption | with_reducible exact And.right (by first | with_reducible assumption | with_reducible exact And.right (by first | with_reducible assumption | with_reducible exact And.right (by first | with_reducible assumption | with_reducible exact And.right (by first | with_reducible assumption | with_reducible exact And.right (by first | with_reducible assumption | with_reducible exact And.right (by first | with_reducible assumption | with_reducible exact And.right (by first | with_reducible assumption | with_reducible exact And.right (by first | with_reducible assumption | with_reducible exact And.right (by first | with_reducible assumption | with_reducible exact And.right (by first | with_reducible assumption | with_reducible exact And.right (by first | with_reducible assumption | with_reducible exact And.right (by first | with_reducible assumption | with_reducible exact And.right (by first | with_reducible assumption | with_reducible exact And.right (by first | with_reducible assumption | with_reducible exact And.right (by with_reducible assumption)))))))))))))))))))))))))
  (k_with "execs cons" => (k_here; (fail_if_success (fail_if_success k_gentoks)); (with_reducible refine gen_toks ?_); intro tk))
  (k_with "execs nil" => (k_here; (fail_if_success (fail_if_success k_gentoks)); (with_reducible refine gen_toks ?_); intro tk))
  w_top off
  trivial
theorem rulesS14x1 : True := by
  (k_with "compareOp Eq str str" => (first | refine eqs_ff (by first | decide | (dsimp only; decide)) ?_ | refine eqs_tt (by first | decide | (dsimp only; decide)) ?_))
  (k_with "compareOp NotEq str str" => (first | refine nes_ff (by first | decide | (dsimp only; decide)) ?_ | refine nes_tt (by first | decide | (dsimp only; decide)) ?_))
  (k_with "exec" => ((k_here; (with_reducible show wpAny _ _ (exec (Stmt.While _ _ _ _) _) _ _ _); k_dflt (refine whl_startW ?_))))
  (k_with "WhlW" => ((dsimp only [WhlW])))
  (k_with "exec For Name Name cons nil" => (walk_at "WHOLE1"))
  (k_with "call builtin:len" => ((k_here; k_dflt (refine' lenS ?N ?m ?z ?_; (case N => k_asm); (case m => k_mem); (case z => assumption)))))
  (k_with "eval Dict nil nil" => ((k_here; k_dflt (refine' newDictL ?k1 ?k2 (TopRead.nolimit (by k_asm)) ?_; (case k1 => k_asm); (case k2 => k_asm); k_whole); walk_at "TAIL4")))
  trivial
theorem tes_mk (w : World) (a d q sv ms : Addr) {k0 k1 k2 k3 k4 k5 k6 k7 k8 k9 k10 k11 k12 k13 k14 k15 k16 k17 k18 k19 k20 k21 k22 k23 k24 k25 : Tok} {num : Int} {tn : Tok} {st : Str} {ts : Tok} {wk name master open_ late call raised answer inside pending failed stack frame result bases caught resume leaving line : Value} :
    dictOf [en w "number" k0 (.int num tn), en w "name" k1 name, en w "master" k2 master, en w "state" k3 (.str st ts), en w "queues" k4 (.ref q),
   en w "open" k5 open_, en w "wake" k6 wk, en w "late" k7 late, en w "call" k8 call, en w "serving" k9 (.ref sv), en w "masters" k10 (.ref ms),
   en w "raised" k11 raised, en w "answer" k12 answer, en w "is_abnormal" k13 (.bool false), en w "inside" k14 inside, en w "activator" k15 .none,
   en w "pending" k16 pending, en w "has_failed" k17 failed, en w "stack" k18 stack, en w "frame" k19 frame, en w "result" k20 result, en w "bases" k21 bases,
   en w "caught" k22 caught, en w "resume" k23 resume, en w "leaving" k24 leaving, en w "line" k25 line] 26 =
    dictOf (tes w ⟨a, d, q, sv, ms, fun i => [k0, k1, k2, k3, k4, k5, k6, k7, k8, k9, k10, k11, k12, k13, k14, k15, k16, k17, k18, k19, k20, k21, k22, k23, k24, k25].getD i 0, num, tn, st, ts, wk, name, master, open_, late, call, raised, answer, inside, pending, failed, stack, frame, result, bases, caught, resume, leaving, line⟩ .none) 26 := rfl
set_option genInjectivity false in
set_option genSizeOf false in
/-- the system while tasks are made: its count, its two lists of tasks, its limits -/
structure MK where
  T : Addr
  TD : Addr
  TL : Addr
  LB : Addr
  LBD : Addr
  DP : Addr
  LM : Addr
  LMD : Addr
  k : Nat → Tok
  choose : Value
  clock : Value
  lnum : Value
  lown : Value
  se : Int
  tse : Tok
noncomputable abbrev mkT (w : World) (y : MK) (nu : Int) (tnu : Tok) : List DictEntry := [en w "limits" (y.k 0) (.ref y.LM), en w "choose" (y.k 1) y.choose, en w "clock" (y.k 2) y.clock, en w "tasks" (y.k 3) (.ref y.TL), en w "numbers" (y.k 4) (.int nu tnu), en w "settled" (y.k 5) (.int y.se y.tse), en w "library" (y.k 6) (.ref y.LB)]
noncomputable abbrev mkB (w : World) (y : MK) : List DictEntry := [en w "number" (y.k 8) y.lnum, en w "owner" (y.k 9) y.lown, en w "dependents" (y.k 10) (.ref y.DP), en w "is_ended" (y.k 11) (.bool false)]
noncomputable abbrev mkLim (w : World) (y : MK) : List DictEntry := [en w "width" (y.k 12) (.int 32 275), en w "steps" (y.k 13) (.int 1000000 278), en w "depth" (y.k 14) (.int 50 279), en w "members" (y.k 15) (.int 10000 282), en w "text" (y.k 16) (.int 100000 285), en w "tasks" (y.k 17) (.int 50 286)]
noncomputable abbrev mkl (w : World) (y : MK) (nu : Int) (tnu : Tok) (vs : List Value) (nT nD : Nat) (rest : Led) : Led :=
  (y.T, instObj 370 y.TD) :: (y.TD, dictOf (mkT w y nu tnu) 7) :: (y.TL, W.listOf vs.toArray nT) :: (y.LB, instObj 233 y.LBD) :: (y.LBD, dictOf (mkB w y) 4) :: (y.DP, W.listOf vs.toArray nD) :: (y.LM, instObj 88 y.LMD) :: (y.LMD, dictOf (mkLim w y) 6) :: rest
noncomputable def mka (y : MK) : List Addr := [y.T, y.TD, y.TL, y.LB, y.LBD, y.DP, y.LM, y.LMD]
theorem new_end {w : World} {nu : Int} {rest : Led} {h₀ h' : Heap} {L : Addr} {m : Str → Option Value} {s : Shared} {tk' : Nat} {Q : Value → Shared → Prop} {l0 l1 l2 l5 q x dd sv ms : Addr} {k0 k1 k2 k3 k4 k5 k6 k7 k8 k9 k10 k11 k12 k13 k14 k15 k16 k17 k18 k19 k20 k21 k22 k23 k24 k25 : Tok} {tn ts : Tok} {name master open_ late call raised answer inside pending failed stack frame result bases caught resume leaving line : Value}
    (hret : ∀ r news' h' tk', (∃ t : TR, r = .ref t.a ∧ t.num = nu ∧ t.st = "fresh" ∧ t.wk = .none ∧ (ta t).Nodup ∧ (∀ a ∈ ta t, ∀ p ∈ rest, p.1 ≠ a) ∧ (t.q == sysModules) = false ∧
      news' = tl w t rest) → Fr h₀ L h' m → News h₀ L h' news' → Q r { s with heap := h', toks := tk' })
    (F : Fr h₀ L h' m)
    (N : News h₀ L h' ((l0, W.listOf #[] 0) :: (l1, W.listOf #[] 0) :: (l2, W.listOf #[] 0) :: (ms, W.listOf #[] 0) :: (sv, W.listOf #[] 0) :: (l5, W.listOf #[] 0) :: (q, dictOf [] 0) :: (x, instObj 177 dd) ::
      (dd, dictOf [en w "number" k0 (.int nu tn), en w "name" k1 name, en w "master" k2 master, en w "state" k3 (.str "fresh" ts), en w "queues" k4 (.ref q),
   en w "open" k5 open_, en w "wake" k6 .none, en w "late" k7 late, en w "call" k8 call, en w "serving" k9 (.ref sv), en w "masters" k10 (.ref ms),
   en w "raised" k11 raised, en w "answer" k12 answer, en w "is_abnormal" k13 (.bool false), en w "inside" k14 inside, en w "activator" k15 .none,
   en w "pending" k16 pending, en w "has_failed" k17 failed, en w "stack" k18 stack, en w "frame" k19 frame, en w "result" k20 result, en w "bases" k21 bases,
   en w "caught" k22 caught, en w "resume" k23 resume, en w "leaving" k24 leaving, en w "line" k25 line] 26) :: rest))
    (hmod : (q == sysModules) = false) (a0 : AllLt dd rest) (a1 : @LT.lt Nat _ dd x) (a2 : @LT.lt Nat _ x q) (a3 : @LT.lt Nat _ dd q) (a4 : @LT.lt Nat _ x sv) (a5 : @LT.lt Nat _ dd sv) (a6 : @LT.lt Nat _ q sv) (a7 : @LT.lt Nat _ x ms) (a8 : @LT.lt Nat _ dd ms) (a9 : @LT.lt Nat _ q ms) (a10 : @LT.lt Nat _ sv ms) :
    Q (.ref x) { s with heap := h', toks := tk' } := by
  rw [tes_mk w x dd q sv ms] at N
  refine hret _ _ h' tk' ⟨⟨x, dd, q, sv, ms, fun i => [k0, k1, k2, k3, k4, k5, k6, k7, k8, k9, k10, k11, k12, k13, k14, k15, k16, k17, k18, k19, k20, k21, k22, k23, k24, k25].getD i 0, nu, tn, "fresh", ts, .none, name, master, open_, late, call, raised, answer, inside, pending, failed, stack, frame, result, bases, caught, resume, leaving, line⟩, rfl, rfl, rfl, rfl, ?_, ?_, hmod, rfl⟩ F (News.sub N ?_)
  rotate_left 2
  · intro p hp
    rcases List.mem_cons.mp hp with rfl | hp
    · exact .tail _ (.tail _ (.tail _ (.tail _ (.tail _ (.tail _ (.tail _ (.head _)))))))
    rcases List.mem_cons.mp hp with rfl | hp
    · exact .tail _ (.tail _ (.tail _ (.tail _ (.tail _ (.tail _ (.tail _ (.tail _ (.head _))))))))
    rcases List.mem_cons.mp hp with rfl | hp
    · exact .tail _ (.tail _ (.tail _ (.tail _ (.tail _ (.tail _ (.head _))))))
    rcases List.mem_cons.mp hp with rfl | hp
    · exact .tail _ (.tail _ (.tail _ (.tail _ (.head _))))
    rcases List.mem_cons.mp hp with rfl | hp
    · exact .tail _ (.tail _ (.tail _ (.head _)))
    exact .tail _ (.tail _ (.tail _ (.tail _ (.tail _ (.tail _ (.tail _ (.tail _ (.tail _ hp))))))))
  · simp only [ta, List.nodup_cons, List.mem_cons, List.not_mem_nil, or_false, not_or, not_false_eq_true, List.nodup_nil, and_true]
    exact ⟨⟨Nat.ne_of_gt a1, Nat.ne_of_lt a2, Nat.ne_of_lt a4, Nat.ne_of_lt a7⟩, ⟨Nat.ne_of_lt a3, Nat.ne_of_lt a5, Nat.ne_of_lt a8⟩, ⟨Nat.ne_of_lt a6, Nat.ne_of_lt a9⟩, Nat.ne_of_lt a10⟩
  · intro a ha
    simp only [ta, List.mem_cons, List.not_mem_nil, or_false] at ha
    rcases ha with rfl | rfl | rfl | rfl | rfl
    · exact allLt_ne a0 (Nat.le_of_lt a1)
    · exact allLt_ne a0 (Nat.le_refl _)
    · exact allLt_ne a0 (Nat.le_of_lt a3)
    · exact allLt_ne a0 (Nat.le_of_lt a5)
    · exact allLt_ne a0 (Nat.le_of_lt a8)
theorem new_spec {w : World} (nu : Int) (tn : Tok) (nm : Str) (tnm : Tok) (LB : Addr) (rest : Led) :
    Spec w 398 990 177 [.int nu tn, .str nm tnm, .ref LB] rest fun r l => ∃ t : TR, r = .ref t.a ∧ t.num = nu ∧ t.st = "fresh" ∧ t.wk = .none ∧ (ta t).Nodup ∧ (∀ a ∈ ta t, ∀ p ∈ rest, p.1 ≠ a) ∧ (t.q == sysModules) = false ∧ l = tl w t rest := by
  intro pr loose mean mg mb cn cnm cig cic cmo a ccd cl outer A₀ base h₀ L m s Q E B F X N T hret
  k_steps
  rename News _ _ _ _ => lN'
  rename (_ == sysModules) = false => hmod
  rename _ < _ ∧ _ < _ ∧ AllLt _ _ => m1
  rename _ < _ ∧ _ < _ ∧ _ < _ ∧ _ < _ ∧ AllLt _ _ => m2
  rename _ < _ ∧ _ < _ ∧ _ < _ ∧ _ < _ ∧ _ < _ ∧ AllLt _ _ => m3
  rename ∀ p ∈ rest, p.1 < _ => m0
  rename (_ : Addr) < (_ : Addr) => l2
  exact new_end hret (by assumption) lN' hmod (allLt_of m0) l2 m1.1 m1.2.1 m2.2.2.1 m2.2.2.2.1 m2.2.1 m3.2.2.2.1 m3.2.2.2.2.1 m3.2.2.1 m3.1
theorem rulesS14x2 : True := by
  (k_with "call ref" => ((k_here; (with_reducible show wpAny _ _ (call (Value.ref 177) _) _ _ _); refine Wrap.out ?_)))
  trivial
theorem mem_swap {α : Type} (a b r : List α) {p : α} (h : p ∈ a ++ (b ++ r)) : p ∈ b ++ (a ++ r) :=
  (List.mem_append.mp h).elim (fun h => List.mem_append_right _ (List.mem_append_left _ h)) fun h => (List.mem_append.mp h).elim (fun h => List.mem_append_left _ h) fun h => List.mem_append_right _ (List.mem_append_right _ h)
theorem off_map {l l' : Led} {a : Addr} (h : ∀ p ∈ l, p.1 ≠ a) (e : l'.map Prod.fst = l.map Prod.fst) : ∀ p ∈ l', p.1 ≠ a := fun p hp => by
  have h1 : p.1 ∈ l.map Prod.fst := e ▸ List.mem_map_of_mem hp
  obtain ⟨q, hq, e⟩ := List.mem_map.mp h1
  exact e ▸ h q hq
theorem tl_off {w : World} {t : TR} {rest l : Led} {d : Addr} (h : ∀ a ∈ ta t, ∀ p ∈ l, p.1 ≠ a) (hd : ∃ o, (d, o) ∈ l) (hr : ∀ p ∈ rest, p.1 ≠ d) : ∀ p ∈ tl w t rest, p.1 ≠ d := by
  obtain ⟨o, ho⟩ := hd
  intro p hp
  rcases List.mem_append.mp (show p ∈ tl w t [] ++ rest from hp) with hp | hp
  · have : p.1 ∈ ta t := List.mem_map_of_mem (f := (·.1)) hp
    exact fun e => h _ this _ ho e.symm
  · exact hr p hp
theorem make_spec {w : World} (y : MK) (nu : Int) (tnu : Tok) (vs : List Value) (nT nD : Nat) (nm : Str) (tnm : Tok) (ln : Int) (tln : Tok) (rest : Led) (hy : (mka y).Nodup) (hoff : ∀ p ∈ rest, p.1 ∉ mka y) (hlen : vs.length < 50) (hlen2 : vs.length ≤ 1000) (hnu : 0 ≤ nu ∧ nu < 1000) :
    Spec w 395 950 244 [.ref y.T, .str nm tnm, .ref y.LB, .int ln tln] (mkl w y nu tnu vs nT nD rest) fun r l => ∃ (t : TR) (tnu' : Tok), r = .ref t.a ∧ t.num = nu + 1 ∧ t.st = "fresh" ∧ t.wk = .none ∧ (ta t).Nodup ∧ (∀ a ∈ ta t, ∀ p ∈ mkl w y nu tnu vs nT nD rest, p.1 ≠ a) ∧ (t.q == sysModules) = false ∧
      l = tl w t (mkl w y (nu + 1) tnu' (vs ++ [.ref t.a]) (nT + 1) (nD + 1) rest) := by
  intro pr loose mean mg mb cn cnm cig cic cmo a ccd cl outer A₀ base h₀ L m s Q E B F X N T hret
  obtain ⟨yT, yTD, yTL, yLB, yLBD, yDP, yLM, yLMD, yk, ych, yck, yln, ylo, yse, ytse⟩ := y
  have hy' := hy
  simp only [mka, List.nodup_cons, List.mem_cons, List.not_mem_nil, or_false, not_or, not_false_eq_true, List.nodup_nil, and_true] at hy'
  obtain ⟨⟨a1, a2, a3, a4, a5, a6, a7⟩, ⟨b1, b2, b3, b4, b5, b6⟩, ⟨c1, c2, c3, c4, c5⟩, ⟨d1, d2, d3, d4⟩, ⟨e1, e2, e3⟩, ⟨f1, f2⟩, g1⟩ := hy'
  have hr1 : ∀ p ∈ rest, p.1 ≠ yTD := fun p hp e => hoff p hp (by rw [e]; simp [mka])
  have hr2 : ∀ p ∈ rest, p.1 ≠ yTL := fun p hp e => hoff p hp (by rw [e]; simp [mka])
  have hr3 : ∀ p ∈ rest, p.1 ≠ yDP := fun p hp e => hoff p hp (by rw [e]; simp [mka])
  dsimp only [mkl, mkT, mkB, mkLim] at N
  have x1 : @Ne Nat yT yTD := a1
  have x2 : @Ne Nat yTL yTD := Ne.symm b1
  have x3 : @Ne Nat yLB yTD := Ne.symm b2
  have x4 : @Ne Nat yLBD yTD := Ne.symm b3
  have x5 : @Ne Nat yDP yTD := Ne.symm b4
  have x6 : @Ne Nat yLM yTD := Ne.symm b5
  have x7 : @Ne Nat yLMD yTD := Ne.symm b6
  have z1 : @Ne Nat yT yTL := a2
  have z2 : @Ne Nat yTD yTL := b1
  have z3 : @Ne Nat yLB yTL := Ne.symm c1
  have z4 : @Ne Nat yLBD yTL := Ne.symm c2
  have z5 : @Ne Nat yDP yTL := Ne.symm c3
  have z6 : @Ne Nat yLM yTL := Ne.symm c4
  have z7 : @Ne Nat yLMD yTL := Ne.symm c5
  have w1 : @Ne Nat yT yDP := a5
  have w2 : @Ne Nat yTD yDP := b4
  have w3 : @Ne Nat yTL yDP := c3
  have w4 : @Ne Nat yLB yDP := d2
  have w5 : @Ne Nat yLBD yDP := e1
  have w6 : @Ne Nat yLM yDP := Ne.symm f1
  have w7 : @Ne Nat yLMD yDP := Ne.symm f2
  clear hoff hy a1 a2 a3 a4 a5 a6 a7 b1 b2 b3 b4 b5 b6 c1 c2 c3 c4 c5 d1 d2 d3 d4 e1 e2 e3 f1 f2 g1
  k_steps
  refine wrap_in' ?_
  refine' Spec.use (new_spec _ _ _ _ _ _) ?k1 ?k2 ?k3 ?k4 ?k5 ?k6 ?k7 ?k8 ?k9 ?_
  (case k4 => k_asm)
  (case k1 => k_asm)
  (case k2 => k_asm)
  (case k3 => k_asm)
  (case k5 => k_asm)
  (case k8 => exact rfl)
  (case k6 => exact rfl)
  (case k7 => exact Nat.le_of_ble_eq_true rfl)
  (case k9 => exact Nat.le_of_ble_eq_true rfl)
  rintro r l h' tk' ⟨t, rfl, t1, t2, t3, t4, t5, t6, rfl⟩ F' N'
  have t5' : ∀ a ∈ ta t, ∀ p ∈ mkl w ⟨yT, yTD, yTL, yLB, yLBD, yDP, yLM, yLMD, yk, ych, yck, yln, ylo, yse, ytse⟩ nu tnu vs nT nD rest, p.1 ≠ a := fun a ha => off_map (t5 a ha) rfl
  have q2 := tl_off (w := w) t5' ⟨_, .tail _ (.tail _ (.head _))⟩ hr2
  have q3 := tl_off (w := w) t5' ⟨_, .tail _ (.tail _ (.tail _ (.tail _ (.tail _ (.head _)))))⟩ hr3
  obtain ⟨tnu', N2⟩ : ∃ tnu', News _ _ h' (mkl w ⟨yT, yTD, yTL, yLB, yLBD, yDP, yLM, yLMD, yk, ych, yck, yln, ylo, yse, ytse⟩ (nu + 1) tnu' vs nT nD (tl w t rest)) :=
    ⟨_, News.sub N' fun p hp => mem_swap (mkl w ⟨yT, yTD, yTL, yLB, yLBD, yDP, yLM, yLMD, yk, ych, yck, yln, ylo, yse, ytse⟩ (nu + 1) _ vs nT nD []) (tl w t []) rest hp⟩
  clear N' t5
  generalize hR : tl w t rest = R at N2 q2 q3
  dsimp only [mkl, mkT, mkB, mkLim] at N2
  k_steps
  rename News _ _ _ _ => lN'
  simp only [List.push_toArray] at lN'
  subst hR
  exact hret _ _ _ _ ⟨t, tnu', rfl, t1, t2, t3, t4, t5', t6, rfl⟩ (by assumption) (News.sub lN' fun p hp => mem_swap (tl w t []) (mkl w ⟨yT, yTD, yTL, yLB, yLBD, yDP, yLM, yLMD, yk, ych, yck, yln, ylo, yse, ytse⟩ (nu + 1) tnu' (vs ++ [.ref t.a]) (nT + 1) (nD + 1) []) rest hp)
theorem freshS15 : True := by
  k_with_none
  (k_with "CJ" => (first | with_reducible assumption | with_reducible exact And.left (by first | with_reducible assumption | with_reducible exact And.right (by first | with_reducible assumption | with_reducible exact And.right (by first | with_reducible assumption | with_reducible exact And.right (by first | with_reducible assumption | with_reducible exact And.right (by first | with_reducible assumption | with_reducible exact And.right (by first | with_reducible assumption | with_reducible exact And.right (by first | with_reducible assumption | with_reducible exact And.right (by first | with_reducible assumption | with_reducible exact And.right (by first | with_reducible assumption | with_reducible exact And.right (by first | with_reducible assumption | with_reducible exact And.right (by first | with_reducible assumption | with_reducible exact And.right (by first | with_reducible assumption | with_reducible exact And.right (by first | with_reducible assumption | with_reducible exact And.right (by first | with_reducible assumption | with_reducible exact And.right (by first | with_reducible assumption | with_reducible exact And.right (by first | with_reducible assumption | with_reducible exact And.right (by first | with_reducible assumption | with_reducible exact And.right (by first | with_reducible assumption | with_reducible exact And.right (by first | with_reducible assumption | with_reducible exact And.right (by first | with_reducible assumption | with_reducible exact And.right (by first | with_reducible assumption | with_reducible exact And.right (by first | with_reducible assumption | with_reducible exact And.right (by with_reducible assumption)))))))))))))))))))))))))
  (k_with "execs cons" => (k_here; (fail_if_success (fail_if_success k_gentoks)); (with_reducible refine gen_toks ?_); intro tk))
  (k_with "execs nil" => (k_here; (fail_if_success (fail_if_success k_gentoks)); (with_reducible refine gen_toks ?_); intro tk))
  w_top off
  trivial
theorem rulesS15x1 : True := by
  (k_with "compareOp Eq str str" => (first | refine eqs_ff (by first | decide | (dsimp only; decide)) ?_ | refine eqs_tt (by first | decide | (dsimp only; decide)) ?_))
  (k_with "compareOp NotEq str str" => (first | refine nes_ff (by first | decide | (dsimp only; decide)) ?_ | refine nes_tt (by first | decide | (dsimp only; decide)) ?_))
  (k_with "exec" => ((k_here; (with_reducible show wpAny _ _ (exec (Stmt.While _ _ _ _) _) _ _ _); k_dflt (refine whl_startW ?_))))
  (k_with "WhlW" => ((dsimp only [WhlW])))
  (k_with "exec For Name Name cons nil" => (walk_at "WHOLE1"))
  (k_with "pyIter ref" => ((refine Wrap.out ?_)))
  trivial
theorem All2.snoc {α β : Type} {R : α → β → Prop} {as : List α} {bs : List β} {a : α} {b : β} (h : All2 R as bs) (r : R a b) : All2 R (as ++ [a]) (bs ++ [b]) := h.append (.cons r .nil)
theorem act_spec {w : World} (TH : Addr) (n : Nat) (ts : List TR) (rest : Led) (hap : Apart ts rest) (hTH : TH ∉ tas ts) (hst : ∀ t ∈ ts, t.st = "fresh" ∧ t.wk = .none) :
    Spec w 395 950 251 [.none, .ref TH] ((TH, W.listOf (vals ts).toArray n) :: tls w ts rest) fun r l => r = .none ∧ ∃ ts', All2 (fun t t' => Same t t' ∧ Is t' .rdy) ts ts' ∧ l = (TH, W.listOf (vals ts).toArray n) :: tls w ts' rest := by
  intro pr loose mean mg mb cn cnm cig cic cmo a ccd cl outer A₀ base h₀ L m s Q E B F X N T hret
  k_steps
  refine wrap_in (tasks_for (w := w) (σ := Unit) (fun _ => _) (fun _ => [(TH, W.listOf (vals ts).toArray n)]) [TH] [] rest ts (fun _ done rem => ∃ pre, ts = pre ++ rem ∧ All2 (fun t t' => Same t t' ∧ Is t' .rdy) pre done) () rfl (by rfl) (by assumption) (by assumption) (fun p hp => hp) (fun _ _ => rfl) (fun _ => .head _) (fun _ => rfl) hap (fun a ha => by rw [List.mem_singleton.mp ha]; exact hTH) (fun _ h => nomatch h) ⟨[], rfl, .nil⟩ ?_ ?_)
  · rintro _ done t rem h tk other ⟨pre, hts, hA⟩ hok hoff had hwr hsub htas F' N'
    replace N' : News _ _ _ ((TH, W.listOf (vals ts).toArray n) :: tl w t other) := N'
    have ⟨h1, h2, h3, h4⟩ := hok
    have y1 : @Ne Nat TH t.d := had TH (by first | k_mem | simp)
    obtain ⟨hs1, hs2⟩ := hst t (by rw [hts]; simp)
    obtain ⟨ta', td, tq, tsv, tms, tk', tnum, ttn, tst, tts, twk, tname, tmaster, topen, tlate, tcall, traised, tanswer, tinside, tpending, tfailed, tstack, tframe, tresult, tbases, tcaught, tresume, tleaving, tline⟩ := t
    dsimp only at hs1 hs2 h1 h2 h3 h4 hoff had y1
    subst hs1 hs2
    dsimp only [tl, tes] at N'
    k_steps
    show Wrap _
    rename Fr _ _ _ _ => lF'
    rename News _ _ _ _ => lN'
    exact ⟨(), ⟨ta', td, tq, tsv, tms, tk', tnum, ttn, "ready", 419, .none, tname, tmaster, topen, tlate, tcall, traised, tanswer, tinside, tpending, tfailed, tstack, tframe, tresult, tbases, tcaught, tresume, tleaving, tline⟩, _, ⟨pre ++ [⟨ta', td, tq, tsv, tms, tk', tnum, ttn, "fresh", tts, .none, tname, tmaster, topen, tlate, tcall, traised, tanswer, tinside, tpending, tfailed, tstack, tframe, tresult, tbases, tcaught, tresume, tleaving, tline⟩], by rw [hts, List.append_assoc]; rfl, hA.snoc ⟨⟨rfl, rfl, rfl⟩, ⟨rfl, rfl⟩⟩⟩, rfl, fun _ h1 => if_neg h1, Ends.intro lF' lN'⟩
  · rintro _ ts' u h tk ⟨pre, hts, hA⟩ htas F' N'
    rw [List.append_nil] at hts
    subst hts
    replace N' : News _ _ _ ((TH, W.listOf (vals ts).toArray n) :: tls w ts' rest) := N'
    k_steps
    exact hret _ _ _ _ ⟨rfl, ts', hA, rfl⟩ (by assumption) (by assumption)
theorem freshS17 : True := by
  k_with_none
  (k_with "CJ" => (first | with_reducible assumption | with_reducible exact And.left (by first | with_reducible assumption | with_reducible exact And.right (by first | with_reducible assumption | with_reducible exact And.right (by first | with_reducible assumption | with_reducible exact And.right (by first | with_reducible assumption | with_reducible exact And.right (by first | with_reducible assumption | with_reducible exact And.right (by first | with_reducible assumption | with_reducible exact And.right (by first | with_reducible assumption | with_reducible exact And.right (by first | with_reducible assumption | with_reducible exact And.right (by first | with_reducible assumption | with_reducible exact And.right (by first | with_reducible assumption | with_reducible exact And.right (by first | with_reducible assumption | with_reducible exact And.right (by first | with_reducible assumption | with_reducible exact And.right (by first | with_reducible assumption | with_reducible exact And.right (by first | with_reducible assumption | with_reducible exact And.right (by first | with_reducible assumption | with_reducible exact And.right (by first | with_reducible assumption | with_reducible exact And.right (by first | with_reducible assumption | with_reducible exact And.right (by first | with_reducible assumption | with_reducible exact And.right (by first | with_reducible assumption | with_reducible exact And.right (by first | with_reducible assumption | with_reducible exact And.right (by first | with_reducible assumption | with_reducible exact And.right (by first | with_reducible assumption | with_reducible exact And.right (by with_reducible assumption)))))))))))))))))))))))))
  (k_with "execs cons" => (k_here; (fail_if_success (fail_if_success k_gentoks)); (with_reducible refine gen_toks ?_); intro tk))
  (k_with "execs nil" => (k_here; (fail_if_success (fail_if_success k_gentoks)); (with_reducible refine gen_toks ?_); intro tk))
  w_top off
  trivial
theorem rulesS17x1 : True := by
  (k_with "compareOp Eq str str" => (first | refine eqs_ff (by first | decide | (dsimp only; decide)) ?_ | refine eqs_tt (by first | decide | (dsimp only; decide)) ?_))
  (k_with "compareOp NotEq str str" => (first | refine nes_ff (by first | decide | (dsimp only; decide)) ?_ | refine nes_tt (by first | decide | (dsimp only; decide)) ?_))
  (k_with "exec" => ((k_here; (with_reducible show wpAny _ _ (exec (Stmt.While _ _ _ _) _) _ _ _); k_dflt (refine whl_startW ?_))))
  (k_with "WhlW" => ((dsimp only [WhlW])))
  (k_with "exec For Name Name cons nil" => (walk_at "WHOLE1"))
  (k_with "call builtin:len" => ((k_here; k_dflt (refine' lenS ?N ?m ?z ?_; (case N => k_asm); (case m => k_mem); (case z => assumption)))))
  (k_with "eval Dict nil nil" => ((k_here; k_dflt (refine' newDictL ?k1 ?k2 (TopRead.nolimit (by k_asm)) ?_; (case k1 => k_asm); (case k2 => k_asm); k_whole); walk_at "TAIL4")))
  trivial
set_option genInjectivity false in
set_option genSizeOf false in
/-- a new object and its dict -/
structure O1 where
  x : Addr
  d : Addr
  k : Nat → Tok
  t : Tok
theorem limits_end {w : World} {rest : Led} {h₀ h' : Heap} {L : Addr} {m : Str → Option Value} {s : Shared} {tk' : Nat} {Q : Value → Shared → Prop} {x d : Addr} {k0 k1 k2 k3 k4 k5 : Tok}
    (hret : ∀ r news' h' tk', (∃ p : O1, (AllLt p.d rest ∧ @LT.lt Nat _ p.d p.x) ∧ r = .ref p.x ∧ news' = (p.x, instObj 88 p.d) :: (p.d, dictOf [en w "width" (p.k 12) (.int 32 275), en w "steps" (p.k 13) (.int 1000000 278), en w "depth" (p.k 14) (.int 50 279), en w "members" (p.k 15) (.int 10000 282), en w "text" (p.k 16) (.int 100000 285), en w "tasks" (p.k 17) (.int 50 286)] 6) :: rest) → Fr h₀ L h' m → News h₀ L h' news' → Q r { s with heap := h', toks := tk' })
    (F : Fr h₀ L h' m) (N : News h₀ L h' ((x, instObj 88 d) :: (d, dictOf [en w "width" k0 (.int 32 275), en w "steps" k1 (.int 1000000 278), en w "depth" k2 (.int 50 279), en w "members" k3 (.int 10000 282), en w "text" k4 (.int 100000 285), en w "tasks" k5 (.int 50 286)] 6) :: rest)) (a : AllLt d rest) (b : @LT.lt Nat _ d x) : Q (.ref x) { s with heap := h', toks := tk' } :=
  hret _ _ h' tk' ⟨⟨x, d, fun i => [k0, k1, k2, k3, k4, k5].getD (i - 12) 0, 0⟩, ⟨a, b⟩, rfl, rfl⟩ F N
theorem new_limits {w : World} (rest : Led) :
    Spec w 398 990 88 [] rest fun r l => ∃ p : O1, (AllLt p.d rest ∧ @LT.lt Nat _ p.d p.x) ∧ r = .ref p.x ∧ l = (p.x, instObj 88 p.d) :: (p.d, dictOf [en w "width" (p.k 12) (.int 32 275), en w "steps" (p.k 13) (.int 1000000 278), en w "depth" (p.k 14) (.int 50 279), en w "members" (p.k 15) (.int 10000 282), en w "text" (p.k 16) (.int 100000 285), en w "tasks" (p.k 17) (.int 50 286)] 6) :: rest := by
  intro pr loose mean mg mb cn cnm cig cic cmo a ccd cl outer A₀ base h₀ L m s Q E B F X N T hret
  k_steps
  rename News _ _ _ _ => lN'
  rename ∀ p ∈ rest, p.1 < _ => m0
  rename (_ : Addr) < (_ : Addr) => l2
  exact limits_end hret (by assumption) lN' (allLt_of m0) l2
theorem clock_end {w : World} {rest : Led} {h₀ h' : Heap} {L : Addr} {m : Str → Option Value} {s : Shared} {tk' : Nat} {Q : Value → Shared → Prop} {x d : Addr} {k0 t : Tok}
    (hret : ∀ r news' h' tk', (∃ p : O1, (AllLt p.d rest ∧ @LT.lt Nat _ p.d p.x) ∧ r = .ref p.x ∧ news' = (p.x, instObj 31 p.d) :: (p.d, dictOf [en w "now" (p.k 7) (.int 0 p.t)] 1) :: rest) → Fr h₀ L h' m → News h₀ L h' news' → Q r { s with heap := h', toks := tk' })
    (F : Fr h₀ L h' m) (N : News h₀ L h' ((x, instObj 31 d) :: (d, dictOf [en w "now" k0 (.int 0 t)] 1) :: rest)) (a : AllLt d rest) (b : @LT.lt Nat _ d x) : Q (.ref x) { s with heap := h', toks := tk' } :=
  hret _ _ h' tk' ⟨⟨x, d, fun _ => k0, t⟩, ⟨a, b⟩, rfl, rfl⟩ F N
theorem new_clock {w : World} (rest : Led) :
    Spec w 398 990 31 [] rest fun r l => ∃ p : O1, (AllLt p.d rest ∧ @LT.lt Nat _ p.d p.x) ∧ r = .ref p.x ∧ l = (p.x, instObj 31 p.d) :: (p.d, dictOf [en w "now" (p.k 7) (.int 0 p.t)] 1) :: rest := by
  intro pr loose mean mg mb cn cnm cig cic cmo a ccd cl outer A₀ base h₀ L m s Q E B F X N T hret
  k_steps
  rename News _ _ _ _ => lN'
  rename ∀ p ∈ rest, p.1 < _ => m0
  rename (_ : Addr) < (_ : Addr) => l2
  exact clock_end hret (by assumption) lN' (allLt_of m0) l2
set_option genInjectivity false in
set_option genSizeOf false in
/-- a new object, its dict and its list -/
structure O2 where
  q : Addr
  x : Addr
  d : Addr
  k : Nat → Tok
theorem master_end {w : World} {rest : Led} {h₀ h' : Heap} {L : Addr} {m : Str → Option Value} {s : Shared} {tk' : Nat} {Q : Value → Shared → Prop} {nu : Int} {tn : Tok} {ow : Value} {q x d : Addr} {k0 k1 k2 k3 : Tok}
    (hret : ∀ r news' h' tk', (∃ p : O2, (AllLt p.d rest ∧ @LT.lt Nat _ p.d p.x ∧ @LT.lt Nat _ p.x p.q) ∧ r = .ref p.x ∧ news' = (p.q, W.listOf #[] 0) :: (p.x, instObj 233 p.d) :: (p.d, dictOf [en w "number" (p.k 8) (.int nu tn), en w "owner" (p.k 9) ow, en w "dependents" (p.k 10) (.ref p.q), en w "is_ended" (p.k 11) (.bool false)] 4) :: rest) → Fr h₀ L h' m → News h₀ L h' news' → Q r { s with heap := h', toks := tk' })
    (F : Fr h₀ L h' m) (N : News h₀ L h' ((q, W.listOf #[] 0) :: (x, instObj 233 d) :: (d, dictOf [en w "number" k0 (.int nu tn), en w "owner" k1 ow, en w "dependents" k2 (.ref q), en w "is_ended" k3 (.bool false)] 4) :: rest)) (a : AllLt d rest) (b : @LT.lt Nat _ d x) (c : @LT.lt Nat _ x q) : Q (.ref x) { s with heap := h', toks := tk' } :=
  hret _ _ h' tk' ⟨⟨q, x, d, fun i => [k0, k1, k2, k3].getD (i - 8) 0⟩, ⟨a, b, c⟩, rfl, rfl⟩ F N
theorem new_master {w : World} (nu : Int) (tn : Tok) (ow : Value) (rest : Led) :
    Spec w 398 990 233 [.int nu tn, ow] rest fun r l => ∃ p : O2, (AllLt p.d rest ∧ @LT.lt Nat _ p.d p.x ∧ @LT.lt Nat _ p.x p.q) ∧ r = .ref p.x ∧
      l = (p.q, W.listOf #[] 0) :: (p.x, instObj 233 p.d) :: (p.d, dictOf [en w "number" (p.k 8) (.int nu tn), en w "owner" (p.k 9) ow, en w "dependents" (p.k 10) (.ref p.q), en w "is_ended" (p.k 11) (.bool false)] 4) :: rest := by
  intro pr loose mean mg mb cn cnm cig cic cmo a ccd cl outer A₀ base h₀ L m s Q E B F X N T hret
  k_steps
  rename News _ _ _ _ => lN'
  rename ∀ p ∈ rest, p.1 < _ => m0
  rename (_ : Addr) < (_ : Addr) => l2
  rename _ < _ ∧ _ < _ ∧ AllLt _ _ => m1
  exact master_end hret (by assumption) lN' (allLt_of m0) l2 m1.1
set_option genInjectivity false in
set_option genSizeOf false in
/-- the system's own objects -/
structure O3 where
  T : Addr
  TD : Addr
  C : Addr
  CD : Addr
  TL : Addr
  LB : Addr
  LBD : Addr
  DP : Addr
  k : Nat → Tok
  t0 : Tok
  t1 : Tok
  t2 : Tok
  t3 : Tok
noncomputable abbrev o3l (w : World) (p : O3) (lm ch : Value) (rest : Led) : Led :=
  (p.DP, W.listOf #[] 0) :: (p.LB, instObj 233 p.LBD) :: (p.LBD, dictOf [en w "number" (p.k 8) (.int 0 p.t1), en w "owner" (p.k 9) .none, en w "dependents" (p.k 10) (.ref p.DP), en w "is_ended" (p.k 11) (.bool false)] 4) :: (p.TL, W.listOf #[] 0) :: (p.C, instObj 31 p.CD) :: (p.CD, dictOf [en w "now" (p.k 7) (.int 0 p.t0)] 1) :: (p.T, instObj 370 p.TD) ::
      (p.TD, dictOf [en w "limits" (p.k 0) lm, en w "choose" (p.k 1) ch, en w "clock" (p.k 2) (.ref p.C), en w "tasks" (p.k 3) (.ref p.TL), en w "numbers" (p.k 4) (.int 0 p.t2), en w "settled" (p.k 5) (.int 0 p.t3), en w "library" (p.k 6) (.ref p.LB)] 7) :: rest
/-- their addresses rise -/
structure O3.Up (p : O3) (rest : Led) : Prop where
  a : AllLt p.TD rest
  b : @LT.lt Nat _ p.TD p.T
  c : @LT.lt Nat _ p.T p.CD
  d : @LT.lt Nat _ p.CD p.C
  e : @LT.lt Nat _ p.C p.TL
  f : @LT.lt Nat _ p.TL p.LBD
  g : @LT.lt Nat _ p.LBD p.LB
  h : @LT.lt Nat _ p.LB p.DP
theorem tasking_end {w : World} {rest : Led} {h₀ h' : Heap} {L : Addr} {m : Str → Option Value} {s : Shared} {tk' : Nat} {Q : Value → Shared → Prop} {T TD C CD TL LB LBD DP : Addr} {lm ch : Value} {k0 k1 k2 k3 k4 k5 k6 k7 k8 k9 k10 k11 t0 t1 t2 t3 : Tok}
    (hret : ∀ r news' h' tk', (∃ p : O3, p.Up rest ∧ r = .ref p.T ∧ news' = o3l w p lm ch rest) → Fr h₀ L h' m → News h₀ L h' news' → Q r { s with heap := h', toks := tk' })
    (F : Fr h₀ L h' m) (N : News h₀ L h' ((DP, W.listOf #[] 0) :: (LB, instObj 233 LBD) :: (LBD, dictOf [en w "number" k8 (.int 0 t1), en w "owner" k9 .none, en w "dependents" k10 (.ref DP), en w "is_ended" k11 (.bool false)] 4) :: (TL, W.listOf #[] 0) :: (C, instObj 31 CD) :: (CD, dictOf [en w "now" k7 (.int 0 t0)] 1) :: (T, instObj 370 TD) ::
      (TD, dictOf [en w "limits" k0 lm, en w "choose" k1 ch, en w "clock" k2 (.ref C), en w "tasks" k3 (.ref TL), en w "numbers" k4 (.int 0 t2), en w "settled" k5 (.int 0 t3), en w "library" k6 (.ref LB)] 7) :: rest))
    (a : AllLt TD rest) (b : @LT.lt Nat _ TD T) (c : @LT.lt Nat _ T CD) (d : @LT.lt Nat _ CD C) (e : @LT.lt Nat _ C TL) (f : @LT.lt Nat _ TL LBD) (g : @LT.lt Nat _ LBD LB) (h : @LT.lt Nat _ LB DP) : Q (.ref T) { s with heap := h', toks := tk' } :=
  hret _ _ h' tk' ⟨⟨T, TD, C, CD, TL, LB, LBD, DP, fun i => [k0, k1, k2, k3, k4, k5, k6, k7, k8, k9, k10, k11].getD i 0, t0, t1, t2, t3⟩, ⟨a, b, c, d, e, f, g, h⟩, rfl, rfl⟩ F N
theorem rulesS17x2 : True := by
  (k_with "call ref" => ((k_here; (with_reducible show wpAny _ _ (call (Value.ref 31) _) _ _ _); k_dflt (refine' Spec.use (new_clock _) ?k1 ?k2 ?k3 ?k4 ?k5 ?k6 ?k7 ?k8 ?k9 ?_; (case k4 => k_asm); (case k1 => k_asm); (case k2 => k_asm); (case k3 => k_asm); (case k5 => k_asm); (case k8 => exact rfl); (case k6 => exact rfl); (case k7 => exact Nat.le_of_ble_eq_true rfl); (case k9 => exact Nat.le_of_ble_eq_true rfl)); refine cpsP ?_; walk_at "TAIL15")))
  (k_with "call ref" => ((k_here; (with_reducible show wpAny _ _ (call (Value.ref 233) _) _ _ _); k_dflt (refine' Spec.use (new_master _ _ _ _) ?k1 ?k2 ?k3 ?k4 ?k5 ?k6 ?k7 ?k8 ?k9 ?_; (case k4 => k_asm); (case k1 => k_asm); (case k2 => k_asm); (case k3 => k_asm); (case k5 => k_asm); (case k8 => exact rfl); (case k6 => exact rfl); (case k7 => exact Nat.le_of_ble_eq_true rfl); (case k9 => exact Nat.le_of_ble_eq_true rfl)); refine cpsP ?_; walk_at "TAIL15")))
  trivial
theorem new_tasking {w : World} (lm ch : Value) (rest : Led) :
    Spec w 395 950 370 [lm, ch] rest fun r l => ∃ p : O3, p.Up rest ∧ r = .ref p.T ∧ l = o3l w p lm ch rest := by
  intro pr loose mean mg mb cn cnm cig cic cmo a ccd cl outer A₀ base h₀ L m s Q E B F X N T hret
  k_steps
  rename News _ _ _ _ => lN'
  rename ∀ p ∈ rest, p.1 < _ => m0
  rename (_ : Addr) < (_ : Addr) => l2
  rename (_ < _ ∧ _ < _ ∧ AllLt _ _) ∧ _ < _ => c1
  rename _ < _ ∧ _ < _ ∧ _ < _ ∧ _ < _ ∧ AllLt _ _ => m1
  rename (_ < _ ∧ _ < _ ∧ _ < _ ∧ _ < _ ∧ _ < _ ∧ AllLt _ _) ∧ _ < _ ∧ _ < _ => c3
  exact tasking_end hret (by assumption) lN' (allLt_of m0) l2 c1.1.1 c1.2 m1.1 c3.1.1 c3.2.1 c3.2.2
theorem freshL9 : True := by
  k_with_none
  (k_with "CJ" => (first | with_reducible assumption | with_reducible exact And.left (by first | with_reducible assumption | with_reducible exact And.right (by first | with_reducible assumption | with_reducible exact And.right (by first | with_reducible assumption | with_reducible exact And.right (by first | with_reducible assumption | with_reducible exact And.right (by first | with_reducible assumption | with_reducible exact And.right (by first | with_reducible assumption | with_reducible exact And.right (by first | with_reducible assumption | with_reducible exact And.right (by first | with_reducible assumption | with_reducible exact And.right (by first | with_reducible assumption | with_reducible exact And.right (by first | with_reducible assumption | with_reducible exact And.right (by first | with_reducible assumption | with_reducible exact And.right (by first | with_reducible assumption | with_reducible exact And.right (by first | with_reducible assumption | with_reducible exact And.right (by first | with_reducible assumption | with_reducible exact And.right (by first | with_reducible assumption | with_reducible exact And.right (by first | with_reducible assumption | with_reducible exact And.right (by first | with_reducible assumption | with_reducible exact And.right (by first | with_reducible assumption | with_reducible exact And.right (by first | with_reducible assumption | with_reducible exact And.right (by first | with_reducible assumption | with_reducible exact And.right (by first | with_reducible assumption | with_reducible exact And.right (by first | with_reducible assumption | with_reducible exact And.right (by with_reducible assumption)))))))))))))))))))))))))
  (k_with "execs cons" => (k_here; (fail_if_success (fail_if_success k_gentoks)); (with_reducible refine gen_toks ?_); intro tk))
  (k_with "execs nil" => (k_here; (fail_if_success (fail_if_success k_gentoks)); (with_reducible refine gen_toks ?_); intro tk))
  w_top off
  trivial
section
variable {prog : Program} {w : World} {A : Around} {E : Value → Shared → Prop} {s : Shared} {h₀ : Heap} {L : Addr} {m : Str → Option Value} {env : Env} {elt : Expr} {x : Str} {scope : Scope} {cl : List (Str × Addr)} {Fin : List Value → Led → Prop} {P : Nat → Value → Prop}
/-- a comprehension over a range, whose elements draw from the hand -/
theorem hand_comp {H : Addr} (rest : Led) (n : Nat) (R : Value → Prop) (hs₀ : List Value) (nh₀ : Nat) (hH : Hand hs₀)
    (item : ∀ (hs : List Value) (nh : Nat), Hand hs → ∀ C oC I oI D oD m₂ h tk (E' : Value → Shared → Prop), (@Ne Nat I H) → (@Ne Nat C H) → (@Ne Nat D H) → LCg.NsObj oC m₂ → Fr h₀ L h m → News h₀ L h ((H, W.listOf hs.toArray nh) :: (C, oC) :: (I, oI) :: (D, oD) :: rest) →
      wpAny (model prog w) A (eval elt (compEnvC scope cl C env)) (fun y s' => Wrap (R y ∧ ∃ (hs' : List Value) (nh' : Nat), Hand hs' ∧ Ends h₀ L m { s with heap := h, toks := tk } ((H, W.listOf hs'.toArray nh') :: (C, oC) :: (I, oI) :: (D, oD) :: rest) s')) E' { s with heap := h, toks := tk })
    (done : ∀ (ys hs : List Value) (nh : Nat), ys.length = n → (∀ y ∈ ys, R y) → Hand hs → Fin ys ((H, W.listOf hs.toArray nh) :: rest)) :
    LCg.CompRest prog w A h₀ L m env elt x scope cl s (fun _ => True) P Fin n 0 [] ((H, W.listOf hs₀.toArray nh₀) :: rest) := by
  refine compRest_ind (n := n) (fun i ys news => ys.length = i ∧ (∀ y ∈ ys, R y) ∧ ∃ (hs : List Value) (nh : Nat), Hand hs ∧ news = (H, W.listOf hs.toArray nh) :: rest) ?_ ?_ _ _ _ _ (by omega) ⟨rfl, (fun _ h => nomatch h), hs₀, nh₀, hH, rfl⟩
  · rintro i ys news hi ⟨hl, hR, hs, nh, hh, rfl⟩ v I oI C oC D m₂ h tk E' hv hC hx F N o ne
    have perm : ∀ (hs : List Value) (nh : Nat) (p : Addr × Obj), p ∈ (I, oI) :: (C, oC) :: (D, LCg.lst ys) :: (H, W.listOf hs.toArray nh) :: rest ↔ p ∈ (H, W.listOf hs.toArray nh) :: (C, oC) :: (I, oI) :: (D, LCg.lst ys) :: rest :=
      fun hs nh p => ((List.perm_middle (l₁ := [(I, oI), (C, oC), (D, LCg.lst ys)])).trans (List.Perm.cons _ (List.Perm.swap _ _ _))).mem_iff
    have o1 := o.mem _ (.head _)
    refine wpAny_mono (item hs nh hh C oC I oI D _ m₂ h tk E' (Ne.symm o1.1) (Ne.symm o1.2.1) (Ne.symm o1.2.2) hC F (News.sub N fun p hp => (perm hs nh p).mpr hp)) (fun y s₂ q => ?_) fun _ _ e => e
    obtain ⟨hr, hs', nh', hh', h'', tk'', rfl, F'', N''⟩ := q
    refine ⟨h'', tk'', _, rfl, F'', News.sub N'' fun p hp => (perm hs' nh' p).mp hp, ?_, trivial, ?_, ?_, hs', nh', hh', rfl⟩
    · exact ⟨o.1, o.2⟩
    · rw [List.length_append, List.length_singleton, hl]
    · intro y hy
      rcases List.mem_append.mp hy with hy | hy
      · exact hR y hy
      · rw [List.mem_singleton.mp hy]; exact hr
  · rintro ys news ⟨hl, hR, hs, nh, hh, rfl⟩
    exact done ys hs nh hl hR hh
end
/-- a list of values that are ints -/
theorem ints_of {ys : List Value} (h : ∀ y ∈ ys, ∃ k t, y = Value.int k t) : ∃ ns, IntsAre ys ns := by
  induction ys with
  | nil => exact ⟨[], .nil⟩
  | cons y ys ih =>
    obtain ⟨k, t, rfl⟩ := h y (.head _)
    obtain ⟨ns, hn⟩ := ih fun y hy => h y (.tail _ hy)
    exact ⟨k :: ns, .cons _ _ hn⟩
/-- two entries of a ledger with other classes lie apart -/
theorem cls_apart {h₀ h : Heap} {L : Addr} {l : Led} {p q : Addr × Obj} (N : News h₀ L h l) (hp : p ∈ l) (hq : q ∈ l) (hc : p.2.cls ≠ q.2.cls) : p.1 ≠ q.1 := by
  intro e
  have h1 := (N p hp).1
  have h2 := (N q hq).1
  rw [e, h2] at h1
  exact hc (by rw [Option.some.inj h1])
theorem freshT7 : True := by
  k_with_none
  (k_with "CJ" => (first | with_reducible assumption | with_reducible exact And.left (by first | with_reducible assumption | with_reducible exact And.right (by first | with_reducible assumption | with_reducible exact And.right (by first | with_reducible assumption | with_reducible exact And.right (by first | with_reducible assumption | with_reducible exact And.right (by first | with_reducible assumption | with_reducible exact And.right (by first | with_reducible assumption | with_reducible exact And.right (by first | with_reducible assumption | with_reducible exact And.right (by first | with_reducible assumption | with_reducible exact And.right (by first | with_reducible assumption | with_reducible exact And.right (by first | with_reducible assumption | with_reducible exact And.right (by first | with_reducible assumption | with_reducible exact And.right (by first | with_reducible assumption | with_reducible exact And.right (by first | with_reducible assumption | with_reducible exact And.right (by first | with_reducible assumption | with_reducible exact And.right (by first | with_reducible assumption | with_reducible exact And.right (by first | with_reducible assumption | with_reducible exact And.right (by first | with_reducible assumption | with_reducible exact And.right (by first | with_reducible assumption | with_reducible exact And.right (by first | with_reducible assumption | with_reducible exact And.right (by first | with_reducible assumption | with_reducible exact And.right (by first | with_reducible assumption | with_reducible exact And.right (by first | with_reducible assumption | with_reducible exact And.right (by with_reducible assumption)))))))))))))))))))))))))
  (k_with "execs cons" => (k_here; (fail_if_success (fail_if_success k_gentoks)); (with_reducible refine gen_toks ?_); intro tk))
  (k_with "execs nil" => (k_here; (fail_if_success (fail_if_success k_gentoks)); (with_reducible refine gen_toks ?_); intro tk))
  w_top off
  trivial
theorem rulesT7x1 : True := by
  (k_with "compareOp Eq str str" => (first | refine eqs_ff (by first | decide | (dsimp only; decide)) ?_ | refine eqs_tt (by first | decide | (dsimp only; decide)) ?_))
  (k_with "compareOp NotEq str str" => (first | refine nes_ff (by first | decide | (dsimp only; decide)) ?_ | refine nes_tt (by first | decide | (dsimp only; decide)) ?_))
  (k_with "exec" => ((k_here; (with_reducible show wpAny _ _ (exec (Stmt.While _ _ _ _) _) _ _ _); k_dflt (refine whl_startW ?_))))
  (k_with "WhlW" => ((dsimp only [WhlW])))
  (k_with "exec For Name Name cons nil" => (walk_at "WHOLE1"))
  (k_with "pyIter ref" => ((refine Wrap.out ?_)))
  (k_with "call ref" => ((k_here; (with_reducible show wpAny _ _ (call (Value.ref 410) _) _ _ _); k_dflt (refine' Spec.use (figure_spec ?u1 ?g1 ?g2) ?k1 ?k2 ?k3 ?k4 ?k5 ?k6 ?k7 ?k8 ?k9 ?_; (case k4 => k_asm); (case k1 => k_asm); (case k2 => k_asm); (case k3 => k_asm); (case k5 => k_asm); (case k8 => exact rfl); (case k6 => exact rfl); (case k7 => exact Nat.le_of_ble_eq_true rfl); (case k9 => exact Nat.le_of_ble_eq_true rfl); (case u1 => k_updF); (case g1 => assumption); (case g2 => omega)); refine cpsF ?_; walk_at "TAIL6")))
  (k_with "call ref" => ((k_here; (with_reducible show wpAny _ _ (call (Value.ref 49) _) _ _ _); k_dflt (refine' Spec.use (next_nil _ _ _ ?g1) ?k1 ?k2 ?k3 ?k4 ?k5 ?k6 ?k7 ?k8 ?k9 ?_; (case k4 => k_asm); (case k1 => k_asm); (case k2 => k_asm); (case k3 => k_asm); (case k5 => k_asm); (case k8 => exact rfl); (case k6 => exact rfl); (case k7 => exact Nat.le_of_ble_eq_true rfl); (case k9 => exact Nat.le_of_ble_eq_true rfl); (case g1 => k_mem); skip); refine cps2 ?_; walk_at "TAIL3")))
  (k_with "call ref" => ((k_here; (with_reducible show wpAny _ _ (call (Value.ref 49) _) _ _ _); k_dflt (refine' Spec.use (next_404 _ _ _ _ _ ?g1) ?k1 ?k2 ?k3 ?k4 ?k5 ?k6 ?k7 ?k8 ?k9 ?_; (case k4 => k_asm); (case k1 => k_asm); (case k2 => k_asm); (case k3 => k_asm); (case k5 => k_asm); (case k8 => exact rfl); (case k6 => exact rfl); (case k7 => exact Nat.le_of_ble_eq_true rfl); (case k9 => exact Nat.le_of_ble_eq_true rfl); (case g1 => k_mem); skip); refine cps2 ?_; walk_at "TAIL3")))
  (k_with "call type:range" => (walk_at "WHOLE3"))
  (k_with "CompSrc" => (walk_at "WHOLE4"))
  (k_with "CompSrcT" => (walk_at "WHOLE5"))
  (k_with "call builtin:len" => ((k_here; k_dflt (refine' lenS ?N ?m ?z ?_; (case N => k_asm); (case m => k_mem); (case z => assumption)))))
  (k_with "truthy ref" => ((k_here; k_dflt (refine' truthS ?N ?m ?z ?_; (case N => k_asm); (case m => k_mem); (case z => assumption)))))
  (k_with "subscriptTail" => ((k_here; (with_reducible show wpAny _ _ (subscriptTail _ _ (Value.ref (LC.SL _)) _) _ _ _); k_dflt (refine' item_spec ?k1 ?k2 ?k3 ?k4 ?k5 ?k6 ?_; (case k6 => assumption); (case k1 => k_asm); (case k2 => k_asm); (case k3 => k_mem); (case k4 => first | assumption | omega); (case k5 => omega)))))
  (k_with "call ref" => ((k_here; (with_reducible show wpAny _ _ (call (Value.ref 403) _) _ _ _); refine Wrap.out ?_)))
  (k_with "call ref" => ((k_here; (with_reducible show wpAny _ _ (call (Value.ref 284) _) _ _ _); refine Wrap.out ?_)))
  (k_with "call ref" => ((k_here; (with_reducible show wpAny _ _ (call (Value.ref 209) _) _ _ _); refine Wrap.out ?_)))
  (k_with "subscriptTail" => ((k_here; (with_reducible show wpAny _ _ (subscriptTail _ _ (Value.ref (CH.RR _)) _) _ _ _); k_dflt (refine' item_last ?k2 ?k3 ?k4 ?_; (case k2 => k_asm); (case k3 => k_mem); (case k4 => assumption)))))
  (k_with "subscriptTail" => ((k_here; (with_reducible show wpAny _ _ (subscriptTail _ _ (Value.ref (LC.AT _)) (Value.int _ _)) _ _ _); k_dflt (refine' PySem.W.ksa_sub ?k1 ?k2 ?k3 ?k4 ?k5 ?k6 ?_ ?k7; (case k1 => k_asm); (case k2 => k_mem); (case k3 => with_reducible assumption); (case k4 => first | assumption | omega); (case k5 => omega); (case k6 => omega); (case k7 => with_unfolding_all rfl); k_whole); walk_at "TAIL12")))
  (k_with "subscriptTail" => ((k_here; (with_reducible show wpAny _ _ (subscriptTail _ _ (Value.ref (LC.DU _)) (Value.int _ _)) _ _ _); k_dflt (refine' PySem.W.ksa_sub ?k1 ?k2 ?k3 ?k4 ?k5 ?k6 ?_ ?k7; (case k1 => k_asm); (case k2 => k_mem); (case k3 => with_reducible assumption); (case k4 => first | assumption | omega); (case k5 => omega); (case k6 => omega); (case k7 => with_unfolding_all rfl); k_whole); walk_at "TAIL12")))
  (k_with "subscriptTail" => ((k_here; (with_reducible show wpAny _ _ (subscriptTail _ _ (Value.ref (RW.a _)) (Value.int _ _)) _ _ _); k_dflt (refine' PySem.W.ksa_sub ?k1 ?k2 ?k3 ?k4 ?k5 ?k6 ?_ ?k7; (case k1 => k_asm); (case k2 => k_mem); (case k3 => with_reducible assumption); (case k4 => first | assumption | omega); (case k5 => omega); (case k6 => omega); (case k7 => with_unfolding_all rfl); k_whole); walk_at "TAIL12")))
  (k_with "setItem ref int" => ((k_here; (with_reducible show wpAny _ _ (setItem (Value.ref _) (Value.int _ _) (Value.int _ _)) _ _ _); k_dflt (refine' PySem.W.ksa_set ?k1 ?k2 ?k3 ?k4 ?k5 ?k6 ?k7 ?_; (case k1 => k_asm); (case k2 => k_asm); (case k3 => k_upd); (case k4 => with_reducible assumption); (case k5 => first | assumption | omega); (case k6 => omega); (case k7 => omega); k_whole); walk_at "TAIL13")))
  (k_with "compareOp NotEq ref ref" => ((k_here; k_dflt (refine' neL_same ?k1 ?k2 ?k3 ?k4 ?k5 ?k6 ?_; (case k1 => k_asm); (case k2 => k_mem); (case k3 => k_mem); (case k4 => with_reducible assumption); (case k5 => with_reducible assumption); (case k6 => exact Nat.le_of_ble_eq_true rfl)))))
  (k_with "compareOp Eq ref ref" => ((k_here; k_dflt (first | (refine' eqL_nil ?k1 ?k2 ?k3 ?k4 ?k5 ?k6 ?_; (case k1 => k_asm); (case k2 => k_mem); (case k3 => k_mem); (case k4 => with_reducible assumption); (case k5 => with_reducible assumption); (case k6 => exact Nat.le_of_ble_eq_true rfl)) | (refine' eqL_cons ?k1 ?k2 ?k3 ?k4 ?k5 ?k6 ?_; (case k1 => k_asm); (case k2 => k_mem); (case k3 => k_mem); (case k4 => with_reducible assumption); (case k5 => with_reducible assumption); (case k6 => exact Nat.le_of_ble_eq_true rfl))))))
  trivial
noncomputable abbrev cells (L : Addr) (o1 o2 o3 o4 o5 o6 o7 : Obj) (rest : Led) : Led :=
  (L + 1, o1) :: (L + 1 + 1, o2) :: (L + 1 + 1 + 1, o3) :: (L + 1 + 1 + 1 + 1, o4) :: (L + 1 + 1 + 1 + 1 + 1, o5) :: (L + 1 + 1 + 1 + 1 + 1 + 1, o6) :: (L + 1 + 1 + 1 + 1 + 1 + 1 + 1, o7) :: rest
theorem stage3 {w : World} {pr : Program} {loose : List Str} {mean : ExcName → Option Value} {mg mb : Str → Option Value} {base h₀ : Heap} {L fa : Addr} {m : Str → Option Value} {s : Shared} {Q : Flow → Shared → Prop}
    {o1 o2 o3 o4 o5 o6 o7 : Obj} {H SL : Addr} {hs : List Value} {nh : Nat}
    (B : Below callerA base [] h₀) (X : (Mine.hd.heap_39 w.params).In h₀) (T : Top pr loose mean mg mb h₀)
    (F : Fr h₀ L s.heap m) (d1 : o1.data = .cell (some (.ref SL))) (d6 : o6.data = .cell (some (.ref H))) (hH : Hand hs)
    (hSL : ∀ p ∈ (H, W.listOf hs.toArray nh) :: cells L o1 o2 o3 o4 o5 o6 o7 [(417, tabObj #[])], p.1 ≠ SL) (hHd : ∀ p ∈ cells L o1 o2 o3 o4 o5 o6 o7 [(417, tabObj #[])], p.1 ≠ H)
    (N : News h₀ L s.heap ((SL, W.listOf #[] 0) :: (H, W.listOf hs.toArray nh) :: cells L o1 o2 o3 o4 o5 o6 o7 [(417, tabObj #[])]))
    (hnext : ∀ (rows : List RW) (hs' : List Value) (nh' : Nat) (m' : Str → Option Value) (h' : Heap) (tk' : Nat), rows.length ≤ 4 → 1 ≤ rows.length → (∀ r ∈ rows, IntsAre r.vs r.ns) → (∀ r ∈ rows, 1 ≤ r.ns.length ∧ r.ns.length ≤ 4) → Hand hs' → (rows.map (·.a)).Nodup →
      (∀ r ∈ rows, ∀ p ∈ (SL, W.listOf #[] 0) :: (H, W.listOf hs.toArray nh) :: cells L o1 o2 o3 o4 o5 o6 o7 [(417, tabObj #[])], p.1 ≠ r.a) → Fr h₀ L h' m' →
      News h₀ L h' ((SL, W.listOf (rvals rows).toArray rows.length) :: (H, W.listOf hs'.toArray nh') :: cells L o1 o2 o3 o4 o5 o6 o7 ((417, tabObj #[]) :: rls rows [])) →
      wpAny (model PySem.Challenge.pw_pb0024_01 w) (callerA.deeper (lawEnv L fa (.ref 419))) (execs (lawStmts.drop 4) (lawEnv L fa (.ref 419))) Q (fun _ _ => False) { s with heap := h', toks := tk' }) :
    wpAny (model PySem.Challenge.pw_pb0024_01 w) (callerA.deeper (lawEnv L fa (.ref 419))) (execs (lawStmts.drop 3) (lawEnv L fa (.ref 419))) Q (fun _ _ => False) s := by
  have hMk : MarkW := trivial
  generalize hR : lawStmts.drop 4 = rest4 at hnext
  have e : lawStmts.drop 3 = (lawStmts.drop 3).headD (.Pass ⟨0,0,0,0⟩) :: lawStmts.drop 4 := by rfl
  rw [e, hR]
  clear e hR
  have e : (lawStmts.drop 3).headD (.Pass ⟨0,0,0,0⟩) = (lawStmts.drop 3).headD (.Pass ⟨0,0,0,0⟩) := rfl
  conv at e => rhs; whnf
  rw [e]
  clear e
  have e : lawScope = lawScope := rfl
  conv at e => rhs; whnf
  unfold lawEnv at hnext ⊢
  rw [e] at hnext ⊢
  clear e
  have hcd := codeHd_of_K (c := 419) (P := 417) X (by kernel_rfl)
  replace hnext := wrap_in hnext
  have q0 : @Ne Nat H SL := hSL (H, W.listOf hs.toArray nh) (.head _)
  have q1 : @Ne Nat (L + 1) H := hHd (L + 1, o1) (.head _)
  have q2 : @Ne Nat (L + 1 + 1) H := hHd (L + 1 + 1, o2) (.tail _ (.head _))
  have q3 : @Ne Nat (L + 1 + 1 + 1) H := hHd (L + 1 + 1 + 1, o3) (.tail _ (.tail _ (.head _)))
  have q4 : @Ne Nat (L + 1 + 1 + 1 + 1) H := hHd (L + 1 + 1 + 1 + 1, o4) (.tail _ (.tail _ (.tail _ (.head _))))
  have q5 : @Ne Nat (L + 1 + 1 + 1 + 1 + 1) H := hHd (L + 1 + 1 + 1 + 1 + 1, o5) (.tail _ (.tail _ (.tail _ (.tail _ (.head _)))))
  have q6 : @Ne Nat (L + 1 + 1 + 1 + 1 + 1 + 1) H := hHd (L + 1 + 1 + 1 + 1 + 1 + 1, o6) (.tail _ (.tail _ (.tail _ (.tail _ (.tail _ (.head _))))))
  have q7 : @Ne Nat (L + 1 + 1 + 1 + 1 + 1 + 1 + 1) H := hHd (L + 1 + 1 + 1 + 1 + 1 + 1 + 1, o7) (.tail _ (.tail _ (.tail _ (.tail _ (.tail _ (.tail _ (.head _)))))))
  have q8 : @Ne Nat 417 H := hHd (417, tabObj #[]) (.tail _ (.tail _ (.tail _ (.tail _ (.tail _ (.tail _ (.tail _ (.head _))))))))
  have u1 : @Ne Nat (L + 1) SL := hSL (L + 1, o1) (.tail _ (.head _))
  have u2 : @Ne Nat (L + 1 + 1) SL := hSL (L + 1 + 1, o2) (.tail _ (.tail _ (.head _)))
  have u3 : @Ne Nat (L + 1 + 1 + 1) SL := hSL (L + 1 + 1 + 1, o3) (.tail _ (.tail _ (.tail _ (.head _))))
  have u4 : @Ne Nat (L + 1 + 1 + 1 + 1) SL := hSL (L + 1 + 1 + 1 + 1, o4) (.tail _ (.tail _ (.tail _ (.tail _ (.head _)))))
  have u5 : @Ne Nat (L + 1 + 1 + 1 + 1 + 1) SL := hSL (L + 1 + 1 + 1 + 1 + 1, o5) (.tail _ (.tail _ (.tail _ (.tail _ (.tail _ (.head _))))))
  have u6 : @Ne Nat (L + 1 + 1 + 1 + 1 + 1 + 1) SL := hSL (L + 1 + 1 + 1 + 1 + 1 + 1, o6) (.tail _ (.tail _ (.tail _ (.tail _ (.tail _ (.tail _ (.head _)))))))
  have u7 : @Ne Nat (L + 1 + 1 + 1 + 1 + 1 + 1 + 1) SL := hSL (L + 1 + 1 + 1 + 1 + 1 + 1 + 1, o7) (.tail _ (.tail _ (.tail _ (.tail _ (.tail _ (.tail _ (.tail _ (.head _))))))))
  have u8 : @Ne Nat 417 SL := hSL (417, tabObj #[]) (.tail _ (.tail _ (.tail _ (.tail _ (.tail _ (.tail _ (.tail _ (.tail _ (.head _)))))))))
  dsimp only [cells] at N
  k_steps
  rename_i k1 t1 vs1 nn1 hk0 hk4 hH1 lN0 h2 tk2 t2 u2 v2 hR2 lF lN hkeep
  have hn : 1 + k1 = ((1 + k1).toNat : Int) := by omega
  have hn2 : (1 + k1).toNat ≤ 4 ∧ 1 ≤ (1 + k1).toNat := by omega
  refine wrap_in (range_for (n := (1 + k1).toNat) (fun i _ news => ∃ (rows : List RW) (hs' : List Value) (nh' : Nat), rows.length = i ∧ (∀ r ∈ rows, IntsAre r.vs r.ns) ∧ (∀ r ∈ rows, 1 ≤ r.ns.length ∧ r.ns.length ≤ 4) ∧ Hand hs' ∧ (rows.map (·.a)).Nodup ∧
      (∀ r ∈ rows, ∀ p ∈ (SL, W.listOf #[] 0) :: (H, W.listOf hs.toArray nh) :: cells L o1 o2 o3 o4 o5 o6 o7 [(417, tabObj #[])], p.1 ≠ r.a) ∧ news = (SL, W.listOf (rvals rows).toArray i) :: (H, W.listOf hs'.toArray nh') :: cells L o1 o2 o3 o4 o5 o6 o7 ((417, tabObj #[]) :: rls rows [])) (by rfl) hR2 hn (by omega) lF lN
    (fun _ _ => ⟨[], vs1, nn1, rfl, (fun _ h => nomatch h), (fun _ h => nomatch h), hH1, List.nodup_nil, (fun _ h => nomatch h), rfl⟩) ?_ ?_)
  · intro It i m₁ _ hIt hi hq1
    refine ex3 hq1 fun rows hs3 nh3 hp2 => ?_
    clear hq1
    have hl := hp2.1
    have hI := hp2.2.1
    have hF := hp2.2.2.1
    have hH3 := hp2.2.2.2.1
    have hnd := hp2.2.2.2.2.1
    have hoff := hp2.2.2.2.2.2.1
    have eq3 := hp2.2.2.2.2.2.2
    clear hp2
    subst eq3
    intro t₁ h₁ tk₁ it hit F₁ N₁
    have hZ1 : ∀ p ∈ rls rows [], p.1 ≠ SL := fun p hp e => by
      rcases mem_rls.mp hp with ⟨r, hr, rfl⟩ | hp
      · exact hoff r hr _ (.head _) e.symm
      · cases hp
    have hZ2 : ∀ p ∈ rls rows [], p.1 ≠ H := fun p hp e => by
      rcases mem_rls.mp hp with ⟨r, hr, rfl⟩ | hp
      · exact hoff r hr _ (.tail _ (.head _)) e.symm
      · cases hp
    have nI1 : @Ne Nat It SL := Nat.ne_of_gt (hIt (SL, W.listOf #[] 0) (.head _))
    have nI2 : @Ne Nat It H := Nat.ne_of_gt (hIt (H, W.listOf vs1.toArray nn1) (.tail _ (.head _)))
    have hItA : ∀ p ∈ (SL, W.listOf #[] 0) :: (H, W.listOf vs1.toArray nn1) :: cells L o1 o2 o3 o4 o5 o6 o7 [(417, tabObj #[])], @Ne Nat p.1 It := fun p hp => Nat.ne_of_lt (hIt p hp)
    have hItR : ∀ r ∈ rows, @Ne Nat r.a It := fun r hr => by
      refine cls_apart N₁ (p := (r.a, LCg.lst r.vs)) (q := (It, it)) ?_ (.head _) ?_
      · exact .tail _ (.tail _ (.tail _ (.tail _ (.tail _ (.tail _ (.tail _ (.tail _ (.tail _ (.tail _ (.tail _ (mem_rls.mpr (.inl ⟨r, hr, rfl⟩))))))))))))
      · show Value.type "list" ≠ it.cls
        rw [hit]; decide
    clear hSL hHd lN lN0 hR2 hkeep hIt lF
    dsimp only [cells] at N₁
    obtain ⟨Z, hZ⟩ : ∃ Z, Z = rls rows [] := ⟨_, rfl⟩
    rw [← hZ] at N₁ hZ1 hZ2
    k_steps
    rename_i k2 t3 vs2 nn2 hj0 hj4 hH2 lN0 h3 tk3 t4 u4 v4 hR2 lF lN hkeep
    have hm : 1 + k2 = ((1 + k2).toNat : Int) := by omega
    have hm2 : (1 + k2).toNat ≤ 4 ∧ 1 ≤ (1 + k2).toNat := by omega
    obtain ⟨U, hU⟩ : ∃ U : Led, U = (It, it) :: (SL, W.listOf (rvals rows).toArray i) :: (L + 1, o1) :: (L + 1 + 1, o2) :: (L + 1 + 1 + 1, o3) :: (L + 1 + 1 + 1 + 1, o4) :: (L + 1 + 1 + 1 + 1 + 1, o5) :: (L + 1 + 1 + 1 + 1 + 1 + 1 + 1, o7) :: (417, tabObj #[]) :: Z := ⟨_, rfl⟩
    have hU2 : ∀ p ∈ U, p.1 ≠ H := by
      rw [hU]
      refine List.forall_mem_cons.mpr ⟨nI2, ?_⟩
      refine List.forall_mem_cons.mpr ⟨Ne.symm q0, ?_⟩
      refine List.forall_mem_cons.mpr ⟨q1, ?_⟩
      refine List.forall_mem_cons.mpr ⟨q2, ?_⟩
      refine List.forall_mem_cons.mpr ⟨q3, ?_⟩
      refine List.forall_mem_cons.mpr ⟨q4, ?_⟩
      refine List.forall_mem_cons.mpr ⟨q5, ?_⟩
      refine List.forall_mem_cons.mpr ⟨q7, ?_⟩
      exact List.forall_mem_cons.mpr ⟨q8, hZ2⟩
    have lN2 : News h₀ L h3 ((H, W.listOf vs2.toArray nn2) :: (L + 1 + 1 + 1 + 1 + 1 + 1, o6) :: U) := News.sub lN (by
      rw [hU]
      repeat refine List.forall_mem_cons.mpr ⟨by k_mem, ?_⟩
      exact fun p hp => by repeat (first | exact hp | refine List.Mem.tail _ ?_))
    clear lN lN0
    refine wrap_in (LCg.CompSrc.range (n := (1 + k2).toNat) (by rfl) lF lN2 hR2 (small_one (by decide) (by decide) (by omega) (by omega)) (by rw [rangeSize_nat, Int.sub_zero]) (by rw [sizeLine_eq]; omega) fun g' => ?_)
    refine hand_comp _ _ (fun y => ∃ k t, y = Value.int k t) _ _ hH2 ?_ ?_
    · intro hs5 nh5 hH5 C oC I oI D oD m₂ h tk E' ne1 ne2 ne3 hC F' N'
      k_steps
      exact ⟨⟨_, _, rfl⟩, _, _, by assumption, Ends.intro (by assumption) (by assumption)⟩
    · intro ys hs5 nh5 hlen hys hH5 D h tk F' N' ofD
      subst hU
      have hrvz : (rvals rows).length < 100 := by rw [rvals, List.length_map]; omega
      have nD1 : @Ne Nat D SL := fun e => off1_mem ofD (SL, W.listOf (rvals rows).toArray i) (by first | k_mem | simp) e.symm
      k_steps
      rename Fr _ _ _ _ => lF3
      rename News _ _ _ _ => lN3
      obtain ⟨ns, hns⟩ := ints_of hys
      have hnl : ns.length = (1 + k2).toNat := by rw [← hns.length]; exact hlen
      have ev : rvals (rows ++ [(⟨D, ys, ns⟩ : RW)]) = rvals rows ++ [.ref D] := by simp [rvals]
      have hfix : ∀ p ∈ (SL, W.listOf #[] 0) :: (H, W.listOf hs.toArray nh) :: cells L o1 o2 o3 o4 o5 o6 o7 [(417, tabObj #[])], @Ne Nat p.1 D := by
        refine List.forall_mem_cons.mpr ⟨off1_mem ofD (SL, W.listOf (rvals rows).toArray i) (by first | k_mem | simp), ?_⟩
        refine List.forall_mem_cons.mpr ⟨off1_mem ofD (H, W.listOf hs5.toArray nh5) (by first | k_mem | simp), ?_⟩
        refine List.forall_mem_cons.mpr ⟨off1_mem ofD (L + 1, o1) (by first | k_mem | simp), ?_⟩
        refine List.forall_mem_cons.mpr ⟨off1_mem ofD (L + 1 + 1, o2) (by first | k_mem | simp), ?_⟩
        refine List.forall_mem_cons.mpr ⟨off1_mem ofD (L + 1 + 1 + 1, o3) (by first | k_mem | simp), ?_⟩
        refine List.forall_mem_cons.mpr ⟨off1_mem ofD (L + 1 + 1 + 1 + 1, o4) (by first | k_mem | simp), ?_⟩
        refine List.forall_mem_cons.mpr ⟨off1_mem ofD (L + 1 + 1 + 1 + 1 + 1, o5) (by first | k_mem | simp), ?_⟩
        refine List.forall_mem_cons.mpr ⟨off1_mem ofD (L + 1 + 1 + 1 + 1 + 1 + 1, o6) (by first | k_mem | simp), ?_⟩
        refine List.forall_mem_cons.mpr ⟨off1_mem ofD (L + 1 + 1 + 1 + 1 + 1 + 1 + 1, o7) (by first | k_mem | simp), ?_⟩
        refine List.forall_mem_cons.mpr ⟨off1_mem ofD (417, tabObj #[]) (by first | k_mem | simp), ?_⟩
        exact List.forall_mem_nil _
      have hDI : @Ne Nat D It := Ne.symm (off1_mem ofD (It, it) (by first | k_mem | simp))
      have hDr : ∀ r ∈ rows, @Ne Nat r.a D := fun r hr => off1_mem ofD (r.a, LCg.lst r.vs) (by
        rw [hZ]
        exact .tail _ (.tail _ (.tail _ (.tail _ (.tail _ (.tail _ (.tail _ (.tail _ (.tail _ (.tail _ (.tail _ (mem_rls.mpr (.inl ⟨r, hr, rfl⟩)))))))))))))
      show Wrap _
      refine wrap_in ⟨_, _, _, (SL, W.listOf (rvals (rows ++ [(⟨D, ys, ns⟩ : RW)])).toArray (i + 1)) :: (H, W.listOf hs5.toArray nh5) :: cells L o1 o2 o3 o4 o5 o6 o7 ((417, tabObj #[]) :: rls (rows ++ [(⟨D, ys, ns⟩ : RW)]) []), rfl, lF3, News.sub lN3 fun p hp => ?_, fun p hp => ?_, rows ++ [⟨D, ys, ns⟩], hs5, nh5, ?_, ?_, ?_, hH5, ?_, ?_, rfl⟩
      · rw [ev, ← List.push_toArray] at hp
        simp only [List.mem_cons] at hp ⊢
        rcases hp with h | h | h | h | h | h | h | h | h | h | h | h
        iterate 11 (simp only [h, true_or, or_true])
        rcases mem_rls.mp h with ⟨r, hr, rfl⟩ | h
        · rcases List.mem_append.mp hr with hr | hr
          · have hm : (r.a, LCg.lst r.vs) ∈ Z := by rw [hZ]; exact mem_rls.mpr (.inl ⟨r, hr, rfl⟩)
            simp only [hm, or_true]
          · rw [List.mem_singleton.mp hr]; exact .inl rfl
        · cases h
      · simp only [cells, List.mem_cons] at hp
        rcases hp with rfl | rfl | rfl | rfl | rfl | rfl | rfl | rfl | rfl | rfl | hp
        · exact hItA (SL, W.listOf #[] 0) (.head _)
        · exact hItA (H, W.listOf vs1.toArray nn1) (.tail _ (.head _))
        · exact hItA _ (.tail _ (.tail _ (.head _)))
        · exact hItA _ (.tail _ (.tail _ (.tail _ (.head _))))
        · exact hItA _ (.tail _ (.tail _ (.tail _ (.tail _ (.head _)))))
        · exact hItA _ (.tail _ (.tail _ (.tail _ (.tail _ (.tail _ (.head _))))))
        · exact hItA _ (.tail _ (.tail _ (.tail _ (.tail _ (.tail _ (.tail _ (.head _)))))))
        · exact hItA _ (.tail _ (.tail _ (.tail _ (.tail _ (.tail _ (.tail _ (.tail _ (.head _))))))))
        · exact hItA _ (.tail _ (.tail _ (.tail _ (.tail _ (.tail _ (.tail _ (.tail _ (.tail _ (.head _)))))))))
        · exact hItA _ (.tail _ (.tail _ (.tail _ (.tail _ (.tail _ (.tail _ (.tail _ (.tail _ (.tail _ (.head _))))))))))
        rcases mem_rls.mp hp with ⟨r, hr, rfl⟩ | hp
        · rcases List.mem_append.mp hr with hr | hr
          · exact hItR r hr
          · rw [List.mem_singleton.mp hr]; exact hDI
        · cases hp
      · rw [List.length_append, hl]; rfl
      · intro r hr
        rcases List.mem_append.mp hr with hr | hr
        · exact hI r hr
        · rw [List.mem_singleton.mp hr]; exact hns
      · intro r hr
        rcases List.mem_append.mp hr with hr | hr
        · exact hF r hr
        · rw [List.mem_singleton.mp hr]
          show 1 ≤ ns.length ∧ ns.length ≤ 4
          omega
      · rw [List.map_append, List.nodup_append]
        refine ⟨hnd, by simp, fun a ha b hb => ?_⟩
        obtain ⟨r, hr, rfl⟩ := List.mem_map.mp ha
        have hb : b = D := by simpa using hb
        rw [hb]; exact hDr r hr
      · intro r hr
        rcases List.mem_append.mp hr with hr | hr
        · exact hoff r hr
        · rw [List.mem_singleton.mp hr]; exact hfix
  · intro m₁ _ hq4
    refine ex3 hq4 fun rows hs3 nh3 hp5 => ?_
    clear hq4
    have hl := hp5.1
    have hI := hp5.2.1
    have hF := hp5.2.2.1
    have hH3 := hp5.2.2.2.1
    have hnd := hp5.2.2.2.2.1
    have hoff := hp5.2.2.2.2.2.1
    have eq6 := hp5.2.2.2.2.2.2
    clear hp5
    subst eq6
    intro h₁ tk₁ F₁ N₁
    k_steps
    exact hnext rows hs3 nh3 _ _ _ (by omega) (by omega) hI hF hH3 hnd hoff F₁ (by rw [hl]; exact N₁)
theorem freshL10 : True := by
  k_with_none
  (k_with "CJ" => (first | with_reducible assumption | with_reducible exact And.left (by first | with_reducible assumption | with_reducible exact And.right (by first | with_reducible assumption | with_reducible exact And.right (by first | with_reducible assumption | with_reducible exact And.right (by first | with_reducible assumption | with_reducible exact And.right (by first | with_reducible assumption | with_reducible exact And.right (by first | with_reducible assumption | with_reducible exact And.right (by first | with_reducible assumption | with_reducible exact And.right (by first | with_reducible assumption | with_reducible exact And.right (by first | with_reducible assumption | with_reducible exact And.right (by first | with_reducible assumption | with_reducible exact And.right (by first | with_reducible assumption | with_reducible exact And.right (by first | with_reducible assumption | with_reducible exact And.right (by first | with_reducible assumption | with_reducible exact And.right (by first | with_reducible assumption | with_reducible exact And.right (by first | with_reducible assumption | with_reducible exact And.right (by first | with_reducible assumption | with_reducible exact And.right (by first | with_reducible assumption | with_reducible exact And.right (by first | with_reducible assumption | with_reducible exact And.right (by first | with_reducible assumption | with_reducible exact And.right (by first | with_reducible assumption | with_reducible exact And.right (by first | with_reducible assumption | with_reducible exact And.right (by first | with_reducible assumption | with_reducible exact And.right (by with_reducible assumption)))))))))))))))))))))))))
  (k_with "execs cons" => (k_here; (fail_if_success (fail_if_success k_gentoks)); (with_reducible refine gen_toks ?_); intro tk))
  (k_with "execs nil" => (k_here; (fail_if_success (fail_if_success k_gentoks)); (with_reducible refine gen_toks ?_); intro tk))
  w_top off
  trivial
/-- no two entries of a ledger lie at one address -/
noncomputable def NDL (l : Led) : Prop := (l.map (·.1)).Nodup
theorem NDL.cons {l : Led} {d : Addr} {o : Obj} (h : NDL l) (a : AllLt d l) : NDL ((d, o) :: l) := by
  unfold NDL
  rw [List.map_cons, List.nodup_cons]
  refine ⟨fun hm => ?_, h⟩
  obtain ⟨p, hp, e⟩ := List.mem_map.mp hm
  exact allLt_ne a (Nat.le_refl _) p hp e
theorem NDL.consN {l : Led} {d : Addr} {o : Obj} (h : NDL l) (a : ∀ p ∈ l, p.1 ≠ d) : NDL ((d, o) :: l) := by
  unfold NDL
  rw [List.map_cons, List.nodup_cons]
  refine ⟨fun hm => ?_, h⟩
  obtain ⟨p, hp, e⟩ := List.mem_map.mp hm
  exact a p hp e
theorem allLt_lt {d x : Addr} (hx : @LT.lt Nat _ d x) : ∀ {l : Led}, AllLt d l → AllLt x l
  | [], _ => trivial
  | _ :: _, h => ⟨Nat.lt_trans h.1 hx, allLt_lt hx h.2⟩
theorem NDL.cons2 {l : Led} {d x : Addr} {o o' : Obj} (h : NDL l) (a : AllLt d l) (b : @LT.lt Nat _ d x) : NDL ((x, o') :: (d, o) :: l) :=
  (h.cons (o := o) a).cons (show AllLt x ((d, o) :: l) from ⟨b, allLt_lt b a⟩)
theorem NDL.perm {l l' : Led} (h : NDL l) (p : (l.map (·.1)).Perm (l'.map (·.1))) : NDL l' := p.nodup_iff.mp h
/-- the ledger when the system stands -/
noncomputable abbrev full4 (w : World) (y : MK) (C CD : Addr) (tn0 tnu : Tok) (c : CH) (hs : List Value) (nh : Nat) (L SL : Addr) (sl : List Value) (nsl : Nat) (o1 o2 o3 o4 o5 : Obj) (tab : Array Value) (Z : Led) : Led :=
  mkl w y 0 tnu [] 0 0 ((C, instObj 31 CD) :: (CD, dictOf [en w "now" (y.k 7) (.int 0 tn0)] 1) :: chl c hs nh [] 0 ((SL, W.listOf sl.toArray nsl) :: (L + 1, o1) :: (L + 1 + 1, o2) :: (L + 1 + 1 + 1, o3) :: (L + 1 + 1 + 1 + 1, o4) :: (L + 1 + 1 + 1 + 1 + 1, o5) :: (417, tabObj tab) :: Z))
theorem NDL.addr {l l' : Led} (h : NDL l) (e : l'.map (·.1) = l.map (·.1)) : NDL l' := by unfold NDL; rw [e]; exact h
theorem NDL.ne {l : Led} {p q : Addr × Obj} (h : NDL l) (i j : Nat) (hij : i < j) (hi : l[i]? = some p) (hj : l[j]? = some q) : @Ne Nat p.1 q.1 := by
  have h1 := List.pairwise_iff_getElem.mp (show List.Pairwise (· ≠ ·) (l.map (·.1)) from h) i j
  obtain ⟨hi1, hi2⟩ := List.getElem?_eq_some_iff.mp hi
  obtain ⟨hj1, hj2⟩ := List.getElem?_eq_some_iff.mp hj
  have h2 := h1 (by rw [List.length_map]; exact hi1) (by rw [List.length_map]; exact hj1) hij
  rw [List.getElem_map, List.getElem_map, hi2, hj2] at h2
  exact h2
theorem NDL.off {l : Led} {p : Addr × Obj} (h : NDL l) (i : Nat) (hi : l[i]? = some p) : ∀ q ∈ l.drop (i + 1), q.1 ≠ p.1 := fun q hq e => by
  obtain ⟨k, hk⟩ := List.getElem?_of_mem hq
  rw [List.getElem?_drop] at hk
  exact h.ne i (i + 1 + k) (by omega) hi hk e.symm
theorem O3.Up.nd {w : World} {p : O3} {lm ch : Value} {rest : Led} (u : p.Up rest) (h : NDL rest) : NDL (o3l w p lm ch rest) := by
  have up : ∀ {x d : Addr} {o o' : Obj} {l : Led}, NDL ((d, o) :: l) ∧ AllLt d l → @LT.lt Nat _ d x → NDL ((x, o') :: (d, o) :: l) ∧ AllLt x ((d, o) :: l) := fun {x d o o' l} a b =>
    have c : AllLt x ((d, o) :: l) := ⟨b, allLt_lt b a.2⟩
    ⟨a.1.cons c, c⟩
  exact (up (up (up (up (up (up (up ⟨h.cons u.a, u.a⟩ u.b) u.c) u.d) u.e) u.f) u.g) u.h).1
/-- from the order in which the walk leaves the ledger to the law's own -/
theorem perm4 {α : Type} (DP LB LBD TL C CD T TD LM LMD ch cc RR SL H a1 a2 a3 a4 a5 a6 a7 t : α) (Z : List α) :
    (LM :: LMD :: ch :: cc :: RR :: SL :: H :: a1 :: a2 :: a3 :: a4 :: a5 :: a6 :: a7 :: t :: DP :: LB :: LBD :: TL :: C :: CD :: T :: TD :: Z).Perm
    (T :: TD :: TL :: LB :: LBD :: DP :: LM :: LMD :: C :: CD :: H :: RR :: ch :: cc :: a7 :: a6 :: SL :: a1 :: a2 :: a3 :: a4 :: a5 :: t :: Z) := by
  have sw : ∀ (p a b r : List α), (p ++ (a ++ (b ++ r))).Perm (p ++ (b ++ (a ++ r))) := fun p a b r => List.Perm.append_left p (List.perm_append_comm_assoc a b r)
  refine (sw [] [LM, LMD, ch, cc, RR, SL, H, a1, a2, a3, a4, a5, a6, a7, t] [DP, LB, LBD, TL, C, CD, T, TD] Z).trans ?_
  refine (sw [] [DP, LB, LBD, TL, C, CD] [T, TD] (LM :: LMD :: ch :: cc :: RR :: SL :: H :: a1 :: a2 :: a3 :: a4 :: a5 :: a6 :: a7 :: t :: Z)).trans ?_
  refine (sw [T, TD] [DP, LB, LBD] [TL] (C :: CD :: LM :: LMD :: ch :: cc :: RR :: SL :: H :: a1 :: a2 :: a3 :: a4 :: a5 :: a6 :: a7 :: t :: Z)).trans ?_
  refine (sw [T, TD, TL] [DP] [LB, LBD] (C :: CD :: LM :: LMD :: ch :: cc :: RR :: SL :: H :: a1 :: a2 :: a3 :: a4 :: a5 :: a6 :: a7 :: t :: Z)).trans ?_
  refine (sw [T, TD, TL, LB, LBD, DP] [C, CD] [LM, LMD] (ch :: cc :: RR :: SL :: H :: a1 :: a2 :: a3 :: a4 :: a5 :: a6 :: a7 :: t :: Z)).trans ?_
  refine (sw [T, TD, TL, LB, LBD, DP, LM, LMD, C, CD] [ch, cc, RR, SL] [H] (a1 :: a2 :: a3 :: a4 :: a5 :: a6 :: a7 :: t :: Z)).trans ?_
  refine (sw [T, TD, TL, LB, LBD, DP, LM, LMD, C, CD, H] [ch, cc] [RR] (SL :: a1 :: a2 :: a3 :: a4 :: a5 :: a6 :: a7 :: t :: Z)).trans ?_
  refine (sw [T, TD, TL, LB, LBD, DP, LM, LMD, C, CD, H, RR, ch, cc] [SL, a1, a2, a3, a4, a5] [a6, a7] (t :: Z)).trans ?_
  exact sw [T, TD, TL, LB, LBD, DP, LM, LMD, C, CD, H, RR, ch, cc] [a6] [a7] (SL :: a1 :: a2 :: a3 :: a4 :: a5 :: t :: Z)
theorem stage4_end {w : World} {h₀ h' : Heap} {L H SL LM LMD ch cc RR : Addr} {p : O3} {pk : Nat → Tok} {hs sl : List Value} {nh nsl : Nat} {Z : Led} {o1 o2' o3 o4 o5 o6 o7' oc : Obj} {tab : Array Value} {qual : Str} {doc pm ctv : Value} {cvs : Array Value} {ct : Tok} {P : Prop}
    (hN : NDL ((LM, instObj 88 LMD) :: (LMD, dictOf [en w "width" (pk 12) (.int 32 275), en w "steps" (pk 13) (.int 1000000 278), en w "depth" (pk 14) (.int 50 279), en w "members" (pk 15) (.int 10000 282), en w "text" (pk 16) (.int 100000 285), en w "tasks" (pk 17) (.int 50 286)] 6) :: (ch, fnMade "_law_chooser" qual chParams chBody chScope [("ready_rows", L + 1 + 1 + 1 + 1 + 1 + 1 + 1), ("hand", L + 1 + 1 + 1 + 1 + 1 + 1)] doc pm cc ctv) :: (cc, oc) :: (RR, W.listOf #[] 0) :: (SL, W.listOf sl.toArray nsl) :: (H, W.listOf hs.toArray nh) :: cells L o1 o2' o3 o4 o5 o6 o7' ((417, tabObj tab) :: o3l w p (.ref LM) (.ref ch) Z)))
    (hoc : oc.data = .fields cvs) (hcv : cvs[1]? = some (.str qual ct)) (h7 : o7'.data = .cell (some (.ref RR))) (h6 : o6.data = .cell (some (.ref H)))
    (N : News h₀ L h' ((LM, instObj 88 LMD) :: (LMD, dictOf [en w "width" (pk 12) (.int 32 275), en w "steps" (pk 13) (.int 1000000 278), en w "depth" (pk 14) (.int 50 279), en w "members" (pk 15) (.int 10000 282), en w "text" (pk 16) (.int 100000 285), en w "tasks" (pk 17) (.int 50 286)] 6) :: (ch, fnMade "_law_chooser" qual chParams chBody chScope [("ready_rows", L + 1 + 1 + 1 + 1 + 1 + 1 + 1), ("hand", L + 1 + 1 + 1 + 1 + 1 + 1)] doc pm cc ctv) :: (cc, oc) :: (RR, W.listOf #[] 0) :: (SL, W.listOf sl.toArray nsl) :: (H, W.listOf hs.toArray nh) :: cells L o1 o2' o3 o4 o5 o6 o7' ((417, tabObj tab) :: o3l w p (.ref LM) (.ref ch) Z)))
    (k : ∀ (y : MK) (C CD : Addr) (tn0 tnu : Tok) (c : CH), c.Ok → y.choose = .ref c.ch → y.clock = .ref C → c.H = H → c.cR = L + 1 + 1 + 1 + 1 + 1 + 1 + 1 → c.cH = L + 1 + 1 + 1 + 1 + 1 + 1 → y.T = p.T → NDL (full4 w y C CD tn0 tnu c hs nh L SL sl nsl o1 o2' o3 o4 o5 tab Z) → News h₀ L h' (full4 w y C CD tn0 tnu c hs nh L SL sl nsl o1 o2' o3 o4 o5 tab Z) → P) : P := by
  have e : ((LM, instObj 88 LMD) :: (LMD, dictOf [en w "width" (pk 12) (.int 32 275), en w "steps" (pk 13) (.int 1000000 278), en w "depth" (pk 14) (.int 50 279), en w "members" (pk 15) (.int 10000 282), en w "text" (pk 16) (.int 100000 285), en w "tasks" (pk 17) (.int 50 286)] 6) :: (ch, fnMade "_law_chooser" qual chParams chBody chScope [("ready_rows", L + 1 + 1 + 1 + 1 + 1 + 1 + 1), ("hand", L + 1 + 1 + 1 + 1 + 1 + 1)] doc pm cc ctv) :: (cc, oc) :: (RR, W.listOf #[] 0) :: (SL, W.listOf sl.toArray nsl) :: (H, W.listOf hs.toArray nh) :: cells L o1 o2' o3 o4 o5 o6 o7' ((417, tabObj tab) :: o3l w p (.ref LM) (.ref ch) Z)).Perm (full4 w ⟨p.T, p.TD, p.TL, p.LB, p.LBD, p.DP, LM, LMD, fun i => cond (Nat.ble i 11) (p.k i) (pk i), .ref ch, .ref p.C, .int 0 p.t1, .none, 0, p.t3⟩ p.C p.CD p.t0 p.t2 ⟨ch, cc, L + 1 + 1 + 1 + 1 + 1 + 1 + 1, L + 1 + 1 + 1 + 1 + 1 + 1, H, RR, qual, doc, pm, ctv, oc, o7', o6, cvs, ct⟩ hs nh L SL sl nsl o1 o2' o3 o4 o5 tab Z) :=
    perm4 _ _ _ _ _ _ _ _ _ _ _ _ _ _ _ _ _ _ _ _ _ _ _ Z
  refine k _ p.C p.CD p.t0 p.t2 ⟨ch, cc, L + 1 + 1 + 1 + 1 + 1 + 1 + 1, L + 1 + 1 + 1 + 1 + 1 + 1, H, RR, qual, doc, pm, ctv, oc, o7', o6, cvs, ct⟩ ?_ rfl rfl rfl rfl rfl rfl (hN.perm (e.map _)) (News.sub N fun p hp => e.mem_iff.mpr hp)
  exact ⟨hoc, hcv, h7, h6, hN.ne 4 6 (by decide) rfl rfl, hN.ne 2 6 (by decide) rfl rfl, hN.ne 3 6 (by decide) rfl rfl, (hN.ne 6 13 (by decide) rfl rfl).symm, (hN.ne 6 12 (by decide) rfl rfl).symm, hN.ne 2 4 (by decide) rfl rfl, hN.ne 3 4 (by decide) rfl rfl, (hN.ne 4 13 (by decide) rfl rfl).symm, (hN.ne 4 12 (by decide) rfl rfl).symm⟩
theorem freshT8 : True := by
  k_with_none
  (k_with "CJ" => (first | with_reducible assumption | with_reducible exact And.left (by first | with_reducible assumption | with_reducible exact And.right (by first | with_reducible assumption | with_reducible exact And.right (by first | with_reducible assumption | with_reducible exact And.right (by first | with_reducible assumption | with_reducible exact And.right (by first | with_reducible assumption | with_reducible exact And.right (by first | with_reducible assumption | with_reducible exact And.right (by first | with_reducible assumption | with_reducible exact And.right (by first | with_reducible assumption | with_reducible exact And.right (by first | with_reducible assumption | with_reducible exact And.right (by first | with_reducible assumption | with_reducible exact And.right (by first | with_reducible assumption | with_reducible exact And.right (by first | with_reducible assumption | with_reducible exact And.right (by first | with_reducible assumption | with_reducible exact And.right (by first | with_reducible assumption | with_reducible exact And.right (by first | with_reducible assumption | with_reducible exact And.right (by first | with_reducible assumption | with_reducible exact And.right (by first | with_reducible assumption | with_reducible exact And.right (by first | with_reducible assumption | with_reducible exact And.right (by first | with_reducible assumption | with_reducible exact And.right (by first | with_reducible assumption | with_reducible exact And.right (by first | with_reducible assumption | with_reducible exact And.right (by first | with_reducible assumption | with_reducible exact And.right (by with_reducible assumption)))))))))))))))))))))))))
  (k_with "execs cons" => (k_here; (fail_if_success (fail_if_success k_gentoks)); (with_reducible refine gen_toks ?_); intro tk))
  (k_with "execs nil" => (k_here; (fail_if_success (fail_if_success k_gentoks)); (with_reducible refine gen_toks ?_); intro tk))
  w_top off
  trivial
theorem rulesT8x1 : True := by
  (k_with "compareOp Eq str str" => (first | refine eqs_ff (by first | decide | (dsimp only; decide)) ?_ | refine eqs_tt (by first | decide | (dsimp only; decide)) ?_))
  (k_with "compareOp NotEq str str" => (first | refine nes_ff (by first | decide | (dsimp only; decide)) ?_ | refine nes_tt (by first | decide | (dsimp only; decide)) ?_))
  (k_with "exec" => ((k_here; (with_reducible show wpAny _ _ (exec (Stmt.While _ _ _ _) _) _ _ _); k_dflt (refine whl_startW ?_))))
  (k_with "WhlW" => ((dsimp only [WhlW])))
  (k_with "exec For Name Name cons nil" => (walk_at "WHOLE1"))
  (k_with "pyIter ref" => ((refine Wrap.out ?_)))
  (k_with "call ref" => ((k_here; (with_reducible show wpAny _ _ (call (Value.ref 410) _) _ _ _); k_dflt (refine' Spec.use (figure_spec ?u1 ?g1 ?g2) ?k1 ?k2 ?k3 ?k4 ?k5 ?k6 ?k7 ?k8 ?k9 ?_; (case k4 => k_asm); (case k1 => k_asm); (case k2 => k_asm); (case k3 => k_asm); (case k5 => k_asm); (case k8 => exact rfl); (case k6 => exact rfl); (case k7 => exact Nat.le_of_ble_eq_true rfl); (case k9 => exact Nat.le_of_ble_eq_true rfl); (case u1 => k_updF); (case g1 => assumption); (case g2 => omega)); refine cpsF ?_; walk_at "TAIL6")))
  (k_with "call ref" => ((k_here; (with_reducible show wpAny _ _ (call (Value.ref 49) _) _ _ _); k_dflt (refine' Spec.use (next_nil _ _ _ ?g1) ?k1 ?k2 ?k3 ?k4 ?k5 ?k6 ?k7 ?k8 ?k9 ?_; (case k4 => k_asm); (case k1 => k_asm); (case k2 => k_asm); (case k3 => k_asm); (case k5 => k_asm); (case k8 => exact rfl); (case k6 => exact rfl); (case k7 => exact Nat.le_of_ble_eq_true rfl); (case k9 => exact Nat.le_of_ble_eq_true rfl); (case g1 => k_mem); skip); refine cps2 ?_; walk_at "TAIL3")))
  (k_with "call ref" => ((k_here; (with_reducible show wpAny _ _ (call (Value.ref 49) _) _ _ _); k_dflt (refine' Spec.use (next_404 _ _ _ _ _ ?g1) ?k1 ?k2 ?k3 ?k4 ?k5 ?k6 ?k7 ?k8 ?k9 ?_; (case k4 => k_asm); (case k1 => k_asm); (case k2 => k_asm); (case k3 => k_asm); (case k5 => k_asm); (case k8 => exact rfl); (case k6 => exact rfl); (case k7 => exact Nat.le_of_ble_eq_true rfl); (case k9 => exact Nat.le_of_ble_eq_true rfl); (case g1 => k_mem); skip); refine cps2 ?_; walk_at "TAIL3")))
  (k_with "call type:range" => (walk_at "WHOLE3"))
  (k_with "CompSrc" => (walk_at "WHOLE4"))
  (k_with "CompSrcT" => (walk_at "WHOLE5"))
  (k_with "call builtin:len" => ((k_here; k_dflt (refine' lenS ?N ?m ?z ?_; (case N => k_asm); (case m => k_mem); (case z => assumption)))))
  (k_with "truthy ref" => ((k_here; k_dflt (refine' truthS ?N ?m ?z ?_; (case N => k_asm); (case m => k_mem); (case z => assumption)))))
  (k_with "subscriptTail" => ((k_here; (with_reducible show wpAny _ _ (subscriptTail _ _ (Value.ref (LC.SL _)) _) _ _ _); k_dflt (refine' item_spec ?k1 ?k2 ?k3 ?k4 ?k5 ?k6 ?_; (case k6 => assumption); (case k1 => k_asm); (case k2 => k_asm); (case k3 => k_mem); (case k4 => first | assumption | omega); (case k5 => omega)))))
  (k_with "call ref" => ((k_here; (with_reducible show wpAny _ _ (call (Value.ref 403) _) _ _ _); refine Wrap.out ?_)))
  (k_with "call ref" => ((k_here; (with_reducible show wpAny _ _ (call (Value.ref 284) _) _ _ _); refine Wrap.out ?_)))
  (k_with "call ref" => ((k_here; (with_reducible show wpAny _ _ (call (Value.ref 209) _) _ _ _); refine Wrap.out ?_)))
  (k_with "subscriptTail" => ((k_here; (with_reducible show wpAny _ _ (subscriptTail _ _ (Value.ref (CH.RR _)) _) _ _ _); k_dflt (refine' item_last ?k2 ?k3 ?k4 ?_; (case k2 => k_asm); (case k3 => k_mem); (case k4 => assumption)))))
  (k_with "subscriptTail" => ((k_here; (with_reducible show wpAny _ _ (subscriptTail _ _ (Value.ref (LC.AT _)) (Value.int _ _)) _ _ _); k_dflt (refine' PySem.W.ksa_sub ?k1 ?k2 ?k3 ?k4 ?k5 ?k6 ?_ ?k7; (case k1 => k_asm); (case k2 => k_mem); (case k3 => with_reducible assumption); (case k4 => first | assumption | omega); (case k5 => omega); (case k6 => omega); (case k7 => with_unfolding_all rfl); k_whole); walk_at "TAIL12")))
  (k_with "subscriptTail" => ((k_here; (with_reducible show wpAny _ _ (subscriptTail _ _ (Value.ref (LC.DU _)) (Value.int _ _)) _ _ _); k_dflt (refine' PySem.W.ksa_sub ?k1 ?k2 ?k3 ?k4 ?k5 ?k6 ?_ ?k7; (case k1 => k_asm); (case k2 => k_mem); (case k3 => with_reducible assumption); (case k4 => first | assumption | omega); (case k5 => omega); (case k6 => omega); (case k7 => with_unfolding_all rfl); k_whole); walk_at "TAIL12")))
  (k_with "subscriptTail" => ((k_here; (with_reducible show wpAny _ _ (subscriptTail _ _ (Value.ref (RW.a _)) (Value.int _ _)) _ _ _); k_dflt (refine' PySem.W.ksa_sub ?k1 ?k2 ?k3 ?k4 ?k5 ?k6 ?_ ?k7; (case k1 => k_asm); (case k2 => k_mem); (case k3 => with_reducible assumption); (case k4 => first | assumption | omega); (case k5 => omega); (case k6 => omega); (case k7 => with_unfolding_all rfl); k_whole); walk_at "TAIL12")))
  (k_with "setItem ref int" => ((k_here; (with_reducible show wpAny _ _ (setItem (Value.ref _) (Value.int _ _) (Value.int _ _)) _ _ _); k_dflt (refine' PySem.W.ksa_set ?k1 ?k2 ?k3 ?k4 ?k5 ?k6 ?k7 ?_; (case k1 => k_asm); (case k2 => k_asm); (case k3 => k_upd); (case k4 => with_reducible assumption); (case k5 => first | assumption | omega); (case k6 => omega); (case k7 => omega); k_whole); walk_at "TAIL13")))
  (k_with "compareOp NotEq ref ref" => ((k_here; k_dflt (refine' neL_same ?k1 ?k2 ?k3 ?k4 ?k5 ?k6 ?_; (case k1 => k_asm); (case k2 => k_mem); (case k3 => k_mem); (case k4 => with_reducible assumption); (case k5 => with_reducible assumption); (case k6 => exact Nat.le_of_ble_eq_true rfl)))))
  (k_with "compareOp Eq ref ref" => ((k_here; k_dflt (first | (refine' eqL_nil ?k1 ?k2 ?k3 ?k4 ?k5 ?k6 ?_; (case k1 => k_asm); (case k2 => k_mem); (case k3 => k_mem); (case k4 => with_reducible assumption); (case k5 => with_reducible assumption); (case k6 => exact Nat.le_of_ble_eq_true rfl)) | (refine' eqL_cons ?k1 ?k2 ?k3 ?k4 ?k5 ?k6 ?_; (case k1 => k_asm); (case k2 => k_mem); (case k3 => k_mem); (case k4 => with_reducible assumption); (case k5 => with_reducible assumption); (case k6 => exact Nat.le_of_ble_eq_true rfl))))))
  (k_with "call ref" => ((k_here; (with_reducible show wpAny _ _ (call (Value.ref 88) _) _ _ _); k_dflt (refine' Spec.use (new_limits _) ?k1 ?k2 ?k3 ?k4 ?k5 ?k6 ?k7 ?k8 ?k9 ?_; (case k4 => k_asm); (case k1 => k_asm); (case k2 => k_asm); (case k3 => k_asm); (case k5 => k_asm); (case k8 => exact rfl); (case k6 => exact rfl); (case k7 => exact Nat.le_of_ble_eq_true rfl); (case k9 => exact Nat.le_of_ble_eq_true rfl)); refine cpsP ?_; walk_at "TAIL15")))
  (k_with "call ref" => ((k_here; (with_reducible show wpAny _ _ (call (Value.ref 370) _) _ _ _); refine Wrap.out ?_)))
  trivial
theorem mid_both {w : World} {p : O3} {lm ch : Value} {a1 a2 a3 a4 a5 a6 a7 a8 a9 b1 b2 b3 b4 b5 b6 : Addr × Obj} {Z : Led} {h₀ h : Heap} {L : Addr} (N : News h₀ L h (o3l w p lm ch (a1 :: a2 :: a3 :: a4 :: a5 :: a6 :: a7 :: a8 :: a9 :: b1 :: b2 :: b3 :: b4 :: b5 :: b6 :: Z))) (u : p.Up (a1 :: a2 :: a3 :: a4 :: a5 :: a6 :: a7 :: a8 :: a9 :: b1 :: b2 :: b3 :: b4 :: b5 :: b6 :: Z)) (h0 : NDL (a1 :: a2 :: a3 :: a4 :: a5 :: a6 :: a7 :: a8 :: a9 :: b1 :: b2 :: b3 :: b4 :: b5 :: b6 :: Z)) :
    NDL (a1 :: a2 :: a3 :: a4 :: a5 :: a6 :: a7 :: a8 :: a9 :: b1 :: b2 :: b3 :: b4 :: b5 :: b6 :: o3l w p lm ch Z) ∧ News h₀ L h (a1 :: a2 :: a3 :: a4 :: a5 :: a6 :: a7 :: a8 :: a9 :: b1 :: b2 :: b3 :: b4 :: b5 :: b6 :: o3l w p lm ch Z) :=
  ⟨(u.nd (w := w) (lm := lm) (ch := ch) h0).perm (List.Perm.map _ (List.perm_append_comm_assoc (o3l w p lm ch []) [a1, a2, a3, a4, a5, a6, a7, a8, a9, b1, b2, b3, b4, b5, b6] Z)), News.sub N fun q hq => mem_swap [a1, a2, a3, a4, a5, a6, a7, a8, a9, b1, b2, b3, b4, b5, b6] (o3l w p lm ch []) Z hq⟩
theorem mid_off {a1 a2 a3 a4 a5 a6 a7 a8 a9 b1 b2 b3 b4 b5 b6 : Addr × Obj} {R : Led} (h : NDL (a1 :: a2 :: a3 :: a4 :: a5 :: a6 :: a7 :: a8 :: a9 :: b1 :: b2 :: b3 :: b4 :: b5 :: b6 :: R)) : ∀ q ∈ R, q.1 ≠ a9.1 :=
  fun q hq => h.off 8 rfl q (.tail _ (.tail _ (.tail _ (.tail _ (.tail _ (.tail _ hq))))))
theorem stage4 {w : World} {pr : Program} {loose : List Str} {mean : ExcName → Option Value} {mg mb : Str → Option Value} {base h₀ : Heap} {L fa : Addr} {m : Str → Option Value} {s : Shared} {Q : Flow → Shared → Prop}
    {o1 o2 o3 o4 o5 o6 o7 : Obj} {H SL : Addr} {hs sl : List Value} {nh nsl : Nat} {Z : Led} {v2 v7 : Option Value}
    (B : Below callerA base [] h₀) (X : (Mine.hd.heap_39 w.params).In h₀) (T : Top pr loose mean mg mb h₀)
    (F : Fr h₀ L s.heap m) (d1 : o1.data = .cell (some (.ref SL))) (d6 : o6.data = .cell (some (.ref H))) (d2 : o2.data = .cell v2) (d7 : o7.data = .cell v7) (hlt : @LT.lt Nat _ 417 L) (hCH : CodeHd h₀ 419 417)
    (hN : NDL ((SL, W.listOf sl.toArray nsl) :: (H, W.listOf hs.toArray nh) :: cells L o1 o2 o3 o4 o5 o6 o7 ((417, tabObj #[]) :: Z)))
    (N : News h₀ L s.heap ((SL, W.listOf sl.toArray nsl) :: (H, W.listOf hs.toArray nh) :: cells L o1 o2 o3 o4 o5 o6 o7 ((417, tabObj #[]) :: Z)))
    (hnext : ∀ (y : MK) (C CD : Addr) (tn0 tnu : Tok) (c : CH) (o2' : Obj) (tab : Array Value) (m' : Str → Option Value) (h' : Heap) (tk' : Nat), c.Ok → y.choose = .ref c.ch → y.clock = .ref C → c.H = H → c.cR = L + 1 + 1 + 1 + 1 + 1 + 1 + 1 → c.cH = L + 1 + 1 + 1 + 1 + 1 + 1 → o2'.data = .cell (some (.ref y.T)) →
      NDL (full4 w y C CD tn0 tnu c hs nh L SL sl nsl o1 o2' o3 o4 o5 tab Z) → Fr h₀ L h' m' → News h₀ L h' (full4 w y C CD tn0 tnu c hs nh L SL sl nsl o1 o2' o3 o4 o5 tab Z) →
      wpAny (model PySem.Challenge.pw_pb0024_01 w) (callerA.deeper (lawEnv L fa (.ref 419))) (execs (lawStmts.drop 7) (lawEnv L fa (.ref 419))) Q (fun _ _ => False) { s with heap := h', toks := tk' }) :
    wpAny (model PySem.Challenge.pw_pb0024_01 w) (callerA.deeper (lawEnv L fa (.ref 419))) (execs (lawStmts.drop 4) (lawEnv L fa (.ref 419))) Q (fun _ _ => False) s := by
  have hMk : MarkW := trivial
  generalize hR : lawStmts.drop 7 = rest7 at hnext
  have e : lawStmts.drop 4 = (lawStmts.drop 4).headD (.Pass ⟨0,0,0,0⟩) :: (lawStmts.drop 5).headD (.Pass ⟨0,0,0,0⟩) :: (lawStmts.drop 6).headD (.Pass ⟨0,0,0,0⟩) :: lawStmts.drop 7 := by rfl
  rw [e, hR]
  clear e hR
  have e : (lawStmts.drop 4).headD (.Pass ⟨0,0,0,0⟩) = (lawStmts.drop 4).headD (.Pass ⟨0,0,0,0⟩) := rfl
  conv at e => rhs; whnf
  rw [e]
  clear e
  have e : (lawStmts.drop 5).headD (.Pass ⟨0,0,0,0⟩) = (lawStmts.drop 5).headD (.Pass ⟨0,0,0,0⟩) := rfl
  conv at e => rhs; whnf
  rw [e]
  clear e
  have e : (lawStmts.drop 6).headD (.Pass ⟨0,0,0,0⟩) = (lawStmts.drop 6).headD (.Pass ⟨0,0,0,0⟩) := rfl
  conv at e => rhs; whnf
  rw [e]
  clear e
  have e : lawScope = lawScope := rfl
  conv at e => rhs; whnf
  unfold lawEnv at hnext ⊢
  rw [e] at hnext ⊢
  clear e
  replace hnext := wrap_in hnext
  have f7 : @Ne Nat SL (L + 1 + 1 + 1 + 1 + 1 + 1 + 1) := hN.ne 0 8 (by decide) rfl rfl
  have f7' : @Ne Nat H (L + 1 + 1 + 1 + 1 + 1 + 1 + 1) := hN.ne 1 8 (by decide) rfl rfl
  have f2 : @Ne Nat SL (L + 1 + 1) := hN.ne 0 3 (by decide) rfl rfl
  have f2' : @Ne Nat H (L + 1 + 1) := hN.ne 1 3 (by decide) rfl rfl
  have f8 : @Ne Nat SL 417 := hN.ne 0 9 (by decide) rfl rfl
  have f8' : @Ne Nat H 417 := hN.ne 1 9 (by decide) rfl rfl
  have z7 : ∀ p ∈ Z, p.1 ≠ L + 1 + 1 + 1 + 1 + 1 + 1 + 1 := fun p hp => hN.off 8 rfl p (.tail _ hp)
  have z2 : ∀ p ∈ Z, p.1 ≠ L + 1 + 1 := fun p hp => hN.off 3 rfl p (.tail _ (.tail _ (.tail _ (.tail _ (.tail _ (.tail _ hp))))))
  have z9 : ∀ p ∈ Z, p.1 ≠ 417 := hN.off 9 rfl
  replace hN := wrap_in hN
  dsimp only [cells] at N
  k_steps
  refine wrap_in' ?_
  refine' Spec.use (new_tasking _ _ _) ?k1 ?k2 ?k3 ?k4 ?k5 ?k6 ?k7 ?k8 ?k9 ?_
  (case k4 => k_asm)
  (case k1 => k_asm)
  (case k2 => k_asm)
  (case k3 => k_asm)
  (case k5 => k_asm)
  (case k8 => exact rfl)
  (case k6 => exact rfl)
  (case k7 => exact Nat.le_of_ble_eq_true rfl)
  (case k9 => exact Nat.le_of_ble_eq_true rfl)
  refine cpsP ?_
  intro h' tk' F' p hp N'
  rename _ < _ ∧ _ < _ ∧ _ < _ ∧ _ < _ ∧ _ < _ ∧ _ < _ ∧ _ < _ ∧ _ < _ ∧ _ < _ ∧ _ < _ ∧ AllLt _ _ => m1
  rename _ < _ ∧ _ < _ ∧ _ < _ ∧ _ < _ ∧ _ < _ ∧ _ < _ ∧ _ < _ ∧ _ < _ ∧ _ < _ ∧ _ < _ ∧ _ < _ ∧ AllLt _ _ => m2
  rename (_ : Addr) < (_ : Addr) => l2
  rename (_ ∧ _) ∧ _ < _ => m3
  rename _ = Data.fields _ => hoc
  rename _[1]? = some _ => hcv
  rename _ = Data.cell (some (Value.ref _)) => c7
  have nd := mid_both N' hp (NDL.addr (((hN.cons (o := o1) m1).cons2 (o := o1) (o' := o1) m2 l2).cons2 (o := o1) (o' := o1) m3.1 m3.2) rfl)
  clear N'
  have N' := nd.2
  replace nd := nd.1
  have zR := mid_off nd
  clear z7 z2 z9
  replace nd := wrap_in nd
  k_steps
  rename Fr _ _ _ _ => lF
  rename News _ _ _ _ => lN
  rename _ = Data.cell (some (Value.ref p.T)) => c2
  refine stage4_end ?_ hoc hcv c7 d6 lN fun y C CD tn0 tnu c hc hy1 hy2 hc1 hc2 hc3 hT hnd hN4 =>
    hnext y C CD tn0 tnu c _ _ _ _ _ hc hy1 hy2 hc1 hc2 hc3 (by rw [hT]; exact c2) hnd lF hN4
  exact NDL.addr nd rfl
theorem freshL11 : True := by
  k_with_none
  (k_with "CJ" => (first | with_reducible assumption | with_reducible exact And.left (by first | with_reducible assumption | with_reducible exact And.right (by first | with_reducible assumption | with_reducible exact And.right (by first | with_reducible assumption | with_reducible exact And.right (by first | with_reducible assumption | with_reducible exact And.right (by first | with_reducible assumption | with_reducible exact And.right (by first | with_reducible assumption | with_reducible exact And.right (by first | with_reducible assumption | with_reducible exact And.right (by first | with_reducible assumption | with_reducible exact And.right (by first | with_reducible assumption | with_reducible exact And.right (by first | with_reducible assumption | with_reducible exact And.right (by first | with_reducible assumption | with_reducible exact And.right (by first | with_reducible assumption | with_reducible exact And.right (by first | with_reducible assumption | with_reducible exact And.right (by first | with_reducible assumption | with_reducible exact And.right (by first | with_reducible assumption | with_reducible exact And.right (by first | with_reducible assumption | with_reducible exact And.right (by first | with_reducible assumption | with_reducible exact And.right (by first | with_reducible assumption | with_reducible exact And.right (by first | with_reducible assumption | with_reducible exact And.right (by first | with_reducible assumption | with_reducible exact And.right (by first | with_reducible assumption | with_reducible exact And.right (by first | with_reducible assumption | with_reducible exact And.right (by with_reducible assumption)))))))))))))))))))))))))
  (k_with "execs cons" => (k_here; (fail_if_success (fail_if_success k_gentoks)); (with_reducible refine gen_toks ?_); intro tk))
  (k_with "execs nil" => (k_here; (fail_if_success (fail_if_success k_gentoks)); (with_reducible refine gen_toks ?_); intro tk))
  w_top off
  trivial
section
variable {w : World} {y : MK} {nu : Int} {tnu : Tok} {vs : List Value} {nT nD : Nat} {rest : Led}
theorem mem_mkl {p : Addr × Obj} : p ∈ mkl w y nu tnu vs nT nD rest ↔ p ∈ mkl w y nu tnu vs nT nD [] ∨ p ∈ rest := (List.mem_append : p ∈ mkl w y nu tnu vs nT nD [] ++ rest ↔ _)
theorem mkl_mka {p : Addr × Obj} (h : p ∈ mkl w y nu tnu vs nT nD []) : p.1 ∈ mka y := (List.mem_map_of_mem (f := Prod.fst) h : p.1 ∈ List.map Prod.fst (mkl w y nu tnu vs nT nD []))
theorem mka_mkl {a : Addr} (h : a ∈ mka y) : ∃ p ∈ mkl w y nu tnu vs nT nD rest, p.1 = a := by
  obtain ⟨p, hp, e⟩ := List.mem_map.mp (show a ∈ List.map Prod.fst (mkl w y nu tnu vs nT nD []) from h)
  exact ⟨p, mem_mkl.mpr (.inl hp), e⟩
end
theorem tls_map (w : World) (ts : List TR) (rest : Led) : (tls w ts rest).map (·.1) = tas ts ++ rest.map (·.1) := by
  induction ts with
  | nil => rfl
  | cons t ts ih =>
    show t.a :: t.d :: t.q :: t.sv :: t.ms :: (tls w ts rest).map (·.1) = _
    rw [ih]; rfl
theorem nd_add {α : Type} {A T R a : List α} (h : (A ++ (T ++ R)).Nodup) (ha : a.Nodup) (h1 : ∀ x ∈ a, ∀ z ∈ A, z ≠ x) (h2 : ∀ x ∈ a, ∀ z ∈ T, z ≠ x) (h3 : ∀ x ∈ a, ∀ z ∈ R, z ≠ x) : (A ++ ((T ++ a) ++ R)).Nodup := by
  rw [List.nodup_append, List.nodup_append] at h
  obtain ⟨hA, ⟨hT, hR, hTR⟩, hX⟩ := h
  rw [List.nodup_append, List.nodup_append, List.nodup_append]
  refine ⟨hA, ⟨⟨hT, ha, fun z hz x hx => h2 x hx z hz⟩, hR, fun z hz x hx => ?_⟩, fun z hz x hx => ?_⟩
  · rcases List.mem_append.mp hz with hz | hz
    · exact hTR z hz x hx
    · exact fun e => h3 z hz x hx e.symm
  · rcases List.mem_append.mp hx with hx | hx
    · rcases List.mem_append.mp hx with hx | hx
      · exact hX z hz x (List.mem_append_left _ hx)
      · exact h1 x hx z hz
    · exact hX z hz x (List.mem_append_right _ hx)
theorem tas_snoc (ts : List TR) (t : TR) : tas (ts ++ [t]) = tas ts ++ ta t := by simp [tas]
theorem nats_succ (n : Nat) : nats (n + 1) = nats n ++ [(n : Int)] := by simp [nats, List.range_succ]
theorem vals_snoc (ts : List TR) (t : TR) : vals (ts ++ [t]) = vals ts ++ [.ref t.a] := by simp [vals]
theorem tls_snoc {w : World} {ts : List TR} {t : TR} {rest : Led} {p : Addr × Obj} : p ∈ tls w (ts ++ [t]) rest ↔ p ∈ tls w ts [] ∨ p ∈ tl w t [] ∨ p ∈ rest := by
  rw [mem_tls, mem_tls]
  simp only [List.mem_append, List.mem_singleton, List.not_mem_nil, or_false]
  constructor
  · rintro (⟨t', h | rfl, hp⟩ | h)
    · exact .inl ⟨t', h, hp⟩
    · exact .inr (.inl hp)
    · exact .inr (.inr h)
  · rintro (⟨t', h, hp⟩ | h | h)
    · exact .inl ⟨t', .inl h, hp⟩
    · exact .inl ⟨t, .inr rfl, h⟩
    · exact .inr h
theorem freshT9 : True := by
  k_with_none
  (k_with "CJ" => (first | with_reducible assumption | with_reducible exact And.left (by first | with_reducible assumption | with_reducible exact And.right (by first | with_reducible assumption | with_reducible exact And.right (by first | with_reducible assumption | with_reducible exact And.right (by first | with_reducible assumption | with_reducible exact And.right (by first | with_reducible assumption | with_reducible exact And.right (by first | with_reducible assumption | with_reducible exact And.right (by first | with_reducible assumption | with_reducible exact And.right (by first | with_reducible assumption | with_reducible exact And.right (by first | with_reducible assumption | with_reducible exact And.right (by first | with_reducible assumption | with_reducible exact And.right (by first | with_reducible assumption | with_reducible exact And.right (by first | with_reducible assumption | with_reducible exact And.right (by first | with_reducible assumption | with_reducible exact And.right (by first | with_reducible assumption | with_reducible exact And.right (by first | with_reducible assumption | with_reducible exact And.right (by first | with_reducible assumption | with_reducible exact And.right (by first | with_reducible assumption | with_reducible exact And.right (by first | with_reducible assumption | with_reducible exact And.right (by first | with_reducible assumption | with_reducible exact And.right (by first | with_reducible assumption | with_reducible exact And.right (by first | with_reducible assumption | with_reducible exact And.right (by first | with_reducible assumption | with_reducible exact And.right (by with_reducible assumption)))))))))))))))))))))))))
  (k_with "execs cons" => (k_here; (fail_if_success (fail_if_success k_gentoks)); (with_reducible refine gen_toks ?_); intro tk))
  (k_with "execs nil" => (k_here; (fail_if_success (fail_if_success k_gentoks)); (with_reducible refine gen_toks ?_); intro tk))
  w_top off
  trivial
theorem rulesT9x1 : True := by
  (k_with "compareOp Eq str str" => (first | refine eqs_ff (by first | decide | (dsimp only; decide)) ?_ | refine eqs_tt (by first | decide | (dsimp only; decide)) ?_))
  (k_with "compareOp NotEq str str" => (first | refine nes_ff (by first | decide | (dsimp only; decide)) ?_ | refine nes_tt (by first | decide | (dsimp only; decide)) ?_))
  (k_with "exec" => ((k_here; (with_reducible show wpAny _ _ (exec (Stmt.While _ _ _ _) _) _ _ _); k_dflt (refine whl_startW ?_))))
  (k_with "WhlW" => ((dsimp only [WhlW])))
  (k_with "exec For Name Name cons nil" => (walk_at "WHOLE1"))
  (k_with "pyIter ref" => ((refine Wrap.out ?_)))
  (k_with "call ref" => ((k_here; (with_reducible show wpAny _ _ (call (Value.ref 410) _) _ _ _); k_dflt (refine' Spec.use (figure_spec ?u1 ?g1 ?g2) ?k1 ?k2 ?k3 ?k4 ?k5 ?k6 ?k7 ?k8 ?k9 ?_; (case k4 => k_asm); (case k1 => k_asm); (case k2 => k_asm); (case k3 => k_asm); (case k5 => k_asm); (case k8 => exact rfl); (case k6 => exact rfl); (case k7 => exact Nat.le_of_ble_eq_true rfl); (case k9 => exact Nat.le_of_ble_eq_true rfl); (case u1 => k_updF); (case g1 => assumption); (case g2 => omega)); refine cpsF ?_; walk_at "TAIL6")))
  (k_with "call ref" => ((k_here; (with_reducible show wpAny _ _ (call (Value.ref 49) _) _ _ _); k_dflt (refine' Spec.use (next_nil _ _ _ ?g1) ?k1 ?k2 ?k3 ?k4 ?k5 ?k6 ?k7 ?k8 ?k9 ?_; (case k4 => k_asm); (case k1 => k_asm); (case k2 => k_asm); (case k3 => k_asm); (case k5 => k_asm); (case k8 => exact rfl); (case k6 => exact rfl); (case k7 => exact Nat.le_of_ble_eq_true rfl); (case k9 => exact Nat.le_of_ble_eq_true rfl); (case g1 => k_mem); skip); refine cps2 ?_; walk_at "TAIL3")))
  (k_with "call ref" => ((k_here; (with_reducible show wpAny _ _ (call (Value.ref 49) _) _ _ _); k_dflt (refine' Spec.use (next_404 _ _ _ _ _ ?g1) ?k1 ?k2 ?k3 ?k4 ?k5 ?k6 ?k7 ?k8 ?k9 ?_; (case k4 => k_asm); (case k1 => k_asm); (case k2 => k_asm); (case k3 => k_asm); (case k5 => k_asm); (case k8 => exact rfl); (case k6 => exact rfl); (case k7 => exact Nat.le_of_ble_eq_true rfl); (case k9 => exact Nat.le_of_ble_eq_true rfl); (case g1 => k_mem); skip); refine cps2 ?_; walk_at "TAIL3")))
  (k_with "call type:range" => (walk_at "WHOLE3"))
  (k_with "CompSrc" => (walk_at "WHOLE4"))
  (k_with "CompSrcT" => (walk_at "WHOLE5"))
  (k_with "call builtin:len" => ((k_here; k_dflt (refine' lenS ?N ?m ?z ?_; (case N => k_asm); (case m => k_mem); (case z => assumption)))))
  (k_with "truthy ref" => ((k_here; k_dflt (refine' truthS ?N ?m ?z ?_; (case N => k_asm); (case m => k_mem); (case z => assumption)))))
  (k_with "subscriptTail" => ((k_here; (with_reducible show wpAny _ _ (subscriptTail _ _ (Value.ref (LC.SL _)) _) _ _ _); k_dflt (refine' item_spec ?k1 ?k2 ?k3 ?k4 ?k5 ?k6 ?_; (case k6 => assumption); (case k1 => k_asm); (case k2 => k_asm); (case k3 => k_mem); (case k4 => first | assumption | omega); (case k5 => omega)))))
  (k_with "call ref" => ((k_here; (with_reducible show wpAny _ _ (call (Value.ref 403) _) _ _ _); refine Wrap.out ?_)))
  (k_with "call ref" => ((k_here; (with_reducible show wpAny _ _ (call (Value.ref 284) _) _ _ _); refine Wrap.out ?_)))
  (k_with "call ref" => ((k_here; (with_reducible show wpAny _ _ (call (Value.ref 209) _) _ _ _); refine Wrap.out ?_)))
  (k_with "subscriptTail" => ((k_here; (with_reducible show wpAny _ _ (subscriptTail _ _ (Value.ref (CH.RR _)) _) _ _ _); k_dflt (refine' item_last ?k2 ?k3 ?k4 ?_; (case k2 => k_asm); (case k3 => k_mem); (case k4 => assumption)))))
  (k_with "subscriptTail" => ((k_here; (with_reducible show wpAny _ _ (subscriptTail _ _ (Value.ref (LC.AT _)) (Value.int _ _)) _ _ _); k_dflt (refine' PySem.W.ksa_sub ?k1 ?k2 ?k3 ?k4 ?k5 ?k6 ?_ ?k7; (case k1 => k_asm); (case k2 => k_mem); (case k3 => with_reducible assumption); (case k4 => first | assumption | omega); (case k5 => omega); (case k6 => omega); (case k7 => with_unfolding_all rfl); k_whole); walk_at "TAIL12")))
  (k_with "subscriptTail" => ((k_here; (with_reducible show wpAny _ _ (subscriptTail _ _ (Value.ref (LC.DU _)) (Value.int _ _)) _ _ _); k_dflt (refine' PySem.W.ksa_sub ?k1 ?k2 ?k3 ?k4 ?k5 ?k6 ?_ ?k7; (case k1 => k_asm); (case k2 => k_mem); (case k3 => with_reducible assumption); (case k4 => first | assumption | omega); (case k5 => omega); (case k6 => omega); (case k7 => with_unfolding_all rfl); k_whole); walk_at "TAIL12")))
  (k_with "subscriptTail" => ((k_here; (with_reducible show wpAny _ _ (subscriptTail _ _ (Value.ref (RW.a _)) (Value.int _ _)) _ _ _); k_dflt (refine' PySem.W.ksa_sub ?k1 ?k2 ?k3 ?k4 ?k5 ?k6 ?_ ?k7; (case k1 => k_asm); (case k2 => k_mem); (case k3 => with_reducible assumption); (case k4 => first | assumption | omega); (case k5 => omega); (case k6 => omega); (case k7 => with_unfolding_all rfl); k_whole); walk_at "TAIL12")))
  (k_with "setItem ref int" => ((k_here; (with_reducible show wpAny _ _ (setItem (Value.ref _) (Value.int _ _) (Value.int _ _)) _ _ _); k_dflt (refine' PySem.W.ksa_set ?k1 ?k2 ?k3 ?k4 ?k5 ?k6 ?k7 ?_; (case k1 => k_asm); (case k2 => k_asm); (case k3 => k_upd); (case k4 => with_reducible assumption); (case k5 => first | assumption | omega); (case k6 => omega); (case k7 => omega); k_whole); walk_at "TAIL13")))
  (k_with "compareOp NotEq ref ref" => ((k_here; k_dflt (refine' neL_same ?k1 ?k2 ?k3 ?k4 ?k5 ?k6 ?_; (case k1 => k_asm); (case k2 => k_mem); (case k3 => k_mem); (case k4 => with_reducible assumption); (case k5 => with_reducible assumption); (case k6 => exact Nat.le_of_ble_eq_true rfl)))))
  (k_with "compareOp Eq ref ref" => ((k_here; k_dflt (first | (refine' eqL_nil ?k1 ?k2 ?k3 ?k4 ?k5 ?k6 ?_; (case k1 => k_asm); (case k2 => k_mem); (case k3 => k_mem); (case k4 => with_reducible assumption); (case k5 => with_reducible assumption); (case k6 => exact Nat.le_of_ble_eq_true rfl)) | (refine' eqL_cons ?k1 ?k2 ?k3 ?k4 ?k5 ?k6 ?_; (case k1 => k_asm); (case k2 => k_mem); (case k3 => k_mem); (case k4 => with_reducible assumption); (case k5 => with_reducible assumption); (case k6 => exact Nat.le_of_ble_eq_true rfl))))))
  (k_with "call ref" => ((k_here; (with_reducible show wpAny _ _ (call (Value.ref 244) _) _ _ _); refine Wrap.out ?_)))
  (k_with "call ref" => ((k_here; (with_reducible show wpAny _ _ (call (Value.ref 251) _) _ _ _); refine Wrap.out ?_)))
  trivial
theorem stage7 {w : World} {pr : Program} {loose : List Str} {mean : ExcName → Option Value} {mg mb : Str → Option Value} {base h₀ : Heap} {L fa : Addr} {m : Str → Option Value} {s : Shared} {Q : Flow → Shared → Prop}
    {o1 o2 : Obj} {SL : Addr} {rows : List RW} {nsl : Nat} {U : Led} (y : MK) (tnu : Tok)
    (B : Below callerA base [] h₀) (X : (Mine.hd.heap_39 w.params).In h₀) (T : Top pr loose mean mg mb h₀)
    (F : Fr h₀ L s.heap m) (d1 : o1.data = .cell (some (.ref SL))) (d2 : o2.data = .cell (some (.ref y.T))) (hrows : rows.length ≤ 4)
    (hN : NDL (mkl w y 0 tnu [] 0 0 ((L + 1, o1) :: (L + 1 + 1, o2) :: (SL, W.listOf (rvals rows).toArray nsl) :: U)))
    (N : News h₀ L s.heap (mkl w y 0 tnu [] 0 0 ((L + 1, o1) :: (L + 1 + 1, o2) :: (SL, W.listOf (rvals rows).toArray nsl) :: U)))
    (hnext : ∀ (ts : List TR) (tnu' : Tok) (TH : Addr) (m' : Str → Option Value) (h' : Heap) (tk' : Nat), ts.length = rows.length → ts.map (·.num) = (nats rows.length).map (· + 1) → (∀ t ∈ ts, Is t .rdy ∧ (t.q == sysModules) = false) → Fr h₀ L h' m' →
      NDL (mkl w y rows.length tnu' (vals ts) rows.length rows.length (tls w ts ((L + 1, o1) :: (L + 1 + 1, o2) :: (SL, W.listOf (rvals rows).toArray nsl) :: U))) →
      News h₀ L h' (mkl w y rows.length tnu' (vals ts) rows.length rows.length (tls w ts ((L + 1, o1) :: (L + 1 + 1, o2) :: (SL, W.listOf (rvals rows).toArray nsl) :: U))) →
      wpAny (model PySem.Challenge.pw_pb0024_01 w) (callerA.deeper (lawEnv L fa (.ref 419))) (execs (lawStmts.drop 9) (lawEnv L fa (.ref 419))) Q (fun _ _ => False) { s with heap := h', toks := tk' }) :
    wpAny (model PySem.Challenge.pw_pb0024_01 w) (callerA.deeper (lawEnv L fa (.ref 419))) (execs (lawStmts.drop 7) (lawEnv L fa (.ref 419))) Q (fun _ _ => False) s := by
  have hMk : MarkW := trivial
  generalize hR : lawStmts.drop 9 = rest9 at hnext
  have e : lawStmts.drop 7 = (lawStmts.drop 7).headD (.Pass ⟨0,0,0,0⟩) :: (lawStmts.drop 8).headD (.Pass ⟨0,0,0,0⟩) :: lawStmts.drop 9 := by rfl
  rw [e, hR]
  clear e hR
  have e : (lawStmts.drop 7).headD (.Pass ⟨0,0,0,0⟩) = (lawStmts.drop 7).headD (.Pass ⟨0,0,0,0⟩) := rfl
  conv at e => rhs; whnf
  rw [e]
  clear e
  have e : (lawStmts.drop 8).headD (.Pass ⟨0,0,0,0⟩) = (lawStmts.drop 8).headD (.Pass ⟨0,0,0,0⟩) := rfl
  conv at e => rhs; whnf
  rw [e]
  clear e
  have e : lawScope = lawScope := rfl
  conv at e => rhs; whnf
  unfold lawEnv at hnext ⊢
  rw [e] at hnext ⊢
  clear e
  have hcd := codeHd_of_K (c := 419) (P := 417) X (by kernel_rfl)
  replace hnext := wrap_in hnext
  replace hN := wrap_in hN
  obtain ⟨R, hRd⟩ : ∃ R : Led, R = (L + 1, o1) :: (L + 1 + 1, o2) :: (SL, W.listOf (rvals rows).toArray nsl) :: U := ⟨_, rfl⟩
  have N1 : News h₀ L s.heap ((L + 1, o1) :: mkl w y 0 tnu [] 0 0 R) := News.snoc N (by first | k_mem | simp) (fun p hp => by rw [← hRd]; exact hp)
  rw [← hRd] at hN hnext N
  obtain ⟨V, hV⟩ : ∃ V : Led, V = mkl w y 0 tnu [] 0 0 R := ⟨_, rfl⟩
  rw [← hV] at N1
  clear N
  have hrz : (rvals rows).length ≤ 100 := by rw [rvals, List.length_map]; omega
  have hrsz : (rvals rows).toArray.size = rows.length := by simp [rvals]
  k_steps
  rename News _ _ _ _ => lN
  rename Fr _ _ _ _ => lF
  subst hV
  replace lN : News h₀ L _ (mkl w y 0 tnu [] 0 0 R) := News.tl lN
  have hSLm : (SL, W.listOf (rvals rows).toArray nsl) ∈ R := by rw [hRd]; simp
  have hL2m : (L + 1 + 1, o2) ∈ R := by rw [hRd]; simp
  refine wrap_in (LCg.CompSrc.ledger (its := (rvals rows).toArray) (by rfl) lF lN (mem_mkl.mpr (.inr hSLm)) (size_of hrz) fun g' => ?_)
  rw [hrsz]
  refine compRest_ind (n := rows.length) (fun i ys news => ∃ (ts : List TR) (tnu : Tok), ts.length = i ∧ ys = vals ts ∧ ts.map (·.num) = (nats i).map (· + 1) ∧ (∀ t ∈ ts, t.st = "fresh" ∧ t.wk = .none ∧ (t.q == sysModules) = false) ∧ (mka y ++ (tas ts ++ xa R)).Nodup ∧ news = mkl w y (i : Int) tnu (vals ts) i i (tls w ts R)) ?_ ?_ _ _ _ _ (by omega)
    ⟨[], tnu, rfl, rfl, rfl, (fun _ h => nomatch h), hN, rfl⟩
  · intro i ys _ hi hq1
    refine ex2 hq1 fun ts tnu1 hp2 => ?_
    clear hq1
    have hl := hp2.1
    have eq3 := hp2.2.1
    have hnum := hp2.2.2.1
    have hst := hp2.2.2.2.1
    have hnd := hp2.2.2.2.2.1
    have eq4 := hp2.2.2.2.2.2
    clear hp2
    subst eq3
    subst eq4
    intro v I oI C oC D m₂ h tk E' hv hC hx F' N' o ne
    have hL2o := o.mem _ (mem_mkl.mpr (.inr (mem_tls.mpr (.inr hL2m))))
    obtain ⟨G, hG⟩ : ∃ G : Led, G = (I, oI) :: (D, LCg.lst (vals ts)) :: tls w ts R := ⟨_, rfl⟩
    have N2 : News h₀ L h ((C, oC) :: (L + 1 + 1, o2) :: mkl w y (i : Int) tnu1 (vals ts) i i G) := News.sub N' fun p hp => by
      rcases List.mem_cons.mp hp with rfl | hp
      · exact .tail _ (.head _)
      rcases List.mem_cons.mp hp with rfl | hp
      · exact .tail _ (.tail _ (.tail _ (mem_mkl.mpr (.inr (mem_tls.mpr (.inr hL2m))))))
      rcases mem_mkl.mp hp with hp | hp
      · exact .tail _ (.tail _ (.tail _ (mem_mkl.mpr (.inl hp))))
      rw [hG] at hp
      rcases List.mem_cons.mp hp with rfl | hp
      · exact .head _
      rcases List.mem_cons.mp hp with rfl | hp
      · exact .tail _ (.tail _ (.head _))
      · exact .tail _ (.tail _ (.tail _ (mem_mkl.mpr (.inr hp))))
    clear N' lN
    refine wpAny_mono (Q := fun v s' => Wrap (∃ (t : TR) (tnu' : Tok), v = .ref t.a ∧ t.num = (i : Int) + 1 ∧ t.st = "fresh" ∧ t.wk = .none ∧ (ta t).Nodup ∧ (∀ a ∈ ta t, ∀ p ∈ mkl w y (i : Int) tnu1 (vals ts) i i ((C, oC) :: (L + 1 + 1, o2) :: G), p.1 ≠ a) ∧ (t.q == sysModules) = false ∧
      Ends h₀ L m { s with heap := h, toks := tk } (tl w t (mkl w y ((i : Int) + 1) tnu' (vals ts ++ [.ref t.a]) (i + 1) (i + 1) ((C, oC) :: (L + 1 + 1, o2) :: G))) s')) ?_ (fun v s₂ q => ?_) fun _ _ e => e
    · dsimp only [mkl, mkT, mkB, mkLim] at N2
      k_steps
      rename News _ _ _ _ => lN
      have hmk : (mka y).Nodup := (List.nodup_append.mp hnd).1
      have hoff : ∀ p ∈ (C, oC) :: (L + 1 + 1, o2) :: G, p.1 ∉ mka y := by
        have hd := (List.nodup_append.mp hnd).2.2
        intro p hp ha
        rcases List.mem_cons.mp hp with rfl | hp
        · obtain ⟨q, hq, e⟩ := mka_mkl (w := w) (nu := (i : Int)) (tnu := tnu1) (vs := vals ts) (nT := i) (nD := i) (rest := tls w ts R) ha
          exact (o.mem q hq).2.1 e
        rcases List.mem_cons.mp hp with rfl | hp
        · exact hd _ ha _ (List.mem_append_right _ (List.mem_map_of_mem (f := (·.1)) hL2m)) rfl
        rw [hG] at hp
        rcases List.mem_cons.mp hp with rfl | hp
        · obtain ⟨q, hq, e⟩ := mka_mkl (w := w) (nu := (i : Int)) (tnu := tnu1) (vs := vals ts) (nT := i) (nD := i) (rest := tls w ts R) ha
          exact (o.mem q hq).1 e
        rcases List.mem_cons.mp hp with rfl | hp
        · obtain ⟨q, hq, e⟩ := mka_mkl (w := w) (nu := (i : Int)) (tnu := tnu1) (vs := vals ts) (nT := i) (nD := i) (rest := tls w ts R) ha
          exact (o.mem q hq).2.2 e
        refine hd _ ha p.1 ?_ rfl
        have hm := List.mem_map_of_mem (f := (·.1)) hp
        rw [tls_map] at hm
        exact hm
      refine wrap_in (Spec.use (make_spec y (i : Int) tnu1 (vals ts) i i _ _ _ _ ((C, oC) :: (L + 1 + 1, o2) :: G) hmk hoff (by rw [vals, List.length_map]; omega) (by rw [vals, List.length_map]; omega) ⟨by omega, by omega⟩) (by assumption) (by assumption) (by assumption)
        (News.sub lN fun p hp => ?_) (by assumption) rfl (Nat.le_of_ble_eq_true rfl) rfl (Nat.le_of_ble_eq_true rfl) ?_)
      · rcases mem_mkl.mp hp with hp | hp
        · exact .tail _ (.tail _ (mem_mkl.mpr (.inl hp)))
        · rcases List.mem_cons.mp hp with rfl | hp
          · exact .head _
          rcases List.mem_cons.mp hp with rfl | hp
          · exact .tail _ (.head _)
          · exact .tail _ (.tail _ (mem_mkl.mpr (.inr hp)))
      intro r n' h' tk' hq5
      refine ex2 hq5 fun t tnu' hp6 => ?_
      clear hq5
      have eq7 := hp6.1
      have q1 := hp6.2.1
      have q2 := hp6.2.2.1
      have q3 := hp6.2.2.2.1
      have q4 := hp6.2.2.2.2.1
      have q5 := hp6.2.2.2.2.2.1
      have q6 := hp6.2.2.2.2.2.2.1
      have eq8 := hp6.2.2.2.2.2.2.2
      clear hp6
      subst eq7
      subst eq8
      intro F' N'
      k_steps
      exact ⟨t, tnu', rfl, q1, q2, q3, q4, q5, q6, Ends.intro (by assumption) (by assumption)⟩
    · obtain ⟨t, tnu', rfl, q1, q2, q3, q4, q5, q6, h', tk', rfl, F3, N3⟩ := q
      have hfr : ∀ a ∈ ta t, ∀ p ∈ (I, oI) :: (C, oC) :: (D, LCg.lst (vals ts)) :: mkl w y (i : Int) tnu1 (vals ts) i i (tls w ts R), p.1 ≠ a := fun a ha p hp => by
        refine q5 a ha p ?_
        rw [hG]
        rcases List.mem_cons.mp hp with rfl | hp
        · exact mem_mkl.mpr (.inr (.tail _ (.tail _ (.head _))))
        rcases List.mem_cons.mp hp with rfl | hp
        · exact mem_mkl.mpr (.inr (.head _))
        rcases List.mem_cons.mp hp with rfl | hp
        · exact mem_mkl.mpr (.inr (.tail _ (.tail _ (.tail _ (.head _)))))
        rcases mem_mkl.mp hp with hp | hp
        · exact mem_mkl.mpr (.inl hp)
        · exact mem_mkl.mpr (.inr (.tail _ (.tail _ (.tail _ (.tail _ hp)))))
      have ev := vals_snoc ts t
      refine ⟨h', tk', mkl w y ((i + 1 : Nat) : Int) tnu' (vals (ts ++ [t])) (i + 1) (i + 1) (tls w (ts ++ [t]) R), rfl, F3, News.sub N3 fun p hp => ?_, LCg.Off3.of fun p hp => ?_, .inr ⟨_, mem_mkl.mpr (.inr (mem_tls.mpr (.inr hSLm))), rfl, _, rfl⟩, ts ++ [t], tnu', by rw [List.length_append, hl]; rfl, ev.symm, ?_, ?_, ?_, rfl⟩
      · rw [show ((i + 1 : Nat) : Int) = (i : Int) + 1 by omega, ev] at hp
        rcases List.mem_cons.mp hp with rfl | hp
        · exact mem_tl.mpr (.inr (mem_mkl.mpr (.inr (.tail _ (.tail _ (by rw [hG]; exact .head _))))))
        rcases List.mem_cons.mp hp with rfl | hp
        · exact mem_tl.mpr (.inr (mem_mkl.mpr (.inr (.head _))))
        rcases List.mem_cons.mp hp with rfl | hp
        · exact mem_tl.mpr (.inr (mem_mkl.mpr (.inr (.tail _ (.tail _ (by rw [hG]; exact .tail _ (.head _)))))))
        rcases mem_mkl.mp hp with hp | hp
        · exact mem_tl.mpr (.inr (mem_mkl.mpr (.inl hp)))
        rcases tls_snoc.mp hp with hp | hp | hp
        · exact mem_tl.mpr (.inr (mem_mkl.mpr (.inr (.tail _ (.tail _ (by rw [hG]; exact .tail _ (.tail _ (mem_tls.mpr (.inl ((mem_tls.mp hp).resolve_right (fun h => nomatch h)))))))))))
        · exact mem_tl.mpr (.inl hp)
        · exact mem_tl.mpr (.inr (mem_mkl.mpr (.inr (.tail _ (.tail _ (by rw [hG]; exact .tail _ (.tail _ (mem_tls.mpr (.inr hp)))))))))
      · have old : ∀ a, (∃ q ∈ mkl w y (i : Int) tnu1 (vals ts) i i (tls w ts R), q.1 = a) → a ≠ I ∧ a ≠ C ∧ a ≠ D := fun a ⟨q, hq, e⟩ => e ▸ o.mem q hq
        rcases mem_mkl.mp hp with hp | hp
        · exact old _ (mka_mkl (mkl_mka hp))
        rcases tls_snoc.mp hp with hp | hp | hp
        · exact old _ ⟨p, mem_mkl.mpr (.inr (mem_tls.mpr (.inl ((mem_tls.mp hp).resolve_right (fun h => nomatch h))))), rfl⟩
        · have ha := mem_tl_ta hp
          exact ⟨fun e => hfr _ ha _ (.head _) e.symm, fun e => hfr _ ha _ (.tail _ (.head _)) e.symm, fun e => hfr _ ha _ (.tail _ (.tail _ (.head _))) e.symm⟩
        · exact old _ ⟨p, mem_mkl.mpr (.inr (mem_tls.mpr (.inr hp))), rfl⟩
      · rw [List.map_append, hnum, nats_succ, List.map_append]
        show _ ++ [t.num] = _ ++ [(i : Int) + 1]
        rw [q1]
      · intro t' ht
        rcases List.mem_append.mp ht with ht | ht
        · exact hst t' ht
        · rw [List.mem_singleton.mp ht]; exact ⟨q2, q3, q6⟩
      · rw [tas_snoc]
        refine nd_add hnd q4 (fun x hx z hz => ?_) (fun x hx z hz => ?_) (fun x hx z hz => ?_)
        · obtain ⟨q, hq, rfl⟩ := mka_mkl (w := w) (nu := (i : Int)) (tnu := tnu1) (vs := vals ts) (nT := i) (nD := i) (rest := tls w ts R) hz
          exact hfr x hx q (.tail _ (.tail _ (.tail _ hq)))
        · obtain ⟨q, hq, rfl⟩ := mem_tas_led w R hz
          exact hfr x hx q (.tail _ (.tail _ (.tail _ (mem_mkl.mpr (.inr hq)))))
        · obtain ⟨q, hq, rfl⟩ := List.mem_map.mp hz
          exact hfr x hx q (.tail _ (.tail _ (.tail _ (mem_mkl.mpr (.inr (mem_tls.mpr (.inr hq)))))))
  · intro ys _ hq9
    refine ex2 hq9 fun ts tnu1 hp10 => ?_
    clear hq9
    have hl := hp10.1
    have eq11 := hp10.2.1
    have hnum := hp10.2.2.1
    have hst := hp10.2.2.2.1
    have hnd := hp10.2.2.2.2.1
    have eq12 := hp10.2.2.2.2.2
    clear hp10
    subst eq11
    subst eq12
    intro TH h tk F' N' ofT
    k_steps
    rename News _ _ _ _ => lN
    have hd := List.nodup_append.mp hnd
    have hd2 := List.nodup_append.mp hd.2.1
    have hap : Apart ts (mkl w y (rows.length : Int) tnu1 (vals ts) rows.length rows.length R) := ⟨hd2.1, fun p hp ht => by
      rcases mem_mkl.mp hp with hp | hp
      · exact hd.2.2 _ (mkl_mka hp) _ (List.mem_append_left _ ht) rfl
      · exact hd2.2.2 _ ht _ (List.mem_map_of_mem (f := (·.1)) hp) rfl⟩
    have hTH : TH ∉ tas ts := fun ht => by
      obtain ⟨q, hq, e⟩ := mem_tas_led w R ht
      exact off1_mem ofT q (mem_mkl.mpr (.inr hq)) e
    refine wrap_in (Spec.use (act_spec TH (vals ts).length ts (mkl w y (rows.length : Int) tnu1 (vals ts) rows.length rows.length R) hap hTH (fun t ht => ⟨(hst t ht).1, (hst t ht).2.1⟩)) (by assumption) (by assumption) (by assumption)
        (News.sub lN fun p hp => ?_) (by assumption) rfl (Nat.le_of_ble_eq_true rfl) rfl (Nat.le_of_ble_eq_true rfl) ?_)
    · rcases List.mem_cons.mp hp with rfl | hp
      · exact .head _
      refine .tail _ ?_
      rcases mem_tls.mp hp with hp | hp
      · exact mem_mkl.mpr (.inr (mem_tls.mpr (.inl hp)))
      rcases mem_mkl.mp hp with hp | hp
      · exact mem_mkl.mpr (.inl hp)
      · exact mem_mkl.mpr (.inr (mem_tls.mpr (.inr hp)))
    rintro r n' h' tk' ⟨rfl, ts', hA, rfl⟩ F' N'
    have hsm : All2 Same ts ts' := hA.mono fun _ _ h => h.1
    have hnum' := same_nums' hsm
    have ev := same_vals hsm
    have et := same_tas hsm
    have hl' : ts'.length = rows.length := by rw [← hl]; have := congrArg List.length ev; rw [vals, vals, List.length_map, List.length_map] at this; exact this
    have hrd : ∀ {a b : List TR}, All2 (fun t t' => Same t t' ∧ Is t' .rdy) a b → ∀ t ∈ b, Is t .rdy := fun {a b} h => by
      induction h with
      | nil => exact fun _ h => nomatch h
      | cons x _ ih =>
        intro t ht
        rcases List.mem_cons.mp ht with rfl | ht
        · exact x.2
        · exact ih t ht
    have hqs := same_q hsm (fun t ht => (hst t ht).2.2)
    k_steps
    rename News _ _ _ _ => lN3
    refine hnext ts' tnu1 TH _ _ _ hl' (by rw [hnum', hnum]) (fun t ht => ⟨hrd hA t ht, hqs t ht⟩) (by assumption) ?_ (News.sub lN3 fun p hp => ?_)
    · show (mka y ++ (tls w ts' R).map (·.1)).Nodup
      rw [tls_map, et]
      exact hnd
    · rw [ev] at hp
      refine .tail _ ?_
      rcases mem_mkl.mp hp with hp | hp
      · exact mem_tls.mpr (.inr (mem_mkl.mpr (.inl hp)))
      rcases mem_tls.mp hp with hp | hp
      · exact mem_tls.mpr (.inl hp)
      · exact mem_tls.mpr (.inr (mem_mkl.mpr (.inr hp)))
theorem freshT10 : True := by
  k_with_none
  (k_with "CJ" => (first | with_reducible assumption | with_reducible exact And.left (by first | with_reducible assumption | with_reducible exact And.right (by first | with_reducible assumption | with_reducible exact And.right (by first | with_reducible assumption | with_reducible exact And.right (by first | with_reducible assumption | with_reducible exact And.right (by first | with_reducible assumption | with_reducible exact And.right (by first | with_reducible assumption | with_reducible exact And.right (by first | with_reducible assumption | with_reducible exact And.right (by first | with_reducible assumption | with_reducible exact And.right (by first | with_reducible assumption | with_reducible exact And.right (by first | with_reducible assumption | with_reducible exact And.right (by first | with_reducible assumption | with_reducible exact And.right (by first | with_reducible assumption | with_reducible exact And.right (by first | with_reducible assumption | with_reducible exact And.right (by first | with_reducible assumption | with_reducible exact And.right (by first | with_reducible assumption | with_reducible exact And.right (by first | with_reducible assumption | with_reducible exact And.right (by first | with_reducible assumption | with_reducible exact And.right (by first | with_reducible assumption | with_reducible exact And.right (by first | with_reducible assumption | with_reducible exact And.right (by first | with_reducible assumption | with_reducible exact And.right (by first | with_reducible assumption | with_reducible exact And.right (by first | with_reducible assumption | with_reducible exact And.right (by with_reducible assumption)))))))))))))))))))))))))
  (k_with "execs cons" => (k_here; (fail_if_success (fail_if_success k_gentoks)); (with_reducible refine gen_toks ?_); intro tk))
  (k_with "execs nil" => (k_here; (fail_if_success (fail_if_success k_gentoks)); (with_reducible refine gen_toks ?_); intro tk))
  w_top off
  trivial
theorem rulesT10x1 : True := by
  (k_with "compareOp Eq str str" => (first | refine eqs_ff (by first | decide | (dsimp only; decide)) ?_ | refine eqs_tt (by first | decide | (dsimp only; decide)) ?_))
  (k_with "compareOp NotEq str str" => (first | refine nes_ff (by first | decide | (dsimp only; decide)) ?_ | refine nes_tt (by first | decide | (dsimp only; decide)) ?_))
  (k_with "exec" => ((k_here; (with_reducible show wpAny _ _ (exec (Stmt.While _ _ _ _) _) _ _ _); k_dflt (refine whl_startW ?_))))
  (k_with "WhlW" => ((dsimp only [WhlW])))
  (k_with "exec For Name Name cons nil" => (walk_at "WHOLE1"))
  (k_with "pyIter ref" => ((refine Wrap.out ?_)))
  (k_with "call ref" => ((k_here; (with_reducible show wpAny _ _ (call (Value.ref 410) _) _ _ _); k_dflt (refine' Spec.use (figure_spec ?u1 ?g1 ?g2) ?k1 ?k2 ?k3 ?k4 ?k5 ?k6 ?k7 ?k8 ?k9 ?_; (case k4 => k_asm); (case k1 => k_asm); (case k2 => k_asm); (case k3 => k_asm); (case k5 => k_asm); (case k8 => exact rfl); (case k6 => exact rfl); (case k7 => exact Nat.le_of_ble_eq_true rfl); (case k9 => exact Nat.le_of_ble_eq_true rfl); (case u1 => k_updF); (case g1 => assumption); (case g2 => omega)); refine cpsF ?_; walk_at "TAIL6")))
  (k_with "call ref" => ((k_here; (with_reducible show wpAny _ _ (call (Value.ref 49) _) _ _ _); k_dflt (refine' Spec.use (next_nil _ _ _ ?g1) ?k1 ?k2 ?k3 ?k4 ?k5 ?k6 ?k7 ?k8 ?k9 ?_; (case k4 => k_asm); (case k1 => k_asm); (case k2 => k_asm); (case k3 => k_asm); (case k5 => k_asm); (case k8 => exact rfl); (case k6 => exact rfl); (case k7 => exact Nat.le_of_ble_eq_true rfl); (case k9 => exact Nat.le_of_ble_eq_true rfl); (case g1 => k_mem); skip); refine cps2 ?_; walk_at "TAIL3")))
  (k_with "call ref" => ((k_here; (with_reducible show wpAny _ _ (call (Value.ref 49) _) _ _ _); k_dflt (refine' Spec.use (next_404 _ _ _ _ _ ?g1) ?k1 ?k2 ?k3 ?k4 ?k5 ?k6 ?k7 ?k8 ?k9 ?_; (case k4 => k_asm); (case k1 => k_asm); (case k2 => k_asm); (case k3 => k_asm); (case k5 => k_asm); (case k8 => exact rfl); (case k6 => exact rfl); (case k7 => exact Nat.le_of_ble_eq_true rfl); (case k9 => exact Nat.le_of_ble_eq_true rfl); (case g1 => k_mem); skip); refine cps2 ?_; walk_at "TAIL3")))
  (k_with "call type:range" => (walk_at "WHOLE3"))
  (k_with "CompSrc" => (walk_at "WHOLE4"))
  (k_with "CompSrcT" => (walk_at "WHOLE5"))
  (k_with "call builtin:len" => ((k_here; k_dflt (refine' lenS ?N ?m ?z ?_; (case N => k_asm); (case m => k_mem); (case z => assumption)))))
  (k_with "truthy ref" => ((k_here; k_dflt (refine' truthS ?N ?m ?z ?_; (case N => k_asm); (case m => k_mem); (case z => assumption)))))
  (k_with "subscriptTail" => ((k_here; (with_reducible show wpAny _ _ (subscriptTail _ _ (Value.ref (LC.SL _)) _) _ _ _); k_dflt (refine' item_spec ?k1 ?k2 ?k3 ?k4 ?k5 ?k6 ?_; (case k6 => assumption); (case k1 => k_asm); (case k2 => k_asm); (case k3 => k_mem); (case k4 => first | assumption | omega); (case k5 => omega)))))
  (k_with "call ref" => ((k_here; (with_reducible show wpAny _ _ (call (Value.ref 403) _) _ _ _); refine Wrap.out ?_)))
  (k_with "call ref" => ((k_here; (with_reducible show wpAny _ _ (call (Value.ref 284) _) _ _ _); refine Wrap.out ?_)))
  (k_with "call ref" => ((k_here; (with_reducible show wpAny _ _ (call (Value.ref 209) _) _ _ _); refine Wrap.out ?_)))
  (k_with "subscriptTail" => ((k_here; (with_reducible show wpAny _ _ (subscriptTail _ _ (Value.ref (CH.RR _)) _) _ _ _); k_dflt (refine' item_last ?k2 ?k3 ?k4 ?_; (case k2 => k_asm); (case k3 => k_mem); (case k4 => assumption)))))
  (k_with "subscriptTail" => ((k_here; (with_reducible show wpAny _ _ (subscriptTail _ _ (Value.ref (LC.AT _)) (Value.int _ _)) _ _ _); k_dflt (refine' PySem.W.ksa_sub ?k1 ?k2 ?k3 ?k4 ?k5 ?k6 ?_ ?k7; (case k1 => k_asm); (case k2 => k_mem); (case k3 => with_reducible assumption); (case k4 => first | assumption | omega); (case k5 => omega); (case k6 => omega); (case k7 => with_unfolding_all rfl); k_whole); walk_at "TAIL12")))
  (k_with "subscriptTail" => ((k_here; (with_reducible show wpAny _ _ (subscriptTail _ _ (Value.ref (LC.DU _)) (Value.int _ _)) _ _ _); k_dflt (refine' PySem.W.ksa_sub ?k1 ?k2 ?k3 ?k4 ?k5 ?k6 ?_ ?k7; (case k1 => k_asm); (case k2 => k_mem); (case k3 => with_reducible assumption); (case k4 => first | assumption | omega); (case k5 => omega); (case k6 => omega); (case k7 => with_unfolding_all rfl); k_whole); walk_at "TAIL12")))
  (k_with "subscriptTail" => ((k_here; (with_reducible show wpAny _ _ (subscriptTail _ _ (Value.ref (RW.a _)) (Value.int _ _)) _ _ _); k_dflt (refine' PySem.W.ksa_sub ?k1 ?k2 ?k3 ?k4 ?k5 ?k6 ?_ ?k7; (case k1 => k_asm); (case k2 => k_mem); (case k3 => with_reducible assumption); (case k4 => first | assumption | omega); (case k5 => omega); (case k6 => omega); (case k7 => with_unfolding_all rfl); k_whole); walk_at "TAIL12")))
  (k_with "setItem ref int" => ((k_here; (with_reducible show wpAny _ _ (setItem (Value.ref _) (Value.int _ _) (Value.int _ _)) _ _ _); k_dflt (refine' PySem.W.ksa_set ?k1 ?k2 ?k3 ?k4 ?k5 ?k6 ?k7 ?_; (case k1 => k_asm); (case k2 => k_asm); (case k3 => k_upd); (case k4 => with_reducible assumption); (case k5 => first | assumption | omega); (case k6 => omega); (case k7 => omega); k_whole); walk_at "TAIL13")))
  (k_with "compareOp NotEq ref ref" => ((k_here; k_dflt (refine' neL_same ?k1 ?k2 ?k3 ?k4 ?k5 ?k6 ?_; (case k1 => k_asm); (case k2 => k_mem); (case k3 => k_mem); (case k4 => with_reducible assumption); (case k5 => with_reducible assumption); (case k6 => exact Nat.le_of_ble_eq_true rfl)))))
  (k_with "compareOp Eq ref ref" => ((k_here; k_dflt (first | (refine' eqL_nil ?k1 ?k2 ?k3 ?k4 ?k5 ?k6 ?_; (case k1 => k_asm); (case k2 => k_mem); (case k3 => k_mem); (case k4 => with_reducible assumption); (case k5 => with_reducible assumption); (case k6 => exact Nat.le_of_ble_eq_true rfl)) | (refine' eqL_cons ?k1 ?k2 ?k3 ?k4 ?k5 ?k6 ?_; (case k1 => k_asm); (case k2 => k_mem); (case k3 => k_mem); (case k4 => with_reducible assumption); (case k5 => with_reducible assumption); (case k6 => exact Nat.le_of_ble_eq_true rfl))))))
  trivial
theorem flat_rep : ∀ (n : Nat), (List.replicate n [(0 : Int)]).flatten = List.replicate n 0
  | 0 => rfl
  | n + 1 => by rw [List.replicate_succ, List.flatten_cons, flat_rep n]; rfl
theorem stage9 {w : World} {pr : Program} {loose : List Str} {mean : ExcName → Option Value} {mg mb : Str → Option Value} {base h₀ : Heap} {L fa : Addr} {m : Str → Option Value} {s : Shared} {Q : Flow → Shared → Prop}
    {o1 o3 o4 o5 : Obj} {SL : Addr} {sl : List Value} {nsl : Nat} {Z : Led} {v3 v4 v5 : Option Value}
    (B : Below callerA base [] h₀) (X : (Mine.hd.heap_39 w.params).In h₀) (T : Top pr loose mean mg mb h₀)
    (F : Fr h₀ L s.heap m) (d1 : o1.data = .cell (some (.ref SL))) (d3 : o3.data = .cell v3) (d4 : o4.data = .cell v4) (d5 : o5.data = .cell v5) (hsl : sl.length ≤ 4)
    (hN : NDL ((L + 1, o1) :: (SL, W.listOf sl.toArray nsl) :: (L + 1 + 1 + 1, o3) :: (L + 1 + 1 + 1 + 1, o4) :: (L + 1 + 1 + 1 + 1 + 1, o5) :: Z))
    (N : News h₀ L s.heap ((L + 1, o1) :: (SL, W.listOf sl.toArray nsl) :: (L + 1 + 1 + 1, o3) :: (L + 1 + 1 + 1 + 1, o4) :: (L + 1 + 1 + 1 + 1 + 1, o5) :: Z))
    (hnext : ∀ (AT DU : Addr) (atv duv : List Value) (o3' o4' o5' : Obj) (tnw : Tok) (h' : Heap) (tk' : Nat), IntsAre atv (List.replicate sl.length 0) → IntsAre duv (List.replicate sl.length 0) → o3'.data = .cell (some (.ref AT)) → o4'.data = .cell (some (.ref DU)) → o5'.data = .cell (some (.int 0 tnw)) →
      NDL ((DU, W.listOf duv.toArray 0) :: (AT, W.listOf atv.toArray 0) :: (L + 1, o1) :: (SL, W.listOf sl.toArray nsl) :: (L + 1 + 1 + 1, o3') :: (L + 1 + 1 + 1 + 1, o4') :: (L + 1 + 1 + 1 + 1 + 1, o5') :: Z) → Fr h₀ L h' m →
      News h₀ L h' ((DU, W.listOf duv.toArray 0) :: (AT, W.listOf atv.toArray 0) :: (L + 1, o1) :: (SL, W.listOf sl.toArray nsl) :: (L + 1 + 1 + 1, o3') :: (L + 1 + 1 + 1 + 1, o4') :: (L + 1 + 1 + 1 + 1 + 1, o5') :: Z) →
      wpAny (model PySem.Challenge.pw_pb0024_01 w) (callerA.deeper (lawEnv L fa (.ref 419))) (execs (lawStmts.drop 12) (lawEnv L fa (.ref 419))) Q (fun _ _ => False) { s with heap := h', toks := tk' }) :
    wpAny (model PySem.Challenge.pw_pb0024_01 w) (callerA.deeper (lawEnv L fa (.ref 419))) (execs (lawStmts.drop 9) (lawEnv L fa (.ref 419))) Q (fun _ _ => False) s := by
  have hMk : MarkW := trivial
  generalize hR : lawStmts.drop 12 = rest12 at hnext
  have e : lawStmts.drop 9 = (lawStmts.drop 9).headD (.Pass ⟨0,0,0,0⟩) :: (lawStmts.drop 10).headD (.Pass ⟨0,0,0,0⟩) :: (lawStmts.drop 11).headD (.Pass ⟨0,0,0,0⟩) :: lawStmts.drop 12 := by rfl
  rw [e, hR]
  clear e hR
  have e : (lawStmts.drop 9).headD (.Pass ⟨0,0,0,0⟩) = (lawStmts.drop 9).headD (.Pass ⟨0,0,0,0⟩) := rfl
  conv at e => rhs; whnf
  rw [e]
  clear e
  have e : (lawStmts.drop 10).headD (.Pass ⟨0,0,0,0⟩) = (lawStmts.drop 10).headD (.Pass ⟨0,0,0,0⟩) := rfl
  conv at e => rhs; whnf
  rw [e]
  clear e
  have e : (lawStmts.drop 11).headD (.Pass ⟨0,0,0,0⟩) = (lawStmts.drop 11).headD (.Pass ⟨0,0,0,0⟩) := rfl
  conv at e => rhs; whnf
  rw [e]
  clear e
  have e : lawScope = lawScope := rfl
  conv at e => rhs; whnf
  unfold lawEnv at hnext ⊢
  rw [e] at hnext ⊢
  clear e
  have hcd := codeHd_of_K (c := 419) (P := 417) X (by kernel_rfl)
  have hN' := hN
  unfold NDL at hN'
  simp only [List.map_cons, List.nodup_cons, List.mem_cons, not_or] at hN'
  obtain ⟨_, ⟨s3, s4, s5, _⟩, ⟨_, _, b3⟩, ⟨_, b4⟩, b5, _⟩ := hN'
  have f3 : @Ne Nat SL (L + 1 + 1 + 1) := s3
  have f4 : @Ne Nat SL (L + 1 + 1 + 1 + 1) := s4
  have f5 : @Ne Nat SL (L + 1 + 1 + 1 + 1 + 1) := s5
  have zz : ∀ d, d ∉ Z.map (·.1) → ∀ p ∈ Z, p.1 ≠ d := fun d hd p hp e => hd (e ▸ List.mem_map_of_mem hp)
  have z3 : ∀ p ∈ Z, p.1 ≠ L + 1 + 1 + 1 := zz _ b3
  have z4 : ∀ p ∈ Z, p.1 ≠ L + 1 + 1 + 1 + 1 := zz _ b4
  have z5 : ∀ p ∈ Z, p.1 ≠ L + 1 + 1 + 1 + 1 + 1 := zz _ b5
  clear s3 s4 s5 b3 b4 b5 zz
  replace hN := wrap_in hN
  replace hnext := wrap_in hnext
  have hslz : sl.length ≤ 1000 := by omega
  k_steps
  rename_i _ _ _ _ _ i1 _ _ _ _ _ m1 _ _ e3 _ _ _ _ _ _ i2 _ _ _ _ _ m2 _ _ e4 _ _ lF lN e5
  have er : (List.replicate ((sl.length : Int)).toNat [(0 : Int)]).flatten = List.replicate sl.length 0 := by rw [Int.toNat_natCast]; exact flat_rep _
  rw [er] at i1 i2
  exact hnext _ _ _ _ _ _ _ _ _ _ i1 i2 e3 e4 e5 (NDL.cons (NDL.cons (l := (L + 1, o1) :: (SL, W.listOf sl.toArray nsl) :: (L + 1 + 1 + 1, o3) :: (L + 1 + 1 + 1 + 1, o4) :: (L + 1 + 1 + 1 + 1 + 1, o5) :: Z) hN m1.2) ⟨m2.2.1, m2.2.2.2⟩) lF (News.sub lN fun p hp => by
    rcases List.mem_cons.mp hp with rfl | hp
    · exact .head _
    rcases List.mem_cons.mp hp with rfl | hp
    · exact .tail _ (.tail _ (.head _))
    · exact .tail _ (.tail _ (.tail _ (.tail _ hp))))
theorem freshT11 : True := by
  k_with_none
  (k_with "CJ" => (first | with_reducible assumption | with_reducible exact And.left (by first | with_reducible assumption | with_reducible exact And.right (by first | with_reducible assumption | with_reducible exact And.right (by first | with_reducible assumption | with_reducible exact And.right (by first | with_reducible assumption | with_reducible exact And.right (by first | with_reducible assumption | with_reducible exact And.right (by first | with_reducible assumption | with_reducible exact And.right (by first | with_reducible assumption | with_reducible exact And.right (by first | with_reducible assumption | with_reducible exact And.right (by first | with_reducible assumption | with_reducible exact And.right (by first | with_reducible assumption | with_reducible exact And.right (by first | with_reducible assumption | with_reducible exact And.right (by first | with_reducible assumption | with_reducible exact And.right (by first | with_reducible assumption | with_reducible exact And.right (by first | with_reducible assumption | with_reducible exact And.right (by first | with_reducible assumption | with_reducible exact And.right (by first | with_reducible assumption | with_reducible exact And.right (by first | with_reducible assumption | with_reducible exact And.right (by first | with_reducible assumption | with_reducible exact And.right (by first | with_reducible assumption | with_reducible exact And.right (by first | with_reducible assumption | with_reducible exact And.right (by first | with_reducible assumption | with_reducible exact And.right (by first | with_reducible assumption | with_reducible exact And.right (by with_reducible assumption)))))))))))))))))))))))))
  (k_with "execs cons" => (k_here; (fail_if_success (fail_if_success k_gentoks)); (with_reducible refine gen_toks ?_); intro tk))
  (k_with "execs nil" => (k_here; (fail_if_success (fail_if_success k_gentoks)); (with_reducible refine gen_toks ?_); intro tk))
  w_top off
  trivial
theorem rls_map (rows : List RW) (rest : Led) : (rls rows rest).map (·.1) = rows.map (·.a) ++ rest.map (·.1) := by
  induction rows with
  | nil => rfl
  | cons r rows ih =>
    show r.a :: (rls rows rest).map (·.1) = _
    rw [ih]; rfl
theorem mkl_map (w : World) (y : MK) (nu : Int) (tnu : Tok) (vs : List Value) (nT nD : Nat) (rest : Led) : (mkl w y nu tnu vs nT nD rest).map (·.1) = mka y ++ rest.map (·.1) := rfl
theorem chl_map (c : CH) (hs : List Value) (nh : Nat) (rr : List Value) (nr : Nat) (rest : Led) : (chl c hs nh rr nr rest).map (·.1) = ca c ++ rest.map (·.1) := rfl
theorem rep_getD (n i : Nat) : (List.replicate n (0 : Int)).getD i 0 = 0 := by
  rw [List.getD_eq_getElem?_getD, List.getElem?_replicate]; split <;> rfl
theorem rep_sum : ∀ (n : Nat), (List.replicate n (0 : Int)).sum = 0
  | 0 => rfl
  | n + 1 => by rw [List.replicate_succ, List.sum_cons, rep_sum n]; rfl
theorem all2_rdy : ∀ {ts : List TR} {is : List Int}, ts.length = is.length → (∀ t ∈ ts, Is t .rdy) → All2 Is ts (is.map fun _ => AS.rdy)
  | [], [], _, _ => .nil
  | t :: ts, i :: is, h, k => .cons (k t (.head _)) (all2_rdy (by simpa using h) fun t ht => k t (.tail _ ht))
theorem tls_app (w : World) (ts : List TR) (rest : Led) : tls w ts rest = tls w ts [] ++ rest := by
  induction ts with
  | nil => rfl
  | cons t ts ih => show tl w t (tls w ts rest) = tl w t [] ++ tls w ts [] ++ rest; rw [ih]; rfl
theorem rls_app (rows : List RW) (rest : Led) : rls rows rest = rls rows [] ++ rest := by
  induction rows with
  | nil => rfl
  | cons r rows ih => show (r.a, LCg.lst r.vs) :: rls rows rest = _; rw [ih]; rfl
section
variable {α : Type}
theorem permA (C CD h1 h2 h3 h4 h5 h6 SL L1 L2 : α) (R : List α) : (C :: CD :: h1 :: h2 :: h3 :: h4 :: h5 :: h6 :: SL :: L1 :: L2 :: R).Perm (L1 :: L2 :: SL :: C :: CD :: h1 :: h2 :: h3 :: h4 :: h5 :: h6 :: R) :=
  (List.perm_append_comm_assoc [C, CD, h1, h2, h3, h4, h5, h6] [SL, L1, L2] R).trans (List.perm_append_comm_assoc [SL] [L1, L2] (C :: CD :: h1 :: h2 :: h3 :: h4 :: h5 :: h6 :: R))
theorem sw1 (p a b r : List α) : (p ++ (a ++ (b ++ r))).Perm (p ++ (b ++ (a ++ r))) := List.Perm.append_left p (List.perm_append_comm_assoc a b r)
theorem sw2 (p p' a b r : List α) : (p ++ (p' ++ (a ++ (b ++ r)))).Perm (p ++ (p' ++ (b ++ (a ++ r)))) := List.Perm.append_left p (sw1 p' a b r)
theorem sw3 (p p' p'' a b r : List α) : (p ++ (p' ++ (p'' ++ (a ++ (b ++ r))))).Perm (p ++ (p' ++ (p'' ++ (b ++ (a ++ r))))) := List.Perm.append_left p (sw2 p' p'' a b r)
theorem permB (T TD TL LB LBD DP LM LMD l1 l2 sl C CD l3 l4 l5 q : α) (TS CH RL : List α) :
    (T :: TD :: TL :: LB :: LBD :: DP :: LM :: LMD :: (TS ++ (l1 :: l2 :: sl :: C :: CD :: (CH ++ (l3 :: l4 :: l5 :: q :: RL))))).Perm
    (l1 :: sl :: l3 :: l4 :: l5 :: DP :: LM :: LMD :: T :: TD :: C :: CD :: TL :: LB :: LBD :: (TS ++ (CH ++ (l2 :: (RL ++ [q]))))) := by
  refine (sw3 [T, TD, TL, LB, LBD, DP, LM, LMD] TS [l1, l2, sl, C, CD] CH [l3, l4, l5] (q :: RL)).trans ?_
  refine (sw3 [T, TD, TL, LB, LBD, DP, LM, LMD] TS [l1] [l2] [sl] (C :: CD :: l3 :: l4 :: l5 :: (CH ++ (q :: RL)))).trans ?_
  refine (sw3 [T, TD, TL, LB, LBD, DP, LM, LMD] TS [l1, sl] [l2, C, CD] [l3, l4, l5] (CH ++ (q :: RL))).trans ?_
  refine (sw1 [T, TD, TL, LB, LBD, DP, LM, LMD] TS [l1, sl, l3, l4, l5] (l2 :: C :: CD :: (CH ++ (q :: RL)))).trans ?_
  refine (sw1 [] [T, TD, TL, LB, LBD, DP, LM, LMD] [l1, sl, l3, l4, l5] (TS ++ (l2 :: C :: CD :: (CH ++ (q :: RL))))).trans ?_
  refine List.Perm.append_left [l1, sl, l3, l4, l5] ?_
  refine (sw1 [] [T, TD, TL, LB, LBD] [DP, LM, LMD] (TS ++ (l2 :: C :: CD :: (CH ++ (q :: RL))))).trans ?_
  refine List.Perm.append_left [DP, LM, LMD, T, TD] ?_
  refine (sw2 [TL, LB, LBD] TS [l2] [C, CD] (CH ++ (q :: RL))).trans ?_
  refine (sw1 [TL, LB, LBD] TS [C, CD] (l2 :: (CH ++ (q :: RL)))).trans ?_
  refine (sw1 [] [TL, LB, LBD] [C, CD] (TS ++ (l2 :: (CH ++ (q :: RL))))).trans ?_
  refine List.Perm.append_left [C, CD, TL, LB, LBD] (List.Perm.append_left TS ?_)
  exact (sw1 [] [l2] CH (q :: RL)).trans (List.Perm.append_left CH (List.Perm.cons l2 (List.perm_append_comm (l₁ := [q]) (l₂ := RL))))
theorem permC (DU AT l1 sl l3 l4 l5 l2 : α) (B TS CH RQ : List α) :
    (DU :: AT :: l1 :: sl :: l3 :: l4 :: l5 :: (B ++ (TS ++ (CH ++ (l2 :: RQ))))).Perm (B ++ (TS ++ (CH ++ (l5 :: AT :: DU :: l1 :: l2 :: l3 :: l4 :: sl :: RQ)))) := by
  refine (sw1 [] [DU, AT, l1, sl, l3, l4, l5] B (TS ++ (CH ++ (l2 :: RQ)))).trans (List.Perm.append_left B ?_)
  refine (sw1 [] [DU, AT, l1, sl, l3, l4, l5] TS (CH ++ (l2 :: RQ))).trans (List.Perm.append_left TS ?_)
  refine (sw1 [] [DU, AT, l1, sl, l3, l4, l5] CH (l2 :: RQ)).trans (List.Perm.append_left CH ?_)
  refine (sw1 [] [DU, AT, l1, sl, l3, l4] [l5] (l2 :: RQ)).trans ?_
  refine (sw1 [l5] [DU] [AT] (l1 :: sl :: l3 :: l4 :: l2 :: RQ)).trans ?_
  refine (sw1 [l5, AT, DU, l1] [sl] [l3, l4, l2] RQ).trans ?_
  exact sw1 [l5, AT, DU, l1] [l3, l4] [l2] (sl :: RQ)
end
theorem full_map {w : World} {k : LC} {y : SY} {c : CH} {vs : List Value} {now : Int} {tn : Tok} {se : Int} {tse : Tok} {ts : List TR} {hs : List Value} {nh : Nat} {rr : List Value} {nr : Nat} {o5 : Obj} {atv : List Value} {nat : Nat} {duv : List Value} {ndu : Nat} {ex : Led} :
    (full w k y c vs now tn se tse ts hs nh rr nr o5 atv nat duv ndu ex).map (·.1) = ya y ++ (tas ts ++ (ca c ++ (la k ++ (ra k ++ xa ex)))) := by
  show ya y ++ (tls w ts _).map (·.1) = _
  rw [tls_map]
  show ya y ++ (tas ts ++ (ca c ++ (la k ++ (rls k.rows ex).map (·.1)))) = _
  rw [rls_map]; rfl
theorem law_rest {w : World} {pr : Program} {loose : List Str} {mean : ExcName → Option Value} {mg mb : Str → Option Value} {base h₀ : Heap} {L fa : Addr} {m : Str → Option Value} {s : Shared} {Q : Flow → Shared → Prop}
    {o1 o2 o3 o4 o5 o6 o7 : Obj} {H SL : Addr} {hs : List Value} {nh : Nat} {v2 v3 v4 v5 v7 : Option Value}
    (B : Below callerA base [] h₀) (X : (Mine.hd.heap_39 w.params).In h₀) (T : Top pr loose mean mg mb h₀)
    (F : Fr h₀ L s.heap m) (d1 : o1.data = .cell (some (.ref SL))) (d6 : o6.data = .cell (some (.ref H))) (d2 : o2.data = .cell v2) (d3 : o3.data = .cell v3) (d4 : o4.data = .cell v4) (d5 : o5.data = .cell v5) (d7 : o7.data = .cell v7) (hH : Hand hs) (hlt : @LT.lt Nat _ 417 L) (hCH : CodeHd h₀ 419 417)
    (hN : NDL ((SL, W.listOf #[] 0) :: (H, W.listOf hs.toArray nh) :: cells L o1 o2 o3 o4 o5 o6 o7 [(417, tabObj #[])]))
    (N : News h₀ L s.heap ((SL, W.listOf #[] 0) :: (H, W.listOf hs.toArray nh) :: cells L o1 o2 o3 o4 o5 o6 o7 [(417, tabObj #[])]))
    (hret : ∀ m' h' tk' tab, Fr h₀ L h' m' → News h₀ L h' [(417, tabObj tab)] → Q (.ret (.bool true)) { s with heap := h', toks := tk' }) :
    wpAny (model PySem.Challenge.pw_pb0024_01 w) (callerA.deeper (lawEnv L fa (.ref 419))) (execs (lawStmts.drop 3) (lawEnv L fa (.ref 419))) Q (fun _ _ => False) s := by
  have nda : ∀ {a : Addr} {o : Obj} {l : Led}, NDL ((a, o) :: l) → (∀ p ∈ l, p.1 ≠ a) ∧ NDL l := fun {a o l} h => by
    unfold NDL at h
    rw [List.map_cons, List.nodup_cons] at h
    exact ⟨fun p hp e => h.1 (e ▸ List.mem_map_of_mem (f := (·.1)) hp), h.2⟩
  refine stage3 B X T F d1 d6 hH (nda hN).1 (nda (nda hN).2).1 N ?_
  intro rows hs1 nh1 m1 h1 tk1 hr4 hr1 hI hF hH1 hnd hoff F1 N1
  have hN1 : NDL ((SL, W.listOf (rvals rows).toArray rows.length) :: (H, W.listOf hs1.toArray nh1) :: cells L o1 o2 o3 o4 o5 o6 o7 ((417, tabObj #[]) :: rls rows [])) := by
    show ([SL, H, L + 1, L + 1 + 1, L + 1 + 1 + 1, L + 1 + 1 + 1 + 1, L + 1 + 1 + 1 + 1 + 1, L + 1 + 1 + 1 + 1 + 1 + 1, L + 1 + 1 + 1 + 1 + 1 + 1 + 1, 417] ++ (rls rows []).map (·.1)).Nodup
    rw [rls_map, List.map_nil, List.append_nil, List.nodup_append]
    refine ⟨hN, hnd, fun a ha b hb => ?_⟩
    obtain ⟨r, hr, rfl⟩ := List.mem_map.mp hb
    obtain ⟨p, hp, rfl⟩ := List.mem_map.mp (show a ∈ List.map (·.1) ((SL, W.listOf #[] 0) :: (H, W.listOf hs.toArray nh) :: cells L o1 o2 o3 o4 o5 o6 o7 [(417, tabObj #[])]) from ha)
    exact hoff r hr p hp
  refine stage4 B X T F1 d1 d6 d2 d7 hlt hCH hN1 N1 ?_
  intro y C CD tn0 tnu c o2' tab m2 h2 tk2 hc hy1 hy2 hcH hcR hcH' d2' hN2 F2 N2
  have pA : (full4 w y C CD tn0 tnu c hs1 nh1 L SL (rvals rows) rows.length o1 o2' o3 o4 o5 tab (rls rows [])).Perm (mkl w y 0 tnu [] 0 0 ((L + 1, o1) :: (L + 1 + 1, o2') :: (SL, W.listOf (rvals rows).toArray rows.length) :: (C, instObj 31 CD) :: (CD, dictOf [en w "now" (y.k 7) (.int 0 tn0)] 1) :: chl c hs1 nh1 [] 0 ((L + 1 + 1 + 1, o3) :: (L + 1 + 1 + 1 + 1, o4) :: (L + 1 + 1 + 1 + 1 + 1, o5) :: (417, tabObj tab) :: rls rows []))) :=
    List.Perm.append_left (mkl w y 0 tnu [] 0 0 []) (permA _ _ _ _ _ _ _ _ _ _ _ _)
  refine stage7 y tnu B X T F2 d1 d2' hr4 (hN2.perm (pA.map _)) (News.sub N2 fun p hp => pA.mem_iff.mpr hp) ?_
  intro ts tnu' TH m3 h3 tk3 hl hnum hrd F3 hN4 N4
  obtain ⟨z, hz⟩ : ∃ z : SY, z = ⟨y.T, y.TD, C, CD, y.TL, rows.length, y.LB, y.LBD, y.k, .ref y.LM, y.choose, .int (rows.length : Int) tnu', y.lnum, y.lown, .ref y.DP⟩ := ⟨_, rfl⟩
  have e : dictOf (mkT w y (rows.length : Int) tnu') 7 = dictOf (tkd w z y.se y.tse) 7 := by rw [hz]; simp only [mkT, hy2]
  rw [tls_app] at hN4 N4
  have pB : ((y.T, instObj 370 y.TD) :: (y.TD, dictOf (mkT w y (rows.length : Int) tnu') 7) :: (y.TL, W.listOf (vals ts).toArray rows.length) :: (y.LB, instObj 233 y.LBD) :: (y.LBD, dictOf (mkB w y) 4) :: (y.DP, W.listOf (vals ts).toArray rows.length) :: (y.LM, instObj 88 y.LMD) :: (y.LMD, dictOf (mkLim w y) 6) :: (tls w ts [] ++ ((L + 1, o1) :: (L + 1 + 1, o2') :: (SL, W.listOf (rvals rows).toArray rows.length) :: (C, instObj 31 CD) :: (CD, dictOf [en w "now" (y.k 7) (.int 0 tn0)] 1) :: (chl c hs1 nh1 [] 0 [] ++ ((L + 1 + 1 + 1, o3) :: (L + 1 + 1 + 1 + 1, o4) :: (L + 1 + 1 + 1 + 1 + 1, o5) :: (417, tabObj tab) :: rls rows []))))).Perm
      ((L + 1, o1) :: (SL, W.listOf (rvals rows).toArray rows.length) :: (L + 1 + 1 + 1, o3) :: (L + 1 + 1 + 1 + 1, o4) :: (L + 1 + 1 + 1 + 1 + 1, o5) :: ([(y.DP, W.listOf (vals ts).toArray rows.length), (y.LM, instObj 88 y.LMD), (y.LMD, dictOf (mkLim w y) 6)] ++ syl w z 0 tn0 y.se y.tse (vals ts) []) ++ (tls w ts [] ++ (chl c hs1 nh1 [] 0 [] ++ ((L + 1 + 1, o2') :: (rls rows [] ++ [(417, tabObj tab)]))))) := by
    rw [e]
    subst hz
    exact permB _ _ _ _ _ _ _ _ _ _ _ _ _ _ _ _ _ (tls w ts []) (chl c hs1 nh1 [] 0 []) (rls rows [])
  refine stage9 B X T F3 d1 d3 d4 d5 (by rw [rvals, List.length_map]; exact hr4) (hN4.perm (pB.map _)) (News.sub N4 fun p hp => pB.mem_iff.mpr hp) ?_
  intro AT DU atv duv o3' o4' o5' tnw h4 tk4 ia id e3 e4 e5 hN6 F5 N6
  obtain ⟨k, hk⟩ : ∃ k : LC, k = ⟨L, fa, o1, o2', o3', o4', SL, rows.length, AT, DU, rows⟩ := ⟨_, rfl⟩
  have hrl : (rvals rows).length = rows.length := by rw [rvals, List.length_map]
  rw [hrl] at ia id
  have pC : ((DU, W.listOf duv.toArray 0) :: (AT, W.listOf atv.toArray 0) :: (L + 1, o1) :: (SL, W.listOf (rvals rows).toArray rows.length) :: (L + 1 + 1 + 1, o3') :: (L + 1 + 1 + 1 + 1, o4') :: (L + 1 + 1 + 1 + 1 + 1, o5') :: (([(y.DP, W.listOf (vals ts).toArray rows.length), (y.LM, instObj 88 y.LMD), (y.LMD, dictOf (mkLim w y) 6)] ++ syl w z 0 tn0 y.se y.tse (vals ts) []) ++ (tls w ts [] ++ (chl c hs1 nh1 [] 0 [] ++ ((L + 1 + 1, o2') :: (rls rows [] ++ [(417, tabObj tab)])))))).Perm
      ([(y.DP, W.listOf (vals ts).toArray rows.length), (y.LM, instObj 88 y.LMD), (y.LMD, dictOf (mkLim w y) 6)] ++ full w k z c (vals ts) 0 tn0 y.se y.tse ts hs1 nh1 [] 0 o5' atv 0 duv 0 [(417, tabObj tab)]) := by
    show List.Perm _ (([(y.DP, W.listOf (vals ts).toArray rows.length), (y.LM, instObj 88 y.LMD), (y.LMD, dictOf (mkLim w y) 6)] ++ syl w z 0 tn0 y.se y.tse (vals ts) []) ++ tls w ts (chl c hs1 nh1 [] 0 (lawl k o5' atv 0 duv 0 [(417, tabObj tab)])))
    rw [tls_app w ts (chl c hs1 nh1 [] 0 (lawl k o5' atv 0 duv 0 [(417, tabObj tab)]))]
    show List.Perm _ (_ ++ (tls w ts [] ++ (chl c hs1 nh1 [] 0 [] ++ (_ :: _ :: _ :: _ :: _ :: _ :: _ :: _ :: rls k.rows [(417, tabObj tab)]))))
    rw [rls_app k.rows [(417, tabObj tab)]]
    subst hk
    exact permC _ _ _ _ _ _ _ _ _ _ _ _
  have far : Far z (tas ts) c k [(417, tabObj tab)] := by
    have h := hN6.perm (pC.map _)
    unfold NDL at h
    exact Far.of (full_map ▸ (List.nodup_append.mp (List.map_append ▸ h)).2.1)
  have K : k.Ok z c := by
    subst hk hz
    exact ⟨d1, d2', e3, e4, hcR, hcH', hI, hF, hr4⟩
  have I : TI k ts 0 [] o5' atv duv (List.replicate rows.length 0) (List.replicate rows.length 0) tnw (fun _ => .rdy) hs1 0 := by
    have hkr : k.rows = rows := by rw [hk]
    refine ⟨e5, ia, id, ?_, ?_, hH1, rfl, ?_, ?_, ?_, fun t ht => (hrd t ht).2, ?_, ?_⟩
    · rw [hkr]; exact all2_rdy (by rw [nats_len]; exact hl) fun t ht => (hrd t ht).1
    · intro j hj
      dsimp only
      refine ⟨fun _ => ?_, fun hp => ?_⟩
      · rw [if_pos (by rw [rep_getD]; exact Int.le_refl _)]
      · exfalso
        have hj' := mem_nats.mp hj
        obtain ⟨r, -, hr, hl2, -⟩ := lenF_get (k := k) hj'.1 hj'.2
        have h2 := of_decide_eq_false hp
        rw [rep_getD, hl2] at h2
        omega
    · rw [hkr, List.length_replicate]
    · rw [hkr, List.length_replicate]
    · rw [hkr]; exact hnum
    · rw [rep_sum]; rfl
    · intro j hj
      have hj' := mem_nats.mp hj
      obtain ⟨r, -, hr, hl2, -⟩ := lenF_get (k := k) hj'.1 hj'.2
      rw [rep_getD, hl2]
      omega
  have ekL : k.L = L := by rw [hk]
  have ekf : k.fa = fa := by rw [hk]
  have N7 : News h₀ L h4 (full w k z c (vals ts) 0 tn0 y.se y.tse ts hs1 nh1 [] 0 o5' atv 0 duv 0 [(417, tabObj tab)]) := News.sub N6 fun p hp => pC.mem_iff.mpr (List.mem_append_right _ hp)
  rw [← ekL] at F5 N7 hret ⊢
  rw [← ekf]
  exact loop_spec k z c (vals ts) 0 tn0 y.se y.tse ts hs1 nh1 [] 0 o5' atv 0 duv 0 [(417, tabObj tab)] (List.replicate rows.length 0) (List.replicate rows.length 0) tnw (fun _ => .rdy) B X T K hc (by rw [hz]; exact hy1) far rfl I F5 N7 fun m' h' tk' F' N' => hret m' h' tk' tab F' N'
section
open PySem PySem.W PySem.Calls PyProof.Rows PyProof.Rows.LCg
theorem freshL12 : True := by
  k_with_none
  (k_with "CJ" => (first | with_reducible assumption | with_reducible exact And.left (by first | with_reducible assumption | with_reducible exact And.right (by first | with_reducible assumption | with_reducible exact And.right (by first | with_reducible assumption | with_reducible exact And.right (by first | with_reducible assumption | with_reducible exact And.right (by first | with_reducible assumption | with_reducible exact And.right (by first | with_reducible assumption | with_reducible exact And.right (by first | with_reducible assumption | with_reducible exact And.right (by first | with_reducible assumption | with_reducible exact And.right (by first | with_reducible assumption | with_reducible exact And.right (by first | with_reducible assumption | with_reducible exact And.right (by first | with_reducible assumption | with_reducible exact And.right (by first | with_reducible assumption | with_reducible exact And.right (by first | with_reducible assumption | with_reducible exact And.right (by first | with_reducible assumption | with_reducible exact And.right (by first | with_reducible assumption | with_reducible exact And.right (by first | with_reducible assumption | with_reducible exact And.right (by first | with_reducible assumption | with_reducible exact And.right (by first | with_reducible assumption | with_reducible exact And.right (by first | with_reducible assumption | with_reducible exact And.right (by first | with_reducible assumption | with_reducible exact And.right (by first | with_reducible assumption | with_reducible exact And.right (by first | with_reducible assumption | with_reducible exact And.right (by with_reducible assumption)))))))))))))))))))))))))
  (k_with "execs cons" => (k_here; (fail_if_success (fail_if_success k_gentoks)); (with_reducible refine gen_toks ?_); intro tk))
  (k_with "execs nil" => (k_here; (fail_if_success (fail_if_success k_gentoks)); (with_reducible refine gen_toks ?_); intro tk))
  w_top off
  trivial
section
variable {prog : Program} {w : World} {A : Around} {E : Value → Shared → Prop} {s : Shared} {h₀ : Heap} {L : Addr} {m : Str → Option Value} {env : Env}
noncomputable def TupAt (ax : Addr) (its : Array Value) (news : Led) : Prop := ∃ o, (ax, o) ∈ news ∧ o.cls = .type "tuple" ∧ ∃ n, o.data = .seq its n
/-- a comprehension's source that is a tuple of the ledger's -/
noncomputable def CompTup (prog : Program) (w : World) (A : Around) (h₀ : Heap) (L : Addr) (m : Str → Option Value) (env : Env) (elt : Expr) (x : Str) (scope : Scope) (cl : List (Str × Addr)) (Q : Value → Shared → Prop) (xv : Value) (s₁ : Shared) : Prop :=
  ∃ ax its news, xv = .ref ax ∧ A.handled = none ∧ Fr h₀ L s₁.heap m ∧ News h₀ L s₁.heap news ∧ TupAt ax its news ∧ its.size ≤ sizeLine ∧
    ∀ s₂ : Shared, (∃ h, s₂ = { s₁ with heap := h }) → CompRest prog w A h₀ L m env elt x scope cl s₂ (TupAt ax its) (fun i v => its[i]? = some v) (FinE h₀ L m s₂ Q) its.size 0 [] news
theorem tup_st {ax I : Addr} {its : Array Value} : ∀ i (h h' : Heap) (o : Obj) (nw : List (Addr × Obj)), (h.IsTupleIter I ax i ∧ h.IsTuple ax its) → h.get? I = some o → h'.get? I = some o → (∀ b o, h₀.get? b = some o → h'.get? b = some o) → News h₀ L h' nw → TupAt ax its nw → (h'.IsTupleIter I ax i ∧ h'.IsTuple ax its) :=
  fun i h h' o nw st e e' k N S => ⟨by obtain ⟨o', q, r⟩ := st.1; rw [e] at q; cases q; exact ⟨o, e', r⟩, by obtain ⟨o, hm, r⟩ := S; exact ⟨o, (N _ hm).1, r⟩⟩
theorem ListComp_Tup {elt iter : Expr} {x : Str} {px : Pos} {scope : Scope} {cl : List (Str × Addr)} {pos : Pos} {Q : Value → Shared → Prop} (F₀ : Fr h₀ L s.heap m)
    (hclos : closureFor scope env = pure cl) (hcell : ∀ y ∈ scope.names, y.2 ≠ .cell) (hkind : scope.kind = .function)
    (hnames : ∀ y ∈ scope.names, y.2 = .local → scope.names.lookup y.1 = some .local) (hx : scope.names.lookup x = some .local)
    (h : wpAny (model prog w) A (eval iter env) (CompTup prog w A h₀ L m env elt x scope cl Q) E s)
    (hs : ∀ x, foldedSetIterable iter env x = pure x := by intro _; rfl) :
    wpAny (model prog w) A (eval (.ListComp elt [⟨.Name x px, iter, [], 0⟩] scope pos) env) Q E s := by
  rw [eval_ListComp]
  refine wpAny_comprehension_free (use := none) rfl hs hclos hkind hnames (wpAny_mono h (fun xv s₁ h₁ => ?_) fun _ _ e => e)
  obtain ⟨ax, its, news, rfl, hh, F, N, S, hsz, R⟩ := h₁
  have hl : s₁.heap.IsTuple ax its := by obtain ⟨o, hm, r⟩ := S; exact ⟨o, (N _ hm).1, r⟩
  have hlt : ax < s₁.heap.objs.size := by obtain ⟨_, e, _⟩ := hl; exact Heap.lt_size e
  refine wpAny_pyIter_tuple hl ?_
  have up : ∀ b o, s₁.heap.get? b = some o → (s₁.heap.push { cls := .type "tuple_iterator", data := .fields #[.ref ax, .int 0 0] }).get? b = some o := fun b o e => Heap.get?_push_of_some _ e
  refine block_U (Walks.tuple hh s₁.heap.objs.size ax (Nat.ne_of_lt hlt) its) hsz (fun i h st => by obtain ⟨o, e, _⟩ := st.1; exact ⟨o, e⟩) tup_st hcell hkind hx ⟨⟨_, Heap.get?_push_size _ rfl, rfl, rfl⟩, hl.push _⟩ (fun b hb => ?_)
    (F.keeps up) (N.grown up) (Nat.ne_of_lt F.ns.lt) (next_is_new F) (fun p hp => Nat.ne_of_lt (Heap.lt_size (N p hp).1)) S (R _ ⟨_, rfl⟩) ?_
  · show b < (s₁.heap.push _).objs.size
    rw [Heap.size_push]
    rcases List.mem_cons.mp hb with rfl | hb
    · exact Nat.lt_succ_self _
    · rw [List.mem_singleton.mp hb]; exact Nat.lt_succ_of_lt hlt
  · intro D C h tk m' ys news' F' N' o1 hn hC₀ hD₀ hCL hDL hCD offC fin
    refine ⟨m', hn, fun h'' hs'' => fin D h'' tk (F'.change hs'' hCL hC₀) (fun p hp => ?_) o1⟩
    refine ⟨hs''.extBut _ _ ?_ (N' p hp).1, (N' p hp).2⟩
    rcases List.mem_cons.mp hp with rfl | hp
    · exact Ne.symm hCD
    · exact offC p hp
theorem CompTup.ledger {elt : Expr} {x : Str} {scope : Scope} {cl : List (Str × Addr)} {Q : Value → Shared → Prop} {ax : Addr} {its : Array Value} {k : Nat} {news : Led} {s₁ : Shared}
    (hh : A.handled = none) (F : Fr h₀ L s₁.heap m) (N : News h₀ L s₁.heap news) (hm : (ax, ({ cls := .type "tuple", data := .seq its k } : Obj)) ∈ news) (hsz : its.size ≤ sizeLine)
    (h : ∀ g, CompRest prog w A h₀ L m env elt x scope cl { s₁ with heap := g } (TupAt ax its) (fun i v => its[i]? = some v) (FinE h₀ L m { s₁ with heap := g } Q) its.size 0 [] news) :
    CompTup prog w A h₀ L m env elt x scope cl Q (.ref ax) s₁ := ⟨ax, its, news, rfl, hh, F, N, ⟨_, hm, rfl, _, rfl⟩, hsz, fun _ ⟨g, e⟩ => e ▸ h g⟩
end
section
variable {prog : Program} {w : World} {A : Around} {E : Value → Shared → Prop} {s : Shared} {h₀ : Heap} {L : Addr} {m : Str → Option Value} {env : Env} {elt : Expr} {x : Str} {scope : Scope} {cl : List (Str × Addr)} {S : Led → Prop} {P : Nat → Value → Prop} {Fin : List Value → Led → Prop}
/-- a comprehension whose results are known one by one, the ledger kept -/
theorem known_comp (n : Nat) (res : Nat → Value) (led : Led) (hS : S led)
    (item : ∀ i v, i < n → P i v → ∀ C oC m₂ h tk (E' : Value → Shared → Prop) I oI D oD, LCg.NsObj oC m₂ → m₂ x = some v → Fr h₀ L h m → News h₀ L h ((C, oC) :: (I, oI) :: (D, oD) :: led) →
      wpAny (model prog w) A (eval elt (compEnvC scope cl C env)) (fun y s' => Wrap (y = res i ∧ Ends h₀ L m { s with heap := h, toks := tk } ((C, oC) :: (I, oI) :: (D, oD) :: led) s')) E' { s with heap := h, toks := tk })
    (done : Fin ((List.range n).map res) led) :
    LCg.CompRest prog w A h₀ L m env elt x scope cl s S P Fin n 0 [] led := by
  refine compRest_ind (n := n) (fun i ys news => ys = (List.range i).map res ∧ news = led) ?_ ?_ _ _ _ _ (by omega) ⟨rfl, rfl⟩
  · rintro i ys news hi ⟨rfl, rfl⟩ v I oI C oC D m₂ h tk E' hv hC hx F N o ne
    have perm : ∀ (ys : List Value) p, p ∈ (I, oI) :: (C, oC) :: (D, LCg.lst ys) :: news ↔ p ∈ (C, oC) :: (I, oI) :: (D, LCg.lst ys) :: news := fun ys p => (List.Perm.swap _ _ _).mem_iff
    refine wpAny_mono (item i v hi hv C oC m₂ h tk E' I oI D _ hC hx F (News.sub N fun p hp => (perm _ p).mpr hp)) (fun y s₃ q => ?_) fun _ _ e => e
    obtain ⟨rfl, h'', tk'', rfl, F'', N''⟩ := q
    refine ⟨h'', tk'', news, rfl, F'', News.sub N'' fun p hp => (perm _ p).mp hp, o, hS, ?_, rfl⟩
    rw [List.range_succ, List.map_append]; rfl
  · rintro ys news ⟨rfl, rfl⟩
    exact done
end
end
theorem freshU0 : True := by
  k_with_none
  (k_with "CJ" => (first | with_reducible assumption | with_reducible exact And.left (by first | with_reducible assumption | with_reducible exact And.right (by first | with_reducible assumption | with_reducible exact And.right (by first | with_reducible assumption | with_reducible exact And.right (by first | with_reducible assumption | with_reducible exact And.right (by first | with_reducible assumption | with_reducible exact And.right (by first | with_reducible assumption | with_reducible exact And.right (by first | with_reducible assumption | with_reducible exact And.right (by first | with_reducible assumption | with_reducible exact And.right (by first | with_reducible assumption | with_reducible exact And.right (by first | with_reducible assumption | with_reducible exact And.right (by first | with_reducible assumption | with_reducible exact And.right (by first | with_reducible assumption | with_reducible exact And.right (by first | with_reducible assumption | with_reducible exact And.right (by first | with_reducible assumption | with_reducible exact And.right (by first | with_reducible assumption | with_reducible exact And.right (by first | with_reducible assumption | with_reducible exact And.right (by first | with_reducible assumption | with_reducible exact And.right (by first | with_reducible assumption | with_reducible exact And.right (by first | with_reducible assumption | with_reducible exact And.right (by first | with_reducible assumption | with_reducible exact And.right (by first | with_reducible assumption | with_reducible exact And.right (by first | with_reducible assumption | with_reducible exact And.right (by with_reducible assumption)))))))))))))))))))))))))
  (k_with "execs cons" => (k_here; (fail_if_success (fail_if_success k_gentoks)); (with_reducible refine gen_toks ?_); intro tk))
  (k_with "execs nil" => (k_here; (fail_if_success (fail_if_success k_gentoks)); (with_reducible refine gen_toks ?_); intro tk))
  w_top off
  trivial
noncomputable def toldDef : Stmt := (PySem.Challenge.pw_pb0024_01.main.body.drop 63).headD (.Pass ⟨0,0,0,0⟩)
noncomputable def toldStmts : List Stmt := match toldDef with
  | .FunctionDef (body := b) .. => b
  | _ => []
noncomputable def toldScope : Scope := match toldDef with
  | .FunctionDef (scope := b) .. => b
  | _ => ⟨.function, [], false, false, []⟩
noncomputable abbrev toldEnv (L : Addr) : Env := envOfC "_law_rows_told" toldScope L 415 (.ref 414)
theorem fr_top {h₀ h : Heap} {L : Addr} {m : Str → Option Value} (x : Str) (v : Value) (F : Fr h₀ L h m) (e : m x = some v) : Fr h₀ L h (fun y => if y = x then some v else m y) := by
  have : (fun y => if y = x then some v else m y) = m := by
    funext y
    by_cases h : y = x
    · rw [if_pos h, h, e]
    · rw [if_neg h]
  rw [this]; exact F
noncomputable def clockBody : List Stmt := forBody (toldStmts.drop 2)
theorem freshU1 : True := by
  k_with_none
  (k_with "CJ" => (first | with_reducible assumption | with_reducible exact And.left (by first | with_reducible assumption | with_reducible exact And.right (by first | with_reducible assumption | with_reducible exact And.right (by first | with_reducible assumption | with_reducible exact And.right (by first | with_reducible assumption | with_reducible exact And.right (by first | with_reducible assumption | with_reducible exact And.right (by first | with_reducible assumption | with_reducible exact And.right (by first | with_reducible assumption | with_reducible exact And.right (by first | with_reducible assumption | with_reducible exact And.right (by first | with_reducible assumption | with_reducible exact And.right (by first | with_reducible assumption | with_reducible exact And.right (by first | with_reducible assumption | with_reducible exact And.right (by first | with_reducible assumption | with_reducible exact And.right (by first | with_reducible assumption | with_reducible exact And.right (by first | with_reducible assumption | with_reducible exact And.right (by first | with_reducible assumption | with_reducible exact And.right (by first | with_reducible assumption | with_reducible exact And.right (by first | with_reducible assumption | with_reducible exact And.right (by first | with_reducible assumption | with_reducible exact And.right (by first | with_reducible assumption | with_reducible exact And.right (by first | with_reducible assumption | with_reducible exact And.right (by first | with_reducible assumption | with_reducible exact And.right (by first | with_reducible assumption | with_reducible exact And.right (by with_reducible assumption)))))))))))))))))))))))))
  (k_with "execs cons" => (k_here; (fail_if_success (fail_if_success k_gentoks)); (with_reducible refine gen_toks ?_); intro tk))
  (k_with "execs nil" => (k_here; (fail_if_success (fail_if_success k_gentoks)); (with_reducible refine gen_toks ?_); intro tk))
  w_top off
  trivial
theorem rulesU1x1 : True := by
  (k_with "compareOp Eq str str" => (first | refine eqs_ff (by first | decide | (dsimp only; decide)) ?_ | refine eqs_tt (by first | decide | (dsimp only; decide)) ?_))
  (k_with "compareOp NotEq str str" => (first | refine nes_ff (by first | decide | (dsimp only; decide)) ?_ | refine nes_tt (by first | decide | (dsimp only; decide)) ?_))
  (k_with "call ref" => ((k_here; (with_reducible show wpAny _ _ (call (Value.ref 410) _) _ _ _); k_dflt (refine' Spec.use (figure_spec ?u1 ?g1 ?g2) ?k1 ?k2 ?k3 ?k4 ?k5 ?k6 ?k7 ?k8 ?k9 ?_; (case k4 => k_asm); (case k1 => k_asm); (case k2 => k_asm); (case k3 => k_asm); (case k5 => k_asm); (case k8 => exact rfl); (case k6 => exact rfl); (case k7 => exact Nat.le_of_ble_eq_true rfl); (case k9 => exact Nat.le_of_ble_eq_true rfl); (case u1 => k_updF); (case g1 => assumption); (case g2 => omega)); refine cpsF ?_; walk_at "TAIL6")))
  trivial
theorem turnA1 {w : World} {pr : Program} {loose : List Str} {mean : ExcName → Option Value} {mg mb : Str → Option Value} {base h₀ : Heap} {cn : Str} {cnm : List (Str × NameKind)} {cig cic : Bool} {cmo : List (Str × Const)} {L₁ a : Addr} {ccd : Value} {cl : List (Str × Addr)} {outer : List Env} {L : Addr} {M : Str → Option Value} {s : Shared} {Q : Flow → Shared → Prop}
    {x d hl : Addr} {oc oh : Obj} {kn t0 tt : Tok} {hs : List Value} {nh : Nat} {rest : Led} {top : Int}
    (B : Below (ktrTop 380 850 none cn ⟨.function, cnm, cig, cic, cmo⟩ L₁ a ccd cl outer) base (envX cn ⟨.function, cnm, cig, cic, cmo⟩ L₁ a ccd cl :: outer) h₀) (X : (Mine.hd.heap_39 w.params).In h₀) (T : Top pr loose mean mg mb h₀)
    (dc : oc.data = .cell (some (.ref x))) (dh : oh.data = .cell (some (.ref hl))) (hH : Hand hs) (h0 : 0 ≤ top) (h1 : top ≤ 100)
    (hN : NDL ((d, dictOf [en w "now" kn (.int 0 t0)] 1) :: (hl, W.listOf hs.toArray nh) :: (x, instObj 31 d) :: (L + 1 + 1, oc) :: (L + 1, oh) :: rest))
    (F : Fr h₀ L s.heap (fun y => if y = "top" then some (.int top tt) else M y))
    (N : News h₀ L s.heap ((d, dictOf [en w "now" kn (.int top t0)] 1) :: (hl, W.listOf hs.toArray nh) :: (x, instObj 31 d) :: (L + 1 + 1, oc) :: (L + 1, oh) :: rest))
    (hnext : ∀ (top' : Int) (t0' tt' : Tok) (hs' : List Value) (nh' : Nat) (M' : Str → Option Value) (h' : Heap) (tk' : Nat), 0 ≤ top' → top' ≤ 100 → Hand hs' → Fr h₀ L h' (fun y => if y = "top" then some (.int top' tt') else M' y) →
      News h₀ L h' ((d, dictOf [en w "now" kn (.int top' t0')] 1) :: (hl, W.listOf hs'.toArray nh') :: (x, instObj 31 d) :: (L + 1 + 1, oc) :: (L + 1, oh) :: rest) →
      wpAny (model PySem.Challenge.pw_pb0024_01 w) ((ktrTop 380 850 none cn ⟨.function, cnm, cig, cic, cmo⟩ L₁ a ccd cl outer).deeper (toldEnv L)) (execs (clockBody.drop 5) (toldEnv L)) Q (fun _ _ => False) { s with heap := h', toks := tk' }) :
    wpAny (model PySem.Challenge.pw_pb0024_01 w) ((ktrTop 380 850 none cn ⟨.function, cnm, cig, cic, cmo⟩ L₁ a ccd cl outer).deeper (toldEnv L)) (execs clockBody (toldEnv L)) Q (fun _ _ => False) s := by
  generalize hR : clockBody.drop 5 = rest5 at hnext
  have e : clockBody = (clockBody.drop 0).headD (.Pass ⟨0,0,0,0⟩) :: (clockBody.drop 1).headD (.Pass ⟨0,0,0,0⟩) :: (clockBody.drop 2).headD (.Pass ⟨0,0,0,0⟩) :: (clockBody.drop 3).headD (.Pass ⟨0,0,0,0⟩) :: (clockBody.drop 4).headD (.Pass ⟨0,0,0,0⟩) :: clockBody.drop 5 := by rfl
  rw [e, hR]
  clear e hR
  have e : (clockBody.drop 0).headD (.Pass ⟨0,0,0,0⟩) = (clockBody.drop 0).headD (.Pass ⟨0,0,0,0⟩) := rfl
  conv at e => rhs; whnf
  rw [e]
  clear e
  have e : (clockBody.drop 1).headD (.Pass ⟨0,0,0,0⟩) = (clockBody.drop 1).headD (.Pass ⟨0,0,0,0⟩) := rfl
  conv at e => rhs; whnf
  rw [e]
  clear e
  have e : (clockBody.drop 2).headD (.Pass ⟨0,0,0,0⟩) = (clockBody.drop 2).headD (.Pass ⟨0,0,0,0⟩) := rfl
  conv at e => rhs; whnf
  rw [e]
  clear e
  have e : (clockBody.drop 3).headD (.Pass ⟨0,0,0,0⟩) = (clockBody.drop 3).headD (.Pass ⟨0,0,0,0⟩) := rfl
  conv at e => rhs; whnf
  rw [e]
  clear e
  have e : (clockBody.drop 4).headD (.Pass ⟨0,0,0,0⟩) = (clockBody.drop 4).headD (.Pass ⟨0,0,0,0⟩) := rfl
  conv at e => rhs; whnf
  rw [e]
  clear e
  have e : toldScope = toldScope := rfl
  conv at e => rhs; whnf
  unfold toldEnv at hnext ⊢
  rw [e] at hnext ⊢
  clear e
  have x1 : @Ne Nat d hl := hN.ne 0 1 (by decide) rfl rfl
  have x2 : @Ne Nat d x := hN.ne 0 2 (by decide) rfl rfl
  have x3 : @Ne Nat d (L + 1 + 1) := hN.ne 0 3 (by decide) rfl rfl
  have x4 : @Ne Nat d (L + 1) := hN.ne 0 4 (by decide) rfl rfl
  have y2 : @Ne Nat hl x := hN.ne 1 2 (by decide) rfl rfl
  have y3 : @Ne Nat hl (L + 1 + 1) := hN.ne 1 3 (by decide) rfl rfl
  have y4 : @Ne Nat hl (L + 1) := hN.ne 1 4 (by decide) rfl rfl
  have z1 : ∀ p ∈ rest, p.1 ≠ d := fun p hp => hN.off 0 rfl p (.tail _ (.tail _ (.tail _ (.tail _ hp))))
  have z2 : ∀ p ∈ rest, p.1 ≠ hl := fun p hp => hN.off 1 rfl p (.tail _ (.tail _ (.tail _ hp)))
  replace hN := wrap_in hN
  replace hnext := wrap_in hnext
  k_steps
  · exfalso
    rename (ite _ _ _ : Int) ≠ _ => hbad
    rename (_ ∨ _) ∧ top ≤ _ ∧ _ => hmax
    split at hbad <;> omega
  · exfalso
    rename (_ : Int) ≠ _ + List.getD _ _ _ => hbad
    rename (ite _ _ _ : Int) = _ => heq
    rename (_ : Int) < 7 => hk7
    rw [heq] at hbad
    revert hbad
    generalize hz : (_ - 3 : Int) = z
    intro hbad
    by_cases hp : 0 < z
    · rw [if_neg (by omega), decide_eq_true hp] at hbad
      exact hbad rfl
    · rw [decide_eq_false hp] at hbad
      apply hbad
      show _ + _ = _ + (0 : Int)
      split <;> omega
  · rename (ite _ _ _ : Int) = _ => heq
    rename (_ ∨ _) ∧ top ≤ _ ∧ _ => hmax
    rename (_ : Int) < 9 => hk9
    rename News _ _ _ _ => lN
    rename Fr _ _ _ _ => lF
    rw [heq] at lN
    exact hnext _ _ _ _ _ _ _ _ (by omega) (by omega) (by assumption) (fr_top "top" _ lF rfl) (News.sub lN fun p hp => .tail _ (.tail _ (.tail _ hp)))
theorem freshU2 : True := by
  k_with_none
  (k_with "CJ" => (first | with_reducible assumption | with_reducible exact And.left (by first | with_reducible assumption | with_reducible exact And.right (by first | with_reducible assumption | with_reducible exact And.right (by first | with_reducible assumption | with_reducible exact And.right (by first | with_reducible assumption | with_reducible exact And.right (by first | with_reducible assumption | with_reducible exact And.right (by first | with_reducible assumption | with_reducible exact And.right (by first | with_reducible assumption | with_reducible exact And.right (by first | with_reducible assumption | with_reducible exact And.right (by first | with_reducible assumption | with_reducible exact And.right (by first | with_reducible assumption | with_reducible exact And.right (by first | with_reducible assumption | with_reducible exact And.right (by first | with_reducible assumption | with_reducible exact And.right (by first | with_reducible assumption | with_reducible exact And.right (by first | with_reducible assumption | with_reducible exact And.right (by first | with_reducible assumption | with_reducible exact And.right (by first | with_reducible assumption | with_reducible exact And.right (by first | with_reducible assumption | with_reducible exact And.right (by first | with_reducible assumption | with_reducible exact And.right (by first | with_reducible assumption | with_reducible exact And.right (by first | with_reducible assumption | with_reducible exact And.right (by first | with_reducible assumption | with_reducible exact And.right (by first | with_reducible assumption | with_reducible exact And.right (by with_reducible assumption)))))))))))))))))))))))))
  (k_with "execs cons" => (k_here; (fail_if_success (fail_if_success k_gentoks)); (with_reducible refine gen_toks ?_); intro tk))
  (k_with "execs nil" => (k_here; (fail_if_success (fail_if_success k_gentoks)); (with_reducible refine gen_toks ?_); intro tk))
  w_top off
  trivial
theorem rulesU2x1 : True := by
  (k_with "compareOp Eq str str" => (first | refine eqs_ff (by first | decide | (dsimp only; decide)) ?_ | refine eqs_tt (by first | decide | (dsimp only; decide)) ?_))
  (k_with "compareOp NotEq str str" => (first | refine nes_ff (by first | decide | (dsimp only; decide)) ?_ | refine nes_tt (by first | decide | (dsimp only; decide)) ?_))
  (k_with "call ref" => ((k_here; (with_reducible show wpAny _ _ (call (Value.ref 410) _) _ _ _); k_dflt (refine' Spec.use (figure_spec ?u1 ?g1 ?g2) ?k1 ?k2 ?k3 ?k4 ?k5 ?k6 ?k7 ?k8 ?k9 ?_; (case k4 => k_asm); (case k1 => k_asm); (case k2 => k_asm); (case k3 => k_asm); (case k5 => k_asm); (case k8 => exact rfl); (case k6 => exact rfl); (case k7 => exact Nat.le_of_ble_eq_true rfl); (case k9 => exact Nat.le_of_ble_eq_true rfl); (case u1 => k_updF); (case g1 => assumption); (case g2 => omega)); refine cpsF ?_; walk_at "TAIL6")))
  (k_with "eval ListComp" => ((k_here; (with_reducible show wpAny _ _ (eval (Expr.ListComp _ [⟨Expr.Name _ _, Expr.Tuple _ _ _, [], 0⟩] _ _) _) _ _ _); k_dflt (refine ListComp_Tup (F₀ := by k_asm) (by with_unfolding_all rfl) (by decide) (by rfl) (by decide) (by rfl) ?_))))
  (k_with "CompTup" => ((refine Wrap.out ?_)))
  trivial
theorem turnA2 {w : World} {pr : Program} {loose : List Str} {mean : ExcName → Option Value} {mg mb : Str → Option Value} {base h₀ : Heap} {cn : Str} {cnm : List (Str × NameKind)} {cig cic : Bool} {cmo : List (Str × Const)} {L₁ a : Addr} {ccd : Value} {cl : List (Str × Addr)} {outer : List Env} {L : Addr} {M : Str → Option Value} {s : Shared} {Q : Flow → Shared → Prop} {E : Value → Shared → Prop}
    {x d : Addr} {oc : Obj} {kn t0 tt : Tok} {rest : Led} {top : Int}
    (B : Below (ktrTop 380 850 none cn ⟨.function, cnm, cig, cic, cmo⟩ L₁ a ccd cl outer) base (envX cn ⟨.function, cnm, cig, cic, cmo⟩ L₁ a ccd cl :: outer) h₀) (X : (Mine.hd.heap_39 w.params).In h₀) (T : Top pr loose mean mg mb h₀)
    (dc : oc.data = .cell (some (.ref x))) (h0 : 0 ≤ top) (h1 : top ≤ 100)
    (F : Fr h₀ L s.heap (fun y => if y = "top" then some (.int top tt) else M y))
    (N : News h₀ L s.heap ((d, dictOf [en w "now" kn (.int top t0)] 1) :: (x, instObj 31 d) :: (L + 1 + 1, oc) :: rest))
    (hnext : ∀ h' tk', Fr h₀ L h' (fun y => if y = "top" then some (.int top tt) else M y) → News h₀ L h' ((d, dictOf [en w "now" kn (.int top t0)] 1) :: (x, instObj 31 d) :: (L + 1 + 1, oc) :: rest) → Q .next { s with heap := h', toks := tk' }) :
    wpAny (model PySem.Challenge.pw_pb0024_01 w) ((ktrTop 380 850 none cn ⟨.function, cnm, cig, cic, cmo⟩ L₁ a ccd cl outer).deeper (toldEnv L)) (execs (clockBody.drop 5) (toldEnv L)) Q E s := by
  replace hnext := wrap_in hnext
  have e : clockBody.drop 5 = clockBody.drop 5 := rfl
  conv at e => rhs; whnf
  rw [e]
  clear e
  have e : toldScope = toldScope := rfl
  conv at e => rhs; whnf
  unfold toldEnv
  rw [e]
  clear e
  k_steps
  rename News _ _ _ _ => lN
  refine wrap_in (CompTup.ledger (by rfl) (by assumption) lN (.head _) (by rw [sizeLine_eq]; exact Nat.le_of_ble_eq_true rfl) fun g' => ?_)
  refine known_comp 4 (fun i => .bool ([false, true, true, false].getD i false)) _ ⟨_, .head _, rfl, _, rfl⟩ ?_ ?_
  · intro i v hi hv C oC m₂ h tk E' I oI D oD hC hx F' N'
    rcases i with _ | _ | _ | _ | i
    · have e : v = .none := (Option.some.inj hv).symm
      subst e
      clear hv
      k_steps
      exact wrap_in ⟨rfl, Ends.intro (by assumption) (by assumption)⟩
    · have e : ∃ t, v = .int (top - 1) t := ⟨_, (Option.some.inj hv).symm⟩
      clear hv
      obtain ⟨t, rfl⟩ := e
      k_steps
      refine wrap_in ⟨?_, Ends.intro (by assumption) (by assumption)⟩
      first | rfl | (show Value.bool _ = Value.bool true; congr 1; rw [decide_eq_true_eq]; omega)
    · have e : ∃ t, v = .int top t := ⟨_, (Option.some.inj hv).symm⟩
      clear hv
      obtain ⟨t, rfl⟩ := e
      k_steps
      refine wrap_in ⟨?_, Ends.intro (by assumption) (by assumption)⟩
      first | rfl | (show Value.bool _ = Value.bool true; congr 1; rw [decide_eq_true_eq]; omega)
    · have e : ∃ t, v = .int (top + 1) t := ⟨_, (Option.some.inj hv).symm⟩
      clear hv
      obtain ⟨t, rfl⟩ := e
      k_steps
      refine wrap_in ⟨?_, Ends.intro (by assumption) (by assumption)⟩
      first | rfl | (show Value.bool _ = Value.bool false; congr 1; rw [decide_eq_false_iff_not]; omega)
    · omega
  · intro D h tk F' N' ofD
    k_steps
    rename News _ _ _ _ => lN3
    refine hnext _ _ (by assumption) (News.sub lN3 fun p hp => ?_)
    exact .tail _ (.tail _ (.tail _ hp))
theorem freshU3 : True := by
  k_with_none
  (k_with "CJ" => (first | with_reducible assumption | with_reducible exact And.left (by first | with_reducible assumption | with_reducible exact And.right (by first | with_reducible assumption | with_reducible exact And.right (by first | with_reducible assumption | with_reducible exact And.right (by first | with_reducible assumption | with_reducible exact And.right (by first | with_reducible assumption | with_reducible exact And.right (by first | with_reducible assumption | with_reducible exact And.right (by first | with_reducible assumption | with_reducible exact And.right (by first | with_reducible assumption | with_reducible exact And.right (by first | with_reducible assumption | with_reducible exact And.right (by first | with_reducible assumption | with_reducible exact And.right (by first | with_reducible assumption | with_reducible exact And.right (by first | with_reducible assumption | with_reducible exact And.right (by first | with_reducible assumption | with_reducible exact And.right (by first | with_reducible assumption | with_reducible exact And.right (by first | with_reducible assumption | with_reducible exact And.right (by first | with_reducible assumption | with_reducible exact And.right (by first | with_reducible assumption | with_reducible exact And.right (by first | with_reducible assumption | with_reducible exact And.right (by first | with_reducible assumption | with_reducible exact And.right (by first | with_reducible assumption | with_reducible exact And.right (by first | with_reducible assumption | with_reducible exact And.right (by first | with_reducible assumption | with_reducible exact And.right (by with_reducible assumption)))))))))))))))))))))))))
  (k_with "execs cons" => (k_here; (fail_if_success (fail_if_success k_gentoks)); (with_reducible refine gen_toks ?_); intro tk))
  (k_with "execs nil" => (k_here; (fail_if_success (fail_if_success k_gentoks)); (with_reducible refine gen_toks ?_); intro tk))
  w_top off
  trivial
theorem rulesU3x1 : True := by
  (k_with "compareOp Eq str str" => (first | refine eqs_ff (by first | decide | (dsimp only; decide)) ?_ | refine eqs_tt (by first | decide | (dsimp only; decide)) ?_))
  (k_with "compareOp NotEq str str" => (first | refine nes_ff (by first | decide | (dsimp only; decide)) ?_ | refine nes_tt (by first | decide | (dsimp only; decide)) ?_))
  (k_with "exec" => ((k_here; (with_reducible show wpAny _ _ (exec (Stmt.While _ _ _ _) _) _ _ _); k_dflt (refine whl_startW ?_))))
  (k_with "WhlW" => ((dsimp only [WhlW])))
  (k_with "exec For Name Name cons nil" => (walk_at "WHOLE1"))
  (k_with "pyIter ref" => ((refine Wrap.out ?_)))
  (k_with "call ref" => ((k_here; (with_reducible show wpAny _ _ (call (Value.ref 410) _) _ _ _); k_dflt (refine' Spec.use (figure_spec ?u1 ?g1 ?g2) ?k1 ?k2 ?k3 ?k4 ?k5 ?k6 ?k7 ?k8 ?k9 ?_; (case k4 => k_asm); (case k1 => k_asm); (case k2 => k_asm); (case k3 => k_asm); (case k5 => k_asm); (case k8 => exact rfl); (case k6 => exact rfl); (case k7 => exact Nat.le_of_ble_eq_true rfl); (case k9 => exact Nat.le_of_ble_eq_true rfl); (case u1 => k_updF); (case g1 => assumption); (case g2 => omega)); refine cpsF ?_; walk_at "TAIL6")))
  (k_with "call ref" => ((k_here; (with_reducible show wpAny _ _ (call (Value.ref 49) _) _ _ _); k_dflt (refine' Spec.use (next_nil _ _ _ ?g1) ?k1 ?k2 ?k3 ?k4 ?k5 ?k6 ?k7 ?k8 ?k9 ?_; (case k4 => k_asm); (case k1 => k_asm); (case k2 => k_asm); (case k3 => k_asm); (case k5 => k_asm); (case k8 => exact rfl); (case k6 => exact rfl); (case k7 => exact Nat.le_of_ble_eq_true rfl); (case k9 => exact Nat.le_of_ble_eq_true rfl); (case g1 => k_mem); skip); refine cps2 ?_; walk_at "TAIL3")))
  (k_with "call ref" => ((k_here; (with_reducible show wpAny _ _ (call (Value.ref 49) _) _ _ _); k_dflt (refine' Spec.use (next_404 _ _ _ _ _ ?g1) ?k1 ?k2 ?k3 ?k4 ?k5 ?k6 ?k7 ?k8 ?k9 ?_; (case k4 => k_asm); (case k1 => k_asm); (case k2 => k_asm); (case k3 => k_asm); (case k5 => k_asm); (case k8 => exact rfl); (case k6 => exact rfl); (case k7 => exact Nat.le_of_ble_eq_true rfl); (case k9 => exact Nat.le_of_ble_eq_true rfl); (case g1 => k_mem); skip); refine cps2 ?_; walk_at "TAIL3")))
  (k_with "call type:range" => (walk_at "WHOLE3"))
  (k_with "CompSrc" => (walk_at "WHOLE4"))
  (k_with "CompSrcT" => (walk_at "WHOLE5"))
  (k_with "call builtin:len" => ((k_here; k_dflt (refine' lenS ?N ?m ?z ?_; (case N => k_asm); (case m => k_mem); (case z => assumption)))))
  (k_with "truthy ref" => ((k_here; k_dflt (refine' truthS ?N ?m ?z ?_; (case N => k_asm); (case m => k_mem); (case z => assumption)))))
  (k_with "subscriptTail" => ((k_here; (with_reducible show wpAny _ _ (subscriptTail _ _ (Value.ref (LC.SL _)) _) _ _ _); k_dflt (refine' item_spec ?k1 ?k2 ?k3 ?k4 ?k5 ?k6 ?_; (case k6 => assumption); (case k1 => k_asm); (case k2 => k_asm); (case k3 => k_mem); (case k4 => first | assumption | omega); (case k5 => omega)))))
  (k_with "call ref" => ((k_here; (with_reducible show wpAny _ _ (call (Value.ref 403) _) _ _ _); refine Wrap.out ?_)))
  (k_with "call ref" => ((k_here; (with_reducible show wpAny _ _ (call (Value.ref 284) _) _ _ _); refine Wrap.out ?_)))
  (k_with "call ref" => ((k_here; (with_reducible show wpAny _ _ (call (Value.ref 209) _) _ _ _); refine Wrap.out ?_)))
  (k_with "subscriptTail" => ((k_here; (with_reducible show wpAny _ _ (subscriptTail _ _ (Value.ref (CH.RR _)) _) _ _ _); k_dflt (refine' item_last ?k2 ?k3 ?k4 ?_; (case k2 => k_asm); (case k3 => k_mem); (case k4 => assumption)))))
  (k_with "subscriptTail" => ((k_here; (with_reducible show wpAny _ _ (subscriptTail _ _ (Value.ref (LC.AT _)) (Value.int _ _)) _ _ _); k_dflt (refine' PySem.W.ksa_sub ?k1 ?k2 ?k3 ?k4 ?k5 ?k6 ?_ ?k7; (case k1 => k_asm); (case k2 => k_mem); (case k3 => with_reducible assumption); (case k4 => first | assumption | omega); (case k5 => omega); (case k6 => omega); (case k7 => with_unfolding_all rfl); k_whole); walk_at "TAIL12")))
  (k_with "subscriptTail" => ((k_here; (with_reducible show wpAny _ _ (subscriptTail _ _ (Value.ref (LC.DU _)) (Value.int _ _)) _ _ _); k_dflt (refine' PySem.W.ksa_sub ?k1 ?k2 ?k3 ?k4 ?k5 ?k6 ?_ ?k7; (case k1 => k_asm); (case k2 => k_mem); (case k3 => with_reducible assumption); (case k4 => first | assumption | omega); (case k5 => omega); (case k6 => omega); (case k7 => with_unfolding_all rfl); k_whole); walk_at "TAIL12")))
  (k_with "subscriptTail" => ((k_here; (with_reducible show wpAny _ _ (subscriptTail _ _ (Value.ref (RW.a _)) (Value.int _ _)) _ _ _); k_dflt (refine' PySem.W.ksa_sub ?k1 ?k2 ?k3 ?k4 ?k5 ?k6 ?_ ?k7; (case k1 => k_asm); (case k2 => k_mem); (case k3 => with_reducible assumption); (case k4 => first | assumption | omega); (case k5 => omega); (case k6 => omega); (case k7 => with_unfolding_all rfl); k_whole); walk_at "TAIL12")))
  (k_with "setItem ref int" => ((k_here; (with_reducible show wpAny _ _ (setItem (Value.ref _) (Value.int _ _) (Value.int _ _)) _ _ _); k_dflt (refine' PySem.W.ksa_set ?k1 ?k2 ?k3 ?k4 ?k5 ?k6 ?k7 ?_; (case k1 => k_asm); (case k2 => k_asm); (case k3 => k_upd); (case k4 => with_reducible assumption); (case k5 => first | assumption | omega); (case k6 => omega); (case k7 => omega); k_whole); walk_at "TAIL13")))
  (k_with "compareOp NotEq ref ref" => ((k_here; k_dflt (refine' neL_same ?k1 ?k2 ?k3 ?k4 ?k5 ?k6 ?_; (case k1 => k_asm); (case k2 => k_mem); (case k3 => k_mem); (case k4 => with_reducible assumption); (case k5 => with_reducible assumption); (case k6 => exact Nat.le_of_ble_eq_true rfl)))))
  (k_with "compareOp Eq ref ref" => ((k_here; k_dflt (first | (refine' eqL_nil ?k1 ?k2 ?k3 ?k4 ?k5 ?k6 ?_; (case k1 => k_asm); (case k2 => k_mem); (case k3 => k_mem); (case k4 => with_reducible assumption); (case k5 => with_reducible assumption); (case k6 => exact Nat.le_of_ble_eq_true rfl)) | (refine' eqL_cons ?k1 ?k2 ?k3 ?k4 ?k5 ?k6 ?_; (case k1 => k_asm); (case k2 => k_mem); (case k3 => k_mem); (case k4 => with_reducible assumption); (case k5 => with_reducible assumption); (case k6 => exact Nat.le_of_ble_eq_true rfl))))))
  trivial
theorem stageA {w : World} {pr : Program} {loose : List Str} {mean : ExcName → Option Value} {mg mb : Str → Option Value} {base h₀ : Heap} {cn : Str} {cnm : List (Str × NameKind)} {cig cic : Bool} {cmo : List (Str × Const)} {L₁ a : Addr} {ccd : Value} {cl : List (Str × Addr)} {outer : List Env} {L : Addr} {M : Str → Option Value} {s : Shared} {Q : Flow → Shared → Prop}
    {x d hl : Addr} {oc oh : Obj} {kn t0 tt : Tok} {hs : List Value} {nh : Nat} {rest : Led}
    (B : Below (ktrTop 380 850 none cn ⟨.function, cnm, cig, cic, cmo⟩ L₁ a ccd cl outer) base (envX cn ⟨.function, cnm, cig, cic, cmo⟩ L₁ a ccd cl :: outer) h₀) (X : (Mine.hd.heap_39 w.params).In h₀) (T : Top pr loose mean mg mb h₀)
    (dc : oc.data = .cell (some (.ref x))) (dh : oh.data = .cell (some (.ref hl))) (hH : Hand hs)
    (hN : NDL ((d, dictOf [en w "now" kn (.int 0 t0)] 1) :: (hl, W.listOf hs.toArray nh) :: (x, instObj 31 d) :: (L + 1 + 1, oc) :: (L + 1, oh) :: rest))
    (F : Fr h₀ L s.heap (fun y => if y = "top" then some (.int 0 tt) else M y))
    (N : News h₀ L s.heap ((d, dictOf [en w "now" kn (.int 0 t0)] 1) :: (hl, W.listOf hs.toArray nh) :: (x, instObj 31 d) :: (L + 1 + 1, oc) :: (L + 1, oh) :: rest))
    (hnext : ∀ (hs' : List Value) (nh' : Nat) (M' : Str → Option Value) (h' : Heap) (tk' : Nat), Hand hs' → Fr h₀ L h' M' → News h₀ L h' ((hl, W.listOf hs'.toArray nh') :: (L + 1, oh) :: rest) →
      wpAny (model PySem.Challenge.pw_pb0024_01 w) ((ktrTop 380 850 none cn ⟨.function, cnm, cig, cic, cmo⟩ L₁ a ccd cl outer).deeper (toldEnv L)) (execs (toldStmts.drop 3) (toldEnv L)) Q (fun _ _ => False) { s with heap := h', toks := tk' }) :
    wpAny (model PySem.Challenge.pw_pb0024_01 w) ((ktrTop 380 850 none cn ⟨.function, cnm, cig, cic, cmo⟩ L₁ a ccd cl outer).deeper (toldEnv L)) (execs (toldStmts.drop 2) (toldEnv L)) Q (fun _ _ => False) s := by
  generalize hR : toldStmts.drop 3 = rest3 at hnext
  have e : toldStmts.drop 2 = (toldStmts.drop 2).headD (.Pass ⟨0,0,0,0⟩) :: toldStmts.drop 3 := by rfl
  rw [e, hR]
  clear e hR
  have e : (toldStmts.drop 2).headD (.Pass ⟨0,0,0,0⟩) = (toldStmts.drop 2).headD (.Pass ⟨0,0,0,0⟩) := rfl
  conv at e => rhs; whnf
  rw [e]
  clear e
  have e : toldScope = toldScope := rfl
  conv at e => rhs; whnf
  unfold toldEnv at hnext ⊢
  rw [e] at hnext ⊢
  clear e
  have x1 : @Ne Nat d hl := hN.ne 0 1 (by decide) rfl rfl
  have x2 : @Ne Nat d x := hN.ne 0 2 (by decide) rfl rfl
  have x3 : @Ne Nat d (L + 1 + 1) := hN.ne 0 3 (by decide) rfl rfl
  have x4 : @Ne Nat d (L + 1) := hN.ne 0 4 (by decide) rfl rfl
  have y2 : @Ne Nat hl x := hN.ne 1 2 (by decide) rfl rfl
  have y3 : @Ne Nat hl (L + 1 + 1) := hN.ne 1 3 (by decide) rfl rfl
  have y4 : @Ne Nat hl (L + 1) := hN.ne 1 4 (by decide) rfl rfl
  have z1 : ∀ p ∈ rest, p.1 ≠ d := fun p hp => hN.off 0 rfl p (.tail _ (.tail _ (.tail _ (.tail _ hp))))
  have z2 : ∀ p ∈ rest, p.1 ≠ hl := fun p hp => hN.off 1 rfl p (.tail _ (.tail _ (.tail _ hp)))
  replace hN := wrap_in hN
  replace hnext := wrap_in hnext
  k_steps
  rename_i k1 t1 vs1 nn1 hk0 hk4 hH1 lN0 h2 tk2 t2 u2 v2 hR2 lF lN hkeep
  have hn : 1 + k1 = ((1 + k1).toNat : Int) := by omega
  have hn2 : (1 + k1).toNat ≤ 3 := by omega
  refine wrap_in (range_for (n := (1 + k1).toNat) (fun i m news => ∃ (top : Int) (t0 tt : Tok) (hs' : List Value) (nh' : Nat) (M' : Str → Option Value), m = (fun y : Str => if y = "top" then some (.int top tt) else M' y) ∧ 0 ≤ top ∧ top ≤ 100 ∧ Hand hs' ∧ news = (d, dictOf [en w "now" kn (.int top t0)] 1) :: (hl, W.listOf hs'.toArray nh') :: (x, instObj 31 d) :: (L + 1 + 1, oc) :: (L + 1, oh) :: rest) (by rfl) hR2 hn (by omega) lF lN
    (fun _ _ => ⟨0, t0, tt, vs1, nn1, M, rfl, Int.le_refl _, by decide, hH1, rfl⟩) ?_ ?_)
  · intro It i m₁ _ hIt hi hq1
    refine ex6 hq1 fun top t3 t4 hs3 nh3 M3 hp2 => ?_
    clear hq1
    have eq3 := hp2.1
    have htop0 := hp2.2.1
    have htop1 := hp2.2.2.1
    have hH3 := hp2.2.2.2.1
    have eq4 := hp2.2.2.2.2
    clear hp2
    subst eq3
    subst eq4
    intro t₁ h₁ tk₁ it hit F₁ N₁
    have hItA : ∀ p ∈ (d, dictOf [en w "now" kn (.int 0 t0)] 1) :: (hl, W.listOf hs.toArray nh) :: (x, instObj 31 d) :: (L + 1 + 1, oc) :: (L + 1, oh) :: rest, @Ne Nat p.1 It := by
      intro p hp
      rcases List.mem_cons.mp hp with rfl | hp
      · exact Nat.ne_of_lt (hIt (d, _) (.head _))
      rcases List.mem_cons.mp hp with rfl | hp
      · exact Nat.ne_of_lt (hIt (hl, W.listOf vs1.toArray nn1) (.tail _ (.head _)))
      · exact Nat.ne_of_lt (hIt p (.tail _ (.tail _ hp)))
    have hN2 : NDL ((d, dictOf [en w "now" kn (.int 0 t0)] 1) :: (hl, W.listOf hs.toArray nh) :: (x, instObj 31 d) :: (L + 1 + 1, oc) :: (L + 1, oh) :: (It, it) :: rest) := by
      have h0 := NDL.consN (o := it) hN hItA
      refine h0.perm ?_
      show ([It] ++ ([d, hl, x, L + 1 + 1, L + 1] ++ rest.map (·.1))).Perm ([d, hl, x, L + 1 + 1, L + 1] ++ ([It] ++ rest.map (·.1)))
      rw [← List.append_assoc, ← List.append_assoc]
      exact List.Perm.append_right _ List.perm_append_comm
    refine turnA1 (M := fun y => if y = "_" then some (.int (i : Int) t₁) else M3 y) (kn := kn) (t0 := t3) (hs := hs3) (nh := nh3) (tt := t4) (rest := (It, it) :: rest) B X T dc dh hH3 htop0 htop1 (show NDL _ from hN2) ?_ (News.sub N₁ fun p hp => ?_) ?_
    · have e : (fun y : Str => if y = "_" then some (Value.int (i : Int) t₁) else if y = "top" then some (.int top t4) else M3 y) = (fun y : Str => if y = "top" then some (.int top t4) else if y = "_" then some (.int (i : Int) t₁) else M3 y) := by
        funext y
        by_cases h1 : y = "_"
        · subst h1; rw [if_pos rfl, if_neg (by decide), if_pos rfl]
        · rw [if_neg h1, if_neg h1]
      rw [← e]
      exact F₁
    · rcases List.mem_cons.mp hp with rfl | hp
      · exact .tail _ (.head _)
      rcases List.mem_cons.mp hp with rfl | hp
      · exact .tail _ (.tail _ (.head _))
      rcases List.mem_cons.mp hp with rfl | hp
      · exact .tail _ (.tail _ (.tail _ (.head _)))
      rcases List.mem_cons.mp hp with rfl | hp
      · exact .tail _ (.tail _ (.tail _ (.tail _ (.head _))))
      rcases List.mem_cons.mp hp with rfl | hp
      · exact .tail _ (.tail _ (.tail _ (.tail _ (.tail _ (.head _)))))
      rcases List.mem_cons.mp hp with rfl | hp
      · exact .head _
      · exact .tail _ (.tail _ (.tail _ (.tail _ (.tail _ (.tail _ hp)))))
    intro top' t0' tt' hs' nh' M' h' tk' hp0 hp1 hH' F' N'
    refine turnA2 (d := d) (kn := kn) (t0 := t0') (rest := (hl, W.listOf hs'.toArray nh') :: (L + 1, oh) :: (It, it) :: rest) B X T dc hp0 hp1 F' (News.sub N' fun p hp => ?_) ?_
    · simp only [List.mem_cons] at hp ⊢
      rcases hp with h | h | h | h | h | h | h <;> simp only [h, true_or, or_true]
    intro h3 tk3 F3 N3
    refine wrap_in ⟨h3, tk3, _, (d, dictOf [en w "now" kn (.int top' t0')] 1) :: (hl, W.listOf hs'.toArray nh') :: (x, instObj 31 d) :: (L + 1 + 1, oc) :: (L + 1, oh) :: rest, rfl, F3, News.sub N3 fun p hp => ?_, fun p hp => ?_, top', t0', tt', hs', nh', M', rfl, hp0, hp1, hH', rfl⟩
    · simp only [List.mem_cons] at hp ⊢
      rcases hp with h | h | h | h | h | h | h <;> simp only [h, true_or, or_true]
    · rcases List.mem_cons.mp hp with rfl | hp
      · exact hItA (d, dictOf [en w "now" kn (.int 0 t0)] 1) (.head _)
      rcases List.mem_cons.mp hp with rfl | hp
      · exact hItA (hl, W.listOf hs.toArray nh) (.tail _ (.head _))
      · exact hItA p (.tail _ (.tail _ hp))
  · intro m₁ _ hq5
    refine ex6 hq5 fun top t3 t4 hs3 nh3 M3 hp6 => ?_
    clear hq5
    have eq7 := hp6.1
    have htop0 := hp6.2.1
    have htop1 := hp6.2.2.1
    have hH3 := hp6.2.2.2.1
    have eq8 := hp6.2.2.2.2
    clear hp6
    subst eq7
    subst eq8
    intro h₁ tk₁ F₁ N₁
    k_steps
    exact hnext hs3 nh3 _ _ _ hH3 F₁ (News.sub N₁ fun p hp => by
      rcases List.mem_cons.mp hp with rfl | hp
      · exact .tail _ (.head _)
      · exact .tail _ (.tail _ (.tail _ (.tail _ hp))))
theorem freshL13 : True := by
  k_with_none
  (k_with "CJ" => (first | with_reducible assumption | with_reducible exact And.left (by first | with_reducible assumption | with_reducible exact And.right (by first | with_reducible assumption | with_reducible exact And.right (by first | with_reducible assumption | with_reducible exact And.right (by first | with_reducible assumption | with_reducible exact And.right (by first | with_reducible assumption | with_reducible exact And.right (by first | with_reducible assumption | with_reducible exact And.right (by first | with_reducible assumption | with_reducible exact And.right (by first | with_reducible assumption | with_reducible exact And.right (by first | with_reducible assumption | with_reducible exact And.right (by first | with_reducible assumption | with_reducible exact And.right (by first | with_reducible assumption | with_reducible exact And.right (by first | with_reducible assumption | with_reducible exact And.right (by first | with_reducible assumption | with_reducible exact And.right (by first | with_reducible assumption | with_reducible exact And.right (by first | with_reducible assumption | with_reducible exact And.right (by first | with_reducible assumption | with_reducible exact And.right (by first | with_reducible assumption | with_reducible exact And.right (by first | with_reducible assumption | with_reducible exact And.right (by first | with_reducible assumption | with_reducible exact And.right (by first | with_reducible assumption | with_reducible exact And.right (by first | with_reducible assumption | with_reducible exact And.right (by first | with_reducible assumption | with_reducible exact And.right (by with_reducible assumption)))))))))))))))))))))))))
  (k_with "execs cons" => (k_here; (fail_if_success (fail_if_success k_gentoks)); (with_reducible refine gen_toks ?_); intro tk))
  (k_with "execs nil" => (k_here; (fail_if_success (fail_if_success k_gentoks)); (with_reducible refine gen_toks ?_); intro tk))
  w_top off
  trivial
noncomputable def kEval {α : Type} (lt : Nat → Nat → Bool) : KasT α → α
  | .ret a => a
  | .ask i j k => kEval lt (k (lt i j))
noncomputable def kAll {α : Type} (n : Nat) : KasT α → Bool
  | .ret _ => true
  | .ask i j k => decide (i < n) && decide (j < n) && kAll n (k true) && kAll n (k false)
theorem kasWp_eval {α : Type} {cmp : Nat → Nat → (Bool → Shared → Prop) → Shared → Prop} {n : Nat} {lt : Nat → Nat → Bool} (hc : ∀ i j C s, i < n → j < n → C (lt i j) s → cmp i j C s) {Q : α → Shared → Prop} {s : Shared} :
    ∀ (t : KasT α), kAll n t = true → Q (kEval lt t) s → t.kasWp cmp Q s
  | .ret _, _, h => h
  | .ask i j k, ha, h => by
    simp only [kAll, Bool.and_eq_true, decide_eq_true_eq] at ha
    obtain ⟨⟨⟨h1, h2⟩, h3⟩, h4⟩ := ha
    refine hc i j _ s h1 h2 ?_
    refine kasWp_eval hc (k (lt i j)) ?_ h
    cases lt i j with
    | true => exact h3
    | false => exact h4
theorem kEval_congr {α : Type} {n : Nat} {lt lt' : Nat → Nat → Bool} (h : ∀ i j, i < n → j < n → lt i j = lt' i j) : ∀ (t : KasT α), kAll n t = true → kEval lt t = kEval lt' t
  | .ret _, _ => rfl
  | .ask i j k, ha => by
    simp only [kAll, Bool.and_eq_true, decide_eq_true_eq] at ha
    obtain ⟨⟨⟨h1, h2⟩, h3⟩, h4⟩ := ha
    show kEval lt (k (lt i j)) = kEval lt' (k (lt' i j))
    rw [h i j h1 h2]
    refine kEval_congr h _ ?_
    cases lt' i j with
    | true => exact h3
    | false => exact h4
noncomputable def tab (b01 b02 b03 b12 b13 b23 : Bool) (i j : Nat) : Bool :=
  match i, j with
  | 0, 1 => b01 | 0, 2 => b02 | 0, 3 => b03 | 1, 2 => b12 | 1, 3 => b13 | 2, 3 => b23
  | 1, 0 => !b01 | 2, 0 => !b02 | 3, 0 => !b03 | 2, 1 => !b12 | 3, 1 => !b13 | 3, 2 => !b23
  | _, _ => false
noncomputable def firstOk (n : Nat) (lt : Nat → Nat → Bool) (p : Array Nat) : Bool :=
  match p.toList with
  | p0 :: r => (decide (p0 < n) && decide (r.length < n)) && (List.range n).all fun j => !lt j p0
  | [] => false
noncomputable def tri (a b c : Bool) : Bool := (!(a && b) || c) && (!(!a && !b) || !c)
theorem sort2 : ∀ b01 : Bool, firstOk 2 (tab b01 false false false false false) (kEval (tab b01 false false false false false) (kas_sort 2)) = true := by decide +kernel
theorem sort3 : ∀ b01 b02 b12 : Bool, tri b01 b12 b02 = true → firstOk 3 (tab b01 b02 false b12 false false) (kEval (tab b01 b02 false b12 false false) (kas_sort 3)) = true := by decide +kernel
theorem sort4 : ∀ b01 b02 b03 b12 b13 b23 : Bool, tri b01 b12 b02 = true → tri b01 b13 b03 = true → tri b02 b23 b03 = true → tri b12 b23 b13 = true →
    firstOk 4 (tab b01 b02 b03 b12 b13 b23) (kEval (tab b01 b02 b03 b12 b13 b23) (kas_sort 4)) = true := by decide +kernel
theorem all2' : kAll 2 (kas_sort 2) = true := by decide +kernel
theorem all3' : kAll 3 (kas_sort 3) = true := by decide +kernel
theorem all4' : kAll 4 (kas_sort 4) = true := by decide +kernel
theorem tri_le (a b c : Int) : tri (decide (a ≤ b)) (decide (b ≤ c)) (decide (a ≤ c)) = true := by
  unfold tri
  by_cases h1 : a ≤ b <;> by_cases h2 : b ≤ c <;> by_cases h3 : a ≤ c <;> simp [h1, h2, h3] <;> omega
/-- the order of pairs whose second parts rise -/
noncomputable def ltD (ds : List Int) (i j : Nat) : Bool := if i < j then decide (ds.getD i 0 ≤ ds.getD j 0) else if j < i then decide (ds.getD i 0 < ds.getD j 0) else false
theorem not_le (a b : Int) : (!decide (a ≤ b)) = decide (b < a) := by
  by_cases h : a ≤ b
  · rw [decide_eq_true h, decide_eq_false (by omega)]; rfl
  · rw [decide_eq_false h, decide_eq_true (by omega)]; rfl
theorem ltD_tab (ds : List Int) : ∀ i j, i < 4 → j < 4 → ltD ds i j = tab (decide (ds.getD 0 0 ≤ ds.getD 1 0)) (decide (ds.getD 0 0 ≤ ds.getD 2 0)) (decide (ds.getD 0 0 ≤ ds.getD 3 0)) (decide (ds.getD 1 0 ≤ ds.getD 2 0)) (decide (ds.getD 1 0 ≤ ds.getD 3 0)) (decide (ds.getD 2 0 ≤ ds.getD 3 0)) i j := by
  intro i j hi hj
  rcases i with _ | _ | _ | _ | i <;> rcases j with _ | _ | _ | _ | j <;> first | omega | rfl | exact (not_le _ _).symm
theorem ltD_tab3 (ds : List Int) : ∀ i j, i < 3 → j < 3 → ltD ds i j = tab (decide (ds.getD 0 0 ≤ ds.getD 1 0)) (decide (ds.getD 0 0 ≤ ds.getD 2 0)) false (decide (ds.getD 1 0 ≤ ds.getD 2 0)) false false i j := by
  intro i j hi hj
  rcases i with _ | _ | _ | i <;> rcases j with _ | _ | _ | j <;> first | omega | rfl | exact (not_le _ _).symm
theorem ltD_tab2 (ds : List Int) : ∀ i j, i < 2 → j < 2 → ltD ds i j = tab (decide (ds.getD 0 0 ≤ ds.getD 1 0)) false false false false false i j := by
  intro i j hi hj
  rcases i with _ | _ | i <;> rcases j with _ | _ | j <;> first | omega | rfl | exact (not_le _ _).symm
theorem firstOk_congr {n : Nat} {lt lt' : Nat → Nat → Bool} (h : ∀ i j, i < n → j < n → lt i j = lt' i j) {p : Array Nat} (hp : firstOk n lt' p = true) : firstOk n lt p = true := by
  unfold firstOk at hp ⊢
  cases hl : p.toList with
  | nil => rw [hl] at hp; exact hp
  | cons p0 r =>
    rw [hl] at hp
    simp only [Bool.and_eq_true, decide_eq_true_eq, List.all_eq_true, List.mem_range] at hp ⊢
    exact ⟨hp.1, fun j hj => by rw [h j p0 hj hp.1.1]; exact hp.2 j hj⟩
theorem sort_first (ds : List Int) (n : Nat) (h2 : 2 ≤ n) (h4 : n ≤ 4) : kAll n (kas_sort n) = true ∧ firstOk n (ltD ds) (kEval (ltD ds) (kas_sort n)) = true := by
  have : n = 2 ∨ n = 3 ∨ n = 4 := by omega
  rcases this with rfl | rfl | rfl
  · refine ⟨all2', firstOk_congr (ltD_tab2 ds) ?_⟩
    rw [kEval_congr (ltD_tab2 ds) _ all2']
    exact sort2 _
  · refine ⟨all3', firstOk_congr (ltD_tab3 ds) ?_⟩
    rw [kEval_congr (ltD_tab3 ds) _ all3']
    exact sort3 _ _ _ (tri_le _ _ _)
  · refine ⟨all4', firstOk_congr (ltD_tab ds) ?_⟩
    rw [kEval_congr (ltD_tab ds) _ all4']
    exact sort4 _ _ _ _ _ _ (tri_le _ _ _) (tri_le _ _ _) (tri_le _ _ _) (tri_le _ _ _)
theorem freshL14 : True := by
  k_with_none
  (k_with "CJ" => (first | with_reducible assumption | with_reducible exact And.left (by first | with_reducible assumption | with_reducible exact And.right (by first | with_reducible assumption | with_reducible exact And.right (by first | with_reducible assumption | with_reducible exact And.right (by first | with_reducible assumption | with_reducible exact And.right (by first | with_reducible assumption | with_reducible exact And.right (by first | with_reducible assumption | with_reducible exact And.right (by first | with_reducible assumption | with_reducible exact And.right (by first | with_reducible assumption | with_reducible exact And.right (by first | with_reducible assumption | with_reducible exact And.right (by first | with_reducible assumption | with_reducible exact And.right (by first | with_reducible assumption | with_reducible exact And.right (by first | with_reducible assumption | with_reducible exact And.right (by first | with_reducible assumption | with_reducible exact And.right (by first | with_reducible assumption | with_reducible exact And.right (by first | with_reducible assumption | with_reducible exact And.right (by first | with_reducible assumption | with_reducible exact And.right (by first | with_reducible assumption | with_reducible exact And.right (by first | with_reducible assumption | with_reducible exact And.right (by first | with_reducible assumption | with_reducible exact And.right (by first | with_reducible assumption | with_reducible exact And.right (by first | with_reducible assumption | with_reducible exact And.right (by first | with_reducible assumption | with_reducible exact And.right (by with_reducible assumption)))))))))))))))))))))))))
  (k_with "execs cons" => (k_here; (fail_if_success (fail_if_success k_gentoks)); (with_reducible refine gen_toks ?_); intro tk))
  (k_with "execs nil" => (k_here; (fail_if_success (fail_if_success k_gentoks)); (with_reducible refine gen_toks ?_); intro tk))
  w_top off
  trivial
theorem kasWp_evalS {α : Type} {cmp : Nat → Nat → (Bool → Shared → Prop) → Shared → Prop} {n : Nat} {lt : Nat → Nat → Bool} {s : Shared} (hc : ∀ i j C, i < n → j < n → C (lt i j) s → cmp i j C s) {Q : α → Shared → Prop} :
    ∀ (t : KasT α), kAll n t = true → Q (kEval lt t) s → t.kasWp cmp Q s
  | .ret _, _, h => h
  | .ask i j k, ha, h => by
    simp only [kAll, Bool.and_eq_true, decide_eq_true_eq] at ha
    obtain ⟨⟨⟨h1, h2⟩, h3⟩, h4⟩ := ha
    refine hc i j _ h1 h2 ?_
    refine kasWp_evalS hc (k (lt i j)) ?_ h
    cases lt i j with
    | true => exact h3
    | false => exact h4
set_option genInjectivity false in
set_option genSizeOf false in
/-- a pair of ints, as it lies -/
structure PT where
  a : Addr
  d : Int
  td : Tok
  sp : Int
  ts : Tok
noncomputable abbrev pobj (p : PT) : Obj := { cls := .type "tuple", data := .seq #[.int p.d p.td, .int p.sp p.ts] }
noncomputable def pvals (ps : List PT) : List Value := ps.map fun p => .ref p.a
noncomputable def pds (ps : List PT) : List Int := ps.map (·.d)
theorem pvals_getD {ps : List PT} {i : Nat} {p : PT} (h : ps[i]? = some p) : (pvals ps).getD i Value.none = .ref p.a := by
  rw [List.getD_eq_getElem?_getD, pvals, List.getElem?_map, h]; rfl
theorem pds_getD {ps : List PT} {i : Nat} {p : PT} (h : ps[i]? = some p) : (pds ps).getD i 0 = p.d := by
  rw [List.getD_eq_getElem?_getD, pds, List.getElem?_map, h]; rfl
section
variable {prog : Program} {w : World} {A : Around} {E : Value → Shared → Prop} {s : Shared} {h₀ : Heap} {L : Addr} {m : Str → Option Value} {news : Led}
theorem pairs_lt {ps : List PT} (hat : ∀ p ∈ ps, s.heap.get? p.a = some (pobj p)) (hsp : ∀ (i j : Nat) (p q : PT), i < j → ps[i]? = some p → ps[j]? = some q → p.sp < q.sp) {i j : Nat} {C : Bool → Shared → Prop} (hi : i < ps.length) (hj : j < ps.length) (h : C (ltD (pds ps) i j) s) :
    kas_ask prog w A (tuples' true) (pvals ps) i j C s := by
  have ei := List.getElem?_eq_getElem hi
  have ej := List.getElem?_eq_getElem hj
  unfold kas_ask
  rw [pvals_getD ei, pvals_getD ej]
  have hpi := hat _ (List.mem_of_getElem? ei)
  have hpj := hat _ (List.mem_of_getElem? ej)
  unfold ltD at h
  rw [pds_getD ei, pds_getD ej] at h
  refine kat_lt hpi rfl hpj rfl ?_
  refine kat_cons (wpAny_eqBool_int ?_)
  by_cases hd : ps[i].d = ps[j].d
  · rw [show (ps[i].d == ps[j].d) = true by simpa using hd]
    refine kat_yes (kat_cons (wpAny_eqBool_int ?_))
    by_cases hij : i = j
    · subst hij
      rw [show (ps[i].sp == ps[i].sp) = true by simp]
      refine kat_yes (kat_nil ?_)
      rw [if_neg (Nat.lt_irrefl _), if_neg (Nat.lt_irrefl _)] at h
      exact h
    · have hne : ps[i].sp ≠ ps[j].sp := fun e => by
        rcases Nat.lt_or_gt_of_ne hij with hlt | hlt
        · have := hsp i j _ _ hlt ei ej; omega
        · have := hsp j i _ _ hlt ej ei; omega
      rw [show (ps[i].sp == ps[j].sp) = false by simpa using hne]
      refine kat_no (kat_one _ _ (lt_int ?_))
      show C _ _
      rcases Nat.lt_or_gt_of_ne hij with hlt | hlt
      · have h1 := hsp i j _ _ hlt ei ej
        rw [if_pos hlt, decide_eq_true (by omega)] at h
        rw [decide_eq_true h1]
        exact h
      · have h1 := hsp j i _ _ hlt ej ei
        rw [if_neg (by omega), if_pos hlt, decide_eq_false (by omega)] at h
        rw [decide_eq_false (by omega)]
        exact h
  · rw [show (ps[i].d == ps[j].d) = false by simpa using hd]
    refine kat_no (oneLt_int ?_)
    by_cases hij : i = j
    · subst hij; exact absurd rfl hd
    · rcases Nat.lt_or_gt_of_ne hij with hlt | hlt
      · rw [if_pos hlt] at h
        have e : decide (ps[i].d < ps[j].d) = decide (ps[i].d ≤ ps[j].d) := by
          rw [decide_eq_decide]; omega
        rw [e]; exact h
      · rw [if_neg (by omega), if_pos hlt] at h
        exact h
theorem pairs_kat {ps : List PT} {h : Heap} (hat : ∀ p ∈ ps, h.get? p.a = some (pobj p)) : KatTups h (pvals ps) (ps.map fun p => .int p.d p.td) := by
  induction ps with
  | nil => exact KatTups.nil
  | cons p ps ih => exact KatTups.cons (hat p (.head _)) rfl rfl rfl (ih fun q hq => hat q (.tail _ hq))
/-- sorted, of two to four pairs whose second parts rise: the first of the least stands first -/
theorem sorted_pairs {l : Addr} {n : Nat} {ps : List PT} {Q : Value → Shared → Prop} (F : Fr h₀ L s.heap m) (N : News h₀ L s.heap news) (hl : (l, W.listOf (pvals ps).toArray n) ∈ news) (h2 : 2 ≤ ps.length) (h4 : ps.length ≤ 4) (hps : ∀ p ∈ ps, (p.a, pobj p) ∈ news)
    (hsp : ∀ (i j : Nat) (p q : PT), i < j → ps[i]? = some p → ps[j]? = some q → p.sp < q.sp)
    (h : ∀ (D : Addr) (i : Nat) (p : PT) (c : Nat) (rest : List Value) (h' : Heap), ps[i]? = some p → (∀ (j : Nat) (q : PT), ps[j]? = some q → p.d ≤ q.d ∧ (j < i → p.d < q.d)) → rest.length < 10 → Fr h₀ L h' m → News h₀ L h' ((D, W.listOf (Value.ref p.a :: rest).toArray c) :: news) → (∀ q ∈ news, q.1 < D) → Q (.ref D) { s with heap := h' }) :
    wpAny (model prog w) A (call (.builtin "sorted") [.ref l]) Q E s := by
  have hlen : (pvals ps).length = ps.length := by rw [pvals, List.length_map]
  refine kat_sorted F N ⟨_, (N _ hl).1, rfl, _, rfl⟩ (by omega) (by omega) fun D e1 h' F' N' hD => ?_
  have hat : ∀ p ∈ ps, h'.get? p.a = some (pobj p) := fun p hp => (N' _ (.tail _ (hps p hp))).1
  refine kat_kind (fs := ps.map fun p => .int p.d p.td) (T := .type "int") (pairs_kat hat) (by rw [List.length_map]; omega) (fun v hv => ?_) (by rfl) ?_
  · obtain ⟨p, -, rfl⟩ := List.mem_map.mp hv
    exact Looks.of_pure rfl
  obtain ⟨ha, hf⟩ := sort_first (pds ps) ps.length h2 h4
  have e : (Value.type "int" != Value.type "tuple") = true := by decide
  rw [e, hlen]
  refine kasWp_evalS (n := ps.length) (lt := ltD (pds ps)) (fun i j C hi hj hC => pairs_lt hat hsp hi hj hC) _ ha ?_
  unfold firstOk at hf
  cases hp : (kEval (ltD (pds ps)) (kas_sort ps.length)).toList with
  | nil => rw [hp] at hf; cases hf
  | cons p0 r =>
    rw [hp] at hf
    simp only [Bool.and_eq_true, decide_eq_true_eq, List.all_eq_true, List.mem_range, Bool.not_eq_true'] at hf
    obtain ⟨⟨h0, hr⟩, hmin⟩ := hf
    have e0 := List.getElem?_eq_getElem h0
    refine KasFin.intro F' N' (.head fun q hq => Nat.ne_of_lt (hD q hq)) fun h'' c F'' N'' => ?_
    rw [List.map_cons, pvals_getD e0] at N''
    refine h D p0 ps[p0] c _ h'' e0 (fun j q hj => ?_) (by rw [List.length_map]; omega) F'' N'' hD
    have hjl : j < ps.length := (List.getElem?_eq_some_iff.mp hj).1
    have h1 := hmin j hjl
    unfold ltD at h1
    rw [pds_getD hj, pds_getD e0] at h1
    by_cases hlt : j < p0
    · rw [if_pos hlt] at h1
      have := of_decide_eq_false h1
      exact ⟨by omega, fun _ => by omega⟩
    · refine ⟨?_, fun h => absurd h hlt⟩
      rw [if_neg hlt] at h1
      by_cases hgt : p0 < j
      · rw [if_pos hgt] at h1
        have := of_decide_eq_false h1
        omega
      · have e : j = p0 := by omega
        subst e
        rw [e0] at hj
        rw [Option.some.inj hj]
        exact Int.le_refl _
end
theorem freshL15 : True := by
  k_with_none
  (k_with "CJ" => (first | with_reducible assumption | with_reducible exact And.left (by first | with_reducible assumption | with_reducible exact And.right (by first | with_reducible assumption | with_reducible exact And.right (by first | with_reducible assumption | with_reducible exact And.right (by first | with_reducible assumption | with_reducible exact And.right (by first | with_reducible assumption | with_reducible exact And.right (by first | with_reducible assumption | with_reducible exact And.right (by first | with_reducible assumption | with_reducible exact And.right (by first | with_reducible assumption | with_reducible exact And.right (by first | with_reducible assumption | with_reducible exact And.right (by first | with_reducible assumption | with_reducible exact And.right (by first | with_reducible assumption | with_reducible exact And.right (by first | with_reducible assumption | with_reducible exact And.right (by first | with_reducible assumption | with_reducible exact And.right (by first | with_reducible assumption | with_reducible exact And.right (by first | with_reducible assumption | with_reducible exact And.right (by first | with_reducible assumption | with_reducible exact And.right (by first | with_reducible assumption | with_reducible exact And.right (by first | with_reducible assumption | with_reducible exact And.right (by first | with_reducible assumption | with_reducible exact And.right (by first | with_reducible assumption | with_reducible exact And.right (by first | with_reducible assumption | with_reducible exact And.right (by first | with_reducible assumption | with_reducible exact And.right (by with_reducible assumption)))))))))))))))))))))))))
  (k_with "execs cons" => (k_here; (fail_if_success (fail_if_success k_gentoks)); (with_reducible refine gen_toks ?_); intro tk))
  (k_with "execs nil" => (k_here; (fail_if_success (fail_if_success k_gentoks)); (with_reducible refine gen_toks ?_); intro tk))
  w_top off
  trivial
section
variable {prog : Program} {w : World} {A : Around} {E : Value → Shared → Prop} {s : Shared} {h₀ : Heap} {L a : Addr} {m : Str → Option Value} {news : Led} {vs : List Value}
theorem short_list_sort {n : Nat} {P : PySem.Fin → Shared → Prop} (F : Fr h₀ L s.heap m) (N : News h₀ L s.heap news) (ho : s.heap.get? a = some (seqObj "list" vs.toArray n)) (haL : a ≠ L) (ha0 : h₀.get? a = none) (hna : ∀ p ∈ news, p.1 ≠ a)
    (h1 : vs.length < 2)
    (h : ∀ c h', Fr h₀ L h' m → News h₀ L h' ((a, W.listOf vs.toArray c) :: news) → P (.done (.ret .none)) { s with heap := h' }) :
    wpAny (model prog w) A (Builtin.«list.sort» ⟨[.ref a], []⟩) P E s := by
  have ha : a < s.heap.objs.size := Heap.lt_size ho
  have s1 := Heap.SameBut.update s.heap a (Obj.mapSeq fun _ => (#[] : Array Value))
  obtain ⟨e1, ho1⟩ : ∃ e1, (s.heap.update a (Obj.mapSeq fun _ => (#[] : Array Value))).get? a = some (seqObj "list" #[] e1) := ⟨_, get?_update_seq ho fun _ => #[]⟩
  have F3 : Fr h₀ L (((s.heap.update a (Obj.mapSeq fun _ => (#[] : Array Value))).push (seqObj "tuple" vs.toArray 0)).push (seqObj "list" #[] 0)) m := ((kas_fr F s1 haL ha0).push _).push _
  have N2 : News h₀ L (((s.heap.update a (Obj.mapSeq fun _ => (#[] : Array Value))).push (seqObj "tuple" vs.toArray 0)).push (seqObj "list" #[] 0)) news :=
    (kas_news N s1 hna).grown fun b x e => Heap.get?_push_of_some _ (Heap.get?_push_of_some _ e)
  have ho6 : (((s.heap.update a (Obj.mapSeq fun _ => (#[] : Array Value))).push (seqObj "tuple" vs.toArray 0)).push (seqObj "list" #[] 0)).get? a = some (seqObj "list" #[] e1) :=
    Heap.get?_push_of_some _ (Heap.get?_push_of_some _ ho1)
  rw [list_sort_plain]
  refine wpAny_bind (listItems_at ho rfl ?_)
  refine wpAny_bind (listUpdate_at ho rfl ?_ (by rw [List.size_toArray, sizeLine_eq]; omega) (Nat.zero_le _))
  refine wpAny_bind (seqEpoch_at ho1 rfl ?_)
  refine wpAny_bind (wpAny_newTuple ?_ (by show vs.length ≤ _; rw [sizeLine_eq]; omega))
  refine wpAny_bind (wpAny_newList ?_ (Nat.zero_le _))
  refine wpAny_holding ?_
  show wpAny (model prog w) A _ P E { s with heap := ((s.heap.update a (Obj.mapSeq fun _ => (#[] : Array Value))).push (seqObj "tuple" vs.toArray 0)).push (seqObj "list" #[] 0) }
  dsimp only
  have hn2 : vs.toArray.size < 2 := by rw [List.size_toArray]; omega
  rw [if_pos hn2, if_pos hn2]
  refine wpAny_bind (wpAny_pure ?_)
  rw [StateT.run_pure]
  refine wpAny_bind (wpAny_pure ?_)
  dsimp only
  have hout : (arrOf (SortSt.mk' general' (vs.toArray.zip vs.toArray) #[] 7 none)).map (·.2) = vs.toArray := by
    show (vs.toArray.zip vs.toArray).map (·.2) = vs.toArray
    apply Array.toList_inj.mp
    rw [Array.toList_map, Array.toList_zip]
    exact List.map_snd_zip (Nat.le_refl _)
  refine wpAny_bind (seqEpoch_at ho6 rfl ?_)
  rw [hout]
  have s2 := Heap.SameBut.update (((s.heap.update a (Obj.mapSeq fun _ => (#[] : Array Value))).push (seqObj "tuple" vs.toArray 0)).push (seqObj "list" #[] 0)) a (Obj.mapSeq fun _ => vs.toArray)
  obtain ⟨c2, hc2⟩ : ∃ c2, ((((s.heap.update a (Obj.mapSeq fun _ => (#[] : Array Value))).push (seqObj "tuple" vs.toArray 0)).push (seqObj "list" #[] 0)).update a (Obj.mapSeq fun _ => vs.toArray)).get? a = some (seqObj "list" vs.toArray c2) := ⟨_, get?_update_seq ho6 fun _ => vs.toArray⟩
  refine wpAny_bind (listUpdate_at ho6 rfl ?_ (Nat.zero_le _) (by rw [List.size_toArray, sizeLine_eq]; omega))
  simp only [bne_self_eq_false, Bool.false_eq_true, if_false]
  refine wpAny_pure (h c2 _ (kas_fr F3 s2 haL ha0) fun p hp => ?_)
  rcases List.mem_cons.mp hp with rfl | hp
  · exact ⟨hc2, haL, ha0⟩
  · exact kas_news N2 s2 hna p hp
theorem sorted_short {l : Addr} {n : Nat} {Q : Value → Shared → Prop} (F : Fr h₀ L s.heap m) (N : News h₀ L s.heap news) (hl : (l, W.listOf vs.toArray n) ∈ news) (h1 : vs.length < 2)
    (h : ∀ D c h', Fr h₀ L h' m → News h₀ L h' ((D, W.listOf vs.toArray c) :: news) → (∀ q ∈ news, q.1 < D) → Q (.ref D) { s with heap := h' }) :
    wpAny (model prog w) A (call (.builtin "sorted") [.ref l]) Q E s := by
  have hl : s.heap.IsList l vs.toArray := ⟨_, (N _ hl).1, rfl, _, rfl⟩
  refine Calls.call_function_entry kind_sorted plain_sorted entry_sorted (args_sorted1 _) ?_
  unfold Builtin.«sorted»
  refine wpAny_bind (m := checkCount "sorted" 1 1 _) (wpAny_pure ?_)
  refine wpAny_bind (collect_list hl ?_ (by rw [sizeLine_eq]; omega))
  refine wpAny_bind (wpAny_newList ?_ (by rw [sizeLine_eq]; omega))
  have hsz : ((s.heap.push (seqObj "list" #[] 0)).update s.heap.objs.size (Obj.mapSeq (· ++ vs.toArray))).objs.size = s.heap.objs.size + 1 := by
    rw [Heap.size_update, size_push']
  have hoL : (((s.heap.push (seqObj "list" #[] 0)).update s.heap.objs.size (Obj.mapSeq (· ++ vs.toArray))).push (seqObj "list" vs.toArray 0)).get? (s.heap.objs.size + 1) = some (seqObj "list" vs.toArray 0) := by
    rw [← hsz]; exact Heap.get?_push_size _ rfl
  have keep : ∀ b o, s.heap.get? b = some o → (((s.heap.push (seqObj "list" #[] 0)).update s.heap.objs.size (Obj.mapSeq (· ++ vs.toArray))).push (seqObj "list" vs.toArray 0)).get? b = some o := fun b o q => by
    have hlt : b < s.heap.objs.size := Heap.lt_size q
    rw [Heap.get?_push_ne _ _ _ (by rw [hsz]; exact Nat.ne_of_lt (Nat.lt_succ_of_lt hlt)), Heap.get?_update_ne _ _ _ _ (Nat.ne_of_lt hlt), Heap.get?_push_ne _ _ _ (Nat.ne_of_lt hlt)]
    exact q
  have hL : L < s.heap.objs.size := F.ns.lt
  show wpAny _ _ _ _ _ { s with heap := ((s.heap.push (seqObj "list" #[] 0)).update s.heap.objs.size (Obj.mapSeq (· ++ vs.toArray))).push (seqObj "list" vs.toArray 0) }
  rw [hsz]
  refine wpAny_bind (wpAny_holding (wpAny_call_entry slot_list_sort ⟨_, hoL, rfl⟩ entry_list_sort ?body (args_list_sort _)))
  case body =>
    refine short_list_sort (s := { s with heap := ((s.heap.push (seqObj "list" #[] 0)).update s.heap.objs.size (Obj.mapSeq (· ++ vs.toArray))).push (seqObj "list" vs.toArray 0) })
      (F.kept keep) (N.grown keep) hoL (Nat.ne_of_gt (Nat.lt_succ_of_lt hL)) (Heap.get?_none_of_le (Nat.le_trans F.above (Nat.le_succ_of_le (Nat.le_of_lt hL))))
      (fun p hp => Nat.ne_of_lt (Nat.lt_succ_of_lt (Heap.lt_size (N p hp).1))) h1 fun c h' F' N' => ?_
    exact ⟨_, rfl, wpAny_pure ⟨_, rfl, h _ c h' F' N' fun q hq => Nat.lt_succ_of_lt (Heap.lt_size (N q hq).1)⟩⟩
end
theorem freshL16 : True := by
  k_with_none
  (k_with "CJ" => (first | with_reducible assumption | with_reducible exact And.left (by first | with_reducible assumption | with_reducible exact And.right (by first | with_reducible assumption | with_reducible exact And.right (by first | with_reducible assumption | with_reducible exact And.right (by first | with_reducible assumption | with_reducible exact And.right (by first | with_reducible assumption | with_reducible exact And.right (by first | with_reducible assumption | with_reducible exact And.right (by first | with_reducible assumption | with_reducible exact And.right (by first | with_reducible assumption | with_reducible exact And.right (by first | with_reducible assumption | with_reducible exact And.right (by first | with_reducible assumption | with_reducible exact And.right (by first | with_reducible assumption | with_reducible exact And.right (by first | with_reducible assumption | with_reducible exact And.right (by first | with_reducible assumption | with_reducible exact And.right (by first | with_reducible assumption | with_reducible exact And.right (by first | with_reducible assumption | with_reducible exact And.right (by first | with_reducible assumption | with_reducible exact And.right (by first | with_reducible assumption | with_reducible exact And.right (by first | with_reducible assumption | with_reducible exact And.right (by first | with_reducible assumption | with_reducible exact And.right (by first | with_reducible assumption | with_reducible exact And.right (by first | with_reducible assumption | with_reducible exact And.right (by first | with_reducible assumption | with_reducible exact And.right (by with_reducible assumption)))))))))))))))))))))))))
  (k_with "execs cons" => (k_here; (fail_if_success (fail_if_success k_gentoks)); (with_reducible refine gen_toks ?_); intro tk))
  (k_with "execs nil" => (k_here; (fail_if_success (fail_if_success k_gentoks)); (with_reducible refine gen_toks ?_); intro tk))
  w_top off
  trivial
section
variable {prog : Program} {w : World} {A : Around} {E : Value → Shared → Prop} {s : Shared} {env : Env} {h₀ : Heap} {target : Expr} {body : List Stmt} {Q : Flow → Shared → Prop}
theorem itemsRest_ind {I : Addr} {keep : Led} (J : List Value → (Str → Option Value) → Led → Prop)
    (step : ∀ v r m news, J (v :: r) m news → ∀ h tk (it : Obj), it.cls = .type "list_iterator" → Fr h₀ env.locals h m → News h₀ env.locals h ((I, it) :: news) →
      wpAny (model prog w) A (assign target env v) (fun _ s₂ => wpAny (model prog w) A (execs body env) (UnrPostW h₀ env.locals { s with heap := h, toks := tk } [(I, it)] (fun m' n' => SubL keep n' ∧ J r m' n') Q) E s₂) E { s with heap := h, toks := tk })
    (done : ∀ m news, J [] m news → ∀ h tk, Fr h₀ env.locals h m → News h₀ env.locals h news → Q .next { s with heap := h, toks := tk }) :
    ∀ (vs : List Value) m news, J vs m news → ItemsRest prog w A E h₀ env target body Q s [(I, "list_iterator")] keep (vs.map .val) m news
  | [], m, news, hj => done m news hj
  | v :: r, m, news, hj => by
    refine ItemsRest.val fun h tk F => AllObj.cons fun it hc => AllObj.nil fun N => ?_
    refine wpAny_mono (step v r m news hj h tk it hc F N) (fun _ s₂ p => wpAny_mono p (fun f s₃ q => ?_) fun _ _ e => e) fun _ _ e => e
    have fin : UnrEndW h₀ env.locals { s with heap := h, toks := tk } [(I, it)] (fun m' n' => SubL keep n' ∧ J r m' n') s₃ →
        UnrEndW h₀ env.locals { s with heap := h, toks := tk } [(I, it)] (fun m' n' => SubL keep n' ∧ ItemsRest prog w A E h₀ env target body Q s [(I, "list_iterator")] keep (r.map .val) m' n') s₃ := by
      rintro ⟨h', tk', m', n', e, F', N', o, hk, hj'⟩
      exact ⟨h', tk', m', n', e, F', N', o, hk, itemsRest_ind J step done r m' n' hj'⟩
    cases f with
    | ret v => exact q
    | brk => exact q
    | next => exact fin q
    | cont => exact fin q
/-- a loop over a list of the ledger, whatever its target -/
theorem list_turns (J : List Value → (Str → Option Value) → Led → Prop) {ax : Addr} {n : Nat} {vs : List Value} {m₀ : Str → Option Value} {news : Led}
    (hh : A.handled = none) (F : Fr h₀ env.locals s.heap m₀) (N : News h₀ env.locals s.heap news) (hm : (ax, W.listOf vs.toArray n) ∈ news)
    (hJ : J vs m₀ news) (keepJ : ∀ us m nw, J us m nw → (ax, W.listOf vs.toArray n) ∈ nw)
    (turn : ∀ I v r m news', (∀ p ∈ news, p.1 < I) → J (v :: r) m news' → ∀ h tk (it : Obj), it.cls = .type "list_iterator" → Fr h₀ env.locals h m → News h₀ env.locals h ((I, it) :: news') →
      wpAny (model prog w) A (assign target env v) (fun _ s₂ => wpAny (model prog w) A (execs body env) (fun f s₃ => match f with
        | .ret v => Q (.ret v) s₃
        | .brk => Q .next s₃
        | _ => Wrap (REnd h₀ env.locals { s with heap := h, toks := tk } I it (fun m' n' => (∀ p ∈ n', p.1 ≠ I) ∧ J r m' n') s₃)) E s₂) E { s with heap := h, toks := tk })
    (done : ∀ m news', J [] m news' → ∀ h tk, Fr h₀ env.locals h m → News h₀ env.locals h news' → Q .next { s with heap := h, toks := tk }) :
    wpAny (model prog w) A (pyIter (.ref ax)) (fun it s₂ => TurnsAt prog w A h₀ env target body Q E it s₂) E s := by
  refine iter_listTurns hh F N hm rfl rfl fun I hI => ?_
  refine itemsRest_ind J ?_ done vs m₀ news hJ
  intro v r m news' hj h tk it hc F' N'
  refine wpAny_mono (turn I v r m news' hI hj h tk it hc F' N') (fun _ s₂ p => wpAny_mono p (fun f s₃ q => ?_) fun _ _ e => e) fun _ _ e => e
  have fin : Wrap (REnd h₀ env.locals { s with heap := h, toks := tk } I it (fun m' n' => (∀ p ∈ n', p.1 ≠ I) ∧ J r m' n') s₃) →
      UnrEndW h₀ env.locals { s with heap := h, toks := tk } [(I, it)] (fun m' n' => SubL [(ax, W.listOf vs.toArray n)] n' ∧ J r m' n') s₃ := by
    rintro ⟨h', tk', m', n', e, F', N', ho, hj'⟩
    exact ⟨h', tk', m', n', e, F', N', fun p hp q hq => by rw [List.mem_singleton.mp hq]; exact ho p hp, ⟨keepJ _ _ _ hj', trivial⟩, hj'⟩
  cases f with
  | ret v => exact q
  | brk => exact q
  | next => exact fin q
  | cont => exact fin q
end
set_option genInjectivity false in
set_option genSizeOf false in
/-- a row of the law's own: its place, its kind, its time -/
structure RT where
  a : Addr
  sp : Int
  ts : Tok
  kind : Str
  tk : Tok
  dat : Value
noncomputable abbrev robj (r : RT) : Obj := { cls := .type "tuple", data := .seq #[.int r.sp r.ts, .str r.kind r.tk, r.dat] }
noncomputable def rtl (rs : List RT) (rest : Led) : Led := rs.foldr (fun r l => (r.a, robj r) :: l) rest
noncomputable def rtv (rs : List RT) : List Value := rs.map fun r => .ref r.a
noncomputable def isD (r : RT) : Bool := r.kind == "delay"
noncomputable def dl (rs : List RT) : List RT := rs.filter isD
noncomputable def dOf (r : RT) : Int := match r.dat with
  | .int d _ => d
  | _ => 0
/-- a row's time is an int where it is a delay -/
noncomputable def OkR (r : RT) : Prop := isD r = true → ∃ d t, r.dat = .int d t
theorem mem_rtl {rs : List RT} {rest : Led} {p : Addr × Obj} : p ∈ rtl rs rest ↔ (∃ r ∈ rs, p = (r.a, robj r)) ∨ p ∈ rest := by
  induction rs with
  | nil => simp [rtl]
  | cons r rs ih =>
    have e : rtl (r :: rs) rest = (r.a, robj r) :: rtl rs rest := rfl
    rw [e, List.mem_cons, ih]
    simp only [List.mem_cons, exists_eq_or_imp]
    constructor
    · rintro (h | h | h)
      · exact .inl (.inl h)
      · exact .inl (.inr h)
      · exact .inr h
    · rintro ((h | h) | h)
      · exact .inl h
      · exact .inr (.inl h)
      · exact .inr (.inr h)
/-- the first of the least -/
noncomputable def First (f : Nat → Option Int) (i : Nat) : Prop := ∃ d, f i = some d ∧ ∀ (j : Nat) (e : Int), f j = some e → d ≤ e ∧ (j < i → d < e)
theorem First.eq {f : Nat → Option Int} {i j : Nat} (h : First f i) (k : First f j) : i = j := by
  obtain ⟨d, hd, h1⟩ := h
  obtain ⟨e, he, k1⟩ := k
  have a1 := h1 j e he
  have a2 := k1 i d hd
  rcases Nat.lt_trichotomy i j with hlt | hlt | hlt
  · have := a2.2 hlt; omega
  · exact hlt
  · have := a1.2 hlt; omega
noncomputable def dAt (rs : List RT) (i : Nat) : Option Int := ((dl rs)[i]?).map dOf
theorem dl_snoc (rs : List RT) (r : RT) : dl (rs ++ [r]) = dl rs ++ (if isD r = true then [r] else []) := by
  unfold dl
  rw [List.filter_append]
  congr 1
  cases h : isD r <;> simp [h]
theorem dAt_snoc {rs : List RT} {r : RT} (hr : isD r = true) (j : Nat) (e : Int) (h : dAt (rs ++ [r]) j = some e) : (j < (dl rs).length ∧ dAt rs j = some e) ∨ (j = (dl rs).length ∧ e = dOf r) := by
  unfold dAt at h ⊢
  rw [dl_snoc, if_pos hr] at h
  by_cases hj : j < (dl rs).length
  · rw [List.getElem?_append_left hj] at h
    exact .inl ⟨hj, h⟩
  · by_cases e2 : j = (dl rs).length
    · subst e2
      rw [List.getElem?_append_right (Nat.le_refl _), Nat.sub_self] at h
      exact .inr ⟨rfl, (Option.some.inj h).symm⟩
    · rw [List.getElem?_eq_none (by rw [List.length_append, List.length_singleton]; omega)] at h
      cases h
theorem dAt_old {rs : List RT} {r : RT} {j : Nat} {e : Int} (h : dAt rs j = some e) : dAt (rs ++ [r]) j = some e := by
  unfold dAt at h ⊢
  obtain ⟨x, hx, he⟩ := Option.map_eq_some_iff.mp h
  rw [dl_snoc, List.getElem?_append_left (List.getElem?_eq_some_iff.mp hx).1, hx, Option.map_some, he]
theorem dAt_new {rs : List RT} {r : RT} (hr : isD r = true) : dAt (rs ++ [r]) (dl rs).length = some (dOf r) := by
  unfold dAt
  rw [dl_snoc, if_pos hr, List.getElem?_append_right (Nat.le_refl _), Nat.sub_self]; rfl
theorem dAt_lt {rs : List RT} {j : Nat} {e : Int} (h : dAt rs j = some e) : j < (dl rs).length := by
  unfold dAt at h
  obtain ⟨x, hx, -⟩ := Option.map_eq_some_iff.mp h
  exact (List.getElem?_eq_some_iff.mp hx).1
/-- the best of the rows so far -/
noncomputable def Best (rs : List RT) (r : RT) : Prop := ∃ i, (dl rs)[i]? = some r ∧ First (dAt rs) i
theorem Best.skip {rs : List RT} {r x : RT} (h : Best rs r) (hx : isD x = false) : Best (rs ++ [x]) r := by
  have e : dl (rs ++ [x]) = dl rs := by rw [dl_snoc, if_neg (by rw [hx]; exact Bool.false_ne_true), List.append_nil]
  obtain ⟨i, hi, hf⟩ := h
  refine ⟨i, by rw [e]; exact hi, ?_⟩
  unfold dAt at hf ⊢
  rw [e]; exact hf
theorem Best.keep {rs : List RT} {r x : RT} (h : Best rs r) (hx : isD x = true) (hd : dOf r ≤ dOf x) : Best (rs ++ [x]) r := by
  obtain ⟨i, hi, d, hd0, h1⟩ := h
  have ed : d = dOf r := by
    unfold dAt at hd0
    rw [hi] at hd0
    exact (Option.some.inj hd0).symm
  refine ⟨i, by rw [dl_snoc, if_pos hx, List.getElem?_append_left (List.getElem?_eq_some_iff.mp hi).1]; exact hi, d, dAt_old hd0, fun j e he => ?_⟩
  rcases dAt_snoc hx j e he with ⟨hj, he⟩ | ⟨hj, rfl⟩
  · exact h1 j e he
  · refine ⟨by omega, fun hlt => ?_⟩
    have := dAt_lt hd0
    omega
theorem Best.take {rs : List RT} {x : RT} (hx : isD x = true) (hd : ∀ (j : Nat) (e : Int), dAt rs j = some e → dOf x < e) : Best (rs ++ [x]) x := by
  refine ⟨(dl rs).length, by rw [dl_snoc, if_pos hx, List.getElem?_append_right (Nat.le_refl _), Nat.sub_self]; rfl, dOf x, dAt_new hx, fun j e he => ?_⟩
  rcases dAt_snoc hx j e he with ⟨hj, he⟩ | ⟨hj, rfl⟩
  · have := hd j e he
    exact ⟨by omega, fun _ => this⟩
  · exact ⟨Int.le_refl _, fun hlt => by omega⟩
theorem Best.less {rs : List RT} {r x : RT} (h : Best rs r) (hd : dOf x < dOf r) : ∀ (j : Nat) (e : Int), dAt rs j = some e → dOf x < e := by
  obtain ⟨i, hi, d, hd0, h1⟩ := h
  have ed : d = dOf r := by
    unfold dAt at hd0
    rw [hi] at hd0
    exact (Option.some.inj hd0).symm
  intro j e he
  have := (h1 j e he).1
  omega
theorem freshS16 : True := by
  k_with_none
  (k_with "CJ" => (first | with_reducible assumption | with_reducible exact And.left (by first | with_reducible assumption | with_reducible exact And.right (by first | with_reducible assumption | with_reducible exact And.right (by first | with_reducible assumption | with_reducible exact And.right (by first | with_reducible assumption | with_reducible exact And.right (by first | with_reducible assumption | with_reducible exact And.right (by first | with_reducible assumption | with_reducible exact And.right (by first | with_reducible assumption | with_reducible exact And.right (by first | with_reducible assumption | with_reducible exact And.right (by first | with_reducible assumption | with_reducible exact And.right (by first | with_reducible assumption | with_reducible exact And.right (by first | with_reducible assumption | with_reducible exact And.right (by first | with_reducible assumption | with_reducible exact And.right (by first | with_reducible assumption | with_reducible exact And.right (by first | with_reducible assumption | with_reducible exact And.right (by first | with_reducible assumption | with_reducible exact And.right (by first | with_reducible assumption | with_reducible exact And.right (by first | with_reducible assumption | with_reducible exact And.right (by first | with_reducible assumption | with_reducible exact And.right (by first | with_reducible assumption | with_reducible exact And.right (by first | with_reducible assumption | with_reducible exact And.right (by first | with_reducible assumption | with_reducible exact And.right (by first | with_reducible assumption | with_reducible exact And.right (by with_reducible assumption)))))))))))))))))))))))))
  (k_with "execs cons" => (k_here; (fail_if_success (fail_if_success k_gentoks)); (with_reducible refine gen_toks ?_); intro tk))
  (k_with "execs nil" => (k_here; (fail_if_success (fail_if_success k_gentoks)); (with_reducible refine gen_toks ?_); intro tk))
  w_top off
  trivial
theorem rulesS16x1 : True := by
  (k_with "compareOp Eq str str" => (first | refine eqs_ff (by first | decide | (dsimp only; decide)) ?_ | refine eqs_tt (by first | decide | (dsimp only; decide)) ?_))
  (k_with "compareOp NotEq str str" => (first | refine nes_ff (by first | decide | (dsimp only; decide)) ?_ | refine nes_tt (by first | decide | (dsimp only; decide)) ?_))
  (k_with "exec" => ((k_here; (with_reducible show wpAny _ _ (exec (Stmt.While _ _ _ _) _) _ _ _); k_dflt (refine whl_startW ?_))))
  (k_with "WhlW" => ((dsimp only [WhlW])))
  (k_with "exec For Name Name cons nil" => (walk_at "WHOLE1"))
  (k_with "pyIter ref" => ((refine Wrap.out ?_)))
  (k_with "call ref" => ((k_here; (with_reducible show wpAny _ _ (call (Value.ref 410) _) _ _ _); k_dflt (refine' Spec.use (figure_spec ?u1 ?g1 ?g2) ?k1 ?k2 ?k3 ?k4 ?k5 ?k6 ?k7 ?k8 ?k9 ?_; (case k4 => k_asm); (case k1 => k_asm); (case k2 => k_asm); (case k3 => k_asm); (case k5 => k_asm); (case k8 => exact rfl); (case k6 => exact rfl); (case k7 => exact Nat.le_of_ble_eq_true rfl); (case k9 => exact Nat.le_of_ble_eq_true rfl); (case u1 => k_updF); (case g1 => assumption); (case g2 => omega)); refine cpsF ?_; walk_at "TAIL6")))
  (k_with "call ref" => ((k_here; (with_reducible show wpAny _ _ (call (Value.ref 49) _) _ _ _); k_dflt (refine' Spec.use (next_nil _ _ _ ?g1) ?k1 ?k2 ?k3 ?k4 ?k5 ?k6 ?k7 ?k8 ?k9 ?_; (case k4 => k_asm); (case k1 => k_asm); (case k2 => k_asm); (case k3 => k_asm); (case k5 => k_asm); (case k8 => exact rfl); (case k6 => exact rfl); (case k7 => exact Nat.le_of_ble_eq_true rfl); (case k9 => exact Nat.le_of_ble_eq_true rfl); (case g1 => k_mem); skip); refine cps2 ?_; walk_at "TAIL3")))
  (k_with "call ref" => ((k_here; (with_reducible show wpAny _ _ (call (Value.ref 49) _) _ _ _); k_dflt (refine' Spec.use (next_404 _ _ _ _ _ ?g1) ?k1 ?k2 ?k3 ?k4 ?k5 ?k6 ?k7 ?k8 ?k9 ?_; (case k4 => k_asm); (case k1 => k_asm); (case k2 => k_asm); (case k3 => k_asm); (case k5 => k_asm); (case k8 => exact rfl); (case k6 => exact rfl); (case k7 => exact Nat.le_of_ble_eq_true rfl); (case k9 => exact Nat.le_of_ble_eq_true rfl); (case g1 => k_mem); skip); refine cps2 ?_; walk_at "TAIL3")))
  (k_with "call type:range" => (walk_at "WHOLE3"))
  (k_with "CompSrc" => (walk_at "WHOLE4"))
  (k_with "CompSrcT" => (walk_at "WHOLE5"))
  (k_with "call builtin:len" => ((k_here; k_dflt (refine' lenS ?N ?m ?z ?_; (case N => k_asm); (case m => k_mem); (case z => assumption)))))
  (k_with "truthy ref" => ((k_here; k_dflt (refine' truthS ?N ?m ?z ?_; (case N => k_asm); (case m => k_mem); (case z => assumption)))))
  (k_with "subscriptTail" => ((k_here; (with_reducible show wpAny _ _ (subscriptTail _ _ (Value.ref (LC.SL _)) _) _ _ _); k_dflt (refine' item_spec ?k1 ?k2 ?k3 ?k4 ?k5 ?k6 ?_; (case k6 => assumption); (case k1 => k_asm); (case k2 => k_asm); (case k3 => k_mem); (case k4 => first | assumption | omega); (case k5 => omega)))))
  (k_with "call ref" => ((k_here; (with_reducible show wpAny _ _ (call (Value.ref 403) _) _ _ _); refine Wrap.out ?_)))
  (k_with "call ref" => ((k_here; (with_reducible show wpAny _ _ (call (Value.ref 284) _) _ _ _); refine Wrap.out ?_)))
  (k_with "call ref" => ((k_here; (with_reducible show wpAny _ _ (call (Value.ref 209) _) _ _ _); refine Wrap.out ?_)))
  (k_with "subscriptTail" => ((k_here; (with_reducible show wpAny _ _ (subscriptTail _ _ (Value.ref (CH.RR _)) _) _ _ _); k_dflt (refine' item_last ?k2 ?k3 ?k4 ?_; (case k2 => k_asm); (case k3 => k_mem); (case k4 => assumption)))))
  (k_with "subscriptTail" => ((k_here; (with_reducible show wpAny _ _ (subscriptTail _ _ (Value.ref (LC.AT _)) (Value.int _ _)) _ _ _); k_dflt (refine' PySem.W.ksa_sub ?k1 ?k2 ?k3 ?k4 ?k5 ?k6 ?_ ?k7; (case k1 => k_asm); (case k2 => k_mem); (case k3 => with_reducible assumption); (case k4 => first | assumption | omega); (case k5 => omega); (case k6 => omega); (case k7 => with_unfolding_all rfl); k_whole); walk_at "TAIL12")))
  (k_with "subscriptTail" => ((k_here; (with_reducible show wpAny _ _ (subscriptTail _ _ (Value.ref (LC.DU _)) (Value.int _ _)) _ _ _); k_dflt (refine' PySem.W.ksa_sub ?k1 ?k2 ?k3 ?k4 ?k5 ?k6 ?_ ?k7; (case k1 => k_asm); (case k2 => k_mem); (case k3 => with_reducible assumption); (case k4 => first | assumption | omega); (case k5 => omega); (case k6 => omega); (case k7 => with_unfolding_all rfl); k_whole); walk_at "TAIL12")))
  (k_with "subscriptTail" => ((k_here; (with_reducible show wpAny _ _ (subscriptTail _ _ (Value.ref (RW.a _)) (Value.int _ _)) _ _ _); k_dflt (refine' PySem.W.ksa_sub ?k1 ?k2 ?k3 ?k4 ?k5 ?k6 ?_ ?k7; (case k1 => k_asm); (case k2 => k_mem); (case k3 => with_reducible assumption); (case k4 => first | assumption | omega); (case k5 => omega); (case k6 => omega); (case k7 => with_unfolding_all rfl); k_whole); walk_at "TAIL12")))
  (k_with "setItem ref int" => ((k_here; (with_reducible show wpAny _ _ (setItem (Value.ref _) (Value.int _ _) (Value.int _ _)) _ _ _); k_dflt (refine' PySem.W.ksa_set ?k1 ?k2 ?k3 ?k4 ?k5 ?k6 ?k7 ?_; (case k1 => k_asm); (case k2 => k_asm); (case k3 => k_upd); (case k4 => with_reducible assumption); (case k5 => first | assumption | omega); (case k6 => omega); (case k7 => omega); k_whole); walk_at "TAIL13")))
  (k_with "compareOp NotEq ref ref" => ((k_here; k_dflt (refine' neL_same ?k1 ?k2 ?k3 ?k4 ?k5 ?k6 ?_; (case k1 => k_asm); (case k2 => k_mem); (case k3 => k_mem); (case k4 => with_reducible assumption); (case k5 => with_reducible assumption); (case k6 => exact Nat.le_of_ble_eq_true rfl)))))
  (k_with "compareOp Eq ref ref" => ((k_here; k_dflt (first | (refine' eqL_nil ?k1 ?k2 ?k3 ?k4 ?k5 ?k6 ?_; (case k1 => k_asm); (case k2 => k_mem); (case k3 => k_mem); (case k4 => with_reducible assumption); (case k5 => with_reducible assumption); (case k6 => exact Nat.le_of_ble_eq_true rfl)) | (refine' eqL_cons ?k1 ?k2 ?k3 ?k4 ?k5 ?k6 ?_; (case k1 => k_asm); (case k2 => k_mem); (case k3 => k_mem); (case k4 => with_reducible assumption); (case k5 => with_reducible assumption); (case k6 => exact Nat.le_of_ble_eq_true rfl))))))
  (k_with "compareOp Eq str str" => (first | refine eqs_ff (by first | assumption | decide | (dsimp only; decide)) ?_ | refine eqs_tt (by first | assumption | decide | (dsimp only; decide)) ?_))
  trivial
local macro_rules | `(tactic| walk_at "WHOLE6") => `(tactic| (k_here; (rename Fr _ _ _ _ => lF'); (with_unfolding_all refine' For_turns lF' ?_; k_whole)))
theorem rulesS16x2 : True := by
  (k_with "exec For Tuple Name cons nil" => (walk_at "WHOLE6"))
  trivial
noncomputable abbrev bobj (x : RT) : Obj := { cls := .type "tuple", data := .seq #[.int x.sp x.ts, x.dat] }
theorem least_spec {w : World} (RL : Addr) (n : Nat) (rs : List RT) (rest : Led) (hok : ∀ r ∈ rs, OkR r) :
    Spec w 395 950 70 [.ref RL] ((RL, W.listOf (rtv rs).toArray n) :: rtl rs rest) fun r l =>
      (dl rs = [] ∧ r = .none ∧ l = (RL, W.listOf (rtv rs).toArray n) :: rtl rs rest) ∨ (∃ (b : Addr) (x : RT), Best rs x ∧ r = .ref b ∧ l = (b, bobj x) :: (RL, W.listOf (rtv rs).toArray n) :: rtl rs rest) := by
  intro pr loose mean mg mb cn cnm cig cic cmo a ccd cl outer A₀ base h₀ L m s Q E B F X N T hret
  have hMk : MarkW := trivial
  replace hret := wrap_in hret
  obtain ⟨Z, hZ⟩ : ∃ Z : Led, Z = (RL, W.listOf (rtv rs).toArray n) :: rtl rs rest := ⟨_, rfl⟩
  rw [← hZ] at N hret
  k_steps
  rename News _ _ _ _ => lN
  rename Fr _ _ _ _ => lF
  have hZm : (RL, W.listOf (rtv rs).toArray n) ∈ Z := by rw [hZ]; exact .head _
  refine wrap_in (list_turns (fun us m news => ∃ (dn rem : List RT), rs = dn ++ rem ∧ us = rtv rem ∧ ((dl dn = [] ∧ (∃ M : Str → Option Value, m = fun y : Str => if y = "best" then some .none else M y) ∧ news = Z) ∨
      (∃ (b : Addr) (x : RT) (M : Str → Option Value), Best dn x ∧ OkR x ∧ isD x = true ∧ (m = fun y : Str => if y = "best" then some (.ref b) else M y) ∧ news = (b, bobj x) :: Z))) (by rfl) lF lN hZm ⟨[], rs, rfl, rfl, .inl ⟨rfl, ⟨_, rfl⟩, rfl⟩⟩ ?_ ?_ ?_)
  · rintro us m nw ⟨dn, rem, -, -, ⟨-, -, rfl⟩ | ⟨b, x, M, -, -, -, -, rfl⟩⟩
    · exact hZm
    · exact .tail _ hZm
  · rintro It v rr m news' hIt ⟨dn, rem, hrs, hus, hbest⟩ h tk it hit F₁ N₁
    obtain ⟨⟨ra, sp, ts, kind, tkk, dat⟩, rem', rfl, rfl, rfl⟩ : ∃ r rem', rem = r :: rem' ∧ v = .ref r.a ∧ rr = rtv rem' := by
      cases rem with
      | nil => cases hus
      | cons r rem' => exact ⟨r, rem', rfl, (List.cons.inj hus).1, (List.cons.inj hus).2⟩
    have hor := hok _ (by rw [hrs]; simp : (⟨ra, sp, ts, kind, tkk, dat⟩ : RT) ∈ rs)
    have hrm : (ra, robj ⟨ra, sp, ts, kind, tkk, dat⟩) ∈ Z := by rw [hZ]; exact .tail _ (mem_rtl.mpr (.inl ⟨⟨ra, sp, ts, kind, tkk, dat⟩, by rw [hrs]; simp, rfl⟩))
    have hIZ : ∀ p ∈ Z, @Ne Nat p.1 It := fun p hp => Nat.ne_of_lt (hIt p hp)
    have hrs' : rs = (dn ++ [⟨ra, sp, ts, kind, tkk, dat⟩]) ++ rem' := by rw [hrs, List.append_assoc]; rfl
    have apart : ∀ {gG : Heap} {lG : Addr} {h : Heap} {l : Led} {b : Addr} {o : Obj} {it' : Obj}, News gG lG h l → (b, o) ∈ l → (It, it') ∈ l → o.cls = .type "tuple" → it'.cls = .type "list_iterator" → @Ne Nat b It := fun N h1 h2 c1 c2 => cls_apart N h1 h2 (by rw [c1, c2]; decide)
    cases hk : isD ⟨ra, sp, ts, kind, tkk, dat⟩ with
    | false =>
      have hkk : (kind == "delay") = false := hk
      rcases hbest with ⟨hd0, ⟨M, rfl⟩, hnw⟩ | ⟨b, x, M, hbx, hox, hdx, rfl, hnw⟩ <;> rw [hnw] at N₁
      · have N2 := News.snoc (p := (ra, robj ⟨ra, sp, ts, kind, tkk, dat⟩)) N₁ (.tail _ hrm) (fun _ h => h)
        clear N₁
        k_steps
        rename News _ _ _ _ => lN3
        rename Fr _ _ _ _ => lF3
        show Wrap _
        refine wrap_in ⟨_, _, _, Z, rfl, fr_top "best" _ lF3 rfl, News.tl lN3, hIZ, dn ++ [⟨ra, sp, ts, kind, tkk, dat⟩], rem', hrs', rfl, .inl ⟨by rw [dl_snoc, hd0, hk]; rfl, ⟨_, rfl⟩, rfl⟩⟩
      · have N2 := News.snoc (p := (ra, robj ⟨ra, sp, ts, kind, tkk, dat⟩)) N₁ (.tail _ (.tail _ hrm)) (fun _ h => h)
        have hbI : @Ne Nat b It := apart N₁ (.tail _ (.head _)) (.head _) rfl hit
        clear N₁
        k_steps
        rename News _ _ _ _ => lN3
        rename Fr _ _ _ _ => lF3
        show Wrap _
        refine wrap_in ⟨_, _, _, (b, bobj x) :: Z, rfl, fr_top "best" _ lF3 rfl, News.tl lN3, fun p hp => ?_, dn ++ [⟨ra, sp, ts, kind, tkk, dat⟩], rem', hrs', rfl, .inr ⟨b, x, _, hbx.skip hk, hox, hdx, rfl, rfl⟩⟩
        rcases List.mem_cons.mp hp with rfl | hp
        · exact hbI
        · exact hIZ p hp
    | true =>
      have hkk : (kind == "delay") = true := hk
      obtain ⟨d, td, rfl⟩ : ∃ d t, dat = .int d t := hor hk
      rcases hbest with ⟨hd0, ⟨M, rfl⟩, hnw⟩ | ⟨b, x, M, hbx, hox, hdx, rfl, hnw⟩ <;> rw [hnw] at N₁
      · have N2 := News.snoc (p := (ra, robj ⟨ra, sp, ts, kind, tkk, .int d td⟩)) N₁ (.tail _ hrm) (fun _ h => h)
        clear N₁
        k_steps
        rename News _ _ _ _ => lN3
        rename Fr _ _ _ _ => lF3
        refine wrap_in ⟨_, _, _, (_, bobj ⟨ra, sp, ts, kind, tkk, .int d td⟩) :: Z, rfl, fr_top "best" _ lF3 rfl, News.sub lN3 fun p hp => ?_, fun p hp => ?_, dn ++ [⟨ra, sp, ts, kind, tkk, .int d td⟩], rem', hrs', rfl, .inr ⟨_, ⟨ra, sp, ts, kind, tkk, .int d td⟩, _, Best.take hk (fun j e he => ?_), hor, hk, rfl, rfl⟩⟩
        · rcases List.mem_cons.mp hp with rfl | hp
          · exact .tail _ (.tail _ (.head _))
          rcases List.mem_cons.mp hp with rfl | hp
          · exact .head _
          · exact .tail _ (.tail _ (.tail _ hp))
        · rcases List.mem_cons.mp hp with rfl | hp
          · exact apart lN3 (.head _) (.tail _ (.tail _ (.head _))) rfl hit
          · exact hIZ p hp
        · have := dAt_lt he
          rw [hd0] at this
          exact absurd this (Nat.not_lt_zero _)
      · obtain ⟨xa, xsp, xts, xk, xtk, xdat⟩ := x
        obtain ⟨xd, xtd, rfl⟩ : ∃ d t, xdat = .int d t := hox hdx
        have N2 := News.snoc (p := (ra, robj ⟨ra, sp, ts, kind, tkk, .int d td⟩)) N₁ (.tail _ (.tail _ hrm)) (fun _ h => h)
        have hbI : @Ne Nat b It := apart N₁ (.tail _ (.head _)) (.head _) rfl hit
        clear N₁
        k_steps
        · rename (_ : Int) < _ => hlt
          rename News _ _ _ _ => lN3
          rename Fr _ _ _ _ => lF3
          refine wrap_in ⟨_, _, _, (_, bobj ⟨ra, sp, ts, kind, tkk, .int d td⟩) :: Z, rfl, fr_top "best" _ lF3 rfl, News.sub lN3 fun p hp => ?_, fun p hp => ?_, dn ++ [⟨ra, sp, ts, kind, tkk, .int d td⟩], rem', hrs', rfl, .inr ⟨_, ⟨ra, sp, ts, kind, tkk, .int d td⟩, _, Best.take hk (hbx.less (x := ⟨ra, sp, ts, kind, tkk, .int d td⟩) hlt), hor, hk, rfl, rfl⟩⟩
          · rcases List.mem_cons.mp hp with rfl | hp
            · exact .tail _ (.tail _ (.head _))
            rcases List.mem_cons.mp hp with rfl | hp
            · exact .head _
            · exact .tail _ (.tail _ (.tail _ (.tail _ hp)))
          · rcases List.mem_cons.mp hp with rfl | hp
            · exact apart lN3 (.head _) (.tail _ (.tail _ (.head _))) rfl hit
            · exact hIZ p hp
        · rename ¬ _ => hle
          rename News _ _ _ _ => lN3
          rename Fr _ _ _ _ => lF3
          refine wrap_in ⟨_, _, _, (b, bobj ⟨xa, xsp, xts, xk, xtk, .int xd xtd⟩) :: Z, rfl, fr_top "best" _ lF3 rfl, News.tl lN3, fun p hp => ?_, dn ++ [⟨ra, sp, ts, kind, tkk, .int d td⟩], rem', hrs', rfl, .inr ⟨b, ⟨xa, xsp, xts, xk, xtk, .int xd xtd⟩, _, hbx.keep (x := ⟨ra, sp, ts, kind, tkk, .int d td⟩) hk (show xd ≤ d by omega), hox, hdx, rfl, rfl⟩⟩
          rcases List.mem_cons.mp hp with rfl | hp
          · exact hbI
          · exact hIZ p hp
  · rintro m₁ _ ⟨dn, rem, hrs, hus, hbest⟩ h₁ tk₁ F₁ N₁
    have hr0 : rem = [] := by
      cases rem with
      | nil => rfl
      | cons _ _ => cases hus
    rw [hr0, List.append_nil] at hrs
    rw [← hrs] at hbest
    rcases hbest with ⟨hd0, ⟨M, rfl⟩, rfl⟩ | ⟨b, x, M, hbx, hox, hdx, rfl, rfl⟩
    · k_steps
      exact hret _ _ _ _ (.inl ⟨hd0, rfl, rfl⟩) (by assumption) (by assumption)
    · k_steps
      exact hret _ _ _ _ (.inr ⟨b, x, hbx, rfl, rfl⟩) (by assumption) (by assumption)
theorem freshL17 : True := by
  k_with_none
  (k_with "CJ" => (first | with_reducible assumption | with_reducible exact And.left (by first | with_reducible assumption | with_reducible exact And.right (by first | with_reducible assumption | with_reducible exact And.right (by first | with_reducible assumption | with_reducible exact And.right (by first | with_reducible assumption | with_reducible exact And.right (by first | with_reducible assumption | with_reducible exact And.right (by first | with_reducible assumption | with_reducible exact And.right (by first | with_reducible assumption | with_reducible exact And.right (by first | with_reducible assumption | with_reducible exact And.right (by first | with_reducible assumption | with_reducible exact And.right (by first | with_reducible assumption | with_reducible exact And.right (by first | with_reducible assumption | with_reducible exact And.right (by first | with_reducible assumption | with_reducible exact And.right (by first | with_reducible assumption | with_reducible exact And.right (by first | with_reducible assumption | with_reducible exact And.right (by first | with_reducible assumption | with_reducible exact And.right (by first | with_reducible assumption | with_reducible exact And.right (by first | with_reducible assumption | with_reducible exact And.right (by first | with_reducible assumption | with_reducible exact And.right (by first | with_reducible assumption | with_reducible exact And.right (by first | with_reducible assumption | with_reducible exact And.right (by first | with_reducible assumption | with_reducible exact And.right (by first | with_reducible assumption | with_reducible exact And.right (by with_reducible assumption)))))))))))))))))))))))))
  (k_with "execs cons" => (k_here; (fail_if_success (fail_if_success k_gentoks)); (with_reducible refine gen_toks ?_); intro tk))
  (k_with "execs nil" => (k_here; (fail_if_success (fail_if_success k_gentoks)); (with_reducible refine gen_toks ?_); intro tk))
  w_top off
  trivial
noncomputable def nn (v : Value) : Bool := match v with
  | .none => false
  | _ => true
theorem snoc_ind {α : Type} {P : List α → Prop} (h0 : P []) (h1 : ∀ l a, P l → P (l ++ [a])) (l : List α) : P l := by
  have key : ∀ (r : List α), P r.reverse := fun r => by
    induction r with
    | nil => exact h0
    | cons a r ih => rw [List.reverse_cons]; exact h1 _ _ ih
  have := key l.reverse
  rwa [List.reverse_reverse] at this
theorem least_known {ys : List Value} (h : ∀ y ∈ ys, NI y) : ∃ ns, IntsAre (ys.filter nn) ns ∧ ((ns = [] ∧ leastV ys = .none) ∨ (ns ≠ [] ∧ ∃ i u, leastV ys = .int i u ∧ i ∈ ns ∧ ∀ x ∈ ns, i ≤ x)) := by
  revert h
  refine snoc_ind (P := fun ys => (∀ y ∈ ys, NI y) → ∃ ns, IntsAre (ys.filter nn) ns ∧ ((ns = [] ∧ leastV ys = .none) ∨ (ns ≠ [] ∧ ∃ i u, leastV ys = .int i u ∧ i ∈ ns ∧ ∀ x ∈ ns, i ≤ x))) ?_ ?_ ys
  · exact fun _ => ⟨[], .nil, .inl ⟨rfl, rfl⟩⟩
  · intro ys y ih h
    obtain ⟨ns, hi, hl⟩ := ih fun z hz => h z (List.mem_append_left _ hz)
    rw [leastV_snoc, List.filter_append]
    rcases h y (List.mem_append_right _ (.head _)) with rfl | ⟨j, t, rfl⟩
    · refine ⟨ns, ?_, ?_⟩
      · show IntsAre (ys.filter nn ++ []) ns
        rw [List.append_nil]; exact hi
      · exact hl
    · refine ⟨ns ++ [j], ints_snoc hi, .inr ⟨by simp, ?_⟩⟩
      rcases hl with ⟨rfl, hn⟩ | ⟨hne, i, u, hl, hm, hle⟩
      · rw [hn]
        exact ⟨j, t, rfl, by simp, by simp⟩
      · rw [hl]
        show ∃ i' u', (if j < i then Value.int j t else .int i u) = .int i' u' ∧ _
        by_cases hlt : j < i
        · rw [if_pos hlt]
          refine ⟨j, t, rfl, by simp, fun x hx => ?_⟩
          rcases List.mem_append.mp hx with hx | hx
          · have := hle x hx; omega
          · rw [List.mem_singleton.mp hx]; exact Int.le_refl _
        · rw [if_neg hlt]
          refine ⟨i, u, rfl, List.mem_append_left _ hm, fun x hx => ?_⟩
          rcases List.mem_append.mp hx with hx | hx
          · exact hle x hx
          · rw [List.mem_singleton.mp hx]; omega
section
variable {prog : Program} {w : World} {A : Around} {E : Value → Shared → Prop} {s : Shared} {h₀ : Heap} {L : Addr} {m : Str → Option Value} {env : Env} {elt ct : Expr} {x : Str} {scope : Scope} {cl : List (Str × Addr)} {S : Led → Prop} {P : Nat → Value → Prop} {Fin : List Value → Led → Prop}
/-- a comprehension that lets some of a list's own items through -/
theorem filt_comp (ys₀ : List Value) (c : Value → Bool) (led : Led) (hS : S led) (hP : ∀ i v, P i v → i < ys₀.length → ys₀[i]? = some v)
    (test : ∀ v ∈ ys₀, ∀ C oC m₂ h tk (E' : Value → Shared → Prop) I oI D oD, LCg.NsObj oC m₂ → m₂ x = some v → Fr h₀ L h m → News h₀ L h ((C, oC) :: (I, oI) :: (D, oD) :: led) →
      wpAny (model prog w) A (isTrue ct (compEnvC scope cl C env) (eval ct (compEnvC scope cl C env))) (fun ok s' => Wrap (ok = c v ∧ Ends h₀ L m { s with heap := h, toks := tk } ((C, oC) :: (I, oI) :: (D, oD) :: led) s')) E' { s with heap := h, toks := tk })
    (item : ∀ v ∈ ys₀, c v = true → ∀ C oC m₂ h tk (E' : Value → Shared → Prop) I oI D oD, LCg.NsObj oC m₂ → m₂ x = some v → Fr h₀ L h m → News h₀ L h ((C, oC) :: (I, oI) :: (D, oD) :: led) →
      wpAny (model prog w) A (eval elt (compEnvC scope cl C env)) (fun y s' => Wrap (y = v ∧ Ends h₀ L m { s with heap := h, toks := tk } ((C, oC) :: (I, oI) :: (D, oD) :: led) s')) E' { s with heap := h, toks := tk })
    (done : Fin (ys₀.filter c) led) :
    LCt.CompRestT prog w A h₀ L m env ct elt x scope cl s S P Fin ys₀.length 0 [] led := by
  refine compRestT_ind (n := ys₀.length) (fun i ys news => ys = (ys₀.take i).filter c ∧ news = led) ?_ ?_ _ _ _ _ (by omega) ⟨rfl, rfl⟩
  · rintro i ys news hi ⟨rfl, rfl⟩ v I oI C oC D m₂ h tk E' hv hC hx F N o ne
    have hk := hP i v hv hi
    have hmem : v ∈ ys₀ := List.mem_of_getElem? hk
    have et : (ys₀.take (i + 1)).filter c = (ys₀.take i).filter c ++ (if c v = true then [v] else []) := by
      rw [List.take_add_one, hk, List.filter_append]
      congr 1
      cases hc : c v <;> simp [hc]
    have perm : ∀ (ys : List Value) p, p ∈ (I, oI) :: (C, oC) :: (D, LCg.lst ys) :: news ↔ p ∈ (C, oC) :: (I, oI) :: (D, LCg.lst ys) :: news := fun ys p => (List.Perm.swap _ _ _).mem_iff
    refine wpAny_mono (test v hmem C oC m₂ h tk E' I oI D _ hC hx F (News.sub N fun p hp => (perm _ p).mpr hp)) (fun ok s₂ q => ?_) fun _ _ e => e
    obtain ⟨rfl, h', tk', rfl, F', N'⟩ := q
    cases hc : c v with
    | true =>
      simp only [if_true]
      refine wpAny_mono (item v hmem hc C oC m₂ h' tk' E' I oI D _ hC hx F' N') (fun y s₃ q => ?_) fun _ _ e => e
      obtain ⟨rfl, h'', tk'', rfl, F'', N''⟩ := q
      refine ⟨h'', tk'', news, rfl, F'', News.sub N'' fun p hp => (perm _ p).mp hp, o, hS, ?_, rfl⟩
      rw [et, if_pos hc]
    | false =>
      simp only [Bool.false_eq_true, if_false]
      refine ⟨h', tk', news, rfl, F', News.sub N' fun p hp => (perm _ p).mp hp, o, hS, ?_, rfl⟩
      rw [et, if_neg (by rw [hc]; exact Bool.false_ne_true), List.append_nil]
  · rintro ys news ⟨rfl, rfl⟩
    rw [List.take_length]
    exact done
end
theorem freshL18 : True := by
  k_with_none
  (k_with "CJ" => (first | with_reducible assumption | with_reducible exact And.left (by first | with_reducible assumption | with_reducible exact And.right (by first | with_reducible assumption | with_reducible exact And.right (by first | with_reducible assumption | with_reducible exact And.right (by first | with_reducible assumption | with_reducible exact And.right (by first | with_reducible assumption | with_reducible exact And.right (by first | with_reducible assumption | with_reducible exact And.right (by first | with_reducible assumption | with_reducible exact And.right (by first | with_reducible assumption | with_reducible exact And.right (by first | with_reducible assumption | with_reducible exact And.right (by first | with_reducible assumption | with_reducible exact And.right (by first | with_reducible assumption | with_reducible exact And.right (by first | with_reducible assumption | with_reducible exact And.right (by first | with_reducible assumption | with_reducible exact And.right (by first | with_reducible assumption | with_reducible exact And.right (by first | with_reducible assumption | with_reducible exact And.right (by first | with_reducible assumption | with_reducible exact And.right (by first | with_reducible assumption | with_reducible exact And.right (by first | with_reducible assumption | with_reducible exact And.right (by first | with_reducible assumption | with_reducible exact And.right (by first | with_reducible assumption | with_reducible exact And.right (by first | with_reducible assumption | with_reducible exact And.right (by first | with_reducible assumption | with_reducible exact And.right (by with_reducible assumption)))))))))))))))))))))))))
  (k_with "execs cons" => (k_here; (fail_if_success (fail_if_success k_gentoks)); (with_reducible refine gen_toks ?_); intro tk))
  (k_with "execs nil" => (k_here; (fail_if_success (fail_if_success k_gentoks)); (with_reducible refine gen_toks ?_); intro tk))
  w_top off
  trivial
noncomputable def ptl (ps : List PT) (rest : Led) : Led := ps.foldr (fun p l => (p.a, pobj p) :: l) rest
theorem mem_ptl {ps : List PT} {rest : Led} {p : Addr × Obj} : p ∈ ptl ps rest ↔ (∃ r ∈ ps, p = (r.a, pobj r)) ∨ p ∈ rest := by
  induction ps with
  | nil => simp [ptl]
  | cons r rs ih =>
    have e : ptl (r :: rs) rest = (r.a, pobj r) :: ptl rs rest := rfl
    rw [e, List.mem_cons, ih]
    simp only [List.mem_cons, exists_eq_or_imp]
    constructor
    · rintro (h | h | h)
      · exact .inl (.inl h)
      · exact .inl (.inr h)
      · exact .inr h
    · rintro ((h | h) | h)
      · exact .inl h
      · exact .inr (.inl h)
      · exact .inr (.inr h)
noncomputable def Pair (r : RT) (p : PT) : Prop := r.dat = .int p.d p.td ∧ r.sp = p.sp ∧ r.ts = p.ts
section
variable {prog : Program} {w : World} {A : Around} {E : Value → Shared → Prop} {s : Shared} {h₀ : Heap} {L : Addr} {m : Str → Option Value} {env : Env} {elt ct : Expr} {x : Str} {scope : Scope} {cl : List (Str × Addr)} {S : Led → Prop} {P : Nat → Value → Prop} {Fin : List Value → Led → Prop}
/-- the pairs of the delays -/
theorem pair_comp (rs : List RT) (led : Led) (hS : ∀ ps, S (ptl ps led)) (hok : ∀ r ∈ rs, OkR r) (hrs : ∀ r ∈ rs, (r.a, robj r) ∈ led) (hP : ∀ i v, P i v → i < rs.length → (rtv rs)[i]? = some v)
    (test : ∀ r ∈ rs, ∀ C oC m₂ h tk (E' : Value → Shared → Prop) (Z : Led), LCg.NsObj oC m₂ → m₂ x = some (.ref r.a) → Fr h₀ L h m → News h₀ L h ((r.a, robj r) :: (C, oC) :: Z) →
      wpAny (model prog w) A (isTrue ct (compEnvC scope cl C env) (eval ct (compEnvC scope cl C env))) (fun ok s' => Wrap (ok = isD r ∧ Ends h₀ L m { s with heap := h, toks := tk } ((r.a, robj r) :: (C, oC) :: Z) s')) E' { s with heap := h, toks := tk })
    (item : ∀ r ∈ rs, ∀ d t, r.dat = .int d t → ∀ C oC m₂ h tk (E' : Value → Shared → Prop) (Z : Led), LCg.NsObj oC m₂ → m₂ x = some (.ref r.a) → Fr h₀ L h m → News h₀ L h ((r.a, robj r) :: (C, oC) :: Z) →
      wpAny (model prog w) A (eval elt (compEnvC scope cl C env)) (fun y s' => Wrap (∃ T : Addr, y = .ref T ∧ (∀ q ∈ (C, oC) :: Z, @Ne Nat q.1 T) ∧ Ends h₀ L m { s with heap := h, toks := tk } ((T, pobj ⟨T, d, t, r.sp, r.ts⟩) :: (C, oC) :: Z) s')) E' { s with heap := h, toks := tk })
    (done : ∀ ps, All2 Pair (dl rs) ps → Fin (pvals ps) (ptl ps led)) :
    LCt.CompRestT prog w A h₀ L m env ct elt x scope cl s S P Fin rs.length 0 [] led := by
  refine compRestT_ind (n := rs.length) (fun i ys news => ∃ ps : List PT, ys = pvals ps ∧ news = ptl ps led ∧ All2 Pair (dl (rs.take i)) ps) ?_ ?_ _ _ _ _ (by omega) ⟨[], rfl, rfl, .nil⟩
  · rintro i ys news hi ⟨ps, rfl, rfl, hA⟩ v I oI C oC D m₂ h tk E' hv hC hx F N o ne
    have hk := hP i v hv hi
    rw [rtv, List.getElem?_map] at hk
    obtain ⟨r, hr, rfl⟩ := Option.map_eq_some_iff.mp hk
    have hmem : r ∈ rs := List.mem_of_getElem? hr
    have hrm : (r.a, robj r) ∈ ptl ps led := mem_ptl.mpr (.inr (hrs r hmem))
    have et : dl (rs.take (i + 1)) = dl (rs.take i) ++ (if isD r = true then [r] else []) := by
      rw [List.take_add_one, hr]; exact dl_snoc _ _
    have N2 : News h₀ L h ((r.a, robj r) :: (C, oC) :: (I, oI) :: (D, LCg.lst (pvals ps)) :: ptl ps led) := News.snoc (News.sub N fun p hp => by
      rcases List.mem_cons.mp hp with rfl | hp
      · exact .tail _ (.head _)
      rcases List.mem_cons.mp hp with rfl | hp
      · exact .head _
      · exact .tail _ (.tail _ hp)) (.tail _ (.tail _ (.tail _ hrm))) (fun _ h => h)
    refine wpAny_mono (test r hmem C oC m₂ h tk E' _ hC hx F N2) (fun ok s₂ q => ?_) fun _ _ e => e
    obtain ⟨rfl, h', tk', rfl, F', N'⟩ := q
    cases hd : isD r with
    | true =>
      simp only [if_true]
      obtain ⟨d, t, hdat⟩ := hok r hmem hd
      refine wpAny_mono (item r hmem d t hdat C oC m₂ h' tk' E' _ hC hx F' N') (fun y s₃ q => ?_) fun _ _ e => e
      obtain ⟨T, rfl, hT, h'', tk'', rfl, F'', N''⟩ := q
      have ev : pvals (ps ++ [⟨T, d, t, r.sp, r.ts⟩]) = pvals ps ++ [.ref T] := by simp [pvals]
      refine ⟨h'', tk'', ptl (ps ++ [⟨T, d, t, r.sp, r.ts⟩]) led, rfl, F'', News.sub N'' fun p hp => ?_, LCg.Off3.of fun p hp => ?_, hS _, ps ++ [⟨T, d, t, r.sp, r.ts⟩], ev.symm, rfl, ?_⟩
      · rcases List.mem_cons.mp hp with rfl | hp
        · exact .tail _ (.tail _ (.head _))
        rcases List.mem_cons.mp hp with rfl | hp
        · exact .tail _ (.head _)
        rcases List.mem_cons.mp hp with rfl | hp
        · exact .tail _ (.tail _ (.tail _ (.head _)))
        rcases mem_ptl.mp hp with ⟨p', hp', rfl⟩ | hp
        · rcases List.mem_append.mp hp' with hp' | hp'
          · exact .tail _ (.tail _ (.tail _ (.tail _ (mem_ptl.mpr (.inl ⟨p', hp', rfl⟩)))))
          · rw [List.mem_singleton.mp hp']; exact .head _
        · exact .tail _ (.tail _ (.tail _ (.tail _ (mem_ptl.mpr (.inr hp)))))
      · rcases mem_ptl.mp hp with ⟨p', hp', rfl⟩ | hp
        · rcases List.mem_append.mp hp' with hp' | hp'
          · exact o.mem _ (mem_ptl.mpr (.inl ⟨p', hp', rfl⟩))
          · rw [List.mem_singleton.mp hp']
            exact ⟨Ne.symm (hT (I, oI) (.tail _ (.head _))), Ne.symm (hT (C, oC) (.head _)), Ne.symm (hT (D, LCg.lst (pvals ps)) (.tail _ (.tail _ (.head _))))⟩
        · exact o.mem _ (mem_ptl.mpr (.inr hp))
      · rw [et, if_pos hd]
        exact hA.append (.cons ⟨hdat, rfl, rfl⟩ .nil)
    | false =>
      simp only [Bool.false_eq_true, if_false]
      refine ⟨h', tk', ptl ps led, rfl, F', News.sub N' fun p hp => ?_, o, hS _, ps, rfl, rfl, ?_⟩
      · rcases List.mem_cons.mp hp with rfl | hp
        · exact .tail _ (.tail _ (.head _))
        rcases List.mem_cons.mp hp with rfl | hp
        · exact .tail _ (.head _)
        · exact .tail _ (.tail _ (.tail _ hp))
      · rw [et, if_neg (by rw [hd]; exact Bool.false_ne_true), List.append_nil]
        exact hA
  · rintro ys news ⟨ps, rfl, rfl, hA⟩
    rw [List.take_length] at hA
    exact done ps hA
end
/-- the delays' places rise, for the rows' do -/
theorem dl_sub {rs : List RT} (hsp : ∀ (j : Nat) (r : RT), rs[j]? = some r → r.sp = (j : Int) + 3) : (dl rs).Pairwise fun a b => a.sp < b.sp := by
  refine List.Pairwise.sublist List.filter_sublist ?_
  rw [List.pairwise_iff_getElem]
  intro i j hi hj hij
  have h1 := hsp i _ (List.getElem?_eq_getElem hi)
  have h2 := hsp j _ (List.getElem?_eq_getElem hj)
  omega
theorem pairs_rise {rs : List RT} {ps : List PT} (hA : All2 Pair (dl rs) ps) (hsp : ∀ (j : Nat) (r : RT), rs[j]? = some r → r.sp = (j : Int) + 3) : ∀ (i j : Nat) (p q : PT), i < j → ps[i]? = some p → ps[j]? = some q → p.sp < q.sp := by
  intro i j p q hij hp hq
  obtain ⟨r, hr, h1⟩ := hA.get' hp
  obtain ⟨t, ht, h2⟩ := hA.get' hq
  have h := dl_sub hsp
  rw [List.pairwise_iff_getElem] at h
  obtain ⟨hi, ei⟩ := List.getElem?_eq_some_iff.mp hr
  obtain ⟨hj, ej⟩ := List.getElem?_eq_some_iff.mp ht
  have := h i j hi hj hij
  rw [ei, ej, h1.2.1, h2.2.1] at this
  exact this
/-- the first of the least, told twice, is one -/
theorem best_first {rs : List RT} {ps : List PT} {x : RT} {i : Nat} {p : PT} (hA : All2 Pair (dl rs) ps) (hb : Best rs x) (hp : ps[i]? = some p) (hf : ∀ (j : Nat) (q : PT), ps[j]? = some q → p.d ≤ q.d ∧ (j < i → p.d < q.d)) : Pair x p := by
  obtain ⟨k, hk, hF⟩ := hb
  have hF2 : First (dAt rs) i := by
    obtain ⟨r, hr, h1⟩ := hA.get' hp
    refine ⟨p.d, ?_, fun j e he => ?_⟩
    · unfold dAt; rw [hr, Option.map_some]
      show some (dOf r) = some p.d
      unfold dOf; rw [h1.1]
    · unfold dAt at he
      obtain ⟨y, hy, hye⟩ := Option.map_eq_some_iff.mp he
      obtain ⟨q, hq, h2⟩ := hA.get hy
      have : e = q.d := by rw [← hye]; unfold dOf; rw [h2.1]
      rw [this]
      exact hf j q hq
  have e := hF.eq hF2
  subst e
  obtain ⟨r, hr, h1⟩ := hA.get' hp
  rw [hk] at hr
  rw [Option.some.inj hr]; exact h1
theorem freshU4 : True := by
  k_with_none
  (k_with "CJ" => (first | with_reducible assumption | with_reducible exact And.left (by first | with_reducible assumption | with_reducible exact And.right (by first | with_reducible assumption | with_reducible exact And.right (by first | with_reducible assumption | with_reducible exact And.right (by first | with_reducible assumption | with_reducible exact And.right (by first | with_reducible assumption | with_reducible exact And.right (by first | with_reducible assumption | with_reducible exact And.right (by first | with_reducible assumption | with_reducible exact And.right (by first | with_reducible assumption | with_reducible exact And.right (by first | with_reducible assumption | with_reducible exact And.right (by first | with_reducible assumption | with_reducible exact And.right (by first | with_reducible assumption | with_reducible exact And.right (by first | with_reducible assumption | with_reducible exact And.right (by first | with_reducible assumption | with_reducible exact And.right (by first | with_reducible assumption | with_reducible exact And.right (by first | with_reducible assumption | with_reducible exact And.right (by first | with_reducible assumption | with_reducible exact And.right (by first | with_reducible assumption | with_reducible exact And.right (by first | with_reducible assumption | with_reducible exact And.right (by first | with_reducible assumption | with_reducible exact And.right (by first | with_reducible assumption | with_reducible exact And.right (by first | with_reducible assumption | with_reducible exact And.right (by first | with_reducible assumption | with_reducible exact And.right (by with_reducible assumption)))))))))))))))))))))))))
  (k_with "execs cons" => (k_here; (fail_if_success (fail_if_success k_gentoks)); (with_reducible refine gen_toks ?_); intro tk))
  (k_with "execs nil" => (k_here; (fail_if_success (fail_if_success k_gentoks)); (with_reducible refine gen_toks ?_); intro tk))
  w_top off
  trivial
theorem rulesU4x1 : True := by
  (k_with "compareOp Eq str str" => (first | refine eqs_ff (by first | decide | (dsimp only; decide)) ?_ | refine eqs_tt (by first | decide | (dsimp only; decide)) ?_))
  (k_with "compareOp NotEq str str" => (first | refine nes_ff (by first | decide | (dsimp only; decide)) ?_ | refine nes_tt (by first | decide | (dsimp only; decide)) ?_))
  (k_with "exec" => ((k_here; (with_reducible show wpAny _ _ (exec (Stmt.While _ _ _ _) _) _ _ _); k_dflt (refine whl_startW ?_))))
  (k_with "WhlW" => ((dsimp only [WhlW])))
  (k_with "exec For Name Name cons nil" => (walk_at "WHOLE1"))
  (k_with "pyIter ref" => ((refine Wrap.out ?_)))
  (k_with "call ref" => ((k_here; (with_reducible show wpAny _ _ (call (Value.ref 410) _) _ _ _); k_dflt (refine' Spec.use (figure_spec ?u1 ?g1 ?g2) ?k1 ?k2 ?k3 ?k4 ?k5 ?k6 ?k7 ?k8 ?k9 ?_; (case k4 => k_asm); (case k1 => k_asm); (case k2 => k_asm); (case k3 => k_asm); (case k5 => k_asm); (case k8 => exact rfl); (case k6 => exact rfl); (case k7 => exact Nat.le_of_ble_eq_true rfl); (case k9 => exact Nat.le_of_ble_eq_true rfl); (case u1 => k_updF); (case g1 => assumption); (case g2 => omega)); refine cpsF ?_; walk_at "TAIL6")))
  (k_with "call ref" => ((k_here; (with_reducible show wpAny _ _ (call (Value.ref 49) _) _ _ _); k_dflt (refine' Spec.use (next_nil _ _ _ ?g1) ?k1 ?k2 ?k3 ?k4 ?k5 ?k6 ?k7 ?k8 ?k9 ?_; (case k4 => k_asm); (case k1 => k_asm); (case k2 => k_asm); (case k3 => k_asm); (case k5 => k_asm); (case k8 => exact rfl); (case k6 => exact rfl); (case k7 => exact Nat.le_of_ble_eq_true rfl); (case k9 => exact Nat.le_of_ble_eq_true rfl); (case g1 => k_mem); skip); refine cps2 ?_; walk_at "TAIL3")))
  (k_with "call ref" => ((k_here; (with_reducible show wpAny _ _ (call (Value.ref 49) _) _ _ _); k_dflt (refine' Spec.use (next_404 _ _ _ _ _ ?g1) ?k1 ?k2 ?k3 ?k4 ?k5 ?k6 ?k7 ?k8 ?k9 ?_; (case k4 => k_asm); (case k1 => k_asm); (case k2 => k_asm); (case k3 => k_asm); (case k5 => k_asm); (case k8 => exact rfl); (case k6 => exact rfl); (case k7 => exact Nat.le_of_ble_eq_true rfl); (case k9 => exact Nat.le_of_ble_eq_true rfl); (case g1 => k_mem); skip); refine cps2 ?_; walk_at "TAIL3")))
  (k_with "call type:range" => (walk_at "WHOLE3"))
  (k_with "CompSrc" => (walk_at "WHOLE4"))
  (k_with "CompSrcT" => (walk_at "WHOLE5"))
  (k_with "call builtin:len" => ((k_here; k_dflt (refine' lenS ?N ?m ?z ?_; (case N => k_asm); (case m => k_mem); (case z => assumption)))))
  (k_with "truthy ref" => ((k_here; k_dflt (refine' truthS ?N ?m ?z ?_; (case N => k_asm); (case m => k_mem); (case z => assumption)))))
  (k_with "subscriptTail" => ((k_here; (with_reducible show wpAny _ _ (subscriptTail _ _ (Value.ref (LC.SL _)) _) _ _ _); k_dflt (refine' item_spec ?k1 ?k2 ?k3 ?k4 ?k5 ?k6 ?_; (case k6 => assumption); (case k1 => k_asm); (case k2 => k_asm); (case k3 => k_mem); (case k4 => first | assumption | omega); (case k5 => omega)))))
  (k_with "call ref" => ((k_here; (with_reducible show wpAny _ _ (call (Value.ref 403) _) _ _ _); refine Wrap.out ?_)))
  (k_with "call ref" => ((k_here; (with_reducible show wpAny _ _ (call (Value.ref 284) _) _ _ _); refine Wrap.out ?_)))
  (k_with "call ref" => ((k_here; (with_reducible show wpAny _ _ (call (Value.ref 209) _) _ _ _); refine Wrap.out ?_)))
  (k_with "subscriptTail" => ((k_here; (with_reducible show wpAny _ _ (subscriptTail _ _ (Value.ref (CH.RR _)) _) _ _ _); k_dflt (refine' item_last ?k2 ?k3 ?k4 ?_; (case k2 => k_asm); (case k3 => k_mem); (case k4 => assumption)))))
  (k_with "subscriptTail" => ((k_here; (with_reducible show wpAny _ _ (subscriptTail _ _ (Value.ref (LC.AT _)) (Value.int _ _)) _ _ _); k_dflt (refine' PySem.W.ksa_sub ?k1 ?k2 ?k3 ?k4 ?k5 ?k6 ?_ ?k7; (case k1 => k_asm); (case k2 => k_mem); (case k3 => with_reducible assumption); (case k4 => first | assumption | omega); (case k5 => omega); (case k6 => omega); (case k7 => with_unfolding_all rfl); k_whole); walk_at "TAIL12")))
  (k_with "subscriptTail" => ((k_here; (with_reducible show wpAny _ _ (subscriptTail _ _ (Value.ref (LC.DU _)) (Value.int _ _)) _ _ _); k_dflt (refine' PySem.W.ksa_sub ?k1 ?k2 ?k3 ?k4 ?k5 ?k6 ?_ ?k7; (case k1 => k_asm); (case k2 => k_mem); (case k3 => with_reducible assumption); (case k4 => first | assumption | omega); (case k5 => omega); (case k6 => omega); (case k7 => with_unfolding_all rfl); k_whole); walk_at "TAIL12")))
  (k_with "subscriptTail" => ((k_here; (with_reducible show wpAny _ _ (subscriptTail _ _ (Value.ref (RW.a _)) (Value.int _ _)) _ _ _); k_dflt (refine' PySem.W.ksa_sub ?k1 ?k2 ?k3 ?k4 ?k5 ?k6 ?_ ?k7; (case k1 => k_asm); (case k2 => k_mem); (case k3 => with_reducible assumption); (case k4 => first | assumption | omega); (case k5 => omega); (case k6 => omega); (case k7 => with_unfolding_all rfl); k_whole); walk_at "TAIL12")))
  (k_with "setItem ref int" => ((k_here; (with_reducible show wpAny _ _ (setItem (Value.ref _) (Value.int _ _) (Value.int _ _)) _ _ _); k_dflt (refine' PySem.W.ksa_set ?k1 ?k2 ?k3 ?k4 ?k5 ?k6 ?k7 ?_; (case k1 => k_asm); (case k2 => k_asm); (case k3 => k_upd); (case k4 => with_reducible assumption); (case k5 => first | assumption | omega); (case k6 => omega); (case k7 => omega); k_whole); walk_at "TAIL13")))
  (k_with "compareOp NotEq ref ref" => ((k_here; k_dflt (refine' neL_same ?k1 ?k2 ?k3 ?k4 ?k5 ?k6 ?_; (case k1 => k_asm); (case k2 => k_mem); (case k3 => k_mem); (case k4 => with_reducible assumption); (case k5 => with_reducible assumption); (case k6 => exact Nat.le_of_ble_eq_true rfl)))))
  (k_with "compareOp Eq ref ref" => ((k_here; k_dflt (first | (refine' eqL_nil ?k1 ?k2 ?k3 ?k4 ?k5 ?k6 ?_; (case k1 => k_asm); (case k2 => k_mem); (case k3 => k_mem); (case k4 => with_reducible assumption); (case k5 => with_reducible assumption); (case k6 => exact Nat.le_of_ble_eq_true rfl)) | (refine' eqL_cons ?k1 ?k2 ?k3 ?k4 ?k5 ?k6 ?_; (case k1 => k_asm); (case k2 => k_mem); (case k3 => k_mem); (case k4 => with_reducible assumption); (case k5 => with_reducible assumption); (case k6 => exact Nat.le_of_ble_eq_true rfl))))))
  trivial
theorem menu_spec {prog : Program} {w : World} {A : Around} {E : Value → Shared → Prop} {s : Shared} {value slice : PySem.Expr} {h₀ : Heap} {L l : Addr} {m : Str → Option Value} {news : Led} {t1 t2 t3 t4 : Tok} {n : Nat} {k : Int} {u : Tok} {Q : Value → Shared → Prop}
    (F : Fr h₀ L s.heap m) (N : News h₀ L s.heap news) (hl : (l, W.listOf [Value.none, .int 2 t1, .int 5 t2, .int 0 t3, .int 7 t4].toArray n) ∈ news) (h0 : 0 ≤ k) (h5 : k < 5) (h : ∀ v, NI v → Q v s)
    (hs : subscripted slice false (.ref l) (.int k u) = operate [.ref l, .int k u] (getItem (.ref l) (.int k u)) := by with_unfolding_all rfl) :
    wpAny (model prog w) A (subscriptTail value slice (.ref l) (.int k u)) Q E s := by
  have hk : k = 0 ∨ k = 1 ∨ k = 2 ∨ k = 3 ∨ k = 4 := by omega
  have key : ∃ v, [Value.none, .int 2 t1, .int 5 t2, .int 0 t3, .int 7 t4][k.toNat]? = some v ∧ NI v := by
    rcases hk with rfl | rfl | rfl | rfl | rfl
    · exact ⟨_, rfl, .inl rfl⟩
    · exact ⟨_, rfl, .inr ⟨_, _, rfl⟩⟩
    · exact ⟨_, rfl, .inr ⟨_, _, rfl⟩⟩
    · exact ⟨_, rfl, .inr ⟨_, _, rfl⟩⟩
    · exact ⟨_, rfl, .inr ⟨_, _, rfl⟩⟩
  obtain ⟨v, hv, hn⟩ := key
  exact item_spec F N hl h0 (by omega) hv (h v hn) hs
theorem stageB {w : World} {pr : Program} {loose : List Str} {mean : ExcName → Option Value} {mg mb : Str → Option Value} {base h₀ : Heap} {cn : Str} {cnm : List (Str × NameKind)} {cig cic : Bool} {cmo : List (Str × Const)} {L₁ a : Addr} {ccd : Value} {cl : List (Str × Addr)} {outer : List Env} {L : Addr} {M : Str → Option Value} {s : Shared} {Q : Flow → Shared → Prop}
    {hl : Addr} {oh : Obj} {hs : List Value} {nh : Nat} {rest : Led}
    (B : Below (ktrTop 380 850 none cn ⟨.function, cnm, cig, cic, cmo⟩ L₁ a ccd cl outer) base (envX cn ⟨.function, cnm, cig, cic, cmo⟩ L₁ a ccd cl :: outer) h₀) (X : (Mine.hd.heap_39 w.params).In h₀) (T : Top pr loose mean mg mb h₀)
    (dh : oh.data = .cell (some (.ref hl))) (hH : Hand hs) (hN : NDL ((hl, W.listOf hs.toArray nh) :: (L + 1, oh) :: rest))
    (F : Fr h₀ L s.heap M) (N : News h₀ L s.heap ((hl, W.listOf hs.toArray nh) :: (L + 1, oh) :: rest))
    (hnext : ∀ (TM RL : Addr) (ys hs' : List Value) (nh' : Nat) (h' : Heap) (tk' : Nat), ys.length ≤ 3 → (∀ y ∈ ys, NI y) → Hand hs' → NDL ((RL, W.listOf #[] 0) :: (TM, LCg.lst ys) :: (hl, W.listOf hs'.toArray nh') :: (L + 1, oh) :: rest) →
      Fr h₀ L h' (fun y => if y = "rows" then some (.ref RL) else if y = "times" then some (.ref TM) else M y) → News h₀ L h' ((RL, W.listOf #[] 0) :: (TM, LCg.lst ys) :: (hl, W.listOf hs'.toArray nh') :: (L + 1, oh) :: rest) →
      wpAny (model PySem.Challenge.pw_pb0024_01 w) ((ktrTop 380 850 none cn ⟨.function, cnm, cig, cic, cmo⟩ L₁ a ccd cl outer).deeper (toldEnv L)) (execs (toldStmts.drop 5) (toldEnv L)) Q (fun _ _ => False) { s with heap := h', toks := tk' }) :
    wpAny (model PySem.Challenge.pw_pb0024_01 w) ((ktrTop 380 850 none cn ⟨.function, cnm, cig, cic, cmo⟩ L₁ a ccd cl outer).deeper (toldEnv L)) (execs (toldStmts.drop 3) (toldEnv L)) Q (fun _ _ => False) s := by
  have hMk : MarkW := trivial
  generalize hR : toldStmts.drop 5 = rest5 at hnext
  have e : toldStmts.drop 3 = (toldStmts.drop 3).headD (.Pass ⟨0,0,0,0⟩) :: (toldStmts.drop 4).headD (.Pass ⟨0,0,0,0⟩) :: toldStmts.drop 5 := by rfl
  rw [e, hR]
  clear e hR
  have e : (toldStmts.drop 3).headD (.Pass ⟨0,0,0,0⟩) = (toldStmts.drop 3).headD (.Pass ⟨0,0,0,0⟩) := rfl
  conv at e => rhs; whnf
  rw [e]
  clear e
  have e : (toldStmts.drop 4).headD (.Pass ⟨0,0,0,0⟩) = (toldStmts.drop 4).headD (.Pass ⟨0,0,0,0⟩) := rfl
  conv at e => rhs; whnf
  rw [e]
  clear e
  have e : toldScope = toldScope := rfl
  conv at e => rhs; whnf
  unfold toldEnv at hnext ⊢
  rw [e] at hnext ⊢
  clear e
  have hoff : ∀ p ∈ (L + 1, oh) :: rest, p.1 ≠ hl := fun p hp e => by
    have h := hN
    unfold NDL at h
    rw [List.map_cons, List.nodup_cons] at h
    exact h.1 (e ▸ List.mem_map_of_mem (f := (·.1)) hp)
  have x1 : @Ne Nat (L + 1) hl := hoff (L + 1, oh) (.head _)
  have z1 : ∀ p ∈ rest, p.1 ≠ hl := fun p hp => hoff p (.tail _ hp)
  clear hoff
  replace hN := wrap_in hN
  replace hnext := wrap_in hnext
  k_steps
  rename_i k2 t3 vs2 nn2 hj0 hj4 hH2 lN0 h3 tk3 t4 u4 v4 hR2 lF lN hkeep
  refine wrap_in (LCg.CompSrc.range (n := k2.toNat) (by rfl) lF lN hR2 (small_one (by decide) (by decide) (by omega) (by omega)) (by rw [rangeSize_nat, Int.sub_zero]) (by rw [sizeLine_eq]; omega) fun g' => ?_)
  refine hand_comp _ _ NI _ _ hH2 ?_ ?_
  · intro hs5 nh5 hH5 C oC I oI D oD m₂ h tk E' ne1 ne2 ne3 hC F' N'
    k_steps
    rename_i k6 t6 vs6 nn6 hk60 hk65 hH6 gN
    refine menu_spec (by assumption) gN (by k_mem) hk60 hk65 fun v hv => ?_
    k_steps
    refine wrap_in ⟨hv, _, _, hH6, Ends.intro (by assumption) (News.tl gN)⟩
  · intro ys hs5 nh5 hlen hys hH5 D h tk F' N' ofD
    have hofD : ∀ p ∈ (hl, W.listOf hs5.toArray nh5) :: (L + 1, oh) :: rest, p.1 ≠ D := fun p hp => off1_mem ofD p hp
    k_steps
    rename News _ _ _ _ => lN3
    rename Fr _ _ _ _ => lF3
    rename _ < _ ∧ _ < _ ∧ _ < _ ∧ AllLt _ _ => m1
    exact hnext D _ ys hs5 nh5 _ _ (by omega) hys hH5 (NDL.cons (l := (D, LCg.lst ys) :: (hl, W.listOf hs5.toArray nh5) :: (L + 1, oh) :: rest) (NDL.consN (show NDL ((hl, W.listOf hs5.toArray nh5) :: (L + 1, oh) :: rest) from hN) hofD) m1) lF3 lN3
theorem freshU5 : True := by
  k_with_none
  (k_with "CJ" => (first | with_reducible assumption | with_reducible exact And.left (by first | with_reducible assumption | with_reducible exact And.right (by first | with_reducible assumption | with_reducible exact And.right (by first | with_reducible assumption | with_reducible exact And.right (by first | with_reducible assumption | with_reducible exact And.right (by first | with_reducible assumption | with_reducible exact And.right (by first | with_reducible assumption | with_reducible exact And.right (by first | with_reducible assumption | with_reducible exact And.right (by first | with_reducible assumption | with_reducible exact And.right (by first | with_reducible assumption | with_reducible exact And.right (by first | with_reducible assumption | with_reducible exact And.right (by first | with_reducible assumption | with_reducible exact And.right (by first | with_reducible assumption | with_reducible exact And.right (by first | with_reducible assumption | with_reducible exact And.right (by first | with_reducible assumption | with_reducible exact And.right (by first | with_reducible assumption | with_reducible exact And.right (by first | with_reducible assumption | with_reducible exact And.right (by first | with_reducible assumption | with_reducible exact And.right (by first | with_reducible assumption | with_reducible exact And.right (by first | with_reducible assumption | with_reducible exact And.right (by first | with_reducible assumption | with_reducible exact And.right (by first | with_reducible assumption | with_reducible exact And.right (by first | with_reducible assumption | with_reducible exact And.right (by with_reducible assumption)))))))))))))))))))))))))
  (k_with "execs cons" => (k_here; (fail_if_success (fail_if_success k_gentoks)); (with_reducible refine gen_toks ?_); intro tk))
  (k_with "execs nil" => (k_here; (fail_if_success (fail_if_success k_gentoks)); (with_reducible refine gen_toks ?_); intro tk))
  w_top off
  trivial
theorem rulesU5x1 : True := by
  (k_with "compareOp Eq str str" => (first | refine eqs_ff (by first | decide | (dsimp only; decide)) ?_ | refine eqs_tt (by first | decide | (dsimp only; decide)) ?_))
  (k_with "compareOp NotEq str str" => (first | refine nes_ff (by first | decide | (dsimp only; decide)) ?_ | refine nes_tt (by first | decide | (dsimp only; decide)) ?_))
  (k_with "exec" => ((k_here; (with_reducible show wpAny _ _ (exec (Stmt.While _ _ _ _) _) _ _ _); k_dflt (refine whl_startW ?_))))
  (k_with "WhlW" => ((dsimp only [WhlW])))
  (k_with "exec For Name Name cons nil" => (walk_at "WHOLE1"))
  (k_with "pyIter ref" => ((refine Wrap.out ?_)))
  (k_with "call ref" => ((k_here; (with_reducible show wpAny _ _ (call (Value.ref 410) _) _ _ _); k_dflt (refine' Spec.use (figure_spec ?u1 ?g1 ?g2) ?k1 ?k2 ?k3 ?k4 ?k5 ?k6 ?k7 ?k8 ?k9 ?_; (case k4 => k_asm); (case k1 => k_asm); (case k2 => k_asm); (case k3 => k_asm); (case k5 => k_asm); (case k8 => exact rfl); (case k6 => exact rfl); (case k7 => exact Nat.le_of_ble_eq_true rfl); (case k9 => exact Nat.le_of_ble_eq_true rfl); (case u1 => k_updF); (case g1 => assumption); (case g2 => omega)); refine cpsF ?_; walk_at "TAIL6")))
  (k_with "call ref" => ((k_here; (with_reducible show wpAny _ _ (call (Value.ref 49) _) _ _ _); k_dflt (refine' Spec.use (next_nil _ _ _ ?g1) ?k1 ?k2 ?k3 ?k4 ?k5 ?k6 ?k7 ?k8 ?k9 ?_; (case k4 => k_asm); (case k1 => k_asm); (case k2 => k_asm); (case k3 => k_asm); (case k5 => k_asm); (case k8 => exact rfl); (case k6 => exact rfl); (case k7 => exact Nat.le_of_ble_eq_true rfl); (case k9 => exact Nat.le_of_ble_eq_true rfl); (case g1 => k_mem); skip); refine cps2 ?_; walk_at "TAIL3")))
  (k_with "call ref" => ((k_here; (with_reducible show wpAny _ _ (call (Value.ref 49) _) _ _ _); k_dflt (refine' Spec.use (next_404 _ _ _ _ _ ?g1) ?k1 ?k2 ?k3 ?k4 ?k5 ?k6 ?k7 ?k8 ?k9 ?_; (case k4 => k_asm); (case k1 => k_asm); (case k2 => k_asm); (case k3 => k_asm); (case k5 => k_asm); (case k8 => exact rfl); (case k6 => exact rfl); (case k7 => exact Nat.le_of_ble_eq_true rfl); (case k9 => exact Nat.le_of_ble_eq_true rfl); (case g1 => k_mem); skip); refine cps2 ?_; walk_at "TAIL3")))
  (k_with "call type:range" => (walk_at "WHOLE3"))
  (k_with "CompSrc" => (walk_at "WHOLE4"))
  (k_with "CompSrcT" => (walk_at "WHOLE5"))
  (k_with "call builtin:len" => ((k_here; k_dflt (refine' lenS ?N ?m ?z ?_; (case N => k_asm); (case m => k_mem); (case z => assumption)))))
  (k_with "truthy ref" => ((k_here; k_dflt (refine' truthS ?N ?m ?z ?_; (case N => k_asm); (case m => k_mem); (case z => assumption)))))
  (k_with "subscriptTail" => ((k_here; (with_reducible show wpAny _ _ (subscriptTail _ _ (Value.ref (LC.SL _)) _) _ _ _); k_dflt (refine' item_spec ?k1 ?k2 ?k3 ?k4 ?k5 ?k6 ?_; (case k6 => assumption); (case k1 => k_asm); (case k2 => k_asm); (case k3 => k_mem); (case k4 => first | assumption | omega); (case k5 => omega)))))
  (k_with "call ref" => ((k_here; (with_reducible show wpAny _ _ (call (Value.ref 403) _) _ _ _); refine Wrap.out ?_)))
  (k_with "call ref" => ((k_here; (with_reducible show wpAny _ _ (call (Value.ref 284) _) _ _ _); refine Wrap.out ?_)))
  (k_with "call ref" => ((k_here; (with_reducible show wpAny _ _ (call (Value.ref 209) _) _ _ _); refine Wrap.out ?_)))
  (k_with "subscriptTail" => ((k_here; (with_reducible show wpAny _ _ (subscriptTail _ _ (Value.ref (CH.RR _)) _) _ _ _); k_dflt (refine' item_last ?k2 ?k3 ?k4 ?_; (case k2 => k_asm); (case k3 => k_mem); (case k4 => assumption)))))
  (k_with "subscriptTail" => ((k_here; (with_reducible show wpAny _ _ (subscriptTail _ _ (Value.ref (LC.AT _)) (Value.int _ _)) _ _ _); k_dflt (refine' PySem.W.ksa_sub ?k1 ?k2 ?k3 ?k4 ?k5 ?k6 ?_ ?k7; (case k1 => k_asm); (case k2 => k_mem); (case k3 => with_reducible assumption); (case k4 => first | assumption | omega); (case k5 => omega); (case k6 => omega); (case k7 => with_unfolding_all rfl); k_whole); walk_at "TAIL12")))
  (k_with "subscriptTail" => ((k_here; (with_reducible show wpAny _ _ (subscriptTail _ _ (Value.ref (LC.DU _)) (Value.int _ _)) _ _ _); k_dflt (refine' PySem.W.ksa_sub ?k1 ?k2 ?k3 ?k4 ?k5 ?k6 ?_ ?k7; (case k1 => k_asm); (case k2 => k_mem); (case k3 => with_reducible assumption); (case k4 => first | assumption | omega); (case k5 => omega); (case k6 => omega); (case k7 => with_unfolding_all rfl); k_whole); walk_at "TAIL12")))
  (k_with "subscriptTail" => ((k_here; (with_reducible show wpAny _ _ (subscriptTail _ _ (Value.ref (RW.a _)) (Value.int _ _)) _ _ _); k_dflt (refine' PySem.W.ksa_sub ?k1 ?k2 ?k3 ?k4 ?k5 ?k6 ?_ ?k7; (case k1 => k_asm); (case k2 => k_mem); (case k3 => with_reducible assumption); (case k4 => first | assumption | omega); (case k5 => omega); (case k6 => omega); (case k7 => with_unfolding_all rfl); k_whole); walk_at "TAIL12")))
  (k_with "setItem ref int" => ((k_here; (with_reducible show wpAny _ _ (setItem (Value.ref _) (Value.int _ _) (Value.int _ _)) _ _ _); k_dflt (refine' PySem.W.ksa_set ?k1 ?k2 ?k3 ?k4 ?k5 ?k6 ?k7 ?_; (case k1 => k_asm); (case k2 => k_asm); (case k3 => k_upd); (case k4 => with_reducible assumption); (case k5 => first | assumption | omega); (case k6 => omega); (case k7 => omega); k_whole); walk_at "TAIL13")))
  (k_with "compareOp NotEq ref ref" => ((k_here; k_dflt (refine' neL_same ?k1 ?k2 ?k3 ?k4 ?k5 ?k6 ?_; (case k1 => k_asm); (case k2 => k_mem); (case k3 => k_mem); (case k4 => with_reducible assumption); (case k5 => with_reducible assumption); (case k6 => exact Nat.le_of_ble_eq_true rfl)))))
  (k_with "compareOp Eq ref ref" => ((k_here; k_dflt (first | (refine' eqL_nil ?k1 ?k2 ?k3 ?k4 ?k5 ?k6 ?_; (case k1 => k_asm); (case k2 => k_mem); (case k3 => k_mem); (case k4 => with_reducible assumption); (case k5 => with_reducible assumption); (case k6 => exact Nat.le_of_ble_eq_true rfl)) | (refine' eqL_cons ?k1 ?k2 ?k3 ?k4 ?k5 ?k6 ?_; (case k1 => k_asm); (case k2 => k_mem); (case k3 => k_mem); (case k4 => with_reducible assumption); (case k5 => with_reducible assumption); (case k6 => exact Nat.le_of_ble_eq_true rfl))))))
  (k_with "compareOp Eq str str" => (first | refine eqs_ff (by first | assumption | decide | (dsimp only; decide)) ?_ | refine eqs_tt (by first | assumption | decide | (dsimp only; decide)) ?_))
  trivial
theorem menu_kinds {prog : Program} {w : World} {A : Around} {E : Value → Shared → Prop} {s : Shared} {value slice : PySem.Expr} {h₀ : Heap} {L l : Addr} {m : Str → Option Value} {news : Led} {t1 t2 t3 t4 : Tok} {n : Nat} {k : Int} {u : Tok} {Q : Value → Shared → Prop}
    (F : Fr h₀ L s.heap m) (N : News h₀ L s.heap news) (hl : (l, W.listOf [Value.str "delay" t1, .str "delay" t2, .str "accept" t3, .str "terminate" t4].toArray n) ∈ news) (h0 : 0 ≤ k) (h5 : k < 4) (h1 : ∀ t, Q (.str "delay" t) s) (h2 : ∀ (x : Str) t, (x == "delay") = false → Q (.str x t) s)
    (hs : subscripted slice false (.ref l) (.int k u) = operate [.ref l, .int k u] (getItem (.ref l) (.int k u)) := by with_unfolding_all rfl) :
    wpAny (model prog w) A (subscriptTail value slice (.ref l) (.int k u)) Q E s := by
  have hk : k = 0 ∨ k = 1 ∨ k = 2 ∨ k = 3 := by omega
  have key : ∃ v, [Value.str "delay" t1, .str "delay" t2, .str "accept" t3, .str "terminate" t4][k.toNat]? = some v ∧ Q v s := by
    rcases hk with rfl | rfl | rfl | rfl
    · exact ⟨_, rfl, h1 _⟩
    · exact ⟨_, rfl, h1 _⟩
    · exact ⟨_, rfl, h2 _ _ (by decide)⟩
    · exact ⟨_, rfl, h2 _ _ (by decide)⟩
  obtain ⟨v, hv, hn⟩ := key
  exact item_spec F N hl h0 (by omega) hv hn hs
theorem stageC {w : World} {pr : Program} {loose : List Str} {mean : ExcName → Option Value} {mg mb : Str → Option Value} {base h₀ : Heap} {cn : Str} {cnm : List (Str × NameKind)} {cig cic : Bool} {cmo : List (Str × Const)} {L₁ a : Addr} {ccd : Value} {cl : List (Str × Addr)} {outer : List Env} {L : Addr} {M : Str → Option Value} {s : Shared} {Q : Flow → Shared → Prop}
    {hl TM RL : Addr} {oh : Obj} {ys hs : List Value} {nh : Nat} {rest : Led}
    (B : Below (ktrTop 380 850 none cn ⟨.function, cnm, cig, cic, cmo⟩ L₁ a ccd cl outer) base (envX cn ⟨.function, cnm, cig, cic, cmo⟩ L₁ a ccd cl :: outer) h₀) (X : (Mine.hd.heap_39 w.params).In h₀) (T : Top pr loose mean mg mb h₀)
    (dh : oh.data = .cell (some (.ref hl))) (hH : Hand hs) (hN : NDL ((RL, W.listOf #[] 0) :: (TM, LCg.lst ys) :: (hl, W.listOf hs.toArray nh) :: (L + 1, oh) :: rest))
    (F : Fr h₀ L s.heap (fun y => if y = "rows" then some (.ref RL) else if y = "times" then some (.ref TM) else M y)) (N : News h₀ L s.heap ((RL, W.listOf #[] 0) :: (TM, LCg.lst ys) :: (hl, W.listOf hs.toArray nh) :: (L + 1, oh) :: rest))
    (hnext : ∀ (rs : List RT) (hs' : List Value) (nh' : Nat) (M' : Str → Option Value) (h' : Heap) (tk' : Nat), rs.length ≤ 4 → (∀ r ∈ rs, OkR r) → (∀ (j : Nat) (r : RT), rs[j]? = some r → r.sp = (j : Int) + 3) → Hand hs' →
      Fr h₀ L h' (fun y => if y = "rows" then some (.ref RL) else if y = "times" then some (.ref TM) else M' y) → News h₀ L h' ((RL, W.listOf (rtv rs).toArray rs.length) :: (TM, LCg.lst ys) :: (hl, W.listOf hs'.toArray nh') :: (L + 1, oh) :: rtl rs rest) →
      wpAny (model PySem.Challenge.pw_pb0024_01 w) ((ktrTop 380 850 none cn ⟨.function, cnm, cig, cic, cmo⟩ L₁ a ccd cl outer).deeper (toldEnv L)) (execs (toldStmts.drop 6) (toldEnv L)) Q (fun _ _ => False) { s with heap := h', toks := tk' }) :
    wpAny (model PySem.Challenge.pw_pb0024_01 w) ((ktrTop 380 850 none cn ⟨.function, cnm, cig, cic, cmo⟩ L₁ a ccd cl outer).deeper (toldEnv L)) (execs (toldStmts.drop 5) (toldEnv L)) Q (fun _ _ => False) s := by
  have hMk : MarkW := trivial
  generalize hR : toldStmts.drop 6 = rest6 at hnext
  have e : toldStmts.drop 5 = (toldStmts.drop 5).headD (.Pass ⟨0,0,0,0⟩) :: toldStmts.drop 6 := by rfl
  rw [e, hR]
  clear e hR
  have e : (toldStmts.drop 5).headD (.Pass ⟨0,0,0,0⟩) = (toldStmts.drop 5).headD (.Pass ⟨0,0,0,0⟩) := rfl
  conv at e => rhs; whnf
  rw [e]
  clear e
  have e : toldScope = toldScope := rfl
  conv at e => rhs; whnf
  unfold toldEnv at hnext ⊢
  rw [e] at hnext ⊢
  clear e
  have x1 : @Ne Nat RL TM := hN.ne 0 1 (by decide) rfl rfl
  have x2 : @Ne Nat RL hl := hN.ne 0 2 (by decide) rfl rfl
  have x3 : @Ne Nat RL (L + 1) := hN.ne 0 3 (by decide) rfl rfl
  have y2 : @Ne Nat TM hl := hN.ne 1 2 (by decide) rfl rfl
  have y3 : @Ne Nat hl (L + 1) := hN.ne 2 3 (by decide) rfl rfl
  have z1 : ∀ p ∈ rest, p.1 ≠ RL := fun p hp => hN.off 0 rfl p (.tail _ (.tail _ (.tail _ hp)))
  have z2 : ∀ p ∈ rest, p.1 ≠ hl := fun p hp => hN.off 2 rfl p (.tail _ hp)
  replace hN := wrap_in hN
  replace hnext := wrap_in hnext
  k_steps
  rename_i k1 t1 vs1 nn1 hk0 hk4 hH1 lN0 h2 tk2 t2 u2 v2 hR2 lF lN hkeep
  have hn : k1 = (k1.toNat : Int) := by omega
  have hn2 : k1.toNat ≤ 4 := by omega
  have baseA : ∀ {o o' : Obj} {d : Addr}, (∀ p ∈ (RL, o) :: (TM, LCg.lst ys) :: (hl, o') :: (L + 1, oh) :: rest, @Ne Nat p.1 d) → ∀ (o2 o3 : Obj), ∀ p ∈ (RL, o2) :: (TM, LCg.lst ys) :: (hl, o3) :: (L + 1, oh) :: rest, @Ne Nat p.1 d := by
    intro o o' d h o2 o3 p hp
    rcases List.mem_cons.mp hp with rfl | hp
    · exact h (RL, o) (.head _)
    rcases List.mem_cons.mp hp with rfl | hp
    · exact h (TM, LCg.lst ys) (.tail _ (.head _))
    rcases List.mem_cons.mp hp with rfl | hp
    · exact h (hl, o') (.tail _ (.tail _ (.head _)))
    · exact h p (.tail _ (.tail _ (.tail _ hp)))
  refine wrap_in (range_for (n := k1.toNat) (fun i m news => ∃ (rs : List RT) (hs' : List Value) (nh' : Nat) (M' : Str → Option Value), rs.length = i ∧ (∀ r ∈ rs, OkR r) ∧ (∀ (j : Nat) (r : RT), rs[j]? = some r → r.sp = (j : Int) + 3) ∧ Hand hs' ∧ m = (fun y : Str => if y = "rows" then some (.ref RL) else if y = "times" then some (.ref TM) else M' y) ∧
      (∀ r ∈ rs, ∀ p ∈ (RL, W.listOf #[] 0) :: (TM, LCg.lst ys) :: (hl, W.listOf hs.toArray nh) :: (L + 1, oh) :: rest, @Ne Nat p.1 r.a) ∧ news = (RL, W.listOf (rtv rs).toArray i) :: (TM, LCg.lst ys) :: (hl, W.listOf hs'.toArray nh') :: (L + 1, oh) :: rtl rs rest) (by rfl) hR2 hn (by omega) lF lN
    (fun _ _ => ⟨[], vs1, nn1, M, rfl, (fun _ h => nomatch h), (fun _ _ h => nomatch h), hH1, rfl, (fun _ h => nomatch h), rfl⟩) ?_ ?_)
  · intro It i m₁ _ hIt hi hq1
    refine ex4 hq1 fun rs hs3 nh3 M3 hp2 => ?_
    clear hq1
    have hl3 := hp2.1
    have hok := hp2.2.1
    have hsp := hp2.2.2.1
    have hH3 := hp2.2.2.2.1
    have eq3 := hp2.2.2.2.2.1
    have hoff := hp2.2.2.2.2.2.1
    have eq4 := hp2.2.2.2.2.2.2
    clear hp2
    subst eq3
    subst eq4
    intro t₁ h₁ tk₁ it hit F₁ N₁
    have hItA : ∀ p ∈ (RL, W.listOf #[] 0) :: (TM, LCg.lst ys) :: (hl, W.listOf vs1.toArray nn1) :: (L + 1, oh) :: rest, @Ne Nat p.1 It := fun p hp => Nat.ne_of_lt (hIt p hp)
    have hItR : ∀ r ∈ rs, @Ne Nat r.a It := fun r hr => by
      refine cls_apart N₁ (p := (r.a, robj r)) (q := (It, it)) ?_ (.head _) ?_
      · exact .tail _ (.tail _ (.tail _ (.tail _ (.tail _ (mem_rtl.mpr (.inl ⟨r, hr, rfl⟩))))))
      · show Value.type "tuple" ≠ it.cls
        rw [hit]; decide
    obtain ⟨Z, hZ⟩ : ∃ Z, Z = rtl rs rest := ⟨_, rfl⟩
    have w1 : ∀ p ∈ Z, p.1 ≠ RL := fun p hp => by
      rw [hZ] at hp
      rcases mem_rtl.mp hp with ⟨r, hr, rfl⟩ | hp
      · exact Ne.symm (hoff r hr (RL, W.listOf #[] 0) (.head _))
      · exact z1 p hp
    have w2 : ∀ p ∈ Z, p.1 ≠ hl := fun p hp => by
      rw [hZ] at hp
      rcases mem_rtl.mp hp with ⟨r, hr, rfl⟩ | hp
      · exact Ne.symm (hoff r hr (hl, W.listOf hs.toArray nh) (.tail _ (.tail _ (.head _))))
      · exact z2 p hp
    have nI1 : @Ne Nat It RL := Ne.symm (hItA (RL, W.listOf #[] 0) (.head _))
    have nI2 : @Ne Nat It hl := Ne.symm (hItA (hl, W.listOf vs1.toArray nn1) (.tail _ (.tail _ (.head _))))
    have hrz : (rtv rs).length < 100 := by rw [rtv, List.length_map]; omega
    have fin : ∀ (D l : Addr) (ol : Obj) (q1 : Tok) (kk : Str) (q2 : Tok) (v : Value) (vn : List Value) (nn : Nat) (h' : Heap) (tk' : Nat) (m' : Str → Option Value) (S : Shared), OkR (⟨D, (i : Int) + 3, q1, kk, q2, v⟩ : RT) → Hand vn → (@LT.lt Nat _ It D) → (@LT.lt Nat _ RL D) → (@LT.lt Nat _ TM D) → (@LT.lt Nat _ hl D) → (@LT.lt Nat _ (L + 1) D) → AllLt D Z →
        Fr h₀ L h' m' → m' "rows" = some (.ref RL) → m' "times" = some (.ref TM) → News h₀ L h' ((D, robj (⟨D, (i : Int) + 3, q1, kk, q2, v⟩ : RT)) :: (l, ol) :: (It, it) :: (RL, W.listOf (rtv rs ++ [Value.ref D]).toArray (i + 1)) :: (TM, LCg.lst ys) :: (hl, W.listOf vn.toArray nn) :: (L + 1, oh) :: Z) →
        Wrap (REnd h₀ L S It it (fun m' n' => (∀ p ∈ n', p.1 ≠ It) ∧ ∃ (rs : List RT) (hs' : List Value) (nh' : Nat) (M' : Str → Option Value), rs.length = i + 1 ∧ (∀ r ∈ rs, OkR r) ∧ (∀ (j : Nat) (r : RT), rs[j]? = some r → r.sp = (j : Int) + 3) ∧ Hand hs' ∧ m' = (fun y : Str => if y = "rows" then some (Value.ref RL) else if y = "times" then some (Value.ref TM) else M' y) ∧
          (∀ r ∈ rs, ∀ p ∈ (RL, W.listOf #[] 0) :: (TM, LCg.lst ys) :: (hl, W.listOf hs.toArray nh) :: (L + 1, oh) :: rest, @Ne Nat p.1 r.a) ∧ n' = (RL, W.listOf (rtv rs).toArray (i + 1)) :: (TM, LCg.lst ys) :: (hl, W.listOf hs'.toArray nh') :: (L + 1, oh) :: rtl rs rest) { S with heap := h', toks := tk' }) := by
      intro D l ol q1 kk q2 v vn nn h' tk' m' S hokr hHn mI mR mT mh mL mZ lF3 em1 em2 lN3
      have ev : rtv (rs ++ [(⟨D, (i : Int) + 3, q1, kk, q2, v⟩ : RT)]) = rtv rs ++ [.ref D] := by simp [rtv]
      refine wrap_in ⟨_, _, _, (RL, W.listOf (rtv (rs ++ [(⟨D, (i : Int) + 3, q1, kk, q2, v⟩ : RT)])).toArray (i + 1)) :: (TM, LCg.lst ys) :: (hl, W.listOf vn.toArray nn) :: (L + 1, oh) :: rtl (rs ++ [(⟨D, (i : Int) + 3, q1, kk, q2, v⟩ : RT)]) rest, rfl, fr_top "rows" _ (fr_top "times" _ lF3 em2) em1, News.sub lN3 fun p hp => ?_, fun p hp => ?_, rs ++ [(⟨D, (i : Int) + 3, q1, kk, q2, v⟩ : RT)], vn, nn, _, by rw [List.length_append, hl3]; rfl, fun r hr => ?_, fun j r hr => ?_, hHn, rfl, fun r hr => ?_, rfl⟩
      · rw [ev] at hp
        rcases List.mem_cons.mp hp with rfl | hp
        · exact .tail _ (.tail _ (.head _))
        rcases List.mem_cons.mp hp with rfl | hp
        · exact .tail _ (.tail _ (.tail _ (.head _)))
        rcases List.mem_cons.mp hp with rfl | hp
        · exact .tail _ (.tail _ (.tail _ (.tail _ (.head _))))
        rcases List.mem_cons.mp hp with rfl | hp
        · exact .tail _ (.tail _ (.tail _ (.tail _ (.tail _ (.head _)))))
        rcases List.mem_cons.mp hp with rfl | hp
        · exact .tail _ (.tail _ (.tail _ (.tail _ (.tail _ (.tail _ (.head _))))))
        rcases mem_rtl.mp hp with ⟨r, hr, rfl⟩ | hp
        · rcases List.mem_append.mp hr with hr | hr
          · exact .tail _ (.tail _ (.tail _ (.tail _ (.tail _ (.tail _ (.tail _ (by rw [hZ]; exact mem_rtl.mpr (.inl ⟨r, hr, rfl⟩))))))))
          · rw [List.mem_singleton.mp hr]; exact .head _
        · exact .tail _ (.tail _ (.tail _ (.tail _ (.tail _ (.tail _ (.tail _ (by rw [hZ]; exact mem_rtl.mpr (.inr hp))))))))
      · rcases List.mem_cons.mp hp with rfl | hp
        · exact hItA (RL, W.listOf #[] 0) (.head _)
        rcases List.mem_cons.mp hp with rfl | hp
        · exact hItA (TM, LCg.lst ys) (.tail _ (.head _))
        rcases List.mem_cons.mp hp with rfl | hp
        · exact hItA (hl, W.listOf vs1.toArray nn1) (.tail _ (.tail _ (.head _)))
        rcases List.mem_cons.mp hp with rfl | hp
        · exact hItA (L + 1, oh) (.tail _ (.tail _ (.tail _ (.head _))))
        rcases mem_rtl.mp hp with ⟨r, hr, rfl⟩ | hp
        · rcases List.mem_append.mp hr with hr | hr
          · exact hItR r hr
          · rw [List.mem_singleton.mp hr]; exact Nat.ne_of_gt mI
        · exact hItA p (.tail _ (.tail _ (.tail _ (.tail _ hp))))
      · rcases List.mem_append.mp hr with hr | hr
        · exact hok r hr
        · rw [List.mem_singleton.mp hr]; exact hokr
      · by_cases hj : j < rs.length
        · rw [List.getElem?_append_left hj] at hr
          exact hsp j r hr
        · by_cases e2 : j = rs.length
          · subst e2
            rw [List.getElem?_append_right (Nat.le_refl _), Nat.sub_self] at hr
            rw [← Option.some.inj hr, hl3]
          · rw [List.getElem?_eq_none (by rw [List.length_append, List.length_singleton]; omega)] at hr
            cases hr
      · rcases List.mem_append.mp hr with hr | hr
        · exact hoff r hr
        · rw [List.mem_singleton.mp hr]
          intro p hp
          rcases List.mem_cons.mp hp with rfl | hp
          · exact Nat.ne_of_lt mR
          rcases List.mem_cons.mp hp with rfl | hp
          · exact Nat.ne_of_lt mT
          rcases List.mem_cons.mp hp with rfl | hp
          · exact Nat.ne_of_lt mh
          rcases List.mem_cons.mp hp with rfl | hp
          · exact Nat.ne_of_lt mL
          · exact Nat.ne_of_lt (allLt_mem mZ p (by rw [hZ]; exact mem_rtl.mpr (.inr hp)))
    replace fin := wrap_in fin
    rw [← hZ] at N₁
    clear lN lN0 hR2 hkeep lF hIt
    k_steps
    rename_i k6 t6 vs6 nn6 hk60 hk65 hH6 gN
    refine menu_kinds (by assumption) gN (by k_mem) hk60 hk65 (fun tq => ?_) (fun xq tq hxq => ?_)
    · k_steps
      rename News _ _ _ _ => lN3
      rename Fr _ _ _ _ => lF3
      rename _ < _ ∧ _ < _ ∧ _ < _ ∧ _ < _ ∧ _ < _ ∧ _ < _ ∧ AllLt _ _ => m1
      rw [List.push_toArray] at lN3
      obtain ⟨-, mI, mR, mT, mh, mL, mZ⟩ := m1
      exact fin _ _ _ _ _ _ _ _ _ _ _ _ _ (fun _ => ⟨_, _, rfl⟩) (by assumption) mI mR mT mh mL mZ lF3 rfl rfl lN3
    · k_steps
      rename News _ _ _ _ => lN3
      rename Fr _ _ _ _ => lF3
      rename _ < _ ∧ _ < _ ∧ _ < _ ∧ _ < _ ∧ _ < _ ∧ _ < _ ∧ AllLt _ _ => m1
      rw [List.push_toArray] at lN3
      obtain ⟨-, mI, mR, mT, mh, mL, mZ⟩ := m1
      exact fin _ _ _ _ _ _ _ _ _ _ _ _ _ (fun h => absurd h (by show ¬ ((xq == "delay") = true); rw [hxq]; exact Bool.false_ne_true)) hH6 mI mR mT mh mL mZ lF3 rfl rfl lN3
  · intro m₁ _ hq5
    refine ex4 hq5 fun rs hs3 nh3 M3 hp6 => ?_
    clear hq5
    have hl3 := hp6.1
    have hok := hp6.2.1
    have hsp := hp6.2.2.1
    have hH3 := hp6.2.2.2.1
    have eq7 := hp6.2.2.2.2.1
    have hoff := hp6.2.2.2.2.2.1
    have eq8 := hp6.2.2.2.2.2.2
    clear hp6
    subst eq7
    subst eq8
    intro h₁ tk₁ F₁ N₁
    k_steps
    exact hnext rs hs3 nh3 M3 _ _ (by omega) hok hsp hH3 F₁ (by rw [hl3]; exact N₁)
theorem freshU6 : True := by
  k_with_none
  (k_with "CJ" => (first | with_reducible assumption | with_reducible exact And.left (by first | with_reducible assumption | with_reducible exact And.right (by first | with_reducible assumption | with_reducible exact And.right (by first | with_reducible assumption | with_reducible exact And.right (by first | with_reducible assumption | with_reducible exact And.right (by first | with_reducible assumption | with_reducible exact And.right (by first | with_reducible assumption | with_reducible exact And.right (by first | with_reducible assumption | with_reducible exact And.right (by first | with_reducible assumption | with_reducible exact And.right (by first | with_reducible assumption | with_reducible exact And.right (by first | with_reducible assumption | with_reducible exact And.right (by first | with_reducible assumption | with_reducible exact And.right (by first | with_reducible assumption | with_reducible exact And.right (by first | with_reducible assumption | with_reducible exact And.right (by first | with_reducible assumption | with_reducible exact And.right (by first | with_reducible assumption | with_reducible exact And.right (by first | with_reducible assumption | with_reducible exact And.right (by first | with_reducible assumption | with_reducible exact And.right (by first | with_reducible assumption | with_reducible exact And.right (by first | with_reducible assumption | with_reducible exact And.right (by first | with_reducible assumption | with_reducible exact And.right (by first | with_reducible assumption | with_reducible exact And.right (by first | with_reducible assumption | with_reducible exact And.right (by with_reducible assumption)))))))))))))))))))))))))
  (k_with "execs cons" => (k_here; (fail_if_success (fail_if_success k_gentoks)); (with_reducible refine gen_toks ?_); intro tk))
  (k_with "execs nil" => (k_here; (fail_if_success (fail_if_success k_gentoks)); (with_reducible refine gen_toks ?_); intro tk))
  w_top off
  trivial
theorem rulesU6x1 : True := by
  (k_with "compareOp Eq str str" => (first | refine eqs_ff (by first | decide | (dsimp only; decide)) ?_ | refine eqs_tt (by first | decide | (dsimp only; decide)) ?_))
  (k_with "compareOp NotEq str str" => (first | refine nes_ff (by first | decide | (dsimp only; decide)) ?_ | refine nes_tt (by first | decide | (dsimp only; decide)) ?_))
  (k_with "exec" => ((k_here; (with_reducible show wpAny _ _ (exec (Stmt.While _ _ _ _) _) _ _ _); k_dflt (refine whl_startW ?_))))
  (k_with "WhlW" => ((dsimp only [WhlW])))
  (k_with "exec For Name Name cons nil" => (walk_at "WHOLE1"))
  (k_with "pyIter ref" => ((refine Wrap.out ?_)))
  (k_with "call ref" => ((k_here; (with_reducible show wpAny _ _ (call (Value.ref 410) _) _ _ _); k_dflt (refine' Spec.use (figure_spec ?u1 ?g1 ?g2) ?k1 ?k2 ?k3 ?k4 ?k5 ?k6 ?k7 ?k8 ?k9 ?_; (case k4 => k_asm); (case k1 => k_asm); (case k2 => k_asm); (case k3 => k_asm); (case k5 => k_asm); (case k8 => exact rfl); (case k6 => exact rfl); (case k7 => exact Nat.le_of_ble_eq_true rfl); (case k9 => exact Nat.le_of_ble_eq_true rfl); (case u1 => k_updF); (case g1 => assumption); (case g2 => omega)); refine cpsF ?_; walk_at "TAIL6")))
  (k_with "call ref" => ((k_here; (with_reducible show wpAny _ _ (call (Value.ref 49) _) _ _ _); k_dflt (refine' Spec.use (next_nil _ _ _ ?g1) ?k1 ?k2 ?k3 ?k4 ?k5 ?k6 ?k7 ?k8 ?k9 ?_; (case k4 => k_asm); (case k1 => k_asm); (case k2 => k_asm); (case k3 => k_asm); (case k5 => k_asm); (case k8 => exact rfl); (case k6 => exact rfl); (case k7 => exact Nat.le_of_ble_eq_true rfl); (case k9 => exact Nat.le_of_ble_eq_true rfl); (case g1 => k_mem); skip); refine cps2 ?_; walk_at "TAIL3")))
  (k_with "call ref" => ((k_here; (with_reducible show wpAny _ _ (call (Value.ref 49) _) _ _ _); k_dflt (refine' Spec.use (next_404 _ _ _ _ _ ?g1) ?k1 ?k2 ?k3 ?k4 ?k5 ?k6 ?k7 ?k8 ?k9 ?_; (case k4 => k_asm); (case k1 => k_asm); (case k2 => k_asm); (case k3 => k_asm); (case k5 => k_asm); (case k8 => exact rfl); (case k6 => exact rfl); (case k7 => exact Nat.le_of_ble_eq_true rfl); (case k9 => exact Nat.le_of_ble_eq_true rfl); (case g1 => k_mem); skip); refine cps2 ?_; walk_at "TAIL3")))
  (k_with "call type:range" => (walk_at "WHOLE3"))
  (k_with "CompSrc" => (walk_at "WHOLE4"))
  (k_with "CompSrcT" => (walk_at "WHOLE5"))
  (k_with "call builtin:len" => ((k_here; k_dflt (refine' lenS ?N ?m ?z ?_; (case N => k_asm); (case m => k_mem); (case z => assumption)))))
  (k_with "truthy ref" => ((k_here; k_dflt (refine' truthS ?N ?m ?z ?_; (case N => k_asm); (case m => k_mem); (case z => assumption)))))
  (k_with "subscriptTail" => ((k_here; (with_reducible show wpAny _ _ (subscriptTail _ _ (Value.ref (LC.SL _)) _) _ _ _); k_dflt (refine' item_spec ?k1 ?k2 ?k3 ?k4 ?k5 ?k6 ?_; (case k6 => assumption); (case k1 => k_asm); (case k2 => k_asm); (case k3 => k_mem); (case k4 => first | assumption | omega); (case k5 => omega)))))
  (k_with "call ref" => ((k_here; (with_reducible show wpAny _ _ (call (Value.ref 403) _) _ _ _); refine Wrap.out ?_)))
  (k_with "call ref" => ((k_here; (with_reducible show wpAny _ _ (call (Value.ref 284) _) _ _ _); refine Wrap.out ?_)))
  (k_with "call ref" => ((k_here; (with_reducible show wpAny _ _ (call (Value.ref 209) _) _ _ _); refine Wrap.out ?_)))
  (k_with "subscriptTail" => ((k_here; (with_reducible show wpAny _ _ (subscriptTail _ _ (Value.ref (CH.RR _)) _) _ _ _); k_dflt (refine' item_last ?k2 ?k3 ?k4 ?_; (case k2 => k_asm); (case k3 => k_mem); (case k4 => assumption)))))
  (k_with "subscriptTail" => ((k_here; (with_reducible show wpAny _ _ (subscriptTail _ _ (Value.ref (LC.AT _)) (Value.int _ _)) _ _ _); k_dflt (refine' PySem.W.ksa_sub ?k1 ?k2 ?k3 ?k4 ?k5 ?k6 ?_ ?k7; (case k1 => k_asm); (case k2 => k_mem); (case k3 => with_reducible assumption); (case k4 => first | assumption | omega); (case k5 => omega); (case k6 => omega); (case k7 => with_unfolding_all rfl); k_whole); walk_at "TAIL12")))
  (k_with "subscriptTail" => ((k_here; (with_reducible show wpAny _ _ (subscriptTail _ _ (Value.ref (LC.DU _)) (Value.int _ _)) _ _ _); k_dflt (refine' PySem.W.ksa_sub ?k1 ?k2 ?k3 ?k4 ?k5 ?k6 ?_ ?k7; (case k1 => k_asm); (case k2 => k_mem); (case k3 => with_reducible assumption); (case k4 => first | assumption | omega); (case k5 => omega); (case k6 => omega); (case k7 => with_unfolding_all rfl); k_whole); walk_at "TAIL12")))
  (k_with "subscriptTail" => ((k_here; (with_reducible show wpAny _ _ (subscriptTail _ _ (Value.ref (RW.a _)) (Value.int _ _)) _ _ _); k_dflt (refine' PySem.W.ksa_sub ?k1 ?k2 ?k3 ?k4 ?k5 ?k6 ?_ ?k7; (case k1 => k_asm); (case k2 => k_mem); (case k3 => with_reducible assumption); (case k4 => first | assumption | omega); (case k5 => omega); (case k6 => omega); (case k7 => with_unfolding_all rfl); k_whole); walk_at "TAIL12")))
  (k_with "setItem ref int" => ((k_here; (with_reducible show wpAny _ _ (setItem (Value.ref _) (Value.int _ _) (Value.int _ _)) _ _ _); k_dflt (refine' PySem.W.ksa_set ?k1 ?k2 ?k3 ?k4 ?k5 ?k6 ?k7 ?_; (case k1 => k_asm); (case k2 => k_asm); (case k3 => k_upd); (case k4 => with_reducible assumption); (case k5 => first | assumption | omega); (case k6 => omega); (case k7 => omega); k_whole); walk_at "TAIL13")))
  (k_with "compareOp NotEq ref ref" => ((k_here; k_dflt (refine' neL_same ?k1 ?k2 ?k3 ?k4 ?k5 ?k6 ?_; (case k1 => k_asm); (case k2 => k_mem); (case k3 => k_mem); (case k4 => with_reducible assumption); (case k5 => with_reducible assumption); (case k6 => exact Nat.le_of_ble_eq_true rfl)))))
  (k_with "compareOp Eq ref ref" => ((k_here; k_dflt (first | (refine' eqL_nil ?k1 ?k2 ?k3 ?k4 ?k5 ?k6 ?_; (case k1 => k_asm); (case k2 => k_mem); (case k3 => k_mem); (case k4 => with_reducible assumption); (case k5 => with_reducible assumption); (case k6 => exact Nat.le_of_ble_eq_true rfl)) | (refine' eqL_cons ?k1 ?k2 ?k3 ?k4 ?k5 ?k6 ?_; (case k1 => k_asm); (case k2 => k_mem); (case k3 => k_mem); (case k4 => with_reducible assumption); (case k5 => with_reducible assumption); (case k6 => exact Nat.le_of_ble_eq_true rfl))))))
  trivial
theorem next_lst {w : World} (D : Addr) (vs : List Value) (news : Led) (v : Value) (hl : (D, LCg.lst vs) ∈ news) (hni : ∀ v ∈ vs, NI v) (hv : leastV vs = v) :
    Spec w 395 950 49 [.ref D] news fun r l => r = v ∧ l = news := hv ▸ next_spec D vs.length vs news hl hni
theorem rulesU6x2 : True := by
  (k_with "call builtin:sorted" => ((refine Wrap.out ?_)))
  (k_with "call ref" => ((k_here; (with_reducible show wpAny _ _ (call (Value.ref 49) _) _ _ _); k_dflt (refine' Spec.use (next_lst _ _ _ _ ?g1 ?g2 ?g3) ?k1 ?k2 ?k3 ?k4 ?k5 ?k6 ?k7 ?k8 ?k9 ?_; (case k4 => k_asm); (case k1 => k_asm); (case k2 => k_asm); (case k3 => k_asm); (case k5 => k_asm); (case k8 => exact rfl); (case k6 => exact rfl); (case k7 => exact Nat.le_of_ble_eq_true rfl); (case k9 => exact Nat.le_of_ble_eq_true rfl); (case g1 => k_mem); (case g2 => assumption); (case g3 => assumption); skip); refine cps2 ?_; walk_at "TAIL3")))
  (k_with "subscriptTail" => ((k_here; k_dflt (refine' item_spec ?k1 ?k2 ?k3 ?k4 ?k5 ?k6 ?_; (case k1 => k_asm); (case k2 => k_asm); (case k3 => k_mem); (case k4 => omega); (case k5 => omega); (case k6 => exact rfl)))))
  trivial
theorem stageD {w : World} {pr : Program} {loose : List Str} {mean : ExcName → Option Value} {mg mb : Str → Option Value} {base h₀ : Heap} {cn : Str} {cnm : List (Str × NameKind)} {cig cic : Bool} {cmo : List (Str × Const)} {L₁ a : Addr} {ccd : Value} {cl : List (Str × Addr)} {outer : List Env} {L : Addr} {M : Str → Option Value} {s : Shared} {Q : Flow → Shared → Prop}
    {TM RL : Addr} {ys rl : List Value} {nr : Nat} {Z : Led}
    (B : Below (ktrTop 380 850 none cn ⟨.function, cnm, cig, cic, cmo⟩ L₁ a ccd cl outer) base (envX cn ⟨.function, cnm, cig, cic, cmo⟩ L₁ a ccd cl :: outer) h₀) (X : (Mine.hd.heap_39 w.params).In h₀) (T : Top pr loose mean mg mb h₀)
    (hys : ∀ y ∈ ys, NI y) (hyl : ys.length ≤ 3)
    (F : Fr h₀ L s.heap (fun y => if y = "rows" then some (.ref RL) else if y = "times" then some (.ref TM) else M y)) (N : News h₀ L s.heap ((TM, LCg.lst ys) :: (RL, W.listOf rl.toArray nr) :: Z))
    (hnext : ∀ (M' : Str → Option Value) (h' : Heap) (tk' : Nat), Fr h₀ L h' (fun y => if y = "rows" then some (.ref RL) else M' y) → News h₀ L h' ((RL, W.listOf rl.toArray nr) :: Z) →
      wpAny (model PySem.Challenge.pw_pb0024_01 w) ((ktrTop 380 850 none cn ⟨.function, cnm, cig, cic, cmo⟩ L₁ a ccd cl outer).deeper (toldEnv L)) (execs (toldStmts.drop 8) (toldEnv L)) Q (fun _ _ => False) { s with heap := h', toks := tk' }) :
    wpAny (model PySem.Challenge.pw_pb0024_01 w) ((ktrTop 380 850 none cn ⟨.function, cnm, cig, cic, cmo⟩ L₁ a ccd cl outer).deeper (toldEnv L)) (execs (toldStmts.drop 6) (toldEnv L)) Q (fun _ _ => False) s := by
  have hMk : MarkW := trivial
  generalize hR : toldStmts.drop 8 = rest8 at hnext
  have e : toldStmts.drop 6 = (toldStmts.drop 6).headD (.Pass ⟨0,0,0,0⟩) :: (toldStmts.drop 7).headD (.Pass ⟨0,0,0,0⟩) :: toldStmts.drop 8 := by rfl
  rw [e, hR]
  clear e hR
  have e : (toldStmts.drop 6).headD (.Pass ⟨0,0,0,0⟩) = (toldStmts.drop 6).headD (.Pass ⟨0,0,0,0⟩) := rfl
  conv at e => rhs; whnf
  rw [e]
  clear e
  have e : (toldStmts.drop 7).headD (.Pass ⟨0,0,0,0⟩) = (toldStmts.drop 7).headD (.Pass ⟨0,0,0,0⟩) := rfl
  conv at e => rhs; whnf
  rw [e]
  clear e
  have e : toldScope = toldScope := rfl
  conv at e => rhs; whnf
  unfold toldEnv at hnext ⊢
  rw [e] at hnext ⊢
  clear e
  replace hnext := wrap_in hnext
  have hysz : ys.toArray.size = ys.length := List.size_toArray
  have hyz : ys.length ≤ 100 := by omega
  k_steps
  rename News _ _ _ _ => lN
  rename Fr _ _ _ _ => lF
  refine wrap_in (LCt.CompSrcT.ledger (its := ys.toArray) (by rfl) lF lN (.head _) (size_of hyz) fun g' => ?_)
  rw [hysz]
  refine filt_comp ys nn _ (.inr ⟨_, .head _, rfl, _, rfl⟩) (fun i v hv _ => by simpa using hv) ?_ ?_ ?_
  · intro v hv C oC m₂ h tk E' I oI D oD hC hx F' N'
    rcases hys v hv with rfl | ⟨j, t, rfl⟩
    · k_steps
      exact wrap_in ⟨rfl, Ends.intro (by assumption) (by assumption)⟩
    · k_steps
      exact wrap_in ⟨rfl, Ends.intro (by assumption) (by assumption)⟩
  · intro v hv hc C oC m₂ h tk E' I oI D oD hC hx F' N'
    k_steps
    exact wrap_in ⟨rfl, Ends.intro (by assumption) (by assumption)⟩
  · intro D h tk F' N' ofD
    obtain ⟨ns, hi, hl⟩ := least_known hys
    have hfl : (ys.filter nn).length ≤ 3 := Nat.le_trans (List.length_filter_le ..) hyl
    k_steps
    rename News _ _ _ _ => lN2
    rename Fr _ _ _ _ => lF2
    refine wrap_in (kso_sorted lF2 lN2 ⟨_, (lN2 _ (.head _)).1, rfl, _, rfl⟩ hi (by rw [← hi.length]; omega) fun K vs' ns' c h' F3 N3 l1 i3 e3 p3 o3 b3 => ?_)
    have hvl : vs'.length ≤ 1000 := by rw [i3.length, e3, ← hi.length]; omega
    rcases hl with ⟨rfl, hn⟩ | ⟨hne, i, u, hn, him, hile⟩
    · have hv0 : vs' = [] := List.length_eq_zero_iff.mp (by rw [i3.length, e3]; rfl)
      subst hv0
      k_steps
      rename News _ _ _ _ => lN6
      rename Fr _ _ _ _ => lF6
      exact hnext _ _ _ (fr_top "rows" _ lF6 rfl) (News.sub lN6 fun p hp => .tail _ (.tail _ (.tail _ hp)))
    · cases i3 with
      | nil => exact absurd (List.length_eq_zero_iff.mp (by rw [← e3]; rfl)) hne
      | cons n0 t0 i4 =>
        have hb := b3 (List.length_pos_iff.mpr hne)
        have hi0 : i = n0 := Int.le_antisymm (hile _ hb.1) (hb.2 _ him)
        subst hi0
        k_steps
        · rename List.isEmpty _ = true => hbad
          cases hbad
        · rename _ ≠ List.getD _ _ _ => hbad
          exact absurd rfl hbad
        rename News _ _ _ _ => lN6
        rename Fr _ _ _ _ => lF6
        exact hnext _ _ _ (fr_top "rows" _ lF6 rfl) (News.sub lN6 fun p hp => .tail _ (.tail _ (.tail _ hp)))
theorem freshU7 : True := by
  k_with_none
  (k_with "CJ" => (first | with_reducible assumption | with_reducible exact And.left (by first | with_reducible assumption | with_reducible exact And.right (by first | with_reducible assumption | with_reducible exact And.right (by first | with_reducible assumption | with_reducible exact And.right (by first | with_reducible assumption | with_reducible exact And.right (by first | with_reducible assumption | with_reducible exact And.right (by first | with_reducible assumption | with_reducible exact And.right (by first | with_reducible assumption | with_reducible exact And.right (by first | with_reducible assumption | with_reducible exact And.right (by first | with_reducible assumption | with_reducible exact And.right (by first | with_reducible assumption | with_reducible exact And.right (by first | with_reducible assumption | with_reducible exact And.right (by first | with_reducible assumption | with_reducible exact And.right (by first | with_reducible assumption | with_reducible exact And.right (by first | with_reducible assumption | with_reducible exact And.right (by first | with_reducible assumption | with_reducible exact And.right (by first | with_reducible assumption | with_reducible exact And.right (by first | with_reducible assumption | with_reducible exact And.right (by first | with_reducible assumption | with_reducible exact And.right (by first | with_reducible assumption | with_reducible exact And.right (by first | with_reducible assumption | with_reducible exact And.right (by first | with_reducible assumption | with_reducible exact And.right (by first | with_reducible assumption | with_reducible exact And.right (by with_reducible assumption)))))))))))))))))))))))))
  (k_with "execs cons" => (k_here; (fail_if_success (fail_if_success k_gentoks)); (with_reducible refine gen_toks ?_); intro tk))
  (k_with "execs nil" => (k_here; (fail_if_success (fail_if_success k_gentoks)); (with_reducible refine gen_toks ?_); intro tk))
  w_top off
  trivial
theorem rulesU7x1 : True := by
  (k_with "compareOp Eq str str" => (first | refine eqs_ff (by first | decide | (dsimp only; decide)) ?_ | refine eqs_tt (by first | decide | (dsimp only; decide)) ?_))
  (k_with "compareOp NotEq str str" => (first | refine nes_ff (by first | decide | (dsimp only; decide)) ?_ | refine nes_tt (by first | decide | (dsimp only; decide)) ?_))
  (k_with "exec" => ((k_here; (with_reducible show wpAny _ _ (exec (Stmt.While _ _ _ _) _) _ _ _); k_dflt (refine whl_startW ?_))))
  (k_with "WhlW" => ((dsimp only [WhlW])))
  (k_with "exec For Name Name cons nil" => (walk_at "WHOLE1"))
  (k_with "pyIter ref" => ((refine Wrap.out ?_)))
  (k_with "call ref" => ((k_here; (with_reducible show wpAny _ _ (call (Value.ref 410) _) _ _ _); k_dflt (refine' Spec.use (figure_spec ?u1 ?g1 ?g2) ?k1 ?k2 ?k3 ?k4 ?k5 ?k6 ?k7 ?k8 ?k9 ?_; (case k4 => k_asm); (case k1 => k_asm); (case k2 => k_asm); (case k3 => k_asm); (case k5 => k_asm); (case k8 => exact rfl); (case k6 => exact rfl); (case k7 => exact Nat.le_of_ble_eq_true rfl); (case k9 => exact Nat.le_of_ble_eq_true rfl); (case u1 => k_updF); (case g1 => assumption); (case g2 => omega)); refine cpsF ?_; walk_at "TAIL6")))
  (k_with "call ref" => ((k_here; (with_reducible show wpAny _ _ (call (Value.ref 49) _) _ _ _); k_dflt (refine' Spec.use (next_nil _ _ _ ?g1) ?k1 ?k2 ?k3 ?k4 ?k5 ?k6 ?k7 ?k8 ?k9 ?_; (case k4 => k_asm); (case k1 => k_asm); (case k2 => k_asm); (case k3 => k_asm); (case k5 => k_asm); (case k8 => exact rfl); (case k6 => exact rfl); (case k7 => exact Nat.le_of_ble_eq_true rfl); (case k9 => exact Nat.le_of_ble_eq_true rfl); (case g1 => k_mem); skip); refine cps2 ?_; walk_at "TAIL3")))
  (k_with "call ref" => ((k_here; (with_reducible show wpAny _ _ (call (Value.ref 49) _) _ _ _); k_dflt (refine' Spec.use (next_404 _ _ _ _ _ ?g1) ?k1 ?k2 ?k3 ?k4 ?k5 ?k6 ?k7 ?k8 ?k9 ?_; (case k4 => k_asm); (case k1 => k_asm); (case k2 => k_asm); (case k3 => k_asm); (case k5 => k_asm); (case k8 => exact rfl); (case k6 => exact rfl); (case k7 => exact Nat.le_of_ble_eq_true rfl); (case k9 => exact Nat.le_of_ble_eq_true rfl); (case g1 => k_mem); skip); refine cps2 ?_; walk_at "TAIL3")))
  (k_with "call type:range" => (walk_at "WHOLE3"))
  (k_with "CompSrc" => (walk_at "WHOLE4"))
  (k_with "CompSrcT" => (walk_at "WHOLE5"))
  (k_with "call builtin:len" => ((k_here; k_dflt (refine' lenS ?N ?m ?z ?_; (case N => k_asm); (case m => k_mem); (case z => assumption)))))
  (k_with "truthy ref" => ((k_here; k_dflt (refine' truthS ?N ?m ?z ?_; (case N => k_asm); (case m => k_mem); (case z => assumption)))))
  (k_with "subscriptTail" => ((k_here; (with_reducible show wpAny _ _ (subscriptTail _ _ (Value.ref (LC.SL _)) _) _ _ _); k_dflt (refine' item_spec ?k1 ?k2 ?k3 ?k4 ?k5 ?k6 ?_; (case k6 => assumption); (case k1 => k_asm); (case k2 => k_asm); (case k3 => k_mem); (case k4 => first | assumption | omega); (case k5 => omega)))))
  (k_with "call ref" => ((k_here; (with_reducible show wpAny _ _ (call (Value.ref 403) _) _ _ _); refine Wrap.out ?_)))
  (k_with "call ref" => ((k_here; (with_reducible show wpAny _ _ (call (Value.ref 284) _) _ _ _); refine Wrap.out ?_)))
  (k_with "call ref" => ((k_here; (with_reducible show wpAny _ _ (call (Value.ref 209) _) _ _ _); refine Wrap.out ?_)))
  (k_with "subscriptTail" => ((k_here; (with_reducible show wpAny _ _ (subscriptTail _ _ (Value.ref (CH.RR _)) _) _ _ _); k_dflt (refine' item_last ?k2 ?k3 ?k4 ?_; (case k2 => k_asm); (case k3 => k_mem); (case k4 => assumption)))))
  (k_with "subscriptTail" => ((k_here; (with_reducible show wpAny _ _ (subscriptTail _ _ (Value.ref (LC.AT _)) (Value.int _ _)) _ _ _); k_dflt (refine' PySem.W.ksa_sub ?k1 ?k2 ?k3 ?k4 ?k5 ?k6 ?_ ?k7; (case k1 => k_asm); (case k2 => k_mem); (case k3 => with_reducible assumption); (case k4 => first | assumption | omega); (case k5 => omega); (case k6 => omega); (case k7 => with_unfolding_all rfl); k_whole); walk_at "TAIL12")))
  (k_with "subscriptTail" => ((k_here; (with_reducible show wpAny _ _ (subscriptTail _ _ (Value.ref (LC.DU _)) (Value.int _ _)) _ _ _); k_dflt (refine' PySem.W.ksa_sub ?k1 ?k2 ?k3 ?k4 ?k5 ?k6 ?_ ?k7; (case k1 => k_asm); (case k2 => k_mem); (case k3 => with_reducible assumption); (case k4 => first | assumption | omega); (case k5 => omega); (case k6 => omega); (case k7 => with_unfolding_all rfl); k_whole); walk_at "TAIL12")))
  (k_with "subscriptTail" => ((k_here; (with_reducible show wpAny _ _ (subscriptTail _ _ (Value.ref (RW.a _)) (Value.int _ _)) _ _ _); k_dflt (refine' PySem.W.ksa_sub ?k1 ?k2 ?k3 ?k4 ?k5 ?k6 ?_ ?k7; (case k1 => k_asm); (case k2 => k_mem); (case k3 => with_reducible assumption); (case k4 => first | assumption | omega); (case k5 => omega); (case k6 => omega); (case k7 => with_unfolding_all rfl); k_whole); walk_at "TAIL12")))
  (k_with "setItem ref int" => ((k_here; (with_reducible show wpAny _ _ (setItem (Value.ref _) (Value.int _ _) (Value.int _ _)) _ _ _); k_dflt (refine' PySem.W.ksa_set ?k1 ?k2 ?k3 ?k4 ?k5 ?k6 ?k7 ?_; (case k1 => k_asm); (case k2 => k_asm); (case k3 => k_upd); (case k4 => with_reducible assumption); (case k5 => first | assumption | omega); (case k6 => omega); (case k7 => omega); k_whole); walk_at "TAIL13")))
  (k_with "compareOp NotEq ref ref" => ((k_here; k_dflt (refine' neL_same ?k1 ?k2 ?k3 ?k4 ?k5 ?k6 ?_; (case k1 => k_asm); (case k2 => k_mem); (case k3 => k_mem); (case k4 => with_reducible assumption); (case k5 => with_reducible assumption); (case k6 => exact Nat.le_of_ble_eq_true rfl)))))
  (k_with "compareOp Eq ref ref" => ((k_here; k_dflt (first | (refine' eqL_nil ?k1 ?k2 ?k3 ?k4 ?k5 ?k6 ?_; (case k1 => k_asm); (case k2 => k_mem); (case k3 => k_mem); (case k4 => with_reducible assumption); (case k5 => with_reducible assumption); (case k6 => exact Nat.le_of_ble_eq_true rfl)) | (refine' eqL_cons ?k1 ?k2 ?k3 ?k4 ?k5 ?k6 ?_; (case k1 => k_asm); (case k2 => k_mem); (case k3 => k_mem); (case k4 => with_reducible assumption); (case k5 => with_reducible assumption); (case k6 => exact Nat.le_of_ble_eq_true rfl))))))
  (k_with "call builtin:sorted" => ((refine Wrap.out ?_)))
  (k_with "call ref" => ((k_here; (with_reducible show wpAny _ _ (call (Value.ref 70) _) _ _ _); refine Wrap.out ?_)))
  (k_with "subscriptTail" => ((k_here; k_dflt (refine' item_spec ?k1 ?k2 ?k3 ?k4 ?k5 ?k6 ?_; (case k1 => k_asm); (case k2 => k_asm); (case k3 => k_mem); (case k4 => omega); (case k5 => omega); (case k6 => exact rfl)))))
  (k_with "compareOp Eq str str" => (first | refine eqs_ff (by first | assumption | decide | (dsimp only; decide)) ?_ | refine eqs_tt (by first | assumption | decide | (dsimp only; decide)) ?_))
  trivial
theorem stageE {w : World} {pr : Program} {loose : List Str} {mean : ExcName → Option Value} {mg mb : Str → Option Value} {base h₀ : Heap} {cn : Str} {cnm : List (Str × NameKind)} {cig cic : Bool} {cmo : List (Str × Const)} {L₁ a : Addr} {ccd : Value} {cl : List (Str × Addr)} {outer : List Env} {L : Addr} {M : Str → Option Value} {s : Shared} {Q : Flow → Shared → Prop}
    {RL : Addr} {rs : List RT} {Z : Led}
    (B : Below (ktrTop 380 850 none cn ⟨.function, cnm, cig, cic, cmo⟩ L₁ a ccd cl outer) base (envX cn ⟨.function, cnm, cig, cic, cmo⟩ L₁ a ccd cl :: outer) h₀) (X : (Mine.hd.heap_39 w.params).In h₀) (T : Top pr loose mean mg mb h₀)
    (hrl : rs.length ≤ 4) (hok : ∀ r ∈ rs, OkR r) (hsp : ∀ (j : Nat) (r : RT), rs[j]? = some r → r.sp = (j : Int) + 3)
    (F : Fr h₀ L s.heap (fun y => if y = "rows" then some (.ref RL) else M y)) (N : News h₀ L s.heap ((RL, W.listOf (rtv rs).toArray rs.length) :: rtl rs Z))
    (hret : ∀ (M' : Str → Option Value) (h' : Heap) (tk' : Nat), Fr h₀ L h' M' → News h₀ L h' Z → Q (.ret (.bool true)) { s with heap := h', toks := tk' }) :
    wpAny (model PySem.Challenge.pw_pb0024_01 w) ((ktrTop 380 850 none cn ⟨.function, cnm, cig, cic, cmo⟩ L₁ a ccd cl outer).deeper (toldEnv L)) (execs (toldStmts.drop 8) (toldEnv L)) Q (fun _ _ => False) s := by
  have hMk : MarkW := trivial
  have e : toldStmts.drop 8 = toldStmts.drop 8 := rfl
  conv at e => rhs; whnf
  rw [e]
  clear e
  have e : toldScope = toldScope := rfl
  conv at e => rhs; whnf
  unfold toldEnv
  rw [e]
  clear e
  replace hret := wrap_in hret
  have hrv : (rtv rs).length ≤ 100 := by rw [rtv, List.length_map]; omega
  have hrsz : (rtv rs).toArray.size = rs.length := by simp [rtv]
  obtain ⟨V, hV⟩ : ∃ V : Led, V = (RL, W.listOf (rtv rs).toArray rs.length) :: rtl rs Z := ⟨_, rfl⟩
  rw [← hV] at N
  k_steps
  rename News _ _ _ _ => lN
  rename Fr _ _ _ _ => lF
  have hRLm : (RL, W.listOf (rtv rs).toArray rs.length) ∈ V := by rw [hV]; exact .head _
  refine wrap_in (LCt.CompSrcT.ledger (its := (rtv rs).toArray) (by rfl) lF lN hRLm (size_of hrv) fun g' => ?_)
  rw [hrsz]
  refine pair_comp rs V (fun ps => .inr ⟨_, mem_ptl.mpr (.inr hRLm), rfl, _, rfl⟩) hok (fun r hr => by rw [hV]; exact .tail _ (mem_rtl.mpr (.inl ⟨r, hr, rfl⟩))) (fun i v hv _ => by simpa using hv) ?_ ?_ ?_
  · rintro ⟨ra, rsp, rts, rk, rtk, rdat⟩ hr C oC m₂ h tk E' Zx hC hx F' N'
    dsimp only [robj] at hx N'
    cases hd : isD ⟨ra, rsp, rts, rk, rtk, rdat⟩ with
    | true =>
      have hkk : (rk == "delay") = true := hd
      k_steps
      exact wrap_in ⟨rfl, Ends.intro (by assumption) (by assumption)⟩
    | false =>
      have hkk : (rk == "delay") = false := hd
      k_steps
      exact wrap_in ⟨rfl, Ends.intro (by assumption) (by assumption)⟩
  · rintro ⟨ra, rsp, rts, rk, rtk, rdat⟩ hr d t hdat C oC m₂ h tk E' Zx hC hx F' N'
    dsimp only at hdat
    subst hdat
    dsimp only [robj] at hx N'
    k_steps
    rename News _ _ _ _ => lN3
    rename _ < _ ∧ _ < _ ∧ AllLt _ _ => m1
    refine wrap_in ⟨_, rfl, fun q hq => ?_, Ends.intro (by assumption) (News.sub lN3 fun p hp => ?_)⟩
    · rcases List.mem_cons.mp hq with rfl | hq
      · exact Nat.ne_of_lt m1.2.1
      · exact Nat.ne_of_lt (allLt_mem m1.2.2 q hq)
    · rcases List.mem_cons.mp hp with rfl | hp
      · exact .head _
      · exact .tail _ (.tail _ hp)
  · intro ps hA D h tk F' N' ofD
    have hpl : ps.length ≤ 4 := by
      rw [← hA.length]
      exact Nat.le_trans (List.length_filter_le ..) hrl
    k_steps
    rename News _ _ _ _ => lN2
    rename Fr _ _ _ _ => lF2
    have hcase : ps = [] ∨ (∃ p, ps = [p]) ∨ 2 ≤ ps.length := by
      match ps with
      | [] => exact .inl rfl
      | [p] => exact .inr (.inl ⟨p, rfl⟩)
      | _ :: _ :: _ => exact .inr (.inr (by first | k_mem | simp))
    rcases hcase with rfl | ⟨p, rfl⟩ | h2
    · refine wrap_in (sorted_short lF2 lN2 (.head _) (by simp [pvals]) fun K c h' F3 N3 l1 => ?_)
      replace N3 : News _ _ _ ((K, W.listOf #[] c) :: V) := News.sub N3 fun q hq => by
        rcases List.mem_cons.mp hq with rfl | hq
        · exact .head _
        · exact .tail _ (.tail _ (mem_ptl.mpr (.inr hq)))
      have hd0 : dl rs = [] := List.length_eq_zero_iff.mp hA.length
      clear lN2
      k_steps
      rename News _ _ _ _ => lN5
      refine wrap_in (Spec.use (least_spec RL rs.length rs ((K, W.listOf #[] c) :: Z) hok) (by assumption) (by assumption) (by assumption) (News.sub lN5 fun q hq => ?_) (by assumption) rfl (Nat.le_of_ble_eq_true rfl) rfl (Nat.le_of_ble_eq_true rfl) ?_)
      · rcases List.mem_cons.mp hq with rfl | hq
        · exact .tail _ hRLm
        rcases mem_rtl.mp hq with hq | hq
        · exact .tail _ (by rw [hV]; exact .tail _ (mem_rtl.mpr (.inl hq)))
        rcases List.mem_cons.mp hq with rfl | hq
        · exact .head _
        · exact .tail _ (by rw [hV]; exact .tail _ (mem_rtl.mpr (.inr hq)))
      rintro r n' h' tk' (⟨-, rfl, rfl⟩ | ⟨b, x, ⟨i, hi, -⟩, rfl, rfl⟩) F6 N6
      · replace N6 : News _ _ _ ((K, W.listOf #[] c) :: Z) := News.sub N6 fun q hq => .tail _ (mem_rtl.mpr (.inr hq))
        k_steps
        rename News _ _ _ _ => lN7
        exact hret _ _ _ (by assumption) (News.tl lN7)
      · rw [hd0] at hi; cases hi
    · refine wrap_in (sorted_short lF2 lN2 (.head _) (by simp [pvals]) fun K c h' F3 N3 l1 => ?_)
      obtain ⟨i, hpi, hfirst⟩ : ∃ i : Nat, [p][i]? = some p ∧ ∀ (j : Nat) (q : PT), [p][j]? = some q → p.d ≤ q.d ∧ (j < i → p.d < q.d) := ⟨0, rfl, fun j q hq => by
        rcases j with _ | j
        · rw [← Option.some.inj hq]; exact ⟨Int.le_refl _, fun h => absurd h (Nat.lt_irrefl _)⟩
        · cases hq⟩
      obtain ⟨rest, hrest, hre⟩ : ∃ rest : List Value, rest.length < 10 ∧ pvals [p] = Value.ref p.a :: rest := ⟨[], by decide, rfl⟩
      rw [hre] at N3
      obtain ⟨ps, hps⟩ : ∃ ps, ps = [p] := ⟨_, rfl⟩
      have N3 : News h₀ L h' ((K, W.listOf (Value.ref p.a :: rest).toArray c) :: (D, LCg.lst (pvals ps)) :: ptl ps V) := by rw [hps, hre]; exact N3
      rw [← hps] at hpi hfirst hA
      clear lN2
      have lN2 : True := trivial
      have hpm : (p.a, pobj p) ∈ ptl ps V := mem_ptl.mpr (.inl ⟨p, List.mem_of_getElem? hpi, rfl⟩)
      have N4 := News.snoc N3 (.tail _ (.tail _ hpm)) (fun _ h => h)
      clear N3 lN2
      obtain ⟨pa, pd, ptd, psp, pts⟩ := p
      dsimp only [pobj] at N4
      k_steps
      rename News _ _ _ _ => lN5
      refine wrap_in (Spec.use (least_spec RL rs.length rs ((K, W.listOf (Value.ref pa :: rest).toArray c) :: (pa, pobj ⟨pa, pd, ptd, psp, pts⟩) :: Z) hok) (by assumption) (by assumption) (by assumption) (News.sub lN5 fun q hq => ?_) (by assumption) rfl (Nat.le_of_ble_eq_true rfl) rfl (Nat.le_of_ble_eq_true rfl) ?_)
      · have hVin : ∀ q ∈ V, q ∈ (pa, pobj ⟨pa, pd, ptd, psp, pts⟩) :: (K, W.listOf (Value.ref pa :: rest).toArray c) :: (D, LCg.lst (pvals ps)) :: ptl ps V := fun q hq => .tail _ (.tail _ (.tail _ (mem_ptl.mpr (.inr hq))))
        rcases List.mem_cons.mp hq with rfl | hq
        · exact hVin _ hRLm
        rcases mem_rtl.mp hq with hq | hq
        · exact hVin _ (by rw [hV]; exact .tail _ (mem_rtl.mpr (.inl hq)))
        rcases List.mem_cons.mp hq with rfl | hq
        · exact .tail _ (.head _)
        rcases List.mem_cons.mp hq with rfl | hq
        · exact .head _
        · exact hVin _ (by rw [hV]; exact .tail _ (mem_rtl.mpr (.inr hq)))
      rintro r n' h' tk' (⟨hd0, rfl, rfl⟩ | ⟨b, x, hbx, rfl, rfl⟩) F6 N6
      · exfalso
        rw [hd0] at hA
        cases hA
        cases hpi
      · have hpx := best_first hA hbx hpi hfirst
        obtain ⟨xa, xsp, xts, xk, xtk, xdat⟩ := x
        obtain ⟨e1, e2, e3⟩ := hpx
        dsimp only at e1 e2 e3
        subst e1 e2 e3
        dsimp only [bobj] at N6
        replace N6 : News _ _ _ ((K, W.listOf (Value.ref pa :: rest).toArray c) :: (pa, { cls := .type "tuple", data := .seq #[.int pd ptd, .int xsp xts] }) :: (b, { cls := .type "tuple", data := .seq #[.int xsp xts, .int pd ptd] }) :: Z) := News.sub N6 fun q hq => by
          rcases List.mem_cons.mp hq with rfl | hq
          · exact .tail _ (.tail _ (mem_rtl.mpr (.inr (.head _))))
          rcases List.mem_cons.mp hq with rfl | hq
          · exact .tail _ (.tail _ (mem_rtl.mpr (.inr (.tail _ (.head _)))))
          rcases List.mem_cons.mp hq with rfl | hq
          · exact .head _
          · exact .tail _ (.tail _ (mem_rtl.mpr (.inr (.tail _ (.tail _ hq)))))
        have hvz : (Value.ref pa :: rest).length ≤ 1000 := by rw [List.length_cons]; omega
        k_steps
        · rename List.isEmpty _ = true => hbad
          cases hbad
        · rename News _ _ _ _ => lN7
          exact hret _ _ _ (by assumption) (News.sub lN7 fun q hq => .tail _ (.tail _ (.tail _ (.tail _ hq))))
    · refine wrap_in (sorted_pairs lF2 lN2 (.head _) h2 hpl (fun p hp => .tail _ (mem_ptl.mpr (.inl ⟨p, hp, rfl⟩))) (pairs_rise hA hsp) fun K i p c rest h' hpi hfirst hrest F3 N3 l1 => ?_)
      have hpm : (p.a, pobj p) ∈ ptl ps V := mem_ptl.mpr (.inl ⟨p, List.mem_of_getElem? hpi, rfl⟩)
      have N4 := News.snoc N3 (.tail _ (.tail _ hpm)) (fun _ h => h)
      clear N3 lN2
      obtain ⟨pa, pd, ptd, psp, pts⟩ := p
      dsimp only [pobj] at N4
      k_steps
      rename News _ _ _ _ => lN5
      refine wrap_in (Spec.use (least_spec RL rs.length rs ((K, W.listOf (Value.ref pa :: rest).toArray c) :: (pa, pobj ⟨pa, pd, ptd, psp, pts⟩) :: Z) hok) (by assumption) (by assumption) (by assumption) (News.sub lN5 fun q hq => ?_) (by assumption) rfl (Nat.le_of_ble_eq_true rfl) rfl (Nat.le_of_ble_eq_true rfl) ?_)
      · have hVin : ∀ q ∈ V, q ∈ (pa, pobj ⟨pa, pd, ptd, psp, pts⟩) :: (K, W.listOf (Value.ref pa :: rest).toArray c) :: (D, LCg.lst (pvals ps)) :: ptl ps V := fun q hq => .tail _ (.tail _ (.tail _ (mem_ptl.mpr (.inr hq))))
        rcases List.mem_cons.mp hq with rfl | hq
        · exact hVin _ hRLm
        rcases mem_rtl.mp hq with hq | hq
        · exact hVin _ (by rw [hV]; exact .tail _ (mem_rtl.mpr (.inl hq)))
        rcases List.mem_cons.mp hq with rfl | hq
        · exact .tail _ (.head _)
        rcases List.mem_cons.mp hq with rfl | hq
        · exact .head _
        · exact hVin _ (by rw [hV]; exact .tail _ (mem_rtl.mpr (.inr hq)))
      rintro r n' h' tk' (⟨hd0, rfl, rfl⟩ | ⟨b, x, hbx, rfl, rfl⟩) F6 N6
      · exfalso
        rw [hd0] at hA
        cases hA
        cases hpi
      · have hpx := best_first hA hbx hpi hfirst
        obtain ⟨xa, xsp, xts, xk, xtk, xdat⟩ := x
        obtain ⟨e1, e2, e3⟩ := hpx
        dsimp only at e1 e2 e3
        subst e1 e2 e3
        dsimp only [bobj] at N6
        replace N6 : News _ _ _ ((K, W.listOf (Value.ref pa :: rest).toArray c) :: (pa, { cls := .type "tuple", data := .seq #[.int pd ptd, .int xsp xts] }) :: (b, { cls := .type "tuple", data := .seq #[.int xsp xts, .int pd ptd] }) :: Z) := News.sub N6 fun q hq => by
          rcases List.mem_cons.mp hq with rfl | hq
          · exact .tail _ (.tail _ (mem_rtl.mpr (.inr (.head _))))
          rcases List.mem_cons.mp hq with rfl | hq
          · exact .tail _ (.tail _ (mem_rtl.mpr (.inr (.tail _ (.head _)))))
          rcases List.mem_cons.mp hq with rfl | hq
          · exact .head _
          · exact .tail _ (.tail _ (mem_rtl.mpr (.inr (.tail _ (.tail _ hq)))))
        have hvz : (Value.ref pa :: rest).length ≤ 1000 := by rw [List.length_cons]; omega
        k_steps
        · rename List.isEmpty _ = true => hbad
          cases hbad
        · rename News _ _ _ _ => lN7
          exact hret _ _ _ (by assumption) (News.sub lN7 fun q hq => .tail _ (.tail _ (.tail _ (.tail _ hq))))
theorem freshU8 : True := by
  k_with_none
  (k_with "CJ" => (first | with_reducible assumption | with_reducible exact And.left (by first | with_reducible assumption | with_reducible exact And.right (by first | with_reducible assumption | with_reducible exact And.right (by first | with_reducible assumption | with_reducible exact And.right (by first | with_reducible assumption | with_reducible exact And.right (by first | with_reducible assumption | with_reducible exact And.right (by first | with_reducible assumption | with_reducible exact And.right (by first | with_reducible assumption | with_reducible exact And.right (by first | with_reducible assumption | with_reducible exact And.right (by first | with_reducible assumption | with_reducible exact And.right (by first | with_reducible assumption | with_reducible exact And.right (by first | with_reducible assumption | with_reducible exact And.right (by first | with_reducible assumption | with_reducible exact And.right (by first | with_reducible assumption | with_reducible exact And.right (by first | with_reducible assumption | with_reducible exact And.right (by first | with_reducible assumption | with_reducible exact And.right (by first | with_reducible assumption | with_reducible exact And.right (by first | with_reducible assumption | with_reducible exact And.right (by first | with_reducible assumption | with_reducible exact And.right (by first | with_reducible assumption | with_reducible exact And.right (by first | with_reducible assumption | with_reducible exact And.right (by first | with_reducible assumption | with_reducible exact And.right (by first | with_reducible assumption | with_reducible exact And.right (by with_reducible assumption)))))))))))))))))))))))))
  (k_with "execs cons" => (k_here; (fail_if_success (fail_if_success k_gentoks)); (with_reducible refine gen_toks ?_); intro tk))
  (k_with "execs nil" => (k_here; (fail_if_success (fail_if_success k_gentoks)); (with_reducible refine gen_toks ?_); intro tk))
  w_top off
  trivial
theorem rulesU8x1 : True := by
  (k_with "compareOp Eq str str" => (first | refine eqs_ff (by first | decide | (dsimp only; decide)) ?_ | refine eqs_tt (by first | decide | (dsimp only; decide)) ?_))
  (k_with "compareOp NotEq str str" => (first | refine nes_ff (by first | decide | (dsimp only; decide)) ?_ | refine nes_tt (by first | decide | (dsimp only; decide)) ?_))
  (k_with "exec" => ((k_here; (with_reducible show wpAny _ _ (exec (Stmt.While _ _ _ _) _) _ _ _); k_dflt (refine whl_startW ?_))))
  (k_with "WhlW" => ((dsimp only [WhlW])))
  (k_with "exec For Name Name cons nil" => (walk_at "WHOLE1"))
  (k_with "pyIter ref" => ((refine Wrap.out ?_)))
  (k_with "call ref" => ((k_here; (with_reducible show wpAny _ _ (call (Value.ref 410) _) _ _ _); k_dflt (refine' Spec.use (figure_spec ?u1 ?g1 ?g2) ?k1 ?k2 ?k3 ?k4 ?k5 ?k6 ?k7 ?k8 ?k9 ?_; (case k4 => k_asm); (case k1 => k_asm); (case k2 => k_asm); (case k3 => k_asm); (case k5 => k_asm); (case k8 => exact rfl); (case k6 => exact rfl); (case k7 => exact Nat.le_of_ble_eq_true rfl); (case k9 => exact Nat.le_of_ble_eq_true rfl); (case u1 => k_updF); (case g1 => assumption); (case g2 => omega)); refine cpsF ?_; walk_at "TAIL6")))
  (k_with "call ref" => ((k_here; (with_reducible show wpAny _ _ (call (Value.ref 49) _) _ _ _); k_dflt (refine' Spec.use (next_nil _ _ _ ?g1) ?k1 ?k2 ?k3 ?k4 ?k5 ?k6 ?k7 ?k8 ?k9 ?_; (case k4 => k_asm); (case k1 => k_asm); (case k2 => k_asm); (case k3 => k_asm); (case k5 => k_asm); (case k8 => exact rfl); (case k6 => exact rfl); (case k7 => exact Nat.le_of_ble_eq_true rfl); (case k9 => exact Nat.le_of_ble_eq_true rfl); (case g1 => k_mem); skip); refine cps2 ?_; walk_at "TAIL3")))
  (k_with "call ref" => ((k_here; (with_reducible show wpAny _ _ (call (Value.ref 49) _) _ _ _); k_dflt (refine' Spec.use (next_404 _ _ _ _ _ ?g1) ?k1 ?k2 ?k3 ?k4 ?k5 ?k6 ?k7 ?k8 ?k9 ?_; (case k4 => k_asm); (case k1 => k_asm); (case k2 => k_asm); (case k3 => k_asm); (case k5 => k_asm); (case k8 => exact rfl); (case k6 => exact rfl); (case k7 => exact Nat.le_of_ble_eq_true rfl); (case k9 => exact Nat.le_of_ble_eq_true rfl); (case g1 => k_mem); skip); refine cps2 ?_; walk_at "TAIL3")))
  (k_with "call type:range" => (walk_at "WHOLE3"))
  (k_with "CompSrc" => (walk_at "WHOLE4"))
  (k_with "CompSrcT" => (walk_at "WHOLE5"))
  (k_with "call builtin:len" => ((k_here; k_dflt (refine' lenS ?N ?m ?z ?_; (case N => k_asm); (case m => k_mem); (case z => assumption)))))
  (k_with "truthy ref" => ((k_here; k_dflt (refine' truthS ?N ?m ?z ?_; (case N => k_asm); (case m => k_mem); (case z => assumption)))))
  (k_with "subscriptTail" => ((k_here; (with_reducible show wpAny _ _ (subscriptTail _ _ (Value.ref (LC.SL _)) _) _ _ _); k_dflt (refine' item_spec ?k1 ?k2 ?k3 ?k4 ?k5 ?k6 ?_; (case k6 => assumption); (case k1 => k_asm); (case k2 => k_asm); (case k3 => k_mem); (case k4 => first | assumption | omega); (case k5 => omega)))))
  (k_with "call ref" => ((k_here; (with_reducible show wpAny _ _ (call (Value.ref 403) _) _ _ _); refine Wrap.out ?_)))
  (k_with "call ref" => ((k_here; (with_reducible show wpAny _ _ (call (Value.ref 284) _) _ _ _); refine Wrap.out ?_)))
  (k_with "call ref" => ((k_here; (with_reducible show wpAny _ _ (call (Value.ref 209) _) _ _ _); refine Wrap.out ?_)))
  (k_with "subscriptTail" => ((k_here; (with_reducible show wpAny _ _ (subscriptTail _ _ (Value.ref (CH.RR _)) _) _ _ _); k_dflt (refine' item_last ?k2 ?k3 ?k4 ?_; (case k2 => k_asm); (case k3 => k_mem); (case k4 => assumption)))))
  (k_with "subscriptTail" => ((k_here; (with_reducible show wpAny _ _ (subscriptTail _ _ (Value.ref (LC.AT _)) (Value.int _ _)) _ _ _); k_dflt (refine' PySem.W.ksa_sub ?k1 ?k2 ?k3 ?k4 ?k5 ?k6 ?_ ?k7; (case k1 => k_asm); (case k2 => k_mem); (case k3 => with_reducible assumption); (case k4 => first | assumption | omega); (case k5 => omega); (case k6 => omega); (case k7 => with_unfolding_all rfl); k_whole); walk_at "TAIL12")))
  (k_with "subscriptTail" => ((k_here; (with_reducible show wpAny _ _ (subscriptTail _ _ (Value.ref (LC.DU _)) (Value.int _ _)) _ _ _); k_dflt (refine' PySem.W.ksa_sub ?k1 ?k2 ?k3 ?k4 ?k5 ?k6 ?_ ?k7; (case k1 => k_asm); (case k2 => k_mem); (case k3 => with_reducible assumption); (case k4 => first | assumption | omega); (case k5 => omega); (case k6 => omega); (case k7 => with_unfolding_all rfl); k_whole); walk_at "TAIL12")))
  (k_with "subscriptTail" => ((k_here; (with_reducible show wpAny _ _ (subscriptTail _ _ (Value.ref (RW.a _)) (Value.int _ _)) _ _ _); k_dflt (refine' PySem.W.ksa_sub ?k1 ?k2 ?k3 ?k4 ?k5 ?k6 ?_ ?k7; (case k1 => k_asm); (case k2 => k_mem); (case k3 => with_reducible assumption); (case k4 => first | assumption | omega); (case k5 => omega); (case k6 => omega); (case k7 => with_unfolding_all rfl); k_whole); walk_at "TAIL12")))
  (k_with "setItem ref int" => ((k_here; (with_reducible show wpAny _ _ (setItem (Value.ref _) (Value.int _ _) (Value.int _ _)) _ _ _); k_dflt (refine' PySem.W.ksa_set ?k1 ?k2 ?k3 ?k4 ?k5 ?k6 ?k7 ?_; (case k1 => k_asm); (case k2 => k_asm); (case k3 => k_upd); (case k4 => with_reducible assumption); (case k5 => first | assumption | omega); (case k6 => omega); (case k7 => omega); k_whole); walk_at "TAIL13")))
  (k_with "compareOp NotEq ref ref" => ((k_here; k_dflt (refine' neL_same ?k1 ?k2 ?k3 ?k4 ?k5 ?k6 ?_; (case k1 => k_asm); (case k2 => k_mem); (case k3 => k_mem); (case k4 => with_reducible assumption); (case k5 => with_reducible assumption); (case k6 => exact Nat.le_of_ble_eq_true rfl)))))
  (k_with "compareOp Eq ref ref" => ((k_here; k_dflt (first | (refine' eqL_nil ?k1 ?k2 ?k3 ?k4 ?k5 ?k6 ?_; (case k1 => k_asm); (case k2 => k_mem); (case k3 => k_mem); (case k4 => with_reducible assumption); (case k5 => with_reducible assumption); (case k6 => exact Nat.le_of_ble_eq_true rfl)) | (refine' eqL_cons ?k1 ?k2 ?k3 ?k4 ?k5 ?k6 ?_; (case k1 => k_asm); (case k2 => k_mem); (case k3 => k_mem); (case k4 => with_reducible assumption); (case k5 => with_reducible assumption); (case k6 => exact Nat.le_of_ble_eq_true rfl))))))
  trivial
theorem News.dedup {h₀ h : Heap} {L : Addr} : ∀ {l : Led}, News h₀ L h l → ∃ l' : Led, NDL l' ∧ ∀ p, p ∈ l' ↔ p ∈ l
  | [], _ => ⟨[], List.nodup_nil, fun _ => Iff.rfl⟩
  | q :: l, N => by
    obtain ⟨l', hn, hi⟩ := News.dedup (l := l) (News.tl N)
    by_cases hq : q.1 ∈ l'.map (·.1)
    · obtain ⟨p, hp, e⟩ := List.mem_map.mp hq
      have h1 := (N p (.tail _ ((hi p).mp hp))).1
      have h2 := (N q (.head _)).1
      rw [e, h2] at h1
      have epq : q = p := Prod.ext e.symm (Option.some.inj h1)
      refine ⟨l', hn, fun x => ⟨fun hx => .tail _ ((hi x).mp hx), fun hx => ?_⟩⟩
      rcases List.mem_cons.mp hx with rfl | hx
      · rw [epq]; exact hp
      · exact (hi x).mpr hx
    · refine ⟨q :: l', ?_, fun x => ?_⟩
      · unfold NDL
        rw [List.map_cons, List.nodup_cons]
        exact ⟨hq, hn⟩
      · simp only [List.mem_cons, hi x]
theorem rulesU8x2 : True := by
  (k_with "execs cons" => ((k_here; (with_reducible show wpAny _ _ (execs (Stmt.For _ _ _ _ _ :: _) _) _ _ _); refine Wrap.out ?_)))
  trivial
theorem told_nd {d x hl L : Addr} {o1 o2 o3 o4 o5 : Obj} {rest : Led} (hr : NDL rest) (hoff : ∀ p ∈ rest, p.1 ≠ hl) (l1 : @LT.lt Nat _ hl L) (l1r : AllLt L rest) (l2 : @LT.lt Nat _ (L + 1 + 1) d) (l3 : @LT.lt Nat _ (L + 1) d) (l4 : @LT.lt Nat _ hl d) (l5 : AllLt d rest) (l6 : @LT.lt Nat _ d x) :
    NDL ((d, o1) :: (hl, o2) :: (x, o3) :: (L + 1 + 1, o4) :: (L + 1, o5) :: rest) := by
  have h1 := hr.cons (o := o5) (allLt_lt (x := L + 1) (Nat.lt_succ_self L) l1r)
  have h2 := h1.cons (d := L + 1 + 1) (o := o4) ⟨Nat.lt_succ_self (L + 1), allLt_lt (Nat.lt_trans (Nat.lt_succ_self L) (Nat.lt_succ_self (L + 1))) l1r⟩
  have h3 := h2.consN (d := hl) (o := o2) fun p hp => by
    rcases List.mem_cons.mp hp with rfl | hp
    · exact Nat.ne_of_gt (Nat.lt_trans l1 (Nat.lt_trans (Nat.lt_succ_self L) (Nat.lt_succ_self (L + 1))))
    rcases List.mem_cons.mp hp with rfl | hp
    · exact Nat.ne_of_gt (Nat.lt_trans l1 (Nat.lt_succ_self L))
    · exact hoff p hp
  have h4 := h3.cons2 (d := d) (x := x) (o := o1) (o' := o3) ⟨l4, l2, l3, l5⟩ l6
  refine h4.perm (List.perm_iff_count.mpr fun a => ?_)
  simp only [List.map_cons, List.count_cons]
  omega
theorem told_spec {w : World} {hl : Addr} {n : Nat} {vs : List Value} {news : Led} {g : Obj → Led} (u : UpdF hl (W.listOf vs.toArray n) news g) (H : Hand vs) :
    Spec w 380 850 415 [.ref hl] news fun r l => ∃ vs' n', r = .bool true ∧ Hand vs' ∧ l = g (W.listOf vs'.toArray n') := by
  refine Spec.upd u fun rest hoff => ?_
  intro pr loose mean mg mb cn cnm cig cic cmo a ccd cl outer A₀ base h₀ L m s Q E B F X N T hret
  have hMk : MarkW := trivial
  obtain ⟨rest', hnd, hiff⟩ := News.dedup (News.tl N)
  replace N : News h₀ L s.heap ((hl, W.listOf vs.toArray n) :: rest') := News.sub N fun p hp => by
    rcases List.mem_cons.mp hp with rfl | hp
    · exact .head _
    · exact .tail _ ((hiff p).mp hp)
  have hoff' : ∀ p ∈ rest', p.1 ≠ hl := fun p hp => hoff p ((hiff p).mp hp)
  replace hret : Wrap (∀ (vs' : List Value) (n' : Nat) (h' : Heap) (tk' : Nat), Hand vs' → Fr h₀ L h' m → News h₀ L h' ((hl, W.listOf vs'.toArray n') :: rest') → Q (.bool true) { s with heap := h', toks := tk' }) := fun vs' n' h' tk' hH F' N' =>
    hret _ ((hl, W.listOf vs'.toArray n') :: rest) h' tk' ⟨W.listOf vs'.toArray n', ⟨vs', n', rfl, hH, rfl⟩, fun p hp => hp⟩ F' (News.sub N' fun p hp => by
      rcases List.mem_cons.mp hp with rfl | hp
      · exact .head _
      · exact .tail _ ((hiff p).mpr hp))
  replace hnd := wrap_in hnd
  clear hiff hoff
  k_steps
  rename _ < _ ∧ AllLt _ _ => l1
  have hr2 : ∀ p ∈ rest', p.1 ≠ _ + 1 + 1 := allLt_ne l1.2 (Nat.le_add_right _ 2)
  k_steps
  rename_i _ Lx _ _ _ bB bX bT _ oh _ dh xa da _ m1 m2 _ _ _ _ _ _ tkA _ _ _ _ _ _ oc dc _ lF lN
  have hn0 := told_nd (o1 := oc) (o2 := W.listOf vs.toArray n) (o3 := oc) (o4 := oc) (o5 := oh) hnd hoff' l1.1 l1.2 m1.1 m1.2.1 m1.2.2.1 m1.2.2.2 m2
  have hnB : NDL ((hl, W.listOf vs.toArray n) :: (Lx + 1, oh) :: rest') := by
    have h := hn0
    unfold NDL at h ⊢
    simp only [List.map_cons] at h ⊢
    exact h.sublist (.cons _ (.cons_cons _ (.cons _ (.cons _ (List.Sublist.refl _)))))
  refine wrap_in (wpAny_mono (stageA (hs := vs) (nh := n) (kn := tkA + 1 + 1) (t0 := tkA) (rest := rest') bB bX bT dc dh H (by exact hn0) lF (News.sub lN ?_) ?_) (fun _ _ q => q) fun _ _ e => e.elim)
  · intro p hp
    rcases List.mem_cons.mp hp with rfl | hp
    · exact .tail _ (.head _)
    rcases List.mem_cons.mp hp with rfl | hp
    · exact .tail _ (.tail _ (.tail _ (.tail _ (.head _))))
    rcases List.mem_cons.mp hp with rfl | hp
    · exact .head _
    rcases List.mem_cons.mp hp with rfl | hp
    · exact .tail _ (.tail _ (.head _))
    rcases List.mem_cons.mp hp with rfl | hp
    · exact .tail _ (.tail _ (.tail _ (.head _)))
    · exact .tail _ (.tail _ (.tail _ (.tail _ (.tail _ hp))))
  intro hs1 nh1 M1 h1 tk1 hH1 F1 N1
  refine stageB (nh := nh1) bB bX bT dh hH1 (by exact hnB) F1 N1 ?_
  intro TM RL ys hs2 nh2 h2 tk2 hyl hys hH2 hN2 F2 N2
  refine stageC bB bX bT dh hH2 hN2 F2 N2 ?_
  intro rs hs3 nh3 M3 h3 tk3 hrl hok hsp hH3 F3 N3
  refine stageD (rl := rtv rs) (nr := rs.length) (Z := (hl, W.listOf hs3.toArray nh3) :: (Lx + 1, oh) :: rtl rs rest') bB bX bT hys hyl F3 (News.sub N3 fun p hp => ?_) ?_
  · rcases List.mem_cons.mp hp with rfl | hp
    · exact .tail _ (.head _)
    rcases List.mem_cons.mp hp with rfl | hp
    · exact .head _
    · exact .tail _ (.tail _ hp)
  intro M4 h4 tk4 F4 N4
  refine stageE (Z := (hl, W.listOf hs3.toArray nh3) :: (Lx + 1, oh) :: rest') bB bX bT hrl hok hsp F4 (News.sub N4 fun p hp => ?_) ?_
  · rcases List.mem_cons.mp hp with rfl | hp
    · exact .head _
    refine .tail _ ?_
    rcases mem_rtl.mp hp with hp | hp
    · exact .tail _ (.tail _ (mem_rtl.mpr (.inl hp)))
    rcases List.mem_cons.mp hp with rfl | hp
    · exact .head _
    rcases List.mem_cons.mp hp with rfl | hp
    · exact .tail _ (.head _)
    · exact .tail _ (.tail _ (mem_rtl.mpr (.inr hp)))
  intro M5 h5 tk5 F5 N5
  k_steps
  rename News _ _ _ _ => lN9
  exact hret _ _ _ _ hH3 (by assumption) (News.sub lN9 fun p hp => by
    rcases List.mem_cons.mp hp with rfl | hp
    · exact .head _
    · exact .tail _ (.tail _ hp))
theorem freshT12 : True := by
  k_with_none
  (k_with "CJ" => (first | with_reducible assumption | with_reducible exact And.left (by first | with_reducible assumption | with_reducible exact And.right (by first | with_reducible assumption | with_reducible exact And.right (by first | with_reducible assumption | with_reducible exact And.right (by first | with_reducible assumption | with_reducible exact And.right (by first | with_reducible assumption | with_reducible exact And.right (by first | with_reducible assumption | with_reducible exact And.right (by first | with_reducible assumption | with_reducible exact And.right (by first | with_reducible assumption | with_reducible exact And.right (by first | with_reducible assumption | with_reducible exact And.right (by first | with_reducible assumption | with_reducible exact And.right (by first | with_reducible assumption | with_reducible exact And.right (by first | with_reducible assumption | with_reducible exact And.right (by first | with_reducible assumption | with_reducible exact And.right (by first | with_reducible assumption | with_reducible exact And.right (by first | with_reducible assumption | with_reducible exact And.right (by first | with_reducible assumption | with_reducible exact And.right (by first | with_reducible assumption | with_reducible exact And.right (by first | with_reducible assumption | with_reducible exact And.right (by first | with_reducible assumption | with_reducible exact And.right (by first | with_reducible assumption | with_reducible exact And.right (by first | with_reducible assumption | with_reducible exact And.right (by first | with_reducible assumption | with_reducible exact And.right (by with_reducible assumption)))))))))))))))))))))))))
  (k_with "execs cons" => (k_here; (fail_if_success (fail_if_success k_gentoks)); (with_reducible refine gen_toks ?_); intro tk))
  (k_with "execs nil" => (k_here; (fail_if_success (fail_if_success k_gentoks)); (with_reducible refine gen_toks ?_); intro tk))
  w_top off
  trivial
theorem rulesT12x1 : True := by
  (k_with "compareOp Eq str str" => (first | refine eqs_ff (by first | decide | (dsimp only; decide)) ?_ | refine eqs_tt (by first | decide | (dsimp only; decide)) ?_))
  (k_with "compareOp NotEq str str" => (first | refine nes_ff (by first | decide | (dsimp only; decide)) ?_ | refine nes_tt (by first | decide | (dsimp only; decide)) ?_))
  (k_with "call ref" => ((k_here; (with_reducible show wpAny _ _ (call (Value.ref 49) _) _ _ _); k_dflt (refine' Spec.use (next_nil _ _ _ ?g1) ?k1 ?k2 ?k3 ?k4 ?k5 ?k6 ?k7 ?k8 ?k9 ?_; (case k4 => k_asm); (case k1 => k_asm); (case k2 => k_asm); (case k3 => k_asm); (case k5 => k_asm); (case k8 => exact rfl); (case k6 => exact rfl); (case k7 => exact Nat.le_of_ble_eq_true rfl); (case k9 => exact Nat.le_of_ble_eq_true rfl); (case g1 => k_mem); skip); refine cps2 ?_; walk_at "TAIL3")))
  (k_with "call ref" => ((k_here; (with_reducible show wpAny _ _ (call (Value.ref 49) _) _ _ _); k_dflt (refine' Spec.use (next_404 _ _ _ _ _ ?g1) ?k1 ?k2 ?k3 ?k4 ?k5 ?k6 ?k7 ?k8 ?k9 ?_; (case k4 => k_asm); (case k1 => k_asm); (case k2 => k_asm); (case k3 => k_asm); (case k5 => k_asm); (case k8 => exact rfl); (case k6 => exact rfl); (case k7 => exact Nat.le_of_ble_eq_true rfl); (case k9 => exact Nat.le_of_ble_eq_true rfl); (case g1 => k_mem); skip); refine cps2 ?_; walk_at "TAIL3")))
  (k_with "call ref" => ((k_here; (with_reducible show wpAny _ _ (call (Value.ref 415) _) _ _ _); k_dflt (refine' Spec.use (told_spec ?u1 ?g1) ?k1 ?k2 ?k3 ?k4 ?k5 ?k6 ?k7 ?k8 ?k9 ?_; (case k4 => k_asm); (case k1 => k_asm); (case k2 => k_asm); (case k3 => k_asm); (case k5 => k_asm); (case k8 => exact rfl); (case k6 => exact rfl); (case k7 => exact Nat.le_of_ble_eq_true rfl); (case k9 => exact Nat.le_of_ble_eq_true rfl); (case u1 => k_updF); (case g1 => first | assumption | exact Hand.of (by assumption) (by simp only [List.length_map, List.length_take]; omega))); refine cpsT ?_; walk_at "TAIL16")))
  (k_with "execs cons" => ((k_here; (with_reducible show wpAny _ _ (execs (Stmt.For _ _ _ _ _ :: _) _) _ _ _); refine Wrap.out ?_)))
  trivial
theorem law_ndl (L H SL : Nat) (s0 : H < SL) (s7 : L + 1 + 1 + 1 + 1 + 1 + 1 + 1 < SL) (s6 : L + 1 + 1 + 1 + 1 + 1 + 1 < SL) (s5 : L + 1 + 1 + 1 + 1 + 1 < SL) (s4 : L + 1 + 1 + 1 + 1 < SL) (s3 : L + 1 + 1 + 1 < SL) (s2 : L + 1 + 1 < SL) (s1 : L + 1 < SL) (s8 : 417 < SL)
    (g7 : L + 1 + 1 + 1 + 1 + 1 + 1 + 1 ≠ H) (g6 : L + 1 + 1 + 1 + 1 + 1 + 1 ≠ H) (g5 : L + 1 + 1 + 1 + 1 + 1 ≠ H) (g4 : L + 1 + 1 + 1 + 1 ≠ H) (g3 : L + 1 + 1 + 1 ≠ H) (g2 : L + 1 + 1 ≠ H) (g1 : L + 1 ≠ H) (g8 : 417 ≠ H) (hlt : 417 < L) :
    ([SL, H, L + 1, L + 1 + 1, L + 1 + 1 + 1, L + 1 + 1 + 1 + 1, L + 1 + 1 + 1 + 1 + 1, L + 1 + 1 + 1 + 1 + 1 + 1, L + 1 + 1 + 1 + 1 + 1 + 1 + 1, 417] : List Nat).Nodup := by
  have nm : ([L + 1, L + 1 + 1, L + 1 + 1 + 1, L + 1 + 1 + 1 + 1, L + 1 + 1 + 1 + 1 + 1, L + 1 + 1 + 1 + 1 + 1 + 1, L + 1 + 1 + 1 + 1 + 1 + 1 + 1] : List Nat).Nodup :=
    show (([1, 2, 3, 4, 5, 6, 7] : List Nat).map (L + ·)).Nodup from List.pairwise_map.mpr (List.Pairwise.imp (fun h e => h (Nat.add_left_cancel e)) (by decide : ([1, 2, 3, 4, 5, 6, 7] : List Nat).Pairwise (· ≠ ·)))
  have nc : ([L + 1, L + 1 + 1, L + 1 + 1 + 1, L + 1 + 1 + 1 + 1, L + 1 + 1 + 1 + 1 + 1, L + 1 + 1 + 1 + 1 + 1 + 1, L + 1 + 1 + 1 + 1 + 1 + 1 + 1] ++ [417] : List Nat).Nodup := by
    refine List.nodup_append.mpr ⟨nm, by simp, fun a ha b hb => ?_⟩
    rw [List.mem_singleton.mp hb]
    obtain ⟨i, _, rfl⟩ := List.mem_map.mp (show a ∈ ([1, 2, 3, 4, 5, 6, 7] : List Nat).map (L + ·) from ha)
    omega
  refine List.nodup_cons.mpr ⟨fun h => ?_, List.nodup_cons.mpr ⟨fun h => ?_, nc⟩⟩
  · have k : ∀ x ∈ ([H, L + 1, L + 1 + 1, L + 1 + 1 + 1, L + 1 + 1 + 1 + 1, L + 1 + 1 + 1 + 1 + 1, L + 1 + 1 + 1 + 1 + 1 + 1, L + 1 + 1 + 1 + 1 + 1 + 1 + 1, 417] : List Nat), x ≠ SL :=
      List.forall_mem_cons.mpr ⟨Nat.ne_of_lt s0, List.forall_mem_cons.mpr ⟨Nat.ne_of_lt s1, List.forall_mem_cons.mpr ⟨Nat.ne_of_lt s2, List.forall_mem_cons.mpr ⟨Nat.ne_of_lt s3, List.forall_mem_cons.mpr ⟨Nat.ne_of_lt s4, List.forall_mem_cons.mpr ⟨Nat.ne_of_lt s5, List.forall_mem_cons.mpr ⟨Nat.ne_of_lt s6, List.forall_mem_cons.mpr ⟨Nat.ne_of_lt s7, List.forall_mem_cons.mpr ⟨Nat.ne_of_lt s8, List.forall_mem_nil _⟩⟩⟩⟩⟩⟩⟩⟩⟩
    exact k _ h rfl
  · have k : ∀ x ∈ ([L + 1, L + 1 + 1, L + 1 + 1 + 1, L + 1 + 1 + 1 + 1, L + 1 + 1 + 1 + 1 + 1, L + 1 + 1 + 1 + 1 + 1 + 1, L + 1 + 1 + 1 + 1 + 1 + 1 + 1, 417] : List Nat), x ≠ H :=
      List.forall_mem_cons.mpr ⟨g1, List.forall_mem_cons.mpr ⟨g2, List.forall_mem_cons.mpr ⟨g3, List.forall_mem_cons.mpr ⟨g4, List.forall_mem_cons.mpr ⟨g5, List.forall_mem_cons.mpr ⟨g6, List.forall_mem_cons.mpr ⟨g7, List.forall_mem_cons.mpr ⟨g8, List.forall_mem_nil _⟩⟩⟩⟩⟩⟩⟩⟩
    exact k _ h rfl
theorem law_holds.tw4503035019201841076 : True := trivial
theorem law_holds.tw8075568018651887793 : True := trivial
theorem law_holds.tw11846676642670509255 : True := trivial
theorem law_holds.tw1414043511812021011 : True := trivial
theorem law_holds.tw14160533322030094474 : True := trivial
theorem law_holds.tw447027507633508388 : True := trivial
theorem law_holds.tw8720880381367431298 : True := trivial
theorem law_holds.tw6860709855171689206 : True := trivial
theorem law_holds.tw7263927829009736852 : True := trivial
theorem law_holds.tw9168033884955339765 : True := trivial
theorem law_holds.tw10802322836594944301 : True := trivial
theorem law_holds.tw3974387499553966400 : True := trivial
theorem law_holds.tw9288214680346807717 : True := trivial
theorem law_holds.tw10028117763298573888 : True := trivial
theorem law_holds.tw2695550118857162214 : True := trivial
theorem law_holds.tw16805829885119392726 : True := trivial
theorem law_holds.tw4992725456586698614 : True := trivial
theorem law_holds.tw8514742172934523775 : True := trivial
theorem law_holds.tw2557128651999224082 : True := trivial
theorem law_holds.tw7696488724909661519 : True := trivial
theorem law_holds.tw11097350217990362986 : True := trivial
theorem law_holds.tw3307954989432871184 : True := trivial
theorem law_holds.tw2503670479209048990 : True := trivial
theorem law_holds.tw1096898596823417342 : True := trivial
theorem law_holds.tw2887050238494874643 : True := trivial
theorem law_holds.tw18326849912455186884 : True := trivial
theorem law_holds.tw1784627337472249616 : True := trivial
theorem law_holds.tw16893121556090616931 : True := trivial
theorem law_holds.tw10007947361888340627 : True := trivial
theorem law_holds.tw14872900085578418628 : True := trivial
theorem law_holds.tw3756308257209627903 : True := trivial
theorem law_holds.tw18261290160731607033 : True := trivial
theorem law_holds.tw6727219029552735585 : True := trivial
theorem law_holds.tw2907507879108658156 : True := trivial
theorem law_holds.tw7408472829698581751 : True := trivial
theorem law_holds.tw1341266762083198811 : True := trivial
theorem law_holds.tw7495221243884187115 : True := trivial
theorem law_holds.tw11633083819707477107 : True := trivial
theorem law_holds.tw4524032621918665186 : True := trivial
theorem law_holds.tw4037910625419469346 : True := trivial
theorem law_holds.tw12459966957829302596 : True := trivial
theorem law_holds.tw6265907326580845545 : True := trivial
theorem law_holds.tw7769649832755249146 : True := trivial
theorem law_holds.tw5858263632927829637 : True := trivial
theorem law_holds.tw13536078969547264968 : True := trivial
theorem law_holds.tw5506821171919863439 : True := trivial
theorem law_holds.tw6667284449218939238 : True := trivial
theorem law_holds.tw17713402740875732926 : True := trivial
theorem law_holds.tw11484002064277903863 : True := trivial
theorem law_holds.tw1670043908289496885 : True := trivial
theorem law_holds.tw2269544990204364226 : True := trivial
theorem law_holds.tw179590077315354965 : True := trivial
theorem law_holds.tw13331153079845114423 : True := trivial
theorem law_holds.tw6896717019858035522 : True := trivial
theorem law_holds.tw18135211599370774712 : True := trivial
theorem law_holds.tw15472126771306010800 : True := trivial
theorem law_holds.tw858609336285453135 : True := trivial
theorem law_holds.tw3850334171643177529 : True := trivial
theorem law_holds.tw15609566024721092083 : True := trivial
theorem law_holds.tw9606376775287448836 : True := trivial
theorem law_holds.tw1496123403401453975 : True := trivial
theorem law_holds.tw12116493165278983582 : True := trivial
theorem law_holds.tw1385162719727133579 : True := trivial
theorem law_holds.tw2602977815382960713 : True := trivial
theorem law_holds.tw14326059299131336239 : True := trivial
theorem law_holds.tw5920216800500632969 : True := trivial
theorem law_holds.tw16461882675039125421 : True := trivial
theorem law_holds.tw907578622648922086 : True := trivial
theorem law_holds.tw16009327648451700120 : True := trivial
theorem law_holds.tw15732109348078318572 : True := trivial
theorem law_holds.tw11690447701083486646 : True := trivial
theorem law_holds.tw16760957895259694429 : True := trivial
theorem law_holds.tw15661869461025623997 : True := trivial
theorem law_holds.tw15333956030411951890 : True := trivial
theorem law_holds.tw2152083551845799040 : True := trivial
theorem law_holds.tw18090433342136740992 : True := trivial
theorem law_holds.tw3776956092104397036 : True := trivial
theorem law_holds.tw1724926542741425601 : True := trivial
theorem law_holds.tw15150646450996357022 : True := trivial
theorem law_holds.tw4581845663705801772 : True := trivial
theorem law_holds.tw9423440377400516374 : True := trivial
theorem law_holds.tw5769158387606399586 : True := trivial
theorem law_holds.tw11426015686315989412 : True := trivial
theorem law_holds.tw6499956759230125245 : True := trivial
theorem law_holds.tw11100686419730198450 : True := trivial
theorem law_holds.tw16182259748660777344 : True := trivial
theorem law_holds.tw2078624436916829710 : True := trivial
theorem law_holds.tw10516828495840041881 : True := trivial
theorem law_holds.tw15154110283740273250 : True := trivial
theorem law_holds.tw3682559726232862161 : True := trivial
theorem law_holds.tw17923851452625207687 : True := trivial
theorem law_holds.tw14822640431511872941 : True := trivial
theorem law_holds.tw13956741780833797525 : True := trivial
theorem law_holds.tw8266603773606604290 : True := trivial
theorem law_holds.tw10970167974883121727 : True := trivial
theorem law_holds.tw3438298445031660282 : True := trivial
theorem law_holds.tw18051328159682125866 : True := trivial
theorem law_holds.tw1905533677188600702 : True := trivial
theorem law_holds.tw6507877686720480950 : True := trivial
theorem law_holds.tw4370086069003782432 : True := trivial
theorem law_holds.tw4329158554759489670 : True := trivial
theorem law_holds.tw41732636909640268 : True := trivial
theorem law_holds.tw16470317323979864763 : True := trivial
theorem law_holds.tw11017292853192552079 : True := trivial
theorem law_holds.tw8249079356659094474 : True := trivial
theorem law_holds.tw12296726922439171297 : True := trivial
theorem law_holds.tw4889031023730116350 : True := trivial
theorem law_holds.tw13766487248619392586 : True := trivial
theorem law_holds.tw17253691774821329096 : True := trivial
theorem law_holds.tw8857742495270377987 : True := trivial
theorem law_holds.tw1928719863018725356 : True := trivial
theorem law_holds.tw8570087061310353148 : True := trivial
theorem law_holds.tw6159533029260741167 : True := trivial
theorem law_holds.tw10666784280354678857 : True := trivial
theorem law_holds.tw2006301483956418059 : True := trivial
theorem law_holds.tw12502668053019428978 : True := trivial
theorem law_holds.tw3850375180904979519 : True := trivial
theorem law_holds.tw2075624079617657780 : True := trivial
theorem law_holds.tw12149405283708829123 : True := trivial
theorem law_holds.tw9875236377963488844 : True := trivial
theorem law_holds.tw7221428835167493151 : True := trivial
theorem law_holds.tw10371022188087798493 : True := trivial
theorem law_holds.tw5455921660152230842 : True := trivial
theorem law_holds.tw10958410103948607464 : True := trivial
theorem law_holds.tw11677100312832694166 : True := trivial
theorem law_holds.tw3366817510852727610 : True := trivial
theorem law_holds.tw676263390381983339 : True := trivial
theorem law_holds.tw5117662029339320154 : True := trivial
theorem law_holds.tw9779807473162285230 : True := trivial
theorem law_holds.tw4441770287765753910 : True := trivial
theorem law_holds.tw1819975233463548508 : True := trivial
theorem law_holds.tw12626328134170644701 : True := trivial
theorem law_holds.tw13182730311906835528 : True := trivial
theorem law_holds.tw13220211186989608806 : True := trivial
theorem law_holds.tw784011647948385275 : True := trivial
theorem law_holds.tw6677821561840896501 : True := trivial
theorem law_holds.tw3979707639553702691 : True := trivial
theorem law_holds.tw6260460797876433568 : True := trivial
theorem law_holds.tw602461330855297101 : True := trivial
theorem law_holds.tw14826091818025786295 : True := trivial
theorem law_holds.tw4037582482628031876 : True := trivial
theorem law_holds.tw15274831704391544125 : True := trivial
theorem law_holds.tw926570990666696690 : True := trivial
theorem law_holds.tw6568228946969608854 : True := trivial
theorem law_holds.tw699380112222796084 : True := trivial
theorem law_holds.tw7120836010843673076 : True := trivial
theorem law_holds.tw9317688335297629284 : True := trivial
theorem law_holds.tw6333624483447246961 : True := trivial
theorem law_holds.tw3742325753681652743 : True := trivial
theorem law_holds.tw17255088995462705879 : True := trivial
theorem law_holds.tw10264638600885302300 : True := trivial
theorem law_holds.tw1689763614830377041 : True := trivial
theorem law_holds.tw3253820488102484341 : True := trivial
theorem law_holds.tw575232530192455986 : True := trivial
theorem law_holds.tw10968802771074238664 : True := trivial
theorem law_holds.tw7910590604623066228 : True := trivial
theorem law_holds.tw3943428198234077543 : True := trivial
theorem law_holds.tw11881114122080957857 : True := trivial
theorem law_holds.tw3426384778480675251 : True := trivial
theorem law_holds.tw10566571302883470556 : True := trivial
theorem law_holds.tw14354538779393863138 : True := trivial
theorem law_holds.tw13280740594461564331 : True := trivial
theorem law_holds.tw2055734563569237896 : True := trivial
theorem law_holds.tw15014403891855920072 : True := trivial
theorem law_holds.tw11966672015165255308 : True := trivial
theorem law_holds.tw6564709946809587534 : True := trivial
theorem law_holds.tw10024239376800412576 : True := trivial
theorem law_holds.tw3896150654470677357 : True := trivial
theorem law_holds.tw15607887362523206001 : True := trivial
theorem law_holds.tw8472228645029834797 : True := trivial
theorem law_holds.tw6911747868599837429 : True := trivial
theorem law_holds.tw7408322871517469003 : True := trivial
theorem law_holds.tw8957123355933967898 : True := trivial
theorem law_holds.tw7472407996622490835 : True := trivial
theorem law_holds.tw8970147916757833333 : True := trivial
theorem law_holds.tw11781800970755023335 : True := trivial
theorem law_holds.tw3927331946688356228 : True := trivial
theorem law_holds.tw17598101756349436640 : True := trivial
theorem law_holds.tw16883458599210261866 : True := trivial
theorem law_holds.tw12303009252429188658 : True := trivial
theorem law_holds.tw16406091861079842607 : True := trivial
theorem law_holds.tw14498155544194170393 : True := trivial
theorem law_holds.tw6881874429007886204 : True := trivial
theorem law_holds.tw4072507727158212662 : True := trivial
theorem law_holds.tw11544315989524547432 : True := trivial
theorem law_holds.tw9390180788277804093 : True := trivial
theorem law_holds.tw13478230802861573701 : True := trivial
theorem law_holds.tw12889673554181485818 : True := trivial
theorem law_holds.tw15006436103509636135 : True := trivial
theorem law_holds.tw14377833709258309704 : True := trivial
theorem law_holds.tw10188763426450519768 : True := trivial
theorem law_holds.tw11878328766981772258 : True := trivial
theorem law_holds.tw14571795756577361901 : True := trivial
theorem law_holds.tw9843604407834444796 : True := trivial
theorem law_holds.tw11924589543154377013 : True := trivial
theorem law_holds.tw14289194402921355359 : True := trivial
theorem law_holds.tw1377309892636839040 : True := trivial
theorem law_holds.tw4818577856007422655 : True := trivial
theorem law_holds.tw8909828626151137519 : True := trivial
theorem law_holds.tw16273140198857503625 : True := trivial
theorem law_holds.tw12780804625047726367 : True := trivial
theorem law_holds.tw18254337876149969668 : True := trivial
theorem law_holds.tw3005452535816212104 : True := trivial
theorem law_holds.tw11977050620070087417 : True := trivial
theorem law_holds.tw4593294709026258786 : True := trivial
theorem law_holds.tw8040771413219435098 : True := trivial
theorem law_holds.tw170120893368708027 : True := trivial
theorem law_holds.tw653560878884961445 : True := trivial
theorem law_holds.tw6719018230134327050 : True := trivial
theorem law_holds.tw11463670642173560981 : True := trivial
theorem law_holds.tw2143268655074302082 : True := trivial
theorem law_holds.tw5112083995522966620 : True := trivial
theorem law_holds.tw607667584577438428 : True := trivial
theorem law_holds.tw3910120701321347557 : True := trivial
theorem law_holds.tw14883556706271630602 : True := trivial
theorem law_holds.tw13028658284911697911 : True := trivial
theorem law_holds.tw16690188075714780428 : True := trivial
theorem law_holds.tw10242277825702978295 : True := trivial
theorem law_holds.tw17911580528928914924 : True := trivial
theorem law_holds.tw631266038723830076 : True := trivial
theorem law_holds.tw4614512636035447770 : True := trivial
theorem law_holds.tw4515466672771955728 : True := trivial
theorem law_holds.tw9529696498207198238 : True := trivial
theorem law_holds.tw4323815956820902445 : True := trivial
theorem law_holds.tw15829985883664642994 : True := trivial
theorem law_holds.tw8835965917227929528 : True := trivial
theorem law_holds.tw7356724547972884604 : True := trivial
theorem law_holds.tw10108825076125807744 : True := trivial
theorem law_holds.tw9013377322688217293 : True := trivial
theorem law_holds.tw3046938939346580660 : True := trivial
theorem law_holds.tw2136269947727277649 : True := trivial
theorem law_holds.tw8666519363043736892 : True := trivial
theorem law_holds.tw1973129929022764952 : True := trivial
theorem law_holds.tw8386679336120195906 : True := trivial
theorem law_holds.tw14385925486924208373 : True := trivial
theorem law_holds.tw8191475993861738794 : True := trivial
theorem law_holds.tw5451054884063135654 : True := trivial
theorem law_holds.tw13958071646730322851 : True := trivial
theorem law_holds.tw18234560199702728603 : True := trivial
theorem law_holds.tw3882201998751590657 : True := trivial
theorem law_holds.tw8854015012368427407 : True := trivial
theorem law_holds.tw16720094985154256693 : True := trivial
theorem law_holds.tw1791086108937442324 : True := trivial
theorem law_holds.tw15452448965706171373 : True := trivial
theorem law_holds.tw18430954121086234272 : True := trivial
theorem law_holds.tw8984712037535005518 : True := trivial
theorem law_holds.tw2558664710541493025 : True := trivial
theorem law_holds.tw8652346329174877282 : True := trivial
theorem law_holds.tw13650905803964671038 : True := trivial
theorem law_holds.tw1622690429015379626 : True := trivial
theorem law_holds.tw3390839446522356110 : True := trivial
theorem law_holds.tw2446358144275080391 : True := trivial
theorem law_holds.tw11404014056486942332 : True := trivial
theorem law_holds.tw17899081815984039989 : True := trivial
theorem law_holds.tw7304591109411159013 : True := trivial
theorem law_holds.tw14904137174637212347 : True := trivial
theorem law_holds.tw10841264019214440115 : True := trivial
theorem law_holds.tw4146061822495498468 : True := trivial
theorem law_holds.tw6776455111828631412 : True := trivial
theorem law_holds.tw5212653520564569363 : True := trivial
theorem law_holds.tw17974257514489008736 : True := trivial
theorem law_holds.tw5731563423909890137 : True := trivial
theorem law_holds.tw4439653461905209652 : True := trivial
theorem law_holds.tw10296202853966499060 : True := trivial
theorem law_holds.tw16648777254622569455 : True := trivial
theorem law_holds.tw123295346585929383 : True := trivial
theorem law_holds.tw9207643191828677137 : True := trivial
theorem law_holds.tw6709271908398517637 : True := trivial
theorem law_holds.tw2043166853727251185 : True := trivial
theorem law_holds.tw16563099163409725306 : True := trivial
theorem law_holds.tw15191720212996534143 : True := trivial
theorem law_holds.tw2644310842459337959 : True := trivial
theorem law_holds.tw8312341600987523519 : True := trivial
theorem law_holds.tw13402424001964919149 : True := trivial
theorem law_holds.tw14746732674962391887 : True := trivial
theorem law_holds.tw5640673133297012132 : True := trivial
theorem law_holds.tw8549365171731915398 : True := trivial
theorem law_holds.tw17274716441693411508 : True := trivial
theorem law_holds.tw498061464947678834 : True := trivial
theorem law_holds.tw10465528174321978529 : True := trivial
theorem law_holds.tw1258919526383655059 : True := trivial
theorem law_holds.tw6869992995446874880 : True := trivial
theorem law_holds.tw9992725586745946429 : True := trivial
theorem law_holds.tw14531881819706719225 : True := trivial
theorem law_holds.tw445335354869643106 : True := trivial
theorem law_holds.tw9634471323475708679 : True := trivial
theorem law_holds.tw14991590004735058009 : True := trivial
theorem law_holds.tw13431030151845061361 : True := trivial
theorem law_holds.tw3033269912633744064 : True := trivial
theorem law_holds.tw3912811242725288453 : True := trivial
theorem law_holds.tw14997073306097389879 : True := trivial
theorem law_holds.tw14596297492920191028 : True := trivial
theorem law_holds.tw16098122237329998606 : True := trivial
theorem law_holds.tw12977093529070104392 : True := trivial
theorem law_holds.tw7185456241796803578 : True := trivial
theorem law_holds.tw15694993059591697976 : True := trivial
theorem law_holds.tw881140697980615281 : True := trivial
theorem law_holds.tw1685627985566243432 : True := trivial
theorem law_holds.tw2322801206320994539 : True := trivial
theorem law_holds.tw1550374771381668074 : True := trivial
theorem law_holds.tw14335913921861858828 : True := trivial
theorem law_holds.tw12622292602297523153 : True := trivial
theorem law_holds.tw18006792725990754497 : True := trivial
theorem law_holds.tw14545874151571354728 : True := trivial
theorem law_holds.tw8763168800255643514 : True := trivial
theorem law_holds.tw15272395603832836080 : True := trivial
theorem law_holds.tw10093380194815717143 : True := trivial
theorem law_holds.tw2139172203440323022 : True := trivial
theorem law_holds.tw11609493526922420660 : True := trivial
theorem law_holds.tw5364902710198789758 : True := trivial
theorem law_holds.tw16836969012518115619 : True := trivial
theorem law_holds.tw14051398506283589457 : True := trivial
theorem law_holds.tw1778412455037948541 : True := trivial
theorem law_holds.tw10812634152524527747 : True := trivial
theorem law_holds.tw9682718004065560343 : True := trivial
theorem law_holds.tw11098625913536864229 : True := trivial
theorem law_holds.tw18221428039690301666 : True := trivial
theorem law_holds.tw6317479115527610633 : True := trivial
theorem law_holds.tw10876394233666535175 : True := trivial
theorem law_holds.tw15802469936163623734 : True := trivial
theorem law_holds.tw8738203770724426771 : True := trivial
theorem law_holds.tw1186782194237197914 : True := trivial
theorem law_holds.tw8785698371604719795 : True := trivial
theorem law_holds.tw12342728606916771844 : True := trivial
theorem law_holds.tw1989176631692091739 : True := trivial
theorem law_holds.tw15527639110640922598 : True := trivial
theorem law_holds.tw4995542688137877417 : True := trivial
theorem law_holds.tw13190408463805328480 : True := trivial
theorem law_holds.tw8553002610548859549 : True := trivial
theorem law_holds.tw1482498484730971407 : True := trivial
theorem law_holds.tw10726639523019406850 : True := trivial
theorem law_holds.tw15448297888555860652 : True := trivial
theorem law_holds.tw724200737284857819 : True := trivial
theorem law_holds.tw11764581739189218997 : True := trivial
theorem law_holds.tw4273555757443719353 : True := trivial
theorem law_holds.tw17027635718292003107 : True := trivial
theorem law_holds.tw1285599515219305098 : True := trivial
theorem law_holds.tw1335265377702380343 : True := trivial
theorem law_holds.tw11289095316329951393 : True := trivial
theorem law_holds.tw17028624522117568015 : True := trivial
theorem law_holds.tw11946022803392826334 : True := trivial
theorem law_holds.tw13250372474279835810 : True := trivial
theorem law_holds.tw3159318172415732480 : True := trivial
theorem law_holds.tw7820799176418779761 : True := trivial
theorem law_holds.tw13780023080261437657 : True := trivial
theorem law_holds.tw3956099054510807996 : True := trivial
theorem law_holds.tw17237755526102222789 : True := trivial
theorem law_holds.tw6765152471904792315 : True := trivial
theorem law_holds.tw576407869801174206 : True := trivial
theorem law_holds.tw11097158420108258118 : True := trivial
theorem law_holds.tw455179833554555240 : True := trivial
theorem law_holds.tw13709617746848070560 : True := trivial
theorem law_holds.tw3595789414353437717 : True := trivial
theorem law_holds.tw5681604512368388349 : True := trivial
theorem law_holds.tw11470271118054631628 : True := trivial
theorem law_holds.tw15806970514647361693 : True := trivial
theorem law_holds.tw16099233806120587224 : True := trivial
theorem law_holds.tw17942709131360195518 : True := trivial
theorem law_holds.tw12223724995276690173 : True := trivial
theorem law_holds.tw5274592661964301406 : True := trivial
theorem law_holds.tw3955097671198598788 : True := trivial
theorem law_holds.tw10350734228115807855 : True := trivial
theorem law_holds.tw287120921387233733 : True := trivial
theorem law_holds.tw12732824653754844360 : True := trivial
theorem law_holds.tw9069877914133315304 : True := trivial
theorem law_holds.tw7497986649931050792 : True := trivial
theorem law_holds.tw8369274380968253667 : True := trivial
theorem law_holds.tw981846192996546977 : True := trivial
theorem law_holds.tw2295933128562542503 : True := trivial
theorem law_holds.tw7604666192120794032 : True := trivial
theorem law_holds.tw9255152265573255198 : True := trivial
theorem law_holds.tw7566432030715092817 : True := trivial
theorem law_holds.tw12835091436910803158 : True := trivial
theorem law_holds.tw3158129796062787159 : True := trivial
theorem law_holds.tw1035469204868569938 : True := trivial
theorem law_holds.tw16614716721108272449 : True := trivial
theorem law_holds.tw745255978533919091 : True := trivial
theorem law_holds.tw10362271348294423435 : True := trivial
theorem law_holds.tw12115171985352901274 : True := trivial
theorem law_holds.tw14892801356780361778 : True := trivial
theorem law_holds.tw8417186165934385351 : True := trivial
theorem law_holds.tw11557135564483155855 : True := trivial
theorem law_holds.tw18203989763732354715 : True := trivial
theorem law_holds.tw12419048959643632839 : True := trivial
theorem law_holds.tw13882729330811710610 : True := trivial
theorem law_holds.tw4030767218360268280 : True := trivial
theorem law_holds.tw11347954631545130290 : True := trivial
theorem law_holds.tw14390095281932903014 : True := trivial
theorem law_holds.tw2387193687640843687 : True := trivial
theorem law_holds.tw16978406815995349258 : True := trivial
theorem law_holds.tw12687621791434340054 : True := trivial
theorem law_holds.tw16381176275627223697 : True := trivial
theorem law_holds.tw6723812968561706957 : True := trivial
theorem law_holds.tw11803358882649189518 : True := trivial
theorem law_holds.tw8285764192309689115 : True := trivial
theorem law_holds.tw5907203647135998699 : True := trivial
set_option Elab.async true in
theorem law_holds : PySem.Challenge.rw_pb0024_01.Holds := by
  w_on; o_law; o_head (kmHook Mine.hd.heap_39 [2, 3, 22, 24, 25, 27, 28, 29, 30, 31, 32, 33, 36, 38, 39, 41, 42, 43, 45, 46, 48, 49, 50, 52, 53, 55, 56, 57, 59, 60, 62, 63, 64, 66, 67, 69, 70, 78, 79, 81, 82, 84, 85, 86, 87, 88, 89, 90, 93, 96, 97, 98, 101, 102, 103, 110, 112, 113, 115, 116, 117, 118, 119, 120, 123, 130, 132, 133, 135, 136, 137, 138, 139, 142, 149, 151, 152, 154, 155, 156, 157, 158, 168, 170, 171, 173, 174, 175, 176, 177, 178, 179, 182, 184, 185, 187, 188, 189, 191, 192, 194, 195, 196, 198, 199, 201, 202, 203, 205, 206, 208, 209, 210, 212, 213, 215, 216, 224, 226, 227, 229, 230, 231, 232, 233, 234, 235, 238, 240, 241, 243, 244, 245, 247, 248, 250, 251, 252, 254, 255, 257, 258, 259, 262, 263, 264, 266, 267, 269, 270, 271, 273, 274, 276, 277, 278, 280, 281, 283, 284, 285, 287, 288, 290, 291, 292, 294, 295, 297, 298, 299, 301, 302, 304, 305, 306, 309, 310, 311, 314, 315, 316, 318, 319, 321, 322, 323, 326, 327, 328, 330, 331, 333, 334, 335, 338, 339, 340, 342, 343, 345, 346, 354, 356, 357, 359, 360, 361, 363, 364, 366, 367, 368, 369, 370, 371, 372, 375, 378, 379, 380, 383, 384, 385, 388, 389, 390, 392, 393, 395, 396, 397, 399, 400, 402, 403, 404, 406, 407, 409, 410, 411, 414, 415, 416, 419, 420] (fun _ => by kernel_rfl) [417]); (case hw => w_witness2)
  k_go0
  (all_goals try k_fold)
  k_steps
  rename_i _ _ _ _ _ _ _ e7 _ e5 e4 e3 e2 _ _ lX lT lB hlt _ _ _ _ _ _ _ _ _ _ _ _ _ _ _ g1 _ _ e6 _ _ _ _ _ _ _ _ _ _ _ _ _ nn hH _ _ s1 _ _ lF lN e1
  refine wrap_in (wpAny_mono (law_rest (nh := nn) lB lX lT lF e1 e6 e2 e3 e4 e5 e7 hH hlt codeHd ?_ (News.sub lN ?_) ?_) (fun _ _ q => q) fun _ _ e => e.elim)
  · exact law_ndl _ _ _ s1.2.2.1 s1.2.2.2.2.1 s1.2.2.2.2.2.1 s1.2.2.2.2.2.2.1 s1.2.2.2.2.2.2.2.1 s1.2.2.2.2.2.2.2.2.1 s1.2.2.2.2.2.2.2.2.2.1 s1.2.2.2.2.2.2.2.2.2.2.1 s1.2.2.2.2.2.2.2.2.2.2.2 g1.2.1 g1.2.2.1 g1.2.2.2.1 g1.2.2.2.2.1 g1.2.2.2.2.2.1 g1.2.2.2.2.2.2.1 g1.2.2.2.2.2.2.2.1 g1.2.2.2.2.2.2.2.2 hlt
  · dsimp only [cells]
    repeat refine List.forall_mem_cons.mpr ⟨by k_mem, ?_⟩
    exact List.forall_mem_nil _
  · intro m' h' tk' tab F' N'
    k_steps
end Mine
set_option maxRecDepth 100000 in
set_option maxHeartbeats 8000000 in
theorem PySem.Challenge.cw_pb0024_01_holds : PySem.Challenge.rw_pb0024_01.Holds := by
  exact Mine.law_holds
