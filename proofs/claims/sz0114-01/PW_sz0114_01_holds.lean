import PyProof.Rows.All
import Wide.All
import OpenK.AllK
import Wide.FinOn
import Lean
import PySem.Challenge.RW_sz0114_01
open PySem PySem.W PyProof.Rows
set_option Elab.async false
set_option maxRecDepth 100000

namespace Mine
open PySem

/-- values of the little machine; a text by its number in the table -/
inductive V where
  | none | bool (b : Bool) | int (i : Int) | sym (k : Nat) | byt | ref (l : Nat) | gref (k : Nat) | any
noncomputable def V.plain : V → Bool
  | .ref _ => false
  | .gref _ => false
  | .any => false
  | _ => true

/-- objects; syms: a list of texts; keys: a dict of names, each True; nums: a list of nums -/
inductive O where
  | list (xs : List V) | tuple (xs : List V) | dict (es : List (Nat × V))
  | syms (cap : Nat) (xs : List Nat) | keys (cap : Nat) (xs : List Nat) | nums (xs : List Int) | gone

mutual
inductive E where
  | cst (c : V) (p : Pos)
  | var (x : Nat) (p : Pos)
  | glo (x : Nat) (p : Pos)
  | bop (isAnd : Bool) (es : Es) (p : Pos)
  | bin (op : Operator) (l r : E) (p : Pos)
  | not (x : E) (p : Pos)
  | ife (t a b : E) (p : Pos)
  | dic (ks : List (Nat × Pos)) (vs : Es) (p : Pos)
  | cmp (op : CmpOp) (l r : E) (p : Pos)
  | call (f : Nat) (np : Pos) (as : Es) (p : Pos)
  | blt (f : Nat) (np : Pos) (as : Es) (p : Pos)
  | meth (o : E) (name : Nat) (as : Es) (ap p : Pos)
  | sub (v i : E) (p : Pos)
  | slc (v hi : E) (sp p : Pos)
  | lst (es : Es) (p : Pos)
  | tup (es : Es) (p : Pos)
  | dcm (x : Nat) (src : E) (ks : List (Nat × Pos)) (pk pv pt pl ptp pc p : Pos)
inductive Es where
  | nil
  | cons (e : E) (r : Es)
end
inductive T where
  | name (x : Nat) (p : Pos)
  | sub (o i : E) (p : Pos)
mutual
inductive S where
  | ret (e : E) (p : Pos)
  | expr (e : E) (p : Pos)
  | asg (t : T) (e : E) (p : Pos)
  | asgT (ts : List T) (tp : Pos) (e : E) (p : Pos)
  | ifs (t : E) (a b : Ss) (p : Pos)
  | fors (x : Nat) (xp : Pos) (it : E) (body : Ss) (p : Pos)
inductive Ss where
  | nil
  | cons (s : S) (r : Ss)
end
structure FD where
  name : Nat
  ps : List (Nat × Pos)
  names : List (Nat × Bool)
  fast : List Nat
  body : Ss
noncomputable def tbl : List Str := [Str.ofString "idle", Str.ofString "connect", Str.ofString "active", Str.ofString "open_sent", Str.ofString "open_confirm", Str.ofString "established", Str.ofString "open", Str.ofString "keepalive", Str.ofString "update", Str.ofString "note", Str.ofString "retry", Str.ofString "hold", Str.ofString "idle_hold", Str.ofString "delay", Str.ofString "hold_large", Str.ofString "start", Str.ofString "start_passive", Str.ofString "connected", Str.ofString "failed", Str.ofString "stop", Str.ofString "auto_stop", Str.ofString "hold_due", Str.ofString "retry_due", Str.ofString "idle_hold_due", Str.ofString "keepalive_due", Str.ofString "states", Str.ofString "timers", Str.ofString "line", Str.ofString "held", Str.ofString "way", Str.ofString "said", Str.ofString "heard", Str.ofString "damp", Str.ofString "without", Str.ofString "world", Str.ofString "end", Str.ofString "event", Str.ofString "box", Str.ofString "many", Str.ofString "script", Str.ofString "word", Str.ofString "name", Str.ofString "tuple", Str.ofString "done", Str.ofString "IDLE", Str.ofString "facts", Str.ofString "count", Str.ofString "more", Str.ofString "append", Str.ofString "set", Str.ofString "", Str.ofString "list", Str.ofString "ahead", Str.ofString "close", Str.ofString "release", Str.ofString "clear", Str.ofString "session_end", Str.ofString "data", Str.ofString "subcode", Str.ofString "code", Str.ofString "fault", Str.ofString "fault_note", Str.ofString "send", Str.ofString "delay_open", Str.ofString "open_goes", Str.ofString "found", Str.ofString "OPEN_CONFIRM", Str.ofString "is_late", Str.ofString "open_taken", Str.ofString "again_hold", Str.ofString "PASSIVE_STARTS", Str.ofString "begun", Str.ofString "listen", Str.ofString "ACTIVE", Str.ofString "STARTS", Str.ofString "CONNECT", Str.ofString "none", Str.ofString "from_idle", Str.ofString "note_version", Str.ofString "delay_running", Str.ofString "bad_open", Str.ofString "bad_head", Str.ofString "without_open", Str.ofString "open_delayed", Str.ofString "state", Str.ofString "OPEN_SENT", Str.ofString "delay_due", Str.ofString "ahead_of_open", Str.ofString "from_connect", Str.ofString "is_told", Str.ofString "CEASE_STOP", Str.ofString "from_active", Str.ofString "collision", Str.ofString "CEASE_COLLISION", Str.ofString "HOLD_EXPIRED", Str.ofString "CEASE_AUTO", Str.ofString "behind_open", Str.ofString "FSM_ERROR", Str.ofString "from_open_sent", Str.ofString "up", Str.ofString "ESTABLISHED", Str.ofString "from_open_confirm", Str.ofString "bad_update", Str.ofString "from_established", Str.ofString "bgp_next", Str.ofString "spot", Str.ofString "len", Str.ofString "abs", Str.ofString "_law_draw", Str.ofString "_law_new_line", Str.ofString "_law_said", Str.ofString "pop", Str.ofString "_law_timer", Str.ofString "actions", Str.ofString "before", Str.ofString "action", Str.ofString "_law_happens", Str.ofString "_law_comes", Str.ofString "first", Str.ofString "_law_joined", Str.ofString "_law_broken", Str.ofString "due", Str.ofString "_law_begun", Str.ofString "form", Str.ofString "_due", Str.ofString "names", Str.ofString "sorted", Str.ofString "turn", Str.ofString "_law_deed", Str.ofString "_law_end_right", Str.ofString "range", Str.ofString "law", Str.ofString "auto_start", Str.ofString "auto_start_passive"]
noncomputable def b_session_end : Ss := (Ss.cons (S.asg (T.name 43 ⟨12,4,12,8⟩) (E.bin PySem.Operator.Add (E.blt 51 ⟨12,11,12,15⟩ (Es.cons (E.var 52 ⟨12,16,12,21⟩) Es.nil) ⟨12,11,12,22⟩) (E.lst (Es.cons (E.tup (Es.cons (E.cst (V.sym 55) ⟨12,27,12,34⟩) (Es.cons (E.cst (V.sym 10) ⟨12,36,12,43⟩) Es.nil)) ⟨12,26,12,44⟩) (Es.cons (E.tup (Es.cons (E.cst (V.sym 54) ⟨12,47,12,56⟩) Es.nil) ⟨12,46,12,58⟩) (Es.cons (E.tup (Es.cons (E.cst (V.sym 53) ⟨12,61,12,68⟩) Es.nil) ⟨12,60,12,70⟩) Es.nil))) ⟨12,25,12,71⟩) ⟨12,11,12,71⟩) ⟨12,4,12,71⟩)
      (Ss.cons (S.ifs (E.cmp PySem.CmpOp.NotEq (E.var 46 ⟨13,7,13,12⟩) (E.cst (V.sym 50) ⟨13,16,13,18⟩) ⟨13,7,13,18⟩) (Ss.cons (S.expr (E.meth (E.var 43 ⟨14,8,14,12⟩) 48 (Es.cons (E.tup (Es.cons (E.cst (V.sym 46) ⟨14,21,14,28⟩) (Es.cons (E.var 46 ⟨14,30,14,35⟩) Es.nil)) ⟨14,20,14,36⟩) Es.nil) ⟨14,8,14,19⟩ ⟨14,8,14,37⟩) ⟨14,8,14,37⟩)
      Ss.nil) Ss.nil ⟨13,4,14,37⟩)
      (Ss.cons (S.ifs (E.bop true (Es.cons (E.cmp PySem.CmpOp.Eq (E.var 46 ⟨15,7,15,12⟩) (E.cst (V.sym 47) ⟨15,16,15,22⟩) ⟨15,7,15,22⟩) (Es.cons (E.sub (E.var 45 ⟨15,27,15,32⟩) (E.cst (V.sym 32) ⟨15,33,15,39⟩) ⟨15,27,15,40⟩) Es.nil)) ⟨15,7,15,40⟩) (Ss.cons (S.expr (E.meth (E.var 43 ⟨16,8,16,12⟩) 48 (Es.cons (E.tup (Es.cons (E.cst (V.sym 49) ⟨16,21,16,26⟩) (Es.cons (E.cst (V.sym 12) ⟨16,28,16,39⟩) Es.nil)) ⟨16,20,16,40⟩) Es.nil) ⟨16,8,16,19⟩ ⟨16,8,16,41⟩) ⟨16,8,16,41⟩)
      Ss.nil) Ss.nil ⟨15,4,16,41⟩)
      (Ss.cons (S.ret (E.tup (Es.cons (E.glo 44 ⟨17,12,17,16⟩) (Es.cons (E.blt 42 ⟨17,18,17,23⟩ (Es.cons (E.var 43 ⟨17,24,17,28⟩) Es.nil) ⟨17,18,17,29⟩) Es.nil)) ⟨17,11,17,30⟩) ⟨17,4,17,30⟩)
      Ss.nil))))
noncomputable def f_session_end : FD := { name := 56, ps := [(52, ⟨11,16,11,21⟩), (46, ⟨11,23,11,28⟩), (45, ⟨11,30,11,35⟩)], names := [(52, true), (46, true), (45, true), (43, true), (51, false), (44, false), (42, false)], fast := [], body := b_session_end }
noncomputable def b_fault_note : Ss := (Ss.cons (S.asgT [(T.name 59 ⟨19,4,19,8⟩), (T.name 58 ⟨19,10,19,17⟩), (T.name 57 ⟨19,19,19,23⟩)] ⟨19,4,19,23⟩ (E.sub (E.var 45 ⟨19,26,19,31⟩) (E.cst (V.sym 60) ⟨19,32,19,39⟩) ⟨19,26,19,40⟩) ⟨19,4,19,40⟩)
      (Ss.cons (S.ret (E.tup (Es.cons (E.cst (V.sym 9) ⟨20,12,20,18⟩) (Es.cons (E.var 59 ⟨20,20,20,24⟩) (Es.cons (E.var 58 ⟨20,26,20,33⟩) (Es.cons (E.var 57 ⟨20,35,20,39⟩) Es.nil)))) ⟨20,11,20,40⟩) ⟨20,4,20,40⟩)
      Ss.nil))
noncomputable def f_fault_note : FD := { name := 61, ps := [(45, ⟨18,15,18,20⟩)], names := [(45, true), (59, true), (58, true), (57, true)], fast := [], body := b_fault_note }
noncomputable def b_open_goes : Ss := (Ss.cons (S.ifs (E.sub (E.var 45 ⟨22,7,22,12⟩) (E.cst (V.sym 63) ⟨22,13,22,25⟩) ⟨22,7,22,26⟩) (Ss.cons (S.ret (E.tup (Es.cons (E.tup (Es.cons (E.cst (V.sym 55) ⟨23,17,23,24⟩) (Es.cons (E.cst (V.sym 10) ⟨23,26,23,33⟩) Es.nil)) ⟨23,16,23,34⟩) (Es.cons (E.tup (Es.cons (E.cst (V.sym 49) ⟨23,37,23,42⟩) (Es.cons (E.cst (V.sym 13) ⟨23,44,23,51⟩) Es.nil)) ⟨23,36,23,52⟩) Es.nil)) ⟨23,15,23,53⟩) ⟨23,8,23,53⟩)
      Ss.nil) Ss.nil ⟨22,4,23,53⟩)
      (Ss.cons (S.ret (E.tup (Es.cons (E.tup (Es.cons (E.cst (V.sym 55) ⟨24,13,24,20⟩) (Es.cons (E.cst (V.sym 10) ⟨24,22,24,29⟩) Es.nil)) ⟨24,12,24,30⟩) (Es.cons (E.tup (Es.cons (E.cst (V.sym 55) ⟨24,33,24,40⟩) (Es.cons (E.cst (V.sym 13) ⟨24,42,24,49⟩) Es.nil)) ⟨24,32,24,50⟩) (Es.cons (E.tup (Es.cons (E.cst (V.sym 62) ⟨24,53,24,59⟩) (Es.cons (E.cst (V.sym 6) ⟨24,61,24,67⟩) Es.nil)) ⟨24,52,24,68⟩) (Es.cons (E.tup (Es.cons (E.cst (V.sym 49) ⟨24,71,24,76⟩) (Es.cons (E.cst (V.sym 14) ⟨24,78,24,90⟩) Es.nil)) ⟨24,70,24,91⟩) Es.nil)))) ⟨24,11,24,92⟩) ⟨24,4,24,92⟩)
      Ss.nil))
noncomputable def f_open_goes : FD := { name := 64, ps := [(45, ⟨21,14,21,19⟩)], names := [(45, true)], fast := [], body := b_open_goes }
noncomputable def b_open_taken : Ss := (Ss.cons (S.asg (T.name 65 ⟨26,4,26,9⟩) (E.lst (Es.cons (E.tup (Es.cons (E.cst (V.sym 55) ⟨26,14,26,21⟩) (Es.cons (E.cst (V.sym 10) ⟨26,23,26,30⟩) Es.nil)) ⟨26,13,26,31⟩) (Es.cons (E.tup (Es.cons (E.cst (V.sym 55) ⟨26,34,26,41⟩) (Es.cons (E.cst (V.sym 13) ⟨26,43,26,50⟩) Es.nil)) ⟨26,33,26,51⟩) Es.nil)) ⟨26,12,26,52⟩) ⟨26,4,26,52⟩)
      (Ss.cons (S.ifs (E.var 67 ⟨27,7,27,14⟩) (Ss.cons (S.expr (E.meth (E.var 65 ⟨28,8,28,13⟩) 48 (Es.cons (E.tup (Es.cons (E.cst (V.sym 62) ⟨28,22,28,28⟩) (Es.cons (E.cst (V.sym 6) ⟨28,30,28,36⟩) Es.nil)) ⟨28,21,28,37⟩) Es.nil) ⟨28,8,28,20⟩ ⟨28,8,28,38⟩) ⟨28,8,28,38⟩)
      Ss.nil) Ss.nil ⟨27,4,28,38⟩)
      (Ss.cons (S.expr (E.meth (E.var 65 ⟨29,4,29,9⟩) 48 (Es.cons (E.tup (Es.cons (E.cst (V.sym 62) ⟨29,18,29,24⟩) (Es.cons (E.cst (V.sym 7) ⟨29,26,29,37⟩) Es.nil)) ⟨29,17,29,38⟩) Es.nil) ⟨29,4,29,16⟩ ⟨29,4,29,39⟩) ⟨29,4,29,39⟩)
      (Ss.cons (S.asg (T.name 40 ⟨30,4,30,8⟩) (E.ife (E.cmp PySem.CmpOp.Gt (E.sub (E.var 45 ⟨30,20,30,25⟩) (E.cst (V.sym 11) ⟨30,26,30,32⟩) ⟨30,20,30,33⟩) (E.cst (V.int 0) ⟨30,36,30,37⟩) ⟨30,20,30,37⟩) (E.cst (V.sym 49) ⟨30,11,30,16⟩) (E.cst (V.sym 55) ⟨30,43,30,50⟩) ⟨30,11,30,50⟩) ⟨30,4,30,50⟩)
      (Ss.cons (S.ret (E.tup (Es.cons (E.glo 66 ⟨31,12,31,24⟩) (Es.cons (E.blt 42 ⟨31,26,31,31⟩ (Es.cons (E.bin PySem.Operator.Add (E.var 65 ⟨31,32,31,37⟩) (E.lst (Es.cons (E.tup (Es.cons (E.var 40 ⟨31,42,31,46⟩) (Es.cons (E.cst (V.sym 7) ⟨31,48,31,59⟩) Es.nil)) ⟨31,41,31,60⟩) (Es.cons (E.tup (Es.cons (E.var 40 ⟨31,63,31,67⟩) (Es.cons (E.cst (V.sym 11) ⟨31,69,31,75⟩) Es.nil)) ⟨31,62,31,76⟩) Es.nil)) ⟨31,40,31,77⟩) ⟨31,32,31,77⟩) Es.nil) ⟨31,26,31,78⟩) Es.nil)) ⟨31,11,31,79⟩) ⟨31,4,31,79⟩)
      Ss.nil)))))
noncomputable def f_open_taken : FD := { name := 68, ps := [(45, ⟨25,15,25,20⟩), (67, ⟨25,22,25,29⟩)], names := [(45, true), (67, true), (65, true), (40, true), (66, false), (42, false)], fast := [], body := b_open_taken }
noncomputable def b_again_hold : Ss := (Ss.cons (S.ret (E.ife (E.cmp PySem.CmpOp.Gt (E.sub (E.var 45 ⟨33,33,33,38⟩) (E.cst (V.sym 11) ⟨33,39,33,45⟩) ⟨33,33,33,46⟩) (E.cst (V.int 0) ⟨33,49,33,50⟩) ⟨33,33,33,50⟩) (E.tup (Es.cons (E.tup (Es.cons (E.cst (V.sym 49) ⟨33,13,33,18⟩) (Es.cons (E.cst (V.sym 11) ⟨33,20,33,26⟩) Es.nil)) ⟨33,12,33,27⟩) Es.nil) ⟨33,11,33,29⟩) (E.tup Es.nil ⟨33,56,33,58⟩) ⟨33,11,33,58⟩) ⟨33,4,33,58⟩)
      Ss.nil)
noncomputable def f_again_hold : FD := { name := 69, ps := [(45, ⟨32,15,32,20⟩)], names := [(45, true)], fast := [], body := b_again_hold }
noncomputable def b_from_idle : Ss := (Ss.cons (S.asg (T.name 71 ⟨35,4,35,9⟩) (E.tup (Es.cons (E.tup (Es.cons (E.cst (V.sym 46) ⟨35,14,35,21⟩) (Es.cons (E.cst (V.sym 76) ⟨35,23,35,29⟩) Es.nil)) ⟨35,13,35,30⟩) (Es.cons (E.tup (Es.cons (E.cst (V.sym 49) ⟨35,33,35,38⟩) (Es.cons (E.cst (V.sym 10) ⟨35,40,35,47⟩) Es.nil)) ⟨35,32,35,48⟩) Es.nil)) ⟨35,12,35,49⟩) ⟨35,4,35,49⟩)
      (Ss.cons (S.ifs (E.bop false (Es.cons (E.cmp PySem.CmpOp.In (E.var 36 ⟨36,7,36,12⟩) (E.glo 74 ⟨36,16,36,22⟩) ⟨36,7,36,22⟩) (Es.cons (E.bop true (Es.cons (E.cmp PySem.CmpOp.Eq (E.var 36 ⟨36,27,36,32⟩) (E.cst (V.sym 23) ⟨36,36,36,51⟩) ⟨36,27,36,51⟩) (Es.cons (E.sub (E.var 45 ⟨36,56,36,61⟩) (E.cst (V.sym 32) ⟨36,62,36,68⟩) ⟨36,56,36,69⟩) Es.nil)) ⟨36,27,36,69⟩) Es.nil)) ⟨36,7,36,70⟩) (Ss.cons (S.ret (E.tup (Es.cons (E.glo 75 ⟨37,16,37,23⟩) (Es.cons (E.bin PySem.Operator.Add (E.var 71 ⟨37,25,37,30⟩) (E.tup (Es.cons (E.tup (Es.cons (E.cst (V.sym 1) ⟨37,35,37,44⟩) Es.nil) ⟨37,34,37,46⟩) (Es.cons (E.tup (Es.cons (E.cst (V.sym 72) ⟨37,49,37,57⟩) Es.nil) ⟨37,48,37,59⟩) Es.nil)) ⟨37,33,37,60⟩) ⟨37,25,37,60⟩) Es.nil)) ⟨37,15,37,61⟩) ⟨37,8,37,61⟩)
      Ss.nil) Ss.nil ⟨36,4,37,61⟩)
      (Ss.cons (S.ifs (E.cmp PySem.CmpOp.In (E.var 36 ⟨38,7,38,12⟩) (E.glo 70 ⟨38,16,38,30⟩) ⟨38,7,38,30⟩) (Ss.cons (S.ret (E.tup (Es.cons (E.glo 73 ⟨39,16,39,22⟩) (Es.cons (E.bin PySem.Operator.Add (E.var 71 ⟨39,24,39,29⟩) (E.tup (Es.cons (E.tup (Es.cons (E.cst (V.sym 72) ⟨39,34,39,42⟩) Es.nil) ⟨39,33,39,44⟩) Es.nil) ⟨39,32,39,46⟩) ⟨39,24,39,46⟩) Es.nil)) ⟨39,15,39,47⟩) ⟨39,8,39,47⟩)
      Ss.nil) Ss.nil ⟨38,4,39,47⟩)
      (Ss.cons (S.ret (E.tup (Es.cons (E.glo 44 ⟨40,12,40,16⟩) (Es.cons (E.tup Es.nil ⟨40,18,40,20⟩) Es.nil)) ⟨40,11,40,21⟩) ⟨40,4,40,21⟩)
      Ss.nil))))
noncomputable def f_from_idle : FD := { name := 77, ps := [(36, ⟨34,14,34,19⟩), (45, ⟨34,21,34,26⟩)], names := [(36, true), (45, true), (71, true), (74, false), (75, false), (70, false), (73, false), (44, false)], fast := [], body := b_from_idle }
noncomputable def b_ahead_of_open : Ss := (Ss.cons (S.ifs (E.bop false (Es.cons (E.cmp PySem.CmpOp.In (E.var 36 ⟨42,7,42,12⟩) (E.glo 74 ⟨42,16,42,22⟩) ⟨42,7,42,22⟩) (Es.cons (E.cmp PySem.CmpOp.In (E.var 36 ⟨42,26,42,31⟩) (E.glo 70 ⟨42,35,42,49⟩) ⟨42,26,42,49⟩) Es.nil)) ⟨42,7,42,49⟩) (Ss.cons (S.ret (E.tup (Es.cons (E.var 84 ⟨43,16,43,21⟩) (Es.cons (E.tup Es.nil ⟨43,23,43,25⟩) Es.nil)) ⟨43,15,43,26⟩) ⟨43,8,43,26⟩)
      Ss.nil) Ss.nil ⟨42,4,43,26⟩)
      (Ss.cons (S.ifs (E.cmp PySem.CmpOp.Eq (E.var 36 ⟨44,7,44,12⟩) (E.cst (V.sym 86) ⟨44,16,44,27⟩) ⟨44,7,44,27⟩) (Ss.cons (S.ret (E.tup (Es.cons (E.glo 85 ⟨45,16,45,25⟩) (Es.cons (E.tup (Es.cons (E.tup (Es.cons (E.cst (V.sym 55) ⟨45,29,45,36⟩) (Es.cons (E.cst (V.sym 10) ⟨45,38,45,45⟩) Es.nil)) ⟨45,28,45,46⟩) (Es.cons (E.tup (Es.cons (E.cst (V.sym 55) ⟨45,49,45,56⟩) (Es.cons (E.cst (V.sym 13) ⟨45,58,45,65⟩) Es.nil)) ⟨45,48,45,66⟩) (Es.cons (E.tup (Es.cons (E.cst (V.sym 62) ⟨45,69,45,75⟩) (Es.cons (E.cst (V.sym 6) ⟨45,77,45,83⟩) Es.nil)) ⟨45,68,45,84⟩) (Es.cons (E.tup (Es.cons (E.cst (V.sym 49) ⟨45,87,45,92⟩) (Es.cons (E.cst (V.sym 14) ⟨45,94,45,106⟩) Es.nil)) ⟨45,86,45,107⟩) Es.nil)))) ⟨45,27,45,108⟩) Es.nil)) ⟨45,15,45,109⟩) ⟨45,8,45,109⟩)
      Ss.nil) Ss.nil ⟨44,4,45,109⟩)
      (Ss.cons (S.ifs (E.cmp PySem.CmpOp.Eq (E.var 36 ⟨46,7,46,12⟩) (E.cst (V.sym 17) ⟨46,16,46,27⟩) ⟨46,7,46,27⟩) (Ss.cons (S.ret (E.tup (Es.cons (E.ife (E.sub (E.var 45 ⟨47,25,47,30⟩) (E.cst (V.sym 63) ⟨47,31,47,43⟩) ⟨47,25,47,44⟩) (E.var 84 ⟨47,16,47,21⟩) (E.glo 85 ⟨47,50,47,59⟩) ⟨47,16,47,59⟩) (Es.cons (E.call 64 ⟨47,61,47,70⟩ (Es.cons (E.var 45 ⟨47,71,47,76⟩) Es.nil) ⟨47,61,47,77⟩) Es.nil)) ⟨47,15,47,78⟩) ⟨47,8,47,78⟩)
      Ss.nil) Ss.nil ⟨46,4,47,78⟩)
      (Ss.cons (S.ifs (E.cmp PySem.CmpOp.Eq (E.var 36 ⟨48,7,48,12⟩) (E.cst (V.sym 83) ⟨48,16,48,30⟩) ⟨48,7,48,30⟩) (Ss.cons (S.ret (E.call 68 ⟨49,15,49,25⟩ (Es.cons (E.var 45 ⟨49,26,49,31⟩) (Es.cons (E.cst (V.bool true) ⟨49,33,49,37⟩) Es.nil)) ⟨49,15,49,38⟩) ⟨49,8,49,38⟩)
      Ss.nil) Ss.nil ⟨48,4,49,38⟩)
      (Ss.cons (S.ifs (E.cmp PySem.CmpOp.In (E.var 36 ⟨50,7,50,12⟩) (E.tup (Es.cons (E.cst (V.sym 81) ⟨50,17,50,27⟩) (Es.cons (E.cst (V.sym 80) ⟨50,29,50,39⟩) Es.nil)) ⟨50,16,50,40⟩) ⟨50,7,50,40⟩) (Ss.cons (S.ret (E.call 56 ⟨51,15,51,26⟩ (Es.cons (E.ife (E.sub (E.var 45 ⟨51,50,51,55⟩) (E.cst (V.sym 82) ⟨51,56,51,70⟩) ⟨51,50,51,71⟩) (E.lst (Es.cons (E.call 61 ⟨51,28,51,38⟩ (Es.cons (E.var 45 ⟨51,39,51,44⟩) Es.nil) ⟨51,28,51,45⟩) Es.nil) ⟨51,27,51,46⟩) (E.lst Es.nil ⟨51,77,51,79⟩) ⟨51,27,51,79⟩) (Es.cons (E.cst (V.sym 47) ⟨51,81,51,87⟩) (Es.cons (E.var 45 ⟨51,89,51,94⟩) Es.nil))) ⟨51,15,51,95⟩) ⟨51,8,51,95⟩)
      Ss.nil) Ss.nil ⟨50,4,51,95⟩)
      (Ss.cons (S.ifs (E.cmp PySem.CmpOp.Eq (E.var 36 ⟨52,7,52,12⟩) (E.cst (V.sym 78) ⟨52,16,52,30⟩) ⟨52,7,52,30⟩) (Ss.cons (S.ret (E.call 56 ⟨53,15,53,26⟩ (Es.cons (E.lst Es.nil ⟨53,27,53,29⟩) (Es.cons (E.ife (E.sub (E.var 45 ⟨53,37,53,42⟩) (E.cst (V.sym 79) ⟨53,43,53,58⟩) ⟨53,37,53,59⟩) (E.cst (V.sym 50) ⟨53,31,53,33⟩) (E.cst (V.sym 47) ⟨53,65,53,71⟩) ⟨53,31,53,71⟩) (Es.cons (E.var 45 ⟨53,73,53,78⟩) Es.nil))) ⟨53,15,53,79⟩) ⟨53,8,53,79⟩)
      Ss.nil) Ss.nil ⟨52,4,53,79⟩)
      (Ss.cons (S.ret (E.cst V.none ⟨54,11,54,15⟩) ⟨54,4,54,15⟩)
      Ss.nil)))))))
noncomputable def f_ahead_of_open : FD := { name := 87, ps := [(84, ⟨41,18,41,23⟩), (36, ⟨41,25,41,30⟩), (45, ⟨41,32,41,37⟩)], names := [(84, true), (36, true), (45, true), (74, false), (70, false), (85, false), (64, false), (68, false), (56, false), (61, false)], fast := [], body := b_ahead_of_open }
noncomputable def b_from_connect : Ss := (Ss.cons (S.asg (T.name 65 ⟨56,4,56,9⟩) (E.call 87 ⟨56,12,56,25⟩ (Es.cons (E.glo 75 ⟨56,26,56,33⟩) (Es.cons (E.var 36 ⟨56,35,56,40⟩) (Es.cons (E.var 45 ⟨56,42,56,47⟩) Es.nil))) ⟨56,12,56,48⟩) ⟨56,4,56,48⟩)
      (Ss.cons (S.ifs (E.cmp PySem.CmpOp.IsNot (E.var 65 ⟨57,7,57,12⟩) (E.cst V.none ⟨57,20,57,24⟩) ⟨57,7,57,24⟩) (Ss.cons (S.ret (E.var 65 ⟨58,15,58,20⟩) ⟨58,8,58,20⟩)
      Ss.nil) Ss.nil ⟨57,4,58,20⟩)
      (Ss.cons (S.ifs (E.cmp PySem.CmpOp.Eq (E.var 36 ⟨59,7,59,12⟩) (E.cst (V.sym 19) ⟨59,16,59,22⟩) ⟨59,7,59,22⟩) (Ss.cons (S.ret (E.call 56 ⟨60,15,60,26⟩ (Es.cons (E.lst Es.nil ⟨60,27,60,29⟩) (Es.cons (E.cst (V.sym 76) ⟨60,31,60,37⟩) (Es.cons (E.var 45 ⟨60,39,60,44⟩) Es.nil))) ⟨60,15,60,45⟩) ⟨60,8,60,45⟩)
      Ss.nil) Ss.nil ⟨59,4,60,45⟩)
      (Ss.cons (S.ifs (E.cmp PySem.CmpOp.Eq (E.var 36 ⟨61,7,61,12⟩) (E.cst (V.sym 22) ⟨61,16,61,27⟩) ⟨61,7,61,27⟩) (Ss.cons (S.ret (E.tup (Es.cons (E.glo 75 ⟨62,16,62,23⟩) (Es.cons (E.tup (Es.cons (E.tup (Es.cons (E.cst (V.sym 53) ⟨62,27,62,34⟩) Es.nil) ⟨62,26,62,36⟩) (Es.cons (E.tup (Es.cons (E.cst (V.sym 49) ⟨62,39,62,44⟩) (Es.cons (E.cst (V.sym 10) ⟨62,46,62,53⟩) Es.nil)) ⟨62,38,62,54⟩) (Es.cons (E.tup (Es.cons (E.cst (V.sym 55) ⟨62,57,62,64⟩) (Es.cons (E.cst (V.sym 13) ⟨62,66,62,73⟩) Es.nil)) ⟨62,56,62,74⟩) (Es.cons (E.tup (Es.cons (E.cst (V.sym 1) ⟨62,77,62,86⟩) Es.nil) ⟨62,76,62,88⟩) (Es.cons (E.tup (Es.cons (E.cst (V.sym 72) ⟨62,91,62,99⟩) Es.nil) ⟨62,90,62,101⟩) Es.nil))))) ⟨62,25,62,102⟩) Es.nil)) ⟨62,15,62,103⟩) ⟨62,8,62,103⟩)
      Ss.nil) Ss.nil ⟨61,4,62,103⟩)
      (Ss.cons (S.ifs (E.bop true (Es.cons (E.cmp PySem.CmpOp.Eq (E.var 36 ⟨63,7,63,12⟩) (E.cst (V.sym 18) ⟨63,16,63,24⟩) ⟨63,7,63,24⟩) (Es.cons (E.sub (E.var 45 ⟨63,29,63,34⟩) (E.cst (V.sym 79) ⟨63,35,63,50⟩) ⟨63,29,63,51⟩) Es.nil)) ⟨63,7,63,51⟩) (Ss.cons (S.ret (E.tup (Es.cons (E.glo 73 ⟨64,16,64,22⟩) (Es.cons (E.tup (Es.cons (E.tup (Es.cons (E.cst (V.sym 49) ⟨64,26,64,31⟩) (Es.cons (E.cst (V.sym 10) ⟨64,33,64,40⟩) Es.nil)) ⟨64,25,64,41⟩) (Es.cons (E.tup (Es.cons (E.cst (V.sym 55) ⟨64,44,64,51⟩) (Es.cons (E.cst (V.sym 13) ⟨64,53,64,60⟩) Es.nil)) ⟨64,43,64,61⟩) (Es.cons (E.tup (Es.cons (E.cst (V.sym 72) ⟨64,64,64,72⟩) Es.nil) ⟨64,63,64,74⟩) Es.nil))) ⟨64,24,64,75⟩) Es.nil)) ⟨64,15,64,76⟩) ⟨64,8,64,76⟩)
      Ss.nil) Ss.nil ⟨63,4,64,76⟩)
      (Ss.cons (S.ifs (E.cmp PySem.CmpOp.Eq (E.var 36 ⟨65,7,65,12⟩) (E.cst (V.sym 18) ⟨65,16,65,24⟩) ⟨65,7,65,24⟩) (Ss.cons (S.ret (E.call 56 ⟨66,15,66,26⟩ (Es.cons (E.lst Es.nil ⟨66,27,66,29⟩) (Es.cons (E.cst (V.sym 50) ⟨66,31,66,33⟩) (Es.cons (E.var 45 ⟨66,35,66,40⟩) Es.nil))) ⟨66,15,66,41⟩) ⟨66,8,66,41⟩)
      Ss.nil) Ss.nil ⟨65,4,66,41⟩)
      (Ss.cons (S.ret (E.call 56 ⟨67,11,67,22⟩ (Es.cons (E.lst Es.nil ⟨67,23,67,25⟩) (Es.cons (E.cst (V.sym 47) ⟨67,27,67,33⟩) (Es.cons (E.var 45 ⟨67,35,67,40⟩) Es.nil))) ⟨67,11,67,41⟩) ⟨67,4,67,41⟩)
      Ss.nil)))))))
noncomputable def f_from_connect : FD := { name := 88, ps := [(36, ⟨55,17,55,22⟩), (45, ⟨55,24,55,29⟩)], names := [(36, true), (45, true), (65, true), (87, false), (75, false), (56, false), (73, false)], fast := [], body := b_from_connect }
noncomputable def b_from_active : Ss := (Ss.cons (S.asg (T.name 65 ⟨69,4,69,9⟩) (E.call 87 ⟨69,12,69,25⟩ (Es.cons (E.glo 73 ⟨69,26,69,32⟩) (Es.cons (E.var 36 ⟨69,34,69,39⟩) (Es.cons (E.var 45 ⟨69,41,69,46⟩) Es.nil))) ⟨69,12,69,47⟩) ⟨69,4,69,47⟩)
      (Ss.cons (S.ifs (E.cmp PySem.CmpOp.IsNot (E.var 65 ⟨70,7,70,12⟩) (E.cst V.none ⟨70,20,70,24⟩) ⟨70,7,70,24⟩) (Ss.cons (S.ret (E.var 65 ⟨71,15,71,20⟩) ⟨71,8,71,20⟩)
      Ss.nil) Ss.nil ⟨70,4,71,20⟩)
      (Ss.cons (S.ifs (E.cmp PySem.CmpOp.Eq (E.var 36 ⟨72,7,72,12⟩) (E.cst (V.sym 19) ⟨72,16,72,22⟩) ⟨72,7,72,22⟩) (Ss.cons (S.asg (T.name 89 ⟨73,8,73,15⟩) (E.bop true (Es.cons (E.sub (E.var 45 ⟨73,18,73,23⟩) (E.cst (V.sym 79) ⟨73,24,73,39⟩) ⟨73,18,73,40⟩) (Es.cons (E.sub (E.var 45 ⟨73,45,73,50⟩) (E.cst (V.sym 82) ⟨73,51,73,65⟩) ⟨73,45,73,66⟩) Es.nil)) ⟨73,18,73,66⟩) ⟨73,8,73,66⟩)
      (Ss.cons (S.ret (E.call 56 ⟨74,15,74,26⟩ (Es.cons (E.ife (E.var 89 ⟨74,43,74,50⟩) (E.lst (Es.cons (E.glo 90 ⟨74,28,74,38⟩) Es.nil) ⟨74,27,74,39⟩) (E.lst Es.nil ⟨74,56,74,58⟩) ⟨74,27,74,58⟩) (Es.cons (E.cst (V.sym 76) ⟨74,60,74,66⟩) (Es.cons (E.var 45 ⟨74,68,74,73⟩) Es.nil))) ⟨74,15,74,74⟩) ⟨74,8,74,74⟩)
      Ss.nil)) Ss.nil ⟨72,4,74,74⟩)
      (Ss.cons (S.ifs (E.cmp PySem.CmpOp.Eq (E.var 36 ⟨75,7,75,12⟩) (E.cst (V.sym 22) ⟨75,16,75,27⟩) ⟨75,7,75,27⟩) (Ss.cons (S.ret (E.tup (Es.cons (E.glo 75 ⟨76,16,76,23⟩) (Es.cons (E.tup (Es.cons (E.tup (Es.cons (E.cst (V.sym 49) ⟨76,27,76,32⟩) (Es.cons (E.cst (V.sym 10) ⟨76,34,76,41⟩) Es.nil)) ⟨76,26,76,42⟩) (Es.cons (E.tup (Es.cons (E.cst (V.sym 1) ⟨76,45,76,54⟩) Es.nil) ⟨76,44,76,56⟩) (Es.cons (E.tup (Es.cons (E.cst (V.sym 72) ⟨76,59,76,67⟩) Es.nil) ⟨76,58,76,69⟩) Es.nil))) ⟨76,25,76,70⟩) Es.nil)) ⟨76,15,76,71⟩) ⟨76,8,76,71⟩)
      Ss.nil) Ss.nil ⟨75,4,76,71⟩)
      (Ss.cons (S.ifs (E.cmp PySem.CmpOp.Eq (E.var 36 ⟨77,7,77,12⟩) (E.cst (V.sym 18) ⟨77,16,77,24⟩) ⟨77,7,77,24⟩) (Ss.cons (S.asg (T.name 43 ⟨78,8,78,12⟩) (E.lst (Es.cons (E.tup (Es.cons (E.cst (V.sym 49) ⟨78,17,78,22⟩) (Es.cons (E.cst (V.sym 10) ⟨78,24,78,31⟩) Es.nil)) ⟨78,16,78,32⟩) (Es.cons (E.tup (Es.cons (E.cst (V.sym 55) ⟨78,35,78,42⟩) (Es.cons (E.cst (V.sym 13) ⟨78,44,78,51⟩) Es.nil)) ⟨78,34,78,52⟩) (Es.cons (E.tup (Es.cons (E.cst (V.sym 54) ⟨78,55,78,64⟩) Es.nil) ⟨78,54,78,66⟩) (Es.cons (E.tup (Es.cons (E.cst (V.sym 46) ⟨78,69,78,76⟩) (Es.cons (E.cst (V.sym 47) ⟨78,78,78,84⟩) Es.nil)) ⟨78,68,78,85⟩) Es.nil)))) ⟨78,15,78,86⟩) ⟨78,8,78,86⟩)
      (Ss.cons (S.ret (E.tup (Es.cons (E.glo 44 ⟨79,16,79,20⟩) (Es.cons (E.blt 42 ⟨79,22,79,27⟩ (Es.cons (E.bin PySem.Operator.Add (E.var 43 ⟨79,28,79,32⟩) (E.ife (E.sub (E.var 45 ⟨79,62,79,67⟩) (E.cst (V.sym 32) ⟨79,68,79,74⟩) ⟨79,62,79,75⟩) (E.lst (Es.cons (E.tup (Es.cons (E.cst (V.sym 49) ⟨79,38,79,43⟩) (Es.cons (E.cst (V.sym 12) ⟨79,45,79,56⟩) Es.nil)) ⟨79,37,79,57⟩) Es.nil) ⟨79,36,79,58⟩) (E.lst Es.nil ⟨79,81,79,83⟩) ⟨79,36,79,83⟩) ⟨79,28,79,84⟩) Es.nil) ⟨79,22,79,85⟩) Es.nil)) ⟨79,15,79,86⟩) ⟨79,8,79,86⟩)
      Ss.nil)) Ss.nil ⟨77,4,79,86⟩)
      (Ss.cons (S.ret (E.call 56 ⟨80,11,80,22⟩ (Es.cons (E.lst Es.nil ⟨80,23,80,25⟩) (Es.cons (E.cst (V.sym 47) ⟨80,27,80,33⟩) (Es.cons (E.var 45 ⟨80,35,80,40⟩) Es.nil))) ⟨80,11,80,41⟩) ⟨80,4,80,41⟩)
      Ss.nil))))))
noncomputable def f_from_active : FD := { name := 91, ps := [(36, ⟨68,16,68,21⟩), (45, ⟨68,23,68,28⟩)], names := [(36, true), (45, true), (65, true), (89, true), (43, true), (87, false), (73, false), (56, false), (90, false), (75, false), (44, false), (42, false)], fast := [], body := b_from_active }
noncomputable def b_behind_open : Ss := (Ss.cons (S.ifs (E.bop false (Es.cons (E.cmp PySem.CmpOp.In (E.var 36 ⟨82,7,82,12⟩) (E.glo 74 ⟨82,16,82,22⟩) ⟨82,7,82,22⟩) (Es.cons (E.cmp PySem.CmpOp.In (E.var 36 ⟨82,26,82,31⟩) (E.glo 70 ⟨82,35,82,49⟩) ⟨82,26,82,49⟩) (Es.cons (E.cmp PySem.CmpOp.Eq (E.var 36 ⟨82,53,82,58⟩) (E.cst (V.sym 17) ⟨82,62,82,73⟩) ⟨82,53,82,73⟩) Es.nil))) ⟨82,7,82,73⟩) (Ss.cons (S.ret (E.tup (Es.cons (E.var 84 ⟨83,16,83,21⟩) (Es.cons (E.tup Es.nil ⟨83,23,83,25⟩) Es.nil)) ⟨83,15,83,26⟩) ⟨83,8,83,26⟩)
      Ss.nil) Ss.nil ⟨82,4,83,26⟩)
      (Ss.cons (S.ifs (E.cmp PySem.CmpOp.Eq (E.var 36 ⟨84,7,84,12⟩) (E.cst (V.sym 19) ⟨84,16,84,22⟩) ⟨84,7,84,22⟩) (Ss.cons (S.ret (E.call 56 ⟨85,15,85,26⟩ (Es.cons (E.lst (Es.cons (E.glo 90 ⟨85,28,85,38⟩) Es.nil) ⟨85,27,85,39⟩) (Es.cons (E.cst (V.sym 76) ⟨85,41,85,47⟩) (Es.cons (E.var 45 ⟨85,49,85,54⟩) Es.nil))) ⟨85,15,85,55⟩) ⟨85,8,85,55⟩)
      Ss.nil) Ss.nil ⟨84,4,85,55⟩)
      (Ss.cons (S.ifs (E.cmp PySem.CmpOp.Eq (E.var 36 ⟨86,7,86,12⟩) (E.cst (V.sym 20) ⟨86,16,86,27⟩) ⟨86,7,86,27⟩) (Ss.cons (S.ret (E.call 56 ⟨87,15,87,26⟩ (Es.cons (E.lst (Es.cons (E.glo 95 ⟨87,28,87,38⟩) Es.nil) ⟨87,27,87,39⟩) (Es.cons (E.cst (V.sym 47) ⟨87,41,87,47⟩) (Es.cons (E.var 45 ⟨87,49,87,54⟩) Es.nil))) ⟨87,15,87,55⟩) ⟨87,8,87,55⟩)
      Ss.nil) Ss.nil ⟨86,4,87,55⟩)
      (Ss.cons (S.ifs (E.cmp PySem.CmpOp.Eq (E.var 36 ⟨88,7,88,12⟩) (E.cst (V.sym 21) ⟨88,16,88,26⟩) ⟨88,7,88,26⟩) (Ss.cons (S.ret (E.call 56 ⟨89,15,89,26⟩ (Es.cons (E.lst (Es.cons (E.glo 94 ⟨89,28,89,40⟩) Es.nil) ⟨89,27,89,41⟩) (Es.cons (E.cst (V.sym 47) ⟨89,43,89,49⟩) (Es.cons (E.var 45 ⟨89,51,89,56⟩) Es.nil))) ⟨89,15,89,57⟩) ⟨89,8,89,57⟩)
      Ss.nil) Ss.nil ⟨88,4,89,57⟩)
      (Ss.cons (S.ifs (E.cmp PySem.CmpOp.Eq (E.var 36 ⟨90,7,90,12⟩) (E.cst (V.sym 92) ⟨90,16,90,27⟩) ⟨90,7,90,27⟩) (Ss.cons (S.ret (E.call 56 ⟨91,15,91,26⟩ (Es.cons (E.lst (Es.cons (E.glo 93 ⟨91,28,91,43⟩) Es.nil) ⟨91,27,91,44⟩) (Es.cons (E.cst (V.sym 47) ⟨91,46,91,52⟩) (Es.cons (E.var 45 ⟨91,54,91,59⟩) Es.nil))) ⟨91,15,91,60⟩) ⟨91,8,91,60⟩)
      Ss.nil) Ss.nil ⟨90,4,91,60⟩)
      (Ss.cons (S.ifs (E.cmp PySem.CmpOp.Eq (E.var 36 ⟨92,7,92,12⟩) (E.cst (V.sym 81) ⟨92,16,92,26⟩) ⟨92,7,92,26⟩) (Ss.cons (S.ret (E.call 56 ⟨93,15,93,26⟩ (Es.cons (E.lst (Es.cons (E.call 61 ⟨93,28,93,38⟩ (Es.cons (E.var 45 ⟨93,39,93,44⟩) Es.nil) ⟨93,28,93,45⟩) Es.nil) ⟨93,27,93,46⟩) (Es.cons (E.cst (V.sym 47) ⟨93,48,93,54⟩) (Es.cons (E.var 45 ⟨93,56,93,61⟩) Es.nil))) ⟨93,15,93,62⟩) ⟨93,8,93,62⟩)
      Ss.nil) Ss.nil ⟨92,4,93,62⟩)
      (Ss.cons (S.ret (E.cst V.none ⟨94,11,94,15⟩) ⟨94,4,94,15⟩)
      Ss.nil)))))))
noncomputable def f_behind_open : FD := { name := 96, ps := [(84, ⟨81,16,81,21⟩), (36, ⟨81,23,81,28⟩), (45, ⟨81,30,81,35⟩)], names := [(84, true), (36, true), (45, true), (74, false), (70, false), (56, false), (90, false), (95, false), (94, false), (93, false), (61, false)], fast := [], body := b_behind_open }
noncomputable def b_from_open_sent : Ss := (Ss.cons (S.asg (T.name 65 ⟨96,4,96,9⟩) (E.call 96 ⟨96,12,96,23⟩ (Es.cons (E.glo 85 ⟨96,24,96,33⟩) (Es.cons (E.var 36 ⟨96,35,96,40⟩) (Es.cons (E.var 45 ⟨96,42,96,47⟩) Es.nil))) ⟨96,12,96,48⟩) ⟨96,4,96,48⟩)
      (Ss.cons (S.ifs (E.cmp PySem.CmpOp.IsNot (E.var 65 ⟨97,7,97,12⟩) (E.cst V.none ⟨97,20,97,24⟩) ⟨97,7,97,24⟩) (Ss.cons (S.ret (E.var 65 ⟨98,15,98,20⟩) ⟨98,8,98,20⟩)
      Ss.nil) Ss.nil ⟨97,4,98,20⟩)
      (Ss.cons (S.ifs (E.cmp PySem.CmpOp.Eq (E.var 36 ⟨99,7,99,12⟩) (E.cst (V.sym 18) ⟨99,16,99,24⟩) ⟨99,7,99,24⟩) (Ss.cons (S.ret (E.tup (Es.cons (E.glo 73 ⟨100,16,100,22⟩) (Es.cons (E.tup (Es.cons (E.tup (Es.cons (E.cst (V.sym 53) ⟨100,26,100,33⟩) Es.nil) ⟨100,25,100,35⟩) (Es.cons (E.tup (Es.cons (E.cst (V.sym 55) ⟨100,38,100,45⟩) (Es.cons (E.cst (V.sym 11) ⟨100,47,100,53⟩) Es.nil)) ⟨100,37,100,54⟩) (Es.cons (E.tup (Es.cons (E.cst (V.sym 49) ⟨100,57,100,62⟩) (Es.cons (E.cst (V.sym 10) ⟨100,64,100,71⟩) Es.nil)) ⟨100,56,100,72⟩) (Es.cons (E.tup (Es.cons (E.cst (V.sym 72) ⟨100,75,100,83⟩) Es.nil) ⟨100,74,100,85⟩) Es.nil)))) ⟨100,24,100,86⟩) Es.nil)) ⟨100,15,100,87⟩) ⟨100,8,100,87⟩)
      Ss.nil) Ss.nil ⟨99,4,100,87⟩)
      (Ss.cons (S.ifs (E.cmp PySem.CmpOp.Eq (E.var 36 ⟨101,7,101,12⟩) (E.cst (V.sym 6) ⟨101,16,101,22⟩) ⟨101,7,101,22⟩) (Ss.cons (S.ret (E.call 68 ⟨102,15,102,25⟩ (Es.cons (E.var 45 ⟨102,26,102,31⟩) (Es.cons (E.cst (V.bool false) ⟨102,33,102,38⟩) Es.nil)) ⟨102,15,102,39⟩) ⟨102,8,102,39⟩)
      Ss.nil) Ss.nil ⟨101,4,102,39⟩)
      (Ss.cons (S.ifs (E.cmp PySem.CmpOp.Eq (E.var 36 ⟨103,7,103,12⟩) (E.cst (V.sym 80) ⟨103,16,103,26⟩) ⟨103,7,103,26⟩) (Ss.cons (S.ret (E.call 56 ⟨104,15,104,26⟩ (Es.cons (E.lst (Es.cons (E.call 61 ⟨104,28,104,38⟩ (Es.cons (E.var 45 ⟨104,39,104,44⟩) Es.nil) ⟨104,28,104,45⟩) Es.nil) ⟨104,27,104,46⟩) (Es.cons (E.cst (V.sym 47) ⟨104,48,104,54⟩) (Es.cons (E.var 45 ⟨104,56,104,61⟩) Es.nil))) ⟨104,15,104,62⟩) ⟨104,8,104,62⟩)
      Ss.nil) Ss.nil ⟨103,4,104,62⟩)
      (Ss.cons (S.ifs (E.cmp PySem.CmpOp.Eq (E.var 36 ⟨105,7,105,12⟩) (E.cst (V.sym 78) ⟨105,16,105,30⟩) ⟨105,7,105,30⟩) (Ss.cons (S.ret (E.call 56 ⟨106,15,106,26⟩ (Es.cons (E.lst Es.nil ⟨106,27,106,29⟩) (Es.cons (E.cst (V.sym 50) ⟨106,31,106,33⟩) (Es.cons (E.var 45 ⟨106,35,106,40⟩) Es.nil))) ⟨106,15,106,41⟩) ⟨106,8,106,41⟩)
      Ss.nil) Ss.nil ⟨105,4,106,41⟩)
      (Ss.cons (S.ret (E.call 56 ⟨107,11,107,22⟩ (Es.cons (E.lst (Es.cons (E.glo 97 ⟨107,24,107,33⟩) Es.nil) ⟨107,23,107,34⟩) (Es.cons (E.cst (V.sym 47) ⟨107,36,107,42⟩) (Es.cons (E.var 45 ⟨107,44,107,49⟩) Es.nil))) ⟨107,11,107,50⟩) ⟨107,4,107,50⟩)
      Ss.nil)))))))
noncomputable def f_from_open_sent : FD := { name := 98, ps := [(36, ⟨95,19,95,24⟩), (45, ⟨95,26,95,31⟩)], names := [(36, true), (45, true), (65, true), (96, false), (85, false), (73, false), (68, false), (56, false), (61, false), (97, false)], fast := [], body := b_from_open_sent }
noncomputable def b_from_open_confirm : Ss := (Ss.cons (S.asg (T.name 65 ⟨109,4,109,9⟩) (E.call 96 ⟨109,12,109,23⟩ (Es.cons (E.glo 66 ⟨109,24,109,36⟩) (Es.cons (E.var 36 ⟨109,38,109,43⟩) (Es.cons (E.var 45 ⟨109,45,109,50⟩) Es.nil))) ⟨109,12,109,51⟩) ⟨109,4,109,51⟩)
      (Ss.cons (S.ifs (E.cmp PySem.CmpOp.IsNot (E.var 65 ⟨110,7,110,12⟩) (E.cst V.none ⟨110,20,110,24⟩) ⟨110,7,110,24⟩) (Ss.cons (S.ret (E.var 65 ⟨111,15,111,20⟩) ⟨111,8,111,20⟩)
      Ss.nil) Ss.nil ⟨110,4,111,20⟩)
      (Ss.cons (S.ifs (E.cmp PySem.CmpOp.Eq (E.var 36 ⟨112,7,112,12⟩) (E.cst (V.sym 24) ⟨112,16,112,31⟩) ⟨112,7,112,31⟩) (Ss.cons (S.ret (E.tup (Es.cons (E.glo 66 ⟨113,16,113,28⟩) (Es.cons (E.tup (Es.cons (E.tup (Es.cons (E.cst (V.sym 62) ⟨113,32,113,38⟩) (Es.cons (E.cst (V.sym 7) ⟨113,40,113,51⟩) Es.nil)) ⟨113,31,113,52⟩) (Es.cons (E.tup (Es.cons (E.cst (V.sym 49) ⟨113,55,113,60⟩) (Es.cons (E.cst (V.sym 7) ⟨113,62,113,73⟩) Es.nil)) ⟨113,54,113,74⟩) Es.nil)) ⟨113,30,113,75⟩) Es.nil)) ⟨113,15,113,76⟩) ⟨113,8,113,76⟩)
      Ss.nil) Ss.nil ⟨112,4,113,76⟩)
      (Ss.cons (S.ifs (E.cmp PySem.CmpOp.In (E.var 36 ⟨114,7,114,12⟩) (E.tup (Es.cons (E.cst (V.sym 18) ⟨114,17,114,25⟩) (Es.cons (E.cst (V.sym 9) ⟨114,27,114,33⟩) Es.nil)) ⟨114,16,114,34⟩) ⟨114,7,114,34⟩) (Ss.cons (S.ret (E.call 56 ⟨115,15,115,26⟩ (Es.cons (E.lst Es.nil ⟨115,27,115,29⟩) (Es.cons (E.cst (V.sym 47) ⟨115,31,115,37⟩) (Es.cons (E.var 45 ⟨115,39,115,44⟩) Es.nil))) ⟨115,15,115,45⟩) ⟨115,8,115,45⟩)
      Ss.nil) Ss.nil ⟨114,4,115,45⟩)
      (Ss.cons (S.ifs (E.cmp PySem.CmpOp.Eq (E.var 36 ⟨116,7,116,12⟩) (E.cst (V.sym 78) ⟨116,16,116,30⟩) ⟨116,7,116,30⟩) (Ss.cons (S.ret (E.call 56 ⟨117,15,117,26⟩ (Es.cons (E.lst Es.nil ⟨117,27,117,29⟩) (Es.cons (E.cst (V.sym 50) ⟨117,31,117,33⟩) (Es.cons (E.var 45 ⟨117,35,117,40⟩) Es.nil))) ⟨117,15,117,41⟩) ⟨117,8,117,41⟩)
      Ss.nil) Ss.nil ⟨116,4,117,41⟩)
      (Ss.cons (S.ifs (E.cmp PySem.CmpOp.Eq (E.var 36 ⟨118,7,118,12⟩) (E.cst (V.sym 6) ⟨118,16,118,22⟩) ⟨118,7,118,22⟩) (Ss.cons (S.ret (E.tup (Es.cons (E.glo 66 ⟨119,16,119,28⟩) (Es.cons (E.tup Es.nil ⟨119,30,119,32⟩) Es.nil)) ⟨119,15,119,33⟩) ⟨119,8,119,33⟩)
      Ss.nil) Ss.nil ⟨118,4,119,33⟩)
      (Ss.cons (S.ifs (E.cmp PySem.CmpOp.Eq (E.var 36 ⟨120,7,120,12⟩) (E.cst (V.sym 80) ⟨120,16,120,26⟩) ⟨120,7,120,26⟩) (Ss.cons (S.ret (E.call 56 ⟨121,15,121,26⟩ (Es.cons (E.lst (Es.cons (E.call 61 ⟨121,28,121,38⟩ (Es.cons (E.var 45 ⟨121,39,121,44⟩) Es.nil) ⟨121,28,121,45⟩) Es.nil) ⟨121,27,121,46⟩) (Es.cons (E.cst (V.sym 47) ⟨121,48,121,54⟩) (Es.cons (E.var 45 ⟨121,56,121,61⟩) Es.nil))) ⟨121,15,121,62⟩) ⟨121,8,121,62⟩)
      Ss.nil) Ss.nil ⟨120,4,121,62⟩)
      (Ss.cons (S.ifs (E.cmp PySem.CmpOp.Eq (E.var 36 ⟨122,7,122,12⟩) (E.cst (V.sym 7) ⟨122,16,122,27⟩) ⟨122,7,122,27⟩) (Ss.cons (S.ret (E.tup (Es.cons (E.glo 100 ⟨123,16,123,27⟩) (Es.cons (E.bin PySem.Operator.Add (E.call 69 ⟨123,29,123,39⟩ (Es.cons (E.var 45 ⟨123,40,123,45⟩) Es.nil) ⟨123,29,123,46⟩) (E.tup (Es.cons (E.tup (Es.cons (E.cst (V.sym 99) ⟨123,51,123,55⟩) Es.nil) ⟨123,50,123,57⟩) Es.nil) ⟨123,49,123,59⟩) ⟨123,29,123,59⟩) Es.nil)) ⟨123,15,123,60⟩) ⟨123,8,123,60⟩)
      Ss.nil) Ss.nil ⟨122,4,123,60⟩)
      (Ss.cons (S.ret (E.call 56 ⟨124,11,124,22⟩ (Es.cons (E.lst (Es.cons (E.glo 97 ⟨124,24,124,33⟩) Es.nil) ⟨124,23,124,34⟩) (Es.cons (E.cst (V.sym 47) ⟨124,36,124,42⟩) (Es.cons (E.var 45 ⟨124,44,124,49⟩) Es.nil))) ⟨124,11,124,50⟩) ⟨124,4,124,50⟩)
      Ss.nil)))))))))
noncomputable def f_from_open_confirm : FD := { name := 101, ps := [(36, ⟨108,22,108,27⟩), (45, ⟨108,29,108,34⟩)], names := [(36, true), (45, true), (65, true), (96, false), (66, false), (56, false), (61, false), (100, false), (69, false), (97, false)], fast := [], body := b_from_open_confirm }
noncomputable def b_from_established : Ss := (Ss.cons (S.asg (T.name 65 ⟨126,4,126,9⟩) (E.call 96 ⟨126,12,126,23⟩ (Es.cons (E.glo 100 ⟨126,24,126,35⟩) (Es.cons (E.var 36 ⟨126,37,126,42⟩) (Es.cons (E.var 45 ⟨126,44,126,49⟩) Es.nil))) ⟨126,12,126,50⟩) ⟨126,4,126,50⟩)
      (Ss.cons (S.ifs (E.cmp PySem.CmpOp.IsNot (E.var 65 ⟨127,7,127,12⟩) (E.cst V.none ⟨127,20,127,24⟩) ⟨127,7,127,24⟩) (Ss.cons (S.ret (E.var 65 ⟨128,15,128,20⟩) ⟨128,8,128,20⟩)
      Ss.nil) Ss.nil ⟨127,4,128,20⟩)
      (Ss.cons (S.ifs (E.cmp PySem.CmpOp.Eq (E.var 36 ⟨129,7,129,12⟩) (E.cst (V.sym 24) ⟨129,16,129,31⟩) ⟨129,7,129,31⟩) (Ss.cons (S.ret (E.tup (Es.cons (E.glo 100 ⟨130,16,130,27⟩) (Es.cons (E.bin PySem.Operator.Add (E.tup (Es.cons (E.tup (Es.cons (E.cst (V.sym 62) ⟨130,31,130,37⟩) (Es.cons (E.cst (V.sym 7) ⟨130,39,130,50⟩) Es.nil)) ⟨130,30,130,51⟩) Es.nil) ⟨130,29,130,53⟩) (E.ife (E.cmp PySem.CmpOp.Gt (E.sub (E.var 45 ⟨130,84,130,89⟩) (E.cst (V.sym 11) ⟨130,90,130,96⟩) ⟨130,84,130,97⟩) (E.cst (V.int 0) ⟨130,100,130,101⟩) ⟨130,84,130,101⟩) (E.tup (Es.cons (E.tup (Es.cons (E.cst (V.sym 49) ⟨130,59,130,64⟩) (Es.cons (E.cst (V.sym 7) ⟨130,66,130,77⟩) Es.nil)) ⟨130,58,130,78⟩) Es.nil) ⟨130,57,130,80⟩) (E.tup Es.nil ⟨130,107,130,109⟩) ⟨130,57,130,109⟩) ⟨130,29,130,110⟩) Es.nil)) ⟨130,15,130,111⟩) ⟨130,8,130,111⟩)
      Ss.nil) Ss.nil ⟨129,4,130,111⟩)
      (Ss.cons (S.ifs (E.cmp PySem.CmpOp.In (E.var 36 ⟨131,7,131,12⟩) (E.tup (Es.cons (E.cst (V.sym 18) ⟨131,17,131,25⟩) (Es.cons (E.cst (V.sym 9) ⟨131,27,131,33⟩) (Es.cons (E.cst (V.sym 78) ⟨131,35,131,49⟩) Es.nil))) ⟨131,16,131,50⟩) ⟨131,7,131,50⟩) (Ss.cons (S.ret (E.call 56 ⟨132,15,132,26⟩ (Es.cons (E.lst Es.nil ⟨132,27,132,29⟩) (Es.cons (E.cst (V.sym 47) ⟨132,31,132,37⟩) (Es.cons (E.var 45 ⟨132,39,132,44⟩) Es.nil))) ⟨132,15,132,45⟩) ⟨132,8,132,45⟩)
      Ss.nil) Ss.nil ⟨131,4,132,45⟩)
      (Ss.cons (S.ifs (E.cmp PySem.CmpOp.Eq (E.var 36 ⟨133,7,133,12⟩) (E.cst (V.sym 6) ⟨133,16,133,22⟩) ⟨133,7,133,22⟩) (Ss.cons (S.ret (E.tup (Es.cons (E.glo 100 ⟨134,16,134,27⟩) (Es.cons (E.tup Es.nil ⟨134,29,134,31⟩) Es.nil)) ⟨134,15,134,32⟩) ⟨134,8,134,32⟩)
      Ss.nil) Ss.nil ⟨133,4,134,32⟩)
      (Ss.cons (S.ifs (E.cmp PySem.CmpOp.Eq (E.var 36 ⟨135,7,135,12⟩) (E.cst (V.sym 7) ⟨135,16,135,27⟩) ⟨135,7,135,27⟩) (Ss.cons (S.ret (E.tup (Es.cons (E.glo 100 ⟨136,16,136,27⟩) (Es.cons (E.call 69 ⟨136,29,136,39⟩ (Es.cons (E.var 45 ⟨136,40,136,45⟩) Es.nil) ⟨136,29,136,46⟩) Es.nil)) ⟨136,15,136,47⟩) ⟨136,8,136,47⟩)
      Ss.nil) Ss.nil ⟨135,4,136,47⟩)
      (Ss.cons (S.ifs (E.cmp PySem.CmpOp.Eq (E.var 36 ⟨137,7,137,12⟩) (E.cst (V.sym 8) ⟨137,16,137,24⟩) ⟨137,7,137,24⟩) (Ss.cons (S.ret (E.tup (Es.cons (E.glo 100 ⟨138,16,138,27⟩) (Es.cons (E.bin PySem.Operator.Add (E.tup (Es.cons (E.tup (Es.cons (E.cst (V.sym 8) ⟨138,31,138,39⟩) Es.nil) ⟨138,30,138,41⟩) Es.nil) ⟨138,29,138,43⟩) (E.call 69 ⟨138,46,138,56⟩ (Es.cons (E.var 45 ⟨138,57,138,62⟩) Es.nil) ⟨138,46,138,63⟩) ⟨138,29,138,63⟩) Es.nil)) ⟨138,15,138,64⟩) ⟨138,8,138,64⟩)
      Ss.nil) Ss.nil ⟨137,4,138,64⟩)
      (Ss.cons (S.ifs (E.cmp PySem.CmpOp.Eq (E.var 36 ⟨139,7,139,12⟩) (E.cst (V.sym 102) ⟨139,16,139,28⟩) ⟨139,7,139,28⟩) (Ss.cons (S.ret (E.call 56 ⟨140,15,140,26⟩ (Es.cons (E.lst (Es.cons (E.call 61 ⟨140,28,140,38⟩ (Es.cons (E.var 45 ⟨140,39,140,44⟩) Es.nil) ⟨140,28,140,45⟩) Es.nil) ⟨140,27,140,46⟩) (Es.cons (E.cst (V.sym 47) ⟨140,48,140,54⟩) (Es.cons (E.var 45 ⟨140,56,140,61⟩) Es.nil))) ⟨140,15,140,62⟩) ⟨140,8,140,62⟩)
      Ss.nil) Ss.nil ⟨139,4,140,62⟩)
      (Ss.cons (S.ret (E.call 56 ⟨141,11,141,22⟩ (Es.cons (E.lst (Es.cons (E.glo 97 ⟨141,24,141,33⟩) Es.nil) ⟨141,23,141,34⟩) (Es.cons (E.cst (V.sym 47) ⟨141,36,141,42⟩) (Es.cons (E.var 45 ⟨141,44,141,49⟩) Es.nil))) ⟨141,11,141,50⟩) ⟨141,4,141,50⟩)
      Ss.nil)))))))))
noncomputable def f_from_established : FD := { name := 103, ps := [(36, ⟨125,21,125,26⟩), (45, ⟨125,28,125,33⟩)], names := [(36, true), (45, true), (65, true), (96, false), (100, false), (56, false), (69, false), (61, false), (97, false)], fast := [], body := b_from_established }
noncomputable def b_bgp_next : Ss := (Ss.cons (S.ifs (E.cmp PySem.CmpOp.Eq (E.var 84 ⟨143,7,143,12⟩) (E.glo 44 ⟨143,16,143,20⟩) ⟨143,7,143,20⟩) (Ss.cons (S.ret (E.call 77 ⟨144,15,144,24⟩ (Es.cons (E.var 36 ⟨144,25,144,30⟩) (Es.cons (E.var 45 ⟨144,32,144,37⟩) Es.nil)) ⟨144,15,144,38⟩) ⟨144,8,144,38⟩)
      Ss.nil) Ss.nil ⟨143,4,144,38⟩)
      (Ss.cons (S.ifs (E.cmp PySem.CmpOp.Eq (E.var 84 ⟨145,7,145,12⟩) (E.glo 75 ⟨145,16,145,23⟩) ⟨145,7,145,23⟩) (Ss.cons (S.ret (E.call 88 ⟨146,15,146,27⟩ (Es.cons (E.var 36 ⟨146,28,146,33⟩) (Es.cons (E.var 45 ⟨146,35,146,40⟩) Es.nil)) ⟨146,15,146,41⟩) ⟨146,8,146,41⟩)
      Ss.nil) Ss.nil ⟨145,4,146,41⟩)
      (Ss.cons (S.ifs (E.cmp PySem.CmpOp.Eq (E.var 84 ⟨147,7,147,12⟩) (E.glo 73 ⟨147,16,147,22⟩) ⟨147,7,147,22⟩) (Ss.cons (S.ret (E.call 91 ⟨148,15,148,26⟩ (Es.cons (E.var 36 ⟨148,27,148,32⟩) (Es.cons (E.var 45 ⟨148,34,148,39⟩) Es.nil)) ⟨148,15,148,40⟩) ⟨148,8,148,40⟩)
      Ss.nil) Ss.nil ⟨147,4,148,40⟩)
      (Ss.cons (S.ifs (E.cmp PySem.CmpOp.Eq (E.var 84 ⟨149,7,149,12⟩) (E.glo 85 ⟨149,16,149,25⟩) ⟨149,7,149,25⟩) (Ss.cons (S.ret (E.call 98 ⟨150,15,150,29⟩ (Es.cons (E.var 36 ⟨150,30,150,35⟩) (Es.cons (E.var 45 ⟨150,37,150,42⟩) Es.nil)) ⟨150,15,150,43⟩) ⟨150,8,150,43⟩)
      Ss.nil) Ss.nil ⟨149,4,150,43⟩)
      (Ss.cons (S.ret (E.ife (E.cmp PySem.CmpOp.Eq (E.var 84 ⟨151,46,151,51⟩) (E.glo 66 ⟨151,55,151,67⟩) ⟨151,46,151,67⟩) (E.call 101 ⟨151,11,151,28⟩ (Es.cons (E.var 36 ⟨151,29,151,34⟩) (Es.cons (E.var 45 ⟨151,36,151,41⟩) Es.nil)) ⟨151,11,151,42⟩) (E.call 103 ⟨151,73,151,89⟩ (Es.cons (E.var 36 ⟨151,90,151,95⟩) (Es.cons (E.var 45 ⟨151,97,151,102⟩) Es.nil)) ⟨151,73,151,103⟩) ⟨151,11,151,103⟩) ⟨151,4,151,103⟩)
      Ss.nil)))))
noncomputable def f_bgp_next : FD := { name := 104, ps := [(84, ⟨142,13,142,18⟩), (36, ⟨142,20,142,25⟩), (45, ⟨142,27,142,32⟩)], names := [(84, true), (36, true), (45, true), (44, false), (77, false), (75, false), (88, false), (73, false), (91, false), (85, false), (98, false), (66, false), (101, false), (103, false)], fast := [], body := b_bgp_next }
noncomputable def b_law_draw : Ss := (Ss.cons (S.asg (T.name 105 ⟨154,4,154,8⟩) (E.sub (E.var 37 ⟨154,11,154,14⟩) (E.cst (V.int 1) ⟨154,15,154,16⟩) ⟨154,11,154,17⟩) ⟨154,4,154,17⟩)
      (Ss.cons (S.asg (T.sub (E.var 37 ⟨155,4,155,7⟩) (E.cst (V.int 1) ⟨155,8,155,9⟩) ⟨155,4,155,10⟩) (E.bin PySem.Operator.Add (E.var 105 ⟨155,13,155,17⟩) (E.cst (V.int 1) ⟨155,20,155,21⟩) ⟨155,13,155,21⟩) ⟨155,4,155,21⟩)
      (Ss.cons (S.ifs (E.cmp PySem.CmpOp.Lt (E.var 105 ⟨156,7,156,11⟩) (E.blt 106 ⟨156,14,156,17⟩ (Es.cons (E.sub (E.var 37 ⟨156,18,156,21⟩) (E.cst (V.int 0) ⟨156,22,156,23⟩) ⟨156,18,156,24⟩) Es.nil) ⟨156,14,156,25⟩) ⟨156,7,156,25⟩) (Ss.cons (S.ret (E.bin PySem.Operator.Mod (E.blt 107 ⟨157,15,157,18⟩ (Es.cons (E.sub (E.sub (E.var 37 ⟨157,19,157,22⟩) (E.cst (V.int 0) ⟨157,23,157,24⟩) ⟨157,19,157,25⟩) (E.var 105 ⟨157,26,157,30⟩) ⟨157,19,157,31⟩) Es.nil) ⟨157,15,157,32⟩) (E.var 38 ⟨157,35,157,39⟩) ⟨157,15,157,39⟩) ⟨157,8,157,39⟩)
      Ss.nil) Ss.nil ⟨156,4,157,39⟩)
      (Ss.cons (S.ret (E.bin PySem.Operator.Mod (E.bin PySem.Operator.Add (E.bin PySem.Operator.Add (E.bin PySem.Operator.Mult (E.cst (V.int 7) ⟨158,12,158,13⟩) (E.var 105 ⟨158,16,158,20⟩) ⟨158,12,158,20⟩) (E.bin PySem.Operator.FloorDiv (E.bin PySem.Operator.Mult (E.var 105 ⟨158,23,158,27⟩) (E.var 105 ⟨158,30,158,34⟩) ⟨158,23,158,34⟩) (E.cst (V.int 5) ⟨158,38,158,39⟩) ⟨158,23,158,39⟩) ⟨158,12,158,39⟩) (E.cst (V.int 3) ⟨158,42,158,43⟩) ⟨158,12,158,43⟩) (E.var 38 ⟨158,47,158,51⟩) ⟨158,11,158,51⟩) ⟨158,4,158,51⟩)
      Ss.nil))))
noncomputable def f_law_draw : FD := { name := 108, ps := [(37, ⟨153,14,153,17⟩), (38, ⟨153,19,153,23⟩)], names := [(37, true), (38, true), (105, true), (106, false), (107, false)], fast := [], body := b_law_draw }
noncomputable def b_law_new_line : Ss := (Ss.cons (S.ret (E.dic [(28, ⟨160,12,160,18⟩), (29, ⟨160,36,160,41⟩), (30, ⟨160,53,160,59⟩), (31, ⟨160,71,160,78⟩)] (Es.cons (E.lst (Es.cons (E.cst (V.bool false) ⟨160,21,160,26⟩) (Es.cons (E.cst (V.bool false) ⟨160,28,160,33⟩) Es.nil)) ⟨160,20,160,34⟩) (Es.cons (E.lst (Es.cons (E.lst Es.nil ⟨160,44,160,46⟩) (Es.cons (E.lst Es.nil ⟨160,48,160,50⟩) Es.nil)) ⟨160,43,160,51⟩) (Es.cons (E.lst (Es.cons (E.lst Es.nil ⟨160,62,160,64⟩) (Es.cons (E.lst Es.nil ⟨160,66,160,68⟩) Es.nil)) ⟨160,61,160,69⟩) (Es.cons (E.lst (Es.cons (E.lst Es.nil ⟨160,81,160,83⟩) (Es.cons (E.lst Es.nil ⟨160,85,160,87⟩) Es.nil)) ⟨160,80,160,88⟩) Es.nil)))) ⟨160,11,160,89⟩) ⟨160,4,160,89⟩)
      Ss.nil)
noncomputable def f_law_new_line : FD := { name := 109, ps := [], names := [], fast := [], body := b_law_new_line }
noncomputable def b_law_said : Ss := (Ss.cons (S.asg (T.name 27 ⟨162,4,162,8⟩) (E.sub (E.var 34 ⟨162,11,162,16⟩) (E.cst (V.sym 27) ⟨162,17,162,23⟩) ⟨162,11,162,24⟩) ⟨162,4,162,24⟩)
      (Ss.cons (S.expr (E.meth (E.sub (E.sub (E.var 27 ⟨163,4,163,8⟩) (E.cst (V.sym 30) ⟨163,9,163,15⟩) ⟨163,4,163,16⟩) (E.var 35 ⟨163,17,163,20⟩) ⟨163,4,163,21⟩) 48 (Es.cons (E.var 40 ⟨163,29,163,33⟩) Es.nil) ⟨163,4,163,28⟩ ⟨163,4,163,34⟩) ⟨163,4,163,34⟩)
      (Ss.cons (S.ifs (E.sub (E.sub (E.var 27 ⟨164,7,164,11⟩) (E.cst (V.sym 28) ⟨164,12,164,18⟩) ⟨164,7,164,19⟩) (E.bin PySem.Operator.Sub (E.cst (V.int 1) ⟨164,20,164,21⟩) (E.var 35 ⟨164,24,164,27⟩) ⟨164,20,164,27⟩) ⟨164,7,164,28⟩) (Ss.cons (S.expr (E.meth (E.sub (E.sub (E.var 27 ⟨165,8,165,12⟩) (E.cst (V.sym 29) ⟨165,13,165,18⟩) ⟨165,8,165,19⟩) (E.bin PySem.Operator.Sub (E.cst (V.int 1) ⟨165,20,165,21⟩) (E.var 35 ⟨165,24,165,27⟩) ⟨165,20,165,27⟩) ⟨165,8,165,28⟩) 48 (Es.cons (E.var 40 ⟨165,36,165,40⟩) Es.nil) ⟨165,8,165,35⟩ ⟨165,8,165,41⟩) ⟨165,8,165,41⟩)
      Ss.nil) Ss.nil ⟨164,4,165,41⟩)
      (Ss.cons (S.ret (E.sub (E.sub (E.var 27 ⟨166,11,166,15⟩) (E.cst (V.sym 28) ⟨166,16,166,22⟩) ⟨166,11,166,23⟩) (E.var 35 ⟨166,24,166,27⟩) ⟨166,11,166,28⟩) ⟨166,4,166,28⟩)
      Ss.nil))))
noncomputable def f_law_said : FD := { name := 110, ps := [(34, ⟨161,14,161,19⟩), (35, ⟨161,21,161,24⟩), (40, ⟨161,26,161,30⟩)], names := [(34, true), (35, true), (40, true), (27, true)], fast := [], body := b_law_said }
noncomputable def b_law_timer : Ss := (Ss.cons (S.asgT [(T.name 26 ⟨168,4,168,10⟩), (T.name 41 ⟨168,12,168,16⟩)] ⟨168,4,168,16⟩ (E.tup (Es.cons (E.sub (E.sub (E.var 34 ⟨168,20,168,25⟩) (E.cst (V.sym 26) ⟨168,26,168,34⟩) ⟨168,20,168,35⟩) (E.var 35 ⟨168,36,168,39⟩) ⟨168,20,168,40⟩) (Es.cons (E.ife (E.cmp PySem.CmpOp.Eq (E.var 41 ⟨168,52,168,56⟩) (E.cst (V.sym 14) ⟨168,60,168,72⟩) ⟨168,52,168,72⟩) (E.cst (V.sym 11) ⟨168,42,168,48⟩) (E.var 41 ⟨168,78,168,82⟩) ⟨168,42,168,82⟩) Es.nil)) ⟨168,19,168,83⟩) ⟨168,4,168,83⟩)
      (Ss.cons (S.ifs (E.cmp PySem.CmpOp.Eq (E.var 40 ⟨169,7,169,11⟩) (E.cst (V.sym 55) ⟨169,15,169,22⟩) ⟨169,7,169,22⟩) (Ss.cons (S.expr (E.meth (E.var 26 ⟨170,8,170,14⟩) 111 (Es.cons (E.var 41 ⟨170,19,170,23⟩) (Es.cons (E.cst V.none ⟨170,25,170,29⟩) Es.nil)) ⟨170,8,170,18⟩ ⟨170,8,170,30⟩) ⟨170,8,170,30⟩)
      Ss.nil) (Ss.cons (S.ifs (E.bop false (Es.cons (E.cmp PySem.CmpOp.NotEq (E.var 41 ⟨171,9,171,13⟩) (E.cst (V.sym 7) ⟨171,17,171,28⟩) ⟨171,9,171,28⟩) (Es.cons (E.cmp PySem.CmpOp.Gt (E.sub (E.var 34 ⟨171,32,171,37⟩) (E.cst (V.sym 11) ⟨171,38,171,44⟩) ⟨171,32,171,45⟩) (E.cst (V.int 0) ⟨171,48,171,49⟩) ⟨171,32,171,49⟩) Es.nil)) ⟨171,9,171,49⟩) (Ss.cons (S.asg (T.sub (E.var 26 ⟨172,8,172,14⟩) (E.var 41 ⟨172,15,172,19⟩) ⟨172,8,172,20⟩) (E.cst (V.bool true) ⟨172,23,172,27⟩) ⟨172,8,172,27⟩)
      Ss.nil) Ss.nil ⟨171,4,172,27⟩)
      Ss.nil) ⟨169,4,172,27⟩)
      Ss.nil))
noncomputable def f_law_timer : FD := { name := 112, ps := [(34, ⟨167,15,167,20⟩), (35, ⟨167,22,167,25⟩), (40, ⟨167,27,167,31⟩), (41, ⟨167,33,167,37⟩)], names := [(34, true), (35, true), (40, true), (41, true), (26, true)], fast := [], body := b_law_timer }
noncomputable def b_law_happens : Ss := (Ss.cons (S.asg (T.name 45 ⟨174,4,174,9⟩) (E.dic [(63, ⟨174,13,174,25⟩), (79, ⟨174,34,174,49⟩), (82, ⟨174,58,174,72⟩), (32, ⟨174,92,174,98⟩)] (Es.cons (E.cst (V.bool false) ⟨174,27,174,32⟩) (Es.cons (E.cst (V.bool false) ⟨174,51,174,56⟩) (Es.cons (E.sub (E.var 34 ⟨174,74,174,79⟩) (E.cst (V.sym 33) ⟨174,80,174,89⟩) ⟨174,74,174,90⟩) (Es.cons (E.sub (E.var 34 ⟨174,100,174,105⟩) (E.cst (V.sym 32) ⟨174,106,174,112⟩) ⟨174,100,174,113⟩) Es.nil)))) ⟨174,12,174,114⟩) ⟨174,4,174,114⟩)
      (Ss.cons (S.asgT [(T.sub (E.var 45 ⟨175,4,175,9⟩) (E.cst (V.sym 11) ⟨175,10,175,16⟩) ⟨175,4,175,17⟩), (T.sub (E.var 45 ⟨175,19,175,24⟩) (E.cst (V.sym 60) ⟨175,25,175,32⟩) ⟨175,19,175,33⟩)] ⟨175,4,175,33⟩ (E.tup (Es.cons (E.sub (E.var 34 ⟨175,37,175,42⟩) (E.cst (V.sym 11) ⟨175,43,175,49⟩) ⟨175,37,175,50⟩) (Es.cons (E.tup (Es.cons (E.cst (V.int 0) ⟨175,53,175,54⟩) (Es.cons (E.cst (V.int 0) ⟨175,56,175,57⟩) (Es.cons (E.cst V.byt ⟨175,59,175,62⟩) Es.nil))) ⟨175,52,175,63⟩) Es.nil)) ⟨175,36,175,64⟩) ⟨175,4,175,64⟩)
      (Ss.cons (S.asgT [(T.name 114 ⟨176,4,176,10⟩), (T.name 27 ⟨176,12,176,16⟩)] ⟨176,4,176,16⟩ (E.tup (Es.cons (E.sub (E.sub (E.var 34 ⟨176,20,176,25⟩) (E.cst (V.sym 25) ⟨176,26,176,34⟩) ⟨176,20,176,35⟩) (E.var 35 ⟨176,36,176,39⟩) ⟨176,20,176,40⟩) (Es.cons (E.sub (E.var 34 ⟨176,42,176,47⟩) (E.cst (V.sym 27) ⟨176,48,176,54⟩) ⟨176,42,176,55⟩) Es.nil)) ⟨176,19,176,56⟩) ⟨176,4,176,56⟩)
      (Ss.cons (S.asgT [(T.name 84 ⟨177,4,177,9⟩), (T.name 113 ⟨177,11,177,18⟩)] ⟨177,4,177,18⟩ (E.call 104 ⟨177,21,177,29⟩ (Es.cons (E.var 114 ⟨177,30,177,36⟩) (Es.cons (E.var 36 ⟨177,38,177,43⟩) (Es.cons (E.var 45 ⟨177,45,177,50⟩) Es.nil))) ⟨177,21,177,51⟩) ⟨177,4,177,51⟩)
      (Ss.cons (S.asg (T.sub (E.sub (E.var 34 ⟨178,4,178,9⟩) (E.cst (V.sym 25) ⟨178,10,178,18⟩) ⟨178,4,178,19⟩) (E.var 35 ⟨178,20,178,23⟩) ⟨178,4,178,24⟩) (E.var 84 ⟨178,27,178,32⟩) ⟨178,4,178,32⟩)
      (Ss.cons (S.ifs (E.cmp PySem.CmpOp.NotEq (E.var 84 ⟨179,7,179,12⟩) (E.cst (V.sym 0) ⟨179,16,179,22⟩) ⟨179,7,179,22⟩) (Ss.cons (S.expr (E.meth (E.sub (E.sub (E.var 34 ⟨180,8,180,13⟩) (E.cst (V.sym 26) ⟨180,14,180,22⟩) ⟨180,8,180,23⟩) (E.var 35 ⟨180,24,180,27⟩) ⟨180,8,180,28⟩) 111 (Es.cons (E.cst (V.sym 12) ⟨180,33,180,44⟩) (Es.cons (E.cst V.none ⟨180,46,180,50⟩) Es.nil)) ⟨180,8,180,32⟩ ⟨180,8,180,51⟩) ⟨180,8,180,51⟩)
      Ss.nil) Ss.nil ⟨179,4,180,51⟩)
      (Ss.cons (S.fors 115 ⟨181,8,181,14⟩ (E.var 113 ⟨181,18,181,25⟩) (Ss.cons (S.ifs (E.bop true (Es.cons (E.cmp PySem.CmpOp.Eq (E.sub (E.var 115 ⟨182,11,182,17⟩) (E.cst (V.int 0) ⟨182,18,182,19⟩) ⟨182,11,182,20⟩) (E.cst (V.sym 62) ⟨182,24,182,30⟩) ⟨182,11,182,30⟩) (Es.cons (E.not (E.call 110 ⟨182,40,182,49⟩ (Es.cons (E.var 34 ⟨182,50,182,55⟩) (Es.cons (E.var 35 ⟨182,57,182,60⟩) (Es.cons (E.sub (E.var 115 ⟨182,62,182,68⟩) (E.cst (V.int 1) ⟨182,69,182,70⟩) ⟨182,62,182,71⟩) Es.nil))) ⟨182,40,182,72⟩) ⟨182,36,182,72⟩) Es.nil)) ⟨182,11,182,73⟩) (Ss.cons (S.ret (E.cst (V.bool false) ⟨183,19,183,24⟩) ⟨183,12,183,24⟩)
      Ss.nil) Ss.nil ⟨182,8,183,24⟩)
      (Ss.cons (S.ifs (E.bop true (Es.cons (E.cmp PySem.CmpOp.Eq (E.sub (E.var 115 ⟨184,11,184,17⟩) (E.cst (V.int 0) ⟨184,18,184,19⟩) ⟨184,11,184,20⟩) (E.cst (V.sym 9) ⟨184,24,184,30⟩) ⟨184,11,184,30⟩) (Es.cons (E.bop false (Es.cons (E.cmp PySem.CmpOp.Eq (E.sub (E.var 115 ⟨184,36,184,42⟩) (E.cst (V.int 1) ⟨184,43,184,44⟩) ⟨184,36,184,45⟩) (E.cst (V.int 5) ⟨184,49,184,50⟩) ⟨184,36,184,50⟩) (Es.cons (E.not (E.call 110 ⟨184,58,184,67⟩ (Es.cons (E.var 34 ⟨184,68,184,73⟩) (Es.cons (E.var 35 ⟨184,75,184,78⟩) (Es.cons (E.cst (V.sym 9) ⟨184,80,184,86⟩) Es.nil))) ⟨184,58,184,87⟩) ⟨184,54,184,87⟩) Es.nil)) ⟨184,36,184,87⟩) Es.nil)) ⟨184,11,184,88⟩) (Ss.cons (S.ret (E.cst (V.bool false) ⟨185,19,185,24⟩) ⟨185,12,185,24⟩)
      Ss.nil) Ss.nil ⟨184,8,185,24⟩)
      (Ss.cons (S.ifs (E.cmp PySem.CmpOp.Eq (E.sub (E.var 115 ⟨186,11,186,17⟩) (E.cst (V.int 0) ⟨186,18,186,19⟩) ⟨186,11,186,20⟩) (E.cst (V.sym 53) ⟨186,24,186,31⟩) ⟨186,11,186,31⟩) (Ss.cons (S.asgT [(T.sub (E.sub (E.var 27 ⟨187,12,187,16⟩) (E.cst (V.sym 28) ⟨187,17,187,23⟩) ⟨187,12,187,24⟩) (E.var 35 ⟨187,25,187,28⟩) ⟨187,12,187,29⟩), (T.sub (E.sub (E.var 27 ⟨187,31,187,35⟩) (E.cst (V.sym 29) ⟨187,36,187,41⟩) ⟨187,31,187,42⟩) (E.var 35 ⟨187,43,187,46⟩) ⟨187,31,187,47⟩)] ⟨187,12,187,47⟩ (E.tup (Es.cons (E.cst (V.bool false) ⟨187,51,187,56⟩) (Es.cons (E.lst Es.nil ⟨187,58,187,60⟩) Es.nil)) ⟨187,50,187,61⟩) ⟨187,12,187,61⟩)
      Ss.nil) Ss.nil ⟨186,8,187,61⟩)
      (Ss.cons (S.ifs (E.cmp PySem.CmpOp.In (E.sub (E.var 115 ⟨188,11,188,17⟩) (E.cst (V.int 0) ⟨188,18,188,19⟩) ⟨188,11,188,20⟩) (E.tup (Es.cons (E.cst (V.sym 49) ⟨188,25,188,30⟩) (Es.cons (E.cst (V.sym 55) ⟨188,32,188,39⟩) Es.nil)) ⟨188,24,188,40⟩) ⟨188,11,188,40⟩) (Ss.cons (S.expr (E.call 112 ⟨189,12,189,22⟩ (Es.cons (E.var 34 ⟨189,23,189,28⟩) (Es.cons (E.var 35 ⟨189,30,189,33⟩) (Es.cons (E.sub (E.var 115 ⟨189,35,189,41⟩) (E.cst (V.int 0) ⟨189,42,189,43⟩) ⟨189,35,189,44⟩) (Es.cons (E.sub (E.var 115 ⟨189,46,189,52⟩) (E.cst (V.int 1) ⟨189,53,189,54⟩) ⟨189,46,189,55⟩) Es.nil)))) ⟨189,12,189,56⟩) ⟨189,12,189,56⟩)
      Ss.nil) Ss.nil ⟨188,8,189,56⟩)
      (Ss.cons (S.ifs (E.cmp PySem.CmpOp.Eq (E.sub (E.var 115 ⟨190,11,190,17⟩) (E.cst (V.int 0) ⟨190,18,190,19⟩) ⟨190,11,190,20⟩) (E.cst (V.sym 54) ⟨190,24,190,33⟩) ⟨190,11,190,33⟩) (Ss.cons (S.asg (T.sub (E.sub (E.var 34 ⟨191,12,191,17⟩) (E.cst (V.sym 26) ⟨191,18,191,26⟩) ⟨191,12,191,27⟩) (E.var 35 ⟨191,28,191,31⟩) ⟨191,12,191,32⟩) (E.dcm 41 (E.sub (E.sub (E.var 34 ⟨191,59,191,64⟩) (E.cst (V.sym 26) ⟨191,65,191,73⟩) ⟨191,59,191,74⟩) (E.var 35 ⟨191,75,191,78⟩) ⟨191,59,191,79⟩) [(10, ⟨191,92,191,99⟩), (12, ⟨191,101,191,112⟩)] ⟨191,36,191,40⟩ ⟨191,42,191,46⟩ ⟨191,51,191,55⟩ ⟨191,83,191,87⟩ ⟨191,91,191,113⟩ ⟨191,83,191,113⟩ ⟨191,35,191,114⟩) ⟨191,12,191,114⟩)
      Ss.nil) Ss.nil ⟨190,8,191,114⟩)
      Ss.nil))))) ⟨181,4,191,114⟩)
      (Ss.cons (S.ret (E.cmp PySem.CmpOp.Eq (E.cmp PySem.CmpOp.In (E.tup (Es.cons (E.cst (V.sym 99) ⟨192,13,192,17⟩) Es.nil) ⟨192,12,192,19⟩) (E.var 113 ⟨192,23,192,30⟩) ⟨192,12,192,30⟩) (E.bop true (Es.cons (E.cmp PySem.CmpOp.Eq (E.var 84 ⟨192,36,192,41⟩) (E.cst (V.sym 5) ⟨192,45,192,58⟩) ⟨192,36,192,58⟩) (Es.cons (E.cmp PySem.CmpOp.NotEq (E.var 114 ⟨192,63,192,69⟩) (E.cst (V.sym 5) ⟨192,73,192,86⟩) ⟨192,63,192,86⟩) Es.nil)) ⟨192,36,192,86⟩) ⟨192,11,192,87⟩) ⟨192,4,192,87⟩)
      Ss.nil))))))))
noncomputable def f_law_happens : FD := { name := 116, ps := [(34, ⟨173,17,173,22⟩), (35, ⟨173,24,173,27⟩), (36, ⟨173,29,173,34⟩)], names := [(34, true), (35, true), (36, true), (45, true), (114, true), (27, true), (84, true), (113, true), (115, true), (104, false), (110, false), (112, false)], fast := [34, 35, 36, 45, 114, 27, 84, 113, 115, 41], body := b_law_happens }
noncomputable def b_law_comes : Ss := (Ss.cons (S.asg (T.name 27 ⟨194,4,194,8⟩) (E.sub (E.var 34 ⟨194,11,194,16⟩) (E.cst (V.sym 27) ⟨194,17,194,23⟩) ⟨194,11,194,24⟩) ⟨194,4,194,24⟩)
      (Ss.cons (S.ifs (E.not (E.sub (E.sub (E.var 27 ⟨195,11,195,15⟩) (E.cst (V.sym 28) ⟨195,16,195,22⟩) ⟨195,11,195,23⟩) (E.var 35 ⟨195,24,195,27⟩) ⟨195,11,195,28⟩) ⟨195,7,195,28⟩) (Ss.cons (S.ret (E.cst (V.bool true) ⟨196,15,196,19⟩) ⟨196,8,196,19⟩)
      Ss.nil) Ss.nil ⟨195,4,196,19⟩)
      (Ss.cons (S.ifs (E.cmp PySem.CmpOp.Eq (E.sub (E.sub (E.var 27 ⟨197,7,197,11⟩) (E.cst (V.sym 29) ⟨197,12,197,17⟩) ⟨197,7,197,18⟩) (E.var 35 ⟨197,19,197,22⟩) ⟨197,7,197,23⟩) (E.lst Es.nil ⟨197,27,197,29⟩) ⟨197,7,197,29⟩) (Ss.cons (S.ret (E.bop false (Es.cons (E.sub (E.sub (E.var 27 ⟨198,15,198,19⟩) (E.cst (V.sym 28) ⟨198,20,198,26⟩) ⟨198,15,198,27⟩) (E.bin PySem.Operator.Sub (E.cst (V.int 1) ⟨198,28,198,29⟩) (E.var 35 ⟨198,32,198,35⟩) ⟨198,28,198,35⟩) ⟨198,15,198,36⟩) (Es.cons (E.call 116 ⟨198,40,198,52⟩ (Es.cons (E.var 34 ⟨198,53,198,58⟩) (Es.cons (E.var 35 ⟨198,60,198,63⟩) (Es.cons (E.cst (V.sym 18) ⟨198,65,198,73⟩) Es.nil))) ⟨198,40,198,74⟩) Es.nil)) ⟨198,15,198,74⟩) ⟨198,8,198,74⟩)
      Ss.nil) Ss.nil ⟨197,4,198,74⟩)
      (Ss.cons (S.asg (T.name 40 ⟨199,4,199,8⟩) (E.meth (E.sub (E.sub (E.var 27 ⟨199,11,199,15⟩) (E.cst (V.sym 29) ⟨199,16,199,21⟩) ⟨199,11,199,22⟩) (E.var 35 ⟨199,23,199,26⟩) ⟨199,11,199,27⟩) 111 (Es.cons (E.cst (V.int 0) ⟨199,32,199,33⟩) Es.nil) ⟨199,11,199,31⟩ ⟨199,11,199,34⟩) ⟨199,4,199,34⟩)
      (Ss.cons (S.expr (E.meth (E.sub (E.sub (E.var 27 ⟨200,4,200,8⟩) (E.cst (V.sym 31) ⟨200,9,200,16⟩) ⟨200,4,200,17⟩) (E.var 35 ⟨200,18,200,21⟩) ⟨200,4,200,22⟩) 48 (Es.cons (E.var 40 ⟨200,30,200,34⟩) Es.nil) ⟨200,4,200,29⟩ ⟨200,4,200,35⟩) ⟨200,4,200,35⟩)
      (Ss.cons (S.ifs (E.not (E.call 116 ⟨201,11,201,23⟩ (Es.cons (E.var 34 ⟨201,24,201,29⟩) (Es.cons (E.var 35 ⟨201,31,201,34⟩) (Es.cons (E.var 40 ⟨201,36,201,40⟩) Es.nil))) ⟨201,11,201,41⟩) ⟨201,7,201,41⟩) (Ss.cons (S.ret (E.cst (V.bool false) ⟨202,15,202,20⟩) ⟨202,8,202,20⟩)
      Ss.nil) Ss.nil ⟨201,4,202,20⟩)
      (Ss.cons (S.ret (E.bop false (Es.cons (E.cmp PySem.CmpOp.NotEq (E.var 40 ⟨203,11,203,15⟩) (E.cst (V.sym 9) ⟨203,19,203,25⟩) ⟨203,11,203,25⟩) (Es.cons (E.bop true (Es.cons (E.cmp PySem.CmpOp.Eq (E.sub (E.sub (E.var 34 ⟨203,30,203,35⟩) (E.cst (V.sym 25) ⟨203,36,203,44⟩) ⟨203,30,203,45⟩) (E.var 35 ⟨203,46,203,49⟩) ⟨203,30,203,50⟩) (E.cst (V.sym 0) ⟨203,54,203,60⟩) ⟨203,30,203,60⟩) (Es.cons (E.cmp PySem.CmpOp.Eq (E.sub (E.var 27 ⟨203,65,203,69⟩) (E.cst (V.sym 28) ⟨203,70,203,76⟩) ⟨203,65,203,77⟩) (E.lst (Es.cons (E.cst (V.bool false) ⟨203,82,203,87⟩) (Es.cons (E.cst (V.bool false) ⟨203,89,203,94⟩) Es.nil)) ⟨203,81,203,95⟩) ⟨203,65,203,95⟩) Es.nil)) ⟨203,30,203,95⟩) Es.nil)) ⟨203,11,203,96⟩) ⟨203,4,203,96⟩)
      Ss.nil)))))))
noncomputable def f_law_comes : FD := { name := 117, ps := [(34, ⟨193,15,193,20⟩), (35, ⟨193,22,193,25⟩)], names := [(34, true), (35, true), (27, true), (40, true), (116, false)], fast := [], body := b_law_comes }
noncomputable def b_law_joined : Ss := (Ss.cons (S.ifs (E.bop false (Es.cons (E.cmp PySem.CmpOp.NotIn (E.sub (E.sub (E.var 34 ⟨205,7,205,12⟩) (E.cst (V.sym 25) ⟨205,13,205,21⟩) ⟨205,7,205,22⟩) (E.cst (V.int 0) ⟨205,23,205,24⟩) ⟨205,7,205,25⟩) (E.tup (Es.cons (E.cst (V.sym 1) ⟨205,34,205,43⟩) (Es.cons (E.cst (V.sym 2) ⟨205,45,205,53⟩) Es.nil)) ⟨205,33,205,54⟩) ⟨205,7,205,54⟩) (Es.cons (E.cmp PySem.CmpOp.NotIn (E.sub (E.sub (E.var 34 ⟨205,58,205,63⟩) (E.cst (V.sym 25) ⟨205,64,205,72⟩) ⟨205,58,205,73⟩) (E.cst (V.int 1) ⟨205,74,205,75⟩) ⟨205,58,205,76⟩) (E.tup (Es.cons (E.cst (V.sym 1) ⟨205,85,205,94⟩) (Es.cons (E.cst (V.sym 2) ⟨205,96,205,104⟩) Es.nil)) ⟨205,84,205,105⟩) ⟨205,58,205,105⟩) Es.nil)) ⟨205,7,205,105⟩) (Ss.cons (S.ret (E.cst (V.bool true) ⟨206,15,206,19⟩) ⟨206,8,206,19⟩)
      Ss.nil) Ss.nil ⟨205,4,206,19⟩)
      (Ss.cons (S.asg (T.sub (E.var 34 ⟨207,4,207,9⟩) (E.cst (V.sym 27) ⟨207,10,207,16⟩) ⟨207,4,207,17⟩) (E.call 109 ⟨207,20,207,33⟩ Es.nil ⟨207,20,207,35⟩) ⟨207,4,207,35⟩)
      (Ss.cons (S.asg (T.sub (E.sub (E.var 34 ⟨208,4,208,9⟩) (E.cst (V.sym 27) ⟨208,10,208,16⟩) ⟨208,4,208,17⟩) (E.cst (V.sym 28) ⟨208,18,208,24⟩) ⟨208,4,208,25⟩) (E.lst (Es.cons (E.cst (V.bool true) ⟨208,29,208,33⟩) (Es.cons (E.cst (V.bool true) ⟨208,35,208,39⟩) Es.nil)) ⟨208,28,208,40⟩) ⟨208,4,208,40⟩)
      (Ss.cons (S.ret (E.bop true (Es.cons (E.call 116 ⟨209,11,209,23⟩ (Es.cons (E.var 34 ⟨209,24,209,29⟩) (Es.cons (E.var 118 ⟨209,31,209,36⟩) (Es.cons (E.cst (V.sym 17) ⟨209,38,209,49⟩) Es.nil))) ⟨209,11,209,50⟩) (Es.cons (E.call 116 ⟨209,55,209,67⟩ (Es.cons (E.var 34 ⟨209,68,209,73⟩) (Es.cons (E.bin PySem.Operator.Sub (E.cst (V.int 1) ⟨209,75,209,76⟩) (E.var 118 ⟨209,79,209,84⟩) ⟨209,75,209,84⟩) (Es.cons (E.cst (V.sym 17) ⟨209,86,209,97⟩) Es.nil))) ⟨209,55,209,98⟩) Es.nil)) ⟨209,11,209,98⟩) ⟨209,4,209,98⟩)
      Ss.nil))))
noncomputable def f_law_joined : FD := { name := 119, ps := [(34, ⟨204,16,204,21⟩), (118, ⟨204,23,204,28⟩)], names := [(34, true), (118, true), (109, false), (116, false)], fast := [], body := b_law_joined }
noncomputable def b_law_broken : Ss := (Ss.cons (S.asg (T.name 27 ⟨211,4,211,8⟩) (E.sub (E.var 34 ⟨211,11,211,16⟩) (E.cst (V.sym 27) ⟨211,17,211,23⟩) ⟨211,11,211,24⟩) ⟨211,4,211,24⟩)
      (Ss.cons (S.asg (T.sub (E.var 27 ⟨212,4,212,8⟩) (E.cst (V.sym 29) ⟨212,9,212,14⟩) ⟨212,4,212,15⟩) (E.lst (Es.cons (E.lst Es.nil ⟨212,19,212,21⟩) (Es.cons (E.lst Es.nil ⟨212,23,212,25⟩) Es.nil)) ⟨212,18,212,26⟩) ⟨212,4,212,26⟩)
      (Ss.cons (S.fors 35 ⟨213,8,213,11⟩ (E.tup (Es.cons (E.cst (V.int 0) ⟨213,16,213,17⟩) (Es.cons (E.cst (V.int 1) ⟨213,19,213,20⟩) Es.nil)) ⟨213,15,213,21⟩) (Ss.cons (S.ifs (E.bop true (Es.cons (E.sub (E.sub (E.var 27 ⟨214,11,214,15⟩) (E.cst (V.sym 28) ⟨214,16,214,22⟩) ⟨214,11,214,23⟩) (E.var 35 ⟨214,24,214,27⟩) ⟨214,11,214,28⟩) (Es.cons (E.not (E.call 116 ⟨214,38,214,50⟩ (Es.cons (E.var 34 ⟨214,51,214,56⟩) (Es.cons (E.var 35 ⟨214,58,214,61⟩) (Es.cons (E.cst (V.sym 18) ⟨214,63,214,71⟩) Es.nil))) ⟨214,38,214,72⟩) ⟨214,34,214,72⟩) Es.nil)) ⟨214,11,214,73⟩) (Ss.cons (S.ret (E.cst (V.bool false) ⟨215,19,215,24⟩) ⟨215,12,215,24⟩)
      Ss.nil) Ss.nil ⟨214,8,215,24⟩)
      Ss.nil) ⟨213,4,215,24⟩)
      (Ss.cons (S.ret (E.cst (V.bool true) ⟨216,11,216,15⟩) ⟨216,4,216,15⟩)
      Ss.nil))))
noncomputable def f_law_broken : FD := { name := 120, ps := [(34, ⟨210,16,210,21⟩)], names := [(34, true), (27, true), (35, true), (116, false)], fast := [], body := b_law_broken }
noncomputable def b_law_begun : Ss := (Ss.cons (S.asg (T.name 121 ⟨218,4,218,7⟩) (E.sub (E.sub (E.var 34 ⟨218,10,218,15⟩) (E.cst (V.sym 25) ⟨218,16,218,24⟩) ⟨218,10,218,25⟩) (E.var 35 ⟨218,26,218,29⟩) ⟨218,10,218,30⟩) ⟨218,4,218,30⟩)
      (Ss.cons (S.ifs (E.cmp PySem.CmpOp.Eq (E.var 121 ⟨219,7,219,10⟩) (E.cst (V.sym 0) ⟨219,14,219,20⟩) ⟨219,7,219,20⟩) (Ss.cons (S.asg (T.name 121 ⟨220,8,220,11⟩) (E.ife (E.cmp PySem.CmpOp.Eq (E.var 36 ⟨220,27,220,32⟩) (E.cst (V.sym 15) ⟨220,36,220,43⟩) ⟨220,27,220,43⟩) (E.cst (V.sym 1) ⟨220,14,220,23⟩) (E.cst (V.sym 2) ⟨220,49,220,57⟩) ⟨220,14,220,57⟩) ⟨220,8,220,57⟩)
      Ss.nil) Ss.nil ⟨219,4,220,57⟩)
      (Ss.cons (S.ret (E.bop true (Es.cons (E.call 116 ⟨221,11,221,23⟩ (Es.cons (E.var 34 ⟨221,24,221,29⟩) (Es.cons (E.var 35 ⟨221,31,221,34⟩) (Es.cons (E.var 36 ⟨221,36,221,41⟩) Es.nil))) ⟨221,11,221,42⟩) (Es.cons (E.cmp PySem.CmpOp.Eq (E.sub (E.sub (E.var 34 ⟨221,47,221,52⟩) (E.cst (V.sym 25) ⟨221,53,221,61⟩) ⟨221,47,221,62⟩) (E.var 35 ⟨221,63,221,66⟩) ⟨221,47,221,67⟩) (E.var 121 ⟨221,71,221,74⟩) ⟨221,47,221,74⟩) Es.nil)) ⟨221,11,221,74⟩) ⟨221,4,221,74⟩)
      Ss.nil)))
noncomputable def f_law_begun : FD := { name := 122, ps := [(34, ⟨217,15,217,20⟩), (35, ⟨217,22,217,25⟩), (36, ⟨217,27,217,32⟩)], names := [(34, true), (35, true), (36, true), (121, true), (116, false)], fast := [], body := b_law_begun }
noncomputable def b_law_deed : Ss := (Ss.cons (S.asg (T.name 123 ⟨223,4,223,8⟩) (E.ife (E.cmp PySem.CmpOp.Lt (E.var 127 ⟨223,39,223,43⟩) (E.cst (V.int 6) ⟨223,46,223,47⟩) ⟨223,39,223,47⟩) (E.sub (E.tup (Es.cons (E.cst (V.int 0) ⟨223,12,223,13⟩) (Es.cons (E.cst (V.int 0) ⟨223,15,223,16⟩) (Es.cons (E.cst (V.int 1) ⟨223,18,223,19⟩) (Es.cons (E.cst (V.int 2) ⟨223,21,223,22⟩) (Es.cons (E.cst (V.int 2) ⟨223,24,223,25⟩) (Es.cons (E.cst (V.int 2) ⟨223,27,223,28⟩) Es.nil)))))) ⟨223,11,223,29⟩) (E.var 127 ⟨223,30,223,34⟩) ⟨223,11,223,35⟩) (E.call 108 ⟨223,53,223,62⟩ (Es.cons (E.var 37 ⟨223,63,223,66⟩) (Es.cons (E.cst (V.int 12) ⟨223,68,223,70⟩) Es.nil)) ⟨223,53,223,71⟩) ⟨223,11,223,71⟩) ⟨223,4,223,71⟩)
      (Ss.cons (S.asg (T.name 35 ⟨224,4,224,7⟩) (E.ife (E.cmp PySem.CmpOp.Lt (E.var 127 ⟨224,18,224,22⟩) (E.cst (V.int 2) ⟨224,25,224,26⟩) ⟨224,18,224,26⟩) (E.var 127 ⟨224,10,224,14⟩) (E.ife (E.cmp PySem.CmpOp.Eq (E.var 123 ⟨224,37,224,41⟩) (E.cst (V.int 9) ⟨224,45,224,46⟩) ⟨224,37,224,46⟩) (E.cst (V.int 0) ⟨224,32,224,33⟩) (E.call 108 ⟨224,52,224,61⟩ (Es.cons (E.var 37 ⟨224,62,224,65⟩) (Es.cons (E.cst (V.int 2) ⟨224,67,224,68⟩) Es.nil)) ⟨224,52,224,69⟩) ⟨224,32,224,69⟩) ⟨224,10,224,69⟩) ⟨224,4,224,69⟩)
      (Ss.cons (S.ifs (E.cmp PySem.CmpOp.Eq (E.var 123 ⟨225,7,225,11⟩) (E.cst (V.int 0) ⟨225,15,225,16⟩) ⟨225,7,225,16⟩) (Ss.cons (S.ret (E.call 122 ⟨226,15,226,25⟩ (Es.cons (E.var 34 ⟨226,26,226,31⟩) (Es.cons (E.var 35 ⟨226,33,226,36⟩) (Es.cons (E.sub (E.tup (Es.cons (E.cst (V.sym 15) ⟨226,39,226,46⟩) (Es.cons (E.cst (V.sym 16) ⟨226,48,226,63⟩) Es.nil)) ⟨226,38,226,64⟩) (E.call 108 ⟨226,65,226,74⟩ (Es.cons (E.var 37 ⟨226,75,226,78⟩) (Es.cons (E.cst (V.int 2) ⟨226,80,226,81⟩) Es.nil)) ⟨226,65,226,82⟩) ⟨226,38,226,83⟩) Es.nil))) ⟨226,15,226,84⟩) ⟨226,8,226,84⟩)
      Ss.nil) Ss.nil ⟨225,4,226,84⟩)
      (Ss.cons (S.ifs (E.cmp PySem.CmpOp.Eq (E.var 123 ⟨227,7,227,11⟩) (E.cst (V.int 1) ⟨227,15,227,16⟩) ⟨227,7,227,16⟩) (Ss.cons (S.ret (E.call 119 ⟨228,15,228,26⟩ (Es.cons (E.var 34 ⟨228,27,228,32⟩) (Es.cons (E.var 35 ⟨228,34,228,37⟩) Es.nil)) ⟨228,15,228,38⟩) ⟨228,8,228,38⟩)
      Ss.nil) Ss.nil ⟨227,4,228,38⟩)
      (Ss.cons (S.ifs (E.cmp PySem.CmpOp.Lt (E.var 123 ⟨229,7,229,11⟩) (E.cst (V.int 7) ⟨229,14,229,15⟩) ⟨229,7,229,15⟩) (Ss.cons (S.ret (E.call 117 ⟨230,15,230,25⟩ (Es.cons (E.var 34 ⟨230,26,230,31⟩) (Es.cons (E.var 35 ⟨230,33,230,36⟩) Es.nil)) ⟨230,15,230,37⟩) ⟨230,8,230,37⟩)
      Ss.nil) Ss.nil ⟨229,4,230,37⟩)
      (Ss.cons (S.ifs (E.cmp PySem.CmpOp.Eq (E.var 123 ⟨231,7,231,11⟩) (E.cst (V.int 7) ⟨231,15,231,16⟩) ⟨231,7,231,16⟩) (Ss.cons (S.asg (T.name 125 ⟨232,8,232,13⟩) (E.blt 126 ⟨232,16,232,22⟩ (Es.cons (E.sub (E.sub (E.var 34 ⟨232,23,232,28⟩) (E.cst (V.sym 26) ⟨232,29,232,37⟩) ⟨232,23,232,38⟩) (E.var 35 ⟨232,39,232,42⟩) ⟨232,23,232,43⟩) Es.nil) ⟨232,16,232,44⟩) ⟨232,8,232,44⟩)
      (Ss.cons (S.ifs (E.cmp PySem.CmpOp.Eq (E.var 125 ⟨233,11,233,16⟩) (E.lst Es.nil ⟨233,20,233,22⟩) ⟨233,11,233,22⟩) (Ss.cons (S.ret (E.cst (V.bool true) ⟨234,19,234,23⟩) ⟨234,12,234,23⟩)
      Ss.nil) Ss.nil ⟨233,8,234,23⟩)
      (Ss.cons (S.asg (T.name 41 ⟨235,8,235,12⟩) (E.sub (E.var 125 ⟨235,15,235,20⟩) (E.call 108 ⟨235,21,235,30⟩ (Es.cons (E.var 37 ⟨235,31,235,34⟩) (Es.cons (E.blt 106 ⟨235,36,235,39⟩ (Es.cons (E.var 125 ⟨235,40,235,45⟩) Es.nil) ⟨235,36,235,46⟩) Es.nil)) ⟨235,21,235,47⟩) ⟨235,15,235,48⟩) ⟨235,8,235,48⟩)
      (Ss.cons (S.expr (E.meth (E.sub (E.sub (E.var 34 ⟨236,8,236,13⟩) (E.cst (V.sym 26) ⟨236,14,236,22⟩) ⟨236,8,236,23⟩) (E.var 35 ⟨236,24,236,27⟩) ⟨236,8,236,28⟩) 111 (Es.cons (E.var 41 ⟨236,33,236,37⟩) Es.nil) ⟨236,8,236,32⟩ ⟨236,8,236,38⟩) ⟨236,8,236,38⟩)
      (Ss.cons (S.ret (E.call 116 ⟨237,15,237,27⟩ (Es.cons (E.var 34 ⟨237,28,237,33⟩) (Es.cons (E.var 35 ⟨237,35,237,38⟩) (Es.cons (E.bin PySem.Operator.Add (E.var 41 ⟨237,40,237,44⟩) (E.cst (V.sym 124) ⟨237,47,237,53⟩) ⟨237,40,237,53⟩) Es.nil))) ⟨237,15,237,54⟩) ⟨237,8,237,54⟩)
      Ss.nil))))) Ss.nil ⟨231,4,237,54⟩)
      (Ss.cons (S.ifs (E.cmp PySem.CmpOp.Eq (E.var 123 ⟨238,7,238,11⟩) (E.cst (V.int 8) ⟨238,15,238,16⟩) ⟨238,7,238,16⟩) (Ss.cons (S.ret (E.call 116 ⟨239,15,239,27⟩ (Es.cons (E.var 34 ⟨239,28,239,33⟩) (Es.cons (E.var 35 ⟨239,35,239,38⟩) (Es.cons (E.sub (E.tup (Es.cons (E.cst (V.sym 19) ⟨239,41,239,47⟩) (Es.cons (E.cst (V.sym 20) ⟨239,49,239,60⟩) Es.nil)) ⟨239,40,239,61⟩) (E.call 108 ⟨239,62,239,71⟩ (Es.cons (E.var 37 ⟨239,72,239,75⟩) (Es.cons (E.cst (V.int 2) ⟨239,77,239,78⟩) Es.nil)) ⟨239,62,239,79⟩) ⟨239,40,239,80⟩) Es.nil))) ⟨239,15,239,81⟩) ⟨239,8,239,81⟩)
      Ss.nil) Ss.nil ⟨238,4,239,81⟩)
      (Ss.cons (S.ifs (E.cmp PySem.CmpOp.Eq (E.var 123 ⟨240,7,240,11⟩) (E.cst (V.int 9) ⟨240,15,240,16⟩) ⟨240,7,240,16⟩) (Ss.cons (S.ret (E.call 120 ⟨241,15,241,26⟩ (Es.cons (E.var 34 ⟨241,27,241,32⟩) Es.nil) ⟨241,15,241,33⟩) ⟨241,8,241,33⟩)
      Ss.nil) Ss.nil ⟨240,4,241,33⟩)
      (Ss.cons (S.ret (E.bop false (Es.cons (E.cmp PySem.CmpOp.NotEq (E.sub (E.sub (E.var 34 ⟨242,11,242,16⟩) (E.cst (V.sym 25) ⟨242,17,242,25⟩) ⟨242,11,242,26⟩) (E.var 35 ⟨242,27,242,30⟩) ⟨242,11,242,31⟩) (E.cst (V.sym 5) ⟨242,35,242,48⟩) ⟨242,11,242,48⟩) (Es.cons (E.call 110 ⟨242,52,242,61⟩ (Es.cons (E.var 34 ⟨242,62,242,67⟩) (Es.cons (E.var 35 ⟨242,69,242,72⟩) (Es.cons (E.cst (V.sym 8) ⟨242,74,242,82⟩) Es.nil))) ⟨242,52,242,83⟩) Es.nil)) ⟨242,11,242,83⟩) ⟨242,4,242,83⟩)
      Ss.nil)))))))))
noncomputable def f_law_deed : FD := { name := 128, ps := [(37, ⟨222,14,222,17⟩), (34, ⟨222,19,222,24⟩), (127, ⟨222,26,222,30⟩)], names := [(37, true), (34, true), (127, true), (123, true), (35, true), (125, true), (41, true), (108, false), (122, false), (119, false), (117, false), (126, false), (106, false), (116, false), (120, false), (110, false)], fast := [], body := b_law_deed }
noncomputable def b_law_end_right : Ss := (Ss.cons (S.asgT [(T.name 84 ⟨244,4,244,9⟩), (T.name 27 ⟨244,11,244,15⟩)] ⟨244,4,244,15⟩ (E.tup (Es.cons (E.sub (E.sub (E.var 34 ⟨244,19,244,24⟩) (E.cst (V.sym 25) ⟨244,25,244,33⟩) ⟨244,19,244,34⟩) (E.var 35 ⟨244,35,244,38⟩) ⟨244,19,244,39⟩) (Es.cons (E.sub (E.var 34 ⟨244,41,244,46⟩) (E.cst (V.sym 27) ⟨244,47,244,53⟩) ⟨244,41,244,54⟩) Es.nil)) ⟨244,18,244,55⟩) ⟨244,4,244,55⟩)
      (Ss.cons (S.asgT [(T.name 30 ⟨245,4,245,8⟩), (T.name 31 ⟨245,10,245,15⟩)] ⟨245,4,245,15⟩ (E.tup (Es.cons (E.sub (E.sub (E.var 27 ⟨245,19,245,23⟩) (E.cst (V.sym 30) ⟨245,24,245,30⟩) ⟨245,19,245,31⟩) (E.var 35 ⟨245,32,245,35⟩) ⟨245,19,245,36⟩) (Es.cons (E.sub (E.sub (E.var 27 ⟨245,38,245,42⟩) (E.cst (V.sym 31) ⟨245,43,245,50⟩) ⟨245,38,245,51⟩) (E.var 35 ⟨245,52,245,55⟩) ⟨245,38,245,56⟩) Es.nil)) ⟨245,18,245,57⟩) ⟨245,4,245,57⟩)
      (Ss.cons (S.ifs (E.cmp PySem.CmpOp.NotEq (E.sub (E.sub (E.var 27 ⟨246,7,246,11⟩) (E.cst (V.sym 28) ⟨246,12,246,18⟩) ⟨246,7,246,19⟩) (E.var 35 ⟨246,20,246,23⟩) ⟨246,7,246,24⟩) (E.cmp PySem.CmpOp.In (E.var 84 ⟨246,29,246,34⟩) (E.tup (Es.cons (E.cst (V.sym 3) ⟨246,39,246,50⟩) (Es.cons (E.cst (V.sym 4) ⟨246,52,246,66⟩) (Es.cons (E.cst (V.sym 5) ⟨246,68,246,81⟩) Es.nil))) ⟨246,38,246,82⟩) ⟨246,29,246,82⟩) ⟨246,7,246,83⟩) (Ss.cons (S.ret (E.cst (V.bool false) ⟨247,15,247,20⟩) ⟨247,8,247,20⟩)
      Ss.nil) Ss.nil ⟨246,4,247,20⟩)
      (Ss.cons (S.ifs (E.cmp PySem.CmpOp.Eq (E.var 84 ⟨248,7,248,12⟩) (E.cst (V.sym 3) ⟨248,16,248,27⟩) ⟨248,7,248,27⟩) (Ss.cons (S.ret (E.bop true (Es.cons (E.cmp PySem.CmpOp.Eq (E.var 30 ⟨249,15,249,19⟩) (E.lst (Es.cons (E.cst (V.sym 6) ⟨249,24,249,30⟩) Es.nil) ⟨249,23,249,31⟩) ⟨249,15,249,31⟩) (Es.cons (E.cmp PySem.CmpOp.Eq (E.var 31 ⟨249,36,249,41⟩) (E.lst Es.nil ⟨249,45,249,47⟩) ⟨249,36,249,47⟩) Es.nil)) ⟨249,15,249,47⟩) ⟨249,8,249,47⟩)
      Ss.nil) Ss.nil ⟨248,4,249,47⟩)
      (Ss.cons (S.ifs (E.cmp PySem.CmpOp.Eq (E.var 84 ⟨250,7,250,12⟩) (E.cst (V.sym 4) ⟨250,16,250,30⟩) ⟨250,7,250,30⟩) (Ss.cons (S.ret (E.bop true (Es.cons (E.cmp PySem.CmpOp.Eq (E.slc (E.var 30 ⟨251,15,251,19⟩) (E.cst (V.int 2) ⟨251,21,251,22⟩) ⟨251,20,251,22⟩ ⟨251,15,251,23⟩) (E.lst (Es.cons (E.cst (V.sym 6) ⟨251,28,251,34⟩) (Es.cons (E.cst (V.sym 7) ⟨251,36,251,47⟩) Es.nil)) ⟨251,27,251,48⟩) ⟨251,15,251,48⟩) (Es.cons (E.cmp PySem.CmpOp.NotIn (E.cst (V.sym 8) ⟨251,53,251,61⟩) (E.var 30 ⟨251,69,251,73⟩) ⟨251,53,251,73⟩) (Es.cons (E.cmp PySem.CmpOp.Eq (E.var 31 ⟨251,79,251,84⟩) (E.lst (Es.cons (E.cst (V.sym 6) ⟨251,89,251,95⟩) Es.nil) ⟨251,88,251,96⟩) ⟨251,79,251,96⟩) Es.nil))) ⟨251,15,251,97⟩) ⟨251,8,251,97⟩)
      Ss.nil) Ss.nil ⟨250,4,251,97⟩)
      (Ss.cons (S.ifs (E.cmp PySem.CmpOp.Eq (E.var 84 ⟨252,7,252,12⟩) (E.cst (V.sym 5) ⟨252,16,252,29⟩) ⟨252,7,252,29⟩) (Ss.cons (S.ret (E.bop true (Es.cons (E.cmp PySem.CmpOp.Eq (E.slc (E.var 30 ⟨253,15,253,19⟩) (E.cst (V.int 2) ⟨253,21,253,22⟩) ⟨253,20,253,22⟩ ⟨253,15,253,23⟩) (E.lst (Es.cons (E.cst (V.sym 6) ⟨253,28,253,34⟩) (Es.cons (E.cst (V.sym 7) ⟨253,36,253,47⟩) Es.nil)) ⟨253,27,253,48⟩) ⟨253,15,253,48⟩) (Es.cons (E.cmp PySem.CmpOp.Eq (E.slc (E.var 31 ⟨253,53,253,58⟩) (E.cst (V.int 2) ⟨253,60,253,61⟩) ⟨253,59,253,61⟩ ⟨253,53,253,62⟩) (E.lst (Es.cons (E.cst (V.sym 6) ⟨253,67,253,73⟩) (Es.cons (E.cst (V.sym 7) ⟨253,75,253,86⟩) Es.nil)) ⟨253,66,253,87⟩) ⟨253,53,253,87⟩) Es.nil)) ⟨253,15,253,87⟩) ⟨253,8,253,87⟩)
      Ss.nil) Ss.nil ⟨252,4,253,87⟩)
      (Ss.cons (S.ret (E.cmp PySem.CmpOp.In (E.var 84 ⟨254,11,254,16⟩) (E.tup (Es.cons (E.cst (V.sym 0) ⟨254,21,254,27⟩) (Es.cons (E.cst (V.sym 1) ⟨254,29,254,38⟩) (Es.cons (E.cst (V.sym 2) ⟨254,40,254,48⟩) Es.nil))) ⟨254,20,254,49⟩) ⟨254,11,254,49⟩) ⟨254,4,254,49⟩)
      Ss.nil)))))))
noncomputable def f_law_end_right : FD := { name := 129, ps := [(34, ⟨243,19,243,24⟩), (35, ⟨243,26,243,29⟩)], names := [(34, true), (35, true), (84, true), (27, true), (30, true), (31, true)], fast := [], body := b_law_end_right }
noncomputable def b_law : Ss := (Ss.cons (S.asg (T.name 37 ⟨256,4,256,7⟩) (E.lst (Es.cons (E.blt 51 ⟨256,11,256,15⟩ (Es.cons (E.slc (E.var 39 ⟨256,16,256,22⟩) (E.cst (V.int 56) ⟨256,24,256,26⟩) ⟨256,23,256,26⟩ ⟨256,16,256,27⟩) Es.nil) ⟨256,11,256,28⟩) (Es.cons (E.cst (V.int 0) ⟨256,30,256,31⟩) Es.nil)) ⟨256,10,256,32⟩) ⟨256,4,256,32⟩)
      (Ss.cons (S.asg (T.name 34 ⟨257,4,257,9⟩) (E.dic [(25, ⟨257,13,257,21⟩), (26, ⟨257,41,257,49⟩), (27, ⟨257,61,257,67⟩), (11, ⟨257,86,257,92⟩)] (Es.cons (E.lst (Es.cons (E.cst (V.sym 0) ⟨257,24,257,30⟩) (Es.cons (E.cst (V.sym 0) ⟨257,32,257,38⟩) Es.nil)) ⟨257,23,257,39⟩) (Es.cons (E.lst (Es.cons (E.dic [] Es.nil ⟨257,52,257,54⟩) (Es.cons (E.dic [] Es.nil ⟨257,56,257,58⟩) Es.nil)) ⟨257,51,257,59⟩) (Es.cons (E.call 109 ⟨257,69,257,82⟩ Es.nil ⟨257,69,257,84⟩) (Es.cons (E.sub (E.tup (Es.cons (E.cst (V.int 0) ⟨257,95,257,96⟩) (Es.cons (E.cst (V.int 9) ⟨257,98,257,99⟩) Es.nil)) ⟨257,94,257,100⟩) (E.call 108 ⟨257,101,257,110⟩ (Es.cons (E.var 37 ⟨257,111,257,114⟩) (Es.cons (E.cst (V.int 2) ⟨257,116,257,117⟩) Es.nil)) ⟨257,101,257,118⟩) ⟨257,94,257,119⟩) Es.nil)))) ⟨257,12,257,120⟩) ⟨257,4,257,120⟩)
      (Ss.cons (S.asgT [(T.sub (E.var 34 ⟨258,4,258,9⟩) (E.cst (V.sym 32) ⟨258,10,258,16⟩) ⟨258,4,258,17⟩), (T.sub (E.var 34 ⟨258,19,258,24⟩) (E.cst (V.sym 33) ⟨258,25,258,34⟩) ⟨258,19,258,35⟩)] ⟨258,4,258,35⟩ (E.tup (Es.cons (E.cmp PySem.CmpOp.Eq (E.call 108 ⟨258,39,258,48⟩ (Es.cons (E.var 37 ⟨258,49,258,52⟩) (Es.cons (E.cst (V.int 2) ⟨258,54,258,55⟩) Es.nil)) ⟨258,39,258,56⟩) (E.cst (V.int 1) ⟨258,60,258,61⟩) ⟨258,39,258,61⟩) (Es.cons (E.cmp PySem.CmpOp.Eq (E.call 108 ⟨258,63,258,72⟩ (Es.cons (E.var 37 ⟨258,73,258,76⟩) (Es.cons (E.cst (V.int 2) ⟨258,78,258,79⟩) Es.nil)) ⟨258,63,258,80⟩) (E.cst (V.int 1) ⟨258,84,258,85⟩) ⟨258,63,258,85⟩) Es.nil)) ⟨258,38,258,86⟩) ⟨258,4,258,86⟩)
      (Ss.cons (S.fors 127 ⟨259,8,259,12⟩ (E.blt 130 ⟨259,16,259,21⟩ (Es.cons (E.cst (V.int 14) ⟨259,22,259,24⟩) Es.nil) ⟨259,16,259,25⟩) (Ss.cons (S.ifs (E.bop false (Es.cons (E.not (E.call 128 ⟨260,15,260,24⟩ (Es.cons (E.var 37 ⟨260,25,260,28⟩) (Es.cons (E.var 34 ⟨260,30,260,35⟩) (Es.cons (E.var 127 ⟨260,37,260,41⟩) Es.nil))) ⟨260,15,260,42⟩) ⟨260,11,260,42⟩) (Es.cons (E.not (E.call 129 ⟨260,50,260,64⟩ (Es.cons (E.var 34 ⟨260,65,260,70⟩) (Es.cons (E.cst (V.int 0) ⟨260,72,260,73⟩) Es.nil)) ⟨260,50,260,74⟩) ⟨260,46,260,74⟩) (Es.cons (E.not (E.call 129 ⟨260,83,260,97⟩ (Es.cons (E.var 34 ⟨260,98,260,103⟩) (Es.cons (E.cst (V.int 1) ⟨260,105,260,106⟩) Es.nil)) ⟨260,83,260,107⟩) ⟨260,79,260,107⟩) Es.nil))) ⟨260,11,260,108⟩) (Ss.cons (S.ret (E.cst (V.bool false) ⟨261,19,261,24⟩) ⟨261,12,261,24⟩)
      Ss.nil) Ss.nil ⟨260,8,261,24⟩)
      Ss.nil) ⟨259,4,261,24⟩)
      (Ss.cons (S.fors 127 ⟨262,8,262,12⟩ (E.blt 130 ⟨262,16,262,21⟩ (Es.cons (E.cst (V.int 20) ⟨262,22,262,24⟩) Es.nil) ⟨262,16,262,25⟩) (Ss.cons (S.fors 35 ⟨263,12,263,15⟩ (E.tup (Es.cons (E.cst (V.int 0) ⟨263,20,263,21⟩) (Es.cons (E.cst (V.int 1) ⟨263,23,263,24⟩) Es.nil)) ⟨263,19,263,25⟩) (Ss.cons (S.ifs (E.bop false (Es.cons (E.not (E.call 117 ⟨264,19,264,29⟩ (Es.cons (E.var 34 ⟨264,30,264,35⟩) (Es.cons (E.var 35 ⟨264,37,264,40⟩) Es.nil)) ⟨264,19,264,41⟩) ⟨264,15,264,41⟩) (Es.cons (E.not (E.call 129 ⟨264,49,264,63⟩ (Es.cons (E.var 34 ⟨264,64,264,69⟩) (Es.cons (E.cst (V.int 0) ⟨264,71,264,72⟩) Es.nil)) ⟨264,49,264,73⟩) ⟨264,45,264,73⟩) (Es.cons (E.not (E.call 129 ⟨264,82,264,96⟩ (Es.cons (E.var 34 ⟨264,97,264,102⟩) (Es.cons (E.cst (V.int 1) ⟨264,104,264,105⟩) Es.nil)) ⟨264,82,264,106⟩) ⟨264,78,264,106⟩) Es.nil))) ⟨264,15,264,107⟩) (Ss.cons (S.ret (E.cst (V.bool false) ⟨265,23,265,28⟩) ⟨265,16,265,28⟩)
      Ss.nil) Ss.nil ⟨264,12,265,28⟩)
      Ss.nil) ⟨263,8,265,28⟩)
      Ss.nil) ⟨262,4,265,28⟩)
      (Ss.cons (S.ifs (E.cmp PySem.CmpOp.Eq (E.sub (E.sub (E.var 34 ⟨266,7,266,12⟩) (E.cst (V.sym 27) ⟨266,13,266,19⟩) ⟨266,7,266,20⟩) (E.cst (V.sym 28) ⟨266,21,266,27⟩) ⟨266,7,266,28⟩) (E.lst (Es.cons (E.cst (V.bool false) ⟨266,33,266,38⟩) (Es.cons (E.cst (V.bool false) ⟨266,40,266,45⟩) Es.nil)) ⟨266,32,266,46⟩) ⟨266,7,266,46⟩) (Ss.cons (S.ret (E.cst (V.bool true) ⟨267,15,267,19⟩) ⟨267,8,267,19⟩)
      Ss.nil) Ss.nil ⟨266,4,267,19⟩)
      (Ss.cons (S.ret (E.bop true (Es.cons (E.cmp PySem.CmpOp.Eq (E.sub (E.var 34 ⟨268,11,268,16⟩) (E.cst (V.sym 25) ⟨268,17,268,25⟩) ⟨268,11,268,26⟩) (E.lst (Es.cons (E.cst (V.sym 5) ⟨268,31,268,44⟩) (Es.cons (E.cst (V.sym 5) ⟨268,46,268,59⟩) Es.nil)) ⟨268,30,268,60⟩) ⟨268,11,268,60⟩) (Es.cons (E.cmp PySem.CmpOp.Eq (E.sub (E.sub (E.var 34 ⟨268,65,268,70⟩) (E.cst (V.sym 27) ⟨268,71,268,77⟩) ⟨268,65,268,78⟩) (E.cst (V.sym 29) ⟨268,79,268,84⟩) ⟨268,65,268,85⟩) (E.lst (Es.cons (E.lst Es.nil ⟨268,90,268,92⟩) (Es.cons (E.lst Es.nil ⟨268,94,268,96⟩) Es.nil)) ⟨268,89,268,97⟩) ⟨268,65,268,97⟩) Es.nil)) ⟨268,11,268,97⟩) ⟨268,4,268,97⟩)
      Ss.nil)))))))
noncomputable def f_law : FD := { name := 131, ps := [(39, ⟨255,8,255,14⟩)], names := [(39, true), (37, true), (34, true), (127, true), (35, true), (51, false), (109, false), (108, false), (130, false), (128, false), (129, false), (117, false)], fast := [], body := b_law }
noncomputable def ftabL : List (Nat × FD) := [(56, f_session_end), (61, f_fault_note), (64, f_open_goes), (68, f_open_taken), (69, f_again_hold), (77, f_from_idle), (87, f_ahead_of_open), (88, f_from_connect), (91, f_from_active), (96, f_behind_open), (98, f_from_open_sent), (101, f_from_open_confirm), (103, f_from_established), (104, f_bgp_next), (108, f_law_draw), (109, f_law_new_line), (110, f_law_said), (112, f_law_timer), (116, f_law_happens), (117, f_law_comes), (119, f_law_joined), (120, f_law_broken), (122, f_law_begun), (128, f_law_deed), (129, f_law_end_right), (131, f_law)]
noncomputable def lkF : List (Nat × FD) → Nat → Option FD
  | [], _ => none
  | (k, d) :: r, f => match Nat.beq k f with
    | true => some d
    | false => lkF r f
noncomputable def ftab (f : Nat) : Option FD := lkF ftabL f
theorem lkF_in : ∀ {l : List (Nat × FD)} {f : Nat} {d : FD}, lkF l f = some d → (f, d) ∈ l
  | [], _, _, e => by cases e
  | (k, u) :: l, f, d, e => by
    unfold lkF at e
    split at e
    · rename_i hb; cases e; rw [Nat.eq_of_beq_eq_true hb]; exact .head _
    · exact .tail _ (lkF_in e)
theorem ftab_in {f : Nat} {d : FD} (h : ftab f = some d) : (f, d) ∈ ftabL := lkF_in h
noncomputable def gval : List (Nat × V) := [(44, V.sym 0), (75, V.sym 1), (73, V.sym 2), (85, V.sym 3), (66, V.sym 4), (100, V.sym 5), (74, V.gref 74), (70, V.gref 70), (94, V.gref 94), (97, V.gref 97), (90, V.gref 90), (95, V.gref 95), (93, V.gref 93)]
noncomputable def gtab : List (Nat × List V) := [(74, [(V.sym 15), (V.sym 132)]), (70, [(V.sym 16), (V.sym 133)]), (94, [(V.sym 9), (V.int 4), (V.int 0), V.byt]), (97, [(V.sym 9), (V.int 5), (V.int 0), V.byt]), (90, [(V.sym 9), (V.int 6), (V.int 2), V.byt]), (95, [(V.sym 9), (V.int 6), (V.int 0), V.byt]), (93, [(V.sym 9), (V.int 6), (V.int 7), V.byt])]
noncomputable def catT : List (Nat × Nat × Nat) := [(10, 124, 22), (11, 124, 21), (12, 124, 23), (7, 124, 24)]
abbrev n_append : Nat := 48
abbrev n_pop : Nat := 111
abbrev n_len : Nat := 106
abbrev n_list : Nat := 51
abbrev n_tuple : Nat := 42
abbrev n_sorted : Nat := 126
abbrev n_abs : Nat := 107
abbrev n_range : Nat := 130
abbrev n_draw : Nat := 108
abbrev n_said : Nat := 110
abbrev n_timer : Nat := 112
abbrev n_happens : Nat := 116
abbrev n_comes : Nat := 117
abbrev n_joined : Nat := 119
abbrev n_broken : Nat := 120
abbrev n_begun : Nat := 122
abbrev n_deed : Nat := 128
abbrev n_endright : Nat := 129
abbrev n_newline : Nat := 109
abbrev n_law : Nat := 131
abbrev n_next : Nat := 104

noncomputable def tb (k : Nat) : Str := match tbl[k]? with
  | some s => s
  | none => Str.mk #[2000000 + k]

noncomputable def cOf : V → Const
  | .none => .none
  | .bool b => .bool b
  | .int i => .int i
  | .sym k => .str (tb k)
  | .byt => .bytes []
  | _ => .none
noncomputable def cstStr (k : Nat × Pos) : Expr := .Constant (.str (tb k.1)) 0 k.2
mutual
noncomputable def emb : E → Expr
  | .cst c p => .Constant (cOf c) 0 p
  | .var x p => .Name (tb x) p
  | .glo x p => .Name (tb x) p
  | .bop a es p => .BoolOp (match a with | true => .And | false => .Or) (embs es) p
  | .bin op l r p => .BinOp (emb l) op (emb r) p
  | .not x p => .UnaryOp .Not (emb x) p
  | .ife t a b p => .IfExp (emb t) (emb a) (emb b) p
  | .dic ks vs p => .Dict (ks.map fun k => some (cstStr k)) (embs vs) p
  | .cmp op l r p => .Compare (emb l) [op] [emb r] p
  | .call f np as p => .Call (.Name (tb f) np) (embs as) [] p
  | .blt f np as p => .Call (.Name (tb f) np) (embs as) [] p
  | .meth o n as ap p => .Call (.Attribute (emb o) (tb n) ap) (embs as) [] p
  | .sub v i p => .Subscript (emb v) (emb i) p
  | .slc v hi sp p => .Subscript (emb v) (.Slice none (some (emb hi)) none sp) p
  | .lst es p => .List (embs es) p
  | .tup es p => .Tuple (embs es) 0 p
  | .dcm x src ks pk pv pt pl ptp pc p => .DictComp (.Name (tb x) pk) (.Constant (.bool true) 0 pv)
      [{ target := .Name (tb x) pt, iter := emb src, ifs := [.Compare (.Name (tb x) pl) [.In] [.Tuple (ks.map cstStr) 0 ptp] pc], is_async := 0 }]
      { kind := .function, names := [(Str.ofString ".0", .local), (tb x, .local)], isGenerator := false, isCoroutine := false, more := [] } p
noncomputable def embs : Es → List Expr
  | .nil => []
  | .cons e r => emb e :: embs r
end
noncomputable def embT : T → Expr
  | .name x p => .Name (tb x) p
  | .sub o i p => .Subscript (emb o) (emb i) p
mutual
noncomputable def embS : S → Stmt
  | .ret e p => .Return (some (emb e)) p
  | .expr e p => .Expr (emb e) p
  | .asg t e p => .Assign [embT t] (emb e) p
  | .asgT ts tp e p => .Assign [.Tuple (ts.map embT) 0 tp] (emb e) p
  | .ifs t a b p => .If (emb t) (embSs a) (embSs b) p
  | .fors x xp it body p => .For (.Name (tb x) xp) (emb it) (embSs body) [] p
noncomputable def embSs : Ss → List Stmt
  | .nil => []
  | .cons s r => embS s :: embSs r
end
noncomputable def kindB : Bool → NameKind
  | true => .local
  | false => .globalImplicit
noncomputable def scopeOf (f : FD) : Scope := { kind := .function, names := f.names.map fun n => (tb n.1, kindB n.2), isGenerator := false, isCoroutine := false, more := f.fast.map fun n => (Str.ofString "fast", .str (tb n)) }
noncomputable def argsOf (f : FD) : Arguments := { posonlyargs := [], args := f.ps.map fun a => { arg := tb a.1, annotation := none, pos := a.2 }, vararg := none, kwonlyargs := [], kw_defaults := [], kwarg := none, defaults := [] }

end Mine
namespace Mine
open PySem

structure St where
  objs : List O
  lc : List (Nat × V)
  fd : FD
inductive Fl where
  | next
  | ret (v : V)

noncomputable def lk {α : Type} : List (Nat × α) → Nat → Option α
  | [], _ => none
  | (k, v) :: r, x => match Nat.beq k x with
    | true => some v
    | false => lk r x
noncomputable def put {α : Type} : List (Nat × α) → Nat → α → List (Nat × α)
  | [], x, v => [(x, v)]
  | (k, u) :: r, x, v => match Nat.beq k x with
    | true => (k, v) :: r
    | false => (k, u) :: put r x v
noncomputable def memN : List Nat → Nat → Bool
  | [], _ => false
  | y :: r, x => match Nat.beq y x with
    | true => true
    | false => memN r x
noncomputable def addK (xs : List Nat) (k : Nat) : List Nat := match memN xs k with
  | true => xs
  | false => xs ++ [k]
noncomputable def delK (xs : List Nat) (k : Nat) : List Nat := xs.filter fun y => !(Nat.beq y k)

noncomputable def nth {α : Type} : List α → Nat → Option α
  | [], _ => none
  | a :: _, 0 => some a
  | _ :: r, n + 1 => nth r n
noncomputable def obj (σ : St) : V → Option O
  | .ref l => nth σ.objs l
  | .gref k => (lk gtab k).map O.tuple
  | _ => none
noncomputable def items : O → Option (List V)
  | .list xs => some xs
  | .tuple xs => some xs
  | .syms _ xs => some (xs.map V.sym)
  | .nums xs => some (xs.map V.int)
  | _ => none
noncomputable def truth : V → Option Bool
  | .bool b => some b
  | _ => none
noncomputable def nonref : V → Bool
  | .ref _ => false
  | .gref _ => false
  | _ => true

noncomputable def ieq : Int → Int → Bool
  | .ofNat a, .ofNat b => Nat.beq a b
  | .negSucc a, .negSucc b => Nat.beq a b
  | _, _ => false
noncomputable def ilt : Int → Int → Bool
  | .ofNat a, .ofNat b => Nat.blt a b
  | .negSucc a, .negSucc b => Nat.blt b a
  | .ofNat _, .negSucc _ => false
  | .negSucc _, .ofNat _ => true
noncomputable def beqB : Bool → Bool → Bool
  | true, b => b
  | false, true => false
  | false, false => true
noncomputable def eqP : V → V → Option Bool
  | .sym a, .sym b => some (Nat.beq a b)
  | .int a, .int b => some (ieq a b)
  | .bool a, .bool b => some (beqB a b)
  | .int _, .sym _ => some false
  | .sym _, .int _ => some false
  | .none, .none => some true
  | _, _ => Option.none
noncomputable def eqN : V → V → Option Bool
  | .sym a, .sym b => some (Nat.beq a b)
  | .bool a, .bool b => some (beqB a b)
  | _, _ => none
noncomputable def tupO : O → Option (List V)
  | .tuple xs => some xs
  | _ => none
noncomputable def lstO : O → Option (List V)
  | .list xs => some xs
  | .syms _ xs => some (xs.map V.sym)
  | _ => none
noncomputable def eqL (f : V → V → Option Bool) : List V → List V → Option Bool
  | [], [] => some true
  | a :: as, b :: bs => match f a b, eqL f as bs with
    | some x, some y => some (x && y)
    | _, _ => none
  | _, _ => some false
noncomputable def eqO (f : V → V → Option Bool) (oa ob : O) : Option Bool := match tupO oa, tupO ob with
  | some xs, some ys => eqL f xs ys
  | none, none => (match lstO oa, lstO ob with
    | some xs, some ys => eqL f xs ys
    | _, _ => none)
  | _, _ => none
noncomputable def eqV (σ : St) : Nat → V → V → Option Bool
  | 0, a, b => eqP a b
  | n + 1, a, b => match eqP a b with
    | some r => some r
    | none => match obj σ a, obj σ b with
      | some oa, some ob => eqO (eqV σ n) oa ob
      | _, _ => none
noncomputable def okItem (σ : St) : V → Bool
  | .ref l => (match nth σ.objs l with | some .gone => false | some _ => true | none => false)
  | .gref k => (match lk gtab k with | some _ => true | none => false)
  | .any => false
  | _ => true
noncomputable def inL (σ : St) (a : V) : List V → Option Bool
  | [] => some false
  | y :: r => match okItem σ y, eqV σ 4 y a, inL σ a r with
    | true, some p, some q => some (p || q)
    | _, _, _ => none
noncomputable def inV (σ : St) (a b : V) : Option Bool := match obj σ b, a with
  | some (.syms _ xs), .sym k => some (memN xs k)
  | some (.tuple xs), a => inL σ a xs
  | some (.list xs), a => inL σ a xs
  | _, _ => none
noncomputable def isLoc (f : FD) (x : Nat) : Bool := match lk f.names x with | some true => true | _ => false
noncomputable def isGlob (f : FD) (x : Nat) : Bool := match lk f.names x with | some false => true | _ => false
noncomputable def small {α : Type} (xs : List α) : Bool := Nat.blt xs.length 1000

noncomputable def newO (o : O) (σ : St) (Q : V → St → Prop) : Prop := Q (.ref σ.objs.length) { σ with objs := σ.objs ++ [o] }
noncomputable def setO (l : Nat) (o : O) (σ : St) : St := { σ with objs := σ.objs.set l o }
noncomputable def setL (x : Nat) (v : V) (σ : St) (Q : St → Prop) : Prop := match isLoc σ.fd x with
  | true => Q { σ with lc := put σ.lc x v }
  | false => False

abbrev Hook := List V → St → (V → St → Prop) → Prop
structure Rec where
  ev : E → St → (V → St → Prop) → Prop
  evs : Es → St → (List V → St → Prop) → Prop
  dic : List (Nat × Pos) → Es → St → (List V → St → Prop) → Prop
  bopV : Bool → Es → St → (V → St → Prop) → Prop
  bopT : Bool → Es → St → (Bool → St → Prop) → Prop
  tst : E → St → (Bool → St → Prop) → Prop
  exs : Ss → St → (Fl → St → Prop) → Prop
  call : Nat → List V → St → (V → St → Prop) → Prop

noncomputable def getI (o : O) (i : V) : Option V := match o, i with
  | .dict es, .sym k => lk es k
  | o, .int (.ofNat n) => (match items o, Nat.blt n 2000000 with | some xs, true => nth xs n | _, _ => Option.none)
  | _, _ => Option.none
noncomputable def setI (l : Nat) (o : O) (i v : V) (σ : St) (Q : St → Prop) : Prop := match o, i with
  | .dict es, .sym k => (match small es with | true => Q (setO l (.dict (put es k v)) σ) | false => False)
  | .list xs, .int (.ofNat n) => (match Nat.blt n xs.length && small xs with | true => Q (setO l (.list (xs.set n v)) σ) | false => False)
  | .keys c xs, .sym k => (match v, Nat.blt c 1000 with | .bool true, true => Q (setO l (.keys (c + 1) (addK xs k)) σ) | _, _ => False)
  | _, _ => False

noncomputable def addT (xs ys : List V) (a b : V) (σ : St) (Q : V → St → Prop) : Prop := match xs, ys with
  | [], _ => Q b σ
  | _ :: _, [] => Q a σ
  | x :: xs, y :: ys => (match small (x :: xs) && small (y :: ys) with | true => newO (.tuple ((x :: xs) ++ (y :: ys))) σ Q | false => False)
noncomputable def fits : Int → Bool
  | .ofNat n => Nat.blt n 1000000
  | .negSucc _ => false
noncomputable def binop (op : Operator) (a b : V) (σ : St) (Q : V → St → Prop) : Prop := match op, a, b with
  | .Add, .int x, .int y => Q (.int (x + y)) σ
  | .Sub, .int x, .int y => Q (.int (x - y)) σ
  | .Mult, .int x, .int y => (fits x = true ∧ fits y = true) ∧ Q (.int (x * y)) σ
  | .FloorDiv, .int x, .int (.ofNat (n + 1)) => (match Nat.blt n 1000000 with | true => Q (.int (x.fdiv (.ofNat (n + 1)))) σ | false => False)
  | .Mod, .int x, .int (.ofNat (n + 1)) => Q (.int (x.fmod (.ofNat (n + 1)))) σ
  | .Add, .sym x, .sym y => (match catT.find? (fun t => Nat.beq t.1 x && Nat.beq t.2.1 y) with | some t => Q (.sym t.2.2) σ | none => False)
  | .Add, a, b => (match obj σ a, obj σ b with
    | some (.list xs), some (.list ys) => (match small xs && small ys with | true => newO (.list (xs ++ ys)) σ Q | false => False)
    | some (.tuple xs), some (.tuple ys) => addT xs ys a b σ Q
    | _, _ => False)
  | _, _, _ => False
noncomputable def isNone : V → Option Bool
  | .none => some true
  | .any => Option.none
  | _ => some false
noncomputable def cmpop (op : CmpOp) (a b : V) (σ : St) (Q : V → St → Prop) : Prop := match op with
  | .Eq => (match eqV σ 4 a b with | some r => Q (.bool r) σ | none => False)
  | .NotEq => (match eqN a b with | some r => Q (.bool (!r)) σ | none => False)
  | .In => (match inV σ a b with | some r => Q (.bool r) σ | none => False)
  | .NotIn => (match inV σ a b with | some r => Q (.bool (!r)) σ | none => False)
  | .Lt => (match a, b with | .int x, .int y => Q (.bool (ilt x y)) σ | _, _ => False)
  | .Gt => (match a, b with | .int x, .int y => Q (.bool (ilt y x)) σ | _, _ => False)
  | .Is => (match b, isNone a with | .none, some r => Q (.bool r) σ | _, _ => False)
  | .IsNot => (match b, isNone a with | .none, some r => Q (.bool (!r)) σ | _, _ => False)
  | _ => False

inductive MK where
  | app | pop | dpop
noncomputable def mkL (n : Nat) : Option MK := match Nat.beq n n_append, Nat.beq n n_pop with
  | true, _ => some .app
  | false, true => some .pop
  | false, false => none
noncomputable def mkind (n : Nat) : O → Option MK
  | .list _ => mkL n
  | .syms _ _ => mkL n
  | .keys _ _ => (match Nat.beq n n_pop with | true => some .dpop | false => none)
  | _ => none
noncomputable def m_app (l : Nat) (o : O) (v : V) (σ : St) (Q : V → St → Prop) : Prop := match o, v with
  | .list xs, v => (match small xs with | true => Q .none (setO l (.list (xs ++ [v])) σ) | false => False)
  | .syms c xs, .sym k => (match Nat.blt c 1000 with | true => Q .none (setO l (.syms (c + 1) (xs ++ [k])) σ) | false => False)
  | _, _ => False
noncomputable def m_pop (l : Nat) (o : O) (v : V) (σ : St) (Q : V → St → Prop) : Prop := match o, v with
  | .list (x :: xs), .int (.ofNat 0) => (match small xs with | true => Q x (setO l (.list xs) σ) | false => False)
  | .syms c (x :: xs), .int (.ofNat 0) => (match Nat.blt c 1000 with | true => Q (.sym x) (setO l (.syms c xs) σ) | false => False)
  | _, _ => False
noncomputable def m_dpop (l : Nat) (o : O) (as : List V) (σ : St) (Q : V → St → Prop) : Prop := match o, as with
  | .keys c xs, [.sym k, .none] => (match Nat.blt c 1000 with | true => Q .any (setO l (.keys c (delK xs k)) σ) | false => False)
  | .keys c xs, [.sym k] => (match Nat.blt c 1000, memN xs k with | true, true => Q (.bool true) (setO l (.keys c (delK xs k)) σ) | _, _ => False)
  | _, _ => False
noncomputable def method (k : MK) (ov : V) (as : List V) (σ : St) (Q : V → St → Prop) : Prop := match ov with
  | .ref l => (match nth σ.objs l with
    | some o => (match k, as with
      | .app, [v] => m_app l o v σ Q
      | .pop, [v] => m_pop l o v σ Q
      | .dpop, as => m_dpop l o as σ Q
      | _, _ => False)
    | none => False)
  | _ => False
noncomputable def bl_list (o : O) (σ : St) (Q : V → St → Prop) : Prop := match o with
  | .list xs => (match small xs with | true => newO (.list xs) σ Q | false => False)
  | .nums xs => newO (.nums xs) σ Q
  | _ => False
noncomputable def bl_tuple (o : O) (σ : St) (Q : V → St → Prop) : Prop := match o with
  | .list xs => (match small xs with | true => newO (.tuple xs) σ Q | false => False)
  | _ => False
noncomputable def bl_len (o : O) (σ : St) (Q : V → St → Prop) : Prop := match o with
  | .list xs => (match small xs with | true => Q (.int (.ofNat xs.length)) σ | false => False)
  | .syms c xs => (match Nat.blt c 1000 with | true => Q (.int (.ofNat xs.length)) σ | false => False)
  | .nums xs => Q (.int (.ofNat xs.length)) σ
  | _ => False
noncomputable def bl_sorted (o : O) (σ : St) (Q : V → St → Prop) : Prop := match o with
  | .keys c xs => (match Nat.blt c 60 with | true => (∀ ys : List Nat, ys.Perm xs → newO (.syms c ys) σ Q) | false => False)
  | _ => False
noncomputable def bl_abs (a : V) (σ : St) (Q : V → St → Prop) : Prop := match a with
  | .int i => Q (.int (if i < 0 then -i else i)) σ
  | _ => False
inductive BK where
  | list | tuple | len | sorted
noncomputable def bkind (f : Nat) : Option BK := match Nat.beq f n_list with
  | true => some .list
  | false => match Nat.beq f n_tuple with
    | true => some .tuple
    | false => match Nat.beq f n_len with
      | true => some .len
      | false => match Nat.beq f n_sorted with
        | true => some .sorted
        | false => none
noncomputable def builtO (k : BK) (o : O) (σ : St) (Q : V → St → Prop) : Prop := match k with
  | .list => bl_list o σ Q
  | .tuple => bl_tuple o σ Q
  | .len => bl_len o σ Q
  | .sorted => bl_sorted o σ Q
noncomputable def builtin (f : Nat) (as : List V) (σ : St) (Q : V → St → Prop) : Prop := match as with
  | [a] => (match Nat.beq f n_abs with
    | true => bl_abs a σ Q
    | false => match bkind f, obj σ a with
      | some k, some o => builtO k o σ Q
      | _, _ => False)
  | _ => False

noncomputable def evsStep (r : Rec) : Es → St → (List V → St → Prop) → Prop
  | .nil, σ, Q => Q [] σ
  | .cons e es, σ, Q => r.ev e σ fun v σ₁ => r.evs es σ₁ fun vs σ₂ => Q (v :: vs) σ₂
noncomputable def dicStep (r : Rec) : List (Nat × Pos) → Es → St → (List V → St → Prop) → Prop
  | [], .nil, σ, Q => Q [] σ
  | _ :: ks, .cons e es, σ, Q => r.ev e σ fun v σ₁ => r.dic ks es σ₁ fun vs σ₂ => Q (v :: vs) σ₂
  | _, _, _, _ => False
noncomputable def bopVStep (r : Rec) (a : Bool) : Es → St → (V → St → Prop) → Prop
  | .nil, _, _ => False
  | .cons e es, σ, Q => match es with
    | .nil => r.ev e σ Q
    | .cons _ _ => r.ev e σ fun v σ₁ => match truth v with
      | some b => (match beqB a b with | true => r.bopV a es σ₁ Q | false => Q v σ₁)
      | none => False
noncomputable def bopTStep (r : Rec) (a : Bool) : Es → St → (Bool → St → Prop) → Prop
  | .nil, σ, Q => Q a σ
  | .cons e es, σ, Q => r.tst e σ fun b σ₁ => match beqB a b with
    | true => r.bopT a es σ₁ Q
    | false => Q b σ₁
noncomputable def zipK : List (Nat × Pos) → List V → Option (List (Nat × V))
  | [], [] => some []
  | k :: ks, v :: vs => (match zipK ks vs with | some l => (match lk l k.1 with | none => some ((k.1, v) :: l) | some _ => none) | none => none)
  | _, _ => none
noncomputable def okGlob (σ : St) (x : Nat) (Q : Prop) : Prop := match isGlob σ.fd x with | true => Q | false => False

abbrev KV := V → St → Prop
noncomputable def ev_cst (c : V) (σ : St) (Q : KV) : Prop := match c with | .none => Q c σ | .bool _ => Q c σ | .int _ => Q c σ | .sym _ => Q c σ | .byt => Q c σ | _ => False
noncomputable def ev_var (x : Nat) (σ : St) (Q : KV) : Prop := match lk σ.lc x with | some v => Q v σ | none => False
noncomputable def ev_glo (x : Nat) (σ : St) (Q : KV) : Prop := okGlob σ x (match lk gval x with | some v => Q v σ | none => False)
noncomputable def ev_bin (r : Rec) (op : Operator) (l e : E) (σ : St) (Q : KV) : Prop := r.ev l σ fun a σ₁ => r.ev e σ₁ fun b σ₂ => binop op a b σ₂ Q
noncomputable def ev_ife (r : Rec) (t a b : E) (σ : St) (Q : KV) : Prop := r.tst t σ fun c σ₁ => match c with | true => r.ev a σ₁ Q | false => r.ev b σ₁ Q
noncomputable def lenEs : Es → Nat
  | .nil => 0
  | .cons _ r => lenEs r + 1
noncomputable def ev_dic (r : Rec) (ks : List (Nat × Pos)) (vs : Es) (σ : St) (Q : KV) : Prop := match ks, vs with
  | [], .nil => newO (.dict []) σ Q
  | k :: ks, .cons e es => (match Nat.blt ks.length 10 && Nat.beq ks.length (lenEs es) with
    | true => r.dic (k :: ks) (.cons e es) σ fun xs σ₁ => match zipK (k :: ks) xs with | some es => newO (.dict es) σ₁ Q | none => False
    | false => False)
  | _, _ => False
noncomputable def ev_cmp (r : Rec) (op : CmpOp) (l e : E) (σ : St) (Q : KV) : Prop := r.ev l σ fun a σ₁ => r.ev e σ₁ fun b σ₂ => cmpop op a b σ₂ Q
noncomputable def isDef (f : Nat) : Bool := match ftab f with | some _ => true | none => false
noncomputable def ev_call (r : Rec) (f : Nat) (as : Es) (σ : St) (Q : KV) : Prop := match isDef f with | false => False | true => okGlob σ f (r.evs as σ fun vs σ₁ => r.call f vs σ₁ Q)
noncomputable def isOne : Es → Bool
  | .cons _ .nil => true
  | _ => false
noncomputable def isBlt (f : Nat) : Bool := match bkind f with | some _ => true | none => Nat.beq f n_abs
noncomputable def ev_blt (r : Rec) (f : Nat) (as : Es) (σ : St) (Q : KV) : Prop := match isOne as && isBlt f with | false => False | true => okGlob σ f (r.evs as σ fun vs σ₁ => builtin f vs σ₁ Q)
noncomputable def methOk (o : E) (as : Es) (ap p : Pos) : Bool := Nat.beq ap.endLine p.line && (match o with | .var _ _ => true | .sub _ _ _ => true | _ => false) && (match as with | .cons _ .nil => true | .cons _ (.cons _ .nil) => true | _ => false)
noncomputable def ev_meth (r : Rec) (o : E) (n : Nat) (as : Es) (ap p : Pos) (σ : St) (Q : KV) : Prop := match methOk o as ap p with
  | false => False
  | true => r.ev o σ fun ov σ₁ => match (obj σ₁ ov).bind (mkind n) with
    | some k => r.evs as σ₁ fun vs σ₂ => method k ov vs σ₂ Q
    | none => False
noncomputable def numsI (xs : List Int) (b : V) (σ : St) (Q : KV) : Prop := match b with
  | .int (.ofNat n) => n < xs.length ∧ ∀ i : Int, Q (.int i) σ
  | _ => False
noncomputable def ev_sub (r : Rec) (v i : E) (σ : St) (Q : KV) : Prop := r.ev v σ fun a σ₁ => r.ev i σ₁ fun b σ₂ => match obj σ₂ a with
  | some (.nums xs) => numsI xs b σ₂ Q
  | some o => (match getI o b with | some x => Q x σ₂ | none => False)
  | none => False
noncomputable def isVar : E → Bool
  | .var _ _ => true
  | _ => false
noncomputable def ev_slc (r : Rec) (v hi : E) (σ : St) (Q : KV) : Prop := match isVar v with
  | false => False
  | true => r.ev v σ fun a σ₁ => r.ev hi σ₁ fun b σ₂ => match obj σ₂ a, b with
    | some (.syms c xs), .int (.ofNat n) => (match Nat.blt c 1000 && Nat.blt n 1000000 with | true => newO (.syms c (xs.take n)) σ₂ Q | false => False)
    | some (.nums xs), .int (.ofNat n) => (match Nat.blt n 1000000 with | true => newO (.nums (xs.take n)) σ₂ Q | false => False)
    | _, _ => False
noncomputable def ev_lst (r : Rec) (es : Es) (σ : St) (Q : KV) : Prop := r.evs es σ fun vs σ₁ => match small vs with | true => newO (.list vs) σ₁ Q | false => False
noncomputable def ev_tup (r : Rec) (es : Es) (σ : St) (Q : KV) : Prop := r.evs es σ fun vs σ₁ => match small vs with | true => newO (.tuple vs) σ₁ Q | false => False
noncomputable def filt (ks xs : List Nat) : List Nat := (xs.filter fun k => memN ks k).foldl addK []
noncomputable def ev_dcm (r : Rec) (src : E) (ks : List (Nat × Pos)) (σ : St) (Q : KV) : Prop := match Nat.blt ks.length 1000 with
  | false => False
  | true => r.ev src σ fun a σ₁ => match obj σ₁ a with
    | some (.keys c xs) => (match Nat.blt c 1000 with | true => newO (.keys c (filt (ks.map (·.1)) xs)) σ₁ Q | false => False)
    | _ => False
noncomputable def evStep (r : Rec) (e : E) (σ : St) (Q : KV) : Prop := match e with
  | .cst c _ => ev_cst c σ Q
  | .var x _ => ev_var x σ Q
  | .glo x _ => ev_glo x σ Q
  | .bop a es _ => r.bopV a es σ Q
  | .bin op l e _ => ev_bin r op l e σ Q
  | .not _ _ => False
  | .ife t a b _ => ev_ife r t a b σ Q
  | .dic ks vs _ => ev_dic r ks vs σ Q
  | .cmp op l e _ => ev_cmp r op l e σ Q
  | .call f _ as _ => ev_call r f as σ Q
  | .blt f _ as _ => ev_blt r f as σ Q
  | .meth o n as ap p => ev_meth r o n as ap p σ Q
  | .sub v i _ => ev_sub r v i σ Q
  | .slc v hi _ _ => ev_slc r v hi σ Q
  | .lst es _ => ev_lst r es σ Q
  | .tup es _ => ev_tup r es σ Q
  | .dcm _ src ks _ _ _ _ _ _ _ => ev_dcm r src ks σ Q
noncomputable def tst_cmp (r : Rec) (op : CmpOp) (l e : E) (σ : St) (Q : Bool → St → Prop) : Prop := r.ev l σ fun a σ₁ => r.ev e σ₁ fun b σ₂ => cmpop op a b σ₂ fun v σ₃ => match truth v with | some b => Q b σ₃ | none => False
noncomputable def tst_val (r : Rec) (e : E) (σ : St) (Q : Bool → St → Prop) : Prop := r.ev e σ fun v σ₁ => match truth v with | some b => Q b σ₁ | none => False
noncomputable def tst_not (r : Rec) (e : E) (σ : St) (Q : Bool → St → Prop) : Prop := r.tst e σ fun b σ₁ => Q (!b) σ₁
noncomputable def tstStep (r : Rec) (e : E) (σ : St) (Q : Bool → St → Prop) : Prop := match e with
  | .not x _ => tst_not r x σ Q
  | .bop a es _ => r.bopT a es σ Q
  | .ife _ _ _ _ => False
  | .cmp op l e _ => tst_cmp r op l e σ Q
  | .var x p => tst_val r (.var x p) σ Q
  | .call f np as p => tst_val r (.call f np as p) σ Q
  | .sub v i p => tst_val r (.sub v i p) σ Q
  | _ => False
noncomputable def asg1 (r : Rec) (t : T) (v : V) (σ : St) (Q : St → Prop) : Prop := match t with
  | .name x _ => setL x v σ Q
  | .sub o i _ => r.ev o σ fun ov σ₁ => r.ev i σ₁ fun iv σ₂ => match ov, obj σ₂ ov with | .ref l, some ob => setI l ob iv v σ₂ Q | _, _ => False
noncomputable def asgs (r : Rec) : List T → List V → St → (St → Prop) → Prop
  | [], [], σ, Q => Q σ
  | t :: ts, v :: vs, σ, Q => asg1 r t v σ fun σ₁ => asgs r ts vs σ₁ Q
  | _, _, _, _ => False
/-- a pair of two names of one line to a display of two: stored from behind -/
noncomputable def namesOf : List T → Option (List Nat)
  | [] => some []
  | .name x _ :: r => (match namesOf r with | some l => some (x :: l) | none => none)
  | .sub _ _ _ :: _ => none
noncomputable def isTup : E → Bool
  | .tup _ _ => true
  | _ => false
noncomputable def deepFirst : E → Bool
  | .tup (.cons (.sub (.sub (.var _ _) _ _) _ _) (.cons _ .nil)) _ => true
  | _ => false
noncomputable def twoNames : List T → Bool
  | [.name x p, .name y q] => !(Nat.beq x y) && Nat.beq p.line q.line
  | _ => false
noncomputable def okTup (ts : List T) (e : E) : Bool := match isTup e with
  | false => true
  | true => (match namesOf ts with | none => true | some _ => deepFirst e && twoNames ts)
noncomputable def loopV (r : Rec) (x : Nat) (body : Ss) : List V → St → (Fl → St → Prop) → Prop
  | [], σ, Q => Q .next σ
  | v :: vs, σ, Q => setL x v σ fun σ₁ => r.exs body σ₁ fun fl σ₂ => match fl with
    | .next => loopV r x body vs σ₂ Q
    | .ret u => Q (.ret u) σ₂
noncomputable def upto (n : Nat) : List V := (List.range n).map fun i => V.int (.ofNat i)
noncomputable def rangeOf : E → Option Nat
  | .blt f _ (.cons (.cst (.int (.ofNat n)) _) .nil) _ => (match Nat.beq f n_range with | true => some n | false => none)
  | _ => none
abbrev KF := Fl → St → Prop
noncomputable def ex_ret (r : Rec) (e : E) (σ : St) (Q : KF) : Prop := r.ev e σ fun v σ₁ => Q (.ret v) σ₁
noncomputable def isMeth : E → Bool
  | .meth _ _ _ _ _ => true
  | .call _ _ _ _ => true
  | _ => false
noncomputable def isDcm : E → Bool
  | .dcm _ _ _ _ _ _ _ _ _ _ => true
  | _ => false
noncomputable def isNameT : T → Bool
  | .name _ _ => true
  | _ => false
noncomputable def ex_expr (r : Rec) (e : E) (σ : St) (Q : KF) : Prop := match isMeth e with
  | false => False
  | true => r.ev e σ fun v σ₁ => match nonref v with | true => Q .next σ₁ | false => False
noncomputable def ex_asg (r : Rec) (t : T) (e : E) (σ : St) (Q : KF) : Prop := match isNameT t && isDcm e with
  | true => False
  | false => r.ev e σ fun v σ₁ => asg1 r t v σ₁ fun σ₂ => Q .next σ₂
noncomputable def ex_asgT (r : Rec) (ts : List T) (e : E) (σ : St) (Q : KF) : Prop := match okTup ts e with
    | true => r.ev e σ fun v σ₁ => (match obj σ₁ v with | some (.tuple xs) => (match Nat.beq ts.length xs.length with | true => asgs r ts xs σ₁ fun σ₂ => Q .next σ₂ | false => False) | _ => False)
    | false => False
noncomputable def ex_ifs (r : Rec) (t : E) (a b : Ss) (σ : St) (Q : KF) : Prop := r.tst t σ fun c σ₁ => match c with | true => r.exs a σ₁ Q | false => r.exs b σ₁ Q
noncomputable def ex_fors (r : Rec) (x : Nat) (it : E) (body : Ss) (σ : St) (Q : KF) : Prop := match rangeOf it with
    | some n => (match Nat.blt n 1000 with | true => okGlob σ n_range (loopV r x body (upto n) σ Q) | false => False)
    | none => r.ev it σ fun v σ₁ => match obj σ₁ v with | some (.tuple xs) => loopV r x body xs σ₁ Q | _ => False
noncomputable def exStep (r : Rec) (s : S) (σ : St) (Q : KF) : Prop := match s with
  | .ret e _ => ex_ret r e σ Q
  | .expr e _ => ex_expr r e σ Q
  | .asg t e _ => ex_asg r t e σ Q
  | .asgT ts _ e _ => ex_asgT r ts e σ Q
  | .ifs t a b _ => ex_ifs r t a b σ Q
  | .fors x _ it body _ => ex_fors r x it body σ Q
noncomputable def exsStep (r : Rec) : Ss → St → (Fl → St → Prop) → Prop
  | .nil, σ, Q => Q .next σ
  | .cons s rest, σ, Q => exStep r s σ fun fl σ₁ => match fl with
    | .next => r.exs rest σ₁ Q
    | .ret v => Q (.ret v) σ₁
noncomputable def bindP : List (Nat × Pos) → List V → Option (List (Nat × V))
  | [], [] => some []
  | p :: ps, v :: vs => (match bindP ps vs with | some l => some ((p.1, v) :: l) | none => none)
  | _, _ => none
noncomputable def callStep (H : Nat → Option Hook) (r : Rec) (f : Nat) (vs : List V) (σ : St) (Q : V → St → Prop) : Prop := match H f with
  | some h => h vs σ Q
  | none => match ftab f with
    | some fd => (match bindP fd.ps vs with
      | some lc => r.exs fd.body { σ with lc := lc, fd := fd } fun fl σ₁ => match fl with
        | .next => Q .none { σ₁ with lc := σ.lc, fd := σ.fd }
        | .ret v => Q v { σ₁ with lc := σ.lc, fd := σ.fd }
      | none => False)
    | none => False
noncomputable def rec0 : Rec := ⟨fun _ _ _ => False, fun _ _ _ => False, fun _ _ _ _ => False, fun _ _ _ _ => False, fun _ _ _ _ => False, fun _ _ _ => False, fun _ _ _ => False, fun _ _ _ _ => False⟩
noncomputable def stepR (H : Nat → Option Hook) (r : Rec) : Rec := ⟨evStep r, evsStep r, dicStep r, bopVStep r, bopTStep r, tstStep r, exsStep r, callStep H r⟩
noncomputable def run (H : Nat → Option Hook) (n : Nat) : Rec := @Nat.rec (fun _ => Rec) rec0 (fun _ r => stepR H r) n
noncomputable def noH : Nat → Option Hook := fun _ => none

end Mine
namespace Mine
open PySem

abbrev pg : Program := PySem.Challenge.pw_sz0114_01

structure Cx where
  w : World
  base : Heap
  fa : Nat → Addr
  ga : Nat → Addr

inductive VR (C : Cx) (ρ : Nat → Addr) (N : Nat) : V → Value → Prop where
  | none : VR C ρ N .none .none
  | bool (b : Bool) : VR C ρ N (.bool b) (.bool b)
  | int (i : Int) (t : Tok) : VR C ρ N (.int i) (.int i t)
  | sym (k : Nat) (t : Tok) : VR C ρ N (.sym k) (.str (tb k) t)
  | byt (t : Tok) : VR C ρ N .byt (.bytes #[] t)
  | ref (l : Nat) : l < N → VR C ρ N (.ref l) (.ref (ρ l))
  | gref (k : Nat) : VR C ρ N (.gref k) (.ref (C.ga k))
  | anyB (b : Bool) : VR C ρ N .any (.bool b)
  | anyN : VR C ρ N .any .none

noncomputable def VRs (C : Cx) (ρ : Nat → Addr) (N : Nat) : List V → List Value → Prop
  | [], [] => True
  | a :: as, v :: vs => VR C ρ N a v ∧ VRs C ρ N as vs
  | _, _ => False
noncomputable def ERs (C : Cx) (ρ : Nat → Addr) (N : Nat) : List (Nat × V) → List (Str × Value) → Prop
  | [], [] => True
  | a :: as, v :: vs => (v.1 = tb a.1 ∧ VR C ρ N a.2 v.2) ∧ ERs C ρ N as vs
  | _, _ => False

noncomputable def OR (C : Cx) (ρ : Nat → Addr) (N : Nat) : O → Obj → Prop
  | .list xs, ob => ∃ vs n, ob = { cls := .type "list", data := .seq vs n } ∧ VRs C ρ N xs vs.toList
  | .tuple xs, ob => ∃ vs n, ob = { cls := .type "tuple", data := .seq vs n } ∧ VRs C ρ N xs vs.toList
  | .syms c xs, ob => (∃ vs n, ob = { cls := .type "list", data := .seq vs n } ∧ VRs C ρ N (xs.map V.sym) vs.toList) ∧ xs.length ≤ c
  | .nums xs, ob => (∃ vs n, ob = { cls := .type "list", data := .seq vs n } ∧ VRs C ρ N (xs.map V.int) vs.toList) ∧ xs.length ≤ 1048576
  | .dict es, ob => ∃ kvs, ob.IsDictOf (PySem.strKind pg C.w) kvs ∧ ERs C ρ N es kvs
  | .keys c xs, ob => (∃ kvs, ob.IsDictOf (PySem.strKind pg C.w) kvs ∧ ERs C ρ N (xs.map fun k => (k, V.bool true)) kvs) ∧ xs.length ≤ c
  | .gone, _ => True
noncomputable def live : O → Bool
  | .gone => false
  | _ => true

/-- l stands for the live object o -/
noncomputable def Has (σ : St) (l : Nat) (o : O) : Prop := nth σ.objs l = some o ∧ live o = true

structure Rep (C : Cx) (L : Addr) (ρ : Nat → Addr) (σ : St) (h : Heap) : Prop where
  base : ∀ b o, C.base.get? b = some o → h.get? b = some o
  above : C.base.objs.size ≤ L
  obj : ∀ l o, Has σ l o → ∃ ob, h.get? (ρ l) = some ob ∧ OR C ρ σ.objs.length o ob ∧ C.base.objs.size ≤ ρ l ∧ ρ l ≠ L
  inj : ∀ l l' o o', Has σ l o → Has σ l' o' → ρ l = ρ l' → l = l'
  ns : ∃ m, h.Ns L m ∧ ∀ x v, lk σ.lc x = some v → isLoc σ.fd x = true ∧ ∃ u, m (tb x) = some u ∧ VR C ρ σ.objs.length v u

structure Pst (C : Cx) (L : Addr) (ρ : Nat → Addr) (σ : St) (h : Heap) (ρ' : Nat → Addr) (σ' : St) (h' : Heap) : Prop where
  rep : Rep C L ρ' σ' h'
  agr : ∀ l, l < σ.objs.length → ρ' l = ρ l
  len : σ.objs.length ≤ σ'.objs.length
  kp : ∀ b o, h.get? b = some o → b ≠ L → (∀ l o', Has σ l o' → ρ l ≠ b) → h'.get? b = some o
  fr : ∀ l o, Has σ' l o → (∃ l₀ o₀, Has σ l₀ o₀ ∧ ρ l₀ = ρ' l) ∨ h.get? (ρ' l) = none
  tup : ∀ l xs, nth σ.objs l = some (.tuple xs) → nth σ'.objs l = some (.tuple xs)
  fd : σ'.fd = σ.fd

theorem nth_append {α : Type} : ∀ (xs : List α) (o : α) (l : Nat), nth (xs ++ [o]) l = if l = xs.length then some o else nth xs l
  | [], o, 0 => rfl
  | [], o, l + 1 => by simp [nth]
  | a :: r, o, 0 => by simp [nth]
  | a :: r, o, l + 1 => by
    show nth (r ++ [o]) l = _
    rw [nth_append r o l]
    simp [nth]
theorem nth_lt {α : Type} : ∀ {xs : List α} {l : Nat} {o : α}, nth xs l = some o → l < xs.length
  | [], _, _, h => by cases h
  | a :: r, 0, _, _ => by simp
  | a :: r, l + 1, _, h => by have := nth_lt (xs := r) h; simp; exact this
theorem nth_set {α : Type} : ∀ (xs : List α) (i l : Nat) (o : α), nth (xs.set i o) l = if l = i ∧ l < xs.length then some o else nth xs l
  | [], i, l, o => by simp [nth]
  | a :: r, 0, 0, o => by simp [nth]
  | a :: r, 0, l + 1, o => by simp [nth]
  | a :: r, i + 1, 0, o => by simp [nth]
  | a :: r, i + 1, l + 1, o => by
    show nth (r.set i o) l = _
    rw [nth_set r i l o]
    simp [nth]
theorem nth_eq {α : Type} : ∀ (xs : List α) (l : Nat), nth xs l = xs[l]?
  | [], l => by simp [nth]
  | a :: r, 0 => by simp [nth]
  | a :: r, l + 1 => by simp [nth, nth_eq r l]

section
variable {C : Cx} {ρ ρ' : Nat → Addr} {N N' : Nat}
theorem VR.mono {a : V} {v : Value} (h : VR C ρ N a v) (hg : ∀ l, l < N → ρ' l = ρ l) (hn : N ≤ N') : VR C ρ' N' a v := by
  cases h with
  | ref l hl => rw [← hg l hl]; exact .ref l (Nat.lt_of_lt_of_le hl hn)
  | none => exact .none
  | bool b => exact .bool b
  | int i t => exact .int i t
  | sym k t => exact .sym k t
  | byt t => exact .byt t
  | gref k => exact .gref k
  | anyB b => exact .anyB b
  | anyN => exact .anyN
theorem VRs.mono : ∀ {as : List V} {vs : List Value}, VRs C ρ N as vs → (∀ l, l < N → ρ' l = ρ l) → N ≤ N' → VRs C ρ' N' as vs
  | [], [], _, _, _ => trivial
  | _ :: _, _ :: _, h, hg, hn => ⟨h.1.mono hg hn, VRs.mono h.2 hg hn⟩
  | [], _ :: _, h, _, _ => h.elim
  | _ :: _, [], h, _, _ => h.elim
theorem ERs.mono : ∀ {as : List (Nat × V)} {vs : List (Str × Value)}, ERs C ρ N as vs → (∀ l, l < N → ρ' l = ρ l) → N ≤ N' → ERs C ρ' N' as vs
  | [], [], _, _, _ => trivial
  | _ :: _, _ :: _, h, hg, hn => ⟨⟨h.1.1, h.1.2.mono hg hn⟩, ERs.mono h.2 hg hn⟩
  | [], _ :: _, h, _, _ => h.elim
  | _ :: _, [], h, _, _ => h.elim
theorem OR.mono {o : O} {ob : Obj} (h : OR C ρ N o ob) (hg : ∀ l, l < N → ρ' l = ρ l) (hn : N ≤ N') : OR C ρ' N' o ob := by
  cases o with
  | list xs => obtain ⟨vs, n, e, r⟩ := h; exact ⟨vs, n, e, r.mono hg hn⟩
  | tuple xs => obtain ⟨vs, n, e, r⟩ := h; exact ⟨vs, n, e, r.mono hg hn⟩
  | syms c xs => obtain ⟨⟨vs, n, e, r⟩, q⟩ := h; exact ⟨⟨vs, n, e, r.mono hg hn⟩, q⟩
  | nums xs => obtain ⟨⟨vs, n, e, r⟩, q⟩ := h; exact ⟨⟨vs, n, e, r.mono hg hn⟩, q⟩
  | dict es => obtain ⟨kvs, e, r⟩ := h; exact ⟨kvs, e, r.mono hg hn⟩
  | keys c xs => obtain ⟨⟨kvs, e, r⟩, q⟩ := h; exact ⟨⟨kvs, e, r.mono hg hn⟩, q⟩
  | gone => trivial
theorem VRs.length : ∀ {as : List V} {vs : List Value}, VRs C ρ N as vs → as.length = vs.length
  | [], [], _ => rfl
  | _ :: _, _ :: _, h => by simp [VRs.length h.2]
  | [], _ :: _, h => h.elim
  | _ :: _, [], h => h.elim
theorem ERs.length : ∀ {as : List (Nat × V)} {vs : List (Str × Value)}, ERs C ρ N as vs → as.length = vs.length
  | [], [], _ => rfl
  | _ :: _, _ :: _, h => by simp [ERs.length h.2]
  | [], _ :: _, h => h.elim
  | _ :: _, [], h => h.elim
theorem VRs.nth : ∀ {as : List V} {vs : List Value} {i : Nat} {a : V}, VRs C ρ N as vs → nth as i = some a → ∃ v, vs[i]? = some v ∧ VR C ρ N a v
  | [], [], _, _, _, h => by cases h
  | a :: as, v :: vs, 0, _, h, e => by cases e; exact ⟨v, rfl, h.1⟩
  | a :: as, v :: vs, i + 1, x, h, e => by
    obtain ⟨u, h1, h2⟩ := VRs.nth (as := as) (vs := vs) (i := i) h.2 e
    exact ⟨u, by simpa using h1, h2⟩
  | [], _ :: _, _, _, h, _ => h.elim
  | _ :: _, [], _, _, h, _ => h.elim
theorem VRs.append : ∀ {as bs : List V} {vs us : List Value}, VRs C ρ N as vs → VRs C ρ N bs us → VRs C ρ N (as ++ bs) (vs ++ us)
  | [], _, [], _, _, h => h
  | _ :: _, _, _ :: _, _, h, q => ⟨h.1, VRs.append h.2 q⟩
  | [], _, _ :: _, _, h, _ => h.elim
  | _ :: _, _, [], _, h, _ => h.elim
theorem VRs.set : ∀ {as : List V} {vs : List Value} {i : Nat} {a : V} {v : Value}, VRs C ρ N as vs → VR C ρ N a v → VRs C ρ N (as.set i a) (vs.set i v)
  | [], [], _, _, _, _, _ => trivial
  | _ :: _, _ :: _, 0, _, _, h, q => ⟨q, h.2⟩
  | _ :: _, _ :: _, i + 1, _, _, h, q => ⟨h.1, VRs.set (i := i) h.2 q⟩
  | [], _ :: _, _, _, _, h, _ => h.elim
  | _ :: _, [], _, _, _, h, _ => h.elim
end

theorem live_of {o : O} (h : o ≠ .gone) : live o = true := by cases o <;> first | rfl | exact absurd rfl h

section
variable {C : Cx} {L : Addr} {ρ ρ₁ ρ₂ : Nat → Addr} {σ σ₁ σ₂ : St} {h h₁ h₂ h' : Heap}
theorem Pst.refl (R : Rep C L ρ σ h) : Pst C L ρ σ h ρ σ h :=
  ⟨R, fun _ _ => rfl, Nat.le_refl _, fun _ _ e _ _ => e, fun l o e => .inl ⟨l, o, e, rfl⟩, fun _ _ e => e, rfl⟩
theorem Pst.trans (p : Pst C L ρ σ h ρ₁ σ₁ h₁) (q : Pst C L ρ₁ σ₁ h₁ ρ₂ σ₂ h₂) (R : Rep C L ρ σ h) : Pst C L ρ σ h ρ₂ σ₂ h₂ := by
  refine ⟨q.rep, fun l hl => (q.agr l (Nat.lt_of_lt_of_le hl p.len)).trans (p.agr l hl), Nat.le_trans p.len q.len, fun b o e hb hn => ?_, fun l o e => ?_, fun l xs e => q.tup l xs (p.tup l xs e), q.fd.trans p.fd⟩
  · refine q.kp b o (p.kp b o e hb hn) hb fun l o' hl e' => ?_
    rcases p.fr l o' hl with ⟨l₀, o₀, h0, e0⟩ | e0
    · exact hn l₀ o₀ h0 (e0.trans e')
    · rw [e', e] at e0; cases e0
  · rcases q.fr l o e with ⟨l₁, o₁, h1, e1⟩ | e1
    · rcases p.fr l₁ o₁ h1 with ⟨l₀, o₀, h0, e0⟩ | e0
      · exact .inl ⟨l₀, o₀, h0, e0.trans e1⟩
      · right; rw [← e1]; exact e0
    · cases hq : h.get? (ρ₂ l) with
      | none => exact .inr rfl
      | some ob =>
        -- the address stood before: then it was kept or named
        by_cases hL : ρ₂ l = L
        · obtain ⟨_, _, _, _, hne⟩ := q.rep.obj l o e
          exact absurd hL hne
        · by_cases hx : ∃ l₀ o₀, Has σ l₀ o₀ ∧ ρ l₀ = ρ₂ l
          · exact .inl hx
          · have := p.kp _ ob hq hL fun l₀ o₀ h0 e0 => hx ⟨l₀, o₀, h0, e0⟩
            rw [this] at e1; cases e1

theorem Has.lt {l : Nat} {o : O} (x : Has σ l o) : l < σ.objs.length := nth_lt x.1

/-- nothing that stood has changed, but the frame's own object, that bears the same names -/
structure Kept (L : Addr) (h h' : Heap) : Prop where
  k : ∀ b o, h.get? b = some o → b ≠ L → h'.get? b = some o
  n : ∀ m, h.Ns L m → h'.Ns L m
theorem Kept.of (k : ∀ b o, h.get? b = some o → h'.get? b = some o) : Kept L h h' := ⟨fun b o e _ => k b o e, fun _ n => n.keeps k⟩
theorem Kept.trans (x : Kept L h h₁) (y : Kept L h₁ h₂) : Kept L h h₂ := ⟨fun b o e n => y.k b o (x.k b o e n) n, fun m n => y.n m (x.n m n)⟩
theorem Rep.notL (R : Rep C L ρ σ h) {b : Addr} {o : Obj} (e : C.base.get? b = some o) : b ≠ L := Nat.ne_of_lt (Nat.lt_of_lt_of_le (Heap.lt_size e) R.above)
/-- things grew: nothing that stood has changed -/
theorem Pst.grow (R : Rep C L ρ σ h) (K : Kept L h h') : Pst C L ρ σ h ρ σ h' :=
  ⟨⟨fun b o e => K.k b o (R.base b o e) (R.notL e), R.above, fun l o hl => let ⟨ob, e, r, a, n⟩ := R.obj l o hl; ⟨ob, K.k _ _ e n, r, a, n⟩, R.inj, let ⟨m, n, r⟩ := R.ns; ⟨m, K.n m n, r⟩⟩,
    fun _ _ => rfl, Nat.le_refl _, fun b o e n _ => K.k b o e n, fun l o e => .inl ⟨l, o, e, rfl⟩, fun _ _ e => e, rfl⟩

noncomputable def upd (ρ : Nat → Addr) (N : Nat) (a : Addr) : Nat → Addr := fun l => if l = N then a else ρ l
theorem upd_lt {N a l : Nat} (h : l < N) : upd ρ N a l = ρ l := if_neg (Nat.ne_of_lt h)
theorem upd_self {N a : Nat} : upd ρ N a N = a := if_pos rfl

theorem Rep.low (R : Rep C L ρ σ h) : C.base.objs.size ≤ h.objs.size := by
  obtain ⟨m, n, _⟩ := R.ns
  exact Nat.le_trans R.above (Nat.le_of_lt n.lt)

/-- a new object under a new label -/
theorem Pst.add' {a : Addr} {o : O} {ob : Obj} (R : Rep C L ρ σ h) (K : Kept L h h') (hn : h.get? a = none) (hab : C.base.objs.size ≤ a) (haL : a ≠ L) (e : h'.get? a = some ob)
    (r : ∀ {ρ'}, (∀ l, l < σ.objs.length → ρ' l = ρ l) → OR C ρ' (σ.objs.length + 1) o ob) : Pst C L ρ σ h (upd ρ σ.objs.length a) { σ with objs := σ.objs ++ [o] } h' := by
  obtain ⟨m, nm, hv⟩ := R.ns
  have old : ∀ {l o'}, Has { σ with objs := σ.objs ++ [o] } l o' → (l = σ.objs.length ∧ o' = o) ∨ (l < σ.objs.length ∧ Has σ l o') := fun {l o'} x => by
    have x1 := x.1
    have x2 := x.2
    rw [show ({ σ with objs := σ.objs ++ [o] } : St).objs = σ.objs ++ [o] from rfl, nth_append] at x1
    split at x1
    · rename_i q; cases x1; exact .inl ⟨q, rfl⟩
    · exact .inr ⟨nth_lt x1, x1, x2⟩
  have hN : ({ σ with objs := σ.objs ++ [o] } : St).objs.length = σ.objs.length + 1 := by simp
  have agr : ∀ l, l < σ.objs.length → upd ρ σ.objs.length a l = ρ l := fun l hl => upd_lt hl
  refine ⟨⟨fun b o e => K.k b o (R.base b o e) (R.notL e), R.above, fun l o' hl => ?_, fun l l' o₁ o₂ h1 h2 e' => ?_, ⟨m, K.n m nm, fun x v hx => ?_⟩⟩, agr, by rw [hN]; exact Nat.le_succ _, fun b o e n _ => K.k b o e n, fun l o' hl => ?_, fun l xs e => ?_, rfl⟩
  · rw [hN]
    rcases old hl with ⟨rfl, rfl⟩ | ⟨lt, x⟩
    · rw [upd_self]
      refine ⟨ob, e, r agr, hab, haL⟩
    · obtain ⟨ob', e', r', b'⟩ := R.obj l o' x
      rw [upd_lt lt]
      exact ⟨ob', K.k _ _ e' b'.2, r'.mono agr (Nat.le_succ _), b'⟩
  · rcases old h1 with ⟨rfl, rfl⟩ | ⟨lt, x⟩ <;> rcases old h2 with ⟨q, _⟩ | ⟨lt', x'⟩
    · exact q.symm
    · rw [upd_self, upd_lt lt'] at e'
      obtain ⟨_, e2, _⟩ := R.obj l' o₂ x'
      rw [← e', hn] at e2; cases e2
    · subst q
      rw [upd_self, upd_lt lt] at e'
      obtain ⟨_, e2, _⟩ := R.obj l o₁ x
      rw [e', hn] at e2; cases e2
    · rw [upd_lt lt, upd_lt lt'] at e'
      exact R.inj l l' o₁ o₂ x x' e'
  · obtain ⟨i, u, e1, e2⟩ := hv x v hx
    exact ⟨i, u, e1, e2.mono agr (by rw [hN]; exact Nat.le_succ _)⟩
  · rcases old hl with ⟨rfl, rfl⟩ | ⟨lt, x⟩
    · right; rw [upd_self]; exact hn
    · left; exact ⟨l, o', x, (upd_lt lt).symm⟩
  · show nth (σ.objs ++ [o]) l = _
    rw [nth_append, if_neg (Nat.ne_of_lt (nth_lt e))]; exact e

theorem Pst.add {a : Addr} {o : O} {ob : Obj} (R : Rep C L ρ σ h) (K : Kept L h h') (ha : h.objs.size ≤ a) (e : h'.get? a = some ob)
    (r : ∀ {ρ'}, (∀ l, l < σ.objs.length → ρ' l = ρ l) → OR C ρ' (σ.objs.length + 1) o ob) : Pst C L ρ σ h (upd ρ σ.objs.length a) { σ with objs := σ.objs ++ [o] } h' := by
  obtain ⟨m, nm, hv⟩ := R.ns
  refine Pst.add' R K ?_ (Nat.le_trans R.low ha) (Nat.ne_of_gt (Nat.lt_of_lt_of_le nm.lt ha)) e r
  cases q : h.get? a with
  | none => rfl
  | some x => exact absurd (Heap.lt_size q) (Nat.not_lt.mpr ha)

/-- an object is turned in its place -/
theorem Pst.turn {l : Nat} {o o' : O} {ob : Obj} (R : Rep C L ρ σ h) (hl : Has σ l o) (ht : ∀ xs, o ≠ .tuple xs) (hs : Heap.SameBut (ρ l) h h') (e : h'.get? (ρ l) = some ob)
    (r : OR C ρ σ.objs.length o' ob) (hv : live o' = true) : Pst C L ρ σ h ρ (setO l o' σ) h' := by
  obtain ⟨m, nm, hm⟩ := R.ns
  obtain ⟨ob₀, e₀, _, hb, hL⟩ := R.obj l o hl
  have hN : (setO l o' σ).objs.length = σ.objs.length := by simp [setO]
  have old : ∀ {l' x}, Has (setO l o' σ) l' x → (l' = l ∧ x = o') ∨ (l' ≠ l ∧ Has σ l' x) := fun {l' x} q => by
    have q1 := q.1
    rw [show (setO l o' σ).objs = σ.objs.set l o' from rfl, nth_set] at q1
    split at q1
    · rename_i z; cases q1; exact .inl ⟨z.1, rfl⟩
    · rename_i z
      have : l' ≠ l := fun w => z ⟨w, by rw [w]; exact hl.lt⟩
      exact .inr ⟨this, q1, q.2⟩
  have any : ∀ {l' x}, Has (setO l o' σ) l' x → ∃ y, Has σ l' y := fun {l' x} q => by
    rcases old q with ⟨rfl, _⟩ | ⟨_, z⟩
    · exact ⟨o, hl⟩
    · exact ⟨x, z⟩
  have hbs : ∀ b ob, C.base.get? b = some ob → b ≠ ρ l := fun b ob e => Nat.ne_of_lt (Nat.lt_of_lt_of_le (Heap.lt_size e) hb)
  refine ⟨⟨fun b o e => (hs.2 b (hbs b o e)).trans (R.base b o e), R.above, fun l' x q => ?_, fun l₁ l₂ o₁ o₂ h1 h2 e' => ?_, ⟨m, nm.sameBut hs (Ne.symm hL), fun x v hx => ?_⟩⟩, fun _ _ => rfl, by rw [hN]; exact Nat.le_refl _,
    fun b o'' e'' _ hn => (hs.2 b (fun z => hn l o hl z.symm)).trans e'', fun l' x q => ?_, fun l' xs e' => ?_, rfl⟩
  · rw [hN]
    rcases old q with ⟨rfl, rfl⟩ | ⟨ne, z⟩
    · exact ⟨ob, e, r, hb, hL⟩
    · obtain ⟨ob', e', r', b'⟩ := R.obj l' x z
      exact ⟨ob', (hs.2 _ fun w => ne (R.inj _ _ _ _ z hl w)).trans e', r', b'⟩
  · obtain ⟨y, hy⟩ := any h1
    obtain ⟨z, hz⟩ := any h2
    exact R.inj _ _ _ _ hy hz e'
  · rw [hN]; exact hm x v hx
  · obtain ⟨y, hy⟩ := any q
    exact .inl ⟨l', y, hy, rfl⟩
  · have ne : l' ≠ l := fun w => by subst w; rw [hl.1] at e'; cases e'; exact ht xs rfl
    show nth (σ.objs.set l o') l' = _
    rw [nth_set, if_neg (fun z => ne z.1)]; exact e'
end
end Mine
namespace Mine
open PySem

theorem tbl_nodup : tbl.Nodup := by decide +kernel
theorem tbl_ascii : tbl.all (fun s => s.cps.all (fun c => Nat.blt c 2000000)) = true := by decide +kernel
theorem tb_inj {a b : Nat} (h : tb a = tb b) : a = b := by
  have key : ∀ {i : Nat} {s : Str}, tbl[i]? = some s → s.cps.all (fun c => Nat.blt c 2000000) = true := fun {i s} e =>
    List.all_eq_true.mp tbl_ascii s (List.mem_of_getElem? e)
  unfold tb at h
  cases ha : tbl[a]? with
  | some x =>
    cases hb : tbl[b]? with
    | some y =>
      simp only [ha, hb] at h
      subst h
      obtain ⟨la, ea⟩ := List.getElem?_eq_some_iff.mp ha
      obtain ⟨lb, eb⟩ := List.getElem?_eq_some_iff.mp hb
      exact (List.getElem_inj tbl_nodup).mp (ea.trans eb.symm)
    | none =>
      simp only [ha, hb] at h
      have := key ha
      rw [h] at this
      simp [Nat.blt] at this
      omega
  | none =>
    cases hb : tbl[b]? with
    | some y =>
      simp only [ha, hb] at h
      have := key hb
      rw [← h] at this
      simp [Nat.blt] at this
      omega
    | none =>
      simp only [ha, hb] at h
      injection h with h
      have := congrArg (fun x : Array Nat => x.toList) h
      simp at this
      omega
theorem tb_eq (a b : Nat) : (tb a = tb b) ↔ a = b := ⟨tb_inj, fun h => by rw [h]⟩
theorem tb_beq (a b : Nat) : (tb a == tb b) = Nat.beq a b := by
  by_cases h : a = b
  · subst h; simp
  · have : ¬ tb a = tb b := fun e => h (tb_inj e)
    rw [beq_eq_false_iff_ne.mpr this]
    cases q : Nat.beq a b with
    | false => rfl
    | true => exact absurd (Nat.eq_of_beq_eq_true q) h

noncomputable def Out {α β : Type} (C : Cx) (L : Addr) (RR : (Nat → Addr) → Nat → α → β → Prop) (ρ : Nat → Addr) (σ : St) (s : Shared) (Q : α → St → Prop) : β → Shared → Prop :=
  fun v s' => ∃ a ρ' σ' h' tk, s' = { s with heap := h', toks := tk } ∧ Pst C L ρ σ s.heap ρ' σ' h' ∧ RR ρ' σ'.objs.length a v ∧ Q a σ'
noncomputable def Fls : Value → Shared → Prop := fun _ _ => False
noncomputable def RU : (Nat → Addr) → Nat → Unit → Unit → Prop := fun _ _ _ _ => True
noncomputable def RB : (Nat → Addr) → Nat → Bool → Bool → Prop := fun _ _ a b => a = b
noncomputable def RF (C : Cx) : (Nat → Addr) → Nat → Fl → Flow → Prop := fun ρ N a f => match a with
  | .next => f = .next
  | .ret v => ∃ u, f = .ret u ∧ VR C ρ N v u

section
variable {α β α' β' : Type} {C : Cx} {L : Addr} {RR : (Nat → Addr) → Nat → α → β → Prop} {RR' : (Nat → Addr) → Nat → α' → β' → Prop} {ρ ρ₁ : Nat → Addr} {σ σ₁ : St} {s : Shared} {A : Around} {M : Model} {Q : α → St → Prop}
theorem Out.lift {h₁ : Heap} {tk₁ : Nat} (R : Rep C L ρ σ s.heap) (p : Pst C L ρ σ s.heap ρ₁ σ₁ h₁) {v : β} {s' : Shared} (x : Out C L RR ρ₁ σ₁ { s with heap := h₁, toks := tk₁ } Q v s') : Out C L RR ρ σ s Q v s' := by
  obtain ⟨a, ρ', σ', h', tk, e, q, r, hq⟩ := x
  exact ⟨a, ρ', σ', h', tk, e, p.trans q R, r, hq⟩
theorem Out.intro {a : α} {v : β} {ρ' : Nat → Addr} {σ' : St} {h' : Heap} {tk : Nat} (p : Pst C L ρ σ s.heap ρ' σ' h') (r : RR ρ' σ'.objs.length a v) (q : Q a σ') : Out C L RR ρ σ s Q v { s with heap := h', toks := tk } := ⟨a, ρ', σ', h', tk, rfl, p, r, q⟩
/-- one step behind another -/
theorem Out.bind {t : Sem β'} {t' : β' → Sem β} {K : α' → St → Prop} (R : Rep C L ρ σ s.heap) (h : wpAny M A t (Out C L RR' ρ σ s K) Fls s)
    (k : ∀ a v ρ₁ σ₁ h₁ tk₁, Pst C L ρ σ s.heap ρ₁ σ₁ h₁ → RR' ρ₁ σ₁.objs.length a v → K a σ₁ → wpAny M A (t' v) (Out C L RR ρ₁ σ₁ { s with heap := h₁, toks := tk₁ } Q) Fls { s with heap := h₁, toks := tk₁ }) :
    wpAny M A t (fun v s₁ => wpAny M A (t' v) (Out C L RR ρ σ s Q) Fls s₁) Fls s := by
  refine wpAny_mono h (fun v s₁ x => ?_) fun _ _ e => e
  obtain ⟨a, ρ₁, σ₁, h₁, tk₁, rfl, p, r, hq⟩ := x
  exact wpAny_mono (k a v ρ₁ σ₁ h₁ tk₁ p r hq) (fun u s₂ y => y.lift R p) fun _ _ e => e
theorem Out.mono {Q' : α → St → Prop} {v : β} {s' : Shared} (x : Out C L RR ρ σ s Q v s') (h : ∀ a σ', Q a σ' → Q' a σ') : Out C L RR ρ σ s Q' v s' := by
  obtain ⟨a, ρ', σ', h', tk, e, q, r, hq⟩ := x
  exact ⟨a, ρ', σ', h', tk, e, q, r, h _ _ hq⟩
end

theorem Pst.vr {C : Cx} {L : Addr} {ρ ρ₁ : Nat → Addr} {σ σ₁ : St} {h h₁ : Heap} (p : Pst C L ρ σ h ρ₁ σ₁ h₁) {a : V} {v : Value} (x : VR C ρ σ.objs.length a v) : VR C ρ₁ σ₁.objs.length a v := x.mono p.agr p.len
theorem Pst.vrs {C : Cx} {L : Addr} {ρ ρ₁ : Nat → Addr} {σ σ₁ : St} {h h₁ : Heap} (p : Pst C L ρ σ h ρ₁ σ₁ h₁) {a : List V} {v : List Value} (x : VRs C ρ σ.objs.length a v) : VRs C ρ₁ σ₁.objs.length a v := x.mono p.agr p.len

/-- the frame's environment -/
noncomputable def EnvOk (L : Addr) (f : FD) (env : Env) : Prop := ∃ nm a cd, env = envOf nm (scopeOf f) L a cd
structure Room (n : Nat) (A : Around) : Prop where
  handled : A.handled = none
  depth : A.depth + n < recursionLimit
  units : A.units + 8 * n + 100 < cLine

theorem lk_lookup {α : Type} (g : Bool → α) : ∀ (l : List (Nat × Bool)) (x : Nat), (l.map fun n => (tb n.1, g n.2)).lookup (tb x) = (lk l x).map g
  | [], x => rfl
  | (k, b) :: r, x => by
    simp only [List.map_cons, List.lookup_cons, lk]
    have : (tb x == tb k) = Nat.beq k x := by rw [tb_beq]; cases q : Nat.beq k x <;> cases q' : Nat.beq x k <;> first | rfl | (simp_all [Nat.beq_eq])
    rw [this]
    cases Nat.beq k x with
    | true => rfl
    | false => exact lk_lookup g r x
theorem kind_loc {L : Addr} {f : FD} {env : Env} (E : EnvOk L f env) {x : Nat} (h : isLoc f x = true) : env.kindOf (tb x) = some .local := by
  obtain ⟨nm, a, cd, rfl⟩ := E
  show (f.names.map fun n => (tb n.1, kindB n.2)).lookup (tb x) = _
  rw [lk_lookup]
  unfold isLoc at h
  split at h
  · rename_i e; rw [e]; rfl
  · cases h
theorem kind_glob {L : Addr} {f : FD} {env : Env} (E : EnvOk L f env) {x : Nat} (h : isGlob f x = true) : env.kindOf (tb x) = some .globalImplicit := by
  obtain ⟨nm, a, cd, rfl⟩ := E
  show (f.names.map fun n => (tb n.1, kindB n.2)).lookup (tb x) = _
  rw [lk_lookup]
  unfold isGlob at h
  split at h
  · rename_i e; rw [e]; rfl
  · cases h
theorem EnvOk.kind {L : Addr} {f : FD} {env : Env} (E : EnvOk L f env) : env.scope.kind = .function := by obtain ⟨_, _, _, rfl⟩ := E; rfl
theorem EnvOk.locals {L : Addr} {f : FD} {env : Env} (E : EnvOk L f env) : env.locals = L := by obtain ⟨_, _, _, rfl⟩ := E; rfl
theorem tbl_nodebug : tbl.all (fun s => !(s == ("__debug__" : Str))) = true := by decide +kernel
theorem tb_nodebug (x : Nat) : (tb x == ("__debug__" : Str)) = false := by
  unfold tb
  split
  · rename_i s e
    have := List.all_eq_true.mp tbl_nodebug s (List.mem_of_getElem? e)
    simpa using this
  · rw [beq_eq_false_iff_ne]
    intro e
    have h1 := congrArg (fun s : Str => s.cps.size) e
    have h2 : (Str.ofString "__debug__").cps.size = 9 := by decide +kernel
    have h3 : (Str.mk #[2000000 + x]).cps.size = 1 := rfl
    have h4 : (1 : Nat) = 9 := h3.symm.trans (h1.trans h2)
    cases h4

/-- what stands ahead of the call: the defs, the names of the top -/
structure Facts (C : Cx) : Prop where
  ns : ∃ mg mb, C.base.Ns mainGlobals mg ∧ C.base.Ns builtinsNs mb ∧
    (∀ f fd, ftab f = some fd → mg (tb f) = some (.ref (C.fa f))) ∧
    (∀ x k, lk gval x = some (.sym k) → ∃ t, mg (tb x) = some (.str (tb k) t)) ∧
    (∀ x k, lk gval x = some (.gref k) → mg (tb x) = some (.ref (C.ga k))) ∧
    (∀ b, b ∈ [n_len, n_list, n_tuple, n_sorted, n_abs, n_range] → mg (tb b) = none) ∧
    mb (tb n_len) = some (.builtin "len") ∧ mb (tb n_sorted) = some (.builtin "sorted") ∧ mb (tb n_abs) = some (.builtin "abs") ∧
    mb (tb n_list) = some (.type "list") ∧ mb (tb n_tuple) = some (.type "tuple") ∧ mb (tb n_range) = some (.type "range")
  fn : ∀ f fd, ftab f = some fd → ∃ o pm cd doc, C.base.get? (C.fa f) = some o ∧ o.data = .func (Calls.docDef (tb f) (argsOf fd) (embSs fd.body) (scopeOf fd) pm cd doc) ∧ C.base.CodeRec cd (tb f)
  tup : ∀ k xs, lk gtab k = some xs → ∃ vs n, C.base.get? (C.ga k) = some { cls := .type "tuple", data := .seq vs n } ∧ ∀ ρ N, VRs C ρ N xs vs.toList
  ginj : ∀ k k' xs xs', lk gtab k = some xs → lk gtab k' = some xs' → C.ga k = C.ga k' → k = k'
  nolimit : C.base.NoLimit

/-- an object by its value -/
theorem obj_at {C : Cx} (X : Facts C) {L : Addr} {ρ : Nat → Addr} {σ : St} {h : Heap} (R : Rep C L ρ σ h) {a : V} {v : Value} {o : O} (x : VR C ρ σ.objs.length a v) (e : obj σ a = some o) (hl : live o = true) :
    ∃ d ob, v = .ref d ∧ h.get? d = some ob ∧ OR C ρ σ.objs.length o ob := by
  cases x with
  | ref l lt =>
    obtain ⟨ob, e', r, _⟩ := R.obj l o ⟨e, hl⟩
    exact ⟨_, ob, rfl, e', r⟩
  | gref k =>
    obtain ⟨xs, e1, e2⟩ := Option.map_eq_some_iff.mp (show (lk gtab k).map O.tuple = some o from e)
    subst e2
    obtain ⟨vs, n, h1, h2⟩ := X.tup k xs e1
    exact ⟨_, _, rfl, R.base _ _ h1, vs, n, rfl, h2 _ _⟩
  | _ => cases e
/-- two refs of one address -/
theorem ref_uniq {C : Cx} (X : Facts C) {L : Addr} {ρ : Nat → Addr} {σ : St} {h : Heap} (R : Rep C L ρ σ h) {a b : V} {d : Addr} {oa ob : O} (ha : VR C ρ σ.objs.length a (.ref d)) (hb : VR C ρ σ.objs.length b (.ref d))
    (ea : obj σ a = some oa) (eb : obj σ b = some ob) (la : live oa = true) (lb : live ob = true) : a = b := by
  have mixed : ∀ {l k : Nat} {o o' : O}, obj σ (.ref l) = some o → obj σ (.gref k) = some o' → live o = true → ρ l = C.ga k → False := by
    intro l k o o' e1 e2 lv e
    obtain ⟨_, _, _, h3, _⟩ := R.obj l o ⟨e1, lv⟩
    obtain ⟨xs, e3, _⟩ := Option.map_eq_some_iff.mp (show (lk gtab k).map O.tuple = some o' from e2)
    obtain ⟨vs, n, h4, _⟩ := X.tup k xs e3
    have := Heap.lt_size h4
    rw [← e] at this
    exact Nat.lt_irrefl _ (Nat.lt_of_lt_of_le this h3)
  generalize hv : Value.ref d = v at ha
  cases ha with
  | ref l hl =>
    cases hv
    generalize hw : Value.ref (ρ l) = w at hb
    cases hb with
    | ref l' hl' =>
      injection hw with h1
      rw [R.inj l l' oa ob ⟨ea, la⟩ ⟨eb, lb⟩ h1]
    | gref k => injection hw with h1; exact (mixed ea eb la h1).elim
    | _ => cases hw
  | gref k =>
    cases hv
    generalize hw : Value.ref (C.ga k) = w at hb
    cases hb with
    | ref l' hl' => injection hw with h1; exact (mixed eb ea lb h1.symm).elim
    | gref k' =>
      injection hw with h1
      obtain ⟨xs, e3, _⟩ := Option.map_eq_some_iff.mp (show (lk gtab k).map O.tuple = some oa from ea)
      obtain ⟨ys, e4, _⟩ := Option.map_eq_some_iff.mp (show (lk gtab k').map O.tuple = some ob from eb)
      rw [X.ginj k k' xs ys e3 e4 h1]
    | _ => cases hw
  | _ => cases hv
end Mine
namespace Mine
open PySem

abbrev Mm (C : Cx) : Model := model pg C.w
section
variable {C : Cx} {L : Addr} {ρ : Nat → Addr} {σ : St} {s : Shared} {A : Around}

/-- the heap stands: only a token was spent -/
theorem Out.now {α β : Type} {RR : (Nat → Addr) → Nat → α → β → Prop} {Q : α → St → Prop} {a : α} {v : β} {tk : Nat} (R : Rep C L ρ σ s.heap) (r : RR ρ σ.objs.length a v) (q : Q a σ) :
    Out C L RR ρ σ s Q v { s with toks := tk } := ⟨a, ρ, σ, s.heap, tk, rfl, .refl R, r, q⟩
theorem Out.now' {α β : Type} {RR : (Nat → Addr) → Nat → α → β → Prop} {Q : α → St → Prop} {a : α} {v : β} (R : Rep C L ρ σ s.heap) (r : RR ρ σ.objs.length a v) (q : Q a σ) :
    Out C L RR ρ σ s Q v s := ⟨a, ρ, σ, s.heap, s.toks, rfl, .refl R, r, q⟩

theorem cst_sound {c : V} {p : Pos} {env : Env} {Q : KV} (h : ev_cst c σ Q) (R : Rep C L ρ σ s.heap) : wpAny (Mm C) A (eval (emb (.cst c p)) env) (Out C L (VR C) ρ σ s Q) Fls s := by
  cases c with
  | none => exact wpAny_Constant_none (.now' R .none h)
  | bool b => exact wpAny_Constant_bool (.now' R (.bool b) h)
  | int i => exact wpAny_Constant_int (.now R (.int i _) h)
  | sym k => exact wpAny_Constant_str (.now R (.sym k _) h)
  | byt =>
    show wpAny (Mm C) A (eval (.Constant (.bytes []) 0 p) env) _ Fls s
    exact fun _ _ _ => (Out.now (tk := s.toks + 1) R (.byt _) h : Out C L (VR C) ρ σ s Q (.bytes #[] s.toks) _)
  | ref l => cases h
  | gref k => cases h
  | any => cases h

theorem var_sound {x : Nat} {p : Pos} {env : Env} {Q : KV} (h : ev_var x σ Q) (E : EnvOk L σ.fd env) (R : Rep C L ρ σ s.heap) : wpAny (Mm C) A (eval (emb (.var x p)) env) (Out C L (VR C) ρ σ s Q) Fls s := by
  unfold ev_var at h
  cases e : lk σ.lc x with
  | none => rw [e] at h; cases h
  | some v =>
    rw [e] at h
    obtain ⟨m, n, hm⟩ := R.ns
    obtain ⟨i, u, h1, h2⟩ := hm x v e
    exact wpAny_Name (wpAny_loadName_local E.kind (kind_loc E i) (by rw [E.locals]; exact n) h1 (.now' R h2 h)) (tb_nodebug x)

theorem glob_name {x : Nat} {p : Pos} {env : Env} {v : Value} {Q : Value → Shared → Prop} {F : Value → Shared → Prop} {mg : Str → Option Value} (E : EnvOk L σ.fd env) (g : isGlob σ.fd x = true) (R : Rep C L ρ σ s.heap) (hn : C.base.Ns mainGlobals mg)
    (hv : mg (tb x) = some v) (h : Q v s) : wpAny (Mm C) A (eval (.Name (tb x) p) env) Q F s :=
  Calls.Name_function_global E.kind (kind_glob E g) (Calls.loadGlobal_global (by obtain ⟨_, _, _, rfl⟩ := E; exact hn.keeps R.base) hv h) (tb_nodebug x)
theorem built_name {x : Nat} {p : Pos} {env : Env} {v : Value} {Q : Value → Shared → Prop} {F : Value → Shared → Prop} {mg mb : Str → Option Value} (E : EnvOk L σ.fd env) (g : isGlob σ.fd x = true) (R : Rep C L ρ σ s.heap) (hn : C.base.Ns mainGlobals mg) (hb : C.base.Ns builtinsNs mb)
    (hm : mg (tb x) = none) (hv : mb (tb x) = some v) (h : Q v s) : wpAny (Mm C) A (eval (.Name (tb x) p) env) Q F s :=
  Calls.Name_function_global E.kind (kind_glob E g) (Calls.loadGlobal_builtin (by obtain ⟨_, _, _, rfl⟩ := E; exact hn.keeps R.base) hm (by obtain ⟨_, _, _, rfl⟩ := E; exact hb.keeps R.base) hv h) (tb_nodebug x)

theorem okGlob_of {x : Nat} {P : Prop} (h : okGlob σ x P) : isGlob σ.fd x = true ∧ P := by
  unfold okGlob at h
  split at h
  · rename_i e; exact ⟨e, h⟩
  · cases h
theorem glo_sound (X : Facts C) {x : Nat} {p : Pos} {env : Env} {Q : KV} (h : ev_glo x σ Q) (E : EnvOk L σ.fd env) (R : Rep C L ρ σ s.heap) : wpAny (Mm C) A (eval (emb (.glo x p)) env) (Out C L (VR C) ρ σ s Q) Fls s := by
  obtain ⟨g, h⟩ := okGlob_of h
  obtain ⟨mg, mb, n1, n2, f1, f2, f3, _⟩ := X.ns
  cases e : lk gval x with
  | none => rw [e] at h; cases h
  | some v =>
    rw [e] at h
    have hs : ∀ {l : List (Nat × V)} {x : Nat} {v : V}, lk l x = some v → (x, v) ∈ l := by
      intro l
      induction l with
      | nil => intro x v h; cases h
      | cons a r ih =>
        intro x v h
        obtain ⟨k, u⟩ := a
        unfold lk at h
        split at h
        · rename_i q; cases h; rw [Nat.eq_of_beq_eq_true q]; exact .head _
        · exact .tail _ (ih h)
    have hm := hs e
    cases v with
    | sym k =>
      obtain ⟨t, ht⟩ := f2 x k e
      exact glob_name E g R n1 ht (.now' R (.sym k t) h)
    | gref k => exact glob_name E g R n1 (f3 x k e) (.now' R (.gref k) h)
    | _ => simp [gval] at hm

theorem star_emb (e : E) (r : List Expr) (env : Env) : starEach (emb e :: r) env = (false, eval (emb e) env) :: starEach r env := by cases e <;> rfl

/-! subscripts -/
theorem items_at {o : O} {ob : Obj} {xs : List V} (r : OR C ρ σ.objs.length o ob) (e : items o = some xs) : ∃ vs n T, ob = { cls := .type T, data := .seq vs n } ∧ (T = "list" ∨ T = "tuple") ∧ VRs C ρ σ.objs.length xs vs.toList := by
  cases o with
  | list ys => cases e; obtain ⟨vs, n, h1, h2⟩ := r; exact ⟨vs, n, _, h1, .inl rfl, h2⟩
  | tuple ys => cases e; obtain ⟨vs, n, h1, h2⟩ := r; exact ⟨vs, n, _, h1, .inr rfl, h2⟩
  | syms c ys => cases e; obtain ⟨⟨vs, n, h1, h2⟩, _⟩ := r; exact ⟨vs, n, _, h1, .inl rfl, h2⟩
  | nums ys => cases e; obtain ⟨⟨vs, n, h1, h2⟩, _⟩ := r; exact ⟨vs, n, _, h1, .inl rfl, h2⟩
  | _ => cases e
theorem lk_entries : ∀ {es : List (Nat × V)} {kvs : List (Str × Value)} {N : Nat} {k : Nat} {x : V}, ERs C ρ N es kvs → lk es k = some x → ∃ u, valueAt kvs (tb k) = some u ∧ VR C ρ N x u
  | [], _, _, _, _, _, e => by cases e
  | (j, y) :: r, (t, u) :: q, N, k, x, h, e => by
    unfold lk at e
    unfold valueAt
    rw [List.find?_cons]
    obtain ⟨⟨h1, h2⟩, h3⟩ := h
    dsimp only at h1 h2
    cases b : Nat.beq j k with
    | true =>
      rw [b] at e; cases e
      have : t = tb k := by rw [h1, Nat.eq_of_beq_eq_true b]
      simp only [this, decide_true]
      exact ⟨u, rfl, h2⟩
    | false =>
      rw [b] at e
      have : ¬ t = tb k := fun z => by
        have := tb_inj (h1.symm.trans z)
        rw [this, Nat.beq_refl] at b; cases b
      simp only [this, decide_false]
      exact lk_entries h3 e
  | _ :: _, [], _, _, _, h, _ => h.elim

theorem subscripted_emb (e : E) (u i : Value) : subscripted (emb e) false u i = operate [u, i] (getItem u i) := by cases e <;> rfl
theorem sub_tail (X : Facts C) {a b x : V} {u i : Value} {o : O} {value slice : Expr} {ops : List Value} {Q : KV} (R : Rep C L ρ σ s.heap) (ha : VR C ρ σ.objs.length a u) (hb : VR C ρ σ.objs.length b i) (eo : obj σ a = some o) (e : getI o b = some x) (h : Q x σ)
    (hs : subscripted slice false u i = operate ops (getItem u i)) : wpAny (Mm C) A (subscriptTail value slice u i) (Out C L (VR C) ρ σ s Q) Fls s := by
  have hl : live o = true := by cases o <;> first | rfl | (unfold getI at e; cases b <;> first | cases e | (rename_i j; cases j <;> cases e))
  obtain ⟨d, ob, rfl, hd, r⟩ := obj_at X R ha eo hl
  -- by number
  have byNum : ∀ {n : Nat} {t : Tok}, i = .int (.ofNat n) t → (match items o, Nat.blt n 2000000 with | some xs, true => nth xs n | _, _ => none) = some x → wpAny (Mm C) A (subscriptTail value slice (.ref d) i) (Out C L (VR C) ρ σ s Q) Fls s := by
    intro n t ei en
    subst ei
    cases q : items o with
    | none => rw [q] at en; cases en
    | some xs =>
      rw [q] at en
      cases q2 : Nat.blt n 2000000 with
      | false => rw [q2] at en; cases en
      | true =>
        rw [q2] at en
        have hn : n < 2000000 := Nat.le_of_ble_eq_true q2
        obtain ⟨vs, m, T, rfl, hT, hv⟩ := items_at r q
        obtain ⟨y, hy, hr⟩ := hv.nth en
        have hy' : vs[n]? = some y := by simpa using hy
        rcases hT with rfl | rfl
        · exact tail_any (T := "list") ⟨_, hd, rfl⟩ slot_list_getitem.lookup (wpAny_getItem_list (items := vs) ⟨_, hd, rfl, _, rfl⟩ (Int.natCast_nonneg n) (by show (n : Int) < 2 ^ 63; omega) (by simpa using hy') (.now' R hr h)) hs
        · have hlt : n < vs.size := by
            obtain ⟨z, _⟩ := Array.getElem?_eq_some_iff.mp hy'
            exact z
          exact tail_any (T := "tuple") ⟨_, hd, rfl⟩ F.slot_tuple_getitem.lookup (PySem.P.getItem_tuple (items := vs) (n := m) (k := n) hd (by show -2 ^ 63 ≤ (n : Int); omega) (by show (n : Int) < 2 ^ 63; omega) (by unfold seqIndex?; simp; omega) hy' (.now' R hr h)) hs
  cases o with
  | dict es =>
    cases hb with
    | sym k t =>
      obtain ⟨kvs, h1, h2⟩ := r
      obtain ⟨w, hw, hr⟩ := lk_entries h2 e
      have hD : s.heap.DictOf (PySem.strKind pg C.w) d kvs := Heap.dictOf_iff.mpr ⟨ob, hd, h1⟩
      exact tail_any hD.typeIs slot_dict_getitem.lookup (wpAny_getItem_of (knd := PySem.strKind pg C.w) (k := tb k) (strKind_is _ _ _ _) hD.mapOf hw (.now R hr h)) hs
    | int j t => cases j with
      | ofNat n => exact byNum rfl e
      | negSucc n => cases e
    | _ => cases e
  | list xs => cases hb with
    | int j t => cases j with
      | ofNat n => exact byNum rfl e
      | negSucc n => cases e
    | _ => cases e
  | tuple xs => cases hb with
    | int j t => cases j with
      | ofNat n => exact byNum rfl e
      | negSucc n => cases e
    | _ => cases e
  | syms c xs => cases hb with
    | int j t => cases j with
      | ofNat n => exact byNum rfl e
      | negSucc n => cases e
    | _ => cases e
  | nums xs => cases hb with
    | int j t => cases j with
      | ofNat n => exact byNum rfl e
      | negSucc n => cases e
    | _ => cases e
  | keys c xs => cases hb with
    | int j t => cases j with
      | ofNat n => exact byNum rfl e
      | negSucc n => cases e
    | _ => cases e
  | gone => cases hl
end
end Mine
namespace Mine
open PySem PySem.SeqAt
section
variable {C : Cx} {L : Addr} {ρ : Nat → Addr} {σ : St} {s : Shared} {A : Around}

theorem ieq_eq (a b : Int) : ieq a b = (a == b) := by
  have e : ieq a b = PySem.W.Z.eqB a b := by cases a <;> cases b <;> rfl
  have i := PySem.W.Z.eqB_iff a b
  rw [← e] at i
  by_cases h : a = b
  · rw [i.mpr h]; simp [h]
  · rw [beq_eq_false_iff_ne.mpr h]
    cases q : ieq a b with
    | false => rfl
    | true => exact absurd (i.mp q) h
theorem beqB_eq (a b : Bool) : beqB a b = (a == b) := by cases a <;> cases b <;> rfl

theorem eqP_sound {a b : V} {u v : Value} {r : Bool} {N : Nat} (ha : VR C ρ N a u) (hb : VR C ρ N b v) (e : eqP a b = some r) : EqAt A s u v r ∧ RcAt A s u v r := by
  cases ha <;> cases hb <;> first | cases e | skip
  · exact ⟨EqAt.same _, RcAt.none_none⟩
  · rw [beqB_eq]; exact ⟨EqAt.bool_bool _ _, RcAt.bool_bool _ _⟩
  · rw [ieq_eq]; exact ⟨EqAt.int_int _ _ _ _, RcAt.int_int _ _ _ _⟩
  · exact ⟨EqAt.int_str _ _ _ _, RcAt.int_str _ _ _ _⟩
  · exact ⟨EqAt.str_int _ _ _ _, RcAt.str_int _ _ _ _⟩
  · rename_i k t j t'
    have : Nat.beq k j = (tb k == tb j) := (tb_beq k j).symm
    rw [this]; exact ⟨EqAt.str_str _ _ _ _, RcAt.str_str _ _ _ _⟩

theorem eqP_refl {a : V} {r : Bool} (e : eqP a a = some r) : r = true := by
  cases a <;> first | cases e | skip
  · rfl
  · rename_i b; rw [beqB_eq]; simp
  · rename_i i; rw [ieq_eq]; simp
  · exact Nat.beq_refl _
theorem eqL_refl {f : V → V → Option Bool} (hf : ∀ a r, f a a = some r → r = true) : ∀ {xs : List V} {r : Bool}, eqL f xs xs = some r → r = true
  | [], _, e => by cases e; rfl
  | a :: as, r, e => by
    unfold eqL at e
    split at e
    · rename_i x y h1 h2
      cases e
      rw [hf a x h1, eqL_refl hf h2]; rfl
    · cases e
theorem eqO_refl {f : V → V → Option Bool} (hf : ∀ a r, f a a = some r → r = true) {o : O} {r : Bool} (e : eqO f o o = some r) : r = true := by
  unfold eqO at e
  split at e
  · rename_i xs ys h3 h4
    have := h3.symm.trans h4
    cases this
    exact eqL_refl hf e
  · split at e
    · rename_i xs ys h3 h4
      have := h3.symm.trans h4
      cases this
      exact eqL_refl hf e
    · cases e
  · cases e
theorem eqV_refl : ∀ {n : Nat} {a : V} {r : Bool}, eqV σ n a a = some r → r = true
  | 0, a, r, e => eqP_refl e
  | n + 1, a, r, e => by
    unfold eqV at e
    split at e
    · rename_i h; cases e; exact eqP_refl h
    · split at e
      · rename_i oa ob h4 h5
        have := Option.some.inj (h4.symm.trans h5)
        subst this
        exact eqO_refl (fun _ _ => eqV_refl) e
      · cases e

/-- items two by two -/
theorem eqL_all {f : V → V → Option Bool} : ∀ {xs ys : List V} {us vs : List Value} {r : Bool} {N : Nat}, VRs C ρ N xs us → VRs C ρ N ys vs → eqL f xs ys = some r →
    ∃ e : Nat → Bool, (us.length = vs.length → r = (List.range us.length).all e) ∧ (us.length ≠ vs.length → r = false) ∧
      ∀ j a b u v, nth xs j = some a → nth ys j = some b → us[j]? = some u → vs[j]? = some v → f a b = some (e j)
  | [], [], [], [], r, _, _, _, h => by cases h; exact ⟨fun _ => true, fun _ => rfl, fun h => absurd rfl h, fun j a b u v h => by cases h⟩
  | [], _ :: _, [], _ :: _, r, _, _, _, h => by cases h; exact ⟨fun _ => true, fun h => (by simp at h), fun _ => rfl, fun j a b u v h => by cases h⟩
  | _ :: _, [], _ :: _, [], r, _, _, _, h => by cases h; exact ⟨fun _ => true, fun h => (by simp at h), fun _ => rfl, fun j a b u v _ h => by cases h⟩
  | x :: xs, y :: ys, u :: us, v :: vs, r, N, hx, hy, h => by
    unfold eqL at h
    split at h
    · rename_i p q h1 h2
      cases h
      obtain ⟨e, i1, i2, i3⟩ := eqL_all hx.2 hy.2 h2
      refine ⟨fun j => match j with | 0 => p | j + 1 => e j, fun hl => ?_, fun hl => ?_, fun j a b u' v' h3 h4 h5 h6 => ?_⟩
      · rw [List.length_cons, List.range_succ_eq_map, List.all_cons, List.all_map, i1 (by simpa using hl)]
        rfl
      · rw [i2 (fun z => hl (by simp [z]))]; simp
      · cases j with
        | zero => cases h3; cases h4; exact h1
        | succ j => exact i3 j a b u' v' h3 h4 (by simpa using h5) (by simpa using h6)
    · cases h
  | [], _, _ :: _, _, _, _, h, _, _ => h.elim
  | _ :: _, _, [], _, _, _, h, _, _ => h.elim
  | _, [], _, _ :: _, _, _, _, h, _ => h.elim
  | _, _ :: _, _, [], _, _, _, h, _ => h.elim

theorem nth_of_get {N : Nat} : ∀ {xs : List V} {us : List Value} {j : Nat}, VRs C ρ N xs us → (h : j < us.length) → ∃ a, nth xs j = some a ∧ VR C ρ N a us[j]
  | [], [], _, _, h => absurd h (Nat.not_lt_zero _)
  | x :: xs, u :: us, 0, h, _ => ⟨x, rfl, h.1⟩
  | x :: xs, u :: us, j + 1, h, hj => nth_of_get (xs := xs) (us := us) h.2 (Nat.lt_of_succ_lt_succ hj)
  | [], _ :: _, _, h, _ => h.elim
  | _ :: _, [], _, h, _ => h.elim

theorem lstO_at {o : O} {ob : Obj} {xs : List V} (r : OR C ρ σ.objs.length o ob) (e : lstO o = some xs) : ∃ vs n, ob = { cls := .type "list", data := .seq vs n } ∧ VRs C ρ σ.objs.length xs vs.toList := by
  cases o with
  | list ys => cases e; exact r
  | syms c ys => cases e; exact r.1
  | _ => cases e
theorem tupO_at {o : O} {ob : Obj} {xs : List V} (r : OR C ρ σ.objs.length o ob) (e : tupO o = some xs) : ∃ vs n, ob = { cls := .type "tuple", data := .seq vs n } ∧ VRs C ρ σ.objs.length xs vs.toList := by
  cases o with
  | tuple ys => cases e; exact r
  | _ => cases e
theorem live_lst {o : O} {xs : List V} (e : lstO o = some xs) : live o = true := by cases o <;> first | rfl | cases e
theorem live_tup {o : O} {xs : List V} (e : tupO o = some xs) : live o = true := by cases o <;> first | rfl | cases e

theorem eqO_live {f : V → V → Option Bool} {oa ob : O} {r : Bool} (e : eqO f oa ob = some r) : live oa = true ∧ live ob = true := by
  unfold eqO at e
  split at e
  · rename_i h3 h4; exact ⟨live_tup h3, live_tup h4⟩
  · split at e
    · rename_i h3 h4; exact ⟨live_lst h3, live_lst h4⟩
    · cases e
  · cases e
theorem eqO_sound {f : V → V → Option Bool} {oa ob : O} {xa xb : Obj} {da db : Addr} {r : Bool} (hu : A.units < cLine) (ra : OR C ρ σ.objs.length oa xa) (rb : OR C ρ σ.objs.length ob xb) (ha : s.heap.get? da = some xa) (hb : s.heap.get? db = some xb)
    (hf : ∀ a b u v r, VR C ρ σ.objs.length a u → VR C ρ σ.objs.length b v → f a b = some r → EqAt A.in1 s u v r) (e : eqO f oa ob = some r) : RcAt A s (.ref da) (.ref db) r := by
  unfold eqO at e
  have go : ∀ {xs ys : List V} {us vs : Array Value}, VRs C ρ σ.objs.length xs us.toList → VRs C ρ σ.objs.length ys vs.toList → eqL f xs ys = some r →
      ∃ g : Nat → Bool, (us.size = vs.size → r = (List.range us.size).all g) ∧ (us.size ≠ vs.size → r = false) ∧ ∀ j (h1 : j < us.size) (h2 : j < vs.size), EqAt A.in1 s us[j] vs[j] (g j) := by
    intro xs ys us vs hx hy h
    obtain ⟨g, i1, i2, i3⟩ := eqL_all hx hy h
    rw [Array.length_toList, Array.length_toList] at i1 i2
    refine ⟨g, i1, i2, fun j h1 h2 => ?_⟩
    obtain ⟨a, ea, va⟩ := nth_of_get hx (j := j) (by simpa using h1)
    obtain ⟨b, eb, vb⟩ := nth_of_get hy (j := j) (by simpa using h2)
    have := hf a b _ _ _ va vb (i3 j a b _ _ ea eb (List.getElem?_eq_getElem (by simpa using h1)) (List.getElem?_eq_getElem (by simpa using h2)))
    simpa using this
  split at e
  · rename_i xs ys h3 h4
    obtain ⟨us, n, rfl, hx⟩ := tupO_at ra h3
    obtain ⟨vs, m, rfl, hy⟩ := tupO_at rb h4
    obtain ⟨g, i1, i2, i3⟩ := go hx hy e
    have z := RcAt.tuples (A := A) (s := s) (l := da) (b := db) (items := us) (items2 := vs) (e := g) ⟨_, ha, rfl, _, rfl⟩ ⟨_, hb, rfl, _, rfl⟩ hu i3
    by_cases hs : us.size = vs.size
    · rw [hs, Nat.min_self] at z
      rw [i1 hs, hs]
      simpa using z
    · rw [i2 hs]
      have : (us.size == vs.size) = false := beq_eq_false_iff_ne.mpr hs
      rw [this, Bool.and_false] at z; exact z
  · split at e
    · rename_i xs ys h3 h4
      obtain ⟨us, n, rfl, hx⟩ := lstO_at ra h3
      obtain ⟨vs, m, rfl, hy⟩ := lstO_at rb h4
      obtain ⟨g, i1, i2, i3⟩ := go hx hy e
      by_cases hs : us.size = vs.size
      · rw [i1 hs]
        exact RcAt.lists (A := A) (s := s) (l := da) (b := db) (items := us) (items2 := vs) (e := g) ⟨_, ha, rfl, _, rfl⟩ ⟨_, hb, rfl, _, rfl⟩ hs hu i3
      · rw [i2 hs]
        exact RcAt.lists_lengths (A := A) (s := s) (l := da) (b := db) (items := us) (items2 := vs) ⟨_, ha, rfl, _, rfl⟩ ⟨_, hb, rfl, _, rfl⟩ (by simpa using hs) hu
    · cases e
  · cases e
theorem eqV_sound (X : Facts C) (R : Rep C L ρ σ s.heap) : ∀ (n : Nat) {A : Around} {a b : V} {u v : Value} {r : Bool}, A.units + n < cLine → VR C ρ σ.objs.length a u → VR C ρ σ.objs.length b v → eqV σ n a b = some r → RcAt A s u v r ∧ EqAt A s u v r
  | 0, A, a, b, u, v, r, hu, ha, hb, e => (eqP_sound ha hb e).symm
  | n + 1, A, a, b, u, v, r, hu, ha, hb, e => by
    have e0 := e
    unfold eqV at e
    split at e
    · rename_i h; cases e; exact (eqP_sound ha hb h).symm
    · split at e
      · rename_i oa ob h1 h2
        have lv := eqO_live e
        obtain ⟨da, xa, rfl, ga, ra⟩ := obj_at X R ha h1 lv.1
        obtain ⟨db, xb, rfl, gb, rb⟩ := obj_at X R hb h2 lv.2
        have hr : RcAt A s (.ref da) (.ref db) r := eqO_sound (by omega) ra rb ga gb (fun a b u v r ha hb e => (eqV_sound X R n (A := A.in1) (by show A.units + 1 + n < cLine; omega) ha hb e).2) e
        refine ⟨hr, ?_⟩
        by_cases hde : da = db
        · subst hde
          have := ref_uniq X R ha hb h1 h2 lv.1 lv.2
          subst this
          rw [eqV_refl e0]; exact EqAt.same _
        · exact EqAt.of_refs hde hr
      · cases e
theorem cmpEq {A : Around} {u v : Value} {r : Bool} {Q : Value → Shared → Prop} {F : Value → Shared → Prop} (h : RcAt A s u v r) (q : Q (.bool r) s) : wpAny (Mm C) A (compareOp .Eq u v) Q F s := h _ _ _ _ q
end
end Mine
namespace Mine
open PySem PySem.SeqAt
section
variable {C : Cx} {L : Addr} {ρ : Nat → Addr} {σ : St} {s : Shared} {A : Around}

theorem VR.uniq (X : Facts C) (R : Rep C L ρ σ s.heap) {a b : V} {v : Value} (ha : VR C ρ σ.objs.length a v) (hb : VR C ρ σ.objs.length b v) (oa : okItem σ a = true) (ob : okItem σ b = true) : a = b := by
  have lv : ∀ {l : Nat}, okItem σ (.ref l) = true → ∃ o, obj σ (.ref l) = some o ∧ live o = true := by
    intro l h
    have h : (match nth σ.objs l with | some .gone => false | some _ => true | Option.none => false) = true := h
    cases q : nth σ.objs l with
    | none => rw [q] at h; cases h
    | some o =>
      rw [q] at h
      refine ⟨o, q, live_of fun z => ?_⟩
      subst z
      cases h
  have lg : ∀ {k : Nat}, okItem σ (.gref k) = true → ∃ o, obj σ (.gref k) = some o ∧ live o = true := by
    intro k h
    have h : (match lk gtab k with | some _ => true | Option.none => false) = true := h
    cases q : lk gtab k with
    | none => rw [q] at h; cases h
    | some xs => exact ⟨.tuple xs, by show (lk gtab k).map O.tuple = _; rw [q]; rfl, rfl⟩
  cases ha with
  | none => cases hb with
    | none => rfl
    | anyN => cases ob
  | bool x => cases hb with
    | bool => rfl
    | anyB => cases ob
  | int i t => cases hb; rfl
  | sym k t =>
    generalize hq : Value.str (tb k) t = q at hb
    cases hb with
    | sym k' t' => injection hq with h1 h2; rw [tb_inj h1]
    | _ => cases hq
  | byt t => cases hb; rfl
  | ref l hl =>
    obtain ⟨o, e1, e2⟩ := lv oa
    have hb' := hb
    generalize hq : Value.ref (ρ l) = q at hb'
    cases hb' with
    | ref l' hl' => obtain ⟨o', e3, e4⟩ := lv ob; exact ref_uniq X R (.ref l hl) hb e1 e3 e2 e4
    | gref k => obtain ⟨o', e3, e4⟩ := lg ob; exact ref_uniq X R (.ref l hl) hb e1 e3 e2 e4
    | _ => cases hq
  | gref k =>
    obtain ⟨o, e1, e2⟩ := lg oa
    have hb' := hb
    generalize hq : Value.ref (C.ga k) = q at hb'
    cases hb' with
    | ref l' hl' => obtain ⟨o', e3, e4⟩ := lv ob; exact ref_uniq X R (.gref k) hb e1 e3 e2 e4
    | gref k' => obtain ⟨o', e3, e4⟩ := lg ob; exact ref_uniq X R (.gref k) hb e1 e3 e2 e4
    | _ => cases hq
  | anyB x => cases oa
  | anyN => cases oa

theorem inL_all (x : V) : ∀ {ys : List V} {r : Bool}, inL σ x ys = some r → (∀ y ∈ ys, okItem σ y = true ∧ ∃ p, eqV σ 4 y x = some p) ∧ (r = true ↔ ∃ y ∈ ys, eqV σ 4 y x = some true)
  | [], r, h => by cases h; simp
  | y :: ys, r, h => by
    unfold inL at h
    split at h
    · rename_i p q h1 h2 h3
      cases h
      obtain ⟨i1, i2⟩ := inL_all x h3
      refine ⟨fun z hz => ?_, ?_⟩
      · rcases List.mem_cons.mp hz with rfl | hz
        · exact ⟨h1, p, h2⟩
        · exact i1 z hz
      · rw [Bool.or_eq_true, i2]
        constructor
        · rintro (h | ⟨z, hz, e⟩)
          · exact ⟨y, .head _, by rw [h2, h]⟩
          · exact ⟨z, .tail _ hz, e⟩
        · rintro ⟨z, hz, e⟩
          rcases List.mem_cons.mp hz with rfl | hz
          · left; rw [h2] at e; exact Option.some.inj e
          · right; exact ⟨z, hz, e⟩
    · cases h

theorem VRs.mem : ∀ {as : List V} {vs : List Value} {N : Nat} {v : Value}, VRs C ρ N as vs → v ∈ vs → ∃ a ∈ as, VR C ρ N a v
  | [], [], _, _, _, h => nomatch h
  | a :: as, u :: vs, _, v, h, hm => by
    rcases List.mem_cons.mp hm with rfl | hm
    · exact ⟨a, .head _, h.1⟩
    · obtain ⟨b, hb, hr⟩ := VRs.mem h.2 hm
      exact ⟨b, .tail _ hb, hr⟩
  | [], _ :: _, _, _, h, _ => h.elim
  | _ :: _, [], _, _, h, _ => h.elim
theorem VRs.mem' : ∀ {as : List V} {vs : List Value} {N : Nat} {a : V}, VRs C ρ N as vs → a ∈ as → ∃ v ∈ vs, VR C ρ N a v
  | [], [], _, _, _, h => nomatch h
  | b :: as, u :: vs, _, a, h, hm => by
    rcases List.mem_cons.mp hm with rfl | hm
    · exact ⟨u, .head _, h.1⟩
    · obtain ⟨w, hb, hr⟩ := VRs.mem' h.2 hm
      exact ⟨w, .tail _ hb, hr⟩
  | [], _ :: _, _, _, h, _ => h.elim
  | _ :: _, [], _, _, h, _ => h.elim

open Classical in
/-- membership: the test of each item, and whether one holds -/
theorem inL_items (X : Facts C) (R : Rep C L ρ σ s.heap) (hu : A.units + 5 < cLine) {x : V} {v : Value} {ys : List V} {us : List Value} {r : Bool} (hx : VR C ρ σ.objs.length x v) (hy : VRs C ρ σ.objs.length ys us) (e : inL σ x ys = some r) :
    ∃ g : Value → Bool, (∀ u ∈ us, EqAt A.in1 s u v (g u)) ∧ us.any g = r := by
  obtain ⟨i1, i2⟩ := inL_all x e
  refine ⟨fun u => decide (∃ y ∈ ys, VR C ρ σ.objs.length y u ∧ eqV σ 4 y x = some true), fun u hm => ?_, ?_⟩
  · obtain ⟨y, hym, hyr⟩ := hy.mem hm
    obtain ⟨ok, p, hp⟩ := i1 y hym
    have q := (eqV_sound X R 4 (A := A.in1) (by show A.units + 1 + 4 < cLine; omega) hyr hx hp).2
    cases p with
    | true => show EqAt A.in1 s u v (decide _); rw [decide_eq_true ⟨y, hym, hyr, hp⟩]; exact q
    | false =>
      show EqAt A.in1 s u v (decide _)
      rw [decide_eq_false]
      · exact q
      · rintro ⟨z, hz, hzr, hze⟩
        have := VR.uniq X R hyr hzr ok (i1 z hz).1
        subst this
        rw [hp] at hze; cases hze
  · by_cases h : ∃ y ∈ ys, eqV σ 4 y x = some true
    · rw [i2.mpr h]
      obtain ⟨y, hm, he⟩ := h
      obtain ⟨u, hu, hr⟩ := hy.mem' hm
      exact List.any_eq_true.mpr ⟨u, hu, decide_eq_true ⟨y, hm, hr, he⟩⟩
    · have : r = false := by
        cases r with
        | false => rfl
        | true => exact absurd (i2.mp rfl) h
      rw [this]
      refine List.any_eq_false.mpr fun u hu hc => ?_
      obtain ⟨y, hm, _, he⟩ := of_decide_eq_true hc
      exact h ⟨y, hm, he⟩

theorem memN_iff : ∀ (xs : List Nat) (k : Nat), memN xs k = true ↔ k ∈ xs
  | [], k => by simp [memN]
  | y :: r, k => by
    unfold memN
    cases h : Nat.beq y k with
    | true => simp [Nat.eq_of_beq_eq_true h]
    | false =>
      have : k ≠ y := fun z => by rw [z, Nat.beq_refl] at h; cases h
      simp [memN_iff r k, this]

/-- the container and its test -/
theorem inV_cont (X : Facts C) (R : Rep C L ρ σ s.heap) (hu : A.units + 5 < cLine) {a b : V} {u v : Value} {r : Bool} (ha : VR C ρ σ.objs.length a u) (hb : VR C ρ σ.objs.length b v) (e : inV σ a b = some r) :
    ∃ d vs n T, v = .ref d ∧ s.heap.get? d = some { cls := .type T, data := .seq vs n } ∧ (T = "list" ∨ T = "tuple") ∧ ∃ g : Value → Bool, (∀ y, y ∈ vs → EqAt A.in1 s y u (g y)) ∧ vs.any g = r := by
  unfold inV at e
  split at e
  · rename_i c xs k h
    cases e
    obtain ⟨d, ob, rfl, hd, ⟨vs, n, rfl, hv⟩, _⟩ := obj_at X R hb h rfl
    generalize hz : V.sym k = z at ha
    cases ha with
    | sym k' t =>
      cases hz
      refine ⟨d, vs, n, "list", rfl, hd, .inl rfl, fun y => match y with | .str w _ => w == tb k | _ => false, fun y hy => ?_, ?_⟩
      · obtain ⟨q, hq, hr⟩ := hv.mem (by simpa using hy)
        obtain ⟨j, _, rfl⟩ := List.mem_map.mp hq
        cases hr with
        | sym _ t' => exact EqAt.str_str _ _ _ _
      · rw [← Array.any_toList]
        have key : ∀ {ns : List Nat} {us : List Value}, VRs C ρ σ.objs.length (ns.map V.sym) us → us.any (fun y => match y with | .str w _ => w == tb k | _ => false) = memN ns k := by
          intro ns
          induction ns with
          | nil => intro us h; cases us with
            | nil => rfl
            | cons => exact h.elim
          | cons j ns ih => intro us h; cases us with
            | nil => exact h.elim
            | cons w us =>
              have h1 := h.1
              generalize hz : V.sym j = z at h1
              cases h1 with
              | sym j' t'' =>
                cases hz
                rw [List.any_cons, ih h.2]
                show ((tb j == tb k) || memN ns k) = (match Nat.beq j k with | true => true | false => memN ns k)
                rw [tb_beq]
                cases Nat.beq j k <;> rfl
              | _ => cases hz
        exact key hv
    | _ => cases hz
  · rename_i xs h
    obtain ⟨d, ob, rfl, hd, vs, n, rfl, hv⟩ := obj_at X R hb h rfl
    obtain ⟨g, h1, h2⟩ := inL_items X R hu ha hv e
    exact ⟨d, vs, n, "tuple", rfl, hd, .inr rfl, g, fun y hy => h1 y (by simpa using hy), by rw [← Array.any_toList]; exact h2⟩
  · rename_i xs h
    obtain ⟨d, ob, rfl, hd, vs, n, rfl, hv⟩ := obj_at X R hb h rfl
    obtain ⟨g, h1, h2⟩ := inL_items X R hu ha hv e
    exact ⟨d, vs, n, "list", rfl, hd, .inl rfl, g, fun y hy => h1 y (by simpa using hy), by rw [← Array.any_toList]; exact h2⟩
  · cases e

theorem ilt_eq (x y : Int) : ilt x y = decide (x < y) := by
  have blt : ∀ a b : Nat, Nat.blt a b = decide (a < b) := fun a b => by
    cases h : Nat.blt a b with
    | true => exact (decide_eq_true (show a < b from Nat.le_of_ble_eq_true h)).symm
    | false =>
      rw [decide_eq_false]
      intro z
      have : Nat.blt a b = true := Nat.ble_eq_true_of_le z
      rw [h] at this; cases this
  cases x with
  | ofNat a => cases y with
    | ofNat b => show Nat.blt a b = _; rw [blt]; congr 1; simp only [Int.ofNat_eq_natCast]; exact propext (by omega)
    | negSucc b => show false = _; rw [decide_eq_false]; simp only [Int.ofNat_eq_natCast]; omega
  | negSucc a => cases y with
    | ofNat b => show true = _; rw [decide_eq_true]; simp only [Int.ofNat_eq_natCast]; omega
    | negSucc b => show Nat.blt b a = _; rw [blt]; congr 1; exact propext (by omega)
theorem cmp_sound (X : Facts C) (R : Rep C L ρ σ s.heap) (hu : A.units + 8 < cLine) {op : CmpOp} {a b : V} {u v : Value} {Q : KV} (ha : VR C ρ σ.objs.length a u) (hb : VR C ρ σ.objs.length b v) (h : cmpop op a b σ Q) :
    wpAny (Mm C) A (compareOp op u v) (Out C L (VR C) ρ σ s Q) Fls s := by
  cases op with
  | Eq =>
    simp only [cmpop] at h
    split at h
    · rename_i r e
      exact (eqV_sound X R 4 (by omega) ha hb e).1 _ _ _ _ (.now' R (.bool r) h)
    · cases h
  | NotEq =>
    simp only [cmpop] at h
    split at h
    · rename_i r e
      cases ha <;> cases hb <;> first | cases e | skip
      · rename_i x y
        rw [beqB_eq] at h
        exact PySem.SeqAt.RcNeAt.bool_bool x y _ _ _ _ (.now' R (.bool _) h)
      · rename_i k t j t'
        have : Nat.beq k j = (tb k == tb j) := (tb_beq k j).symm
        rw [this] at h
        exact ne_str (.now' R (.bool _) h)
    · cases h
  | In =>
    simp only [cmpop] at h
    split at h
    · rename_i r e
      obtain ⟨d, vs, n, T, rfl, hd, hT, g, h1, h2⟩ := inV_cont (A := A) X R (by omega) ha hb e
      rcases hT with rfl | rfl
      · exact in_listAt (A := A) g ⟨_, hd, rfl, _, rfl⟩ h1 (by rw [h2]; exact .now' R (.bool r) h)
      · exact in_tupleAt (A := A) g ⟨_, hd, rfl, _, rfl⟩ h1 (by rw [h2]; exact .now' R (.bool r) h)
    · cases h
  | NotIn =>
    simp only [cmpop] at h
    split at h
    · rename_i r e
      obtain ⟨d, vs, n, T, rfl, hd, hT, g, h1, h2⟩ := inV_cont (A := A) X R (by omega) ha hb e
      rcases hT with rfl | rfl
      · exact notIn_listAt (A := A) g ⟨_, hd, rfl, _, rfl⟩ h1 (by rw [h2]; exact .now' R (.bool _) h)
      · exact notIn_tupleAt (A := A) g ⟨_, hd, rfl, _, rfl⟩ h1 (by rw [h2]; exact .now' R (.bool _) h)
    · cases h
  | Lt =>
    simp only [cmpop] at h
    split at h
    · rename_i x y
      cases ha; cases hb
      rw [ilt_eq] at h
      exact wpAny_lt_int (.now' R (.bool _) h)
    · cases h
  | Gt =>
    simp only [cmpop] at h
    split at h
    · rename_i x y
      cases ha; cases hb
      rw [ilt_eq] at h
      exact PyProof.Rows.gt_int (.now' R (.bool _) h)
    · cases h
  | Is =>
    simp only [cmpop] at h
    split at h
    · rename_i r e
      cases hb
      have : r = (u == Value.none) := by cases ha <;> cases e <;> rfl
      rw [this] at h
      exact is_none (.now' R (.bool _) h)
    · cases h
  | IsNot =>
    simp only [cmpop] at h
    split at h
    · rename_i r e
      cases hb
      have : r = (u == Value.none) := by cases ha <;> cases e <;> rfl
      rw [this] at h
      exact isNot_none (.now' R (.bool _) h)
    · cases h
  | _ => exact h.elim
end
end Mine
namespace Mine
open PySem PySem.SeqAt
theorem small_le {α : Type} {xs : List α} (h : small xs = true) : xs.length < 1000 := Nat.le_of_ble_eq_true h
theorem blt_lt {a b : Nat} (h : Nat.blt a b = true) : a < b := Nat.le_of_ble_eq_true h
theorem line_of {n : Nat} (h : n ≤ 2000000) : n ≤ sizeLine := by rw [sizeLine_eq]; omega
section
variable {C : Cx} {L : Addr} {ρ : Nat → Addr} {σ : St} {s : Shared} {A : Around}

theorem ERs.put {N : Nat} : ∀ {es : List (Nat × V)} {kvs : List (Str × Value)} {k : Nat} {x : V} {v : Value}, ERs C ρ N es kvs → (kvs.map (·.1)).Nodup → VR C ρ N x v → ERs C ρ N (Mine.put es k x) (stored kvs (tb k) v)
  | [], [], k, x, v, _, _, h => ⟨⟨rfl, h⟩, trivial⟩
  | (j, y) :: es, (t, u) :: kvs, k, x, v, h, hn, hx => by
    obtain ⟨⟨h1, h2⟩, h3⟩ := h
    dsimp only at h1 h2
    rw [List.map_cons, List.nodup_cons] at hn
    unfold Mine.put
    cases b : Nat.beq j k with
    | true =>
      have e : t = tb k := by rw [h1, Nat.eq_of_beq_eq_true b]
      have hm : kvs.map (fun kv => if kv.1 = tb k then (kv.1, v) else kv) = kvs := by
        have : ∀ kv ∈ kvs, (if kv.1 = tb k then (kv.1, v) else kv) = kv := fun kv hkv => if_neg fun z => hn.1 (by
          show t ∈ _
          rw [e, ← z]; exact List.mem_map_of_mem hkv)
        exact (List.map_congr_left this).trans (List.map_id _)
      have : stored ((t, u) :: kvs) (tb k) v = (t, v) :: kvs := by
        unfold stored
        rw [if_pos (by simp [e]), List.map_cons, hm]
        simp [e]
      rw [this]
      exact ⟨⟨h1, hx⟩, h3⟩
    | false =>
      have e : ¬ t = tb k := fun z => by
        rw [tb_inj (h1.symm.trans z), Nat.beq_refl] at b; cases b
      have : stored ((t, u) :: kvs) (tb k) v = (t, u) :: stored kvs (tb k) v := by
        unfold stored
        by_cases q : kvs.any (fun kv => kv.1 = tb k) = true
        · rw [if_pos (by rw [List.any_cons, q]; simp), if_pos q, List.map_cons, if_neg e]
        · rw [if_neg (by rw [List.any_cons]; simp only [e, decide_false, Bool.false_or]; exact q), if_neg q]; rfl
      rw [this]
      exact ⟨⟨h1, h2⟩, ERs.put h3 hn.2 hx⟩
  | [], _ :: _, _, _, _, h, _, _ => h.elim
  | _ :: _, [], _, _, _, h, _, _ => h.elim

abbrev trueE (k : Nat) : Nat × V := (k, .bool true)
theorem put_keys : ∀ (xs : List Nat) (k : Nat), Mine.put (xs.map trueE) k (.bool true) = (addK xs k).map trueE
  | [], k => rfl
  | y :: r, k => by
    have ih := put_keys r k
    show (match Nat.beq y k with | true => (y, V.bool true) :: r.map trueE | false => (y, V.bool true) :: Mine.put (r.map trueE) k (.bool true)) = _
    unfold addK at ih ⊢
    unfold memN
    cases Nat.beq y k with
    | true => rfl
    | false =>
      dsimp only
      rw [ih]
      cases memN r k <;> rfl
theorem addK_length (xs : List Nat) (k : Nat) : (addK xs k).length ≤ xs.length + 1 := by
  unfold addK; cases memN xs k <;> simp
theorem ERs.del {N : Nat} : ∀ {xs : List Nat} {kvs : List (Str × Value)} {k : Nat}, ERs C ρ N (xs.map trueE) kvs → ERs C ρ N ((delK xs k).map trueE) (without kvs (tb k))
  | [], [], k, _ => trivial
  | j :: xs, (t, u) :: kvs, k, h => by
    obtain ⟨⟨h1, h2⟩, h3⟩ := h
    dsimp only at h1 h2
    have ih := ERs.del (k := k) h3
    unfold delK without at ih ⊢
    rw [List.filter_cons, List.filter_cons]
    cases b : Nat.beq j k with
    | true =>
      have e : t = tb k := by rw [h1, Nat.eq_of_beq_eq_true b]
      simp only [e, Bool.not_true, Bool.false_eq_true, if_false, ne_eq, not_true, decide_false]
      exact ih
    | false =>
      have e : ¬ t = tb k := fun z => by
        rw [tb_inj (h1.symm.trans z), Nat.beq_refl] at b; cases b
      simp only [Bool.not_false, if_true, e, ne_eq, not_false_eq_true, decide_true]
      exact ⟨⟨h1, h2⟩, ih⟩
  | [], _ :: _, _, h => h.elim
  | _ :: _, [], _, h => h.elim
theorem delK_length (xs : List Nat) (k : Nat) : (delK xs k).length ≤ xs.length := List.length_filter_le _ _

theorem setI_sound (R : Rep C L ρ σ s.heap) {l : Nat} {o : O} {iv v : V} {i u : Value} {Q : St → Prop} (hl : nth σ.objs l = some o) (hi : VR C ρ σ.objs.length iv i) (hv : VR C ρ σ.objs.length v u) (h : setI l o iv v σ Q) :
    wpAny (Mm C) A (setItem (.ref (ρ l)) i u) (Out C L RU ρ σ s fun _ => Q) Fls s := by
  have lv : live o = true := by cases o <;> first | rfl | (unfold setI at h; cases iv <;> first | cases h | (rename_i j; cases j <;> cases h))
  obtain ⟨ob, hd, r, _⟩ := R.obj l o ⟨hl, lv⟩
  have dict : ∀ {es : List (Nat × V)} {o' : O} {kvs : List (Str × Value)} {k : Nat}, iv = .sym k → ob.IsDictOf (PySem.strKind pg C.w) kvs → kvs.length ≤ 10000 → live o' = true → (∀ xs, o ≠ .tuple xs) →
      (∀ kvs', kvs' = stored kvs (tb k) u → ∀ ob' : Obj, ob'.IsDictOf (PySem.strKind pg C.w) kvs' → OR C ρ σ.objs.length o' ob') → Q (setO l o' σ) →
      wpAny (Mm C) A (setItem (.ref (ρ l)) i u) (Out C L RU ρ σ s fun _ => Q) Fls s := by
    intro es o' kvs k ei hk hlen lo ht hor q
    subst ei
    cases hi with
    | sym _ t =>
      have hD : s.heap.DictOf (PySem.strKind pg C.w) (ρ l) kvs := Heap.dictOf_iff.mpr ⟨ob, hd, hk⟩
      refine wpAny_setItem_pairs (knd := PySem.strKind pg C.w) (k := tb k) (strKind_is _ _ _ _) hD (fun h' hd' hs => ?_) (line_of (by omega))
      obtain ⟨ob', e', hk'⟩ := Heap.dictOf_iff.mp hd'
      exact .intro (a := ()) (Pst.turn R ⟨hl, lv⟩ ht hs e' (hor _ rfl ob' hk') lo) trivial q
  unfold setI at h
  split at h
  · rename_i es k
    split at h
    · rename_i hsm
      obtain ⟨kvs, hk, he⟩ := r
      have := he.length
      have hsm := small_le hsm
      exact dict (es := es) (o' := .dict (Mine.put es k v)) rfl hk (by omega) rfl (fun xs z => nomatch z) (fun kvs' e ob' hk' => ⟨kvs', hk', by rw [e]; exact he.put hk.choose_spec.choose_spec.2.2.2.2 hv⟩) h
    · cases h
  · rename_i xs n
    split at h
    · rename_i hc
      have hn := blt_lt (Bool.and_eq_true_iff.mp hc).1
      have hsm := small_le (Bool.and_eq_true_iff.mp hc).2
      cases hi with
      | int _ t =>
        obtain ⟨vs, m, rfl, hx⟩ := r
        have hlen : xs.length = vs.size := by rw [hx.length]; simp
        have hup : (s.heap.update (ρ l) (Obj.mapSeq fun x => x.setIfInBounds n u)).get? (ρ l) = some { cls := .type "list", data := .seq (vs.setIfInBounds n u) m } := by
          rw [Heap.get?_update_self _ hd (by simp [Obj.mapSeq, Obj.isFreed])]
          simp [Obj.mapSeq]
        exact ki_setAt hd (Int.natCast_nonneg n) (by show (n : Int) < 2 ^ 63; omega) (by show (n : Int) < _; omega)
          (.intro (a := ()) (tk := s.toks) (Pst.turn (o' := .list (xs.set n v)) R ⟨hl, rfl⟩ (fun _ z => nomatch z) (Heap.SameBut.update ..) hup ⟨_, _, rfl, by simpa using hx.set hv⟩ rfl) trivial h)
    · cases h
  · rename_i c xs k
    split at h
    · rename_i hc
      obtain ⟨⟨kvs, hk, he⟩, hcap⟩ := r
      have := he.length
      rw [List.length_map] at this
      have hc := blt_lt hc
      refine dict (es := []) (o' := .keys (c + 1) (addK xs k)) rfl hk (by omega) rfl (fun xs z => nomatch z) (fun kvs' e ob' hk' => ⟨⟨kvs', hk', ?_⟩, ?_⟩) h
      · rw [e]
        have z := he.put (k := k) hk.choose_spec.choose_spec.2.2.2.2 hv
        rw [put_keys] at z; exact z
      · exact Nat.le_trans (addK_length _ _) (Nat.succ_le_succ hcap)
    · cases h
  · cases h
end
end Mine
namespace Mine
open PySem PySem.SeqAt
section
variable {C : Cx} {L : Addr} {ρ : Nat → Addr} {σ : St} {s : Shared} {A : Around}

theorem Out.fresh' {o : O} {ob : Obj} {h' : Heap} {d : Addr} {tk : Nat} {Q : KV} (R : Rep C L ρ σ s.heap) (K : Kept L s.heap h') (hn : s.heap.get? d = none) (hab : C.base.objs.size ≤ d) (haL : d ≠ L) (e : h'.get? d = some ob)
    (r : ∀ {ρ'}, (∀ l, l < σ.objs.length → ρ' l = ρ l) → OR C ρ' (σ.objs.length + 1) o ob) (q : newO o σ Q) : Out C L (VR C) ρ σ s Q (.ref d) { s with heap := h', toks := tk } := by
  refine ⟨.ref σ.objs.length, upd ρ σ.objs.length d, { σ with objs := σ.objs ++ [o] }, h', tk, rfl, Pst.add' R K hn hab haL e r, ?_, q⟩
  have : Value.ref d = .ref (upd ρ σ.objs.length d σ.objs.length) := by rw [upd_self]
  rw [this]
  exact .ref _ (by simp)
theorem Out.fresh {o : O} {ob : Obj} {h' : Heap} {d : Addr} {tk : Nat} {Q : KV} (R : Rep C L ρ σ s.heap) (K : Kept L s.heap h') (ha : s.heap.objs.size ≤ d) (e : h'.get? d = some ob)
    (r : ∀ {ρ'}, (∀ l, l < σ.objs.length → ρ' l = ρ l) → OR C ρ' (σ.objs.length + 1) o ob) (q : newO o σ Q) : Out C L (VR C) ρ σ s Q (.ref d) { s with heap := h', toks := tk } := by
  obtain ⟨m, nm, hv⟩ := R.ns
  refine Out.fresh' R K ?_ (Nat.le_trans R.low ha) (Nat.ne_of_gt (Nat.lt_of_lt_of_le nm.lt ha)) e r q
  cases q : s.heap.get? d with
  | none => rfl
  | some x => exact absurd (Heap.lt_size q) (Nat.not_lt.mpr ha)
/-- a new place behind a heap that has grown -/
theorem Out.behind {o : O} {ob : Obj} {h' : Heap} {tk : Nat} {Q : KV} (R : Rep C L ρ σ s.heap) (hk : ∀ b o', s.heap.get? b = some o' → h'.get? b = some o') (hf : ob.isFreed = false)
    (r : ∀ {ρ'}, (∀ l, l < σ.objs.length → ρ' l = ρ l) → OR C ρ' (σ.objs.length + 1) o ob) (q : newO o σ Q) : Out C L (VR C) ρ σ s Q (.ref h'.objs.size) { s with heap := h'.push ob, toks := tk } := by
  obtain ⟨m, nm, hv⟩ := R.ns
  have hL : L < h'.objs.size := (nm.keeps hk).lt
  refine Out.fresh' R (.of fun b o e => Heap.get?_push_of_some _ (hk b o e)) ?_ (Nat.le_trans R.above (Nat.le_of_lt hL)) (Nat.ne_of_gt hL) (Heap.get?_push_size _ hf) r q
  cases q : s.heap.get? h'.objs.size with
  | none => rfl
  | some x => exact absurd (Heap.lt_size (hk _ _ q)) (Nat.lt_irrefl _)
theorem push_keep {h : Heap} {o : Obj} : ∀ b o', h.get? b = some o' → (h.push o).get? b = some o' := fun _ _ e => Heap.get?_push_of_some _ e
theorem Out.pushed {o : O} {ob : Obj} {tk : Nat} {Q : KV} (R : Rep C L ρ σ s.heap) (hf : ob.isFreed = false)
    (r : ∀ {ρ'}, (∀ l, l < σ.objs.length → ρ' l = ρ l) → OR C ρ' (σ.objs.length + 1) o ob) (q : newO o σ Q) : Out C L (VR C) ρ σ s Q (.ref s.heap.objs.size) { s with heap := s.heap.push ob, toks := tk } :=
  Out.fresh R (.of push_keep) (Nat.le_refl _) (Heap.get?_push_size _ hf) r q

theorem newList_sound {xs : List V} {vs : List Value} {Q : KV} (R : Rep C L ρ σ s.heap) (hx : VRs C ρ σ.objs.length xs vs) (hs : small xs = true) (h : newO (.list xs) σ Q) : wpAny (Mm C) A (newList vs) (Out C L (VR C) ρ σ s Q) Fls s :=
  wpAny_newList (Out.pushed (o := .list xs) R rfl (fun ag => ⟨vs.toArray, 0, rfl, by simpa using hx.mono ag (Nat.le_succ _)⟩) h) (line_of (by have := small_le hs; have := hx.length; omega))
theorem newTuple_sound {xs : List V} {vs : List Value} {Q : KV} (R : Rep C L ρ σ s.heap) (hx : VRs C ρ σ.objs.length xs vs) (hs : small xs = true) (h : newO (.tuple xs) σ Q) : wpAny (Mm C) A (newTuple vs) (Out C L (VR C) ρ σ s Q) Fls s :=
  wpAny_newTuple (Out.pushed (o := .tuple xs) R rfl (fun ag => ⟨vs.toArray, 0, rfl, by simpa using hx.mono ag (Nat.le_succ _)⟩) h) (line_of (by have := small_le hs; have := hx.length; omega))

theorem cat_ok : catT.all (fun t => tb t.1 ++ tb t.2.1 == tb t.2.2) = true := by decide +kernel
theorem tb_len (k : Nat) : (tb k).length ≤ 100 := by
  have h : tbl.all (fun s => Nat.ble s.length 100) = true := by decide +kernel
  unfold tb
  split
  · rename_i s e
    exact Nat.le_of_ble_eq_true (List.all_eq_true.mp h s (List.mem_of_getElem? e))
  · show 1 ≤ 100; omega

theorem fits_ok {x : Int} (h : fits x = true) : -(2 : Int) ^ 64 < x ∧ x < 2 ^ 64 := by
  cases x with
  | ofNat n => have : n < 1000000 := Nat.le_of_ble_eq_true h; constructor <;> (show _ ; simp only [Int.ofNat_eq_natCast]; omega)
  | negSucc n => cases h
theorem bin_sound (X : Facts C) (R : Rep C L ρ σ s.heap) {op : Operator} {a b : V} {u v : Value} {Q : KV} (ha : VR C ρ σ.objs.length a u) (hb : VR C ρ σ.objs.length b v) (h : binop op a b σ Q) :
    wpAny (Mm C) A (binaryOp op u v) (Out C L (VR C) ρ σ s Q) Fls s := by
  unfold binop at h
  split at h
  · cases ha; cases hb; exact wpAny_add_int (.now R (.int _ _) h)
  · cases ha; cases hb; exact PyProof.Rows.sub_int (.now R (.int _ _) h)
  · rename_i x y
    obtain ⟨hs, h⟩ := h
    · cases ha; cases hb
      exact PyProof.Rows.mul_int (.now R (.int _ _) h) (IntMulOk.of_left (intBits_le_64 (by have := (fits_ok hs.1).1; omega) (by have := (fits_ok hs.1).2; omega)))
  · rename_i x n
    split at h
    · rename_i hs
      generalize hz : V.int (Int.ofNat (n + 1)) = z at hb
      cases ha
      cases hb with
      | int i t =>
        cases hz
        have hn : n < 1000000 := Nat.le_of_ble_eq_true hs
        exact PyProof.Rows.floordiv_int (fun z => nomatch z) (.now R (.int _ _) h) (.inl (PyProof.noPylong_small (by show n + 1 < _; omega)))
      | _ => cases hz
    · cases h
  · rename_i x n
    generalize hz : V.int (Int.ofNat (n + 1)) = z at hb
    cases ha
    cases hb with
    | int i t => cases hz; exact PyProof.Rows.mod_int' (fun z => nomatch z) (.now R (.int _ _) h)
    | _ => cases hz
  · rename_i x y
    split at h
    · rename_i t e
      generalize hz : V.sym x = z at ha
      generalize hz' : V.sym y = z' at hb
      cases ha with
      | sym _ t1 =>
        cases hb with
        | sym _ t2 =>
          cases hz; cases hz'
          have hm := List.mem_of_find?_eq_some e
          have hc := List.find?_some e
          have hc := Bool.and_eq_true_iff.mp hc
          have e1 := Nat.eq_of_beq_eq_true hc.1
          have e2 := Nat.eq_of_beq_eq_true hc.2
          have e3 := beq_iff_eq.mp (List.all_eq_true.mp cat_ok t hm)
          rw [e1, e2] at e3
          refine PyProof.Rows.add_str (fun t' tk => ?_) (line_of (by have := tb_len x; have := tb_len y; omega))
          rw [e3]
          exact .now R (.sym _ _) h
        | _ => cases hz'
      | _ => cases hz
    · cases h
  · rename_i a b _ _ _
    split at h
    · rename_i xs ys h1 h2
      split at h
      · rename_i hs
        have hs := Bool.and_eq_true_iff.mp hs
        obtain ⟨d, ob, rfl, hd, vs, n, rfl, hv⟩ := obj_at X R ha h1 rfl
        obtain ⟨e, ob', rfl, he, us, m, rfl, hu⟩ := obj_at X R hb h2 rfl
        have l1 : xs.length = vs.size := by rw [hv.length]; simp
        have l2 : ys.length = us.size := by rw [hu.length]; simp
        exact P.add_list hd he (Out.pushed (o := .list (xs ++ ys)) R rfl (fun ag => ⟨vs ++ us, 0, rfl, by simpa using (hv.append hu).mono ag (Nat.le_succ _)⟩) h) (line_of (by have := small_le hs.1; have := small_le hs.2; omega))
      · cases h
    · rename_i xs ys h1 h2
      obtain ⟨d, ob, rfl, hd, vs, n, rfl, hv⟩ := obj_at X R ha h1 rfl
      obtain ⟨e, ob', rfl, he, us, m, rfl, hu⟩ := obj_at X R hb h2 rfl
      have l1 : xs.length = vs.size := by rw [hv.length]; simp
      have l2 : ys.length = us.size := by rw [hu.length]; simp
      have emp : ∀ {z : Array Value}, z.isEmpty = true ↔ z.size = 0 := fun {z} => by simp
      unfold addT at h
      split at h
      · exact PySem.concat_meets ⟨_, hd, rfl⟩ ⟨_, he, rfl⟩ noFill_tuple_add seq_tuple_add F.slot_tuple_add F.entry_tuple_add (F.args_tuple_add_2 _ _) (AutoSeq1.tuple___add___tuple_tuple_0 d vs n e us m (emp.mpr (by simpa using l1.symm))) ⟨hd, he, .now' R hb h⟩
      · exact PySem.concat_meets ⟨_, hd, rfl⟩ ⟨_, he, rfl⟩ noFill_tuple_add seq_tuple_add F.slot_tuple_add F.entry_tuple_add (F.args_tuple_add_2 _ _) (AutoSeq1.tuple___add___tuple_tuple_1 d vs n e us m (fun z => by have := emp.mp z; simp at l1; omega) (emp.mpr (by simpa using l2.symm))) ⟨hd, he, .now' R ha h⟩
      · rename_i x xs y ys
        split at h
        · rename_i hs
          have hs := Bool.and_eq_true_iff.mp hs
          exact P.add_tuple hd he (fun z => by have := emp.mp z; simp at l1; omega) (fun z => by have := emp.mp z; simp at l2; omega) (Out.pushed (o := .tuple ((x :: xs) ++ (y :: ys))) R rfl (fun ag => ⟨vs ++ us, 0, rfl, by simpa using (hv.append hu).mono ag (Nat.le_succ _)⟩) h) (line_of (by have := small_le hs.1; have := small_le hs.2; omega))
        · cases h
    · cases h
  · cases h
end
end Mine
namespace Mine
open PySem PySem.SeqAt
noncomputable def mkId : MK → String
  | .app => "list.append"
  | .pop => "list.pop"
  | .dpop => "dict.pop"
section
variable {C : Cx} {L : Addr} {ρ : Nat → Addr} {σ : St} {s : Shared} {A : Around}

theorem app_at {l : Nat} {o o' : O} {vs : Array Value} {n : Nat} {u : Value} {Q : KV} (R : Rep C L ρ σ s.heap) (hl : Has σ l o) (ht : ∀ xs, o ≠ .tuple xs) (hd : s.heap.get? (ρ l) = some { cls := .type "list", data := .seq vs n }) (hz : vs.size ≤ sizeLine)
    (r : OR C ρ σ.objs.length o' { cls := .type "list", data := .seq (vs.push u) (n + 1) }) (lo : live o' = true) (q : Q .none (setO l o' σ)) : wpAny (Mm C) A (call (.builtin "list.append") [.ref (ρ l), u]) (Out C L (VR C) ρ σ s Q) Fls s :=
  append_at hd (fun _ hs e => Out.intro (a := V.none) (Pst.turn (o' := o') R hl ht hs e r lo) .none q) hz
theorem pop_at {l : Nat} {o o' : O} {vs : Array Value} {n : Nat} {t : Tok} {y : Value} {x : V} {Q : KV} (R : Rep C L ρ σ s.heap) (hl : Has σ l o) (ht : ∀ xs, o ≠ .tuple xs) (hd : s.heap.get? (ρ l) = some { cls := .type "list", data := .seq vs n }) (hz : vs.size ≤ sizeLine)
    (hy : vs[0]? = some y) (hx : VR C ρ σ.objs.length x y) (r : OR C ρ σ.objs.length o' { cls := .type "list", data := .seq (vs.eraseIdxIfInBounds 0) (n + 1) }) (lo : live o' = true) (q : Q x (setO l o' σ)) :
    wpAny (Mm C) A (call (.builtin "list.pop") [.ref (ρ l), .int (.ofNat 0) t]) (Out C L (VR C) ρ σ s Q) Fls s := by
  have hp : 0 < vs.size := (Array.getElem?_eq_some_iff.mp hy).1
  refine call_meets F.slot_list_pop ⟨_, hd, rfl⟩ F.entry_list_pop (F.args_list_pop_2 _ _) (MeetsSeq.list_pop_at (ρ l) vs n 0 t 0 y (by decide) (seqIndex_of (k := 0) (by decide) (by omega)) hy hz) ⟨hd, ?_⟩
  refine Out.intro (tk := s.toks) (Pst.turn (o' := o') R hl ht (Heap.SameBut.update ..) (ob := { cls := .type "list", data := .seq (vs.eraseIdxIfInBounds 0) (n + 1) }) ?_ r lo) (by simpa [setO] using hx) q
  rw [Heap.get?_update_self _ hd (by simp [Obj.mapSeq, Obj.isFreed])]
  have hne : (vs.eraseIdxIfInBounds 0).size ≠ vs.size := by
    obtain ⟨l⟩ := vs
    cases l with
    | nil => simp at hp
    | cons a l => simp
  simp only [Obj.mapSeq]
  rw [if_neg (by simpa using hne)]
theorem erase0 {vs : Array Value} {y : Value} {ys : List Value} (e : vs.toList = y :: ys) : (vs.eraseIdxIfInBounds 0).toList = ys := by
  obtain ⟨l⟩ := vs
  simp only at e
  subst e
  simp

theorem lk_keys : ∀ (xs : List Nat) (j : Nat), memN xs j = true → lk (xs.map trueE) j = some (.bool true)
  | [], _, h => by cases h
  | y :: r, j, h => by
    show (match Nat.beq y j with | true => some (V.bool true) | false => lk (r.map trueE) j) = _
    unfold memN at h
    cases b : Nat.beq y j with
    | true => rfl
    | false => rw [b] at h; exact lk_keys r j h
theorem at_none {N : Nat} : ∀ {xs : List Nat} {kvs : List (Str × Value)} {j : Nat}, ERs C ρ N (xs.map trueE) kvs → memN xs j = false → valueAt kvs (tb j) = none
  | [], [], _, _, _ => rfl
  | y :: r, (t, u) :: q, j, h, hm => by
    obtain ⟨⟨h1, _⟩, h3⟩ := h
    dsimp only at h1
    unfold memN at hm
    unfold valueAt
    rw [List.find?_cons]
    cases b : Nat.beq y j with
    | true => rw [b] at hm; cases hm
    | false =>
      rw [b] at hm
      have e : ¬ t = tb j := fun z => by
        rw [tb_inj (h1.symm.trans z), Nat.beq_refl] at b; cases b
      simp only [e, decide_false]
      exact at_none h3 hm
  | [], _ :: _, _, h, _ => h.elim
  | _ :: _, [], _, h, _ => h.elim

theorem meth_op (X : Facts C) {k : MK} {ov : V} {as : List V} {u : Value} {vs : List Value} {Q : KV} (R : Rep C L ρ σ s.heap) (hu : VR C ρ σ.objs.length ov u) (ha : VRs C ρ σ.objs.length as vs) (h : method k ov as σ Q) :
    wpAny (Mm C) A (call (.builtin (mkId k)) (u :: vs)) (Out C L (VR C) ρ σ s Q) Fls s := by
  unfold method at h
  split at h
  · rename_i l
    cases hu with
    | ref _ hll =>
    split at h
    · rename_i o ho
      split at h
      · rename_i v
        cases vs with
        | nil => exact ha.elim
        | cons w vs => cases vs with
          | cons => exact ha.2.elim
          | nil =>
            unfold m_app at h
            split at h
            · rename_i xs
              split at h
              · rename_i hs
                obtain ⟨ob, hd, ⟨us, n, rfl, hx⟩, _⟩ := R.obj l _ ⟨ho, rfl⟩
                have hlen : xs.length = us.size := by rw [hx.length]; simp
                exact app_at (o' := .list (xs ++ [v])) R ⟨ho, rfl⟩ (fun _ z => nomatch z) hd (line_of (by have := small_le hs; omega)) ⟨_, _, rfl, by simpa using hx.append (bs := [v]) (us := [w]) ⟨ha.1, trivial⟩⟩ rfl h
              · cases h
            · rename_i c xs k
              split at h
              · rename_i hs
                obtain ⟨ob, hd, ⟨⟨us, n, rfl, hx⟩, hc⟩, _⟩ := R.obj l _ ⟨ho, rfl⟩
                have hlen : xs.length = us.size := by have := hx.length; simp at this; exact this
                exact app_at (o' := .syms (c + 1) (xs ++ [k])) R ⟨ho, rfl⟩ (fun _ z => nomatch z) hd (line_of (by have := blt_lt hs; omega)) ⟨⟨_, _, rfl, by simpa using hx.append (bs := [.sym k]) (us := [w]) ⟨ha.1, trivial⟩⟩, by simp; omega⟩ rfl h
              · cases h
            · cases h
      · rename_i v
        cases vs with
        | nil => exact ha.elim
        | cons w vs => cases vs with
          | cons => exact ha.2.elim
          | nil =>
            unfold m_pop at h
            split at h
            · rename_i x xs
              split at h
              · rename_i hs
                obtain ⟨ob, hd, ⟨us, n, rfl, hx⟩, _⟩ := R.obj l _ ⟨ho, rfl⟩
                have ha1 := ha.1
                cases ha1 with
                | int _ t =>
                  have hlen : xs.length + 1 = us.size := by have := hx.length; simp at this; exact this
                  cases e : us.toList with
                  | nil => rw [e] at hx; exact hx.elim
                  | cons y ys =>
                    rw [e] at hx
                    refine pop_at (o' := .list xs) R ⟨ho, rfl⟩ (fun _ z => nomatch z) hd (line_of (by have := small_le hs; omega)) (by rw [← Array.getElem?_toList, e]; rfl) hx.1 ⟨_, _, rfl, by rw [erase0 e]; exact hx.2⟩ rfl h
              · cases h
            · rename_i c x xs
              split at h
              · rename_i hs
                obtain ⟨ob, hd, ⟨⟨us, n, rfl, hx⟩, hc⟩, _⟩ := R.obj l _ ⟨ho, rfl⟩
                have ha1 := ha.1
                cases ha1 with
                | int _ t =>
                  have hlen : xs.length + 1 = us.size := by have := hx.length; simp at this; exact this
                  cases e : us.toList with
                  | nil => rw [e] at hx; exact hx.elim
                  | cons y ys =>
                    rw [e] at hx
                    refine pop_at (o' := .syms c xs) R ⟨ho, rfl⟩ (fun _ z => nomatch z) hd (line_of (by have := blt_lt hs; simp at hc; omega)) (by rw [← Array.getElem?_toList, e]; rfl) hx.1 ⟨⟨_, _, rfl, by rw [erase0 e]; exact hx.2⟩, by simp at hc; omega⟩ rfl h
              · cases h
            · cases h
      · rename_i as'
        have dict : ∀ {c : Nat} {xs : List Nat} {j : Nat} {t : Tok} {rest : List Value} {x : V}, o = .keys c xs → vs = .str (tb j) t :: rest → (rest = [] ∧ memN xs j = true ∧ x = .bool true ∨ rest = [.none] ∧ x = .any) → c < 1000 → Q x (setO l (.keys c (delK xs j)) σ) →
            wpAny (Mm C) A (call (.builtin (mkId .dpop)) (.ref (ρ l) :: vs)) (Out C L (VR C) ρ σ s Q) Fls s := by
          intro c xs j t rest x eo ev hr hc q
          subst eo; subst ev
          obtain ⟨ob, hd, ⟨⟨kvs, hk, he⟩, hcap⟩, hb, _⟩ := R.obj l _ ⟨ho, rfl⟩
          have hD : s.heap.DictOf (PySem.strKind pg C.w) (ρ l) kvs := Heap.dictOf_iff.mpr ⟨ob, hd, hk⟩
          have hlen : xs.length = kvs.length := by have := he.length; simpa using this
          have lo : (ρ l == sysModules) = false := by
            rw [beq_eq_false_iff_ne]
            exact Nat.ne_of_gt (Nat.lt_of_lt_of_le (PyProof.Rows.modules_low X.nolimit) hb)
          have turn : ∀ {h' : Heap} {tk : Nat} {w : Value}, VR C ρ σ.objs.length x w → h'.DictOf (PySem.strKind pg C.w) (ρ l) (without kvs (tb j)) → Heap.SameBut (ρ l) s.heap h' →
              Out C L (VR C) ρ σ s Q w { s with heap := h', toks := tk } := by
            intro h' tk w hw hd' hs
            obtain ⟨ob', e', hk'⟩ := Heap.dictOf_iff.mp hd'
            exact Out.intro (Pst.turn (o' := .keys c (delK xs j)) R ⟨ho, rfl⟩ (fun _ z => nomatch z) hs e' ⟨⟨_, hk', he.del⟩, Nat.le_trans (delK_length _ _) hcap⟩ rfl) (by simpa [setO] using hw) q
          have pres : ∀ {more : List Value}, rest = more → (more = [] ∨ ∃ y, more = [y]) → memN xs j = true → (∀ w, valueAt kvs (tb j) = some w → VR C ρ σ.objs.length x w) → argsOk "dict.pop" ⟨.ref (ρ l) :: .str (tb j) t :: more, []⟩ →
              wpAny (Mm C) A (call (.builtin "dict.pop") (.ref (ρ l) :: .str (tb j) t :: more)) (Out C L (VR C) ρ σ s Q) Fls s := by
            intro more em hm1 hm2 hw ha
            obtain ⟨w, hw1, _⟩ := lk_entries he (lk_keys xs j hm2)
            exact call_meetsIn F.slot_dict_pop hD.typeIs F.entry_dict_pop ha (meets_dict_pop_there (PySem.strKind pg C.w) (ρ l) (k := tb j) (strKind_is _ _ _ _) more hm1 rfl) ⟨kvs, w, hD, line_of (by omega), hw1, fun h' hd' hs => turn (hw w hw1) hd' hs⟩
          have isT : ∀ w, memN xs j = true → valueAt kvs (tb j) = some w → w = .bool true := by
            intro w hm hw
            obtain ⟨w', hw1, hr⟩ := lk_entries he (lk_keys xs j hm)
            rw [hw] at hw1
            cases hw1
            cases hr; rfl
          rcases hr with ⟨er, hm, ex⟩ | ⟨er, ex⟩
          · subst er; subst ex
            exact pres rfl (.inl rfl) hm (fun w hw => by rw [isT w hm hw]; exact .bool true) (F.args_dict_pop_2 _ _)
          · subst er; subst ex
            cases hm : memN xs j with
            | true => exact pres rfl (.inr ⟨_, rfl⟩) hm (fun w hw => by rw [isT w hm hw]; exact .anyB true) (F.args_dict_pop_3 _ _ _)
            | false =>
              refine call_meetsIn F.slot_dict_pop hD.typeIs F.entry_dict_pop (F.args_dict_pop_3 _ _ _) (meets_dict_pop_default (PySem.strKind pg C.w) (ρ l) (k := tb j) (strKind_is _ _ _ _) lo rfl .none) ⟨kvs, hD, at_none he hm, ?_⟩
              have hdel : delK xs j = xs := by
                unfold delK
                refine List.filter_eq_self.mpr fun y hy => ?_
                cases b : Nat.beq y j with
                | false => rfl
                | true =>
                  rw [Nat.eq_of_beq_eq_true b] at hy
                  rw [(memN_iff xs j).mpr hy] at hm; cases hm
              have hself : setO l (.keys c (delK xs j)) σ = σ := by
                rw [hdel]
                unfold setO
                have : σ.objs.set l (.keys c xs) = σ.objs := by
                  rw [nth_eq] at ho
                  obtain ⟨hlt, e⟩ := List.getElem?_eq_some_iff.mp ho
                  rw [← e]; exact List.set_getElem_self hlt
                rw [this]
              rw [hself] at q
              exact .now R .anyN q
        unfold m_dpop at h
        split at h
        · rename_i c xs j
          split at h
          · rename_i hc
            cases vs with
            | nil => exact ha.elim
            | cons w vs => cases vs with
              | nil => exact ha.2.elim
              | cons w' vs => cases vs with
                | cons => exact ha.2.2.elim
                | nil =>
                  have h1 := ha.1
                  have h2 := ha.2.1
                  generalize hz : V.sym j = z at h1
                  cases h1 with
                  | sym _ t => cases hz; cases h2; exact dict rfl rfl (.inr ⟨rfl, rfl⟩) (blt_lt hc) h
                  | _ => cases hz
          · cases h
        · rename_i c xs j
          split at h
          · rename_i hc hm
            cases vs with
            | nil => exact ha.elim
            | cons w vs => cases vs with
              | cons => exact ha.2.elim
              | nil =>
                have h1 := ha.1
                generalize hz : V.sym j = z at h1
                cases h1 with
                | sym _ t => cases hz; exact dict rfl rfl (.inl ⟨rfl, hm, rfl⟩) (blt_lt hc) h
                | _ => cases hz
          · cases h
        · cases h
      · cases h
    · cases h
  · cases h
end
end Mine
namespace Mine
open PySem PySem.SeqAt
section
variable {C : Cx} {L : Addr} {ρ : Nat → Addr} {σ : St} {s : Shared} {A : Around}

theorem isList_of {h : Heap} {d : Addr} {vs : Array Value} {n : Nat} (e : h.get? d = some { cls := .type "list", data := .seq vs n }) : h.IsList d vs := ⟨_, e, rfl, n, rfl⟩

noncomputable def bval : BK → Value
  | .list => .type "list"
  | .tuple => .type "tuple"
  | .len => .builtin "len"
  | .sorted => .builtin "sorted"

theorem VRs.perm : ∀ {xs : List V} {vs ys : List Value} {N : Nat}, VRs C ρ N xs vs → vs.Perm ys → ∃ zs, zs.Perm xs ∧ VRs C ρ N zs ys := by
  intro xs vs ys N h p
  induction p generalizing xs with
  | nil => cases xs with
    | nil => exact ⟨[], .refl _, trivial⟩
    | cons => exact h.elim
  | cons v p ih => cases xs with
    | nil => exact h.elim
    | cons x xs =>
      obtain ⟨zs, q, r⟩ := ih h.2
      exact ⟨x :: zs, q.cons _, h.1, r⟩
  | swap a b l => cases xs with
    | nil => exact h.elim
    | cons x xs => cases xs with
      | nil => exact h.2.elim
      | cons y xs => exact ⟨y :: x :: xs, .swap .., h.2.1, h.1, h.2.2⟩
  | trans p q ih1 ih2 =>
    obtain ⟨zs, p1, r1⟩ := ih1 h
    obtain ⟨zs', p2, r2⟩ := ih2 r1
    exact ⟨zs', p2.trans p1, r2⟩
theorem strs_of : ∀ {xs : List Nat} {vs : List Value} {N : Nat}, VRs C ρ N (xs.map V.sym) vs → StrsAre vs (xs.map tb)
  | [], [], _, _ => .nil
  | x :: xs, v :: vs, N, h => by
    have h1 := h.1
    generalize hz : V.sym x = z at h1
    cases h1 with
    | sym k t => cases hz; exact .cons _ t (strs_of h.2)
    | _ => cases hz
  | [], _ :: _, _, h => h.elim
  | _ :: _, [], _, h => h.elim
theorem of_strs : ∀ {xs : List Nat} {vs : List Value} {N : Nat}, StrsAre vs (xs.map tb) → VRs C ρ N (xs.map V.sym) vs
  | [], vs, N, h => by cases h; trivial
  | x :: xs, vs, N, h => by cases h with | cons _ t h' => exact ⟨.sym x t, of_strs h'⟩
theorem perm_map_tb' : ∀ {ss ss' : List Str}, ss.Perm ss' → ∀ {xs : List Nat}, ss = xs.map tb → ∃ ys : List Nat, ys.Perm xs ∧ ss' = ys.map tb := by
  intro ss ss' p
  induction p with
  | nil => intro xs e; cases xs with
    | nil => exact ⟨[], .refl _, rfl⟩
    | cons => cases e
  | cons a _ ih => intro xs e; cases xs with
    | nil => cases e
    | cons x xs =>
      obtain ⟨e1, e2⟩ := List.cons.inj e
      obtain ⟨ys, q, r⟩ := ih e2
      exact ⟨x :: ys, q.cons _, by rw [r, e1]; rfl⟩
  | swap a b l => intro xs e; cases xs with
    | nil => cases e
    | cons x xs => cases xs with
      | nil => cases e
      | cons y xs =>
        simp only [List.map_cons, List.cons.injEq] at e
        exact ⟨y :: x :: xs, .swap .., by simp [e.1, e.2.1, e.2.2]⟩
  | trans _ _ ih1 ih2 =>
    intro xs e
    obtain ⟨ys, q, r⟩ := ih1 e
    obtain ⟨zs, q', r'⟩ := ih2 r
    exact ⟨zs, q'.trans q, r'⟩

theorem bl_list_sound (X : Facts C) {a : V} {u : Value} {o : O} {Q : KV} (R : Rep C L ρ σ s.heap) (ha : VR C ρ σ.objs.length a u) (eo : obj σ a = some o) (h : bl_list o σ Q) : wpAny (Mm C) A (call (.type "list") [u]) (Out C L (VR C) ρ σ s Q) Fls s := by
  unfold bl_list at h
  split at h
  · rename_i xs
    split at h
    · rename_i hs
      obtain ⟨d, ob, rfl, hd, vs, n, rfl, hv⟩ := obj_at X R ha eo rfl
      have hlen := hv.length
      exact PySem.call_list_seq d (.inl rfl) hd rfl rfl (fun h' c' hk e => Out.fresh (o := .list xs) R (.of hk) (Nat.le_refl _) e (fun ag => ⟨vs, c', rfl, hv.mono ag (Nat.le_succ _)⟩) h) (line_of (by have := small_le hs; simp at hlen; omega))
    · cases h
  · rename_i xs
    obtain ⟨d, ob, rfl, hd, ⟨vs, n, rfl, hv⟩, hl⟩ := obj_at X R ha eo rfl
    have hlen := hv.length
    exact PySem.call_list_seq d (.inl rfl) hd rfl rfl (fun h' c' hk e => Out.fresh (o := .nums xs) R (.of hk) (Nat.le_refl _) e (fun ag => ⟨⟨vs, c', rfl, hv.mono ag (Nat.le_succ _)⟩, hl⟩) h) (line_of (by simp at hlen; omega))
  · cases h
theorem bl_tuple_sound (X : Facts C) {a : V} {u : Value} {o : O} {Q : KV} (R : Rep C L ρ σ s.heap) (ha : VR C ρ σ.objs.length a u) (eo : obj σ a = some o) (h : bl_tuple o σ Q) : wpAny (Mm C) A (call (.type "tuple") [u]) (Out C L (VR C) ρ σ s Q) Fls s := by
  unfold bl_tuple at h
  split at h
  · rename_i xs
    split at h
    · rename_i hs
      obtain ⟨d, ob, rfl, hd, vs, n, rfl, hv⟩ := obj_at X R ha eo rfl
      have hlen := hv.length
      refine PySem.call_tuple_list (isList_of hd) (fun h' hk => ?_) (line_of (by have := small_le hs; simp at hlen; omega))
      exact Out.behind (o := .tuple xs) (tk := s.toks) R hk rfl (fun ag => ⟨vs, 0, rfl, hv.mono ag (Nat.le_succ _)⟩) h
    · cases h
  · cases h
theorem bl_len_sound (X : Facts C) {a : V} {u : Value} {o : O} {Q : KV} (R : Rep C L ρ σ s.heap) (ha : VR C ρ σ.objs.length a u) (eo : obj σ a = some o) (h : bl_len o σ Q) : wpAny (Mm C) A (call (.builtin "len") [u]) (Out C L (VR C) ρ σ s Q) Fls s := by
  have go : ∀ {d : Addr} {vs : Array Value} {n k : Nat}, s.heap.get? d = some { cls := .type "list", data := .seq vs n } → k = vs.size → k ≤ 1048576 → Q (.int (.ofNat k)) σ → wpAny (Mm C) A (call (.builtin "len") [.ref d]) (Out C L (VR C) ρ σ s Q) Fls s := by
    intro d vs n k hd e hk q
    subst e
    exact Calls.call_len_list (isList_of hd) (by omega) (.now R (.int _ _) q)
  unfold bl_len at h
  split at h
  · rename_i xs
    split at h
    · rename_i hs
      obtain ⟨d, ob, rfl, hd, vs, n, rfl, hv⟩ := obj_at X R ha eo rfl
      have hlen := hv.length
      exact go hd (by simpa using hlen) (by have := small_le hs; omega) h
    · cases h
  · rename_i c xs
    split at h
    · rename_i hs
      obtain ⟨d, ob, rfl, hd, ⟨vs, n, rfl, hv⟩, hl⟩ := obj_at X R ha eo rfl
      have hlen := hv.length
      exact go hd (by simpa using hlen) (by have := blt_lt hs; omega) h
    · cases h
  · rename_i xs
    obtain ⟨d, ob, rfl, hd, ⟨vs, n, rfl, hv⟩, hl⟩ := obj_at X R ha eo rfl
    have hlen := hv.length
    exact go hd (by simpa using hlen) hl h
  · cases h
theorem bl_abs_sound {a : V} {u : Value} {Q : KV} (R : Rep C L ρ σ s.heap) (ha : VR C ρ σ.objs.length a u) (h : bl_abs a σ Q) : wpAny (Mm C) A (call (.builtin "abs") [u]) (Out C L (VR C) ρ σ s Q) Fls s := by
  cases ha with
  | int i t => exact PyProof.Rows.call_abs_int fun u tk => .now R (.int _ _) h
  | _ => cases h
end
end Mine
namespace Mine
open PySem PySem.SeqAt
section
variable {C : Cx} {L : Addr} {ρ : Nat → Addr} {σ : St} {s : Shared} {A : Around}

theorem strs_items {xs : List Nat} {vs : List Value} {kvs : List (Str × Value)} {N : Nat} (he : ERs C ρ N (xs.map fun k => (k, V.bool true)) kvs) :
    ∀ (vs : List Value) (i : Nat), vs.length = kvs.length - i → i ≤ kvs.length → (∀ (j : Nat) (v : Value), vs[j]? = some v → ∃ k x, kvs[i + j]? = some (k, x) ∧ (PySem.strKind pg C.w).is k v = true) → StrsAre vs ((xs.drop i).map tb) := by
  intro vs
  induction vs with
  | nil =>
    intro i hl hi _
    have : xs.length = kvs.length := by have := he.length; simpa using this
    have : xs.drop i = [] := List.drop_of_length_le (by simp at hl; omega)
    rw [this]; exact .nil
  | cons v vs ih =>
    intro i hl hi hv
    have hlen : xs.length = kvs.length := by have := he.length; simpa using this
    have hlt : i < xs.length := by simp at hl; omega
    obtain ⟨k, x, hk, hs⟩ := hv 0 v rfl
    obtain ⟨t, rfl⟩ := Value.isStrOf_shape hs
    have hkx : k = tb xs[i] := by
      have gen : ∀ {xs : List Nat} {kvs : List (Str × Value)} {i : Nat} (h : i < xs.length), ERs C ρ N (xs.map fun k => (k, V.bool true)) kvs → kvs[i]? = some (k, x) → k = tb xs[i] := by
        intro xs
        induction xs with
        | nil => intro _ _ h; cases h
        | cons y ys ih => intro kvs i h he e; cases kvs with
          | nil => cases e
          | cons q kvs => cases i with
            | zero => cases e; exact he.1.1
            | succ i => exact ih (Nat.lt_of_succ_lt_succ h) he.2 (by simpa using e)
      exact gen hlt he hk
    rw [List.drop_eq_getElem_cons hlt, List.map_cons, hkx]
    refine .cons _ t (ih (i + 1) (by simp at hl; omega) (by omega) fun j u hu => ?_)
    obtain ⟨k', x', h1, h2⟩ := hv (j + 1) u (by simpa using hu)
    exact ⟨k', x', by rw [← h1]; congr 1; omega, h2⟩

theorem bl_sorted_sound (X : Facts C) {a : V} {u : Value} {o : O} {Q : KV} (hh : A.handled = none) (R : Rep C L ρ σ s.heap) (ha : VR C ρ σ.objs.length a u) (eo : obj σ a = some o) (h : bl_sorted o σ Q) : wpAny (Mm C) A (call (.builtin "sorted") [u]) (Out C L (VR C) ρ σ s Q) Fls s := by
  unfold bl_sorted at h
  split at h
  · rename_i c xs
    split at h
    · rename_i hc
      have hc := blt_lt hc
      cases ha with
      | ref l hl =>
        obtain ⟨ob, hd, ⟨⟨kvs, hk, he⟩, hcap⟩, hb, _⟩ := R.obj l _ ⟨eo, rfl⟩
        have hD : s.heap.DictOf (PySem.strKind pg C.w) (ρ l) kvs := Heap.dictOf_iff.mpr ⟨ob, hd, hk⟩
        have hlen : xs.length = kvs.length := by have := he.length; simpa using this
        have lo : (ρ l == sysModules) = false := by
          rw [beq_eq_false_iff_ne]
          exact Nat.ne_of_gt (Nat.lt_of_lt_of_le (PyProof.Rows.modules_low X.nolimit) hb)
        obtain ⟨ep, hat⟩ := hD.dictAt
        refine Calls.call_function_entry kind_sorted plain_sorted entry_sorted (args_sorted1 _) ?_
        unfold Builtin.«sorted»
        refine wpAny_bind (m := checkCount "sorted" 1 1 _) (wpAny_pure ?_)
        refine wpAny_bind (kdu_collect (A := A.in1) (kdl_dict (knd := PySem.strKind pg C.w) (kvs := kvs) (ep := ep) lo) hh hat (line_of (by omega)) fun h' tk acc hk' hacc => ?_)
        have hl' : acc.toList.length = kvs.length := by rw [Array.length_toList]; exact hacc.1
        have hS : StrsAre acc.toList (xs.map tb) := by
          have := strs_items he acc.toList 0 (by simpa using hl') (Nat.zero_le _) (vs := acc.toList) fun j v e => by
            obtain ⟨k, x, h1, h2⟩ := hacc.2 j v (by rw [← Array.getElem?_toList]; exact e)
            exact ⟨k, x, by rw [Nat.zero_add]; exact h1, h2⟩
          simpa using this
        refine wpAny_bind (wpAny_newList ?_ (line_of (by rw [hl']; omega)))
        have hD' : (h'.push { cls := .type "list", data := .seq acc.toList.toArray }).get? h'.objs.size = some (seqObj "list" acc.toList.toArray 0) := Heap.get?_push_size _ rfl
        have key : wpAny (Mm C) A.in1 (call (.builtin "list.sort") [.ref h'.objs.size]) (fun _ s' => Out C L (VR C) ρ σ s Q (.ref h'.objs.size) s') Fls { s with heap := h'.push { cls := .type "list", data := .seq acc.toList.toArray }, toks := tk } := by
          refine wpAny_call_entry slot_list_sort (T := "list") ⟨_, hD', rfl⟩ entry_list_sort ?_ (args_list_sort _)
          refine list_sort_treeK strKind_oneLt hD' hS.keysOf (fun v₁ v₂ rest e => keyKind_strs (ss := xs.map tb) (e ▸ hS)) (by omega) fun st' hp hs => ⟨_, rfl, ?_⟩
          obtain ⟨ss', q1, q2, _⟩ := sorted_out_str hS hp hs
          obtain ⟨ys, p1, rfl⟩ := perm_map_tb' q2.symm rfl
          obtain ⟨e, he'⟩ := sortedHeap_at (out := (arrOf st').map (·.2)) hD'
          obtain ⟨m, nm, hv⟩ := R.ns
          have hL : L < h'.objs.size := (nm.keeps hk').lt
          have old : ∀ b o', s.heap.get? b = some o' → (sortedHeap (h'.push { cls := .type "list", data := .seq acc.toList.toArray }) h'.objs.size acc.toList ((arrOf st').map (·.2))).get? b = some o' := fun b o' e => by
            have e' := hk' b o' e
            rw [sortedHeap_old (Nat.ne_of_lt (Heap.lt_size e')) (by rw [Heap.size_push]; exact Nat.lt_succ_of_lt (Heap.lt_size e'))]
            exact Heap.get?_push_of_some _ e'
          refine Out.fresh' (o := .syms c ys) R (.of old) ?_ (Nat.le_trans R.above (Nat.le_of_lt hL)) (Nat.ne_of_gt hL) he' (fun ag => ⟨⟨_, e, rfl, of_strs q1⟩, by rw [p1.length_eq]; exact hcap⟩) (h ys p1)
          cases q : s.heap.get? h'.objs.size with
          | none => rfl
          | some x => exact absurd (Heap.lt_size (hk' _ _ q)) (Nat.lt_irrefl _)
        refine wpAny_bind (wpAny_holding (wpAny_mono key (fun _ s' x => ?_) fun _ _ e => e))
        exact wpAny_pure ⟨_, rfl, x⟩
      | gref k =>
        obtain ⟨ys, _, e2⟩ := Option.map_eq_some_iff.mp (show (lk gtab k).map O.tuple = some _ from eo)
        cases e2
      | _ => cases eo
    · cases h
  · cases h

theorem builtO_sound (X : Facts C) {k : BK} {a : V} {u : Value} {o : O} {Q : KV} (hh : A.handled = none) (R : Rep C L ρ σ s.heap) (ha : VR C ρ σ.objs.length a u) (eo : obj σ a = some o) (h : builtO k o σ Q) : wpAny (Mm C) A (call (bval k) [u]) (Out C L (VR C) ρ σ s Q) Fls s := by
  cases k with
  | list => exact bl_list_sound X R ha eo h
  | tuple => exact bl_tuple_sound X R ha eo h
  | len => exact bl_len_sound X R ha eo h
  | sorted => exact bl_sorted_sound X hh R ha eo h

theorem pick_take (items : Array Value) (n : Nat) : (slicePick items none (some (Int.ofNat n)) none).toList = items.toList.take n := by
  have e : sliceBounds none (some (Int.ofNat n)) none items.size = (((0 : Nat) : Int), ((min n items.size : Nat) : Int), 1) := by
    simp only [sliceBounds, Option.getD_none, show (1 : Int) > 0 by decide, if_true, if_neg (show ¬ ((Int.ofNat n : Int) < 0) by simp)]
    congr 1
    congr 1
    simp only [Int.ofNat_eq_natCast]
    omega
  rw [kmk_pick_nat _ e]
  simp only [List.drop_zero, Nat.sub_zero]
  rw [← Array.length_toList, kmk_take_min]
theorem VRs.take : ∀ {as : List V} {vs : List Value} {N : Nat} (n : Nat), VRs C ρ N as vs → VRs C ρ N (as.take n) (vs.take n)
  | [], [], _, n, _ => by cases n <;> trivial
  | _ :: _, _ :: _, _, 0, _ => trivial
  | _ :: _, _ :: _, _, n + 1, h => ⟨h.1, VRs.take n h.2⟩
  | [], _ :: _, _, _, h => h.elim
  | _ :: _, [], _, _, h => h.elim
end
end Mine
namespace Mine
open PySem PySem.SeqAt
section
variable {C : Cx} {L : Addr} {ρ : Nat → Addr} {σ : St} {s : Shared} {A : Around}

theorem csts_sound {env : Env} {pos : Pos} {E : Value → Shared → Prop} : ∀ (ks : List (Nat × Pos)) (s : Shared) (Q : List Value → Shared → Prop), (∀ vs tk, StrsAre vs (ks.map fun k => tb k.1) → Q vs { s with toks := tk }) →
    wpAny (Mm C) A (spliced (backTo pos (starEach (ks.map cstStr) env))) Q E s
  | [], s, Q, h => Calls.spliced_nil (h [] s.toks .nil)
  | k :: ks, s, Q, h => by
    refine Calls.spliced_cons ?_
    show wpAny (Mm C) A (eval (cstStr k) env) _ E s
    refine wpAny_Constant_str ?_
    exact csts_sound ks _ _ fun vs tk hv => h _ tk (.cons _ _ hv)

theorem mem_str {ks : List (Nat × Pos)} {k : Nat} : (ks.map fun q => tb q.1).any (· == tb k) = memN (ks.map (·.1)) k := by
  induction ks with
  | nil => rfl
  | cons q ks ih =>
    simp only [List.map_cons, List.any_cons, memN]
    rw [tb_beq, ih]
    cases Nat.beq q.1 k <;> rfl

noncomputable def keep? (ks : List (Nat × Pos)) : Value → Bool
  | .str y _ => (ks.map fun q => tb q.1).any (· == y)
  | _ => false
theorem strsAre_snoc : ∀ {l : List Value} {v : Value} {ys : List Str}, StrsAre (l ++ [v]) ys → ∃ ys₀ y t, ys = ys₀ ++ [y] ∧ StrsAre l ys₀ ∧ v = .str y t
  | [], v, _, h => by cases h with | cons y t h' => cases h'; exact ⟨[], y, t, rfl, .nil, rfl⟩
  | _ :: l, v, _, h => by
    cases h with
    | cons y t h' =>
      obtain ⟨ys₀, z, t', rfl, h2, h3⟩ := strsAre_snoc h'
      exact ⟨y :: ys₀, z, t', rfl, .cons _ _ h2, h3⟩
theorem stored_nodup {kvs : List (Str × Value)} {k : Str} {y : Value} (hn : (kvs.map (·.1)).Nodup) : ((stored kvs k y).map (·.1)).Nodup := by
  unfold stored
  split
  · have : (kvs.map fun kv => if kv.1 = k then (kv.1, y) else kv).map (·.1) = kvs.map (·.1) := by
      rw [List.map_map]
      refine List.map_congr_left fun a _ => ?_
      show (if a.1 = k then (a.1, y) else a).1 = a.1
      split <;> rfl
    rw [this]; exact hn
  · rename_i h
    rw [List.map_append, List.nodup_append]
    refine ⟨hn, by simp, fun a ha b hb => ?_⟩
    simp at hb
    subst hb
    rintro rfl
    obtain ⟨q, hq, e⟩ := List.mem_map.mp ha
    exact h (List.any_eq_true.mpr ⟨q, hq, by simp [e]⟩)
theorem storedAll_nodup {FK : Value → Str → Prop} {FV : Value → Value → Prop} {l : List Value} {kvs : List (Str × Value)} (x : StoredAll FK FV l kvs) : (kvs.map (·.1)).Nodup := by
  induction x with
  | nil => exact List.nodup_nil
  | snoc _ _ _ ih => exact stored_nodup ih
theorem storedAll_keys {N : Nat} {l : List Value} {kvs : List (Str × Value)} (x : StoredAll (fun v k => (PySem.strKind pg C.w).is k v = true) (fun _ y => y = .bool true) l kvs) :
    ∀ zs : List Nat, StrsAre l (zs.map tb) → ERs C ρ N ((zs.foldl addK []).map fun k => (k, V.bool true)) kvs := by
  induction x with
  | nil => intro zs h; cases zs with
    | nil => trivial
    | cons => cases h
  | snoc hx hk hy ih =>
    intro zs h
    obtain ⟨ys₀, y, t, e, h1, rfl⟩ := strsAre_snoc h
    rcases List.eq_nil_or_concat zs with rfl | ⟨zs₀, z, rfl⟩
    · have := congrArg List.length e; simp at this
    · rw [List.concat_eq_append] at e ⊢
      rw [List.map_append, List.map_cons, List.map_nil] at e
      obtain ⟨e1, e2⟩ := List.append_inj' e rfl
      cases e2
      obtain ⟨t', e3⟩ : ∃ t', Value.str (tb z) t = .str _ t' := Value.isStrOf_shape hk
      cases e3
      subst hy
      rw [List.foldl_append]
      show ERs C ρ N ((addK (zs₀.foldl addK []) z).map _) _
      have e4 := put_keys (zs₀.foldl addK []) z
      have e5 := (ih zs₀ (e1 ▸ h1)).put (storedAll_nodup hx) (k := z) (.bool true)
      rw [show (zs₀.foldl addK []).map (fun k => (k, V.bool true)) = (zs₀.foldl addK []).map trueE from rfl, e4] at e5
      exact e5
theorem strs_filter {ks : List (Nat × Pos)} : ∀ {xs : List Nat} {vs : List Value}, StrsAre vs (xs.map tb) → StrsAre (vs.filter (keep? ks)) ((xs.filter fun k => memN (ks.map (·.1)) k).map tb)
  | [], _, h => by cases h; exact .nil
  | x :: xs, _, h => by
    cases h with
    | cons _ t h' =>
      rw [List.filter_cons, List.filter_cons]
      have e : keep? ks (.str (tb x) t) = memN (ks.map (·.1)) x := mem_str
      rw [e]
      cases memN (ks.map (·.1)) x with
      | true => exact .cons _ _ (strs_filter h')
      | false => exact strs_filter h'
theorem filt_length (ks xs : List Nat) : (filt ks xs).length ≤ xs.length := by
  have gen : ∀ (zs acc : List Nat), (zs.foldl addK acc).length ≤ acc.length + zs.length := by
    intro zs
    induction zs with
    | nil => intro acc; simp
    | cons z zs ih =>
      intro acc
      have := ih (addK acc z)
      have : (addK acc z).length ≤ acc.length + 1 := by unfold addK; split <;> simp
      simp only [List.foldl_cons, List.length_cons]
      omega
  have h1 := gen (xs.filter fun k => memN ks k) []
  have h2 := List.length_filter_le (fun k => memN ks k) xs
  simp at h1
  unfold filt
  omega

theorem newDict_inv {M : Model} {E : Value → Shared → Prop} {K K' : Value → Shared → Prop} (h : wpAny M A newDict K' E s)
    (k : K' (.ref s.heap.objs.size) { s with heap := s.heap.push { cls := .type "dict", data := .dict #[] } } → K (.ref s.heap.objs.size) { s with heap := s.heap.push { cls := .type "dict", data := .dict #[] } }) : wpAny M A newDict K E s := by
  intro Γ p hΓ
  have := h Γ p hΓ
  exact k this

theorem dcm_sound (X : Facts C) (hh : A.handled = none) {x : Nat} {src : E} {ks : List (Nat × Pos)} {pk pv pt pl ptp pc p : Pos} {env : Env} {Q : KV} (hks : ks.length < 1000) (R : Rep C L ρ σ s.heap)
    (h : wpAny (Mm C) A (eval (emb src) env) (Out C L (VR C) ρ σ s fun a σ₁ => match obj σ₁ a with
      | some (.keys c xs) => (match Nat.blt c 1000 with | true => newO (.keys c (filt (ks.map (·.1)) xs)) σ₁ Q | false => False)
      | _ => False) Fls s) :
    wpAny (Mm C) A (eval (emb (.dcm x src ks pk pv pt pl ptp pc p)) env) (Out C L (VR C) ρ σ s Q) Fls s := by
  have hlk : ([(Str.ofString ".0", NameKind.local), (tb x, NameKind.local)] : List (Str × NameKind)).lookup (tb x) = some .local := by
    simp only [List.lookup_cons]
    cases (tb x == Str.ofString ".0") <;> simp
  unfold emb
  rw [arm_eval_DictComp]
  refine wpAny_comprehension_free (cl := []) (use := none) rfl (fun x => by cases src <;> rfl) rfl rfl ?_ (wpAny_mono h (fun xv s₁ h₁ => ?_) fun _ _ e => e)
  · intro y hy _
    simp at hy
    rcases hy with rfl | rfl
    · simp [List.lookup_cons]
    · exact hlk
  obtain ⟨a, ρ₁, σ₁, H, tk, rfl, q, ha, hq⟩ := h₁
  split at hq
  · rename_i c xs eo
    split at hq
    · rename_i hc
      have hc := blt_lt hc
      have R₁ := q.rep
      cases ha with
      | ref l hl =>
        obtain ⟨ob, hd, ⟨⟨kvs, hk, he⟩, hcap⟩, hb, _⟩ := R₁.obj l _ ⟨eo, rfl⟩
        have hD : H.DictOf (PySem.strKind pg C.w) (ρ₁ l) kvs := Heap.dictOf_iff.mpr ⟨ob, hd, hk⟩
        have hlen : xs.length = kvs.length := by have := he.length; simpa using this
        have lo : (ρ₁ l == sysModules) = false := by
          rw [beq_eq_false_iff_ne]
          exact Nat.ne_of_gt (Nat.lt_of_lt_of_le (PyProof.Rows.modules_low X.nolimit) hb)
        obtain ⟨ep, hat⟩ := hD.dictAt
        have hlt : ρ₁ l < H.objs.size := Heap.lt_size hd
        refine wpAny_pyIter_dict lo hat ?_
        refine newDict_inv (E := Fls) (comp_block_walkCD (E := Fls) (knd := PySem.strKind pg C.w) (RR := fun acc Cc r s' => acc = .ref (H.objs.size + 1) → compPost (Mm C) A Fls none (Out C L (VR C) ρ σ s Q) acc Cc r s')
          (Walks.dictKeys hh _ (ρ₁ l) (Nat.ne_of_lt hlt) kvs ep) (line_of (by omega) : kvs.length ≤ sizeLine) (keep? ks) (fun v k => (PySem.strKind pg C.w).is k v = true) (fun _ y => y = .bool true)
          (kx := .Name (tb x) pk) (vx := .Constant (.bool true) 0 pv) (iter := emb src) (x := tb x) (px := pt) (ifs := [.Compare (.Name (tb x) pl) [.In] [.Tuple (ks.map cstStr) 0 ptp] pc]) (pos := p) (cl := []) (env := env) (A := A)
          (scope := { kind := .function, names := [(Str.ofString ".0", .local), (tb x, .local)], isGenerator := false, isCoroutine := false, more := [] })
          (s₂ := { s with heap := H.push { cls := .type "dict_keyiterator", data := .fields #[.ref (ρ₁ l), .int 0 0, .int kvs.length 0, .int ep 0] }, toks := tk })
          (by intro y hy; simp at hy; rcases hy with rfl | rfl <;> simp) rfl hlk ⟨⟨_, Heap.get?_push_size _ rfl, rfl, rfl⟩, hat.push _⟩ ?_ ⟨?_, ?_, ?_⟩ ?_) fun z => ?_
        rotate_left 5
        · refine wpAny_mono z (fun cenv s₄ z' => codeAny_mono z' fun r s' z'' => z'' ?_) fun _ _ e => e
          show Value.ref (H.push _).objs.size = _
          rw [Heap.size_push]
        · intro b hb
          show b < (H.push _).objs.size
          rw [Heap.size_push]
          rcases List.mem_cons.mp hb with rfl | hb
          · exact Nat.lt_succ_self _
          · rcases List.mem_cons.mp hb with rfl | hb
            · exact Nat.lt_succ_of_lt hlt
            · cases hb
        · intro Cc i v s₃ m₃ E' hP hn hm hkp
          obtain ⟨k, y, h1, h2⟩ := hP
          obtain ⟨t, rfl⟩ := Value.isStrOf_shape h2
          rw [List.forIn_cons]
          simp only [if_true]
          refine wpAny_bind (wpAny_bind ?_)
          refine wpAny_isTrue_Compare1 (wpAny_Name (wpAny_loadName_local (env := compEnvC _ [] Cc env) rfl (lookup_relabel_local hlk) hn hm ?_) (tb_nodebug x))
          refine wpAny_Tuple (csts_sound ks _ _ fun vs tk hv => ?_)
          have hvl : vs.length = ks.length := by
            have : ∀ {vs : List Value} {ys : List Str}, StrsAre vs ys → vs.length = ys.length := fun h => by induction h <;> simp_all
            rw [this hv]; simp
          refine ⟨line_of (by omega), ?_⟩
          refine in_tuple_strs (items := vs.toArray) ⟨_, Heap.get?_push_size _ rfl, rfl, 0, rfl⟩ (by simpa using hv) ?_
          refine wpAny_truthy_bool ?_
          refine wpAny_pure ?_
          refine wpAny_pure ⟨rfl, _, _, rfl, fun b o e => Heap.get?_push_of_some _ e⟩
        · intro Cc i v s₃ m₃ E' hP hp hn hm hkp
          obtain ⟨k, y, h1, h2⟩ := hP
          refine wpAny_Name (wpAny_loadName_local (env := compEnvC _ [] Cc env) rfl (lookup_relabel_local hlk) hn hm ⟨⟨k, h2, h2⟩, s₃.heap, s₃.toks, rfl, fun _ _ e => e⟩) (tb_nodebug x)
        · intro Cc i v s₃ m₃ E' hP hp hn hm hkp
          exact wpAny_Constant_bool ⟨rfl, s₃.heap, s₃.toks, rfl, fun _ _ e => e⟩
        · intro D Cc h' tk' m' kvs' vs hnew hnewC hDC hnC hlD hlen' hP hF hkk hDe
          cases hDe
          have hS : StrsAre vs (xs.map tb) := by
            have := strs_items he vs 0 (by simpa using hlen') (Nat.zero_le _) (vs := vs) fun j v e => by
              obtain ⟨k, x, h1, h2⟩ := hP j v e
              exact ⟨k, x, by rw [Nat.zero_add]; exact h1, h2⟩
            simpa using this
          have hF' := storedAll_keys (C := C) (ρ := ρ₁) (N := σ₁.objs.length) hF _ (strs_filter hS)
          refine ⟨m', hnC, fun h'' hs'' => ?_⟩
          have up : ∀ b o, H.get? b = some o → h''.get? b = some o := fun b o e =>
            hs''.extBut b o (by rintro rfl; dsimp only at hnewC; rw [Heap.get?_push_of_some _ e] at hnewC; cases hnewC)
              (hkk b o (fun hm => by rcases List.mem_cons.mp hm with rfl | hm; exact Nat.lt_irrefl _ (Heap.lt_size e); cases hm) (Heap.get?_push_of_some _ e))
          obtain ⟨ob', e', hk'⟩ := Heap.dictOf_iff.mp (hlD.extBut hs''.extBut hDC)
          refine Out.lift R q (Out.fresh (s := { s with heap := H, toks := tk }) (o := .keys c (filt (ks.map (·.1)) xs)) (tk := tk') R₁ (.of up) (Nat.le_succ _) e' (fun {ρ'} ag => ⟨⟨kvs', hk', ?_⟩, Nat.le_trans (filt_length _ _) hcap⟩) hq)
          exact hF'.mono ag (Nat.le_succ _)
      | gref k =>
        obtain ⟨ys, _, e2⟩ := Option.map_eq_some_iff.mp (show (lk gtab k).map O.tuple = some _ from eo)
        cases e2
      | _ => cases eo
    · cases hq
  · cases hq
end
end Mine
namespace Mine
open PySem PySem.SeqAt

section
variable {α β α' β' : Type} {C : Cx} {L : Addr} {RR : (Nat → Addr) → Nat → α → β → Prop} {RR' : (Nat → Addr) → Nat → α' → β' → Prop} {ρ ρ₁ : Nat → Addr} {σ σ₁ : St} {s : Shared} {A : Around} {M : Model} {Q : α → St → Prop}
theorem Out.go {t : Sem β'} {G : β' → Shared → Prop} {E : Value → Shared → Prop} {K : α' → St → Prop} (h : wpAny M A t (Out C L RR' ρ σ s K) Fls s)
    (k : ∀ a v ρ₁ σ₁ h₁ tk₁, Pst C L ρ σ s.heap ρ₁ σ₁ h₁ → RR' ρ₁ σ₁.objs.length a v → K a σ₁ → G v { s with heap := h₁, toks := tk₁ }) : wpAny M A t G E s := by
  refine wpAny_mono h (fun v s₁ x => ?_) fun _ _ e => e.elim
  obtain ⟨a, ρ₁, σ₁, h₁, tk₁, rfl, p, r, hq⟩ := x
  exact k a v ρ₁ σ₁ h₁ tk₁ p r hq
theorem Out.up {t : Sem β} {h₁ : Heap} {tk₁ : Nat} {s' : Shared} {E : Value → Shared → Prop} (R : Rep C L ρ σ s.heap) (p : Pst C L ρ σ s.heap ρ₁ σ₁ h₁) (h : wpAny M A t (Out C L RR ρ₁ σ₁ { s with heap := h₁, toks := tk₁ } Q) Fls s') :
    wpAny M A t (Out C L RR ρ σ s Q) E s' := wpAny_mono h (fun _ _ y => y.lift R p) fun _ _ e => e.elim
end

theorem Room.mono {n : Nat} {A : Around} (h : Room (n + 1) A) : Room n A := ⟨h.handled, by have := h.depth; omega, by have := h.units; omega⟩
theorem Room.deeper {n : Nat} {A : Around} (h : Room (n + 1) A) (env : Env) : Room n (A.deeper env) := ⟨h.handled, by have := h.depth; show A.depth + 1 + n < _; omega, by have := h.units; show A.units + 3 + _ + 100 < _; omega⟩
theorem EnvOk.of {C : Cx} {L : Addr} {ρ ρ₁ : Nat → Addr} {σ σ₁ : St} {h h₁ : Heap} (p : Pst C L ρ σ h ρ₁ σ₁ h₁) {env : Env} (Ev : EnvOk L σ.fd env) : EnvOk L σ₁.fd env := by rw [p.fd]; exact Ev

noncomputable def OutK (C : Cx) (L : Addr) (ρ : Nat → Addr) (σ : St) (s : Shared) (Q : V → St → Prop) : Value → Shared → Prop :=
  fun v s' => Out C L (VR C) ρ σ s Q v s' ∧ ∀ m, s.heap.Ns L m → s'.heap.Ns L m
noncomputable def RD (C : Cx) (ks : List (Nat × Pos)) : (Nat → Addr) → Nat → List V → List (Value × Value) → Prop :=
  fun ρ N xs ps => StrsAre (ps.map (·.1)) (ks.map fun k => tb k.1) ∧ VRs C ρ N xs (ps.map (·.2))

noncomputable def bo : Bool → BoolOp
  | true => .And
  | false => .Or
structure Snd (C : Cx) (r : Rec) (n : Nat) : Prop where
  ev : ∀ {e : E} {L : Addr} {env : Env} {ρ : Nat → Addr} {σ : St} {s : Shared} {A : Around} {Q : KV}, r.ev e σ Q → Room n A → EnvOk L σ.fd env → Rep C L ρ σ s.heap → wpAny (Mm C) A (eval (emb e) env) (Out C L (VR C) ρ σ s Q) Fls s
  evs : ∀ {es : Es} {L : Addr} {env : Env} {pos : Pos} {ρ : Nat → Addr} {σ : St} {s : Shared} {A : Around} {Q : List V → St → Prop}, r.evs es σ Q → Room n A → EnvOk L σ.fd env → Rep C L ρ σ s.heap →
    wpAny (Mm C) A (spliced (backTo pos (starEach (embs es) env))) (Out C L (VRs C) ρ σ s Q) Fls s
  dic : ∀ {ks : List (Nat × Pos)} {es : Es} {L : Addr} {env : Env} {pos : Pos} {ρ : Nat → Addr} {σ : St} {s : Shared} {A : Around} {Q : List V → St → Prop}, r.dic ks es σ Q → Room n A → EnvOk L σ.fd env → Rep C L ρ σ s.heap →
    wpAny (Mm C) A (evalPairs (pairTrees (ks.map fun k => some (cstStr k)) (embs es) env pos)) (Out C L (RD C ks) ρ σ s Q) Fls s
  bopV : ∀ {a : Bool} {es : Es} {L : Addr} {env : Env} {pos : Pos} {ρ : Nat → Addr} {σ : St} {s : Shared} {A : Around} {Q : KV}, r.bopV a es σ Q → Room n A → EnvOk L σ.fd env → Rep C L ρ σ s.heap →
    wpAny (Mm C) A (boolOp pos (bo a) (evalEach (embs es) env)) (Out C L (VR C) ρ σ s Q) Fls s
  bopT : ∀ {a : Bool} {es : Es} {L : Addr} {env : Env} {ρ : Nat → Addr} {σ : St} {s : Shared} {A : Around} {Q : Bool → St → Prop}, r.bopT a es σ Q → Room n A → EnvOk L σ.fd env → Rep C L ρ σ s.heap →
    wpAny (Mm C) A (allTrue (bo a) (embs es) env) (Out C L RB ρ σ s Q) Fls s
  tst : ∀ {e : E} {L : Addr} {env : Env} {ρ : Nat → Addr} {σ : St} {s : Shared} {A : Around} {Q : Bool → St → Prop}, r.tst e σ Q → Room n A → EnvOk L σ.fd env → Rep C L ρ σ s.heap →
    wpAny (Mm C) A (isTrue (emb e) env (eval (emb e) env)) (Out C L RB ρ σ s Q) Fls s
  exs : ∀ {ss : Ss} {L : Addr} {env : Env} {ρ : Nat → Addr} {σ : St} {s : Shared} {A : Around} {Q : KF}, r.exs ss σ Q → Room n A → EnvOk L σ.fd env → Rep C L ρ σ s.heap →
    wpAny (Mm C) A (execs (embSs ss) env) (Out C L (RF C) ρ σ s Q) Fls s
  call : ∀ {f : Nat} {vs : List V} {us : List Value} {L : Addr} {ρ : Nat → Addr} {σ : St} {s : Shared} {A : Around} {Q : KV}, r.call f vs σ Q → Room n A → Rep C L ρ σ s.heap → VRs C ρ σ.objs.length vs us →
    wpAny (Mm C) A (call (.ref (C.fa f)) us) (OutK C L ρ σ s Q) Fls s

section
variable {C : Cx} {L : Addr} {ρ : Nat → Addr} {σ : St} {s : Shared} {A : Around} {r : Rec} {n : Nat} {env : Env}

theorem evs_step (S : Snd C r n) {es : Es} {pos : Pos} {Q : List V → St → Prop} (h : evsStep r es σ Q) (rm : Room n A) (Ev : EnvOk L σ.fd env) (R : Rep C L ρ σ s.heap) :
    wpAny (Mm C) A (spliced (backTo pos (starEach (embs es) env))) (Out C L (VRs C) ρ σ s Q) Fls s := by
  cases es with
  | nil => exact Calls.spliced_nil (.now' (a := []) R trivial h)
  | cons e es =>
    unfold embs
    rw [star_emb]
    refine Calls.spliced_cons (x := eval (emb e) env) (rest := backTo pos (starEach (embs es) env)) ?_
    refine Out.go (S.ev h rm Ev R) fun a v ρ₁ σ₁ h₁ tk₁ p ha hq => ?_
    refine Out.go (S.evs hq rm (.of p Ev) p.rep) fun as vs ρ₂ σ₂ h₂ tk₂ p₂ has hq₂ => ?_
    exact Out.intro (a := a :: as) (p.trans p₂ R) ⟨p₂.vr ha, has⟩ hq₂

theorem dic_step (S : Snd C r n) {ks : List (Nat × Pos)} {es : Es} {pos : Pos} {Q : List V → St → Prop} (h : dicStep r ks es σ Q) (rm : Room n A) (Ev : EnvOk L σ.fd env) (R : Rep C L ρ σ s.heap) :
    wpAny (Mm C) A (evalPairs (pairTrees (ks.map fun k => some (cstStr k)) (embs es) env pos)) (Out C L (RD C ks) ρ σ s Q) Fls s := by
  cases ks with
  | nil => cases es with
    | nil => exact evalPairs_nil (.now' (a := []) R ⟨.nil, trivial⟩ h)
    | cons => exact h.elim
  | cons k ks => cases es with
    | nil => exact h.elim
    | cons e es =>
      unfold embs
      refine pairTrees_cons_walk ?_
      refine wpAny_Constant_str ?_
      refine wpAny_mono (Q := Out C L (VR C) ρ σ { s with toks := s.toks + 1 } _) (S.ev h rm Ev R) (fun v s₁ x => ?_) fun _ _ e => e
      obtain ⟨a, ρ₁, σ₁, h₁, tk₁, rfl, p, ha, hq⟩ := x
      refine Out.go (S.dic hq rm (.of p Ev) p.rep) fun as vs ρ₂ σ₂ h₂ tk₂ p₂ has hq₂ => ?_
      exact Out.intro (a := a :: as) (p.trans p₂ R) ⟨.cons _ _ has.1, p₂.vr ha, has.2⟩ hq₂

theorem truth_val {b : Bool} {a : V} {v : Value} {N : Nat} (h : VR C ρ N a v) (e : truth a = some b) : a = .bool b ∧ v = .bool b := by
  cases h <;> first | cases e | skip
  exact ⟨rfl, rfl⟩

theorem bopV_step (S : Snd C r n) {a : Bool} {es : Es} {pos : Pos} {Q : KV} (h : bopVStep r a es σ Q) (rm : Room n A) (Ev : EnvOk L σ.fd env) (R : Rep C L ρ σ s.heap) :
    wpAny (Mm C) A (boolOp pos (bo a) (evalEach (embs es) env)) (Out C L (VR C) ρ σ s Q) Fls s := by
  cases es with
  | nil => exact h.elim
  | cons e es => cases es with
    | nil => exact S.ev h rm Ev R
    | cons e' es =>
      have h' : r.ev e σ fun v σ₁ => match truth v with
        | some b => (match beqB a b with | true => r.bopV a (.cons e' es) σ₁ Q | false => Q v σ₁)
        | none => False := h
      show wpAny (Mm C) A (eval (emb e) env >>= fun v => standAt pos >>= fun _ => holding [v] (truthy v) >>= fun t => _) _ _ _
      refine wpAny_bind (Out.go (S.ev h' rm Ev R) fun v u ρ₁ σ₁ h₁ tk₁ p hv hq => ?_)
      split at hq
      · rename_i b eb
        obtain ⟨rfl, rfl⟩ := truth_val hv eb
        refine wpAny_bind (wpAny_standAt (wpAny_bind (wpAny_holding (wpAny_truthy_bool ?_))))
        have rest : r.bopV a (.cons e' es) σ₁ Q → wpAny (Mm C) A (boolOp pos (bo a) (evalEach (embs (.cons e' es)) env)) (Out C L (VR C) ρ σ s Q) Fls { s with heap := h₁, toks := tk₁ } :=
          fun z => Out.up R p (S.bopV z rm (.of p Ev) p.rep)
        have stop : Q (.bool b) σ₁ → Out C L (VR C) ρ σ s Q (.bool b) { s with heap := h₁, toks := tk₁ } := fun z => Out.intro p (.bool b) z
        cases a <;> cases b
        · exact rest hq
        · exact wpAny_pure (stop hq)
        · exact wpAny_pure (stop hq)
        · exact rest hq
      · exact hq.elim

theorem bopT_step (S : Snd C r n) {a : Bool} {es : Es} {Q : Bool → St → Prop} (h : bopTStep r a es σ Q) (rm : Room n A) (Ev : EnvOk L σ.fd env) (R : Rep C L ρ σ s.heap) :
    wpAny (Mm C) A (allTrue (bo a) (embs es) env) (Out C L RB ρ σ s Q) Fls s := by
  cases es with
  | nil =>
    cases a
    · exact wpAny_pure (.now' R rfl h)
    · exact wpAny_pure (.now' R rfl h)
  | cons e es =>
    have h' : r.tst e σ fun b σ₁ => match beqB a b with | true => r.bopT a es σ₁ Q | false => Q b σ₁ := h
    show wpAny (Mm C) A (isTrue (emb e) env (eval (emb e) env) >>= fun t => _) _ _ _
    refine wpAny_bind (Out.go (S.tst h' rm Ev R) fun b u ρ₁ σ₁ h₁ tk₁ p hb hq => ?_)
    cases hb
    have rest : r.bopT a es σ₁ Q → wpAny (Mm C) A (allTrue (bo a) (embs es) env) (Out C L RB ρ σ s Q) Fls { s with heap := h₁, toks := tk₁ } :=
      fun z => Out.up R p (S.bopT z rm (.of p Ev) p.rep)
    have stop : Q b σ₁ → Out C L RB ρ σ s Q b { s with heap := h₁, toks := tk₁ } := fun z => Out.intro p rfl z
    cases a <;> cases b
    · exact rest hq
    · exact wpAny_pure (stop hq)
    · exact wpAny_pure (stop hq)
    · exact rest hq
theorem marks_emb (op : CmpOp) (e : E) : behindInMarks op (emb e) = false := by cases e <;> rfl
theorem tst_step (S : Snd C r n) (X : Facts C) {e : E} {Q : Bool → St → Prop} (h : tstStep r e σ Q) (rm : Room n A) (Ev : EnvOk L σ.fd env) (R : Rep C L ρ σ s.heap) :
    wpAny (Mm C) A (isTrue (emb e) env (eval (emb e) env)) (Out C L RB ρ σ s Q) Fls s := by
  have val : ∀ {e : E}, tst_val r e σ Q → (isTrue (emb e) env (eval (emb e) env) = (do let v ← eval (emb e) env; standAt (emb e).pos; holding [v] (truthy v))) → wpAny (Mm C) A (isTrue (emb e) env (eval (emb e) env)) (Out C L RB ρ σ s Q) Fls s := by
    intro e h he
    refine wpAny_isTrue_value (Out.go (S.ev h rm Ev R) fun v u ρ₁ σ₁ h₁ tk₁ p hv hq => ?_) he
    split at hq
    · rename_i b eb
      obtain ⟨rfl, rfl⟩ := truth_val hv eb
      exact wpAny_truthy_bool (Out.intro p rfl hq)
    · exact hq.elim
  cases e with
  | not x p => exact wpAny_isTrue_Not (Out.go (S.tst h rm Ev R) fun b u ρ₁ σ₁ h₁ tk₁ p hb hq => by cases hb; exact Out.intro p rfl hq)
  | bop a es p =>
    have e : emb (.bop a es p) = .BoolOp (bo a) (embs es) p := by cases a <;> rfl
    rw [e]
    exact wpAny_isTrue_BoolOp (S.bopT h rm Ev R)
  | cmp op l e p =>
    have h' : tst_cmp r op l e σ Q := h
    refine wpAny_isTrue_Compare1 (Out.go (S.ev h' rm Ev R) fun a u ρ₁ σ₁ h₁ tk₁ p₁ ha hq => ?_) (marks_emb op e)
    refine Out.go (S.ev hq rm (.of p₁ Ev) p₁.rep) fun b v ρ₂ σ₂ h₂ tk₂ p₂ hb hq₂ => ?_
    refine Out.go (cmp_sound X p₂.rep (by have := rm.units; omega) (p₂.vr ha) hb hq₂) fun c w ρ₃ σ₃ h₃ tk₃ p₃ hc hq₃ => ?_
    split at hq₃
    · rename_i b eb
      obtain ⟨rfl, rfl⟩ := truth_val hc eb
      exact wpAny_truthy_bool (Out.intro ((p₁.trans p₂ R).trans p₃ R) rfl hq₃)
    · exact hq₃.elim
  | var x p => exact val h rfl
  | call f np as p => exact val h rfl
  | sub v i p => exact val h rfl
  | _ => exact h.elim
end
end Mine
namespace Mine
open PySem PySem.SeqAt

section
variable {C : Cx} {L : Addr} {ρ ρ₁ : Nat → Addr} {σ σ₁ : St} {h h₁ h₂ : Heap}
/-- an object made earlier, under no label so far, takes its label -/
theorem Pst.put {a : Addr} {o : O} {ob : Obj} (p : Pst C L ρ σ h ρ₁ σ₁ h₁) (hn : h.get? a = none) (hu : ∀ l o, Has σ₁ l o → ρ₁ l ≠ a) (hab : C.base.objs.size ≤ a) (haL : a ≠ L)
    (hs : Heap.SameBut a h₁ h₂) (e : h₂.get? a = some ob) (r : ∀ {ρ'}, (∀ l, l < σ₁.objs.length → ρ' l = ρ₁ l) → OR C ρ' (σ₁.objs.length + 1) o ob) :
    Pst C L ρ σ h (upd ρ₁ σ₁.objs.length a) { σ₁ with objs := σ₁.objs ++ [o] } h₂ := by
  have R := p.rep
  obtain ⟨m, nm, hv⟩ := R.ns
  have old : ∀ {l o'}, Has { σ₁ with objs := σ₁.objs ++ [o] } l o' → (l = σ₁.objs.length ∧ o' = o) ∨ (l < σ₁.objs.length ∧ Has σ₁ l o') := fun {l o'} x => by
    have x1 := x.1
    have x2 := x.2
    rw [show ({ σ₁ with objs := σ₁.objs ++ [o] } : St).objs = σ₁.objs ++ [o] from rfl, nth_append] at x1
    split at x1
    · rename_i q; cases x1; exact .inl ⟨q, rfl⟩
    · exact .inr ⟨nth_lt x1, x1, x2⟩
  have hN : ({ σ₁ with objs := σ₁.objs ++ [o] } : St).objs.length = σ₁.objs.length + 1 := by simp
  have agr : ∀ l, l < σ₁.objs.length → upd ρ₁ σ₁.objs.length a l = ρ₁ l := fun l hl => upd_lt hl
  have ne : ∀ b o', C.base.get? b = some o' → b ≠ a := fun b o' e => Nat.ne_of_lt (Nat.lt_of_lt_of_le (Heap.lt_size e) hab)
  refine ⟨⟨fun b o e => (hs.2 b (ne b o e)).trans (R.base b o e), R.above, fun l o' hl => ?_, fun l l' o₁ o₂ h1 h2 e' => ?_, ⟨m, nm.sameBut hs (Ne.symm haL), fun x v hx => ?_⟩⟩, fun l hl => ?_, ?_, fun b o' e' hb hnn => ?_, fun l o' hl => ?_, fun l xs e' => ?_, p.fd⟩
  · rw [hN]
    rcases old hl with ⟨rfl, rfl⟩ | ⟨lt, x⟩
    · rw [upd_self]; exact ⟨ob, e, r agr, hab, haL⟩
    · obtain ⟨ob', e', r', b'⟩ := R.obj l o' x
      rw [upd_lt lt]
      exact ⟨ob', (hs.2 _ (hu l o' x)).trans e', r'.mono agr (Nat.le_succ _), b'⟩
  · rcases old h1 with ⟨rfl, rfl⟩ | ⟨lt, x⟩ <;> rcases old h2 with ⟨q, _⟩ | ⟨lt', x'⟩
    · exact q.symm
    · rw [upd_self, upd_lt lt'] at e'; exact absurd e'.symm (hu l' o₂ x')
    · subst q; rw [upd_self, upd_lt lt] at e'; exact absurd e' (hu l o₁ x)
    · rw [upd_lt lt, upd_lt lt'] at e'; exact R.inj l l' o₁ o₂ x x' e'
  · obtain ⟨i, u, e1, e2⟩ := hv x v hx
    exact ⟨i, u, e1, e2.mono agr (by rw [hN]; exact Nat.le_succ _)⟩
  · exact (upd_lt (Nat.lt_of_lt_of_le hl p.len)).trans (p.agr l hl)
  · rw [hN]; exact Nat.le_succ_of_le p.len
  · refine (hs.2 b (fun z => ?_)).trans (p.kp b o' e' hb hnn)
    rw [z, hn] at e'; cases e'
  · rcases old hl with ⟨rfl, rfl⟩ | ⟨lt, x⟩
    · right; rw [upd_self]; exact hn
    · rw [upd_lt lt]; exact p.fr l o' x
  · show nth (σ₁.objs ++ [o]) l = _
    have := p.tup l xs e'
    rw [nth_append, if_neg (Nat.ne_of_lt (nth_lt this))]; exact this
end

section
variable {C : Cx} {L : Addr} {ρ : Nat → Addr} {σ : St} {s : Shared} {A : Around} {r : Rec} {n : Nat} {env : Env}

theorem strs_len : ∀ {vs : List Value} {ys : List Str}, StrsAre vs ys → vs.length = ys.length := fun h => by induction h <;> simp_all
theorem lenEs_eq : ∀ es : Es, (embs es).length = lenEs es
  | .nil => rfl
  | .cons _ r => by simp [embs, lenEs, lenEs_eq r]
theorem pairs_keys : ∀ {ks : List (Nat × Pos)} {xs : List V} {ps : List (Value × Value)} {es : List (Nat × V)} {N : Nat}, StrsAre (ps.map (·.1)) (ks.map fun k => tb k.1) → VRs C ρ N xs (ps.map (·.2)) → zipK ks xs = some es →
    allStrKeys ps = true ∧ ((strPairs ps).map (·.1)).Nodup ∧ ERs C ρ N es (strPairs ps)
  | [], [], [], es, N, _, _, e => by cases e; exact ⟨rfl, List.nodup_nil, trivial⟩
  | [], _, _ :: _, es, N, h, _, _ => by have := strs_len h; simp at this
  | _ :: _, _, [], es, N, h, _, _ => by have := strs_len h; simp at this
  | [], _ :: _, [], es, N, _, h, _ => h.elim
  | k :: ks, [], _ :: _, es, N, _, h, _ => h.elim
  | k :: ks, x :: xs, (a, b) :: ps, es, N, h1, h2, e => by
    simp only [List.map_cons] at h1 h2
    cases h1 with
    | cons _ t h1 =>
      unfold zipK at e
      split at e
      · rename_i l el
        split at e
        · rename_i en
          cases e
          obtain ⟨i1, i2, i3⟩ := pairs_keys h1 h2.2 el
          refine ⟨i1, ?_, ⟨rfl, h2.1⟩, i3⟩
          show (tb k.1 :: (strPairs ps).map (·.1)).Nodup
          refine List.nodup_cons.mpr ⟨fun hm => ?_, i2⟩
          have gen : ∀ {l : List (Nat × V)} {kvs : List (Str × Value)}, ERs C ρ N l kvs → lk l k.1 = none → tb k.1 ∈ kvs.map (·.1) → False := by
            intro l
            induction l with
            | nil => intro kvs h _ hm; cases kvs with
              | nil => cases hm
              | cons => exact h.elim
            | cons q l ih => intro kvs h hn hm; cases kvs with
              | nil => exact h.elim
              | cons z kvs =>
                unfold lk at hn
                split at hn
                · cases hn
                · rename_i hb
                  rcases List.mem_cons.mp hm with hm | hm
                  · have := tb_inj (hm.trans h.1.1)
                    rw [this, Nat.beq_refl] at hb; cases hb
                  · exact ih h.2 hn hm
          exact gen i3 en hm
        · cases e
      · cases e

theorem dic_sound (S : Snd C r n) {ks : List (Nat × Pos)} {es : Es} {p : Pos} {Q : KV} (h : ev_dic r ks es σ Q) (rm : Room n A) (Ev : EnvOk L σ.fd env) (R : Rep C L ρ σ s.heap) :
    wpAny (Mm C) A (eval (emb (.dic ks es p)) env) (Out C L (VR C) ρ σ s Q) Fls s := by
  have hnone : s.heap.get? s.heap.objs.size = none := by
    cases q : s.heap.get? s.heap.objs.size with
    | none => rfl
    | some x => exact absurd (Heap.lt_size q) (Nat.lt_irrefl _)
  obtain ⟨m, nm, _⟩ := R.ns
  unfold ev_dic at h
  split at h
  · refine wpAny_Dict_empty ?_
    obtain ⟨ob, e', hk'⟩ := Heap.dictOf_iff.mp (Heap.DictOf.new (knd := PySem.strKind pg C.w) s.heap)
    exact Out.fresh (o := .dict []) (tk := s.toks) R (.of push_keep) (Nat.le_refl _) e' (fun ag => ⟨[], hk', trivial⟩) h
  · rename_i k ks e es
    split at h
    · rename_i hb
      have hb := Bool.and_eq_true_iff.mp hb
      have h1 := blt_lt hb.1
      have h2 := Nat.eq_of_beq_eq_true hb.2
      have hl := lenEs_eq (.cons e es)
      have hl' := lenEs_eq es
      have hD : (s.heap.push { cls := .type "dict", data := .dict #[] }).get? s.heap.objs.size = some { cls := .type "dict", data := .dict #[] } := Heap.get?_push_size _ rfl
      have gp : Pst C L ρ σ s.heap ρ σ (s.heap.push { cls := .type "dict", data := .dict #[] }) := Pst.grow R (.of push_keep)
      refine wpAny_Dict_walk (knd := PySem.strKind pg C.w) (by simp) (by simp [hl', h2, embs]) (by simp) (by simp; omega)
        (Out.go (S.dic (pos := p) (s := { s with heap := s.heap.push { cls := .type "dict", data := .dict #[] } }) h rm Ev gp.rep) fun xs ps ρ₁ σ₁ h₁ tk₁ q hps hq => ?_)
      split at hq
      · rename_i es' ez
        obtain ⟨i1, i2, i3⟩ := pairs_keys hps.1 hps.2 ez
        have un : ∀ l o, Has σ l o → ρ l ≠ s.heap.objs.size := fun l o hl e => by
          obtain ⟨_, e', _⟩ := R.obj l o hl
          rw [e] at e'; exact Nat.lt_irrefl _ (Heap.lt_size e')
        have hLD : s.heap.objs.size ≠ L := Nat.ne_of_gt nm.lt
        have hk : h₁.get? s.heap.objs.size = some { cls := .type "dict", data := .dict #[] } := q.kp _ _ hD hLD un
        have un₁ : ∀ l o, Has σ₁ l o → ρ₁ l ≠ s.heap.objs.size := fun l o hl e => by
          rcases q.fr l o hl with ⟨l₀, o₀, h0, e0⟩ | e0
          · exact un l₀ o₀ h0 (e0.trans e)
          · rw [e, hD] at e0; cases e0
        have dk : h₁.DictOf (PySem.strKind pg C.w) s.heap.objs.size [] := (Heap.DictOf.new (knd := PySem.strKind pg C.w) s.heap).at fun o e => by
          rw [hD] at e; cases e; exact hk
        refine display_done_str i1 i2 dk fun h' hd' hs => ?_
        obtain ⟨ob, e', hk'⟩ := Heap.dictOf_iff.mp hd'
        have P := (gp.trans q R).put (o := .dict es') hnone un₁ R.low hLD hs e' (fun {ρ'} ag => ⟨_, hk', i3.mono ag (Nat.le_succ _)⟩)
        refine ⟨.ref σ₁.objs.length, _, _, h', _, rfl, P, ?_, hq⟩
        have : Value.ref s.heap.objs.size = .ref (upd ρ₁ σ₁.objs.length s.heap.objs.size σ₁.objs.length) := by rw [upd_self]
        rw [this]
        exact .ref _ (by simp)
      · exact hq.elim
    · exact h.elim
  · exact h.elim
end
end Mine
namespace Mine
open PySem PySem.SeqAt
section
variable {C : Cx} {L : Addr} {ρ : Nat → Addr} {σ : St} {s : Shared} {A : Around} {r : Rec} {n : Nat} {env : Env}

theorem plainArgs (es : Es) (pos : Pos) (env : Env) : (backTo pos (starEach (embs es) env)).any (·.1) = false := by
  induction es using Es.rec (motive_1 := fun _ => True) with
  | nil => rfl
  | cons e es _ ih =>
    unfold embs
    rw [star_emb]
    show (false || (backTo pos (starEach (embs es) env)).any (·.1)) = false
    rw [ih]; rfl
  | _ => trivial

theorem args_go {f : Value} {es : Es} {pos : Pos} {G : Args → Shared → Prop} (h : wpAny (Mm C) A (spliced (backTo pos (starEach (embs es) env))) (fun vs s' => G ⟨vs, []⟩ s') Fls s) :
    wpAny (Mm C) A (evalArgs f true (backTo pos (starEach (embs es) env)) []) G Fls s := by
  cases es with
  | nil =>
    unfold evalArgs
    show wpAny (Mm C) A (spliced [] >>= _) G Fls s
    refine wpAny_bind (wpAny_mono h (fun vs s' h' => ?_) fun _ _ e => e)
    refine wpAny_bind (wpAny_pure ?_)
    refine wpAny_holding ?_
    exact wpAny_bind (wpAny_pure (wpAny_bind (wpAny_pure (wpAny_pure h'))))
  | cons e es =>
    unfold embs at h ⊢
    rw [star_emb] at h ⊢
    exact Calls.evalArgs_plain (x := eval (emb e) env) (rest := backTo pos (starEach (embs es) env)) h

theorem call_sound (S : Snd C r n) (X : Facts C) {f : Nat} {np : Pos} {as : Es} {p : Pos} {Q : KV} (h : ev_call r f as σ Q) (rm : Room n A) (Ev : EnvOk L σ.fd env) (R : Rep C L ρ σ s.heap) :
    wpAny (Mm C) A (eval (emb (.call f np as p)) env) (Out C L (VR C) ρ σ s Q) Fls s := by
  unfold ev_call isDef at h
  cases hf : ftab f with
  | none => rw [hf] at h; exact h.elim
  | some fd =>
    rw [hf] at h
    obtain ⟨g, h⟩ := okGlob_of h
    obtain ⟨mg, mb, n1, n2, f1, _⟩ := X.ns
    obtain ⟨o, pm, cd, doc, ho, hdata, _⟩ := X.fn f fd hf
    unfold emb
    refine wpAny_Call_NameR (glob_name Ev g R n1 (f1 f fd hf) ?_)
    refine Calls.callWith_function (o := o) (fd := Calls.docDef (tb f) (argsOf fd) (embSs fd.body) (scopeOf fd) pm cd doc) (args_go (Out.go (S.evs h rm Ev R) fun vs us ρ₁ σ₁ h₁ tk₁ q hv hq => ?_))
    refine ⟨⟨q.rep.base _ _ ho, hdata⟩, ?_⟩
    exact wpAny_mono (S.call hq rm q.rep hv) (fun v s' x => x.1.lift R q) fun _ _ e => e

theorem bk_of {f : Nat} {k : BK} (e : bkind f = some k) : (f = n_list ∧ k = .list) ∨ (f = n_tuple ∧ k = .tuple) ∨ (f = n_len ∧ k = .len) ∨ (f = n_sorted ∧ k = .sorted) := by
  unfold bkind at e
  split at e
  · rename_i h; cases e; exact .inl ⟨Nat.eq_of_beq_eq_true h, rfl⟩
  · split at e
    · rename_i h; cases e; exact .inr (.inl ⟨Nat.eq_of_beq_eq_true h, rfl⟩)
    · split at e
      · rename_i h; cases e; exact .inr (.inr (.inl ⟨Nat.eq_of_beq_eq_true h, rfl⟩))
      · split at e
        · rename_i h; cases e; exact .inr (.inr (.inr ⟨Nat.eq_of_beq_eq_true h, rfl⟩))
        · cases e

theorem blt_sound (S : Snd C r n) (X : Facts C) {f : Nat} {np : Pos} {as : Es} {p : Pos} {Q : KV} (h : ev_blt r f as σ Q) (rm : Room n A) (Ev : EnvOk L σ.fd env) (R : Rep C L ρ σ s.heap) :
    wpAny (Mm C) A (eval (emb (.blt f np as p)) env) (Out C L (VR C) ρ σ s Q) Fls s := by
  unfold ev_blt at h
  cases h1 : (isOne as && isBlt f) with
  | false => rw [h1] at h; exact h.elim
  | true =>
    rw [h1] at h
    obtain ⟨g, h⟩ := okGlob_of h
    obtain ⟨mg, mb, n1, n2, _, _, _, fn, b1, b2, b3, b4, b5, b6⟩ := X.ns
    -- the arguments, then the call
    have go : ∀ {v : Value}, (∀ {vs : List V} {us : List Value} {ρ₁ : Nat → Addr} {σ₁ : St} {h₁ : Heap} {tk₁ : Nat}, Pst C L ρ σ s.heap ρ₁ σ₁ h₁ → VRs C ρ₁ σ₁.objs.length vs us → builtin f vs σ₁ Q →
        wpAny (Mm C) A (call v us) (Out C L (VR C) ρ₁ σ₁ { s with heap := h₁, toks := tk₁ } Q) Fls { s with heap := h₁, toks := tk₁ }) →
        wpAny (Mm C) A (evalArgs v true (backTo p (starEach (embs as) env)) []) (fun a s₁ => wpAny (Mm C) A (call v ([] ++ a.pos) a.kw) (Out C L (VR C) ρ σ s Q) Fls s₁) Fls s := by
      intro v k
      refine args_go (Out.go (S.evs h rm Ev R) fun vs us ρ₁ σ₁ h₁ tk₁ q hv hq => ?_)
      exact Out.up R q (k q hv hq)
    have hpl := plainArgs as p env
    have one : ∀ {vs : List V} {us : List Value} {ρ₁ : Nat → Addr} {σ₁ : St}, VRs C ρ₁ σ₁.objs.length vs us → builtin f vs σ₁ Q → ∃ a u, vs = [a] ∧ us = [u] ∧ VR C ρ₁ σ₁.objs.length a u := by
      intro vs us ρ₁ σ₁ hv hb
      unfold builtin at hb
      split at hb
      · cases us with
        | nil => exact hv.elim
        | cons u us => cases us with
          | nil => exact ⟨_, u, rfl, rfl, hv.1⟩
          | cons => exact hv.2.elim
      · exact hb.elim
    unfold emb
    refine wpAny_Call_NameR ?_
    cases ha : Nat.beq f n_abs with
    | true =>
      have := Nat.eq_of_beq_eq_true ha
      subst this
      refine built_name Ev g R n1 n2 (fn _ (by simp)) b3 ?_
      refine Calls.callWith_builtin hpl (go fun q hv hb => ?_)
      obtain ⟨a, u, rfl, rfl, hr⟩ := one hv hb
      exact bl_abs_sound q.rep hr hb
    | false =>
      cases hk : bkind f with
      | none =>
        unfold isBlt at h1
        rw [hk, ha] at h1
        simp at h1
      | some k =>
        have fin : ∀ {vs : List V} {us : List Value} {ρ₁ : Nat → Addr} {σ₁ : St} {h₁ : Heap} {tk₁ : Nat}, Pst C L ρ σ s.heap ρ₁ σ₁ h₁ → VRs C ρ₁ σ₁.objs.length vs us → builtin f vs σ₁ Q →
            wpAny (Mm C) A (call (bval k) us) (Out C L (VR C) ρ₁ σ₁ { s with heap := h₁, toks := tk₁ } Q) Fls { s with heap := h₁, toks := tk₁ } := by
          intro vs us ρ₁ σ₁ h₁ tk₁ q hv hb
          obtain ⟨a, u, rfl, rfl, hr⟩ := one hv hb
          unfold builtin at hb
          simp only [ha, hk] at hb
          split at hb
          · rename_i k' o e1 e2
            cases e1
            exact builtO_sound X rm.handled q.rep hr e2 hb
          · exact hb.elim
        rcases bk_of hk with ⟨rfl, rfl⟩ | ⟨rfl, rfl⟩ | ⟨rfl, rfl⟩ | ⟨rfl, rfl⟩
        · exact built_name Ev g R n1 n2 (fn _ (by simp)) b4 (PySem.callWith_type hpl (go fin))
        · exact built_name Ev g R n1 n2 (fn _ (by simp)) b5 (PySem.callWith_type hpl (go fin))
        · exact built_name Ev g R n1 n2 (fn _ (by simp)) b1 (Calls.callWith_builtin hpl (go fin))
        · exact built_name Ev g R n1 n2 (fn _ (by simp)) b2 (Calls.callWith_builtin hpl (go fin))
end
end Mine
namespace Mine
open PySem PySem.SeqAt
section
variable {C : Cx} {L : Addr} {ρ : Nat → Addr} {σ : St} {s : Shared} {A : Around} {r : Rec} {n : Nat} {env : Env}

theorem tb_append : tb n_append = "append" := by decide +kernel
theorem tb_pop : tb n_pop = "pop" := by decide +kernel
noncomputable def mkT : MK → String
  | .app => "list"
  | .pop => "list"
  | .dpop => "dict"
theorem mkL_of {n : Nat} {k : MK} (e : mkL n = some k) : (n = n_append ∧ k = .app) ∨ (n = n_pop ∧ k = .pop) := by
  unfold mkL at e
  split at e
  · rename_i h; cases e; exact .inl ⟨Nat.eq_of_beq_eq_true h, rfl⟩
  · rename_i h; cases e; exact .inr ⟨Nat.eq_of_beq_eq_true h, rfl⟩
  · cases e
theorem dict_nodict {d : Addr} {h : Heap} {ob : Obj} {kvs : List (Str × Value)} (hd : h.get? d = some ob) (hk : ob.IsDictOf (PySem.strKind pg C.w) kvs) : ob.dict = none := by
  obtain ⟨es, ep, hx, _⟩ := hk
  exact hx.2.1

theorem meth_on (X : Facts C) {ov : V} {u : Value} {nm : Nat} {k : MK} {pos : Pos} {trees : List (Bool × Sem Value)} {G : Value → Shared → Prop} (R : Rep C L ρ σ s.heap) (hu : VR C ρ σ.objs.length ov u) (e : (obj σ ov).bind (mkind nm) = some k)
    (h : wpAny (Mm C) A (callWith pos (.builtin (mkId k)) [u] trees []) G Fls s) : MethodOn pg C.w A (tb nm) pos u trees G Fls s := by
  obtain ⟨o, eo, ek⟩ := Option.bind_eq_some_iff.mp e
  have lst : ∀ {d : Addr} {vs : Array Value} {m : Nat}, u = .ref d → s.heap.get? d = some { cls := .type "list", data := .seq vs m } → mkL nm = some k → MethodOn pg C.w A (tb nm) pos u trees G Fls s := by
    intro d vs m eu hd em
    subst eu
    rcases mkL_of em with ⟨rfl, rfl⟩ | ⟨rfl, rfl⟩
    · rw [tb_append]
      exact ⟨"list", "list.append", F.plainAttrs_list, F.slot_list_append, type_list_append, ⟨_, hd, rfl⟩, fun a ea => by cases ea; exact ⟨_, hd, rfl⟩, h⟩
    · rw [tb_pop]
      exact ⟨"list", "list.pop", F.plainAttrs_list, F.slot_list_pop, F.type_list_pop, ⟨_, hd, rfl⟩, fun a ea => by cases ea; exact ⟨_, hd, rfl⟩, h⟩
  cases o with
  | list xs =>
    obtain ⟨d, ob, eu, hd, vs, m, rfl, _⟩ := obj_at X R hu eo rfl
    exact lst eu hd ek
  | syms c xs =>
    obtain ⟨d, ob, eu, hd, ⟨vs, m, rfl, _⟩, _⟩ := obj_at X R hu eo rfl
    exact lst eu hd ek
  | keys c xs =>
    obtain ⟨d, ob, rfl, hd, ⟨kvs, hk, _⟩, _⟩ := obj_at X R hu eo rfl
    have ek' : (match Nat.beq nm n_pop with | true => some MK.dpop | false => none) = some k := ek
    split at ek'
    · rename_i hb
      cases ek'
      have := Nat.eq_of_beq_eq_true hb
      subst this
      rw [tb_pop]
      exact ⟨"dict", "dict.pop", F.plainAttrs_dict, F.slot_dict_pop, F.type_dict_pop, (Heap.dictOf_iff.mpr ⟨ob, hd, hk⟩ : s.heap.DictOf (PySem.strKind pg C.w) d kvs).typeIs, fun a ea => by cases ea; exact ⟨_, hd, dict_nodict hd hk⟩, h⟩
    · cases ek'
  | _ => cases ek

theorem meth_sound (S : Snd C r n) (X : Facts C) {o : E} {nm : Nat} {as : Es} {ap p : Pos} {Q : KV} (h : ev_meth r o nm as ap p σ Q) (rm : Room n A) (Ev : EnvOk L σ.fd env) (R : Rep C L ρ σ s.heap) :
    wpAny (Mm C) A (eval (emb (.meth o nm as ap p)) env) (Out C L (VR C) ρ σ s Q) Fls s := by
  unfold ev_meth at h
  cases hm : methOk o as ap p with
  | false => rw [hm] at h; exact h.elim
  | true =>
    rw [hm] at h
    unfold methOk at hm
    have hm1 := Bool.and_eq_true_iff.mp hm
    have hm2 := Bool.and_eq_true_iff.mp hm1.1
    have hbase : attributeBase (emb o) (tb nm) env (eval (emb o) env) = eval (emb o) env := by
      cases o <;> first | rfl | (have := hm2.2; simp at this)
    have hline : (ap.endLine == p.line) = true := by rw [Nat.eq_of_beq_eq_true hm2.1]; simp
    have hfew : ((backTo p (starEach (embs as) env)).all (fun x => !x.1) && (backToKw p (keywordEach [] env)).all (fun x => x.1.isSome)
      && decide ((embs as).length + ([] : List Keyword).length + (if ([] : List Keyword).isEmpty then 0 else 1) < 30)) = true := by
      have hx := hm1.2
      cases as with
      | nil => simp at hx
      | cons e es => cases es with
        | nil => simp only [embs, star_emb]; rfl
        | cons e' es => cases es with
          | nil => simp only [embs, star_emb]; rfl
          | cons => simp at hx
    unfold emb
    refine wpAny_Call_method_late hbase hfew hline rfl (Out.go (S.ev h rm Ev R) fun ov u ρ₁ σ₁ h₁ tk₁ q hu hq => ?_)
    split at hq
    · rename_i k ek
      refine meth_on X q.rep hu ek ?_
      refine Calls.callWith_builtin (plainArgs as p env) (args_go (Out.go (S.evs hq rm (.of q Ev) q.rep) fun vs us ρ₂ σ₂ h₂ tk₂ q₂ hv hq₂ => ?_))
      exact Out.up R (q.trans q₂ R) (meth_op X q₂.rep (q₂.vr hu) hv hq₂)
    · exact hq.elim

theorem slc_sound (S : Snd C r n) (X : Facts C) {v hi : E} {sp p : Pos} {Q : KV} (h : ev_slc r v hi σ Q) (rm : Room n A) (Ev : EnvOk L σ.fd env) (R : Rep C L ρ σ s.heap) :
    wpAny (Mm C) A (eval (emb (.slc v hi sp p)) env) (Out C L (VR C) ρ σ s Q) Fls s := by
  unfold ev_slc at h
  cases hv : isVar v with
  | false => rw [hv] at h; exact h.elim
  | true =>
    rw [hv] at h
    unfold emb
    refine wpAny_Subscript_list_slice (Out.go (S.ev h rm Ev R) fun a u ρ₁ σ₁ h₁ tk₁ q ha hq => ?_) (fun o r => by cases v <;> first | rfl | (simp [isVar] at hv))
    rw [evalPart_none]
    refine wpAny_pure ?_
    show wpAny (Mm C) A (eval (emb hi) env) _ Fls _
    refine Out.go (S.ev hq rm (.of q Ev) q.rep) fun b w ρ₂ σ₂ h₂ tk₂ q₂ hb hq₂ => ?_
    have ha := q₂.vr ha
    have Q2 := q.trans q₂ R
    have fin : ∀ {d : Addr} {vs : Array Value} {m nn : Nat} {t : Tok} {o : O}, u = .ref d → w = .int (.ofNat nn) t → h₂.get? d = some { cls := .type "list", data := .seq vs m } → vs.size ≤ 1048576 →
        (∀ {ρ'}, (∀ l, l < σ₂.objs.length → ρ' l = ρ₂ l) → OR C ρ' (σ₂.objs.length + 1) o { cls := .type "list", data := .seq (slicePick vs none (some (Int.ofNat nn)) none) }) → newO o σ₂ Q →
        ∃ l items lo hi, u = .ref l ∧ h₂.IsList l items ∧ items.size ≤ sizeLine ∧ IsPart Value.none lo ∧ IsPart w hi ∧
          Out C L (VR C) ρ σ s Q (.ref (h₂.objs.size + 1)) { s with heap := (h₂.push { cls := .type "slice", data := .fields #[.none, w, .none] }).push { cls := .type "list", data := .seq (slicePick items lo hi none) }, toks := tk₂ } := by
      intro d vs m nn t o eu ew hd hsz hor hq
      subst eu; subst ew
      refine ⟨d, vs, none, some (.ofNat nn), rfl, isList_of hd, line_of (by omega), .none, .int _ _, ?_⟩
      refine Out.lift (h₁ := h₂) (tk₁ := tk₂) R Q2 (Out.fresh (s := { s with heap := h₂, toks := tk₂ }) (o := o) (tk := tk₂) q₂.rep (.of fun b o e => Heap.get?_push_of_some _ (Heap.get?_push_of_some _ e)) (Nat.le_succ _) ?_ hor hq)
      have := Heap.get?_push_size (h₂.push { cls := .type "slice", data := .fields #[.none, .int (.ofNat nn) t, .none] }) (o := { cls := .type "list", data := .seq (slicePick vs none (some (Int.ofNat nn)) none) }) rfl
      rw [Heap.size_push] at this
      exact this
    split at hq₂
    · rename_i c xs nn eo
      split at hq₂
      · rename_i hc
        have hc := Bool.and_eq_true_iff.mp hc
        obtain ⟨d, ob, rfl, hd, ⟨vs, m, rfl, hx⟩, hcap⟩ := obj_at X q₂.rep ha eo rfl
        generalize hz : V.int (Int.ofNat nn) = z at hb
        cases hb with
        | int i t =>
          cases hz
          have hlen := hx.length
          simp at hlen
          refine fin (o := .syms c (xs.take nn)) rfl rfl hd (by have := blt_lt hc.1; omega) (fun ag => ⟨⟨_, 0, rfl, ?_⟩, ?_⟩) hq₂
          · rw [pick_take, List.map_take]
            exact (hx.take nn).mono ag (Nat.le_succ _)
          · exact Nat.le_trans (List.length_take_le' _ _) hcap
        | _ => cases hz
      · exact hq₂.elim
    · rename_i xs nn eo
      split at hq₂
      · rename_i hc
        obtain ⟨d, ob, rfl, hd, ⟨vs, m, rfl, hx⟩, hcap⟩ := obj_at X q₂.rep ha eo rfl
        generalize hz : V.int (Int.ofNat nn) = z at hb
        cases hb with
        | int i t =>
          cases hz
          have hlen := hx.length
          simp at hlen
          refine fin (o := .nums (xs.take nn)) rfl rfl hd (by omega) (fun ag => ⟨⟨_, 0, rfl, ?_⟩, ?_⟩) hq₂
          · rw [pick_take, List.map_take]
            exact (hx.take nn).mono ag (Nat.le_succ _)
          · exact Nat.le_trans (List.length_take_le' _ _) hcap
        | _ => cases hz
      · exact hq₂.elim
    · exact hq₂.elim

theorem ev_step (S : Snd C r n) (X : Facts C) {e : E} {Q : KV} (h : evStep r e σ Q) (rm : Room n A) (Ev : EnvOk L σ.fd env) (R : Rep C L ρ σ s.heap) : wpAny (Mm C) A (eval (emb e) env) (Out C L (VR C) ρ σ s Q) Fls s := by
  cases e with
  | cst c p => exact cst_sound h R
  | var x p => exact var_sound h Ev R
  | glo x p => exact glo_sound X h Ev R
  | bop a es p =>
    have e : emb (.bop a es p) = .BoolOp (bo a) (embs es) p := by cases a <;> rfl
    rw [e, arm_eval_BoolOp]
    exact S.bopV h rm Ev R
  | bin op l e p =>
    have h' : ev_bin r op l e σ Q := h
    refine wpAny_BinOp (Out.go (S.ev h' rm Ev R) fun a u ρ₁ σ₁ h₁ tk₁ q ha hq => ?_)
    refine Out.go (S.ev hq rm (.of q Ev) q.rep) fun b v ρ₂ σ₂ h₂ tk₂ q₂ hb hq₂ => ?_
    exact Out.up R (q.trans q₂ R) (bin_sound X q₂.rep (q₂.vr ha) hb hq₂)
  | not x p => exact h.elim
  | ife t a b p =>
    have h' : ev_ife r t a b σ Q := h
    refine wpAny_IfExp (Out.go (S.tst h' rm Ev R) fun c u ρ₁ σ₁ h₁ tk₁ q hc hq => ?_)
    cases hc
    cases c with
    | true => exact Out.up R q (S.ev hq rm (.of q Ev) q.rep)
    | false => exact Out.up R q (S.ev hq rm (.of q Ev) q.rep)
  | dic ks vs p => exact dic_sound S h rm Ev R
  | cmp op l e p =>
    have h' : ev_cmp r op l e σ Q := h
    refine wpAny_Compare1 (Out.go (S.ev h' rm Ev R) fun a u ρ₁ σ₁ h₁ tk₁ q ha hq => ?_) (marks_emb op e)
    refine Out.go (S.ev hq rm (.of q Ev) q.rep) fun b v ρ₂ σ₂ h₂ tk₂ q₂ hb hq₂ => ?_
    exact Out.up R (q.trans q₂ R) (cmp_sound X q₂.rep (by have := rm.units; omega) (q₂.vr ha) hb hq₂)
  | call f np as p => exact call_sound S X h rm Ev R
  | blt f np as p => exact blt_sound S X h rm Ev R
  | meth o nm as ap p => exact meth_sound S X h rm Ev R
  | sub v i p =>
    have h' : ev_sub r v i σ Q := h
    unfold emb
    refine Subscript_ (Out.go (S.ev h' rm Ev R) fun a u ρ₁ σ₁ h₁ tk₁ q ha hq => ?_)
    refine Out.go (S.ev hq rm (.of q Ev) q.rep) fun b w ρ₂ σ₂ h₂ tk₂ q₂ hb hq₂ => ?_
    split at hq₂
    · rename_i xs eo
      unfold numsI at hq₂
      split at hq₂
      · rename_i nn
        obtain ⟨hlt, hall⟩ := hq₂
        obtain ⟨_, _, _, _, ⟨⟨_, _, _, _⟩, hcap⟩⟩ := obj_at X q₂.rep (q₂.vr ha) eo rfl
        refine Out.up R (q.trans q₂ R) (sub_tail (x := .int xs[nn]) X q₂.rep (q₂.vr ha) hb eo ?_ (hall _) (subscripted_emb i u w))
        show (match some (xs.map V.int), Nat.blt nn 2000000 with | some xs, true => nth xs nn | _, _ => none) = _
        have hb2 : Nat.blt nn 2000000 = true := Nat.ble_eq_true_of_le (by omega)
        rw [hb2]
        show nth (xs.map V.int) nn = _
        rw [nth_eq]
        simp [hlt]
      · exact hq₂.elim
    · rename_i o _ eo
      split at hq₂
      · rename_i x ex
        exact Out.up R (q.trans q₂ R) (sub_tail X q₂.rep (q₂.vr ha) hb eo ex hq₂ (subscripted_emb i u w))
      · exact hq₂.elim
    · exact hq₂.elim
  | slc v hi sp p => exact slc_sound S X h rm Ev R
  | lst es p =>
    have h' : ev_lst r es σ Q := h
    unfold emb
    refine List_ (Out.go (S.evs h' rm Ev R) fun vs us ρ₁ σ₁ h₁ tk₁ q hv hq => ?_)
    split at hq
    · rename_i hs; exact Out.up R q (newList_sound q.rep hv hs hq)
    · exact hq.elim
  | tup es p =>
    have h' : ev_tup r es σ Q := h
    unfold emb
    refine Tuple_ (Out.go (S.evs h' rm Ev R) fun vs us ρ₁ σ₁ h₁ tk₁ q hv hq => ?_)
    split at hq
    · rename_i hs; exact Out.up R q (newTuple_sound q.rep hv hs hq)
    · exact hq.elim
  | dcm x src ks pk pv pt pl ptp pc p =>
    have h' : ev_dcm r src ks σ Q := h
    unfold ev_dcm at h'
    split at h'
    · exact h'.elim
    · rename_i hk
      exact dcm_sound X rm.handled (blt_lt hk) R (S.ev h' rm Ev R)
end
end Mine
namespace Mine
open PySem PySem.SeqAt

theorem lk_put {α : Type} : ∀ (l : List (Nat × α)) (x y : Nat) (v : α), lk (put l x v) y = if y = x then some v else lk l y
  | [], x, y, v => by
    simp only [put, lk]
    cases h : Nat.beq x y with
    | true => simp [Nat.eq_of_beq_eq_true h]
    | false =>
      have : ¬ y = x := fun e => by rw [e, Nat.beq_refl] at h; cases h
      simp [this]
  | (k, u) :: r, x, y, v => by
    have ih := lk_put r x y v
    simp only [put]
    cases h : Nat.beq k x with
    | true =>
      have e := Nat.eq_of_beq_eq_true h
      subst e
      simp only [lk]
      cases h2 : Nat.beq k y with
      | true => simp [Nat.eq_of_beq_eq_true h2]
      | false =>
        have : ¬ y = k := fun e => by rw [e, Nat.beq_refl] at h2; cases h2
        simp [this]
    | false =>
      simp only [lk]
      cases h2 : Nat.beq k y with
      | true =>
        have e := Nat.eq_of_beq_eq_true h2
        subst e
        have : ¬ k = x := fun e => by rw [e, Nat.beq_refl] at h; cases h
        simp [this]
      | false => simp only [ih]

section
variable {C : Cx} {L : Addr} {ρ : Nat → Addr} {σ : St} {s : Shared} {A : Around} {r : Rec} {n : Nat} {env : Env}

/-- the frame's names changed -/
theorem Pst.names {h h' : Heap} {lc : List (Nat × V)} {m' : Str → Option Value} (R : Rep C L ρ σ h) (hs : Heap.SameBut L h h') (hn : h'.Ns L m')
    (hm : ∀ x v, lk lc x = some v → isLoc σ.fd x = true ∧ ∃ u, m' (tb x) = some u ∧ VR C ρ σ.objs.length v u) : Pst C L ρ σ h ρ { σ with lc := lc } h' := by
  refine ⟨⟨fun b o e => (hs.2 b (R.notL e)).trans (R.base b o e), R.above, fun l o hl => ?_, R.inj, ⟨m', hn, hm⟩⟩, fun _ _ => rfl, Nat.le_refl _, fun b o e hb _ => (hs.2 b hb).trans e, fun l o hl => .inl ⟨l, o, hl, rfl⟩, fun _ _ e => e, rfl⟩
  obtain ⟨ob, e, r', a, nl⟩ := R.obj l o hl
  exact ⟨ob, (hs.2 _ nl).trans e, r', a, nl⟩

theorem EnvOk.plain {f : FD} (Ev : EnvOk L f env) : (env.scope.kind == .class || (env.scope.kind == .module && env.locals != env.globals)) = false := by
  obtain ⟨_, _, _, rfl⟩ := Ev; rfl
theorem setL_of {x : Nat} {v : V} {Q : St → Prop} (h : setL x v σ Q) : isLoc σ.fd x = true ∧ Q { σ with lc := put σ.lc x v } := by
  unfold setL at h
  split at h
  · rename_i e; exact ⟨e, h⟩
  · exact h.elim
theorem setL_sound {x : Nat} {a : V} {v : Value} {Q : St → Prop} (h : setL x a σ Q) (Ev : EnvOk L σ.fd env) (R : Rep C L ρ σ s.heap) (hv : VR C ρ σ.objs.length a v) :
    wpAny (Mm C) A (storeName env (tb x) v) (Out C L RU ρ σ s fun _ => Q) Fls s := by
  obtain ⟨hl, hq⟩ := setL_of h
  obtain ⟨m, nm, hm⟩ := R.ns
  refine wpAny_storeName_local (kind_loc Ev hl) (by rw [Ev.locals]; exact nm) (fun h' hn hs => ?_) Ev.plain
  rw [Ev.locals] at hn hs
  refine ⟨(), ρ, { σ with lc := put σ.lc x a }, h', _, rfl, Pst.names R hs hn fun y b hy => ?_, trivial, hq⟩
  rw [lk_put] at hy
  by_cases e : y = x
  · subst e
    rw [if_pos rfl] at hy
    cases hy
    exact ⟨hl, v, if_pos rfl, hv⟩
  · rw [if_neg e] at hy
    obtain ⟨h1, u, h2, h3⟩ := hm y b hy
    exact ⟨h1, u, by rw [if_neg (fun z => e (tb_inj z))]; exact h2, h3⟩

theorem asg1_sound (S : Snd C r n) (X : Facts C) {t : T} {a : V} {v : Value} {Q : St → Prop} (h : asg1 r t a σ Q) (rm : Room n A) (Ev : EnvOk L σ.fd env) (R : Rep C L ρ σ s.heap) (hv : VR C ρ σ.objs.length a v) :
    wpAny (Mm C) A (assign (embT t) env v) (Out C L RU ρ σ s fun _ => Q) Fls s := by
  cases t with
  | name x p => exact wpAny_assign_Name (setL_sound h Ev R hv)
  | sub o i p =>
    have h' : r.ev o σ fun ov σ₁ => r.ev i σ₁ fun iv σ₂ => match ov, obj σ₂ ov with | .ref l, some ob => setI l ob iv a σ₂ Q | _, _ => False := h
    unfold embT
    rw [arm_assign_Subscript]
    refine wpAny_bind (wpAny_holding (Out.go (S.ev h' rm Ev R) fun ov u ρ₁ σ₁ h₁ tk₁ q hu hq => ?_))
    refine wpAny_bind (wpAny_holding (Out.go (S.ev hq rm (.of q Ev) q.rep) fun iv w ρ₂ σ₂ h₂ tk₂ q₂ hi hq₂ => ?_))
    split at hq₂
    · rename_i l ob eo
      have hu := q₂.vr hu
      cases hu with
      | ref _ hl =>
        refine wpAny_bind (wpAny_standAt (wpAny_bind (wpAny_holding ?_)))
        refine Out.go (setI_sound (s := { s with heap := h₂, toks := tk₂ }) q₂.rep eo hi ((q.trans q₂ R).vr hv) hq₂) fun _ _ ρ₃ σ₃ h₃ tk₃ q₃ _ hq₃ => ?_
        exact wpAny_release (Out.intro (a := ()) ((q.trans q₂ R).trans q₃ R) trivial hq₃)
    · exact hq₂.elim
theorem asgs_sound (S : Snd C r n) (X : Facts C) : ∀ {ts : List T} {as : List V} {vs : List Value} {ρ : Nat → Addr} {σ : St} {s : Shared} {Q : St → Prop}, asgs r ts as σ Q → Room n A → EnvOk L σ.fd env → Rep C L ρ σ s.heap → VRs C ρ σ.objs.length as vs →
    wpAny (Mm C) A (assignInOrder ((assignEach (ts.map embT) env).map (·.2)) vs) (Out C L RU ρ σ s fun _ => Q) Fls s
  | [], [], [], ρ, σ, s, Q, h, _, _, R, _ => wpAny_pure (.now' (a := ()) R trivial h)
  | [], [], _ :: _, _, _, _, _, _, _, _, _, hv => hv.elim
  | [], _ :: _, _, _, _, _, _, h, _, _, _, _ => h.elim
  | _ :: _, [], _, _, _, _, _, h, _, _, _, _ => h.elim
  | _ :: _, _ :: _, [], _, _, _, _, _, _, _, _, hv => hv.elim
  | t :: ts, a :: as, v :: vs, ρ, σ, s, Q, h, rm, Ev, R, hv => by
    have e : assignInOrder ((assignEach ((t :: ts).map embT) env).map (·.2)) (v :: vs) = (do holding vs (assign (embT t) env v); assignInOrder ((assignEach (ts.map embT) env).map (·.2)) vs) := by cases t <;> rfl
    rw [e]
    refine wpAny_bind (wpAny_holding (Out.go (asg1_sound S X h rm Ev R hv.1) fun _ _ ρ₁ σ₁ h₁ tk₁ q _ hq => ?_))
    exact Out.up R q (asgs_sound S X hq rm (.of q Ev) q.rep (q.vrs hv.2))
end
end Mine
namespace Mine
open PySem PySem.SeqAt
section
variable {C : Cx} {L : Addr} {ρ : Nat → Addr} {σ : St} {s : Shared} {A : Around} {r : Rec} {n : Nat} {env : Env}

theorem nonref_val {a : V} {v : Value} {N : Nat} (h : VR C ρ N a v) (e : nonref a = true) : ∀ b, v ≠ .ref b := by
  cases h <;> (intro b z; cases z) <;> cases e

theorem sole_name (t : T) (e : E) (line : Nat) (env : Env) (h : (isNameT t && isDcm e) = false) : swapsWithSole [embT t] (emb e) line env = pure false := by
  cases t with
  | name x p => cases e <;> first | rfl | (simp [isNameT, isDcm] at h)
  | sub o i p => cases e <;> rfl
theorem sole_tup (ts : List Expr) (tp : Pos) (e : E) (line : Nat) (env : Env) : swapsWithSole [.Tuple ts 0 tp] (emb e) line env = pure false := by cases e <;> rfl
theorem swapped_one (t : T) (e : E) (env : Env) : swappedStores [embT t] (emb e) env = pure none := by cases t <;> rfl
theorem swapped_other (ts : List Expr) (tp : Pos) (e : E) (env : Env) (h : isTup e = false) : swappedStores [.Tuple ts 0 tp] (emb e) env = pure none := by cases e <;> first | rfl | (simp [isTup] at h)

theorem names_short {g : Expr → Option Str} (hg : ∀ o i p, g (.Subscript o i p) = none) : ∀ (ts : List T), namesOf ts = none → ((ts.map embT).filterMap g).length < ts.length
  | [], h => by cases h
  | t :: ts, h => by
    have le : ∀ (ts : List T), ((ts.map embT).filterMap g).length ≤ ts.length := fun ts => by
      have := List.length_filterMap_le g (ts.map embT)
      simpa using this
    cases t with
    | name x p =>
      unfold namesOf at h
      split at h
      · cases h
      · rename_i e
        have ih := names_short hg ts e
        simp only [List.map_cons, embT, List.filterMap_cons, List.length_cons]
        split
        · omega
        · simp only [List.length_cons]; omega
    | sub o i p =>
      have := le ts
      simp only [List.map_cons, embT, List.filterMap_cons, List.length_cons, hg]
      omega
theorem swapped_subs (ts : List T) (tp p : Pos) (es : Es) (env : Env) (h : namesOf ts = none) : swappedStores [.Tuple (ts.map embT) 0 tp] (emb (.tup es p)) env = pure none := by
  unfold emb swappedStores
  simp only []
  split
  · rfl
  · split
    · rfl
    · refine if_pos ?_
      refine Bool.or_eq_true_iff.mpr (.inl ?_)
      refine bne_iff_ne.mpr ?_
      rw [List.length_map]
      exact Nat.ne_of_lt (names_short (fun _ _ _ => rfl) ts h)

theorem blockKind_of {f : FD} (Ev : EnvOk L f env) : env.blockKind = .function := by obtain ⟨_, _, _, rfl⟩ := Ev; rfl

theorem swapped_names {x y : Nat} {px py tp p : Pos} {es : Es} (Ev : EnvOk L σ.fd env) (hx : isLoc σ.fd x = true) (hy : isLoc σ.fd y = true) (ht : twoNames [.name x px, .name y py] = true) (hd : deepFirst (.tup es p) = true) :
    swappedStores [.Tuple ([.name x px, .name y py].map embT) 0 tp] (emb (.tup es p)) env = pure (some [tb x, tb y]) := by
  unfold deepFirst at hd
  split at hd
  · rename_i z pz i1 p1 j1 p2 e2 p3 e0
    cases e0
    have h1 := Bool.and_eq_true_iff.mp ht
    have hne : x ≠ y := fun e => by subst e; have := h1.1; simp [Nat.beq_refl] at this
    have hl : px.line = py.line := Nat.eq_of_beq_eq_true h1.2
    have hk : (env.kindOf (tb x) == some NameKind.local) = true := by rw [kind_loc Ev hx]; rfl
    have hk' : (env.kindOf (tb y) == some NameKind.local) = true := by rw [kind_loc Ev hy]; rfl
    have hb := blockKind_of Ev
    have hst : (match emb e2 with | .Starred .. => true | _ => false) = false := by cases e2 <;> rfl
    have hnd : (tb z == ("__debug__" : Str)) = false := tb_nodebug z
    have hxy : (tb y == tb x) = false := by
      rw [beq_eq_false_iff_ne]; exact fun q => hne (tb_inj q).symm
    have hxy' : (tb x == tb y) = false := by
      rw [beq_eq_false_iff_ne]; exact fun q => hne (tb_inj q)
    have her : [tb x, tb y].eraseDups = [tb x, tb y] := by
      simp [List.eraseDups_cons, hxy]
    unfold emb embs embs embs
    unfold swappedStores
    simp only [List.map_cons, List.map_nil, embT, emb, List.length_cons, List.length_nil, hb, List.any_cons, List.any_nil, hst, List.head?_cons, Option.map_some, Option.getD_some, Expr.pos, List.filterMap_cons, hk, hk', hl, beq_self_eq_true, Bool.and_self, if_true, List.filterMap_nil, her,
      List.all_cons, List.all_nil, foldedForSure, constantsAlone, hnd, Bool.false_and, Bool.and_false]
    cases e2 <;> rfl
  · cases hd

theorem swap_two {d : Addr} {a b : V} {v w : Value} {x y : Nat} {stores : List (Value → Sem Unit)} {Q : KF} (hh : A.handled = none) (Ev₁ : EnvOk L σ.fd env) (R : Rep C L ρ σ s.heap) (hd : s.heap.IsTuple d #[v, w]) (hva : VR C ρ σ.objs.length a v) (hwb : VR C ρ σ.objs.length b w)
    (lx : isLoc σ.fd x = true) (ly' : isLoc σ.fd y = true) (hne : y ≠ x) (hq2 : Q .next { σ with lc := put (put σ.lc x a) y b }) :
    wpAny (Mm C) A (assignStores env (.ref d) (some [tb x, tb y]) stores) (Out C L (RF C) ρ σ s Q) Fls s := by
  unfold assignStores
  refine wpAny_bind (wpAny_rule ?_)
  have un : wpAny (Mm C) A (unpackItems (.ref d) 2 none) (fun items s₁ => wpAny (Mm C) A (do assignInOrder ([tb x, tb y].reverse.map fun n => bindName env n) items.reverse; pure Flow.next) (Out C L (RF C) ρ σ s Q) Fls s₁) Fls s := by
    refine wpAny_unpackItems_tuple (items := #[v, w]) hh hd fun h' hx' => ?_
    have g := Pst.grow (h' := h') R (.of fun b o e => hx' b o (Nat.ne_of_lt (Heap.lt_size e)) e)
    obtain ⟨m, nm, hm⟩ := g.rep.ns
    show wpAny (Mm C) A ((do holding [v] (bindName env (tb y) w); holding [] (bindName env (tb x) v); pure ()) >>= fun _ => pure Flow.next) _ Fls _
    refine wpAny_bind (wpAny_bind (wpAny_holding (wpAny_bindName (wpAny_storeName_local (kind_loc Ev₁ ly') (by rw [Ev₁.locals]; exact nm) (fun h₂ hn hs => ?_) Ev₁.plain))))
    refine wpAny_bind (wpAny_holding (wpAny_bindName (wpAny_storeName_local (kind_loc Ev₁ lx) hn (fun h₃ hn₃ hs₃ => ?_) Ev₁.plain)))
    refine wpAny_pure (wpAny_pure ?_)
    rw [Ev₁.locals] at hn hs hn₃ hs₃
    have fin := Pst.names (lc := put (put σ.lc x a) y b) g.rep (hs.trans hs₃) hn₃ fun z c hz => by
      rw [lk_put, lk_put] at hz
      by_cases e1 : z = y
      · subst e1
        rw [if_pos rfl] at hz
        cases hz
        exact ⟨ly', w, by rw [if_neg (fun z => hne (tb_inj z)), if_pos rfl], hwb⟩
      · rw [if_neg e1] at hz
        by_cases e2 : z = x
        · subst e2
          rw [if_pos rfl] at hz
          cases hz
          exact ⟨lx, v, if_pos rfl, hva⟩
        · rw [if_neg e2] at hz
          obtain ⟨i1, u, i2, i3⟩ := hm z c hz
          exact ⟨i1, u, by rw [if_neg (fun z => e2 (tb_inj z)), if_neg (fun z => e1 (tb_inj z))]; exact i2, i3⟩
    exact Out.intro (a := Fl.next) (v := Flow.next) (g.trans fin R) rfl hq2
  exact wpAny_bind un

theorem exec_asgT (S : Snd C r n) (X : Facts C) {ts : List T} {tp p : Pos} {e : E} {Q : KF} (h : ex_asgT r ts e σ Q) (rm : Room n A) (Ev : EnvOk L σ.fd env) (R : Rep C L ρ σ s.heap) :
    wpAny (Mm C) A (exec (embS (.asgT ts tp e p)) env) (Out C L (RF C) ρ σ s Q) Fls s := by
  unfold ex_asgT at h
  split at h
  · rename_i hok
    -- the value is a tuple: its items, then the stores
    have tupAt : ∀ {a : V} {u : Value} {ρ₁ : Nat → Addr} {σ₁ : St} {h₁ : Heap} {xs : List V}, Rep C L ρ₁ σ₁ h₁ → VR C ρ₁ σ₁.objs.length a u → obj σ₁ a = some (.tuple xs) → ∃ d vs, u = .ref d ∧ h₁.IsTuple d vs ∧ VRs C ρ₁ σ₁.objs.length xs vs.toList := by
      intro a u ρ₁ σ₁ h₁ xs R₁ ha eo
      obtain ⟨d, ob, rfl, hd, vs, m, rfl, hx⟩ := obj_at X R₁ ha eo rfl
      exact ⟨d, vs, rfl, ⟨_, hd, rfl, m, rfl⟩, hx⟩
    have plain : swappedStores [.Tuple (ts.map embT) 0 tp] (emb e) env = pure none → wpAny (Mm C) A (exec (embS (.asgT ts tp e p)) env) (Out C L (RF C) ρ σ s Q) Fls s := by
      intro hw
      unfold embS
      refine wpAny_Assign_stores (Out.go (S.ev h rm Ev R) fun a u ρ₁ σ₁ h₁ tk₁ q ha hq => ?_) (sole_tup _ _ _ _ _) hw
      split at hq
      · rename_i xs eo
        split at hq
        · rename_i hlen
          have len := Nat.eq_of_beq_eq_true hlen
          obtain ⟨d, vs, rfl, hd, hx⟩ := tupAt q.rep ha eo
          show wpAny (Mm C) A (assign (.Tuple (ts.map embT) 0 tp) env (.ref d)) _ Fls _
          have hn : (assignEach (ts.map embT) env).length = vs.size := by
            have : ∀ ts : List T, (assignEach (ts.map embT) env).length = ts.length := fun ts => by
              induction ts with
              | nil => rfl
              | cons t ts ih => cases t <;> simp [embT, assignEach, ih]
            rw [this, len, hx.length]; simp
          have hst : (assignEach (ts.map embT) env).findIdx? (·.1) = none := by
            have : ∀ ts : List T, (assignEach (ts.map embT) env).findIdx? (·.1) = none := fun ts => by
              induction ts with
              | nil => rfl
              | cons t ts ih => cases t <;> simp [embT, assignEach, List.findIdx?_cons, ih]
            exact this ts
          refine wpAny_assign_Tuple rm.handled hd hn hst fun h' hx' => ?_
          have g := Pst.grow (h' := h') q.rep (.of fun b o e => hx' b o (Nat.ne_of_lt (Heap.lt_size e)) e)
          refine Out.go (s := { s with heap := h', toks := tk₁ }) (asgs_sound S X hq rm (.of q Ev) g.rep hx) fun _ _ ρ₂ σ₂ h₂ tk₂ q₂ _ hq₂ => ?_
          exact Out.intro (a := Fl.next) (v := Flow.next) ((q.trans g R).trans q₂ R) rfl hq₂
        · exact hq.elim
      · exact hq.elim
    cases ht : isTup e with
    | false => exact plain (swapped_other _ _ _ _ ht)
    | true =>
      unfold okTup at hok
      rw [ht] at hok
      cases e with
      | tup es pe =>
        simp only at hok
        split at hok
        · rename_i en
          exact plain (swapped_subs ts tp pe es env en)
        · have hok := Bool.and_eq_true_iff.mp hok
          have h2 := hok.2
          unfold twoNames at h2
          split at h2
          · rename_i x px y py en _
            unfold embS
            rw [exec_Assign_arm]
            refine wpAny_bind (wpAny_standAt ?_)
            rw [sole_tup]
            refine wpAny_bind (wpAny_pure ?_)
            rw [if_neg (by decide)]
            refine wpAny_bind (Out.go (S.ev h rm Ev R) fun a u ρ₁ σ₁ h₁ tk₁ q ha hq => ?_)
            split at hq
            · rename_i xs eo
              split at hq
              · rename_i hlen
                have len := Nat.eq_of_beq_eq_true hlen
                obtain ⟨d, vs, rfl, hd, hx⟩ := tupAt q.rep ha eo
                cases xs with
                | nil => cases len
                | cons a xs => cases xs with
                  | nil => cases len
                  | cons b xs => cases xs with
                    | cons => cases len
                    | nil =>
                      obtain ⟨ls⟩ := vs
                      cases ls with
                      | nil => exact hx.elim
                      | cons v ls => cases ls with
                        | nil => exact hx.2.elim
                        | cons w ls => cases ls with
                          | cons => exact hx.2.2.elim
                          | nil =>
                            have hva : VR C ρ₁ σ₁.objs.length a v := hx.1
                            have hwb : VR C ρ₁ σ₁.objs.length b w := hx.2.1
                            have hq' : setL x a σ₁ fun σ₂ => setL y b σ₂ fun σ₃ => Q .next σ₃ := hq
                            obtain ⟨lx, hq1⟩ := setL_of hq'
                            obtain ⟨ly, hq2⟩ := setL_of hq1
                            have ly' : isLoc σ₁.fd y = true := ly
                            have Ev₁ : EnvOk L σ₁.fd env := .of q Ev
                            have hne : y ≠ x := fun e => by subst e; have := (Bool.and_eq_true_iff.mp h2).1; simp [Nat.beq_refl] at this
                            rw [swapped_names Ev₁ lx ly' h2 hok.1]
                            refine wpAny_bind (wpAny_pure ?_)
                            exact Out.up R q (swap_two rm.handled Ev₁ q.rep hd hva hwb lx ly' hne hq2)
              · exact hq.elim
            · exact hq.elim
          · cases h2
      | _ => cases ht
  · exact h.elim
end
end Mine
namespace Mine
open PySem PySem.SeqAt
section
variable {C : Cx} {L : Addr} {ρ ρ₁ ρ₂ : Nat → Addr} {σ σ₁ σ₂ : St} {h h₁ h₂ : Heap}
/-- only an object under no label has changed, that was not there at first -/
theorem Pst.but {I : Addr} (R : Rep C L ρ σ h) (p : Pst C L ρ σ h ρ₁ σ₁ h₁) (hn : h.get? I = none) (hu : ∀ l o, Has σ₁ l o → ρ₁ l ≠ I) (hL : L ≠ I) (hk : Heap.ExtBut I h₁ h₂) : Pst C L ρ σ h ρ₁ σ₁ h₂ := by
  have ne : ∀ b o, h.get? b = some o → b ≠ I := fun b o e z => by rw [z, hn] at e; cases e
  obtain ⟨m, nm, hm⟩ := p.rep.ns
  refine ⟨⟨fun b o e => hk b o (ne b o (R.base b o e)) (p.rep.base b o e), p.rep.above, fun l o hl => ?_, p.rep.inj, ⟨m, nm.at' fun o e => hk L o hL e, hm⟩⟩, p.agr, p.len, fun b o e hb hnn => hk b o (ne b o e) (p.kp b o e hb hnn), p.fr, p.tup, p.fd⟩
  obtain ⟨ob, e, r, q⟩ := p.rep.obj l o hl
  exact ⟨ob, hk _ _ (hu l o hl) e, r, q⟩
/-- what bears no label bears none later -/
theorem Pst.free {I : Addr} {ob : Obj} (p : Pst C L ρ σ h ρ₁ σ₁ h₁) (e : h.get? I = some ob) (hu : ∀ l o, Has σ l o → ρ l ≠ I) : ∀ l o, Has σ₁ l o → ρ₁ l ≠ I := by
  intro l o hl z
  rcases p.fr l o hl with ⟨l₀, o₀, h0, e0⟩ | e0
  · exact hu l₀ o₀ h0 (e0.trans z)
  · rw [z, e] at e0; cases e0
end
section
variable {C : Cx} {L : Addr} {ρ : Nat → Addr} {σ : St} {s : Shared} {A : Around} {r : Rec} {n : Nat} {env : Env}

theorem nth_drop {α : Type} : ∀ (xs : List α) (i : Nat), xs.drop i = match nth xs i with | some a => a :: xs.drop (i + 1) | none => []
  | [], i => by simp [nth]
  | a :: r, 0 => by simp [nth]
  | a :: r, i + 1 => by
    show r.drop i = _
    rw [nth_drop r i]
    rfl

theorem loop_sound (S : Snd C r n) {x : Nat} {xp : Pos} {body : Ss} {xs : List V} {Q : KF} {I : Addr} {St : Nat → Heap → Prop} (rm : Room n A) (Ev : EnvOk L σ.fd env) (R : Rep C L ρ σ s.heap)
    (hnone : s.heap.get? I = none) (hL : L ≠ I)
    (live : ∀ i h, St i h → ∃ o, h.get? I = some o) (hfr : ∀ i h h', St i h → (∀ o, h.get? I = some o → h'.get? I = some o) → St i h')
    (item : ∀ {i : Nat} {a : V} {ρ' : Nat → Addr} {σ' : Mine.St} {s' : Shared} {G : Option Value → Shared → Prop} {E : Value → Shared → Prop}, nth xs i = some a → Pst C L ρ σ s.heap ρ' σ' s'.heap → St i s'.heap →
      (∀ v h' tk, VR C ρ' σ'.objs.length a v → St (i + 1) h' → Heap.ExtBut I s'.heap h' → G (some v) { s' with heap := h', toks := tk }) → wpAny (Mm C) A (pyNext (.ref I)) G E s')
    (done : ∀ {i : Nat} {ρ' : Nat → Addr} {σ' : Mine.St} {s' : Shared} {G : Option Value → Shared → Prop} {E : Value → Shared → Prop}, nth xs i = none → i ≤ xs.length → Pst C L ρ σ s.heap ρ' σ' s'.heap → St i s'.heap →
      (∀ h', Heap.ExtBut I s'.heap h' → G none { s' with heap := h' }) → wpAny (Mm C) A (pyNext (.ref I)) G E s')
    {ρ₀ : Nat → Addr} {σ₀ : Mine.St} {h₀ : Heap} {tk₀ : Nat} (p₀ : Pst C L ρ σ s.heap ρ₀ σ₀ h₀) (u₀ : ∀ l o, Has σ₀ l o → ρ₀ l ≠ I) (st₀ : St 0 h₀) (h : loopV r x body xs σ₀ Q) :
    codeAny (Mm C) A (.forLoop (.Name (tb x) xp) (.ref I) (embSs body) [] env) (fun q s' => match q with | .ok f => Out C L (RF C) ρ σ s Q f s' | .error _ => False) { s with heap := h₀, toks := tk₀ } := by
  refine codeAny_forLoop (fun k s' => ∃ i ρ' σ' h' tk', s' = { s with heap := h', toks := tk' } ∧ Pst C L ρ σ s.heap ρ' σ' h' ∧ (∀ l o, Has σ' l o → ρ' l ≠ I) ∧ St i h' ∧ i ≤ xs.length ∧ k = xs.length - i ∧ loopV r x body (xs.drop i) σ' Q) ?_ xs.length
    ⟨0, ρ₀, σ₀, h₀, tk₀, rfl, p₀, u₀, st₀, Nat.zero_le _, rfl, by simpa using h⟩
  rintro k s' ⟨i, ρ', σ', h', tk', rfl, p, u, st, hi, rfl, hl⟩
  rw [nth_drop] at hl
  cases e : nth xs i with
  | none =>
    rw [e] at hl
    refine done (s' := { s with heap := h', toks := tk' }) e hi p st fun h'' hx => ?_
    refine wpAny_execs_nil ?_
    exact Out.intro (a := Fl.next) (v := Flow.next) (p.but R hnone u hL hx) rfl hl
  | some a =>
    rw [e] at hl
    have hlt : i < xs.length := nth_lt e
    have hl' : setL x a σ' fun σ₁ => r.exs body σ₁ fun fl σ₂ => match fl with
      | .next => loopV r x body (xs.drop (i + 1)) σ₂ Q
      | .ret u => Q (.ret u) σ₂ := hl
    refine item (s' := { s with heap := h', toks := tk' }) e p st fun v h₁ tk₁ hv st₁ hx => ?_
    have p₁ := p.but R hnone u hL hx
    refine wpAny_assign_Name ?_
    refine Out.go (s := { s with heap := h₁, toks := tk₁ }) (setL_sound hl' (.of p Ev) p₁.rep hv) fun _ _ ρ₂ σ₂ h₂ tk₂ q _ hq => ?_
    obtain ⟨oI, eI⟩ := live _ _ st₁
    have u₂ := q.free eI u
    have k₂ : h₂.get? I = some oI := q.kp I oI eI (Ne.symm hL) u
    have st₂ := hfr _ _ h₂ st₁ fun o e => by rw [eI] at e; cases e; exact k₂
    refine Out.go (s := { s with heap := h₂, toks := tk₂ }) (S.exs hq rm (.of q (.of p Ev)) q.rep) fun fl f ρ₃ σ₃ h₃ tk₃ q₃ hf hq₃ => ?_
    have p₃ := (p₁.trans q R).trans q₃ R
    cases fl with
    | next =>
      cases hf
      have k₃ : h₃.get? I = some oI := q₃.kp I oI k₂ (Ne.symm hL) u₂
      exact ⟨xs.length - (i + 1), by omega, i + 1, ρ₃, σ₃, h₃, tk₃, rfl, p₃, q₃.free k₂ u₂, hfr _ _ h₃ st₂ fun o e => by rw [k₂] at e; cases e; exact k₃, hlt, rfl, hq₃⟩
    | ret w =>
      obtain ⟨w', rfl, hw⟩ := hf
      exact Out.intro (a := Fl.ret w) (v := Flow.ret w') p₃ ⟨w', rfl, hw⟩ hq₃
end
end Mine
namespace Mine
open PySem PySem.SeqAt
noncomputable def bindsTo (fd : FD) (us : List Value) : Prop := ∀ (b : List Stmt) (sc : Scope) (pm cd doc : Value), bindArgs (Calls.docDef (tb fd.name) (argsOf fd) b sc pm cd doc) ⟨us, []⟩ = pure (((argsOf fd).args.map (·.arg)).zip us)

theorem bd_session_end (a b c : Value) : bindsTo f_session_end [a, b, c] := fun _ _ _ _ _ => by kernel_rfl!
theorem bd_fault_note (a : Value) : bindsTo f_fault_note [a] := fun _ _ _ _ _ => by kernel_rfl!
theorem bd_open_goes (a : Value) : bindsTo f_open_goes [a] := fun _ _ _ _ _ => by kernel_rfl!
theorem bd_open_taken (a b : Value) : bindsTo f_open_taken [a, b] := fun _ _ _ _ _ => by kernel_rfl!
theorem bd_again_hold (a : Value) : bindsTo f_again_hold [a] := fun _ _ _ _ _ => by kernel_rfl!
theorem bd_from_idle (a b : Value) : bindsTo f_from_idle [a, b] := fun _ _ _ _ _ => by kernel_rfl!
theorem bd_ahead_of_open (a b c : Value) : bindsTo f_ahead_of_open [a, b, c] := fun _ _ _ _ _ => by kernel_rfl!
theorem bd_from_connect (a b : Value) : bindsTo f_from_connect [a, b] := fun _ _ _ _ _ => by kernel_rfl!
theorem bd_from_active (a b : Value) : bindsTo f_from_active [a, b] := fun _ _ _ _ _ => by kernel_rfl!
theorem bd_behind_open (a b c : Value) : bindsTo f_behind_open [a, b, c] := fun _ _ _ _ _ => by kernel_rfl!
theorem bd_from_open_sent (a b : Value) : bindsTo f_from_open_sent [a, b] := fun _ _ _ _ _ => by kernel_rfl!
theorem bd_from_open_confirm (a b : Value) : bindsTo f_from_open_confirm [a, b] := fun _ _ _ _ _ => by kernel_rfl!
theorem bd_from_established (a b : Value) : bindsTo f_from_established [a, b] := fun _ _ _ _ _ => by kernel_rfl!
theorem bd_bgp_next (a b c : Value) : bindsTo f_bgp_next [a, b, c] := fun _ _ _ _ _ => by kernel_rfl!
theorem bd_law_draw (a b : Value) : bindsTo f_law_draw [a, b] := fun _ _ _ _ _ => by kernel_rfl!
theorem bd_law_new_line : bindsTo f_law_new_line [] := fun _ _ _ _ _ => by kernel_rfl!
theorem bd_law_said (a b c : Value) : bindsTo f_law_said [a, b, c] := fun _ _ _ _ _ => by kernel_rfl!
theorem bd_law_timer (a b c d : Value) : bindsTo f_law_timer [a, b, c, d] := fun _ _ _ _ _ => by kernel_rfl!
theorem bd_law_happens (a b c : Value) : bindsTo f_law_happens [a, b, c] := fun _ _ _ _ _ => by kernel_rfl!
theorem bd_law_comes (a b : Value) : bindsTo f_law_comes [a, b] := fun _ _ _ _ _ => by kernel_rfl!
theorem bd_law_joined (a b : Value) : bindsTo f_law_joined [a, b] := fun _ _ _ _ _ => by kernel_rfl!
theorem bd_law_broken (a : Value) : bindsTo f_law_broken [a] := fun _ _ _ _ _ => by kernel_rfl!
theorem bd_law_begun (a b c : Value) : bindsTo f_law_begun [a, b, c] := fun _ _ _ _ _ => by kernel_rfl!
theorem bd_law_deed (a b c : Value) : bindsTo f_law_deed [a, b, c] := fun _ _ _ _ _ => by kernel_rfl!
theorem bd_law_end_right (a b : Value) : bindsTo f_law_end_right [a, b] := fun _ _ _ _ _ => by kernel_rfl!
theorem bd_law (a : Value) : bindsTo f_law [a] := fun _ _ _ _ _ => by kernel_rfl!

theorem len0 {us : List Value} (h : us.length = 0) : us = [] := List.length_eq_zero_iff.mp h
theorem len1 {us : List Value} (h : us.length = 1) : ∃ a, us = [a] := List.length_eq_one_iff.mp h
theorem len2 {us : List Value} (h : us.length = 2) : ∃ a b, us = [a, b] := by
  cases us with
  | nil => cases h
  | cons a us => obtain ⟨b, rfl⟩ := len1 (Nat.succ.inj h); exact ⟨a, b, rfl⟩
theorem len3 {us : List Value} (h : us.length = 3) : ∃ a b c, us = [a, b, c] := by
  cases us with
  | nil => cases h
  | cons a us => obtain ⟨b, c, rfl⟩ := len2 (Nat.succ.inj h); exact ⟨a, b, c, rfl⟩
theorem len4 {us : List Value} (h : us.length = 4) : ∃ a b c d, us = [a, b, c, d] := by
  cases us with
  | nil => cases h
  | cons a us => obtain ⟨b, c, d, rfl⟩ := len3 (Nat.succ.inj h); exact ⟨a, b, c, d, rfl⟩
noncomputable def BindOk (fd : FD) : Prop := ∀ us : List Value, us.length = fd.ps.length → bindsTo fd us
noncomputable def AllL (P : FD → Prop) : List (Nat × FD) → Prop
  | [] => True
  | p :: r => P p.2 ∧ AllL P r
theorem allL_at {P : FD → Prop} : ∀ {l : List (Nat × FD)} {p : Nat × FD}, AllL P l → p ∈ l → P p.2
  | _ :: _, _, h, .head _ => h.1
  | _ :: _, _, h, .tail _ m => allL_at h.2 m
theorem bk_session_end : BindOk f_session_end := fun us hl => by obtain ⟨a, b, c, rfl⟩ := len3 (us := us) hl; exact bd_session_end a b c
theorem bk_fault_note : BindOk f_fault_note := fun us hl => by obtain ⟨a, rfl⟩ := len1 (us := us) hl; exact bd_fault_note a
theorem bk_open_goes : BindOk f_open_goes := fun us hl => by obtain ⟨a, rfl⟩ := len1 (us := us) hl; exact bd_open_goes a
theorem bk_open_taken : BindOk f_open_taken := fun us hl => by obtain ⟨a, b, rfl⟩ := len2 (us := us) hl; exact bd_open_taken a b
theorem bk_again_hold : BindOk f_again_hold := fun us hl => by obtain ⟨a, rfl⟩ := len1 (us := us) hl; exact bd_again_hold a
theorem bk_from_idle : BindOk f_from_idle := fun us hl => by obtain ⟨a, b, rfl⟩ := len2 (us := us) hl; exact bd_from_idle a b
theorem bk_ahead_of_open : BindOk f_ahead_of_open := fun us hl => by obtain ⟨a, b, c, rfl⟩ := len3 (us := us) hl; exact bd_ahead_of_open a b c
theorem bk_from_connect : BindOk f_from_connect := fun us hl => by obtain ⟨a, b, rfl⟩ := len2 (us := us) hl; exact bd_from_connect a b
theorem bk_from_active : BindOk f_from_active := fun us hl => by obtain ⟨a, b, rfl⟩ := len2 (us := us) hl; exact bd_from_active a b
theorem bk_behind_open : BindOk f_behind_open := fun us hl => by obtain ⟨a, b, c, rfl⟩ := len3 (us := us) hl; exact bd_behind_open a b c
theorem bk_from_open_sent : BindOk f_from_open_sent := fun us hl => by obtain ⟨a, b, rfl⟩ := len2 (us := us) hl; exact bd_from_open_sent a b
theorem bk_from_open_confirm : BindOk f_from_open_confirm := fun us hl => by obtain ⟨a, b, rfl⟩ := len2 (us := us) hl; exact bd_from_open_confirm a b
theorem bk_from_established : BindOk f_from_established := fun us hl => by obtain ⟨a, b, rfl⟩ := len2 (us := us) hl; exact bd_from_established a b
theorem bk_bgp_next : BindOk f_bgp_next := fun us hl => by obtain ⟨a, b, c, rfl⟩ := len3 (us := us) hl; exact bd_bgp_next a b c
theorem bk_law_draw : BindOk f_law_draw := fun us hl => by obtain ⟨a, b, rfl⟩ := len2 (us := us) hl; exact bd_law_draw a b
theorem bk_law_new_line : BindOk f_law_new_line := fun us hl => by rw [len0 (us := us) hl]; exact bd_law_new_line
theorem bk_law_said : BindOk f_law_said := fun us hl => by obtain ⟨a, b, c, rfl⟩ := len3 (us := us) hl; exact bd_law_said a b c
theorem bk_law_timer : BindOk f_law_timer := fun us hl => by obtain ⟨a, b, c, d, rfl⟩ := len4 (us := us) hl; exact bd_law_timer a b c d
theorem bk_law_happens : BindOk f_law_happens := fun us hl => by obtain ⟨a, b, c, rfl⟩ := len3 (us := us) hl; exact bd_law_happens a b c
theorem bk_law_comes : BindOk f_law_comes := fun us hl => by obtain ⟨a, b, rfl⟩ := len2 (us := us) hl; exact bd_law_comes a b
theorem bk_law_joined : BindOk f_law_joined := fun us hl => by obtain ⟨a, b, rfl⟩ := len2 (us := us) hl; exact bd_law_joined a b
theorem bk_law_broken : BindOk f_law_broken := fun us hl => by obtain ⟨a, rfl⟩ := len1 (us := us) hl; exact bd_law_broken a
theorem bk_law_begun : BindOk f_law_begun := fun us hl => by obtain ⟨a, b, c, rfl⟩ := len3 (us := us) hl; exact bd_law_begun a b c
theorem bk_law_deed : BindOk f_law_deed := fun us hl => by obtain ⟨a, b, c, rfl⟩ := len3 (us := us) hl; exact bd_law_deed a b c
theorem bk_law_end_right : BindOk f_law_end_right := fun us hl => by obtain ⟨a, b, rfl⟩ := len2 (us := us) hl; exact bd_law_end_right a b
theorem bk_law : BindOk f_law := fun us hl => by obtain ⟨a, rfl⟩ := len1 (us := us) hl; exact bd_law a
theorem bind_list : AllL BindOk ftabL := ⟨bk_session_end, bk_fault_note, bk_open_goes, bk_open_taken, bk_again_hold, bk_from_idle, bk_ahead_of_open, bk_from_connect, bk_from_active, bk_behind_open, bk_from_open_sent, bk_from_open_confirm, bk_from_established, bk_bgp_next, bk_law_draw, bk_law_new_line, bk_law_said, bk_law_timer, bk_law_happens, bk_law_comes, bk_law_joined, bk_law_broken, bk_law_begun, bk_law_deed, bk_law_end_right, bk_law, trivial⟩
theorem name_list : ftabL.all (fun p => Nat.beq p.2.name p.1) = true := by decide +kernel
theorem bind_all {f : Nat} {fd : FD} (h : ftab f = some fd) : fd.name = f ∧ ∀ us : List Value, us.length = fd.ps.length → bindsTo fd us :=
  ⟨Nat.eq_of_beq_eq_true (List.all_eq_true.mp name_list _ (ftab_in h)), allL_at bind_list (ftab_in h)⟩
end Mine
namespace Mine
open PySem PySem.SeqAt
section
variable {C : Cx} {L : Addr} {ρ : Nat → Addr} {σ : St} {s : Shared} {A : Around} {r : Rec} {n : Nat} {env : Env}

theorem size_none {h : Heap} {a : Addr} (ha : h.objs.size ≤ a) : h.get? a = none := by
  cases q : h.get? a with
  | none => rfl
  | some x => exact absurd (Heap.lt_size q) (Nat.not_lt.mpr ha)
theorem Rep.under {h : Heap} (R : Rep C L ρ σ h) {a : Addr} (ha : h.objs.size ≤ a) : ∀ l o, Has σ l o → ρ l ≠ a := fun l o hl e => by
  obtain ⟨_, e', _⟩ := R.obj l o hl
  rw [e, size_none ha] at e'; cases e'

theorem Pst.tupO {h h₁ : Heap} {ρ₁ : Nat → Addr} {σ₁ : St} (p : Pst C L ρ σ h ρ₁ σ₁ h₁) {v : V} {xs : List V} (e : obj σ v = some (.tuple xs)) : obj σ₁ v = some (.tuple xs) := by
  cases v with
  | ref l => exact p.tup l xs e
  | gref k => exact e
  | _ => cases e

theorem upto_nth (n i : Nat) : nth (upto n) i = if i < n then some (V.int (.ofNat i)) else none := by
  rw [nth_eq]
  unfold upto
  by_cases h : i < n
  · rw [if_pos h]; simp [h]
  · rw [if_neg h]; simp [Nat.not_lt.mp h]
theorem upto_length (n : Nat) : (upto n).length = n := by simp [upto]

theorem fors_sound (S : Snd C r n) (X : Facts C) {x : Nat} {xp p : Pos} {it : E} {body : Ss} {Q : KF} (h : ex_fors r x it body σ Q) (rm : Room n A) (Ev : EnvOk L σ.fd env) (R : Rep C L ρ σ s.heap) :
    wpAny (Mm C) A (exec (embS (.fors x xp it body p)) env) (Out C L (RF C) ρ σ s Q) Fls s := by
  unfold ex_fors at h
  unfold embS
  have hfold : ∀ v, foldedSetIterable (emb it) env v = pure v := fun v => by cases it <;> rfl
  obtain ⟨m, nm, hm⟩ := R.ns
  split at h
  · rename_i k ek
    split at h
    · rename_i hk
      have hk := blt_lt hk
      obtain ⟨g, h⟩ := okGlob_of h
      unfold rangeOf at ek
      split at ek
      · rename_i f np i ip bp
        split at ek
        · rename_i hf
          cases ek
          have := Nat.eq_of_beq_eq_true hf
          subst this
          obtain ⟨mg, mb, n1, n2, _, _, _, fn, _, _, _, _, _, b6⟩ := X.ns
          refine wpAny_For ?_ hfold
          unfold emb
          refine wpAny_Call_NameR (built_name Ev g R n1 n2 (fn _ (by simp)) b6 ?_)
          refine PySem.callWith_type (plainArgs _ bp env) (args_go ?_)
          unfold embs embs
          rw [star_emb]
          refine Calls.spliced_cons (x := eval (emb (.cst (.int (.ofNat k)) ip)) env) (rest := []) (wpAny_Constant_int (Calls.spliced_nil ?_))
          refine call_range_1 ?_
          refine wpAny_pyIter_range (IsRange.new ..) (small_one (by decide) (by decide) (by simp only [Int.ofNat_eq_natCast]; omega) (by simp only [Int.ofNat_eq_natCast]; omega)) ?_
          have hsz : Builtin.Range.rangeSize 0 (Int.ofNat k) 1 = (k : Int) := by rw [rangeSize_one]; show (if (0 : Int) < (k : Int) then (k : Int) - 0 else 0) = (k : Int); split <;> omega
          rw [hsz]
          dsimp only
          generalize hH : ((s.heap.push { cls := .type "range", data := .fields #[.int 0 (s.toks + 1), .int (Int.ofNat k) s.toks, .int 1 (s.toks + 1 + 1)] })) = H
          have hH' : ∀ b o, s.heap.get? b = some o → H.get? b = some o := fun b o e => by rw [← hH]; exact Heap.get?_push_of_some _ e
          have hS : H.objs.size = s.heap.objs.size + 1 := by rw [← hH, Heap.size_push]
          have g : Pst C L ρ σ s.heap ρ σ (H.push { cls := .type "range_iterator", data := .fields #[rawInt 0, rawInt (k : Int), rawInt 1] }) := Pst.grow R (.of fun b o e => Heap.get?_push_of_some _ (hH' b o e))
          refine codeAny_mono (loop_sound S (xs := upto k) (St := fun i h => IsRangeIter h H.objs.size (i : Int) ((k : Int) - (i : Int)) 1) rm Ev R (size_none (by rw [hS]; exact Nat.le_succ _)) (Nat.ne_of_lt (by rw [hS]; exact Nat.lt_succ_of_lt nm.lt))
            (fun i h st => ⟨_, st⟩) (fun i h h' st e => e _ st) ?_ ?_ g (R.under (by rw [hS]; exact Nat.le_succ _)) ?_ h) fun q s' z => ?_
          · intro i a ρ' σ' s' G E e p st hG
            rw [upto_nth] at e
            split at e
            · rename_i hi
              cases e
              refine wpAny_pyNext_range_item st (by omega) fun h' hit hs => ?_
              refine hG _ h' _ (.int _ _) ?_ hs.extBut
              have e1 : ((i + 1 : Nat) : Int) = (i : Int) + 1 := by push_cast; rfl
              have e2 : (k : Int) - ((i + 1 : Nat) : Int) = (k : Int) - (i : Int) - 1 := by push_cast; omega
              show IsRangeIter h' _ ((i + 1 : Nat) : Int) ((k : Int) - ((i + 1 : Nat) : Int)) 1
              rw [e2, e1]; exact hit
            · cases e
          · intro i ρ' σ' s' G E e hi p st hG
            rw [upto_nth] at e
            split at e
            · cases e
            · exact wpAny_pyNext_range_end rm.handled st (by omega) hG
          · show IsRangeIter _ _ ((0 : Nat) : Int) ((k : Int) - ((0 : Nat) : Int)) 1
            have e1 : (k : Int) - ((0 : Nat) : Int) = (k : Int) := by simp
            rw [e1]
            exact Heap.get?_push_size _ rfl
          · cases q with
            | ok f => exact z
            | error e => exact z.elim
        · cases ek
      · cases ek
    · exact h.elim
  · refine wpAny_For (Out.go (S.ev h rm Ev R) fun v u ρ₁ σ₁ h₁ tk₁ q hv hq => ?_) hfold
    split at hq
    · rename_i xs eo
      have R₁ := q.rep
      obtain ⟨m₁, nm₁, _⟩ := R₁.ns
      obtain ⟨d, ob, rfl, hd, vs, mm, rfl, hx⟩ := obj_at X R₁ hv eo rfl
      refine wpAny_pyIter_tuple (items := vs) ⟨_, hd, rfl, mm, rfl⟩ ?_
      have g : Pst C L ρ₁ σ₁ h₁ ρ₁ σ₁ (h₁.push { cls := .type "tuple_iterator", data := .fields #[.ref d, .int 0 0] }) := Pst.grow R₁ (.of push_keep)
      refine codeAny_mono (loop_sound S (s := { s with heap := h₁, toks := tk₁ }) (St := fun i h => h.IsTupleIter h₁.objs.size d i) rm (.of q Ev) R₁ (size_none (Nat.le_refl _)) (Nat.ne_of_lt nm₁.lt)
        (fun i h st => ⟨_, st.choose_spec.1⟩) (fun i h h' st e => let ⟨o, e1, e2⟩ := st; ⟨o, e o e1, e2⟩) ?_ ?_ g (R₁.under (Nat.le_refl _)) ⟨_, Heap.get?_push_size _ rfl, rfl, rfl⟩ hq) fun q' s' z => ?_
      · intro i a ρ' σ' s' G E e p st hG
        obtain ⟨d', ob', e1, hd', vs', mm', rfl, hx'⟩ := obj_at X p.rep (p.vr hv) (p.tupO eo) rfl
        cases e1
        obtain ⟨y, hy, hr⟩ := hx'.nth e
        exact wpAny_pyNext_tuple_item st ⟨_, hd', rfl, mm', rfl⟩ (by simpa using hy) fun h' hit hs => hG y h' s'.toks hr hit hs.extBut
      · intro i ρ' σ' s' G E e hi p st hG
        obtain ⟨d', ob', e1, hd', vs', mm', rfl, hx'⟩ := obj_at X p.rep (p.vr hv) (p.tupO eo) rfl
        cases e1
        have hlen := hx'.length
        have hge : xs.length ≤ i := by
          rw [nth_eq] at e
          exact List.getElem?_eq_none_iff.mp e
        refine wpAny_pyNext_tuple_end rm.handled st ⟨_, hd', rfl, mm', rfl⟩ ?_ hG
        rw [Array.getElem?_eq_none_iff]
        simp at hlen
        omega
      · cases q' with
        | ok f => exact Out.lift R q z
        | error e => exact z.elim
    · exact hq.elim

theorem exec_step (S : Snd C r n) (X : Facts C) {st : Mine.S} {Q : KF} (h : exStep r st σ Q) (rm : Room n A) (Ev : EnvOk L σ.fd env) (R : Rep C L ρ σ s.heap) :
    wpAny (Mm C) A (exec (embS st) env) (Out C L (RF C) ρ σ s Q) Fls s := by
  cases st with
  | ret e p =>
    have h' : ex_ret r e σ Q := h
    exact wpAny_Return_some (Out.go (S.ev h' rm Ev R) fun v u ρ₁ σ₁ h₁ tk₁ q hv hq => Out.intro (a := Fl.ret v) (v := Flow.ret u) q ⟨u, rfl, hv⟩ hq)
  | expr e p =>
    have h' : ex_expr r e σ Q := h
    unfold ex_expr at h'
    split at h'
    · exact h'.elim
    · rename_i hm
      have hi : interactive env = false := by obtain ⟨_, _, _, rfl⟩ := Ev; rfl
      have hs : swapsWith (emb e) none p.line env = pure false := by cases e <;> first | rfl | (simp [isMeth] at hm)
      refine wpAny_Expr (Out.go (S.ev h' rm Ev R) fun v u ρ₁ σ₁ h₁ tk₁ q hv hq => ?_) hi hs
      split at hq
      · rename_i hn
        have nr := nonref_val hv hn
        have fin : Out C L (RF C) ρ σ s Q Flow.next { s with heap := h₁, toks := tk₁ } := Out.intro (a := Fl.next) (v := Flow.next) q rfl hq
        cases u <;> first | exact fin | exact absurd rfl (nr _)
      · exact hq.elim
  | asg t e p =>
    have h' : ex_asg r t e σ Q := h
    unfold ex_asg at h'
    split at h'
    · exact h'.elim
    · rename_i hs
      refine wpAny_Assign_stores (Out.go (S.ev h' rm Ev R) fun v u ρ₁ σ₁ h₁ tk₁ q hv hq => ?_) (sole_name t e _ env hs) (swapped_one t e env)
      have e1 : (assignEach [embT t] env).map (·.2) = [assign (embT t) env] := by cases t <;> rfl
      rw [e1]
      show wpAny (Mm C) A (assign (embT t) env u) _ Fls _
      refine Out.go (s := { s with heap := h₁, toks := tk₁ }) (asg1_sound S X hq rm (.of q Ev) q.rep hv) fun _ _ ρ₂ σ₂ h₂ tk₂ q₂ _ hq₂ => ?_
      exact Out.intro (a := Fl.next) (v := Flow.next) (q.trans q₂ R) rfl hq₂
  | asgT ts tp e p => exact exec_asgT S X h rm Ev R
  | ifs t a b p =>
    have h' : ex_ifs r t a b σ Q := h
    refine wpAny_If (Out.go (S.tst h' rm Ev R) fun c u ρ₁ σ₁ h₁ tk₁ q hc hq => ?_)
    cases hc
    cases c with
    | true => exact Out.up R q (S.exs hq rm (.of q Ev) q.rep)
    | false => exact Out.up R q (S.exs hq rm (.of q Ev) q.rep)
  | fors x xp it body p => exact fors_sound S X h rm Ev R

theorem exs_step (S : Snd C r n) (X : Facts C) {ss : Ss} {Q : KF} (h : exsStep r ss σ Q) (rm : Room n A) (Ev : EnvOk L σ.fd env) (R : Rep C L ρ σ s.heap) :
    wpAny (Mm C) A (execs (embSs ss) env) (Out C L (RF C) ρ σ s Q) Fls s := by
  cases ss with
  | nil => exact wpAny_execs_nil (.now' (a := Fl.next) R rfl h)
  | cons st rest =>
    have h' : exStep r st σ fun fl σ₁ => match fl with
      | .next => r.exs rest σ₁ Q
      | .ret v => Q (.ret v) σ₁ := h
    unfold embSs
    refine wpAny_execs_cons (Out.go (exec_step S X h' rm Ev R) fun fl f ρ₁ σ₁ h₁ tk₁ q hf hq => ?_)
    cases fl with
    | next => cases hf; exact Out.up R q (S.exs hq rm (.of q Ev) q.rep)
    | ret v =>
      obtain ⟨u, rfl, hv⟩ := hf
      exact Out.intro (a := Fl.ret v) (v := Flow.ret u) q ⟨u, rfl, hv⟩ hq
end
end Mine
namespace Mine
open PySem PySem.SeqAt

theorem Room.le {m n : Nat} {A : Around} (h : Room n A) (hm : m ≤ n) : Room m A := ⟨h.handled, by have := h.depth; omega, by have := h.units; omega⟩

/-- the hooks do as the defs do -/
noncomputable def HookOk (C : Cx) (H : Nat → Option Hook) (m : Nat) : Prop :=
  ∀ f h, H f = some h → ∀ {vs : List V} {us : List Value} {L : Addr} {ρ : Nat → Addr} {σ : St} {s : Shared} {A : Around} {Q : KV}, h vs σ Q → Room m A → Rep C L ρ σ s.heap → VRs C ρ σ.objs.length vs us →
    wpAny (Mm C) A (call (.ref (C.fa f)) us) (OutK C L ρ σ s Q) Fls s

/-- the parameters of the defs: distinct, local -/
noncomputable def psOk (fd : FD) : Bool := fd.ps.all (fun p => isLoc fd p.1) && decide (fd.ps.map (·.1)).Nodup
theorem ps_list : ftabL.all (fun p => psOk p.2) = true := by decide +kernel
theorem ps_all {f : Nat} {fd : FD} (h : ftab f = some fd) : psOk fd = true := List.all_eq_true.mp ps_list _ (ftab_in h)

theorem bindP_of : ∀ {ps : List (Nat × Pos)} {vs : List V} {lc : List (Nat × V)}, bindP ps vs = some lc → vs.length = ps.length ∧ lc.map (·.1) = ps.map (·.1) ∧ lc.map (·.2) = vs
  | [], [], lc, e => by cases e; exact ⟨rfl, rfl, rfl⟩
  | [], _ :: _, _, e => by cases e
  | _ :: _, [], _, e => by cases e
  | p :: ps, v :: vs, lc, e => by
    unfold bindP at e
    split at e
    · rename_i l el
      cases e
      obtain ⟨h1, h2, h3⟩ := bindP_of el
      exact ⟨by simp [h1], by simp [h2], by simp [h3]⟩
    · cases e

theorem lookup_of_mem {l : List (Str × Value)} (hn : (l.map (·.1)).Nodup) {k : Str} {v : Value} (h : (k, v) ∈ l) : l.lookup k = some v := by
  induction l with
  | nil => cases h
  | cons q l ih =>
    obtain ⟨j, u⟩ := q
    rw [List.lookup_cons]
    simp only [List.map_cons, List.nodup_cons] at hn
    rcases List.mem_cons.mp h with e | h
    · cases e; simp
    · have : ¬ k = j := fun e => hn.1 (by rw [← e]; exact List.mem_map.mpr ⟨_, h, rfl⟩)
      have hb : (k == j) = false := by rw [beq_eq_false_iff_ne]; exact this
      simp only [hb]
      exact ih hn.2 h

theorem zip_lk {C : Cx} {ρ : Nat → Addr} {N : Nat} : ∀ {lc : List (Nat × V)} {us : List Value}, VRs C ρ N (lc.map (·.2)) us → ∀ x v, lk lc x = some v → ∃ u, (tb x, u) ∈ (lc.map fun q => tb q.1).zip us ∧ VR C ρ N v u
  | [], _, _, x, v, e => by cases e
  | (k, w) :: lc, [], h, _, _, _ => h.elim
  | (k, w) :: lc, u :: us, h, x, v, e => by
    unfold lk at e
    split at e
    · rename_i hb
      cases e
      rw [← Nat.eq_of_beq_eq_true hb]
      exact ⟨u, by simp, h.1⟩
    · obtain ⟨u', h1, h2⟩ := zip_lk h.2 x v e
      exact ⟨u', List.mem_cons_of_mem _ h1, h2⟩

section
variable {C : Cx} {L : Addr} {ρ : Nat → Addr} {σ : St} {s : Shared} {A : Around} {r : Rec} {n : Nat} {env : Env}

theorem lk_mem {α : Type} : ∀ {l : List (Nat × α)} {x : Nat} {v : α}, lk l x = some v → x ∈ l.map (·.1)
  | [], _, _, e => by cases e
  | (k, u) :: l, x, v, e => by
    unfold lk at e
    split at e
    · rename_i hb; rw [Nat.eq_of_beq_eq_true hb]; simp
    · exact List.mem_cons_of_mem _ (lk_mem e)

theorem call_step {H : Nat → Option Hook} {m : Nat} (S : Snd C r (n + m)) (X : Facts C) (HK : HookOk C H m) {f : Nat} {vs : List V} {us : List Value} {Q : KV} (h : callStep H r f vs σ Q) (rm : Room (n + 1 + m) A) (R : Rep C L ρ σ s.heap) (hv : VRs C ρ σ.objs.length vs us) :
    wpAny (Mm C) A (call (.ref (C.fa f)) us) (OutK C L ρ σ s Q) Fls s := by
  unfold callStep at h
  split at h
  · rename_i hk eh
    exact HK f hk eh h (rm.le (by omega)) R hv
  · split at h
    · rename_i fd ef
      split at h
      · rename_i lc elc
        obtain ⟨b1, b2, b3⟩ := bindP_of elc
        obtain ⟨hname, hbind⟩ := bind_all ef
        have hps := Bool.and_eq_true_iff.mp (ps_all ef)
        have hloc := List.all_eq_true.mp hps.1
        have hnd := of_decide_eq_true hps.2
        obtain ⟨o, pm, cd, doc, ho, hdata, hcd⟩ := X.fn f fd ef
        have hul : us.length = fd.ps.length := by rw [← hv.length, b1]
        have hargs : (argsOf fd).args.map (·.arg) = lc.map (fun q => tb q.1) := by
          show (fd.ps.map fun a => ({ arg := tb a.1, annotation := none, pos := a.2 } : Arg)).map (·.arg) = _
          rw [List.map_map]
          have : lc.map (fun q => tb q.1) = (lc.map (·.1)).map tb := by rw [List.map_map]; rfl
          rw [this, b2, List.map_map]
          rfl
        have hzl : (lc.map fun q => tb q.1).length = us.length := by
          rw [List.length_map, hul]
          have := congrArg List.length b2
          simpa using this
        have hbd := hbind us hul (embSs fd.body) (scopeOf fd) pm cd doc
        rw [hname, hargs] at hbd
        have hlook : ∀ x, isLoc fd x = true → (scopeOf fd).names.lookup (tb x) = some .local := fun x hx => by
          show (fd.names.map fun n => (tb n.1, kindB n.2)).lookup (tb x) = _
          rw [lk_lookup]
          unfold isLoc at hx
          split at hx
          · rename_i e; rw [e]; rfl
          · cases hx
        have hlocs : ∀ q ∈ (lc.map fun q => tb q.1).zip us, (scopeOf fd).names.lookup q.1 = some .local := by
          intro q hq
          have h1 := (List.of_mem_zip (a := q.1) (b := q.2) hq).1
          obtain ⟨z, hz, ez⟩ := List.mem_map.mp h1
          rw [← ez]
          refine hlook _ ?_
          have : z.1 ∈ fd.ps.map (·.1) := by rw [← b2]; exact List.mem_map.mpr ⟨z, hz, rfl⟩
          obtain ⟨p, hp, ep⟩ := List.mem_map.mp this
          rw [← ep]
          exact hloc p hp
        have hcell : ∀ x ∈ (scopeOf fd).names, x.2 ≠ .cell := by
          intro x hx
          obtain ⟨q, _, rfl⟩ := List.mem_map.mp hx
          show kindB q.2 ≠ .cell
          cases q.2 <;> simp [kindB]
        obtain ⟨m₀, nm, hm⟩ := R.ns
        refine wpAny_call (call_plain_ret (by have := rm.depth; omega) (R.base _ _ ho) hdata (X.nolimit.keeps R.base) ?_ hbd hlocs ?_ rfl rfl rfl hcell)
        · exact hcd.keeps R.base
        · intro h₁ F
          -- the callee's own state
          have R' : Rep C s.heap.objs.size ρ { σ with lc := lc, fd := fd } h₁ := by
            refine ⟨fun b o e => F.keep _ _ (R.base b o e), R.low, fun l o hl => ?_, R.inj, ⟨_, F.ns, fun x v hx => ?_⟩⟩
            · obtain ⟨ob, e, r', a, nl⟩ := R.obj l o hl
              exact ⟨ob, F.keep _ _ e, r', a, Nat.ne_of_lt (Heap.lt_size e)⟩
            · have hxm := lk_mem hx
              have hlx : isLoc fd x = true := by
                rw [b2] at hxm
                obtain ⟨p, hp, ep⟩ := List.mem_map.mp hxm
                rw [← ep]; exact hloc p hp
              obtain ⟨u, hu, hr⟩ := zip_lk (C := C) (ρ := ρ) (N := σ.objs.length) (by rw [b3]; exact hv) x v hx
              refine ⟨hlx, u, lookup_of_mem ?_ (List.mem_reverse.mpr hu), hr⟩
              rw [List.map_reverse, (List.reverse_perm _).nodup_iff, List.map_fst_zip (Nat.le_of_eq hzl)]
              have : lc.map (fun q => tb q.1) = (lc.map (·.1)).map tb := by rw [List.map_map]; rfl
              rw [this, b2]
              exact List.Pairwise.map tb (fun a b h e => h (tb_inj e)) hnd
          have rm' : Room (n + m) (A.deeper (envOf (tb f) (scopeOf fd) s.heap.objs.size (C.fa f) cd)) := (rm.le (by omega : n + m + 1 ≤ n + 1 + m)).deeper _
          have Ev' : EnvOk s.heap.objs.size fd (envOf (tb f) (scopeOf fd) s.heap.objs.size (C.fa f) cd) := ⟨_, _, _, rfl⟩
          refine Out.go (s := { s with heap := h₁, toks := s.toks + ((lc.map fun q => tb q.1).zip us).length }) (S.exs h rm' Ev' R') fun fl fw ρ₂ σ₂ h₂ tk₂ q hf hq => ?_
          have hL' : L ≠ s.heap.objs.size := Nat.ne_of_lt nm.lt
          have Lfree : ∀ l o, Has σ l o → ρ l ≠ L := fun l o hl => by
            obtain ⟨_, _, _, _, e⟩ := R.obj l o hl; exact e
          obtain ⟨lo, lo1⟩ : ∃ lo, s.heap.get? L = some lo := by
            obtain ⟨lo, _, _, e, _⟩ := nm; exact ⟨lo, e⟩
          have Lfree' : ∀ l o, Has σ₂ l o → ρ₂ l ≠ L := q.free (F.keep _ _ lo1) Lfree
          have keepNs : ∀ m, s.heap.Ns L m → h₂.Ns L m := fun m hn => (hn.at' fun o e => F.keep _ _ e).at' fun o e => q.kp L o e hL' Lfree
          have P : Pst C L ρ σ s.heap ρ₂ { σ₂ with lc := σ.lc, fd := σ.fd } h₂ := by
            refine ⟨⟨q.rep.base, R.above, fun l o hl => ?_, q.rep.inj, ⟨m₀, keepNs m₀ nm, fun x v hx => ?_⟩⟩, q.agr, q.len, fun b o e hb hnn => q.kp b o (F.keep _ _ e) (Nat.ne_of_lt (Heap.lt_size e)) hnn, fun l o hl => ?_, q.tup, rfl⟩
            · obtain ⟨ob, e, r', a, _⟩ := q.rep.obj l o hl
              exact ⟨ob, e, r', a, Lfree' l o hl⟩
            · obtain ⟨i, u, e1, e2⟩ := hm x v hx
              exact ⟨i, u, e1, e2.mono q.agr q.len⟩
            · rcases q.fr l o hl with z | z
              · exact .inl z
              · right
                cases e : s.heap.get? (ρ₂ l) with
                | none => rfl
                | some ob => rw [F.keep _ _ e] at z; cases z
          cases fl with
          | next =>
            cases hf
            exact ⟨⟨.none, ρ₂, _, h₂, tk₂, rfl, P, .none, hq⟩, keepNs⟩
          | ret v =>
            obtain ⟨u, rfl, hr⟩ := hf
            exact ⟨⟨v, ρ₂, _, h₂, tk₂, rfl, P, hr, hq⟩, keepNs⟩
      · exact h.elim
    · exact h.elim

theorem snd (X : Facts C) {H : Nat → Option Hook} {m : Nat} (HK : HookOk C H m) : ∀ n, Snd C (run H n) (n + m)
  | 0 => ⟨fun h => h.elim, fun h => h.elim, fun h => h.elim, fun h => h.elim, fun h => h.elim, fun h => h.elim, fun h => h.elim, fun h => h.elim⟩
  | n + 1 => by
    have S := snd X HK n
    have dn : ∀ {A}, Room (n + 1 + m) A → Room (n + m) A := fun r => r.le (by omega)
    exact ⟨fun h rm Ev R => ev_step S X h (dn rm) Ev R, fun h rm Ev R => evs_step S h (dn rm) Ev R, fun h rm Ev R => dic_step S h (dn rm) Ev R, fun h rm Ev R => bopV_step S h (dn rm) Ev R,
      fun h rm Ev R => bopT_step S h (dn rm) Ev R, fun h rm Ev R => tst_step S X h (dn rm) Ev R, fun h rm Ev R => exs_step S X h (dn rm) Ev R, fun h rm R hv => call_step S X HK h rm R hv⟩
end
end Mine
namespace Mine
open PySem PySem.SeqAt

/-! labels renamed -/
noncomputable def mapV (f : Nat → Nat) : V → V
  | .ref l => .ref (f l)
  | v => v
noncomputable def mapO (f : Nat → Nat) : O → O
  | .list xs => .list (xs.map (mapV f))
  | .tuple xs => .tuple (xs.map (mapV f))
  | .dict es => .dict (es.map fun e => (e.1, mapV f e.2))
  | o => o
noncomputable def refV (k : Nat) : V → Prop
  | .ref l => l < k
  | _ => True
noncomputable def refO (k : Nat) : O → Prop
  | .list xs => ∀ x ∈ xs, refV k x
  | .tuple xs => ∀ x ∈ xs, refV k x
  | .dict es => ∀ e ∈ es, refV k e.2
  | _ => True

section
variable {C : Cx} {ρ ρ' : Nat → Addr} {N N' k : Nat} {f g : Nat → Nat}
theorem VR.ren {a : V} {v : Value} (h : VR C ρ N (mapV f a) v) (hr : refV k a) (hg : ∀ j, j < k → ρ' (g j) = ρ (f j) ∧ g j < N') : VR C ρ' N' (mapV g a) v := by
  cases a with
  | ref l =>
    have h' : VR C ρ N (.ref (f l)) v := h
    cases h' with
    | ref _ hl =>
      obtain ⟨e1, e2⟩ := hg l hr
      rw [← e1]
      exact .ref _ e2
  | none => cases h; exact .none
  | bool b => cases h; exact .bool b
  | int i => cases h; exact .int i _
  | sym k => cases h; exact .sym k _
  | byt => cases h; exact .byt _
  | gref k => cases h; exact .gref k
  | any => cases h with
    | anyB b => exact .anyB b
    | anyN => exact .anyN
theorem VRs.ren : ∀ {as : List V} {vs : List Value}, VRs C ρ N (as.map (mapV f)) vs → (∀ a ∈ as, refV k a) → (∀ j, j < k → ρ' (g j) = ρ (f j) ∧ g j < N') → VRs C ρ' N' (as.map (mapV g)) vs
  | [], [], _, _, _ => trivial
  | _ :: _, _ :: _, h, hr, hg => ⟨h.1.ren (hr _ (.head _)) hg, VRs.ren h.2 (fun a ha => hr a (.tail _ ha)) hg⟩
  | [], _ :: _, h, _, _ => h.elim
  | _ :: _, [], h, _, _ => h.elim
theorem ERs.ren : ∀ {es : List (Nat × V)} {vs : List (Str × Value)}, ERs C ρ N (es.map fun e => (e.1, mapV f e.2)) vs → (∀ e ∈ es, refV k e.2) → (∀ j, j < k → ρ' (g j) = ρ (f j) ∧ g j < N') → ERs C ρ' N' (es.map fun e => (e.1, mapV g e.2)) vs
  | [], [], _, _, _ => trivial
  | _ :: _, _ :: _, h, hr, hg => ⟨⟨h.1.1, h.1.2.ren (hr _ (.head _)) hg⟩, ERs.ren h.2 (fun a ha => hr a (.tail _ ha)) hg⟩
  | [], _ :: _, h, _, _ => h.elim
  | _ :: _, [], h, _, _ => h.elim
theorem VRs.flat : ∀ {as : List V} {vs : List Value}, VRs C ρ N as vs → (∀ a ∈ as, mapV (fun _ => 0) a = a ∧ ∀ l, a ≠ .ref l) → VRs C ρ' N' as vs
  | [], [], _, _ => trivial
  | a :: as, v :: vs, h, hr => by
    refine ⟨?_, VRs.flat h.2 fun a ha => hr a (.tail _ ha)⟩
    have h1 := h.1
    have := (hr a (.head _)).2
    cases h1 with
    | ref l _ => exact absurd rfl (this l)
    | none => exact .none
    | bool b => exact .bool b
    | int i t => exact .int i t
    | sym k t => exact .sym k t
    | byt t => exact .byt t
    | gref k => exact .gref k
    | anyB b => exact .anyB b
    | anyN => exact .anyN
  | [], _ :: _, h, _ => h.elim
  | _ :: _, [], h, _ => h.elim
theorem ERs.flat : ∀ {as : List Nat} {vs : List (Str × Value)}, ERs C ρ N (as.map fun k => (k, V.bool true)) vs → ERs C ρ' N' (as.map fun k => (k, V.bool true)) vs
  | [], [], _ => trivial
  | a :: as, v :: vs, h => ⟨⟨h.1.1, by have t := h.1.2; generalize v.2 = u at t ⊢; cases t; exact .bool true⟩, ERs.flat h.2⟩
  | [], _ :: _, h => h.elim
  | _ :: _, [], h => h.elim
theorem OR.ren {o : O} {ob : Obj} (h : OR C ρ N (mapO f o) ob) (hr : refO k o) (hg : ∀ j, j < k → ρ' (g j) = ρ (f j) ∧ g j < N') : OR C ρ' N' (mapO g o) ob := by
  cases o with
  | list xs => obtain ⟨vs, n, e, r⟩ := h; exact ⟨vs, n, e, r.ren hr hg⟩
  | tuple xs => obtain ⟨vs, n, e, r⟩ := h; exact ⟨vs, n, e, r.ren hr hg⟩
  | dict es => obtain ⟨kvs, e, r⟩ := h; exact ⟨kvs, e, r.ren hr hg⟩
  | syms c xs =>
    obtain ⟨⟨vs, n, e, r⟩, q⟩ := h
    exact ⟨⟨vs, n, e, r.flat fun a ha => by obtain ⟨z, _, rfl⟩ := List.mem_map.mp ha; exact ⟨rfl, fun l e => nomatch e⟩⟩, q⟩
  | nums xs =>
    obtain ⟨⟨vs, n, e, r⟩, q⟩ := h
    exact ⟨⟨vs, n, e, r.flat fun a ha => by obtain ⟨z, _, rfl⟩ := List.mem_map.mp ha; exact ⟨rfl, fun l e => nomatch e⟩⟩, q⟩
  | keys c xs => obtain ⟨⟨kvs, e, r⟩, q⟩ := h; exact ⟨⟨kvs, e, r.flat⟩, q⟩
  | gone => trivial
end

theorem mapO_id (o : O) : mapO (fun l => l) o = o := by
  have hv : ∀ v : V, mapV (fun l => l) v = v := fun v => by cases v <;> rfl
  have hv' : (mapV fun l => l) = id := funext hv
  cases o with
  | list xs => simp [mapO, hv']
  | tuple xs => simp [mapO, hv']
  | dict es => simp [mapO, hv']
  | _ => rfl
theorem live_map {f : Nat → Nat} {o : O} : live (mapO f o) = live o := by cases o <;> rfl

/-- each role i of cs stands, in objs, under the label μ i -/
noncomputable def Roles (objs : List O) (μ : Nat → Nat) (cs : List O) : Prop :=
  ∀ i o', nth cs i = some o' → ∃ o, nth objs (μ i) = some o ∧ live o = true ∧ (∀ xs, o ≠ .tuple xs) ∧ ∀ {C : Cx} {ρ : Nat → Addr} {N : Nat} {ob : Obj}, OR C ρ N o ob → OR C ρ N (mapO μ o') ob
structure CsOk (cs : List O) : Prop where
  refs : ∀ i o, nth cs i = some o → refO cs.length o
  live : ∀ i o, nth cs i = some o → Mine.live o = true
noncomputable def Inj (μ : Nat → Nat) (k : Nat) : Prop := ∀ i j, i < k → j < k → μ i = μ j → i = j

section
variable {C : Cx} {L : Addr} {ρ : Nat → Addr} {σ : St} {h : Heap}
theorem nth_some {α : Type} : ∀ {xs : List α} {i : Nat}, i < xs.length → ∃ o, nth xs i = some o := fun {xs i} hi => by
  rw [nth_eq]; exact ⟨xs[i], by simp [hi]⟩
theorem frame {cs : List O} {μ : Nat → Nat} (R : Rep C L ρ σ h) (K : CsOk cs) (hr : Roles σ.objs μ cs) (hi : Inj μ cs.length) : Rep C L (fun i => ρ (μ i)) { objs := cs, lc := [], fd := σ.fd } h := by
  have lt : ∀ j, j < cs.length → μ j < σ.objs.length := fun j hj => by
    obtain ⟨o', e⟩ := nth_some hj
    obtain ⟨o, e1, _⟩ := hr j o' e
    exact nth_lt e1
  obtain ⟨m, nm, hm⟩ := R.ns
  refine ⟨R.base, R.above, fun l o hl => ?_, fun l l' o o' h1 h2 e => ?_, ⟨m, nm, fun x v e => by cases e⟩⟩
  · obtain ⟨o₀, e1, e2, _, e4⟩ := hr l o hl.1
    obtain ⟨ob, a1, a2, a3⟩ := R.obj (μ l) o₀ ⟨e1, e2⟩
    refine ⟨ob, a1, ?_, a3⟩
    have := (e4 a2).ren (k := cs.length) (g := fun i => i) (ρ' := fun i => ρ (μ i)) (N' := cs.length) (K.refs l o hl.1) fun j hj => ⟨rfl, hj⟩
    rwa [mapO_id] at this
  · obtain ⟨o₀, e1, e2, _⟩ := hr l o h1.1
    obtain ⟨o₁, f1, f2, _⟩ := hr l' o' h2.1
    have := R.inj (μ l) (μ l') o₀ o₁ ⟨e1, e2⟩ ⟨f1, f2⟩ e
    exact hi l l' (nth_lt h1.1) (nth_lt h2.1) this

open Classical in
noncomputable def rho' (ρ ρ' : Nat → Addr) (τ μ' : Nat → Nat) (k : Nat) : Nat → Addr := fun l => if e : ∃ i, i < k ∧ τ i = l then ρ' (μ' e.choose) else ρ l

theorem frame_back {cs cs' : List O} {μ μ' τ : Nat → Nat} {ρ' : Nat → Addr} {σ' : St} {h' : Heap} {objs'' : List O} (R : Rep C L ρ σ h) (K' : CsOk cs') (hr : Roles σ.objs μ cs)
    (p : Pst C L (fun i => ρ (μ i)) { objs := cs, lc := [], fd := σ.fd } h ρ' σ' h') (hns : ∀ m, h.Ns L m → h'.Ns L m)
    (hr' : Roles σ'.objs μ' cs') (hi' : Inj μ' cs'.length) (ht : Inj τ cs'.length) (hτ : ∀ i, i < cs'.length → τ i < objs''.length)
    (hnew : ∀ i, i < cs'.length → σ.objs.length ≤ τ i ∨ ∃ j, j < cs.length ∧ τ i = μ j ∧ μ' i = j)
    (hlen : σ.objs.length ≤ objs''.length)
    (hat : ∀ l o, nth objs'' l = some o → live o = true → (l < σ.objs.length ∧ (∀ j, j < cs.length → μ j ≠ l) ∧ nth σ.objs l = some o) ∨ ∃ i o', i < cs'.length ∧ l = τ i ∧ nth cs' i = some o' ∧ o = mapO τ o')
    (htup : ∀ l xs, nth σ.objs l = some (.tuple xs) → nth objs'' l = some (.tuple xs)) :
    Pst C L ρ σ h (rho' ρ ρ' τ μ' cs'.length) { objs := objs'', lc := σ.lc, fd := σ.fd } h' := by
  have at_τ : ∀ i, i < cs'.length → rho' ρ ρ' τ μ' cs'.length (τ i) = ρ' (μ' i) := fun i hi => by
    have e : ∃ j, j < cs'.length ∧ τ j = τ i := ⟨i, hi, rfl⟩
    unfold rho'
    rw [dif_pos e]
    have := ht _ _ e.choose_spec.1 hi e.choose_spec.2
    rw [this]
  have agr : ∀ l, l < σ.objs.length → rho' ρ ρ' τ μ' cs'.length l = ρ l := fun l hl => by
    by_cases e : ∃ j, j < cs'.length ∧ τ j = l
    · obtain ⟨j, hj, rfl⟩ := e
      rw [at_τ j hj]
      rcases hnew j hj with z | ⟨i, hi, e1, e2⟩
      · omega
      · rw [e2, e1]; exact p.agr i hi
    · unfold rho'; rw [dif_neg e]
  have off : ∀ l, (∀ i, i < cs'.length → τ i ≠ l) → rho' ρ ρ' τ μ' cs'.length l = ρ l := fun l hl => by
    unfold rho'; rw [dif_neg (fun ⟨i, hi, e⟩ => hl i hi e)]
  obtain ⟨m, nm, hm⟩ := R.ns
  -- an old object under no role is kept
  have old : ∀ l o, l < σ.objs.length → (∀ j, j < cs.length → μ j ≠ l) → nth σ.objs l = some o → live o = true → ∀ ob, h.get? (ρ l) = some ob → ρ l ≠ L → h'.get? (ρ l) = some ob := by
    intro l o hl hj e1 e2 ob e3 e4
    refine p.kp _ _ e3 e4 fun j o' hj' e => ?_
    obtain ⟨o₀, f1, f2, _⟩ := hr j o' hj'.1
    exact hj j (nth_lt hj'.1) (R.inj (μ j) l o₀ o ⟨f1, f2⟩ ⟨e1, e2⟩ e)
  have role : ∀ i o', i < cs'.length → nth cs' i = some o' → ∃ o₀, Has σ' (μ' i) o₀ ∧ ∀ {N : Nat} {ob : Obj}, OR C ρ' N o₀ ob → OR C ρ' N (mapO μ' o') ob := by
    intro i o' hi e
    obtain ⟨o₀, e1, e2, _, e4⟩ := hr' i o' e
    exact ⟨o₀, ⟨e1, e2⟩, e4⟩
  refine ⟨⟨p.rep.base, R.above, fun l o hl => ?_, fun l l' o o' h1 h2 e => ?_, ⟨m, hns m nm, fun x v hx => ?_⟩⟩, agr, hlen, fun b ob e hb hn => ?_, fun l o hl => ?_, htup, rfl⟩
  · rcases hat l o hl.1 hl.2 with ⟨a1, a2, a3⟩ | ⟨i, o', a1, rfl, a3, rfl⟩
    · obtain ⟨ob, b1, b2, b3, b4⟩ := R.obj l o ⟨a3, hl.2⟩
      rw [agr l a1]
      exact ⟨ob, old l o a1 a2 a3 hl.2 ob b1 b4, b2.mono agr hlen, b3, b4⟩
    · obtain ⟨o₀, b1, b2⟩ := role i o' a1 a3
      obtain ⟨ob, c1, c2, c3⟩ := p.rep.obj _ _ b1
      rw [at_τ i a1]
      exact ⟨ob, c1, (b2 c2).ren (K'.refs i o' a3) fun j hj => ⟨at_τ j hj, hτ j hj⟩, c3⟩
  · rcases hat l o h1.1 h1.2 with ⟨a1, a2, a3⟩ | ⟨i, oi, a1, rfl, a3, rfl⟩ <;> rcases hat l' o' h2.1 h2.2 with ⟨b1, b2, b3⟩ | ⟨j, oj, b1, rfl, b3, rfl⟩
    · rw [agr l a1, agr l' b1] at e
      exact R.inj l l' o o' ⟨a3, h1.2⟩ ⟨b3, h2.2⟩ e
    · exfalso
      rw [agr l a1, at_τ j b1] at e
      obtain ⟨o₀, c1, _⟩ := role j oj b1 b3
      obtain ⟨ob, d1, _, d3⟩ := R.obj l o ⟨a3, h1.2⟩
      rcases p.fr _ _ c1 with ⟨i₀, x, y1, y2⟩ | z
      · obtain ⟨o₂, f1, f2, _⟩ := hr i₀ x y1.1
        refine a2 i₀ (nth_lt y1.1) (R.inj (μ i₀) l o₂ o ⟨f1, f2⟩ ⟨a3, h1.2⟩ ?_)
        rw [e]; exact y2
      · rw [← e, d1] at z; cases z
    · exfalso
      rw [agr l' b1, at_τ i a1] at e
      obtain ⟨o₀, c1, _⟩ := role i oi a1 a3
      obtain ⟨ob, d1, _, d3⟩ := R.obj l' o' ⟨b3, h2.2⟩
      rcases p.fr _ _ c1 with ⟨i₀, x, y1, y2⟩ | z
      · obtain ⟨o₂, f1, f2, _⟩ := hr i₀ x y1.1
        refine b2 i₀ (nth_lt y1.1) (R.inj (μ i₀) l' o₂ o' ⟨f1, f2⟩ ⟨b3, h2.2⟩ ?_)
        rw [← e]; exact y2
      · rw [e, d1] at z; cases z
    · rw [at_τ i a1, at_τ j b1] at e
      obtain ⟨o₀, c1, _⟩ := role i oi a1 a3
      obtain ⟨o₁, d1, _⟩ := role j oj b1 b3
      have := p.rep.inj _ _ _ _ c1 d1 e
      rw [hi' i j a1 b1 this]
  · obtain ⟨i, u, e1, e2⟩ := hm x v hx
    exact ⟨i, u, e1, e2.mono agr hlen⟩
  · refine p.kp b ob e hb fun j o' hj e' => ?_
    obtain ⟨o₀, f1, f2, _⟩ := hr j o' hj.1
    exact hn (μ j) o₀ ⟨f1, f2⟩ e'
  · rcases hat l o hl.1 hl.2 with ⟨a1, a2, a3⟩ | ⟨i, o', a1, rfl, a3, rfl⟩
    · exact .inl ⟨l, o, ⟨a3, hl.2⟩, (agr l a1).symm⟩
    · rw [at_τ i a1]
      obtain ⟨o₀, c1, _⟩ := role i o' a1 a3
      rcases p.fr _ _ c1 with ⟨i₀, x, y1, y2⟩ | z
      · obtain ⟨o₂, f1, f2, _⟩ := hr i₀ x y1.1
        exact .inl ⟨μ i₀, o₂, ⟨f1, f2⟩, y2⟩
      · exact .inr z
end
end Mine
namespace Mine
open PySem PySem.SeqAt

noncomputable def at0 : List Nat → Nat → Nat
  | [], _ => 0
  | a :: _, 0 => a
  | _ :: r, n + 1 => at0 r n
/-- the first place of k -/
noncomputable def idx : List Nat → Nat → Option Nat
  | [], _ => none
  | a :: r, k => match Nat.beq a k with
    | true => some 0
    | false => match idx r k with
      | some i => some (i + 1)
      | none => none
noncomputable def distinct : List Nat → Bool
  | [] => true
  | a :: r => match memN r a with
    | true => false
    | false => distinct r
noncomputable def tauF (kp : Nat → Bool) (μ : List Nat) (N : Nat) (i : Nat) : Nat := match kp i with
  | true => at0 μ i
  | false => N + i
noncomputable def pickO (kp : Nat → Bool) (μ : List Nat) (τ : Nat → Nat) (cs : List O) (k : Nat) (o : O) : O := match idx μ k with
  | none => o
  | some i => match kp i with
    | true => (match nth cs i with | some c => mapO τ c | none => .gone)
    | false => .gone
noncomputable def oldO (kp : Nat → Bool) (μ : List Nat) (τ : Nat → Nat) (cs : List O) : Nat → List O → List O
  | _, [] => []
  | k, o :: r => pickO kp μ τ cs k o :: oldO kp μ τ cs (k + 1) r
noncomputable def newOs (kp : Nat → Bool) (τ : Nat → Nat) : Nat → List O → List O
  | _, [] => []
  | i, o :: r => (match kp i with | true => .gone | false => mapO τ o) :: newOs kp τ (i + 1) r
noncomputable def renew (kp : Nat → Bool) (objs : List O) (μ : List Nat) (cs : List O) : List O :=
  oldO kp μ (tauF kp μ objs.length) cs 0 objs ++ newOs kp (tauF kp μ objs.length) 0 cs

theorem idx_some : ∀ {μ : List Nat} {k i : Nat}, idx μ k = some i → i < μ.length ∧ at0 μ i = k
  | [], _, _, h => by cases h
  | a :: r, k, i, h => by
    unfold idx at h
    split at h
    · rename_i e; cases h; exact ⟨by simp, Nat.eq_of_beq_eq_true e⟩
    · split at h
      · rename_i j e
        cases h
        obtain ⟨h1, h2⟩ := idx_some e
        exact ⟨by simp; exact h1, h2⟩
      · cases h
theorem idx_none : ∀ {μ : List Nat} {k : Nat}, idx μ k = none → ∀ i, i < μ.length → at0 μ i ≠ k
  | [], _, _, i, hi => by cases hi
  | a :: r, k, h, i, hi => by
    unfold idx at h
    split at h
    · cases h
    · rename_i e
      split at h
      · cases h
      · rename_i e2
        cases i with
        | zero => intro z; have : a = k := z; rw [this, Nat.beq_refl] at e; cases e
        | succ i => exact idx_none e2 i (Nat.lt_of_succ_lt_succ hi)
theorem at0_mem : ∀ {μ : List Nat} {i : Nat}, i < μ.length → memN μ (at0 μ i) = true
  | [], _, h => by cases h
  | a :: r, 0, _ => by unfold memN at0; simp [Nat.beq_refl]
  | a :: r, i + 1, h => by
    have := at0_mem (μ := r) (i := i) (Nat.lt_of_succ_lt_succ h)
    unfold memN at0
    split
    · rfl
    · exact this
theorem distinct_inj : ∀ {μ : List Nat}, distinct μ = true → Inj (at0 μ) μ.length
  | [], _ => fun i j hi => by cases hi
  | a :: r, h => by
    unfold distinct at h
    split at h
    · cases h
    · rename_i hm
      intro i j hi hj e
      cases i with
      | zero => cases j with
        | zero => rfl
        | succ j =>
          have := at0_mem (μ := r) (i := j) (Nat.lt_of_succ_lt_succ hj)
          have e' : a = at0 r j := e
          rw [← e', hm] at this; cases this
      | succ i => cases j with
        | zero =>
          have := at0_mem (μ := r) (i := i) (Nat.lt_of_succ_lt_succ hi)
          have e' : at0 r i = a := e
          rw [e', hm] at this; cases this
        | succ j => rw [distinct_inj h i j (Nat.lt_of_succ_lt_succ hi) (Nat.lt_of_succ_lt_succ hj) e]

theorem oldO_nth (kp : Nat → Bool) (μ : List Nat) (τ : Nat → Nat) (cs : List O) : ∀ (objs : List O) (k l : Nat), nth (oldO kp μ τ cs k objs) l = (nth objs l).map (pickO kp μ τ cs (k + l))
  | [], _, _ => rfl
  | o :: r, k, 0 => rfl
  | o :: r, k, l + 1 => by
    show nth (oldO kp μ τ cs (k + 1) r) l = _
    rw [oldO_nth kp μ τ cs r (k + 1) l]
    have : k + 1 + l = k + (l + 1) := by omega
    rw [this]; rfl
theorem oldO_length (kp : Nat → Bool) (μ : List Nat) (τ : Nat → Nat) (cs : List O) : ∀ (objs : List O) (k : Nat), (oldO kp μ τ cs k objs).length = objs.length
  | [], _ => rfl
  | o :: r, k => by simp [oldO, oldO_length kp μ τ cs r (k + 1)]
theorem newOs_nth (kp : Nat → Bool) (τ : Nat → Nat) : ∀ (cs : List O) (k i : Nat), nth (newOs kp τ k cs) i = (nth cs i).map fun o => match kp (k + i) with | true => .gone | false => mapO τ o
  | [], _, _ => rfl
  | o :: r, k, 0 => rfl
  | o :: r, k, i + 1 => by
    show nth (newOs kp τ (k + 1) r) i = _
    rw [newOs_nth kp τ r (k + 1) i]
    have : k + 1 + i = k + (i + 1) := by omega
    rw [this]; rfl
theorem newOs_length (kp : Nat → Bool) (τ : Nat → Nat) : ∀ (cs : List O) (k : Nat), (newOs kp τ k cs).length = cs.length
  | [], _ => rfl
  | o :: r, k => by simp [newOs, newOs_length kp τ r (k + 1)]
theorem nth_append_of {α : Type} (xs ys : List α) (l : Nat) : nth (xs ++ ys) l = if l < xs.length then nth xs l else nth ys (l - xs.length) := by
  rw [nth_eq, nth_eq, nth_eq, List.getElem?_append]

theorem at0_nth : ∀ {μ : List Nat} {i : Nat}, i < μ.length → nth μ i = some (at0 μ i)
  | [], _, h => by cases h
  | a :: r, 0, _ => rfl
  | a :: r, i + 1, h => at0_nth (μ := r) (i := i) (Nat.lt_of_succ_lt_succ h)

section
variable {C : Cx} {L : Addr} {ρ : Nat → Addr} {σ : St} {h : Heap}
theorem renew_back {kp : Nat → Bool} {cs cs' : List O} {μ μ' : List Nat} {ρ' : Nat → Addr} {σ' : St} {h' : Heap} (R : Rep C L ρ σ h) (K' : CsOk cs') (hr : Roles σ.objs (at0 μ) cs) (hd : distinct μ = true) (l1 : μ.length = cs.length) (l2 : cs'.length = cs.length) (l3 : μ'.length = cs.length)
    (p : Pst C L (fun i => ρ (at0 μ i)) { objs := cs, lc := [], fd := σ.fd } h ρ' σ' h') (hns : ∀ m, h.Ns L m → h'.Ns L m)
    (hr' : Roles σ'.objs (at0 μ') cs') (hd' : distinct μ' = true) (hk : ∀ i, i < cs.length → kp i = true → at0 μ' i = i) :
    ∃ ρ'', Pst C L ρ σ h ρ'' { objs := renew kp σ.objs μ cs', lc := σ.lc, fd := σ.fd } h' := by
  have hi := distinct_inj hd
  have hi' := distinct_inj hd'
  rw [l1] at hi
  rw [l3, ← l2] at hi'
  have lt : ∀ j, j < cs.length → at0 μ j < σ.objs.length := fun j hj => by
    obtain ⟨o', e⟩ := nth_some hj
    obtain ⟨o, e1, _⟩ := hr j o' e
    exact nth_lt e1
  generalize hτ : tauF kp μ σ.objs.length = τ
  have t1 : ∀ i, kp i = true → τ i = at0 μ i := fun i e => by rw [← hτ]; unfold tauF; rw [e]
  have t0 : ∀ i, kp i = false → τ i = σ.objs.length + i := fun i e => by rw [← hτ]; unfold tauF; rw [e]
  have len : (renew kp σ.objs μ cs').length = σ.objs.length + cs.length := by
    unfold renew; rw [List.length_append, oldO_length, newOs_length, l2]
  refine ⟨_, frame_back (μ := at0 μ) (μ' := at0 μ') (τ := τ) R K' hr p hns hr' hi' ?_ ?_ ?_ (by rw [len]; omega) ?_ ?_⟩
  · intro i j h1 h2 e
    rw [l2] at h1 h2
    cases e1 : kp i <;> cases e2 : kp j
    · rw [t0 i e1, t0 j e2] at e; omega
    · rw [t0 i e1, t1 j e2] at e; have := lt j h2; omega
    · rw [t1 i e1, t0 j e2] at e; have := lt i h1; omega
    · rw [t1 i e1, t1 j e2] at e; exact hi i j h1 h2 e
  · intro i h1
    rw [l2] at h1
    rw [len]
    cases e1 : kp i with
    | false => rw [t0 i e1]; omega
    | true => rw [t1 i e1]; have := lt i h1; omega
  · intro i h1
    rw [l2] at h1
    cases e1 : kp i with
    | false => left; rw [t0 i e1]; omega
    | true => right; exact ⟨i, h1, t1 i e1, hk i h1 e1⟩
  · intro l o e lv
    unfold renew at e
    rw [hτ, nth_append_of, oldO_length] at e
    split at e
    · rename_i hl
      rw [oldO_nth] at e
      obtain ⟨o₀, e0, e1⟩ := Option.map_eq_some_iff.mp e
      rw [Nat.zero_add] at e1
      unfold pickO at e1
      split at e1
      · rename_i hn
        subst e1
        exact .inl ⟨hl, fun j hj => idx_none hn j (by rw [l1]; exact hj), e0⟩
      · rename_i i hix
        obtain ⟨x1, x2⟩ := idx_some hix
        rw [l1] at x1
        split at e1
        · rename_i hkp
          obtain ⟨c, ec⟩ := nth_some (xs := cs') (i := i) (by rw [l2]; exact x1)
          rw [ec] at e1
          exact .inr ⟨i, c, by rw [l2]; exact x1, by rw [t1 i hkp, x2], ec, e1.symm⟩
        · rw [← e1] at lv; cases lv
    · rename_i hl
      rw [newOs_nth] at e
      obtain ⟨c, ec, e1⟩ := Option.map_eq_some_iff.mp e
      rw [Nat.zero_add] at e1
      split at e1
      · rw [← e1] at lv; cases lv
      · rename_i hkp
        have hlt := nth_lt ec
        exact .inr ⟨l - σ.objs.length, c, hlt, by rw [t0 _ hkp]; omega, ec, e1.symm⟩
  · intro l xs e
    have hl := nth_lt e
    unfold renew
    rw [hτ, nth_append_of, oldO_length, if_pos hl, oldO_nth, e]
    show some _ = _
    rw [Nat.zero_add]
    unfold pickO
    split
    · rfl
    · rename_i i hix
      exfalso
      obtain ⟨x1, x2⟩ := idx_some hix
      rw [l1] at x1
      obtain ⟨c, ec⟩ := nth_some x1
      obtain ⟨o, f1, _, f3, _⟩ := hr i c ec
      rw [x2, e] at f1
      cases f1
      exact f3 _ rfl
end
end Mine
namespace Mine
open PySem PySem.SeqAt

/-- one end -/
structure EN where
  st : Nat
  ti : List Nat
  held : Bool
  way : List Nat
  said : List Nat
  heard : List Nat
structure PW where
  a : EN
  b : EN
  hold : Int
  damp : Bool
  wo : Bool
abbrev cap : Nat := 90
structure LensE (e : EN) : Prop where
  ti : e.ti.length ≤ 50
  way : e.way.length ≤ cap
  said : e.said.length ≤ cap
  heard : e.heard.length ≤ cap
structure Lens (w : PW) : Prop where
  a : LensE w.a
  b : LensE w.b
noncomputable def cs16 (w : PW) : List O :=
  [.dict [(25, .ref 1), (26, .ref 2), (27, .ref 5), (11, .int w.hold), (32, .bool w.damp), (33, .bool w.wo)],
   .list [.sym w.a.st, .sym w.b.st], .list [.ref 3, .ref 4], .keys 50 w.a.ti, .keys 50 w.b.ti,
   .dict [(28, .ref 6), (29, .ref 7), (30, .ref 10), (31, .ref 13)],
   .list [.bool w.a.held, .bool w.b.held], .list [.ref 8, .ref 9], .syms 90 w.a.way, .syms 90 w.b.way,
   .list [.ref 11, .ref 12], .syms 90 w.a.said, .syms 90 w.b.said, .list [.ref 14, .ref 15], .syms 90 w.a.heard, .syms 90 w.b.heard]

noncomputable def keyV (k : Nat) : List (Nat × V) → Option (V × List (Nat × V))
  | [] => none
  | (k', v) :: r => (match Nat.beq k' k with | true => some (v, r) | false => none)
noncomputable def rfV : V → Option Nat
  | .ref a => some a
  | _ => none
noncomputable def inV' : V → Option Int
  | .int i => some i
  | _ => none
noncomputable def boV : V → Option Bool
  | .bool b => some b
  | _ => none
noncomputable def keyA {α : Type} (f : V → Option α) (k : Nat) (es : List (Nat × V)) : Option (α × List (Nat × V)) := match keyV k es with
  | none => none
  | some (v, r) => (match f v with | none => none | some x => some (x, r))
noncomputable def thn {α β : Type} (x : Option (α × List (Nat × V))) (g : α → List (Nat × V) → Option β) : Option β := match x with
  | none => none
  | some (a, r) => g a r
noncomputable def endE {α : Type} (x : α) : List (Nat × V) → Option α
  | [] => some x
  | _ :: _ => none
noncomputable def dicE {α : Type} (g : List (Nat × V) → Option α) : O → Option α
  | .dict es => g es
  | _ => none
noncomputable def rd6 : O → Option (Nat × Nat × Nat × Int × Bool × Bool) := dicE fun es => thn (keyA rfV 25 es) fun a es => thn (keyA rfV 26 es) fun b es => thn (keyA rfV 27 es) fun c es =>
  thn (keyA inV' 11 es) fun i es => thn (keyA boV 32 es) fun d es => thn (keyA boV 33 es) fun e es => endE (a, b, c, i, d, e) es
noncomputable def rd4 : O → Option (Nat × Nat × Nat × Nat) := dicE fun es => thn (keyA rfV 28 es) fun a es => thn (keyA rfV 29 es) fun b es => thn (keyA rfV 30 es) fun c es => thn (keyA rfV 31 es) fun d es => endE (a, b, c, d) es
noncomputable def rdRR : O → Option (Nat × Nat)
  | .list [.ref a, .ref b] => some (a, b)
  | _ => none
noncomputable def rdSS : O → Option (Nat × Nat)
  | .list [.sym a, .sym b] => some (a, b)
  | _ => none
noncomputable def rdBB : O → Option (Bool × Bool)
  | .list [.bool a, .bool b] => some (a, b)
  | _ => none
noncomputable def rdS : O → Option (List Nat)
  | .syms _ xs => some xs
  | .list [] => some []
  | _ => none
noncomputable def rdK : O → Option (List Nat)
  | .keys _ xs => some xs
  | .dict [] => some []
  | _ => none
noncomputable def rdAt {α : Type} (objs : List O) (l : Nat) (f : O → Option α) : Option α := match nth objs l with
  | some o => f o
  | none => none
noncomputable def rdW (objs : List O) (l : Nat) : Option (PW × List Nat) := match rdAt objs l rd6 with
  | none => none
  | some (ls, lt, ll, hold, damp, wo) => match rdAt objs ls rdSS, rdAt objs lt rdRR, rdAt objs ll rd4 with
    | some (s0, s1), some (t0, t1), some (lh, lw, li, ld) => (match rdAt objs t0 rdK, rdAt objs t1 rdK, rdAt objs lh rdBB, rdAt objs lw rdRR, rdAt objs li rdRR, rdAt objs ld rdRR with
      | some T0, some T1, some (h0, h1), some (w0, w1), some (i0, i1), some (d0, d1) =>
        (match rdAt objs w0 rdS, rdAt objs w1 rdS, rdAt objs i0 rdS, rdAt objs i1 rdS, rdAt objs d0 rdS, rdAt objs d1 rdS with
        | some W0, some W1, some I0, some I1, some D0, some D1 =>
          some (⟨⟨s0, T0, h0, W0, I0, D0⟩, ⟨s1, T1, h1, W1, I1, D1⟩, hold, damp, wo⟩, [l, ls, lt, t0, t1, ll, lh, lw, w0, w1, li, i0, i1, ld, d0, d1])
        | _, _, _, _, _, _ => none)
      | _, _, _, _, _, _ => none)
    | _, _, _ => none

/-- o stands for the role o' -/
noncomputable def As (μ : Nat → Nat) (o o' : O) : Prop := live o = true ∧ (∀ xs, o ≠ .tuple xs) ∧ ∀ {C : Cx} {ρ : Nat → Addr} {N : Nat} {ob : Obj}, OR C ρ N o ob → OR C ρ N (mapO μ o') ob
theorem rd_at {α : Type} {objs : List O} {l : Nat} {f : O → Option α} {x : α} (h : rdAt objs l f = some x) : ∃ o, nth objs l = some o ∧ f o = some x := by
  unfold rdAt at h
  split at h
  · rename_i o e; exact ⟨o, e, h⟩
  · cases h
theorem as_same {μ : Nat → Nat} {o o' : O} (e : o = mapO μ o') (h1 : live o = true) (h2 : ∀ xs, o ≠ .tuple xs) : As μ o o' := ⟨h1, h2, fun h => e ▸ h⟩
theorem keyV_eq {k : Nat} {es r : List (Nat × V)} {v : V} (h : keyV k es = some (v, r)) : es = (k, v) :: r := by
  cases es with
  | nil => cases h
  | cons p es =>
    obtain ⟨k', u⟩ := p
    unfold keyV at h
    dsimp only at h
    cases e : Nat.beq k' k with
    | true => rw [e] at h; cases h; rw [Nat.eq_of_beq_eq_true e]
    | false => rw [e] at h; cases h
theorem thn_eq {α β : Type} {f : V → Option α} {k : Nat} {es : List (Nat × V)} {g : α → List (Nat × V) → Option β} {y : β} (h : thn (keyA f k es) g = some y) : ∃ v x r, es = (k, v) :: r ∧ f v = some x ∧ g x r = some y := by
  unfold thn keyA at h
  cases e : keyV k es with
  | none => rw [e] at h; cases h
  | some p =>
    rw [e] at h
    dsimp only at h
    cases q : f p.1 with
    | none => rw [q] at h; cases h
    | some x => rw [q] at h; exact ⟨p.1, x, p.2, keyV_eq e, q, h⟩
theorem rfV_eq {v : V} {a : Nat} (h : rfV v = some a) : v = .ref a := by
  cases v <;> cases h; rfl
theorem inV'_eq {v : V} {a : Int} (h : inV' v = some a) : v = .int a := by
  cases v <;> cases h; rfl
theorem boV_eq {v : V} {a : Bool} (h : boV v = some a) : v = .bool a := by
  cases v <;> cases h; rfl
theorem endE_eq {α : Type} {x y : α} {es : List (Nat × V)} (h : endE x es = some y) : es = [] ∧ x = y := by
  cases es <;> cases h; exact ⟨rfl, rfl⟩
theorem dicE_eq {α : Type} {g : List (Nat × V) → Option α} {o : O} {y : α} (h : dicE g o = some y) : ∃ es, o = .dict es ∧ g es = some y := by
  cases o <;> first | exact ⟨_, rfl, h⟩ | cases h
theorem rd6_eq {o : O} {a b c : Nat} {i : Int} {d e : Bool} (h : rd6 o = some (a, b, c, i, d, e)) : o = .dict [(25, .ref a), (26, .ref b), (27, .ref c), (11, .int i), (32, .bool d), (33, .bool e)] := by
  obtain ⟨_, rfl, h⟩ := dicE_eq h
  obtain ⟨_, _, _, rfl, e1, h⟩ := thn_eq h
  obtain ⟨_, _, _, rfl, e2, h⟩ := thn_eq h
  obtain ⟨_, _, _, rfl, e3, h⟩ := thn_eq h
  obtain ⟨_, _, _, rfl, e4, h⟩ := thn_eq h
  obtain ⟨_, _, _, rfl, e5, h⟩ := thn_eq h
  obtain ⟨_, _, _, rfl, e6, h⟩ := thn_eq h
  obtain ⟨rfl, h⟩ := endE_eq h
  cases h
  rw [rfV_eq e1, rfV_eq e2, rfV_eq e3, inV'_eq e4, boV_eq e5, boV_eq e6]
theorem rd4_eq {o : O} {a b c d : Nat} (h : rd4 o = some (a, b, c, d)) : o = .dict [(28, .ref a), (29, .ref b), (30, .ref c), (31, .ref d)] := by
  obtain ⟨_, rfl, h⟩ := dicE_eq h
  obtain ⟨_, _, _, rfl, e1, h⟩ := thn_eq h
  obtain ⟨_, _, _, rfl, e2, h⟩ := thn_eq h
  obtain ⟨_, _, _, rfl, e3, h⟩ := thn_eq h
  obtain ⟨_, _, _, rfl, e4, h⟩ := thn_eq h
  obtain ⟨rfl, h⟩ := endE_eq h
  cases h
  rw [rfV_eq e1, rfV_eq e2, rfV_eq e3, rfV_eq e4]
theorem rd6_as {o : O} {a b c : Nat} {i : Int} {d e : Bool} {μ : Nat → Nat} (h : rd6 o = some (a, b, c, i, d, e)) (h1 : μ 1 = a) (h2 : μ 2 = b) (h5 : μ 5 = c) :
    As μ o (.dict [(25, .ref 1), (26, .ref 2), (27, .ref 5), (11, .int i), (32, .bool d), (33, .bool e)]) := by
  rw [rd6_eq h]; subst h1 h2 h5
  exact as_same rfl rfl fun _ z => nomatch z
theorem rd4_as {o : O} {a b c d : Nat} {μ : Nat → Nat} (h : rd4 o = some (a, b, c, d)) (h1 : μ 6 = a) (h2 : μ 7 = b) (h3 : μ 10 = c) (h4 : μ 13 = d) :
    As μ o (.dict [(28, .ref 6), (29, .ref 7), (30, .ref 10), (31, .ref 13)]) := by
  rw [rd4_eq h]; subst h1 h2 h3 h4
  exact as_same rfl rfl fun _ z => nomatch z
theorem rdRR_as {o : O} {a b : Nat} {i j : Nat} {μ : Nat → Nat} (h : rdRR o = some (a, b)) (h1 : μ i = a) (h2 : μ j = b) : As μ o (.list [.ref i, .ref j]) := by
  unfold rdRR at h
  split at h
  · cases h; subst h1 h2; exact as_same rfl rfl fun _ z => nomatch z
  · cases h
theorem rdSS_as {o : O} {a b : Nat} {μ : Nat → Nat} (h : rdSS o = some (a, b)) : As μ o (.list [.sym a, .sym b]) := by
  unfold rdSS at h
  split at h
  · cases h; exact as_same rfl rfl fun _ z => nomatch z
  · cases h
theorem rdBB_as {o : O} {a b : Bool} {μ : Nat → Nat} (h : rdBB o = some (a, b)) : As μ o (.list [.bool a, .bool b]) := by
  unfold rdBB at h
  split at h
  · cases h; exact as_same rfl rfl fun _ z => nomatch z
  · cases h
theorem rdS_as {o : O} {xs : List Nat} {μ : Nat → Nat} {c : Nat} (h : rdS o = some xs) (hl : xs.length ≤ c) : As μ o (.syms c xs) := by
  unfold rdS at h
  split at h
  · cases h; exact ⟨rfl, (fun _ z => nomatch z), fun ⟨h, _⟩ => ⟨h, hl⟩⟩
  · cases h; exact ⟨rfl, (fun _ z => nomatch z), fun ⟨vs, n, e, r⟩ => ⟨⟨vs, n, e, r⟩, Nat.zero_le _⟩⟩
  · cases h
theorem rdK_as {o : O} {xs : List Nat} {μ : Nat → Nat} {c : Nat} (h : rdK o = some xs) (hl : xs.length ≤ c) : As μ o (.keys c xs) := by
  unfold rdK at h
  split at h
  · cases h; exact ⟨rfl, (fun _ z => nomatch z), fun ⟨h, _⟩ => ⟨h, hl⟩⟩
  · cases h; exact ⟨rfl, (fun _ z => nomatch z), fun ⟨kvs, e, r⟩ => ⟨⟨kvs, e, r⟩, Nat.zero_le _⟩⟩
  · cases h

theorem rdW_roles {objs : List O} {l : Nat} {w : PW} {μ : List Nat} (h : rdW objs l = some (w, μ)) (hl : Lens w) : μ.length = 16 ∧ at0 μ 0 = l ∧ Roles objs (at0 μ) (cs16 w) := by
  unfold rdW at h
  split at h
  · cases h
  · rename_i ls lt ll hold damp wo e0
    split at h
    · rename_i s0 s1 t0 t1 lh lw li ld e1 e2 e3
      split at h
      · rename_i T0 T1 h0 h1 w0 w1 i0 i1 d0 d1 f1 f2 f3 f4 f5 f6
        split at h
        · rename_i W0 W1 I0 I1 D0 D1 g1 g2 g3 g4 g5 g6
          cases h
          obtain ⟨⟨a1, a2, a3, a4⟩, ⟨b1, b2, b3, b4⟩⟩ := hl
          refine ⟨rfl, rfl, ?_⟩
          intro i o' hi
          have go : ∀ {α : Type} {l' : Nat} {f : O → Option α} {x : α} {o' : O}, rdAt objs l' f = some x → (∀ o, f o = some x → As (at0 [l, ls, lt, t0, t1, ll, lh, lw, w0, w1, li, i0, i1, ld, d0, d1]) o o') →
              ∃ o, nth objs l' = some o ∧ live o = true ∧ (∀ xs, o ≠ .tuple xs) ∧ ∀ {C : Cx} {ρ : Nat → Addr} {N : Nat} {ob : Obj}, OR C ρ N o ob → OR C ρ N (mapO (at0 [l, ls, lt, t0, t1, ll, lh, lw, w0, w1, li, i0, i1, ld, d0, d1]) o') ob := by
            intro α l' f x o' hx k
            obtain ⟨o, h1, h2⟩ := rd_at hx
            exact ⟨o, h1, k o h2⟩
          match i, hi with
          | 0, hi => cases hi; exact go e0 fun o h => rd6_as h rfl rfl rfl
          | 1, hi => cases hi; exact go e1 fun o h => rdSS_as h
          | 2, hi => cases hi; exact go e2 fun o h => rdRR_as h rfl rfl
          | 3, hi => cases hi; exact go f1 fun o h => rdK_as h a1
          | 4, hi => cases hi; exact go f2 fun o h => rdK_as h b1
          | 5, hi => cases hi; exact go e3 fun o h => rd4_as h rfl rfl rfl rfl
          | 6, hi => cases hi; exact go f3 fun o h => rdBB_as h
          | 7, hi => cases hi; exact go f4 fun o h => rdRR_as h rfl rfl
          | 8, hi => cases hi; exact go g1 fun o h => rdS_as h a2
          | 9, hi => cases hi; exact go g2 fun o h => rdS_as h b2
          | 10, hi => cases hi; exact go f5 fun o h => rdRR_as h rfl rfl
          | 11, hi => cases hi; exact go g3 fun o h => rdS_as h a3
          | 12, hi => cases hi; exact go g4 fun o h => rdS_as h b3
          | 13, hi => cases hi; exact go f6 fun o h => rdRR_as h rfl rfl
          | 14, hi => cases hi; exact go g5 fun o h => rdS_as h a4
          | 15, hi => cases hi; exact go g6 fun o h => rdS_as h b4
          | i + 16, hi => cases hi
        · cases h
      · cases h
    · cases h
theorem cs16_ok (w : PW) : CsOk (cs16 w) := by
  refine ⟨fun i o hi => ?_, fun i o hi => ?_⟩
  · show refO 16 o
    match i, hi with
    | 0, hi | 1, hi | 2, hi | 3, hi | 4, hi | 5, hi | 6, hi | 7, hi | 8, hi | 9, hi | 10, hi | 11, hi | 12, hi | 13, hi | 14, hi | 15, hi => cases hi; simp [refO, refV]
    | i + 16, hi => cases hi
  · match i, hi with
    | 0, hi | 1, hi | 2, hi | 3, hi | 4, hi | 5, hi | 6, hi | 7, hi | 8, hi | 9, hi | 10, hi | 11, hi | 12, hi | 13, hi | 14, hi | 15, hi => cases hi; rfl
    | i + 16, hi => cases hi
end Mine
namespace Mine
open PySem PySem.SeqAt

theorem VR.flat1 {C : Cx} {ρ ρ' : Nat → Addr} {N N' : Nat} {a : V} {v : Value} (h : VR C ρ N a v) (e : nonref a = true) : VR C ρ' N' a v := by
  cases h with
  | ref l _ => cases e
  | none => exact .none
  | bool b => exact .bool b
  | int i t => exact .int i t
  | sym k t => exact .sym k t
  | byt t => exact .byt t
  | gref k => cases e
  | anyB b => exact .anyB b
  | anyN => exact .anyN

section
variable {C : Cx} {L : Addr} {ρ : Nat → Addr} {σ : St} {s : Shared} {A : Around}

/-- a call from a small state, put back into the caller's -/
theorem call_frame (X : Facts C) {H : Nat → Option Hook} {m n f : Nat} (HK : HookOk C H m) {cs : List O} {μ : List Nat} {as0 : List V} {us : List Value} {G : V → St → Prop} {Q : KV} (R : Rep C L ρ σ s.heap) (K : CsOk cs) (hr : Roles σ.objs (at0 μ) cs) (hd : distinct μ = true)
    (l1 : μ.length = cs.length) (rm : Room (n + m) A) (hv : VRs C ρ σ.objs.length (as0.map (mapV (at0 μ))) us) (hrefs : ∀ a ∈ as0, refV cs.length a) (hrun : (run H n).call f as0 { objs := cs, lc := [], fd := σ.fd } G)
    (fin : ∀ v σ', G v σ' → ∃ kp cs' μ', nonref v = true ∧ CsOk cs' ∧ cs'.length = cs.length ∧ μ'.length = cs.length ∧ Roles σ'.objs (at0 μ') cs' ∧ distinct μ' = true ∧ (∀ i, i < cs.length → kp i = true → at0 μ' i = i) ∧
      Q v { objs := renew kp σ.objs μ cs', lc := σ.lc, fd := σ.fd }) :
    wpAny (Mm C) A (call (.ref (C.fa f)) us) (OutK C L ρ σ s Q) Fls s := by
  have hi := distinct_inj hd
  rw [l1] at hi
  have Rc := frame R K hr hi
  have lt : ∀ j, j < cs.length → at0 μ j < σ.objs.length := fun j hj => by
    obtain ⟨o', e⟩ := nth_some hj
    obtain ⟨o, e1, _⟩ := hr j o' e
    exact nth_lt e1
  have hv' : VRs C (fun i => ρ (at0 μ i)) cs.length as0 us := by
    have := hv.ren (k := cs.length) (g := fun i => i) (ρ' := fun i => ρ (at0 μ i)) (N' := cs.length) hrefs fun j hj => ⟨rfl, hj⟩
    have e : as0.map (mapV fun i => i) = as0 := by
      have : (mapV fun l => l) = id := funext fun v => by cases v <;> rfl
      rw [this]; simp
    rwa [e] at this
  refine wpAny_mono ((snd X HK n).call (s := s) hrun rm Rc hv') (fun u s' x => ?_) fun _ _ e => e
  obtain ⟨⟨v, ρ', σ', h', tk, rfl, p, hr', hg⟩, hns⟩ := x
  obtain ⟨kp, cs', μ', a1, a2, a3, a4, a5, a6, a7, a8⟩ := fin v σ' hg
  obtain ⟨ρ'', P⟩ := renew_back (kp := kp) R a2 hr hd l1 a3 a4 p hns a5 a6 a7
  exact ⟨⟨v, ρ'', _, h', tk, rfl, P, hr'.flat1 a1, a8⟩, hns⟩

noncomputable def kpW (kl : Bool) (i : Nat) : Bool := match Nat.beq i 0 with
  | true => true
  | false => match kl with
    | true => Nat.beq i 5
    | false => false
noncomputable def wHook (kl : Bool) (spec : PW → List V → (V → PW → Prop) → Prop) : Hook := fun vs σ Q => match vs with
  | .ref l :: as => (match rdW σ.objs l with
    | some (w, μ) => (match distinct μ, as.all nonref with
      | true, true => Lens w ∧ spec w as fun v w' => Q v { σ with objs := renew (kpW kl) σ.objs μ (cs16 w') }
      | _, _ => False)
    | none => False)
  | _ => False
/-- what is read of the world in the end, all labels apart, the line's label kept where asked for -/
noncomputable def chk (kl : Bool) (o : Option (PW × List Nat)) : Option PW := match o with
  | some (w, μ) => (match distinct μ, (match kl with | true => Nat.beq (at0 μ 5) 5 | false => true) with
    | true, true => some w
    | _, _ => none)
  | none => none
theorem chk_some {kl : Bool} {o : Option (PW × List Nat)} {w : PW} (h : chk kl o = some w) : ∃ μ, o = some (w, μ) ∧ distinct μ = true ∧ (kl = true → at0 μ 5 = 5) := by
  unfold chk at h
  split at h
  · rename_i w' μ
    split at h
    · rename_i e1 e2
      cases h
      exact ⟨μ, rfl, e1, fun e => by subst e; exact Nat.eq_of_beq_eq_true e2⟩
    · cases h
  · cases h
noncomputable def Runs (H : Nat → Option Hook) (n f : Nat) (kl : Bool) (spec : PW → List V → (V → PW → Prop) → Prop) : Prop :=
  ∀ (w : PW) (as : List V) (Q' : V → PW → Prop) (fd : FD), Lens w → as.all nonref = true → spec w as Q' →
    (run H n).call f (.ref 0 :: as) { objs := cs16 w, lc := [], fd := fd } fun v σ' => nonref v = true ∧ ∃ w', chk kl (rdW σ'.objs 0) = some w' ∧ Lens w' ∧ Q' v w'

theorem wHook_ok (X : Facts C) {H : Nat → Option Hook} {m n f : Nat} (HK : HookOk C H m) {kl : Bool} {spec : PW → List V → (V → PW → Prop) → Prop} (hr : Runs H n f kl spec) {vs : List V} {us : List Value} {Q : KV} (h : wHook kl spec vs σ Q) (rm : Room (n + m) A) (R : Rep C L ρ σ s.heap)
    (hv : VRs C ρ σ.objs.length vs us) : wpAny (Mm C) A (call (.ref (C.fa f)) us) (OutK C L ρ σ s Q) Fls s := by
  unfold wHook at h
  split at h
  · rename_i l as
    split at h
    · rename_i w μ ew
      split at h
      · rename_i e1 e2
        obtain ⟨hl, hs⟩ := h
        obtain ⟨l1, l2, ro⟩ := rdW_roles ew hl
        have flat : as.map (mapV (at0 μ)) = as := by
          have : ∀ a ∈ as, mapV (at0 μ) a = a := fun a ha => by
            have := List.all_eq_true.mp e2 a ha
            cases a <;> first | rfl | cases this
          exact (List.map_congr_left this).trans (List.map_id _)
        refine call_frame X HK R (cs16_ok w) ro e1 (by rw [l1]; rfl) rm (as0 := .ref 0 :: as) ?_ ?_ (hr w as _ σ.fd hl e2 hs) ?_
        · show VRs C ρ σ.objs.length (.ref (at0 μ 0) :: as.map (mapV (at0 μ))) us
          rw [flat, l2]; exact hv
        · intro a ha
          rcases List.mem_cons.mp ha with rfl | ha
          · show 0 < 16; omega
          · have := List.all_eq_true.mp e2 a ha
            cases a <;> first | trivial | cases this
        · rintro v σ' ⟨hn, w', hc, hl', hq⟩
          obtain ⟨μ', b1, b2, b3⟩ := chk_some hc
          obtain ⟨c1, c2, c3⟩ := rdW_roles b1 hl'
          refine ⟨kpW kl, cs16 w', μ', hn, cs16_ok w', rfl, by rw [c1]; rfl, c3, b2, fun i _ hk => ?_, hq⟩
          unfold kpW at hk
          split at hk
          · rename_i e0; rw [Nat.eq_of_beq_eq_true e0]; exact c2
          · cases kl with
            | true => rw [Nat.eq_of_beq_eq_true hk]; exact b3 rfl
            | false => cases hk
      · exact h.elim
    · exact h.elim
  · exact h.elim
end
end Mine
namespace Mine
open PySem

inductive Op where
  | clear (k : Nat) | set (k : Nat) | release | say (k : Nat) | close
noncomputable def opDo : Op → EN × EN → EN × EN
  | .clear k, (m, o) => ({ m with ti := delK m.ti k }, o)
  | .set k, (m, o) => ({ m with ti := addK m.ti k }, o)
  | .release, (m, o) => ({ m with ti := filt [10, 12] m.ti }, o)
  | .say k, (m, o) => ({ m with said := m.said ++ [k] }, match o.held with | true => { o with way := o.way ++ [k] } | false => o)
  | .close, (m, o) => ({ m with held := false, way := [] }, o)
noncomputable def opsDo : List Op → EN × EN → EN × EN
  | [], p => p
  | a :: r, p => opsDo r (opDo a p)
noncomputable def sEnd (note more damp : Bool) : Nat × List Op :=
  (0, (match note with | true => [Op.say 9] | false => []) ++ [.clear 10, .release, .close] ++ (match more, damp with | true, true => [Op.set 12] | _, _ => []))
noncomputable def kw (hp : Bool) (k : Nat) : Op := match hp with | true => .set k | false => .clear k
noncomputable def onHp (hp : Bool) (k : Nat) : List Op := match hp with | true => [.set k] | false => []
/-- what becomes of an end by an event -/
noncomputable def tab (st ev : Nat) (hp damp : Bool) : Option (Nat × List Op) := match st, ev with
  | 0, 15 => some (1, [.set 10])
  | 0, 16 => some (2, [.set 10])
  | 0, 19 => some (0, [])
  | 0, 20 => some (0, [])
  | 0, 23 => some (match damp with | true => (1, [.set 10]) | false => (0, []))
  | 1, 15 => some (1, [])
  | 1, 16 => some (1, [])
  | 1, 17 => some (3, [.clear 10, .clear 13, .say 6, .set 11])
  | 1, 19 => some (sEnd false false damp)
  | 1, 20 => some (sEnd false true damp)
  | 1, 22 => some (1, [.close, .set 10, .clear 13])
  | 2, 15 => some (2, [])
  | 2, 16 => some (2, [])
  | 2, 17 => some (3, [.clear 10, .clear 13, .say 6, .set 11])
  | 2, 19 => some (sEnd false false damp)
  | 2, 20 => some (sEnd false true damp)
  | 2, 22 => some (1, [.set 10])
  | 3, 15 => some (3, [])
  | 3, 16 => some (3, [])
  | 3, 18 => some (2, [.close, .clear 11, .set 10])
  | 3, 19 => some (sEnd true false damp)
  | 3, 20 => some (sEnd true true damp)
  | 3, 21 => some (sEnd true true damp)
  | 3, 6 => some (4, [.clear 10, .clear 13, .say 7, kw hp 7, kw hp 11])
  | 4, 15 => some (4, [])
  | 4, 16 => some (4, [])
  | 4, 18 => some (sEnd false true damp)
  | 4, 19 => some (sEnd true false damp)
  | 4, 20 => some (sEnd true true damp)
  | 4, 21 => some (sEnd true true damp)
  | 4, 24 => some (4, .say 7 :: onHp hp 7)
  | 4, 7 => some (5, onHp hp 11)
  | 4, 9 => some (sEnd false true damp)
  | 5, 15 => some (5, [])
  | 5, 16 => some (5, [])
  | 5, 18 => some (sEnd false true damp)
  | 5, 19 => some (sEnd true false damp)
  | 5, 20 => some (sEnd true true damp)
  | 5, 21 => some (sEnd true true damp)
  | 5, 24 => some (5, .say 7 :: onHp hp 7)
  | 5, 7 => some (5, onHp hp 11)
  | 5, 9 => some (sEnd false true damp)
  | 5, 8 => some (5, onHp hp 11)
  | _, _ => none
noncomputable def heldOf (st : Nat) : Bool := match st with
  | 3 => true
  | 4 => true
  | 5 => true
  | _ => false
noncomputable def heldIn (st ev : Nat) : Bool := match ev with
  | 17 => true
  | _ => heldOf st
noncomputable def me (w : PW) (e : Nat) : EN := match e with | 0 => w.a | _ => w.b
noncomputable def ot (w : PW) (e : Nat) : EN := match e with | 0 => w.b | _ => w.a
noncomputable def mk (w : PW) (e : Nat) (p : EN × EN) : PW := match e with | 0 => { w with a := p.1, b := p.2 } | _ => { w with a := p.2, b := p.1 }
noncomputable def hpOf (i : Int) : Bool := match i with | .ofNat 0 => false | _ => true
noncomputable def enter (m : EN) (st : Nat) : EN := { m with st := st, ti := match st with | 0 => m.ti | _ => delK m.ti 12 }
noncomputable def pHap (w : PW) (e ev : Nat) : PW := match tab (me w e).st ev (hpOf w.hold) w.damp with
  | some (st, ops) => mk w e (opsDo ops (enter (me w e) st, ot w e))
  | none => w

noncomputable def wIn (e : Nat) (m o : EN) (hold : Int) (damp wo : Bool) : PW := match e with | 0 => ⟨m, o, hold, damp, wo⟩ | _ => ⟨o, m, hold, damp, wo⟩
noncomputable def hapRun (e st ev : Nat) : Prop := ∀ (fd : FD) (G : V → Option PW → Prop) (hold : Int) (damp wo oh : Bool) (ti ti' way way' said said' heard heard' : List Nat) (st' : Nat), (hold = 0 ∨ hold = 9) →
  (run noH 120).call n_happens [.ref 0, .int (.ofNat e), .sym ev] { objs := cs16 (wIn e ⟨st, ti, heldIn st ev, way, said, heard⟩ ⟨st', ti', oh, way', said', heard'⟩ hold damp wo), lc := [], fd := fd } (fun v σ' => G v (chk true (rdW σ'.objs 0))) =
    G (.bool true) (some (pHap (wIn e ⟨st, ti, heldIn st ev, way, said, heard⟩ ⟨st', ti', oh, way', said', heard'⟩ hold damp wo) e ev))
end Mine
namespace Mine
open PySem
theorem hr_0_0_15 : hapRun 0 0 15 := by
  intro fd G hold damp wo oh ti ti' way way' said said' heard heard' st' hh
  kernel_rfl!
theorem hr_0_0_16 : hapRun 0 0 16 := by
  intro fd G hold damp wo oh ti ti' way way' said said' heard heard' st' hh
  kernel_rfl!
theorem hr_0_0_19 : hapRun 0 0 19 := by
  intro fd G hold damp wo oh ti ti' way way' said said' heard heard' st' hh
  kernel_rfl!
theorem hr_0_0_20 : hapRun 0 0 20 := by
  intro fd G hold damp wo oh ti ti' way way' said said' heard heard' st' hh
  kernel_rfl!
theorem hr_0_0_23 : hapRun 0 0 23 := by
  intro fd G hold damp wo oh ti ti' way way' said said' heard heard' st' hh
  cases damp <;> kernel_rfl!
theorem hr_0_1_15 : hapRun 0 1 15 := by
  intro fd G hold damp wo oh ti ti' way way' said said' heard heard' st' hh
  kernel_rfl!
theorem hr_0_1_16 : hapRun 0 1 16 := by
  intro fd G hold damp wo oh ti ti' way way' said said' heard heard' st' hh
  kernel_rfl!
theorem hr_0_1_17 : hapRun 0 1 17 := by
  intro fd G hold damp wo oh ti ti' way way' said said' heard heard' st' hh
  cases oh <;> kernel_rfl!
theorem hr_0_1_19 : hapRun 0 1 19 := by
  intro fd G hold damp wo oh ti ti' way way' said said' heard heard' st' hh
  kernel_rfl!
theorem hr_0_1_20 : hapRun 0 1 20 := by
  intro fd G hold damp wo oh ti ti' way way' said said' heard heard' st' hh
  cases damp <;> kernel_rfl!
theorem hr_0_1_22 : hapRun 0 1 22 := by
  intro fd G hold damp wo oh ti ti' way way' said said' heard heard' st' hh
  kernel_rfl!
theorem hr_0_2_15 : hapRun 0 2 15 := by
  intro fd G hold damp wo oh ti ti' way way' said said' heard heard' st' hh
  kernel_rfl!
theorem hr_0_2_16 : hapRun 0 2 16 := by
  intro fd G hold damp wo oh ti ti' way way' said said' heard heard' st' hh
  kernel_rfl!
theorem hr_0_2_17 : hapRun 0 2 17 := by
  intro fd G hold damp wo oh ti ti' way way' said said' heard heard' st' hh
  cases oh <;> kernel_rfl!
theorem hr_0_2_19 : hapRun 0 2 19 := by
  intro fd G hold damp wo oh ti ti' way way' said said' heard heard' st' hh
  kernel_rfl!
theorem hr_0_2_20 : hapRun 0 2 20 := by
  intro fd G hold damp wo oh ti ti' way way' said said' heard heard' st' hh
  cases damp <;> kernel_rfl!
theorem hr_0_2_22 : hapRun 0 2 22 := by
  intro fd G hold damp wo oh ti ti' way way' said said' heard heard' st' hh
  kernel_rfl!
theorem hr_0_3_15 : hapRun 0 3 15 := by
  intro fd G hold damp wo oh ti ti' way way' said said' heard heard' st' hh
  kernel_rfl!
theorem hr_0_3_16 : hapRun 0 3 16 := by
  intro fd G hold damp wo oh ti ti' way way' said said' heard heard' st' hh
  kernel_rfl!
theorem hr_0_3_18 : hapRun 0 3 18 := by
  intro fd G hold damp wo oh ti ti' way way' said said' heard heard' st' hh
  kernel_rfl!
theorem hr_0_3_19 : hapRun 0 3 19 := by
  intro fd G hold damp wo oh ti ti' way way' said said' heard heard' st' hh
  cases oh <;> kernel_rfl!
theorem hr_0_3_20 : hapRun 0 3 20 := by
  intro fd G hold damp wo oh ti ti' way way' said said' heard heard' st' hh
  cases damp <;> cases oh <;> kernel_rfl!
theorem hr_0_3_21 : hapRun 0 3 21 := by
  intro fd G hold damp wo oh ti ti' way way' said said' heard heard' st' hh
  cases damp <;> cases oh <;> kernel_rfl!
theorem hr_0_3_6 : hapRun 0 3 6 := by
  intro fd G hold damp wo oh ti ti' way way' said said' heard heard' st' hh
  rcases hh with rfl | rfl <;> cases oh <;> kernel_rfl!
theorem hr_0_4_15 : hapRun 0 4 15 := by
  intro fd G hold damp wo oh ti ti' way way' said said' heard heard' st' hh
  kernel_rfl!
theorem hr_0_4_16 : hapRun 0 4 16 := by
  intro fd G hold damp wo oh ti ti' way way' said said' heard heard' st' hh
  kernel_rfl!
theorem hr_0_4_18 : hapRun 0 4 18 := by
  intro fd G hold damp wo oh ti ti' way way' said said' heard heard' st' hh
  cases damp <;> kernel_rfl!
theorem hr_0_4_19 : hapRun 0 4 19 := by
  intro fd G hold damp wo oh ti ti' way way' said said' heard heard' st' hh
  cases oh <;> kernel_rfl!
theorem hr_0_4_20 : hapRun 0 4 20 := by
  intro fd G hold damp wo oh ti ti' way way' said said' heard heard' st' hh
  cases damp <;> cases oh <;> kernel_rfl!
theorem hr_0_4_21 : hapRun 0 4 21 := by
  intro fd G hold damp wo oh ti ti' way way' said said' heard heard' st' hh
  cases damp <;> cases oh <;> kernel_rfl!
theorem hr_0_4_24 : hapRun 0 4 24 := by
  intro fd G hold damp wo oh ti ti' way way' said said' heard heard' st' hh
  rcases hh with rfl | rfl <;> cases oh <;> kernel_rfl!
theorem hr_0_4_7 : hapRun 0 4 7 := by
  intro fd G hold damp wo oh ti ti' way way' said said' heard heard' st' hh
  rcases hh with rfl | rfl <;> kernel_rfl!
theorem hr_0_4_9 : hapRun 0 4 9 := by
  intro fd G hold damp wo oh ti ti' way way' said said' heard heard' st' hh
  cases damp <;> kernel_rfl!
theorem hr_0_5_15 : hapRun 0 5 15 := by
  intro fd G hold damp wo oh ti ti' way way' said said' heard heard' st' hh
  kernel_rfl!
theorem hr_0_5_16 : hapRun 0 5 16 := by
  intro fd G hold damp wo oh ti ti' way way' said said' heard heard' st' hh
  kernel_rfl!
theorem hr_0_5_18 : hapRun 0 5 18 := by
  intro fd G hold damp wo oh ti ti' way way' said said' heard heard' st' hh
  cases damp <;> kernel_rfl!
theorem hr_0_5_19 : hapRun 0 5 19 := by
  intro fd G hold damp wo oh ti ti' way way' said said' heard heard' st' hh
  cases oh <;> kernel_rfl!
theorem hr_0_5_20 : hapRun 0 5 20 := by
  intro fd G hold damp wo oh ti ti' way way' said said' heard heard' st' hh
  cases damp <;> cases oh <;> kernel_rfl!
theorem hr_0_5_21 : hapRun 0 5 21 := by
  intro fd G hold damp wo oh ti ti' way way' said said' heard heard' st' hh
  cases damp <;> cases oh <;> kernel_rfl!
theorem hr_0_5_24 : hapRun 0 5 24 := by
  intro fd G hold damp wo oh ti ti' way way' said said' heard heard' st' hh
  rcases hh with rfl | rfl <;> cases oh <;> kernel_rfl!
theorem hr_0_5_7 : hapRun 0 5 7 := by
  intro fd G hold damp wo oh ti ti' way way' said said' heard heard' st' hh
  rcases hh with rfl | rfl <;> kernel_rfl!
theorem hr_0_5_9 : hapRun 0 5 9 := by
  intro fd G hold damp wo oh ti ti' way way' said said' heard heard' st' hh
  cases damp <;> kernel_rfl!
theorem hr_0_5_8 : hapRun 0 5 8 := by
  intro fd G hold damp wo oh ti ti' way way' said said' heard heard' st' hh
  rcases hh with rfl | rfl <;> kernel_rfl!
theorem hr_1_0_15 : hapRun 1 0 15 := by
  intro fd G hold damp wo oh ti ti' way way' said said' heard heard' st' hh
  kernel_rfl!
theorem hr_1_0_16 : hapRun 1 0 16 := by
  intro fd G hold damp wo oh ti ti' way way' said said' heard heard' st' hh
  kernel_rfl!
theorem hr_1_0_19 : hapRun 1 0 19 := by
  intro fd G hold damp wo oh ti ti' way way' said said' heard heard' st' hh
  kernel_rfl!
theorem hr_1_0_20 : hapRun 1 0 20 := by
  intro fd G hold damp wo oh ti ti' way way' said said' heard heard' st' hh
  kernel_rfl!
theorem hr_1_0_23 : hapRun 1 0 23 := by
  intro fd G hold damp wo oh ti ti' way way' said said' heard heard' st' hh
  cases damp <;> kernel_rfl!
theorem hr_1_1_15 : hapRun 1 1 15 := by
  intro fd G hold damp wo oh ti ti' way way' said said' heard heard' st' hh
  kernel_rfl!
theorem hr_1_1_16 : hapRun 1 1 16 := by
  intro fd G hold damp wo oh ti ti' way way' said said' heard heard' st' hh
  kernel_rfl!
theorem hr_1_1_17 : hapRun 1 1 17 := by
  intro fd G hold damp wo oh ti ti' way way' said said' heard heard' st' hh
  cases oh <;> kernel_rfl!
theorem hr_1_1_19 : hapRun 1 1 19 := by
  intro fd G hold damp wo oh ti ti' way way' said said' heard heard' st' hh
  kernel_rfl!
theorem hr_1_1_20 : hapRun 1 1 20 := by
  intro fd G hold damp wo oh ti ti' way way' said said' heard heard' st' hh
  cases damp <;> kernel_rfl!
theorem hr_1_1_22 : hapRun 1 1 22 := by
  intro fd G hold damp wo oh ti ti' way way' said said' heard heard' st' hh
  kernel_rfl!
theorem hr_1_2_15 : hapRun 1 2 15 := by
  intro fd G hold damp wo oh ti ti' way way' said said' heard heard' st' hh
  kernel_rfl!
theorem hr_1_2_16 : hapRun 1 2 16 := by
  intro fd G hold damp wo oh ti ti' way way' said said' heard heard' st' hh
  kernel_rfl!
theorem hr_1_2_17 : hapRun 1 2 17 := by
  intro fd G hold damp wo oh ti ti' way way' said said' heard heard' st' hh
  cases oh <;> kernel_rfl!
theorem hr_1_2_19 : hapRun 1 2 19 := by
  intro fd G hold damp wo oh ti ti' way way' said said' heard heard' st' hh
  kernel_rfl!
theorem hr_1_2_20 : hapRun 1 2 20 := by
  intro fd G hold damp wo oh ti ti' way way' said said' heard heard' st' hh
  cases damp <;> kernel_rfl!
theorem hr_1_2_22 : hapRun 1 2 22 := by
  intro fd G hold damp wo oh ti ti' way way' said said' heard heard' st' hh
  kernel_rfl!
theorem hr_1_3_15 : hapRun 1 3 15 := by
  intro fd G hold damp wo oh ti ti' way way' said said' heard heard' st' hh
  kernel_rfl!
theorem hr_1_3_16 : hapRun 1 3 16 := by
  intro fd G hold damp wo oh ti ti' way way' said said' heard heard' st' hh
  kernel_rfl!
theorem hr_1_3_18 : hapRun 1 3 18 := by
  intro fd G hold damp wo oh ti ti' way way' said said' heard heard' st' hh
  kernel_rfl!
theorem hr_1_3_19 : hapRun 1 3 19 := by
  intro fd G hold damp wo oh ti ti' way way' said said' heard heard' st' hh
  cases oh <;> kernel_rfl!
theorem hr_1_3_20 : hapRun 1 3 20 := by
  intro fd G hold damp wo oh ti ti' way way' said said' heard heard' st' hh
  cases damp <;> cases oh <;> kernel_rfl!
theorem hr_1_3_21 : hapRun 1 3 21 := by
  intro fd G hold damp wo oh ti ti' way way' said said' heard heard' st' hh
  cases damp <;> cases oh <;> kernel_rfl!
theorem hr_1_3_6 : hapRun 1 3 6 := by
  intro fd G hold damp wo oh ti ti' way way' said said' heard heard' st' hh
  rcases hh with rfl | rfl <;> cases oh <;> kernel_rfl!
theorem hr_1_4_15 : hapRun 1 4 15 := by
  intro fd G hold damp wo oh ti ti' way way' said said' heard heard' st' hh
  kernel_rfl!
theorem hr_1_4_16 : hapRun 1 4 16 := by
  intro fd G hold damp wo oh ti ti' way way' said said' heard heard' st' hh
  kernel_rfl!
theorem hr_1_4_18 : hapRun 1 4 18 := by
  intro fd G hold damp wo oh ti ti' way way' said said' heard heard' st' hh
  cases damp <;> kernel_rfl!
theorem hr_1_4_19 : hapRun 1 4 19 := by
  intro fd G hold damp wo oh ti ti' way way' said said' heard heard' st' hh
  cases oh <;> kernel_rfl!
theorem hr_1_4_20 : hapRun 1 4 20 := by
  intro fd G hold damp wo oh ti ti' way way' said said' heard heard' st' hh
  cases damp <;> cases oh <;> kernel_rfl!
theorem hr_1_4_21 : hapRun 1 4 21 := by
  intro fd G hold damp wo oh ti ti' way way' said said' heard heard' st' hh
  cases damp <;> cases oh <;> kernel_rfl!
theorem hr_1_4_24 : hapRun 1 4 24 := by
  intro fd G hold damp wo oh ti ti' way way' said said' heard heard' st' hh
  rcases hh with rfl | rfl <;> cases oh <;> kernel_rfl!
theorem hr_1_4_7 : hapRun 1 4 7 := by
  intro fd G hold damp wo oh ti ti' way way' said said' heard heard' st' hh
  rcases hh with rfl | rfl <;> kernel_rfl!
theorem hr_1_4_9 : hapRun 1 4 9 := by
  intro fd G hold damp wo oh ti ti' way way' said said' heard heard' st' hh
  cases damp <;> kernel_rfl!
theorem hr_1_5_15 : hapRun 1 5 15 := by
  intro fd G hold damp wo oh ti ti' way way' said said' heard heard' st' hh
  kernel_rfl!
theorem hr_1_5_16 : hapRun 1 5 16 := by
  intro fd G hold damp wo oh ti ti' way way' said said' heard heard' st' hh
  kernel_rfl!
theorem hr_1_5_18 : hapRun 1 5 18 := by
  intro fd G hold damp wo oh ti ti' way way' said said' heard heard' st' hh
  cases damp <;> kernel_rfl!
theorem hr_1_5_19 : hapRun 1 5 19 := by
  intro fd G hold damp wo oh ti ti' way way' said said' heard heard' st' hh
  cases oh <;> kernel_rfl!
theorem hr_1_5_20 : hapRun 1 5 20 := by
  intro fd G hold damp wo oh ti ti' way way' said said' heard heard' st' hh
  cases damp <;> cases oh <;> kernel_rfl!
theorem hr_1_5_21 : hapRun 1 5 21 := by
  intro fd G hold damp wo oh ti ti' way way' said said' heard heard' st' hh
  cases damp <;> cases oh <;> kernel_rfl!
theorem hr_1_5_24 : hapRun 1 5 24 := by
  intro fd G hold damp wo oh ti ti' way way' said said' heard heard' st' hh
  rcases hh with rfl | rfl <;> cases oh <;> kernel_rfl!
theorem hr_1_5_7 : hapRun 1 5 7 := by
  intro fd G hold damp wo oh ti ti' way way' said said' heard heard' st' hh
  rcases hh with rfl | rfl <;> kernel_rfl!
theorem hr_1_5_9 : hapRun 1 5 9 := by
  intro fd G hold damp wo oh ti ti' way way' said said' heard heard' st' hh
  cases damp <;> kernel_rfl!
theorem hr_1_5_8 : hapRun 1 5 8 := by
  intro fd G hold damp wo oh ti ti' way way' said said' heard heard' st' hh
  rcases hh with rfl | rfl <;> kernel_rfl!
noncomputable def pairs : List (Nat × Nat) := [(0, 15), (0, 16), (0, 19), (0, 20), (0, 23), (1, 15), (1, 16), (1, 17), (1, 19), (1, 20), (1, 22), (2, 15), (2, 16), (2, 17), (2, 19), (2, 20), (2, 22), (3, 15), (3, 16), (3, 18), (3, 19), (3, 20), (3, 21), (3, 6), (4, 15), (4, 16), (4, 18), (4, 19), (4, 20), (4, 21), (4, 24), (4, 7), (4, 9), (5, 15), (5, 16), (5, 18), (5, 19), (5, 20), (5, 21), (5, 24), (5, 7), (5, 9), (5, 8)]
theorem hap_all {e st ev : Nat} (he : e = 0 ∨ e = 1) (h : (st, ev) ∈ pairs) : hapRun e st ev := by
  simp only [pairs, List.mem_cons, Prod.mk.injEq, List.not_mem_nil, or_false] at h
  rcases he with rfl | rfl
  · rcases h with ⟨rfl, rfl⟩ | ⟨rfl, rfl⟩ | ⟨rfl, rfl⟩ | ⟨rfl, rfl⟩ | ⟨rfl, rfl⟩ | ⟨rfl, rfl⟩ | ⟨rfl, rfl⟩ | ⟨rfl, rfl⟩ | ⟨rfl, rfl⟩ | ⟨rfl, rfl⟩ | ⟨rfl, rfl⟩ | ⟨rfl, rfl⟩ | ⟨rfl, rfl⟩ | ⟨rfl, rfl⟩ | ⟨rfl, rfl⟩ | ⟨rfl, rfl⟩ | ⟨rfl, rfl⟩ | ⟨rfl, rfl⟩ | ⟨rfl, rfl⟩ | ⟨rfl, rfl⟩ | ⟨rfl, rfl⟩ | ⟨rfl, rfl⟩ | ⟨rfl, rfl⟩ | ⟨rfl, rfl⟩ | ⟨rfl, rfl⟩ | ⟨rfl, rfl⟩ | ⟨rfl, rfl⟩ | ⟨rfl, rfl⟩ | ⟨rfl, rfl⟩ | ⟨rfl, rfl⟩ | ⟨rfl, rfl⟩ | ⟨rfl, rfl⟩ | ⟨rfl, rfl⟩ | ⟨rfl, rfl⟩ | ⟨rfl, rfl⟩ | ⟨rfl, rfl⟩ | ⟨rfl, rfl⟩ | ⟨rfl, rfl⟩ | ⟨rfl, rfl⟩ | ⟨rfl, rfl⟩ | ⟨rfl, rfl⟩ | ⟨rfl, rfl⟩ | ⟨rfl, rfl⟩
    · exact hr_0_0_15
    · exact hr_0_0_16
    · exact hr_0_0_19
    · exact hr_0_0_20
    · exact hr_0_0_23
    · exact hr_0_1_15
    · exact hr_0_1_16
    · exact hr_0_1_17
    · exact hr_0_1_19
    · exact hr_0_1_20
    · exact hr_0_1_22
    · exact hr_0_2_15
    · exact hr_0_2_16
    · exact hr_0_2_17
    · exact hr_0_2_19
    · exact hr_0_2_20
    · exact hr_0_2_22
    · exact hr_0_3_15
    · exact hr_0_3_16
    · exact hr_0_3_18
    · exact hr_0_3_19
    · exact hr_0_3_20
    · exact hr_0_3_21
    · exact hr_0_3_6
    · exact hr_0_4_15
    · exact hr_0_4_16
    · exact hr_0_4_18
    · exact hr_0_4_19
    · exact hr_0_4_20
    · exact hr_0_4_21
    · exact hr_0_4_24
    · exact hr_0_4_7
    · exact hr_0_4_9
    · exact hr_0_5_15
    · exact hr_0_5_16
    · exact hr_0_5_18
    · exact hr_0_5_19
    · exact hr_0_5_20
    · exact hr_0_5_21
    · exact hr_0_5_24
    · exact hr_0_5_7
    · exact hr_0_5_9
    · exact hr_0_5_8
  · rcases h with ⟨rfl, rfl⟩ | ⟨rfl, rfl⟩ | ⟨rfl, rfl⟩ | ⟨rfl, rfl⟩ | ⟨rfl, rfl⟩ | ⟨rfl, rfl⟩ | ⟨rfl, rfl⟩ | ⟨rfl, rfl⟩ | ⟨rfl, rfl⟩ | ⟨rfl, rfl⟩ | ⟨rfl, rfl⟩ | ⟨rfl, rfl⟩ | ⟨rfl, rfl⟩ | ⟨rfl, rfl⟩ | ⟨rfl, rfl⟩ | ⟨rfl, rfl⟩ | ⟨rfl, rfl⟩ | ⟨rfl, rfl⟩ | ⟨rfl, rfl⟩ | ⟨rfl, rfl⟩ | ⟨rfl, rfl⟩ | ⟨rfl, rfl⟩ | ⟨rfl, rfl⟩ | ⟨rfl, rfl⟩ | ⟨rfl, rfl⟩ | ⟨rfl, rfl⟩ | ⟨rfl, rfl⟩ | ⟨rfl, rfl⟩ | ⟨rfl, rfl⟩ | ⟨rfl, rfl⟩ | ⟨rfl, rfl⟩ | ⟨rfl, rfl⟩ | ⟨rfl, rfl⟩ | ⟨rfl, rfl⟩ | ⟨rfl, rfl⟩ | ⟨rfl, rfl⟩ | ⟨rfl, rfl⟩ | ⟨rfl, rfl⟩ | ⟨rfl, rfl⟩ | ⟨rfl, rfl⟩ | ⟨rfl, rfl⟩ | ⟨rfl, rfl⟩ | ⟨rfl, rfl⟩
    · exact hr_1_0_15
    · exact hr_1_0_16
    · exact hr_1_0_19
    · exact hr_1_0_20
    · exact hr_1_0_23
    · exact hr_1_1_15
    · exact hr_1_1_16
    · exact hr_1_1_17
    · exact hr_1_1_19
    · exact hr_1_1_20
    · exact hr_1_1_22
    · exact hr_1_2_15
    · exact hr_1_2_16
    · exact hr_1_2_17
    · exact hr_1_2_19
    · exact hr_1_2_20
    · exact hr_1_2_22
    · exact hr_1_3_15
    · exact hr_1_3_16
    · exact hr_1_3_18
    · exact hr_1_3_19
    · exact hr_1_3_20
    · exact hr_1_3_21
    · exact hr_1_3_6
    · exact hr_1_4_15
    · exact hr_1_4_16
    · exact hr_1_4_18
    · exact hr_1_4_19
    · exact hr_1_4_20
    · exact hr_1_4_21
    · exact hr_1_4_24
    · exact hr_1_4_7
    · exact hr_1_4_9
    · exact hr_1_5_15
    · exact hr_1_5_16
    · exact hr_1_5_18
    · exact hr_1_5_19
    · exact hr_1_5_20
    · exact hr_1_5_21
    · exact hr_1_5_24
    · exact hr_1_5_7
    · exact hr_1_5_9
    · exact hr_1_5_8
end Mine
namespace Mine
open PySem

structure PreH (w : PW) (e ev : Nat) : Prop where
  he : e = 0 ∨ e = 1
  pair : ((me w e).st, ev) ∈ pairs
  held : (me w e).held = heldIn (me w e).st ev
  hold : w.hold = 0 ∨ w.hold = 9
  lens : Lens (pHap w e ev)
noncomputable def specHap (w : PW) (as : List V) (Q : V → PW → Prop) : Prop := match as with
  | [.int (.ofNat e), .sym ev] => PreH w e ev ∧ Q (.bool true) (pHap w e ev)
  | _ => False
theorem specHap_of {w : PW} {as : List V} {Q : V → PW → Prop} (h : specHap w as Q) : ∃ e ev, as = [.int (.ofNat e), .sym ev] ∧ PreH w e ev ∧ Q (.bool true) (pHap w e ev) := by
  unfold specHap at h
  split at h
  · exact ⟨_, _, rfl, h.1, h.2⟩
  · exact h.elim
theorem wIn_me (w : PW) {e : Nat} (he : e = 0 ∨ e = 1) : wIn e (me w e) (ot w e) w.hold w.damp w.wo = w := by
  rcases he with rfl | rfl <;> rfl
theorem hap_runs : Runs noH 120 n_happens true specHap := by
  intro w as Q' fd hl hn hs
  obtain ⟨e, ev, rfl, pre, hq⟩ := specHap_of hs
  have hr := hap_all pre.he pre.pair fd (fun v o => nonref v = true ∧ ∃ w', o = some w' ∧ Lens w' ∧ Q' v w') w.hold w.damp w.wo (ot w e).held (me w e).ti (ot w e).ti (me w e).way (ot w e).way (me w e).said (ot w e).said (me w e).heard (ot w e).heard (ot w e).st pre.hold
  have e1 : (⟨(me w e).st, (me w e).ti, heldIn (me w e).st ev, (me w e).way, (me w e).said, (me w e).heard⟩ : EN) = me w e := by rw [← pre.held]
  rw [e1, show (⟨(ot w e).st, (ot w e).ti, (ot w e).held, (ot w e).way, (ot w e).said, (ot w e).heard⟩ : EN) = ot w e from rfl, wIn_me w pre.he] at hr
  show (run noH 120).call n_happens [.ref 0, .int (.ofNat e), .sym ev] _ (fun v σ' => nonref v = true ∧ ∃ w', chk true (rdW σ'.objs 0) = some w' ∧ Lens w' ∧ Q' v w')
  rw [show ((run noH 120).call n_happens [.ref 0, .int (.ofNat e), .sym ev] { objs := cs16 w, lc := [], fd := fd } fun v σ' => nonref v = true ∧ ∃ w', chk true (rdW σ'.objs 0) = some w' ∧ Lens w' ∧ Q' v w') = _ from hr]
  exact ⟨rfl, _, rfl, pre.lens, hq⟩
end Mine
namespace Mine
open PySem
noncomputable def csB (spot : Int) (xs : List Int) : List O := [.list [.ref 1, .int spot], .nums xs]
noncomputable def drawR (spot k : Nat) (xs : List Int) (G : V → List O → Prop) : Prop := match Nat.blt spot xs.length with
  | true => spot < xs.length ∧ ∀ i : Int, G (.int ((if i < 0 then -i else i).fmod (.ofNat (k + 1)))) (csB (Int.ofNat spot + 1) xs)
  | false => (fits 7 = true ∧ fits (.ofNat spot) = true) ∧ ((fits (.ofNat spot) = true ∧ fits (.ofNat spot) = true) ∧
      G (.int ((7 * Int.ofNat spot + (Int.ofNat spot * Int.ofNat spot).fdiv (.ofNat 5) + 3).fmod (.ofNat (k + 1)))) (csB (Int.ofNat spot + 1) xs))
theorem draw_run (spot k : Nat) (xs : List Int) (fd : FD) (G : V → List O → Prop) :
    (run noH 60).call n_draw [.ref 0, .int (.ofNat (k + 1))] { objs := csB (.ofNat spot) xs, lc := [], fd := fd } (fun v σ' => G v σ'.objs) = drawR spot k xs G := by kernel_rfl!
theorem draw_ok {spot k : Nat} {xs : List Int} {G : V → List O → Prop} (hs : spot < 1000) (h : ∀ d : Nat, d < k + 1 → G (.int (.ofNat d)) (csB (.ofNat (spot + 1)) xs)) : drawR spot k xs G := by
  have pos : ∀ i : Int, ∃ d : Nat, d < k + 1 ∧ i.fmod (.ofNat (k + 1)) = .ofNat d := by
    intro i
    have h1 : 0 ≤ i.fmod (.ofNat (k + 1)) := Int.fmod_nonneg_of_pos _ (by simp only [Int.ofNat_eq_natCast]; omega)
    have h2 : i.fmod (.ofNat (k + 1)) < .ofNat (k + 1) := Int.fmod_lt_of_pos _ (by simp only [Int.ofNat_eq_natCast]; omega)
    refine ⟨(i.fmod (.ofNat (k + 1))).toNat, ?_, ?_⟩
    · simp only [Int.ofNat_eq_natCast] at h2 h1 ⊢; omega
    · simp only [Int.ofNat_eq_natCast] at h1 ⊢; omega
  have go : ∀ i : Int, G (.int (i.fmod (.ofNat (k + 1)))) (csB (Int.ofNat spot + 1) xs) := fun i => by
    obtain ⟨d, h1, h2⟩ := pos i
    rw [h2]; exact h d h1
  have hf : fits (.ofNat spot) = true := Nat.ble_eq_true_of_le (by omega)
  unfold drawR
  split
  · rename_i hd
    exact ⟨Nat.le_of_ble_eq_true hd, fun i => go _⟩
  · exact ⟨⟨rfl, hf⟩, ⟨hf, hf⟩, go _⟩
end Mine
namespace Mine
open PySem
noncomputable def H1 (f : Nat) : Option Hook := match Nat.beq f n_happens with
  | true => some (wHook true specHap)
  | false => none
noncomputable def read (m : EN) (x : Nat) (xs : List Nat) : EN := { m with way := xs, heard := m.heard ++ [x] }
noncomputable def pCom (w : PW) (e : Nat) : PW := match (me w e).held with
  | false => w
  | true => match (me w e).way with
    | [] => (match (ot w e).held with | true => w | false => pHap w e 18)
    | x :: xs => pHap (mk w e (read (me w e) x xs, ot w e)) e x
theorem com0 (w : PW) (e : Nat) (he : e = 0 ∨ e = 1) (hh : (me w e).held = false) (fd : FD) (G : V → Option PW → Prop) :
    (run H1 60).call n_comes [.ref 0, .int (.ofNat e)] { objs := cs16 w, lc := [], fd := fd } (fun v σ' => G v (chk false (rdW σ'.objs 0))) = G (.bool true) (some w) := by
  obtain ⟨⟨s, t, h, y, i, d⟩, ⟨s', t', h', y', i', d'⟩, ho, da, wo⟩ := w
  rcases he with rfl | rfl
  · have hh : h = false := hh
    subst hh; kernel_rfl!
  · have hh : h' = false := hh
    subst hh; kernel_rfl!
theorem com1 (w : PW) (e : Nat) (he : e = 0 ∨ e = 1) (hh : (me w e).held = true) (hw : (me w e).way = []) (ho : (ot w e).held = true) (fd : FD) (G : V → Option PW → Prop) :
    (run H1 60).call n_comes [.ref 0, .int (.ofNat e)] { objs := cs16 w, lc := [], fd := fd } (fun v σ' => G v (chk false (rdW σ'.objs 0))) = G (.bool true) (some w) := by
  obtain ⟨⟨s, t, h, y, i, d⟩, ⟨s', t', h', y', i', d'⟩, ho, da, wo⟩ := w
  rcases he with rfl | rfl
  · have e1 : h = true := hh
    have e2 : y = [] := hw
    have e3 : h' = true := ho
    subst e1 e2 e3; kernel_rfl!
  · have e1 : h' = true := hh
    have e2 : y' = [] := hw
    have e3 : h = true := ho
    subst e1 e2 e3; kernel_rfl!
theorem com2 (w : PW) (e : Nat) (he : e = 0 ∨ e = 1) (hh : (me w e).held = true) (hw : (me w e).way = []) (ho : (ot w e).held = false) (fd : FD) (G : V → Option PW → Prop) :
    (run H1 60).call n_comes [.ref 0, .int (.ofNat e)] { objs := cs16 w, lc := [], fd := fd } (fun v σ' => G v (chk false (rdW σ'.objs 0))) = (Lens w ∧ (PreH w e 18 ∧ G (.bool true) (some (pHap w e 18)))) := by
  obtain ⟨⟨s, t, h, y, i, d⟩, ⟨s', t', h', y', i', d'⟩, ho, da, wo⟩ := w
  rcases he with rfl | rfl
  · have e1 : h = true := hh
    have e2 : y = [] := hw
    have e3 : h' = false := ho
    subst e1 e2 e3; kernel_rfl!
  · have e1 : h' = true := hh
    have e2 : y' = [] := hw
    have e3 : h = false := ho
    subst e1 e2 e3; kernel_rfl!
theorem com3 (w : PW) (e : Nat) (he : e = 0 ∨ e = 1) (hh : (me w e).held = true) {x : Nat} {xs : List Nat} (hw : (me w e).way = x :: xs) (hx : x = 6 ∨ x = 7 ∨ x = 8) (fd : FD) (G : V → Option PW → Prop) :
    (run H1 60).call n_comes [.ref 0, .int (.ofNat e)] { objs := cs16 w, lc := [], fd := fd } (fun v σ' => G v (chk false (rdW σ'.objs 0))) =
      (Lens (mk w e (read (me w e) x xs, ot w e)) ∧ (PreH (mk w e (read (me w e) x xs, ot w e)) e x ∧ G (.bool true) (some (pHap (mk w e (read (me w e) x xs, ot w e)) e x)))) := by
  obtain ⟨⟨s, t, h, y, i, d⟩, ⟨s', t', h', y', i', d'⟩, ho, da, wo⟩ := w
  rcases he with rfl | rfl
  · have e1 : h = true := hh
    have e2 : y = x :: xs := hw
    subst e1 e2
    rcases hx with rfl | rfl | rfl <;> kernel_rfl!
  · have e1 : h' = true := hh
    have e2 : y' = x :: xs := hw
    subst e1 e2
    rcases hx with rfl | rfl | rfl <;> kernel_rfl!
theorem com4 (w : PW) (e : Nat) (he : e = 0 ∨ e = 1) (hh : (me w e).held = true) {xs : List Nat} (hw : (me w e).way = 9 :: xs) (hs : (me w e).st = 4 ∨ (me w e).st = 5) (ho : (ot w e).held = false) (fd : FD) (G : V → Option PW → Prop) :
    (run H1 60).call n_comes [.ref 0, .int (.ofNat e)] { objs := cs16 w, lc := [], fd := fd } (fun v σ' => G v (chk false (rdW σ'.objs 0))) =
      (Lens (mk w e (read (me w e) 9 xs, ot w e)) ∧ (PreH (mk w e (read (me w e) 9 xs, ot w e)) e 9 ∧ G (.bool true) (some (pHap (mk w e (read (me w e) 9 xs, ot w e)) e 9)))) := by
  obtain ⟨⟨s, t, h, y, i, d⟩, ⟨s', t', h', y', i', d'⟩, hol, da, wo⟩ := w
  rcases he with rfl | rfl
  · have e1 : h = true := hh
    have e2 : y = 9 :: xs := hw
    have e3 : h' = false := ho
    have e4 : s = 4 ∨ s = 5 := hs
    subst e1 e2 e3
    rcases e4 with rfl | rfl <;> cases da <;> kernel_rfl!
  · have e1 : h' = true := hh
    have e2 : y' = 9 :: xs := hw
    have e3 : h = false := ho
    have e4 : s' = 4 ∨ s' = 5 := hs
    subst e1 e2 e3
    rcases e4 with rfl | rfl <;> cases da <;> kernel_rfl!
end Mine
namespace Mine
open PySem
noncomputable def fresh (m : EN) : EN := { m with held := true, way := [], said := [], heard := [] }
noncomputable def freshW (w : PW) : PW := { w with a := fresh w.a, b := fresh w.b }
noncomputable def pJoin (w : PW) (e : Nat) : PW := pHap (pHap (freshW w) e 17) (1 - e) 17
theorem join1 (w : PW) (e : Nat) (he : e = 0 ∨ e = 1) (ha : w.a.st = 1 ∨ w.a.st = 2) (hb : w.b.st = 1 ∨ w.b.st = 2) (fd : FD) (G : V → Option PW → Prop) :
    (run H1 60).call n_joined [.ref 0, .int (.ofNat e)] { objs := cs16 w, lc := [], fd := fd } (fun v σ' => G v (chk false (rdW σ'.objs 0))) =
      (Lens (freshW w) ∧ (PreH (freshW w) e 17 ∧ (Lens (pHap (freshW w) e 17) ∧ (PreH (pHap (freshW w) e 17) (1 - e) 17 ∧ G (.bool true) (some (pJoin w e)))))) := by
  obtain ⟨⟨s, t, h, y, i, d⟩, ⟨s', t', h', y', i', d'⟩, ho, da, wo⟩ := w
  have ha : s = 1 ∨ s = 2 := ha
  have hb : s' = 1 ∨ s' = 2 := hb
  rcases he with rfl | rfl <;> rcases ha with rfl | rfl <;> rcases hb with rfl | rfl <;> kernel_rfl!
theorem join0 (w : PW) (e : Nat) (he : e = 0 ∨ e = 1) (hs : (w.a.st = 0 ∨ w.a.st = 3 ∨ w.a.st = 4 ∨ w.a.st = 5) ∨ (w.a.st = 1 ∨ w.a.st = 2) ∧ (w.b.st = 0 ∨ w.b.st = 3 ∨ w.b.st = 4 ∨ w.b.st = 5)) (fd : FD) (G : V → Option PW → Prop) :
    (run H1 60).call n_joined [.ref 0, .int (.ofNat e)] { objs := cs16 w, lc := [], fd := fd } (fun v σ' => G v (chk false (rdW σ'.objs 0))) = G (.bool true) (some w) := by
  obtain ⟨⟨s, t, h, y, i, d⟩, ⟨s', t', h', y', i', d'⟩, ho, da, wo⟩ := w
  have hs : (s = 0 ∨ s = 3 ∨ s = 4 ∨ s = 5) ∨ (s = 1 ∨ s = 2) ∧ (s' = 0 ∨ s' = 3 ∨ s' = 4 ∨ s' = 5) := hs
  rcases he with rfl | rfl <;> rcases hs with (rfl | rfl | rfl | rfl) | ⟨rfl | rfl, rfl | rfl | rfl | rfl⟩ <;> kernel_rfl!
/-- after a break: the ways are empty, each held end fails -/
noncomputable def cutW (w : PW) : PW := { w with a := { w.a with way := [] }, b := { w.b with way := [] } }
noncomputable def pBrk (w : PW) : PW := match w.a.held, w.b.held with
  | false, false => cutW w
  | true, false => pHap (cutW w) 0 18
  | false, true => pHap (cutW w) 1 18
  | true, true => pHap (pHap (cutW w) 0 18) 1 18
noncomputable def preBrk (w : PW) (P : Prop) : Prop := match w.a.held, w.b.held with
  | false, false => P
  | true, false => Lens (cutW w) ∧ (PreH (cutW w) 0 18 ∧ P)
  | false, true => Lens (cutW w) ∧ (PreH (cutW w) 1 18 ∧ P)
  | true, true => Lens (cutW w) ∧ (PreH (cutW w) 0 18 ∧ (Lens (pHap (cutW w) 0 18) ∧ (PreH (pHap (cutW w) 0 18) 1 18 ∧ P)))
theorem broken (w : PW) (ha : w.a.held = true → w.a.st = 3 ∨ w.a.st = 4 ∨ w.a.st = 5) (fd : FD) (G : V → Option PW → Prop) :
    (run H1 60).call n_broken [.ref 0] { objs := cs16 w, lc := [], fd := fd } (fun v σ' => G v (chk false (rdW σ'.objs 0))) = preBrk w (G (.bool true) (some (pBrk w))) := by
  obtain ⟨⟨s, t, h, y, i, d⟩, ⟨s', t', h', y', i', d'⟩, ho, da, wo⟩ := w
  have ha : h = true → s = 3 ∨ s = 4 ∨ s = 5 := ha
  cases h with
  | false => cases h' <;> kernel_rfl!
  | true => rcases ha rfl with rfl | rfl | rfl <;> cases da <;> cases h' <;> kernel_rfl!
noncomputable def begunTo (st ev : Nat) : Nat := match st with
  | 0 => (match ev with | 15 => 1 | _ => 2)
  | st => st
theorem begun (w : PW) (e ev : Nat) (he : e = 0 ∨ e = 1) (hev : ev = 15 ∨ ev = 16) (hs : (me w e).st = 0 ∨ (me w e).st = 1 ∨ (me w e).st = 2 ∨ (me w e).st = 3 ∨ (me w e).st = 4 ∨ (me w e).st = 5) (fd : FD) (G : V → Option PW → Prop) :
    (run H1 60).call n_begun [.ref 0, .int (.ofNat e), .sym ev] { objs := cs16 w, lc := [], fd := fd } (fun v σ' => G v (chk false (rdW σ'.objs 0))) =
      (Lens w ∧ (PreH w e ev ∧ G (.bool (Nat.beq (me (pHap w e ev) e).st (begunTo (me w e).st ev))) (some (pHap w e ev)))) := by
  obtain ⟨⟨s, t, h, y, i, d⟩, ⟨s', t', h', y', i', d'⟩, ho, da, wo⟩ := w
  rcases he with rfl | rfl
  · have hs : s = 0 ∨ s = 1 ∨ s = 2 ∨ s = 3 ∨ s = 4 ∨ s = 5 := hs
    rcases hev with rfl | rfl <;> rcases hs with rfl | rfl | rfl | rfl | rfl | rfl <;> kernel_rfl!
  · have hs : s' = 0 ∨ s' = 1 ∨ s' = 2 ∨ s' = 3 ∨ s' = 4 ∨ s' = 5 := hs
    rcases hev with rfl | rfl <;> rcases hs with rfl | rfl | rfl | rfl | rfl | rfl <;> kernel_rfl!
end Mine
namespace Mine
open PySem PySem.SeqAt

/-- the box: its list of numbers and the spot -/
noncomputable def rdBL : O → Option (Nat × Nat)
  | .list [.ref ls, .int (.ofNat s)] => some (ls, s)
  | _ => none
noncomputable def rdN : O → Option (List Int)
  | .nums xs => some xs
  | _ => none
noncomputable def rdB (objs : List O) (l : Nat) : Option (Nat × Nat × List Int) := match rdAt objs l rdBL with
  | none => none
  | some (ls, s) => match rdAt objs ls rdN with
    | some xs => some (ls, s, xs)
    | none => none
theorem rdBL_as {o : O} {ls s i : Nat} {μ : Nat → Nat} (h : rdBL o = some (ls, s)) (h1 : μ i = ls) : As μ o (.list [.ref i, .int (.ofNat s)]) := by
  unfold rdBL at h
  split at h
  · cases h; subst h1; exact as_same rfl rfl fun _ z => nomatch z
  · cases h
theorem rdN_as {o : O} {xs : List Int} {μ : Nat → Nat} (h : rdN o = some xs) : As μ o (.nums xs) := by
  unfold rdN at h
  split at h
  · cases h; exact as_same rfl rfl fun _ z => nomatch z
  · cases h
theorem rdB_at {objs : List O} {l ls s : Nat} {xs : List Int} (h : rdB objs l = some (ls, s, xs)) : rdAt objs l rdBL = some (ls, s) ∧ rdAt objs ls rdN = some xs := by
  unfold rdB at h
  split at h
  · cases h
  · rename_i a b e1
    split at h
    · rename_i ys e2; cases h; exact ⟨e1, e2⟩
    · cases h
theorem as_at {α : Type} {objs : List O} {l : Nat} {f : O → Option α} {x : α} {o' : O} {μ : Nat → Nat} (hx : rdAt objs l f = some x) (k : ∀ o, f o = some x → As μ o o') :
    ∃ o, nth objs l = some o ∧ live o = true ∧ (∀ xs, o ≠ .tuple xs) ∧ ∀ {C : Cx} {ρ : Nat → Addr} {N : Nat} {ob : Obj}, OR C ρ N o ob → OR C ρ N (mapO μ o') ob := by
  obtain ⟨o, h1, h2⟩ := rd_at hx
  exact ⟨o, h1, k o h2⟩
theorem rdB_roles {objs : List O} {l ls s : Nat} {xs : List Int} (h : rdB objs l = some (ls, s, xs)) : Roles objs (at0 [l, ls]) (csB (.ofNat s) xs) := by
  obtain ⟨e1, e2⟩ := rdB_at h
  intro i o' hi
  match i, hi with
  | 0, hi => cases hi; exact as_at e1 fun o h => rdBL_as h rfl
  | 1, hi => cases hi; exact as_at e2 fun o h => rdN_as h
  | i + 2, hi => cases hi
theorem csB_ok (s : Int) (xs : List Int) : CsOk (csB s xs) := by
  refine ⟨fun i o hi => ?_, fun i o hi => ?_⟩
  · show refO 2 o
    match i, hi with
    | 0, hi | 1, hi => cases hi; simp [refO, refV]
    | i + 2, hi => cases hi
  · match i, hi with
    | 0, hi | 1, hi => cases hi; rfl
    | i + 2, hi => cases hi

noncomputable def allB (f : Nat → Prop) : Nat → Prop
  | 0 => True
  | n + 1 => allB f n ∧ f n
theorem allB_at {f : Nat → Prop} : ∀ {n d : Nat}, allB f n → d < n → f d
  | 0, _, _, h => by cases h
  | n + 1, d, h, hd => by
    by_cases e : d = n
    · rw [e]; exact h.2
    · exact allB_at h.1 (by omega)
theorem allB_of {f : Nat → Prop} : ∀ {n : Nat}, (∀ d, d < n → f d) → allB f n
  | 0, _ => trivial
  | n + 1, h => ⟨allB_of fun d hd => h d (by omega), h n (by omega)⟩
noncomputable def keepAll (_ : Nat) : Bool := true
noncomputable def dHook : Hook := fun vs σ Q => match vs with
  | [.ref l, .int (.ofNat (k + 1))] => (match rdB σ.objs l with
    | some (ls, s, xs) => (match Nat.beq l ls with
      | false => s < 1000 ∧ allB (fun d => Q (.int (.ofNat d)) { σ with objs := renew keepAll σ.objs [l, ls] (csB (.ofNat (s + 1)) xs) }) (k + 1)
      | true => False)
    | none => False)
  | _ => False

section
variable {C : Cx} {L : Addr} {ρ : Nat → Addr} {σ : St} {s : Shared} {A : Around}
theorem noH_ok (C : Cx) : HookOk C noH 0 := fun _ _ e => by cases e
theorem dHook_ok (X : Facts C) {vs : List V} {us : List Value} {Q : KV} (h : dHook vs σ Q) (rm : Room 60 A) (R : Rep C L ρ σ s.heap)
    (hv : VRs C ρ σ.objs.length vs us) : wpAny (Mm C) A (call (.ref (C.fa n_draw)) us) (OutK C L ρ σ s Q) Fls s := by
  unfold dHook at h
  split at h
  · rename_i l k
    split at h
    · rename_i ls sp xs eb
      split at h
      · rename_i el
        obtain ⟨hs, hq⟩ := h
        have hd : distinct [l, ls] = true := by
          unfold distinct memN
          have : Nat.beq ls l = false := by
            cases e : Nat.beq ls l with
            | false => rfl
            | true => have := Nat.eq_of_beq_eq_true e; subst this; rw [Nat.beq_refl] at el; cases el
          rw [this]; rfl
        refine call_frame (cs := csB (.ofNat sp) xs) (μ := [l, ls]) X (noH_ok C) R (csB_ok _ _) (rdB_roles eb) hd rfl rm (as0 := [.ref 0, .int (.ofNat (k + 1))]) (n := 60)
          (G := fun v σ' => ∃ d, d < k + 1 ∧ v = .int (.ofNat d) ∧ σ'.objs = csB (.ofNat (sp + 1)) xs) hv ?_ ?_ ?_
        · intro a ha
          rcases List.mem_cons.mp ha with rfl | ha
          · show 0 < 2; omega
          · rcases List.mem_cons.mp ha with rfl | ha
            · trivial
            · cases ha
        · rw [draw_run sp k xs σ.fd fun v os => ∃ d, d < k + 1 ∧ v = .int (.ofNat d) ∧ os = csB (.ofNat (sp + 1)) xs]
          exact draw_ok hs fun d hd => ⟨d, hd, rfl, rfl⟩
        · rintro v σ' ⟨d, h1, rfl, e⟩
          refine ⟨keepAll, csB (.ofNat (sp + 1)) xs, [0, 1], rfl, csB_ok _ _, rfl, rfl, ?_, rfl, fun i hi _ => ?_, allB_at hq h1⟩
          · rw [e]; exact rdB_roles (l := 0) (ls := 1) (s := sp + 1) (xs := xs) rfl
          · match i, hi with
            | 0, _ | 1, _ => rfl
            | i + 2, hi => exact absurd hi (by show ¬ (i + 2 < 2); omega)
      · exact h.elim
    · exact h.elim
  · exact h.elim
end

/-! the world and the box together -/
noncomputable def cs18 (w : PW) (s : Nat) (xs : List Int) : List O := cs16 w ++ [.list [.ref 17, .int (.ofNat s)], .nums xs]
theorem mapO_congr {f g : Nat → Nat} {k : Nat} {o : O} (h : refO k o) (e : ∀ j, j < k → f j = g j) : mapO f o = mapO g o := by
  have hv : ∀ v, refV k v → mapV f v = mapV g v := fun v hv => by
    cases v <;> first | rfl | exact congrArg V.ref (e _ hv)
  cases o with
  | list xs => exact congrArg O.list (List.map_congr_left fun a ha => hv a (h a ha))
  | tuple xs => exact congrArg O.tuple (List.map_congr_left fun a ha => hv a (h a ha))
  | dict es => exact congrArg O.dict (List.map_congr_left fun a ha => by rw [hv a.2 (h a ha)])
  | _ => rfl
theorem at0_app : ∀ {a b : List Nat} {i : Nat}, i < a.length → at0 (a ++ b) i = at0 a i
  | [], _, _, h => by cases h
  | _ :: _, _, 0, _ => rfl
  | _ :: r, b, i + 1, h => at0_app (a := r) (Nat.lt_of_succ_lt_succ h)
theorem refO_mono {k k' : Nat} {o : O} (h : refO k o) (hk : k ≤ k') : refO k' o := by
  have hv : ∀ v, refV k v → refV k' v := fun v hv => by
    cases v <;> first | trivial | exact Nat.lt_of_lt_of_le hv hk
  cases o with
  | list xs => exact fun a ha => hv a (h a ha)
  | tuple xs => exact fun a ha => hv a (h a ha)
  | dict es => exact fun a ha => hv a.2 (h a ha)
  | _ => trivial
theorem cs18_lt {w : PW} {s : Nat} {xs : List Int} {i : Nat} {o : O} (h : nth (cs18 w s xs) i = some o) : nth (cs16 w) i = some o ∨ (i = 16 ∧ o = .list [.ref 17, .int (.ofNat s)]) ∨ (i = 17 ∧ o = .nums xs) := by
  match i, h with
  | 0, h | 1, h | 2, h | 3, h | 4, h | 5, h | 6, h | 7, h | 8, h | 9, h | 10, h | 11, h | 12, h | 13, h | 14, h | 15, h => exact .inl h
  | 16, h => cases h; exact .inr (.inl ⟨rfl, rfl⟩)
  | 17, h => cases h; exact .inr (.inr ⟨rfl, rfl⟩)
  | i + 18, h => cases h
theorem cs18_ok (w : PW) (s : Nat) (xs : List Int) : CsOk (cs18 w s xs) := by
  refine ⟨fun i o hi => ?_, fun i o hi => ?_⟩
  · show refO 18 o
    rcases cs18_lt hi with h | ⟨_, rfl⟩ | ⟨_, rfl⟩
    · exact refO_mono ((cs16_ok w).refs i o h) (by show 16 ≤ 18; omega)
    · simp [refO, refV]
    · trivial
  · rcases cs18_lt hi with h | ⟨_, rfl⟩ | ⟨_, rfl⟩
    · exact (cs16_ok w).live i o h
    · rfl
    · rfl
theorem at0_ge : ∀ {a b : List Nat} {i : Nat}, at0 (a ++ b) (a.length + i) = at0 b i
  | [], _, i => by simp
  | _ :: r, b, i => by
    show at0 (_ :: (r ++ b)) (r.length + 1 + i) = _
    rw [Nat.add_right_comm]
    exact at0_ge (a := r)
theorem at16 {μ : List Nat} {a b : Nat} (l : μ.length = 16) : at0 (μ ++ [a, b]) 16 = a := by
  have := at0_ge (a := μ) (b := [a, b]) (i := 0)
  rw [l] at this; exact this
theorem at17 {μ : List Nat} {a b : Nat} (l : μ.length = 16) : at0 (μ ++ [a, b]) 17 = b := by
  have := at0_ge (a := μ) (b := [a, b]) (i := 1)
  rw [l] at this; exact this
theorem cs18_roles {objs : List O} {lw lb ls s : Nat} {xs : List Int} {w : PW} {μ : List Nat} (h : rdW objs lw = some (w, μ)) (hl : Lens w) (hb : rdB objs lb = some (ls, s, xs)) :
    Roles objs (at0 (μ ++ [lb, ls])) (cs18 w s xs) := by
  obtain ⟨l1, l2, ro⟩ := rdW_roles h hl
  obtain ⟨e1, e2⟩ := rdB_at hb
  have t1 : at0 (μ ++ [lb, ls]) 16 = lb := at16 l1
  have t2 : at0 (μ ++ [lb, ls]) 17 = ls := at17 l1
  intro i o' hi
  rcases cs18_lt hi with h | ⟨rfl, rfl⟩ | ⟨rfl, rfl⟩
  · have hi16 : i < 16 := nth_lt h
    obtain ⟨o, a1, a2, a3, a4⟩ := ro i o' h
    have := mapO_congr (f := at0 (μ ++ [lb, ls])) (g := at0 μ) (k := 16) ((cs16_ok w).refs i o' h) fun j hj => at0_app (by rw [l1]; exact hj)
    rw [at0_app (by rw [l1]; exact hi16), this]
    exact ⟨o, a1, a2, a3, a4⟩
  · rw [t1]; exact as_at e1 fun o h => rdBL_as h t2
  · rw [t2]; exact as_at e2 fun o h => rdN_as h
/-- the labels of the world and of the box are kept -/
noncomputable def kpB (i : Nat) : Bool := match Nat.beq i 0 with
  | true => true
  | false => match Nat.beq i 16 with
    | true => true
    | false => Nat.beq i 17
abbrev SpecB := PW → Nat → List V → (V → PW → Nat → Prop) → Prop
noncomputable def bD (spec : SpecB) (vs : List V) (os : List O) (K : V → List O → Prop) : Prop := match vs with
  | .ref lb :: .ref lw :: as => (match rdW os lw, rdB os lb with
    | some (w, μ), some (ls, s, xs) => (match distinct (μ ++ [lb, ls]), as.all nonref with
      | true, true => Lens w ∧ spec w s as fun v w' s' => K v (renew kpB os (μ ++ [lb, ls]) (cs18 w' s' xs))
      | _, _ => False)
    | _, _ => False)
  | _ => False
noncomputable def oHook (D : List V → List O → (V → List O → Prop) → Prop) : Hook := fun vs σ Q => D vs σ.objs fun v os => Q v { σ with objs := os }
noncomputable def chkB (o : Option (PW × List Nat)) (b : Option (Nat × Nat × List Int)) : Option (PW × Nat × List Int) := match o, b with
  | some (w, μ), some (ls, s, xs) => (match distinct (μ ++ [16, ls]), Nat.beq ls 17 with
    | true, true => some (w, s, xs)
    | _, _ => none)
  | _, _ => none
theorem chkB_some {o : Option (PW × List Nat)} {b : Option (Nat × Nat × List Int)} {w : PW} {s : Nat} {xs : List Int} (h : chkB o b = some (w, s, xs)) : ∃ μ, o = some (w, μ) ∧ b = some (17, s, xs) ∧ distinct (μ ++ [16, 17]) = true := by
  unfold chkB at h
  split at h
  · rename_i w' μ ls s' xs'
    split at h
    · rename_i e1 e2
      cases h
      have := Nat.eq_of_beq_eq_true e2
      subst this
      exact ⟨μ, rfl, rfl, e1⟩
    · cases h
  · cases h
noncomputable def RunsB (H : Nat → Option Hook) (n f : Nat) (spec : SpecB) : Prop :=
  ∀ (w : PW) (s : Nat) (xs : List Int) (as : List V) (Q' : V → PW → Nat → Prop) (fd : FD), Lens w → as.all nonref = true → spec w s as Q' →
    (run H n).call f (.ref 16 :: .ref 0 :: as) { objs := cs18 w s xs, lc := [], fd := fd } fun v σ' => nonref v = true ∧ ∃ w' s', chkB (rdW σ'.objs 0) (rdB σ'.objs 16) = some (w', s', xs) ∧ Lens w' ∧ Q' v w' s'
section
variable {C : Cx} {L : Addr} {ρ : Nat → Addr} {σ : St} {s : Shared} {A : Around}
theorem bHook_ok (X : Facts C) {H : Nat → Option Hook} {m n f : Nat} (HK : HookOk C H m) {spec : SpecB} (hr : RunsB H n f spec) {vs : List V} {us : List Value} {Q : KV} (h : oHook (bD spec) vs σ Q) (rm : Room (n + m) A) (R : Rep C L ρ σ s.heap)
    (hv : VRs C ρ σ.objs.length vs us) : wpAny (Mm C) A (call (.ref (C.fa f)) us) (OutK C L ρ σ s Q) Fls s := by
  unfold oHook bD at h
  split at h
  · rename_i lb lw as
    split at h
    · rename_i w μ ls sp xs ew eb
      split at h
      · rename_i e1 e2
        obtain ⟨hl, hs⟩ := h
        obtain ⟨l1, l2, _⟩ := rdW_roles ew hl
        have l3 : (μ ++ [lb, ls]).length = (cs18 w sp xs).length := by rw [List.length_append, l1]; rfl
        have t0 : at0 (μ ++ [lb, ls]) 0 = lw := by rw [at0_app (by rw [l1]; omega)]; exact l2
        have t1 : at0 (μ ++ [lb, ls]) 16 = lb := at16 l1
        have flat : as.map (mapV (at0 (μ ++ [lb, ls]))) = as := by
          have : ∀ a ∈ as, mapV (at0 (μ ++ [lb, ls])) a = a := fun a ha => by
            have := List.all_eq_true.mp e2 a ha
            cases a <;> first | rfl | cases this
          exact (List.map_congr_left this).trans (List.map_id _)
        refine call_frame X HK R (cs18_ok w sp xs) (cs18_roles ew hl eb) e1 l3 rm (as0 := .ref 16 :: .ref 0 :: as) ?_ ?_ (hr w sp xs as _ σ.fd hl e2 hs) ?_
        · show VRs C ρ σ.objs.length (.ref (at0 (μ ++ [lb, ls]) 16) :: .ref (at0 (μ ++ [lb, ls]) 0) :: as.map (mapV (at0 (μ ++ [lb, ls])))) us
          rw [flat, t0, t1]; exact hv
        · intro a ha
          rcases List.mem_cons.mp ha with rfl | ha
          · show 16 < 18; omega
          · rcases List.mem_cons.mp ha with rfl | ha
            · show 0 < 18; omega
            · have := List.all_eq_true.mp e2 a ha
              cases a <;> first | trivial | cases this
        · rintro v σ' ⟨hn, w', s', hc, hl', hq⟩
          obtain ⟨μ', b1, b2, b3⟩ := chkB_some hc
          obtain ⟨c1, c2, _⟩ := rdW_roles b1 hl'
          have d3 : (μ' ++ [16, 17]).length = (cs18 w sp xs).length := by rw [List.length_append, c1]; rfl
          refine ⟨kpB, cs18 w' s' xs, μ' ++ [16, 17], hn, cs18_ok w' s' xs, rfl, d3, cs18_roles b1 hl' b2, b3, fun i _ hk => ?_, hq⟩
          unfold kpB at hk
          split at hk
          · rename_i e0; rw [Nat.eq_of_beq_eq_true e0, at0_app (by rw [c1]; omega)]; exact c2
          · split at hk
            · rename_i e0; rw [Nat.eq_of_beq_eq_true e0]; exact at16 c1
            · rw [Nat.eq_of_beq_eq_true hk]; exact at17 c1
      · exact h.elim
    · exact h.elim
  · exact h.elim
end
end Mine
namespace Mine
open PySem PySem.SeqAt

inductive PreCom (w : PW) (e : Nat) : Prop where
  | off (he : e = 0 ∨ e = 1) (hh : (me w e).held = false)
  | idle (he : e = 0 ∨ e = 1) (hh : (me w e).held = true) (hw : (me w e).way = []) (ho : (ot w e).held = true)
  | fail (he : e = 0 ∨ e = 1) (hh : (me w e).held = true) (hw : (me w e).way = []) (ho : (ot w e).held = false) (p : PreH w e 18)
  | word (he : e = 0 ∨ e = 1) (hh : (me w e).held = true) (x : Nat) (xs : List Nat) (hw : (me w e).way = x :: xs) (hx : x = 6 ∨ x = 7 ∨ x = 8) (hl : Lens (mk w e (read (me w e) x xs, ot w e))) (p : PreH (mk w e (read (me w e) x xs, ot w e)) e x)
  | note (he : e = 0 ∨ e = 1) (hh : (me w e).held = true) (xs : List Nat) (hw : (me w e).way = 9 :: xs) (hs : (me w e).st = 4 ∨ (me w e).st = 5) (ho : (ot w e).held = false) (hl : Lens (mk w e (read (me w e) 9 xs, ot w e))) (p : PreH (mk w e (read (me w e) 9 xs, ot w e)) e 9)
noncomputable def specCom (w : PW) (as : List V) (Q : V → PW → Prop) : Prop := match as with
  | [.int (.ofNat e)] => (PreCom w e ∧ Lens (pCom w e)) ∧ Q (.bool true) (pCom w e)
  | _ => False
theorem com_runs : Runs H1 60 n_comes false specCom := by
  intro w as Q' fd hl hn hs
  unfold specCom at hs
  split at hs
  · rename_i e
    obtain ⟨⟨hp, hl'⟩, hq⟩ := hs
    show (run H1 60).call n_comes [.ref 0, .int (.ofNat e)] { objs := cs16 w, lc := [], fd := fd } (fun v σ' => (fun v o => nonref v = true ∧ ∃ w', o = some w' ∧ Lens w' ∧ Q' v w') v (chk false (rdW σ'.objs 0)))
    cases hp with
    | off he hh =>
      rw [com0 w e he hh fd fun v o => nonref v = true ∧ ∃ w', o = some w' ∧ Lens w' ∧ Q' v w']
      have : pCom w e = w := by unfold pCom; rw [hh]
      rw [this] at hq
      exact ⟨rfl, w, rfl, hl, hq⟩
    | idle he hh hw ho =>
      rw [com1 w e he hh hw ho fd fun v o => nonref v = true ∧ ∃ w', o = some w' ∧ Lens w' ∧ Q' v w']
      have : pCom w e = w := by unfold pCom; rw [hh, hw, ho]
      rw [this] at hq
      exact ⟨rfl, w, rfl, hl, hq⟩
    | fail he hh hw ho p =>
      rw [com2 w e he hh hw ho fd fun v o => nonref v = true ∧ ∃ w', o = some w' ∧ Lens w' ∧ Q' v w']
      have : pCom w e = pHap w e 18 := by unfold pCom; rw [hh, hw, ho]
      rw [this] at hq hl'
      exact ⟨hl, p, rfl, _, rfl, hl', hq⟩
    | word he hh x xs hw hx hl1 p =>
      rw [com3 w e he hh hw hx fd fun v o => nonref v = true ∧ ∃ w', o = some w' ∧ Lens w' ∧ Q' v w']
      have : pCom w e = pHap (mk w e (read (me w e) x xs, ot w e)) e x := by unfold pCom; rw [hh, hw]
      rw [this] at hq hl'
      exact ⟨hl1, p, rfl, _, rfl, hl', hq⟩
    | note he hh xs hw hs ho hl1 p =>
      rw [com4 w e he hh hw hs ho fd fun v o => nonref v = true ∧ ∃ w', o = some w' ∧ Lens w' ∧ Q' v w']
      have : pCom w e = pHap (mk w e (read (me w e) 9 xs, ot w e)) e 9 := by unfold pCom; rw [hh, hw]
      rw [this] at hq hl'
      exact ⟨hl1, p, rfl, _, rfl, hl', hq⟩
  · exact hs.elim

structure PreJ (w : PW) (e : Nat) : Prop where
  l0 : Lens (freshW w)
  p0 : PreH (freshW w) e 17
  l1 : Lens (pHap (freshW w) e 17)
  p1 : PreH (pHap (freshW w) e 17) (1 - e) 17
  l2 : Lens (pJoin w e)
noncomputable def st6 (s : Nat) : Prop := s = 0 ∨ s = 1 ∨ s = 2 ∨ s = 3 ∨ s = 4 ∨ s = 5
noncomputable def isOpenSt (s : Nat) : Bool := match s with | 1 => true | 2 => true | _ => false
noncomputable def qJoin (w : PW) (e : Nat) : PW := match isOpenSt w.a.st, isOpenSt w.b.st with
  | true, true => pJoin w e
  | _, _ => w
noncomputable def PreJoin (w : PW) (e : Nat) : Prop := (e = 0 ∨ e = 1) ∧ st6 w.a.st ∧ st6 w.b.st ∧ (isOpenSt w.a.st = true → isOpenSt w.b.st = true → PreJ w e)
noncomputable def specJoin (w : PW) (as : List V) (Q : V → PW → Prop) : Prop := match as with
  | [.int (.ofNat e)] => PreJoin w e ∧ Q (.bool true) (qJoin w e)
  | _ => False
theorem isOpenSt_iff {s : Nat} (h : st6 s) : isOpenSt s = true ∧ (s = 1 ∨ s = 2) ∨ isOpenSt s = false ∧ (s = 0 ∨ s = 3 ∨ s = 4 ∨ s = 5) := by
  rcases h with rfl | rfl | rfl | rfl | rfl | rfl
  · exact .inr ⟨rfl, .inl rfl⟩
  · exact .inl ⟨rfl, .inl rfl⟩
  · exact .inl ⟨rfl, .inr rfl⟩
  · exact .inr ⟨rfl, .inr (.inl rfl)⟩
  · exact .inr ⟨rfl, .inr (.inr (.inl rfl))⟩
  · exact .inr ⟨rfl, .inr (.inr (.inr rfl))⟩
theorem join_runs : Runs H1 60 n_joined false specJoin := by
  intro w as Q' fd hl hn hs
  unfold specJoin at hs
  split at hs
  · rename_i e
    obtain ⟨⟨he, ha, hb, hp⟩, hq⟩ := hs
    show (run H1 60).call n_joined [.ref 0, .int (.ofNat e)] { objs := cs16 w, lc := [], fd := fd } (fun v σ' => (fun v o => nonref v = true ∧ ∃ w', o = some w' ∧ Lens w' ∧ Q' v w') v (chk false (rdW σ'.objs 0)))
    rcases isOpenSt_iff ha with ⟨a1, a2⟩ | ⟨a1, a2⟩
    · rcases isOpenSt_iff hb with ⟨b1, b2⟩ | ⟨b1, b2⟩
      · rw [join1 w e he a2 b2 fd fun v o => nonref v = true ∧ ∃ w', o = some w' ∧ Lens w' ∧ Q' v w']
        have : qJoin w e = pJoin w e := by unfold qJoin; rw [a1, b1]
        rw [this] at hq
        have p := hp a1 b1
        exact ⟨p.l0, p.p0, p.l1, p.p1, rfl, _, rfl, p.l2, hq⟩
      · rw [join0 w e he (.inr ⟨a2, b2⟩) fd fun v o => nonref v = true ∧ ∃ w', o = some w' ∧ Lens w' ∧ Q' v w']
        have : qJoin w e = w := by unfold qJoin; rw [a1, b1]
        rw [this] at hq
        exact ⟨rfl, w, rfl, hl, hq⟩
    · rw [join0 w e he (.inl a2) fd fun v o => nonref v = true ∧ ∃ w', o = some w' ∧ Lens w' ∧ Q' v w']
      have : qJoin w e = w := by unfold qJoin; rw [a1]
      rw [this] at hq
      exact ⟨rfl, w, rfl, hl, hq⟩
  · exact hs.elim

structure PreB (w : PW) : Prop where
  ha : w.a.held = true → w.a.st = 3 ∨ w.a.st = 4 ∨ w.a.st = 5
  p : preBrk w True
  l : Lens (pBrk w)
noncomputable def specBrk (w : PW) (as : List V) (Q : V → PW → Prop) : Prop := match as with
  | [] => PreB w ∧ Q (.bool true) (pBrk w)
  | _ => False
theorem preBrk_and {w : PW} {P : Prop} (h : preBrk w True) (p : P) : preBrk w P := by
  unfold preBrk at h ⊢
  split <;> simp_all
theorem brk_runs : Runs H1 60 n_broken false specBrk := by
  intro w as Q' fd hl hn hs
  unfold specBrk at hs
  split at hs
  · obtain ⟨hp, hq⟩ := hs
    show (run H1 60).call n_broken [.ref 0] { objs := cs16 w, lc := [], fd := fd } (fun v σ' => (fun v o => nonref v = true ∧ ∃ w', o = some w' ∧ Lens w' ∧ Q' v w') v (chk false (rdW σ'.objs 0)))
    rw [broken w hp.ha fd fun v o => nonref v = true ∧ ∃ w', o = some w' ∧ Lens w' ∧ Q' v w']
    exact preBrk_and hp.p ⟨rfl, _, rfl, hp.l, hq⟩
  · exact hs.elim

structure PreG (w : PW) (e ev : Nat) : Prop where
  he : e = 0 ∨ e = 1
  hev : ev = 15 ∨ ev = 16
  hs : st6 (me w e).st
  p : PreH w e ev
  ok : Nat.beq (me (pHap w e ev) e).st (begunTo (me w e).st ev) = true
noncomputable def specBeg (w : PW) (as : List V) (Q : V → PW → Prop) : Prop := match as with
  | [.int (.ofNat e), .sym ev] => PreG w e ev ∧ Q (.bool true) (pHap w e ev)
  | _ => False
theorem beg_runs : Runs H1 60 n_begun false specBeg := by
  intro w as Q' fd hl hn hs
  unfold specBeg at hs
  split at hs
  · rename_i e ev
    obtain ⟨hp, hq⟩ := hs
    show (run H1 60).call n_begun [.ref 0, .int (.ofNat e), .sym ev] { objs := cs16 w, lc := [], fd := fd } (fun v σ' => (fun v o => nonref v = true ∧ ∃ w', o = some w' ∧ Lens w' ∧ Q' v w') v (chk false (rdW σ'.objs 0)))
    rw [begun w e ev hp.he hp.hev hp.hs fd fun v o => nonref v = true ∧ ∃ w', o = some w' ∧ Lens w' ∧ Q' v w', hp.ok]
    exact ⟨hl, hp.p, rfl, _, rfl, hp.p.lens, hq⟩
  · exact hs.elim

noncomputable def pick (f g : Nat) (h : Hook) (r : Option Hook) : Option Hook := match Nat.beq f g with
  | true => some h
  | false => r
theorem pick_some {f g : Nat} {h k : Hook} {r : Option Hook} (e : pick f g h r = some k) : (f = g ∧ h = k) ∨ r = some k := by
  unfold pick at e
  split at e
  · rename_i ef; cases e; exact .inl ⟨Nat.eq_of_beq_eq_true ef, rfl⟩
  · exact .inr e
noncomputable def H2 (f : Nat) : Option Hook :=
  pick f n_happens (wHook true specHap) (pick f n_draw dHook (pick f n_comes (wHook false specCom) (pick f n_joined (wHook false specJoin) (pick f n_broken (wHook false specBrk) (pick f n_begun (wHook false specBeg) none)))))
theorem H1_ok {C : Cx} (X : Facts C) : HookOk C H1 120 := by
  intro f h e vs us L ρ σ s A Q hq rm R hv
  unfold H1 at e
  split at e
  · rename_i ef
    cases e
    rw [Nat.eq_of_beq_eq_true ef]
    exact wHook_ok X (noH_ok C) hap_runs hq rm R hv
  · cases e
theorem H2_ok {C : Cx} (X : Facts C) : HookOk C H2 180 := by
  intro f h e vs us L ρ σ s A Q hq rm R hv
  unfold H2 at e
  rcases pick_some e with ⟨rfl, rfl⟩ | e
  · exact wHook_ok X (noH_ok C) hap_runs hq (rm.le (by omega)) R hv
  rcases pick_some e with ⟨rfl, rfl⟩ | e
  · exact dHook_ok X hq (rm.le (by omega)) R hv
  rcases pick_some e with ⟨rfl, rfl⟩ | e
  · exact wHook_ok X (H1_ok X) com_runs hq rm R hv
  rcases pick_some e with ⟨rfl, rfl⟩ | e
  · exact wHook_ok X (H1_ok X) join_runs hq rm R hv
  rcases pick_some e with ⟨rfl, rfl⟩ | e
  · exact wHook_ok X (H1_ok X) brk_runs hq rm R hv
  rcases pick_some e with ⟨rfl, rfl⟩ | e
  · exact wHook_ok X (H1_ok X) beg_runs hq rm R hv
  · cases e
end Mine
namespace Mine
open PySem PySem.SeqAt

noncomputable def dropS : Nat → Ss → Ss
  | 0, b => b
  | n + 1, .cons _ r => dropS n r
  | _ + 1, .nil => .nil
noncomputable def headIf : Ss → Ss
  | .cons (.ifs _ a _ _) _ => a
  | _ => .nil
noncomputable def tailD : Ss := dropS 2 f_law_deed.body
abbrev GB := V → Option (PW × Nat × List Int) → Prop
noncomputable def rdG (G : GB) (v : V) (σ : St) : Prop := G v (chkB (rdW σ.objs 0) (rdB σ.objs 16))
noncomputable def endG (G : GB) (fl : Fl) (σ : St) : Prop := match fl with
  | .next => rdG G .none σ
  | .ret v => rdG G v σ
noncomputable def lcD (tv : V) (f e : Nat) : List (Nat × V) := [(37, .ref 16), (34, .ref 0), (127, tv), (123, .int (.ofNat f)), (35, .int (.ofNat e))]
noncomputable def osD (w : PW) (s : Nat) (xs : List Int) (J : List O) : List O := cs16 w ++ (.list [.ref 17, .int (.ofNat s)] :: .nums xs :: J)
/-- the deed, its form and its end drawn -/
noncomputable def TD (J : List O) (tv : V) (f e : Nat) (w : PW) (s : Nat) (xs : List Int) (G : GB) : Prop :=
  (run H2 57).exs tailD { objs := osD w s xs J, lc := lcD tv f e, fd := f_law_deed } (endG G)
noncomputable def J1 : List O := [.tuple [.int 0, .int 0, .int 1, .int 2, .int 2, .int 2]]
noncomputable def J3 : List O := J1 ++ [.gone, .gone]
noncomputable def J2 : List O := [.gone, .gone]
noncomputable def J4 : List O := [.gone, .gone, .gone, .gone]
noncomputable def deedAt (t : Nat) (w : PW) (s : Nat) (xs : List Int) (fd : FD) (G : GB) : Prop :=
  (run H2 60).call n_deed [.ref 16, .ref 0, .int (.ofNat t)] { objs := cs18 w s xs, lc := [], fd := fd } (rdG G)
theorem deed_0 (w : PW) (s : Nat) (xs : List Int) (fd : FD) (G : GB) : deedAt 0 w s xs fd G = TD J1 (.int (.ofNat 0)) 0 0 w s xs G := by kernel_rfl!
theorem deed_1 (w : PW) (s : Nat) (xs : List Int) (fd : FD) (G : GB) : deedAt 1 w s xs fd G = TD J1 (.int (.ofNat 1)) 0 1 w s xs G := by kernel_rfl!
theorem deed_2 (w : PW) (s : Nat) (xs : List Int) (fd : FD) (G : GB) : deedAt 2 w s xs fd G = (s < 1000 ∧ allB (fun e => TD J3 (.int (.ofNat 2)) 1 e w (s + 1) xs G) 2) := by kernel_rfl!
theorem deed_3 (w : PW) (s : Nat) (xs : List Int) (fd : FD) (G : GB) : deedAt 3 w s xs fd G = (s < 1000 ∧ allB (fun e => TD J3 (.int (.ofNat 3)) 2 e w (s + 1) xs G) 2) := by kernel_rfl!
theorem deed_4 (w : PW) (s : Nat) (xs : List Int) (fd : FD) (G : GB) : deedAt 4 w s xs fd G = (s < 1000 ∧ allB (fun e => TD J3 (.int (.ofNat 4)) 2 e w (s + 1) xs G) 2) := by kernel_rfl!
theorem deed_5 (w : PW) (s : Nat) (xs : List Int) (fd : FD) (G : GB) : deedAt 5 w s xs fd G = (s < 1000 ∧ allB (fun e => TD J3 (.int (.ofNat 5)) 2 e w (s + 1) xs G) 2) := by kernel_rfl!
noncomputable def deedL (t : Nat) (w : PW) (s : Nat) (xs : List Int) (G : GB) (f : Nat) : Prop := match Nat.beq f 9 with
  | true => TD J2 (.int (.ofNat (t + 6))) f 0 w (s + 1) xs G
  | false => s + 1 < 1000 ∧ allB (fun e => TD J4 (.int (.ofNat (t + 6))) f e w (s + 2) xs G) 2
theorem deed_6 (t : Nat) (w : PW) (s : Nat) (xs : List Int) (fd : FD) (G : GB) : deedAt (t + 6) w s xs fd G = (s < 1000 ∧ allB (deedL t w s xs G) 12) := by kernel_rfl!
end Mine
namespace Mine
open PySem PySem.SeqAt

theorem td_0 (J : List O) (hJ : J = J1 ∨ J = J4) (tv : V) (e : Nat) (he : e = 0 ∨ e = 1) (w : PW) (s : Nat) (xs : List Int) (G : GB) :
    TD J tv 0 e w s xs G = (s < 1000 ∧ allB (fun d => Lens w ∧ (PreG w e (d + 15) ∧ G (.bool true) (some (pHap w e (d + 15), s + 1, xs)))) 2) := by
  rcases hJ with rfl | rfl <;> rcases he with rfl | rfl <;> kernel_rfl!
theorem td_1 (J : List O) (hJ : J = J3 ∨ J = J4) (tv : V) (e : Nat) (he : e = 0 ∨ e = 1) (w : PW) (s : Nat) (xs : List Int) (G : GB) :
    TD J tv 1 e w s xs G = (Lens w ∧ (PreJoin w e ∧ G (.bool true) (some (qJoin w e, s, xs)))) := by
  rcases hJ with rfl | rfl <;> rcases he with rfl | rfl <;> kernel_rfl!
theorem td_2 (J : List O) (hJ : J = J3 ∨ J = J4) (tv : V) (f : Nat) (hf : f = 2 ∨ f = 3 ∨ f = 4 ∨ f = 5 ∨ f = 6) (e : Nat) (he : e = 0 ∨ e = 1) (w : PW) (s : Nat) (xs : List Int) (G : GB) :
    TD J tv f e w s xs G = (Lens w ∧ ((PreCom w e ∧ Lens (pCom w e)) ∧ G (.bool true) (some (pCom w e, s, xs)))) := by
  rcases hJ with rfl | rfl <;> rcases he with rfl | rfl <;> rcases hf with rfl | rfl | rfl | rfl | rfl <;> kernel_rfl!
theorem td_8 (tv : V) (e : Nat) (he : e = 0 ∨ e = 1) (w : PW) (s : Nat) (xs : List Int) (G : GB) :
    TD J4 tv 8 e w s xs G = (s < 1000 ∧ allB (fun d => Lens w ∧ (PreH w e (d + 19) ∧ G (.bool true) (some (pHap w e (d + 19), s + 1, xs)))) 2) := by
  rcases he with rfl | rfl <;> kernel_rfl!
theorem td_9 (tv : V) (w : PW) (s : Nat) (xs : List Int) (G : GB) :
    TD J2 tv 9 0 w s xs G = (Lens w ∧ (PreB w ∧ G (.bool true) (some (pBrk w, s, xs)))) := by
  kernel_rfl!
noncomputable def notE (s : Nat) : Prop := s = 0 ∨ s = 1 ∨ s = 2 ∨ s = 3 ∨ s = 4
theorem td_10 (tv : V) (f : Nat) (hf : f = 10 ∨ f = 11) (e : Nat) (he : e = 0 ∨ e = 1) (w : PW) (hs : notE (me w e).st) (s : Nat) (xs : List Int) (G : GB) :
    TD J4 tv f e w s xs G = G (.bool true) (some (w, s, xs)) := by
  obtain ⟨⟨sa, t, h, y, i, d⟩, ⟨sb, t', h', y', i', d'⟩, ho, da, wo⟩ := w
  rcases he with rfl | rfl
  · have hs : notE sa := hs
    rcases hf with rfl | rfl <;> rcases hs with rfl | rfl | rfl | rfl | rfl <;> kernel_rfl!
  · have hs : notE sb := hs
    rcases hf with rfl | rfl <;> rcases hs with rfl | rfl | rfl | rfl | rfl <;> kernel_rfl!
noncomputable def pSay (w : PW) (e : Nat) : PW := mk w e (opDo (.say 8) (me w e, ot w e))
theorem td_11 (tv : V) (f : Nat) (hf : f = 10 ∨ f = 11) (e : Nat) (he : e = 0 ∨ e = 1) (w : PW) (hs : (me w e).st = 5) (hh : (me w e).held = true) (s : Nat) (xs : List Int) (G : GB) :
    TD J4 tv f e w s xs G = G (.bool true) (some (pSay w e, s, xs)) := by
  obtain ⟨⟨sa, t, h, y, i, d⟩, ⟨sb, t', h', y', i', d'⟩, ho, da, wo⟩ := w
  rcases he with rfl | rfl
  · have hs : sa = 5 := hs
    have hh : h = true := hh
    subst hs hh
    rcases hf with rfl | rfl <;> cases h' <;> kernel_rfl!
  · have hs : sb = 5 := hs
    have hh : h' = true := hh
    subst hs hh
    rcases hf with rfl | rfl <;> cases h <;> kernel_rfl!
/-! a timer runs out -/
noncomputable def inner7 : Ss := headIf (dropS 3 tailD)
noncomputable def F7 (tv : V) (e : Nat) (w : PW) (s : Nat) (xs : List Int) (ys : List Nat) (G : GB) : Prop :=
  (run H2 52).exs (dropS 1 inner7) { objs := osD w s xs J4 ++ [.syms 50 ys], lc := put (lcD tv 7 e) 125 (.ref 22), fd := f_law_deed } (fun fl σ => match fl with
    | .next => (run H2 53).exs (dropS 4 tailD) σ (endG G)
    | .ret v => endG G (.ret v) σ)
theorem td_7 (tv : V) (e : Nat) (he : e = 0 ∨ e = 1) (w : PW) (s : Nat) (xs : List Int) (G : GB) :
    TD J4 tv 7 e w s xs G = ∀ ys : List Nat, ys.Perm (me w e).ti → F7 tv e w s xs ys G := by
  rcases he with rfl | rfl <;> kernel_rfl!
end Mine
namespace Mine
open PySem PySem.SeqAt

noncomputable def dueOf (a : Nat) : Nat := match a with
  | 7 => 24
  | 10 => 22
  | 11 => 21
  | _ => 23
noncomputable def pDue (w : PW) (e a : Nat) : PW := mk w e ({ me w e with ti := delK (me w e).ti a }, ot w e)
theorem f7_0 (tv : V) (e : Nat) (he : e = 0 ∨ e = 1) (w : PW) (s : Nat) (xs : List Int) (G : GB) :
    F7 tv e w s xs [] G = G (.bool true) (some (w, s, xs)) := by
  rcases he with rfl | rfl <;> kernel_rfl!
noncomputable def ysOk (ys ti : List Nat) : Prop := (ys = [7] ∧ ti = [7]) ∨ (ys = [10] ∧ ti = [10]) ∨ (ys = [11] ∧ ti = [11]) ∨ (ys = [12] ∧ ti = [12]) ∨
  ((ys = [7, 11] ∨ ys = [11, 7]) ∧ (ti = [7, 11] ∨ ti = [11, 7]))
theorem f7_1 (tv : V) (e : Nat) (he : e = 0 ∨ e = 1) (w : PW) (ys : List Nat) (hy : ysOk ys (me w e).ti) (s : Nat) (xs : List Int) (G : GB) :
    F7 tv e w s xs ys G = (s < 1000 ∧ allB (fun d => Lens (pDue w e (at0 ys d)) ∧ (PreH (pDue w e (at0 ys d)) e (dueOf (at0 ys d)) ∧ G (.bool true) (some (pHap (pDue w e (at0 ys d)) e (dueOf (at0 ys d)), s + 1, xs)))) ys.length) := by
  obtain ⟨⟨sa, t, h, y, i, d⟩, ⟨sb, t', h', y', i', d'⟩, ho, da, wo⟩ := w
  rcases he with rfl | rfl
  · have hy : ysOk ys t := hy
    rcases hy with ⟨rfl, rfl⟩ | ⟨rfl, rfl⟩ | ⟨rfl, rfl⟩ | ⟨rfl, rfl⟩ | ⟨rfl | rfl, rfl | rfl⟩ <;> kernel_rfl!
  · have hy : ysOk ys t' := hy
    rcases hy with ⟨rfl, rfl⟩ | ⟨rfl, rfl⟩ | ⟨rfl, rfl⟩ | ⟨rfl, rfl⟩ | ⟨rfl | rfl, rfl | rfl⟩ <;> kernel_rfl!
end Mine
namespace Mine
open PySem PySem.SeqAt

noncomputable def endRun (w : PW) (e : Nat) (fd : FD) (G : V → Option PW → Prop) : Prop :=
  (run noH 60).call n_endright [.ref 0, .int (.ofNat e)] { objs := cs16 w, lc := [], fd := fd } (fun v σ' => G v (chk false (rdW σ'.objs 0)))
theorem end_0 (w : PW) (e : Nat) (he : e = 0 ∨ e = 1) (hs : (me w e).st = 0 ∨ (me w e).st = 1 ∨ (me w e).st = 2) (hh : (me w e).held = false) (fd : FD) (G : V → Option PW → Prop) :
    endRun w e fd G = G (.bool true) (some w) := by
  obtain ⟨⟨s, t, h, y, i, d⟩, ⟨s', t', h', y', i', d'⟩, ho, da, wo⟩ := w
  rcases he with rfl | rfl
  · have hs : s = 0 ∨ s = 1 ∨ s = 2 := hs
    have hh : h = false := hh
    subst hh
    rcases hs with rfl | rfl | rfl <;> kernel_rfl!
  · have hs : s' = 0 ∨ s' = 1 ∨ s' = 2 := hs
    have hh : h' = false := hh
    subst hh
    rcases hs with rfl | rfl | rfl <;> kernel_rfl!
theorem end_3 (w : PW) (e : Nat) (he : e = 0 ∨ e = 1) (hs : (me w e).st = 3) (hh : (me w e).held = true) (h1 : (me w e).said = [6]) (h2 : (me w e).heard = []) (fd : FD) (G : V → Option PW → Prop) :
    endRun w e fd G = G (.bool true) (some w) := by
  obtain ⟨⟨s, t, h, y, i, d⟩, ⟨s', t', h', y', i', d'⟩, ho, da, wo⟩ := w
  rcases he with rfl | rfl
  · have hs : s = 3 := hs
    have hh : h = true := hh
    have h1 : i = [6] := h1
    have h2 : d = [] := h2
    subst hs hh h1 h2
    kernel_rfl!
  · have hs : s' = 3 := hs
    have hh : h' = true := hh
    have h1 : i' = [6] := h1
    have h2 : d' = [] := h2
    subst hs hh h1 h2
    kernel_rfl!
noncomputable def onB (b : Bool) (P Q : Prop) : Prop := match beqB true (!b) with
  | true => P
  | false => Q
theorem end_4 (w : PW) (e : Nat) (he : e = 0 ∨ e = 1) (hs : (me w e).st = 4) (hh : (me w e).held = true) (r : List Nat) (h1 : (me w e).said = 6 :: 7 :: r) (h2 : (me w e).heard = [6]) (fd : FD) (G : V → Option PW → Prop) :
    endRun w e fd G = onB (memN r 8) (G (.bool true) (some w)) (G (.bool (!(memN r 8))) (some w)) := by
  obtain ⟨⟨s, t, h, y, i, d⟩, ⟨s', t', h', y', i', d'⟩, ho, da, wo⟩ := w
  rcases he with rfl | rfl
  · have hs : s = 4 := hs
    have hh : h = true := hh
    have h1 : i = 6 :: 7 :: r := h1
    have h2 : d = [6] := h2
    subst hs hh h1 h2
    kernel_rfl!
  · have hs : s' = 4 := hs
    have hh : h' = true := hh
    have h1 : i' = 6 :: 7 :: r := h1
    have h2 : d' = [6] := h2
    subst hs hh h1 h2
    kernel_rfl!
theorem end_5 (w : PW) (e : Nat) (he : e = 0 ∨ e = 1) (hs : (me w e).st = 5) (hh : (me w e).held = true) (r r' : List Nat) (h1 : (me w e).said = 6 :: 7 :: r) (h2 : (me w e).heard = 6 :: 7 :: r') (fd : FD) (G : V → Option PW → Prop) :
    endRun w e fd G = G (.bool true) (some w) := by
  obtain ⟨⟨s, t, h, y, i, d⟩, ⟨s', t', h', y', i', d'⟩, ho, da, wo⟩ := w
  rcases he with rfl | rfl
  · have hs : s = 5 := hs
    have hh : h = true := hh
    have h1 : i = 6 :: 7 :: r := h1
    have h2 : d = 6 :: 7 :: r' := h2
    subst hs hh h1 h2
    kernel_rfl!
  · have hs : s' = 5 := hs
    have hh : h' = true := hh
    have h1 : i' = 6 :: 7 :: r := h1
    have h2 : d' = 6 :: 7 :: r' := h2
    subst hs hh h1 h2
    kernel_rfl!
inductive PreE (w : PW) (e : Nat) : Prop where
  | low (he : e = 0 ∨ e = 1) (hs : (me w e).st = 0 ∨ (me w e).st = 1 ∨ (me w e).st = 2) (hh : (me w e).held = false)
  | sent (he : e = 0 ∨ e = 1) (hs : (me w e).st = 3) (hh : (me w e).held = true) (h1 : (me w e).said = [6]) (h2 : (me w e).heard = [])
  | conf (he : e = 0 ∨ e = 1) (hs : (me w e).st = 4) (hh : (me w e).held = true) (r : List Nat) (h1 : (me w e).said = 6 :: 7 :: r) (h2 : (me w e).heard = [6]) (h3 : memN r 8 = false)
  | estb (he : e = 0 ∨ e = 1) (hs : (me w e).st = 5) (hh : (me w e).held = true) (r r' : List Nat) (h1 : (me w e).said = 6 :: 7 :: r) (h2 : (me w e).heard = 6 :: 7 :: r')
noncomputable def specEnd (w : PW) (as : List V) (Q : V → PW → Prop) : Prop := match as with
  | [.int (.ofNat e)] => PreE w e ∧ Q (.bool true) w
  | _ => False
theorem end_runs : Runs noH 60 n_endright false specEnd := by
  intro w as Q' fd hl hn hs
  unfold specEnd at hs
  split at hs
  · rename_i e
    obtain ⟨hp, hq⟩ := hs
    show endRun w e fd (fun v o => nonref v = true ∧ ∃ w', o = some w' ∧ Lens w' ∧ Q' v w')
    cases hp with
    | low he hs hh => rw [end_0 w e he hs hh]; exact ⟨rfl, w, rfl, hl, hq⟩
    | sent he hs hh h1 h2 => rw [end_3 w e he hs hh h1 h2]; exact ⟨rfl, w, rfl, hl, hq⟩
    | conf he hs hh r h1 h2 h3 => rw [end_4 w e he hs hh r h1 h2, h3]; exact ⟨rfl, w, rfl, hl, hq⟩
    | estb he hs hh r r' h1 h2 => rw [end_5 w e he hs hh r r' h1 h2]; exact ⟨rfl, w, rfl, hl, hq⟩
  · exact hs.elim
end Mine
namespace Mine
open PySem PySem.SeqAt

abbrev DT := List V → List O → (List O → Prop) → Prop
noncomputable def tHook (D : DT) : Hook := fun vs σ Q => D vs σ.objs fun os => Q (.bool true) { σ with objs := os }
noncomputable def H3 (Dd Dc De : DT) (f : Nat) : Option Hook := pick f n_draw dHook (pick f n_deed (tHook Dd) (pick f n_comes (tHook Dc) (pick f n_endright (tHook De) none)))
noncomputable def cs0 (xs : List Int) (hold : Int) (damp wo : Bool) (s : Nat) (d w : Bool) : List O :=
  [.gone, .nums (xs.take 56), .nums (xs.take 56), .list [.ref 2, .int (.ofNat s)], .list [.sym 0, .sym 0], .dict [], .dict [], .list [.ref 5, .ref 6],
   .list [.bool false, .bool false], .list [], .list [], .list [.ref 9, .ref 10], .list [], .list [], .list [.ref 12, .ref 13], .list [], .list [], .list [.ref 15, .ref 16],
   .dict [(28, .ref 8), (29, .ref 11), (30, .ref 14), (31, .ref 17)], .tuple [.int 0, .int 9], .gone, .gone,
   .dict [(25, .ref 4), (26, .ref 7), (27, .ref 18), (11, .int hold), (32, .bool damp), (33, .bool wo)], .gone, .gone, .gone, .gone, .tuple [.bool d, .bool w]]
noncomputable def lcL : List (Nat × V) := [(39, .gref 999), (37, .ref 3), (34, .ref 22)]
noncomputable def LOOPS (H : Nat → Option Hook) (os : List O) (Q : KF) : Prop := (run H 57).exs (dropS 3 f_law.body) { objs := os, lc := lcL, fd := f_law } Q
noncomputable def retK (Q : KV) (σ : St) (fl : Fl) (σ1 : St) : Prop := match fl with
  | .next => Q .none { σ1 with lc := σ.lc, fd := σ.fd }
  | .ret v => Q v { σ1 with lc := σ.lc, fd := σ.fd }
noncomputable def holdD (d : Nat) : Int := match d with | 0 => 0 | _ => 9
noncomputable def bitD (d : Nat) : Bool := match d with | 0 => false | _ => true
noncomputable def startP (H : Nat → Option Hook) (xs : List Int) (Q : KF) : Prop :=
  0 < 1000 ∧ allB (fun d1 => 1 < 1000 ∧ allB (fun d2 => 2 < 1000 ∧ allB (fun d3 => LOOPS H (cs0 xs (holdD d1) (bitD d2) (bitD d3) 3 (bitD d2) (bitD d3)) Q) 2) 2) 2
/-! the script: a list that is never changed; its first slice is a rule of its own -/
noncomputable def isScr : E → Bool
  | .slc (.var x _) (.cst (.int (.ofNat n)) _) _ _ => Nat.beq x 39 && Nat.beq n 56
  | _ => false
noncomputable def scrAt (σ : St) : Bool := match lk σ.lc 39 with
  | some (.gref k) => Nat.beq k 999
  | _ => false
noncomputable def evX (xs : List Int) (r : Rec) (e : E) (σ : St) (Q : KV) : Prop := match isScr e && scrAt σ with
  | true => newO (.nums (xs.take 56)) σ Q
  | false => evStep r e σ Q
noncomputable def stepX (xs : List Int) (H : Nat → Option Hook) (r : Rec) : Rec := ⟨evX xs r, evsStep r, dicStep r, bopVStep r, bopTStep r, tstStep r, exsStep r, callStep H r⟩
noncomputable def runX (xs : List Int) (H : Nat → Option Hook) (n : Nat) : Rec := @Nat.rec (fun _ => Rec) rec0 (fun _ r => stepX xs H r) n
noncomputable def recX (xs : List Int) (H : Nat → Option Hook) : Rec := { runX xs H 59 with exs := (run H 59).exs }
theorem law_start (Dd Dc De : DT) (xs : List Int) (Q : KF) :
    exsStep (recX xs (H3 Dd Dc De)) f_law.body { objs := [.gone], lc := [(39, .gref 999)], fd := f_law } Q = startP (H3 Dd Dc De) xs Q := by kernel_rfl!
end Mine
namespace Mine
open PySem PySem.SeqAt

noncomputable def ends2 (De : DT) (os : List O) (K : List O → Prop) : Prop := De [.ref 22, .int (.ofNat 0)] os fun o1 => De [.ref 22, .int (.ofNat 1)] o1 K
noncomputable def dLoop (Dd De : DT) : List Nat → List O → (List O → Prop) → Prop
  | [], os, K => K os
  | t :: ts, os, K => Dd [.ref 3, .ref 22, .int (.ofNat t)] os fun o1 => ends2 De o1 fun o2 => dLoop Dd De ts o2 K
noncomputable def turns14 : List Nat := [0, 1, 2, 3, 4, 5, 6, 7, 8, 9, 10, 11, 12, 13]
noncomputable def lc1 : List (Nat × V) := [(39, .gref 999), (37, .ref 3), (34, .ref 22), (127, .int 13)]
noncomputable def DRAIN (H : Nat → Option Hook) (os : List O) (Q : KF) : Prop := (run H 56).exs (dropS 4 f_law.body) { objs := os, lc := lc1, fd := f_law } Q
theorem loops_eq (Dd Dc De : DT) (os : List O) (Q : KF) :
    LOOPS (H3 Dd Dc De) os Q = dLoop Dd De turns14 os fun os' => DRAIN (H3 Dd Dc De) os' Q := by kernel_rfl!

/-! the drain -/
noncomputable def bodyOf : Ss → Ss
  | .cons (.fors _ _ _ b _) _ => b
  | _ => .nil
noncomputable def body2 : Ss := bodyOf (dropS 4 f_law.body)
noncomputable def body3 : Ss := bodyOf body2
noncomputable def lcA (v : V) : List (Nat × V) := [(39, .gref 999), (37, .ref 3), (34, .ref 22), (127, v)]
noncomputable def lcB (v e : V) : List (Nat × V) := [(39, .gref 999), (37, .ref 3), (34, .ref 22), (127, v), (35, e)]
noncomputable def cOne (Dc De : DT) (e : Nat) (os : List O) (K : List O → Prop) : Prop := Dc [.ref 22, .int (.ofNat e)] os fun o1 => ends2 De o1 K
noncomputable def cStep (Dc De : DT) (os : List O) (K : List O → Prop) : Prop := cOne Dc De 0 (os ++ [.tuple [.int 0, .int 1]]) fun o1 => cOne Dc De 1 o1 K
theorem nth_last {α : Type} : ∀ {os : List α} {o : α}, nth (os ++ [o]) os.length = some o
  | [], _ => rfl
  | _ :: r, _ => nth_last (os := r)
noncomputable def nx (r : Rec) (rest : Ss) (Q : KF) (fl : Fl) (σ1 : St) : Prop := match fl with
  | .next => r.exs rest σ1 Q
  | .ret v => Q (.ret v) σ1
theorem obj_last {os : List O} {o : O} {lc : List (Nat × V)} {fd : FD} : obj { objs := os ++ [o], lc := lc, fd := fd } (.ref os.length) = some o := nth_last
theorem fors2 (H : Nat → Option Hook) (os : List O) (lc : List (Nat × V)) (fd : FD) (Q : KF) :
    (run H 55).exs body2 { objs := os, lc := lc, fd := fd } Q =
      loopV (run H 54) 35 body3 [.int 0, .int 1] { objs := os ++ [.tuple [.int 0, .int 1]], lc := lc, fd := fd } (nx (run H 54) .nil Q) := by
  have e1 : (run H 55).exs body2 { objs := os, lc := lc, fd := fd } Q =
      (match obj { objs := os ++ [O.tuple [V.int 0, V.int 1]], lc := lc, fd := fd } (.ref os.length) with
        | some (.tuple xs) => loopV (run H 54) 35 body3 xs { objs := os ++ [.tuple [.int 0, .int 1]], lc := lc, fd := fd } (nx (run H 54) .nil Q)
        | _ => False) := by kernel_rfl!
  rw [e1, obj_last]
theorem inner_A (Dd Dc De : DT) (v : V) (os : List O) (Q : KF) :
    loopV (run (H3 Dd Dc De) 54) 35 body3 [.int 0, .int 1] { objs := os, lc := lcA v, fd := f_law } (nx (run (H3 Dd Dc De) 54) .nil Q) =
      cOne Dc De 0 os fun o1 => cOne Dc De 1 o1 fun o2 => Q .next { objs := o2, lc := lcB v (.int 1), fd := f_law } := by kernel_rfl!
theorem inner_B (Dd Dc De : DT) (v e : V) (os : List O) (Q : KF) :
    loopV (run (H3 Dd Dc De) 54) 35 body3 [.int 0, .int 1] { objs := os, lc := lcB v e, fd := f_law } (nx (run (H3 Dd Dc De) 54) .nil Q) =
      cOne Dc De 0 os fun o1 => cOne Dc De 1 o1 fun o2 => Q .next { objs := o2, lc := lcB v (.int 1), fd := f_law } := by kernel_rfl!
noncomputable def cLoop (Dc De : DT) : Nat → List O → (List O → Prop) → Prop
  | 0, os, K => K os
  | n + 1, os, K => cStep Dc De os fun os' => cLoop Dc De n os' K
theorem loop_step (Dd Dc De : DT) (u : V) (vs : List V) (os : List O) (lc lc' : List (Nat × V)) (Q : KF) (hp : put lc 127 u = lc')
    (hi : ∀ os Q, loopV (run (H3 Dd Dc De) 54) 35 body3 [.int 0, .int 1] { objs := os, lc := lc', fd := f_law } (nx (run (H3 Dd Dc De) 54) .nil Q) =
      cOne Dc De 0 os fun o1 => cOne Dc De 1 o1 fun o2 => Q .next { objs := o2, lc := lcB u (.int 1), fd := f_law }) :
    loopV (run (H3 Dd Dc De) 55) 127 body2 (u :: vs) { objs := os, lc := lc, fd := f_law } Q =
      cStep Dc De os fun os' => loopV (run (H3 Dd Dc De) 55) 127 body2 vs { objs := os', lc := lcB u (.int 1), fd := f_law } Q := by
  show (run (H3 Dd Dc De) 55).exs body2 { objs := os, lc := put lc 127 u, fd := f_law } _ = _
  rw [hp, fors2, hi]
  rfl
theorem loop_B (Dd Dc De : DT) (Q : KF) : ∀ (vs : List V) (u : V) (os : List O), ∃ v,
    loopV (run (H3 Dd Dc De) 55) 127 body2 vs { objs := os, lc := lcB u (.int 1), fd := f_law } Q =
      cLoop Dc De vs.length os fun os' => Q .next { objs := os', lc := lcB v (.int 1), fd := f_law } := by
  intro vs
  suffices h : ∀ (vs : List V) (u : V) (os : List O), loopV (run (H3 Dd Dc De) 55) 127 body2 vs { objs := os, lc := lcB u (.int 1), fd := f_law } Q =
      cLoop Dc De vs.length os fun os' => Q .next { objs := os', lc := lcB (vs.getLastD u) (.int 1), fd := f_law } from fun u os => ⟨_, h vs u os⟩
  intro vs
  induction vs with
  | nil => intro u os; rfl
  | cons a r ih =>
    intro u os
    rw [loop_step Dd Dc De a r os (lcB u (.int 1)) (lcB a (.int 1)) Q rfl (inner_B Dd Dc De a (.int 1))]
    show cStep Dc De os _ = cStep Dc De os _
    refine congrArg _ (funext fun os' => ?_)
    rw [ih a os']
    simp only [List.getLastD_cons]
noncomputable def lc2 (v : V) : List (Nat × V) := lcB v (.int 1)
noncomputable def TAIL (H : Nat → Option Hook) (v : V) (os : List O) (Q : KF) : Prop := (run H 55).exs (dropS 5 f_law.body) { objs := os, lc := lc2 v, fd := f_law } Q
noncomputable def vs20 : List V := upto 20
theorem drain_open (Dd Dc De : DT) (os : List O) (Q : KF) :
    DRAIN (H3 Dd Dc De) os Q = loopV (run (H3 Dd Dc De) 55) 127 body2 (upto 20) { objs := os, lc := lc1, fd := f_law } (nx (run (H3 Dd Dc De) 55) (dropS 5 f_law.body) Q) := by kernel_rfl!
end Mine
namespace Mine
open PySem PySem.SeqAt

theorem loop_C (Dd Dc De : DT) (Q : KF) : ∀ (vs : List V) (u : V) (os : List O), loopV (run (H3 Dd Dc De) 55) 127 body2 vs { objs := os, lc := lcB u (.int 1), fd := f_law } Q =
      cLoop Dc De vs.length os fun os' => Q .next { objs := os', lc := lcB (vs.getLastD u) (.int 1), fd := f_law } := by
  intro vs
  induction vs with
  | nil => intro u os; rfl
  | cons a r ih =>
    intro u os
    rw [loop_step Dd Dc De a r os (lcB u (.int 1)) (lcB a (.int 1)) Q rfl (inner_B Dd Dc De a (.int 1))]
    show cStep Dc De os _ = cStep Dc De os _
    refine congrArg _ (funext fun os' => ?_)
    rw [ih a os']
    simp only [List.getLastD_cons]
noncomputable def ups : List V := (List.range 19).map fun i => V.int (.ofNat (i + 1))
theorem upto_20 : upto 20 = .int 0 :: ups := by kernel_rfl!
theorem drain_eq (Dd Dc De : DT) (os : List O) (Q : KF) : ∃ v, DRAIN (H3 Dd Dc De) os Q = cLoop Dc De 20 os fun os' => TAIL (H3 Dd Dc De) v os' Q := by
  refine ⟨ups.getLastD (.int 0), ?_⟩
  rw [drain_open, upto_20, loop_step Dd Dc De (.int 0) ups os lc1 (lcA (.int 0)) _ rfl (inner_A Dd Dc De (.int 0))]
  show cStep Dc De os _ = cStep Dc De os _
  refine congrArg _ (funext fun os' => ?_)
  rw [loop_C]
  rfl

/-! the end of the law -/
noncomputable def subO (o? : Option O) (b : V) (σ : St) (Q : KV) : Prop := match o? with
  | some (.nums xs) => numsI xs b σ Q
  | some o => (match getI o b with | some x => Q x σ | none => False)
  | none => False
noncomputable def onT (v : V) (σ : St) (Q : Bool → St → Prop) : Prop := match truth v with | some b => Q b σ | none => False
noncomputable def onIf (b : Bool) (P R : Prop) : Prop := match b with | true => P | false => R
noncomputable def REST (H : Nat → Option Hook) (σ : St) (Q : KF) : Prop := (run H 54).exs (dropS 6 f_law.body) σ Q
theorem tail_1 (H : Nat → Option Hook) (v : V) (os : List O) (Q : KF) : TAIL H v os Q =
    subO (nth os 22) (.sym 27) { objs := os, lc := lc2 v, fd := f_law } fun x σ1 => subO (obj σ1 x) (.sym 28) σ1 fun y σ2 => newO (.list [.bool false, .bool false]) σ2 fun n σ3 => cmpop .Eq y n σ3 fun t σ4 =>
      onT t σ4 fun b σ5 => onIf b (Q (.ret (.bool true)) σ5) (REST H σ5 Q) := by kernel_rfl!
theorem tail_2 (H : Nat → Option Hook) (v : V) (os : List O) (Q : KF) : REST H { objs := os, lc := lc2 v, fd := f_law } Q =
    subO (nth os 22) (.sym 25) { objs := os, lc := lc2 v, fd := f_law } fun x σ1 => newO (.list [.sym 5, .sym 5]) σ1 fun n σ2 => cmpop .Eq x n σ2 fun t σ3 =>
      onT t σ3 fun b σ4 => onIf (beqB true b) (subO (obj σ4 (.ref 22)) (.sym 27) σ4 fun x σ5 => subO (obj σ5 x) (.sym 29) σ5 fun y σ6 => newO (.list []) σ6 fun m0 σ7 => newO (.list []) σ7 fun m1 σ8 =>
        newO (.list [m0, m1]) σ8 fun n σ9 => cmpop .Eq y n σ9 fun t σ10 => Q (.ret t) σ10) (Q (.ret t) σ4) := by kernel_rfl!
theorem nth_app {os : List O} {l : Nat} {o : O} (J : List O) (h : nth os l = some o) : nth (os ++ J) l = some o := by
  rw [nth_append_of, if_pos (nth_lt h)]; exact h
theorem eqV_refs {σ : St} {n a b : Nat} {oa ob : O} (h1 : nth σ.objs a = some oa) (h2 : nth σ.objs b = some ob) : eqV σ (n + 1) (.ref a) (.ref b) = eqO (eqV σ n) oa ob := by
  have e : eqV σ (n + 1) (.ref a) (.ref b) = (match nth σ.objs a, nth σ.objs b with
      | some oa, some ob => eqO (eqV σ n) oa ob
      | _, _ => none) := rfl
  rw [e, h1, h2]
theorem cmp_refs {σ : St} {a b : Nat} {oa ob : O} {Q : KV} {r : Bool} (h1 : nth σ.objs a = some oa) (h2 : nth σ.objs b = some ob) (h3 : eqO (eqV σ 3) oa ob = some r) (hq : Q (.bool r) σ) : cmpop .Eq (.ref a) (.ref b) σ Q := by
  show (match eqV σ 4 (.ref a) (.ref b) with | some r => Q (.bool r) σ | none => False)
  rw [eqV_refs h1 h2, h3]
  exact hq
theorem rdS_nil {os : List O} {l : Nat} (h : rdAt os l rdS = some []) : ∃ o, nth os l = some o ∧ tupO o = none ∧ lstO o = some [] := by
  obtain ⟨o, h1, h2⟩ := rd_at h
  unfold rdS at h2
  split at h2
  · cases h2; exact ⟨_, h1, rfl, rfl⟩
  · exact ⟨_, h1, rfl, rfl⟩
  · cases h2
structure Reads (os : List O) (w : PW) : Prop where
  ok : ∃ ls ll lh lw w0 w1 lt hold damp wo li ld, nth os 22 = some (.dict [(25, .ref ls), (26, .ref lt), (27, .ref ll), (11, .int hold), (32, .bool damp), (33, .bool wo)]) ∧
    nth os ll = some (.dict [(28, .ref lh), (29, .ref lw), (30, .ref li), (31, .ref ld)]) ∧ nth os ls = some (.list [.sym w.a.st, .sym w.b.st]) ∧
    nth os lh = some (.list [.bool w.a.held, .bool w.b.held]) ∧ nth os lw = some (.list [.ref w0, .ref w1]) ∧ rdAt os w0 rdS = some w.a.way ∧ rdAt os w1 rdS = some w.b.way
theorem rdRR_eq {o : O} {a b : Nat} (h : rdRR o = some (a, b)) : o = .list [.ref a, .ref b] := by
  unfold rdRR at h
  split at h
  · cases h; rfl
  · cases h
theorem rdSS_eq {o : O} {a b : Nat} (h : rdSS o = some (a, b)) : o = .list [.sym a, .sym b] := by
  unfold rdSS at h
  split at h
  · cases h; rfl
  · cases h
theorem rdBB_eq {o : O} {a b : Bool} (h : rdBB o = some (a, b)) : o = .list [.bool a, .bool b] := by
  unfold rdBB at h
  split at h
  · cases h; rfl
  · cases h
theorem reads_of {os : List O} {w : PW} {μ : List Nat} (h : rdW os 22 = some (w, μ)) : Reads os w := by
  unfold rdW at h
  split at h
  · cases h
  · rename_i ls lt ll hold damp wo e0
    split at h
    · rename_i s0 s1 t0 t1 lh lw li ld e1 e2 e3
      split at h
      · rename_i T0 T1 h0 h1 w0 w1 i0 i1 d0 d1 f1 f2 f3 f4 f5 f6
        split at h
        · rename_i W0 W1 I0 I1 D0 D1 g1 g2 g3 g4 g5 g6
          cases h
          obtain ⟨o0, a1, a2⟩ := rd_at e0
          obtain ⟨o1, b1, b2⟩ := rd_at e1
          obtain ⟨o3, c1, c2⟩ := rd_at e3
          obtain ⟨o4, d1', d2'⟩ := rd_at f3
          obtain ⟨o5, x1, x2⟩ := rd_at f4
          refine ⟨ls, ll, lh, lw, w0, w1, lt, hold, damp, wo, li, ld, ?_, ?_, ?_, ?_, ?_, g1, g2⟩
          · rw [a1, rd6_eq a2]
          · rw [c1, rd4_eq c2]
          · rw [b1, rdSS_eq b2]
          · rw [d1', rdBB_eq d2']
          · rw [x1, rdRR_eq x2]
        · cases h
      · cases h
    · cases h
noncomputable def Fin (w : PW) : Prop := (w.a.held = false ∧ w.b.held = false) ∨ (w.a.held = true ∧ w.a.st = 5 ∧ w.b.st = 5 ∧ w.a.way = [] ∧ w.b.way = [])
theorem sub_d {es : List (Nat × V)} {k : Nat} {x : V} {σ : St} {Q : KV} (h : lk es k = some x) (hq : Q x σ) : subO (some (.dict es)) (.sym k) σ Q := by
  show (match lk es k with | some x => Q x σ | none => False)
  rw [h]
  exact hq
theorem new_of {o : O} {os : List O} {lc : List (Nat × V)} {fd : FD} {Q : KV} (h : Q (.ref os.length) { objs := os ++ [o], lc := lc, fd := fd }) : newO o { objs := os, lc := lc, fd := fd } Q := h
theorem tail_ok {H : Nat → Option Hook} {v : V} {os : List O} {Q : KF} {w : PW} {μ : List Nat} (h : rdW os 22 = some (w, μ)) (hf : Fin w)
    (hq : ∀ σ', σ'.lc = lc2 v → σ'.fd = f_law → Q (.ret (.bool true)) σ') : TAIL H v os Q := by
  obtain ⟨ls, ll, lh, lw, w0, w1, lt, hold, damp, wo, li, ld, n0, n1, n2, n3, n4, n5, n6⟩ := (reads_of h).ok
  rw [tail_1, n0]
  refine sub_d (x := .ref ll) rfl ?_
  show subO (nth os ll) (.sym 28) _ _
  rw [n1]
  refine sub_d (x := .ref lh) rfl ?_
  refine new_of ?_
  show cmpop .Eq (.ref lh) (.ref os.length) { objs := os ++ [.list [.bool false, .bool false]], lc := lc2 v, fd := f_law } _
  rcases hf with ⟨f1, f2⟩ | ⟨f1, f2, f3, f4, f5⟩
  · rw [f1, f2] at n3
    exact cmp_refs (r := true) (nth_app _ n3) nth_last rfl (hq _ rfl rfl)
  · rw [f1] at n3
    refine cmp_refs (r := false) (nth_app _ n3) nth_last (by cases w.b.held <;> rfl) ?_
    show REST H { objs := os ++ [.list [.bool false, .bool false]], lc := lc2 v, fd := f_law } Q
    rw [tail_2, nth_app _ n0]
    rw [f2, f3] at n2
    refine sub_d (x := .ref ls) rfl ?_
    refine new_of ?_
    show cmpop .Eq (.ref ls) (.ref (os ++ [O.list [V.bool false, V.bool false]]).length) { objs := (os ++ [.list [.bool false, .bool false]]) ++ [.list [.sym 5, .sym 5]], lc := lc2 v, fd := f_law } _
    refine cmp_refs (r := true) (nth_app _ (nth_app _ n2)) nth_last rfl ?_
    generalize hos : (os ++ [O.list [V.bool false, V.bool false]]) ++ [O.list [V.sym 5, V.sym 5]] = os2
    have up : ∀ {l : Nat} {o : O}, nth os l = some o → nth os2 l = some o := fun e => by rw [← hos]; exact nth_app _ (nth_app _ e)
    have m0 := up n0
    have m1 := up n1
    have m4 := up n4
    rw [f4] at n5
    rw [f5] at n6
    obtain ⟨oa, a1, a2, a3⟩ := rdS_nil n5
    obtain ⟨ob, b1, b2, b3⟩ := rdS_nil n6
    have m5 : nth os2 w0 = some oa := up a1
    have m6 : nth os2 w1 = some ob := up b1
    show subO (nth os2 22) (.sym 27) _ _
    rw [m0]
    refine sub_d (x := .ref ll) rfl ?_
    show subO (nth os2 ll) (.sym 29) _ _
    rw [m1]
    refine sub_d (x := .ref lw) rfl ?_
    refine new_of ?_
    refine new_of ?_
    refine new_of ?_
    show cmpop .Eq (.ref lw) (.ref ((os2 ++ [O.list []]) ++ [O.list []]).length) { objs := ((os2 ++ [O.list []]) ++ [O.list []]) ++ [O.list [.ref os2.length, .ref (os2 ++ [O.list []]).length]], lc := lc2 v, fd := f_law } _
    refine cmp_refs (r := true) (nth_app _ (nth_app _ (nth_app _ m4))) nth_last ?_ (hq _ rfl rfl)
    show eqL (eqV _ 3) [.ref w0, .ref w1] [.ref os2.length, .ref (os2 ++ [O.list []]).length] = some true
    have k0 : ∀ {σ : St} {a b : Nat} {oa ob : O}, nth σ.objs a = some oa → tupO oa = none → lstO oa = some [] → nth σ.objs b = some (.list []) → eqV σ 3 (.ref a) (.ref b) = some true := by
      intro σ a b oa ob h1 h2 h3 h4
      rw [eqV_refs h1 h4]
      unfold eqO
      rw [h2, h3]
      rfl
    have e1 := k0 (ob := ob) (σ := { objs := ((os2 ++ [O.list []]) ++ [O.list []]) ++ [O.list [.ref os2.length, .ref (os2 ++ [O.list []]).length]], lc := lc2 v, fd := f_law })
      (nth_app _ (nth_app _ (nth_app _ m5))) a2 a3 (nth_app _ (nth_app _ nth_last))
    have e2 := k0 (ob := ob) (σ := { objs := ((os2 ++ [O.list []]) ++ [O.list []]) ++ [O.list [.ref os2.length, .ref (os2 ++ [O.list []]).length]], lc := lc2 v, fd := f_law })
      (nth_app _ (nth_app _ (nth_app _ m6))) b2 b3 (nth_app _ nth_last)
    unfold eqL
    rw [e1]
    unfold eqL
    rw [e2]
    rfl
end Mine
namespace Mine
open PySem PySem.SeqAt

theorem roles_lt {objs : List O} {μ : Nat → Nat} {cs : List O} (hr : Roles objs μ cs) : ∀ j, j < cs.length → μ j < objs.length := fun j hj => by
  obtain ⟨o', e⟩ := nth_some hj
  obtain ⟨o, e1, _⟩ := hr j o' e
  exact nth_lt e1
theorem idx_at0 {μ : List Nat} (hd : distinct μ = true) {i : Nat} (hi : i < μ.length) : idx μ (at0 μ i) = some i := by
  cases e : idx μ (at0 μ i) with
  | none => exact absurd rfl (idx_none e i hi)
  | some j =>
    obtain ⟨h1, h2⟩ := idx_some e
    rw [distinct_inj hd j i h1 hi h2]
theorem tau_t {kp : Nat → Bool} {μ : List Nat} {N i : Nat} (e : kp i = true) : tauF kp μ N i = at0 μ i := by unfold tauF; rw [e]
theorem tau_f {kp : Nat → Bool} {μ : List Nat} {N i : Nat} (e : kp i = false) : tauF kp μ N i = N + i := by unfold tauF; rw [e]
theorem renew_new {kp : Nat → Bool} {os : List O} {μ : List Nat} {cs : List O} {i : Nat} {c : O} (hc : nth cs i = some c) (hl : μ.length = cs.length) (hd : distinct μ = true)
    (hb : ∀ j, j < μ.length → at0 μ j < os.length) : nth (renew kp os μ cs) (tauF kp μ os.length i) = some (mapO (tauF kp μ os.length) c) := by
  have hi : i < μ.length := by rw [hl]; exact nth_lt hc
  cases hk : kp i with
  | true =>
    rw [tau_t hk]
    unfold renew
    obtain ⟨o, ho⟩ := nth_some (hb i hi)
    rw [nth_append_of, oldO_length, if_pos (hb i hi), oldO_nth, ho]
    show some (pickO _ _ _ _ (0 + at0 μ i) o) = _
    rw [Nat.zero_add]
    unfold pickO
    rw [idx_at0 hd hi]
    show some (match kp i with | true => (match nth cs i with | some c => mapO _ c | none => .gone) | false => .gone) = _
    rw [hk, hc]
  | false =>
    rw [tau_f hk]
    unfold renew
    rw [nth_append_of, oldO_length, if_neg (by omega), newOs_nth, Nat.add_sub_cancel_left, hc]
    show some (match kp (0 + i) with | true => O.gone | false => mapO _ c) = _
    rw [Nat.zero_add, hk]
theorem renew_old {kp : Nat → Bool} {os : List O} {μ : List Nat} {cs : List O} {l : Nat} {o : O} (h : nth os l = some o) (hn : idx μ l = none) : nth (renew kp os μ cs) l = some o := by
  unfold renew
  rw [nth_append_of, oldO_length, if_pos (nth_lt h), oldO_nth, h]
  show some (pickO _ _ _ _ (0 + l) o) = _
  rw [Nat.zero_add]
  unfold pickO
  rw [hn]
theorem tau_inj {kp : Nat → Bool} {μ : List Nat} {N : Nat} (hd : distinct μ = true) (hb : ∀ j, j < μ.length → at0 μ j < N) : Inj (tauF kp μ N) μ.length := by
  intro i j h1 h2 e
  cases e1 : kp i <;> cases e2 : kp j
  · rw [tau_f e1, tau_f e2] at e; omega
  · rw [tau_f e1, tau_t e2] at e; have := hb j h2; omega
  · rw [tau_t e1, tau_f e2] at e; have := hb i h1; omega
  · rw [tau_t e1, tau_t e2] at e; exact distinct_inj hd i j h1 h2 e
theorem rdAt_of {α : Type} {os : List O} {l : Nat} {o : O} {f : O → Option α} (h : nth os l = some o) : rdAt os l f = f o := by
  unfold rdAt; rw [h]
noncomputable def tau16 (τ : Nat → Nat) : List Nat := [τ 0, τ 1, τ 2, τ 3, τ 4, τ 5, τ 6, τ 7, τ 8, τ 9, τ 10, τ 11, τ 12, τ 13, τ 14, τ 15]
theorem rdW_of {os : List O} {τ : Nat → Nat} {w : PW} (h : ∀ i o, nth (cs16 w) i = some o → nth os (τ i) = some (mapO τ o)) : rdW os (τ 0) = some (w, tau16 τ) := by
  have a0 := h 0 _ rfl
  have a1 := h 1 _ rfl
  have a2 := h 2 _ rfl
  have a3 := h 3 _ rfl
  have a4 := h 4 _ rfl
  have a5 := h 5 _ rfl
  have a6 := h 6 _ rfl
  have a7 := h 7 _ rfl
  have a8 := h 8 _ rfl
  have a9 := h 9 _ rfl
  have a10 := h 10 _ rfl
  have a11 := h 11 _ rfl
  have a12 := h 12 _ rfl
  have a13 := h 13 _ rfl
  have a14 := h 14 _ rfl
  have a15 := h 15 _ rfl
  have r0 : rdAt os (τ 0) rd6 = some (τ 1, τ 2, τ 5, w.hold, w.damp, w.wo) := by rw [rdAt_of a0]; rfl
  have r1 : rdAt os (τ 1) rdSS = some (w.a.st, w.b.st) := by rw [rdAt_of a1]; rfl
  have r2 : rdAt os (τ 2) rdRR = some (τ 3, τ 4) := by rw [rdAt_of a2]; rfl
  have r3 : rdAt os (τ 3) rdK = some w.a.ti := by rw [rdAt_of a3]; rfl
  have r4 : rdAt os (τ 4) rdK = some w.b.ti := by rw [rdAt_of a4]; rfl
  have r5 : rdAt os (τ 5) rd4 = some (τ 6, τ 7, τ 10, τ 13) := by rw [rdAt_of a5]; rfl
  have r6 : rdAt os (τ 6) rdBB = some (w.a.held, w.b.held) := by rw [rdAt_of a6]; rfl
  have r7 : rdAt os (τ 7) rdRR = some (τ 8, τ 9) := by rw [rdAt_of a7]; rfl
  have r8 : rdAt os (τ 8) rdS = some w.a.way := by rw [rdAt_of a8]; rfl
  have r9 : rdAt os (τ 9) rdS = some w.b.way := by rw [rdAt_of a9]; rfl
  have r10 : rdAt os (τ 10) rdRR = some (τ 11, τ 12) := by rw [rdAt_of a10]; rfl
  have r11 : rdAt os (τ 11) rdS = some w.a.said := by rw [rdAt_of a11]; rfl
  have r12 : rdAt os (τ 12) rdS = some w.b.said := by rw [rdAt_of a12]; rfl
  have r13 : rdAt os (τ 13) rdRR = some (τ 14, τ 15) := by rw [rdAt_of a13]; rfl
  have r14 : rdAt os (τ 14) rdS = some w.a.heard := by rw [rdAt_of a14]; rfl
  have r15 : rdAt os (τ 15) rdS = some w.b.heard := by rw [rdAt_of a15]; rfl
  unfold rdW
  simp only [r0, r1, r2, r3, r4, r5, r6, r7, r8, r9, r10, r11, r12, r13, r14, r15]
  rfl
theorem rdB_of {os : List O} {lb ls s : Nat} {xs : List Int} (h1 : nth os lb = some (.list [.ref ls, .int (.ofNat s)])) (h2 : nth os ls = some (.nums xs)) : rdB os lb = some (ls, s, xs) := by
  have r1 : rdAt os lb rdBL = some (ls, s) := by rw [rdAt_of h1]; rfl
  have r2 : rdAt os ls rdN = some xs := by rw [rdAt_of h2]; rfl
  unfold rdB
  simp only [r1, r2]
theorem distinct_of : ∀ {μ : List Nat}, Inj (at0 μ) μ.length → distinct μ = true
  | [], _ => rfl
  | a :: r, h => by
    unfold distinct
    have hr : distinct r = true := distinct_of fun i j hi hj e => by
      have := h (i + 1) (j + 1) (Nat.succ_lt_succ hi) (Nat.succ_lt_succ hj) e
      omega
    split
    · rename_i hm
      exfalso
      have : ∃ i, i < r.length ∧ at0 r i = a := by
        clear h hr
        induction r with
        | nil => cases hm
        | cons b r ih =>
          unfold memN at hm
          split at hm
          · rename_i e; exact ⟨0, by simp, Nat.eq_of_beq_eq_true e⟩
          · obtain ⟨i, h1, h2⟩ := ih hm
            exact ⟨i + 1, Nat.succ_lt_succ h1, h2⟩
      obtain ⟨i, h1, h2⟩ := this
      have := h 0 (i + 1) (by simp) (Nat.succ_lt_succ h1) h2.symm
      omega
    · exact hr
structure Good (os : List O) (w : PW) (s : Nat) (μ : List Nat) (ls : Nat) (xs : List Int) : Prop where
  rw : rdW os 22 = some (w, μ)
  rb : rdB os 3 = some (ls, s, xs)
  d : distinct (μ ++ [3, ls]) = true
theorem tau16_at {τ : Nat → Nat} {i : Nat} (hi : i < 16) : at0 (tau16 τ) i = τ i := by
  match i, hi with
  | 0, _ | 1, _ | 2, _ | 3, _ | 4, _ | 5, _ | 6, _ | 7, _ | 8, _ | 9, _ | 10, _ | 11, _ | 12, _ | 13, _ | 14, _ | 15, _ => rfl
  | i + 16, hi => omega
theorem tau18_at {τ : Nat → Nat} {i : Nat} (hi : i < 18) : at0 (tau16 τ ++ [τ 16, τ 17]) i = τ i := by
  match i, hi with
  | 0, _ | 1, _ | 2, _ | 3, _ | 4, _ | 5, _ | 6, _ | 7, _ | 8, _ | 9, _ | 10, _ | 11, _ | 12, _ | 13, _ | 14, _ | 15, _ | 16, _ | 17, _ => rfl
  | i + 18, hi => omega
theorem good_B {os : List O} {w : PW} {s : Nat} {μ : List Nat} {ls : Nat} {xs : List Int} (g : Good os w s μ ls xs) (hl : Lens w) (w' : PW) (s' : Nat) :
    ∃ μ' ls', Good (renew kpB os (μ ++ [3, ls]) (cs18 w' s' xs)) w' s' μ' ls' xs := by
  obtain ⟨l1, l2, _⟩ := rdW_roles g.rw hl
  have ro := cs18_roles g.rw hl g.rb
  have hlen : (μ ++ [3, ls]).length = 18 := by rw [List.length_append, l1]; rfl
  have hb : ∀ j, j < (μ ++ [3, ls]).length → at0 (μ ++ [3, ls]) j < os.length := fun j hj => roles_lt ro j (by rw [hlen] at hj; exact hj)
  generalize hτ : tauF kpB (μ ++ [3, ls]) os.length = τ
  have hn : ∀ i o, nth (cs18 w' s' xs) i = some o → nth (renew kpB os (μ ++ [3, ls]) (cs18 w' s' xs)) (τ i) = some (mapO τ o) := fun i o h => by
    rw [← hτ]; exact renew_new h (by rw [hlen]; rfl) g.d hb
  have t0 : τ 0 = 22 := by rw [← hτ, tau_t rfl, at0_app (by rw [l1]; omega)]; exact l2
  have t16 : τ 16 = 3 := by
    rw [← hτ, tau_t rfl]; exact at16 l1
  have w16 : ∀ i o, nth (cs16 w') i = some o → nth (cs18 w' s' xs) i = some o := fun i o h => nth_app _ h
  refine ⟨tau16 τ, τ 17, ?_, ?_, ?_⟩
  · rw [← t0]; exact rdW_of fun i o h => hn i o (w16 i o h)
  · have h16 := hn 16 _ rfl
    have h17 := hn 17 _ rfl
    have e := rdB_of h16 h17
    rw [t16] at e
    exact e
  · rw [← t16]
    refine distinct_of fun i j hi hj e => ?_
    have hi : i < 18 := hi
    have hj : j < 18 := hj
    rw [tau18_at hi, tau18_at hj] at e
    have := tau_inj (kp := kpB) g.d hb
    rw [hτ, hlen] at this
    exact this i j hi hj e
theorem good_W {os : List O} {w : PW} {s : Nat} {μ : List Nat} {ls : Nat} {xs : List Int} (g : Good os w s μ ls xs) (hl : Lens w) (w' : PW) :
    ∃ μ', Good (renew (kpW false) os μ (cs16 w')) w' s μ' ls xs := by
  obtain ⟨l1, l2, ro⟩ := rdW_roles g.rw hl
  have hb : ∀ j, j < μ.length → at0 μ j < os.length := fun j hj => roles_lt ro j (by rw [l1] at hj; exact hj)
  have inj := distinct_inj g.d
  have hlen : (μ ++ [3, ls]).length = 18 := by rw [List.length_append, l1]; rfl
  rw [hlen] at inj
  have b16 : at0 (μ ++ [3, ls]) 16 = 3 := at16 l1
  have b17 : at0 (μ ++ [3, ls]) 17 = ls := at17 l1
  have dm : distinct μ = true := distinct_of fun i j hi hj e => by
    have h1 : i < 16 := by rw [← l1]; exact hi
    have h2 : j < 16 := by rw [← l1]; exact hj
    exact inj i j (by omega) (by omega) (by rw [at0_app hi, at0_app hj]; exact e)
  have i3 : idx μ 3 = none := by
    cases e : idx μ 3 with
    | none => rfl
    | some j =>
      obtain ⟨h1, h2⟩ := idx_some e
      have h3 : j < 16 := by rw [← l1]; exact h1
      have := inj j 16 (by omega) (by omega) (by rw [at0_app h1, b16]; exact h2)
      omega
  have il : idx μ ls = none := by
    cases e : idx μ ls with
    | none => rfl
    | some j =>
      obtain ⟨h1, h2⟩ := idx_some e
      have h3 : j < 16 := by rw [← l1]; exact h1
      have := inj j 17 (by omega) (by omega) (by rw [at0_app h1, b17]; exact h2)
      omega
  obtain ⟨e1, e2⟩ := rdB_at g.rb
  obtain ⟨ob, p1, p2⟩ := rd_at e1
  obtain ⟨on, q1, q2⟩ := rd_at e2
  generalize hτ : tauF (kpW false) μ os.length = τ
  have hn : ∀ i o, nth (cs16 w') i = some o → nth (renew (kpW false) os μ (cs16 w')) (τ i) = some (mapO τ o) := fun i o h => by
    rw [← hτ]; exact renew_new h (by rw [l1]; rfl) dm hb
  have t0 : τ 0 = 22 := by rw [← hτ, tau_t rfl]; exact l2
  have ti := tau_inj (kp := kpW false) dm hb
  rw [hτ, l1] at ti
  have n3 : 3 ≠ ls := fun e => by
    have := inj 16 17 (by omega) (by omega) (by rw [b16, b17]; exact e)
    omega
  have tn : ∀ i, i < 16 → ∀ l, idx μ l = none → l < os.length → τ i ≠ l := fun i hi l hl hlt e => by
    cases hk : kpW false i with
    | true => rw [← hτ, tau_t hk] at e; exact idx_none hl i (by rw [l1]; exact hi) e
    | false => rw [← hτ, tau_f hk] at e; omega
  refine ⟨tau16 τ, ?_, ?_, ?_⟩
  · rw [← t0]; exact rdW_of hn
  · have r1 : rdAt (renew (kpW false) os μ (cs16 w')) 3 rdBL = some (ls, s) := by rw [rdAt_of (renew_old p1 i3)]; exact p2
    have r2 : rdAt (renew (kpW false) os μ (cs16 w')) ls rdN = some xs := by rw [rdAt_of (renew_old q1 il)]; exact q2
    unfold rdB
    simp only [r1, r2]
  · refine distinct_of fun i j hi hj e => ?_
    have hi : i < 18 := hi
    have hj : j < 18 := hj
    have v : ∀ i, i < 18 → (i < 16 ∧ at0 (tau16 τ ++ [3, ls]) i = τ i) ∨ (i = 16 ∧ at0 (tau16 τ ++ [3, ls]) i = 3) ∨ (i = 17 ∧ at0 (tau16 τ ++ [3, ls]) i = ls) := fun i hi => by
      by_cases h : i < 16
      · left; refine ⟨h, ?_⟩; rw [at0_app h, tau16_at h]
      · by_cases h' : i = 16
        · subst h'; exact .inr (.inl ⟨rfl, rfl⟩)
        · have : i = 17 := by omega
          subst this; exact .inr (.inr ⟨rfl, rfl⟩)
    rcases v i hi with ⟨a1, a2⟩ | ⟨a1, a2⟩ | ⟨a1, a2⟩ <;> rcases v j hj with ⟨b1, b2⟩ | ⟨b1, b2⟩ | ⟨b1, b2⟩ <;> rw [a2, b2] at e
    · exact ti i j a1 b1 e
    · exact absurd e (tn i a1 3 i3 (nth_lt p1))
    · exact absurd e (tn i a1 ls il (nth_lt q1))
    · exact absurd e.symm (tn j b1 3 i3 (nth_lt p1))
    · omega
    · exact absurd e n3
    · exact absurd e.symm (tn j b1 ls il (nth_lt q1))
    · exact absurd e.symm n3
    · omega
end Mine
namespace Mine
open PySem

noncomputable def tiOps : List Op → List Nat → List Nat
  | [], t => t
  | .clear k :: r, t => tiOps r (delK t k)
  | .set k :: r, t => tiOps r (addK t k)
  | .release :: r, t => tiOps r (filt [10, 12] t)
  | .say _ :: r, t => tiOps r t
  | .close :: r, t => tiOps r t
noncomputable def hasC : List Op → Bool
  | [] => false
  | .close :: _ => true
  | _ :: r => hasC r
noncomputable def sayOps : List Op → List Nat
  | [] => []
  | .say k :: r => k :: sayOps r
  | _ :: r => sayOps r
noncomputable def wayC (c : Bool) (xs : List Nat) : List Nat := match c with | true => [] | false => xs
noncomputable def wayO (h : Bool) (xs suf : List Nat) : List Nat := match h with | true => xs ++ suf | false => xs
theorem opsDo_eq : ∀ (ops : List Op) (m o : EN), opsDo ops (m, o) =
    (⟨m.st, tiOps ops m.ti, m.held && !(hasC ops), wayC (hasC ops) m.way, m.said ++ sayOps ops, m.heard⟩, ⟨o.st, o.ti, o.held, wayO o.held o.way (sayOps ops), o.said, o.heard⟩)
  | [], ⟨s, t, h, y, i, d⟩, ⟨s', t', h', y', i', d'⟩ => by cases h <;> cases h' <;> simp [opsDo, tiOps, hasC, sayOps, wayC, wayO]
  | .clear k :: r, ⟨s, t, h, y, i, d⟩, ⟨s', t', h', y', i', d'⟩ => by
    show opsDo r (⟨s, delK t k, h, y, i, d⟩, ⟨s', t', h', y', i', d'⟩) = _
    rw [opsDo_eq r]; rfl
  | .set k :: r, ⟨s, t, h, y, i, d⟩, ⟨s', t', h', y', i', d'⟩ => by
    show opsDo r (⟨s, addK t k, h, y, i, d⟩, ⟨s', t', h', y', i', d'⟩) = _
    rw [opsDo_eq r]; rfl
  | .release :: r, ⟨s, t, h, y, i, d⟩, ⟨s', t', h', y', i', d'⟩ => by
    show opsDo r (⟨s, filt [10, 12] t, h, y, i, d⟩, ⟨s', t', h', y', i', d'⟩) = _
    rw [opsDo_eq r]; rfl
  | .say k :: r, ⟨s, t, h, y, i, d⟩, ⟨s', t', true, y', i', d'⟩ => by
    show opsDo r (⟨s, t, h, y, i ++ [k], d⟩, ⟨s', t', true, y' ++ [k], i', d'⟩) = _
    rw [opsDo_eq r]; simp [tiOps, hasC, sayOps, wayO]
  | .say k :: r, ⟨s, t, h, y, i, d⟩, ⟨s', t', false, y', i', d'⟩ => by
    show opsDo r (⟨s, t, h, y, i ++ [k], d⟩, ⟨s', t', false, y', i', d'⟩) = _
    rw [opsDo_eq r]; simp [tiOps, hasC, sayOps, wayO]
  | .close :: r, ⟨s, t, h, y, i, d⟩, ⟨s', t', h', y', i', d'⟩ => by
    show opsDo r (⟨s, t, false, [], i, d⟩, ⟨s', t', h', y', i', d'⟩) = _
    rw [opsDo_eq r]; cases hasC r <;> simp [tiOps, hasC, sayOps, wayC]

noncomputable def hapE (m o : EN) (hp damp : Bool) (ev : Nat) : EN × EN := match tab m.st ev hp damp with
  | some (st, ops) => opsDo ops (enter m st, o)
  | none => (m, o)
theorem mk_same (w : PW) {e : Nat} (he : e = 0 ∨ e = 1) : mk w e (me w e, ot w e) = w := by rcases he with rfl | rfl <;> rfl
theorem me_mk (w : PW) {e : Nat} (he : e = 0 ∨ e = 1) (p : EN × EN) : me (mk w e p) e = p.1 := by rcases he with rfl | rfl <;> rfl
theorem ot_mk (w : PW) {e : Nat} (he : e = 0 ∨ e = 1) (p : EN × EN) : ot (mk w e p) e = p.2 := by rcases he with rfl | rfl <;> rfl
theorem hold_mk (w : PW) {e : Nat} (he : e = 0 ∨ e = 1) (p : EN × EN) : (mk w e p).hold = w.hold := by rcases he with rfl | rfl <;> rfl
theorem damp_mk (w : PW) {e : Nat} (he : e = 0 ∨ e = 1) (p : EN × EN) : (mk w e p).damp = w.damp := by rcases he with rfl | rfl <;> rfl
theorem mk_mk (w : PW) {e : Nat} (he : e = 0 ∨ e = 1) (p q : EN × EN) : mk (mk w e p) e q = mk w e q := by rcases he with rfl | rfl <;> rfl
theorem pHap_eq (w : PW) {e : Nat} (he : e = 0 ∨ e = 1) (ev : Nat) : pHap w e ev = mk w e (hapE (me w e) (ot w e) (hpOf w.hold) w.damp ev) := by
  unfold pHap hapE
  cases tab (me w e).st ev (hpOf w.hold) w.damp with
  | some p => rfl
  | none => exact (mk_same w he).symm

/-- what timers an end may run -/
noncomputable def tis (st : Nat) : List (List Nat) := match st with
  | 0 => [[], [12]]
  | 1 => [[], [10]]
  | 2 => [[], [10]]
  | 3 => [[], [11]]
  | _ => [[], [7], [11], [7, 11], [11, 7]]
noncomputable def enterT (st : Nat) (ti : List Nat) : List Nat := match st with | 0 => ti | _ => delK ti 12
theorem enter_eq (m : EN) (st : Nat) : enter m st = ⟨st, enterT st m.ti, m.held, m.way, m.said, m.heard⟩ := by
  cases st <;> rfl
theorem hapE_eq {m o : EN} {hp damp : Bool} {ev st : Nat} {ops : List Op} (h : tab m.st ev hp damp = some (st, ops)) : hapE m o hp damp ev =
    (⟨st, tiOps ops (enterT st m.ti), m.held && !(hasC ops), wayC (hasC ops) m.way, m.said ++ sayOps ops, m.heard⟩, ⟨o.st, o.ti, o.held, wayO o.held o.way (sayOps ops), o.said, o.heard⟩) := by
  unfold hapE
  rw [h]
  show opsDo ops (enter m st, o) = _
  rw [enter_eq]
  exact opsDo_eq _ _ _

/-- the events that are no words and no join -/
noncomputable def quiets : List (Nat × Nat) := [(0, 15), (0, 16), (0, 19), (0, 20), (0, 23), (1, 15), (1, 16), (1, 19), (1, 20), (1, 22), (2, 15), (2, 16), (2, 19), (2, 20), (2, 22),
  (3, 15), (3, 16), (3, 18), (3, 19), (3, 20), (3, 21), (4, 15), (4, 16), (4, 18), (4, 19), (4, 20), (4, 21), (4, 24), (5, 15), (5, 16), (5, 18), (5, 19), (5, 20), (5, 21), (5, 24)]
noncomputable def isL (a b : List Nat) : Bool := decide (a = b)
noncomputable def sufOk (st st' : Nat) (suf : List Nat) : Bool := match heldOf st' with
  | true => Nat.beq st' st && (isL suf [] || (isL suf [7] && (Nat.beq st 4 || Nat.beq st 5)))
  | false => isL suf [] || (isL suf [9] && heldOf st)
noncomputable def quietB (st ev : Nat) (hp damp : Bool) : Bool := match tab st ev hp damp with
  | some (st', ops) => Nat.blt st' 6 && (tis st).all (fun ti => (tis st').any fun u => isL (tiOps ops (enterT st' ti)) u) && beqB (heldOf st') (heldOf st && !(hasC ops)) && sufOk st st' (sayOps ops)
  | none => false
theorem quiet_all : quiets.all (fun p => [true, false].all fun hp => [true, false].all fun damp => quietB p.1 p.2 hp damp) = true := by decide +kernel
structure Quiet (st ev : Nat) (hp damp : Bool) (st' : Nat) (ops : List Op) : Prop where
  t : tab st ev hp damp = some (st', ops)
  s6 : st' < 6
  ti : ∀ ti, ti ∈ tis st → tiOps ops (enterT st' ti) ∈ tis st'
  hh : heldOf st' = (heldOf st && !(hasC ops))
  on : heldOf st' = true → st' = st ∧ (sayOps ops = [] ∨ (sayOps ops = [7] ∧ (st = 4 ∨ st = 5)))
  off : heldOf st' = false → sayOps ops = [] ∨ (sayOps ops = [9] ∧ heldOf st = true)
theorem beqT {a b : Bool} (h : beqB a b = true) : a = b := by cases a <;> cases b <;> first | rfl | cases h
theorem quiet_of {st ev : Nat} (h : (st, ev) ∈ quiets) (hp damp : Bool) : ∃ st' ops, Quiet st ev hp damp st' ops := by
  have h1 := List.all_eq_true.mp quiet_all _ h
  have h2 := List.all_eq_true.mp h1 hp (by cases hp <;> simp)
  have h3 := List.all_eq_true.mp h2 damp (by cases damp <;> simp)
  unfold quietB at h3
  split at h3
  · rename_i st' ops e
    simp only [Bool.and_eq_true] at h3
    obtain ⟨⟨⟨a, b⟩, c⟩, d⟩ := h3
    refine ⟨st', ops, e, Nat.le_of_ble_eq_true a, fun ti ht => ?_, beqT c, fun hh => ?_, fun hh => ?_⟩
    · have := List.all_eq_true.mp b ti ht
      obtain ⟨u, u1, u2⟩ := List.any_eq_true.mp this
      rw [of_decide_eq_true u2]; exact u1
    · unfold sufOk at d
      rw [hh] at d
      simp only [Bool.and_eq_true, Bool.or_eq_true] at d
      obtain ⟨d1, d2⟩ := d
      refine ⟨Nat.eq_of_beq_eq_true d1, ?_⟩
      rcases d2 with d2 | ⟨d2, d3⟩
      · exact .inl (of_decide_eq_true d2)
      · refine .inr ⟨of_decide_eq_true d2, ?_⟩
        rcases d3 with d3 | d3
        · exact .inl (Nat.eq_of_beq_eq_true d3)
        · exact .inr (Nat.eq_of_beq_eq_true d3)
    · unfold sufOk at d
      rw [hh] at d
      simp only [Bool.and_eq_true, Bool.or_eq_true] at d
      rcases d with d2 | ⟨d2, d3⟩
      · exact .inl (of_decide_eq_true d2)
      · exact .inr ⟨of_decide_eq_true d2, d3⟩
  · cases h3

/-! what holds of an end and its other -/
noncomputable def Tail (r : List Nat) : Prop := ∀ x ∈ r, x = 7 ∨ x = 8
noncomputable def Body (b : List Nat) : Prop := b = [6] ∨ ∃ r, b = 6 :: 7 :: r ∧ Tail r
noncomputable def Over (b : List Nat) : Prop := Body b ∨ ∃ c, Body c ∧ b = c ++ [9]
structure EndOk (m o : EN) : Prop where
  s6 : m.st < 6
  ti : m.ti ∈ tis m.st
  hh : m.held = heldOf m.st
  line : m.held = true → m.heard ++ m.way = o.said
  s3 : m.st = 3 → m.said = [6] ∧ m.heard = []
  s4 : m.st = 4 → (∃ r, m.said = 6 :: 7 :: r ∧ ∀ x ∈ r, x = 7) ∧ m.heard = [6]
  s5 : m.st = 5 → (∃ r, m.said = 6 :: 7 :: r ∧ Tail r) ∧ ∃ r', m.heard = 6 :: 7 :: r'
  over : m.held = false → o.held = true → Over m.said
structure Inv (w : PW) : Prop where
  a : EndOk w.a w.b
  b : EndOk w.b w.a
  hold : w.hold = 0 ∨ w.hold = 9
theorem Inv.me {w : PW} (h : Inv w) {e : Nat} (he : e = 0 ∨ e = 1) : EndOk (me w e) (ot w e) := by rcases he with rfl | rfl; exact h.a; exact h.b
theorem Inv.ot {w : PW} (h : Inv w) {e : Nat} (he : e = 0 ∨ e = 1) : EndOk (ot w e) (Mine.me w e) := by rcases he with rfl | rfl; exact h.b; exact h.a
theorem Inv.put {w : PW} (h : Inv w) {e : Nat} (he : e = 0 ∨ e = 1) {p : EN × EN} (h1 : EndOk p.1 p.2) (h2 : EndOk p.2 p.1) : Inv (Mine.mk w e p) := by
  rcases he with rfl | rfl
  · exact ⟨h1, h2, h.hold⟩
  · exact ⟨h2, h1, h.hold⟩
theorem heldOf_cases {s : Nat} (h : s < 6) : heldOf s = true ∧ (s = 3 ∨ s = 4 ∨ s = 5) ∨ heldOf s = false ∧ (s = 0 ∨ s = 1 ∨ s = 2) := by
  match s, h with
  | 0, _ => exact .inr ⟨rfl, .inl rfl⟩
  | 1, _ => exact .inr ⟨rfl, .inr (.inl rfl)⟩
  | 2, _ => exact .inr ⟨rfl, .inr (.inr rfl)⟩
  | 3, _ => exact .inl ⟨rfl, .inl rfl⟩
  | 4, _ => exact .inl ⟨rfl, .inr (.inl rfl)⟩
  | 5, _ => exact .inl ⟨rfl, .inr (.inr rfl)⟩
  | n + 6, h => omega
theorem EndOk.body {m o : EN} (h : EndOk m o) (hh : m.held = true) : Body m.said := by
  rw [h.hh] at hh
  rcases heldOf_cases h.s6 with ⟨_, e | e | e⟩ | ⟨e, _⟩
  · exact .inl (h.s3 e).1
  · obtain ⟨⟨r, r1, r2⟩, _⟩ := h.s4 e
    exact .inr ⟨r, r1, fun x hx => .inl (r2 x hx)⟩
  · obtain ⟨⟨r, r1, r2⟩, _⟩ := h.s5 e
    exact .inr ⟨r, r1, r2⟩
  · rw [e] at hh; cases hh
theorem EndOk.overs {m o : EN} (h : EndOk m o) (ho : o.held = true) : Over m.said := by
  cases hh : m.held with
  | true => exact .inl (h.body hh)
  | false => exact h.over hh ho
theorem tail_app {r : List Nat} (h : Tail r) {x : Nat} (hx : x = 7 ∨ x = 8) : Tail (r ++ [x]) := fun y hy => by
  rcases List.mem_append.mp hy with hy | hy
  · exact h y hy
  · rcases List.mem_singleton.mp hy with rfl; exact hx

/-- a quiet event -/
theorem quiet_ok {m o : EN} (h1 : EndOk m o) (h2 : EndOk o m) {ev : Nat} (hq : (m.st, ev) ∈ quiets) (hp damp : Bool) :
    EndOk (hapE m o hp damp ev).1 (hapE m o hp damp ev).2 ∧ EndOk (hapE m o hp damp ev).2 (hapE m o hp damp ev).1 := by
  obtain ⟨st', ops, Q⟩ := quiet_of hq hp damp
  rw [hapE_eq Q.t]
  have hheld : (m.held && !(hasC ops)) = heldOf st' := by rw [h1.hh, Q.hh]
  constructor
  · refine ⟨Q.s6, Q.ti _ h1.ti, hheld, fun hh => ?_, fun e => ?_, fun e => ?_, fun e => ?_, fun hh ho => ?_⟩
    · have hh : (m.held && !(hasC ops)) = true := hh
      simp only [Bool.and_eq_true, Bool.not_eq_true'] at hh
      show m.heard ++ wayC (hasC ops) m.way = o.said
      rw [hh.2]
      exact h1.line hh.1
    · have e : st' = 3 := e
      obtain ⟨x, y⟩ := Q.on (by rw [e]; rfl)
      rw [e] at x
      obtain ⟨p, q⟩ := h1.s3 x.symm
      refine ⟨?_, q⟩
      show m.said ++ sayOps ops = [6]
      rcases y with y | ⟨_, y | y⟩
      · rw [y, p]; rfl
      · omega
      · omega
    · have e : st' = 4 := e
      obtain ⟨x, y⟩ := Q.on (by rw [e]; rfl)
      rw [e] at x
      obtain ⟨⟨r, r1, r2⟩, q⟩ := h1.s4 x.symm
      refine ⟨?_, q⟩
      rcases y with y | ⟨y, _⟩
      · exact ⟨r, by show m.said ++ sayOps ops = _; rw [y, r1]; simp, r2⟩
      · refine ⟨r ++ [7], by show m.said ++ sayOps ops = _; rw [y, r1]; simp, fun z hz => ?_⟩
        rcases List.mem_append.mp hz with hz | hz
        · exact r2 z hz
        · exact List.mem_singleton.mp hz
    · have e : st' = 5 := e
      obtain ⟨x, y⟩ := Q.on (by rw [e]; rfl)
      rw [e] at x
      obtain ⟨⟨r, r1, r2⟩, q⟩ := h1.s5 x.symm
      refine ⟨?_, q⟩
      rcases y with y | ⟨y, _⟩
      · exact ⟨r, by show m.said ++ sayOps ops = _; rw [y, r1]; simp, r2⟩
      · exact ⟨r ++ [7], by show m.said ++ sayOps ops = _; rw [y, r1]; simp, tail_app r2 (.inl rfl)⟩
    · have hh : (m.held && !(hasC ops)) = false := hh
      have ho : o.held = true := ho
      rw [hheld] at hh
      show Over (m.said ++ sayOps ops)
      rcases Q.off hh with y | ⟨y, z⟩
      · rw [y, List.append_nil]; exact h1.overs ho
      · rw [y]; exact .inr ⟨m.said, h1.body (by rw [h1.hh]; exact z), rfl⟩
  · refine ⟨h2.s6, h2.ti, h2.hh, fun hh => ?_, h2.s3, h2.s4, h2.s5, fun hh ho => ?_⟩
    · have hh : o.held = true := hh
      show o.heard ++ wayO o.held o.way (sayOps ops) = m.said ++ sayOps ops
      rw [hh, ← h2.line hh]
      simp [wayO]
    · have hh : o.held = false := hh
      have ho : (m.held && !(hasC ops)) = true := ho
      simp only [Bool.and_eq_true] at ho
      exact h2.over hh ho.1
end Mine
namespace Mine
open PySem

structure LenE (n : Nat) (m : EN) : Prop where
  way : m.way.length ≤ n
  said : m.said.length ≤ n
  heard : m.heard.length ≤ n
structure LenW (n : Nat) (w : PW) : Prop where
  a : LenE n w.a
  b : LenE n w.b
theorem LenE.le {n k : Nat} {m : EN} (h : LenE n m) (hk : n ≤ k) : LenE k m := ⟨by have := h.way; omega, by have := h.said; omega, by have := h.heard; omega⟩
theorem LenW.me {n : Nat} {w : PW} (h : LenW n w) {e : Nat} (he : e = 0 ∨ e = 1) : LenE n (me w e) := by rcases he with rfl | rfl; exact h.a; exact h.b
theorem LenW.ot {n : Nat} {w : PW} (h : LenW n w) {e : Nat} (he : e = 0 ∨ e = 1) : LenE n (ot w e) := by rcases he with rfl | rfl; exact h.b; exact h.a
theorem LenW.put {n : Nat} {w : PW} {e : Nat} (he : e = 0 ∨ e = 1) {p : EN × EN} (h1 : LenE n p.1) (h2 : LenE n p.2) : LenW n (Mine.mk w e p) := by
  rcases he with rfl | rfl
  · exact ⟨h1, h2⟩
  · exact ⟨h2, h1⟩
theorem tis_len {st : Nat} {ti : List Nat} (h : ti ∈ tis st) : ti.length ≤ 50 := by
  unfold tis at h
  split at h <;> simp only [List.mem_cons, List.not_mem_nil, or_false] at h <;> (rcases h with rfl | rfl | rfl | rfl | rfl) <;> simp
theorem lensE_of {n : Nat} {m o : EN} (h : LenE n m) (hn : n ≤ 90) (he : EndOk m o) : LensE m := ⟨tis_len he.ti, by have := h.way; show _ ≤ 90; omega, by have := h.said; show _ ≤ 90; omega, by have := h.heard; show _ ≤ 90; omega⟩
theorem lens_of {n : Nat} {w : PW} (h : LenW n w) (hn : n ≤ 90) (hi : Inv w) : Lens w := ⟨lensE_of h.a hn hi.a, lensE_of h.b hn hi.b⟩
theorem wayC_len {c : Bool} {xs : List Nat} : (wayC c xs).length ≤ xs.length := by cases c <;> simp [wayC]
theorem wayO_len {h : Bool} {xs suf : List Nat} : (wayO h xs suf).length ≤ xs.length + suf.length := by cases h <;> simp [wayO]
theorem hap_len {m o : EN} {hp damp : Bool} {ev st : Nat} {ops : List Op} (t : tab m.st ev hp damp = some (st, ops)) (hs : (sayOps ops).length ≤ 1) {n : Nat} (h1 : LenE n m) (h2 : LenE n o) :
    LenE (n + 1) (hapE m o hp damp ev).1 ∧ LenE (n + 1) (hapE m o hp damp ev).2 := by
  rw [hapE_eq t]
  constructor
  · refine ⟨?_, ?_, ?_⟩
    · have := wayC_len (c := hasC ops) (xs := m.way); have := h1.way; show (wayC _ _).length ≤ _; omega
    · show (m.said ++ sayOps ops).length ≤ _; rw [List.length_append]; have := h1.said; omega
    · show m.heard.length ≤ _; have := h1.heard; omega
  · refine ⟨?_, ?_, ?_⟩
    · have := wayO_len (h := o.held) (xs := o.way) (suf := sayOps ops); have := h2.way; show (wayO _ _ _).length ≤ _; omega
    · show o.said.length ≤ _; have := h2.said; omega
    · show o.heard.length ≤ _; have := h2.heard; omega
theorem quiet_len {m o : EN} {ev : Nat} (hq : (m.st, ev) ∈ quiets) (hp damp : Bool) {n : Nat} (h1 : LenE n m) (h2 : LenE n o) :
    LenE (n + 1) (hapE m o hp damp ev).1 ∧ LenE (n + 1) (hapE m o hp damp ev).2 := by
  obtain ⟨st', ops, Q⟩ := quiet_of hq hp damp
  refine hap_len Q.t ?_ h1 h2
  cases hh : heldOf st' with
  | true => rcases (Q.on hh).2 with e | ⟨e, _⟩ <;> rw [e] <;> decide
  | false => rcases Q.off hh with e | ⟨e, _⟩ <;> rw [e] <;> decide
theorem quiets_pairs : ∀ p ∈ quiets, p ∈ pairs := by decide +kernel
theorem quiets_ev : ∀ p ∈ quiets, p.2 ≠ 17 := by decide +kernel
theorem heldIn_of {st ev : Nat} (h : ev ≠ 17) : heldIn st ev = heldOf st := by
  unfold heldIn
  split
  · exact absurd rfl h
  · rfl
/-- a quiet event in a world -/
theorem quiet_w {w : PW} {n e ev : Nat} (hi : Inv w) (hl : LenW n w) (hn : n < 90) (he : e = 0 ∨ e = 1) (hq : ((me w e).st, ev) ∈ quiets) :
    PreH w e ev ∧ Inv (pHap w e ev) ∧ LenW (n + 1) (pHap w e ev) := by
  have k := quiet_ok (hi.me he) (hi.ot he) hq (hpOf w.hold) w.damp
  have l := quiet_len hq (hpOf w.hold) w.damp (hl.me he) (hl.ot he)
  have i2 : Inv (pHap w e ev) := by rw [pHap_eq w he]; exact hi.put he k.1 k.2
  have l2 : LenW (n + 1) (pHap w e ev) := by rw [pHap_eq w he]; exact LenW.put he l.1 l.2
  refine ⟨⟨he, quiets_pairs _ hq, ?_, hi.hold, lens_of l2 (by omega) i2⟩, i2, l2⟩
  rw [heldIn_of (quiets_ev _ hq)]; exact (hi.me he).hh

/-! words -/
noncomputable def words : List (Nat × Nat) := [(3, 6), (4, 7), (5, 7), (5, 8), (4, 9), (5, 9)]
noncomputable def wordB (st ev : Nat) (hp damp : Bool) : Bool := match tab st ev hp damp with
  | some (st', ops) => Nat.blt st' 6 && (tis st).all (fun ti => (tis st').any fun u => isL (tiOps ops (enterT st' ti)) u) && beqB (hasC ops) (!(heldOf st')) && !(Nat.beq st' 3) &&
      (Nat.beq st 3 || isL (sayOps ops) []) && Nat.blt (sayOps ops).length 2 &&
      (Nat.beq ev 9 && Nat.beq st' 0 || (Nat.beq ev 6 && Nat.beq st' 4 && isL (sayOps ops) [7] || (Nat.beq ev 7 || Nat.beq ev 8) && Nat.beq st' 5))
  | none => false
theorem word_all : words.all (fun p => [true, false].all fun hp => [true, false].all fun damp => wordB p.1 p.2 hp damp) = true := by decide +kernel
structure Word (st ev : Nat) (hp damp : Bool) (st' : Nat) (ops : List Op) : Prop where
  t : tab st ev hp damp = some (st', ops)
  s6 : st' < 6
  ti : ∀ ti, ti ∈ tis st → tiOps ops (enterT st' ti) ∈ tis st'
  hc : hasC ops = !(heldOf st')
  n3 : st' ≠ 3
  suf : st ≠ 3 → sayOps ops = []
  len : (sayOps ops).length ≤ 1
  to : (ev = 9 ∧ st' = 0) ∨ (ev = 6 ∧ st' = 4 ∧ sayOps ops = [7]) ∨ ((ev = 7 ∨ ev = 8) ∧ st' = 5)
theorem word_of {st ev : Nat} (h : (st, ev) ∈ words) (hp damp : Bool) : ∃ st' ops, Word st ev hp damp st' ops := by
  have h1 := List.all_eq_true.mp word_all _ h
  have h2 := List.all_eq_true.mp h1 hp (by cases hp <;> simp)
  have h3 := List.all_eq_true.mp h2 damp (by cases damp <;> simp)
  unfold wordB at h3
  split at h3
  · rename_i st' ops e
    simp only [Bool.and_eq_true, Bool.or_eq_true, Bool.not_eq_true'] at h3
    obtain ⟨⟨⟨⟨⟨⟨a, b⟩, c⟩, d⟩, f⟩, g⟩, z⟩ := h3
    refine ⟨st', ops, e, Nat.le_of_ble_eq_true a, fun ti ht => ?_, beqT c, fun x => ?_, fun x => ?_, Nat.le_of_lt_succ (Nat.le_of_ble_eq_true g), ?_⟩
    · have := List.all_eq_true.mp b ti ht
      obtain ⟨u, u1, u2⟩ := List.any_eq_true.mp this
      rw [of_decide_eq_true u2]; exact u1
    · rw [x] at d; cases d
    · rcases f with f | f
      · exact absurd (Nat.eq_of_beq_eq_true f) x
      · exact of_decide_eq_true f
    · rcases z with ⟨z1, z2⟩ | ⟨⟨z1, z2⟩, z3⟩ | ⟨z1, z2⟩
      · exact .inl ⟨Nat.eq_of_beq_eq_true z1, Nat.eq_of_beq_eq_true z2⟩
      · exact .inr (.inl ⟨Nat.eq_of_beq_eq_true z1, Nat.eq_of_beq_eq_true z2, of_decide_eq_true z3⟩)
      · refine .inr (.inr ⟨?_, Nat.eq_of_beq_eq_true z2⟩)
        rcases z1 with z1 | z1
        · exact .inl (Nat.eq_of_beq_eq_true z1)
        · exact .inr (Nat.eq_of_beq_eq_true z1)
  · cases h3
theorem words_pairs : ∀ p ∈ words, p ∈ pairs := by decide +kernel
theorem words_ev : ∀ p ∈ words, p.2 ≠ 17 := by decide +kernel

theorem word_gen {m o : EN} {hp damp : Bool} {x st' : Nat} {xs : List Nat} {ops : List Op} (h1 : EndOk m o) (h2 : EndOk o m) (hw : m.way = x :: xs) (hm : m.held = true) (W : Word m.st x hp damp st' ops)
    (s4 : st' = 4 → (∃ r, m.said ++ sayOps ops = 6 :: 7 :: r ∧ ∀ x ∈ r, x = 7) ∧ m.heard ++ [x] = [6])
    (s5 : st' = 5 → (∃ r, m.said ++ sayOps ops = 6 :: 7 :: r ∧ Tail r) ∧ ∃ r', m.heard ++ [x] = 6 :: 7 :: r') (ov : heldOf st' = false → o.held = false) :
    EndOk (hapE (read m x xs) o hp damp x).1 (hapE (read m x xs) o hp damp x).2 ∧ EndOk (hapE (read m x xs) o hp damp x).2 (hapE (read m x xs) o hp damp x).1 := by
  have t : tab (read m x xs).st x hp damp = some (st', ops) := W.t
  rw [hapE_eq t]
  have hheld : (m.held && !(hasC ops)) = heldOf st' := by rw [hm, W.hc]; cases heldOf st' <;> rfl
  constructor
  · refine ⟨W.s6, W.ti _ h1.ti, hheld, fun hh => ?_, fun e => absurd e W.n3, s4, s5, fun hh ho => ?_⟩
    · have hh : (m.held && !(hasC ops)) = true := hh
      simp only [Bool.and_eq_true, Bool.not_eq_true'] at hh
      show (m.heard ++ [x]) ++ wayC (hasC ops) xs = o.said
      rw [hh.2, ← h1.line hm, hw]
      simp [wayC]
    · have hh : (m.held && !(hasC ops)) = false := hh
      have ho : o.held = true := ho
      rw [hheld] at hh
      rw [ov hh] at ho; cases ho
  · refine ⟨h2.s6, h2.ti, h2.hh, fun hh => ?_, h2.s3, h2.s4, h2.s5, fun hh _ => h2.over hh hm⟩
    have hh : o.held = true := hh
    show o.heard ++ wayO o.held o.way (sayOps ops) = m.said ++ sayOps ops
    rw [hh, ← h2.line hh]
    simp [wayO]

noncomputable def comE (m o : EN) (hp damp : Bool) : EN × EN := match m.held with
  | false => (m, o)
  | true => match m.way with
    | [] => (match o.held with | true => (m, o) | false => hapE m o hp damp 18)
    | x :: xs => hapE (read m x xs) o hp damp x
theorem pCom_eq (w : PW) {e : Nat} (he : e = 0 ∨ e = 1) : pCom w e = mk w e (comE (me w e) (ot w e) (hpOf w.hold) w.damp) := by
  unfold pCom comE
  cases (me w e).held with
  | false => exact (mk_same w he).symm
  | true =>
    cases (me w e).way with
    | nil =>
      cases (ot w e).held with
      | true => exact (mk_same w he).symm
      | false => exact pHap_eq w he 18
    | cons x xs =>
      show pHap (mk w e _) e x = mk w e _
      rw [pHap_eq _ he, mk_mk w he, me_mk w he, ot_mk w he, hold_mk w he, damp_mk w he]
noncomputable def ms (m o : EN) : Nat := match m.held with
  | false => 0
  | true => m.way.length + (match o.held with | true => 0 | false => 1)
structure ComR (m o m' o' : EN) : Prop where
  e1 : EndOk m' o'
  e2 : EndOk o' m'
  n3 : m'.st ≠ 3
  os : o'.st = o.st
  le : ∀ n, LenE n m → LenE n o → LenE (n + 1) m' ∧ LenE (n + 1) o'
  ms : m.st ≠ 3 → ms m' o' ≤ ms m o - 1 ∧ Mine.ms o' m' = Mine.ms o m
inductive ComC (m o : EN) : Prop where
  | off (h : m.held = false)
  | idle (h : m.held = true) (hw : m.way = []) (ho : o.held = true)
  | fail (h : m.held = true) (hw : m.way = []) (ho : o.held = false) (q : (m.st, 18) ∈ quiets)
  | word (h : m.held = true) (x : Nat) (xs : List Nat) (hw : m.way = x :: xs) (hx : x = 6 ∨ x = 7 ∨ x = 8) (q : (m.st, x) ∈ words)
  | note (h : m.held = true) (xs : List Nat) (hw : m.way = 9 :: xs) (hs : m.st = 4 ∨ m.st = 5) (ho : o.held = false)
theorem heard_ne {m o : EN} (h1 : EndOk m o) (h2 : EndOk o m) (hm : m.held = true) (hw : m.way = []) : m.st ≠ 3 := fun e => by
  have := h1.line hm
  rw [hw, (h1.s3 e).2] at this
  have ov := h2.overs hm
  rw [← this] at ov
  rcases ov with (b | ⟨r, b, _⟩) | ⟨c, _, b⟩
  · cases b
  · cases b
  · have := congrArg List.length b; simp at this
/-- which word comes -/
theorem word_what {m o : EN} (h1 : EndOk m o) (h2 : EndOk o m) (hm : m.held = true) {x : Nat} {xs : List Nat} (hw : m.way = x :: xs) :
    (m.st = 3 ∧ x = 6) ∨ (m.st = 4 ∧ x = 7) ∨ (m.st = 5 ∧ (x = 7 ∨ x = 8)) ∨ ((m.st = 4 ∨ m.st = 5) ∧ x = 9 ∧ o.held = false) := by
  have line := h1.line hm
  rw [hw] at line
  have ov := h2.overs hm
  rw [← line] at ov
  have bo : o.held = true → Body (m.heard ++ x :: xs) := fun ho => by rw [line]; exact h2.body ho
  have hh := hm
  rw [h1.hh] at hh
  rcases heldOf_cases h1.s6 with ⟨_, e | e | e⟩ | ⟨e, _⟩
  · left
    refine ⟨e, ?_⟩
    rw [(h1.s3 e).2] at ov
    rcases ov with (b | ⟨r, b, _⟩) | ⟨c, (rfl | ⟨r, rfl, _⟩), b⟩
    · cases b; rfl
    · cases b; rfl
    · cases b; rfl
    · cases b; rfl
  · right
    have e4 := (h1.s4 e).2
    rw [e4] at ov bo
    have key : Body ([6] ++ x :: xs) → x = 7 := fun b => by
      rcases b with b | ⟨r, b, _⟩
      · cases b
      · cases b; rfl
    rcases ov with b | ⟨c, (rfl | ⟨r, rfl, _⟩), b⟩
    · exact .inl ⟨e, key b⟩
    · cases ho : o.held with
      | true => exact .inl ⟨e, key (bo ho)⟩
      | false => cases b; exact .inr (.inr ⟨.inl e, rfl, rfl⟩)
    · cases b; exact .inl ⟨e, rfl⟩
  · right; right
    obtain ⟨_, r', e5⟩ := h1.s5 e
    rw [e5] at ov bo
    have key : Body (6 :: 7 :: r' ++ x :: xs) → x = 7 ∨ x = 8 := fun b => by
      rcases b with b | ⟨r, b, t⟩
      · cases b
      · have : r' ++ x :: xs = r := by simpa using b
        exact t x (by rw [← this]; simp)
    rcases ov with b | ⟨c, (rfl | ⟨r, rfl, t⟩), b⟩
    · exact .inl ⟨e, key b⟩
    · cases b
    · have b : r' ++ x :: xs = r ++ [9] := by simpa using b
      have hx : x ∈ r ++ [9] := by rw [← b]; simp
      rcases List.mem_append.mp hx with hx | hx
      · exact .inl ⟨e, t x hx⟩
      · cases ho : o.held with
        | true => exact .inl ⟨e, key (bo ho)⟩
        | false => exact .inr ⟨.inr e, List.mem_singleton.mp hx, rfl⟩
  · rw [e] at hh; cases hh
theorem com_case {m o : EN} (h1 : EndOk m o) (h2 : EndOk o m) : ComC m o := by
  cases hm : m.held with
  | false => exact .off hm
  | true =>
    cases hw : m.way with
    | nil =>
      cases ho : o.held with
      | true => exact .idle hm hw ho
      | false =>
        refine .fail hm hw ho ?_
        have hh := hm
        rw [h1.hh] at hh
        rcases heldOf_cases h1.s6 with ⟨_, e | e | e⟩ | ⟨e, _⟩
        · rw [e]; decide
        · rw [e]; decide
        · rw [e]; decide
        · rw [e] at hh; cases hh
    | cons x xs =>
      rcases word_what h1 h2 hm hw with ⟨a, b⟩ | ⟨a, b⟩ | ⟨a, b | b⟩ | ⟨a, b, c⟩
      · exact .word hm x xs hw (.inl b) (by rw [a, b]; decide)
      · exact .word hm x xs hw (.inr (.inl b)) (by rw [a, b]; decide)
      · exact .word hm x xs hw (.inr (.inl b)) (by rw [a, b]; decide)
      · exact .word hm x xs hw (.inr (.inr b)) (by rw [a, b]; decide)
      · subst b; exact .note hm xs hw a c
theorem com_off {m o : EN} {hp damp : Bool} (h : m.held = false) : comE m o hp damp = (m, o) := by unfold comE; rw [h]
theorem com_idle {m o : EN} {hp damp : Bool} (h : m.held = true) (hw : m.way = []) (ho : o.held = true) : comE m o hp damp = (m, o) := by unfold comE; rw [h, hw, ho]
theorem com_fail {m o : EN} {hp damp : Bool} (h : m.held = true) (hw : m.way = []) (ho : o.held = false) : comE m o hp damp = hapE m o hp damp 18 := by unfold comE; rw [h, hw, ho]
theorem com_word {m o : EN} {hp damp : Bool} (h : m.held = true) {x : Nat} {xs : List Nat} (hw : m.way = x :: xs) : comE m o hp damp = hapE (read m x xs) o hp damp x := by unfold comE; rw [h, hw]
theorem ms_off {m o : EN} (h : m.held = false) : ms m o = 0 := by unfold ms; rw [h]
theorem ms_on {m o : EN} (h : m.held = true) (ho : o.held = true) : ms m o = m.way.length := by unfold ms; rw [h, ho]; simp
theorem ms_half {m o : EN} (h : m.held = true) (ho : o.held = false) : ms m o = m.way.length + 1 := by unfold ms; rw [h, ho]
theorem ms_other {m m' o : EN} (h : m.held = m'.held) : ms o m = ms o m' := by unfold ms; rw [h]
end Mine
namespace Mine
open PySem

theorem q18 : ∀ p ∈ quiets, p.2 = 18 → p.1 = 3 ∨ p.1 = 4 ∨ p.1 = 5 := by decide +kernel
theorem fail_18 {st : Nat} (h : (st, 18) ∈ quiets) (hp damp : Bool) : ∃ st' ops, tab st 18 hp damp = some (st', ops) ∧ st' ≠ 3 ∧ sayOps ops = [] ∧ hasC ops = true := by
  have : st = 3 ∨ st = 4 ∨ st = 5 := q18 _ h rfl
  rcases this with rfl | rfl | rfl
  · exact ⟨_, _, rfl, by decide, rfl, rfl⟩
  · refine ⟨_, _, rfl, by decide, ?_, ?_⟩ <;> cases damp <;> rfl
  · refine ⟨_, _, rfl, by decide, ?_, ?_⟩ <;> cases damp <;> rfl
theorem wayO_nil {h : Bool} {xs : List Nat} : wayO h xs [] = xs := by cases h <;> simp [wayO]
theorem en_eta (o : EN) : (⟨o.st, o.ti, o.held, o.way, o.said, o.heard⟩ : EN) = o := rfl
theorem low_ne {m o : EN} (h : EndOk m o) (hh : m.held = false) : m.st ≠ 3 := fun e => by
  have := h.hh; rw [hh, e] at this; cases this
theorem words_all : ∀ p ∈ words, (p.1 = 3 ∧ p.2 = 6) ∨ (p.1 = 4 ∧ p.2 = 7) ∨ (p.1 = 5 ∧ (p.2 = 7 ∨ p.2 = 8)) ∨ ((p.1 = 4 ∨ p.1 = 5) ∧ p.2 = 9) := by decide +kernel
theorem words_st {st x : Nat} (h : (st, x) ∈ words) : (st = 3 ∧ x = 6) ∨ (st = 4 ∧ x = 7) ∨ (st = 5 ∧ (x = 7 ∨ x = 8)) ∨ ((st = 4 ∨ st = 5) ∧ x = 9) := words_all _ h
theorem com_read {m o : EN} (h1 : EndOk m o) (h2 : EndOk o m) (hp damp : Bool) (hm : m.held = true) {x : Nat} {xs : List Nat} (hw : m.way = x :: xs) (q : (m.st, x) ∈ words) (ho : x = 9 → o.held = false) :
    ComR m o (hapE (read m x xs) o hp damp x).1 (hapE (read m x xs) o hp damp x).2 := by
  obtain ⟨st', ops, W⟩ := word_of q hp damp
  have hws := words_st q
  have k := word_gen h1 h2 hw hm W
    (by
      intro e
      rcases W.to with ⟨a, b⟩ | ⟨a, b, c⟩ | ⟨a, b⟩
      · omega
      · have e3 : m.st = 3 := by omega
        obtain ⟨p1, p2⟩ := h1.s3 e3
        rw [c, p1, p2, a]
        exact ⟨⟨[], rfl, fun _ h => by cases h⟩, rfl⟩
      · omega)
    (by
      intro e
      rcases W.to with ⟨a, b⟩ | ⟨a, b, c⟩ | ⟨a, b⟩
      · omega
      · omega
      · have e3 : m.st ≠ 3 := by omega
        rw [W.suf e3, List.append_nil]
        rcases hws with ⟨z, _⟩ | ⟨z, zx⟩ | ⟨z, _⟩ | ⟨_, z⟩
        · exact absurd z e3
        · obtain ⟨⟨r, r1, r2⟩, p2⟩ := h1.s4 z
          rw [p2, zx]
          exact ⟨⟨r, r1, fun y hy => .inl (r2 y hy)⟩, [], rfl⟩
        · obtain ⟨p1, r', p2⟩ := h1.s5 z
          rw [p2]
          exact ⟨p1, r' ++ [x], rfl⟩
        · omega)
    (by
      intro e
      rcases W.to with ⟨a, b⟩ | ⟨a, b, c⟩ | ⟨a, b⟩
      · exact ho a
      · rw [b] at e; cases e
      · rw [b] at e; cases e)
  have t : tab (read m x xs).st x hp damp = some (st', ops) := W.t
  refine ⟨k.1, k.2, ?_, ?_, fun n l1 l2 => ?_, fun n3 => ?_⟩
  · rw [hapE_eq t]; exact W.n3
  · rw [hapE_eq t]
  · rw [hapE_eq t]
    have lw := l1.way
    rw [hw] at lw
    simp only [List.length_cons] at lw
    have := W.len
    constructor
    · refine ⟨?_, ?_, ?_⟩
      · have := wayC_len (c := hasC ops) (xs := xs); show (wayC _ xs).length ≤ _; omega
      · show (m.said ++ sayOps ops).length ≤ _; rw [List.length_append]; have := l1.said; omega
      · show (m.heard ++ [x]).length ≤ _; rw [List.length_append]; have := l1.heard; simp; omega
    · refine ⟨?_, ?_, ?_⟩
      · have := wayO_len (h := o.held) (xs := o.way) (suf := sayOps ops); have := l2.way; show (wayO _ _ _).length ≤ _; omega
      · show o.said.length ≤ _; have := l2.said; omega
      · show o.heard.length ≤ _; have := l2.heard; omega
  · rw [hapE_eq t, W.suf n3]
    show ms ⟨st', _, m.held && !(hasC ops), wayC (hasC ops) xs, _, _⟩ ⟨o.st, o.ti, o.held, wayO o.held o.way [], o.said, o.heard⟩ ≤ _ ∧ ms ⟨o.st, o.ti, o.held, wayO o.held o.way [], o.said, o.heard⟩ _ = _
    rw [wayO_nil, en_eta]
    rcases W.to with ⟨a, b⟩ | ⟨a, b, c⟩ | ⟨a, b⟩
    · have hc : hasC ops = true := by rw [W.hc, b]; rfl
      rw [hc, hm]
      constructor
      · rw [ms_off rfl]; omega
      · rw [ms_off (ho a), ms_off (ho a)]
    · omega
    · have hc : hasC ops = false := by rw [W.hc, b]; rfl
      rw [hc, hm]
      constructor
      · cases o.held with
        | true =>
          cases hoh : o.held with
          | true => rw [ms_on rfl hoh, ms_on hm hoh, hw]; show xs.length ≤ _; simp
          | false => rw [ms_half rfl hoh, ms_half hm hoh, hw]; show xs.length + 1 ≤ _; simp
        | false =>
          cases hoh : o.held with
          | true => rw [ms_on rfl hoh, ms_on hm hoh, hw]; show xs.length ≤ _; simp
          | false => rw [ms_half rfl hoh, ms_half hm hoh, hw]; show xs.length + 1 ≤ _; simp
      · exact ms_other (by show (m.held && !false) = m.held; rw [hm]; rfl)
theorem com_res {m o : EN} (h1 : EndOk m o) (h2 : EndOk o m) (hp damp : Bool) : ComR m o (comE m o hp damp).1 (comE m o hp damp).2 := by
  cases com_case h1 h2 with
  | off h =>
    rw [com_off h]
    exact ⟨h1, h2, low_ne h1 h, rfl, fun n l1 l2 => ⟨l1.le (by omega), l2.le (by omega)⟩, fun _ => ⟨by show ms m o ≤ _; rw [ms_off h]; omega, rfl⟩⟩
  | idle h hw ho =>
    rw [com_idle h hw ho]
    exact ⟨h1, h2, heard_ne h1 h2 h hw, rfl, fun n l1 l2 => ⟨l1.le (by omega), l2.le (by omega)⟩, fun _ => ⟨by show ms m o ≤ _; rw [ms_on h ho, hw]; simp, rfl⟩⟩
  | fail h hw ho q =>
    rw [com_fail h hw ho]
    have k := quiet_ok h1 h2 q hp damp
    obtain ⟨st', ops, t, n3, hs, hc⟩ := fail_18 q hp damp
    refine ⟨k.1, k.2, ?_, ?_, fun n l1 l2 => quiet_len q hp damp l1 l2, fun _ => ?_⟩
    · rw [hapE_eq t]; exact n3
    · rw [hapE_eq t]
    · rw [hapE_eq t, hs, hc]
      show ms ⟨st', _, m.held && !true, _, _, _⟩ ⟨o.st, o.ti, o.held, wayO o.held o.way [], o.said, o.heard⟩ ≤ _ ∧ ms ⟨o.st, o.ti, o.held, wayO o.held o.way [], o.said, o.heard⟩ _ = _
      rw [wayO_nil, en_eta]
      constructor
      · rw [ms_off (by show (m.held && !true) = false; simp)]; omega
      · rw [ms_off ho, ms_off ho]
  | word h x xs hw hx q =>
    rw [com_word h hw]
    exact com_read h1 h2 hp damp h hw q (by omega)
  | note h xs hw hs ho =>
    rw [com_word h hw]
    refine com_read h1 h2 hp damp h hw ?_ fun _ => ho
    rcases hs with e | e <;> rw [e] <;> decide
/-- what comes, in a world -/
theorem com_w {w : PW} {n e : Nat} (hi : Inv w) (hl : LenW n w) (hn : n < 90) (he : e = 0 ∨ e = 1) :
    PreCom w e ∧ Inv (pCom w e) ∧ LenW (n + 1) (pCom w e) ∧ ComR (me w e) (ot w e) (me (pCom w e) e) (ot (pCom w e) e) := by
  have R := com_res (hi.me he) (hi.ot he) (hpOf w.hold) w.damp
  have hm : me (pCom w e) e = (comE (me w e) (ot w e) (hpOf w.hold) w.damp).1 := by rw [pCom_eq w he, me_mk w he]
  have ho : ot (pCom w e) e = (comE (me w e) (ot w e) (hpOf w.hold) w.damp).2 := by rw [pCom_eq w he, ot_mk w he]
  have i2 : Inv (pCom w e) := by rw [pCom_eq w he]; exact hi.put he R.e1 R.e2
  have l2 : LenW (n + 1) (pCom w e) := by rw [pCom_eq w he]; have := R.le n (hl.me he) (hl.ot he); exact LenW.put he this.1 this.2
  have lens2 := lens_of l2 (by omega) i2
  refine ⟨?_, i2, l2, by rw [hm, ho]; exact R⟩
  have rd : ∀ {x : Nat} {xs : List Nat}, (me w e).held = true → (me w e).way = x :: xs → ((me w e).st, x) ∈ words → Lens (mk w e (read (me w e) x xs, ot w e)) ∧ PreH (mk w e (read (me w e) x xs, ot w e)) e x := by
    intro x xs h hw q
    have hp : pCom w e = pHap (mk w e (read (me w e) x xs, ot w e)) e x := by unfold pCom; rw [h, hw]
    constructor
    · have l1 := hl.me he
      have lo := lensE_of (hl.ot he) (by omega) (hi.ot he)
      have lm : LensE (read (me w e) x xs) := by
        have lw := l1.way
        rw [hw] at lw
        simp only [List.length_cons] at lw
        refine ⟨tis_len (hi.me he).ti, ?_, ?_, ?_⟩
        · show xs.length ≤ 90; omega
        · show (me w e).said.length ≤ 90; have := l1.said; omega
        · show ((me w e).heard ++ [x]).length ≤ 90; rw [List.length_append]; have := l1.heard; simp; omega
      rcases he with rfl | rfl
      · exact ⟨lm, lo⟩
      · exact ⟨lo, lm⟩
    · refine ⟨he, ?_, ?_, ?_, by rw [← hp]; exact lens2⟩
      · rw [me_mk w he]; exact words_pairs _ q
      · rw [me_mk w he, heldIn_of (words_ev _ q)]; exact (hi.me he).hh
      · rw [hold_mk w he]; exact hi.hold
  cases com_case (hi.me he) (hi.ot he) with
  | off h => exact .off he h
  | idle h hw ho => exact .idle he h hw ho
  | fail h hw ho q => exact .fail he h hw ho (quiet_w hi hl hn he q).1
  | word h x xs hw hx q => have := rd h hw q; exact .word he h x xs hw hx this.1 this.2
  | note h xs hw hs ho =>
    have := rd h hw (by rcases hs with e | e <;> rw [e] <;> decide)
    exact .note he h xs hw hs ho this.1 this.2
end Mine
namespace Mine
open PySem

noncomputable def sts : List Nat := [0, 1, 2, 3, 4, 5]
theorem sts_mem {s : Nat} (h : s < 6) : s ∈ sts := by
  match s, h with
  | 0, _ | 1, _ | 2, _ | 3, _ | 4, _ | 5, _ => decide
  | n + 6, h => omega
theorem st6_all : ∀ s, s < 6 → st6 s := by unfold st6; decide +kernel
theorem st6_of {s : Nat} (h : s < 6) : st6 s := st6_all s h
theorem beg_q : ∀ s ∈ sts, (s, 15) ∈ quiets ∧ (s, 16) ∈ quiets := by decide +kernel
theorem stop_q : ∀ s ∈ sts, (s, 19) ∈ quiets ∧ (s, 20) ∈ quiets := by decide +kernel
noncomputable def begB (st ev : Nat) (hp damp : Bool) : Bool := match tab st ev hp damp with
  | some (st', _) => Nat.beq st' (begunTo st ev)
  | none => false
theorem beg_all : sts.all (fun s => [15, 16].all fun ev => [true, false].all fun hp => [true, false].all fun damp => begB s ev hp damp) = true := by decide +kernel
theorem beg_w {w : PW} {n e ev : Nat} (hi : Inv w) (hl : LenW n w) (hn : n < 90) (he : e = 0 ∨ e = 1) (hev : ev = 15 ∨ ev = 16) :
    PreG w e ev ∧ Inv (pHap w e ev) ∧ LenW (n + 1) (pHap w e ev) := by
  have s6 := (hi.me he).s6
  have q := beg_q _ (sts_mem s6)
  have q : ((me w e).st, ev) ∈ quiets := by rcases hev with rfl | rfl; exact q.1; exact q.2
  obtain ⟨p, i2, l2⟩ := quiet_w hi hl hn he q
  refine ⟨⟨he, hev, st6_of s6, p, ?_⟩, i2, l2⟩
  have h1 := List.all_eq_true.mp beg_all _ (sts_mem s6)
  have h2 := List.all_eq_true.mp h1 ev (by rcases hev with rfl | rfl <;> decide)
  have h3 := List.all_eq_true.mp h2 (hpOf w.hold) (by cases hpOf w.hold <;> simp)
  have h4 := List.all_eq_true.mp h3 w.damp (by cases w.damp <;> simp)
  unfold begB at h4
  split at h4
  · rename_i st' ops t
    rw [pHap_eq w he, me_mk w he, hapE_eq t]
    exact h4
  · cases h4
theorem stop_w {w : PW} {n e ev : Nat} (hi : Inv w) (hl : LenW n w) (hn : n < 90) (he : e = 0 ∨ e = 1) (hev : ev = 19 ∨ ev = 20) :
    PreH w e ev ∧ Inv (pHap w e ev) ∧ LenW (n + 1) (pHap w e ev) := by
  have q := stop_q _ (sts_mem (hi.me he).s6)
  have q : ((me w e).st, ev) ∈ quiets := by rcases hev with rfl | rfl; exact q.1; exact q.2
  exact quiet_w hi hl hn he q

/-! joined -/
noncomputable def opsJ : List Op := [.clear 10, .clear 13, .say 6, .set 11]
theorem tab_17 {st : Nat} (h : st = 1 ∨ st = 2) (hp damp : Bool) : tab st 17 hp damp = some (3, opsJ) := by rcases h with rfl | rfl <;> rfl
theorem ti_17 {st : Nat} (h : st = 1 ∨ st = 2) {ti : List Nat} (ht : ti ∈ tis st) : tiOps opsJ (enterT 3 ti) = [11] := by
  have : ti ∈ [[], [10]] := by rcases h with rfl | rfl <;> exact ht
  simp only [List.mem_cons, List.not_mem_nil, or_false] at this
  rcases this with rfl | rfl <;> rfl
theorem hap_17 {m o : EN} (h : m.st = 1 ∨ m.st = 2) (ht : m.ti ∈ tis m.st) (hh : m.held = true) (hs : m.said = []) (ho : o.held = true) (hp damp : Bool) :
    hapE m o hp damp 17 = (⟨3, [11], true, m.way, [6], m.heard⟩, ⟨o.st, o.ti, true, o.way ++ [6], o.said, o.heard⟩) := by
  rw [hapE_eq (tab_17 h hp damp), ti_17 h ht, hh, hs, ho]; rfl
noncomputable def S3 : EN := ⟨3, [11], true, [6], [6], []⟩
noncomputable def S0 : EN := ⟨3, [11], true, [], [6], []⟩
noncomputable def SX (o : EN) : EN := ⟨o.st, o.ti, true, [6], [], []⟩
theorem S3_ok : EndOk S3 S3 := ⟨by decide, by decide, rfl, fun _ => rfl, (fun _ => ⟨rfl, rfl⟩), (fun e => by cases e), (fun e => by cases e), fun e => by cases e⟩
theorem lens_S {m : EN} (ht : m.ti.length ≤ 50) (hw : m.way.length ≤ 1) (hs : m.said.length ≤ 1) (hd : m.heard.length ≤ 1) : LensE m := ⟨ht, by show _ ≤ 90; omega, by show _ ≤ 90; omega, by show _ ≤ 90; omega⟩
theorem join_w {w : PW} {n e : Nat} (hi : Inv w) (he : e = 0 ∨ e = 1) (ha : w.a.st = 1 ∨ w.a.st = 2) (hb : w.b.st = 1 ∨ w.b.st = 2) :
    PreJ w e ∧ Inv (pJoin w e) ∧ LenW (n + 1) (pJoin w e) := by
  have la := tis_len hi.a.ti
  have lb := tis_len hi.b.ti
  have lf : Lens (freshW w) := ⟨lens_S la (by show 0 ≤ 1; omega) (by show 0 ≤ 1; omega) (by show 0 ≤ 1; omega), lens_S lb (by show 0 ≤ 1; omega) (by show 0 ≤ 1; omega) (by show 0 ≤ 1; omega)⟩
  have q : ∀ {s : Nat}, (s = 1 ∨ s = 2) → (s, 17) ∈ pairs := fun h => by rcases h with rfl | rfl <;> decide
  have ls0 : LensE S0 := lens_S (by decide) (by decide) (by decide) (by decide)
  have ls3 : LensE S3 := lens_S (by decide) (by decide) (by decide) (by decide)
  rcases he with rfl | rfl
  · have e1 : pHap (freshW w) 0 17 = ⟨S0, SX w.b, w.hold, w.damp, w.wo⟩ := by
      rw [pHap_eq _ (.inl rfl)]
      show mk (freshW w) 0 (hapE (fresh w.a) (fresh w.b) (hpOf w.hold) w.damp 17) = _
      rw [hap_17 (m := fresh w.a) (o := fresh w.b) ha hi.a.ti rfl rfl rfl]; rfl
    have e2 : pJoin w 0 = ⟨S3, S3, w.hold, w.damp, w.wo⟩ := by
      unfold pJoin
      rw [e1, pHap_eq _ (.inr rfl)]
      show mk _ 1 (hapE (SX w.b) S0 (hpOf w.hold) w.damp 17) = _
      rw [hap_17 (m := SX w.b) (o := S0) hb hi.b.ti rfl rfl rfl]; rfl
    have l1 : Lens (pHap (freshW w) 0 17) := by rw [e1]; exact ⟨ls0, lens_S lb (by show 1 ≤ 1; omega) (by show 0 ≤ 1; omega) (by show 0 ≤ 1; omega)⟩
    have l2 : Lens (pJoin w 0) := by rw [e2]; exact ⟨ls3, ls3⟩
    refine ⟨⟨lf, ⟨.inl rfl, q ha, rfl, hi.hold, l1⟩, l1, ⟨.inr rfl, ?_, ?_, ?_, l2⟩, l2⟩, ?_, ?_⟩
    · rw [e1]; exact q hb
    · rw [e1]; rfl
    · rw [e1]; exact hi.hold
    · rw [e2]; exact ⟨S3_ok, S3_ok, hi.hold⟩
    · rw [e2]; refine ⟨⟨?_, ?_, ?_⟩, ⟨?_, ?_, ?_⟩⟩ <;> (show _ ≤ n + 1) <;> simp [S3]
  · have e1 : pHap (freshW w) 1 17 = ⟨SX w.a, S0, w.hold, w.damp, w.wo⟩ := by
      rw [pHap_eq _ (.inr rfl)]
      show mk (freshW w) 1 (hapE (fresh w.b) (fresh w.a) (hpOf w.hold) w.damp 17) = _
      rw [hap_17 (m := fresh w.b) (o := fresh w.a) hb hi.b.ti rfl rfl rfl]; rfl
    have e2 : pJoin w 1 = ⟨S3, S3, w.hold, w.damp, w.wo⟩ := by
      unfold pJoin
      rw [e1]
      show pHap _ 0 17 = _
      rw [pHap_eq _ (.inl rfl)]
      show mk _ 0 (hapE (SX w.a) S0 (hpOf w.hold) w.damp 17) = _
      rw [hap_17 (m := SX w.a) (o := S0) ha hi.a.ti rfl rfl rfl]; rfl
    have l1 : Lens (pHap (freshW w) 1 17) := by rw [e1]; exact ⟨lens_S la (by show 1 ≤ 1; omega) (by show 0 ≤ 1; omega) (by show 0 ≤ 1; omega), ls0⟩
    have l2 : Lens (pJoin w 1) := by rw [e2]; exact ⟨ls3, ls3⟩
    refine ⟨⟨lf, ⟨.inr rfl, q hb, rfl, hi.hold, l1⟩, l1, ⟨.inl rfl, ?_, ?_, ?_, l2⟩, l2⟩, ?_, ?_⟩
    · rw [e1]; exact q ha
    · rw [e1]; rfl
    · rw [e1]; exact hi.hold
    · rw [e2]; exact ⟨S3_ok, S3_ok, hi.hold⟩
    · rw [e2]; refine ⟨⟨?_, ?_, ?_⟩, ⟨?_, ?_, ?_⟩⟩ <;> (show _ ≤ n + 1) <;> simp [S3]
theorem joined_w {w : PW} {n e : Nat} (hi : Inv w) (hl : LenW n w) (he : e = 0 ∨ e = 1) :
    PreJoin w e ∧ Inv (qJoin w e) ∧ LenW (n + 1) (qJoin w e) := by
  have sa := st6_of hi.a.s6
  have sb := st6_of hi.b.s6
  have same : Inv w ∧ LenW (n + 1) w := ⟨hi, hl.a.le (by omega), hl.b.le (by omega)⟩
  rcases isOpenSt_iff sa with ⟨a1, a2⟩ | ⟨a1, a2⟩
  · rcases isOpenSt_iff sb with ⟨b1, b2⟩ | ⟨b1, b2⟩
    · have e1 : qJoin w e = pJoin w e := by unfold qJoin; rw [a1, b1]
      obtain ⟨p, i2, l2⟩ := join_w (n := n) hi he a2 b2
      rw [e1]
      exact ⟨⟨he, sa, sb, fun _ _ => p⟩, i2, l2⟩
    · have e1 : qJoin w e = w := by unfold qJoin; rw [a1, b1]
      rw [e1]
      exact ⟨⟨he, sa, sb, fun _ h => by rw [b1] at h; cases h⟩, same⟩
  · have e1 : qJoin w e = w := by unfold qJoin; rw [a1]
    rw [e1]
    exact ⟨⟨he, sa, sb, fun h => by rw [a1] at h; cases h⟩, same⟩

/-! broken -/
noncomputable def cut (m : EN) : EN := { m with way := [] }
theorem cut_off {m o : EN} (h : EndOk m o) (hm : m.held = false) : EndOk (cut m) (cut o) :=
  ⟨h.s6, h.ti, h.hh, (fun e => by have e : m.held = true := e; rw [hm] at e; cases e), h.s3, h.s4, h.s5, h.over⟩
/-- an end that is not held, nor its other -/
theorem dead {m o : EN} (s6 : m.st < 6) (ti : m.ti ∈ tis m.st) (hs : heldOf m.st = false) (hm : m.held = false) (ho : o.held = false) : EndOk m o := by
  refine ⟨s6, ti, by rw [hm, hs], fun e => ?_, fun e => ?_, fun e => ?_, fun e => ?_, fun _ e => ?_⟩
  · rw [hm] at e; cases e
  · rw [e] at hs; cases hs
  · rw [e] at hs; cases hs
  · rw [e] at hs; cases hs
  · rw [ho] at e; cases e
theorem held_18 {m o : EN} (h : EndOk m o) (hm : m.held = true) : (m.st, 18) ∈ quiets := by
  rw [h.hh] at hm
  rcases heldOf_cases h.s6 with ⟨_, e | e | e⟩ | ⟨e, _⟩
  · rw [e]; decide
  · rw [e]; decide
  · rw [e]; decide
  · rw [e] at hm; cases hm
theorem fail_end {m o x : EN} (h : EndOk m o) (hm : m.held = true) (hp damp : Bool) :
    ∃ st' ti', hapE (cut m) x hp damp 18 = (⟨st', ti', false, [], m.said, m.heard⟩, x) ∧ st' < 6 ∧ ti' ∈ tis st' ∧ heldOf st' = false := by
  have q := held_18 h hm
  obtain ⟨st', ops, Q⟩ := quiet_of q hp damp
  obtain ⟨st2, ops2, t2, _, hs, hc⟩ := fail_18 q hp damp
  have : (st', ops) = (st2, ops2) := Option.some.inj (Q.t.symm.trans t2)
  cases this
  refine ⟨st', _, ?_, Q.s6, Q.ti _ h.ti, by rw [Q.hh, hc]; simp⟩
  have t : tab (cut m).st 18 hp damp = some (st', ops) := Q.t
  rw [hapE_eq t, hs, hc, wayO_nil]
  show ((⟨st', _, m.held && !true, [], m.said ++ [], m.heard⟩ : EN), x) = _
  rw [List.append_nil, Bool.not_true, Bool.and_false]
  rfl
theorem brk_w {w : PW} {n : Nat} (hi : Inv w) (hl : LenW n w) (hn : n ≤ 90) : PreB w ∧ Inv (pBrk w) ∧ LenW n (pBrk w) := by
  have lcut : ∀ {m : EN}, LenE n m → LenE n (cut m) := fun h => ⟨Nat.zero_le _, h.said, h.heard⟩
  have lnew : ∀ {m : EN} {st' : Nat} {ti' : List Nat}, LenE n m → LenE n ⟨st', ti', false, [], m.said, m.heard⟩ := fun h => ⟨Nat.zero_le _, h.said, h.heard⟩
  have ha : w.a.held = true → w.a.st = 3 ∨ w.a.st = 4 ∨ w.a.st = 5 := fun h => by
    rw [hi.a.hh] at h
    rcases heldOf_cases hi.a.s6 with ⟨_, e⟩ | ⟨e, _⟩
    · exact e
    · rw [e] at h; cases h
  have lensC : Lens (cutW w) := by
    have p := lensE_of hl.a hn hi.a
    have q := lensE_of hl.b hn hi.b
    exact ⟨⟨p.ti, Nat.zero_le _, p.said, p.heard⟩, ⟨q.ti, Nat.zero_le _, q.said, q.heard⟩⟩
  cases hA : w.a.held with
  | false =>
    cases hB : w.b.held with
    | false =>
      have e : pBrk w = cutW w := by unfold pBrk; rw [hA, hB]
      have i2 : Inv (pBrk w) := by rw [e]; exact ⟨cut_off hi.a hA, cut_off hi.b hB, hi.hold⟩
      have l2 : LenW n (pBrk w) := by rw [e]; exact ⟨lcut hl.a, lcut hl.b⟩
      refine ⟨⟨ha, ?_, lens_of l2 hn i2⟩, i2, l2⟩
      unfold preBrk; rw [hA, hB]; trivial
    | true =>
      obtain ⟨st', ti', e1, s6, ti, hs⟩ := fail_end (x := cut w.a) hi.b hB (hpOf w.hold) w.damp
      have e2 : pHap (cutW w) 1 18 = ⟨cut w.a, ⟨st', ti', false, [], w.b.said, w.b.heard⟩, w.hold, w.damp, w.wo⟩ := by
        rw [pHap_eq _ (.inr rfl)]
        show mk (cutW w) 1 (hapE (cut w.b) (cut w.a) (hpOf w.hold) w.damp 18) = _
        rw [e1]; rfl
      have e := (show pBrk w = pHap (cutW w) 1 18 from by unfold pBrk; rw [hA, hB]).trans e2
      have i2 : Inv (pBrk w) := by
        rw [e]
        refine ⟨dead hi.a.s6 hi.a.ti ?_ hA rfl, dead s6 ti hs rfl hA, hi.hold⟩
        show heldOf w.a.st = false
        rw [← hi.a.hh]; exact hA
      have l2 : LenW n (pBrk w) := by rw [e]; exact ⟨lcut hl.a, lnew hl.b⟩
      refine ⟨⟨ha, ?_, lens_of l2 hn i2⟩, i2, l2⟩
      unfold preBrk; rw [hA, hB]
      refine ⟨lensC, ⟨.inr rfl, (show (w.b.st, 18) ∈ pairs from quiets_pairs _ (held_18 hi.b hB)), hi.b.hh, hi.hold, ?_⟩, trivial⟩
      rw [e2, ← e]; exact lens_of l2 hn i2
  | true =>
    obtain ⟨st1, ti1, e1, s61, ti1', hs1⟩ := fail_end (x := cut w.b) hi.a hA (hpOf w.hold) w.damp
    have e2 : pHap (cutW w) 0 18 = ⟨⟨st1, ti1, false, [], w.a.said, w.a.heard⟩, cut w.b, w.hold, w.damp, w.wo⟩ := by
      rw [pHap_eq _ (.inl rfl)]
      show mk (cutW w) 0 (hapE (cut w.a) (cut w.b) (hpOf w.hold) w.damp 18) = _
      rw [e1]; rfl
    have pa : Lens (pHap (cutW w) 0 18) → PreH (cutW w) 0 18 := fun h => ⟨.inl rfl, (show (w.a.st, 18) ∈ pairs from quiets_pairs _ (held_18 hi.a hA)), hi.a.hh, hi.hold, h⟩
    have l1 : Lens (pHap (cutW w) 0 18) := by
      rw [e2]
      have p := lensE_of hl.a hn hi.a
      exact ⟨⟨tis_len ti1', Nat.zero_le _, p.said, p.heard⟩, lensC.b⟩
    cases hB : w.b.held with
    | false =>
      have e := (show pBrk w = pHap (cutW w) 0 18 from by unfold pBrk; rw [hA, hB]).trans e2
      have i2 : Inv (pBrk w) := by
        rw [e]
        refine ⟨dead s61 ti1' hs1 rfl hB, dead hi.b.s6 hi.b.ti ?_ hB rfl, hi.hold⟩
        show heldOf w.b.st = false
        rw [← hi.b.hh]; exact hB
      have l2 : LenW n (pBrk w) := by rw [e]; exact ⟨lnew hl.a, lcut hl.b⟩
      refine ⟨⟨ha, ?_, lens_of l2 hn i2⟩, i2, l2⟩
      unfold preBrk; rw [hA, hB]
      exact ⟨lensC, pa l1, trivial⟩
    | true =>
      obtain ⟨st2, ti2, f1, s62, ti2', hs2⟩ := fail_end (x := ⟨st1, ti1, false, [], w.a.said, w.a.heard⟩) hi.b hB (hpOf w.hold) w.damp
      have f2 : pHap (pHap (cutW w) 0 18) 1 18 = ⟨⟨st1, ti1, false, [], w.a.said, w.a.heard⟩, ⟨st2, ti2, false, [], w.b.said, w.b.heard⟩, w.hold, w.damp, w.wo⟩ := by
        rw [e2, pHap_eq _ (.inr rfl)]
        show mk _ 1 (hapE (cut w.b) ⟨st1, ti1, false, [], w.a.said, w.a.heard⟩ (hpOf w.hold) w.damp 18) = _
        rw [f1]; rfl
      have e := (show pBrk w = pHap (pHap (cutW w) 0 18) 1 18 from by unfold pBrk; rw [hA, hB]).trans f2
      have i2 : Inv (pBrk w) := by
        rw [e]
        exact ⟨dead s61 ti1' hs1 rfl rfl, dead s62 ti2' hs2 rfl rfl, hi.hold⟩
      have l2 : LenW n (pBrk w) := by rw [e]; exact ⟨lnew hl.a, lnew hl.b⟩
      refine ⟨⟨ha, ?_, lens_of l2 hn i2⟩, i2, l2⟩
      unfold preBrk; rw [hA, hB]
      refine ⟨lensC, pa l1, l1, ⟨.inr rfl, ?_, ?_, ?_, ?_⟩, trivial⟩
      · rw [e2]; exact (show (w.b.st, 18) ∈ pairs from quiets_pairs _ (held_18 hi.b hB))
      · rw [e2]; exact hi.b.hh
      · rw [e2]; exact hi.hold
      · rw [f2, ← e]; exact lens_of l2 hn i2

/-! a timer due, a word said -/
theorem due_all : ∀ s ∈ sts, ∀ ti ∈ tis s, ∀ a ∈ ti, delK ti a ∈ tis s ∧ (s, dueOf a) ∈ quiets := by decide +kernel
theorem due_w {w : PW} {n e a : Nat} (hi : Inv w) (hl : LenW n w) (hn : n < 90) (he : e = 0 ∨ e = 1) (h : a ∈ (me w e).ti) :
    Lens (pDue w e a) ∧ PreH (pDue w e a) e (dueOf a) ∧ Inv (pHap (pDue w e a) e (dueOf a)) ∧ LenW (n + 1) (pHap (pDue w e a) e (dueOf a)) := by
  have m := hi.me he
  obtain ⟨d1, d2⟩ := due_all _ (sts_mem m.s6) _ m.ti a h
  have o := hi.ot he
  have i2 : Inv (pDue w e a) := hi.put he ⟨m.s6, d1, m.hh, m.line, m.s3, m.s4, m.s5, m.over⟩ ⟨o.s6, o.ti, o.hh, o.line, o.s3, o.s4, o.s5, o.over⟩
  have l2 : LenW n (pDue w e a) := LenW.put he ⟨(hl.me he).way, (hl.me he).said, (hl.me he).heard⟩ (hl.ot he)
  have q : ((me (pDue w e a) e).st, dueOf a) ∈ quiets := by
    have : (me (pDue w e a) e).st = (me w e).st := by unfold pDue; rw [me_mk w he]
    rw [this]; exact d2
  obtain ⟨p, i3, l3⟩ := quiet_w i2 l2 hn he q
  exact ⟨lens_of l2 (by omega) i2, p, i3, l3⟩
theorem say_w {w : PW} {n e : Nat} (hi : Inv w) (hl : LenW n w) (he : e = 0 ∨ e = 1) (h : (me w e).st = 5) :
    (me w e).held = true ∧ Inv (pSay w e) ∧ LenW (n + 1) (pSay w e) := by
  have m := hi.me he
  have o := hi.ot he
  have hm : (me w e).held = true := by rw [m.hh, h]; rfl
  have e1 : opDo (.say 8) (me w e, ot w e) = (⟨(me w e).st, (me w e).ti, (me w e).held, (me w e).way, (me w e).said ++ [8], (me w e).heard⟩, ⟨(ot w e).st, (ot w e).ti, (ot w e).held, wayO (ot w e).held (ot w e).way [8], (ot w e).said, (ot w e).heard⟩) := by
    generalize me w e = a
    generalize ot w e = b
    obtain ⟨s, t, h, y, i, d⟩ := b
    cases h <;> rfl
  have lm := hl.me he
  have lo := hl.ot he
  unfold pSay
  rw [e1]
  refine ⟨hm, hi.put he ?_ ?_, LenW.put he ?_ ?_⟩
  · refine ⟨m.s6, m.ti, m.hh, m.line, fun e3 => ?_, fun e4 => ?_, fun _ => ?_, fun hh _ => ?_⟩
    · have e3 : (me w e).st = 3 := e3; omega
    · have e4 : (me w e).st = 4 := e4; omega
    · obtain ⟨⟨r, r1, r2⟩, q⟩ := m.s5 h
      refine ⟨⟨r ++ [8], ?_, tail_app r2 (.inr rfl)⟩, q⟩
      show (me w e).said ++ [8] = _
      rw [r1]; rfl
    · have hh : (me w e).held = false := hh
      rw [hm] at hh; cases hh
  · refine ⟨o.s6, o.ti, o.hh, fun hh => ?_, o.s3, o.s4, o.s5, fun hh _ => o.over hh hm⟩
    have hh : (ot w e).held = true := hh
    show (ot w e).heard ++ wayO (ot w e).held (ot w e).way [8] = (me w e).said ++ [8]
    rw [hh, ← o.line hh]
    simp [wayO]
  · refine ⟨?_, ?_, ?_⟩
    · show (me w e).way.length ≤ _; have := lm.way; omega
    · show ((me w e).said ++ [8]).length ≤ _; rw [List.length_append]; have := lm.said; simp; omega
    · show (me w e).heard.length ≤ _; have := lm.heard; omega
  · refine ⟨?_, ?_, ?_⟩
    · have := wayO_len (h := (ot w e).held) (xs := (ot w e).way) (suf := [8]); have := lo.way; show (wayO _ _ [8]).length ≤ _; simp at *; omega
    · show (ot w e).said.length ≤ _; have := lo.said; omega
    · show (ot w e).heard.length ≤ _; have := lo.heard; omega
end Mine
namespace Mine
open PySem

theorem allB2 {f : Nat → Prop} (h0 : f 0) (h1 : f 1) : allB f 2 := ⟨⟨trivial, h0⟩, h1⟩
theorem not_e : ∀ s, s < 6 → s ≠ 5 → notE s := by unfold notE; decide +kernel
theorem forms : ∀ f, f < 12 → f ≠ 9 → f = 0 ∨ f = 1 ∨ (f = 2 ∨ f = 3 ∨ f = 4 ∨ f = 5 ∨ f = 6) ∨ f = 7 ∨ f = 8 ∨ (f = 10 ∨ f = 11) := by decide +kernel
/-- what a deed may end in -/
noncomputable def Ends (n s : Nat) (xs : List Int) (G : GB) : Prop := ∀ w' s', Inv w' → LenW (n + 1) w' → s' ≤ s → G (.bool true) (some (w', s', xs))
section
variable {n s e : Nat} {w : PW} {xs : List Int} {G : GB}
theorem t_0 (hi : Inv w) (hl : LenW n w) (hn : n < 90) (he : e = 0 ∨ e = 1) (hs : s < 1000) (hg : Ends n (s + 1) xs G) (J : List O) (hJ : J = J1 ∨ J = J4) (tv : V) : TD J tv 0 e w s xs G := by
  rw [td_0 J hJ tv e he]
  have go : ∀ d, d + 15 = 15 ∨ d + 15 = 16 → Lens w ∧ (PreG w e (d + 15) ∧ G (.bool true) (some (pHap w e (d + 15), s + 1, xs))) := fun d hd => by
    obtain ⟨p, i, l⟩ := beg_w hi hl hn he hd
    exact ⟨lens_of hl (by omega) hi, p, hg _ _ i l (by omega)⟩
  exact ⟨hs, allB2 (go 0 (.inl rfl)) (go 1 (.inr rfl))⟩
theorem t_1 (hi : Inv w) (hl : LenW n w) (hn : n < 90) (he : e = 0 ∨ e = 1) (hg : Ends n s xs G) (J : List O) (hJ : J = J3 ∨ J = J4) (tv : V) : TD J tv 1 e w s xs G := by
  rw [td_1 J hJ tv e he]
  obtain ⟨p, i, l⟩ := joined_w hi hl he
  exact ⟨lens_of hl (by omega) hi, p, hg _ _ i l (by omega)⟩
theorem t_2 (hi : Inv w) (hl : LenW n w) (hn : n < 90) (he : e = 0 ∨ e = 1) (hg : Ends n s xs G) (J : List O) (hJ : J = J3 ∨ J = J4) (tv : V) (f : Nat) (hf : f = 2 ∨ f = 3 ∨ f = 4 ∨ f = 5 ∨ f = 6) : TD J tv f e w s xs G := by
  rw [td_2 J hJ tv f hf e he]
  obtain ⟨p, i, l, _⟩ := com_w hi hl hn he
  exact ⟨lens_of hl (by omega) hi, ⟨p, lens_of l (by omega) i⟩, hg _ _ i l (by omega)⟩
theorem t_8 (hi : Inv w) (hl : LenW n w) (hn : n < 90) (he : e = 0 ∨ e = 1) (hs : s < 1000) (hg : Ends n (s + 1) xs G) (tv : V) : TD J4 tv 8 e w s xs G := by
  rw [td_8 tv e he]
  have go : ∀ d, d + 19 = 19 ∨ d + 19 = 20 → Lens w ∧ (PreH w e (d + 19) ∧ G (.bool true) (some (pHap w e (d + 19), s + 1, xs))) := fun d hd => by
    obtain ⟨p, i, l⟩ := stop_w hi hl hn he hd
    exact ⟨lens_of hl (by omega) hi, p, hg _ _ i l (by omega)⟩
  exact ⟨hs, allB2 (go 0 (.inl rfl)) (go 1 (.inr rfl))⟩
theorem t_9 (hi : Inv w) (hl : LenW n w) (hn : n < 90) (hg : Ends n s xs G) (tv : V) : TD J2 tv 9 0 w s xs G := by
  rw [td_9]
  obtain ⟨p, i, l⟩ := brk_w hi hl (by omega)
  exact ⟨lens_of hl (by omega) hi, p, hg _ _ i ⟨l.a.le (by omega), l.b.le (by omega)⟩ (by omega)⟩
theorem t_10 (hi : Inv w) (hl : LenW n w) (he : e = 0 ∨ e = 1) (hg : Ends n s xs G) (tv : V) (f : Nat) (hf : f = 10 ∨ f = 11) : TD J4 tv f e w s xs G := by
  have s6 := (hi.me he).s6
  by_cases h : (me w e).st = 5
  · obtain ⟨hm, i, l⟩ := say_w hi hl he h
    rw [td_11 tv f hf e he w h hm]
    exact hg _ _ i l (by omega)
  · rw [td_10 tv f hf e he w (not_e _ s6 h)]
    exact hg _ _ hi ⟨hl.a.le (by omega), hl.b.le (by omega)⟩ (by omega)
theorem perm_ok {ys ti : List Nat} {st : Nat} (ht : ti ∈ tis st) (hp : ys.Perm ti) : (ys = [] ∧ ti = []) ∨ ysOk ys ti := by
  have two : ∀ {a b : Nat}, a ≠ b → ys.Perm [a, b] → ys = [a, b] ∨ ys = [b, a] := by
    intro a b hab hp
    have hl := hp.length_eq
    match ys, hl with
    | [x, y], _ =>
      have hx : x ∈ [a, b] := hp.subset (by simp)
      have hy : y ∈ [a, b] := hp.subset (by simp)
      have hn : [x, y].Nodup := hp.nodup_iff.mpr (by simp [hab])
      have hxy : x ≠ y := by simpa using hn
      simp only [List.mem_cons, List.not_mem_nil, or_false] at hx hy
      rcases hx with rfl | rfl <;> rcases hy with rfl | rfl
      · exact absurd rfl hxy
      · exact .inl rfl
      · exact .inr rfl
      · exact absurd rfl hxy
  have cases5 : ti = [] ∨ ti = [7] ∨ ti = [10] ∨ ti = [11] ∨ ti = [12] ∨ ti = [7, 11] ∨ ti = [11, 7] := by
    unfold tis at ht
    split at ht <;> simp only [List.mem_cons, List.not_mem_nil, or_false] at ht <;> (rcases ht with rfl | rfl | rfl | rfl | rfl) <;> simp
  rcases cases5 with rfl | rfl | rfl | rfl | rfl | rfl | rfl
  · exact .inl ⟨hp.eq_nil, rfl⟩
  · exact .inr (.inl ⟨List.perm_singleton.mp hp, rfl⟩)
  · exact .inr (.inr (.inl ⟨List.perm_singleton.mp hp, rfl⟩))
  · exact .inr (.inr (.inr (.inl ⟨List.perm_singleton.mp hp, rfl⟩)))
  · exact .inr (.inr (.inr (.inr (.inl ⟨List.perm_singleton.mp hp, rfl⟩))))
  · exact .inr (.inr (.inr (.inr (.inr ⟨two (by decide) hp, .inl rfl⟩))))
  · exact .inr (.inr (.inr (.inr (.inr ⟨(two (by decide) hp).symm, .inr rfl⟩))))
theorem at0_in : ∀ {ys : List Nat} {d : Nat}, d < ys.length → at0 ys d ∈ ys
  | [], _, h => by cases h
  | _ :: _, 0, _ => .head _
  | _ :: _, d + 1, h => .tail _ (at0_in (Nat.lt_of_succ_lt_succ h))
theorem t_7 (hi : Inv w) (hl : LenW n w) (hn : n < 90) (he : e = 0 ∨ e = 1) (hs : s < 1000) (hg : Ends n (s + 1) xs G) (tv : V) : TD J4 tv 7 e w s xs G := by
  rw [td_7 tv e he]
  intro ys hp
  rcases perm_ok (hi.me he).ti hp with ⟨rfl, _⟩ | hy
  · rw [f7_0 tv e he]
    exact hg _ _ hi ⟨hl.a.le (by omega), hl.b.le (by omega)⟩ (by omega)
  · rw [f7_1 tv e he w ys hy]
    refine ⟨hs, allB_of fun d hd => ?_⟩
    obtain ⟨a, b, c, l⟩ := due_w hi hl hn he (hp.subset (at0_in hd))
    exact ⟨a, b, hg _ _ c l (by omega)⟩
end
noncomputable def specD : SpecB := fun w s as Q => match as with
  | [.int (.ofNat _)] => ∃ n, n ≤ 40 ∧ Inv w ∧ LenW n w ∧ s + 3 ≤ 1000 ∧ ∀ w' s', Inv w' → LenW (n + 1) w' → s' ≤ s + 3 → Q (.bool true) w' s'
  | _ => False
theorem deed_at {n s : Nat} {w : PW} {xs : List Int} {G : GB} (hi : Inv w) (hl : LenW n w) (hn : n < 90) (hs : s + 3 ≤ 1000) (hg : Ends n (s + 3) xs G) (t : Nat) (fd : FD) : deedAt t w s xs fd G := by
  have e0 : (0 : Nat) = 0 ∨ (0 : Nat) = 1 := .inl rfl
  have e1 : (1 : Nat) = 0 ∨ (1 : Nat) = 1 := .inr rfl
  have g1 : Ends n (s + 1) xs G := fun w' s' i l h => hg w' s' i l (by omega)
  have g2 : Ends n (s + 2) xs G := fun w' s' i l h => hg w' s' i l (by omega)
  match t with
  | 0 => rw [deed_0]; exact t_0 hi hl hn e0 (by omega) g1 J1 (.inl rfl) _
  | 1 => rw [deed_1]; exact t_0 hi hl hn e1 (by omega) g1 J1 (.inl rfl) _
  | 2 => rw [deed_2]; exact ⟨by omega, allB2 (t_1 hi hl hn e0 g1 J3 (.inl rfl) _) (t_1 hi hl hn e1 g1 J3 (.inl rfl) _)⟩
  | 3 => rw [deed_3]; exact ⟨by omega, allB2 (t_2 hi hl hn e0 g1 J3 (.inl rfl) _ 2 (by omega)) (t_2 hi hl hn e1 g1 J3 (.inl rfl) _ 2 (by omega))⟩
  | 4 => rw [deed_4]; exact ⟨by omega, allB2 (t_2 hi hl hn e0 g1 J3 (.inl rfl) _ 2 (by omega)) (t_2 hi hl hn e1 g1 J3 (.inl rfl) _ 2 (by omega))⟩
  | 5 => rw [deed_5]; exact ⟨by omega, allB2 (t_2 hi hl hn e0 g1 J3 (.inl rfl) _ 2 (by omega)) (t_2 hi hl hn e1 g1 J3 (.inl rfl) _ 2 (by omega))⟩
  | t + 6 =>
    rw [deed_6]
    refine ⟨by omega, allB_of fun f hf => ?_⟩
    unfold deedL
    by_cases h9 : f = 9
    · subst h9
      exact t_9 hi hl hn g1 _
    · have : Nat.beq f 9 = false := by
        cases h : Nat.beq f 9 with
        | false => rfl
        | true => exact absurd (Nat.eq_of_beq_eq_true h) h9
      rw [this]
      have go : ∀ e, (e = 0 ∨ e = 1) → TD J4 (.int (.ofNat (t + 6))) f e w (s + 2) xs G := by
        intro e he
        have c : f = 0 ∨ f = 1 ∨ (f = 2 ∨ f = 3 ∨ f = 4 ∨ f = 5 ∨ f = 6) ∨ f = 7 ∨ f = 8 ∨ (f = 10 ∨ f = 11) := forms f hf h9
        rcases c with rfl | rfl | h | rfl | rfl | h
        · exact t_0 hi hl hn he (by omega) hg J4 (.inr rfl) _
        · exact t_1 hi hl hn he g2 J4 (.inr rfl) _
        · exact t_2 hi hl hn he g2 J4 (.inr rfl) _ f h
        · exact t_7 hi hl hn he (by omega) hg _
        · exact t_8 hi hl hn he (by omega) hg _
        · exact t_10 hi hl he g2 _ f h
      exact ⟨by omega, allB2 (go 0 e0) (go 1 e1)⟩
theorem deed_runs : RunsB H2 60 n_deed specD := by
  intro w s xs as Q' fd hl hn hs
  unfold specD at hs
  split at hs
  · rename_i t
    obtain ⟨n, h1, hi, hlw, h2, hq⟩ := hs
    exact deed_at (G := fun v o => nonref v = true ∧ ∃ w' s', o = some (w', s', xs) ∧ Lens w' ∧ Q' v w' s') hi hlw (by omega) h2
      (fun w' s' i l h => ⟨rfl, w', s', rfl, lens_of l (by omega) i, hq w' s' i l h⟩) t fd
  · exact hs.elim
end Mine
namespace Mine
open PySem

noncomputable def dD : DT := fun vs os K => match vs with
  | [.ref lb, .ref lw, .int (.ofNat _)] => ∃ w μ ls s xs n, rdW os lw = some (w, μ) ∧ rdB os lb = some (ls, s, xs) ∧ distinct (μ ++ [lb, ls]) = true ∧ n ≤ 40 ∧ Inv w ∧ LenW n w ∧ s + 3 ≤ 1000 ∧
      ∀ w' s', Inv w' → LenW (n + 1) w' → s' ≤ s + 3 → K (renew kpB os (μ ++ [lb, ls]) (cs18 w' s' xs))
  | _ => False
noncomputable def cD : DT := fun vs os K => match vs with
  | [.ref lw, .int (.ofNat e)] => ∃ w μ, rdW os lw = some (w, μ) ∧ distinct μ = true ∧ Lens w ∧ PreCom w e ∧ Lens (pCom w e) ∧ K (renew (kpW false) os μ (cs16 (pCom w e)))
  | _ => False
noncomputable def eD : DT := fun vs os K => match vs with
  | [.ref lw, .int (.ofNat e)] => ∃ w μ, rdW os lw = some (w, μ) ∧ distinct μ = true ∧ Lens w ∧ PreE w e ∧ K (renew (kpW false) os μ (cs16 w))
  | _ => False
theorem dD_ok {vs : List V} {σ : St} {Q : KV} (h : tHook dD vs σ Q) : oHook (bD specD) vs σ Q := by
  unfold tHook dD at h
  split at h
  · rename_i lb lw t
    obtain ⟨w, μ, ls, s, xs, n, h1, h2, h3, h4, h5, h6, h7, hq⟩ := h
    unfold oHook bD
    show (match rdW σ.objs lw, rdB σ.objs lb with
      | some (w, μ), some (ls, s, xs) => (match distinct (μ ++ [lb, ls]), [V.int (.ofNat t)].all nonref with
        | true, true => Lens w ∧ specD w s [V.int (.ofNat t)] fun v w' s' => Q v { σ with objs := renew kpB σ.objs (μ ++ [lb, ls]) (cs18 w' s' xs) }
        | _, _ => False)
      | _, _ => False)
    rw [h1, h2]
    show (match distinct (μ ++ [lb, ls]), [V.int (.ofNat t)].all nonref with
        | true, true => Lens w ∧ specD w s [V.int (.ofNat t)] fun v w' s' => Q v { σ with objs := renew kpB σ.objs (μ ++ [lb, ls]) (cs18 w' s' xs) }
        | _, _ => False)
    rw [h3]
    exact ⟨lens_of h6 (by omega) h5, n, h4, h5, h6, h7, hq⟩
  · exact h.elim
theorem cD_ok {vs : List V} {σ : St} {Q : KV} (h : tHook cD vs σ Q) : wHook false specCom vs σ Q := by
  unfold tHook cD at h
  split at h
  · rename_i lw e
    obtain ⟨w, μ, h1, h3, h4, h5, h6, hq⟩ := h
    unfold wHook
    show (match rdW σ.objs lw with
      | some (w, μ) => (match distinct μ, [V.int (.ofNat e)].all nonref with
        | true, true => Lens w ∧ specCom w [V.int (.ofNat e)] fun v w' => Q v { σ with objs := renew (kpW false) σ.objs μ (cs16 w') }
        | _, _ => False)
      | none => False)
    rw [h1]
    show (match distinct μ, [V.int (.ofNat e)].all nonref with
        | true, true => Lens w ∧ specCom w [V.int (.ofNat e)] fun v w' => Q v { σ with objs := renew (kpW false) σ.objs μ (cs16 w') }
        | _, _ => False)
    rw [h3]
    exact ⟨h4, ⟨h5, h6⟩, hq⟩
  · exact h.elim
theorem eD_ok {vs : List V} {σ : St} {Q : KV} (h : tHook eD vs σ Q) : wHook false specEnd vs σ Q := by
  unfold tHook eD at h
  split at h
  · rename_i lw e
    obtain ⟨w, μ, h1, h3, h4, h5, hq⟩ := h
    unfold wHook
    show (match rdW σ.objs lw with
      | some (w, μ) => (match distinct μ, [V.int (.ofNat e)].all nonref with
        | true, true => Lens w ∧ specEnd w [V.int (.ofNat e)] fun v w' => Q v { σ with objs := renew (kpW false) σ.objs μ (cs16 w') }
        | _, _ => False)
      | none => False)
    rw [h1]
    show (match distinct μ, [V.int (.ofNat e)].all nonref with
        | true, true => Lens w ∧ specEnd w [V.int (.ofNat e)] fun v w' => Q v { σ with objs := renew (kpW false) σ.objs μ (cs16 w') }
        | _, _ => False)
    rw [h3]
    exact ⟨h4, h5, hq⟩
  · exact h.elim
noncomputable def HL : Nat → Option Hook := H3 dD cD eD
theorem HL_ok {C : Cx} (X : Facts C) : HookOk C HL 240 := by
  intro f h e vs us L ρ σ s A Q hq rm R hv
  unfold HL H3 at e
  rcases pick_some e with ⟨rfl, rfl⟩ | e
  · exact dHook_ok X hq (rm.le (by omega)) R hv
  rcases pick_some e with ⟨rfl, rfl⟩ | e
  · exact bHook_ok X (H2_ok X) deed_runs (dD_ok hq) rm R hv
  rcases pick_some e with ⟨rfl, rfl⟩ | e
  · exact wHook_ok X (H1_ok X) com_runs (cD_ok hq) (rm.le (by omega)) R hv
  rcases pick_some e with ⟨rfl, rfl⟩ | e
  · exact wHook_ok X (noH_ok C) end_runs (eD_ok hq) (rm.le (by omega)) R hv
  · cases e

/-! the loops -/
theorem distinct_app {a b : List Nat} (h : distinct (a ++ b) = true) : distinct a = true := distinct_of fun i j hi hj e =>
  distinct_inj h i j (by rw [List.length_append]; omega) (by rw [List.length_append]; omega) (by rw [at0_app hi, at0_app hj]; exact e)
theorem memN_no {r : List Nat} (h : ∀ x ∈ r, x = 7) : memN r 8 = false := by
  induction r with
  | nil => rfl
  | cons a r ih =>
    have e : a = 7 := h a (.head _)
    subst e
    exact ih fun x hx => h x (.tail _ hx)
theorem inv_E {w : PW} {e : Nat} (hi : Inv w) (he : e = 0 ∨ e = 1) : PreE w e := by
  have m := hi.me he
  have hh := m.hh
  rcases heldOf_cases m.s6 with ⟨t, z | z | z⟩ | ⟨t, z⟩
  · rw [t] at hh
    obtain ⟨a, b⟩ := m.s3 z
    exact .sent he z hh a b
  · rw [t] at hh
    obtain ⟨⟨r, a, c⟩, b⟩ := m.s4 z
    exact .conf he z hh r a b (memN_no c)
  · rw [t] at hh
    obtain ⟨⟨r, a, c⟩, r', b⟩ := m.s5 z
    exact .estb he z hh r r' a b
  · rw [t] at hh
    exact .low he z hh
theorem end_one {os : List O} {w : PW} {s : Nat} {μ : List Nat} {ls : Nat} {xs : List Int} {n e : Nat} {K : List O → Prop} (g : Good os w s μ ls xs) (hi : Inv w) (hl : LenW n w) (hn : n ≤ 90) (he : e = 0 ∨ e = 1)
    (hk : ∀ os' μ', Good os' w s μ' ls xs → K os') : eD [.ref 22, .int (.ofNat e)] os K := by
  have L := lens_of hl hn hi
  obtain ⟨μ', g'⟩ := good_W g L w
  exact ⟨w, μ, g.rw, distinct_app g.d, L, inv_E hi he, hk _ _ g'⟩
theorem ends_ok {os : List O} {w : PW} {s : Nat} {μ : List Nat} {ls : Nat} {xs : List Int} {n : Nat} {K : List O → Prop} (g : Good os w s μ ls xs) (hi : Inv w) (hl : LenW n w) (hn : n ≤ 90)
    (hk : ∀ os' μ', Good os' w s μ' ls xs → K os') : ends2 eD os K :=
  end_one g hi hl hn (.inl rfl) fun _ _ g1 => end_one g1 hi hl hn (.inr rfl) hk
theorem dLoop_ok {xs : List Int} {K : List O → Prop} : ∀ (ts : List Nat) {os : List O} {w : PW} {s : Nat} {μ : List Nat} {ls : Nat} {n : Nat}, Good os w s μ ls xs → Inv w → LenW n w → n + ts.length ≤ 40 → s + 3 * ts.length ≤ 1000 →
    (∀ os' w' s' μ' ls', Good os' w' s' μ' ls' xs → Inv w' → LenW (n + ts.length) w' → K os') → dLoop dD eD ts os K
  | [], os, w, s, μ, ls, n, g, hi, hl, _, _, hk => hk os w s μ ls g hi hl
  | t :: ts, os, w, s, μ, ls, n, g, hi, hl, hn, hs, hk => by
    simp only [List.length_cons] at hn hs hk
    refine ⟨w, μ, ls, s, xs, n, g.rw, g.rb, g.d, by omega, hi, hl, by omega, fun w' s' i l h => ?_⟩
    obtain ⟨μ', ls', g'⟩ := good_B g (lens_of hl (by omega) hi) w' s'
    refine ends_ok g' i l (by omega) fun os2 μ2 g2 => dLoop_ok ts g2 i l (by omega) (by omega) fun os3 w3 s3 μ3 ls3 g3 i3 l3 => hk os3 w3 s3 μ3 ls3 g3 i3 ?_
    rw [Nat.add_assoc, Nat.add_comm 1] at l3
    exact l3
noncomputable def N3 (w : PW) : Prop := w.a.st ≠ 3 ∧ w.b.st ≠ 3
noncomputable def msB (k : Nat) (w : PW) : Prop := ms w.a w.b ≤ k ∧ ms w.b w.a ≤ k
theorem com_one {os : List O} {w : PW} {s : Nat} {μ : List Nat} {ls : Nat} {xs : List Int} {n e : Nat} {K : List O → Prop} (g : Good os w s μ ls xs) (hi : Inv w) (hl : LenW n w) (hn : n < 90) (he : e = 0 ∨ e = 1)
    (hk : ∀ os' w' μ', Good os' w' s μ' ls xs → Inv w' → LenW (n + 1) w' → ComR (me w e) (ot w e) (me w' e) (ot w' e) → K os') : cOne cD eD e os K := by
  have L := lens_of hl (by omega) hi
  obtain ⟨p, i, l, r⟩ := com_w hi hl hn he
  obtain ⟨μ', g'⟩ := good_W g L (pCom w e)
  exact ⟨w, μ, g.rw, distinct_app g.d, L, p, lens_of l (by omega) i, ends_ok g' i l (by omega) fun os2 μ2 g2 => hk os2 _ μ2 g2 i l r⟩
theorem rdAt_app {α : Type} {os : List O} {l : Nat} {f : O → Option α} {x : α} (J : List O) (h : rdAt os l f = some x) : rdAt (os ++ J) l f = some x := by
  obtain ⟨o, h1, h2⟩ := rd_at h
  rw [rdAt_of (nth_app J h1)]; exact h2
theorem rdW_app {os : List O} {l : Nat} {x : PW × List Nat} (J : List O) (h : rdW os l = some x) : rdW (os ++ J) l = some x := by
  unfold rdW at h
  split at h
  · cases h
  · rename_i ls lt ll hold damp wo e0
    split at h
    · rename_i s0 s1 t0 t1 lh lw li ld e1 e2 e3
      split at h
      · rename_i T0 T1 h0 h1 w0 w1 i0 i1 d0 d1 f1 f2 f3 f4 f5 f6
        split at h
        · rename_i W0 W1 I0 I1 D0 D1 g1 g2 g3 g4 g5 g6
          rw [← h]
          unfold rdW
          simp only [rdAt_app J e0, rdAt_app J e1, rdAt_app J e2, rdAt_app J e3, rdAt_app J f1, rdAt_app J f2, rdAt_app J f3, rdAt_app J f4, rdAt_app J f5, rdAt_app J f6, rdAt_app J g1, rdAt_app J g2, rdAt_app J g3, rdAt_app J g4, rdAt_app J g5, rdAt_app J g6]
        · cases h
      · cases h
    · cases h
theorem good_push {os : List O} {w : PW} {s : Nat} {μ : List Nat} {ls : Nat} {xs : List Int} (J : List O) (g : Good os w s μ ls xs) : Good (os ++ J) w s μ ls xs := by
  refine ⟨rdW_app J g.rw, ?_, g.d⟩
  obtain ⟨e1, e2⟩ := rdB_at g.rb
  unfold rdB
  simp only [rdAt_app J e1, rdAt_app J e2]
theorem round_ok {os : List O} {w : PW} {s : Nat} {μ : List Nat} {ls : Nat} {xs : List Int} {n : Nat} {K : List O → Prop} (g : Good os w s μ ls xs) (hi : Inv w) (hl : LenW n w) (hn : n + 2 ≤ 90)
    (hk : ∀ os' w' μ', Good os' w' s μ' ls xs → Inv w' → LenW (n + 2) w' → N3 w' → (N3 w → ∀ k, msB k w → msB (k - 1) w') → K os') : cStep cD eD os K := by
  refine com_one (good_push _ g) hi hl (by omega) (.inl rfl) fun os1 w1 μ1 g1 i1 l1 r1 => com_one g1 i1 l1 (by omega) (.inr rfl) fun os2 w2 μ2 g2 i2 l2 r2 => ?_
  have n1 : w1.a.st ≠ 3 := r1.n3
  have o1 : w1.b.st = w.b.st := r1.os
  have n2 : w2.b.st ≠ 3 := r2.n3
  have o2 : w2.a.st = w1.a.st := r2.os
  refine hk os2 w2 μ2 g2 i2 l2 ⟨by rw [o2]; exact n1, n2⟩ fun hN k hk => ?_
  have m1 : ms w1.a w1.b ≤ ms w.a w.b - 1 ∧ ms w1.b w1.a = ms w.b w.a := r1.ms hN.1
  have m2 : ms w2.b w2.a ≤ ms w1.b w1.a - 1 ∧ ms w2.a w2.b = ms w1.a w1.b := r2.ms (by show w1.b.st ≠ 3; rw [o1]; exact hN.2)
  obtain ⟨k1, k2⟩ := hk
  exact ⟨by rw [m2.2]; omega, by omega⟩
theorem cLoop_ok {xs : List Int} {K : List O → Prop} : ∀ (r : Nat) {os : List O} {w : PW} {s : Nat} {μ : List Nat} {ls : Nat} {n k : Nat}, Good os w s μ ls xs → Inv w → LenW n w → n + 2 * r ≤ 90 → N3 w → msB k w →
    (∀ os' w' μ', Good os' w' s μ' ls xs → Inv w' → N3 w' → msB (k - r) w' → K os') → cLoop cD eD r os K
  | 0, os, w, s, μ, ls, n, k, g, hi, hl, _, h3, hm, hk => hk os w μ g hi h3 hm
  | r + 1, os, w, s, μ, ls, n, k, g, hi, hl, hn, h3, hm, hk => by
    refine round_ok g hi hl (by omega) fun os1 w1 μ1 g1 i1 l1 n1 m1 => ?_
    refine cLoop_ok r g1 i1 l1 (by omega) n1 (m1 h3 k hm) fun os2 w2 μ2 g2 i2 n2 m2 => hk os2 w2 μ2 g2 i2 n2 ?_
    have : k - 1 - r = k - (r + 1) := by omega
    rw [this] at m2
    exact m2
theorem fin_of {w : PW} (hi : Inv w) (h3 : N3 w) (hm : msB 0 w) : Fin w := by
  obtain ⟨m1, m2⟩ := hm
  cases hA : w.a.held with
  | false =>
    cases hB : w.b.held with
    | false => exact .inl ⟨hA, hB⟩
    | true => rw [ms_half hB hA] at m2; omega
  | true =>
    cases hB : w.b.held with
    | false => rw [ms_half hA hB] at m1; omega
    | true =>
      rw [ms_on hA hB] at m1
      rw [ms_on hB hA] at m2
      have wa : w.a.way = [] := List.length_eq_zero_iff.mp (by omega)
      have wb : w.b.way = [] := List.length_eq_zero_iff.mp (by omega)
      have key : ∀ {m o : EN}, EndOk m o → EndOk o m → m.held = true → o.held = true → m.st ≠ 3 → o.st ≠ 3 → m.way = [] → m.st = 5 := by
        intro m o h1 h2 hm ho nm no hw
        have l := h1.line hm
        rw [hw, List.append_nil] at l
        have hh := h1.hh
        rw [hm] at hh
        have hh' := h2.hh
        rw [ho] at hh'
        rcases heldOf_cases h1.s6 with ⟨_, z | z | z⟩ | ⟨t, _⟩
        · exact absurd z nm
        · exfalso
          rw [(h1.s4 z).2] at l
          rcases heldOf_cases h2.s6 with ⟨_, y | y | y⟩ | ⟨t, _⟩
          · exact absurd y no
          · obtain ⟨⟨r, r1, _⟩, _⟩ := h2.s4 y
            rw [r1] at l; cases l
          · obtain ⟨⟨r, r1, _⟩, _⟩ := h2.s5 y
            rw [r1] at l; cases l
          · rw [t] at hh'; cases hh'
        · exact z
        · rw [t] at hh; cases hh
      exact .inr ⟨hA, key hi.a hi.b hA hB h3.1 h3.2 wa, key hi.b hi.a hB hA h3.2 h3.1 wb, wa, wb⟩
noncomputable def E0 : EN := ⟨0, [], false, [], [], []⟩
theorem E0_ok : EndOk E0 E0 := dead (by decide) (by decide) rfl rfl rfl
theorem good_0 (xs : List Int) (hold : Int) (damp wo d w : Bool) : Good (cs0 xs hold damp wo 3 d w) ⟨E0, E0, hold, damp, wo⟩ 3 [22, 4, 7, 5, 6, 18, 8, 11, 9, 10, 14, 12, 13, 17, 15, 16] 2 (xs.take 56) := ⟨rfl, rfl, rfl⟩
theorem loops_ok {xs : List Int} {hold : Int} {damp wo d w : Bool} (hh : hold = 0 ∨ hold = 9) {Q : KF} (hq : ∀ σ', Q (.ret (.bool true)) σ') : LOOPS HL (cs0 xs hold damp wo 3 d w) Q := by
  unfold HL
  rw [loops_eq]
  have i0 : Inv ⟨E0, E0, hold, damp, wo⟩ := ⟨E0_ok, E0_ok, hh⟩
  have l0 : LenW 0 ⟨E0, E0, hold, damp, wo⟩ := ⟨⟨Nat.le_refl _, Nat.le_refl _, Nat.le_refl _⟩, ⟨Nat.le_refl _, Nat.le_refl _, Nat.le_refl _⟩⟩
  refine dLoop_ok turns14 (good_0 xs hold damp wo d w) i0 l0 (by decide) (by decide) fun os1 w1 s1 μ1 ls1 g1 i1 l1 => ?_
  have l1 : LenW 14 w1 := l1
  obtain ⟨v, hv⟩ := drain_eq dD cD eD os1 Q
  rw [hv]
  refine round_ok (n := 14) g1 i1 l1 (by omega) fun os2 w2 μ2 g2 i2 l2 n2 _ => ?_
  have bound : msB 17 w2 := by
    have b : ∀ {m o : EN}, LenE 16 m → ms m o ≤ 17 := by
      intro m o h
      cases hm : m.held with
      | false => rw [ms_off hm]; omega
      | true =>
        cases ho : o.held with
        | true => rw [ms_on hm ho]; have := h.way; omega
        | false => rw [ms_half hm ho]; have := h.way; omega
    exact ⟨b l2.a, b l2.b⟩
  refine cLoop_ok 19 g2 i2 l2 (by omega) n2 bound fun os3 w3 μ3 g3 i3 n3 m3 => ?_
  exact tail_ok g3.rw (fin_of i3 n3 m3) fun σ' _ _ => hq σ'
structure LawRun (fd : FD) (xs : List Int) : Prop where
  run : exsStep (recX xs HL) fd.body { objs := [.gone], lc := [(39, .gref 999)], fd := fd } fun fl _ => fl = .ret (.bool true)
theorem law_ok (xs : List Int) : LawRun f_law xs := by
  refine ⟨?_⟩
  unfold HL
  rw [law_start]
  have hold : ∀ d, holdD d = 0 ∨ holdD d = 9 := fun d => by cases d; exact .inl rfl; exact .inr rfl
  exact ⟨by decide, allB_of fun d1 _ => ⟨by decide, allB_of fun d2 _ => ⟨by decide, allB_of fun d3 _ => loops_ok (hold d1) fun _ => rfl⟩⟩⟩
end Mine
namespace Mine
open PySem

structure ScrAt (C : Cx) (xs : List Int) : Prop where
  is : ∃ its, C.base.IsList (C.ga 999) its ∧ its.size ≤ 1048576 ∧ ∀ ρ N, VRs C ρ N (xs.map V.int) its.toList
  len : xs.length ≤ 1048576
theorem isScr_of {e : E} (h : isScr e = true) : ∃ p1 p2 sp p, e = .slc (.var 39 p1) (.cst (.int (.ofNat 56)) p2) sp p := by
  unfold isScr at h
  split at h
  · rename_i x p1 n p2 sp p
    have h := Bool.and_eq_true_iff.mp h
    have h1 := Nat.eq_of_beq_eq_true h.1
    have h2 := Nat.eq_of_beq_eq_true h.2
    subst h1 h2
    exact ⟨_, _, _, _, rfl⟩
  · cases h
theorem scrAt_of {σ : St} (h : scrAt σ = true) : lk σ.lc 39 = some (.gref 999) := by
  unfold scrAt at h
  split at h
  · rename_i k e
    rw [e, Nat.eq_of_beq_eq_true h]
  · cases h
section
variable {C : Cx} {L : Addr} {ρ : Nat → Addr} {σ : St} {s : Shared} {A : Around} {r : Rec} {n : Nat} {env : Env}
theorem scr_sound {xs : List Int} (Y : ScrAt C xs) {e : E} {Q : KV} (he : isScr e = true) (hσ : scrAt σ = true) (h : newO (.nums (xs.take 56)) σ Q) (Ev : EnvOk L σ.fd env) (R : Rep C L ρ σ s.heap) :
    wpAny (Mm C) A (eval (emb e) env) (Out C L (VR C) ρ σ s Q) Fls s := by
  obtain ⟨p1, p2, sp, p, rfl⟩ := isScr_of he
  unfold emb
  have hvar : ev_var 39 σ (fun v σ' => v = .gref 999 ∧ σ' = σ) := by
    unfold ev_var
    rw [scrAt_of hσ]
    exact ⟨rfl, rfl⟩
  refine wpAny_Subscript_list_slice (Out.go (var_sound hvar Ev R) fun a u ρ₁ σ₁ h₁ tk₁ q ha hq => ?_) (fun o r => rfl)
  obtain ⟨rfl, rfl⟩ := hq
  rw [evalPart_none]
  refine wpAny_pure ?_
  show wpAny (Mm C) A (eval (emb (.cst (.int (.ofNat 56)) p2)) env) _ Fls _
  have hcst : ev_cst (.int (.ofNat 56)) σ₁ (fun v σ' => v = .int (.ofNat 56) ∧ σ' = σ₁) := ⟨rfl, rfl⟩
  refine Out.go (cst_sound hcst q.rep) fun b w ρ₂ σ₂ h₂ tk₂ q₂ hb hq₂ => ?_
  obtain ⟨rfl, rfl⟩ := hq₂
  have Q2 := q.trans q₂ R
  obtain ⟨its, hL, hsz, hits⟩ := Y.is
  have hd : h₂.IsList (C.ga 999) its := let ⟨o, e, r⟩ := hL; ⟨o, q₂.rep.base _ _ e, r⟩
  have hu : u = .ref (C.ga 999) := by cases ha; rfl
  subst hu
  generalize hz : V.int (Int.ofNat 56) = z at hb
  cases hb with
  | int i t =>
    cases hz
    refine ⟨C.ga 999, its, none, some (.ofNat 56), rfl, hd, line_of (by omega), .none, .int _ _, ?_⟩
    refine Out.lift (h₁ := h₂) (tk₁ := tk₂) R Q2 (Out.fresh (s := { s with heap := h₂, toks := tk₂ }) (o := .nums (xs.take 56)) (tk := tk₂) q₂.rep (.of fun b o e => Heap.get?_push_of_some _ (Heap.get?_push_of_some _ e)) (Nat.le_succ _) ?_ (fun ag => (⟨⟨slicePick its none (some (Int.ofNat 56)) none, 0, rfl, ?_⟩, ?_⟩ : OR C _ _ (.nums (xs.take 56)) { cls := .type "list", data := .seq (slicePick its none (some (Int.ofNat 56)) none) })) h)
    · have := Heap.get?_push_size (h₂.push { cls := .type "slice", data := .fields #[.none, .int (.ofNat 56) t, .none] }) (o := { cls := .type "list", data := .seq (slicePick its none (some (Int.ofNat 56)) none) }) rfl
      rw [Heap.size_push] at this
      exact this
    · rw [pick_take, List.map_take]
      exact (hits _ _).take 56
    · have := List.length_take_le 56 xs
      omega
  | _ => cases hz
theorem snd_X (X : Facts C) {xs : List Int} (Y : ScrAt C xs) {H : Nat → Option Hook} {m : Nat} (HK : HookOk C H m) : ∀ n, Snd C (runX xs H n) (n + m)
  | 0 => ⟨fun h => h.elim, fun h => h.elim, fun h => h.elim, fun h => h.elim, fun h => h.elim, fun h => h.elim, fun h => h.elim, fun h => h.elim⟩
  | n + 1 => by
    have S := snd_X X Y HK n
    have dn : ∀ {A}, Room (n + 1 + m) A → Room (n + m) A := fun r => r.le (by omega)
    refine ⟨fun {e L env ρ σ s A Q} h rm Ev R => ?_, fun h rm Ev R => evs_step S h (dn rm) Ev R, fun h rm Ev R => dic_step S h (dn rm) Ev R, fun h rm Ev R => bopV_step S h (dn rm) Ev R,
      fun h rm Ev R => bopT_step S h (dn rm) Ev R, fun h rm Ev R => tst_step S X h (dn rm) Ev R, fun h rm Ev R => exs_step S X h (dn rm) Ev R, fun h rm R hv => call_step S X HK h rm R hv⟩
    have h : evX xs (runX xs H n) e σ Q := h
    unfold evX at h
    split at h
    · rename_i e1
      have e1 := Bool.and_eq_true_iff.mp e1
      exact scr_sound Y e1.1 e1.2 h Ev R
    · exact ev_step S X h (dn rm) Ev R
theorem snd_rec (X : Facts C) {xs : List Int} (Y : ScrAt C xs) {H : Nat → Option Hook} {m : Nat} (HK : HookOk C H m) : Snd C (recX xs H) (59 + m) := by
  have S := snd_X X Y HK 59
  have S' := snd X HK 59
  exact ⟨S.ev, S.evs, S.dic, S.bopV, S.bopT, S.tst, S'.exs, S.call⟩

/-- the law's call from without -/
theorem scr_call (X : Facts C) {xs : List Int} (Y : ScrAt C xs) {f : Nat} {fd : FD} (ef : ftab f = some fd) {ps : Pos} (hp1 : fd.ps = [(39, ps)])
    (hlaw : LawRun fd xs) (rm : Room 400 A) (hb : s.heap = C.base) :
    wpAny (Mm C) A (call (.ref (C.fa f)) [.ref (C.ga 999)]) (fun v s' => ∃ h' tk, s' = { s with heap := h', toks := tk } ∧ v = .bool true ∧ ∀ b o, s.heap.get? b = some o → h'.get? b = some o) Fls s := by
  obtain ⟨hname, hbind⟩ := bind_all ef
  have hps := Bool.and_eq_true_iff.mp (ps_all ef)
  have hloc := List.all_eq_true.mp hps.1
  obtain ⟨o, pm, cd, doc, ho, hdata, hcd⟩ := X.fn f fd ef
  have hul : [Value.ref (C.ga 999)].length = fd.ps.length := by rw [hp1]; rfl
  have hbd := hbind [.ref (C.ga 999)] hul (embSs fd.body) (scopeOf fd) pm cd doc
  have hargs : (argsOf fd).args.map (·.arg) = [tb 39] := by
    show (fd.ps.map fun a => ({ arg := tb a.1, annotation := none, pos := a.2 } : Arg)).map (·.arg) = _
    rw [hp1]; rfl
  rw [hname, hargs] at hbd
  have hloc39 : isLoc fd 39 = true := hloc (39, ps) (by rw [hp1]; exact List.mem_singleton.mpr rfl)
  have hlook : (scopeOf fd).names.lookup (tb 39) = some .local := by
    show (fd.names.map fun n => (tb n.1, kindB n.2)).lookup (tb 39) = _
    rw [lk_lookup]
    unfold isLoc at hloc39
    split at hloc39
    · rename_i e; rw [e]; rfl
    · cases hloc39
  have hlocs : ∀ q ∈ [tb 39].zip [Value.ref (C.ga 999)], (scopeOf fd).names.lookup q.1 = some .local := by
    intro q hq
    have : q = (tb 39, Value.ref (C.ga 999)) := List.mem_singleton.mp hq
    rw [this]; exact hlook
  have hcell : ∀ x ∈ (scopeOf fd).names, x.2 ≠ .cell := by
    intro x hx
    obtain ⟨q, _, rfl⟩ := List.mem_map.mp hx
    show kindB q.2 ≠ .cell
    cases q.2 <;> simp [kindB]
  refine wpAny_call (call_plain_ret (by have := rm.depth; omega) (by rw [hb]; exact ho) hdata (by rw [hb]; exact X.nolimit) (by rw [hb]; exact hcd) hbd hlocs ?_ rfl rfl rfl hcell)
  intro h₁ F
  have R' : Rep C s.heap.objs.size (fun _ => 0) { objs := [.gone], lc := [(39, .gref 999)], fd := fd } h₁ := by
    refine ⟨fun b o e => F.keep _ _ (by rw [hb]; exact e), Nat.le_of_eq (by rw [hb]), fun l o hl => ?_, fun l l' o o' hl => ?_, ⟨_, F.ns, fun x v hx => ?_⟩⟩
    · obtain ⟨e1, e2⟩ := hl
      match l, e1 with
      | 0, e1 => cases e1; cases e2
      | l + 1, e1 => cases e1
    · obtain ⟨e1, e2⟩ := hl
      match l, e1 with
      | 0, e1 => cases e1; cases e2
      | l + 1, e1 => cases e1
    · have hx : (match Nat.beq 39 x with | true => some (V.gref 999) | false => none) = some v := hx
      cases hb39 : Nat.beq 39 x with
      | true =>
        rw [hb39] at hx
        cases hx
        have := Nat.eq_of_beq_eq_true hb39
        subst this
        exact ⟨hloc39, .ref (C.ga 999), by simp, .gref 999⟩
      | false => rw [hb39] at hx; cases hx
  have rm' : Room (59 + 240) (A.deeper (envOf (tb f) (scopeOf fd) s.heap.objs.size (C.fa f) cd)) := (rm.le (by omega : 59 + 240 + 1 ≤ 400)).deeper _
  have Ev' : EnvOk s.heap.objs.size fd (envOf (tb f) (scopeOf fd) s.heap.objs.size (C.fa f) cd) := ⟨_, _, _, rfl⟩
  refine Out.go (s := { s with heap := h₁, toks := s.toks + ([tb 39].zip [Value.ref (C.ga 999)]).length }) (exs_step (snd_rec X Y (HL_ok X)) X hlaw.run rm' Ev' R') fun fl fw ρ₂ σ₂ h₂ tk₂ q hf hq => ?_
  cases hq
  obtain ⟨u, rfl, hr⟩ := hf
  cases hr
  exact ⟨h₂, tk₂, rfl, rfl, fun b o e => q.rep.base b o (by rw [← hb]; exact e)⟩
theorem ef_law : ftab n_law = some f_law := by kernel_rfl!
theorem ps_law : f_law.ps = [(39, ⟨255, 8, 255, 14⟩)] := by kernel_rfl!
theorem law_call (X : Facts C) {xs : List Int} (Y : ScrAt C xs) (rm : Room 400 A) (hb : s.heap = C.base) :
    wpAny (Mm C) A (call (.ref (C.fa n_law)) [.ref (C.ga 999)]) (fun v s' => ∃ h' tk, s' = { s with heap := h', toks := tk } ∧ v = .bool true ∧ ∀ b o, s.heap.get? b = some o → h'.get? b = some o) Fls s :=
  scr_call X Y ef_law ps_law (law_ok xs) rm hb
end
end Mine
namespace Mine
open PySem

noncomputable def allF : List FD := ftabL.map (·.2)
noncomputable def recOf (fd : FD) : Str × Arguments × List Stmt × Scope := (tb fd.name, argsOf fd, embSs fd.body, scopeOf fd)
noncomputable def recD (d : DefRec) : Str × Arguments × List Stmt × Scope := (d.name, d.params, d.body, d.scope)
theorem ftab_all {f : Nat} {fd : FD} (h : ftab f = some fd) : fd ∈ allF ∧ fd.name = f :=
  ⟨List.mem_map.mpr ⟨_, ftab_in h, rfl⟩, (bind_all h).1⟩
noncomputable def symAt (m : Str → Option Value) (x k : Nat) : Bool := match m (tb x) with
  | some (.str u _) => decide (u = tb k)
  | _ => false
noncomputable def refAt (m : Str → Option Value) (x : Nat) : Option Addr := match m (tb x) with
  | some (.ref a) => some a
  | _ => none
noncomputable def noneAt (m : Str → Option Value) (x : Nat) : Bool := match m (tb x) with
  | none => true
  | _ => false
noncomputable def vB : V → Value → Bool
  | .sym k, .str u _ => decide (u = tb k)
  | .int i, .int j _ => decide (j = i)
  | .byt, .bytes b _ => Nat.beq b.size 0
  | _, _ => false
noncomputable def vsB : List V → List Value → Bool
  | [], [] => true
  | a :: r, v :: vs => vB a v && vsB r vs
  | _, _ => false
noncomputable def tupOf (o : Option Obj) (xs : List V) : Bool := match o with
  | some ⟨.type t, none, .seq vs _, sl⟩ => decide (t = "tuple") && Nat.beq sl.size 0 && vsB xs vs.toList
  | _ => false
noncomputable def tupAt (m : Str → Option Value) (h : Heap) (k : Nat) (xs : List V) : Bool := match refAt m k with
  | some a => tupOf (h.get? a) xs && !(Nat.beq k 999)
  | none => false
noncomputable def gvalAt (m : Str → Option Value) (p : Nat × V) : Bool := match p.2 with
  | .sym k => symAt m p.1 k
  | .gref k => Nat.beq p.1 k && !(Nat.beq k 999) && (refAt m k).isSome
  | _ => true
noncomputable def gaL (m : Str → Option Value) : List Addr := gtab.map fun p => (refAt m p.1).getD 0
noncomputable def chkM (m : Str → Option Value) (h : Heap) : Bool := gval.all (gvalAt m) && gtab.all (fun p => tupAt m h p.1 p.2) && distinct (gaL m) && [n_len, n_list, n_tuple, n_sorted, n_abs, n_range].all (noneAt m)
noncomputable def chkH (h : Heap) : Bool := h.isNs mainGlobals && chkM (h.nsMap mainGlobals) h
noncomputable def GF (h : Heap) : Prop := ∃ m, h.Ns mainGlobals m ∧ chkM m h = true
theorem gf_of {h : Heap} (e : chkH h = true) : GF h := by
  have e := Bool.and_eq_true_iff.mp e
  exact ⟨_, .of_isNs e.1, e.2⟩
theorem tupOf_keeps {h h' : Heap} (k : ∀ b o, h.get? b = some o → h'.get? b = some o) {a : Addr} {xs : List V} (e : tupOf (h.get? a) xs = true) : tupOf (h'.get? a) xs = true := by
  cases q : h.get? a with
  | none => rw [q] at e; cases e
  | some o => rw [k _ _ q, ← q]; exact e
theorem gf_keeps {h h' : Heap} (x : GF h) (k : ∀ b o, h.get? b = some o → h'.get? b = some o) : GF h' := by
  obtain ⟨m, n, e⟩ := x
  refine ⟨m, n.keeps k, ?_⟩
  unfold chkM at e ⊢
  simp only [Bool.and_eq_true] at e ⊢
  obtain ⟨⟨⟨e1, e2⟩, e3⟩, e4⟩ := e
  refine ⟨⟨⟨e1, List.all_eq_true.mpr fun p hp => ?_⟩, e3⟩, e4⟩
  have := List.all_eq_true.mp e2 p hp
  unfold tupAt at this ⊢
  cases q : refAt m p.1 with
  | none => rw [q] at this; cases this
  | some a =>
    rw [q] at this
    have t := Bool.and_eq_true_iff.mp this
    exact Bool.and_eq_true_iff.mpr ⟨tupOf_keeps k t.1, t.2⟩
noncomputable def hookG : W.Hook := ⟨Bool, fun s => chkH s.heap, fun _ => true, fun _ h => GF h, fun _ _ e => gf_of e, fun _ _ _ x k => gf_keeps x k⟩
theorem ns_uniq {h : Heap} {a : Addr} {m m' : Str → Option Value} (x : h.Ns a m) (y : h.Ns a m') : m = m' := by
  obtain ⟨o, es, ep, h1, h2, _, h3⟩ := x
  obtain ⟨o', es', ep', g1, g2, _, g3⟩ := y
  have : o = o' := Option.some.inj (h1.symm.trans g1)
  subst this
  rw [h2] at g2
  cases g2
  exact funext fun n => (h3 n).symm.trans (g3 n)
noncomputable def adr : Option Value → Addr
  | some (.ref a) => a
  | _ => 0
noncomputable def cxOf (w : World) (h : Heap) (mg : Str → Option Value) (a : Addr) : Cx := ⟨w, h, fun f => adr (mg (tb f)), fun k => match Nat.beq k 999 with | true => a | false => adr (mg (tb k))⟩
theorem lk_in {α : Type} : ∀ {l : List (Nat × α)} {x : Nat} {v : α}, lk l x = some v → (x, v) ∈ l
  | [], _, _, e => by cases e
  | (k, u) :: l, x, v, e => by
    unfold lk at e
    split at e
    · rename_i hb; cases e; rw [Nat.eq_of_beq_eq_true hb]; exact .head _
    · exact .tail _ (lk_in e)
theorem symAt_of {m : Str → Option Value} {x k : Nat} (h : symAt m x k = true) : ∃ t, m (tb x) = some (.str (tb k) t) := by
  unfold symAt at h
  split at h
  · rename_i u t e; rw [e, of_decide_eq_true h]; exact ⟨t, rfl⟩
  · cases h
theorem refAt_of {m : Str → Option Value} {x : Nat} {a : Addr} (h : refAt m x = some a) : m (tb x) = some (.ref a) := by
  unfold refAt at h
  split at h
  · rename_i b e; cases h; exact e
  · cases h
theorem noneAt_of {m : Str → Option Value} {x : Nat} (h : noneAt m x = true) : m (tb x) = none := by
  unfold noneAt at h
  split at h
  · rename_i e; exact e
  · cases h
theorem vB_of {C : Cx} {ρ : Nat → Addr} {N : Nat} {a : V} {v : Value} (h : vB a v = true) : VR C ρ N a v := by
  unfold vB at h
  split at h
  · have e := of_decide_eq_true h; subst e; exact .sym _ _
  · have e := of_decide_eq_true h; subst e; exact .int _ _
  · have e := Array.eq_empty_of_size_eq_zero (Nat.eq_of_beq_eq_true h); subst e; exact .byt _
  · cases h
theorem vsB_of {C : Cx} {ρ : Nat → Addr} {N : Nat} : ∀ {xs : List V} {vs : List Value}, vsB xs vs = true → VRs C ρ N xs vs
  | [], [], _ => trivial
  | a :: r, v :: vs, h => by
    have h := Bool.and_eq_true_iff.mp h
    exact ⟨vB_of h.1, vsB_of h.2⟩
  | [], _ :: _, h => by cases h
  | _ :: _, [], h => by cases h
theorem tupOf_of {o : Option Obj} {xs : List V} (h : tupOf o xs = true) : ∃ vs n, o = some { cls := .type "tuple", data := .seq vs n } ∧ vsB xs vs.toList = true := by
  unfold tupOf at h
  split at h
  · rename_i t vs n sl
    have h := Bool.and_eq_true_iff.mp h
    have h1 := Bool.and_eq_true_iff.mp h.1
    have e1 := of_decide_eq_true h1.1
    have e2 := Array.eq_empty_of_size_eq_zero (Nat.eq_of_beq_eq_true h1.2)
    subst e1 e2
    exact ⟨vs, n, rfl, h.2⟩
  · cases h
theorem blts : bootBuiltins (tb n_len) = some (.builtin "len") ∧ bootBuiltins (tb n_sorted) = some (.builtin "sorted") ∧ bootBuiltins (tb n_abs) = some (.builtin "abs") ∧
    bootBuiltins (tb n_list) = some (.type "list") ∧ bootBuiltins (tb n_tuple) = some (.type "tuple") ∧ bootBuiltins (tb n_range) = some (.type "range") :=
  ⟨by kernel_rfl!, by kernel_rfl!, by kernel_rfl!, by kernel_rfl!, by kernel_rfl!, by kernel_rfl!⟩
theorem blt_ne : ∀ b ∈ [n_len, n_list, n_tuple, n_sorted, n_abs, n_range], tb b ≠ ("__name__" : Str) := by decide +kernel
theorem distinct_at : ∀ {l : List (Nat × List V)} {g : Nat → Nat}, distinct (l.map fun p => g p.1) = true → ∀ {k k' : Nat} {xs xs' : List V}, (k, xs) ∈ l → (k', xs') ∈ l → g k = g k' → k = k'
  | [], _, _, _, _, _, _, h, _, _ => by cases h
  | p :: l, g, hd, k, k', xs, xs', h1, h2, e => by
    have hmem : ∀ {q : Nat × List V}, q ∈ l → memN (l.map fun p => g p.1) (g q.1) = true := by
      intro q hq
      clear hd h1 h2
      induction l with
      | nil => cases hq
      | cons a l ih =>
        show (match Nat.beq (g a.1) (g q.1) with | true => true | false => memN (l.map fun p => g p.1) (g q.1)) = true
        rcases List.mem_cons.mp hq with rfl | hq
        · rw [Nat.beq_refl]
        · rw [ih hq]; cases Nat.beq (g a.1) (g q.1) <;> rfl
    have hd : (match memN (l.map fun p => g p.1) (g p.1) with | true => false | false => distinct (l.map fun p => g p.1)) = true := hd
    cases hm : memN (l.map fun p => g p.1) (g p.1) with
    | true => rw [hm] at hd; cases hd
    | false =>
      rw [hm] at hd
      rcases List.mem_cons.mp h1 with e1 | h1 <;> rcases List.mem_cons.mp h2 with e2 | h2
      · rw [← e2] at e1; exact congrArg Prod.fst e1
      · have := hmem h2
        rw [← e1] at hm
        rw [show g (k, xs).1 = g k from rfl, e] at hm
        rw [show g (k', xs').1 = g k' from rfl, hm] at this; cases this
      · have := hmem h1
        rw [← e2] at hm
        rw [show g (k', xs').1 = g k' from rfl, ← e] at hm
        rw [show g (k, xs).1 = g k from rfl, hm] at this; cases this
      · exact distinct_at hd h1 h2 e
theorem facts_of {p : Program} {loose : List Str} {mean : ExcName → Option Value} {mg mb : Str → Option Value} {h : Heap} (w : World) (a : Addr) (T : Top p loose mean mg mb h) (KX : GF h)
    (hr : (recsOf p).map recD = allF.map recOf) : Facts (cxOf w h mg a) := by
  obtain ⟨m, nm, hk⟩ := KX
  have em := ns_uniq nm T.g
  subst em
  unfold chkM at hk
  simp only [Bool.and_eq_true] at hk
  obtain ⟨⟨⟨k1, k2⟩, k3⟩, k4⟩ := hk
  have hfn : ∀ f fd, ftab f = some fd → ∃ a o pm cd doc, m (tb f) = some (.ref a) ∧ h.get? a = some o ∧ o.data = .func (Calls.docDef (tb f) (argsOf fd) (embSs fd.body) (scopeOf fd) pm cd doc) ∧ h.CodeRec cd (tb f) := by
    intro f fd e
    obtain ⟨h1, h2⟩ := ftab_all e
    have hm : recOf fd ∈ (recsOf p).map recD := by rw [hr]; exact List.mem_map.mpr ⟨fd, h1, rfl⟩
    obtain ⟨d, hd, ed⟩ := List.mem_map.mp hm
    obtain ⟨a, o, pm, code, doc, q1, q2, q3, q4⟩ := T.fn d hd
    have e1 : d.name = tb f := (congrArg Prod.fst ed).trans (by show tb fd.name = _; rw [h2])
    have e2 : d.params = argsOf fd := congrArg (fun x => x.2.1) ed
    have e3 : d.body = embSs fd.body := congrArg (fun x => x.2.2.1) ed
    have e4 : d.scope = scopeOf fd := congrArg (fun x => x.2.2.2) ed
    rw [e1] at q1 q4
    rw [e1, e2, e3, e4] at q3
    exact ⟨a, o, pm, code, doc, q1, q2, q3, q4⟩
  have href : ∀ {k : Nat} {a : Addr}, refAt m k = some a → m (tb k) = some (.ref a) := fun e => refAt_of e
  have hga : ∀ {k : Nat} {b : Addr}, Nat.beq k 999 = false → refAt m k = some b → (cxOf w h m a).ga k = b := fun {k b} e1 e2 => by
    show (match Nat.beq k 999 with | true => a | false => adr (m (tb k))) = b
    rw [e1, href e2]; rfl
  have htup : ∀ {k : Nat} {xs : List V}, (k, xs) ∈ gtab → ∃ b, refAt m k = some b ∧ tupOf (h.get? b) xs = true ∧ Nat.beq k 999 = false := by
    intro k xs hm
    have := List.all_eq_true.mp k2 _ hm
    unfold tupAt at this
    split at this
    · rename_i b e
      have q := Bool.and_eq_true_iff.mp this
      refine ⟨b, e, q.1, ?_⟩
      cases z : Nat.beq k 999 with
      | false => rfl
      | true => have := q.2; rw [z] at this; cases this
    · cases this
  refine ⟨⟨m, mb, T.g, T.b, fun f fd e => ?_, fun x k e => ?_, fun x k e => ?_, fun b hb => ?_, ?_⟩, fun f fd e => ?_, fun k xs e => ?_, fun k k' xs xs' e1 e2 e => ?_, T.nolimit⟩
  · obtain ⟨b, o, pm, cd, doc, q1, _⟩ := hfn f fd e
    rw [q1]
    show _ = some (Value.ref (adr (m (tb f))))
    rw [q1]; rfl
  · have := List.all_eq_true.mp k1 _ (lk_in e)
    obtain ⟨t, ht⟩ := symAt_of (show symAt m x k = true from this)
    exact ⟨t, ht⟩
  · have : (Nat.beq x k && !(Nat.beq k 999) && (refAt m k).isSome) = true := List.all_eq_true.mp k1 _ (lk_in e)
    have q := Bool.and_eq_true_iff.mp this
    have q1 := Bool.and_eq_true_iff.mp q.1
    obtain ⟨b, hb⟩ := Option.isSome_iff_exists.mp q.2
    have z : Nat.beq k 999 = false := by
      cases z : Nat.beq k 999 with
      | false => rfl
      | true => have := q1.2; rw [z] at this; cases this
    rw [Nat.eq_of_beq_eq_true q1.1, href hb, hga z hb]
  · exact noneAt_of (List.all_eq_true.mp k4 _ hb)
  · obtain ⟨a1, a2, a3, a4, a5, a6⟩ := blts
    have ne := blt_ne
    refine ⟨?_, ?_, ?_, ?_, ?_, ?_⟩
    · rw [T.builtins _ (ne _ (by simp))]; exact a1
    · rw [T.builtins _ (ne _ (by simp))]; exact a2
    · rw [T.builtins _ (ne _ (by simp))]; exact a3
    · rw [T.builtins _ (ne _ (by simp))]; exact a4
    · rw [T.builtins _ (ne _ (by simp))]; exact a5
    · rw [T.builtins _ (ne _ (by simp))]; exact a6
  · obtain ⟨b, o, pm, cd, doc, q1, q2, q3, q4⟩ := hfn f fd e
    refine ⟨o, pm, cd, doc, ?_, q3, q4⟩
    show h.get? (adr (m (tb f))) = _
    rw [q1]; exact q2
  · obtain ⟨b, e1, e2, e3⟩ := htup (lk_in e)
    obtain ⟨vs, n, e4, e5⟩ := tupOf_of e2
    refine ⟨vs, n, ?_, fun ρ N => vsB_of e5⟩
    rw [hga e3 e1]
    exact e4
  · obtain ⟨b, p1, _, p3⟩ := htup (lk_in e1)
    obtain ⟨b', p1', _, p3'⟩ := htup (lk_in e2)
    rw [hga p3 p1, hga p3' p1'] at e
    refine distinct_at (l := gtab) (g := fun k => (refAt m k).getD 0) k3 (lk_in e1) (lk_in e2) ?_
    show (refAt m k).getD 0 = (refAt m k').getD 0
    rw [p1, p1', e]
theorem vrs_ints {C : Cx} {ρ : Nat → Addr} {N : Nat} {vs : List Value} {xs : List Int} (h : IntsAre vs xs) : VRs C ρ N (xs.map V.int) vs := by
  induction h with
  | nil => trivial
  | cons => exact ⟨.int _ _, by assumption⟩
end Mine
namespace Mine
open PySem
theorem end_ok {c : ClaimW} {cl : Str → Option Addr} {mean : ExcName → Option Value} {args : List WData} {s₁ : Shared} {h' : Heap} {tk : Nat} (hk : ∀ b o, s₁.heap.get? b = some o → h'.get? b = some o)
    (hr : ∀ cls, c.raises args cls = false) (hp : c.post args (.bool true) args = true) (hg : s₁.gens = #[]) : GoodWG c cl mean args s₁ (.ok (.ret (.bool true))) { s₁ with heap := h', toks := tk } :=
  ⟨.inl ⟨_, _, [], rfl, hr, ReadsW.bool true, hp, fun _ => ⟨List.nodup_nil, fun _ hm => (nomatch hm)⟩⟩, .of_keep hk, rfl, .of_eq hg⟩
theorem law_name : tb n_law = Str.ofString "law" := by kernel_rfl!
theorem law_walk {w : World} {mg : Str → Option Value} {s₁ : Shared} {fa ad : Addr} {vals : List Value} {xs : List Int} {Q : Value → Shared → Prop} {E : Value → Shared → Prop} (X : Facts (cxOf w s₁.heap mg ad)) (hmg : mg (Str.ofString "law") = some (.ref fa))
    (hL : s₁.heap.IsList ad vals.toArray) (hI : IntsAre vals xs) (hlen : xs.length ≤ 1048576)
    (hq : ∀ h' tk, (∀ b o, s₁.heap.get? b = some o → h'.get? b = some o) → Q (.bool true) { s₁ with heap := h', toks := tk }) :
    wpAny (model pg w) callerA (call (.ref fa) [.ref ad]) Q E s₁ := by
  have e1 : (cxOf w s₁.heap mg ad).fa n_law = fa := by
    show adr (mg (tb n_law)) = fa
    rw [law_name, hmg]; rfl
  have hlv : vals.length = xs.length := by
    have := (vrs_ints (C := cxOf w s₁.heap mg ad) (ρ := fun _ => 0) (N := 0) hI).length
    rw [List.length_map] at this
    exact this.symm
  have Y : ScrAt (cxOf w s₁.heap mg ad) xs := ⟨⟨vals.toArray, hL, by rw [List.size_toArray]; omega, fun ρ N => vrs_ints hI⟩, hlen⟩
  have rm : Room 400 callerA := ⟨rfl, by decide, by decide⟩
  have hc := law_call (s := s₁) (A := callerA) X Y rm rfl
  rw [e1] at hc
  refine wpAny_mono hc (fun v s' x => ?_) fun _ _ e => e.elim
  obtain ⟨h', tk, rfl, rfl, hk⟩ := x
  exact hq h' tk hk
end Mine
namespace Mine
open PySem
noncomputable def viewB : List Stmt → List Stmt
  | a :: _ :: _ :: r => a :: r
  | l => l
noncomputable def view : Program := { pg with main := { pg.main with body := viewB pg.main.body } }
noncomputable def looseL : List Str := [tb 44, tb 75, tb 73, tb 85, tb 66, tb 100]
noncomputable def readL : List (Str × WData) := [(tb 44, .str (tb 0)), (tb 75, .str (tb 1)), (tb 73, .str (tb 2)), (tb 85, .str (tb 3)), (tb 66, .str (tb 4)), (tb 100, .str (tb 5))]
noncomputable def lookG (s : Shared) : Bool := xlAt view readL s && recOk (RowW.records PySem.Challenge.rw_sz0114_01.row.toRowW) s
theorem recs_view : (recsOf view).map recD = allF.map recOf := by kernel_rfl!
theorem left_f : ∀ w : World, (openEnds treeTable pg (w.withFollow "special-get-raises" false) 2306).map (fun s => (openSeen view looseL (importedModules pg.main.body) lookG true s, W.Hook.obs hookG s)) = some (openGood view looseL, true) := fun w => by kernel_rfl!
theorem left_t : ∀ w : World, (openEnds treeTable pg (w.withFollow "special-get-raises" true) 2306).map (fun s => (openSeen view looseL (importedModules pg.main.body) lookG true s, W.Hook.obs hookG s)) = some (openGood view looseL, true) := fun w => by kernel_rfl!
theorem left_top : LeftO pg view looseL lookG (W.Hook.obs hookG) (W.Hook.val hookG) 2306 := fun w => by
  have e := World.withFollow_self w "special-get-raises"
  cases hb : w.params.followText "special-get-raises" with
  | false => rw [hb] at e; have := left_f w; rw [e] at this; exact this
  | true => rw [hb] at e; have := left_t w; rw [e] at this; exact this
theorem well_said : PySem.Challenge.rw_sz0114_01.wellSaid = true := by
  first
    | (rw [PySem.W.Fast.te9446332074065402090]; kernel_rfl!)
    | kernel_rfl!
end Mine
set_option maxHeartbeats 0 in
theorem PySem.Challenge.cw_sz0114_01_holds : PySem.Challenge.rw_sz0114_01.Holds := by
  w_on
  refine holds_law Mine.well_said fun said => ?_
  refine holds_open (q := Mine.view) (loose := Mine.looseL) (Xt := Mine.lookG) (XP := XL Mine.view Mine.readL) (Yf := W.Hook.obs Mine.hookG) (Ya := W.Hook.val Mine.hookG) (YP := W.Hook.says Mine.hookG) (N := 2306) Mine.left_top (W.Hook.of Mine.hookG) (W.Hook.keeps Mine.hookG) (fun s e => xl_of s (Bool.and_eq_true_iff.mp e).1) XL.keeps (by rfl) (by rfl) (by rfl) (fun s e => recFacts_of (Bool.and_eq_true_iff.mp e).2) (by rfl) (by first | assumption | decide +kernel) (by decide +kernel) ⟨rfl, rfl, rfl, rfl, rfl, by decide +kernel⟩ ?hw ?hc
  case hw => w_witness2
  intro w s₀ s₁ mg mb G Y fa o pm cd doc dV kV ho hd hcd hD hmg hg args vals as hpre hlay hrd hwl hlo
  refine Ground.open G ?_
  intro T B D TE TW
  wrow_args hpre hlay hrd hwl hlo
  rename_i xs _ _ _ _ _ _ _ ad vs _ hL _ _ _ hI _ hlen _
  have X := Mine.facts_of w ad T Y Mine.recs_view
  exact Mine.law_walk X hmg hL hI (by omega) fun h' tk hk => Mine.end_ok hk (fun _ => rfl) (by first | rfl | wrow_post) hg
