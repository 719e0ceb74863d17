import PyProof.Rows.All
import Wide.All
import OpenK.AllK
import Wide.FinOn
import OpenRun
import OpenK.XSim
import PyProof.NeKinds
import PyProof.ListTruth
import PyProof.MeetsDictList
import PyProof.AutoIntG6
import PyProof.AutoIntG4
import PyProof.DictRoadsH
import PyProof.WalksMore
import PyProof.Comp
import PyProof.DictWalks
import PyProof.DictIter
import PyProof.RangeFor
import PyProof.Rows.SortShell
import Open.Head
import Lean
import PySem.Challenge.RW_on0354_01
set_option Elab.async false
set_option maxRecDepth 100000
set_option linter.all false
set_option genSizeOf false
set_option genInjectivity false
set_option genCtorIdx false
open PySem PySem.W PyProof.Rows
section
open PySem PySem.W PyProof.Rows
namespace Mine
open Lean (TSyntax MacroM quote Macro)
structure Shot where
 steps : Nat
 s : Shared
 pos : Pos
 chg : List Addr
def pw : Program := PySem.Challenge.pw_on0354_01
def bodyL : List Stmt := behindTheImports pw
def noteCh (t : Thread) (s : Shared) (l : List Addr) : List Addr := match t.cur with
 | .update a _ _ _ => if l.contains a then l else a :: l
 | .alloc _ _ => s.heap.objs.size :: l
 | _ => l
def runUntil (w : World) (done : Thread → Bool) : Nat → Nat → Shared → Thread → List Addr → Option (Nat × Shared × Thread × List Addr)
 | 0, _, _, _, _ => none
 | n + 1, k, s, t, l => if done t then some (k, s, t, l) else
  match step (denote treeTable) pw w s t with
  | .go s' t' => runUntil w done n (k + 1) s' t' (noteCh t s l)
  | .halt _ _ => none
structure Made where
 pre : Shot
 codeV : Value
 frame : Addr
 q : Pos
 block : Shot
 pieces : List Shot
def cuts : List Nat := [26, 47, 27, 21]
def splitBy : List Nat → List Stmt → List (List Stmt)
 | [], _ => []
 | n :: r, l => l.take n :: splitBy r (l.drop n)
def goShots (w : World) (env : Env) (code : Code) (B : List Frame) : List (List Stmt) → Shared → Pos → List Shot → Option (List Shot)
 | [], _, _, acc => some acc.reverse
 | g :: r, s, pos, acc => match runUntil w (fun t => (endAt 1 t).isSome) 100000 0 s (piecesOf g env code pos B) [] with
  | some (k, s', t', l) => goShots w env code B r s' t'.pos (⟨k, s', t'.pos, l⟩ :: acc)
  | none => none
def make (w : World) : Option Made :=
 match fencedOpening treeTable pw w 100000 with
 | none => none
 | some s0 =>
  match runUntil w (fun t => t.stack.length == 1) 100000 0 s0 (topStub pw) [] with
  | none => none
  | some (k0, sa, ta, l0) =>
   match ta.code, ta.stack with
   | .body b env, [.ret _ _ _ _ _ q _] =>
    let B := [topFrame q]
    match env.frame, runUntil w (fun t => (endAt 1 t).isSome) 100000 0 sa (blockOf b env ta.code ta.pos B) [] with
    | some fr, some (kb, sb, tb, lb) =>
     match goShots w env ta.code B (splitBy cuts b) sb tb.pos [] with
     | some ps => some ⟨⟨k0, sa, ta.pos, l0⟩, env.code, fr, q, ⟨kb, sb, tb.pos, lb⟩, ps⟩
     | none => none
    | _, _ => none
   | _, _ => none
abbrev Tm := TSyntax `term
def ap (n : Lean.Name) (l : List Tm) : Tm := Lean.Syntax.mkApp (Lean.mkCIdent n) l.toArray
def qNat (n : Nat) : Tm := ⟨.node .none `rawNatLit #[.atom .none "nat_lit", (Lean.Syntax.mkNumLit (toString n)).raw]⟩
def qInt (i : Int) : Tm := match i with
 | .ofNat n => ap `Int.ofNat [qNat n]
 | .negSucc n => ap `Int.negSucc [qNat n]
def qStr (s : PySem.Str) : Tm := ap `PySem.Str.ofString [Lean.Syntax.mkStrLit s.toString]
def qList (l : List Tm) : Tm := ⟨.node .none `«term[_]» #[.atom .none "[", .node .none `null ((l.map fun x => x.raw).intersperse (.atom .none ",")).toArray, .atom .none "]"]⟩
def qOpt (o : Option Tm) : Tm := match o with | some t => ap `Option.some [t] | none => ap `Option.none []
def qBool (b : Bool) : Tm := if b then ap `Bool.true [] else ap `Bool.false []
def qVal : Value → Tm
 | .none => ap `PySem.Value.none []
 | .ellipsis => ap `PySem.Value.ellipsis []
 | .notImplemented => ap `PySem.Value.notImplemented []
 | .bool b => ap `PySem.Value.bool [qBool b]
 | .int i t => ap `PySem.Value.int [qInt i, qNat t]
 | .float b t => ap `PySem.Value.float [qNat b.toNat, qNat t]
 | .str s t => ap `PySem.Value.str [qStr s, qNat t]
 | .bytes b t => ap `PySem.Value.bytes [ap `List.toArray [qList (b.toList.map fun x => qNat x.toNat)], qNat t]
 | .type n => ap `PySem.Value.type [Lean.Syntax.mkStrLit n]
 | .builtin n => ap `PySem.Value.builtin [Lean.Syntax.mkStrLit n]
 | .ref a => ap `PySem.Value.ref [qNat a]
def qEntry (P : Tm) (e : DictEntry) : Tm := ap `PySem.DictEntry.mk [match e.key with
 | .str x _ => ap `PySem.PyData.keyHash [P, qStr x]
 | _ => qInt e.hash, qVal e.key, qVal e.val]
def fnData (st : Stmt) (qual : PySem.Str) (gl bl : Addr) (dV : Value) (pm cd ct : Value) : Data := match st with
 | .FunctionDef name args body _ _ _ scope _ _ _ => .func { name := name, qualname := qual, params := args, body := .stmts body, scope := scope, globals := gl, closure := [], defaults := dV, kwdefaults := .none, doc := .none, pyModule := pm, annotations := none, code := cd, closureTuple := ct, builtins := bl }
 | _ => .plain
def stAt (l : List Stmt) : List Nat → Stmt
 | [] => .Pass ⟨0, 0, 0, 0⟩
 | [i] => l.getD i (.Pass ⟨0, 0, 0, 0⟩)
 | i :: r => match l[i]? with
  | some (.ClassDef _ _ _ b _ _ _ _ _ _ _) => stAt b r
  | _ => .Pass ⟨0, 0, 0, 0⟩
def pathOf (l : List Stmt) (f : FuncData) : Option (List Nat) :=
 let at1 (st : Stmt) : Bool := match st with | .FunctionDef n _ _ _ _ _ _ _ _ _ => n == f.qualname | _ => false
 match (l.zipIdx.find? fun x => at1 x.1) with
 | some (_, i) => some [i]
 | none => l.zipIdx.findSome? fun (st, i) => match st with
  | .ClassDef c _ _ b _ _ _ _ _ _ _ => (b.zipIdx.find? fun (st', _) => match st' with | .FunctionDef n _ _ _ _ _ _ _ _ _ => (c ++ ("." : PySem.Str) ++ n) == f.qualname | _ => false).map fun (_, j) => [i, j]
  | _ => none
def arr (l : List Tm) : Tm := ap `Array.mk [qList l]
def qData (P : Tm) : Data → Tm
 | .plain => ap `PySem.Data.plain []
 | .prim v => ap `PySem.Data.prim [qVal v]
 | .seq xs n => ap `PySem.Data.seq [arr (xs.toList.map qVal), qNat n]
 | .dict es n => ap `PySem.Data.dict [arr (es.toList.map (qEntry P)), qNat n]
 | .cell v => ap `PySem.Data.cell [qOpt (v.map qVal)]
 | .fields vs => ap `PySem.Data.fields [arr (vs.toList.map qVal)]
 | .cls c => ap `PySem.Data.cls [ap `PySem.ClassData.mk [qStr c.name, qList (c.bases.map qVal), qList (c.mro.map qVal), qNat c.ns, qStr c.qualname, qBool c.hasDict, qList (c.slotNames.map qStr), qList (c.subclasses.map qVal), qBool c.abstract, qOpt (c.collection.map qBool), qBool c.hasDel]]
 | .func f => match pathOf bodyL f with
  | some p => ap `Mine.fnData [ap `Mine.stAt [ap `Mine.bodyL [], qList (p.map qNat)], qStr f.qualname, qNat f.globals, qNat f.builtins, qVal f.defaults, qVal f.pyModule, qVal f.code, qVal f.closureTuple]
  | none => ap `notFound []
 | _ => ap `otherKind []
def qObj (P : Tm) (o : Obj) : Tm := ap `PySem.Obj.mk [qVal o.cls, qOpt (o.dict.map qNat), qData P o.data, arr (o.slots.toList.map fun x => qOpt (x.map qVal))]
inductive NT where
 | nil
 | node (c : Nat) (l r : NT)
noncomputable def mapT (f : Nat → Obj) (t : NT) : BT := NT.rec (motive := fun _ => BT) BT.nil (fun c _ _ l r => BT.node (f c) l r) t
def selL : List (List Obj) → Nat → List Obj
 | [], _ => []
 | o :: r, n => match n with
  | 0 => o
  | m + 1 => selL r m
noncomputable def sel (l : List Obj) (n : Nat) : Obj := List.rec (motive := fun _ => Obj) default (fun o _ _ => o) (Nat.rec (motive := fun _ => List Obj) l (fun _ ih => List.rec (motive := fun _ => List Obj) [] (fun _ t _ => t) ih) n)
def growD (o : Obj) (l : List DictEntry) (n : Nat) : Obj := match o with
 | ⟨c, d, .dict es _, s⟩ => ⟨c, d, .dict (Array.mk (es.toList ++ l)) n, s⟩
 | o => o
def growF (o : Obj) (l : List Value) : Obj := match o with
 | ⟨c, d, .fields vs, s⟩ => ⟨c, d, .fields (Array.mk (vs.toList ++ l)), s⟩
 | o => o
def entSame (a b : DictEntry) : Bool := a.hash == b.hash && a.key == b.key && a.val == b.val
def grown (P old : Tm) (o o' : Obj) : Option Tm :=
 if !(o.cls == o'.cls && o.dict == o'.dict && o.slots == o'.slots) then none else match o.data, o'.data with
 | .dict es _, .dict es' n' =>
  if es.size ≤ es'.size && es.size > 2 && (es.toList.zip es'.toList).all (fun x => entSame x.1 x.2) then
   some (ap `Mine.growD [old, qList ((es'.toList.drop es.size).map (qEntry P)), qNat n'])
  else none
 | .fields vs, .fields vs' =>
  if vs.size ≤ vs'.size && vs.size > 2 && vs.toList == vs'.toList.take vs.size then
   some (ap `Mine.growF [old, qList ((vs'.toList.drop vs.size).map qVal)])
  else none
 | _, _ => none
def lastAt (b : Nat) : List (Nat × List Addr) → Option (Nat × Nat)
 | [] => none
 | (v, chg) :: r => match chg.findIdx? (· == b) with
  | some j => some (v, j)
  | none => lastAt b r
def leafTm (P : Tm) (back : List (Nat × List Addr)) (b : Nat) : Tm := match lastAt b back with
 | some (v, j) => ap `Mine.sel [ap (.str `Mine ("O" ++ toString v)) [P], qNat j]
 | none => ap (.str `PySem.W ("boot_o_" ++ toString b)) [P]
def treeTm (back : List (Nat × List Addr)) (size : Nat) : Nat → Nat → Nat → Tm
 | 0, _, _ => ap `deep []
 | fuel + 1, a, b =>
  if b ≥ size then ap `Mine.NT.nil [] else
  let c := match lastAt b back with
   | some (v, j) => (v + 1) * 2048 + j
   | none => b
  ap `Mine.NT.node [qNat c, treeTm back size fuel (2 * a) (a + b), treeTm back size fuel (2 * a) (2 * a + b)]
def shots (m : Made) : List Shot := m.pre :: m.pieces
def backOf (m : Made) (k : Nat) : List (Nat × List Addr) := (((shots m).take (k + 1)).zipIdx.map fun (s, i) => (i, s.chg)).reverse
def treeAt (m : Made) (k : Nat) : Tm := match (shots m)[k]? with
 | some s => treeTm (backOf m k) s.s.heap.objs.size 40 1 0
 | none => ap `noPiece []
def objsAt (P : Tm) (m : Made) (k : Nat) : Tm := match (shots m)[k]? with
 | some s =>
  let old : Array Obj := match k with
   | 0 => #[]
   | k' + 1 => match (shots m)[k']? with
    | some s' => s'.s.heap.objs
    | none => #[]
  qList (s.chg.map fun a => match s.s.heap.objs[a]? with
   | some o => match old[a]? with
    | some o0 => match grown P (leafTm P (backOf m (k - 1)) a) o0 o with
     | some t => t
     | none => qObj P o
    | none => qObj P o
   | none => ap `noObject [])
 | none => ap `noPiece []
local macro_rules | `(tactic| walk_at $s:str) => do
 match s.getString.splitOn " " with
 | ["mine", x, k] =>
  match make (trialWorld 0) with
  | some m =>
   let P ← `(P)
   let t := if x == "T" then treeAt m k.toNat! else objsAt P m k.toNat!
   if x == "T" then `(tactic| exact $t) else `(tactic| exact fun P => $t)
  | none => Macro.throwError "the top does not come through"
 | _ => Macro.throwUnsupported
noncomputable abbrev runF := @PySem.W.Fast.tw10110043849684766642
noncomputable abbrev tabF := PySem.W.Fast.tw14364793385576792824
noncomputable def qTop : Pos := { line := 0, col := 0, endLine := 0, endCol := 0 }
noncomputable def envM : Env := { scope := pw.main.scope, locals := mainNs, globals := mainNs, cells := [], code := .ref 13, frame := some 14 }
noncomputable def cE : Code := .body bodyL envM
noncomputable def BM : List Frame := [topFrame qTop]
noncomputable def annM : Option Value := some (.ref 6)
noncomputable def O0 : Params → List Obj := by walk_at "mine O 0"
noncomputable def O1 : Params → List Obj := by walk_at "mine O 1"
noncomputable def O2 : Params → List Obj := by walk_at "mine O 2"
noncomputable def O3 : Params → List Obj := by walk_at "mine O 3"
noncomputable def O4 : Params → List Obj := by walk_at "mine O 4"
noncomputable def LO (P : Params) : List (List Obj) := [[boot_o_0 P, boot_o_1 P, boot_o_2 P, boot_o_3 P, boot_o_4 P, boot_o_5 P, boot_o_6 P, boot_o_7 P, boot_o_8 P, boot_o_9 P, boot_o_10 P], O0 P, O1 P, O2 P, O3 P, O4 P]
noncomputable def leafO (P : Params) (c : Nat) : Obj := sel (selL (LO P) (c / 2048)) (c % 2048)
noncomputable def t0 : NT := by walk_at "mine T 0"
noncomputable def T0 (P : Params) : BT := mapT (leafO P) t0
noncomputable def t1 : NT := by walk_at "mine T 1"
noncomputable def T1 (P : Params) : BT := mapT (leafO P) t1
noncomputable def t2 : NT := by walk_at "mine T 2"
noncomputable def T2 (P : Params) : BT := mapT (leafO P) t2
noncomputable def t3 : NT := by walk_at "mine T 3"
noncomputable def T3 (P : Params) : BT := mapT (leafO P) t3
noncomputable def t4 : NT := by walk_at "mine T 4"
noncomputable def T4 (P : Params) : BT := mapT (leafO P) t4
noncomputable def S0 (w : World) (os : OsState) : SharedT := ⟨T0 w.params, 15, {}, #[], {}, 187, os⟩
noncomputable def S1 (w : World) (os : OsState) : SharedT := ⟨T1 w.params, 468, {}, #[], {}, 795, os⟩
noncomputable def l1 : List Stmt := (bodyL.drop 0).take 26
theorem p1 (w : World) : (fun os => runF tabF pw w 11 annM 1 3723 (S0 w os) (piecesOf l1 envM cE { line := 0, col := 0, endLine := 0, endCol := 0 } BM)) = fun os => some (.next, S1 w os, cE, { line := 200, col := 0, endLine := 236, endCol := 56 }) := by kernel_rfl
noncomputable def S2 (w : World) (os : OsState) : SharedT := ⟨T2 w.params, 980, {}, #[], {}, 1560, os⟩
noncomputable def l2 : List Stmt := (bodyL.drop 26).take 47
theorem p2 (w : World) : (fun os => runF tabF pw w 11 annM 1 3621 (S1 w os) (piecesOf l2 envM cE { line := 200, col := 0, endLine := 236, endCol := 56 } BM)) = fun os => some (.next, S2 w os, cE, { line := 617, col := 0, endLine := 617, endCol := 8 }) := by kernel_rfl
noncomputable def S3 (w : World) (os : OsState) : SharedT := ⟨T3 w.params, 1373, {}, #[], {}, 2115, os⟩
noncomputable def l3 : List Stmt := (bodyL.drop 73).take 27
theorem p3 (w : World) : (fun os => runF tabF pw w 11 annM 1 2322 (S2 w os) (piecesOf l3 envM cE { line := 617, col := 0, endLine := 617, endCol := 8 } BM)) = fun os => some (.next, S3 w os, cE, { line := 921, col := 0, endLine := 956, endCol := 97 }) := by kernel_rfl
noncomputable def S4 (w : World) (os : OsState) : SharedT := ⟨T4 w.params, 1723, {}, #[], {}, 2606, os⟩
noncomputable def l4 : List Stmt := (bodyL.drop 100).take 21
theorem p4 (w : World) : (fun os => runF tabF pw w 11 annM 1 2063 (S3 w os) (piecesOf l4 envM cE { line := 921, col := 0, endLine := 956, endCol := 97 } BM)) = fun os => some (.next, S4 w os, cE, { line := 1258, col := 0, endLine := 1262, endCol := 89 }) := by kernel_rfl
noncomputable abbrev T14 := T4
noncomputable abbrev S14 := S4
end Mine
end
set_option bootstrap.genMatcherCode false
local macro_rules | `(tactic| omega) => `(tactic| lia)
namespace Mine
noncomputable section
def hM (P : Params) : Heap := absHeap (T14 P) 1723 {}
def lawSt : Stmt := bodyL.getD 120 (.Pass ⟨0, 0, 0, 0⟩)
def qM : Program := { pw with main := { pw.main with body := [lawSt] } }
def looseM : List PySem.Str := (["_wall", "StackError", "SizeError", "PortError", "StateError", "ResetError", "TimedOutError", "MOST_PORT", "Ports", "plus", "distance", "is_before", "is_at_most", "latest", "AckPolicy", "Congestion", "MOST_SHIFT_retransmit", "RetransmitClock", "RttEstimate", "SendQueue", "PeerWindow", "Sender", "put16", "FIN", "SYN", "RST", "PSH", "ACK", "OPTION_MSS", "MSS_SIZE", "Segment", "check_number", "mss_option", "CLOSED", "LISTEN", "SYN_SENT", "SYN_RECEIVED", "ESTABLISHED", "FIN_WAIT_1", "FIN_WAIT_2", "CLOSE_WAIT", "CLOSING", "LAST_ACK", "TIME_WAIT", "opening_steps", "closing_steps", "follow", "may_send", "is_sending", "Wheel", "RESEND", "PERSIST", "DELAYED", "WAIT", "MOST_WINDOW", "Limits", "clock_of", "Tcb", "Assembly", "Receiver", "MOST_SHIFT_tcp_user", "change_state", "closed", "check_error", "open_active", "send", "send_tcp_user", "close", "close_tcp_user", "abort", "abort_tcp_user", "syn_segment", "flags_of", "take_asked_fin", "data_segments", "output", "keep_timers", "probe_wait", "WHOLE_RING", "reset_for", "TcpTable", "ISS_STEP", "Listener", "Link", "rows_out", "TcpSockets", "_law_pool", "_law_take", "_law_one", "_law_refused", "_law_listener_right", "_law_limits", "_law_tcb", "_law_link_right", "_law_sockets", "_law_ports_right", "_law_errors_right", "_law_closed_right", "_law_fixed_right"] : List String).map PySem.Str.ofString
theorem preF (w : World) (os : OsState) : PySem.W.Fast.tw15667345088766844465 tabF pw w 11 annM 12 ⟨boot_heap w.params, #[], boot_drawn, boot_toks, os⟩ (topStub pw) = some ((S0 w os).abs, ⟨PySem.W.Fast.tw11892475500146522536 tabF cE, cE, qTop, BM⟩) := by kernel_rfl
theorem finT (w : World) (os : OsState) : topRun treeTable pw w 11 annM 2 (S14 w os).abs ⟨doneF .next, cE, { line := 1258, col := 0, endLine := 1262, endCol := 89 }, BM⟩ = some ⟨hM w.params, #[], {}, 2606, os⟩ := by kernel_rfl
theorem openT : ∀ w : World, (fencedOpening treeTable pw w 20000).map (fun s => (s.heap, s.gens, s.drawn, s.toks)) = some (boot_heap w.params, Array.mk [], boot_drawn, boot_toks) :=
 boot_open (by kernel_rfl) (by kernel_rfl) (fun _ => by kernel_rfl)
theorem sizeT : ∀ w : World, ((boot_heap w.params).isNs mainGlobals && (#[] : Array GenState).size == 0, (boot_heap w.params).objs.size, (boot_heap w.params).nsMap mainGlobals "__annotations__") = (true, 11, annM) := fun w => by kernel_rfl
def XtM : Shared → Bool := fun s => xlAt qM [] s && recOk [] s
theorem lk1 (w : World) : laidKept (boot_heap w.params) (hM w.params) = true := by kernel_rfl
theorem lk2 (w : World) (os : OsState) : gensDone ⟨hM w.params, #[], {}, 2606, os⟩ = true := by kernel_rfl
theorem lk3 (w : World) : namesBound pw (hM w.params) = true := by kernel_rfl
theorem lk4 (w : World) : staticsOk (importedModules pw.main.body) (boot_heap w.params) (hM w.params) = true := by kernel_rfl
theorem seenF (w : World) (os : OsState) : PySem.W.Fast.tw4187177175401517315 qM looseM (importedModules pw.main.body) XtM true ⟨hM w.params, #[], {}, 2606, os⟩ = openGood qM looseM := by kernel_rfl
theorem twSeg {p : Program} {w : World} {n₀ : Nat} {ann : Option Value} {b n : Nat} {s : SharedT} {t : Thread} {r : Option (Flow × SharedT × Code × Pos)} (h : runF tabF p w n₀ ann b n s t = r) : segRunT treeTable p w n₀ ann b n s t = r := by
 rw [PySem.W.Fast.te10110043849684766642, PySem.W.Fast.te14364793385576792824]; exact h
theorem twGo {p : Program} {w : World} {n₀ : Nat} {ann : Option Value} {n : Nat} {s s' : Shared} {t : Thread} {c : Code} {q : Pos} {B : List Frame} (h : PySem.W.Fast.tw15667345088766844465 tabF p w n₀ ann n s t = some (s', ⟨PySem.W.Fast.tw11892475500146522536 tabF c, c, q, B⟩)) :
  topGo treeTable p w n₀ ann n s t = some (s', ⟨denote treeTable c, c, q, B⟩) := by
 rw [PySem.W.Fast.te15667345088766844465, PySem.W.Fast.te14364793385576792824, PySem.W.Fast.te11892475500146522536]; exact h
theorem blockT (w : World) (os : OsState) : segRun treeTable pw w 11 annM 1 1 (S0 w os).abs (blockOf bodyL envM cE qTop BM) = some (.next, (S0 w os).abs, cE, qTop) := by kernel_rfl
theorem splitT : bodyL = l1 ++ (l2 ++ (l3 ++ (l4 ++ []))) := by kernel_rfl
def stepsM : Nat := (12 + (1 + (3723 + (3621 + (2322 + (2063 + 2))))))
theorem restT (w : World) (os : OsState) : topRun treeTable pw w 11 annM (3723 + (3621 + (2322 + (2063 + 2)))) (S0 w os).abs (restOf (l1 ++ (l2 ++ (l3 ++ (l4 ++ [])))) envM cE qTop BM) = some ⟨hM w.params, #[], {}, 2606, os⟩ :=
 (piece_app (segRun_of (twSeg (congrFun (p1 w) os))) (piece_app (segRun_of (twSeg (congrFun (p2 w) os))) (piece_app (segRun_of (twSeg (congrFun (p3 w) os))) (piece_app (segRun_of (twSeg (congrFun (p4 w) os))) (finT w os)))))
theorem runT (w : World) (os : OsState) : topRun treeTable pw w 11 annM stepsM ⟨boot_heap w.params, #[], boot_drawn, boot_toks, os⟩ (topStub pw) = some ⟨hM w.params, #[], {}, 2606, os⟩ := by
 refine go_top (twGo (preF w os)) (piece_block (blockT w os) ?_)
 rw [splitT]
 exact restT w os
theorem seenT (w : World) (os : OsState) : openSeen qM looseM (importedModules pw.main.body) XtM true ⟨hM w.params, #[], {}, 2606, os⟩ = openGood qM looseM := by
 rw [PySem.W.Fast.te4187177175401517315]; exact seenF w os
theorem leftT : LeftO pw qM looseM XtM Shared.heap (fun w => hM w.params) 20000 := by
 refine LeftO.of_pieces (H₀ := boot_heap) (H₁ := hM) (gs₀ := #[]) (gs₁ := #[]) (d₀ := boot_drawn) (d₁ := {}) (k₀ := boot_toks) (k₁ := 2606) (m₀ := 11) (ann := annM) (M := stepsM) openT sizeT runT (by kernel_rfl) fun w => funext fun os => ?_
 rw [lk1, lk3, lk4, lk2, seenT]
 rfl
inductive MT where
 | nil
 | node (a : Nat) (o : Obj) (l r : MT)
namespace MT
def get (t : MT) : Nat → Option (Nat × Obj) :=
 MT.rec (motive := fun _ => Nat → Option (Nat × Obj)) (fun _ => none)
  (fun a o _ _ gl gr i => Bool.rec (Bool.rec (gr (i / 2 - 1)) (gl (i / 2)) (Nat.beq (i % 2) 1)) (some (a, o)) (Nat.beq i 0)) t
def upd (t : MT) : Nat → (Obj → Obj) → MT :=
 MT.rec (motive := fun _ => Nat → (Obj → Obj) → MT) (fun _ _ => .nil)
  (fun a o l r gl gr i f => Bool.rec (Bool.rec (.node a o l (gr (i / 2 - 1) f)) (.node a o (gl (i / 2) f) r) (Nat.beq (i % 2) 1)) (.node a (f o) l r) (Nat.beq i 0)) t
def ins (t : MT) : Nat → Nat → Obj → MT :=
 MT.rec (motive := fun _ => Nat → Nat → Obj → MT) (fun _ b p => .node b p .nil .nil)
  (fun a o l r gl gr i b p => Bool.rec (Bool.rec (.node a o l (gr (i / 2 - 1) b p)) (.node a o (gl (i / 2) b p) r) (Nat.beq (i % 2) 1)) (.node b p l r) (Nat.beq i 0)) t
theorem get_nil (i : Nat) : get .nil i = none := rfl
theorem beq_dec (a b : Nat) : Nat.beq a b = decide (a = b) := BT.beq_eq a b
theorem get_node (a : Nat) (o : Obj) (l r : MT) (i : Nat) : get (.node a o l r) i = if i = 0 then some (a, o) else if i % 2 = 1 then get l (i / 2) else get r (i / 2 - 1) := by
 show (Bool.rec (Bool.rec (get r (i / 2 - 1)) (get l (i / 2)) (Nat.beq (i % 2) 1)) (some (a, o)) (Nat.beq i 0) : Option (Nat × Obj)) = _
 rw [beq_dec, beq_dec]
 by_cases h : i = 0
 ·simp [h]
 ·by_cases q : i % 2 = 1 <;> simp [h, q]
theorem upd_node (a : Nat) (o : Obj) (l r : MT) (i : Nat) (f : Obj → Obj) : upd (.node a o l r) i f = if i = 0 then .node a (f o) l r else if i % 2 = 1 then .node a o (upd l (i / 2) f) r else .node a o l (upd r (i / 2 - 1) f) := by
 show (Bool.rec (Bool.rec (.node a o l (upd r (i / 2 - 1) f)) (.node a o (upd l (i / 2) f) r) (Nat.beq (i % 2) 1)) (.node a (f o) l r) (Nat.beq i 0) : MT) = _
 rw [beq_dec, beq_dec]
 by_cases h : i = 0
 ·simp [h]
 ·by_cases q : i % 2 = 1 <;> simp [h, q]
theorem ins_node (a : Nat) (o : Obj) (l r : MT) (i b : Nat) (p : Obj) : ins (.node a o l r) i b p = if i = 0 then .node b p l r else if i % 2 = 1 then .node a o (ins l (i / 2) b p) r else .node a o l (ins r (i / 2 - 1) b p) := by
 show (Bool.rec (Bool.rec (.node a o l (ins r (i / 2 - 1) b p)) (.node a o (ins l (i / 2) b p) r) (Nat.beq (i % 2) 1)) (.node b p l r) (Nat.beq i 0) : MT) = _
 rw [beq_dec, beq_dec]
 by_cases h : i = 0
 ·simp [h]
 ·by_cases q : i % 2 = 1 <;> simp [h, q]
theorem half_inj {i j : Nat} (hi : i % 2 = 1) (hj : j % 2 = 1) (h : i / 2 = j / 2) : i = j := by omega
theorem half_inj' {i j : Nat} (h0 : i ≠ 0) (h1 : j ≠ 0) (hi : ¬ i % 2 = 1) (hj : ¬ j % 2 = 1) (h : i / 2 - 1 = j / 2 - 1) : i = j := by omega
theorem get_upd (f : Obj → Obj) : ∀ (t : MT) (j i : Nat), (t.upd j f).get i = if i = j then (t.get j).map (fun x => (x.1, f x.2)) else t.get i
 | .nil, j, i => by show (get .nil i) = _; simp [get_nil]
 | .node a o l r, j, i => by
  have L := get_upd f l (j / 2) (i / 2)
  have R := get_upd f r (j / 2 - 1) (i / 2 - 1)
  rw [upd_node, get_node a o l r j, get_node a o l r i]
  by_cases hj : j = 0
  ·subst hj
   rw [if_pos rfl, get_node]
   by_cases hi : i = 0 <;> simp [hi]
  ·rw [if_neg hj]
   by_cases pj : j % 2 = 1
   ·rw [if_pos pj, get_node]
    by_cases hi : i = 0
    ·simp [hi, Ne.symm hj]
    ·by_cases pi : i % 2 = 1
     ·simp only [hi, pi, hj, pj, if_true, if_false, L]
      by_cases e : i = j
      ·simp [e]
      ·have : i / 2 ≠ j / 2 := fun q => e (half_inj pi pj q)
       simp [e, this]
     ·have : i ≠ j := fun q => pi (q ▸ pj)
      simp [hi, pi, this]
   ·rw [if_neg pj, get_node]
    by_cases hi : i = 0
    ·simp [hi, Ne.symm hj]
    ·by_cases pi : i % 2 = 1
     ·have : i ≠ j := fun q => pj (q ▸ pi)
      simp [hi, pi, this]
     ·simp only [hi, pi, hj, pj, if_false, R]
      by_cases e : i = j
      ·simp [e]
      ·have : i / 2 - 1 ≠ j / 2 - 1 := fun q => e (half_inj' hi hj pi pj q)
       simp [e, this]
theorem get_ins (b : Nat) (p : Obj) : ∀ (t : MT) (j i : Nat), (t.ins j b p).get j = some (b, p) → t.get j = none → (t.ins j b p).get i = if i = j then some (b, p) else t.get i
 | .nil, j, i, h, _ => by
  have e : (ins .nil j b p) = .node b p .nil .nil := rfl
  rw [e, get_node] at h
  have hj : j = 0 := by
   by_cases q : j = 0
   ·exact q
   ·exfalso; revert h; by_cases u : j % 2 = 1 <;> simp [q, u, get_nil]
  subst hj
  rw [e, get_node]
  by_cases hi : i = 0
  ·simp [hi]
  ·by_cases u : i % 2 = 1 <;> simp [hi, u, get_nil]
 | .node a o l r, j, i, h, hn => by
  rw [get_node] at hn
  by_cases hj : j = 0
  ·rw [if_pos hj] at hn; cases hn
  ·rw [if_neg hj] at hn
   rw [ins_node, if_neg hj] at h ⊢
   rw [get_node a o l r i]
   by_cases pj : j % 2 = 1
   ·rw [if_pos pj] at h hn ⊢
    rw [get_node, if_neg hj, if_pos pj] at h
    have L := get_ins b p l (j / 2) (i / 2) h hn
    rw [get_node]
    by_cases hi : i = 0
    ·simp [hi, Ne.symm hj]
    ·by_cases pi : i % 2 = 1
     ·simp only [hi, pi, if_true, if_false, L]
      by_cases e : i = j
      ·simp [e]
      ·have : i / 2 ≠ j / 2 := fun q => e (half_inj pi pj q)
       simp [e, this]
     ·have : i ≠ j := fun q => pi (q ▸ pj)
      simp [hi, pi, this]
   ·rw [if_neg pj] at h hn ⊢
    rw [get_node, if_neg hj, if_neg pj] at h
    have R := get_ins b p r (j / 2 - 1) (i / 2 - 1) h hn
    rw [get_node]
    by_cases hi : i = 0
    ·simp [hi, Ne.symm hj]
    ·by_cases pi : i % 2 = 1
     ·have : i ≠ j := fun q => pj (q ▸ pi)
      simp [hi, pi, this]
     ·simp only [hi, pi, if_false, R]
      by_cases e : i = j
      ·simp [e]
      ·have : i / 2 - 1 ≠ j / 2 - 1 := fun q => e (half_inj' hi hj pi pj q)
       simp [e, this]
end MT
open PySem.W.X
def bO {α β : Type} (a : Option α) (f : α → Option β) : Option β := Option.rec (motive := fun _ => Option β) none (fun y => f y) a
def bT {β : Type} (b : Bool) (f : Option β) : Option β := Bool.rec (motive := fun _ => Option β) none f b
def bL {α β : Type} (l : List α) (f : α → List α → Option β) : Option β := List.rec (motive := fun _ => Option β) none (fun x l _ => f x l) l
def bN {α β : Type} (l : List α) (f : Option β) : Option β := List.rec (motive := fun _ => Option β) f (fun _ _ _ => none) l
theorem inv_o {α β : Type} {a : Option α} {f : α → Option β} {x : β} {P : Prop} (e : bO a f = some x) (k : ∀ y, a = some y → f y = some x → P) : P := by
 cases a with
 | none => cases e
 | some y => exact k y rfl e
theorem inv_t {β : Type} {b : Bool} {f : Option β} {x : β} {P : Prop} (e : bT b f = some x) (k : b = true → f = some x → P) : P := by
 cases b with
 | false => cases e
 | true => exact k rfl e
theorem inv_l {α β : Type} {l : List α} {f : α → List α → Option β} {x : β} {P : Prop} (e : bL l f = some x) (k : ∀ y r, l = y :: r → f y r = some x → P) : P := by
 cases l with
 | nil => cases e
 | cons y r => exact k y r rfl e
theorem inv_n {α β : Type} {l : List α} {f : Option β} {x : β} {P : Prop} (e : bN l f = some x) (k : l = [] → f = some x → P) : P := by
 cases l with
 | nil => exact k rfl e
 | cons y r => cases e
def vRef (v : Value) : Option Nat := match v with
 | .ref a => some a
 | _ => none
def vInt (v : Value) : Option (Int × Nat) := match v with
 | .int a u => some (a, u)
 | _ => none
theorem vRef_ok {v : Value} {a : Nat} (h : vRef v = some a) : v = .ref a := by
 cases v <;> first | exact congrArg Value.ref (Option.some.inj h) | cases h
theorem vInt_ok {v : Value} {a : Int × Nat} (h : vInt v = some a) : v = .int a.1 a.2 := by
 cases v <;> first | (cases Option.some.inj h; rfl) | cases h
def noO {α : Type} (o : Option α) : Bool := Option.rec (motive := fun _ => Bool) true (fun _ => false) o
theorem noO_ok {α : Type} {o : Option α} (h : noO o = true) : o = none := by
 cases o <;> first | rfl | cases h
theorem nos {α : Type} {x : α} {P : Prop} (h : none = some x) : P := by cases h
theorem inv_b {α : Type} {b : Bool} {f t : Option α} {x : α} {P : Prop} (h : Bool.rec (motive := fun _ => Option α) f t b = some x) (k0 : f = some x → P) (k1 : t = some x → P) : P := by
 cases b with
 | false => exact k0 h
 | true => exact k1 h
def yes (o : Option Unit) : Bool := !noO o
theorem yes_ok {o : Option Unit} (h : yes o = true) : o = some () := by
 cases o with
 | none => cases h
 | some y => rfl
def dFld (d : Data) : Option (Array Value) := match d with
 | .fields vs => some vs
 | _ => none
theorem dFld_ok {d : Data} {q : Array Value} (h : dFld d = some q) : d = .fields q := by
 cases d <;> first | exact congrArg Data.fields (Option.some.inj h) | exact nos h
def vI0 (v : Value) : Option Int := bO (vInt v) fun k => bT (Nat.beq k.2 0) (some k.1)
theorem vI0_ok {v : Value} {k : Int} (h : vI0 v = some k) : v = .int k 0 :=
 inv_o h fun q e h => inv_t h fun e2 h => by rw [vInt_ok e, ← Option.some.inj h, Nat.eq_of_beq_eq_true e2]
def vNat (v : Value) : Option Nat := bO (vI0 v) fun k => Int.rec (motive := fun _ => Option Nat) some (fun _ => none) k
theorem vNat_ok {v : Value} {n : Nat} (h : vNat v = some n) : v = .int (.ofNat n) 0 :=
 inv_o h fun k e h => by
  cases k with
  | ofNat k => rw [vI0_ok e, ← Option.some.inj (show some k = _ from h)]
  | negSucc k => exact nos h
abbrev tabZ := PySem.W.Fast.tw14364793385576792824
def denF (c : Code) : Sem Fin := PySem.W.Fast.tw11892475500146522536 tabZ c
theorem denF_eq : denote table = denF := by
 rw [table_eq_tree, PySem.W.Fast.te14364793385576792824, PySem.W.Fast.te11892475500146522536]
 rfl
def startsLif (l : List UInt8) : Bool := match l with
 | a :: b :: c :: _ => Nat.beq a.toNat 108 && (Nat.beq b.toNat 105 && Nat.beq c.toNat 102)
 | _ => false
def qk (c : Code) : Bool := match c with
 | .builtin id _ => !(startsLif id.toByteArray.data.toList)
 | _ => true
theorem qk_quiet {c : Code} (h : qk c = true) : c.quiet = true := by
 cases c with
 | builtin id args =>
  refine Code.quiet_builtin args ?_
  cases hs : id.startsWith "lifetime." with
  | false => rfl
  | true =>
   exfalso
   rw [String.startsWith_string_iff] at hs
   obtain ⟨r, hr⟩ := hs
   have e : id = "lifetime." ++ String.ofList r := by
    apply String.toList_inj.mp
    rw [String.toList_append (t := String.ofList r)]
    exact hr.symm.trans (congrArg (fun x => "lifetime.".toList ++ x) (String.toList_ofList (l := r)).symm)
   have : startsLif id.toByteArray.data.toList = true := by
    rw [e, String.toByteArray_append, ByteArray.toList_data_append]
    rfl
   have h' : (!(startsLif id.toByteArray.data.toList)) = true := h
   rw [this] at h'
   cases h'
 | _ => rfl
def mainT : Code → Sem Fin
 | .func b env => do
  point
  match ← execs b env with
  | .ret v => ret v
  | _ => ret .none
 | .expr e env => do
  point
  ret (← eval e env)
 | .forLoop t it b o env => forTurn t it b o env
 | _ => unsupported "no guard"
def mainF : Code → Sem Fin
 | .func b env => do
  point
  match ← PySem.W.Fast.tw12563942051412417395 b env with
  | .ret v => ret v
  | _ => ret .none
 | .expr e env => do
  point
  ret (← PySem.W.Fast.tw14044960220447912780 e env)
 | .forLoop t it b o env => PySem.W.Fast.tw15207555903498437823 t it b o env
 | _ => unsupported "no guard"
theorem mainF_eq : mainT = mainF := by
 funext c
 unfold mainT mainF
 rw [PySem.W.Fast.te12563942051412417395, PySem.W.Fast.te14044960220447912780, PySem.W.Fast.te15207555903498437823]
def hT : Code → Value → Sem Unit
 | .func _ env => leaving env
 | .expr _ env => leaving env
 | .forLoop _ _ _ _ env => fun x => do noteFrame x env; theTreesLotGoes x
 | _ => fun _ => unsupported "no guard"
theorem den_guard (M : Model) (Γ : PySem.Ctx) (c : Code) (Q : Fin → Pos → Shared → Prop) (E : Value → Pos → Shared → Prop) (p : Pos) (s : Shared)
  (h : Sem.wp M Γ (mainT c) Q (fun e p s => Sem.wp M Γ (hT c e) (fun _ p' s' => E e p' s') E p s) p s) : Sem.wp M Γ (denote table c) Q E p s := by
 cases c with
 | func b env =>
  delta mainT at h; delta denote; dsimp only at h ⊢; simp only [Sem.wp_bind', Sem.wp_onRaise] at h ⊢
  exact Sem.wp_mono M Γ _ (fun _ p' s' x => Sem.wp_mono M Γ _ (fun f p' s' x => by cases f <;> exact x) (fun _ _ _ x => x) p' s' x) (fun e p' s' x => x) p s h
 | expr e env =>
  delta mainT at h; delta denote; dsimp only at h ⊢; simp only [Sem.wp_bind', Sem.wp_onRaise] at h ⊢
  exact Sem.wp_mono M Γ _ (fun _ p' s' x => Sem.wp_mono M Γ _ (fun f p' s' x => x) (fun _ _ _ x => x) p' s' x) (fun e p' s' x => x) p s h
 | forLoop t it b o env =>
  delta mainT at h; delta denote; dsimp only at h ⊢; simp only [Sem.wp_onRaise] at h ⊢
  exact h
 | _ => cases h
def beneathB (acts : List (Code × Pos)) : Option (List String) :=
 match acts.dropWhile fun x => !x.1.isFrame with
 | [] => none
 | _ :: under => some (under.filterMap fun (c, _) => match c with | .builtin id _ => some id | _ => none).eraseDups
def cellsB (hadNext : Bool) (acts : List (Code × Pos)) : List Value :=
 match beneathB acts with
 | none => [.none, .bool hadNext]
 | some ids => [if (EntryCells.make ids).length > sizeLine then .none else .str (EntryCells.make ids) 0, .bool hadNext]
def placeB (hadNext : Bool) (acts : List (Code × Pos)) : List Value := match acts with
 | (_, pos) :: _ => if pos.line == 0 then [] else [rawInt pos.line, rawInt pos.endLine, rawInt pos.col, rawInt pos.endCol] ++ cellsB hadNext acts
 | [] => []
def noteRest (f : Addr) (e head : Value) : Sem Unit := do
 let acts1 ← stack
 readyFrames ((acts1.filter (·.1.isFrame)).filterMap (·.1.env?))
 let acts2 ← stack
 setField e 1 (← EntryCells.newEntry head (.ref f) .none (rawInt f) .none (placeB (head != .none) acts2))
def noteB (f : Addr) (e : Value) : Sem Unit := do
 let head ← field e 1
 match head with
 | .none => noteRest f e .none
 | .ref t => do
  match ← field (.ref t) 3 with
  | .none => do
   setField (.ref t) 3 .none
   noteRest f e (.ref t)
  | _ => unsupported "in flight"
 | _ => unsupported "no head"
def frameF (codes : List Code) : Option Nat := match codes.find? (·.isFrame) with
 | some c => c.env?.bind (·.frame)
 | none => none
structure Stands (Γ : PySem.Ctx) (env : Env) (f : Addr) : Prop where
 own : Γ.code.env? = some env
 fr : env.frame = some f
 first : frameF (Γ.code :: Γ.below.map (·.1)) = some f
theorem drop_frames : ∀ (l : List (Code × Pos)) (f : Addr), frameF (l.map (·.1)) = some f →
  (l.dropWhile fun x => !(x.1.isFrame && x.1.env?.bind (·.frame) == some f)) = (l.dropWhile fun x => !x.1.isFrame)
 | [], _, _ => rfl
 | (c, p) :: l, f, h => by
  cases hc : c.isFrame with
  | true =>
   have h1 : c.env?.bind (·.frame) = some f := by
    unfold frameF at h
    rw [List.map_cons, List.find?_cons_of_pos (by exact hc)] at h
    exact h
   rw [List.dropWhile_cons_of_neg, List.dropWhile_cons_of_neg]
   ·simp [hc]
   ·simp [hc, h1]
  | false =>
   have h1 : frameF (l.map (·.1)) = some f := by
    unfold frameF at h ⊢
    rw [List.map_cons, List.find?_cons_of_neg (by simp [hc])] at h
    exact h
   rw [List.dropWhile_cons_of_pos (by simp [hc]), List.dropWhile_cons_of_pos (by simp [hc])]
   exact drop_frames l f h1
theorem envs_head : ∀ (l : List (Code × Pos)) (f : Addr), frameF (l.map (·.1)) = some f →
  ∃ env rest, (l.filter (·.1.isFrame)).filterMap (·.1.env?) = env :: rest ∧ env.frame = some f
 | [], _, h => by cases h
 | (c, p) :: l, f, h => by
  cases hc : c.isFrame with
  | true =>
   have h1 : c.env?.bind (·.frame) = some f := by
    unfold frameF at h
    rw [List.map_cons, List.find?_cons_of_pos (by exact hc)] at h
    exact h
   obtain ⟨env, he, hf⟩ := Option.bind_eq_some_iff.mp h1
   exact ⟨env, (l.filter (·.1.isFrame)).filterMap (·.1.env?), by rw [List.filter_cons_of_pos (by exact hc), List.filterMap_cons_some (by exact he)], hf⟩
  | false =>
   have h1 : frameF (l.map (·.1)) = some f := by
    unfold frameF at h ⊢
    rw [List.map_cons, List.find?_cons_of_neg (by simp [hc])] at h
    exact h
   rw [List.filter_cons_of_neg (by simp [hc])]
   exact envs_head l f h1
theorem cells_B (f : Addr) (hn : Bool) (acts : List (Code × Pos)) (h : frameF (acts.map (·.1)) = some f) : EntryCells.cells f hn acts = cellsB hn acts := by
 have e : EntryCells.beneath f acts = beneathB acts := by
  unfold EntryCells.beneath beneathB
  have q := drop_frames acts f h
  rw [← q]
  rfl
 unfold EntryCells.cells cellsB
 rw [e]
 cases beneathB acts <;> rfl
theorem note_rest (M : Model) (Γ : PySem.Ctx) {env : Env} {f : Addr} (S : Stands Γ env f) (e head : Value) (Q : Unit → Pos → Shared → Prop) (E : Value → Pos → Shared → Prop) (p : Pos) (s : Shared)
  (h : Sem.wp M Γ (noteRest f e head) Q E p s) :
  Sem.wp M Γ (do setField e 1 (← EntryCells.newEntry head (← PySem.frameOf env) .none (rawInt f) .none (← entryPlaceOf f (head != .none)))) Q E p s := by
 have hcodes : ∀ q : Pos, frameF ((((Γ.code, q) :: Γ.below).map (·.1))) = some f := fun q => by
  rw [List.map_cons]; exact S.first
 simp only [noteRest, PySem.frameOf, frameEnvs, entryPlaceOf, Sem.wp_bind', stack, Sem.wp_stack, Sem.wp_pure', Sem.wp_pure] at h ⊢
 obtain ⟨env2, rest, he, hf2⟩ := envs_head ((Γ.code, p) :: Γ.below) f (hcodes p)
 rw [he] at h ⊢
 have hd : ((env2 :: rest).dropWhile fun x => x.frame != env.frame) = env2 :: rest := by
  rw [List.dropWhile_cons_of_neg]
  simp [hf2, S.fr]
 rw [hd]
 simp only [frameObject, Sem.wp_bind', Sem.wp_pure', Sem.wp_pure] at h ⊢
 refine Sem.wp_mono M Γ _ (fun _ p' s' x => ?_) (fun _ _ _ x => x) p s h
 rw [hf2]
 simp only [Option.map_some, Sem.wp_pure']
 have hfind : ((Γ.code, p') :: Γ.below).find? (fun x => x.1.env?.bind (·.frame) == some f) = some (Γ.code, p') := by
  rw [List.find?_cons_of_pos]
  simp [S.own, S.fr]
 have hp : placeB (head != .none) ((Γ.code, p') :: Γ.below) = (if p'.line == 0 then [] else [rawInt p'.line, rawInt p'.endLine, rawInt p'.col, rawInt p'.endCol] ++ EntryCells.cells f (head != .none) ((Γ.code, p') :: Γ.below)) := by
  rw [cells_B f _ _ (hcodes p')]
  rfl
 rw [hp] at x
 show Sem.wp M Γ (match ((Γ.code, p') :: Γ.below).find? (fun x => x.1.env?.bind (·.frame) == some f) with
  | some (_, pos) => pure (if pos.line == 0 then [] else [rawInt pos.line, rawInt pos.endLine, rawInt pos.col, rawInt pos.endCol] ++ EntryCells.cells f (head != .none) ((Γ.code, p') :: Γ.below))
  | none => pure []) _ _ _ _
 rw [hfind]
 simp only [Sem.wp_pure']
 exact x
theorem note_B (M : Model) (Γ : PySem.Ctx) {env : Env} {f : Addr} (S : Stands Γ env f) (e : Value) (Q : Unit → Pos → Shared → Prop) (E : Value → Pos → Shared → Prop) (p : Pos) (s : Shared)
  (h : Sem.wp M Γ (noteB f e) Q E p s) : Sem.wp M Γ (noteFrame e env) Q E p s := by
 unfold noteFrame
 rw [S.fr]
 simp only [noteB, Sem.wp_bind'] at h ⊢
 refine Sem.wp_mono M Γ _ (fun head p' s' x => ?_) (fun _ _ _ x => x) p s h
 cases head with
 | none =>
  have := note_rest M Γ S e .none Q E p' s' x
  simpa using this
 | ref t =>
  simp only at x
  have hne : ((Value.ref t) != .none) = true := by simp
  simp only [hne, if_true, Sem.wp_bind'] at x ⊢
  refine Sem.wp_mono M Γ _ (fun fl p2 s2 x => ?_) (fun _ _ _ x => x) p' s' x
  cases fl with
  | none =>
   have hq : ((Value.none) == rawInt f) = false := by unfold rawInt; simp
   simp only [hq, Bool.false_eq_true, if_false, Sem.wp_bind'] at x ⊢
   refine Sem.wp_mono M Γ _ (fun _ p3 s3 x => ?_) (fun _ _ _ x => x) p2 s2 x
   have := note_rest M Γ S e (.ref t) Q E p3 s3 x
   simpa [hne] using this
  | _ => simp at x
 | _ => simp at x
def noteRestF (f : Addr) (e head : Value) : Sem Unit := do
  let acts1 ← stack
  PySem.W.Fast.tw9112722382718976056 ((acts1.filter (·.1.isFrame)).filterMap (·.1.env?))
  let acts2 ← stack
  PySem.W.Fast.tw17858455048448223758 e 1 (← PySem.W.Fast.tw7687323783571163205 head (.ref f) .none (rawInt f) .none (placeB (head != .none) acts2))
def noteBF (f : Addr) (e : Value) : Sem Unit := do
  let head ← PySem.W.Fast.tw6609576154772507232 e 1
  match head with
  | .none => noteRestF f e .none
  | .ref t => do
    match ← PySem.W.Fast.tw6609576154772507232 (.ref t) 3 with
    | .none => do
      PySem.W.Fast.tw17858455048448223758 (.ref t) 3 .none
      noteRestF f e (.ref t)
    | _ => unsupported "in flight"
  | _ => unsupported "no head"
theorem noteRestF_eq : noteRest = noteRestF := by
  funext f e head
  unfold noteRest noteRestF
  rw [PySem.W.Fast.te9112722382718976056, PySem.W.Fast.te17858455048448223758, PySem.W.Fast.te7687323783571163205]
theorem noteBF_eq : noteB = noteBF := by
  funext f e
  unfold noteB noteBF
  rw [PySem.W.Fast.te17858455048448223758, PySem.W.Fast.te6609576154772507232, noteRestF_eq]
  first | done | rfl
def afterT : Code → Value → Sem Unit
  | .forLoop .. => theTreesLotGoes
  | _ => fun e => setFlight e none
def afterF : Code → Value → Sem Unit
  | .forLoop .. => PySem.W.Fast.tw1623429502029203251
  | _ => fun e => PySem.W.Fast.tw5670386056902412789 e none
theorem afterF_eq : afterT = afterF := by
  funext c
  unfold afterT afterF
  rw [PySem.W.Fast.te1623429502029203251, PySem.W.Fast.te5670386056902412789]
def envOf : Code → Option Env
  | .func _ env => some env
  | .expr _ env => some env
  | .forLoop _ _ _ _ env => some env
  | _ => none
inductive Kt where
  | base
  | ret (Γ : PySem.Ctx) (p : Pos) (k : Result → Sem Fin) (κ : Kt)
  | grd (κ : Kt)
structure XW where
  prog : Program
  w : World
  h₀ : Heap
  n₀ : Nat
  kt : BT
  tabs : Ch
  d : Drawn
  os : OsState
  ex : Nat → Option Obj
structure XW.Ok (V : XW) : Prop where
  exn : ∀ a o, V.ex a = some o → V.n₀ ≤ a
  size : V.h₀.objs.size = V.n₀
  kt : ∀ a o, V.kt.get a = some o → V.h₀.get? a = some o
  tabs : ∀ a vs, chLook V.tabs a = some vs → ∃ c, V.h₀.TableAt c a vs
abbrev XW.M (V : XW) : Model := model V.prog V.w
structure Rp (V : XW) (T : MT) (m b : Nat) (ch : Ch) (h : Heap) : Prop where
  size : h.objs.size = b
  low : V.n₀ ≤ b
  own : ∀ j a o, T.get j = some (a, o) → j < m ∧ V.n₀ ≤ a ∧ a < b ∧ h.get? a = some o
  one : ∀ i j a o o', T.get i = some (a, o) → T.get j = some (a, o') → i = j
  keep : ∀ a o, V.h₀.get? a = some o → chLook ch a = none → h.get? a = some o
  ch : ∀ a vs, chLook ch a = some vs → h.get? a = some (tableObj vs) ∧ ∃ c ps more, V.h₀.TableAt c a ps ∧ vs = ps ++ more
  exk : ∀ a o, V.ex a = some o → h.get? a = some o
  exo : ∀ j a o, T.get j = some (a, o) → V.ex a = none
def XW.sh (V : XW) (h : Heap) (t : Nat) : Shared := ⟨h, #[], V.d, t, V.os⟩
def endK (V : XW) (R₀ : Result → Shared → Prop) : Kt → Result → Shared → Prop
  | .base => R₀
  | .ret Γ p k κ => fun r s => Sem.wp V.M Γ (k r) (Sem.finPost V.M Γ (endK V R₀ κ)) (match κ with
    | .grd κ' => fun e p' s' => Sem.wp V.M Γ (hT Γ.code e) (fun _ _ s'' => endK V R₀ κ' (.error e) s'') (fun e' _ s'' => endK V R₀ κ' (.error e') s'') p' s'
    | .base => fun e _ s' => R₀ (.error e) s'
    | .ret Γ' p' k' κ' => fun e _ s' => endK V R₀ (.ret Γ' p' k' κ') (.error e) s') p s
  | .grd κ => endK V R₀ κ
def endE (V : XW) (R₀ : Result → Shared → Prop) (Γ : PySem.Ctx) (κ : Kt) : Value → Pos → Shared → Prop := match κ with
  | .grd κ' => fun e p' s' => Sem.wp V.M Γ (hT Γ.code e) (fun _ _ s'' => endK V R₀ κ' (.error e) s'') (fun e' _ s'' => endK V R₀ κ' (.error e') s'') p' s'
  | .base => fun e _ s' => R₀ (.error e) s'
  | .ret Γ' p' k' κ' => fun e _ s' => endK V R₀ (.ret Γ' p' k' κ') (.error e) s'
theorem endK_ret (V : XW) (R₀ : Result → Shared → Prop) (Γ p k κ) : endK V R₀ (.ret Γ p k κ) = fun r s => Sem.wp V.M Γ (k r) (Sem.finPost V.M Γ (endK V R₀ κ)) (endE V R₀ Γ κ) p s := by
  funext r s
  cases κ <;> rfl
def Mean (V : XW) (R₀ : Result → Shared → Prop) (Γ : PySem.Ctx) (p : Pos) (κ : Kt) (t : Sem Fin) (s : Shared) : Prop :=
  Sem.wp V.M Γ t (Sem.finPost V.M Γ (endK V R₀ κ)) (endE V R₀ Γ κ) p s
inductive Halt : Nat → Nat → Prop
inductive HaltW : String → Prop
abbrev Go := MT → Nat → Nat → Nat → Nat → Nat → Ch → List Nat → List (Nat × Nat) → Prop → Prop
abbrev GoTy := PySem.Ctx → Pos → Kt → Sem Fin → Go
abbrev KTy := Result → MT → Nat → Nat → Nat → Nat → Nat → Ch → List Nat → Prop
structure SH where
  ps : List (Nat × Nat)
  js : List Nat
  pre : Prop
  r : Result
  T : MT
  m : Nat
  c : Nat
  i : Nat
abbrev HsTy := Nat → List Nat → PySem.Ctx → Pos → MT → Nat → Nat → Nat → Nat → Nat → Ch → Option SH
abbrev HkTy := Nat → List Nat → PySem.Ctx → Pos → MT → Nat → Nat → Nat → Nat → Nat → Ch → Option (List (Nat × Nat) × (KTy → Prop))
structure WL where
  ps : List (Nat × Nat)
  js : List Nat
  g : Nat
  t : Sem Fin
abbrev WalTy := Nat → List Nat → PySem.Ctx → Pos → MT → Option WL
structure Hk where
  hs : HsTy
  hk : HkTy
  alt : Nat → Code → Option (Sem Fin)
  wal : WalTy
def okAcc (l : List (Nat × Nat)) : Prop := l.map Prod.fst = l.map Prod.snd
def no (n : Nat) : Go := fun _ _ _ _ _ _ _ _ _ _ => Halt n 0
def stripJ (l : List Value) : List Value → List Nat → List (Nat × Nat) → Option (List Value × List Nat × List (Nat × Nat)) :=
  List.rec (motive := fun _ => List Value → List Nat → List (Nat × Nat) → Option (List Value × List Nat × List (Nat × Nat))) (fun more js acc => some (more, js, acc)) (fun x _ ih m js acc => bL m fun y m =>
    Option.rec (motive := fun _ => Option (List Value × List Nat × List (Nat × Nat))) (bO (vInt x) fun p => bO (vInt y) fun q => bT (Z.eqB p.1 q.1) (bT (Nat.beq p.2 q.2) (ih m js acc))) (fun a => bO (vRef y) fun b => bL js fun _ js => ih m js ((a, b) :: acc)) (vRef x)) l
def ask2 (T : MT) (j1 j2 : Nat) : Option Nat := bT (Nat.beq j1 j2) (bO (T.get (j1 / 2)) fun x => some x.1)
def flyOf (T : MT) (je jt : Nat) : Option (Nat × Nat × Nat × Nat) := bO (T.get (je / 2)) fun q => bO (dFld q.2.data) fun vs => bO ((vs[1]? : Option Value)) fun v => bO (vRef v) fun th => bO (T.get (jt / 2)) fun q2 => bO (dFld q2.2.data) fun ws => bO ((ws[3]? : Option Value)) fun u => bO (vNat u) fun i => some (q.1, th, q2.1, i)
def retG (K : KTy) (ih : GoTy) (r : Result) (κ : Kt) : Go := match κ with
  | .base => fun T m B c τ i ch js acc Q => okAcc acc ∧ Q ∧ K r T m B c τ i ch js
  | .ret Γ p k κ' => ih Γ p κ' (k r)
  | .grd _ => no 20
def stripK : Kt → Kt
  | .grd κ => stripK κ
  | .base => .base
  | .ret Γ p k κ => .ret Γ p k κ
def grdB : Kt → Bool
  | .grd _ => true
  | _ => false
def raiseG (K : KTy) (ih : GoTy) (Γ : PySem.Ctx) (p : Pos) (e : Value) (κ : Kt) : Go := match κ with
  | .grd κ' => fun T m B c τ i ch js acc Q => match grdB κ' with
   | true => Halt 41 0
   | false => match envOf Γ.code with
    | some env => match env.frame with
      | some f => match frameF (Γ.code :: Γ.below.map (·.1)) with
        | some f2 => match js with
          | md :: j1 :: j2 :: js => match ask2 T j1 j2 with
            | some x1 => match Nat.beq md 0 with
              | true => ih Γ p κ' ((noteBF f e).bind fun _ => (afterF Γ.code e).bind fun _ => .raise e) T m B c τ i ch js ((f, x1) :: (f2, x1) :: acc) Q
              | false => match js with
                | je :: jt :: jf :: js => match e with
                  | .ref a => match flyOf T je jt with
                    | some (ae, th, at', i') => match Nat.beq jf j1 with
                      | true => ih Γ p κ' ((afterF Γ.code (.ref a)).bind fun _ => .raise (.ref a)) T m B c τ i ch js ((i', x1) :: (th, at') :: (a, ae) :: (f, x1) :: (f2, x1) :: acc) Q
                      | false => Halt 21 0
                    | none => Halt 22 0
                  | _ => Halt 23 0
                | _ => Halt 24 0
            | none => Halt 25 0
          | _ => Halt 26 0
        | none => Halt 27 0
      | none => Halt 28 0
    | none => Halt 29 0
  | _ => retG K ih (.error e) κ
def dispG (V : XW) (H : Hk) (K : KTy) (ih : GoTy) (Γ : PySem.Ctx) (p : Pos) (κ : Kt) (c' : Code) : Go := fun T m B c τ i ch js acc Q => match js with
  | [] => Halt 1 0
  | j :: js => match Nat.beq j 0 with
    | true => ih Γ p κ (denF c') T m B c τ i ch js acc Q
    | false => match j / 2 - 1 with
      | 0 => ih Γ p (.grd κ) (mainF c') T m B c τ i ch js acc Q
      | q + 1 => match Nat.beq (q % 3) 0 with
        | true => match H.hs (q / 3) js Γ p T m B c τ i ch with
          | some x => retG K ih x.r κ x.T x.m B x.c τ x.i ch x.js (x.ps ++ acc) (x.pre ∧ Q)
          | none => Halt 2 q
        | false => match Nat.beq (q % 3) 1 with
          | true => match H.hk (q / 3) js Γ p T m B c τ i ch with
            | some y => okAcc (y.1 ++ acc) ∧ Q ∧ y.2 (fun r T m B c τ i ch js => retG K ih r κ T m B c τ i ch js [] True)
            | none => Halt 2 q
          | false => match H.alt (q / 3) c' with
            | some t => ih Γ p κ t T m B c τ i ch js acc Q
            | none => match H.wal (q / 3) js Γ p T with
              | some x => match x.g with
                | 0 => ih Γ p κ x.t T m B c τ i ch x.js (x.ps ++ acc) Q
                | 1 => ih Γ p (.grd κ) x.t T m B c τ i ch x.js (x.ps ++ acc) Q
                | _ + 2 => ∀ p', ih Γ p' κ x.t T m B c τ i ch x.js (x.ps ++ acc) Q
              | none => Halt 2 q
def lookG (V : XW) (a : Nat) (go : Obj → Go) : Go := fun T m B c τ i ch js acc Q => match js with
  | [] => Halt 4 a
  | j :: js => match Nat.beq j 0 with
    | true => match chLook ch a with
      | some vs => go (tableObj vs) T m B c τ i ch js acc Q
      | none => match V.kt.get a with
        | some o => go o T m B c τ i ch js acc Q
        | none => Halt 5 a
    | false => match T.get (j / 2) with
      | some x => go x.2 T m B c τ i ch js ((a, x.1) :: acc) Q
      | none => Halt 6 a
def stepG (V : XW) (H : Hk) (K : KTy) (ih : GoTy) (Γ : PySem.Ctx) (p : Pos) (κ : Kt) (tr : Sem Fin) : Go := match tr with
  | .pure fin => match fin with
    | .done f => retG K ih (.ok f) (stripK κ)
    | .again c' => match qk c' with
      | true => dispG V H K ih (Γ.goto c') p (stripK κ) c'
      | false => no 3
  | .raise e => raiseG K ih Γ p e κ
  | .rule _ k => ih Γ p κ (k ())
  | .at q k => ih Γ q κ (k ())
  | .point _ k => ih Γ p κ (k ())
  | .ask k => ih Γ p κ (k ⟨V.prog, V.w.params⟩)
  | .load a _ k => lookG V a fun o => ih Γ p κ (k o)
  | .loadIfAlive a k => lookG V a fun o => ih Γ p κ (k (some o))
  | .alloc o k => fun T m B c τ i ch js acc Q => match o.isFreed with
    | true => Halt 7 0
    | false => match (T.ins m (B + c) o).get m with
      | some _ => ih Γ p κ (k (B + c)) (T.ins m (B + c) o) (m + 1) B (c + 1) τ i ch js acc Q
      | none => Halt 8 m
  | .update a _ f k => fun T m B c τ i ch js acc Q => match js with
    | [] => Halt 4 a
    | j :: js => match Nat.beq j 0 with
      | true => match chLook ch a with
        | some vs => match tabOf (f (tableObj vs)) with
          | some vs' => match stripJ vs.toList vs'.toList js acc with
            | some x => ih Γ p κ (k ()) T m B c τ i (chPut ch a vs') x.2.1 x.2.2 Q
            | none => Halt 9 a
          | none => Halt 10 a
        | none => match chLook V.tabs a with
          | some vs => match tabOf (f (tableObj vs)) with
            | some vs' => match stripJ vs.toList vs'.toList js acc with
              | some x => ih Γ p κ (k ()) T m B c τ i (chPut ch a vs') x.2.1 x.2.2 Q
              | none => Halt 9 a
            | none => Halt 10 a
          | none => Halt 11 a
      | false => match T.get (j / 2) with
        | some x => match (f x.2).isFreed with
          | true => Halt 12 a
          | false => ih Γ p κ (k ()) (T.upd (j / 2) f) m B c τ i ch js ((a, x.1) :: acc) Q
        | none => Halt 6 a
  | .fresh k => fun T m B c τ i ch js acc Q => ih Γ p κ (k (τ + i)) T m B c τ (i + 1) ch js acc Q
  | .handled own k => match own with
    | false => ih Γ p κ (k Γ.handled)
    | true => ih Γ p κ (k Γ.own)
  | .stack k => ih Γ p κ (k ((Γ.code, p) :: Γ.below))
  | .call c' hd _ _ k => dispG V H K ih (Γ.enter c' hd p) p (.ret Γ p k κ) c'
  | .unsupported w => fun _ _ _ _ _ _ _ _ _ _ => HaltW w
  | .finish _ => no 30
  | .register .. => no 31
  | .choose .. => no 32
  | .os .. => no 33
  | .newGen .. => no 34
  | .genState .. => no 35
  | .resume .. => no 36
  | .yield .. => no 37
  | .fork .. => no 38
  | .thread _ => no 39
  | .await .. => no 40
def simG (V : XW) (H : Hk) (K : KTy) (n : Nat) : GoTy := Nat.rec (motive := fun _ => GoTy) (fun _ _ _ _ => no 0) (fun _ ih => stepG V H K ih) n
theorem MT.ins_some (b : Nat) (p : Obj) : ∀ (t : MT) (j : Nat) (x : Nat × Obj), (t.ins j b p).get j = some x → x = (b, p)
 | .nil, j, x, h => by
  have e : (MT.ins .nil j b p) = .node b p .nil .nil := rfl
  rw [e, MT.get_node] at h
  by_cases q : j = 0
  ·rw [if_pos q] at h; exact (Option.some.inj h).symm
  ·rw [if_neg q] at h
   by_cases u : j % 2 = 1
   ·rw [if_pos u] at h; cases h
   ·rw [if_neg u] at h; cases h
 | .node a o l r, j, x, h => by
  rw [MT.ins_node] at h
  by_cases q : j = 0
  ·rw [if_pos q, MT.get_node, if_pos q] at h; exact (Option.some.inj h).symm
  ·rw [if_neg q] at h
   by_cases u : j % 2 = 1
   ·rw [if_pos u, MT.get_node, if_neg q, if_pos u] at h
    exact MT.ins_some b p l _ x h
   ·rw [if_neg u, MT.get_node, if_neg q, if_neg u] at h
    exact MT.ins_some b p r _ x h
section
variable {V : XW} {T : MT} {m b : Nat} {ch : Ch} {h : Heap}
theorem Rp.old_lt (O : V.Ok) {a : Nat} {o : Obj} (e : V.h₀.get? a = some o) : a < V.n₀ := O.size ▸ Heap.lt_size e
theorem Rp.lookOld (O : V.Ok) (D : Rp V T m b ch h) {a : Nat} {o : Obj} (hc : chLook ch a = none) (e : V.kt.get a = some o) : h.get? a = some o := D.keep a o (O.kt a o e) hc
theorem Rp.alloc (D : Rp V T m b ch h) {o : Obj} (hf : o.isFreed = false) {x : Nat × Obj} (hg : (T.ins m b o).get m = some x) : Rp V (T.ins m b o) (m + 1) (b + 1) ch (h.push o) := by
 have hx := MT.ins_some b o T m x hg
 subst hx
 have hn : T.get m = none := by
  cases q : T.get m with
  | none => rfl
  | some y => exact absurd (D.own m y.1 y.2 q).1 (Nat.lt_irrefl _)
 have G := fun i => MT.get_ins b o T m i hg hn
 refine ⟨by rw [Heap.size_push, D.size], Nat.le_succ_of_le D.low, fun j a o' e => ?_, fun i j a o₁ o₂ e1 e2 => ?_, fun a o' e q => Heap.get?_push_of_some _ (D.keep a o' e q), fun a vs e => ⟨Heap.get?_push_of_some _ (D.ch a vs e).1, (D.ch a vs e).2⟩, fun a o' e => Heap.get?_push_of_some _ (D.exk a o' e), fun j a o' e => ?_⟩
 ·rw [G] at e
  by_cases hj : j = m
  ·subst hj
   rw [if_pos rfl] at e
   cases e
   refine ⟨Nat.lt_succ_self _, D.low, Nat.lt_succ_self _, ?_⟩
   rw [← D.size]; exact Heap.get?_push_size _ hf
  ·rw [if_neg hj] at e
   obtain ⟨z1, z2, z3, z4⟩ := D.own j a o' e
   exact ⟨Nat.lt_succ_of_lt z1, z2, Nat.lt_succ_of_lt z3, Heap.get?_push_of_some _ z4⟩
 ·rw [G] at e1 e2
  by_cases hi : i = m
  ·by_cases hj : j = m
   ·rw [hi, hj]
   ·rw [if_pos hi] at e1
    rw [if_neg hj] at e2
    cases e1
    exact absurd (D.own j _ _ e2).2.2.1 (Nat.lt_irrefl _)
  ·by_cases hj : j = m
   ·rw [if_neg hi] at e1
    rw [if_pos hj] at e2
    cases e2
    exact absurd (D.own i _ _ e1).2.2.1 (Nat.lt_irrefl _)
   ·rw [if_neg hi] at e1
    rw [if_neg hj] at e2
    exact D.one i j a o₁ o₂ e1 e2
 ·rw [G] at e
  by_cases hj : j = m
  ·rw [if_pos hj] at e
   cases e
   cases q : V.ex b with
   | none => rfl
   | some y =>
    have := Heap.lt_size (D.exk _ _ q)
    rw [D.size] at this
    exact absurd this (Nat.lt_irrefl _)
  ·rw [if_neg hj] at e
   exact D.exo j a o' e
theorem Rp.upd (O : V.Ok) (D : Rp V T m b ch h) {q a : Nat} {o : Obj} {f : Obj → Obj} (e : T.get q = some (a, o)) (hf : (f o).isFreed = false) : Rp V (T.upd q f) m b ch (h.update a f) := by
 obtain ⟨z1, z2, z3, z4⟩ := D.own q a o e
 have hs : Heap.SameBut a h (h.update a f) := Heap.SameBut.update ..
 have ge : (h.update a f).get? a = some (f o) := by first | exact Heap.get?_update_self f z4 hf | exact Heap.get?_update_self _ z4 hf
 have G := fun i => MT.get_upd f T q i
 have K : ∀ j a' o', (T.upd q f).get j = some (a', o') → ∃ o₁, T.get j = some (a', o₁) := fun j a' o' e' => by
  rw [G] at e'
  by_cases hj : j = q
  ·subst hj
   rw [if_pos rfl, e] at e'
   cases e'
   exact ⟨o, e⟩
  ·rw [if_neg hj] at e'
   exact ⟨o', e'⟩
 have ne : ∀ a' o', V.h₀.get? a' = some o' → a' ≠ a := fun a' o' e' => Nat.ne_of_lt (Nat.lt_of_lt_of_le (Rp.old_lt O e') z2)
 refine ⟨by rw [hs.1, D.size], D.low, fun j a' o' e' => ?_, fun i j a' o₁ o₂ e1 e2 => ?_, fun a' o' e' c => (hs.2 a' (ne a' o' e')).trans (D.keep a' o' e' c), fun a' vs e' => ?_, fun a' o' e' => (hs.2 a' fun w => by subst w; rw [D.exo q _ o e] at e'; cases e').trans (D.exk a' o' e'), fun j a' o' e' => (K j a' o' e').elim fun o₁ e₁ => D.exo j a' o₁ e₁⟩
 ·rw [G] at e'
  by_cases hj : j = q
  ·subst hj
   rw [if_pos rfl, e] at e'
   cases e'
   exact ⟨z1, z2, z3, ge⟩
  ·rw [if_neg hj] at e'
   obtain ⟨y1, y2, y3, y4⟩ := D.own j a' o' e'
   refine ⟨y1, y2, y3, (hs.2 a' fun w => hj ?_).trans y4⟩
   subst w
   exact D.one j q _ o' o e' e
 ·obtain ⟨_, x1⟩ := K i a' o₁ e1
  obtain ⟨_, x2⟩ := K j a' o₂ e2
  exact D.one i j a' _ _ x1 x2
 ·obtain ⟨y, c, ps, more, ht, hv⟩ := D.ch a' vs e'
  exact ⟨(hs.2 a' (ne a' _ ht.2)).trans y, c, ps, more, ht, hv⟩
theorem Rp.table (O : V.Ok) (D : Rp V T m b ch h) {a : Nat} {f : Obj → Obj} {vs vs' : Array Value} {more : List Value}
  (e : chLook ch a = some vs ∨ (chLook ch a = none ∧ chLook V.tabs a = some vs)) (hn : f (tableObj vs) = tableObj vs') (hm : vs'.toList = vs.toList ++ more) : h.get? a = some (tableObj vs) ∧ Rp V T m b (chPut ch a vs') (h.update a f) := by
 have hv : vs' = vs ++ more.toArray := by
  have := hm
  apply Array.ext'
  rw [Array.toList_append, this]
 have key : h.get? a = some (tableObj vs) ∧ ∃ c ps more', V.h₀.TableAt c a ps ∧ vs = ps ++ more' := by
  rcases e with e | ⟨e0, e⟩
  ·exact D.ch a _ e
  ·obtain ⟨co, ht⟩ := O.tabs a vs e
   exact ⟨D.keep a _ ht.2 e0, co, vs, #[], ht, by simp⟩
 obtain ⟨ho, co, ps, more', ht, hps⟩ := key
 refine ⟨ho, ?_⟩
 have hs : Heap.SameBut a h (h.update a f) := Heap.SameBut.update ..
 have hf : (f (tableObj vs)).isFreed = false := by rw [hn]; rfl
 have ge : (h.update a f).get? a = some (tableObj vs') := by
  have : (h.update a f).get? a = some (f (tableObj vs)) := by first | exact Heap.get?_update_self f ho hf | exact Heap.get?_update_self _ ho hf
  rw [this, hn]
 have la := Rp.old_lt O ht.2
 refine ⟨by rw [hs.1, D.size], D.low, fun j a' o' e' => ?_, D.one, fun a' o' e' q => ?_, fun a' x e' => ?_, fun a' o' e' => (hs.2 a' (Nat.ne_of_gt (Nat.lt_of_lt_of_le la (O.exn a' o' e')))).trans (D.exk a' o' e'), D.exo⟩
 ·obtain ⟨y1, y2, y3, y4⟩ := D.own j a' o' e'
  exact ⟨y1, y2, y3, (hs.2 a' (Nat.ne_of_gt (Nat.lt_of_lt_of_le la y2))).trans y4⟩
 ·rw [chPut_look] at q
  by_cases hb : a = a'
  ·rw [if_pos hb] at q; cases q
  ·rw [if_neg hb] at q
   exact (hs.2 a' (Ne.symm hb)).trans (D.keep a' o' e' q)
 ·rw [chPut_look] at e'
  by_cases hb : a = a'
  ·subst hb
   rw [if_pos rfl] at e'
   cases e'
   exact ⟨ge, co, ps, more' ++ more.toArray, ht, by rw [hv, hps, Array.append_assoc]⟩
  ·rw [if_neg hb] at e'
   obtain ⟨y, z⟩ := D.ch a' x e'
   exact ⟨(hs.2 a' (Ne.symm hb)).trans y, z⟩
end
def AtS (V : XW) (R : Result → Shared → Prop) (r : Result) (T : MT) (m B c τ i : Nat) (ch : Ch) : Prop := ∀ h, Rp V T m (B + c) ch h → R r (V.sh h (τ + i))
abbrev HsOk (V : XW) (hs : HsTy) : Prop := ∀ q js Γ p T m B c τ i ch x, hs q js Γ p T m B c τ i ch = some x → x.pre → (∀ y ∈ x.ps, y.1 = y.2) → ∀ R h, Rp V T m (B + c) ch h → AtS V R x.r x.T x.m B x.c τ x.i ch → wpCode V.M Γ R p (V.sh h (τ + i))
def WlOk (V : XW) (Γ : PySem.Ctx) (p : Pos) (T : MT) (x : WL) : Prop := (∀ y ∈ x.ps, y.1 = y.2) → ∀ m b ch h t, Rp V T m b ch h → ∀ Q E, Nat.rec (motive := fun _ => Prop) (Sem.wp V.M Γ x.t Q E p (V.sh h t) → Sem.wp V.M Γ (denF Γ.code) Q E p (V.sh h t))
 (fun g _ => Nat.rec (motive := fun _ => Prop) (Sem.wp V.M Γ x.t Q E p (V.sh h t) → Sem.wp V.M Γ (mainF Γ.code) Q E p (V.sh h t)) (fun _ _ => (∀ p', Sem.wp V.M Γ x.t Q E p' (V.sh h t)) → Sem.wp V.M Γ (denF Γ.code) Q E p (V.sh h t)) g) x.g
section
variable {V : XW} {Γ : PySem.Ctx} {p : Pos} {T : MT} {x : WL} {m b t n : Nat} {ch : Ch} {h : Heap} {Q : Fin → Pos → Shared → Prop} {E : Value → Pos → Shared → Prop}
theorem WlOk.g0 (w : WlOk V Γ p T x) (hg : x.g = 0) (hps : ∀ y ∈ x.ps, y.1 = y.2) (D : Rp V T m b ch h) (k : Sem.wp V.M Γ x.t Q E p (V.sh h t)) : Sem.wp V.M Γ (denF Γ.code) Q E p (V.sh h t) := by
 have := w hps m b ch h t D Q E
 rw [hg] at this
 exact this k
theorem WlOk.g1 (w : WlOk V Γ p T x) (hg : x.g = 1) (hps : ∀ y ∈ x.ps, y.1 = y.2) (D : Rp V T m b ch h) (k : Sem.wp V.M Γ x.t Q E p (V.sh h t)) : Sem.wp V.M Γ (mainF Γ.code) Q E p (V.sh h t) := by
 have := w hps m b ch h t D Q E
 rw [hg] at this
 exact this k
theorem WlOk.g2 (w : WlOk V Γ p T x) (hg : x.g = n + 2) (hps : ∀ y ∈ x.ps, y.1 = y.2) (D : Rp V T m b ch h) (k : ∀ p', Sem.wp V.M Γ x.t Q E p' (V.sh h t)) : Sem.wp V.M Γ (denF Γ.code) Q E p (V.sh h t) := by
 have := w hps m b ch h t D Q E
 rw [hg] at this
 exact this k
end
structure HkOk (V : XW) (H : Hk) : Prop where
 simple : HsOk V H.hs
 mono : ∀ q js Γ p T m B c τ i ch ps W, H.hk q js Γ p T m B c τ i ch = some (ps, W) → ∀ F G : KTy, (∀ r T m B c τ i ch js, F r T m B c τ i ch js → G r T m B c τ i ch js) → W F → W G
 alt : ∀ q c t, H.alt q c = some t → denF c = t
 wal : ∀ q js Γ p T x, H.wal q js Γ p T = some x → WlOk V Γ p T x
 ok : ∀ q js Γ p T m B c τ i ch ps W, H.hk q js Γ p T m B c τ i ch = some (ps, W) → (∀ y ∈ ps, y.1 = y.2) → ∀ R h, Rp V T m (B + c) ch h → W (fun r T m B c τ i ch _ => AtS V R r T m B c τ i ch) → wpCode V.M Γ R p (V.sh h (τ + i))
theorem okAcc_cons {x : Nat × Nat} {l : List (Nat × Nat)} : okAcc (x :: l) ↔ x.1 = x.2 ∧ okAcc l := by
 unfold okAcc
 rw [List.map_cons, List.map_cons]
 constructor
 ·intro h; injection h with h1 h2; exact ⟨h1, h2⟩
 ·rintro ⟨h1, h2⟩; rw [h1, h2]
theorem stripJ_ok : ∀ (l m : List Value) (js : List Nat) (acc : List (Nat × Nat)) (x : List Value × List Nat × List (Nat × Nat)), stripJ l m js acc = some x → okAcc x.2.2 → okAcc acc ∧ m = l ++ x.1
 | [], m, js, acc, x, h, ha => by
  rw [← Option.some.inj (show some (m, js, acc) = some x from h)] at ha ⊢
  exact ⟨ha, rfl⟩
 | v :: l, m, js, acc, x, h, ha => inv_l (show bL m (fun y m => Option.rec (motive := fun _ => Option (List Value × List Nat × List (Nat × Nat))) (bO (vInt v) fun p => bO (vInt y) fun q => bT (Z.eqB p.1 q.1) (bT (Nat.beq p.2 q.2) (stripJ l m js acc))) (fun a => bO (vRef y) fun b => bL js fun _ js => stripJ l m js ((a, b) :: acc)) (vRef v)) = some x from h) fun y m' em h => by
  rw [em]
  cases ev : vRef v with
  | none =>
   rw [ev] at h
   exact inv_o h fun p e1 h => inv_o h fun q e2 h => inv_t h fun e3 h => inv_t h fun e4 h => by
    obtain ⟨i1, i2⟩ := stripJ_ok l m' js acc x h ha
    exact ⟨i1, by rw [i2, vInt_ok e1, vInt_ok e2, (Z.eqB_iff _ _).mp e3, Nat.eq_of_beq_eq_true e4]; rfl⟩
  | some a =>
   rw [ev] at h
   exact inv_o h fun b e1 h => inv_l h fun _ js' _ h => by
    obtain ⟨i1, i2⟩ := stripJ_ok l m' js' _ x h ha
    obtain ⟨z1, z2⟩ := okAcc_cons.mp i1
    exact ⟨z2, by rw [i2, vRef_ok ev, vRef_ok e1, show a = b from z1]; rfl⟩
theorem okAcc_app : ∀ {l l' : List (Nat × Nat)}, okAcc (l ++ l') ↔ (∀ y ∈ l, y.1 = y.2) ∧ okAcc l'
 | [], l' => ⟨fun h => ⟨fun _ hy => (nomatch hy), h⟩, fun h => h.2⟩
 | x :: l, l' => by
  rw [List.cons_append, okAcc_cons, okAcc_app]
  constructor
  ·rintro ⟨h1, h2, h3⟩
   refine ⟨fun y hy => ?_, h3⟩
   rcases List.mem_cons.mp hy with e | hy
   ·rw [e]; exact h1
   ·exact h2 y hy
  ·rintro ⟨h1, h2⟩
   exact ⟨h1 x (.head _), fun y hy => h1 y (.tail _ hy), h2⟩
theorem okAcc_tail {x : Nat × Nat} {l : List (Nat × Nat)} (h : okAcc (x :: l)) : x.1 = x.2 ∧ okAcc l := okAcc_cons.mp h
section
variable {V : XW} {H : Hk} {K : KTy} {R₀ : Result → Shared → Prop}
def Snd (V : XW) (R₀ : Result → Shared → Prop) (ih : GoTy) : Prop := ∀ Γ p κ tr T m B c τ i ch js acc Q, ih Γ p κ tr T m B c τ i ch js acc Q → okAcc acc ∧ Q ∧ ∀ h, Rp V T m (B + c) ch h → Mean V R₀ Γ p κ tr (V.sh h (τ + i))
theorem retG_sound {ih : GoTy} (IH : Snd V R₀ ih) (hK : ∀ r T m B c τ i ch js, K r T m B c τ i ch js → AtS V R₀ r T m B c τ i ch) {r : Result} {κ : Kt} {T m B c τ i ch js acc Q} (h : retG K ih r κ T m B c τ i ch js acc Q) :
  okAcc acc ∧ Q ∧ AtS V (endK V R₀ κ) r T m B c τ i ch := by
 cases κ with
 | base => exact ⟨h.1, h.2.1, hK _ _ _ _ _ _ _ _ _ h.2.2⟩
 | ret Γ p k κ =>
  have z := IH _ _ _ _ _ _ _ _ _ _ _ _ _ _ h
  exact ⟨z.1, z.2.1, fun h D => by rw [endK_ret]; exact z.2.2 h D⟩
 | grd κ => cases h
theorem strip_end : ∀ κ : Kt, endK V R₀ (stripK κ) = endK V R₀ κ
 | .base => rfl
 | .ret .. => rfl
 | .grd κ => strip_end κ
theorem strip_grd : ∀ κ : Kt, grdB (stripK κ) = false
 | .base => rfl
 | .ret .. => rfl
 | .grd κ => strip_grd κ
theorem code_in (V : XW) (Γ : PySem.Ctx) (R : Result → Shared → Prop) (p : Pos) (s : Shared) (x : Sem.wp V.M Γ (denF Γ.code) (Sem.finPost V.M Γ R) (fun e _ s' => R (.error e) s') p s) : wpCode V.M Γ R p s := by
 rw [wpCode_iff_wp]
 have : V.M.den Γ.code = denF Γ.code := by rw [← denF_eq]; rfl
 rw [this]; exact x
theorem code_grd (V : XW) (Γ : PySem.Ctx) (R : Result → Shared → Prop) (p : Pos) (s : Shared)
  (x : Sem.wp V.M Γ (mainF Γ.code) (Sem.finPost V.M Γ R) (fun e p' s' => Sem.wp V.M Γ (hT Γ.code e) (fun _ _ s'' => R (.error e) s'') (fun e' _ s'' => R (.error e') s'') p' s') p s) : wpCode V.M Γ R p s := by
 rw [wpCode_iff_wp]
 rw [← mainF_eq] at x
 exact den_guard V.M Γ Γ.code _ _ p s x
theorem endE_plain {Γ : PySem.Ctx} {κ : Kt} (h : grdB κ = false) : endE V R₀ Γ κ = fun e _ s => endK V R₀ κ (.error e) s := by
 cases κ with
 | grd => cases h
 | base => rfl
 | ret => rfl
theorem end_ret {Γ Γ' : PySem.Ctx} {p : Pos} {k : Result → Sem Fin} {κ : Kt} : endE V R₀ Γ' (.ret Γ p k κ) = fun e _ s => endK V R₀ (.ret Γ p k κ) (.error e) s := rfl
theorem stands_of {Γ : PySem.Ctx} {env : Env} {f : Addr} (h1 : envOf Γ.code = some env) (h2 : env.frame = some f) (h3 : frameF (Γ.code :: Γ.below.map (·.1)) = some f) : Stands Γ env f := by
 refine ⟨?_, h2, h3⟩
 cases hc : Γ.code with
 | func b e => rw [hc] at h1; exact h1
 | expr b e => rw [hc] at h1; exact h1
 | forLoop t it b o e => rw [hc] at h1; exact h1
 | _ => rw [hc] at h1; cases h1
theorem hT_of {M : Model} {Γ : PySem.Ctx} {env : Env} (h1 : envOf Γ.code = some env) (e : Value) (Q : Unit → Pos → Shared → Prop) (E : Value → Pos → Shared → Prop) (p : Pos) (s : Shared)
  (h : Sem.wp M Γ (noteFrame e env) (fun _ p' s' => Sem.wp M Γ (afterT Γ.code e) Q E p' s') E p s) : Sem.wp M Γ (hT Γ.code e) Q E p s := by
 cases hc : Γ.code with
 | func b en =>
  rw [hc] at h1 h; cases h1
  simp only [hT, leaving, Sem.wp_bind']; exact h
 | expr b en =>
  rw [hc] at h1 h; cases h1
  simp only [hT, leaving, Sem.wp_bind']; exact h
 | forLoop t it b o en =>
  rw [hc] at h1 h; cases h1
  simp only [hT, Sem.wp_bind']; exact h
 | _ => rw [hc] at h1; cases h1
theorem wp_field_of {M : Model} {Γ : PySem.Ctx} {a : Addr} {o : Obj} {vs : Array Value} {n : Nat} {v : Value} {Q : Value → Pos → Shared → Prop} {E : Value → Pos → Shared → Prop} {p : Pos} {s : Shared}
  (ho : s.heap.get? a = some o) (hd : o.data = .fields vs) (hv : vs[n]? = some v) (h : Q v p s) : Sem.wp M Γ (field (.ref a) n) Q E p s := by
 unfold field fieldsOf
 simp only [Sem.wp_bind', load, Sem.wp_load]
 refine ⟨o, ho, ?_⟩
 simp only [Sem.wp_pure, Sem.wp_pure', hd, hv]
 exact h
theorem note_fly {M : Model} {Γ : PySem.Ctx} {env : Env} {f ae at' : Addr} {eo to : Obj} {vs ws : Array Value} {Q : Unit → Pos → Shared → Prop} {E : Value → Pos → Shared → Prop} {p : Pos} {s : Shared}
  (hf : env.frame = some f) (he : s.heap.get? ae = some eo) (hd : eo.data = .fields vs) (h1 : vs[1]? = some (.ref at')) (ht : s.heap.get? at' = some to) (hd' : to.data = .fields ws) (h3 : ws[3]? = some (rawInt f)) (h : Q () p s) :
  Sem.wp M Γ (noteFrame (.ref ae) env) Q E p s := by
 unfold noteFrame
 rw [hf]
 simp only [Sem.wp_bind']
 refine wp_field_of he hd h1 ?_
 have hne : ((Value.ref at') != .none) = true := by simp
 simp only [hne, if_true, Sem.wp_bind']
 refine wp_field_of ht hd' h3 ?_
 simp only [beq_self_eq_true, if_true, Sem.wp_pure']
 exact h
theorem fly_facts {T : MT} {je jt ae th at' i : Nat} (h : flyOf T je jt = some (ae, th, at', i)) :
  ∃ eo vs to ws, T.get (je / 2) = some (ae, eo) ∧ eo.data = .fields vs ∧ vs[1]? = some (.ref th) ∧ T.get (jt / 2) = some (at', to) ∧ to.data = .fields ws ∧ ws[3]? = some (rawInt (i : Nat)) :=
 inv_o h fun q e1 h => inv_o h fun vs e2 h => inv_o h fun v e3 h => inv_o h fun th' e4 h => inv_o h fun q2 e5 h => inv_o h fun ws e6 h => inv_o h fun u e7 h => inv_o h fun i' e8 h => by
  have h := Option.some.inj h
  rw [vRef_ok e4] at e3
  rw [vNat_ok e8] at e7
  rw [← show q.1 = ae from congrArg (·.1) h, ← show th' = th from congrArg (·.2.1) h, ← show q2.1 = at' from congrArg (·.2.2.1) h, ← show i' = i from congrArg (·.2.2.2) h]
  exact ⟨q.2, vs, q2.2, ws, e1, dFld_ok e2, e3, e5, dFld_ok e6, e7⟩
theorem ask2_facts {T : MT} {j1 j2 x : Nat} (h : ask2 T j1 j2 = some x) : j1 = j2 ∧ ∃ o, T.get (j1 / 2) = some (x, o) :=
 inv_t h fun hb h => inv_o h fun y e h => ⟨Nat.eq_of_beq_eq_true hb, y.2, by rw [e, ← Option.some.inj h]⟩
theorem raiseG_sound {ih : GoTy} (IH : Snd V R₀ ih) (hK : ∀ r T m B c τ i ch js, K r T m B c τ i ch js → AtS V R₀ r T m B c τ i ch) {Γ : PySem.Ctx} {p : Pos} {e : Value} {κ : Kt} {T m B c τ i ch js acc Q} (h : raiseG K ih Γ p e κ T m B c τ i ch js acc Q) :
  okAcc acc ∧ Q ∧ ∀ h, Rp V T m (B + c) ch h → endE V R₀ Γ κ e p (V.sh h (τ + i)) := by
 cases κ with
 | base => exact retG_sound (κ := .base) IH hK h
 | ret Γ' p' k κ => exact retG_sound (κ := .ret Γ' p' k κ) IH hK h
 | grd κ' =>
  delta raiseG at h; dsimp only at h
  split at h
  ·cases h
  ·rename_i hg
   split at h
   ·rename_i env h1
    split at h
    ·rename_i f h2
     split at h
     ·rename_i f2 h3
      split at h
      ·rename_i md j1 j2 js'
       split at h
       ·rename_i x1 hx
        obtain ⟨hj, o1, g1⟩ := ask2_facts hx
        split at h
        ·have z := IH _ _ _ _ _ _ _ _ _ _ _ _ _ _ h
         obtain ⟨q1, z1⟩ := okAcc_cons.mp z.1
         obtain ⟨q2, z2⟩ := okAcc_cons.mp z1
         have ef : f2 = f := q2.trans q1.symm
         subst ef
         refine ⟨z2, z.2.1, fun h D => hT_of h1 e _ _ _ _ (note_B V.M Γ (stands_of h1 h2 h3) e _ _ _ _ ?_)⟩
         have y := z.2.2 h D
         unfold Mean at y
         rw [Sem.wp_bind, endE_plain hg, ← noteBF_eq, ← afterF_eq] at y
         refine Sem.wp_mono _ _ _ (fun _ p' s' y => ?_) (fun _ _ _ y => y) _ _ y
         rw [Sem.wp_bind] at y
         exact y
        ·split at h
         ·rename_i je jt jf js''
          split at h
          ·rename_i a
           split at h
           ·rename_i ae th at' i' hfl
            split at h
            ·have z := IH _ _ _ _ _ _ _ _ _ _ _ _ _ _ h
             obtain ⟨q1, z1⟩ := okAcc_cons.mp z.1
             obtain ⟨q2, z2⟩ := okAcc_cons.mp z1
             obtain ⟨q3, z3⟩ := okAcc_cons.mp z2
             obtain ⟨q4, z4⟩ := okAcc_cons.mp z3
             obtain ⟨q5, z5⟩ := okAcc_cons.mp z4
             have ef : f2 = f := q5.trans q4.symm
             have ei : i' = f := q1.trans q4.symm
             have eth : th = at' := q2
             have ea : a = ae := q3
             subst ef ei eth ea
             obtain ⟨eo, vs, to, ws, t1, t2, t3, t4, t5, t6⟩ := fly_facts hfl
             refine ⟨z5, z.2.1, fun h D => hT_of h1 _ _ _ _ _ (note_fly h2 (D.own _ _ _ t1).2.2.2 t2 t3 (D.own _ _ _ t4).2.2.2 t5 t6 ?_)⟩
             have y := z.2.2 h D
             unfold Mean at y
             rw [Sem.wp_bind, endE_plain hg, ← afterF_eq] at y
             exact y
            ·cases h
           ·cases h
          ·cases h
         ·cases h
       ·cases h
      ·cases h
     ·cases h
    ·cases h
   ·cases h
theorem enter_case {Γ : PySem.Ctx} {p : Pos} {κ : Kt} {R : Result → Shared → Prop} (hR : endK V R₀ κ = R) (hg : grdB κ = false) {h : Heap} {t : Nat} (z : Mean V R₀ Γ p κ (denF Γ.code) (V.sh h t)) : wpCode V.M Γ R p (V.sh h t) := by
 subst hR
 unfold Mean at z
 rw [endE_plain hg] at z
 exact code_in V _ _ _ _ z
theorem enter_grd {Γ : PySem.Ctx} {p : Pos} {κ : Kt} {R : Result → Shared → Prop} (hR : endK V R₀ κ = R) {h : Heap} {t : Nat} (z : Mean V R₀ Γ p (.grd κ) (mainF Γ.code) (V.sh h t)) : wpCode V.M Γ R p (V.sh h t) := by
 subst hR
 exact code_grd V _ _ _ _ z
theorem dispG_sound (hH : HkOk V H) {ih : GoTy} (IH : Snd V R₀ ih) (hK : ∀ r T m B c τ i ch js, K r T m B c τ i ch js → AtS V R₀ r T m B c τ i ch) {Γ : PySem.Ctx} {p : Pos} {κ : Kt} {c' : Code} (hc : Γ.code = c') (hg : grdB κ = false) {T m B c τ i ch js acc Q} (h : dispG V H K ih Γ p κ c' T m B c τ i ch js acc Q) :
  okAcc acc ∧ Q ∧ ∀ h, Rp V T m (B + c) ch h → wpCode V.M Γ (endK V R₀ κ) p (V.sh h (τ + i)) := by
 rw [← hc] at h
 delta dispG at h
 split at h
 ·cases h
 ·split at h
  ·have z := IH _ _ _ _ _ _ _ _ _ _ _ _ _ _ h
   exact ⟨z.1, z.2.1, fun h D => enter_case rfl hg (z.2.2 h D)⟩
  ·split at h
   ·have z := IH _ _ _ _ _ _ _ _ _ _ _ _ _ _ h
    exact ⟨z.1, z.2.1, fun h D => enter_grd rfl (z.2.2 h D)⟩
   ·split at h
    ·split at h
     ·rename_i x hx
      have z := retG_sound IH hK h
      obtain ⟨z1, z2⟩ := okAcc_app.mp z.1
      exact ⟨z2, z.2.1.2, fun h D => hH.simple _ _ _ _ _ _ _ _ _ _ _ _ hx z.2.1.1 z1 _ h D z.2.2⟩
     ·cases h
    ·split at h
     ·split at h
      ·rename_i y hW
       obtain ⟨z1, z2⟩ := okAcc_app.mp h.1
       exact ⟨z2, h.2.1, fun h' D => hH.ok _ _ _ _ _ _ _ _ _ _ _ y.1 y.2 hW z1 _ h' D (hH.mono _ _ _ _ _ _ _ _ _ _ _ y.1 y.2 hW _ _ (fun r T m B c τ i ch js x => (retG_sound IH hK x).2.2) h.2.2)⟩
      ·cases h
     ·split at h
      ·rename_i t ht
       have z := IH _ _ _ _ _ _ _ _ _ _ _ _ _ _ h
       refine ⟨z.1, z.2.1, fun h D => enter_case rfl hg ?_⟩
       rw [hH.alt _ _ _ ht]
       exact z.2.2 h D
      ·split at h
       ·rename_i x hx
        have w := hH.wal _ _ _ _ _ _ hx
        cases xg : x.g with
        | zero =>
         rw [xg] at h
         have z := IH _ _ _ _ _ _ _ _ _ _ _ _ _ _ h
         obtain ⟨z1, z2⟩ := okAcc_app.mp z.1
         refine ⟨z2, z.2.1, fun h D => enter_case rfl hg ?_⟩
         have y := z.2.2 h D
         unfold Mean at y ⊢
         exact w.g0 xg z1 D y
        | succ n =>
         rw [xg] at h
         cases n with
         | zero =>
          have z := IH _ _ _ _ _ _ _ _ _ _ _ _ _ _ h
          obtain ⟨z1, z2⟩ := okAcc_app.mp z.1
          exact ⟨z2, z.2.1, fun h D => enter_grd rfl (w.g1 xg z1 D (z.2.2 h D))⟩
         | succ n =>
          have z := IH _ _ _ _ _ _ _ _ _ _ _ _ _ _ (h p)
          obtain ⟨z1, z2⟩ := okAcc_app.mp z.1
          exact ⟨z2, z.2.1, fun h' D => enter_case rfl hg (w.g2 xg z1 D fun p' => (IH _ _ _ _ _ _ _ _ _ _ _ _ _ _ (h p')).2.2 h' D)⟩
       ·cases h
theorem lookG_sound (O : V.Ok) {a : Nat} {go : Obj → Go} {T m B c τ i ch js acc Q} {P : Obj → Heap → Prop} (G : ∀ o js acc, go o T m B c τ i ch js acc Q → okAcc acc ∧ Q ∧ ∀ h, Rp V T m (B + c) ch h → P o h) (h : lookG V a go T m B c τ i ch js acc Q) :
  okAcc acc ∧ Q ∧ ∀ h, Rp V T m (B + c) ch h → ∃ o, h.get? a = some o ∧ P o h := by
 delta lookG at h
 split at h
 ·cases h
 ·split at h
  ·split at h
   ·rename_i vs e
    have z := G _ _ _ h
    exact ⟨z.1, z.2.1, fun h D => ⟨_, (D.ch a vs e).1, z.2.2 h D⟩⟩
   ·rename_i e
    split at h
    ·rename_i o e'
     have z := G _ _ _ h
     exact ⟨z.1, z.2.1, fun h D => ⟨_, D.lookOld O e e', z.2.2 h D⟩⟩
    ·cases h
  ·split at h
   ·rename_i x e
    have z := G _ _ _ h
    have y := okAcc_tail z.1
    refine ⟨y.2, z.2.1, fun h D => ⟨_, ?_, z.2.2 h D⟩⟩
    rw [show a = x.1 from y.1]
    exact (D.own _ x.1 x.2 e).2.2.2
   ·cases h
theorem stepG_sound (O : V.Ok) (hH : HkOk V H) {ih : GoTy} (IH : Snd V R₀ ih) (hK : ∀ r T m B c τ i ch js, K r T m B c τ i ch js → AtS V R₀ r T m B c τ i ch) : Snd V R₀ (stepG V H K ih) := by
 intro Γ p κ tr T m B c τ i ch js acc Q h
 cases tr with
 | pure fin =>
  cases fin with
  | done f =>
   have z := retG_sound IH hK h
   exact ⟨z.1, z.2.1, fun h D => by have y := z.2.2 h D; rw [strip_end] at y; exact y⟩
  | again c' =>
   cases q : qk c' with
   | false => delta stepG at h; dsimp only at h; rw [q] at h; dsimp only at h; cases h
   | true =>
    delta stepG at h; dsimp only at h; rw [q] at h
    have z := dispG_sound hH IH hK rfl (strip_grd κ) h
    refine ⟨z.1, z.2.1, fun h D => ⟨qk_quiet q, ?_⟩⟩
    rw [← strip_end κ]
    exact z.2.2 h D
 | raise e => exact raiseG_sound IH hK h
 | rule tag k => exact IH Γ p κ (k ()) T m B c τ i ch js acc Q h
 | «at» q k => exact IH Γ q κ (k ()) T m B c τ i ch js acc Q h
 | point l k => exact IH Γ p κ (k ()) T m B c τ i ch js acc Q h
 | ask k => exact IH Γ p κ (k ⟨V.prog, V.w.params⟩) T m B c τ i ch js acc Q h
 | load a q k => exact lookG_sound (P := fun o h => Mean V R₀ Γ p κ (k o) (V.sh h (τ + i))) O (fun o js acc h => IH _ _ _ _ _ _ _ _ _ _ _ _ _ _ h) h
 | loadIfAlive a k =>
  have z := lookG_sound (P := fun o h => Mean V R₀ Γ p κ (k (some o)) (V.sh h (τ + i))) O (fun o js acc h => IH _ _ _ _ _ _ _ _ _ _ _ _ _ _ h) h
  refine ⟨z.1, z.2.1, fun h D => ?_⟩
  obtain ⟨o, e, y⟩ := z.2.2 h D
  show Sem.wp V.M Γ (k (h.get? a)) _ _ _ _
  rw [e]; exact y
 | alloc o k =>
  delta stepG at h; dsimp only at h
  split at h
  ·cases h
  ·rename_i hf
   split at h
   ·rename_i x e
    have z := IH _ _ _ _ _ _ _ _ _ _ _ _ _ _ h
    refine ⟨z.1, z.2.1, fun h D => ?_⟩
    have D' := D.alloc hf e
    have y := z.2.2 (h.push o) D'
    show Sem.wp V.M Γ (k h.objs.size) _ _ _ _
    rw [D.size]; exact y
   ·cases h
 | update a q f k =>
  delta stepG at h; dsimp only at h
  split at h
  ·cases h
  ·split at h
   ·split at h
    ·rename_i vs e
     split at h
     ·rename_i vs' e'
      split at h
      ·rename_i x em
       have z := IH _ _ _ _ _ _ _ _ _ _ _ _ _ _ h
       obtain ⟨z1, em⟩ := stripJ_ok _ _ _ _ _ em z.1
       refine ⟨z1, z.2.1, fun h D => ?_⟩
       obtain ⟨ho, D'⟩ := D.table O (.inl e) (tabOf_eq e') em
       exact ⟨by show (h.get? a).isSome = true; rw [ho]; rfl, z.2.2 _ D'⟩
      ·cases h
     ·cases h
    ·rename_i e0
     split at h
     ·rename_i vs e
      split at h
      ·rename_i vs' e'
       split at h
       ·rename_i x em
        have z := IH _ _ _ _ _ _ _ _ _ _ _ _ _ _ h
        obtain ⟨z1, em⟩ := stripJ_ok _ _ _ _ _ em z.1
        refine ⟨z1, z.2.1, fun h D => ?_⟩
        obtain ⟨ho, D'⟩ := D.table O (.inr ⟨e0, e⟩) (tabOf_eq e') em
        exact ⟨by show (h.get? a).isSome = true; rw [ho]; rfl, z.2.2 _ D'⟩
       ·cases h
      ·cases h
     ·cases h
   ·split at h
    ·rename_i x e
     split at h
     ·cases h
     ·rename_i hf
      have z := IH _ _ _ _ _ _ _ _ _ _ _ _ _ _ h
      have y := okAcc_tail z.1
      have ea : a = x.1 := y.1
      refine ⟨y.2, z.2.1, fun h D => ?_⟩
      have g := (D.own _ x.1 x.2 e).2.2.2
      refine ⟨by show (h.get? a).isSome = true; rw [ea, g]; rfl, ?_⟩
      have D' := D.upd O e hf
      rw [← ea] at D'
      exact z.2.2 _ D'
    ·cases h
 | fresh k => exact IH Γ p κ (k (τ + i)) T m B c τ (i + 1) ch js acc Q h
 | handled own k =>
  cases own with
  | false => exact IH Γ p κ (k Γ.handled) T m B c τ i ch js acc Q h
  | true => exact IH Γ p κ (k Γ.own) T m B c τ i ch js acc Q h
 | stack k => exact IH Γ p κ (k ((Γ.code, p) :: Γ.below)) T m B c τ i ch js acc Q h
 | call c' hd g l k =>
  have z := dispG_sound (κ := .ret Γ p k κ) hH IH hK rfl rfl h
  refine ⟨z.1, z.2.1, fun h D => ?_⟩
  have y := z.2.2 h D
  rw [endK_ret] at y
  exact y
 | unsupported => cases h
 | finish => cases h
 | register => cases h
 | choose => cases h
 | os => cases h
 | newGen => cases h
 | genState => cases h
 | resume => cases h
 | yield => cases h
 | fork => cases h
 | thread => cases h
 | await => cases h
theorem simG_sound (O : V.Ok) (hH : HkOk V H) (hK : ∀ r T m B c τ i ch js, K r T m B c τ i ch js → AtS V R₀ r T m B c τ i ch) : ∀ n, Snd V R₀ (simG V H K n)
 | 0 => fun _ _ _ _ _ _ _ _ _ _ _ _ _ _ h => by cases h
 | n + 1 => stepG_sound O hH (simG_sound O hH hK n) hK
end
section
open PySem.Builtin.Bytes (exported checkResize decodersThatHold sameRef)
def heldIds : List String := ["bytearray.__contains__", "bytearray.__mod__", "bytearray.__rmod__", "_struct.pack_into.held", "bytearray.find.held"] ++ decodersThatHold
def heldNums : List Nat := heldIds.map PySem.code
def inHeld (c : Code) : Bool := match c with
 | .builtin id _ => heldNums.any fun n => Nat.beq (PySem.W.S.codeS id) n
 | _ => false
theorem inHeld_of {id : String} {a : Args} (h : id ∈ heldIds) : inHeld (.builtin id a) = true := by
 unfold inHeld
 rw [List.any_eq_true]
 refine ⟨PySem.code id, List.mem_map_of_mem h, ?_⟩
 rw [← PySem.W.S.code_S]
 exact Nat.beq_refl _
def expP : { P : Value → Code × Pos → Bool // exported = fun self => stack >>= fun st => pure (st.any (P self)) } := ⟨_, by funext self; unfold exported; rfl⟩
theorem notB {P : Prop} (h : false = true) : P := by cases h
theorem expP_in (self : Value) (x : Code × Pos) (h : expP.1 self x = true) : inHeld x.1 = true := by
 obtain ⟨c, p⟩ := x
 delta expP at h
 dsimp only at h
 delta PySem.Builtin.Bytes.exported.match_1 at h
 dsimp only at h
 cases c with
 | builtin id a =>
  by_cases h0 : id = "bytearray.__contains__"
  ·rw [h0]; exact inHeld_of (List.mem_append_left _ (by decide))
  replace h : dite (id = "bytearray.__contains__") _ _ = true := h
  rw [dif_neg h0] at h
  by_cases h1 : id = "bytearray.__mod__"
  ·rw [h1]; exact inHeld_of (List.mem_append_left _ (by decide))
  replace h : dite (id = "bytearray.__mod__") _ _ = true := h
  rw [dif_neg h1] at h
  by_cases h2 : id = "bytearray.__rmod__"
  ·rw [h2]; exact inHeld_of (List.mem_append_left _ (by decide))
  replace h : dite (id = "bytearray.__rmod__") _ _ = true := h
  rw [dif_neg h2] at h
  by_cases h3 : id = "_struct.pack_into.held"
  ·rw [h3]; exact inHeld_of (List.mem_append_left _ (by decide))
  replace h : dite (id = "_struct.pack_into.held") _ _ = true := h
  rw [dif_neg h3] at h
  by_cases h4 : id = "bytearray.find.held"
  ·rw [h4]; exact inHeld_of (List.mem_append_left _ (by decide))
  replace h : dite (id = "bytearray.find.held") _ _ = true := h
  rw [dif_neg h4] at h
  cases hp : a.pos with
  | nil => rw [hp] at h; exact notB h
  | cons v r =>
   rw [hp] at h
   replace h : (PySem.Builtin.Bytes.sameRef v self && decodersThatHold.contains id) = true := h
   exact inHeld_of (List.mem_append_right _ (List.contains_iff_mem.mp (Bool.and_eq_true_iff.mp h).2))
 | _ => exact notB h
def exportedB (self : Value) : Sem Bool := stack >>= fun st => pure (st.any fun x => inHeld x.1 && expP.1 self x)
theorem exportedB_eq : exported = exportedB := by
 rw [expP.2]
 funext self
 unfold exportedB
 congr 1
 funext st
 congr 2
 funext x
 cases h : expP.1 self x with
 | false => rw [Bool.and_false]
 | true => rw [expP_in self x h]; rfl
theorem exB : PySem.W.Fast.tw9492242386319852395 = exportedB := by rw [← PySem.W.Fast.te9492242386319852395, exportedB_eq]
def resizeX : { t : Value → Sem Unit // PySem.W.Fast.tw10194193111508325405 = t } := by
 have h : PySem.W.Fast.tw10194193111508325405 = PySem.W.Fast.tw10194193111508325405 := rfl
 conv at h => rhs; delta PySem.W.Fast.tw10194193111508325405; rw [exB]
 exact ⟨_, h⟩
def initX : { t : Args → Sem Fin // PySem.W.Fast.tw2866069771108943839 = t } := by
 have h : PySem.W.Fast.tw2866069771108943839 = PySem.W.Fast.tw2866069771108943839 := rfl
 conv at h => rhs; delta PySem.W.Fast.tw2866069771108943839; rw [exB, resizeX.2]
 exact ⟨_, h⟩
def addX : { t : Value → Array UInt8 → Sem Fin // PySem.W.Fast.tw11290740193018055289 = t } := by
 have h : PySem.W.Fast.tw11290740193018055289 = PySem.W.Fast.tw11290740193018055289 := rfl
 conv at h => rhs; delta PySem.W.Fast.tw11290740193018055289; rw [resizeX.2]
 exact ⟨_, h⟩
def extX : { t : Args → Sem Fin // PySem.W.Fast.tw4073682476247398694 = t } := by
 have h : PySem.W.Fast.tw4073682476247398694 = PySem.W.Fast.tw4073682476247398694 := rfl
 conv at h => rhs; delta PySem.W.Fast.tw4073682476247398694; rw [resizeX.2, addX.2]
 exact ⟨_, h⟩
theorem swapRef (a b : Value) (x y : Bool) : ((PySem.Builtin.List.listSameRef a b || x) || y) = ((x || y) || PySem.Builtin.List.listSameRef a b) := by
 cases PySem.Builtin.List.listSameRef a b <;> cases x <;> cases y <;> rfl
def lextX : { t : Value → Value → Value → Sem Fin // PySem.W.Fast.tw8938917530802602619 = t } := by
 have h : PySem.W.Fast.tw8938917530802602619 = PySem.W.Fast.tw8938917530802602619 := rfl
 conv at h => rhs; delta PySem.W.Fast.tw8938917530802602619; simp only [swapRef]
 exact ⟨_, h⟩
def linitX : { t : Args → Sem Fin // PySem.W.Fast.tw7929263774796372950 = t } := by
 have h : PySem.W.Fast.tw7929263774796372950 = PySem.W.Fast.tw7929263774796372950 := rfl
 conv at h => rhs; delta PySem.W.Fast.tw7929263774796372950; rw [lextX.2]
 exact ⟨_, h⟩
theorem id_of {id : String} {s : String} {n : Nat} (hs : PySem.W.S.codeS s = n) (h : Nat.beq (PySem.W.S.codeS id) n = true) : id = s := by
 have := Nat.eq_of_beq_eq_true h
 rw [← hs, ← PySem.W.S.code_S, ← PySem.W.S.code_S] at this
 exact PySem.code_inj _ _ this
def alt1 (n : Nat) (t : Args → Sem Fin) (c : Code) : Option (Sem Fin) := match c with
 | .builtin id args => match Nat.beq (PySem.W.S.codeS id) n with
  | true => some (t args)
  | false => none
 | _ => none
theorem alt1_ok {s : String} {n : Nat} {t : Args → Sem Fin} (hs : PySem.W.S.codeS s = n) (hd : ∀ args, denF (.builtin s args) = t args) {c : Code} {x : Sem Fin} (h : alt1 n t c = some x) : denF c = x := by
 cases c with
 | builtin id args =>
  simp only [alt1] at h
  split at h
  ·rename_i e
   cases h
   rw [id_of hs e]
   exact hd args
  ·cases h
 | _ => cases h
theorem alt_0 (args : Args) : denF (.builtin "bytearray.__init__" args) = initX.1 args := (show denF (.builtin "bytearray.__init__" args) = PySem.W.Fast.tw2866069771108943839 args by kernel_rfl).trans (congrFun initX.2 args)
theorem altn_0 : PySem.W.S.codeS "bytearray.__init__" = 8395602628992143088491114474801878304914019 := by kernel_rfl
theorem alt_1 (args : Args) : denF (.builtin "bytearray.extend" args) = extX.1 args := (show denF (.builtin "bytearray.extend" args) = PySem.W.Fast.tw4073682476247398694 args by kernel_rfl).trans (congrFun extX.2 args)
theorem altn_1 : PySem.W.S.codeS "bytearray.extend" = 134830450638619676500167197307042101859 := by kernel_rfl
theorem alt_2 (args : Args) : denF (.builtin "list.__init__" args) = linitX.1 args := (show denF (.builtin "list.__init__" args) = PySem.W.Fast.tw7929263774796372950 args by kernel_rfl).trans (congrFun linitX.2 args)
theorem altn_2 : PySem.W.S.codeS "list.__init__" = 7635756109259221455878126594669 := by kernel_rfl
def altT (q : Nat) (c : Code) : Option (Sem Fin) := match Nat.beq q 0 with | true => alt1 8395602628992143088491114474801878304914019 initX.1 c | false => match Nat.beq q 1 with | true => alt1 134830450638619676500167197307042101859 extX.1 c | false => match Nat.beq q 2 with | true => alt1 7635756109259221455878126594669 linitX.1 c | false => none
theorem altT_ok (q : Nat) (c : Code) (t : Sem Fin) (h : altT q c = some t) : denF c = t := by
 unfold altT at h
 split at h
 ·exact alt1_ok altn_0 alt_0 h
 split at h
 ·exact alt1_ok altn_1 alt_1 h
 split at h
 ·exact alt1_ok altn_2 alt_2 h
 cases h
end
def accL (A : Nat → Nat) (js : List Nat) : List (Nat × Nat) → List (Nat × Nat) :=
 List.rec (motive := fun _ => List (Nat × Nat) → List (Nat × Nat)) (fun acc => acc) (fun j _ ih acc => Bool.rec (ih acc) (ih ((A (j / 2), A (j / 2)) :: acc)) (Nat.beq (j % 2) 1)) js
theorem accL_ok (A : Nat → Nat) : ∀ (js : List Nat) (acc : List (Nat × Nat)), okAcc acc → okAcc (accL A js acc)
 | [], _, h => h
 | j :: js, acc, h => by
  show okAcc (Bool.rec (accL A js acc) (accL A js ((A (j / 2), A (j / 2)) :: acc)) (Nat.beq (j % 2) 1))
  cases Nat.beq (j % 2) 1 with
  | true => exact accL_ok A js _ (okAcc_cons.mpr ⟨rfl, h⟩)
  | false => exact accL_ok A js acc h
theorem okNil : okAcc [] := rfl
def row1 : Nat := 10139888712337904147300001983332972444938612
def row2 : Nat := 2510650655181157320538776789020469319833841985448949215332
def wF (w : World) (b1 b2 : Bool) : World := ⟨w.draws, { w.params with followText := fun r => Bool.rec (Bool.rec (w.params.followText r) b2 (Nat.beq (PySem.W.S.codeS r) row2)) b1 (Nat.beq (PySem.W.S.codeS r) row1) }⟩
theorem row1_is : PySem.W.S.codeS "special-get-raises" = row1 := by kernel_rfl
theorem row2_is : PySem.W.S.codeS "comprehension-iter-twice" = row2 := by kernel_rfl
theorem wF_self (w : World) : wF w (w.params.followText "special-get-raises") (w.params.followText "comprehension-iter-twice") = w := by
 obtain ⟨dr, P⟩ := w
 unfold wF
 congr 1
 have : (fun r => (Bool.rec (Bool.rec (P.followText r) (P.followText "comprehension-iter-twice") (Nat.beq (PySem.W.S.codeS r) row2)) (P.followText "special-get-raises") (Nat.beq (PySem.W.S.codeS r) row1) : Bool)) = P.followText := by
  funext r
  cases h1 : Nat.beq (PySem.W.S.codeS r) row1 with
  | true => show P.followText "special-get-raises" = P.followText r; rw [id_of row1_is h1]
  | false =>
   show (Bool.rec (P.followText r) (P.followText "comprehension-iter-twice") (Nat.beq (PySem.W.S.codeS r) row2) : Bool) = _
   cases h2 : Nat.beq (PySem.W.S.codeS r) row2 with
   | true => show P.followText "comprehension-iter-twice" = P.followText r; rw [id_of row2_is h2]
   | false => rfl
 show ({ P with followText := _ } : Params) = P
 rw [this]
def tabsV : Ch := [(1698, #[]), (1693, #[]), (1705, #[])]
def VX (w : World) (h : Heap) (d : Drawn) (os : OsState) (X : Nat → Option Obj) : XW := ⟨pw, w, h, 1723, T14 w.params, tabsV, d, os, X⟩
def VV (w : World) (h : Heap) (d : Drawn) (os : OsState) : XW := VX w h d os (fun _ => none)
section
open PySem.MeetsSeq PySem.SeqAt
def aR (l : List Value) : Option Nat := bL l fun v r => bN r (vRef v)
def aRV (l : List Value) : Option (Nat × Value) := bL l fun v r => bL r fun x r => bN r (bO (vRef v) fun a => some (a, x))
def aRR (l : List Value) : Option (Nat × Nat) := bO (aRV l) fun q => bO (vRef q.2) fun b => some (q.1, b)
def aII (l : List Value) : Option ((Int × Nat) × Int × Nat) := bL l fun v r => bL r fun x r => bN r (bO (vInt v) fun a => bO (vInt x) fun b => some (a, b))
theorem aII_ok {l : List Value} {q : (Int × Nat) × Int × Nat} (h : aII l = some q) : l = [.int q.1.1 q.1.2, .int q.2.1 q.2.2] :=
 inv_l h fun v r e h => inv_l h fun x r2 e2 h => inv_n h fun e3 h => inv_o h fun a e4 h => inv_o h fun b e5 h => by rw [e, e2, e3, vInt_ok e4, vInt_ok e5, ← Option.some.inj h]
theorem aR_ok {l : List Value} {q : Nat} (h : aR l = some q) : l = [.ref q] :=
 inv_l h fun v r e h => inv_n h fun e2 h => by rw [e, e2, vRef_ok h]
theorem aRV_ok {l : List Value} {q : Nat × Value} (h : aRV l = some q) : l = [.ref q.1, q.2] :=
 inv_l h fun v r e h => inv_l h fun x r2 e2 h => inv_n h fun e3 h => inv_o h fun a e4 h => by rw [e, e2, e3, vRef_ok e4, ← Option.some.inj h]
theorem aRR_ok {l : List Value} {q : Nat × Nat} (h : aRR l = some q) : l = [.ref q.1, .ref q.2] :=
 inv_o h fun q' e h => inv_o h fun b e2 h => by rw [aRV_ok e, vRef_ok e2, ← Option.some.inj h]
def arOf (Γ : PySem.Ctx) : Around := { handled := Γ.handled, depth := frameCount Γ.below, frames := none, guards := none, units := unitsOf Γ.below }
theorem below_arOf (Γ : PySem.Ctx) : Γ.Below (arOf Γ) := ⟨rfl, Nat.le_refl _, fun _ h => (nomatch h), fun _ h => (nomatch h), Nat.le_refl _⟩
theorem hook_meets {V : XW} {Γ : PySem.Ctx} {id : String} {args : Args} {b : Builtin} {S : PySem.Spec} {R : Result → Shared → Prop} {p : Pos} {s : Shared} (hc : Γ.code = .builtin id args) (plain : plainId id = true)
  (entry : entryFor table id = some b) (g : MeetsIn V.prog V.w (b args) S) (h : S (arOf Γ) R s) : wpCode V.M Γ R p s :=
 codeAny_builtin (A := arOf Γ) entry (by rw [Around.under_plainId plain args]; exact g _ _ _ h) Γ p hc (below_arOf Γ)
abbrev H1 := List Nat → PySem.Ctx → Pos → MT → Nat → Nat → Nat → Nat → Nat → Ch → Option SH
def H1Ok (V : XW) (f : H1) : Prop := ∀ js Γ p T m B c τ i ch x, f js Γ p T m B c τ i ch = some x → x.pre → (∀ y ∈ x.ps, y.1 = y.2) → ∀ R h, Rp V T m (B + c) ch h → AtS V R x.r x.T x.m B x.c τ x.i ch → wpCode V.M Γ R p (V.sh h (τ + i))
def clm (j : Nat) : Bool := !Nat.beq j 0
def cB (c : Code) : Option (String × Args) := match c with
 | .builtin id a => some (id, a)
 | _ => none
theorem cB_ok {c : Code} {q : String × Args} (h : cB c = some q) : c = .builtin q.1 q.2 := by
 cases c <;> first | (cases Option.some.inj h; rfl) | cases h
def bi (n : Nat) (Γ : PySem.Ctx) (f : List Value → Option SH) : Option SH := bO (cB Γ.code) fun q => bN q.2.kw (bT (Nat.beq (PySem.W.S.codeS q.1) n) (f q.2.pos))
theorem bi_k {s : String} {n : Nat} (hs : PySem.W.S.codeS s = n) {Γ : PySem.Ctx} {f : List Value → Option SH} {x : SH} {P : Prop} (h : bi n Γ f = some x) (k : ∀ vs, Γ.code = .builtin s ⟨vs, []⟩ → f vs = some x → P) : P :=
 inv_o h fun q e h => inv_n h fun e2 h => inv_t h fun e3 h => k q.2.pos (by rw [cB_ok e, id_of hs e3, ← e2]) h
theorem bi_ok {s : String} {n : Nat} (hs : PySem.W.S.codeS s = n) {Γ : PySem.Ctx} {f : List Value → Option SH} {x : SH} (h : bi n Γ f = some x) : ∃ vs, Γ.code = .builtin s ⟨vs, []⟩ ∧ f vs = some x :=
 bi_k hs h fun vs a b => ⟨vs, a, b⟩
def hkS {δ : Type} (n : Nat) (rd : List Value → List Nat → MT → Option δ) (W : δ → MT → Nat → Nat → Nat → Nat → Nat → Option SH) : H1 := fun js Γ _ T m B c τ i _ => bi n Γ fun vs => bO (rd vs js T) fun d => W d T m B c τ i
theorem hkS_ok {V : XW} {δ : Type} {n : Nat} {s : String} {rd : List Value → List Nat → MT → Option δ} {W : δ → MT → Nat → Nat → Nat → Nat → Nat → Option SH} (hs : PySem.W.S.codeS s = n)
  (ok : ∀ vs js (Γ : PySem.Ctx) p T m B c τ i ch d x, rd vs js T = some d → Γ.code = .builtin s ⟨vs, []⟩ → W d T m B c τ i = some x → x.pre → (∀ y ∈ x.ps, y.1 = y.2) → ∀ R h, Rp V T m (B + c) ch h → AtS V R x.r x.T x.m B x.c τ x.i ch → wpCode V.M Γ R p (V.sh h (τ + i))) : H1Ok V (hkS n rd W) :=
 fun js Γ p T m B c τ i ch x e hp hps R h D K => bi_k hs e fun vs hc e => inv_o e fun d e1 e => ok vs js Γ p T m B c τ i ch d x e1 hc e hp hps R h D K
def clT (v : Value) : Option String := match v with
 | .type n => some n
 | _ => none
theorem clT_ok {v : Value} {n : String} (h : clT v = some n) : v = .type n := by
 cases v <;> first | exact congrArg Value.type (Option.some.inj h) | cases h
def datAt (cn : Nat) (T : MT) (j : Nat) : Option (Nat × Data) := bO (T.get (j / 2)) fun q => bO (clT q.2.cls) fun n => bT (Nat.beq (PySem.W.S.codeS n) cn) (bT (noO q.2.dict) (bN q.2.slots.toList (some (q.1, q.2.data))))
theorem datAt_ok {s : String} {cn : Nat} (hs : PySem.W.S.codeS s = cn) {T : MT} {j : Nat} {q : Nat × Data} (h : datAt cn T j = some q) : T.get (j / 2) = some (q.1, { cls := .type s, dict := none, data := q.2, slots := #[] }) :=
 inv_o h fun y e h => inv_o h fun n e1 h => inv_t h fun e2 h => inv_t h fun e3 h => inv_n h fun e4 h => by
  obtain ⟨a, cl, d, da, sl⟩ := y
  obtain rfl : sl = #[] := Array.ext' e4
  obtain rfl : cl = _ := clT_ok e1
  obtain rfl : d = _ := noO_ok e3
  rw [e, ← Option.some.inj h, id_of hs e2]
def dSeq (d : Data) : Option (Array Value × Nat) := match d with
 | .seq xs ep => some (xs, ep)
 | _ => none
theorem dSeq_ok {d : Data} {q : Array Value × Nat} (h : dSeq d = some q) : d = .seq q.1 q.2 := by
 cases d <;> first | (cases Option.some.inj h; rfl) | cases h
def seqAt (cn : Nat) (T : MT) (j : Nat) : Option (Nat × Array Value × Nat) := bO (datAt cn T j) fun q => bO (dSeq q.2) fun x => some (q.1, x)
theorem seqAt_ok {s : String} {cn : Nat} (hs : PySem.W.S.codeS s = cn) {T : MT} {j a : Nat} {xs : Array Value} {ep : Nat} (h : seqAt cn T j = some (a, xs, ep)) :
  T.get (j / 2) = some (a, { cls := .type s, dict := none, data := .seq xs ep, slots := #[] }) :=
 inv_o h fun q e h => inv_o h fun x e2 h => by
  cases h
  rw [datAt_ok hs e, dSeq_ok e2]
def nList : Nat := 1970563693
def nTuple : Nat := 439922816629
theorem nList_is : PySem.W.S.codeS "list" = nList := by kernel_rfl
theorem nTuple_is : PySem.W.S.codeS "tuple" = nTuple := by kernel_rfl
def eqv (y x : Value) : Option Bool := match y with
 | .int a _ => match x with
  | .int b _ => some (Z.eqB a b)
  | .none => some false
  | _ => none
 | .str a _ => match x with
  | .str b _ => some (Fast.sEq a b)
  | .none => some false
  | _ => none
 | .none => match x with
  | .none => some true
  | .int _ _ => some false
  | .str _ _ => some false
  | _ => none
 | .bool a => match x with
  | .bool b => some (Bool.rec (Bool.rec true false b) b a)
  | _ => none
 | _ => none
def isT (o : Option Bool) : Bool := match o with
 | some true => true
 | _ => false
theorem eqB_beq (a b : Int) : Z.eqB a b = (a == b) := by
 rw [Bool.eq_iff_iff, Z.eqB_iff, beq_iff_eq]
theorem eqv_at {y x : Value} {b : Bool} (h : eqv y x = some b) (A : Around) (s : Shared) : EqAt A s y x b := by
 cases y with
 | int a u => cases x with
  | int c v => rw [← Option.some.inj h, eqB_beq]; exact EqAt.int_int _ _ _ _
  | none => rw [← Option.some.inj h]; exact EqAt.int_none _ _
  | _ => cases h
 | str a u => cases x with
  | str c v =>
   have e : Fast.sEq a c = (a == c) := by rw [Bool.eq_iff_iff, Fast.sEq_iff, beq_iff_eq]
   rw [← Option.some.inj h, e]; exact EqAt.str_str _ _ _ _
  | none => rw [← Option.some.inj h]; exact EqAt.str_none _ _
  | _ => cases h
 | none => cases x with
  | none => rw [← Option.some.inj h]; exact EqAt.same _
  | int c v => rw [← Option.some.inj h]; exact EqAt.none_int _ _
  | str c v => rw [← Option.some.inj h]; exact EqAt.none_str _ _
  | _ => cases h
 | bool a => cases x with
  | bool c =>
   have e : (Bool.rec (Bool.rec true false c) c a : Bool) = (a == c) := by cases a <;> cases c <;> rfl
   rw [← Option.some.inj h, e]; exact EqAt.bool_bool _ _
  | _ => cases h
 | _ => cases h
theorem eqv_gives {y x : Value} {b : Bool} (h : eqv y x = some b) : EqGives y x b := fun prog w A E s Q hq => eqv_at h A s prog w E Q hq
def nIn : Nat := 32795317678217157189674408721764467370605
theorem nIn_is : PySem.W.S.codeS "list.__contains__" = nIn := by kernel_rfl
def nRem : Nat := 123874469202662358538021485
theorem nRem_is : PySem.W.S.codeS "list.remove" = nRem := by kernel_rfl
def nIdx : Nat := 573295221500217757297261
theorem nIdx_is : PySem.W.S.codeS "list.index" = nIdx := by kernel_rfl
def nApp : Nat := 122627580202994350266018413
theorem nApp_is : PySem.W.S.codeS "list.append" = nApp := by kernel_rfl
def nAdd : Nat := 29827096650756823847613524589
theorem nAdd_is : PySem.W.S.codeS "list.__add__" = nAdd := by kernel_rfl
def nLen : Nat := 29827143893661030152192420461
theorem nLen_is : PySem.W.S.codeS "list.__len__" = nLen := by kernel_rfl
def nEq : Nat := 116512336171186236184357485
theorem nEq_is : PySem.W.S.codeS "list.__eq__" = nEq := by kernel_rfl
def nNe : Nat := 116512115458775698011089517
theorem nNe_is : PySem.W.S.codeS "list.__ne__" = nNe := by kernel_rfl
def nTEq : Nat := 29827158059823676398654027381
theorem nTEq_is : PySem.W.S.codeS "tuple.__eq__" = nTEq := by kernel_rfl
def nTNe : Nat := 29827101557446578626297427573
theorem nTNe_is : PySem.W.S.codeS "tuple.__ne__" = nTNe := by kernel_rfl
def nIEq : Nat := 455126313168696235093866
theorem nIEq_is : PySem.W.S.codeS "int.__eq__" = nIEq := by kernel_rfl
def nINe : Nat := 455125451010842570354538
theorem nINe_is : PySem.W.S.codeS "int.__ne__" = nINe := by kernel_rfl
def nILt : Nat := 455126531311803185852266
theorem nILt_is : PySem.W.S.codeS "int.__lt__" = nILt := by kernel_rfl
def nILe : Nat := 455125450447892616933226
theorem nILe_is : PySem.W.S.codeS "int.__le__" = nILe := by kernel_rfl
def nIGt : Nat := 455126529904428302298986
theorem nIGt_is : PySem.W.S.codeS "int.__gt__" = nIGt := by kernel_rfl
def nIGe : Nat := 455125449040517733379946
theorem nIGe_is : PySem.W.S.codeS "int.__ge__" = nIGe := by kernel_rfl
def chkIn (xs : Array Value) (x : Value) (b : Bool) : Bool := (xs.toList.all fun y => (eqv y x).isSome) && ((xs.toList.any fun y => isT (eqv y x)) == b)
structure DL where
 a : Nat
 x : Value
 j : Nat
 js : List Nat
 l : Nat × Array Value × Nat
def rdL (vs : List Value) (js : List Nat) (T : MT) : Option DL := bO (aRV vs) fun q => bL js fun j js => bO (seqAt nList T j) fun l => some ⟨q.1, q.2, j, js, l⟩
theorem rdL_ok {vs : List Value} {js : List Nat} {T : MT} {d : DL} (h : rdL vs js T = some d) : vs = [.ref d.a, d.x] ∧ T.get (d.j / 2) = some (d.l.1, { cls := .type "list", dict := none, data := .seq d.l.2.1 d.l.2.2, slots := #[] }) :=
 inv_o h fun q e h => inv_l h fun j js _ h => inv_o h fun l e2 h => by
  rw [← Option.some.inj h]
  exact ⟨aRV_ok e, seqAt_ok nList_is e2⟩
def hIn : H1 := hkS nIn rdL fun d T m _ c _ i => bL d.js fun jb js => some ⟨[(d.a, d.l.1)], js, chkIn d.l.2.1 d.x (clm jb) = true, .ok (.ret (.bool (clm jb))), T, m, c, i⟩
theorem all_some {xs : Array Value} {x : Value} (h : (xs.toList.all fun y => (eqv y x).isSome) = true) : ∀ y ∈ xs, EqGives y x (isT (eqv y x)) := fun y hy => by
 have := List.all_eq_true.mp h y (by simpa using hy)
 cases e : eqv y x with
 | none => rw [e] at this; cases this
 | some b => cases b <;> exact eqv_gives e
theorem hIn_ok (V : XW) : H1Ok V hIn := hkS_ok nIn_is fun vs js Γ p T m B c τ i ch d x e hc hf => inv_l hf fun jb js' _ hf => by
 rw [← Option.some.inj hf]
 intro hpre hps R h D K
 obtain ⟨ev, e⟩ := rdL_ok e
 rw [ev] at hc
 have g := (D.own _ _ _ e).2.2.2
 rw [← show d.a = d.l.1 from hps (d.a, d.l.1) (.head _)] at g
 have hp := (Bool.and_eq_true _ _).mp hpre
 refine hook_meets hc F.slot_list_contains.plain F.entry_list_contains ((list_contains d.a d.l.2.1 d.l.2.2 d.x (fun y => isT (eqv y d.x)) (all_some hp.1)).inModel _ _) ⟨g, ?_⟩
 rw [← Array.any_toList, eq_of_beq hp.2]
 exact K h D
def chkLe (n : Nat) : Bool := Nat.ble n 16000000
theorem line_ge {n : Nat} (h : chkLe n = true) : n ≤ sizeLine := Nat.le_trans (Nat.le_of_ble_eq_true h) (by unfold sizeLine; decide)
def pushO (x : Value) (o : Obj) : Obj := o.mapSeq fun xs => xs.push x
def hApp : H1 := hkS nApp rdL fun d T m _ c _ i => some ⟨[(d.a, d.l.1)], d.js, chkLe d.l.2.1.size = true, .ok (.ret .none), T.upd (d.j / 2) (pushO d.x), m, c, i⟩
theorem hApp_ok (V : XW) (O : V.Ok) : H1Ok V hApp := hkS_ok nApp_is fun vs js Γ p T m B c τ i ch d x e hc hf => by
 rw [← Option.some.inj hf]
 intro hpre hps R h D K
 obtain ⟨ev, e⟩ := rdL_ok e
 rw [ev] at hc
 rw [← show d.a = d.l.1 from hps (d.a, d.l.1) (.head _)] at e
 exact hook_meets hc F.slot_list_append.plain F.entry_list_append ((AutoListH.list_append_list_val_0 d.a d.l.2.1 d.l.2.2 d.x (hsz := line_ge hpre)).inModel _ _) ⟨(D.own _ _ _ e).2.2.2, K _ (D.upd O e rfl)⟩
def listO (xs : Array Value) : Obj := { cls := .type "list", data := .seq xs }
structure DLL where
 a : Nat
 b : Nat
 j : Nat
 j2 : Nat
 js : List Nat
 l : Nat × Array Value × Nat
 k : Nat × Array Value × Nat
def rdLL (cn : Nat) (vs : List Value) (js : List Nat) (T : MT) : Option DLL := bO (aRR vs) fun q => bL js fun j js => bL js fun j2 js => bO (seqAt cn T j) fun l => bO (seqAt cn T j2) fun k => some ⟨q.1, q.2, j, j2, js, l, k⟩
theorem rdLL_ok {s : String} {cn : Nat} (hs : PySem.W.S.codeS s = cn) {vs : List Value} {js : List Nat} {T : MT} {d : DLL} (h : rdLL cn vs js T = some d) : vs = [.ref d.a, .ref d.b] ∧ T.get (d.j / 2) = some (d.l.1, { cls := .type s, dict := none, data := .seq d.l.2.1 d.l.2.2, slots := #[] }) ∧
  T.get (d.j2 / 2) = some (d.k.1, { cls := .type s, dict := none, data := .seq d.k.2.1 d.k.2.2, slots := #[] }) :=
 inv_o h fun q e h => inv_l h fun j js _ h => inv_l h fun j2 js _ h => inv_o h fun l e2 h => inv_o h fun k e3 h => by
  rw [← Option.some.inj h]
  exact ⟨aRR_ok e, seqAt_ok hs e2, seqAt_ok hs e3⟩
def hasO (o : Option (Nat × Obj)) : Bool := !noO o
theorem hasO_ok {o : Option (Nat × Obj)} (h : hasO o = true) : ∃ y, o = some y := by
 cases o with
 | none => cases h
 | some y => exact ⟨y, rfl⟩
def hAdd : H1 := hkS nAdd (rdLL nList) fun d T m B c _ i => bT (hasO ((T.ins m (B + c) (listO (d.l.2.1 ++ d.k.2.1))).get m)) (some ⟨[(d.b, d.k.1), (d.a, d.l.1)], d.js, chkLe (d.l.2.1.size + d.k.2.1.size) = true, .ok (.ret (.ref (B + c))), T.ins m (B + c) (listO (d.l.2.1 ++ d.k.2.1)), m + 1, c + 1, i⟩)
theorem hAdd_ok (V : XW) : H1Ok V hAdd := hkS_ok nAdd_is fun vs js Γ p T m B c τ i ch d x e hc hf => inv_t hf fun hy hf => by
 rw [← Option.some.inj hf]
 intro hpre hps R h D K
 obtain ⟨ev, e, e2⟩ := rdLL_ok nList_is e
 obtain ⟨y, hy⟩ := hasO_ok hy
 rw [ev] at hc
 rw [← show d.a = d.l.1 from hps (d.a, d.l.1) (.tail _ (.head _))] at e
 rw [← show d.b = d.k.1 from hps (d.b, d.k.1) (.head _)] at e2
 have k := K _ (D.alloc (o := listO (d.l.2.1 ++ d.k.2.1)) rfl hy)
 rw [← show h.objs.size = B + c from D.size] at k
 exact hook_meets hc F.slot_list_add.plain F.entry_list_add ((AutoSeq1.list___add___list_list_0 d.a d.l.2.1 d.l.2.2 d.b d.k.2.1 d.k.2.2 (line_ge hpre)).inModel _ _) ⟨(D.own _ _ _ e).2.2.2, (D.own _ _ _ e2).2.2.2, k⟩
def rdII (vs : List Value) (js : List Nat) (_ : MT) : Option (((Int × Nat) × Int × Nat) × List Nat) := bO (aII vs) fun q => some (q, js)
theorem rdII_ok {vs : List Value} {js : List Nat} {T : MT} {d : ((Int × Nat) × Int × Nat) × List Nat} (h : rdII vs js T = some d) : vs = [.int d.1.1.1 d.1.1.2, .int d.1.2.1 d.1.2.2] :=
 inv_o h fun q e h => by rw [← Option.some.inj h, aII_ok e]
def hCmp (n : Nat) (f : Int → Int → Bool) : H1 := hkS n rdII fun d T m _ c _ i => bL d.2 fun j js => some ⟨[], js, f d.1.1.1 d.1.2.1 = clm j, .ok (.ret (.bool (clm j))), T, m, c, i⟩
theorem hCmp_ok (V : XW) {n : Nat} {s : String} {f : Int → Int → Bool} {b : Builtin} (hs : PySem.W.S.codeS s = n) (plain : plainId s = true) (entry : entryFor table s = some b)
  (g : ∀ x y t u, Gives (b ⟨[.int x t, .int y u], []⟩) (.val (.bool (f x y)))) : H1Ok V (hCmp n f) := hkS_ok hs fun vs js Γ p T m B c τ i ch d x e hc hf => inv_l hf fun j js' _ hf => by
 rw [← Option.some.inj hf]
 intro hpre _ R h D K
 rw [rdII_ok e] at hc
 refine hook_meets hc plain entry ((g _ _ _ _).meets.inModel _ _) ?_
 show R (.ok (.ret (.bool (f _ _)))) _
 rw [show f _ _ = clm j from hpre]
 exact K h D
end
section
open PySem.MeetsSeq PySem.SeqAt
def nLenF : Nat := 7300717
theorem nLenF_is : PySem.W.S.codeS "len" = nLenF := by kernel_rfl
theorem plain_len : plainId "len" = true := by decide +kernel
theorem entry_len : entryFor table "len" = some Builtin.«len» := entryFor_of_tree (by kernel_rfl)
def rdR (vs : List Value) (js : List Nat) (T : MT) : Option (Nat × Nat × List Nat × Nat × Array Value × Nat) := bO (aR vs) fun a => bL js fun j js => bO (seqAt nList T j) fun l => some (a, j, js, l)
theorem rdR_ok {vs : List Value} {js : List Nat} {T : MT} {d : Nat × Nat × List Nat × Nat × Array Value × Nat} (h : rdR vs js T = some d) : vs = [.ref d.1] ∧ T.get (d.2.1 / 2) = some (d.2.2.2.1, { cls := .type "list", dict := none, data := .seq d.2.2.2.2.1 d.2.2.2.2.2, slots := #[] }) :=
 inv_o h fun q e h => inv_l h fun j js _ h => inv_o h fun l e2 h => by
  rw [← Option.some.inj h]
  exact ⟨aR_ok e, seqAt_ok nList_is e2⟩
theorem fit_ge {n : Nat} (h : n ≤ sizeLine) : (n : Int) < 2 ^ 63 := Int.lt_of_le_of_lt (Int.ofNat_le.mpr h) (by unfold sizeLine; decide)
def hLen : H1 := hkS nLenF rdR fun d T m _ c τ i => some ⟨[(d.1, d.2.2.2.1)], d.2.2.1, chkLe d.2.2.2.2.1.size = true, .ok (.ret (.int (d.2.2.2.2.1.size : Int) (τ + (i + 1)))), T, m, c, i + 2⟩
theorem hLen_ok (V : XW) : H1Ok V hLen := hkS_ok nLenF_is fun vs js Γ p T m B c τ i ch d x e hc hf => by
 rw [← Option.some.inj hf]
 intro hpre hps R h D K
 obtain ⟨ev, e⟩ := rdR_ok e
 rw [ev] at hc
 have g := (D.own _ _ _ e).2.2.2
 rw [← show d.1 = d.2.2.2.1 from hps (d.1, d.2.2.2.1) (.head _)] at g
 have hl : Heap.IsList h d.1 d.2.2.2.2.1 := ⟨_, g, rfl, _, rfl⟩
 refine hook_meets (S := fun _ R s => s = V.sh h (τ + i) ∧ R (.ok (.ret (.int (d.2.2.2.2.1.size : Int) (τ + i + 1)))) { s with toks := s.toks + 1 + 1 }) hc plain_len entry_len (.of_wp fun A R s hs => ?_) ⟨rfl, K h D⟩
 obtain ⟨rfl, hR⟩ := hs
 exact wpAny_len_body_list (Q := fun v s' => R (.ok (.ret v)) s') hl (fit_ge (line_ge hpre)) hR
def idxV (x : Value) (l : List Value) : Nat := List.rec (motive := fun _ => Nat) 0 (fun y _ ih => Bool.rec (ih + 1) 0 (isT (eqv y x))) l
theorem idxV_cons (x y : Value) (l : List Value) : idxV x (y :: l) = if isT (eqv y x) then 0 else idxV x l + 1 := by
 show (Bool.rec (idxV x l + 1) 0 (isT (eqv y x)) : Nat) = _
 cases isT (eqv y x) <;> rfl
theorem idxV_ok (x : Value) : ∀ (l : List Value), (l.any fun y => isT (eqv y x)) = true → ∃ h : idxV x l < l.length, isT (eqv l[idxV x l] x) = true ∧ ∀ m (hm : m < l.length), m < idxV x l → isT (eqv l[m] x) = false
 | [], h => by cases h
 | y :: l, h => by
  rw [idxV_cons]
  cases e : isT (eqv y x) with
  | true => exact ⟨Nat.zero_lt_succ _, e, fun m hm h0 => absurd h0 (Nat.not_lt_zero _)⟩
  | false =>
   rw [List.any_cons, e, Bool.false_or] at h
   obtain ⟨h1, h2, h3⟩ := idxV_ok x l h
   refine ⟨Nat.succ_lt_succ h1, h2, fun m hm hlt => ?_⟩
   cases m with
   | zero => exact e
   | succ m => exact h3 m (Nat.lt_of_succ_lt_succ hm) (Nat.lt_of_succ_lt_succ hlt)
def eraseO (k : Nat) (o : Obj) : Obj := o.mapSeq fun xs => xs.eraseIdxIfInBounds k
def chkThere (xs : Array Value) (x : Value) : Bool := chkIn xs x true && chkLe xs.size
def hRem : H1 := hkS nRem rdL fun d T m _ c _ i => some ⟨[(d.a, d.l.1)], d.js, chkThere d.l.2.1 d.x = true, .ok (.ret .none), T.upd (d.j / 2) (eraseO (idxV d.x d.l.2.1.toList)), m, c, i⟩
theorem there_ok {xs : Array Value} {x : Value} (h : chkThere xs x = true) : (∀ y ∈ xs, EqGives y x (isT (eqv y x))) ∧ xs.size ≤ sizeLine ∧
  ∃ hj : idxV x xs.toList < xs.size, isT (eqv xs[idxV x xs.toList] x) = true ∧ ∀ m (hm : m < xs.size), m < idxV x xs.toList → isT (eqv xs[m] x) = false := by
 unfold chkThere chkIn at h
 simp only [Bool.and_eq_true] at h
 obtain ⟨⟨h1, h2⟩, h3⟩ := h
 refine ⟨all_some h1, line_ge h3, ?_⟩
 have := idxV_ok x xs.toList (eq_of_beq h2)
 simpa using this
theorem hRem_ok (V : XW) (O : V.Ok) : H1Ok V hRem := hkS_ok nRem_is fun vs js Γ p T m B c τ i ch d x e hc hf => by
 rw [← Option.some.inj hf]
 intro hpre hps R h D K
 obtain ⟨ev, e⟩ := rdL_ok e
 rw [ev] at hc
 rw [← show d.a = d.l.1 from hps (d.a, d.l.1) (.head _)] at e
 have k := K _ (D.upd O e rfl)
 obtain ⟨h1, h2, hj, h3, h4⟩ := there_ok hpre
 exact hook_meets hc F.slot_list_remove.plain F.entry_list_remove ((list_remove d.a d.l.2.1 d.l.2.2 d.x (fun y => isT (eqv y d.x)) h1 _ hj h3 h4 (hs1 := h2)).inModel _ _) ⟨(D.own _ _ _ e).2.2.2, k⟩
def hIdx : H1 := hkS nIdx rdL fun d T m _ c τ i => some ⟨[(d.a, d.l.1)], d.js, chkThere d.l.2.1 d.x = true, .ok (.ret (.int (idxV d.x d.l.2.1.toList : Int) (τ + i))), T, m, c, i + 1⟩
theorem fit_lt {k n : Nat} (hk : k < n) (h : n ≤ sizeLine) : (k : Int) < 2 ^ 63 - 1 := Int.lt_of_lt_of_le (Int.ofNat_lt.mpr hk) (Int.le_trans (Int.ofNat_le.mpr h) (by unfold sizeLine; decide))
theorem hIdx_ok (V : XW) : H1Ok V hIdx := hkS_ok nIdx_is fun vs js Γ p T m B c τ i ch d x e hc hf => by
 rw [← Option.some.inj hf]
 intro hpre hps R h D K
 obtain ⟨ev, e⟩ := rdL_ok e
 rw [ev] at hc
 rw [← show d.a = d.l.1 from hps (d.a, d.l.1) (.head _)] at e
 have k := K _ D
 obtain ⟨h1, h2, hj, h3, h4⟩ := there_ok hpre
 exact hook_meets hc F.slot_list_index.plain F.entry_list_index ((list_index d.a d.l.2.1 d.l.2.2 d.x (fun y => isT (eqv y d.x)) h1 _ hj (fit_lt hj h2) h3 h4).inModel _ _) ⟨(D.own _ _ _ e).2.2.2, k⟩
def zipEq (l l' : List Value) : Option Bool := List.rec (motive := fun _ => List Value → Option Bool) (fun l' => match l' with | [] => some true | _ => some false)
 (fun y _ ih l' => match l' with
  | [] => some false
  | x :: r => match eqv y x, ih r with
   | some b, some d => some (Bool.rec false d b)
   | _, _ => none) l l'
def chkEq (xs ys : Array Value) (b : Bool) : Bool := match zipEq xs.toList ys.toList with
 | some d => d == b
 | none => false
theorem zipEq_ok (A : Around) (s : Shared) : ∀ (l l' : List Value) (b : Bool), zipEq l l' = some b →
  (l.length = l'.length → ∃ e : Nat → Bool, (∀ j (h1 : j < l.length) (h2 : j < l'.length), EqAt A s l[j] l'[j] (e j)) ∧ (List.range l.length).all e = b) ∧ (l.length ≠ l'.length → b = false)
 | [], [], b, h => by
  cases h
  exact ⟨fun _ => ⟨fun _ => true, fun j h1 => absurd h1 (Nat.not_lt_zero _), rfl⟩, fun h => absurd rfl h⟩
 | [], _ :: _, b, h => by cases h; exact ⟨fun h => (nomatch h), fun _ => rfl⟩
 | _ :: _, [], b, h => by cases h; exact ⟨fun h => (nomatch h), fun _ => rfl⟩
 | y :: l, x :: l', b, h => by
  have h' : (match eqv y x, zipEq l l' with | some b, some d => some (Bool.rec false d b : Bool) | _, _ => none) = some b := h
  split at h'
  ·rename_i b0 d e1 e2
   have hb : (Bool.rec false d b0 : Bool) = b := Option.some.inj h'
   obtain ⟨i1, i2⟩ := zipEq_ok A s l l' d e2
   refine ⟨fun hl => ?_, fun hl => ?_⟩
   ·obtain ⟨e, e3, e4⟩ := i1 (Nat.succ.inj hl)
    refine ⟨fun j => match j with | 0 => b0 | j + 1 => e j, fun j h1 h2 => ?_, ?_⟩
    ·cases j with
     | zero => exact eqv_at e1 A s
     | succ j => exact e3 j (Nat.lt_of_succ_lt_succ h1) (Nat.lt_of_succ_lt_succ h2)
    ·rw [List.length_cons, List.range_succ_eq_map, List.all_cons, List.all_map]
     have : (List.range l.length).all ((fun j => match j with | 0 => b0 | j + 1 => e j) ∘ Nat.succ) = d := e4
     rw [this, ← hb]
     cases b0 <;> rfl
   ·have := i2 fun q => hl (congrArg Nat.succ q)
    subst this
    rw [← hb]
    cases b0 <;> rfl
  ·cases h'
theorem chkEq_ok {xs ys : Array Value} {b : Bool} (h : chkEq xs ys b = true) : zipEq xs.toList ys.toList = some b := by
 unfold chkEq at h
 cases e : zipEq xs.toList ys.toList with
 | none => rw [e] at h; cases h
 | some d => rw [e] at h; exact congrArg some (eq_of_beq h)
theorem chkEq_at {A : Around} {s : Shared} {xs ys : Array Value} {b : Bool} (h : chkEq xs ys b = true) (hz : xs.size = ys.size) :
  ∃ e : Nat → Bool, (∀ j (h1 : j < xs.size) (h2 : j < ys.size), EqAt A s xs[j] ys[j] (e j)) ∧ (List.range xs.size).all e = b :=
 (zipEq_ok A s _ _ _ (chkEq_ok h)).1 hz
theorem chkEq_ne {xs ys : Array Value} {b : Bool} (h : chkEq xs ys b = true) (A : Around) (s : Shared) (hz : xs.size ≠ ys.size) : b = false := (zipEq_ok A s _ _ _ (chkEq_ok h)).2 hz
def hSeqEq (n cn : Nat) (neg : Bool) : H1 := hkS n (rdLL cn) fun d T m _ c _ i => bL d.js fun jb js => some ⟨[(d.b, d.k.1), (d.a, d.l.1)], js, chkEq d.l.2.1 d.k.2.1 (clm jb) = true, .ok (.ret (.bool (Bool.rec (clm jb) (!(clm jb)) neg))), T, m, c, i⟩
theorem hEq_ok (V : XW) : H1Ok V (hSeqEq nEq nList false) := hkS_ok nEq_is fun vs js Γ p T m B c τ i ch d x e hc hf => inv_l hf fun jb js' _ hf => by
 rw [← Option.some.inj hf]
 intro hpre hps R h D K
 obtain ⟨ev, e, e2⟩ := rdLL_ok nList_is e
 rw [ev] at hc
 rw [← show d.a = d.l.1 from hps (d.a, d.l.1) (.tail _ (.head _))] at e
 rw [← show d.b = d.k.1 from hps (d.b, d.k.1) (.head _)] at e2
 have g := (D.own _ _ _ e).2.2.2
 have g2 := (D.own _ _ _ e2).2.2.2
 have k := K h D
 by_cases hz : d.l.2.1.size = d.k.2.1.size
 ·obtain ⟨ef, e3, e4⟩ := chkEq_at (A := (arOf Γ).in1) (s := V.sh h (τ + i)) hpre hz
  rw [← e4] at k
  exact hook_meets hc F.slot_list_eq.plain F.entry_list_eq ((list_eqAt d.a d.b d.l.2.1 d.k.2.1 d.l.2.2 d.k.2.2 none none #[] #[] hz ef).inModel _ _) ⟨g, g2, e3, k⟩
 ·rw [chkEq_ne hpre (arOf Γ).in1 (V.sh h (τ + i)) hz] at k
  exact hook_meets hc F.slot_list_eq.plain F.entry_list_eq ((list_eq_lengthsAt d.a d.b d.l.2.1 d.k.2.1 d.l.2.2 d.k.2.2 none none #[] #[] (bne_iff_ne.mpr hz)).inModel _ _) ⟨g, g2, k⟩
theorem hNe_ok (V : XW) : H1Ok V (hSeqEq nNe nList true) := hkS_ok nNe_is fun vs js Γ p T m B c τ i ch d x e hc hf => inv_l hf fun jb js' _ hf => by
 rw [← Option.some.inj hf]
 intro hpre hps R h D K
 obtain ⟨ev, e, e2⟩ := rdLL_ok nList_is e
 rw [ev] at hc
 rw [← show d.a = d.l.1 from hps (d.a, d.l.1) (.tail _ (.head _))] at e
 rw [← show d.b = d.k.1 from hps (d.b, d.k.1) (.head _)] at e2
 have g := (D.own _ _ _ e).2.2.2
 have g2 := (D.own _ _ _ e2).2.2.2
 have k := K h D
 by_cases hz : d.l.2.1.size = d.k.2.1.size
 ·obtain ⟨ef, e3, e4⟩ := chkEq_at (A := (arOf Γ).in1) (s := V.sh h (τ + i)) hpre hz
  rw [← e4] at k
  exact hook_meets hc F.slot_list_ne.plain F.entry_list_ne ((list_neAt d.a d.b d.l.2.1 d.k.2.1 d.l.2.2 d.k.2.2 none none #[] #[] hz ef).inModel _ _) ⟨g, g2, e3, k⟩
 ·rw [chkEq_ne hpre (arOf Γ).in1 (V.sh h (τ + i)) hz] at k
  exact hook_meets hc F.slot_list_ne.plain F.entry_list_ne ((list_ne_lengthsAt d.a d.b d.l.2.1 d.k.2.1 d.l.2.2 d.k.2.2 none none #[] #[] (bne_iff_ne.mpr hz)).inModel _ _) ⟨g, g2, k⟩
end
section
open PySem.MeetsSeq PySem.SeqAt
theorem range_all_min {n m : Nat} (h : n = m) (e : Nat → Bool) : (List.range (min n m)).all e = (List.range n).all e := by subst h; rw [Nat.min_self]
theorem tup_all {n m : Nat} (h : n = m) (e : Nat → Bool) : ((List.range (min n m)).all e && n == m) = (List.range n).all e := by
 rw [range_all_min h, h, beq_self_eq_true, Bool.and_true]
def hTup (n : Nat) (neg : Bool) : H1 := hkS n (rdLL nTuple) fun d T m _ c _ i => bL d.js fun jb js => some ⟨[(d.b, d.k.1), (d.a, d.l.1)], js, (Nat.beq d.l.2.1.size d.k.2.1.size && chkEq d.l.2.1 d.k.2.1 (clm jb)) = true, .ok (.ret (.bool (Bool.rec (clm jb) (!(clm jb)) neg))), T, m, c, i⟩
theorem hTEq_ok (V : XW) : H1Ok V (hTup nTEq false) := hkS_ok nTEq_is fun vs js Γ p T m B c τ i ch d x e hc hf => inv_l hf fun jb js' _ hf => by
 rw [← Option.some.inj hf]
 intro hpre hps R h D K
 obtain ⟨ev, e, e2⟩ := rdLL_ok nTuple_is e
 rw [ev] at hc
 rw [← show d.a = d.l.1 from hps (d.a, d.l.1) (.tail _ (.head _))] at e
 rw [← show d.b = d.k.1 from hps (d.b, d.k.1) (.head _)] at e2
 have k := K h D
 have hp := (Bool.and_eq_true _ _).mp hpre
 have hz := Nat.eq_of_beq_eq_true hp.1
 obtain ⟨ef, e3, e4⟩ := chkEq_at (A := (arOf Γ).in1) (s := V.sh h (τ + i)) hp.2 hz
 rw [← e4, ← tup_all hz ef] at k
 exact hook_meets hc F.slot_tuple_eq.plain F.entry_tuple_eq ((tuple_eqAt d.a d.b d.l.2.1 d.k.2.1 d.l.2.2 d.k.2.2 none none #[] #[] ef).inModel _ _) ⟨(D.own _ _ _ e).2.2.2, (D.own _ _ _ e2).2.2.2, e3, k⟩
theorem hTNe_ok (V : XW) : H1Ok V (hTup nTNe true) := hkS_ok nTNe_is fun vs js Γ p T m B c τ i ch d x e hc hf => inv_l hf fun jb js' _ hf => by
 rw [← Option.some.inj hf]
 intro hpre hps R h D K
 obtain ⟨ev, e, e2⟩ := rdLL_ok nTuple_is e
 rw [ev] at hc
 rw [← show d.a = d.l.1 from hps (d.a, d.l.1) (.tail _ (.head _))] at e
 rw [← show d.b = d.k.1 from hps (d.b, d.k.1) (.head _)] at e2
 have k := K h D
 have hp := (Bool.and_eq_true _ _).mp hpre
 have hz := Nat.eq_of_beq_eq_true hp.1
 obtain ⟨ef, e3, e4⟩ := chkEq_at (A := (arOf Γ).in1) (s := V.sh h (τ + i)) hp.2 hz
 rw [← e4, ← tup_all hz ef] at k
 exact hook_meets hc F.slot_tuple_ne.plain F.entry_tuple_ne ((tuple_neAt d.a d.b d.l.2.1 d.k.2.1 d.l.2.2 d.k.2.2 none none #[] #[] ef).inModel _ _) ⟨(D.own _ _ _ e).2.2.2, (D.own _ _ _ e2).2.2.2, e3, k⟩
def nDict : Nat := 1969515109
theorem nDict_is : PySem.W.S.codeS "dict" = nDict := by kernel_rfl
def dDict (d : Data) : Option (Array DictEntry × Nat) := match d with
 | .dict es ep => some (es, ep)
 | _ => none
theorem dDict_ok {d : Data} {q : Array DictEntry × Nat} (h : dDict d = some q) : d = .dict q.1 q.2 := by
 cases d <;> first | (cases Option.some.inj h; rfl) | cases h
def dictAt (T : MT) (j : Nat) : Option (Nat × Array DictEntry × Nat) := bO (datAt nDict T j) fun q => bO (dDict q.2) fun x => some (q.1, x)
def dictO (es : Array DictEntry) (ep : Nat) : Obj := { cls := .type "dict", dict := none, data := .dict es ep, slots := #[] }
theorem dictAt_ok {T : MT} {j a : Nat} {es : Array DictEntry} {ep : Nat} (h : dictAt T j = some (a, es, ep)) : T.get (j / 2) = some (a, dictO es ep) :=
 inv_o h fun q e h => inv_o h fun x e2 h => by
  cases h
  rw [datAt_ok nDict_is e, dDict_ok e2]; rfl
def isK (k : Int) (v : Value) : Bool := match v with
 | .int i _ => Z.eqB i k
 | _ => false
theorem isK_is (k : Int) : isK k = Value.isInt k := by
 funext v
 cases v <;> first | rfl | exact eqB_beq _ _
def idxK (k : Int) (l : List DictEntry) : Option Nat := List.rec (motive := fun _ => Option Nat) none (fun e _ ih => Bool.rec (match ih with | some n => some (n + 1) | none => none) (some 0) (isK k e.key)) l
theorem idxK_is (k : Int) : ∀ l : List DictEntry, (l.findIdx? fun e => Value.isInt k e.key) = idxK k l
 | [] => rfl
 | e :: l => by
  have : idxK k (e :: l) = (Bool.rec (match idxK k l with | some n => some (n + 1) | none => none) (some 0) (isK k e.key) : Option Nat) := rfl
  rw [this, List.findIdx?_cons, idxK_is k l, isK_is]
  cases Value.isInt k e.key with
  | true => rfl
  | false => cases idxK k l <;> rfl
theorem idxK_arr (k : Int) (es : Array DictEntry) : (es.findIdx? fun e => Value.isInt k e.key) = idxK k es.toList := by
 rw [← idxK_is]; obtain ⟨l⟩ := es; simp
def keyI (e : DictEntry) : Bool := match e.key with
 | .int i _ => Z.eqB e.hash (hashInt i)
 | _ => false
def chkD (es : Array DictEntry) (k : Int) (b : Bool) : Bool := es.toList.all keyI && ((idxK k es.toList).isSome == b) && chkLe es.size
theorem keys_of {prog : Program} {w : World} {es : Array DictEntry} (h : es.toList.all keyI = true) : KeysOf (intKind prog w) es := fun e he => by
 have := List.all_eq_true.mp h e (by simpa using he)
 unfold keyI at this
 split at this
 ·rename_i i t e1
  refine ⟨i, ?_, (Z.eqB_iff _ _).mp this⟩
  show Value.isInt i e.key = true
  rw [e1]; simp [Value.isInt]
 ·cases this
section
variable {prog : Program} {w : World} {A : Around} {E : Value → Shared → Prop} {s : Shared} {d : Addr} {es : Array DictEntry} {ep : Nat} {k : Int} {t : Tok}
theorem set_exact {v : Value} {Q : Unit → Shared → Prop} (ho : s.heap.get? d = some (dictO es ep)) (hk : KeysOf (intKind prog w) es) (hz : es.size ≤ sizeLine)
  (h1 : ∀ i, idxK k es.toList = some i → Q () { s with heap := s.heap.update d (Obj.mapDict fun es => es.modify i fun e => { e with val := v }), toks := s.toks + 1 })
  (h2 : idxK k es.toList = none → Q () { s with heap := s.heap.update d (Obj.mapDictKeys fun es => es.push ⟨hashInt k, .int k t, v⟩), toks := s.toks + 1 }) :
  wpAny (model prog w) A (dictSet d (.int k t) v) Q E s := by
 have hkey : (intKind prog w).is k (.int k t) = true := by show Value.isInt k (.int k t) = true; simp [Value.isInt]
 unfold dictSet
 try with_reducible refine wpAny_holding ?_
 refine wpAny_bind ((intKind prog w).pyHash hkey ?_)
 unfold dictSetHashed
 try with_reducible refine wpAny_holding ?_
 refine wpAny_bind (wpAny_dictFind_of (s := { s with toks := s.toks + 1 }) hkey ho rfl hk ?_)
 have hi' : (es.findIdx? fun e => (intKind prog w).is k e.key) = idxK k es.toList := idxK_arr k es
 rw [hi']
 cases hi : idxK k es.toList with
 | some i =>
  refine wpAny_bind (wpAny_rule (wpAny_bind (wpAny_updateDict (s := { s with toks := s.toks + 1 }) ho rfl (wpAny_point ?_))))
  exact h1 i hi
 | none =>
  refine wpAny_bind (wpAny_rule (wpAny_updateDictKeys (hz := hz) (s := { s with toks := s.toks + 1 }) ho rfl ?_))
  exact h2 hi
end
def chkSet (es : Array DictEntry) (k : Int) (b : Bool) : Bool := chkD es k b
theorem mapOf_dict {prog : Program} {w : World} {h : Heap} {d : Addr} {es : Array DictEntry} {ep : Nat} (ho : h.get? d = some (dictO es ep)) (hk : KeysOf (intKind prog w) es) : h.MapOf (intKind prog w) d (fun k => findBy (intKind prog w).is es k) :=
 ⟨_, es, ep, ho, ⟨rfl, rfl, rfl⟩, rfl, hk, fun _ => rfl⟩
theorem find_is {prog : Program} {w : World} (es : Array DictEntry) (k : Int) : findBy (intKind prog w).is es k = match idxK k es.toList with | some i => es[i]?.map (·.val) | none => none := by
 rw [findBy_of_findIdx?]
 have hi' : (es.findIdx? fun e => (intKind prog w).is k e.key) = idxK k es.toList := idxK_arr k es
 rw [hi']
 cases idxK k es.toList <;> rfl
theorem idxK_lt (k : Int) : ∀ (l : List DictEntry) (i : Nat), idxK k l = some i → i < l.length
 | [], i, h => by cases h
 | e :: l, i, h => by
  have : idxK k (e :: l) = (Bool.rec (match idxK k l with | some n => some (n + 1) | none => none) (some 0) (isK k e.key) : Option Nat) := rfl
  rw [this] at h
  cases hk : isK k e.key with
  | true => rw [hk] at h; cases h; exact Nat.zero_lt_succ _
  | false =>
   rw [hk] at h
   cases hl : idxK k l with
   | none => rw [hl] at h; cases h
   | some n => rw [hl] at h; cases h; exact Nat.succ_lt_succ (idxK_lt k l n hl)
def nDIn : Nat := 32795317678217157189674408721764466322021
def nDGet : Nat := 128106587276438692081757506308483082853
def nDSet : Nat := 128106587276438692082622197436938218085
def nDPop : Nat := 8174157772324366949
theorem nDIn_is : PySem.W.S.codeS "dict.__contains__" = nDIn := by kernel_rfl
theorem nDGet_is : PySem.W.S.codeS "dict.__getitem__" = nDGet := by kernel_rfl
theorem nDSet_is : PySem.W.S.codeS "dict.__setitem__" = nDSet := by kernel_rfl
theorem nDPop_is : PySem.W.S.codeS "dict.pop" = nDPop := by kernel_rfl
theorem sys_ne {V : XW} {T : MT} {m b : Nat} {ch : Ch} {h : Heap} (D : Rp V T m b ch h) (hn : 1723 ≤ V.n₀) {j a : Nat} {o : Obj} (e : T.get j = some (a, o)) : (a == sysModules) = false := by
 have := (D.own _ _ _ e).2.1
 have e : sysModules = 1 := by decide
 rw [e, beq_eq_false_iff_ne]; omega
structure DD where
 a : Nat
 k : Int
 t : Nat
 r : List Value
 j : Nat
 js : List Nat
 l : Nat × Array DictEntry × Nat
def rdD (vs : List Value) (js : List Nat) (T : MT) : Option DD := bL vs fun v r => bO (vRef v) fun a => bL r fun x r => bO (vInt x) fun k => bL js fun j js => bO (dictAt T j) fun l => some ⟨a, k.1, k.2, r, j, js, l⟩
theorem rdD_ok {vs : List Value} {js : List Nat} {T : MT} {d : DD} (h : rdD vs js T = some d) : vs = .ref d.a :: .int d.k d.t :: d.r ∧ T.get (d.j / 2) = some (d.l.1, dictO d.l.2.1 d.l.2.2) :=
 inv_l h fun v r e1 h => inv_o h fun a e2 h => inv_l h fun x r' e3 h => inv_o h fun k e4 h => inv_l h fun j js _ h => inv_o h fun l e5 h => by
  rw [← Option.some.inj h]
  exact ⟨by rw [e1, e3, vRef_ok e2, vInt_ok e4], dictAt_ok e5⟩
theorem is_int {prog : Program} {w : World} (k : Int) (t : Nat) : (intKind prog w).is k (.int k t) = true := by show Value.isInt k (.int k t) = true; simp [Value.isInt]
def hDIn : H1 := hkS nDIn rdD fun d T m _ c _ i => bN d.r (bL d.js fun jb js => some ⟨[(d.a, d.l.1)], js, chkD d.l.2.1 d.k (clm jb) = true, .ok (.ret (.bool (clm jb))), T, m, c, i + 1⟩)
theorem chkD_ok {es : Array DictEntry} {k : Int} {b : Bool} (h : chkD es k b = true) : es.toList.all keyI = true ∧ (idxK k es.toList).isSome = b ∧ es.size ≤ sizeLine := by
 unfold chkD at h
 simp only [Bool.and_eq_true] at h
 exact ⟨h.1.1, eq_of_beq h.1.2, line_ge h.2⟩
theorem find_isSome {prog : Program} {w : World} (es : Array DictEntry) (k : Int) : (findBy (intKind prog w).is es k).isSome = (idxK k es.toList).isSome := by
 rw [find_is]
 cases hi : idxK k es.toList with
 | none => rfl
 | some i =>
  have := idxK_lt k _ i hi
  simp only [Option.isSome_some]
  rw [Array.getElem?_eq_getElem (by simpa using this)]; rfl
theorem hDIn_ok (V : XW) (hn : 1723 ≤ V.n₀) : H1Ok V hDIn := hkS_ok nDIn_is fun vs js Γ p T m B c τ i ch d x e hc hf => inv_n hf fun er hf => inv_l hf fun jb js' _ hf => by
 rw [← Option.some.inj hf]
 intro hpre hps R h D K
 obtain ⟨ev, e⟩ := rdD_ok e
 rw [ev, er] at hc
 rw [← show d.a = d.l.1 from hps (d.a, d.l.1) (.head _)] at e
 obtain ⟨p1, p2, p3⟩ := chkD_ok hpre
 have k := K h D
 rw [← p2, ← find_isSome (prog := V.prog) (w := V.w)] at k
 exact hook_meets hc slot_dict_contains.plain entry_dict_contains (meets_dict_contains (intKind V.prog V.w) (k := d.k) d.a (is_int _ _) (sys_ne D hn e)) ⟨_, mapOf_dict (D.own _ _ _ e).2.2.2 (keys_of p1), k⟩
def valK (k : Int) (es : Array DictEntry) : Value := match idxK k es.toList with
 | some i => match es.toList[i]? with
  | some e => e.val
  | none => .none
 | none => .none
theorem find_val {prog : Program} {w : World} {es : Array DictEntry} {k : Int} (h : (idxK k es.toList).isSome = true) : findBy (intKind prog w).is es k = some (valK k es) := by
 rw [find_is]
 unfold valK
 cases hi : idxK k es.toList with
 | none => rw [hi] at h; cases h
 | some i =>
  have := idxK_lt k _ i hi
  simp only
  rw [Array.getElem?_eq_getElem (by simpa using this), List.getElem?_eq_getElem this]; rfl
def hDGet : H1 := hkS nDGet rdD fun d T m _ c _ i => bN d.r (some ⟨[(d.a, d.l.1)], d.js, chkD d.l.2.1 d.k true = true, .ok (.ret (valK d.k d.l.2.1)), T, m, c, i + 1⟩)
theorem hDGet_ok (V : XW) : H1Ok V hDGet := hkS_ok nDGet_is fun vs js Γ p T m B c τ i ch d x e hc hf => inv_n hf fun er hf => by
 rw [← Option.some.inj hf]
 intro hpre hps R h D K
 obtain ⟨ev, e⟩ := rdD_ok e
 rw [ev, er] at hc
 rw [← show d.a = d.l.1 from hps (d.a, d.l.1) (.head _)] at e
 obtain ⟨p1, p2, p3⟩ := chkD_ok hpre
 exact hook_meets hc slot_dict_getitem.plain entry_dict_getitem (meets_dict_getitem (intKind V.prog V.w) (k := d.k) d.a (is_int _ _)) ⟨_, valK d.k d.l.2.1, mapOf_dict (D.own _ _ _ e).2.2.2 (keys_of p1), find_val p2, K h D⟩
def pushEnt (e : DictEntry) (o : Obj) : Obj := o.mapDictKeys fun es => es.push e
def setEnt (n : Nat) (v : Value) (o : Obj) : Obj := o.mapDict fun es => es.modify n fun e => { e with val := v }
def eraseEnt (n : Nat) (o : Obj) : Obj := o.mapDictKeys fun es => es.eraseIdxIfInBounds n
def nat? (o : Option Nat) : Nat := match o with
 | some n => n
 | none => 0
def hDSet : H1 := hkS nDSet rdD fun d T m _ c _ i => bL d.r fun v r => bN r (bL d.js fun jb js => some ⟨[(d.a, d.l.1)], js, chkD d.l.2.1 d.k (clm jb) = true, .ok (.ret .none), T.upd (d.j / 2) (Bool.rec (motive := fun _ => Obj → Obj) (pushEnt ⟨hashInt d.k, .int d.k d.t, v⟩) (setEnt (nat? (idxK d.k d.l.2.1.toList)) v) (clm jb)), m, c, i + 1⟩)
theorem typeIs_dict {V : XW} {h : Heap} {t : Tok} {d : Addr} {es : Array DictEntry} {ep : Nat} (g : h.get? d = some (dictO es ep)) : (V.sh h t).TypeIs (.ref d) "dict" := ⟨_, g, rfl⟩
theorem hDSet_ok (V : XW) (O : V.Ok) : H1Ok V hDSet := hkS_ok nDSet_is fun vs js Γ p T m B c τ i ch d x e hc hf => inv_l hf fun v r er hf => inv_n hf fun er2 hf => inv_l hf fun jb js' _ hf => by
 rw [← Option.some.inj hf]
 intro hpre hps R h D K
 obtain ⟨ev, e⟩ := rdD_ok e
 rw [ev, er, er2] at hc
 rw [← show d.a = d.l.1 from hps (d.a, d.l.1) (.head _)] at e
 have g := (D.own _ _ _ e).2.2.2
 obtain ⟨p1, p2, p3⟩ := chkD_ok hpre
 rw [← p2] at K
 refine hook_meets (S := fun _ R' s => s = V.sh h (τ + i) ∧ R' = R) hc slot_dict_setitem.plain entry_dict_setitem (.of_wp fun A R' s hs => ?_) ⟨rfl, rfl⟩
 obtain ⟨rfl, rfl⟩ := hs
 show wpAny _ _ (Builtin.Dict.notOrdered "__setitem__" ⟨[.ref d.a, .int d.k d.t, v], []⟩ >>= _) _ _ _
 refine wpAny_bind (wpAny_notOrdered_dict (typeIs_dict g) ?_)
 show wpAny _ _ (dictSet d.a (.int d.k d.t) v >>= _) _ _ _
 refine wpAny_bind (set_exact (s := V.sh h (τ + i)) g (keys_of p1) p3 (fun n hn => wpAny_pure ⟨.none, rfl, ?_⟩) (fun hn => wpAny_pure ⟨.none, rfl, ?_⟩))
 ·rw [hn] at K; exact K _ (D.upd O e rfl)
 ·rw [hn] at K; exact K _ (D.upd O e rfl)
def hDPop : H1 := hkS nDPop rdD fun d T m _ c _ i => bN d.r (some ⟨[(d.a, d.l.1)], d.js, chkD d.l.2.1 d.k true = true, .ok (.ret (valK d.k d.l.2.1)), T.upd (d.j / 2) (eraseEnt (nat? (idxK d.k d.l.2.1.toList))), m, c, i + 1⟩)
section
variable {prog : Program} {w : World} {A : Around} {s : Shared} {a : Addr} {es : Array DictEntry} {ep : Nat} {k : Int} {t : Tok} {Q : Fin → Shared → Prop} {E : Value → Shared → Prop}
theorem pop_exact (g : s.heap.get? a = some (dictO es ep)) (hk : KeysOf (intKind prog w) es) (hz : es.size ≤ sizeLine) (p2 : (idxK k es.toList).isSome = true)
  (h : ∀ v, v = valK k es → Q (.done (.ret v)) { s with heap := s.heap.update a (Obj.mapDictKeys fun es' => es'.eraseIdxIfInBounds (nat? (idxK k es.toList))), toks := s.toks + 1 }) : wpAny (model prog w) A (Builtin.«dict.pop» ⟨[.ref a, .int k t], []⟩) Q E s := by
 cases hi : idxK k es.toList with
 | none => rw [hi] at p2; cases p2
 | some n =>
 have hlt := idxK_lt k _ n hi
 have hv : es[n].val = valK k es := by
  unfold valK; rw [hi]; simp only
  rw [List.getElem?_eq_getElem hlt]; simp
 rw [hi] at h
 have hi' : (es.findIdx? fun e => (intKind prog w).is k e.key) = some n := (idxK_arr k es).trans hi
 unfold Builtin.«dict.pop»
 refine wpAny_bind ?_
 unfold Builtin.Dict.keyAndDefault
 refine wpAny_bind (wpAny_notOrdered_dict ⟨_, g, rfl⟩ ?_)
 show wpAny _ _ (pure (a, Value.int k t, none)) _ _ _
 refine wpAny_pure ?_
 have hpart : (keyPart (.int k t)).isSome = true := rfl
 simp only [hpart, if_true]
 refine wpAny_bind (wpAny_pure ?_)
 simp only [Bool.false_eq_true, if_false]
 refine wpAny_bind ?_
 unfold Builtin.Dict.takeOut
 try with_reducible refine wpAny_holding ?_
 refine wpAny_bind ((intKind prog w).pyHash (is_int k t) ?_)
 refine wpAny_bind (wpAny_dictFind_of (s := { s with toks := s.toks + 1 }) (is_int k t) g rfl hk ?_)
 rw [hi']
 refine wpAny_bind (wpAny_dictEntries (s := { s with toks := s.toks + 1 }) g rfl ?_)
 have hn : n < es.size := by simpa using hlt
 rw [Array.getElem?_eq_getElem hn]
 refine wpAny_bind (wpAny_updateDictKeys (hz := hz) (s := { s with toks := s.toks + 1 }) g rfl (wpAny_pure ?_))
 simp only [Option.isNone_some, Bool.false_eq_true, if_false]
 exact wpAny_bind (wpAny_letGo (wpAny_pure (h _ hv)))
end
theorem hDPop_ok (V : XW) (O : V.Ok) : H1Ok V hDPop := hkS_ok nDPop_is fun vs js Γ p T m B c τ i ch d x e hc hf => inv_n hf fun er hf => by
 rw [← Option.some.inj hf]
 intro hpre hps R h D K
 obtain ⟨ev, e⟩ := rdD_ok e
 rw [ev, er] at hc
 rw [← show d.a = d.l.1 from hps (d.a, d.l.1) (.head _)] at e
 obtain ⟨p1, p2, p3⟩ := chkD_ok hpre
 refine hook_meets (S := fun _ R' s => s = V.sh h (τ + i) ∧ R' = R) hc F.slot_dict_pop.plain F.entry_dict_pop (.of_wp fun A R' s hs => ?_) ⟨rfl, rfl⟩
 obtain ⟨rfl, rfl⟩ := hs
 exact pop_exact (D.own _ _ _ e).2.2.2 (keys_of p1) p3 p2 fun v hv => ⟨v, rfl, by rw [hv]; exact K _ (D.upd O e rfl)⟩
end
def chk64 (b : Int) : Bool := Nat.ble b.natAbs 9223372036854775807
theorem bits64 {b : Int} (h : chk64 b = true) : Builtin.Int.intBits b ≤ 64 := by
 have h := Nat.le_of_ble_eq_true h
 unfold Builtin.Int.intBits
 split
 ·omega
 ·rename_i hb
  have h0 : b.natAbs ≠ 0 := by
   intro e; apply hb
   have : b = 0 := by omega
   simp [this]
  have : b.natAbs.log2 < 63 := (Nat.log2_lt h0).mpr (by omega)
  omega
theorem noPylong {a b : Int} (h : chk64 b = true) : Builtin.divisionGoesByPylong a b = false := by
 have h := Nat.le_of_ble_eq_true h
 unfold Builtin.divisionGoesByPylong
 have : ¬ ((if (b == 0) = true then 0 else b.natAbs.log2 / 30 + 1) > 300) := by
  split
  ·omega
  ·rename_i hb
   have h0 : b.natAbs ≠ 0 := by
    intro e; apply hb
    have : b = 0 := by omega
    simp [this]
   have : b.natAbs.log2 < 63 := (Nat.log2_lt h0).mpr (by omega)
   omega
 simp only [this, decide_false, Bool.false_and]
def hAr (n : Nat) (f : Int → Int → Int) (chk : Int → Bool) : H1 := fun js Γ _ T m _ c τ i _ => bi n Γ fun vs => match vs with
 | [.int a _, .int b _] => some ⟨[], js, chk b = true, .ok (.ret (.int (f a b) (τ + i))), T, m, c, i + 1⟩
 | _ => none
theorem hAr_ok (V : XW) {n : Nat} {s : String} {f : Int → Int → Int} {chk : Int → Bool} {b : Builtin} (hs : PySem.W.S.codeS s = n) (plain : plainId s = true) (entry : entryFor table s = some b)
  (g : ∀ x y t u, chk y = true → Gives (b ⟨[.int x t, .int y u], []⟩) (.int (f x y))) : H1Ok V (hAr n f chk) := by
 intro js Γ p T m B c τ i ch x hx hpre hps R h D K
 obtain ⟨vs, hc, hf⟩ := bi_ok hs hx
 split at hf
 ·rename_i a t b' u
  cases hf
  refine hook_meets hc plain entry ((g a b' t u hpre).meets.inModel _ _) ?_
  exact K h D
 ·cases hf
def chk0 (b : Int) : Bool := !Z.eqB b 0
def chkDv (b : Int) : Bool := chk64 b && !Z.eqB b 0
theorem chk0_ne {b : Int} (h : chk0 b = true) : ¬ (b == 0) = true := by
 unfold chk0 at h; rw [eqB_beq] at h; simpa using h
def nMul : Nat := 116512245094328231196454762
theorem nMul_is : PySem.W.S.codeS "int.__mul__" = nMul := by kernel_rfl
def nMod : Nat := 116512097088030077292474218
theorem nMod_is : PySem.W.S.codeS "int.__mod__" = nMod := by kernel_rfl
def nDiv : Nat := 128106770130096871752080967664072486762
theorem nDiv_is : PySem.W.S.codeS "int.__floordiv__" = nDiv := by kernel_rfl
def nAddI : Nat := 116512096292018843154739050
theorem nAddI_is : PySem.W.S.codeS "int.__add__" = nAddI := by kernel_rfl
def nSubI : Nat := 116512060628576343961202538
theorem nSubI_is : PySem.W.S.codeS "int.__sub__" = nSubI := by kernel_rfl
def hMul : H1 := hAr nMul (fun a b => a * b) chk64
def hMod : H1 := hAr nMod (fun a b => a.fmod b) chk0
def hDiv : H1 := hAr nDiv (fun a b => a.fdiv b) chkDv
theorem hMul_ok (V : XW) : H1Ok V hMul := hAr_ok V nMul_is F.slot_int_mul.plain F.entry_int_mul fun x y t u h => gives_int_mul x y t u (IntMulOk.of_right (bits64 h))
theorem hMod_ok (V : XW) : H1Ok V hMod := hAr_ok V nMod_is F.slot_int_mod.plain F.entry_int_mod fun x y t u h => AutoIntG6.int___mod___int_int_1 x t y u (chk0_ne h)
theorem hDiv_ok (V : XW) : H1Ok V hDiv := hAr_ok V nDiv_is F.slot_int_floordiv.plain F.entry_int_floordiv fun x y t u h => by
 unfold chkDv at h
 rw [Bool.and_eq_true] at h
 exact AutoIntG4.int___floordiv___int_int_1 x t y u (chk0_ne h.2) (by rw [noPylong h.1]; exact Bool.false_ne_true)
def intsOf (l : List Value) : Option (List Int) := List.rec (motive := fun _ => Option (List Int)) (some []) (fun v _ ih => bO (vInt v) fun a => bO ih fun ks => some (a.1 :: ks)) l
theorem intsOf_cons (v : Value) (l : List Value) : intsOf (v :: l) = bO (vInt v) fun a => bO (intsOf l) fun ks => some (a.1 :: ks) := rfl
theorem intsOf_inv {v : Value} {l : List Value} {ks : List Int} {P : Prop} (h : intsOf (v :: l) = some ks) (k : ∀ i t ks', v = .int i t → intsOf l = some ks' → ks = i :: ks' → P) : P :=
 inv_o h fun a e h => inv_o h fun ks' e2 h => k a.1 a.2 ks' (vInt_ok e) e2 (Option.some.inj h).symm
theorem intsOf_ok (prog : Program) (w : World) : ∀ (l : List Value) (ks : List Int), intsOf l = some ks → ItemsAre (intKind prog w) ks l
 | [], ks, h => by cases h; exact .nil
 | v :: l, ks, h => intsOf_inv h fun i t ks' e e2 e3 => by rw [e, e3]; exact .cons (is_int i t) (intsOf_ok prog w l ks' e2)
def keyAt (T : MT) (j : Nat) : Option (Nat × List Int) := bO (seqAt nTuple T j) fun q => bO (intsOf q.2.1.toList) fun ks => some (q.1, ks)
theorem keyAt_ok {V : XW} {T : MT} {m b : Nat} {ch : Ch} {h : Heap} (D : Rp V T m b ch h) {j : Nat} {q : Nat × List Int} (e : keyAt T j = some q) : IsTupleKey (intKind V.prog V.w) h q.2 q.1 :=
 inv_o e fun y he e => inv_o e fun ks' hk e => by
  rw [← Option.some.inj e]
  exact ⟨_, _, _, (D.own _ _ _ (seqAt_ok nTuple_is he)).2.2.2, rfl, rfl, intsOf_ok _ _ _ _ hk⟩
abbrev XS := List (List Int × Nat × Value)
def readE (T : MT) (es : List DictEntry) : List Nat → Option (List (Nat × Nat) × XS × List Nat) :=
 List.rec (motive := fun _ => List Nat → Option (List (Nat × Nat) × XS × List Nat)) (fun js => some ([], [], js)) (fun e _ ih js => bL js fun j js => bO (vRef e.key) fun a => bO (keyAt T j) fun q => bO (ih js) fun z => some ((a, q.1) :: z.1, (q.2, a, e.val) :: z.2.1, z.2.2)) es
def tkH (ks : List Int) : Int := reduceHash (Builtin.Tuple.tupleHashOf (ks.map hashInt))
def hashOk (es : List DictEntry) : XS → Bool := List.rec (motive := fun _ => XS → Bool) (fun _ => true) (fun e _ ih xs => match xs with
 | x :: xs => Z.eqB e.hash (tkH x.1) && ih xs
 | [] => false) es
theorem readE_ok {V : XW} {T : MT} {m b : Nat} {ch : Ch} {h : Heap} (D : Rp V T m b ch h) : ∀ (es : List DictEntry) (js : List Nat) (x : List (Nat × Nat) × XS × List Nat), readE T es js = some x → (∀ y ∈ x.1, y.1 = y.2) → hashOk es x.2.1 = true →
  es = x.2.1.map (entryOfKey (tupleKind (intKind V.prog V.w))) ∧ ∀ y ∈ x.2.1, IsTupleKey (intKind V.prog V.w) h y.1 y.2.1
 | [], js, x, e, _, _ => by rw [← Option.some.inj e]; exact ⟨rfl, fun y hy => by cases hy⟩
 | d :: es, js, x, e, hps, hh => inv_l e fun j js2 _ e => inv_o e fun a k1 e => inv_o e fun q k2 e => inv_o e fun z k3 e => by
  rw [← Option.some.inj e] at hps hh ⊢
  have hp := (Bool.and_eq_true _ _).mp hh
  have i12 := readE_ok D es js2 z k3 (fun y hy => hps y (.tail _ hy)) hp.2
  have ea : a = q.1 := hps (a, q.1) (.head _)
  have hk := keyAt_ok D k2
  rw [← ea] at hk
  refine ⟨?_, fun y hy => ?_⟩
  ·have e0 : d = entryOfKey (tupleKind (intKind V.prog V.w)) (q.2, a, d.val) := by
    obtain ⟨dh, dk, dv⟩ := d
    rw [show dk = .ref a from vRef_ok k1, show dh = _ from (Z.eqB_iff _ _).mp hp.1]; rfl
   rw [List.map_cons, ← i12.1, ← e0]
  ·cases hy with
   | head => exact hk
   | tail _ hy => exact i12.2 y hy
def eqKs (l : List Int) : List Int → Bool := List.rec (motive := fun _ => List Int → Bool) (fun m => match m with | [] => true | _ => false) (fun x _ ih m => match m with
 | [] => false
 | y :: m => Z.eqB x y && ih m) l
theorem eqKs_iff : ∀ l m : List Int, eqKs l m = decide (l = m)
 | [], [] => by simp [eqKs]
 | [], _ :: _ => by simp [eqKs]
 | _ :: _, [] => by simp [eqKs]
 | x :: l, y :: m => by
  show (Z.eqB x y && eqKs l m) = _
  rw [eqKs_iff l m, eqB_beq]
  by_cases h1 : x = y <;> by_cases h2 : l = m <;> simp [h1, h2]
def idxH (k : List Int) (l : XS) : Option Nat := List.rec (motive := fun _ => Option Nat) none (fun x _ ih => Bool.rec (match ih with | some n => some (n + 1) | none => none) (some 0) (eqKs x.1 k)) l
theorem idxH_cons (k : List Int) (x : List Int × Nat × Value) (l : XS) : idxH k (x :: l) = if x.1 = k then some 0 else match idxH k l with | some n => some (n + 1) | none => none := by
 show (Bool.rec (match idxH k l with | some n => some (n + 1) | none => none) (some 0) (eqKs x.1 k) : Option Nat) = _
 rw [eqKs_iff]
 by_cases h : x.1 = k <;> simp [h]
theorem idxH_some : ∀ {k : List Int} {l : XS} {n : Nat}, idxH k l = some n → ∃ p, l[n]? = some (k, p)
 | k, [], n, h => by cases h
 | k, x :: l, n, h => by
  rw [idxH_cons] at h
  split at h
  ·rename_i e; cases h; exact ⟨x.2, by rw [← e]; rfl⟩
  ·cases q : idxH k l with
   | none => rw [q] at h; cases h
   | some i =>
    rw [q] at h; cases h
    obtain ⟨p, hp⟩ := idxH_some q
    exact ⟨p, by simpa using hp⟩
theorem idxH_none : ∀ {k : List Int} {l : XS}, idxH k l = none → ∀ (j : Nat) (p : Nat × Value), l[j]? ≠ some (k, p)
 | k, [], _, j, p, h => by simp at h
 | k, x :: l, h, j, p, hj => by
  rw [idxH_cons] at h
  split at h
  ·cases h
  ·rename_i ne
   cases q : idxH k l with
   | some i => rw [q] at h; cases h
   | none =>
    cases j with
    | zero =>
     simp at hj
     exact ne (by rw [hj])
    | succ j => exact idxH_none q j p (by simpa using hj)
def noDup (l : XS) : Bool := List.rec (motive := fun _ => Bool) true (fun x l ih => (match idxH x.1 l with | none => true | some _ => false) && ih) l
theorem noDup_ok : ∀ {l : XS}, noDup l = true → (l.map (·.1)).Nodup
 | [], _ => List.nodup_nil
 | x :: l, h => by
  have h' : ((match idxH x.1 l with | none => true | some _ => false) && noDup l) = true := h
  rw [Bool.and_eq_true] at h'
  rw [List.map_cons, List.nodup_cons]
  refine ⟨fun hm => ?_, noDup_ok h'.2⟩
  obtain ⟨y, hy, e⟩ := List.mem_map.mp hm
  obtain ⟨j, hj⟩ := List.mem_iff_getElem?.mp hy
  cases q : idxH x.1 l with
  | some _ => rw [q] at h'; cases h'.1
  | none => exact idxH_none q j y.2 (by rw [hj, ← e])
theorem frames_le (c : Code) : c.frames ≤ 3 := by
 unfold Code.frames
 split <;> first | omega | (split <;> omega)
theorem cUnits_le (c : Code) : c.cUnits ≤ 10 := by
 have := frames_le c
 unfold Code.cUnits
 split <;> omega
theorem units_le : ∀ l : List (Code × Pos), unitsOf l ≤ 10 * l.length
 | [] => Nat.zero_le _
 | x :: l => by
  have := units_le l
  have q := cUnits_le x.1
  rw [show x = (x.1, x.2) from rfl, unitsOf_cons, List.length_cons]
  omega
def room (Γ : PySem.Ctx) : Bool := Nat.ble Γ.below.length 900
theorem room_ok {Γ : PySem.Ctx} (h : room Γ = true) : (arOf Γ).units + 1 < cLine := by
 have h := Nat.le_of_ble_eq_true h
 have := units_le Γ.below
 show unitsOf Γ.below + 1 < cLine
 have e : cLine = 9900 := rfl
 omega
structure TD where
 ps : List (Nat × Nat)
 js : List Nat
 es : Array DictEntry
 ep : Nat
 xs : XS
 ks : List Int
def revA (l : List (Nat × Nat)) : List (Nat × Nat) → List (Nat × Nat) := List.rec (motive := fun _ => List (Nat × Nat) → List (Nat × Nat)) (fun acc => acc) (fun x _ ih acc => ih (x :: acc)) l
theorem revA_mem : ∀ (l acc : List (Nat × Nat)) (y : Nat × Nat), (y ∈ l ∨ y ∈ acc) → y ∈ revA l acc
 | [], acc, y, h => h.elim (fun q => by cases q) (fun q => q)
 | x :: l, acc, y, h => revA_mem l (x :: acc) y (h.elim (fun q => by
   cases q with
   | head => exact .inr (.head _)
   | tail _ q => exact .inl q) (fun q => .inr (.tail _ q)))
def tdAt (T : MT) (a k : Nat) (j jk : Nat) (js : List Nat) : Option TD := bO (dictAt T j) fun q => bO (keyAt T jk) fun r => bO (readE T q.2.1.toList js) fun z => some ⟨revA z.1 [(k, r.1), (a, q.1)], z.2.2, q.2.1, q.2.2, z.2.1, r.2⟩
def chkT (Γ : PySem.Ctx) (x : TD) (b : Bool) : Bool := hashOk x.es.toList x.xs && (noDup x.xs && (room Γ && (chkLe x.es.size && ((match idxH x.ks x.xs with | some _ => true | none => false) == b))))
structure TDok (V : XW) (Γ : PySem.Ctx) (T : MT) (h : Heap) (a k j : Nat) (x : TD) (b : Bool) : Prop where
 e : T.get (j / 2) = some (a, dictO x.es x.ep)
 g : h.get? a = some (dictO x.es x.ep)
 hk : IsTupleKey (intKind V.prog V.w) h x.ks k
 he : x.es.toList = x.xs.map (entryOfKey (tupleKind (intKind V.prog V.w)))
 his : ∀ y ∈ x.xs, IsTupleKey (intKind V.prog V.w) h y.1 y.2.1
 hn : (x.xs.map (·.1)).Nodup
 room : (arOf Γ).units + 1 < cLine
 size : x.es.size ≤ sizeLine
 ans : (match idxH x.ks x.xs with | some _ => true | none => false) = b
theorem tdAt_ok {V : XW} {Γ : PySem.Ctx} {T : MT} {m b : Nat} {ch : Ch} {h : Heap} (D : Rp V T m b ch h) {a k j jk : Nat} {js : List Nat} {x : TD} (hx : tdAt T a k j jk js = some x) (hps : ∀ y ∈ x.ps, y.1 = y.2) {c : Bool} (hc : chkT Γ x c = true) : TDok V Γ T h a k j x c :=
 inv_o hx fun q h1 hx => inv_o hx fun r h2 hx => inv_o hx fun z h3 hx => by
  rw [← Option.some.inj hx] at hps hc ⊢
  have e := dictAt_ok h1
  have hk := keyAt_ok D h2
  rw [← show a = q.1 from hps (a, q.1) (revA_mem _ _ _ (.inr (.tail _ (.head _))))] at e
  rw [← show k = r.1 from hps (k, r.1) (revA_mem _ _ _ (.inr (.head _)))] at hk
  have c1 := (Bool.and_eq_true _ _).mp hc
  have c2 := (Bool.and_eq_true _ _).mp c1.2
  have c3 := (Bool.and_eq_true _ _).mp c2.2
  have c4 := (Bool.and_eq_true _ _).mp c3.2
  have rr := readE_ok D _ _ _ h3 (fun y hy => hps y (revA_mem _ _ _ (.inl hy))) c1.1
  exact ⟨e, (D.own _ _ _ e).2.2.2, hk, rr.1, rr.2, noDup_ok c2.1, room_ok c3.1, line_ge c4.1, eq_of_beq c4.2⟩
theorem TDok.dict {V : XW} {Γ : PySem.Ctx} {T : MT} {h : Heap} {a k j : Nat} {x : TD} {b : Bool} (z : TDok V Γ T h a k j x b) : h.DictOfH (tupleKind (intKind V.prog V.w)) a x.xs :=
 ⟨_, x.es, x.ep, z.g, ⟨rfl, rfl, rfl⟩, rfl, z.he, z.his, z.hn⟩
def drw (ks : List Int) : Nat := ks.length + 1
structure DT where
 a : Nat
 k : Nat
 r : List Value
 j : Nat
 jb : Nat
 x : TD
def rdT (two : Bool) (vs : List Value) (js : List Nat) (T : MT) : Option DT := bL vs fun v r => bO (vRef v) fun a => bL r fun x r => bO (vRef x) fun k => bL js fun j js => bL js fun jk js => Bool.rec (bO (tdAt T a k j jk js) fun x => some ⟨a, k, r, j, 0, x⟩) (bL js fun jb js => bO (tdAt T a k j jk js) fun x => some ⟨a, k, r, j, jb, x⟩) two
theorem rdT_ok {two : Bool} {vs : List Value} {js : List Nat} {T : MT} {d : DT} (h : rdT two vs js T = some d) : vs = .ref d.a :: .ref d.k :: d.r ∧ ∃ jk js', tdAt T d.a d.k d.j jk js' = some d.x :=
 inv_l h fun v r e1 h => inv_o h fun a e2 h => inv_l h fun x r' e3 h => inv_o h fun k e4 h => inv_l h fun j js _ h => inv_l h fun jk js _ h => by
  rw [e1, e3, vRef_ok e2, vRef_ok e4]
  cases two with
  | false => exact inv_o h fun x e h => by rw [← Option.some.inj h]; exact ⟨rfl, _, _, e⟩
  | true => exact inv_l h fun jb js _ h => inv_o h fun x e h => by rw [← Option.some.inj h]; exact ⟨rfl, _, _, e⟩
def hkT1 (n : Nat) (two : Bool) (W : DT → MT → Option (Bool × Value × MT)) : H1 := fun js Γ _ T m _ c _ i _ => bi n Γ fun vs => bO (rdT two vs js T) fun d => bO (W d T) fun y => some ⟨d.x.ps, d.x.js, chkT Γ d.x y.1 = true, .ok (.ret y.2.1), y.2.2, m, c, i + drw d.x.ks⟩
theorem find_H {V : XW} {xs : XS} {ks : List Int} (hn : (xs.map (·.1)).Nodup) : (match idxH ks xs with | some _ => true | none => false) = (atKey xs ks).isSome := by
 cases q : idxH ks xs with
 | some n =>
  obtain ⟨p, hp⟩ := idxH_some q
  rw [atKey_of_get hn hp]; rfl
 | none => rw [atKey_none_of_get (idxH_none q)]; rfl
theorem sh_add (V : XW) (h : Heap) (τ i n : Nat) : V.sh h (τ + (i + n)) = { V.sh h (τ + i) with toks := (V.sh h (τ + i)).toks + n } := by
 unfold XW.sh; rw [← Nat.add_assoc]
theorem hkT1_ok {V : XW} {s : String} {n : Nat} {two : Bool} {W : DT → MT → Option (Bool × Value × MT)} {f : Builtin} (hs : PySem.W.S.codeS s = n) (plain : plainId s = true) (entry : entryFor table s = some f)
  (ok : ∀ (Γ : PySem.Ctx) T m B ch h t d y, W d T = some y → Rp V T m B ch h → TDok V Γ T h d.a d.k d.j d.x y.1 → ∀ Q E,
   (∀ h', Rp V y.2.2 m B ch h' → Q (.done (.ret y.2.1)) { V.sh h' t with toks := t + drw d.x.ks }) → wpAny V.M (arOf Γ).in1 (f ⟨.ref d.a :: .ref d.k :: d.r, []⟩) Q E (V.sh h t)) : H1Ok V (hkT1 n two W) :=
 fun js Γ p T m B c τ i ch x e hp hps R h D K => bi_k hs e fun vs hc e => inv_o e fun d e1 e => inv_o e fun y e2 e => by
  rw [← Option.some.inj e] at hp hps K
  obtain ⟨ev, jk, js', e3⟩ := rdT_ok e1
  rw [ev] at hc
  refine hook_meets (S := fun A R' s => s = V.sh h (τ + i) ∧ A = arOf Γ ∧ R' = R) hc plain entry (.of_wp fun A R' s hA => ?_) ⟨rfl, rfl, rfl⟩
  obtain ⟨rfl, rfl, rfl⟩ := hA
  exact ok Γ T m (B + c) ch h (τ + i) d y e2 D (tdAt_ok D e3 hps hp) _ _ fun h' D' => ⟨_, rfl, by have k := K h' D'; rw [sh_add] at k; exact k⟩
def hTIn : H1 := hkT1 nDIn true fun d T => bN d.r (some (clm d.jb, .bool (clm d.jb), T))
theorem hTIn_ok (V : XW) (hn : 1723 ≤ V.n₀) : H1Ok V hTIn := hkT1_ok nDIn_is slot_dict_contains.plain entry_dict_contains fun Γ T m B ch h t d y e D z Q E k => inv_n e fun er e => by
 rw [← Option.some.inj e] at z k
 rw [er]
 have k := k h D
 show wpAny _ _ (dictGet d.a (.ref d.k) >>= _) _ _ _
 refine wpAny_bind (wpAny_dictGet_heap (knd := tupleKind (intKind V.prog V.w)) (tupleKind_room_in1 z.room) z.hk z.dict ?_)
 have hans := z.ans
 rw [find_H (V := V) z.hn] at hans
 dsimp only at hans k
 rw [← hans] at k
 cases hf : atKey d.x.xs d.x.ks with
 | some q =>
  rw [hf] at k
  exact wpAny_pure k
 | none =>
  rw [hf] at k
  show wpAny _ _ (Builtin.Dict.pendingKey? d.a (.ref d.k) >>= _) _ _ _
  exact wpAny_bind (wpAny_pendingKey_other (sys_ne D hn z.e) (wpAny_pure k))
def valH (ks : List Int) (xs : XS) : Value := match idxH ks xs with
 | some n => match xs[n]? with
  | some x => x.2.2
  | none => .none
 | none => .none
theorem valH_ok {V : XW} {Γ : PySem.Ctx} {T : MT} {h : Heap} {a k j : Nat} {x : TD} (z : TDok V Γ T h a k j x true) : ∃ n q, idxH x.ks x.xs = some n ∧ x.xs[n]? = some (x.ks, q) ∧ atKey x.xs x.ks = some q ∧ valH x.ks x.xs = q.2 := by
 have := z.ans
 cases q : idxH x.ks x.xs with
 | none => rw [q] at this; cases this
 | some n =>
  obtain ⟨p, hp⟩ := idxH_some q
  refine ⟨n, p, rfl, hp, atKey_of_get z.hn hp, ?_⟩
  unfold valH
  rw [q]; simp only [hp]
def hTGet : H1 := hkT1 nDGet false fun d T => bN d.r (some (true, valH d.x.ks d.x.xs, T))
theorem hTGet_ok (V : XW) : H1Ok V hTGet := hkT1_ok nDGet_is slot_dict_getitem.plain entry_dict_getitem fun Γ T m B ch h t d y e D z Q E k => inv_n e fun er e => by
 rw [← Option.some.inj e] at z k
 rw [er]
 obtain ⟨n, q, h1, h2, h3, h4⟩ := valH_ok z
 have k := k h D
 show wpAny _ _ (dictGet d.a (.ref d.k) >>= _) _ _ _
 refine wpAny_bind (wpAny_dictGet_heap (knd := tupleKind (intKind V.prog V.w)) (tupleKind_room_in1 z.room) z.hk z.dict ?_)
 rw [h3]
 rw [show valH d.x.ks d.x.xs = q.2 from h4] at k
 exact wpAny_pure k
section
variable {V : XW} {Γ : PySem.Ctx} {T : MT} {h : Heap} {a k j : Nat} {x : TD} {b : Bool} {E : Value → Shared → Prop} {t : Nat}
theorem find_T {A : Around} (hA : A.units < cLine) (z : TDok V Γ T h a k j x b) {Q : Option Nat → Shared → Prop} (hQ : Q (idxH x.ks x.xs) (V.sh h t)) : wpAny V.M A (dictFind a (.ref k) (tkH x.ks)) Q E (V.sh h t) := by
 refine wpAny_dictFind_heap (knd := tupleKind (intKind V.prog V.w)) hA z.hk z.g rfl z.he z.his z.hn (fun hno => ?_) (fun i p hi => ?_)
 ·cases q : idxH x.ks x.xs with
  | none => rw [q] at hQ; exact hQ
  | some n => obtain ⟨p, hp⟩ := idxH_some q; exact absurd hp (hno n p)
 ·cases q : idxH x.ks x.xs with
  | none => exact absurd hi (idxH_none q i p)
  | some n =>
   obtain ⟨p', hp⟩ := idxH_some q
   rw [q, idxH_unique z.hn hp hi] at hQ; exact hQ
theorem set_T {A : Around} (hA : A.units < cLine) (z : TDok V Γ T h a k j x b) {v : Value} {Q : Unit → Shared → Prop}
  (h1 : ∀ i, idxH x.ks x.xs = some i → Q () { V.sh (h.update a (setEnt i v)) t with toks := t + drw x.ks })
  (h2 : idxH x.ks x.xs = none → Q () { V.sh (h.update a (pushEnt ⟨tkH x.ks, .ref k, v⟩)) t with toks := t + drw x.ks }) : wpAny V.M A (dictSet a (.ref k) v) Q E (V.sh h t) := by
 unfold dictSet
 try with_reducible refine wpAny_holding ?_
 refine wpAny_bind ((tupleKind (intKind V.prog V.w)).pyHash hA z.hk ?_)
 unfold dictSetHashed
 try with_reducible refine wpAny_holding ?_
 refine wpAny_bind (find_T (t := t + drw x.ks) hA z ?_)
 cases hi : idxH x.ks x.xs with
 | some i => exact wpAny_bind (wpAny_rule (wpAny_bind (wpAny_updateDict (s := V.sh h (t + drw x.ks)) z.g rfl (wpAny_point (h1 i hi)))))
 | none => exact wpAny_bind (wpAny_rule (wpAny_updateDictKeys (hz := z.size) (s := V.sh h (t + drw x.ks)) z.g rfl (h2 hi)))
end
def hTSet : H1 := hkT1 nDSet true fun d T => bL d.r fun v r => bN r (some (clm d.jb, .none, T.upd (d.j / 2) (Bool.rec (motive := fun _ => Obj → Obj) (pushEnt ⟨tkH d.x.ks, .ref d.k, v⟩) (setEnt (nat? (idxH d.x.ks d.x.xs)) v) (clm d.jb))))
theorem hTSet_ok (V : XW) (O : V.Ok) : H1Ok V hTSet := hkT1_ok nDSet_is slot_dict_setitem.plain entry_dict_setitem fun Γ T m B ch h t d y e D z Q E k => inv_l e fun v r er e => inv_n e fun er2 e => by
 rw [← Option.some.inj e] at z k
 rw [er, er2]
 have hans := z.ans
 dsimp only at hans k
 rw [← hans] at k
 show wpAny _ _ (Builtin.Dict.notOrdered "__setitem__" ⟨[.ref d.a, .ref d.k, v], []⟩ >>= _) _ _ _
 refine wpAny_bind (wpAny_notOrdered_dict (typeIs_dict z.g) ?_)
 show wpAny _ _ (dictSet d.a (.ref d.k) v >>= _) _ _ _
 refine wpAny_bind (set_T (A := (arOf Γ).in1) z.room z (fun n hn => wpAny_pure ?_) (fun hn => wpAny_pure ?_))
 ·rw [hn] at k; exact k _ (D.upd O z.e rfl)
 ·rw [hn] at k; exact k _ (D.upd O z.e rfl)
def hTPop : H1 := hkT1 nDPop false fun d T => bN d.r (some (true, valH d.x.ks d.x.xs, T.upd (d.j / 2) (eraseEnt (nat? (idxH d.x.ks d.x.xs)))))
theorem hTPop_ok (V : XW) (O : V.Ok) : H1Ok V hTPop := hkT1_ok nDPop_is F.slot_dict_pop.plain F.entry_dict_pop fun Γ T m B ch h t d y e D z Q E k => inv_n e fun er e => by
 rw [← Option.some.inj e] at z k
 rw [er]
 obtain ⟨n, q, h1, h2, h3, h4⟩ := valH_ok z
 have k := k _ (D.upd O z.e rfl)
 rw [show valH d.x.ks d.x.xs = q.2 from h4, h1] at k
 have hy : d.x.es[n]? = some (entryOfKey (tupleKind (intKind V.prog V.w)) (d.x.ks, q)) := by
  rw [entry_at z.he n, h2]; rfl
 have hne : d.x.es.isEmpty = false := by
  cases he : d.x.es.isEmpty with
  | false => rfl
  | true =>
   rw [Array.isEmpty_iff] at he
   rw [he] at hy; cases hy
 unfold Builtin.«dict.pop»
 refine wpAny_bind ?_
 unfold Builtin.Dict.keyAndDefault
 refine wpAny_bind (wpAny_notOrdered_dict (typeIs_dict z.g) ?_)
 show wpAny _ _ (pure (d.a, Value.ref d.k, none)) _ _ _
 refine wpAny_pure ?_
 have hpart : (keyPart (.ref d.k)).isSome = false := rfl
 simp only [hpart, Bool.false_eq_true, if_false]
 refine wpAny_bind (wpAny_dictEntries z.g rfl ?_)
 refine wpAny_bind (wpAny_pure ?_)
 simp only [hne, Bool.false_eq_true, if_false]
 refine wpAny_bind ?_
 unfold Builtin.Dict.takeOut
 try with_reducible refine wpAny_holding ?_
 refine wpAny_bind ((tupleKind (intKind V.prog V.w)).pyHash (A := (arOf Γ).in1) z.room z.hk ?_)
 refine wpAny_bind (find_T (A := (arOf Γ).in1) (t := t + drw d.x.ks) z.room z ?_)
 rw [h1]
 refine wpAny_bind (wpAny_dictEntries (s := V.sh h (t + drw d.x.ks)) z.g rfl ?_)
 rw [hy]
 refine wpAny_bind (wpAny_updateDictKeys (hz := z.size) (s := V.sh h (t + drw d.x.ks)) z.g rfl (wpAny_pure ?_))
 simp only [Option.isNone_some, Bool.false_eq_true, if_false]
 exact wpAny_bind (wpAny_letGo (wpAny_pure k))
def tryB (f : Addr) (body : Sem Flow) (hs : List ExceptHandler) (orelse : Sem Flow) (env : Env) : Sem Flow := do
 match ← body.attempt with
 | .ok .next => orelse
 | .ok fl => pure fl
 | .error e => do
  noteB f e
  match hs with
  | [] => throw e
  | h :: hs => do
   setFlight e none
   handleBy e env (h :: hs)
noncomputable section
def tryBF (f : Addr) (body : Sem Flow) (hs : List ExceptHandler) (orelse : Sem Flow) (env : Env) : Sem Flow := do
 match ← body.attempt with
 | .ok .next => orelse
 | .ok fl => pure fl
 | .error e => do
  noteBF f e
  match hs with
  | [] => throw e
  | h :: hs => do
   PySem.W.Fast.tw5670386056902412789 e none
   PySem.W.Fast.tw14206642085496868694 e env (h :: hs)
theorem tryBF_eq : tryB = tryBF := by
 funext f body hs orelse env
 unfold tryB tryBF
 rw [noteBF_eq, PySem.W.Fast.te5670386056902412789, PySem.W.Fast.te14206642085496868694]
def tryT (f : Addr) (b : List Stmt) (hs : List ExceptHandler) (o : List Stmt) (pos : Pos) (rest : List Stmt) (env : Env) : Sem Fin := do
 point
 match ← (do match ← (do standAt pos; tryB f (execs b env) hs (execs o env) env : Sem Flow) with
  | .next => execs rest env
  | fl => pure fl : Sem Flow) with
 | .ret v => ret v
 | _ => ret .none
def tryF (f : Addr) (b : List Stmt) (hs : List ExceptHandler) (o : List Stmt) (pos : Pos) (rest : List Stmt) (env : Env) : Sem Fin := do
 point
 match ← (do match ← (do standAt pos; tryBF f (PySem.W.Fast.tw12563942051412417395 b env) hs (PySem.W.Fast.tw12563942051412417395 o env) env : Sem Flow) with
  | .next => PySem.W.Fast.tw12563942051412417395 rest env
  | fl => pure fl : Sem Flow) with
 | .ret v => ret v
 | _ => ret .none
theorem tryF_eq : tryT = tryF := by
 funext f b hs o pos rest env
 unfold tryT tryF
 rw [tryBF_eq, PySem.W.Fast.te12563942051412417395]
theorem execs_cons (s : Stmt) (rest : List Stmt) (env : Env) : execs (s :: rest) env = (do
  match ← exec s env with
  | .next => execs rest env
  | f => pure f) := by kernel_rfl
theorem exec_try (b : List Stmt) (hs : List ExceptHandler) (o fin : List Stmt) (pos : Pos) (env : Env) : exec (.Try b hs o fin pos) env = (do
  standAt pos
  tryStmt false (execs b env) hs (execs o env) fin env) := by kernel_rfl
theorem try_wp {M : Model} {Γ : PySem.Ctx} {env : Env} {f : Addr} (S : Stands Γ env f) (body : Sem Flow) (hs : List ExceptHandler) (orelse : Sem Flow) (Q : Flow → Pos → Shared → Prop) (E : Value → Pos → Shared → Prop) (p : Pos) (s : Shared)
  (h : Sem.wp M Γ (tryB f body hs orelse env) Q E p s) : Sem.wp M Γ (tryStmt false body hs orelse [] env) Q E p s := by
 unfold tryStmt
 unfold tryB at h
 simp only [List.isEmpty_nil, if_true, Sem.wp_bind'] at h ⊢
 refine Sem.wp_mono M Γ _ (fun x p' s' y => ?_) (fun _ _ _ x => x) p s h
 cases x with
 | ok fl => cases fl <;> exact y
 | error e =>
  simp only [Sem.wp_bind'] at y ⊢
  refine note_B M Γ S e _ _ p' s' (Sem.wp_mono M Γ _ (fun _ p' s' y => ?_) (fun _ _ _ x => x) p' s' y)
  cases hs with
  | nil => exact y
  | cons h hs => exact y
theorem tryT_wp {M : Model} {Γ : PySem.Ctx} {env : Env} {f : Addr} (S : Stands Γ env f) (b : List Stmt) (hs : List ExceptHandler) (o : List Stmt) (pos : Pos) (rest : List Stmt) (Q : Fin → Pos → Shared → Prop) (E : Value → Pos → Shared → Prop) (p : Pos) (s : Shared)
  (h : Sem.wp M Γ (tryT f b hs o pos rest env) Q E p s) : Sem.wp M Γ (mainT (.func (.Try b hs o [] pos :: rest) env)) Q E p s := by
 unfold mainT
 unfold tryT at h
 simp only [execs_cons, exec_try, Sem.wp_bind'] at h ⊢
 refine Sem.wp_mono M Γ _ (fun _ p' s' y => ?_) (fun _ _ _ x => x) p s h
 refine Sem.wp_mono M Γ _ (fun _ p' s' y => ?_) (fun _ _ _ x => x) p' s' y
 exact try_wp S _ _ _ _ _ p' s' y
def syncAt (e : Expr) (depth : Nat) : Bool := match (clausesOf e)[depth]? with
 | some g => match g.is_async with
  | .ofNat 0 => true
  | _ => false
 | none => true
theorem syncAt_ok {e : Expr} {depth : Nat} (h : syncAt e depth = true) : ((clausesOf e)[depth]?).elim false (·.is_async != 0) = false := by
 unfold syncAt at h
 split at h
 ·rename_i g hg
  rw [hg]
  split at h
  ·rename_i h0; simp [h0]
  ·cases h
 ·rename_i hg; rw [hg]; rfl
theorem comp_wp {V : XW} {Γ : PySem.Ctx} {e : Expr} {depth : Nat} {it : Addr} {acc : Value} {env : Env} (hc : Γ.code = .compStart e depth (.ref it) acc env) (ha : syncAt e depth = true) {s : Shared}
  (hI : ∀ A (Q : Value → Shared → Prop) E, Q (.ref it) s → wpAny V.M A (pyIter (.ref it)) Q E s) {Q : Fin → Pos → Shared → Prop} {E : Value → Pos → Shared → Prop} {p : Pos}
  (k : ∀ p', Sem.wp V.M Γ (.pure (.again (.compLoop e depth (.ref it) acc env))) Q E p' s) : Sem.wp V.M Γ (denF Γ.code) Q E p s := by
 rw [← denF_eq]
 have main : ∀ E p, Sem.wp V.M Γ (compStart e depth (.ref it) acc env) Q E p s := by
  intro E p
  unfold compStart
  have hit : ∀ p', Sem.wp V.M Γ (pyIter (.ref it)) (fun v p'' s' => v = .ref it ∧ s' = s) E p' s := fun p' =>
   Sem.wp_mono V.M Γ _ (fun _ _ _ x => x) (fun _ _ _ x => False.elim x) p' s (hI ((arOf Γ).under Γ.code) (fun v s' => v = .ref it ∧ s' = s) (fun _ _ => False) ⟨rfl, rfl⟩ Γ p' (below_arOf Γ).in)
  have fin : ∀ p', Sem.wp V.M Γ (do again (.compLoop e depth (← pyIter (.ref it)) acc env)) Q E p' s := fun p' => by
   simp only [Sem.wp_bind']
   refine Sem.wp_mono V.M Γ _ (fun v p'' s' x => ?_) (fun _ _ _ x => x) p' s (hit p')
   obtain ⟨rfl, rfl⟩ := x
   exact k p''
  simp only [syncAt_ok ha, Sem.wp_bind', Bool.false_eq_true, if_false, ask, Sem.wp_ask, Sem.wp_pure, Sem.wp_pure']
  split
  ·exact k p
  ·simp only [Sem.wp_bind', rule, Sem.wp_rule, Sem.wp_pure, Sem.wp_pure']
   cases (clausesOf e)[depth]? with
   | none => exact fin p
   | some g => exact fin _
 rw [hc]
 delta denote
 dsimp only
 split <;> (simp only [Sem.wp_onRaise]; exact main _ _)
def itAt (cn : Nat) (T : MT) (j : Nat) : Option (Nat × List Value) := bO (datAt cn T j) fun q => bO (dFld q.2) fun vs => some (q.1, vs.toList)
theorem itAt_ok {s : String} {cn : Nat} (hs : PySem.W.S.codeS s = cn) {T : MT} {j a : Nat} {l : List Value} (h : itAt cn T j = some (a, l)) :
  T.get (j / 2) = some (a, { cls := .type s, dict := none, data := .fields l.toArray, slots := #[] }) :=
 inv_o h fun q e h => inv_o h fun vs e2 h => by
  rw [datAt_ok hs e, dFld_ok e2, ← show vs.toList = l from congrArg Prod.snd (Option.some.inj h), ← show q.1 = a from congrArg Prod.fst (Option.some.inj h)]
def okList (l : List Value) : Bool := yes (bL l fun a r => bL r fun b r => bN r (bO (vRef a) fun _ => bO (vNat b) fun _ => some ()))
theorem okList_k {l : List Value} (h : okList l = true) {P : Prop} (k : ∀ a b, l = [.ref a, .int (.ofNat b) 0] → P) : P :=
 inv_l (yes_ok h) fun a r e h => inv_l h fun b r2 e2 h => inv_n h fun e3 h => inv_o h fun a' e4 h => inv_o h fun b' e5 h => k a' b' (by rw [e, e2, e3, vRef_ok e4, vNat_ok e5])
def okRange (l : List Value) : Bool := yes (bL l fun a r => bL r fun b r => bL r fun c r => bN r (bO (vI0 a) fun _ => bO (vI0 b) fun _ => bO (vI0 c) fun _ => some ()))
theorem okRange_k {l : List Value} (h : okRange l = true) {P : Prop} (k : ∀ a b c, l = [.int a 0, .int b 0, .int c 0] → P) : P :=
 inv_l (yes_ok h) fun a r e h => inv_l h fun b r2 e2 h => inv_l h fun c r3 e3 h => inv_n h fun e4 h => inv_o h fun a' e5 h => inv_o h fun b' e6 h => inv_o h fun c' e7 h => k a' b' c' (by rw [e, e2, e3, e4, vI0_ok e5, vI0_ok e6, vI0_ok e7])
def okKeys (l : List Value) : Bool := yes (bL l fun a r => bO (vRef a) fun _ => bL r fun b r => bL r fun c r => bL r fun d r => bN r (bO (vNat b) fun _ => bO (vNat c) fun _ => bO (vNat d) fun _ => some ()))
theorem okKeys_k {l : List Value} (h : okKeys l = true) {P : Prop} (k : ∀ a b c d, l = [.ref a, .int (.ofNat b) 0, .int (.ofNat c) 0, .int (.ofNat d) 0] → P) : P :=
 inv_l (yes_ok h) fun a r e h => inv_o h fun a' e1 h => inv_l h fun b r2 e2 h => inv_l h fun c r3 e3 h => inv_l h fun d r4 e4 h => inv_n h fun e5 h => inv_o h fun b' e6 h => inv_o h fun c' e7 h => inv_o h fun d' e8 h => k a' b' c' d' (by rw [e, e2, e3, e4, e5, vRef_ok e1, vNat_ok e6, vNat_ok e7, vNat_ok e8])
structure CSt where
 e : Expr
 depth : Nat
 it : Value
 acc : Value
 env : Env
def cS (c : Code) : Option CSt := match c with
 | .compStart e depth it acc env => some ⟨e, depth, it, acc, env⟩
 | _ => none
theorem cS_ok {c : Code} {q : CSt} (h : cS c = some q) : c = .compStart q.e q.depth q.it q.acc q.env := by
 cases c <;> first | exact nos h | rw [← Option.some.inj h]
def walC (cn : Nat) (ok : List Value → Bool) (js : List Nat) (Γ : PySem.Ctx) (T : MT) : Option WL := bO (cS Γ.code) fun q => bO (vRef q.it) fun a => bL js fun j js => bO (itAt cn T j) fun l => bT (ok l.2) (bT (syncAt q.e q.depth) (some ⟨[(a, l.1)], js, 2, .pure (.again (.compLoop q.e q.depth (.ref a) q.acc q.env))⟩))
theorem walC_ok {V : XW} {s : String} {cn : Nat} (hs : PySem.W.S.codeS s = cn) {ok : List Value → Bool} {js : List Nat} {Γ : PySem.Ctx} {p : Pos} {T : MT} {x : WL} (hx : walC cn ok js Γ T = some x)
  (hI : ∀ (a : Nat) (l : List Value) (σ : Shared) A (Q : Value → Shared → Prop) E, ok l = true → σ.heap.get? a = some { cls := .type s, dict := none, data := .fields l.toArray, slots := #[] } → Q (.ref a) σ → wpAny V.M A (pyIter (.ref a)) Q E σ) : WlOk V Γ p T x :=
 inv_o hx fun q e hx => inv_o hx fun a e1 hx => inv_l hx fun j r e2 hx => inv_o hx fun l e3 hx => inv_t hx fun e4 hx => inv_t hx fun e5 hx => by
  rw [← Option.some.inj hx]
  refine fun hps m b ch h t D Q E k => ?_
  have hc := cS_ok e
  rw [vRef_ok e1] at hc
  have e3 := itAt_ok hs (show itAt cn T j = some (l.1, l.2) from e3)
  rw [← show a = l.1 from hps _ (.head _)] at e3
  exact comp_wp hc e5 (fun A Q E y => hI a l.2 _ A Q E e4 (D.own _ _ _ e3).2.2.2 y) k
structure TS1 where
 b : List Stmt
 hs : List ExceptHandler
 o : List Stmt
 fin : List Stmt
 pos : Pos
def sTry (s : Stmt) : Option TS1 := match s with
 | .Try b hs o fin pos => some ⟨b, hs, o, fin, pos⟩
 | _ => none
theorem sTry_ok {s : Stmt} {q : TS1} (h : sTry s = some q) : s = .Try q.b q.hs q.o q.fin q.pos := by
 cases s <;> first | exact nos h | rw [← Option.some.inj h]
def cF (c : Code) : Option (List Stmt × Env) := match c with
 | .func b env => some (b, env)
 | _ => none
theorem cF_ok {c : Code} {q : List Stmt × Env} (h : cF c = some q) : c = .func q.1 q.2 := by
 cases c <;> first | exact nos h | rw [← Option.some.inj h]
def walTry (js : List Nat) (Γ : PySem.Ctx) : Option WL := bO (cF Γ.code) fun q => bL q.1 fun s rest => bO (sTry s) fun y => bN y.fin (bO q.2.frame fun f => some ⟨[], js, 1, tryF f y.b y.hs y.o y.pos rest q.2⟩)
theorem walTry_ok {V : XW} {js : List Nat} {Γ : PySem.Ctx} {p : Pos} {T : MT} {x : WL} (hx : walTry js Γ = some x) : WlOk V Γ p T x :=
 inv_o hx fun q e hx => inv_l hx fun s rest e1 hx => inv_o hx fun y e2 hx => inv_n hx fun e3 hx => inv_o hx fun f e4 hx => by
  rw [← Option.some.inj hx]
  refine fun hps m b ch h t D Q E k => ?_
  have hc := cF_ok e
  rw [e1, sTry_ok e2, e3] at hc
  have S : Stands Γ q.2 f := stands_of (by rw [hc]; rfl) e4 (by rw [hc]; unfold frameF; exact e4)
  rw [hc, ← mainF_eq]
  exact tryT_wp S y.b y.hs y.o y.pos rest Q E p _ (by rw [tryF_eq]; exact k)
def nLI : Nat := 9146042919481958196396663532141
def nTI : Nat := 2341386987387381298277481322739317
def nRI : Nat := 2341386987387381298277481238717043
def nKI : Nat := 153445137605419420765786512239486069349
theorem nLI_is : PySem.W.S.codeS "list_iterator" = nLI := by kernel_rfl
theorem nTI_is : PySem.W.S.codeS "tuple_iterator" = nTI := by kernel_rfl
theorem nRI_is : PySem.W.S.codeS "range_iterator" = nRI := by kernel_rfl
theorem nKI_is : PySem.W.S.codeS "dict_keyiterator" = nKI := by kernel_rfl
theorem liOk {V : XW} (a : Nat) (l : List Value) (σ : Shared) (A : Around) (Q : Value → Shared → Prop) (E : Value → Shared → Prop) (h : okList l = true) (g : σ.heap.get? a = some { cls := .type "list_iterator", dict := none, data := .fields l.toArray, slots := #[] }) (q : Q (.ref a) σ) : wpAny V.M A (pyIter (.ref a)) Q E σ :=
 okList_k h fun x y e => by rw [e] at g; exact wpAny_pyIter_listiter ⟨_, g, rfl, rfl⟩ q
theorem tiOk {V : XW} (a : Nat) (l : List Value) (σ : Shared) (A : Around) (Q : Value → Shared → Prop) (E : Value → Shared → Prop) (h : okList l = true) (g : σ.heap.get? a = some { cls := .type "tuple_iterator", dict := none, data := .fields l.toArray, slots := #[] }) (q : Q (.ref a) σ) : wpAny V.M A (pyIter (.ref a)) Q E σ :=
 okList_k h fun x y e => by rw [e] at g; exact wpAny_pyIter_tupleiter ⟨_, g, rfl, rfl⟩ q
theorem riOk {V : XW} (a : Nat) (l : List Value) (σ : Shared) (A : Around) (Q : Value → Shared → Prop) (E : Value → Shared → Prop) (h : okRange l = true) (g : σ.heap.get? a = some { cls := .type "range_iterator", dict := none, data := .fields l.toArray, slots := #[] }) (q : Q (.ref a) σ) : wpAny V.M A (pyIter (.ref a)) Q E σ :=
 okRange_k h fun x y z e => by rw [e] at g; exact wpAny_pyIter_rangeiter g q
theorem kiOk {V : XW} (a : Nat) (l : List Value) (σ : Shared) (A : Around) (Q : Value → Shared → Prop) (E : Value → Shared → Prop) (h : okKeys l = true) (g : σ.heap.get? a = some { cls := .type "dict_keyiterator", dict := none, data := .fields l.toArray, slots := #[] }) (q : Q (.ref a) σ) : wpAny V.M A (pyIter (.ref a)) Q E σ :=
 okKeys_k h fun x y z u e => by rw [e] at g; exact wpAny_pyIter_keyiter ⟨_, g, rfl, rfl⟩ q
def walT : WalTy := fun q js Γ _ T => Bool.rec (Bool.rec (Bool.rec (Bool.rec (Bool.rec none (walC nKI okKeys js Γ T) (Nat.beq q 7)) (walC nRI okRange js Γ T) (Nat.beq q 6)) (walC nTI okList js Γ T) (Nat.beq q 5)) (walC nLI okList js Γ T) (Nat.beq q 4)) (walTry js Γ) (Nat.beq q 3)
theorem walT_ok {V : XW} {q : Nat} {js : List Nat} {Γ : PySem.Ctx} {p : Pos} {T : MT} {x : WL} (hx : walT q js Γ p T = some x) : WlOk V Γ p T x :=
 inv_b hx (fun hx => inv_b hx (fun hx => inv_b hx (fun hx => inv_b hx (fun hx => inv_b hx (fun hx => nos hx) fun hx => walC_ok nKI_is hx kiOk) fun hx => walC_ok nRI_is hx riOk) fun hx => walC_ok nTI_is hx tiOk) fun hx => walC_ok nLI_is hx liOk) fun hx => walTry_ok hx
end
def hooks : List H1 := [hIn, hApp, hAdd, hLen, hRem, hIdx, hSeqEq nEq nList false, hSeqEq nNe nList true, hTup nTEq false, hTup nTNe true, hDIn, hDGet, hDSet, hDPop,
 hCmp nIEq (fun a b => a == b), hCmp nINe (fun a b => a != b), hCmp nILt (fun a b => decide (a < b)), hCmp nILe (fun a b => decide (a ≤ b)), hCmp nIGt (fun a b => decide (a > b)), hCmp nIGe (fun a b => decide (a ≥ b)), hMul, hMod, hDiv, hTIn, hTGet, hTSet, hTPop]
def nthH (l : List H1) (q : Nat) : Option H1 := List.rec (motive := fun _ => Nat → Option H1) (fun _ => none) (fun f _ ih q => match q with | 0 => some f | q + 1 => ih q) l q
def hsOf (l : List H1) : HsTy := fun q js Γ p T m B c τ i ch => bO (nthH l q) fun f => f js Γ p T m B c τ i ch
theorem nthH_mem : ∀ (l : List H1) (q : Nat) (f : H1), nthH l q = some f → f ∈ l
 | [], _, _, h => by cases h
 | g :: l, 0, f, h => by cases h; exact .head _
 | g :: l, q + 1, f, h => .tail _ (nthH_mem l q f h)
theorem hsOf_ok {V : XW} {l : List H1} (H : ∀ f ∈ l, H1Ok V f) : HsOk V (hsOf l) := fun q js Γ p T m B c τ i ch x e => inv_o e fun f hq e => H f (nthH_mem _ _ _ hq) js Γ p T m B c τ i ch x e
def hkNo : HkTy := fun _ _ _ _ _ _ _ _ _ _ _ => none
def HH (hk : HkTy) : Hk := ⟨hsOf hooks, hk, altT, walT⟩
theorem hooks_ok (V : XW) (O : V.Ok) (hn : 1723 ≤ V.n₀) : ∀ f ∈ hooks, H1Ok V f := by
 unfold hooks
 simp only [List.forall_mem_cons]
 exact ⟨hIn_ok V, hApp_ok V O, hAdd_ok V, hLen_ok V, hRem_ok V O, hIdx_ok V, hEq_ok V, hNe_ok V, hTEq_ok V, hTNe_ok V, hDIn_ok V hn, hDGet_ok V, hDSet_ok V O, hDPop_ok V O,
  hCmp_ok V nIEq_is F.slot_int_eq.plain F.entry_int_eq gives_int_eq, hCmp_ok V nINe_is F.slot_int_ne.plain F.entry_int_ne gives_int_ne, hCmp_ok V nILt_is F.slot_int_lt.plain F.entry_int_lt gives_int_lt,
  hCmp_ok V nILe_is F.slot_int_le.plain F.entry_int_le gives_int_le, hCmp_ok V nIGt_is F.slot_int_gt.plain F.entry_int_gt gives_int_gt, hCmp_ok V nIGe_is F.slot_int_ge.plain F.entry_int_ge gives_int_ge, hMul_ok V, hMod_ok V, hDiv_ok V, hTIn_ok V hn, hTGet_ok V, hTSet_ok V O, hTPop_ok V O, fun _ h => nomatch h⟩
structure HkW (V : XW) (hk : HkTy) : Prop where
 mono : ∀ q js Γ p T m B c τ i ch ps W, hk q js Γ p T m B c τ i ch = some (ps, W) → ∀ F G : KTy, (∀ r T m B c τ i ch js, F r T m B c τ i ch js → G r T m B c τ i ch js) → W F → W G
 ok : ∀ q js Γ p T m B c τ i ch ps W, hk q js Γ p T m B c τ i ch = some (ps, W) → (∀ y ∈ ps, y.1 = y.2) → ∀ R h, Rp V T m (B + c) ch h → W (fun r T m B c τ i ch _ => AtS V R r T m B c τ i ch) → wpCode V.M Γ R p (V.sh h (τ + i))
theorem HH_ok (V : XW) (O : V.Ok) (hn : 1723 ≤ V.n₀) {hk : HkTy} (W : HkW V hk) : HkOk V (HH hk) := ⟨hsOf_ok (hooks_ok V O hn), W.mono, altT_ok, fun _ _ _ _ _ _ => walT_ok, W.ok⟩
theorem hkNo_ok (V : XW) : HkW V hkNo where
 mono := fun _ _ _ _ _ _ _ _ _ _ _ _ _ h => by cases h
 ok := fun _ _ _ _ _ _ _ _ _ _ _ _ _ h => by cases h
def AllP (X : Prop) (n : Nat) : Prop := Nat.rec (motive := fun _ => Prop) X (fun _ ih => ∀ _ : Pos, ih) n
theorem AllP_ok {X : Prop} (h : X) : ∀ n, AllP X n
 | 0 => h
 | n + 1 => fun _ => AllP_ok h n
def tt (n : Nat) : Prop := Nat.rec (motive := fun _ => Prop) True (fun _ ih => (true = true) ∧ ih) n
theorem tt_ok : ∀ n, tt n
 | 0 => trivial
 | n + 1 => ⟨rfl, tt_ok n⟩
theorem Rp.weaken {V : XW} {T T' : MT} {m m' b : Nat} {ch : Ch} {h : Heap} (D : Rp V T' m' b ch h) (H : ∀ j x, T.get j = some x → j < m ∧ T'.get j = some x) : Rp V T m b ch h :=
 ⟨D.size, D.low, fun j a o e => let q := H j _ e; ⟨q.1, (D.own j a o q.2).2⟩, fun i j a o o' e1 e2 => D.one i j a o o' (H i _ e1).2 (H j _ e2).2, D.keep, D.ch, D.exk, fun j a o e => D.exo j a o (H j _ e).2⟩
def TL (sa fa la : Nat) (o0 o1 o2 : Obj) : MT := .node sa o0 (.node fa o1 .nil .nil) (.node la o2 .nil .nil)
theorem TL_get {sa fa la : Nat} {o0 o1 o2 : Obj} {j : Nat} {x : Nat × Obj} (h : (TL sa fa la o0 o1 o2).get j = some x) : (j = 0 ∧ x = (sa, o0)) ∨ (j = 1 ∧ x = (fa, o1)) ∨ (j = 2 ∧ x = (la, o2)) := by
 unfold TL at h
 rw [MT.get_node] at h
 split at h
 ·rename_i e; cases h; exact .inl ⟨e, rfl⟩
 ·split at h
  ·rename_i e1 e2
   rw [MT.get_node] at h
   split at h
   ·cases h; exact .inr (.inl ⟨by omega, rfl⟩)
   ·split at h <;> cases h
  ·rename_i e1 e2
   rw [MT.get_node] at h
   split at h
   ·cases h; exact .inr (.inr ⟨by omega, rfl⟩)
   ·split at h <;> cases h
abbrev VL := Result × Option (Nat × Obj) × Option (Nat × Obj) × Option (Nat × Obj) × Nat × Nat × Nat × Nat × Ch
def viewL (r : Result) (T : MT) (B c τ i : Nat) (ch : Ch) : VL := (r, T.get 0, T.get 1, T.get 2, B, c, τ, i, ch)
def endL (X : VL) : KTy := fun r T _ B c τ i ch _ => viewL r T B c τ i ch = X
def ΓL (f : Nat) (args : List Value) (b : List Stmt) (env : Env) (p1 p2 : Pos) : PySem.Ctx := ⟨.call (.ref f) ⟨args, []⟩, none, none, [(.func b env, p1), (.builtin "claim.caller" {}, p2)], none⟩
def srcO (s0 : Int) (u0 : Nat) (s1 : Int) (u1 : Nat) : Obj := listO #[.int s0 u0, .int s1 u1]
structure Bd (s0 s1 : Int) : Prop where
 p0 : 0 ≤ s0
 p1 : 0 ≤ s1
 l1 : s1 < 2147483647
def AL (N sa fa la : Nat) (i : Nat) : Nat := match i with
 | 0 => sa
 | 1 => fa
 | 2 => la
 | i + 3 => N + 1723 + i
def zer (k : Nat) (l : List Nat) : List Nat := Nat.rec (motive := fun _ => List Nat) l (fun _ ih => 0 :: ih) k
def decN (tl : List Nat) (n : Nat) : List Nat := Nat.rec (motive := fun _ => Nat → List Nat) (fun _ => tl) (fun _ ih n => match Nat.beq n 1 with | true => tl | false => match Nat.blt (n % 256) 120 with | true => (n % 256) :: ih (n / 256) | false => match Nat.blt (n % 256) 128 with | true => zer (n % 256 - 118) (ih (n / 256)) | false => ((n % 256 - 128) * 256 + n / 256 % 256) :: ih (n / 65536)) 64 n
def dec (l : List Nat) : List Nat := List.rec (motive := fun _ => List Nat) [] (fun n _ ih => decN ih n) l
def z0 : List Nat := dec [0x1151511111100137913001378137a1315150200151515151515151515151515151515151515151515157d1300137d7f7f7f027d02000d0d0d0d7b0279, 0x1151511111100137913001378137a13151511111100137913001378137a13151511111100137913001378137a13151511111100137913001378137a13, 0x1151511111100137913001378137a13151511111100137913001378137a13151511111100137913001378137a13151511111100137913001378137a13, 0x17919001978197a191b1b17171700197919001978197a191b1b02001b1b1b1b1b1b1b1b1b1b7d1900197c7f7f7f0d0d11111100137913001378137a13, 0x121211d1d1d001f791f001f781f7a1f21211d1d1d001f791f001f781f7a1f21217b21782102002121212121217d1f001f7c7f7f7f1b1b001717170019, 0x1002778277a2729020029297d270027787f7f7f17171700197919001978197a191b1d1d1d001f791f001f781f7a1f211d1d1d001f791f001f781f7a1f, 0x100197919001978197a191b17171700197919001978197a191b17171700197919001978197a191b25252500277927002778277a272925252500277927, 0x13978397a393b3b02003b3b3b3b3b3b3b3b3b3b3b3b3b3b3b3b3b3b3b3b3b3b7d3900397d7f7f7f027d027c17171700197919001978197a191b171717, 0x13978397a393b3b37373700397939003978397a393b3b37373700397939003978397a393b3b37373700397939003978397a393b3b3737370039793900, 0x13978397a393b3b37373700397939003978397a393b3b37373700397939003978397a393b3b37373700397939003978397a393b3b3737370039793900, 0x1454541414100437943004378437a4345450200454545454545454545457d4300437c7f7f7f37373700397939003978397a393b3b3737370039793900, 0x13979397a39453700393979397a3945450041414100437943004378437a43450041414100437943004378437a43454541414100437943004378437a43, 0x14700497949004978497a494b4b47474700497949004978497a494b4b02004b4b4b4b4b4b4b4b4b4b7d4900497c7f7f7f3700393979397a3945370039, 0x14700497949004978497a494b4b47474700497949004978497a494b4b47474700497949004978497a494b4b47474700497949004978497a494b4b4747, 0x14d4d004f794f004f784f7a4f514d4d4d004f794f004f784f7a4f514d4d4d004f794f004f784f7a4f51510200515151517d4f004f7c7f7f7f4b004747, 0x1570200575757577d5500557c7f7f7f4b0047474700497949004978497a494b4d4d4d004f794f004f784f7a4f514d4d4d004f794f004f784f7a4f514d, 0x1494b47474700497949004978497a494b47474700497949004978497a494b53535300557955005578557a555753535300557955005578557a55575778, 0x10059597a450041414100437943004378437a434541414100437943004378437a434547474700497949004978497a494b47474700497949004978497a, 0x15b005d795d005d785d7a5d5f5f02005f5f5f5f5f5f5f5f7d5d005d7c7f7f7f3700393979397a39593700393979397a39593700393979397a39590002, 0x15b5b5b005d795d005d785d7a5d5f5b5b5b005d795d005d785d7a5d5f5b5b5b005d795d005d785d7a5d5f5f5b5b5b005d795d005d785d7a5d5f5f5b5b, 0x1656561616100637963006378637a63656502006565656565657d6300637c7f7f7f3700393979397a3959590059595b5b5b005d795d005d785d7a5d5f, 0x178437a434561616100637963006378637a636561616100637963006378637a636561616100637963006378637a636561616100637963006378637a63, 0x16b6b6b6b6b7d6900697e7f7f7f3700393979397a39453700393979397a3945783700393979397a39453700393979397a394500414141004379430043, 0x17969006978697a696b6b67676700697969006978697a696b6b67676700697969006978697a696b6b67676700697969006978697a696b6b02006b6b6b, 0x1676700697969006978697a696b67676700697969006978697a696b67676700697969006978697a696b67676700697969006978697a696b6767670069, 0x16f786f7a6f716d6d6d006f796f006f786f7a6f71710200717171717d6f006f7c7f7f7f3700393979397a39450041414100437943004378437a434567, 0x177777e750075787f7f7f41414100437943004378437a43456d6d6d006f796f006f786f7a6f716d6d6d006f796f006f786f7a6f716d6d6d006f796f00, 0x1007d807d807d80007d80007f807f807b807b807b807b807b807b807b80007b80007b80007b802c7b807980798079800079800079807980798000798000798079807a777873737300757975007578757a75777702007777, 0x1007d807d807d80007d80007f807f807b807b807b807b807b807b807b80007b80007b80007d807d807d80007d80007f807f807b807b807b807b807b807b807b80007b80007b80007d807d807d80007d80007f807f807b807b807b807b807b807b807b80007b80007b80, 0x1007d807d807d80007d80007f807f807b807b807b807b807b807b807b80007b80007b80007d807d807d80007d80007f807f807b807b807b807b807b807b807b80007b80007b80007d807d807d80007d80007f807f807b807b807b807b807b807b807b80007b80007b80, 0x1007d807d807d80007d80007f807f807b807b807b807b807b807b807b80007b80007b80007d807d807d80007d80007f807f807b807b807b807b807b807b807b80007b80007b80007d807d807d80007d80007f807f807b807b807b807b807b807b807b80007b80007b80, 0x1007d807d807d80007d80007f807f807b807b807b807b807b807b807b80007b80007b80007d807d807d80007d80007f807f807b807b807b807b807b807b807b80007b80007b80007d807d807d80007d80007f807f807b807b807b807b807b807b807b80007b80007b80, 0x1007d807d807d80007d80007f807f807b807b807b807b807b807b807b80007b80007b80007d807d807d80007d80007f807f807b807b807b807b807b807b807b80007b80007b80007d807d807d80007d80007f807f807b807b807b807b807b807b807b80007b80007b80, 0x1007578757a757773737300757975007578757a757773737300757975007578757a757773737300757975007578757a75777f807f807f80a3807b807b807b80007b80007b80, 0x100437943004378437a434541414100437943004378437a434541414100437943004378437a434573737300757975007578757a757773737300757975, 0x100ab8000ab80ab80ab80a980ab80ab8000ab8000ab80ab80ab80a980ab80ab8000ab8000ab80ab8000a98000a980a980a98041414100437943004378437a434541414100437943004378437a4345414141, 0x1b180bb80bb8000bb8000bb80bb80bb80b180bb80bb8000bb8000bb80bb80bb80b180bb80bb8000bb8000bb80bb8000b18000b180b180b180b980b980b980b780b980b98000b98000b98002b98000b78000b780b7807909090b0baf80ab80ab80a980ab80ab80, 0x1437a43d5800200d580d580d580d5807a0917197a19791979190b0200cd80cf8000cf80d1801a00d180d180d180d180797f070041414100437943004378437a43090707070707bf80bb80bb80, 0x1030707d180d180d380d380d580d580d980d580d58000d98000d980d98000d980d980dd80dd80dd80d98000d9807bd98000d98078d9807cd980db80db800200db80db80db80db807fd98000d9807c7f7f7f4100434379]
def z1 : List Nat := dec [0x17a1bcd800200cd80cd80cd80cd80cd80cd807acb80cb80191b7a1b791b791bcb800231403100313119001b1b791b7a1bcb80cb800200cb80cb80cb80cb80cb80cb807a09191b7a1b791b791b0d78, 0x1d180d380d38000d38000d38002d38000d18000d180d1804f4d4f004d004d4f4d4700494979497a49cd804700494979497a49cd80cd80cd80cd80cd800031463100313131cd8019001b1b791b, 0x100e18000e18002e18000df8000df80df802700292979297a29d9802700292979297a29d980d980d9800200db80db80d980d9807acd8027297a297929792919001b1b791b7a1bcd8000d780d380d380, 0x1e180df80e180e18000e18000e1800200f180ed80ed80e580ed80ed8000ed8000ed8002ed8000e58000e580e580e780eb80e380e380e3802d2de380e38000e38000e38000e38032e3802d2d2d002d002d2ddd80dd80dd80e180e180df80e180e180, 0x1f380f38000f38000f38000f580f580f58000f58000f78078db806d5945452f94802f002f2f2ff780dd80f780f780f380f380f380f380f3802f2ff380f38000f38000f38000f38032f3802f2f2f002f002f2fdd80dd80dd80e180, 0x1f380f38000f38000f38079db806d59456d2f94802f002f2f2ff780dd80f780f780f380f380f380f380f3802f2ff380f38000f38000f38079db806d5945592f94802f002f2f2ff780dd80f780f780f380f380f380f380f3802f2f, 0x100e18002000181fd80fd80f580fd80fd8000fd8000fd8002d980d98078d9806d5945452fa0802f00d9802f2f2f2fdd80d980d980fd80fd80f580fd80fd8000fd8000fd8002fd8000f58000f580f580f780f780f780fb80f380f380f3802f2f, 0x10981020009810981098109817a09191b7a1b791b791b0d020781cf802ecf8000cf800781cf80070707cd800031523100cd803131313119001b1b791b7a1bcd80d980000581e180e180df80e180e18000e180, 0x10b27297a297929792919001b1b791b7a1b0d020d810b813a0b81000b810d810b817833403300333319001b1b791b7a1b098109810031403100313119001b1b791b7a1b0981, 0x10019813219812f2f2f002f002f2f2700292979297a290f817917811381138113812d2d138113810013810013810213812d2d2d002d002d2d2700292979297a290f810200118111810f810f817a, 0x11b811b81001b817911816d006d006d6d6d1d811d811d81198119811981198119812f2f19811981001981001981001b811b811b81001b81791181590059005959591d811d811d81198119811981198119812f2f19811981001981001981, 0x1398139817e95807c2781238123811b812381238100238100238100238123811b812381238100238100238100238123811b8123812381002381002381002381001b81001b811b81781d811d811d8121811981198119812f2f19811981001981001981001b81, 0x143814381020043814381438143817f41810041817b7f7f7f31403100313119001b1b791b7a1b3d813d8102003d813d813d813d817a09191b7a1b791b791b0d02003581378100378139811a0039813981, 0x14b814b8141814181418139814981498149814181498149814181418141813b8147814781478141813b813b81004781478141814181418107398139813b813b813d813d8141813d813d810041810041814181004181418145814581458141810041817b41810041817841817c4181, 0x131403100313119001b1b791b7a1b6181618102006181618161816181618161817a09191b7a1b791b791b0d020059815b81005b815d811a005d815d815d815d817e358195807c4b814b81418178418179398100, 0x17f7f7f33403300333319001b1b791b7a1b65816581020065816581658165817a6381191b7a1b791b791b63810200638163816381638163816381638163817a6181006181191b7a1b791b791b618100, 0x16f816f81698163816381006f816f81698169816981075d815d815f815f81618161816381638165816581698165816581006981006981698100698169816d816d816d8169810069817b69810069817869817c69816b816b8102006b816b816b816b817f69810069817b, 0x1191b7a1b791b791b0d778177816981786981795d8100778177816981698169815d817581758175816981758175816981698169815f8173817381738169815f815f8100738173816981698169816181718171817181698161816181007181718169816981698163816f81, 0x1798119001b1b791b7a1b7b81191919001b791b001b781b7a1b7b817819001b1b791b7a1b7b8102007b817b817a191b7a1b791b791b79810200798179817981798179817981798179817a0b, 0x12979297a297d817d816d59007f812f8e802f002f2f2700292979297a297d817d817d8102007d817d817d817d817d817d817d817d817a79817981798127297a297929792919001b1b791b7a1b79817981, 0x10085817885817a8581878187818381838183810085817985810085817885817a8581878187810200878187818781878187818781878187817d85810085817c7f7f7f798179817981006d590081812f9a802f002f2f7d817d81270029, 0x1798119001b1b791b7a1b79818381838183810085817985810085817885817a858187818381838183810085817985810085817885817a858187818381838183810085817985810085817885817a858187818781838183818381008581798581, 0x18d818d81008d81008d817831403100313119001b1b791b7a1b0d9181918191818d818d81398d818d81008d81008d81008d81208d810039003939070039043900393907798100314c31003131, 0x10091810231403100313119001b1b791b7a1b0d9181918191818d818d81398d818d81008d81008d81008f818f818f81008f810091810231403100313119001b1b791b7a1b0d9181918191818d818d8139, 0x19981009b8178099b819b819b8197819781399781978100978100978179099b819b819b8197819781399781978100978100978100978120978100390039390791819181918195818d818d81398d818d81008d81008d81008f818f818f81008f81, 0x10299818f81288f81008f8199818f819b819b819b819f8197819781399781978100978100978100998199819981009981009b8178099b819b819b819781978139978197810097810097810099819981998100]
def z2 : List Nat := dec [0x17a1bcd800200cd80cd80cd80cd80cd80cd807acb80cb80191b7a1b791b791bcb800231403100313119001b1b791b7a1bcb80cb800200cb80cb80cb80cb80cb80cb807a09191b7a1b791b791b0d78, 0x1d180d380d38000d38000d38002d38000d18000d180d1806361630061006163615b005d5d795d7a5dcd805b005d5d795d7a5dcd80cd80cd80cd80cd800031463100313131cd8019001b1b791b, 0x100e18000e18002e18000df8000df80df802700292979297a29d9802700292979297a29d980d980d9800200db80db80d980d9807acd8027297a297929792919001b1b791b7a1bcd8000d780d380d380, 0x1e180df80e180e18000e18000e1800200f180ed80ed80e580ed80ed8000ed8000ed8002ed8000e58000e580e580e780eb80e380e380e3802d2de380e38000e38000e38000e38032e3802d2d2d002d002d2ddd80dd80dd80e180e180df80e180e180, 0x1f780f380f380f380f380f3802f2ff380f38000f38000f38079db806d5945452f94802f002f2f2ff780dd80f780f780f380f380f380f380f3802f2ff380f38000f38000f38000f38032f3802f2f2f002f002f2fdd80dd80dd80e180, 0x1f380f38000f38000f38079db806d59456d2f94802f002f2f2ff780dd80f780f780f380f380f380f380f3802f2ff380f38000f38000f38000f580f580f58000f58000f78078db806d5945592f94802f002f2f2ff780dd80f780, 0x100e18002000181fd80fd80f580fd80fd8000fd8000fd8002d980d98078d9806d5945592fa0802f00d9802f2f2f2fdd80d980d980fd80fd80f580fd80fd8000fd8000fd8002fd8000f58000f580f580f780f780f780fb80f380f380f3802f2f, 0x10981020009810981098109817a09191b7a1b791b791b0d020781cf802ecf8000cf800781cf80070707cd800031523100cd803131313119001b1b791b7a1bcd80d980000581e180e180df80e180e18000e180, 0x10b27297a297929792919001b1b791b7a1b0d020d810b813a0b81000b810d810b817833403300333319001b1b791b7a1b098109810031403100313119001b1b791b7a1b0981, 0x10019813219812f2f2f002f002f2f2700292979297a290f817917811381138113812d2d138113810013810013810213812d2d2d002d002d2d2700292979297a290f810200118111810f810f817a, 0x11b811b81001b817911816d006d006d6d6d1d811d811d81198119811981198119812f2f19811981001981001981001b811b811b81001b81791181450045004545451d811d811d81198119811981198119812f2f19811981001981001981, 0x1398139817e95807c2781238123811b812381238100238100238100238123811b812381238100238100238100238123811b8123812381002381002381002381001b81001b811b81781d811d811d8121811981198119812f2f19811981001981001981001b81, 0x143814381020043814381438143817f41810041817b7f7f7f31403100313119001b1b791b7a1b3d813d8102003d813d813d813d817a09191b7a1b791b791b0d02003581378100378139811a0039813981, 0x14b814b8141814181418139814981498149814181498149814181418141813b8147814781478141813b813b81004781478141814181418107398139813b813b813d813d8141813d813d810041810041814181004181418145814581458141810041817b41810041817841817c4181, 0x131403100313119001b1b791b7a1b6181618102006181618161816181618161817a09191b7a1b791b791b0d020059815b81005b815d811a005d815d815d815d817e358195807c4b814b81418178418179398100, 0x17f7f7f33403300333319001b1b791b7a1b65816581020065816581658165817a6381191b7a1b791b791b63810200638163816381638163816381638163817a6181006181191b7a1b791b791b618100, 0x16f816f81698163816381006f816f81698169816981075d815d815f815f81618161816381638165816581698165816581006981006981698100698169816d816d816d8169810069817b69810069817869817c69816b816b8102006b816b816b816b817f69810069817b, 0x1191b7a1b791b791b0d778177816981786981795d8100778177816981698169815d817581758175816981758175816981698169815f8173817381738169815f815f8100738173816981698169816181718171817181698161816181007181718169816981698163816f81, 0x1798119001b1b791b7a1b7b81191919001b791b001b781b7a1b7b817819001b1b791b7a1b7b8102007b817b817a191b7a1b791b791b79810200798179817981798179817981798179817a0b, 0x12979297a297d817d816d45007f812f8e802f002f2f2700292979297a297d817d817d8102007d817d817d817d817d817d817d817d817a79817981798127297a297929792919001b1b791b7a1b79817981, 0x10085817885817a8581878187818381838183810085817985810085817885817a8581878187810200878187818781878187818781878187817d85810085817c7f7f7f798179817981006d450081812f9a802f002f2f7d817d81270029, 0x1798119001b1b791b7a1b79818381838183810085817985810085817885817a858187818381838183810085817985810085817885817a858187818381838183810085817985810085817885817a858187818781838183818381008581798581, 0x18f818f81008f810091810231403100313119001b1b791b7a1b0d9181918191818d818d81398d818d81008d81008d81008d81208d810039003939070039043900393907798100314c31003131, 0x10091810231403100313119001b1b791b7a1b0d9181918191818d818d81398d818d81008d81008d817831403100313119001b1b791b7a1b0d9181918191818d818d81398d818d81008d81008d81008f81, 0x197819781399781978100978100978100998199819981009981009b8178099b819b819b8197819781399781978100978100978100978120978100390039390791819181918195818d818d81398d818d81008d81008d81008f818f818f81008f81, 0x10299818f81288f81008f8199818f819b819b819b819f8197819781399781978100978100978100998199819981009981009b8178099b819b819b8197819781399781978100978100978179099b819b819b81]
def z3 : List Nat := dec [0x17a1bcd800200cd80cd80cd80cd80cd80cd807acb80cb80191b7a1b791b791bcb800231403100313119001b1b791b7a1bcb80cb800200cb80cb80cb80cb80cb80cb807a09191b7a1b791b791b0d78, 0x1d180d380d38000d38000d38002d38000d18000d180d1807775770075007577756f00717179717a71cd806f00717179717a71cd80cd80cd80cd80cd800031463100313131cd8019001b1b791b, 0x100e18000e18002e18000df8000df80df802700292979297a29d9802700292979297a29d980d980d9800200db80db80d980d9807acd8027297a297929792919001b1b791b7a1bcd8000d780d380d380, 0x1e180df80e180e18000e18000e1800200f180ed80ed80e580ed80ed8000ed8000ed8002ed8000e58000e580e580e780eb80e380e380e3802d2de380e38000e38000e38000e38032e3802d2d2d002d002d2ddd80dd80dd80e180e180df80e180e180, 0x1f780f380f380f380f380f3802f2ff380f38000f38000f38079db806d5945452f94802f002f2f2ff780dd80f780f780f380f380f380f380f3802f2ff380f38000f38000f38000f38032f3802f2f2f002f002f2fdd80dd80dd80e180, 0x1f380f38000f38000f38000f580f580f58000f58000f78078db806d59456d2f94802f002f2f2ff780dd80f780f780f380f380f380f380f3802f2ff380f38000f38000f38079db806d5945592f94802f002f2f2ff780dd80f780, 0x100e18002000181fd80fd80f580fd80fd8000fd8000fd8002d980d98078d9806d59456d2fa0802f00d9802f2f2f2fdd80d980d980fd80fd80f580fd80fd8000fd8000fd8002fd8000f58000f580f580f780f780f780fb80f380f380f3802f2f, 0x10981020009810981098109817a09191b7a1b791b791b0d020781cf802ecf8000cf800781cf80070707cd800031523100cd803131313119001b1b791b7a1bcd80d980000581e180e180df80e180e18000e180, 0x10b27297a297929792919001b1b791b7a1b0d020d810b813a0b81000b810d810b817833403300333319001b1b791b7a1b098109810031403100313119001b1b791b7a1b0981, 0x10019813219812f2f2f002f002f2f2700292979297a290f817917811381138113812d2d138113810013810013810213812d2d2d002d002d2d2700292979297a290f810200118111810f810f817a, 0x11b811b81001b81791181590059005959591d811d811d81198119811981198119812f2f19811981001981001981001b811b811b81001b81791181450045004545451d811d811d81198119811981198119812f2f19811981001981001981, 0x1398139817e95807c2781238123811b812381238100238100238100238123811b812381238100238100238100238123811b8123812381002381002381002381001b81001b811b81781d811d811d8121811981198119812f2f19811981001981001981001b81, 0x143814381020043814381438143817f41810041817b7f7f7f31403100313119001b1b791b7a1b3d813d8102003d813d813d813d817a09191b7a1b791b791b0d02003581378100378139811a0039813981, 0x14b814b8141814181418139814981498149814181498149814181418141813b8147814781478141813b813b81004781478141814181418107398139813b813b813d813d8141813d813d810041810041814181004181418145814581458141810041817b41810041817841817c4181, 0x131403100313119001b1b791b7a1b6181618102006181618161816181618161817a09191b7a1b791b791b0d020059815b81005b815d811a005d815d815d815d817e358195807c4b814b81418178418179398100, 0x17f7f7f33403300333319001b1b791b7a1b65816581020065816581658165817a6381191b7a1b791b791b63810200638163816381638163816381638163817a6181006181191b7a1b791b791b618100, 0x16f816f81698163816381006f816f81698169816981075d815d815f815f81618161816381638165816581698165816581006981006981698100698169816d816d816d8169810069817b69810069817869817c69816b816b8102006b816b816b816b817f69810069817b, 0x1191b7a1b791b791b0d778177816981786981795d8100778177816981698169815d817581758175816981758175816981698169815f8173817381738169815f815f8100738173816981698169816181718171817181698161816181007181718169816981698163816f81, 0x1798119001b1b791b7a1b7b81191919001b791b001b781b7a1b7b817819001b1b791b7a1b7b8102007b817b817a191b7a1b791b791b79810200798179817981798179817981798179817a0b, 0x12979297a297d817d815945007f812f8e802f002f2f2700292979297a297d817d817d8102007d817d817d817d817d817d817d817d817a79817981798127297a297929792919001b1b791b7a1b79817981, 0x10085817885817a8581878187818381838183810085817985810085817885817a8581878187810200878187818781878187818781878187817d85810085817c7f7f7f7981798179810059450081812f9a802f002f2f7d817d81270029, 0x1798119001b1b791b7a1b79818381838183810085817985810085817885817a858187818381838183810085817985810085817885817a858187818381838183810085817985810085817885817a858187818781838183818381008581798581, 0x18f818f81008f810091810231403100313119001b1b791b7a1b0d9181918191818d818d81398d818d81008d81008d81008d81208d810039003939070039043900393907798100314c31003131, 0x13119001b1b791b7a1b0d9181918191818d818d81398d818d81008d81008d81008f818f818f81008f810091810231403100313119001b1b791b7a1b0d9181918191818d818d81398d818d81008d81008d81008f81, 0x197819781399781978100978100978100998199819981009981009b8178099b819b819b8197819781399781978100978100978100978120978100390039390791819181918195818d818d81398d818d81008d81008d81783140310031, 0x10299818f81288f81008f8199818f819b819b819b819f8197819781399781978100978100978179099b819b819b8197819781399781978100978100978100998199819981009981009b8178099b819b819b81]
def z4 : List Nat := dec [0x17a1bb9800200b980b980b980b980b980b9807ab780b780191b7a1b791b791bb7800231403100313119001b1b791b7a1bb780b7800200b780b780b780b780b780b7807a09191b7a1b791b791b0d78, 0x1bd80bf80bf8000bf8000bf8002bf8000bd8000bd80bd804f4d4f004d004d4f4d4700494979497a49b9804700494979497a49b980b980b980b980b9800031463100313131b98019001b1b791b, 0x100cd8000cd8002cd8000cb8000cb80cb802700292979297a29c5802700292979297a29c580c580c5800200c780c780c580c5807ab98027297a297929792919001b1b791b7a1bb98000c380bf80bf80, 0x1cd80cb80cd80cd8000cd8000cd800200dd80d980d980d180d980d98000d98000d98002d98000d18000d180d180d380d780cf80cf80cf802d2dcf80cf8000cf8000cf8000cf8032cf802d2d2d002d002d2dc980c980c980cd80cd80cb80cd80cd80, 0x12fdf80df8000df8000df8000e180e180e18000e18000e38078c7805945452f94802f002f2f2fe380c980e380e380df80df80df80df80df802f2fdf80df8000df8000df8000df8032df802f2f2f002f002f2fc980c980c980cd80, 0x12f2f2f2fc980c580c580e980e980e180e980e98000e98000e98002e98000e18000e180e180e380e380e380e780df80df80df802f2fdf80df8000df8000df8079c7805945592f94802f002f2f2fe380c980e380e380df80df80df80df80df802f, 0x1070707b9800031523100b9803131313119001b1b791b7a1bb980c58000f180cd80cd80cb80cd80cd8000cd8000cd800200ed80e980e980e180e980e98000e98000e98002c580c58078c5805945452fa0802f00c580, 0x17833403300333319001b1b791b7a1bf580f5800031403100313119001b1b791b7a1bf580f5800200f580f580f580f5807a09191b7a1b791b791b0d02f380bb802ebb8000bb80f380bb80, 0x12dff80ff8000ff8000ff8002ff802d2d2d002d002d2d2700292979297a29fb800200fd80fd80fb80fb807a0b27297a297929792919001b1b791b7a1b0d02f980f7803af78000f780f980f780, 0x10005810007810781078100078179fd8059005900595959098109810981058105810581058105812f2f058105810005810005810005813205812f2f2f002f002f2f2700292979297a29fb80790381ff80ff80ff802d, 0x1791b0d02002181238100238125811a0025812581258125817e81807c13810f810f8107810f810f81000f81000f81000f810f8107810f810f81000f81000f81000f810007810007810781780981098109810d810581058105812f2f05810581000581, 0x13181318131812d81002d817b2d81002d81782d817c2d812f812f8102002f812f812f812f817f2d81002d817b7f7f7f31403100313119001b1b791b7a1b29812981020029812981298129817a09191b7a1b791b, 0x1498149817e218181807c378137812d81782d8179258100378137812d812d812d8125813581358135812d81358135812d812d812d8127813381338133812d812781278100338133812d812d812d81072581258127812781298129812d8129812981002d81002d812d81002d812d81, 0x17a4d81004d81191b7a1b791b791b4d810031403100313119001b1b791b7a1b4d814d8102004d814d814d814d814d814d817a09191b7a1b791b791b0d02004581478100478149811a0049814981, 0x1558157815781020057815781578157817f55810055817b7f7f7f33403300333319001b1b791b7a1b51815181020051815181518151817a4f81191b7a1b791b791b4f8102004f814f814f814f814f814f814f814f81, 0x15d815d815d8155814d814d81005d815d815581558155814f815b815b815b8155814f814f81005b815b8155815581558107498149814b814b814d814d814f814f81518151815581518151810055810055815581005581558159815981598155810055817b55810055817855817c, 0x11b65810200658165816581658165816581658165817a0b191b7a1b791b791b0d638163815581785581794981006381638155815581558149816181618161815581618161815581558155814b815f815f815f8155814b814b81005f815f815581558155814d81, 0x17929792919001b1b791b7a1b65816581658119001b1b791b7a1b6781191919001b791b001b781b7a1b67817819001b1b791b7a1b67810200678167817a191b7a1b791b79, 0x10059006d812f9a802f002f2f698169812700292979297a296981698159006b812f8e802f002f2f2700292979297a296981698169810200698169816981698169816981698169817a65816581658127297a29, 0x171810071817871817a7181738173816f816f816f810071817971810071817871817a7181738173816f816f816f810071817971810071817871817a7181738173810200738173817381738173817381738173817d71810071817c7f7f7f658165816581, 0x10039043900393907658100314c31003131658119001b1b791b7a1b65816f816f816f810071817971810071817871817a718173816f816f816f810071817971810071817871817a718173816f816f816f8100718179, 0x13119001b1b791b7a1b0d7d817d817d817981798139798179810079810079817831403100313119001b1b791b7a1b0d7d817d817d81798179813979817981007981007981007981207981003900393907, 0x183818381398381838100838100838179098781878187818381838139838183810083810083810083812083810039003939077d817d817d818181798179813979817981007981007981007b817b817b81007b81007d81023140310031, 0x10285817b81287b81007b8185817b818781878187818b81838183813983818381008381008381008581858185810085810087817809878187818781]
def z5 : List Nat := dec [0x17a1bb9800200b980b980b980b980b980b9807ab780b780191b7a1b791b791bb7800231403100313119001b1b791b7a1bb780b7800200b780b780b780b780b780b7807a09191b7a1b791b791b0d78, 0x1bd80bf80bf8000bf8000bf8002bf8000bd8000bd80bd806361630061006163615b005d5d795d7a5db9805b005d5d795d7a5db980b980b980b980b9800031463100313131b98019001b1b791b, 0x100cd8000cd8002cd8000cb8000cb80cb802700292979297a29c5802700292979297a29c580c580c5800200c780c780c580c5807ab98027297a297929792919001b1b791b7a1bb98000c380bf80bf80, 0x1cd80cb80cd80cd8000cd8000cd800200dd80d980d980d180d980d98000d98000d98002d98000d18000d180d180d380d780cf80cf80cf802d2dcf80cf8000cf8000cf8000cf8032cf802d2d2d002d002d2dc980c980c980cd80cd80cb80cd80cd80, 0x1e380e380df80df80df80df80df802f2fdf80df8000df8000df8079c7805945452f94802f002f2f2fe380c980e380e380df80df80df80df80df802f2fdf80df8000df8000df8000df8032df802f2f2f002f002f2fc980c980c980cd80, 0x12f2f2f2fc980c580c580e980e980e180e980e98000e98000e98002e98000e18000e180e180e380e380e380e780df80df80df802f2fdf80df8000df8000df8000e180e180e18000e18000e38078c7805945592f94802f002f2f2fe380c980, 0x1070707b9800031523100b9803131313119001b1b791b7a1bb980c58000f180cd80cd80cb80cd80cd8000cd8000cd800200ed80e980e980e180e980e98000e98000e98002c580c58078c5805945592fa0802f00c580, 0x17833403300333319001b1b791b7a1bf580f5800031403100313119001b1b791b7a1bf580f5800200f580f580f580f5807a09191b7a1b791b791b0d02f380bb802ebb8000bb80f380bb80, 0x12dff80ff8000ff8000ff8002ff802d2d2d002d002d2d2700292979297a29fb800200fd80fd80fb80fb807a0b27297a297929792919001b1b791b7a1b0d02f980f7803af78000f780f980f780, 0x10005810007810781078100078179fd8045004500454545098109810981058105810581058105812f2f058105810005810005810005813205812f2f2f002f002f2f2700292979297a29fb80790381ff80ff80ff802d, 0x1791b0d02002181238100238125811a0025812581258125817e81807c13810f810f8107810f810f81000f81000f81000f810f8107810f810f81000f81000f81000f810007810007810781780981098109810d810581058105812f2f05810581000581, 0x13181318131812d81002d817b2d81002d81782d817c2d812f812f8102002f812f812f812f817f2d81002d817b7f7f7f31403100313119001b1b791b7a1b29812981020029812981298129817a09191b7a1b791b, 0x1498149817e218181807c378137812d81782d8179258100378137812d812d812d8125813581358135812d81358135812d812d812d8127813381338133812d812781278100338133812d812d812d81072581258127812781298129812d8129812981002d81002d812d81002d812d81, 0x17a4d81004d81191b7a1b791b791b4d810031403100313119001b1b791b7a1b4d814d8102004d814d814d814d814d814d817a09191b7a1b791b791b0d02004581478100478149811a0049814981, 0x1558157815781020057815781578157817f55810055817b7f7f7f33403300333319001b1b791b7a1b51815181020051815181518151817a4f81191b7a1b791b791b4f8102004f814f814f814f814f814f814f814f81, 0x15d815d815d8155814d814d81005d815d815581558155814f815b815b815b8155814f814f81005b815b8155815581558107498149814b814b814d814d814f814f81518151815581518151810055810055815581005581558159815981598155810055817b55810055817855817c, 0x11b65810200658165816581658165816581658165817a0b191b7a1b791b791b0d638163815581785581794981006381638155815581558149816181618161815581618161815581558155814b815f815f815f8155814b814b81005f815f815581558155814d81, 0x17929792919001b1b791b7a1b65816581658119001b1b791b7a1b6781191919001b791b001b781b7a1b67817819001b1b791b7a1b67810200678167817a191b7a1b791b79, 0x10045006d812f9a802f002f2f698169812700292979297a296981698145006b812f8e802f002f2f2700292979297a296981698169810200698169816981698169816981698169817a65816581658127297a29, 0x171810071817871817a7181738173816f816f816f810071817971810071817871817a7181738173816f816f816f810071817971810071817871817a7181738173810200738173817381738173817381738173817d71810071817c7f7f7f658165816581, 0x10039043900393907658100314c31003131658119001b1b791b7a1b65816f816f816f810071817971810071817871817a718173816f816f816f810071817971810071817871817a718173816f816f816f8100718179, 0x11b0d7d817d817d81798179813979817981007981007981007b817b817b81007b81007d810231403100313119001b1b791b7a1b0d7d817d817d81798179813979817981007981007981007981207981003900393907, 0x183810085818581858100858100878178098781878187818381838139838183810083810083810083812083810039003939077d817d817d8181817981798139798179810079810079817831403100313119001b1b791b7a, 0x10285817b81287b81007b8185817b818781878187818b81838183813983818381008381008381790987818781878183818381398381838100838100]
def z6 : List Nat := dec [0x17a1ba5800200a580a580a580a580a580a5807aa380a380191b7a1b791b791ba3800231403100313119001b1b791b7a1ba380a3800200a380a380a380a380a380a3807a09191b7a1b791b791b0d78, 0x1a980ab80ab8000ab8000ab8002ab8000a98000a980a9804f4d4f004d004d4f4d4700494979497a49a5804700494979497a49a580a580a580a580a5800031463100313131a58019001b1b791b, 0x100b98000b98002b98000b78000b780b7802700292979297a29b1802700292979297a29b180b180b1800200b380b380b180b1807aa58027297a297929792919001b1b791b7a1ba58000af80ab80ab80, 0x1b980b780b980b98000b98000b9800200c980c580c580bd80c580c58000c58000c58002c58000bd8000bd80bd80bf80c380bb80bb80bb802d2dbb80bb8000bb8000bb8000bb8032bb802d2d2d002d002d2db580b580b580b980b980b780b980b980, 0x12f2fcb80cb8000cb8000cb8000cd80cd80cd8000cd8000cf8078b38045452f94802f002f2f2fcf80b580cf80cf80cb80cb80cb80cb80cb802f2fcb80cb8000cb8000cb8000cb8032cb802f2f2f002f002f2fb580b580b580b980, 0x1b980b98000b98000b9800200d980d580d580cd80d580d58000d58000d58002b180b18078b18045452fa0802f00b1802f2f2f2fb580b180b180d580d580cd80d580d58000d58000d58002d58000cd8000cd80cd80cf80cf80cf80d380cb80cb80cb80, 0x11b7a1be180e1800200e180e180e180e1807a09191b7a1b791b791b0d02df80a7802ea78000a780df80a780070707a5800031523100a5803131313119001b1b791b7a1ba580b18000dd80b980b980b780, 0x1e980e780e7807a0b27297a297929792919001b1b791b7a1b0d02e580e3803ae38000e380e580e3807833403300333319001b1b791b7a1be180e1800031403100313119001b1b79, 0x100f18000f18000f18032f1802f2f2f002f002f2f2700292979297a29e78079ef80eb80eb80eb802d2deb80eb8000eb8000eb8002eb802d2d2d002d002d2d2700292979297a29e7800200e980, 0x1020015811581158115817a09191b7a1b791b791b0d02000d810f81000f8111811a0011811181118111817e6d7cff80fb80fb80f380fb80fb8000fb8000fb8000fb8000f38000f380f38078f580f980f180f180f1802f2ff180f180, 0x1138115811581198115811581001981001981198100198119811d811d811d8119810019817b19810019817819817c19811b811b8102001b811b811b811b817f19810019817b7f7f7f31403100313119001b1b791b7a1b15811581, 0x1791b0d02003181338100338135811a0035813581358135817e0d816d7c2381238119817819817911810023812381198119811981118121812181218119812181218119811981198113811f811f811f81198113811381001f811f8119811981198107118111811381, 0x11b791b3b8102003b813b813b813b813b813b813b813b817a3981003981191b7a1b791b791b39810031403100313119001b1b791b7a1b3981398102003981398139813981398139817a09191b7a1b791b, 0x1418145814581458141810041817b41810041817841817c418143814381020043814381438143817f41810041817b7f7f7f33403300333319001b1b791b7a1b3d813d8102003d813d813d813d817a3b81191b7a1b79, 0x137814b814b814b81418137813781004b814b81418141814181398149814981498141813981398100498149814181418141813b8147814781478141813b813b810047814781418141814181073581358137813781398139813b813b813d813d8141813d813d810041810041814181004181, 0x11b53810200538153817a191b7a1b791b791b51810200518151815181518151815181518151817a0b191b7a1b791b791b0d4f814f814181784181793581004f814f8141814181418135814d814d814d8141814d814d81418141814181, 0x15581558155815581558155817a51815181518127297a297929792919001b1b791b7a1b51815181518119001b1b791b7a1b5381191919001b791b001b781b7a1b53817819001b1b791b7a, 0x1002f2f2f2f7a5981005981005981598159812f002f002f2f558155812700292979297a29558155812f7a578100578100578157815781002f002f2f2700292979297a29558155815581020055815581, 0x15d81005d81785d817a5d815f815f815b815b815b81005d81795d81005d81785d817a5d815f815f815b815b815b81005d81795d81005d81785d817a5d815f815f8102005f815f815f815f815f815f815f815f817d5d81005d817c7f7f7f518151815181, 0x10039043900393907518100314c31003131518119001b1b791b7a1b51815b815b815b81005d81795d81005d81785d817a5d815f815b815b815b81005d81795d81005d81785d817a5d815f815b815b815b81005d8179, 0x16f81206f810039003939076981698169816d816581658139658165810065810065817831403100313119001b1b791b7a1b0d698169816981658165813965816581006581006581006581206581003900393907, 0x102718167812867810067817181678173817381738177816f816f81396f816f81006f81006f8179097381738173816f816f81396f816f81006f81006f8100]
def z7 : List Nat := dec [0x17a1b791b791b3d02003d3d3d3d3d3d3d3d7c3b191b7a1b791b791b0d3b3b373737373737370037003700372c3735353500350035353500350035357c, 0x13d27297a297929792919001b1b791b7a1b3d3d3d19001b1b791b7a1b3f191919001b791b001b781b7a1b3f7819001b1b791b7a1b3f02003f3f7a191b, 0x1004545452f002f002f2f41412700292979297a2941412f7a43004300434343002f002f2f2700292979297a29414141020041414141414141417a3d3d, 0x147474700497949004978497a494b4b47474700497949004978497a494b4b02004b4b4b4b4b4b4b4b7d4900497c7f7f7f3d3d3d002f2f2f2f7a450045, 0x100314c310031313d19001b1b791b7a1b3d47474700497949004978497a494b47474700497949004978497a494b47474700497949004978497a494b4b, 0x11b7a1b53020053537a191b7a1b791b791b51020051515151515151517c3b191b7a1b791b791b0d3b3b3737373737373700370037003939390039003d, 0x155555555555555557a51515127297a297929792919001b1b791b7a1b51515119001b1b791b7a1b53191919001b791b001b781b7a1b537819001b1b79, 0x15f5f5f5f5f7d5d005d7c7f7f7f515151004500592f9a802f002f2f55552700292979297a2955554500572f8e802f002f2f2700292979297a295555550200, 0x15d795d005d785d7a5d5f5b5b5b005d795d005d785d7a5d5f5f5b5b5b005d795d005d785d7a5d5f5f5b5b5b005d795d005d785d7a5d5f5f02005f5f5f, 0x137373700370037003939390039005100314c310031315119001b1b791b7a1b515b5b5b005d795d005d785d7a5d5f5b5b5b00]
def z8 : List Nat := dec [0x1e580e58000e58000e580e58000b38000b380b380b380b980b980b980b780b980b98000b98000b98002e380e380d98078d98079d18000e380e380d980d980d980d180e180e180e180d980e180e180d980d980d980d380df80df80df80d980d380d38000df80df80d980d980d980, 0x179190b0200cd80ed8000ed80ef801a00ef80ef80ef80ef807f070041414100437943004378437a43090707070707e980e580e580b380e580e58000e58000e580e580e580b380e580e58000e58000e580e580e580b380, 0x1f780f980f9800200f980f980f980f9807ff78000f7807b7f7f7f4100434379437a43f380004100434379437a43f380784100434379437a43f3800200f380f380f380f3807a0917197a197919, 0x10001810181f780f780f780ef80ff80ff80ff80f780ff80ff80f780f780f780f180fd80fd80fd80f780f180f18000fd80fd80f780f780f78007ef80ef80f180f180f380f380f780f380f38000f78000f780f78000f780f780fb80fb80fb80f78000f7807bf78000f78078f7807c, 0x143090707070707078103810381b5800381038100038100038103810381b5800381038100038100038103810381b58003810381000381000381038100b58000b580b580b580b980b980b980b780b980b98000b98000b9800201810181f78078f78079ef80, 0x179437a431181784100434379437a431181020011811181118111817a0917197a19791979190b0200cd800b81000b810d811a000d810d810d810d817f070041414100437943004378437a, 0x10d810f810f81118111811581118111810015810015811581001581158119811981198115810015817b15810015817815817c158117811781020017811781178117817f15810015817b7f7f7f4100434379437a4311810041004343, 0x1437943004378437a4309002381b980b980b780b980b98000b98000b980021f811f811581781581790d81001f811f811581158115810d811d811d811d8115811d811d811581158115810f811b811b811b8115810f810f81001b811b81158115811581070d81, 0x14100434379437a4325817a4100434379437a432581020025812581258125817a0917197a19791979190b41414100]
def z9 : List Nat := dec [0x1001b1b791b7a1b9f8002009f809f807a191b7a1b791b791b9d8002009d809d809d809d809d809d809d809d807a0b191b7a1b791b791b0d02009580978000978099801a0099809980998099807b7f028780, 0x1a180a1800200a180a180a180a180a180a180a180a1807a9d809d809d8027297a297929792919001b1b791b7a1b9d809d809d8019001b1b791b7a1b9f80191919001b791b001b781b7a1b9f807819, 0x1a180a18000a78000a780a78000a780a780ab80ab80ab80a78000a7807ba78000a78078a7807ca780a980a9800200a980a980a980a9807fa78000a7807a7f7f7f6d594502a3802f8e802f002f2f2700292979297a29a180, 0x1b380a78078a78079998000b380b380a780a780a7809980b180b180b180a780b180b180a780a780a7809b80af80af80af80a7809b809b8000af80af80a780a780a7809d80ad80ad80ad80a7809d809d8000ad80ad80a780a780a780030707998099809b809b809d809d80a180a180a780, 0x129b58079bd80b980b980b9802d2db980b98000b98000b98002b9802d2d2d002d002d2d2700292979297a29b5800200b780b780b580b5807a0b27297a297929792919001b1b791b7a1b0db380, 0x1bf80bf802f2fbf80bf8000bf8000bf8000c180c180c18000c18079b78045004500454545c380c380c380bf80bf80bf80bf80bf802f2fbf80bf8000bf8000bf8000bf8032bf802f2f2f002f002f2f2700292979297a, 0x12f2fbf80bf8000bf8000bf8000c180c180c18000c18079b7806d006d006d6d6dc380c380c380bf80bf80bf80bf80bf802f2fbf80bf8000bf8000bf8000c180c180c18000c18079b78059005900595959c380c380c380bf80bf80bf80, 0x100c980c980c180c980c98000c98000c98000c980c980c180c980c98000c98000c98000c98000c18000c180c18078c380c380c380c780bf80bf80bf80]
def z10 : List Nat := dec [0x1001b1b791b7a1b8b8002008b808b807a191b7a1b791b791b89800200898089808980898089808980898089807a0b191b7a1b791b791b0d02008180838000838085801a0085808580858085807b7f0273, 0x18d808d8002008d808d808d808d808d808d808d808d807a89808980898027297a297929792919001b1b791b7a1b89808980898019001b1b791b7a1b8b80191919001b791b001b781b7a1b8b807819, 0x193808d808d800093800093809380009380938097809780978093800093807b93800093807893807c938095809580020095809580958095807f93800093807a7f7f7f5945028f802f8e802f002f2f2700292979297a298d80, 0x19f809f809380789380798580009f809f8093809380938085809d809d809d8093809d809d8093809380938087809b809b809b80938087808780009b809b80938093809380898099809980998093808980898000998099809380938093800307078580858087808780898089808d808d80, 0x17a29a18079a980a580a580a5802d2da580a58000a58000a58002a5802d2d2d002d002d2d2700292979297a29a1800200a380a380a180a1807a0b27297a297929792919001b1b791b7a1b0d, 0x1ab80ab80ab802f2fab80ab8000ab8000ab8000ad80ad80ad8000ad8079a38045004500454545af80af80af80ab80ab80ab80ab80ab802f2fab80ab8000ab8000ab8000ab8032ab802f2f2f002f002f2f270029297929, 0x100b580b580ad80b580b58000b58000b58000b58000ad8000ad80ad8078af80af80af80b380ab80ab80ab802f2fab80ab8000ab8000ab8000ad80ad80ad8000ad8079a38059005900595959af80af80af80ab80ab80]
def z11 : List Nat := dec [0x1790f000f780f7a0f11110d0d0d000f790f000f780f7a0f11110200111111111111111111111111111111111111111111117d0f000f7d7f7f7f027d02, 0x1790f000f780f7a0f11110d0d0d000f790f000f780f7a0f11110d0d0d000f790f000f780f7a0f11110d0d0d000f790f000f780f7a0f11110d0d0d000f, 0x1790f000f780f7a0f11110d0d0d000f790f000f780f7a0f11110d0d0d000f790f000f780f7a0f11110d0d0d000f790f000f780f7a0f11110d0d0d000f, 0x10d0d0d000f]
def z12 : List Nat := dec [0x11d7a0507097a0979097909030058000300640003050503031b1717151717001700171717151717001700171717151717001700171700150015151578, 0x121211f21210021002102000b040b000b0b1d1d1d1d21211f2121002100210221001f001f1f0700090979097a091d0700090979097a091d02001d1d1d, 0x10d040d000d0d1d1d1d1d]
def z13 : List Nat := dec [0x1041d001d1d110f100f000f110f03030502640003050503031b1717151717001700171717151717001700171717151717001700171700150015151578, 0x11f1f1f232321232300230023022300210021210700090979097a091f0700090979097a091f02001f1f1f1f7a0507097a09790979090300580003021d, 0x10b040b000b0b1f]
def z14 : List Nat := dec [0x16d6f6d000231403100313119001b1b791b7a1b6b6b02006b6b6b6b7a09191b7a1b791b791b0d0b0b7839223900093939393907090939003900393939, 0x100314631003131317119001b1b791b7a1b710231403100313119001b1b791b7a1b71710200717171717a09191b7a1b791b791b0d026f6d3a6d00]
def z15 : List Nat := dec [0x1818083808180000231403100313119001b1b791b7a1b7f807f8002007f807f807f807f807a09191b7a1b791b791b0d0b0b7839223900093939393907090939003900393939, 0x10031463100313131858019001b1b791b7a1b85800231403100313119001b1b791b7a1b85808580020085808580858085807a09191b7a1b791b791b0d02838081803a818000]
def z16 : List Nat := dec [0x1000709000909090707050707000700070900070005000505007f03007f037a0303010001000101010303026400011600037803030302000303030378, 0x17679037803030382807d7c807b7c800003787c8000037c80000382807d037a03030909090d070705070700070007090009090902700007070507070007]
def z17 : List Nat := dec [0x1000709000909090707050707000700070900070005000505007f03007f037a0303010001000101010303026400011600037803030302000303030378, 0x17679037803030382807d7c807b7c800003787c8000037c80000382807d037a03030909090d0707050707000700070978700007070507070007]
def z18 : List Nat := dec [0x129780b16000700090979097a092978020029297a07097a0979097909030700090979097a09030700090979097a090303032511101100112511050323, 0x11827210d0b2d2ba6802b002b2d2b78271600037821160003780303780d16000700090979097a09]
def z19 : List Nat := dec [0x11579157a150f00111179117a1155795e00550200555555557a0f117a11791179110502004d4f004f511a00515151517b7f023f3b283b003b3f3b033d, 0x15957ac80570057575700570057577f1300151579157a150f00111179117a115500130015]
def z20 : List Nat := dec [0x11579157a150f00111179117a114b795e004b02004b4b4b4b7a0f117a117911791105020029450045471a0047474747787f02413d283d003d413d033f, 0x14f4dac804d004d4d4d004d004d4d7f1300151579157a150f00111179117a114b00130015]
def z21 : List Nat := dec [0x10700090979097a0935780b16000700090979097a093578020035357a07097a0979097909030700090979097a09030700090979097a09033333330303, 0x118312b0d0b3937a68037003739377831160003782b160003780303780d1600]
def z22 : List Nat := dec [0x10700090979097a0933780b16000700090979097a093378020033337a07097a0979097909030700090979097a09030700090979097a09033131310303, 0x1182f290d0b3735a6803500353735782f1600037829160003780303780d1600]
def z23 : List Nat := dec [0x116000700090979097a0935780b16000700090979097a093578020035357a07097a0979097909030700090979097a09030700090979097a0903330303, 0x118312b0d0b3937a68037003739377831160003782b160003780303780d]
def z24 : List Nat := dec [0x116000700090979097a0933780b16000700090979097a093378020033337a07097a0979097909030700090979097a09030700090979097a0903310303, 0x1182f290d0b3735a6803500353735782f1600037829160003780303780d]
def z25 : List Nat := dec [0x103780d16000700090979097a091f780b16000700090979097a091f7802001f1f7a07097a0979097909030700090979097a09030700090979097a0903, 0x118110f0d0b2321a68021002123217811160003780f1600037803]
def z26 : List Nat := dec [0x11d7a0507097a0979097909030258000300640003050503031b1717151717001700171717151717001700171717151717001700171700150015151578, 0x10b040b000b0b0700090979097a091d1d02001d1d1d]
def z27 : List Nat := dec [0x10379037a030d0d02000d0d0d0d7a0105037a037903790301000740070007070500030379037a030b0b02000b0b0b0b7a0105037a0379037903010101, 0x15800050003]
def z28 : List Nat := dec [0x10379037a030d0d02000d0d0d0d7a0105037a037903790301020740070007070500030379037a030b0b02000b0b0b0b7a0105037a0379037903010101, 0x15800050003]
def z29 : List Nat := dec [0x1640003050503031b1717151717001700171717151717001700171717151717001700171700150015151578]
def z30 : List Nat := dec [0x113131300157915001578157a15171713131300157915001578157a151717020017171717171717171717]
def z31 : List Nat := dec [0x17c0303191b7a1b791b791b0f00111179117a1105210a210003212121210b002104210021210b03025800]
def z32 : List Nat := dec [0x1122d2c2d2bac802b002b2b2b002b002b2b7a0d795e0029025e00290200292929297a0f117a117911791105]
def z33 : List Nat := dec [0x1122f2c2f2dac802d002d2d2d002d002d2d7a0d795e002b025e002b02002b2b2b2b7a0f117a117911791105]
def z34 : List Nat := dec [0x124781300151579157a150f00111179117a1105780707001300151579157a150f00111179117a1105]
def z35 : List Nat := dec [0x17b191b7a1b791b791b1300151579157a15353535393939393939390039003902]
def z36 : List Nat := dec [0x1191919001b791b001b781b7a1b1d1d191919001b791b001b781b7a1b1d1d]
def z37 : List Nat := dec [0x101050c050005000303030303030101010501010100010001010101033e00]
def z38 : List Nat := dec [0x121212100237923002378237a232521212100237923002378237a2325]
def z39 : List Nat := dec [0x1292929002b792b002b782b7a2b2d292929002b792b002b782b7a2b2d]
def z40 : List Nat := dec [0x117171700197919001978197a191b17171700197919001978197a191b]
def z41 : List Nat := dec [0x124781300151579157a150f00111179117a1105780707788280000d78]
def z42 : List Nat := dec [0x1c380c380c380bf80bf80bf80bf80bf802f2fbf80bf8000bf8000bf8000c180c180c18000c18079b780]
def z43 : List Nat := dec [0x154005e0007001300151579157a150f00111179117a110502]
def z44 : List Nat := dec [0x118005e0007001300151579157a150f00111179117a110502]
def z45 : List Nat := dec [0x10d000f0f790f7a0f1b0017171700197919001978197a191b]
def z46 : List Nat := dec [0x1007f7f7f7f07070007078580858085808580858085808580008580008580027807]
def z47 : List Nat := dec [0x11700191979197a19070717171700197919001978197a1907]
def z48 : List Nat := dec [0x1007f7f7f7f07070007073d813d813d813d813d813d813d81003d81003d81027807]
def z49 : List Nat := dec [0x1007f7f7f7f07070007075d825d825d825d825d825d825d82005d82005d82027807]
def z50 : List Nat := dec [0x112272027000f000f0f03002521211f2121002100210200]
def z51 : List Nat := dec [0x112292029000f000f0f03002723232123230023002302]
def z52 : List Nat := dec [0x10039820039823982398200258200258200258225822582cf8100d181d18179d1817ad181]
def z53 : List Nat := dec [0x17a3521237a23792379231300151579157a15353535]
def z54 : List Nat := dec [0x17f7f7f0d000f0f790f7a0f1b0d000f0f790f7a0f1b]
def z55 : List Nat := dec [0x10d040d000d0d1f1f1f1f23232123230023002302]
def z56 : List Nat := dec [0x17c7f7f7f21001d1d1d001f791f001f781f7a1f21]
def z57 : List Nat := dec [0x15353530053005555515151515151510051005100]
def z58 : List Nat := dec [0x17a0b81000d810d81790d817a0d8123810b81000d810d81790d817a0d8123812381]
def z59 : List Nat := dec [0x17ac58100c781c78179c7817ac781dd81c58100c781c78179c7817ac781dd81dd81]
def z60 : List Nat := dec [0x17a0b27297a297929792919001b1b791b7a1b0d]
def z61 : List Nat := dec [0x10b81000d810d81790d817a0d811f810b81000d810d81790d817a0d811f811f81]
def z62 : List Nat := dec [0x1c58100c781c78179c7817ac781d981c58100c781c78179c7817ac781d981d981]
def z63 : List Nat := dec [0x1010600030003031313131313131300130013]
def z64 : List Nat := dec [0x1010600030003032525252525252500250025]
def z65 : List Nat := dec [0x17d7f7f7f070707818081807f80818081800081800081800200]
def z66 : List Nat := dec [0x10b81000d810d81790d817a0d812d810b81000d810d81790d817a0d812d81]
def z67 : List Nat := dec [0x1001700191979197a195f8100618161817961817a61816d81]
def z68 : List Nat := dec [0x1c58100c781c78179c7817ac7813f82c58100c781c78179c7817ac7813f82]
def z69 : List Nat := dec [0x1001700191979197a197f8200818281827981827a81828d82]
def z70 : List Nat := dec [0x17000010001000101010302000303030378]
def z71 : List Nat := dec [0x17c3b191b7a1b791b791b0d3b3b37373737]
def z72 : List Nat := dec [0x119001b1b791b7a1b5d5d02005d5d5d5d7a]
def z73 : List Nat := dec [0x109077a07790779070500030379037a0301]
def z74 : List Nat := dec [0x11300151579157a150f00111179117a1141]
def z75 : List Nat := dec [0x17b13157a15791579150f00111179117a11]
def z76 : List Nat := dec [0x11300151579157a150f00111179117a1143]
def z77 : List Nat := dec [0x119001b1b791b7a1b1300151579157a1535]
def z78 : List Nat := dec [0x119001b1b791b7a1b1300151579157a158780]
def z79 : List Nat := dec [0x127297a297929792919001b1b791b7a1b]
def z80 : List Nat := dec [0x12d2d2d002d002d2d2700292979297a29]
def z81 : List Nat := dec [0x12f2f2f002f002f2f2700292979297a29]
def z82 : List Nat := dec [0x10b060b0003090105b28005000500030303]
def z83 : List Nat := dec [0x121237a23792379231300151579157a15]
def z84 : List Nat := dec [0x127272700270027272100232379237a23]
def z85 : List Nat := dec [0x129292900290029292100232379237a23]
def z86 : List Nat := dec [0x1191b7a1b791b791b1300151579157a15]
def z87 : List Nat := dec [0x10f81000b810b810b81000d81790d81000d81780d817a0d810f81]
def z88 : List Nat := dec [0x1c98100c581c581c58100c78179c78100c78178c7817ac781c981]
def z89 : List Nat := dec [0x113131300157915001578157a151717]
def z90 : List Nat := dec [0x11f1f1f00217921002178217a212323]
def z91 : List Nat := dec [0x147474700497949004978497a494b4b]
def z92 : List Nat := dec [0x16f6f6f00717971007178717a717373]
def z93 : List Nat := dec [0x10105050500037903000378037a0301]
def z94 : List Nat := dec [0x1050605000303030303010101033e00]
def z95 : List Nat := dec [0x115151500177917001778177a171919]
def z96 : List Nat := dec [0x11b1b1b001d791d001d781d7a1d1f1f]
def z97 : List Nat := dec [0x121212100237923002378237a232525]
def z98 : List Nat := dec [0x1001f401f001f1f19001b1b791b7a1b]
def z99 : List Nat := dec [0x117171700197919001978197a191b1b]
def z100 : List Nat := dec [0x11d1d1d001f791f001f781f7a1f2121]
def z101 : List Nat := dec [0x131313100337933003378337a333535]
def z102 : List Nat := dec [0x137373700397939003978397a393b3b]
def z103 : List Nat := dec [0x13d3d3d003f793f003f783f7a3f4141]
def z104 : List Nat := dec [0x18780878087800089807989800089807889807a89808b808b80]
def z105 : List Nat := dec [0x19780978097800099807999800099807899807a99809b809b80]
def z106 : List Nat := dec [0x1a780a780a78000a98079a98000a98078a9807aa980ab80ab80]
def z107 : List Nat := dec [0x1b780b780b78000b98079b98000b98078b9807ab980bb80bb80]
def z108 : List Nat := dec [0x1c780c780c78000c98079c98000c98078c9807ac980cb80cb80]
def z109 : List Nat := dec [0x1d780d780d78000d98079d98000d98078d9807ad980db80db80]
def z110 : List Nat := dec [0x1e780e780e78000e98079e98000e98078e9807ae980eb80eb80]
def z111 : List Nat := dec [0x1f780f780f78000f98079f98000f98078f9807af980fb80fb80]
def z112 : List Nat := dec [0x10b810b810b81000d81790d81000d81780d817a0d810f810f81]
def z113 : List Nat := dec [0x10b810b810b81000d81790d81000d81780d817a0d810f8178]
def z114 : List Nat := dec [0x13f813f813f810041817941810041817841817a418143814381]
def z115 : List Nat := dec [0x14f814f814f810051817951810051817851817a518153815381]
def z116 : List Nat := dec [0x15f815f815f810061817961810061817861817a618163816381]
def z117 : List Nat := dec [0x17181718171810073817973810073817873817a738175817581]
def z118 : List Nat := dec [0x18181818181810083817983810083817883817a838185818581]
def z119 : List Nat := dec [0x19181918191810093817993810093817893817a938195819581]
def z120 : List Nat := dec [0x1a181a181a18100a38179a38100a38178a3817aa381a581a581]
def z121 : List Nat := dec [0x1b181b181b18100b38179b38100b38178b3817ab381b581b581]
def z122 : List Nat := dec [0x1c581c581c58100c78179c78100c78178c7817ac781c981c981]
def z123 : List Nat := dec [0x1c581c581c58100c78179c78100c78178c7817ac781c98178]
def z124 : List Nat := dec [0x15f825f825f820061827961820061827861827a618263826382]
def z125 : List Nat := dec [0x16f826f826f820071827971820071827871827a718273827382]
def z126 : List Nat := dec [0x17f827f827f820081827981820081827881827a818283828382]
def z127 : List Nat := dec [0x19182918291820093827993820093827893827a938295829582]
def z128 : List Nat := dec [0x1a182a182a18200a38279a38200a38278a3827aa382a582a582]
def z129 : List Nat := dec [0x1b182b182b18200b38279b38200b38278b3827ab382b582b582]
def z130 : List Nat := dec [0x1c182c182c18200c38279c38200c38278c3827ac382c582c582]
def z131 : List Nat := dec [0x1d182d182d18200d38279d38200d38278d3827ad382d582d582]
def z132 : List Nat := dec [0x107070700097909000978097a090b0b]
def z133 : List Nat := dec [0x11d1d1d1d1d1d7d1b001b7c7f7f7f]
def z134 : List Nat := dec [0x1191919001b791b001b781b7a1b1d]
def z135 : List Nat := dec [0x127272700297929002978297a292b]
def z136 : List Nat := dec [0x147474700497949004978497a494b]
def z137 : List Nat := dec [0x13737370037003700393939003900]
def z138 : List Nat := dec [0x12f8e802f002f2f2700292979297a29]
def z139 : List Nat := dec [0x16f6f6f00717971007178717a7173]
def z140 : List Nat := dec [0x10506000700c980c980c180c980c98000c98000c980]
def z141 : List Nat := dec [0x11d1d1d1d21211f21210021002102]
def z142 : List Nat := dec [0x11f3c1f001f1f19001b1b791b7a1b]
def z143 : List Nat := dec [0x11b1b1b001d791d001d781d7a1d1f]
def z144 : List Nat := dec [0x113131300157915001578157a1517]
def z145 : List Nat := dec [0x117171700197919001978197a191b]
def z146 : List Nat := dec [0x123232300257925002578257a2527]
def z147 : List Nat := dec [0x11d1d1d001f791f001f781f7a1f21]
def z148 : List Nat := dec [0x131313100337933003378337a3335]
def z149 : List Nat := dec [0x137373700397939003978397a393b]
def z150 : List Nat := dec [0x13d3d3d003f793f003f783f7a3f41]
def z151 : List Nat := dec [0x143434300457945004578457a4547]
def z152 : List Nat := dec [0x1494949004b794b004b784b7a4b4d]
def z153 : List Nat := dec [0x18780878087800089807989800089807889807a89808b80]
def z154 : List Nat := dec [0x18780878087800089807989800089807889807a898007]
def z155 : List Nat := dec [0x19780978097800099807999800099807899807a99809b80]
def z156 : List Nat := dec [0x19780978097800099807999800099807899807a998007]
def z157 : List Nat := dec [0x1a780a780a78000a98079a98000a98078a9807aa980ab80]
def z158 : List Nat := dec [0x1a780a780a78000a98079a98000a98078a9807aa98007]
def z159 : List Nat := dec [0x1b780b780b78000b98079b98000b98078b9807ab980bb80]
def z160 : List Nat := dec [0x1b780b780b78000b98079b98000b98078b9807ab98007]
def z161 : List Nat := dec [0x1c780c780c78000c98079c98000c98078c9807ac980cb80]
def z162 : List Nat := dec [0x1c780c780c78000c98079c98000c98078c9807ac98007]
def z163 : List Nat := dec [0x1d780d780d78000d98079d98000d98078d9807ad980db80]
def z164 : List Nat := dec [0x1d780d780d78000d98079d98000d98078d9807ad98007]
def z165 : List Nat := dec [0x1e780e780e78000e98079e98000e98078e9807ae980eb80]
def z166 : List Nat := dec [0x1e780e780e78000e98079e98000e98078e9807ae98007]
def z167 : List Nat := dec [0x1f780f780f78000f98079f98000f98078f9807af980fb80]
def z168 : List Nat := dec [0x1f780f780f78000f98079f98000f98078f9807af98007]
def z169 : List Nat := dec [0x11581158115810017817917810017817817817a17811981]
def z170 : List Nat := dec [0x10b810b810b81000d81790d81000d81780d817a0d810f81]
def z171 : List Nat := dec [0x13f813f813f810041817941810041817841817a41814381]
def z172 : List Nat := dec [0x13f813f813f810041817941810041817841817a418107]
def z173 : List Nat := dec [0x14f814f814f810051817951810051817851817a51815381]
def z174 : List Nat := dec [0x14f814f814f810051817951810051817851817a518107]
def z175 : List Nat := dec [0x15f815f815f810061817961810061817861817a61816381]
def z176 : List Nat := dec [0x15f815f815f810061817961810061817861817a618107]
def z177 : List Nat := dec [0x17181718171810073817973810073817873817a73817581]
def z178 : List Nat := dec [0x17181718171810073817973810073817873817a738107]
def z179 : List Nat := dec [0x18181818181810083817983810083817883817a83818581]
def z180 : List Nat := dec [0x18181818181810083817983810083817883817a838107]
def z181 : List Nat := dec [0x19181918191810093817993810093817893817a93819581]
def z182 : List Nat := dec [0x19181918191810093817993810093817893817a938107]
def z183 : List Nat := dec [0x1a181a181a18100a38179a38100a38178a3817aa381a581]
def z184 : List Nat := dec [0x1a181a181a18100a38179a38100a38178a3817aa38107]
def z185 : List Nat := dec [0x1b181b181b18100b38179b38100b38178b3817ab381b581]
def z186 : List Nat := dec [0x1b181b181b18100b38179b38100b38178b3817ab38107]
def z187 : List Nat := dec [0x1cf81cf81cf8100d18179d18100d18178d1817ad181d381]
def z188 : List Nat := dec [0x1c581c581c58100c78179c78100c78178c7817ac781c981]
def z189 : List Nat := dec [0x15f825f825f820061827961820061827861827a61826382]
def z190 : List Nat := dec [0x15f825f825f820061827961820061827861827a618207]
def z191 : List Nat := dec [0x16f826f826f820071827971820071827871827a71827382]
def z192 : List Nat := dec [0x16f826f826f820071827971820071827871827a718207]
def z193 : List Nat := dec [0x17f827f827f820081827981820081827881827a81828382]
def z194 : List Nat := dec [0x17f827f827f820081827981820081827881827a818207]
def z195 : List Nat := dec [0x19182918291820093827993820093827893827a93829582]
def z196 : List Nat := dec [0x19182918291820093827993820093827893827a938207]
def z197 : List Nat := dec [0x1a182a182a18200a38279a38200a38278a3827aa382a582]
def z198 : List Nat := dec [0x1a182a182a18200a38279a38200a38278a3827aa38207]
def z199 : List Nat := dec [0x1b182b182b18200b38279b38200b38278b3827ab382b582]
def z200 : List Nat := dec [0x1b182b182b18200b38279b38200b38278b3827ab38207]
def z201 : List Nat := dec [0x1c182c182c18200c38279c38200c38278c3827ac382c582]
def z202 : List Nat := dec [0x1c182c182c18200c38279c38200c38278c3827ac38207]
def z203 : List Nat := dec [0x1d182d182d18200d38279d38200d38278d3827ad382d582]
def z204 : List Nat := dec [0x1d182d182d18200d38279d38200d38278d3827ad38207]
def z205 : List Nat := dec [0x107070700097909000978097a090b]
theorem contractL {V : XW} {H : Hk} (O : V.Ok) (hH : HkOk V H) {n : Nat} {Γ : PySem.Ctx} {p : Pos} {T : MT} {m B c τ i : Nat} {ch : Ch} {js : List Nat} {r0 : Result} {sa fa la : Nat} {o0 o1 o2 : Obj} {B' c' τ' i' : Nat} {ch' : Ch}
  (hs : simG V H (endL (r0, some (sa, o0), some (fa, o1), some (la, o2), B', c', τ', i', ch')) n Γ p .base (denF Γ.code) T m B c τ i ch js [] True)
  {R : Result → Shared → Prop} {h : Heap} (D : Rp V T m (B + c) ch h) (k : AtS V R r0 (TL sa fa la o0 o1 o2) 3 B' c' τ' i' ch') : wpCode V.M Γ R p (V.sh h (τ + i)) := by
 have z := (simG_sound (R₀ := R) O hH (fun r T' m' B c τ i ch js e => ?_) n _ _ _ _ _ _ _ _ _ _ _ _ _ _ hs).2.2 h D
 ·exact enter_case (κ := .base) rfl rfl z
 ·unfold endL viewL at e
  simp only [Prod.mk.injEq] at e
  obtain ⟨rfl, e0, e1, e2, rfl, rfl, rfl, rfl, rfl⟩ := e
  intro h' D'
  refine k h' (D'.weaken fun j x hx => ?_)
  rcases TL_get hx with ⟨rfl, rfl⟩ | ⟨rfl, rfl⟩ | ⟨rfl, rfl⟩
  ·exact ⟨by omega, e0⟩
  ·exact ⟨by omega, e1⟩
  ·exact ⟨by omega, e2⟩
def chL (v1 v2 v3 : Array Value) : Ch := [(1693, v1), (1698, v2), (1705, v3)]
def frO (es : Array DictEntry) (ep : Nat) (sl : Array (Option Value)) : Obj := { cls := .type "frame", data := .dict es ep, slots := sl }
structure EnvV where
 names : List (Str × NameKind)
 more : List (Str × Const)
 gl : Nat
 q : Str
 fn : Option Nat
 co : Value
 bi : Nat
def envL (e : EnvV) (fa : Nat) : Env := ⟨⟨.function, e.names, false, false, e.more⟩, fa, e.gl, [], e.q, e.fn, e.co, some fa, e.bi⟩
def rdyS (e : EnvV) : Array (Option Value) := #[some e.co, some (.ref e.gl), none, some .notImplemented, none, e.fn.map Value.ref, some (.ref e.bi)]
def Pass (V : XW) (f : Nat) (src : Bool) (es : Nat → Nat → Array DictEntry) (ep : Nat) (b : List Stmt) (e : EnvV) (p1 p2 : Pos) (sl : Array (Option Value)) (ch : Ch) (post : Array (Option Value) → Ch → Prop) : Prop :=
 ∀ N t0 sa fa la o0 s0 u0 s1 u1 p R g, Bd s0 s1 → Rp V (TL sa fa la o0 (frO (es sa la) ep sl) (srcO s0 u0 s1 u1)) 3 (N + 1723) ch g →
 (∀ N' t' s0' u0' s1' u1' sl' ch', Bd s0' s1' → post sl' ch' → AtS V R (.ok (.ret (.bool true))) (TL sa fa la o0 (frO (es sa la) ep sl') (srcO s0' u0' s1' u1')) 3 (N' + 1723) 0 (t' + 1) 0 ch') →
 wpCode V.M (ΓL f (Bool.rec [] [.ref la] src) b (envL e fa) p1 p2) R p (V.sh g (t0 + 1))
section
open Classical in
def frz (g : Heap) (T0 : MT) (a : Nat) : Option Obj := if 1723 ≤ a ∧ ∀ k x, T0.get k = some x → x.1 ≠ a then g.get? a else none
theorem frz_some {g : Heap} {T0 : MT} {a : Nat} {o : Obj} (h : frz g T0 a = some o) : 1723 ≤ a ∧ g.get? a = some o := by
  unfold frz at h
  split at h
  · rename_i q; exact ⟨q.1, h⟩
  · cases h
theorem frz_of {g : Heap} {T0 : MT} {a : Nat} {o : Obj} (h1 : 1723 ≤ a) (h2 : ∀ k x, T0.get k = some x → x.1 ≠ a) (h : g.get? a = some o) : frz g T0 a = some o := by
  unfold frz
  rw [if_pos ⟨h1, h2⟩]; exact h
section
variable {w : World} {h : Heap} {d : Drawn} {os : OsState} {X : Nat → Option Obj}
theorem VX_ok (O : (VX w h d os X).Ok) {Y : Nat → Option Obj} (hY : ∀ a o, Y a = some o → 1723 ≤ a) : (VX w h d os Y).Ok := ⟨hY, O.size, O.kt, O.tabs⟩
theorem VXw_ok (O : (VX w h d os X).Ok) (w' : World) (hw : T14 w'.params = T14 w.params) : (VX w' h d os X).Ok := ⟨O.exn, O.size, by show ∀ a o, (T14 w'.params).get a = some o → _; rw [hw]; exact O.kt, O.tabs⟩
theorem Rp.focus {T : MT} {m b : Nat} {ch : Ch} {g : Heap} (D : Rp (VX w h d os X) T m b ch g) {T0 : MT} {m0 : Nat} (H : ∀ k x, T0.get k = some x → k < m0 ∧ ∃ j, T.get j = some x)
    (one : ∀ i j a o o', T0.get i = some (a, o) → T0.get j = some (a, o') → i = j) : Rp (VX w h d os (frz g T0)) T0 m0 b ch g :=
  ⟨D.size, D.low, fun j a o e => let ⟨q, i, e'⟩ := H j _ e; ⟨q, (D.own i a o e').2⟩, one, D.keep, D.ch, fun a o e => (frz_some e).2, fun j a o e => by
    show frz g T0 a = none
    unfold frz
    rw [if_neg fun q => q.2 j _ e rfl]⟩
theorem Rp.unfocus (O : (VX w h d os X).Ok) {T T0 T' TN : MT} {m b m' b' mN : Nat} {ch ch' : Ch} {g g' : Heap} (D : Rp (VX w h d os X) T m b ch g) (H : ∀ k x, T0.get k = some x → ∃ j, T.get j = some x) (D' : Rp (VX w h d os (frz g T0)) T' m' b' ch' g')
    (HN : ∀ j x, TN.get j = some x → j < mN ∧ ((∃ k, T'.get k = some x ∧ X x.1 = none) ∨ (T.get j = some x ∧ ∀ k y, T0.get k = some y → y.1 ≠ x.1)))
    (one : ∀ i j a o o', TN.get i = some (a, o) → TN.get j = some (a, o') → i = j) : Rp (VX w h d os X) TN mN b' ch' g' :=
  ⟨D'.size, D'.low, fun j a o e => by
    obtain ⟨q, ⟨k, e', _⟩ | ⟨e', ne⟩⟩ := HN j _ e
    · exact ⟨q, (D'.own k a o e').2⟩
    · obtain ⟨_, z2, z3, z4⟩ := D.own j a o e'
      have y := D'.exk a o (frz_of z2 ne z4)
      exact ⟨q, z2, by have := Heap.lt_size y; rw [D'.size] at this; exact this, y⟩,
   one, D'.keep, D'.ch, fun a o e => D'.exk a o (frz_of (O.exn a o e) (fun k x e' q => by
      obtain ⟨j, ej⟩ := H k x e'
      have := D.exo j x.1 x.2 ej
      rw [q, e] at this; cases this) (D.exk a o e)), fun j a o e => by
    obtain ⟨q, ⟨k, e', z⟩ | ⟨e', ne⟩⟩ := HN j _ e
    · exact z
    · exact D.exo j a o e'⟩
end
abbrev HB := List Nat → PySem.Ctx → Pos → MT → Nat → Nat → Nat → Nat → Nat → Ch → Option (List (Nat × Nat) × (KTy → Prop))
structure HBOk (V : XW) (f : HB) : Prop where
  mono : ∀ js Γ p T m B c τ i ch ps W, f js Γ p T m B c τ i ch = some (ps, W) → ∀ F G : KTy, (∀ r T m B c τ i ch js, F r T m B c τ i ch js → G r T m B c τ i ch js) → W F → W G
  ok : ∀ js Γ p T m B c τ i ch ps W, f js Γ p T m B c τ i ch = some (ps, W) → (∀ y ∈ ps, y.1 = y.2) → ∀ R h, Rp V T m (B + c) ch h → W (fun r T m B c τ i ch _ => AtS V R r T m B c τ i ch) → wpCode V.M Γ R p (V.sh h (τ + i))
def nthB (l : List HB) (q : Nat) : Option HB := List.rec (motive := fun _ => Nat → Option HB) (fun _ => none) (fun f _ ih q => match q with | 0 => some f | q + 1 => ih q) l q
theorem nthB_mem : ∀ (l : List HB) (q : Nat) (f : HB), nthB l q = some f → f ∈ l
  | [], _, _, h => by cases h
  | g :: l, 0, f, h => by cases h; exact .head _
  | g :: l, q + 1, f, h => .tail _ (nthB_mem l q f h)
def hkOf (l : List HB) : HkTy := fun q js Γ p T m B c τ i ch => bO (nthB l q) fun f => f js Γ p T m B c τ i ch
theorem hkOf_ok {V : XW} {l : List HB} (H : ∀ f ∈ l, HBOk V f) : HkW V (hkOf l) where
  mono := fun q js Γ p T m B c τ i ch ps W e => inv_o e fun f hf e => (H f (nthB_mem _ _ _ hf)).mono js Γ p T m B c τ i ch ps W e
  ok := fun q js Γ p T m B c τ i ch ps W e => inv_o e fun f hf e => (H f (nthB_mem _ _ _ hf)).ok js Γ p T m B c τ i ch ps W e
theorem contract1 {V : XW} {H : Hk} (O : V.Ok) (hH : HkOk V H) {K : KTy} {n : Nat} {Γ : PySem.Ctx} {p : Pos} {T : MT} {m B c τ i : Nat} {ch : Ch} {js : List Nat} {R : Result → Shared → Prop}
    (hs : simG V H K n Γ p .base (denF Γ.code) T m B c τ i ch js [] True) (hK : ∀ r T m B c τ i ch js, K r T m B c τ i ch js → AtS V R r T m B c τ i ch)
    {h : Heap} (D : Rp V T m (B + c) ch h) : wpCode V.M Γ R p (V.sh h (τ + i)) :=
  enter_case (κ := .base) rfl rfl ((simG_sound (R₀ := R) O hH hK n _ _ _ _ _ _ _ _ _ _ _ _ _ _ hs).2.2 h D)
theorem upd_one {T : MT} {q : Nat} {f : Obj → Obj} (one : ∀ i j a o o', T.get i = some (a, o) → T.get j = some (a, o') → i = j) : ∀ i j a o o', (T.upd q f).get i = some (a, o) → (T.upd q f).get j = some (a, o') → i = j := by
  have K : ∀ j a' o', (T.upd q f).get j = some (a', o') → ∃ o₁, T.get j = some (a', o₁) := fun j a' o' e' => by
    rw [MT.get_upd] at e'
    by_cases hj : j = q
    · rw [if_pos hj] at e'
      cases e : T.get q with
      | none => rw [e] at e'; cases e'
      | some x => rw [e] at e'; cases e'; exact ⟨x.2, by rw [hj]; exact e⟩
    · rw [if_neg hj] at e'; exact ⟨o', e'⟩
  intro i j a o o' e1 e2
  obtain ⟨_, x1⟩ := K i a o e1
  obtain ⟨_, x2⟩ := K j a o' e2
  exact one i j a _ _ x1 x2
theorem Rp.unfocus1 {w : World} {h : Heap} {d : Drawn} {os : OsState} {X : Nat → Option Obj} (O : (VX w h d os X).Ok) {T T' : MT} {m b m' b' q a : Nat} {o o' : Obj} {ch ch' : Ch} {g g' : Heap} (D : Rp (VX w h d os X) T m b ch g) (e : T.get q = some (a, o))
    (D' : Rp (VX w h d os (frz g (.node a o .nil .nil))) T' m' b' ch' g') (e' : T'.get 0 = some (a, o')) : Rp (VX w h d os X) (T.upd q fun _ => o') m b' ch' g' := by
  have h1 : ∀ k x, MT.get (.node a o .nil .nil) k = some x → x = (a, o) := fun k x hx => by
    rw [MT.get_node] at hx
    split at hx
    · cases hx; rfl
    · split at hx <;> cases hx
  refine D.unfocus O (fun k x hx => ⟨q, by rw [h1 k x hx]; exact e⟩) D' (fun j x hx => ?_) (upd_one D.one)
  rw [MT.get_upd] at hx
  by_cases hj : j = q
  · subst hj
    rw [if_pos rfl, e] at hx
    cases hx
    exact ⟨(D.own _ _ _ e).1, .inl ⟨0, e', D.exo _ _ _ e⟩⟩
  · rw [if_neg hj] at hx
    refine ⟨(D.own j x.1 x.2 hx).1, .inr ⟨hx, fun k y hy w => hj ?_⟩⟩
    rw [h1 k y hy] at w
    have : x = (a, x.2) := by rw [show a = x.1 from w]
    rw [this] at hx
    exact D.one j q a _ _ hx e
theorem Rp.focus1 {w : World} {h : Heap} {d : Drawn} {os : OsState} {X : Nat → Option Obj} {T : MT} {m b q a : Nat} {o : Obj} {ch : Ch} {g : Heap} (D : Rp (VX w h d os X) T m b ch g) (e : T.get q = some (a, o)) : Rp (VX w h d os (frz g (.node a o .nil .nil))) (.node a o .nil .nil) 1 b ch g := by
  have h1 : ∀ k x, MT.get (.node a o .nil .nil) k = some x → k = 0 ∧ x = (a, o) := fun k x hx => by
    rw [MT.get_node] at hx
    split at hx
    · rename_i k0; cases hx; exact ⟨k0, rfl⟩
    · split at hx <;> cases hx
  exact D.focus (fun k x hx => ⟨by have := (h1 k x hx).1; omega, q, by rw [(h1 k x hx).2]; exact e⟩) fun i j a o o' e1 e2 => by rw [(h1 i _ e1).1, (h1 j _ e2).1]
end
abbrev V1 := Result × Option (Nat × Obj) × Nat × Nat × Nat × Nat × Ch
def end1 (X : V1) : KTy := fun r T _ B c τ i ch _ => (r, T.get 0, B, c, τ, i, ch) = X
def ΓT (la : Nat) (top : Int) (u : Nat) (bl : List (Code × Pos)) : PySem.Ctx := ⟨.call (.ref 1644) ⟨[.ref la, .int top u], []⟩, none, none, bl, none⟩
def srcE (s0 : Int) (u0 : Nat) (s1 : Int) (u1 ep : Nat) : Obj := { cls := .type "list", data := .seq #[.int s0 u0, .int s1 u1] ep }
def A1 (N la : Nat) (i : Nat) : Nat := match i with
 | 0 => la
 | i + 1 => N + 1723 + i
def nx (s1 : Int) : Int := (s1 * 39373 + 7).fmod 2147483647
def dr (s1 top : Int) : Int := (((nx s1 * nx s1).fmod 2147483629).fdiv 32).fmod top
def js_takeA : List Nat := (z70 ++ dec [0x1030101010001000101038880000301000100010101030303828000037c01000100010101037802])
def js_takeB : List Nat := (z70 ++ dec [0x1828000037c88800082807d7c8000010001000101010301000100010101037a01010100010001010382807f7c8000010001000101010379])
theorem runA1_take_false (w : World) (N t0 la u u0 u1 ep : Nat) (top s0 s1 : Int) (h : Heap) (d : Drawn) (os : OsState) (X : Nat → Option Obj) (c1 b : List Stmt) (e1 env : Env) (q1 p1 p2 : Pos) (p : Pos) (b2 : Bool) (v1 v2 v3 : Array Value) :
 simG (VX (wF w false b2) h d os X) (HH hkNo) (end1 (.ok (.ret (.int (s0.fmod top) (t0 + 1 + 5))), some (la, srcE (s0.fdiv top) (t0 + 1 + 8) s1 u1 ep), N + 1723, 1, t0 + 1, 10, chL v1 v2 v3)) 200 (ΓT la top u [(.func c1 e1, q1), (.func b env, p1), (.builtin "claim.caller" {}, p2)]) p .base (denF (.call (.ref 1644) ⟨[.ref la, .int top u], []⟩)) (.node la (srcE s0 u0 s1 u1 ep) .nil .nil) 1 (N + 1723) 0 (t0 + 1) 0 (chL v1 v2 v3) js_takeA [] True =
 (okAcc (accL (A1 N la) js_takeA []) ∧ (chkDv top = true ∧ chk0 top = true ∧ decide (s0 > 0) = true ∧ True) ∧ ((.ok (.ret (.int (s0.fmod top) (t0 + 1 + 5))), some (la, srcE (s0.fdiv top) (t0 + 1 + 8) s1 u1 ep), N + 1723, 1, t0 + 1, 10, chL v1 v2 v3) : V1) = (.ok (.ret (.int (s0.fmod top) (t0 + 1 + 5))), some (la, srcE (s0.fdiv top) (t0 + 1 + 8) s1 u1 ep), N + 1723, 1, t0 + 1, 10, chL v1 v2 v3)) := by kernel_rfl
theorem runA1_take_true (w : World) (N t0 la u u0 u1 ep : Nat) (top s0 s1 : Int) (h : Heap) (d : Drawn) (os : OsState) (X : Nat → Option Obj) (c1 b : List Stmt) (e1 env : Env) (q1 p1 p2 : Pos) (p : Pos) (b2 : Bool) (v1 v2 v3 : Array Value) :
 simG (VX (wF w true b2) h d os X) (HH hkNo) (end1 (.ok (.ret (.int (s0.fmod top) (t0 + 1 + 5))), some (la, srcE (s0.fdiv top) (t0 + 1 + 8) s1 u1 ep), N + 1723, 1, t0 + 1, 10, chL v1 v2 v3)) 200 (ΓT la top u [(.func c1 e1, q1), (.func b env, p1), (.builtin "claim.caller" {}, p2)]) p .base (denF (.call (.ref 1644) ⟨[.ref la, .int top u], []⟩)) (.node la (srcE s0 u0 s1 u1 ep) .nil .nil) 1 (N + 1723) 0 (t0 + 1) 0 (chL v1 v2 v3) js_takeA [] True =
 (okAcc (accL (A1 N la) js_takeA []) ∧ (chkDv top = true ∧ chk0 top = true ∧ decide (s0 > 0) = true ∧ True) ∧ ((.ok (.ret (.int (s0.fmod top) (t0 + 1 + 5))), some (la, srcE (s0.fdiv top) (t0 + 1 + 8) s1 u1 ep), N + 1723, 1, t0 + 1, 10, chL v1 v2 v3) : V1) = (.ok (.ret (.int (s0.fmod top) (t0 + 1 + 5))), some (la, srcE (s0.fdiv top) (t0 + 1 + 8) s1 u1 ep), N + 1723, 1, t0 + 1, 10, chL v1 v2 v3)) := by kernel_rfl
theorem runA2_take_false (w : World) (N t0 la u u0 u1 ep : Nat) (top s0 s1 : Int) (h : Heap) (d : Drawn) (os : OsState) (X : Nat → Option Obj) (tg : Expr) (it : Value) (cl oe c1 b : List Stmt) (el e1 env : Env) (q0 q1 p1 p2 : Pos) (p : Pos) (b2 : Bool) (v1 v2 v3 : Array Value) :
 simG (VX (wF w false b2) h d os X) (HH hkNo) (end1 (.ok (.ret (.int (s0.fmod top) (t0 + 1 + 5))), some (la, srcE (s0.fdiv top) (t0 + 1 + 8) s1 u1 ep), N + 1723, 1, t0 + 1, 10, chL v1 v2 v3)) 200 (ΓT la top u [(.forLoop tg it cl oe el, q0), (.func c1 e1, q1), (.func b env, p1), (.builtin "claim.caller" {}, p2)]) p .base (denF (.call (.ref 1644) ⟨[.ref la, .int top u], []⟩)) (.node la (srcE s0 u0 s1 u1 ep) .nil .nil) 1 (N + 1723) 0 (t0 + 1) 0 (chL v1 v2 v3) js_takeA [] True =
 (okAcc (accL (A1 N la) js_takeA []) ∧ (chkDv top = true ∧ chk0 top = true ∧ decide (s0 > 0) = true ∧ True) ∧ ((.ok (.ret (.int (s0.fmod top) (t0 + 1 + 5))), some (la, srcE (s0.fdiv top) (t0 + 1 + 8) s1 u1 ep), N + 1723, 1, t0 + 1, 10, chL v1 v2 v3) : V1) = (.ok (.ret (.int (s0.fmod top) (t0 + 1 + 5))), some (la, srcE (s0.fdiv top) (t0 + 1 + 8) s1 u1 ep), N + 1723, 1, t0 + 1, 10, chL v1 v2 v3)) := by kernel_rfl
theorem runA2_take_true (w : World) (N t0 la u u0 u1 ep : Nat) (top s0 s1 : Int) (h : Heap) (d : Drawn) (os : OsState) (X : Nat → Option Obj) (tg : Expr) (it : Value) (cl oe c1 b : List Stmt) (el e1 env : Env) (q0 q1 p1 p2 : Pos) (p : Pos) (b2 : Bool) (v1 v2 v3 : Array Value) :
 simG (VX (wF w true b2) h d os X) (HH hkNo) (end1 (.ok (.ret (.int (s0.fmod top) (t0 + 1 + 5))), some (la, srcE (s0.fdiv top) (t0 + 1 + 8) s1 u1 ep), N + 1723, 1, t0 + 1, 10, chL v1 v2 v3)) 200 (ΓT la top u [(.forLoop tg it cl oe el, q0), (.func c1 e1, q1), (.func b env, p1), (.builtin "claim.caller" {}, p2)]) p .base (denF (.call (.ref 1644) ⟨[.ref la, .int top u], []⟩)) (.node la (srcE s0 u0 s1 u1 ep) .nil .nil) 1 (N + 1723) 0 (t0 + 1) 0 (chL v1 v2 v3) js_takeA [] True =
 (okAcc (accL (A1 N la) js_takeA []) ∧ (chkDv top = true ∧ chk0 top = true ∧ decide (s0 > 0) = true ∧ True) ∧ ((.ok (.ret (.int (s0.fmod top) (t0 + 1 + 5))), some (la, srcE (s0.fdiv top) (t0 + 1 + 8) s1 u1 ep), N + 1723, 1, t0 + 1, 10, chL v1 v2 v3) : V1) = (.ok (.ret (.int (s0.fmod top) (t0 + 1 + 5))), some (la, srcE (s0.fdiv top) (t0 + 1 + 8) s1 u1 ep), N + 1723, 1, t0 + 1, 10, chL v1 v2 v3)) := by kernel_rfl
theorem runA3_take_false (w : World) (N t0 la u u0 u1 ep : Nat) (top s0 s1 : Int) (h : Heap) (d : Drawn) (os : OsState) (X : Nat → Option Obj) (c1 c2 b : List Stmt) (e1 e2 env : Env) (q1 q2 p1 p2 : Pos) (p : Pos) (b2 : Bool) (v1 v2 v3 : Array Value) :
 simG (VX (wF w false b2) h d os X) (HH hkNo) (end1 (.ok (.ret (.int (s0.fmod top) (t0 + 1 + 5))), some (la, srcE (s0.fdiv top) (t0 + 1 + 8) s1 u1 ep), N + 1723, 1, t0 + 1, 10, chL v1 v2 v3)) 200 (ΓT la top u [(.func c2 e2, q2), (.func c1 e1, q1), (.func b env, p1), (.builtin "claim.caller" {}, p2)]) p .base (denF (.call (.ref 1644) ⟨[.ref la, .int top u], []⟩)) (.node la (srcE s0 u0 s1 u1 ep) .nil .nil) 1 (N + 1723) 0 (t0 + 1) 0 (chL v1 v2 v3) js_takeA [] True =
 (okAcc (accL (A1 N la) js_takeA []) ∧ (chkDv top = true ∧ chk0 top = true ∧ decide (s0 > 0) = true ∧ True) ∧ ((.ok (.ret (.int (s0.fmod top) (t0 + 1 + 5))), some (la, srcE (s0.fdiv top) (t0 + 1 + 8) s1 u1 ep), N + 1723, 1, t0 + 1, 10, chL v1 v2 v3) : V1) = (.ok (.ret (.int (s0.fmod top) (t0 + 1 + 5))), some (la, srcE (s0.fdiv top) (t0 + 1 + 8) s1 u1 ep), N + 1723, 1, t0 + 1, 10, chL v1 v2 v3)) := by kernel_rfl
theorem runA3_take_true (w : World) (N t0 la u u0 u1 ep : Nat) (top s0 s1 : Int) (h : Heap) (d : Drawn) (os : OsState) (X : Nat → Option Obj) (c1 c2 b : List Stmt) (e1 e2 env : Env) (q1 q2 p1 p2 : Pos) (p : Pos) (b2 : Bool) (v1 v2 v3 : Array Value) :
 simG (VX (wF w true b2) h d os X) (HH hkNo) (end1 (.ok (.ret (.int (s0.fmod top) (t0 + 1 + 5))), some (la, srcE (s0.fdiv top) (t0 + 1 + 8) s1 u1 ep), N + 1723, 1, t0 + 1, 10, chL v1 v2 v3)) 200 (ΓT la top u [(.func c2 e2, q2), (.func c1 e1, q1), (.func b env, p1), (.builtin "claim.caller" {}, p2)]) p .base (denF (.call (.ref 1644) ⟨[.ref la, .int top u], []⟩)) (.node la (srcE s0 u0 s1 u1 ep) .nil .nil) 1 (N + 1723) 0 (t0 + 1) 0 (chL v1 v2 v3) js_takeA [] True =
 (okAcc (accL (A1 N la) js_takeA []) ∧ (chkDv top = true ∧ chk0 top = true ∧ decide (s0 > 0) = true ∧ True) ∧ ((.ok (.ret (.int (s0.fmod top) (t0 + 1 + 5))), some (la, srcE (s0.fdiv top) (t0 + 1 + 8) s1 u1 ep), N + 1723, 1, t0 + 1, 10, chL v1 v2 v3) : V1) = (.ok (.ret (.int (s0.fmod top) (t0 + 1 + 5))), some (la, srcE (s0.fdiv top) (t0 + 1 + 8) s1 u1 ep), N + 1723, 1, t0 + 1, 10, chL v1 v2 v3)) := by kernel_rfl
theorem runB1_take_false (w : World) (N t0 la u u0 u1 ep : Nat) (top s0 s1 : Int) (h : Heap) (d : Drawn) (os : OsState) (X : Nat → Option Obj) (c1 b : List Stmt) (e1 env : Env) (q1 p1 p2 : Pos) (p : Pos) (b2 : Bool) (v1 v2 v3 : Array Value) :
 simG (VX (wF w false b2) h d os X) (HH hkNo) (end1 (.ok (.ret (.int (dr s1 top) (t0 + 1 + 19))), some (la, srcE s0 u0 (nx s1) (t0 + 1 + 10) ep), N + 1723, 1, t0 + 1, 20, chL v1 v2 v3)) 200 (ΓT la top u [(.func c1 e1, q1), (.func b env, p1), (.builtin "claim.caller" {}, p2)]) p .base (denF (.call (.ref 1644) ⟨[.ref la, .int top u], []⟩)) (.node la (srcE s0 u0 s1 u1 ep) .nil .nil) 1 (N + 1723) 0 (t0 + 1) 0 (chL v1 v2 v3) js_takeB [] True =
 (okAcc (accL (A1 N la) js_takeB []) ∧ (chk0 top = true ∧ true = true ∧ true = true ∧ chk64 (nx s1) = true ∧ true = true ∧ true = true ∧ decide (s0 > 0) = false ∧ True) ∧ ((.ok (.ret (.int (dr s1 top) (t0 + 1 + 19))), some (la, srcE s0 u0 (nx s1) (t0 + 1 + 10) ep), N + 1723, 1, t0 + 1, 20, chL v1 v2 v3) : V1) = (.ok (.ret (.int (dr s1 top) (t0 + 1 + 19))), some (la, srcE s0 u0 (nx s1) (t0 + 1 + 10) ep), N + 1723, 1, t0 + 1, 20, chL v1 v2 v3)) := by kernel_rfl
theorem runB1_take_true (w : World) (N t0 la u u0 u1 ep : Nat) (top s0 s1 : Int) (h : Heap) (d : Drawn) (os : OsState) (X : Nat → Option Obj) (c1 b : List Stmt) (e1 env : Env) (q1 p1 p2 : Pos) (p : Pos) (b2 : Bool) (v1 v2 v3 : Array Value) :
 simG (VX (wF w true b2) h d os X) (HH hkNo) (end1 (.ok (.ret (.int (dr s1 top) (t0 + 1 + 19))), some (la, srcE s0 u0 (nx s1) (t0 + 1 + 10) ep), N + 1723, 1, t0 + 1, 20, chL v1 v2 v3)) 200 (ΓT la top u [(.func c1 e1, q1), (.func b env, p1), (.builtin "claim.caller" {}, p2)]) p .base (denF (.call (.ref 1644) ⟨[.ref la, .int top u], []⟩)) (.node la (srcE s0 u0 s1 u1 ep) .nil .nil) 1 (N + 1723) 0 (t0 + 1) 0 (chL v1 v2 v3) js_takeB [] True =
 (okAcc (accL (A1 N la) js_takeB []) ∧ (chk0 top = true ∧ true = true ∧ true = true ∧ chk64 (nx s1) = true ∧ true = true ∧ true = true ∧ decide (s0 > 0) = false ∧ True) ∧ ((.ok (.ret (.int (dr s1 top) (t0 + 1 + 19))), some (la, srcE s0 u0 (nx s1) (t0 + 1 + 10) ep), N + 1723, 1, t0 + 1, 20, chL v1 v2 v3) : V1) = (.ok (.ret (.int (dr s1 top) (t0 + 1 + 19))), some (la, srcE s0 u0 (nx s1) (t0 + 1 + 10) ep), N + 1723, 1, t0 + 1, 20, chL v1 v2 v3)) := by kernel_rfl
theorem runB2_take_false (w : World) (N t0 la u u0 u1 ep : Nat) (top s0 s1 : Int) (h : Heap) (d : Drawn) (os : OsState) (X : Nat → Option Obj) (tg : Expr) (it : Value) (cl oe c1 b : List Stmt) (el e1 env : Env) (q0 q1 p1 p2 : Pos) (p : Pos) (b2 : Bool) (v1 v2 v3 : Array Value) :
 simG (VX (wF w false b2) h d os X) (HH hkNo) (end1 (.ok (.ret (.int (dr s1 top) (t0 + 1 + 19))), some (la, srcE s0 u0 (nx s1) (t0 + 1 + 10) ep), N + 1723, 1, t0 + 1, 20, chL v1 v2 v3)) 200 (ΓT la top u [(.forLoop tg it cl oe el, q0), (.func c1 e1, q1), (.func b env, p1), (.builtin "claim.caller" {}, p2)]) p .base (denF (.call (.ref 1644) ⟨[.ref la, .int top u], []⟩)) (.node la (srcE s0 u0 s1 u1 ep) .nil .nil) 1 (N + 1723) 0 (t0 + 1) 0 (chL v1 v2 v3) js_takeB [] True =
 (okAcc (accL (A1 N la) js_takeB []) ∧ (chk0 top = true ∧ true = true ∧ true = true ∧ chk64 (nx s1) = true ∧ true = true ∧ true = true ∧ decide (s0 > 0) = false ∧ True) ∧ ((.ok (.ret (.int (dr s1 top) (t0 + 1 + 19))), some (la, srcE s0 u0 (nx s1) (t0 + 1 + 10) ep), N + 1723, 1, t0 + 1, 20, chL v1 v2 v3) : V1) = (.ok (.ret (.int (dr s1 top) (t0 + 1 + 19))), some (la, srcE s0 u0 (nx s1) (t0 + 1 + 10) ep), N + 1723, 1, t0 + 1, 20, chL v1 v2 v3)) := by kernel_rfl
theorem runB2_take_true (w : World) (N t0 la u u0 u1 ep : Nat) (top s0 s1 : Int) (h : Heap) (d : Drawn) (os : OsState) (X : Nat → Option Obj) (tg : Expr) (it : Value) (cl oe c1 b : List Stmt) (el e1 env : Env) (q0 q1 p1 p2 : Pos) (p : Pos) (b2 : Bool) (v1 v2 v3 : Array Value) :
 simG (VX (wF w true b2) h d os X) (HH hkNo) (end1 (.ok (.ret (.int (dr s1 top) (t0 + 1 + 19))), some (la, srcE s0 u0 (nx s1) (t0 + 1 + 10) ep), N + 1723, 1, t0 + 1, 20, chL v1 v2 v3)) 200 (ΓT la top u [(.forLoop tg it cl oe el, q0), (.func c1 e1, q1), (.func b env, p1), (.builtin "claim.caller" {}, p2)]) p .base (denF (.call (.ref 1644) ⟨[.ref la, .int top u], []⟩)) (.node la (srcE s0 u0 s1 u1 ep) .nil .nil) 1 (N + 1723) 0 (t0 + 1) 0 (chL v1 v2 v3) js_takeB [] True =
 (okAcc (accL (A1 N la) js_takeB []) ∧ (chk0 top = true ∧ true = true ∧ true = true ∧ chk64 (nx s1) = true ∧ true = true ∧ true = true ∧ decide (s0 > 0) = false ∧ True) ∧ ((.ok (.ret (.int (dr s1 top) (t0 + 1 + 19))), some (la, srcE s0 u0 (nx s1) (t0 + 1 + 10) ep), N + 1723, 1, t0 + 1, 20, chL v1 v2 v3) : V1) = (.ok (.ret (.int (dr s1 top) (t0 + 1 + 19))), some (la, srcE s0 u0 (nx s1) (t0 + 1 + 10) ep), N + 1723, 1, t0 + 1, 20, chL v1 v2 v3)) := by kernel_rfl
theorem runB3_take_false (w : World) (N t0 la u u0 u1 ep : Nat) (top s0 s1 : Int) (h : Heap) (d : Drawn) (os : OsState) (X : Nat → Option Obj) (c1 c2 b : List Stmt) (e1 e2 env : Env) (q1 q2 p1 p2 : Pos) (p : Pos) (b2 : Bool) (v1 v2 v3 : Array Value) :
 simG (VX (wF w false b2) h d os X) (HH hkNo) (end1 (.ok (.ret (.int (dr s1 top) (t0 + 1 + 19))), some (la, srcE s0 u0 (nx s1) (t0 + 1 + 10) ep), N + 1723, 1, t0 + 1, 20, chL v1 v2 v3)) 200 (ΓT la top u [(.func c2 e2, q2), (.func c1 e1, q1), (.func b env, p1), (.builtin "claim.caller" {}, p2)]) p .base (denF (.call (.ref 1644) ⟨[.ref la, .int top u], []⟩)) (.node la (srcE s0 u0 s1 u1 ep) .nil .nil) 1 (N + 1723) 0 (t0 + 1) 0 (chL v1 v2 v3) js_takeB [] True =
 (okAcc (accL (A1 N la) js_takeB []) ∧ (chk0 top = true ∧ true = true ∧ true = true ∧ chk64 (nx s1) = true ∧ true = true ∧ true = true ∧ decide (s0 > 0) = false ∧ True) ∧ ((.ok (.ret (.int (dr s1 top) (t0 + 1 + 19))), some (la, srcE s0 u0 (nx s1) (t0 + 1 + 10) ep), N + 1723, 1, t0 + 1, 20, chL v1 v2 v3) : V1) = (.ok (.ret (.int (dr s1 top) (t0 + 1 + 19))), some (la, srcE s0 u0 (nx s1) (t0 + 1 + 10) ep), N + 1723, 1, t0 + 1, 20, chL v1 v2 v3)) := by kernel_rfl
theorem runB3_take_true (w : World) (N t0 la u u0 u1 ep : Nat) (top s0 s1 : Int) (h : Heap) (d : Drawn) (os : OsState) (X : Nat → Option Obj) (c1 c2 b : List Stmt) (e1 e2 env : Env) (q1 q2 p1 p2 : Pos) (p : Pos) (b2 : Bool) (v1 v2 v3 : Array Value) :
 simG (VX (wF w true b2) h d os X) (HH hkNo) (end1 (.ok (.ret (.int (dr s1 top) (t0 + 1 + 19))), some (la, srcE s0 u0 (nx s1) (t0 + 1 + 10) ep), N + 1723, 1, t0 + 1, 20, chL v1 v2 v3)) 200 (ΓT la top u [(.func c2 e2, q2), (.func c1 e1, q1), (.func b env, p1), (.builtin "claim.caller" {}, p2)]) p .base (denF (.call (.ref 1644) ⟨[.ref la, .int top u], []⟩)) (.node la (srcE s0 u0 s1 u1 ep) .nil .nil) 1 (N + 1723) 0 (t0 + 1) 0 (chL v1 v2 v3) js_takeB [] True =
 (okAcc (accL (A1 N la) js_takeB []) ∧ (chk0 top = true ∧ true = true ∧ true = true ∧ chk64 (nx s1) = true ∧ true = true ∧ true = true ∧ decide (s0 > 0) = false ∧ True) ∧ ((.ok (.ret (.int (dr s1 top) (t0 + 1 + 19))), some (la, srcE s0 u0 (nx s1) (t0 + 1 + 10) ep), N + 1723, 1, t0 + 1, 20, chL v1 v2 v3) : V1) = (.ok (.ret (.int (dr s1 top) (t0 + 1 + 19))), some (la, srcE s0 u0 (nx s1) (t0 + 1 + 10) ep), N + 1723, 1, t0 + 1, 20, chL v1 v2 v3)) := by kernel_rfl
def TakeRuns (bl : List (Code × Pos)) : Prop := ∀ (w : World) (N t0 la u u0 u1 ep : Nat) (top s0 s1 : Int) (h : Heap) (d : Drawn) (os : OsState) (X : Nat → Option Obj) (p : Pos) (b1 b2 : Bool) (v1 v2 v3 : Array Value), chkDv top = true → chk0 top = true → chk64 (nx s1) = true →
 (decide (s0 > 0) = true → ∃ js, simG (VX (wF w b1 b2) h d os X) (HH hkNo) (end1 (.ok (.ret (.int (s0.fmod top) (t0 + 1 + 5))), some (la, srcE (s0.fdiv top) (t0 + 1 + 8) s1 u1 ep), N + 1723, 1, t0 + 1, 10, chL v1 v2 v3)) 200 (ΓT la top u bl) p .base (denF (.call (.ref 1644) ⟨[.ref la, .int top u], []⟩)) (.node la (srcE s0 u0 s1 u1 ep) .nil .nil) 1 (N + 1723) 0 (t0 + 1) 0 (chL v1 v2 v3) js [] True) ∧
 (decide (s0 > 0) = false → ∃ js, simG (VX (wF w b1 b2) h d os X) (HH hkNo) (end1 (.ok (.ret (.int (dr s1 top) (t0 + 1 + 19))), some (la, srcE s0 u0 (nx s1) (t0 + 1 + 10) ep), N + 1723, 1, t0 + 1, 20, chL v1 v2 v3)) 200 (ΓT la top u bl) p .base (denF (.call (.ref 1644) ⟨[.ref la, .int top u], []⟩)) (.node la (srcE s0 u0 s1 u1 ep) .nil .nil) 1 (N + 1723) 0 (t0 + 1) 0 (chL v1 v2 v3) js [] True)
theorem takeRuns1 (c1 b : List Stmt) (e1 env : Env) (q1 p1 p2 : Pos) : TakeRuns [(.func c1 e1, q1), (.func b env, p1), (.builtin "claim.caller" {}, p2)] := by
 intro w N t0 la u u0 u1 ep top s0 s1 h d os X p b1 b2 v1 v2 v3 z1 z2 z3
 refine ⟨fun z4 => ⟨js_takeA, ?_⟩, fun z4 => ⟨js_takeB, ?_⟩⟩
 ·cases b1
  ·exact (runA1_take_false w N t0 la u u0 u1 ep top s0 s1 h d os X c1 b e1 env q1 p1 p2 p b2 v1 v2 v3).mpr ⟨accL_ok _ _ _ okNil, ⟨z1, z2, z4, trivial⟩, rfl⟩
  ·exact (runA1_take_true w N t0 la u u0 u1 ep top s0 s1 h d os X c1 b e1 env q1 p1 p2 p b2 v1 v2 v3).mpr ⟨accL_ok _ _ _ okNil, ⟨z1, z2, z4, trivial⟩, rfl⟩
 ·cases b1
  ·exact (runB1_take_false w N t0 la u u0 u1 ep top s0 s1 h d os X c1 b e1 env q1 p1 p2 p b2 v1 v2 v3).mpr ⟨accL_ok _ _ _ okNil, ⟨z2, rfl, rfl, z3, rfl, rfl, z4, trivial⟩, rfl⟩
  ·exact (runB1_take_true w N t0 la u u0 u1 ep top s0 s1 h d os X c1 b e1 env q1 p1 p2 p b2 v1 v2 v3).mpr ⟨accL_ok _ _ _ okNil, ⟨z2, rfl, rfl, z3, rfl, rfl, z4, trivial⟩, rfl⟩
theorem takeRuns2 (tg : Expr) (it : Value) (cl oe c1 b : List Stmt) (el e1 env : Env) (q0 q1 p1 p2 : Pos) : TakeRuns [(.forLoop tg it cl oe el, q0), (.func c1 e1, q1), (.func b env, p1), (.builtin "claim.caller" {}, p2)] := by
 intro w N t0 la u u0 u1 ep top s0 s1 h d os X p b1 b2 v1 v2 v3 z1 z2 z3
 refine ⟨fun z4 => ⟨js_takeA, ?_⟩, fun z4 => ⟨js_takeB, ?_⟩⟩
 ·cases b1
  ·exact (runA2_take_false w N t0 la u u0 u1 ep top s0 s1 h d os X tg it cl oe c1 b el e1 env q0 q1 p1 p2 p b2 v1 v2 v3).mpr ⟨accL_ok _ _ _ okNil, ⟨z1, z2, z4, trivial⟩, rfl⟩
  ·exact (runA2_take_true w N t0 la u u0 u1 ep top s0 s1 h d os X tg it cl oe c1 b el e1 env q0 q1 p1 p2 p b2 v1 v2 v3).mpr ⟨accL_ok _ _ _ okNil, ⟨z1, z2, z4, trivial⟩, rfl⟩
 ·cases b1
  ·exact (runB2_take_false w N t0 la u u0 u1 ep top s0 s1 h d os X tg it cl oe c1 b el e1 env q0 q1 p1 p2 p b2 v1 v2 v3).mpr ⟨accL_ok _ _ _ okNil, ⟨z2, rfl, rfl, z3, rfl, rfl, z4, trivial⟩, rfl⟩
  ·exact (runB2_take_true w N t0 la u u0 u1 ep top s0 s1 h d os X tg it cl oe c1 b el e1 env q0 q1 p1 p2 p b2 v1 v2 v3).mpr ⟨accL_ok _ _ _ okNil, ⟨z2, rfl, rfl, z3, rfl, rfl, z4, trivial⟩, rfl⟩
theorem takeRuns3 (c1 c2 b : List Stmt) (e1 e2 env : Env) (q1 q2 p1 p2 : Pos) : TakeRuns [(.func c2 e2, q2), (.func c1 e1, q1), (.func b env, p1), (.builtin "claim.caller" {}, p2)] := by
 intro w N t0 la u u0 u1 ep top s0 s1 h d os X p b1 b2 v1 v2 v3 z1 z2 z3
 refine ⟨fun z4 => ⟨js_takeA, ?_⟩, fun z4 => ⟨js_takeB, ?_⟩⟩
 ·cases b1
  ·exact (runA3_take_false w N t0 la u u0 u1 ep top s0 s1 h d os X c1 c2 b e1 e2 env q1 q2 p1 p2 p b2 v1 v2 v3).mpr ⟨accL_ok _ _ _ okNil, ⟨z1, z2, z4, trivial⟩, rfl⟩
  ·exact (runA3_take_true w N t0 la u u0 u1 ep top s0 s1 h d os X c1 c2 b e1 e2 env q1 q2 p1 p2 p b2 v1 v2 v3).mpr ⟨accL_ok _ _ _ okNil, ⟨z1, z2, z4, trivial⟩, rfl⟩
 ·cases b1
  ·exact (runB3_take_false w N t0 la u u0 u1 ep top s0 s1 h d os X c1 c2 b e1 e2 env q1 q2 p1 p2 p b2 v1 v2 v3).mpr ⟨accL_ok _ _ _ okNil, ⟨z2, rfl, rfl, z3, rfl, rfl, z4, trivial⟩, rfl⟩
  ·exact (runB3_take_true w N t0 la u u0 u1 ep top s0 s1 h d os X c1 c2 b e1 e2 env q1 q2 p1 p2 p b2 v1 v2 v3).mpr ⟨accL_ok _ _ _ okNil, ⟨z2, rfl, rfl, z3, rfl, rfl, z4, trivial⟩, rfl⟩
theorem nx_bd (s1 : Int) : 0 ≤ nx s1 ∧ nx s1 < 2147483647 := by
 unfold nx
 rw [Int.fmod_eq_emod_of_nonneg _ (by decide)]
 exact ⟨Int.emod_nonneg _ (by decide), Int.emod_lt_of_pos _ (by decide)⟩
theorem fmod_bd (a : Int) {t : Int} (h : 1 ≤ t) : 0 ≤ a.fmod t ∧ a.fmod t < t := by
 rw [Int.fmod_eq_emod_of_nonneg _ (by omega)]
 exact ⟨Int.emod_nonneg _ (by omega), Int.emod_lt_of_pos _ (by omega)⟩
theorem chk64_of {a : Int} (h0 : 0 ≤ a) (h1 : a < 9223372036854775807) : chk64 a = true := by
 unfold chk64
 exact Nat.ble_eq_true_of_le (by omega)
theorem eqB_false {a : Int} (h : a ≠ 0) : Z.eqB a 0 = false := by
 rw [eqB_beq]; simpa using h
theorem chk0_of {a : Int} (h : a ≠ 0) : chk0 a = true := by unfold chk0; rw [eqB_false h]; rfl
theorem chkDv_of {a : Int} (h : 1 ≤ a) (h1 : a < 9223372036854775807) : chkDv a = true := by
 unfold chkDv; rw [chk64_of (by omega) h1, eqB_false (by omega)]; rfl
theorem take_wp {w : World} {h : Heap} {d : Drawn} {os : OsState} {X : Nat → Option Obj} (O : (VX w h d os X).Ok) {bl : List (Code × Pos)} (TR : TakeRuns bl) {T : MT} {m q la u u0 u1 ep N t0 : Nat} {top s0 s1 : Int} {v1 v2 v3 : Array Value} {g : Heap} {R : Result → Shared → Prop} {p : Pos}
  (D : Rp (VX w h d os X) T m (N + 1723) (chL v1 v2 v3) g) (e : T.get q = some (la, srcE s0 u0 s1 u1 ep)) (bd : Bd s0 s1) (h1 : 1 ≤ top) (h2 : top ≤ 1000)
  (k : ∀ r u' N' t' s0' u0' s1' u1', 0 ≤ r → r < top → Bd s0' s1' → AtS (VX w h d os X) R (.ok (.ret (.int r u'))) (T.upd q fun _ => srcE s0' u0' s1' u1' ep) m (N' + 1723) 0 (t' + 1) 0 (chL v1 v2 v3)) :
  wpCode (VX w h d os X).M (ΓT la top u bl) R p ((VX w h d os X).sh g (t0 + 1)) := by
 have D1 := D.focus1 e
 have O1 : (VX w h d os (frz g (.node la (srcE s0 u0 s1 u1 ep) .nil .nil))).Ok := VX_ok O fun a o e => (frz_some e).1
 have hH : ∀ b1 b2, HkOk (VX (wF w b1 b2) h d os (frz g (.node la (srcE s0 u0 s1 u1 ep) .nil .nil))) (HH hkNo) := fun b1 b2 => HH_ok _ (VXw_ok O1 (wF w b1 b2) rfl) (Nat.le_refl 1723) (hkNo_ok _)
 have run := TR w N t0 la u u0 u1 ep top s0 s1 h d os (frz g (.node la (srcE s0 u0 s1 u1 ep) .nil .nil)) p (w.params.followText "special-get-raises") (w.params.followText "comprehension-iter-twice") v1 v2 v3
  (chkDv_of h1 (by omega)) (chk0_of (by omega)) (chk64_of (nx_bd s1).1 (by have := (nx_bd s1).2; omega))
 have hw := hH (w.params.followText "special-get-raises") (w.params.followText "comprehension-iter-twice")
 rw [wF_self] at run hw
 cases hs : decide (s0 > 0) with
 | true =>
  obtain ⟨js, run⟩ := run.1 hs
  have hs := of_decide_eq_true hs
  refine contract1 (V := VX w h d os (frz g (.node la (srcE s0 u0 s1 u1 ep) .nil .nil))) (R := R) O1 hw run (fun r T' m' B c τ i ch js x => ?_) (c := 0) (i := 0) D1
  unfold end1 at x
  simp only [Prod.mk.injEq] at x
  obtain ⟨rfl, e0, rfl, rfl, rfl, rfl, rfl⟩ := x
  intro g' D'
  have bd' : Bd (s0.fdiv top) s1 := ⟨by rw [Int.fdiv_eq_ediv_of_nonneg _ (by omega)]; exact Int.ediv_nonneg (by omega) (by omega), bd.p1, bd.l1⟩
  have K := k (s0.fmod top) (t0 + 1 + 5) (N + 1) (t0 + 10) (s0.fdiv top) (t0 + 1 + 8) s1 u1 (fmod_bd s0 h1).1 (fmod_bd s0 h1).2 bd'
  have D2 := D.unfocus1 O e D' e0
  have e1 : N + 1723 + 1 = N + 1 + 1723 + 0 := by omega
  have e2 : t0 + 1 + 10 = t0 + 10 + 1 + 0 := by omega
  rw [e1] at D2
  rw [e2]
  exact K g' D2
 | false =>
  obtain ⟨js, run⟩ := run.2 hs
  refine contract1 (V := VX w h d os (frz g (.node la (srcE s0 u0 s1 u1 ep) .nil .nil))) (R := R) O1 hw run (fun r T' m' B c τ i ch js x => ?_) (c := 0) (i := 0) D1
  unfold end1 at x
  simp only [Prod.mk.injEq] at x
  obtain ⟨rfl, e0, rfl, rfl, rfl, rfl, rfl⟩ := x
  intro g' D'
  have bd' : Bd s0 (nx s1) := ⟨bd.p0, (nx_bd s1).1, (nx_bd s1).2⟩
  have K := k (dr s1 top) (t0 + 1 + 19) (N + 1) (t0 + 20) s0 u0 (nx s1) (t0 + 1 + 10) (fmod_bd _ h1).1 (fmod_bd _ h1).2 bd'
  have D2 := D.unfocus1 O e D' e0
  have e1 : N + 1723 + 1 = N + 1 + 1723 + 0 := by omega
  have e2 : t0 + 1 + 20 = t0 + 20 + 1 + 0 := by omega
  rw [e1] at D2
  rw [e2]
  exact K g' D2
def nCl : Nat := 35714603318786955769505017188
theorem nCl_is : PySem.W.S.codeS "claim.caller" = nCl := by kernel_rfl
def isCl (c : Code) : Bool := yes (bO (cB c) fun q => bT (Nat.beq (PySem.W.S.codeS q.1) nCl) (bN q.2.pos (bN q.2.kw (some ()))))
theorem isCl_ok {c : Code} (h : isCl c = true) : c = .builtin "claim.caller" {} :=
 inv_o (yes_ok h) fun q e h => inv_t h fun e2 h => inv_n h fun e3 h => inv_n h fun e4 _ => by
  obtain ⟨id, pos, kw⟩ := q
  rw [cB_ok e, id_of nCl_is e2, show pos = [] from e3, show kw = [] from e4]
def isFn (c : Code) : Bool := match c with
 | .func _ _ => true
 | _ => false
theorem isFn_ok {c : Code} (h : isFn c = true) : ∃ a b, c = .func a b := by
 cases c <;> first | exact ⟨_, _, rfl⟩ | cases h
def isFor (c : Code) : Bool := match c with
 | .forLoop _ _ _ _ _ => true
 | _ => false
theorem isFor_ok {c : Code} (h : isFor c = true) : ∃ a b d e f, c = .forLoop a b d e f := by
 cases c <;> first | exact ⟨_, _, _, _, _, rfl⟩ | cases h
def spT (bl : List (Code × Pos)) : Bool := yes (bL bl fun x r => bL r fun y r => bT (isFn y.1) (bL r fun z r => Bool.rec
 (bT (isFor x.1) (bT (isFn z.1) (bL r fun v r => bN r (bT (isCl v.1) (some ())))))
 (List.rec (motive := fun _ => Option Unit) (bT (isCl z.1) (some ())) (fun v r _ => bN r (bT (isFn z.1) (bT (isCl v.1) (some ())))) r) (isFn x.1)))
theorem spT_ok {bl : List (Code × Pos)} (h : spT bl = true) : TakeRuns bl :=
 inv_l (yes_ok h) fun x r e h => inv_l h fun y r1 e1 h => inv_t h fun hy h => inv_l h fun z r2 e2 hL => by
  obtain ⟨x, px⟩ := x
  obtain ⟨y, py⟩ := y
  obtain ⟨z, pz⟩ := z
  obtain ⟨_, _, rfl⟩ := isFn_ok hy
  rw [e, e1, e2]
  cases hx : isFn x with
  | false =>
   rw [show isFn _ = _ from hx] at hL
   exact inv_t hL fun hx h => inv_t h fun hz h => inv_l h fun v r3 e3 h => inv_n h fun e4 h => inv_t h fun hv _ => by
    obtain ⟨v, pv⟩ := v
    obtain ⟨_, _, _, _, _, rfl⟩ := isFor_ok hx
    obtain ⟨_, _, rfl⟩ := isFn_ok hz
    rw [e3, e4, show v = _ from isCl_ok hv]
    exact takeRuns2 _ _ _ _ _ _ _ _ _ _ _ _ _
  | true =>
   rw [show isFn _ = _ from hx] at hL
   obtain ⟨_, _, rfl⟩ := isFn_ok hx
   cases r2 with
   | nil => exact inv_t hL fun hz _ => by rw [show z = _ from isCl_ok hz]; exact takeRuns1 _ _ _ _ _ _ _
   | cons v r3 =>
    exact inv_n hL fun e4 h => inv_t h fun hz h => inv_t h fun hv _ => by
     obtain ⟨v, pv⟩ := v
     obtain ⟨_, _, rfl⟩ := isFn_ok hz
     rw [e4, show v = _ from isCl_ok hv]
     exact takeRuns3 _ _ _ _ _ _ _ _ _ _
def isChL (ch : Ch) : Option (Array Value × Array Value × Array Value) := bL ch fun x r => bT (Nat.beq x.1 1693) (bL r fun y r => bT (Nat.beq y.1 1698) (bL r fun z r => bT (Nat.beq z.1 1705) (bN r (some (x.2, y.2, z.2)))))
theorem isChL_ok {ch : Ch} {v : Array Value × Array Value × Array Value} (h : isChL ch = some v) : ch = chL v.1 v.2.1 v.2.2 :=
 inv_l h fun x r e h => inv_t h fun e1 h => inv_l h fun y r2 e2 h => inv_t h fun e3 h => inv_l h fun z r3 e4 h => inv_t h fun e5 h => inv_n h fun e6 h => by
  obtain ⟨x, vx⟩ := x
  obtain ⟨y, vy⟩ := y
  obtain ⟨z, vz⟩ := z
  rw [e, e2, e4, e6, ← Option.some.inj h, show x = 1693 from Nat.eq_of_beq_eq_true e1, show y = 1698 from Nat.eq_of_beq_eq_true e3, show z = 1705 from Nat.eq_of_beq_eq_true e5]; rfl
def cC (c : Code) : Option (Value × Args) := match c with
 | .call f a => some (f, a)
 | _ => none
theorem cC_ok {c : Code} {q : Value × Args} (h : cC c = some q) : c = .call q.1 q.2 := by
 cases c <;> first | (cases Option.some.inj h; rfl) | cases h
def atTake (Γ : PySem.Ctx) : Option (Nat × Int × Nat) := PySem.Ctx.rec (motive := fun _ => Option (Nat × Int × Nat)) (fun code hd own bl x => bO (cC code) fun q => bO (vRef q.1) fun f => bT (Nat.beq f 1644) (bN q.2.kw (bL q.2.pos fun v r => bO (vRef v) fun la => bL r fun u r => bN r (bO (vInt u) fun k => bT (noO hd) (bT (noO own) (bT (noO x) (bT (spT bl) (some (la, k))))))))) Γ
theorem atTake_ok {Γ : PySem.Ctx} {la u : Nat} {top : Int} (h : atTake Γ = some (la, top, u)) : ∃ bl, Γ = ΓT la top u bl ∧ TakeRuns bl := by
 obtain ⟨code, hd, own, bl, x⟩ := Γ
 exact inv_o h fun q e h => inv_o h fun f e1 h => inv_t h fun e2 h => inv_n h fun e3 h => inv_l h fun v r e4 h => inv_o h fun la e5 h => inv_l h fun u r2 e6 h => inv_n h fun e7 h => inv_o h fun k e8 h => inv_t h fun e9 h => inv_t h fun e10 h => inv_t h fun e11 h => inv_t h fun e12 hz => by
  obtain ⟨fv, pos, kw⟩ := q
  cases hz
  refine ⟨bl, ?_, spT_ok e12⟩
  rw [cC_ok e, noO_ok e9, noO_ok e10, noO_ok e11, show fv = .ref f from vRef_ok e1, Nat.eq_of_beq_eq_true e2, show kw = [] from e3, show pos = _ from e4, e6, e7, vRef_ok e5, vInt_ok e8]; rfl
def srcAt (T : MT) (j : Nat) : Option (Nat × Int × Nat × Int × Nat × Nat) := bO (seqAt nList T j) fun q => bO (aII q.2.1.toList) fun r => some (q.1, r.1.1, r.1.2, r.2.1, r.2.2, q.2.2)
theorem srcAt_ok {T : MT} {j a u0 u1 ep : Nat} {s0 s1 : Int} (h : srcAt T j = some (a, s0, u0, s1, u1, ep)) : T.get (j / 2) = some (a, srcE s0 u0 s1 u1 ep) :=
 inv_o h fun q e h => inv_o h fun r e2 h => by
  obtain ⟨a', xs, ep'⟩ := q
  have : xs = _ := Array.ext' (aII_ok e2)
  cases h
  rw [seqAt_ok nList_is e, this]; rfl
def hkD {δ : Type} (A : List Nat → PySem.Ctx → MT → Nat → Ch → Option δ) (W : δ → MT → Nat → Ch → List (Nat × Nat) × (KTy → Prop)) : HB := fun js Γ _ T m _ _ τ _ ch => bO (A js Γ T τ ch) fun d => some (W d T m ch)
theorem hkD_ok {V : XW} {δ : Type} {A : List Nat → PySem.Ctx → MT → Nat → Ch → Option δ} {W : δ → MT → Nat → Ch → List (Nat × Nat) × (KTy → Prop)}
  (mono : ∀ d T m ch F G, (∀ r T m B c τ i ch js, F r T m B c τ i ch js → G r T m B c τ i ch js) → (W d T m ch).2 F → (W d T m ch).2 G)
  (ok : ∀ js Γ p T m B c τ i ch d, A js Γ T τ ch = some d → (∀ y ∈ (W d T m ch).1, y.1 = y.2) → ∀ R h, Rp V T m (B + c) ch h → (W d T m ch).2 (fun r T m B c τ i ch _ => AtS V R r T m B c τ i ch) → wpCode V.M Γ R p (V.sh h (τ + i))) : HBOk V (hkD A W) where
 mono := fun js Γ p T m B c τ i ch ps W' e F G H x => inv_o e fun d _ e => by
  rw [← show (W d T m ch).2 = W' from congrArg Prod.snd (Option.some.inj e)] at x ⊢
  exact mono _ _ _ _ _ _ H x
 ok := fun js Γ p T m B c τ i ch ps W' e hps R h D x => inv_o e fun d e1 e => by
  rw [← show (W d T m ch).2 = W' from congrArg Prod.snd (Option.some.inj e)] at x
  rw [← show (W d T m ch).1 = ps from congrArg Prod.fst (Option.some.inj e)] at hps
  exact ok _ _ _ _ _ _ _ _ _ _ d e1 hps R h D x
structure DA where
 la : Nat
 top : Int
 u : Nat
 τ : Nat
 v : Array Value × Array Value × Array Value
 j : Nat
 js : List Nat
 s : Nat × Int × Nat × Int × Nat × Nat
def bS {β : Type} (n : Nat) (f : Nat → Option β) : Option β := Nat.rec (motive := fun _ => Option β) none (fun k _ => f k) n
theorem inv_s {β : Type} {n : Nat} {f : Nat → Option β} {x : β} {P : Prop} (e : bS n f = some x) (k : ∀ k, n = k + 1 → f k = some x → P) : P := by
 cases n with
 | zero => cases e
 | succ y => exact k y rfl e
def takA (js : List Nat) (Γ : PySem.Ctx) (T : MT) (τ : Nat) (ch : Ch) : Option DA := bO (atTake Γ) fun q => bS τ fun t => bO (isChL ch) fun v => bL js fun j js => bT (decide (1 ≤ q.2.1)) (bT (decide (q.2.1 ≤ 1000)) (bO (srcAt T j) fun s => some ⟨q.1, q.2.1, q.2.2, t, v, j, js, s⟩))
def takB (js : List Nat) (Γ : PySem.Ctx) (T : MT) (τ : Nat) (ch : Ch) : Option (DA × Nat) := bO (takA js Γ T τ ch) fun d => bL d.js fun b _ => some (d, b)
theorem takA_wp {w : World} {h : Heap} {d : Drawn} {os : OsState} {X : Nat → Option Obj} (O : (VX w h d os X).Ok) {js : List Nat} {Γ : PySem.Ctx} {p : Pos} {T : MT} {m B c τ i : Nat} {ch : Ch} {q : DA} (e : takA js Γ T τ ch = some q) (hps : ∀ y ∈ [(q.la, q.s.1)], y.1 = y.2) {R : Result → Shared → Prop} {g : Heap} (D : Rp (VX w h d os X) T m (B + c) ch g) (hb : Bd q.s.2.1 q.s.2.2.2.1)
  (K : ∀ (r : Int) u' N' t' s0' u0' s1' u1', 0 ≤ r → r < q.top → Bd s0' s1' → AtS (VX w h d os X) R (.ok (.ret (.int r u'))) (T.upd (q.j / 2) fun _ => srcE s0' u0' s1' u1' q.s.2.2.2.2.2) m (N' + 1723) 0 (t' + 1) 0 ch) : wpCode (VX w h d os X).M Γ R p ((VX w h d os X).sh g (τ + i)) :=
 inv_o e fun y e1 e => inv_s e fun t et e => inv_o e fun v e2 e => inv_l e fun j js _ e => inv_t e fun c1 e => inv_t e fun c2 e => inv_o e fun s e3 e => by
  rw [← Option.some.inj e] at hps hb K
  obtain ⟨bl, hΓ, TR⟩ := atTake_ok e1
  rw [isChL_ok e2] at D K
  rw [hΓ, et, Nat.add_right_comm, show y.1 = s.1 from hps _ (.head _)]
  have hB : 1723 ≤ B + c := D.low
  have D0 : Rp (VX w h d os X) T m (B + c - 1723 + 1723) (chL v.1 v.2.1 v.2.2) g := by rw [Nat.sub_add_cancel hB]; exact D
  exact take_wp O TR D0 (srcAt_ok e3) hb (of_decide_eq_true c1) (of_decide_eq_true c2) K
def allK (n : Nat) (f : Nat → Prop) : Prop := Nat.rec (motive := fun _ => Prop) True (fun i ih => ih ∧ f i) n
theorem allK_get {f : Nat → Prop} : ∀ {n : Nat}, allK n f → ∀ i, i < n → f i
 | 0, _, i, h => absurd h (Nat.not_lt_zero _)
 | n + 1, h, i, hi => by
  have h' : allK n f ∧ f n := h
  rcases Nat.lt_or_ge i n with q | q
  ·exact allK_get h'.1 i q
  ·rw [show i = n by omega]; exact h'.2
theorem allK_mono {f g : Nat → Prop} (H : ∀ i, f i → g i) : ∀ {n : Nat}, allK n f → allK n g
 | 0, _ => trivial
 | n + 1, h => ⟨allK_mono H (h : allK n f ∧ f n).1, H _ (h : allK n f ∧ f n).2⟩
def hkTakeS (br : Nat → List Nat) : HB := hkD takB fun d T m ch => ([(d.1.la, d.1.s.1)], fun K => Bd d.1.s.2.1 d.1.s.2.2.2.1 ∧ ∀ u' N' t' s0' u0' s1' u1', Bd s0' s1' →
    allK d.1.top.toNat fun r => K (.ok (.ret (.int (.ofNat r) u'))) (T.upd (d.1.j / 2) fun _ => srcE s0' u0' s1' u1' d.1.s.2.2.2.2.2) m (N' + 1723) 0 (t' + 1) 0 ch (br (d.2 + r)))
theorem hkTakeS_ok {w : World} {h : Heap} {d : Drawn} {os : OsState} {X : Nat → Option Obj} (O : (VX w h d os X).Ok) (br : Nat → List Nat) : HBOk (VX w h d os X) (hkTakeS br) :=
 hkD_ok (fun d T m ch F G H x => ⟨x.1, fun u' N' t' s0' u0' s1' u1' hb => allK_mono (fun r => H _ _ _ _ _ _ _ _ _) (x.2 u' N' t' s0' u0' s1' u1' hb)⟩)
 fun js Γ p T m B c τ i ch q e hps R g D x => inv_o e fun q' e1 e => inv_l e fun b _ _ e => by
  rw [← Option.some.inj e] at hps x
  refine takA_wp O e1 hps D x.1 fun r u' N' t' s0' u0' s1' u1' r0 r1 hb => ?_
  obtain ⟨r, rfl⟩ := Int.eq_ofNat_of_zero_le r0
  exact allK_get (x.2 u' N' t' s0' u0' s1' u1' hb) r ((Int.lt_toNat).mpr r1)
def pickBC (i : Nat) (l : List (Nat × Nat)) : Nat := List.rec (motive := fun _ => Nat) 0 (fun x _ ih => Bool.rec ih (x.2 + (i - x.1)) (Nat.ble x.1 i)) l
def AXf (sa fa la : Nat) (l : List (Nat × Nat)) (i : Nat) : Nat := match i with
 | 0 => sa
 | 1 => fa
 | 2 => la
 | _ => pickBC i l
def nthLC (l : List (List Nat)) (q : Nat) : List Nat := List.rec (motive := fun _ => Nat → List Nat) (fun _ => []) (fun x _ ih q => match q with | 0 => x | q + 1 => ih q) l q
abbrev VC := Result × Option (Nat × Obj) × Option (Nat × Obj) × Option (Nat × Obj) × Nat × Nat × Option (Array Value × Array Value)
abbrev KD (x0 x1 : Nat × Obj) (la : Nat) (v1 v2 : Array Value) (X : VC) : Prop := X.1 = .ok (.ret (.bool true)) ∧ X.2.1 = some x0 ∧ X.2.2.1 = some x1 ∧ (∃ s0 u0 s1 u1, Bd s0 s1 ∧ X.2.2.2.1 = some (la, srcE s0 u0 s1 u1 0)) ∧ (∃ N, X.2.2.2.2.1 = N + 1723) ∧ (∃ t, X.2.2.2.2.2.1 = t + 1) ∧ X.2.2.2.2.2.2 = some (v1, v2)
def ch12 (o : Option (Array Value × Array Value × Array Value)) : Option (Array Value × Array Value) := match o with
 | some (a, b, _) => some (a, b)
 | none => none
def KC (x0 x1 : Nat × Obj) (la : Nat) (v1 v2 : Array Value) : KTy := fun r T _ B _ τ _ ch _ => KD x0 x1 la v1 v2 (r, T.get 0, T.get 1, T.get 2, B, τ, ch12 (isChL ch))
def jsC_0 : List Nat := (dec [0x11717171717171717171717177d1500157d7f7f7f027d02000f0f0f0f7b0200070778] ++ (z30 ++ (z89 ++ (z89 ++ (z89 ++ (z89 ++ (z89 ++ (z89 ++ (z89 ++ (z89 ++ (dec [0x10f0f] ++ (z133 ++ (dec [0x102001d1d1d1d] ++ (z36 ++ (dec [0x17b23782302002323232323237d2100217c7f7f7f1d1d00] ++ (z90 ++ (z90 ++ (z90 ++ (dec [0x11f1f1f00217921002178217a2123] ++ (z134 ++ (dec [0x102002b2b7d290029787f7f7f] ++ (z135 ++ (z135 ++ (z134 ++ (z134 ++ (z134 ++ (z134 ++ dec [0x105060007790d0d])))))))))))))))))))))))))))
def jsC_1 : List Nat := (dec [0x13737370037003700372c3735353500350035353500350035357c] ++ (z71 ++ (dec [0x13d3d3d19001b1b791b7a1b3f191919001b791b001b781b7a1b3f7819001b1b791b7a1b3f02003f3f7a191b7a1b791b791b3d02003d3d3d3d3d3d3d3d] ++ (z79 ++ (dec [0x14545452f002f002f2f41412700292979297a2941412f7a43004300434343002f002f2f2700292979297a29414141020041414141414141417a3d3d3d, 0x102004b4b4b4b4b4b4b4b7d4900497c7f7f7f3d3d3d002f2f2f2f7a45004500] ++ (z91 ++ (z91 ++ (z91 ++ (z136 ++ (z136 ++ (dec [0x13d00314c310031313d19001b1b791b7a1b3d] ++ (z137 ++ dec [0x105060039003900397855785500550200555555557a0707003b3b3b070753]))))))))))))
def jsC_2 : List Nat := (dec [0x1595b59000231403100313119001b1b791b7a1b57570200575757577a09191b7a1b791b791b0d0b0b7839223900093939393907090939003900393939, 0x109191b7a1b791b791b0d025b593a5900] ++ (z72 ++ (dec [0x1006d6f006f711a00717171717b7f025f4f284f004f5f4f5d5d5d004700494979497a4900314631003131315d19001b1b791b7a1b5d02314031003131, 0x1191919001b791b001b781b7a1b777819001b1b791b7a1b77020077777a191b7a1b791b791b75020075757575757575757a0b191b7a1b791b791b0d02, 0x175757519001b1b791b7a1b77] ++ (z79 ++ (dec [0x17980798079800200798079807980798079807980798079807a757575] ++ (z138 ++ (dec [0x1858085807f807f807f80030707717173737575798079807f8079807980007f80007f807f80007f807f808380838083807f80007f807b7f80007f80787f807c7f8081808180020081808180818081807f7f80007f807a7f7f7f45027b80, 0x18b808b807f80787f807971008b808b807f807f807f80718980898089807f80898089807f807f807f80738780878087807f80737300878087807f807f807f80758580858085807f80757500] ++ (z60 ++ (dec [0x18d8002008f808f808d808d80] ++ (z80 ++ (dec [0x18d807995809180918091802d2d91809180009180009180029180] ++ (z81 ++ dec [0x100a18000a1800099800099809980789b809b809b809f809780978097802f2f9780978000978000978000998099809980009980798f80450045004545459b809b809b80978097809780978097802f2f97809780009780009780009780329780, 0x10506000700a180a1809980a180a18000a180]))))))))))))
def jsC_3 : List Nat := z6
def jsC_4 : List Nat := z6
def jsC_5 : List Nat := (z7 ++ dec [0x105060039003900397869786900690200696969697a0707003b3b3b070767])
def jsC_6 : List Nat := (z14 ++ (dec [0x14f284f004f734f717171004700494979497a49] ++ (z10 ++ dec [0x105060007])))
def jsC_7 : List Nat := z4
def jsC_8 : List Nat := z4
def jsC_9 : List Nat := (z14 ++ (dec [0x163286300637363717171005b005d5d795d7a5d] ++ (z10 ++ dec [0x10506000700b580b580ad80b580b58000b58000b580])))
def jsC_10 : List Nat := z5
def jsC_11 : List Nat := z5
def jsC_12 : List Nat := (z7 ++ (z71 ++ (dec [0x165656519001b1b791b7a1b67191919001b791b001b781b7a1b677819001b1b791b7a1b67020067677a191b7a1b791b791b6502006565656565656565] ++ (z79 ++ (dec [0x1696969020069696969696969697a656565] ++ (z138 ++ (dec [0x1020073737373737373737d7100717c7f7f7f656565005945006d2f9a802f002f2f69692700292979297a2969695945006b] ++ (z92 ++ (z92 ++ (z92 ++ (z139 ++ (z139 ++ (dec [0x16500314c310031316519001b1b791b7a1b65] ++ (z137 ++ dec [0x10506003900390039787d80787d80007d8002007d807d807d807d807a0707003b3b3b07077b80]))))))))))))))
def jsC_13 : List Nat := (z15 ++ (dec [0x1791b9d8002009d809d809d809d809d809d809d809d807a0b191b7a1b791b791b0d02009580978000978099801a0099809980998099807b7f0287804f284f004f87804f858085808580004700494979497a49, 0x19d809d809d8019001b1b791b7a1b9f80191919001b791b001b781b7a1b9f807819001b1b791b7a1b9f8002009f809f807a191b7a1b791b] ++ (z79 ++ (dec [0x1a180a180a1800200a180a180a180a180a180a180a180a1807a9d809d809d80] ++ (z138 ++ (dec [0x1a780a780a780030707998099809b809b809d809d80a180a180a780a180a18000a78000a780a78000a780a780ab80ab80ab80a78000a7807ba78000a78078a7807ca780a980a9800200a980a980a980a9807fa78000a7807a7f7f7f6d594502a380, 0x1b380b380a78078a78079998000b380b380a780a780a7809980b180b180b180a780b180b180a780a780a7809b80af80af80af80a7809b809b8000af80af80a780a780a7809d80ad80ad80ad80a7809d809d8000ad80ad80] ++ (z60 ++ (dec [0x1b5800200b780b780b580b580] ++ (z80 ++ (dec [0x1b58079bd80b980b980b9802d2db980b98000b98000b98002b980] ++ (z81 ++ (dec [0x145004500454545c380c380c380bf80bf80bf80bf80bf802f2fbf80bf8000bf8000bf8000bf8032bf80] ++ (z42 ++ (dec [0x159005900595959] ++ (z42 ++ (dec [0x100c98000c18000c180c18078c380c380c380c780bf80bf80bf802f2fbf80bf8000bf8000bf8000c180c180c18000c18079b7806d006d006d6d6d] ++ z140))))))))))))))))
def jsC_14 : List Nat := z1
def jsC_15 : List Nat := z1
def jsC_16 : List Nat := (z15 ++ (dec [0x16328630063878063858085808580005b005d5d795d7a5d] ++ (z9 ++ dec [0x105060007])))
def jsC_17 : List Nat := z2
def jsC_18 : List Nat := z2
def jsC_19 : List Nat := (z15 ++ (dec [0x17728770077878077858085808580006f00717179717a71] ++ (z9 ++ z140)))
def jsC_20 : List Nat := z3
def jsC_21 : List Nat := z3
def brC : Nat → List Nat := nthLC [(jsC_1 ++ [3]), (jsC_5 ++ [6]), (jsC_12 ++ [12]), (jsC_2 ++ [4]), jsC_3, jsC_4, (jsC_6 ++ [8]), (jsC_9 ++ [10]), jsC_7, jsC_8, jsC_10, jsC_11, (jsC_13 ++ [15]), (jsC_16 ++ [17]), (jsC_19 ++ [19]), jsC_14, jsC_15, jsC_17, jsC_18, jsC_20, jsC_21]
theorem run_closed_false (w : World) (N t0 sa fa la : Nat) (o0 : Obj) (s0 : Int) (u0 : Nat) (s1 : Int) (u1 : Nat) (es : Array DictEntry) (ep : Nat) (h : Heap) (d : Drawn) (os : OsState) (b : List Stmt) (e : EnvV) (p1 p2 p : Pos) (b2 : Bool) (v1 v2 : Array Value) :
 simG (VV (wF w false b2) h d os) (HH (hkOf [hkTakeS brC])) (KC (sa, o0) (fa, frO es ep (rdyS e)) la v1 v2) 20000 (ΓL 1708 [.ref la] b (envL e fa) p1 p2) p .base (denF (.call (.ref 1708) ⟨[.ref la], []⟩)) (TL sa fa la o0 (frO es ep (rdyS e)) (srcO s0 u0 s1 u1)) 3 (N + 1723) 0 (t0 + 1) 0 (chL v1 v2 #[]) (jsC_0 ++ [0]) [] True =
 AllP (okAcc (accL (AXf sa fa la [(3, N + 1723)]) jsC_0 []) ∧ tt 0 ∧ Bd s0 s1 ∧ ∀ (ua Na ta : Nat) (s0a : Int) (u0a : Nat) (s1a : Int) (u1a : Nat), Bd s0a s1a → (((True ∧ (AllP (okAcc (accL (AXf sa fa la [(26, Na + 1723), (3, N + 1723)]) jsC_1 []) ∧ tt 1 ∧ Bd s0a s1a ∧ ∀ (ub Nb tb : Nat) (s0b : Int) (u0b : Nat) (s1b : Int) (u1b : Nat), Bd s0b s1b → (True ∧ (AllP (okAcc (accL (AXf sa fa la [(43, Nb + 1723), (26, Na + 1723), (3, N + 1723)]) jsC_2 []) ∧ tt 7 ∧ Bd s0b s1b ∧ ∀ (uc Nc tc : Nat) (s0c : Int) (u0c : Nat) (s1c : Int) (u1c : Nat), Bd s0c s1c → ((True ∧ (AllP (okAcc (accL (AXf sa fa la [(81, Nc + 1723), (43, Nb + 1723), (26, Na + 1723), (3, N + 1723)]) jsC_3 []) ∧ tt 16 ∧ KD (sa, o0) (fa, frO es ep (rdyS e)) la v1 v2 (.ok (.ret (.bool true)), some (sa, o0), some (fa, frO es ep (rdyS e)), some (la, srcE s0c u0c s1c u1c 0), Nc + 1723, tc + 1, some (v1, v2))) 5)) ∧ (AllP (okAcc (accL (AXf sa fa la [(81, Nc + 1723), (43, Nb + 1723), (26, Na + 1723), (3, N + 1723)]) jsC_4 []) ∧ tt 16 ∧ KD (sa, o0) (fa, frO es ep (rdyS e)) la v1 v2 (.ok (.ret (.bool true)), some (sa, o0), some (fa, frO es ep (rdyS e)), some (la, srcE s0c u0c s1c u1c 0), Nc + 1723, tc + 1, some (v1, v2))) 5))) 1))) 1)) ∧ (AllP (okAcc (accL (AXf sa fa la [(26, Na + 1723), (3, N + 1723)]) jsC_5 []) ∧ tt 4 ∧ Bd s0a s1a ∧ ∀ (ub Nb tb : Nat) (s0b : Int) (u0b : Nat) (s1b : Int) (u1b : Nat), Bd s0b s1b → ((True ∧ (AllP (okAcc (accL (AXf sa fa la [(53, Nb + 1723), (26, Na + 1723), (3, N + 1723)]) jsC_6 []) ∧ tt 7 ∧ Bd s0b s1b ∧ ∀ (uc Nc tc : Nat) (s0c : Int) (u0c : Nat) (s1c : Int) (u1c : Nat), Bd s0c s1c → ((True ∧ (AllP (okAcc (accL (AXf sa fa la [(91, Nc + 1723), (53, Nb + 1723), (26, Na + 1723), (3, N + 1723)]) jsC_7 []) ∧ tt 20 ∧ KD (sa, o0) (fa, frO es ep (rdyS e)) la v1 v2 (.ok (.ret (.bool true)), some (sa, o0), some (fa, frO es ep (rdyS e)), some (la, srcE s0c u0c s1c u1c 0), Nc + 1723, tc + 1, some (v1, v2))) 5)) ∧ (AllP (okAcc (accL (AXf sa fa la [(91, Nc + 1723), (53, Nb + 1723), (26, Na + 1723), (3, N + 1723)]) jsC_8 []) ∧ tt 20 ∧ KD (sa, o0) (fa, frO es ep (rdyS e)) la v1 v2 (.ok (.ret (.bool true)), some (sa, o0), some (fa, frO es ep (rdyS e)), some (la, srcE s0c u0c s1c u1c 0), Nc + 1723, tc + 1, some (v1, v2))) 5))) 1)) ∧ (AllP (okAcc (accL (AXf sa fa la [(53, Nb + 1723), (26, Na + 1723), (3, N + 1723)]) jsC_9 []) ∧ tt 7 ∧ Bd s0b s1b ∧ ∀ (uc Nc tc : Nat) (s0c : Int) (u0c : Nat) (s1c : Int) (u1c : Nat), Bd s0c s1c → ((True ∧ (AllP (okAcc (accL (AXf sa fa la [(91, Nc + 1723), (53, Nb + 1723), (26, Na + 1723), (3, N + 1723)]) jsC_10 []) ∧ tt 20 ∧ KD (sa, o0) (fa, frO es ep (rdyS e)) la v1 v2 (.ok (.ret (.bool true)), some (sa, o0), some (fa, frO es ep (rdyS e)), some (la, srcE s0c u0c s1c u1c 0), Nc + 1723, tc + 1, some (v1, v2))) 5)) ∧ (AllP (okAcc (accL (AXf sa fa la [(91, Nc + 1723), (53, Nb + 1723), (26, Na + 1723), (3, N + 1723)]) jsC_11 []) ∧ tt 20 ∧ KD (sa, o0) (fa, frO es ep (rdyS e)) la v1 v2 (.ok (.ret (.bool true)), some (sa, o0), some (fa, frO es ep (rdyS e)), some (la, srcE s0c u0c s1c u1c 0), Nc + 1723, tc + 1, some (v1, v2))) 5))) 1))) 1)) ∧ (AllP (okAcc (accL (AXf sa fa la [(26, Na + 1723), (3, N + 1723)]) jsC_12 []) ∧ tt 7 ∧ Bd s0a s1a ∧ ∀ (ub Nb tb : Nat) (s0b : Int) (u0b : Nat) (s1b : Int) (u1b : Nat), Bd s0b s1b → (((True ∧ (AllP (okAcc (accL (AXf sa fa la [(63, Nb + 1723), (26, Na + 1723), (3, N + 1723)]) jsC_13 []) ∧ tt 7 ∧ Bd s0b s1b ∧ ∀ (uc Nc tc : Nat) (s0c : Int) (u0c : Nat) (s1c : Int) (u1c : Nat), Bd s0c s1c → ((True ∧ (AllP (okAcc (accL (AXf sa fa la [(101, Nc + 1723), (63, Nb + 1723), (26, Na + 1723), (3, N + 1723)]) jsC_14 []) ∧ tt 22 ∧ KD (sa, o0) (fa, frO es ep (rdyS e)) la v1 v2 (.ok (.ret (.bool true)), some (sa, o0), some (fa, frO es ep (rdyS e)), some (la, srcE s0c u0c s1c u1c 0), Nc + 1723, tc + 1, some (v1, v2))) 5)) ∧ (AllP (okAcc (accL (AXf sa fa la [(101, Nc + 1723), (63, Nb + 1723), (26, Na + 1723), (3, N + 1723)]) jsC_15 []) ∧ tt 22 ∧ KD (sa, o0) (fa, frO es ep (rdyS e)) la v1 v2 (.ok (.ret (.bool true)), some (sa, o0), some (fa, frO es ep (rdyS e)), some (la, srcE s0c u0c s1c u1c 0), Nc + 1723, tc + 1, some (v1, v2))) 5))) 1)) ∧ (AllP (okAcc (accL (AXf sa fa la [(63, Nb + 1723), (26, Na + 1723), (3, N + 1723)]) jsC_16 []) ∧ tt 7 ∧ Bd s0b s1b ∧ ∀ (uc Nc tc : Nat) (s0c : Int) (u0c : Nat) (s1c : Int) (u1c : Nat), Bd s0c s1c → ((True ∧ (AllP (okAcc (accL (AXf sa fa la [(101, Nc + 1723), (63, Nb + 1723), (26, Na + 1723), (3, N + 1723)]) jsC_17 []) ∧ tt 22 ∧ KD (sa, o0) (fa, frO es ep (rdyS e)) la v1 v2 (.ok (.ret (.bool true)), some (sa, o0), some (fa, frO es ep (rdyS e)), some (la, srcE s0c u0c s1c u1c 0), Nc + 1723, tc + 1, some (v1, v2))) 5)) ∧ (AllP (okAcc (accL (AXf sa fa la [(101, Nc + 1723), (63, Nb + 1723), (26, Na + 1723), (3, N + 1723)]) jsC_18 []) ∧ tt 22 ∧ KD (sa, o0) (fa, frO es ep (rdyS e)) la v1 v2 (.ok (.ret (.bool true)), some (sa, o0), some (fa, frO es ep (rdyS e)), some (la, srcE s0c u0c s1c u1c 0), Nc + 1723, tc + 1, some (v1, v2))) 5))) 1)) ∧ (AllP (okAcc (accL (AXf sa fa la [(63, Nb + 1723), (26, Na + 1723), (3, N + 1723)]) jsC_19 []) ∧ tt 7 ∧ Bd s0b s1b ∧ ∀ (uc Nc tc : Nat) (s0c : Int) (u0c : Nat) (s1c : Int) (u1c : Nat), Bd s0c s1c → ((True ∧ (AllP (okAcc (accL (AXf sa fa la [(101, Nc + 1723), (63, Nb + 1723), (26, Na + 1723), (3, N + 1723)]) jsC_20 []) ∧ tt 22 ∧ KD (sa, o0) (fa, frO es ep (rdyS e)) la v1 v2 (.ok (.ret (.bool true)), some (sa, o0), some (fa, frO es ep (rdyS e)), some (la, srcE s0c u0c s1c u1c 0), Nc + 1723, tc + 1, some (v1, v2))) 5)) ∧ (AllP (okAcc (accL (AXf sa fa la [(101, Nc + 1723), (63, Nb + 1723), (26, Na + 1723), (3, N + 1723)]) jsC_21 []) ∧ tt 22 ∧ KD (sa, o0) (fa, frO es ep (rdyS e)) la v1 v2 (.ok (.ret (.bool true)), some (sa, o0), some (fa, frO es ep (rdyS e)), some (la, srcE s0c u0c s1c u1c 0), Nc + 1723, tc + 1, some (v1, v2))) 5))) 1))) 1))) 0 := by kernel_rfl
theorem run_closed_true (w : World) (N t0 sa fa la : Nat) (o0 : Obj) (s0 : Int) (u0 : Nat) (s1 : Int) (u1 : Nat) (es : Array DictEntry) (ep : Nat) (h : Heap) (d : Drawn) (os : OsState) (b : List Stmt) (e : EnvV) (p1 p2 p : Pos) (b2 : Bool) (v1 v2 : Array Value) :
 simG (VV (wF w true b2) h d os) (HH (hkOf [hkTakeS brC])) (KC (sa, o0) (fa, frO es ep (rdyS e)) la v1 v2) 20000 (ΓL 1708 [.ref la] b (envL e fa) p1 p2) p .base (denF (.call (.ref 1708) ⟨[.ref la], []⟩)) (TL sa fa la o0 (frO es ep (rdyS e)) (srcO s0 u0 s1 u1)) 3 (N + 1723) 0 (t0 + 1) 0 (chL v1 v2 #[]) (jsC_0 ++ [0]) [] True =
 AllP (okAcc (accL (AXf sa fa la [(3, N + 1723)]) jsC_0 []) ∧ tt 0 ∧ Bd s0 s1 ∧ ∀ (ua Na ta : Nat) (s0a : Int) (u0a : Nat) (s1a : Int) (u1a : Nat), Bd s0a s1a → (((True ∧ (AllP (okAcc (accL (AXf sa fa la [(26, Na + 1723), (3, N + 1723)]) jsC_1 []) ∧ tt 1 ∧ Bd s0a s1a ∧ ∀ (ub Nb tb : Nat) (s0b : Int) (u0b : Nat) (s1b : Int) (u1b : Nat), Bd s0b s1b → (True ∧ (AllP (okAcc (accL (AXf sa fa la [(43, Nb + 1723), (26, Na + 1723), (3, N + 1723)]) jsC_2 []) ∧ tt 7 ∧ Bd s0b s1b ∧ ∀ (uc Nc tc : Nat) (s0c : Int) (u0c : Nat) (s1c : Int) (u1c : Nat), Bd s0c s1c → ((True ∧ (AllP (okAcc (accL (AXf sa fa la [(81, Nc + 1723), (43, Nb + 1723), (26, Na + 1723), (3, N + 1723)]) jsC_3 []) ∧ tt 16 ∧ KD (sa, o0) (fa, frO es ep (rdyS e)) la v1 v2 (.ok (.ret (.bool true)), some (sa, o0), some (fa, frO es ep (rdyS e)), some (la, srcE s0c u0c s1c u1c 0), Nc + 1723, tc + 1, some (v1, v2))) 5)) ∧ (AllP (okAcc (accL (AXf sa fa la [(81, Nc + 1723), (43, Nb + 1723), (26, Na + 1723), (3, N + 1723)]) jsC_4 []) ∧ tt 16 ∧ KD (sa, o0) (fa, frO es ep (rdyS e)) la v1 v2 (.ok (.ret (.bool true)), some (sa, o0), some (fa, frO es ep (rdyS e)), some (la, srcE s0c u0c s1c u1c 0), Nc + 1723, tc + 1, some (v1, v2))) 5))) 1))) 1)) ∧ (AllP (okAcc (accL (AXf sa fa la [(26, Na + 1723), (3, N + 1723)]) jsC_5 []) ∧ tt 4 ∧ Bd s0a s1a ∧ ∀ (ub Nb tb : Nat) (s0b : Int) (u0b : Nat) (s1b : Int) (u1b : Nat), Bd s0b s1b → ((True ∧ (AllP (okAcc (accL (AXf sa fa la [(53, Nb + 1723), (26, Na + 1723), (3, N + 1723)]) jsC_6 []) ∧ tt 7 ∧ Bd s0b s1b ∧ ∀ (uc Nc tc : Nat) (s0c : Int) (u0c : Nat) (s1c : Int) (u1c : Nat), Bd s0c s1c → ((True ∧ (AllP (okAcc (accL (AXf sa fa la [(91, Nc + 1723), (53, Nb + 1723), (26, Na + 1723), (3, N + 1723)]) jsC_7 []) ∧ tt 20 ∧ KD (sa, o0) (fa, frO es ep (rdyS e)) la v1 v2 (.ok (.ret (.bool true)), some (sa, o0), some (fa, frO es ep (rdyS e)), some (la, srcE s0c u0c s1c u1c 0), Nc + 1723, tc + 1, some (v1, v2))) 5)) ∧ (AllP (okAcc (accL (AXf sa fa la [(91, Nc + 1723), (53, Nb + 1723), (26, Na + 1723), (3, N + 1723)]) jsC_8 []) ∧ tt 20 ∧ KD (sa, o0) (fa, frO es ep (rdyS e)) la v1 v2 (.ok (.ret (.bool true)), some (sa, o0), some (fa, frO es ep (rdyS e)), some (la, srcE s0c u0c s1c u1c 0), Nc + 1723, tc + 1, some (v1, v2))) 5))) 1)) ∧ (AllP (okAcc (accL (AXf sa fa la [(53, Nb + 1723), (26, Na + 1723), (3, N + 1723)]) jsC_9 []) ∧ tt 7 ∧ Bd s0b s1b ∧ ∀ (uc Nc tc : Nat) (s0c : Int) (u0c : Nat) (s1c : Int) (u1c : Nat), Bd s0c s1c → ((True ∧ (AllP (okAcc (accL (AXf sa fa la [(91, Nc + 1723), (53, Nb + 1723), (26, Na + 1723), (3, N + 1723)]) jsC_10 []) ∧ tt 20 ∧ KD (sa, o0) (fa, frO es ep (rdyS e)) la v1 v2 (.ok (.ret (.bool true)), some (sa, o0), some (fa, frO es ep (rdyS e)), some (la, srcE s0c u0c s1c u1c 0), Nc + 1723, tc + 1, some (v1, v2))) 5)) ∧ (AllP (okAcc (accL (AXf sa fa la [(91, Nc + 1723), (53, Nb + 1723), (26, Na + 1723), (3, N + 1723)]) jsC_11 []) ∧ tt 20 ∧ KD (sa, o0) (fa, frO es ep (rdyS e)) la v1 v2 (.ok (.ret (.bool true)), some (sa, o0), some (fa, frO es ep (rdyS e)), some (la, srcE s0c u0c s1c u1c 0), Nc + 1723, tc + 1, some (v1, v2))) 5))) 1))) 1)) ∧ (AllP (okAcc (accL (AXf sa fa la [(26, Na + 1723), (3, N + 1723)]) jsC_12 []) ∧ tt 7 ∧ Bd s0a s1a ∧ ∀ (ub Nb tb : Nat) (s0b : Int) (u0b : Nat) (s1b : Int) (u1b : Nat), Bd s0b s1b → (((True ∧ (AllP (okAcc (accL (AXf sa fa la [(63, Nb + 1723), (26, Na + 1723), (3, N + 1723)]) jsC_13 []) ∧ tt 7 ∧ Bd s0b s1b ∧ ∀ (uc Nc tc : Nat) (s0c : Int) (u0c : Nat) (s1c : Int) (u1c : Nat), Bd s0c s1c → ((True ∧ (AllP (okAcc (accL (AXf sa fa la [(101, Nc + 1723), (63, Nb + 1723), (26, Na + 1723), (3, N + 1723)]) jsC_14 []) ∧ tt 22 ∧ KD (sa, o0) (fa, frO es ep (rdyS e)) la v1 v2 (.ok (.ret (.bool true)), some (sa, o0), some (fa, frO es ep (rdyS e)), some (la, srcE s0c u0c s1c u1c 0), Nc + 1723, tc + 1, some (v1, v2))) 5)) ∧ (AllP (okAcc (accL (AXf sa fa la [(101, Nc + 1723), (63, Nb + 1723), (26, Na + 1723), (3, N + 1723)]) jsC_15 []) ∧ tt 22 ∧ KD (sa, o0) (fa, frO es ep (rdyS e)) la v1 v2 (.ok (.ret (.bool true)), some (sa, o0), some (fa, frO es ep (rdyS e)), some (la, srcE s0c u0c s1c u1c 0), Nc + 1723, tc + 1, some (v1, v2))) 5))) 1)) ∧ (AllP (okAcc (accL (AXf sa fa la [(63, Nb + 1723), (26, Na + 1723), (3, N + 1723)]) jsC_16 []) ∧ tt 7 ∧ Bd s0b s1b ∧ ∀ (uc Nc tc : Nat) (s0c : Int) (u0c : Nat) (s1c : Int) (u1c : Nat), Bd s0c s1c → ((True ∧ (AllP (okAcc (accL (AXf sa fa la [(101, Nc + 1723), (63, Nb + 1723), (26, Na + 1723), (3, N + 1723)]) jsC_17 []) ∧ tt 22 ∧ KD (sa, o0) (fa, frO es ep (rdyS e)) la v1 v2 (.ok (.ret (.bool true)), some (sa, o0), some (fa, frO es ep (rdyS e)), some (la, srcE s0c u0c s1c u1c 0), Nc + 1723, tc + 1, some (v1, v2))) 5)) ∧ (AllP (okAcc (accL (AXf sa fa la [(101, Nc + 1723), (63, Nb + 1723), (26, Na + 1723), (3, N + 1723)]) jsC_18 []) ∧ tt 22 ∧ KD (sa, o0) (fa, frO es ep (rdyS e)) la v1 v2 (.ok (.ret (.bool true)), some (sa, o0), some (fa, frO es ep (rdyS e)), some (la, srcE s0c u0c s1c u1c 0), Nc + 1723, tc + 1, some (v1, v2))) 5))) 1)) ∧ (AllP (okAcc (accL (AXf sa fa la [(63, Nb + 1723), (26, Na + 1723), (3, N + 1723)]) jsC_19 []) ∧ tt 7 ∧ Bd s0b s1b ∧ ∀ (uc Nc tc : Nat) (s0c : Int) (u0c : Nat) (s1c : Int) (u1c : Nat), Bd s0c s1c → ((True ∧ (AllP (okAcc (accL (AXf sa fa la [(101, Nc + 1723), (63, Nb + 1723), (26, Na + 1723), (3, N + 1723)]) jsC_20 []) ∧ tt 22 ∧ KD (sa, o0) (fa, frO es ep (rdyS e)) la v1 v2 (.ok (.ret (.bool true)), some (sa, o0), some (fa, frO es ep (rdyS e)), some (la, srcE s0c u0c s1c u1c 0), Nc + 1723, tc + 1, some (v1, v2))) 5)) ∧ (AllP (okAcc (accL (AXf sa fa la [(101, Nc + 1723), (63, Nb + 1723), (26, Na + 1723), (3, N + 1723)]) jsC_21 []) ∧ tt 22 ∧ KD (sa, o0) (fa, frO es ep (rdyS e)) la v1 v2 (.ok (.ret (.bool true)), some (sa, o0), some (fa, frO es ep (rdyS e)), some (la, srcE s0c u0c s1c u1c 0), Nc + 1723, tc + 1, some (v1, v2))) 5))) 1))) 1))) 0 := by kernel_rfl
def splitJ (n : Nat) : List Nat → Option (List Nat × Nat × Nat) := Nat.rec (motive := fun _ => List Nat → Option (List Nat × Nat × Nat)) (fun js => bL js fun a js => bL js fun b _ => some ([], a, b))
 (fun _ ih js => bL js fun j js => bO (ih js) fun q => some (j :: q.1, q.2)) n
def hkBr (f : H1) (n : Nat) (br : Nat → List Nat) : HB := fun js Γ p T m B c τ i ch => bO (splitJ n js) fun q => bO (f (q.1 ++ 2 :: br q.2.1) Γ p T m B c τ i ch) fun x1 => bO (f (q.1 ++ 0 :: br q.2.2) Γ p T m B c τ i ch) fun x0 =>
 some (x1.ps ++ x0.ps, fun K => (x1.pre ∨ x0.pre) ∧ (x1.pre → K x1.r x1.T x1.m B x1.c τ x1.i ch x1.js) ∧ (x0.pre → K x0.r x0.T x0.m B x0.c τ x0.i ch x0.js))
theorem hkBr_ok {V : XW} {f : H1} (F : H1Ok V f) (n : Nat) (br : Nat → List Nat) : HBOk V (hkBr f n br) where
 mono := fun js Γ p T m B c τ i ch ps W e F G H x => inv_o e fun q _ e => inv_o e fun x1 _ e => inv_o e fun x0 _ e => by
  rw [← show _ = W from congrArg Prod.snd (Option.some.inj e)] at x ⊢
  exact ⟨x.1, fun q => H _ _ _ _ _ _ _ _ _ (x.2.1 q), fun q => H _ _ _ _ _ _ _ _ _ (x.2.2 q)⟩
 ok := fun js Γ p T m B c τ i ch ps W e hps R g D x => inv_o e fun q _ e => inv_o e fun x1 h1 e => inv_o e fun x0 h0 e => by
  rw [← show _ = W from congrArg Prod.snd (Option.some.inj e)] at x
  rw [← show _ = ps from congrArg Prod.fst (Option.some.inj e)] at hps
  exact x.1.elim (fun q => F _ _ _ _ _ _ _ _ _ _ _ h1 q (fun y hy => hps y (List.mem_append_left _ hy)) R g D (x.2.1 q)) fun q => F _ _ _ _ _ _ _ _ _ _ _ h0 q (fun y hy => hps y (List.mem_append_right _ hy)) R g D (x.2.2 q)
def hkTakeA : HB := hkD takA fun d T m ch => ([(d.la, d.s.1)], fun K => Bd d.s.2.1 d.s.2.2.2.1 ∧ ∀ r u' N' t' s0' u0' s1' u1', 0 ≤ r → r < d.top → Bd s0' s1' →
    K (.ok (.ret (.int r u'))) (T.upd (d.j / 2) fun _ => srcE s0' u0' s1' u1' d.s.2.2.2.2.2) m (N' + 1723) 0 (t' + 1) 0 ch d.js)
theorem hkTakeA_ok {w : World} {h : Heap} {d : Drawn} {os : OsState} {X : Nat → Option Obj} (O : (VX w h d os X).Ok) : HBOk (VX w h d os X) hkTakeA :=
 hkD_ok (fun d T m ch F G H x => ⟨x.1, fun r u' N' t' s0' u0' s1' u1' r0 r1 hb => H _ _ _ _ _ _ _ _ _ (x.2 r u' N' t' s0' u0' s1' u1' r0 r1 hb)⟩)
 fun js Γ p T m B c τ i ch q e hps R g D x => takA_wp O e hps D x.1 x.2
abbrev PreT := EnvV → Array (Option Value) → Array Value → Array Value → Array Value → Prop
abbrev PostT := EnvV → Array (Option Value) → Array Value → Array Value → Array Value → Array Value → Array (Option Value) × Ch
def PassAll (V : XW) (f : Nat) (src : Bool) (pre : PreT) (posts : List PostT) : Prop := ∀ es ep b e p1 p2 sl v1 v2 v3, pre e sl v1 v2 v3 →
 Pass V f src es ep b e p1 p2 sl (chL v1 v2 v3) fun sl' ch' => ∃ v, ∃ g ∈ posts, (sl', ch') = g e sl v1 v2 v3 v
def bM {β : Type} (t : MT) (f : Nat → Obj → MT → MT → Option β) : Option β := MT.rec (motive := fun _ => Option β) none (fun a o l r _ _ => f a o l r) t
def bZ {β : Type} (t : MT) (f : Option β) : Option β := MT.rec (motive := fun _ => Option β) f (fun _ _ _ _ _ _ => none) t
theorem inv_m {β : Type} {t : MT} {f : Nat → Obj → MT → MT → Option β} {x : β} {P : Prop} (e : bM t f = some x) (k : ∀ a o l r, t = .node a o l r → f a o l r = some x → P) : P := by
 cases t with
 | nil => cases e
 | node a o l r => exact k a o l r rfl e
theorem inv_z {β : Type} {t : MT} {f : Option β} {x : β} {P : Prop} (e : bZ t f = some x) (k : t = .nil → f = some x → P) : P := by
 cases t with
 | nil => exact k rfl e
 | node a o l r => cases e
def isFun (k : ScopeKind) : Bool := ScopeKind.rec (motive := fun _ => Bool) false true false false false false false k
theorem isFun_ok {k : ScopeKind} (h : isFun k = true) : k = .function := by
 cases k <;> first | rfl | cases h
def envAt (c : Code) : Option (List Stmt × EnvV × Nat × Nat) := bO (cF c) fun q => Env.rec (motive := fun _ => Option (List Stmt × EnvV × Nat × Nat)) (fun sc loc gl cells qu fn co fr bi => Scope.rec (motive := fun _ => Option (List Stmt × EnvV × Nat × Nat)) (fun k names g1 g2 more =>
 bT (isFun k) (bT (!g1) (bT (!g2) (bN cells (bO fr fun fa => some (q.1, ⟨names, more, gl, qu, fn, co, bi⟩, loc, fa)))))) sc) q.2
theorem envAt_ok {c : Code} {b : List Stmt} {e : EnvV} {fa : Nat} (h : envAt c = some (b, e, fa, fa)) : c = .func b (envL e fa) :=
 inv_o h fun q e1 h => by
  obtain ⟨b', ⟨⟨k, names, g1, g2, more⟩, loc, gl, cells, qu, fn, co, fr, bi⟩⟩ := q
  rw [cF_ok e1]
  exact inv_t h fun e2 h => inv_t h fun e3 h => inv_t h fun e4 h => inv_n h fun e5 h => inv_o h fun fa' e6 h => by
   cases h
   rw [isFun_ok e2, show g1 = false from (Bool.not_eq_true' _).mp e3, show g2 = false from (Bool.not_eq_true' _).mp e4, show cells = _ from e5, show fr = _ from e6]; rfl
theorem nFrame_is : PySem.W.S.codeS "frame" = 439938610023 := by kernel_rfl
def frAt (o : Obj) : Option (Array DictEntry × Nat × Array (Option Value)) := bO (clT o.cls) fun n => bT (Nat.beq (PySem.W.S.codeS n) 439938610023) (bT (noO o.dict) (bO (dDict o.data) fun q => some (q.1, q.2, o.slots)))
theorem frAt_ok {o : Obj} {es : Array DictEntry} {ep : Nat} {sl : Array (Option Value)} (h : frAt o = some (es, ep, sl)) : o = frO es ep sl :=
 inv_o h fun n e1 h => inv_t h fun e2 h => inv_t h fun e3 h => inv_o h fun q e4 h => by
  obtain ⟨cl, d, da, sl'⟩ := o
  cases h
  rw [show cl = _ from clT_ok e1, id_of nFrame_is e2, show d = _ from noO_ok e3, show da = _ from dDict_ok e4]; rfl
def argOk (src : Bool) (l : List Value) (la : Nat) : Option (List (Nat × Nat)) := Bool.rec (bN l (some [])) (bO (aR l) fun x => some [(x, la)]) src
theorem argOk_ok {src : Bool} {l : List Value} {la : Nat} {ps : List (Nat × Nat)} (h : argOk src l la = some ps) (hp : ∀ y ∈ ps, y.1 = y.2) : l = Bool.rec [] [.ref la] src := by
 cases src with
 | false => exact inv_n h fun e _ => e
 | true =>
  exact inv_o h fun x e h => by
   rw [← Option.some.inj h] at hp
   rw [aR_ok e, show x = la from hp _ (.head _)]
def clAt (Γ : PySem.Ctx) : Option (Nat × List Value × List (Code × Pos)) := PySem.Ctx.rec (motive := fun _ => Option (Nat × List Value × List (Code × Pos))) (fun code hd own bl x => bO (cC code) fun q => bO (vRef q.1) fun f => bN q.2.kw (bT (noO hd) (bT (noO own) (bT (noO x) (some (f, q.2.pos, bl)))))) Γ
def ΓC (f : Nat) (l : List Value) (bl : List (Code × Pos)) : PySem.Ctx := ⟨.call (.ref f) ⟨l, []⟩, none, none, bl, none⟩
theorem clAt_ok {Γ : PySem.Ctx} {q : Nat × List Value × List (Code × Pos)} (h : clAt Γ = some q) : Γ = ΓC q.1 q.2.1 q.2.2 := by
 obtain ⟨code, hd, own, bl, x⟩ := Γ
 exact inv_o h fun q e h => inv_o h fun f e1 h => inv_n h fun e3 h => inv_t h fun e9 h => inv_t h fun e10 h => inv_t h fun e11 hz => by
  obtain ⟨fv, pos, kw⟩ := q
  rw [← Option.some.inj hz, cC_ok e, noO_ok e9, noO_ok e10, noO_ok e11, show fv = .ref f from vRef_ok e1, show kw = [] from e3]; rfl
def bl2 (bl : List (Code × Pos)) : Option ((Code × Pos) × Pos) := bL bl fun x r => bL r fun y r => bN r (bT (isCl y.1) (some (x, y.2)))
theorem bl2_ok {bl : List (Code × Pos)} {q : (Code × Pos) × Pos} (h : bl2 bl = some q) : bl = [q.1, (.builtin "claim.caller" {}, q.2)] :=
 inv_l h fun x r e h => inv_l h fun y r2 e2 h => inv_n h fun e3 h => inv_t h fun e4 h => by
  obtain ⟨y, py⟩ := y
  rw [e, e2, e3, ← Option.some.inj h, show y = _ from isCl_ok e4]
def dropJ (src : Bool) (js : List Nat) : List Nat := match src, js with
 | true, _ :: _ :: _ :: js => js
 | false, _ :: _ :: js => js
 | _, _ => []
def allG (l : List PostT) (F : PostT → Prop) : Prop := List.rec (motive := fun _ => Prop) True (fun g _ ih => F g ∧ ih) l
theorem allG_get {F : PostT → Prop} : ∀ {l : List PostT}, allG l F → ∀ g ∈ l, F g
 | [], _, g, h => by cases h
 | x :: l, h, g, hg => by
  have h' : F x ∧ allG l F := h
  cases hg with
  | head => exact h'.1
  | tail _ hg => exact allG_get h'.2 g hg
theorem allG_mono {F G : PostT → Prop} (H : ∀ g, F g → G g) : ∀ {l : List PostT}, allG l F → allG l G
 | [], _ => trivial
 | _ :: _, h => ⟨H _ (h : _ ∧ _).1, allG_mono H (h : _ ∧ _).2⟩
structure DP where
 sa : Nat
 fa : Nat
 la : Nat
 o0 : Obj
 loc : Nat
 fa' : Nat
 e : EnvV
 ps : List (Nat × Nat)
 es : Array DictEntry
 ep : Nat
 sl : Array (Option Value)
 s0 : Int
 s1 : Int
 v : Array Value × Array Value × Array Value
 js : List Nat
def mL (T : MT) : Option ((Nat × Nat × Nat) × Obj × Obj × Obj) := bM T fun sa o0 l r => bM l fun fa o1 l1 r1 => bM r fun la o2 l2 r2 => bZ l1 (bZ r1 (bZ l2 (bZ r2 (some ((sa, fa, la), o0, o1, o2)))))
theorem mL_ok {T : MT} {q : (Nat × Nat × Nat) × Obj × Obj × Obj} (h : mL T = some q) : T = TL q.1.1 q.1.2.1 q.1.2.2 q.2.1 q.2.2.1 q.2.2.2 :=
 inv_m h fun _ _ _ _ h1 h => inv_m h fun _ _ _ _ h2 h => inv_m h fun _ _ _ _ h3 h => inv_z h fun h4 h => inv_z h fun h5 h => inv_z h fun h6 h => inv_z h fun h7 h => by rw [← Option.some.inj h, h1, h2, h3, h4, h5, h6, h7]; rfl
def passA (f : Nat) (src : Bool) (js : List Nat) (Γ : PySem.Ctx) (T : MT) (τ : Nat) (ch : Ch) : Option DP := bO (clAt Γ) fun q => bT (Nat.beq f q.1) (bO (bl2 q.2.2) fun z => bO (envAt z.1.1) fun en =>
 bO (mL T) fun t => bO (frAt t.2.2.1) fun fr => bO (srcAt T 4) fun s => bT (Nat.beq s.2.2.2.2.2 0) (bO (argOk src q.2.1 t.1.2.2) fun ps => bO (isChL ch) fun v => bS τ fun _ =>
  some ⟨t.1.1, t.1.2.1, t.1.2.2, t.2.1, en.2.2.1, en.2.2.2, en.2.1, ps, fr.1, fr.2.1, fr.2.2, s.2.1, s.2.2.2.1, v, dropJ src js⟩))
theorem TL_lt {sa fa la : Nat} {o0 o1 o2 : Obj} {j : Nat} {x : Nat × Obj} (h : (TL sa fa la o0 o1 o2).get j = some x) : j < 3 := by
 rcases TL_get h with ⟨q, _⟩ | ⟨q, _⟩ | ⟨q, _⟩ <;> rw [q] <;> decide
theorem src2 {T : MT} {q : (Nat × Nat × Nat) × Obj × Obj × Obj} {s : Nat × Int × Nat × Int × Nat × Nat} (h : mL T = some q) (hs : srcAt T 4 = some s) (h0 : Nat.beq s.2.2.2.2.2 0 = true) : q.2.2.2 = srcO s.2.1 s.2.2.1 s.2.2.2.1 s.2.2.2.2.1 := by
 have e := srcAt_ok (show _ = some (s.1, s.2.1, s.2.2.1, s.2.2.2.1, s.2.2.2.2.1, s.2.2.2.2.2) from hs)
 rw [Nat.eq_of_beq_eq_true h0, mL_ok h] at e
 exact congrArg Prod.snd (Option.some.inj (show some (q.1.2.2, q.2.2.2) = _ from e))
theorem ΓC_L {f f' la : Nat} {src : Bool} {pos : List Value} {bl : List (Code × Pos)} {z : (Code × Pos) × Pos} {en : List Stmt × EnvV × Nat × Nat} {fa : Nat} (h0 : f = f') (h1 : pos = Bool.rec [] [.ref la] src) (h2 : bl = [z.1, (.builtin "claim.caller" {}, z.2)]) (h3 : envAt z.1.1 = some en)
  (h4 : en.2.2.2 = fa) (h5 : en.2.2.1 = fa) : ΓC f' pos bl = ΓL f (Bool.rec [] [.ref la] src) en.1 (envL en.2.1 fa) z.1.2 z.2 := by
 obtain ⟨⟨c, p1⟩, p2⟩ := z
 obtain ⟨a, b, l, fa'⟩ := en
 rw [← h0, h1, h2, ← h4, show c = _ from envAt_ok (h3.trans (by rw [show l = fa' from h5.trans h4.symm]))]; rfl
theorem passA_k {f : Nat} {src : Bool} {js : List Nat} {Γ : PySem.Ctx} {T : MT} {τ : Nat} {ch : Ch} {d : DP} (h : passA f src js Γ T τ ch = some d) (hps : ∀ y ∈ (d.fa', d.fa) :: (d.loc, d.fa) :: d.ps, y.1 = y.2) {P : Prop}
  (k : ∀ bb p1 p2 t u0 u1, Γ = ΓL f (Bool.rec [] [.ref d.la] src) bb (envL d.e d.fa) p1 p2 → T = TL d.sa d.fa d.la d.o0 (frO d.es d.ep d.sl) (srcO d.s0 u0 d.s1 u1) → ch = chL d.v.1 d.v.2.1 d.v.2.2 → τ = t + 1 → P) : P :=
 inv_o h fun q h1 e => inv_t e fun h2 e => inv_o e fun z h3 e => inv_o e fun en h4 e => inv_o e fun t h5 e => inv_o e fun fr h12 e => inv_o e fun s h13 e => inv_t e fun h14 e => inv_o e fun ps h15 e => inv_o e fun v h16 e => inv_s e fun n h17 e => by
  rw [← Option.some.inj e] at hps k
  exact k en.1 z.1.2 z.2 n s.2.2.1 s.2.2.2.2.1 ((clAt_ok h1).trans (ΓC_L (Nat.eq_of_beq_eq_true h2) (argOk_ok h15 fun y hy => hps y (.tail _ (.tail _ hy))) (bl2_ok h3) h4 (hps _ (.head _)) (hps _ (.tail _ (.head _)))))
   ((mL_ok h5).trans (by rw [src2 h5 h13 h14, show t.2.2.1 = _ from frAt_ok h12])) (isChL_ok h16) h17
def hkPass (f : Nat) (src : Bool) (pre : PreT) (posts : List PostT) : HB := hkD (passA f src) fun d _ _ _ => ((d.fa', d.fa) :: (d.loc, d.fa) :: d.ps, fun K => pre d.e d.sl d.v.1 d.v.2.1 d.v.2.2 ∧ Bd d.s0 d.s1 ∧ ∀ v N' t' s0' u0' s1' u1', Bd s0' s1' →
      allG posts fun g => K (.ok (.ret (.bool true))) (TL d.sa d.fa d.la d.o0 (frO d.es d.ep (g d.e d.sl d.v.1 d.v.2.1 d.v.2.2 v).1) (srcO s0' u0' s1' u1')) 3 (N' + 1723) 0 (t' + 1) 0 (g d.e d.sl d.v.1 d.v.2.1 d.v.2.2 v).2 d.js)
theorem hkPass_ok {w : World} {h : Heap} {dd : Drawn} {os : OsState} {f : Nat} {src : Bool} {pre : PreT} {posts : List PostT} (P : PassAll (VV w h dd os) f src pre posts) : HBOk (VV w h dd os) (hkPass f src pre posts) :=
 hkD_ok (fun d T m ch F G H x => ⟨x.1, x.2.1, fun v N' t' s0' u0' s1' u1' hb => allG_mono (fun g => H _ _ _ _ _ _ _ _ _) (x.2.2 v N' t' s0' u0' s1' u1' hb)⟩)
 fun js Γ p T m B c τ i ch d e hps R g D x => passA_k e hps fun bb p1 p2 t u0 u1 e1 e2 e3 e4 => by
  rw [e2, e3] at D
  rw [e1, e4, Nat.add_right_comm]
  have D0 := D.weaken fun j x hx => ⟨TL_lt hx, hx⟩
  rw [← Nat.sub_add_cancel (show 1723 ≤ B + c from D.low)] at D0
  exact P (fun _ _ => d.es) d.ep bb d.e p1 p2 d.sl d.v.1 d.v.2.1 d.v.2.2 x.1 _ _ d.sa d.fa d.la d.o0 d.s0 u0 d.s1 u1 p R g x.2.1 D0 fun N' t' s0' u0' s1' u1' sl' ch' hb ⟨v', gg, hg, hq⟩ => by
   rw [show sl' = _ from congrArg Prod.fst hq, show ch' = _ from congrArg Prod.snd hq]
   exact allG_get (x.2.2 v' N' t' s0' u0' s1' u1' hb) gg hg
abbrev OL := List (Nat × Obj)
def nthO (l : OL) : Nat → Option (Nat × Obj) := List.rec (motive := fun _ => Nat → Option (Nat × Obj)) (fun _ => none) (fun x _ ih q => match q with | 0 => some x | q + 1 => ih q) l
theorem nthO_is : ∀ (l : OL) (k : Nat), nthO l k = l[k]?
 | [], k => by simp [nthO]
 | x :: l, 0 => rfl
 | x :: l, k + 1 => by
  show nthO l k = _
  rw [nthO_is l k]; simp
def build (d : Nat) : (Nat → Option (Nat × Obj)) → MT := Nat.rec (motive := fun _ => (Nat → Option (Nat × Obj)) → MT) (fun _ => .nil) (fun _ ih f => match f 0 with
 | some x => .node x.1 x.2 (ih fun i => f (2 * i + 1)) (ih fun i => f (2 * i + 2))
 | none => .nil) d
theorem build_out : ∀ (d : Nat) (f : Nat → Option (Nat × Obj)) (i : Nat), 2 ^ d ≤ i + 1 → (build d f).get i = none
 | 0, f, i, _ => rfl
 | d + 1, f, i, h => by
  show MT.get (match f 0 with | some x => .node x.1 x.2 (build d fun i => f (2 * i + 1)) (build d fun i => f (2 * i + 2)) | none => .nil) i = none
  have hp : 0 < 2 ^ d := Nat.pow_pos (by decide)
  have e : 2 ^ (d + 1) = 2 * 2 ^ d := by rw [Nat.pow_succ]; omega
  rw [e] at h
  split
  ·rw [MT.get_node]
   by_cases h0 : i = 0
   ·omega
   ·rw [if_neg h0]
    by_cases h1 : i % 2 = 1
    ·rw [if_pos h1]; exact build_out d _ _ (by omega)
    ·rw [if_neg h1]; exact build_out d _ _ (by omega)
  ·rfl
theorem build_get : ∀ (d : Nat) (f : Nat → Option (Nat × Obj)) (i : Nat), i + 1 < 2 ^ d → (∀ j k, j ≤ k → f j = none → f k = none) → (build d f).get i = f i
 | 0, f, i, h, _ => by simp at h
 | d + 1, f, i, h, H => by
  show MT.get (match f 0 with | some x => .node x.1 x.2 (build d fun i => f (2 * i + 1)) (build d fun i => f (2 * i + 2)) | none => .nil) i = f i
  have e : 2 ^ (d + 1) = 2 * 2 ^ d := by rw [Nat.pow_succ]; omega
  rw [e] at h
  split
  ·rename_i x hx
   rw [MT.get_node]
   by_cases h0 : i = 0
   ·rw [if_pos h0, h0, hx]
   ·rw [if_neg h0]
    by_cases h1 : i % 2 = 1
    ·rw [if_pos h1, build_get d _ _ (by omega) fun j k hjk => H _ _ (by omega)]
     congr 1; omega
    ·rw [if_neg h1, build_get d _ _ (by omega) fun j k hjk => H _ _ (by omega)]
     congr 1; omega
  ·rename_i hx
   exact (H 0 i (Nat.zero_le _) hx).symm
def listT (l : OL) : MT := build 6 (nthO l)
theorem listT_get {l : OL} (hl : l.length ≤ 63) (i : Nat) : (listT l).get i = nthO l i := by
 rcases Nat.lt_or_ge (i + 1) (2 ^ 6) with h | h
 ·refine build_get 6 _ _ h fun j k hjk hj => ?_
  rw [nthO_is] at hj ⊢
  rw [List.getElem?_eq_none_iff] at hj ⊢
  omega
 ·unfold listT
  rw [build_out 6 _ _ h, nthO_is, List.getElem?_eq_none_iff.mpr (by omega)]
def memN (j : Nat) (l : List Nat) : Bool := List.rec (motive := fun _ => Bool) false (fun x _ ih => Bool.rec ih true (Nat.beq j x)) l
theorem memN_false {j : Nat} : ∀ {l : List Nat}, memN j l = false → j ∉ l
 | [], _ => by simp
 | x :: l, h => by
  have h' : (Bool.rec (memN j l) true (Nat.beq j x) : Bool) = false := h
  cases e : Nat.beq j x with
  | true => rw [e] at h'; cases h'
  | false =>
   rw [e] at h'
   have ne : j ≠ x := fun q => by rw [q, Nat.beq_refl] at e; cases e
   simp only [List.mem_cons, not_or]
   exact ⟨ne, memN_false h'⟩
theorem sel_nth {g : Nat → Option (Nat × Obj)} {is : List Nat} {l : OL} (h : is.map g = l.map some) {k : Nat} {x : Nat × Obj} (e : nthO l k = some x) : ∃ i, is[k]? = some i ∧ g i = some x := by
 have h2 := congrArg (fun z => z[k]?) h
 simp only [List.getElem?_map] at h2
 rw [← nthO_is, e] at h2
 cases hi : is[k]? with
 | none => rw [hi] at h2; cases h2
 | some i => rw [hi] at h2; exact ⟨i, rfl, Option.some.inj h2⟩
def readL (T : MT) (n : Nat) : List Nat → Option (List Nat × OL × List Nat) := Nat.rec (motive := fun _ => List Nat → Option (List Nat × OL × List Nat)) (fun js => some ([], [], js)) (fun _ ih js => bL js fun j js => bO (T.get (j / 2)) fun x => bO (ih js) fun q => bT (!memN (j / 2) q.1) (some (j / 2 :: q.1, x :: q.2.1, q.2.2))) n
def Reads (T : MT) (is : List Nat) (l : OL) : Prop := is.map T.get = l.map some
theorem readL_ok (T : MT) : ∀ (n : Nat) (js : List Nat) (q : List Nat × OL × List Nat), readL T n js = some q → q.2.1.length = n ∧ Reads T q.1 q.2.1 ∧ q.1.Nodup
 | 0, js, q, h => by
  rw [← Option.some.inj (show some ([], [], js) = some q from h)]
  exact ⟨rfl, rfl, .nil⟩
 | n + 1, js, q, h => inv_l (show bL js (fun j js => bO (T.get (j / 2)) fun x => bO (readL T n js) fun q => bT (!memN (j / 2) q.1) (some (j / 2 :: q.1, x :: q.2.1, q.2.2))) = some q from h) fun j js _ h => inv_o h fun x e1 h => inv_o h fun y e2 h => inv_t h fun e3 h => by
  rw [← Option.some.inj h]
  obtain ⟨i1, i2, i3⟩ := readL_ok T n js y e2
  refine ⟨congrArg Nat.succ i1, ?_, List.nodup_cons.mpr ⟨memN_false ((Bool.not_eq_true' _).mp e3), i3⟩⟩
  show T.get (j / 2) :: y.1.map T.get = some x :: y.2.1.map some
  rw [e1, show y.1.map T.get = _ from i2]
theorem Reads.nth {T : MT} {is : List Nat} {l : OL} (r : Reads T is l) {k : Nat} {x : Nat × Obj} (h : nthO l k = some x) : ∃ i, is[k]? = some i ∧ T.get i = some x := sel_nth r h
theorem Reads.nth' {T : MT} {is : List Nat} {l : OL} (r : Reads T is l) {k i : Nat} (h : is[k]? = some i) : ∃ x, nthO l k = some x ∧ T.get i = some x := by
 have h2 := congrArg (fun z => z[k]?) r
 simp only [List.getElem?_map] at h2
 rw [h, ← nthO_is] at h2
 cases hi : nthO l k with
 | none => rw [hi] at h2; cases h2
 | some x => rw [hi] at h2; exact ⟨x, rfl, Option.some.inj h2⟩
theorem nodup_nth : ∀ {is : List Nat}, is.Nodup → ∀ {i k k' : Nat}, is[k]? = some i → is[k']? = some i → k = k'
 | [], _, i, k, k', h1, _ => by simp at h1
 | x :: is, h, i, 0, 0, _, _ => rfl
 | x :: is, h, i, 0, k + 1, h1, h2 => by
  simp at h1 h2
  subst h1
  exact absurd (List.mem_of_getElem? h2) (List.nodup_cons.mp h).1
 | x :: is, h, i, k + 1, 0, h1, h2 => by
  simp at h1 h2
  subst h2
  exact absurd (List.mem_of_getElem? h1) (List.nodup_cons.mp h).1
 | x :: is, h, i, k + 1, k' + 1, h1, h2 => by
  exact congrArg Nat.succ (nodup_nth (List.nodup_cons.mp h).2 (i := i) (by simpa using h1) (by simpa using h2))
def zipO (l : OL) (os : List Obj) : OL := List.rec (motive := fun _ => List Obj → OL) (fun _ => []) (fun x l ih os => match os with
 | [] => x :: l
 | o :: os => (x.1, o) :: ih os) l os
theorem zipO_length : ∀ (l : OL) (os : List Obj), (zipO l os).length = l.length
 | [], _ => rfl
 | _ :: _, [] => rfl
 | x :: l, o :: os => by
  show ((x.1, o) :: zipO l os).length = _
  rw [List.length_cons, zipO_length l os, List.length_cons]
def updL (is : List Nat) (os : List Obj) (T : MT) : MT := List.rec (motive := fun _ => List Obj → MT → MT) (fun _ T => T) (fun i _ ih os T => match os with
 | [] => T
 | o :: os => ih os (T.upd i fun _ => o)) is os T
theorem Reads.upd {T : MT} {i : Nat} {f : Obj → Obj} {is : List Nat} {l : OL} (r : Reads T is l) (h : i ∉ is) : Reads (T.upd i f) is l :=
 (List.map_congr_left fun j hj => by rw [MT.get_upd, if_neg (fun q : j = i => h (q ▸ hj))]).trans r
theorem updL_spec : ∀ (is : List Nat) (l : OL) (os : List Obj) (T : MT), is.Nodup → Reads T is l → ∀ j x, (updL is os T).get j = some x →
  (j ∉ is ∧ T.get j = some x) ∨ (∃ k, is[k]? = some j ∧ nthO (zipO l os) k = some x ∧ ∃ y, nthO l k = some y ∧ T.get j = some y ∧ y.1 = x.1)
 | [], _, os, T, _, _, j, x, h => .inl ⟨List.not_mem_nil, h⟩
 | i :: is, l, [], T, hn, R, j, x, h => by
  have h : T.get j = some x := h
  by_cases hj : j ∈ i :: is
  ·obtain ⟨k, hk⟩ := List.mem_iff_getElem?.mp hj
   obtain ⟨z, z1, z2⟩ := R.nth' hk
   rw [h] at z2
   rw [← Option.some.inj z2] at z1
   have ez : zipO l [] = l := by cases l <;> rfl
   exact .inr ⟨k, hk, by rw [ez]; exact z1, x, z1, h, rfl⟩
  ·exact .inl ⟨hj, h⟩
 | i :: is, [], o :: os, T, hn, R, j, x, h => by cases R
 | i :: is, y :: l, o :: os, T, hn, R, j, x, h => by
  have h : (updL is os (T.upd i fun _ => o)).get j = some x := h
  rw [List.nodup_cons] at hn
  have e : T.get i = some y := (List.cons.inj R).1
  have r : Reads T is l := (List.cons.inj R).2
  rcases updL_spec is l os _ hn.2 (r.upd hn.1) j x h with ⟨h1, h2⟩ | ⟨k, h0, h1, z, h2, h3, h4⟩
  ·rw [MT.get_upd] at h2
   by_cases hj : j = i
   ·rw [if_pos hj, e] at h2
    rw [hj, ← Option.some.inj h2]
    exact .inr ⟨0, rfl, rfl, y, rfl, e, rfl⟩
   ·rw [if_neg hj] at h2
    exact .inl ⟨fun q => (List.mem_cons.mp q).elim hj h1, h2⟩
  ·have hj : j ≠ i := fun q => hn.1 (q ▸ List.mem_of_getElem? h0)
   rw [MT.get_upd, if_neg hj] at h3
   exact .inr ⟨k + 1, h0, h1, z, h2, h3, h4⟩
abbrev FT := Result → OL → Nat → Nat → Ch → Prop
abbrev IT := OL → PySem.Ctx → Ch → FT → Prop
section
variable {w : World} {h : Heap} {d : Drawn} {os : OsState} {X : Nat → Option Obj}
def CtOk (n : Nat) (I : IT) (w : World) (h : Heap) (d : Drawn) (os : OsState) : Prop := ∀ X, (VX w h d os X).Ok → ∀ l Γ p R g N t0 ch F, l.length = n → I l Γ ch F → Rp (VX w h d os X) (listT l) n (N + 1723) ch g →
 (∀ r l' N' t' ch', F r l' N' t' ch' → AtS (VX w h d os X) R r (listT l') l'.length (N' + 1723) 0 (t' + 1) 0 ch') → wpCode (VX w h d os X).M Γ R p ((VX w h d os X).sh g (t0 + 1))
def MonoI (I : IT) : Prop := ∀ l Γ ch F G, (∀ r l' N' t' ch', F r l' N' t' ch' → G r l' N' t' ch') → I l Γ ch F → I l Γ ch G
theorem Rp.sub {Y : Nat → Option Obj} {T : MT} {m b : Nat} {ch : Ch} {g : Heap} (H : ∀ a o, X a = some o → Y a = some o) (D : Rp (VX w h d os Y) T m b ch g) : Rp (VX w h d os X) T m b ch g :=
 ⟨D.size, D.low, D.own, D.one, D.keep, D.ch, fun a o e => D.exk a o (H a o e), fun j a o e => by
  cases q : X a with
  | none => exact q
  | some y => have := D.exo j a o e; have e2 := H a y q; rw [show (VX w h d os Y).ex a = Y a from rfl, e2] at this; cases this⟩
theorem list_own {T : MT} {is : List Nat} {l : OL} (hR : Reads T is l) (hl : l.length ≤ 63) : ∀ k x, (listT l).get k = some x → k < l.length ∧ ∃ j, T.get j = some x := fun k x hx => by
 rw [listT_get hl] at hx
 obtain ⟨i, _, h2⟩ := hR.nth hx
 rw [nthO_is] at hx
 exact ⟨(List.getElem?_eq_some_iff.mp hx).1, i, h2⟩
theorem list_one {T : MT} {m b : Nat} {ch : Ch} {g : Heap} (D : Rp (VX w h d os X) T m b ch g) {is : List Nat} {l : OL} (hR : Reads T is l) (hn : is.Nodup) (hl : l.length ≤ 63) :
  ∀ i j a o o', (listT l).get i = some (a, o) → (listT l).get j = some (a, o') → i = j := fun i j a o o' e1 e2 => by
 rw [listT_get hl] at e1 e2
 obtain ⟨i1, h1, h2⟩ := hR.nth e1
 obtain ⟨i2, h3, h4⟩ := hR.nth e2
 have : i1 = i2 := D.one _ _ _ _ _ h2 h4
 subst this
 exact nodup_nth hn h1 h3
theorem frz_sub {T : MT} {m b : Nat} {ch : Ch} {g : Heap} (O : (VX w h d os X).Ok) (D : Rp (VX w h d os X) T m b ch g) {T0 : MT} (H : ∀ k x, T0.get k = some x → ∃ j, T.get j = some x) : ∀ a o, X a = some o → frz g T0 a = some o := fun a o e =>
 frz_of (O.exn a o e) (fun k x hx q => by
  obtain ⟨j, hj⟩ := H k x hx
  have := D.exo j x.1 x.2 hj
  rw [q, show (VX w h d os X).ex a = X a from rfl, e] at this; cases this) (D.exk a o e)
structure DCt where
 Γ : PySem.Ctx
 is : List Nat
 l : OL
 r : List Nat
def rdCt (n : Nat) (js : List Nat) (Γ : PySem.Ctx) (T : MT) (τ : Nat) : Option DCt := bO (readL T n js) fun q => bS τ fun _ => some ⟨Γ, q.1, q.2.1, q.2.2⟩
theorem rdCt_k {n : Nat} {js : List Nat} {Γ : PySem.Ctx} {T : MT} {τ : Nat} {d : DCt} (h : rdCt n js Γ T τ = some d) {P : Prop} (k : ∀ t, Γ = d.Γ → τ = t + 1 → d.l.length = n → Reads T d.is d.l → d.is.Nodup → P) : P :=
 inv_o h fun q e h => inv_s h fun t e1 h => by
  rw [← Option.some.inj h] at k
  obtain ⟨h1, h2, h3⟩ := readL_ok T n js q e
  exact k t rfl e1 h1 h2 h3
def pl (Γ : PySem.Ctx) : Bool := noO Γ.handled && (noO Γ.own && noO Γ.past)
theorem pl_ok {Γ : PySem.Ctx} (h : pl Γ = true) : Γ.handled = none ∧ Γ.own = none ∧ Γ.past = none :=
 let q := Bool.and_eq_true_iff.mp h
 let r := Bool.and_eq_true_iff.mp q.2
 ⟨noO_ok q.1, noO_ok r.1, noO_ok r.2⟩
def CtX (n : Nat) (I : (Nat → Option Obj) → IT) (w : World) (h : Heap) (d : Drawn) (os : OsState) : Prop := ∀ X, (VX w h d os X).Ok → ∀ l Γ p R g N t0 ch F, l.length = n → I X l Γ ch F → Rp (VX w h d os X) (listT l) n (N + 1723) ch g →
 (∀ r l' N' t' ch', F r l' N' t' ch' → AtS (VX w h d os X) R r (listT l') l'.length (N' + 1723) 0 (t' + 1) 0 ch') → wpCode (VX w h d os X).M Γ R p ((VX w h d os X).sh g (t0 + 1))
theorem ctx_use (O : (VX w h d os X).Ok) {n : Nat} {I : (Nat → Option Obj) → IT} (H : CtX n I w h d os) (hn : n ≤ 63) {T : MT} {is : List Nat} {l : OL} (h1 : l.length = n) (h2 : Reads T is l) (h3 : is.Nodup) {m B c τ i : Nat} {ch : Ch} {Γ : PySem.Ctx} {R : Result → Shared → Prop} {g : Heap} {p : Pos} {F : FT}
  (D : Rp (VX w h d os X) T m (B + c) ch g) (hI : I (frz g (listT l)) l Γ ch F)
  (k : ∀ r l' N' t' ch', F r l' N' t' ch' → AtS (VX w h d os (frz g (listT l))) R r (listT l') l'.length (N' + 1723) 0 (t' + 1) 0 ch') : wpCode (VX w h d os X).M Γ R p ((VX w h d os X).sh g (τ + 1 + i)) := by
 have hl : l.length ≤ 63 := h1 ▸ hn
 have own := list_own h2 hl
 have D1 := D.focus (fun k x hx => own k x hx) (list_one D h2 h3 hl)
 have O1 : (VX w h d os (frz g (listT l))).Ok := VX_ok O fun a o e => (frz_some e).1
 have hB : 1723 ≤ B + c := D.low
 rw [← Nat.sub_add_cancel hB, h1] at D1
 rw [Nat.add_right_comm]
 exact H _ O1 l Γ p R g _ _ ch F h1 hI D1 k
theorem ct_use (O : (VX w h d os X).Ok) {n : Nat} {I : IT} (H : CtOk n I w h d os) (hn : n ≤ 63) {T : MT} {is : List Nat} {l : OL} (h1 : l.length = n) (h2 : Reads T is l) (h3 : is.Nodup) {m B c τ i : Nat} {ch : Ch} {Γ : PySem.Ctx} {R : Result → Shared → Prop} {g : Heap} {p : Pos} {F : FT}
  (D : Rp (VX w h d os X) T m (B + c) ch g) (hI : I l Γ ch F)
  (k : ∀ r l' N' t' ch', F r l' N' t' ch' → AtS (VX w h d os (frz g (listT l))) R r (listT l') l'.length (N' + 1723) 0 (t' + 1) 0 ch') : wpCode (VX w h d os X).M Γ R p ((VX w h d os X).sh g (τ + 1 + i)) :=
 ctx_use (I := fun _ => I) O H hn h1 h2 h3 D hI k
theorem back_sub (O : (VX w h d os X).Ok) {T T' : MT} {m m' b b' : Nat} {ch ch' : Ch} {g g' : Heap} {is : List Nat} {l : OL} (D : Rp (VX w h d os X) T m b ch g) (h2 : Reads T is l) (hl : l.length ≤ 63) (D' : Rp (VX w h d os (frz g (listT l))) T' m' b' ch' g') : Rp (VX w h d os X) T' m' b' ch' g' :=
 D'.sub (frz_sub O D fun k x hx => (list_own h2 hl k x hx).2)
theorem back_upd (O : (VX w h d os X).Ok) {T : MT} {m b b' m' : Nat} {ch ch' : Ch} {g g' : Heap} {is : List Nat} {l : OL} {os' : List Obj} (D : Rp (VX w h d os X) T m b ch g) (h2 : Reads T is l) (h3 : is.Nodup) (hl : l.length ≤ 63) (D' : Rp (VX w h d os (frz g (listT l))) (listT (zipO l os')) m' b' ch' g') : Rp (VX w h d os X) (updL is os' T) m b' ch' g' := by
 refine D.unfocus O (fun k x hx => (list_own h2 hl k x hx).2) D' (fun j x hx => ?_) (fun i j a o o' e1 e2 => ?_)
 ·rcases updL_spec is l os' T h3 h2 j x hx with ⟨q1, q2⟩ | ⟨k, q0, q1, z, q2, q3, q4⟩
  ·refine ⟨(D.own j x.1 x.2 q2).1, .inr ⟨q2, fun k z hz q => ?_⟩⟩
   rw [listT_get hl] at hz
   obtain ⟨i', r1, r2⟩ := h2.nth hz
   have : i' = j := D.one i' j z.1 z.2 x.2 r2 (by rw [q]; exact q2)
   exact q1 (this ▸ List.mem_of_getElem? r1)
  ·refine ⟨(D.own j z.1 z.2 q3).1, .inl ⟨k, ?_, ?_⟩⟩
   ·rw [listT_get (by rw [zipO_length]; exact hl)]; exact q1
   ·rw [← q4]; exact D.exo j z.1 z.2 q3
 ·have G : ∀ j x, (updL is os' T).get j = some x → ∃ o, T.get j = some (x.1, o) := fun j x hx => by
   rcases updL_spec is l os' T h3 h2 j x hx with ⟨q1, q2⟩ | ⟨k, q0, q1, z, q2, q3, q4⟩
   ·exact ⟨x.2, q2⟩
   ·exact ⟨z.2, by rw [← q4]; exact q3⟩
  obtain ⟨_, g1⟩ := G i _ e1
  obtain ⟨_, g2⟩ := G j _ e2
  exact D.one i j a _ _ g1 g2
def hkT (n : Nat) (I : IT) : HB := hkD (fun js Γ T τ _ => rdCt n js Γ T τ) fun d _ _ ch => ([], fun K => I d.l d.Γ ch fun r' l' N' t' ch' => K r' (listT l') l'.length (N' + 1723) 0 (t' + 1) 0 ch' d.r)
theorem hkT_ok (O : (VX w h d os X).Ok) {n : Nat} {I : IT} (H : CtOk n I w h d os) (hm : MonoI I) (hn : n ≤ 63) : HBOk (VX w h d os X) (hkT n I) :=
 hkD_ok (fun d T m ch F G hFG x => hm _ _ _ _ _ (fun r l' N' t' ch' => hFG _ _ _ _ _ _ _ _ _) x)
 fun js Γ p T m B c τ i ch d e hps R g D x => rdCt_k e fun t e1 e2 h1 h2 h3 => by
  rw [e1, e2]
  exact ct_use O H hn h1 h2 h3 D x fun r' l' N' t' ch' hF g' D' => hF g' (back_sub O D h2 (h1 ▸ hn) D')
structure CtC where
 n : Nat
 Y : Type
 P : OL → PySem.Ctx → Ch → Prop
 res : Y → Result
 out : Y → List Obj
 tab : Y → Array Value → Array Value
 Post : OL → Y → Prop
def CtC.I (C : CtC) : IT := fun l Γ ch F => C.P l Γ ch ∧ ∃ v : Array Value × Array Value × Array Value, ch = chL v.1 v.2.1 v.2.2 ∧ ∀ y N' t', C.Post l y → F (C.res y) (zipO l (C.out y)) N' t' (chL (C.tab y v.1) v.2.1 v.2.2)
def rdC (n : Nat) (js : List Nat) (Γ : PySem.Ctx) (T : MT) (τ : Nat) (ch : Ch) : Option (DCt × Array Value × Array Value × Array Value) := bO (rdCt n js Γ T τ) fun d => bO (isChL ch) fun v => some (d, v)
theorem rdC_k {n : Nat} {js : List Nat} {Γ : PySem.Ctx} {T : MT} {τ : Nat} {ch : Ch} {d : DCt × Array Value × Array Value × Array Value} (h : rdC n js Γ T τ ch = some d) {P : Prop} (k : ∀ t, Γ = d.1.Γ → τ = t + 1 → d.1.l.length = n → Reads T d.1.is d.1.l → d.1.is.Nodup → ch = chL d.2.1 d.2.2.1 d.2.2.2 → P) : P :=
 inv_o h fun q e h => inv_o h fun v e1 h => by
  rw [← Option.some.inj h] at k
  exact rdCt_k e fun t f1 f2 f3 f4 f5 => k t f1 f2 f3 f4 f5 (isChL_ok e1)
def hkC (C : CtC) : HB := hkD (rdC C.n) fun d T m ch => ([], fun K => C.P d.1.l d.1.Γ ch ∧ ∀ y N' t', C.Post d.1.l y → K (C.res y) (updL d.1.is (C.out y) T) m (N' + 1723) 0 (t' + 1) 0 (chL (C.tab y d.2.1) d.2.2.1 d.2.2.2) d.1.r)
theorem hkC_ok (O : (VX w h d os X).Ok) {C : CtC} (H : CtOk C.n C.I w h d os) (hn : C.n ≤ 63) : HBOk (VX w h d os X) (hkC C) :=
 hkD_ok (fun d T m ch F G hFG x => ⟨x.1, fun y N' t' hy => hFG _ _ _ _ _ _ _ _ _ (x.2 y N' t' hy)⟩)
 fun js Γ p T m B c τ i ch d e hps R g D x => rdC_k e fun t e1 e2 h1 h2 h3 h4 => by
  rw [e1, e2]
  refine ct_use (F := fun r' l' N' t' ch' => ∃ y, r' = C.res y ∧ l' = zipO d.1.l (C.out y) ∧ C.Post d.1.l y ∧ ch' = chL (C.tab y d.2.1) d.2.2.1 d.2.2.2) O H hn h1 h2 h3 D ⟨x.1, d.2, h4, fun y N' t' hy => ⟨y, rfl, rfl, hy, rfl⟩⟩ fun r' l' N' t' ch' hF g' D' => ?_
  obtain ⟨y, e3, e4, hy, e5⟩ := hF
  rw [e4] at D'
  rw [e3]
  rw [e5] at D'
  exact x.2 y N' t' hy g' (back_upd O D h2 h3 (h1 ▸ hn) D')
def anyK (n : Nat) (f : Nat → Prop) : Prop := Nat.rec (motive := fun _ => Prop) False (fun i ih => ih ∨ f i) n
theorem anyK_mono {f g : Nat → Prop} (H : ∀ i, f i → g i) : ∀ {n : Nat}, anyK n f → anyK n g
 | 0, h => h
 | n + 1, h => (h : anyK n f ∨ f n).elim (fun q => .inl (anyK_mono H q)) fun q => .inr (H _ q)
theorem anyK_get {f : Nat → Prop} {P : Prop} (H : ∀ i, f i → P) : ∀ {n : Nat}, anyK n f → P
 | 0, h => h.elim
 | n + 1, h => (h : anyK n f ∨ f n).elim (fun q => anyK_get H q) fun q => H _ q
def hkTakeX (n : Nat) (br : Nat → List Nat) : HB := hkD takB fun d T m ch => ([(d.1.la, d.1.s.1)], fun K => Bd d.1.s.2.1 d.1.s.2.2.2.1 ∧ ∀ r u' N' t' s0' u0' s1' u1', 0 ≤ r → r < d.1.top → Bd s0' s1' →
    anyK n fun q => K (.ok (.ret (.int r u'))) (T.upd (d.1.j / 2) fun _ => srcE s0' u0' s1' u1' d.1.s.2.2.2.2.2) m (N' + 1723) 0 (t' + 1) 0 ch (br (d.2 + q)))
theorem hkTakeX_ok (O : (VX w h d os X).Ok) (n : Nat) (br : Nat → List Nat) : HBOk (VX w h d os X) (hkTakeX n br) :=
 hkD_ok (fun d T m ch F G H x => ⟨x.1, fun r u' N' t' s0' u0' s1' u1' r0 r1 hb => anyK_mono (fun _ => H _ _ _ _ _ _ _ _ _) (x.2 r u' N' t' s0' u0' s1' u1' r0 r1 hb)⟩)
 fun js Γ p T m B c τ i ch q e hps R g D x => inv_o e fun q' e1 e => inv_l e fun b _ _ e => by
  rw [← Option.some.inj e] at hps x
  exact takA_wp O e1 hps D x.1 fun r u' N' t' s0' u0' s1' u1' r0 r1 hb => anyK_get (fun _ q => q) (x.2 r u' N' t' s0' u0' s1' u1' r0 r1 hb)
end
section
open PySem.MeetsSeq PySem.SeqAt
def nLNext : Nat := 36058839055461744822429329989390181918337346850548333
theorem nLNext_is : PySem.W.S.codeS "list_iterator.__next__" = nLNext := by kernel_rfl
def iterO (l : Nat) (v : Int) : Obj := { cls := .type "list_iterator", dict := none, data := .fields #[.ref l, .int v 0], slots := #[] }
theorem next_list (it l : Addr) (i : Int) (xs : Array Value) (ep : Nat) (x : Value) (hx : xs[i.toNat]? = some x) :
  Meets (Builtin.«list_iterator.__next__» ⟨[.ref it], []⟩) (fun _ R s => s.heap.get? it = some (iterO l i) ∧ s.heap.get? l = some { cls := .type "list", dict := none, data := .seq xs ep, slots := #[] } ∧
   R (.ok (.ret x)) { s with heap := s.heap.update it (Obj.mapFields fun f => f.setIfInBounds 1 (rawInt (i + 1))) }) :=
 .of_wp fun prog w A R s h => by
  obtain ⟨hp, g, d, tk, os⟩ := s
  obtain ⟨hl, hl2, h⟩ := h
  unfold iterO at hl
  wp_walk
  rw [hx]
  wp_walk
  exact ⟨_, rfl, h⟩
abbrev stopF := @PySem.W.Fast.tw17615448654315672387
def endLT (it : Nat) : Sem Fin := do
 setField (.ref it) 0 .none
 Builtin.SmallTypes.stopIteration
def endLF (it : Nat) : Sem Fin := do
 PySem.W.Fast.tw17858455048448223758 (.ref it) 0 .none
 stopF
theorem endLF_eq : endLT = endLF := by
 funext it
 unfold endLT endLF stopF
 rw [PySem.W.Fast.te17858455048448223758, PySem.W.Fast.te17615448654315672387]
theorem denNext (args : Args) : denF (.builtin "list_iterator.__next__" args) = PySem.W.Fast.tw17080672600816211121 "list_iterator.__next__" args := by kernel_rfl
theorem end_list {M : Model} {Γ : PySem.Ctx} {it l : Nat} {i : Int} {xs : Array Value} {ep : Nat} {Q : Fin → Pos → Shared → Prop} {E : Value → Pos → Shared → Prop} {p : Pos} {s : Shared}
  (hl : s.heap.get? it = some (iterO l i)) (hl2 : s.heap.get? l = some { cls := .type "list", dict := none, data := .seq xs ep, slots := #[] }) (hx : xs[i.toNat]? = none)
  (h : Sem.wp M Γ (endLF it) Q E p s) : Sem.wp M Γ (denF (.builtin "list_iterator.__next__" ⟨[.ref it], []⟩)) Q E p s := by
 rw [denNext, ← PySem.W.Fast.te17080672600816211121]
 rw [← endLF_eq] at h
 simp only [endLT, Sem.wp_bind'] at h
 show Sem.wp M Γ (slotArgs _ _ _ >>= _) Q E p s
 simp only [slotArgs, List.length_nil, bne_self_eq_false, List.isEmpty_nil, Bool.not_true, Bool.false_eq_true, if_false, Sem.wp_bind', Sem.wp_pure']
 refine wp_field_of (v := .ref l) hl rfl (by simp) ?_
 have hne : ((Value.ref l) == .none) = false := by simp
 simp only [hne, Bool.false_eq_true, if_false, Sem.wp_bind', Sem.wp_pure']
 refine wp_field_of (v := .int i 0) hl rfl (by simp) ?_
 simp only [seqItems?, Sem.wp_bind', load, Sem.wp_load, Sem.wp_pure']
 refine ⟨_, hl2, ?_⟩
 simp only [hx, Sem.wp_pure, Sem.wp_pure', Sem.wp_bind', rule, Sem.wp_rule]
 exact h
def biv (n : Nat) (Γ : PySem.Ctx) : Option (List Value) := bO (cB Γ.code) fun q => bN q.2.kw (bT (Nat.beq (PySem.W.S.codeS q.1) n) (some q.2.pos))
theorem biv_ok {s : String} {n : Nat} (hs : PySem.W.S.codeS s = n) {Γ : PySem.Ctx} {vs : List Value} (h : biv n Γ = some vs) : Γ.code = .builtin s ⟨vs, []⟩ :=
 inv_o h fun q e h => inv_n h fun e2 h => inv_t h fun e3 h => by rw [cB_ok e, id_of hs e3, ← e2, ← Option.some.inj h]
abbrev HW := MT → Nat → Nat → Nat → Nat → Nat → Ch → List (Nat × Nat) × (KTy → Prop)
def hkI {δ : Type} (n : Nat) (rd : PySem.Ctx → List Value → List Nat → MT → Option δ) (W : δ → HW) : HB := fun js Γ _ T m B c τ i ch => bO (biv n Γ) fun vs => bO (rd Γ vs js T) fun d => some (W d T m B c τ i ch)
theorem hkI_ok {V : XW} {δ : Type} {n : Nat} {s : String} {rd : PySem.Ctx → List Value → List Nat → MT → Option δ} {W : δ → HW} (hs : PySem.W.S.codeS s = n)
  (mono : ∀ d T m B c τ i ch F G, (∀ r T m B c τ i ch js, F r T m B c τ i ch js → G r T m B c τ i ch js) → (W d T m B c τ i ch).2 F → (W d T m B c τ i ch).2 G)
  (ok : ∀ vs js (Γ : PySem.Ctx) p T m B c τ i ch d, rd Γ vs js T = some d → Γ.code = .builtin s ⟨vs, []⟩ → (∀ y ∈ (W d T m B c τ i ch).1, y.1 = y.2) → ∀ R h, Rp V T m (B + c) ch h → (W d T m B c τ i ch).2 (fun r T m B c τ i ch _ => AtS V R r T m B c τ i ch) → wpCode V.M Γ R p (V.sh h (τ + i))) : HBOk V (hkI n rd W) where
 mono := fun js Γ p T m B c τ i ch ps W' e F G H x => inv_o e fun vs _ e => inv_o e fun d _ e => by
  rw [← show (W d T m B c τ i ch).2 = W' from congrArg Prod.snd (Option.some.inj e)] at x ⊢
  exact mono _ _ _ _ _ _ _ _ _ _ H x
 ok := fun js Γ p T m B c τ i ch ps W' e hps R h D x => inv_o e fun vs hc e => inv_o e fun d e1 e => by
  rw [← show (W d T m B c τ i ch).2 = W' from congrArg Prod.snd (Option.some.inj e)] at x
  rw [← show (W d T m B c τ i ch).1 = ps from congrArg Prod.fst (Option.some.inj e)] at hps
  exact ok vs js Γ p T m B c τ i ch d e1 (biv_ok hs hc) hps R h D x
def liAt (T : MT) (j : Nat) : Option (Nat × Nat × Int) := bO (itAt nLI T j) fun q => bL q.2 fun l r => bL r fun v r => bN r (bO (vRef l) fun l => bO (vI0 v) fun k => some (q.1, l, k))
theorem liAt_ok {T : MT} {j : Nat} {q : Nat × Nat × Int} (h : liAt T j = some q) : T.get (j / 2) = some (q.1, iterO q.2.1 q.2.2) :=
 inv_o h fun x e h => inv_l h fun l r e1 h => inv_l h fun v r2 e2 h => inv_n h fun e3 h => inv_o h fun l' e4 h => inv_o h fun k e5 h => by
  rw [itAt_ok nLI_is (show itAt nLI T j = some (x.1, x.2) from e), e1, e2, e3, vRef_ok e4, vI0_ok e5, ← Option.some.inj h]; rfl
structure DN where
 it : Nat
 j : Nat
 q : Nat × Nat × Int
 s : Nat × Array Value × Nat
 js : List Nat
def rdN (vs : List Value) (js : List Nat) (T : MT) : Option DN := bO (aR vs) fun it => bL js fun j js => bL js fun j2 js => bO (liAt T j) fun q => bO (seqAt nList T j2) fun s => some ⟨it, j, q, s, js⟩
theorem rdN_k {vs : List Value} {js : List Nat} {T : MT} {d : DN} (h : rdN vs js T = some d) (h1 : d.q.2.1 = d.s.1) (h2 : d.it = d.q.1) {P : Prop}
  (k : ∀ j2, vs = [.ref d.it] → T.get (d.j / 2) = some (d.it, iterO d.s.1 d.q.2.2) → T.get (j2 / 2) = some (d.s.1, { cls := .type "list", dict := none, data := .seq d.s.2.1 d.s.2.2, slots := #[] }) → P) : P :=
 inv_o h fun it e1 h => inv_l h fun j r e2 h => inv_l h fun j2 r2 e3 h => inv_o h fun q e4 h => inv_o h fun s e5 h => by
  rw [← Option.some.inj h] at h1 h2 k
  exact k j2 (aR_ok e1) ((liAt_ok e4).trans (by rw [show q.2.1 = s.1 from h1, ← show it = q.1 from h2])) (seqAt_ok nList_is e5)
def rdNb (vs : List Value) (js : List Nat) (T : MT) : Option (DN × Nat) := bO (rdN vs js T) fun d => bL d.js fun b _ => some (d, b)
def walEndL (js : List Nat) (Γ : PySem.Ctx) (T : MT) : Option WL := bO (biv nLNext Γ) fun vs => bO (rdN vs js T) fun d => some ⟨[(d.s.2.1.size, d.q.2.2.toNat), (d.q.2.1, d.s.1), (d.it, d.q.1)], d.js, 0, endLF d.it⟩
theorem walEndL_ok {V : XW} {js : List Nat} {Γ : PySem.Ctx} {p : Pos} {T : MT} {x : WL} (hx : walEndL js Γ T = some x) : WlOk V Γ p T x :=
 inv_o hx fun vs hc hx => inv_o hx fun d e hx => by
  rw [← Option.some.inj hx]
  refine fun hps m b ch h t D Q E k => ?_
  refine rdN_k e (hps _ (.tail _ (.head _))) (hps _ (.tail _ (.tail _ (.head _)))) fun j2 e1 e2 e3 => ?_
  rw [biv_ok nLNext_is hc, e1]
  exact end_list (D.own _ _ _ e2).2.2.2 (D.own _ _ _ e3).2.2.2 (Array.getElem?_eq_none_iff.mpr (Nat.le_of_eq (show d.s.2.1.size = d.q.2.2.toNat from hps _ (.head _)))) k
theorem next_run {V : XW} (O : V.Ok) {Γ : PySem.Ctx} {p : Pos} {T : MT} {m B c τ i : Nat} {ch : Ch} {R : Result → Shared → Prop} {g : Heap} {d : DN} {j2 : Nat} {vs : List Value} {y : Value} (hc : Γ.code = .builtin "list_iterator.__next__" ⟨vs, []⟩) (e1 : vs = [.ref d.it])
  (e2 : T.get (d.j / 2) = some (d.it, iterO d.s.1 d.q.2.2)) (e3 : T.get (j2 / 2) = some (d.s.1, { cls := .type "list", dict := none, data := .seq d.s.2.1 d.s.2.2, slots := #[] })) (D : Rp V T m (B + c) ch g)
  (hy : d.s.2.1[d.q.2.2.toNat]? = some y) (K : AtS V R (.ok (.ret y)) (T.upd (d.j / 2) fun _ => iterO d.s.1 (d.q.2.2 + 1)) m B c τ i ch) : wpCode V.M Γ R p (V.sh g (τ + i)) := by
 rw [e1] at hc
 refine hook_meets hc slot_listiter_next.plain entry_listiter_next ((next_list d.it d.s.1 d.q.2.2 d.s.2.1 d.s.2.2 y hy).inModel _ _) ⟨(D.own _ _ _ e2).2.2.2, (D.own _ _ _ e3).2.2.2, K _ ?_⟩
 refine (D.upd O (f := Obj.mapFields fun f => f.setIfInBounds 1 (rawInt (d.q.2.2 + 1))) e2 rfl).weaken fun q x hx => ?_
 rw [MT.get_upd] at hx ⊢
 by_cases hq : q = d.j / 2
 ·rw [if_pos hq, e2] at hx
  rw [if_pos hq, e2, hq, ← Option.some.inj hx]
  exact ⟨(D.own _ _ _ e2).1, rfl⟩
 ·rw [if_neg hq] at hx ⊢
  exact ⟨(D.own _ x.1 x.2 hx).1, hx⟩
def hkNextL (n : Nat) (br : Nat → List Nat) : HB := hkI nLNext (fun _ => rdNb) fun d T m B c τ i ch => ([(d.1.q.2.1, d.1.s.1), (d.1.it, d.1.q.1)], fun K => ∃ k u, d.1.s.2.1[d.1.q.2.2.toNat]? = some (.int k u) ∧ anyK n fun q => K (.ok (.ret (.int k u))) (T.upd (d.1.j / 2) fun _ => iterO d.1.q.2.1 (d.1.q.2.2 + 1)) m B c τ i ch (br (d.2 + q)))
theorem hkNextL_ok {V : XW} (O : V.Ok) (n : Nat) (br : Nat → List Nat) : HBOk V (hkNextL n br) :=
 hkI_ok nLNext_is (fun d T m B c τ i ch F G H x => x.elim fun k x => x.elim fun u x => ⟨k, u, x.1, anyK_mono (fun _ => H _ _ _ _ _ _ _ _ _) x.2⟩)
 fun vs js Γ p T m B c τ i ch d e hc hps R g D x => x.elim fun k x => x.elim fun u x => inv_o e fun d' e h => inv_l h fun b _ _ h => by
  rw [← Option.some.inj h] at hps x
  have h1 := hps _ (.head _)
  refine rdN_k e h1 (hps _ (.tail _ (.head _))) fun j2 e1 e2 e3 => next_run O hc e1 e2 e3 D x.1 ?_
  rw [← show d'.q.2.1 = d'.s.1 from h1]
  exact anyK_get (fun _ q => q) x.2
def rd3 (l : List Value) : Option (Nat × Nat × Int × Nat) := bL l fun p r => bL r fun q r => bL r fun k r => bN r (bO (vRef p) fun p => bO (vRef q) fun q => bO (vInt k) fun k => some (p, q, k))
theorem rd3_ok {l : List Value} {q : Nat × Nat × Int × Nat} (h : rd3 l = some q) : l = [.ref q.1, .ref q.2.1, .int q.2.2.1 q.2.2.2] :=
 inv_l h fun p r e h => inv_l h fun q r2 e2 h => inv_l h fun k r3 e3 h => inv_n h fun e4 h => inv_o h fun p' e5 h => inv_o h fun q' e6 h => inv_o h fun k' e7 h => by
  rw [e, e2, e3, e4, vRef_ok e5, vRef_ok e6, vInt_ok e7, ← Option.some.inj h]
structure D3 where
 a : Nat
 ep : Nat
 x : Nat × Nat × Int × Nat
 s1 : Nat × Array Value × Nat
 s2 : Nat × Array Value × Nat
def sd3 (T : MT) (j ja jb : Nat) : Option D3 := bO (seqAt nList T j) fun s => bO (rd3 s.2.1.toList) fun x => bO (seqAt nList T ja) fun s1 => bO (seqAt nList T jb) fun s2 => some ⟨s.1, s.2.2, x, s1, s2⟩
theorem sd3_ok {T : MT} {j ja jb : Nat} {d : D3} (h : sd3 T j ja jb = some d) : T.get (j / 2) = some (d.a, { cls := .type "list", dict := none, data := .seq #[.ref d.x.1, .ref d.x.2.1, .int d.x.2.2.1 d.x.2.2.2] d.ep, slots := #[] }) ∧ seqAt nList T ja = some d.s1 ∧ seqAt nList T jb = some d.s2 :=
 inv_o h fun s e h => inv_o h fun x e1 h => inv_o h fun s1 e2 h => inv_o h fun s2 e3 h => by
  rw [← Option.some.inj h]
  refine ⟨(seqAt_ok nList_is e).trans ?_, e2, e3⟩
  rw [show s.2.1 = _ from Array.ext' (rd3_ok e1)]
structure DE where
 v : Nat × Nat
 a : D3
 b : D3
 js : List Nat
def rdE3 (vs : List Value) (js : List Nat) (T : MT) : Option DE := bO (aRR vs) fun v => bL js fun j js => bL js fun j2 js => bL js fun ja js => bL js fun jb js => bL js fun jc js => bL js fun jd js => bO (sd3 T j ja jb) fun a => bO (sd3 T j2 jc jd) fun b => bT (!Nat.beq (ja / 2) (jc / 2)) (bT (!Nat.beq (jb / 2) (jd / 2)) (some ⟨v, a, b, js⟩))
def hNe3 : H1 := fun js Γ _ T m _ c _ i _ => bi nNe Γ fun vs => bT (room Γ) (bO (rdE3 vs js T) fun d => some ⟨[(d.b.x.2.1, d.b.s2.1), (d.b.x.1, d.b.s1.1), (d.a.x.2.1, d.a.s2.1), (d.a.x.1, d.a.s1.1), (d.v.2, d.b.a), (d.v.1, d.a.a)], d.js, (chkEq d.a.s1.2.1 d.b.s1.2.1 true = true ∧ chkEq d.a.s2.2.1 d.b.s2.2.1 true = true ∧ d.a.x.2.2.1 = d.b.x.2.2.1), .ok (.ret (.bool false)), T, m, c, i⟩)
theorem eq_lists {V : XW} {Γ : PySem.Ctx} {T : MT} {m b : Nat} {ch : Ch} {h : Heap} {t : Nat} (D : Rp V T m b ch h) (hr : room Γ = true) {ja jc p q : Nat} {s1 s3 : Array Value} {e1 e3 : Nat} (h1 : seqAt nList T ja = some (p, s1, e1)) (h3 : seqAt nList T jc = some (q, s3, e3))
  (hn : Nat.beq (ja / 2) (jc / 2) = false) (he : chkEq s1 s3 true = true) : EqAt (arOf Γ).in1 (V.sh h t) (.ref p) (.ref q) true := by
 have o1 := seqAt_ok nList_is h1
 have o3 := seqAt_ok nList_is h3
 have ne : p ≠ q := fun w => by
  subst w
  have := D.one _ _ _ _ _ o1 o3
  rw [this, Nat.beq_refl] at hn; cases hn
 have l1 : (V.sh h t).heap.IsList p s1 := ⟨_, (D.own _ _ _ o1).2.2.2, rfl, e1, rfl⟩
 have l3 : (V.sh h t).heap.IsList q s3 := ⟨_, (D.own _ _ _ o3).2.2.2, rfl, e3, rfl⟩
 unfold chkEq at he
 split at he
 ·rename_i d hd
  obtain ⟨i1, i2⟩ := zipEq_ok (arOf Γ).in1.in1 (V.sh h t) _ _ _ hd
  have hdb : d = true := eq_of_beq he
  subst hdb
  have hz : s1.size = s3.size := by
   by_cases hz : s1.size = s3.size
   ·exact hz
   ·exact absurd (i2 (by simpa using hz)) (by simp)
  obtain ⟨ef, x3, x4⟩ := i1 (by simpa using hz)
  have := EqAt.of_refs ne (RcAt.lists (A := (arOf Γ).in1) l1 l3 hz (room_ok hr) (e := ef) fun j a1 a2 => x3 j (by simpa using a1) (by simpa using a2))
  have e4 : (List.range s1.size).all ef = true := by rw [← x4]; simp
  rw [e4] at this
  exact this
 ·cases he
theorem hNe3_ok (V : XW) : H1Ok V hNe3 := fun js Γ p T m B c τ i ch x hx hpre hps R h D K =>
 bi_k nNe_is hx fun vs hc e => inv_t e fun hr e => inv_o e fun d e1 e => by
  rw [← Option.some.inj e] at hpre hps K
  clear hx e
  obtain ⟨c1, c2, c3⟩ := hpre
  exact inv_o e1 fun v f0 f => inv_l f fun j _ _ f => inv_l f fun j2 _ _ f => inv_l f fun ja _ _ f => inv_l f fun jb _ _ f => inv_l f fun jc _ _ f => inv_l f fun jd _ _ f => inv_o f fun a f1 f => inv_o f fun b f2 f => inv_t f fun n1 f => inv_t f fun n2 f => by
   rw [← Option.some.inj f] at hps c1 c2 c3
   obtain ⟨g1, g2, g3⟩ := sd3_ok f1
   obtain ⟨k1, k2, k3⟩ := sd3_ok f2
   rw [aRR_ok f0, show v.1 = a.a from hps _ (.tail _ (.tail _ (.tail _ (.tail _ (.tail _ (.head _)))))), show v.2 = b.a from hps _ (.tail _ (.tail _ (.tail _ (.tail _ (.head _)))))] at hc
   refine hook_meets hc F.slot_list_ne.plain F.entry_list_ne ((list_neAt a.a b.a #[.ref a.x.1, .ref a.x.2.1, .int a.x.2.2.1 a.x.2.2.2] #[.ref b.x.1, .ref b.x.2.1, .int b.x.2.2.1 b.x.2.2.2] a.ep b.ep none none #[] #[] rfl (fun _ => true)).inModel _ _) ⟨(D.own _ _ _ g1).2.2.2, (D.own _ _ _ k1).2.2.2, fun j h1 h2 => ?_, K h D⟩
   match j, h1, h2 with
   | 0, _, _ =>
    show EqAt _ _ (.ref a.x.1) (.ref b.x.1) true
    rw [show a.x.1 = _ from hps _ (.tail _ (.tail _ (.tail _ (.head _)))), show b.x.1 = _ from hps _ (.tail _ (.head _))]
    exact eq_lists D hr g2 k2 ((Bool.not_eq_true' _).mp n1) c1
   | 1, _, _ =>
    show EqAt _ _ (.ref a.x.2.1) (.ref b.x.2.1) true
    rw [show a.x.2.1 = _ from hps _ (.tail _ (.tail _ (.head _))), show b.x.2.1 = _ from hps _ (.head _)]
    exact eq_lists D hr g3 k3 ((Bool.not_eq_true' _).mp n2) c2
   | 2, _, _ =>
    show EqAt _ _ (.int a.x.2.2.1 a.x.2.2.2) (.int b.x.2.2.1 b.x.2.2.2) true
    rw [show a.x.2.2.1 = _ from c3]
    have := EqAt.int_int (A := (arOf Γ).in1) (s := V.sh h (τ + i)) b.x.2.2.1 a.x.2.2.2 b.x.2.2.1 b.x.2.2.2
    rw [beq_self_eq_true] at this
    exact this
def hooks2 : List H1 := hooks ++ [hNe3]
def walT2 : WalTy := fun q js Γ p T => Bool.rec (walT q js Γ p T) (walEndL js Γ T) (Nat.beq q 8)
def HH2 (hk : HkTy) : Hk := ⟨hsOf hooks2, hk, altT, walT2⟩
theorem walT2_ok {V : XW} {q : Nat} {js : List Nat} {Γ : PySem.Ctx} {p : Pos} {T : MT} {x : WL} (h : walT2 q js Γ p T = some x) : WlOk V Γ p T x :=
 inv_b h walT_ok walEndL_ok
theorem hooks2_ok (V : XW) (O : V.Ok) (hn : 1723 ≤ V.n₀) : ∀ f ∈ hooks2, H1Ok V f := fun f hf => (List.mem_append.mp hf).elim (hooks_ok V O hn f) fun hf => by
 rw [List.mem_singleton.mp hf]; exact hNe3_ok V
theorem HH2_ok (V : XW) (O : V.Ok) (hn : 1723 ≤ V.n₀) {hk : HkTy} (W : HkW V hk) : HkOk V (HH2 hk) := ⟨hsOf_ok (hooks2_ok V O hn), W.mono, altT_ok, fun _ _ _ _ _ _ => walT2_ok, W.ok⟩
end
def nthL (l : List (List Nat)) (q : Nat) : List Nat := List.rec (motive := fun _ => Nat → List Nat) (fun _ => []) (fun x _ ih q => match q with | 0 => x | q + 1 => ih q) l q
def lstE (xs : Array Value) (ep : Nat) : Obj := { cls := .type "list", dict := none, data := .seq xs ep, slots := #[] }
def cellO (v : Value) : Obj := { cls := .type "cell", dict := none, data := .cell (some v), slots := #[] }
abbrev KVT := Result → List (Option (Nat × Obj)) → Nat → Nat → Nat → Nat → Ch → Prop
def viewT (n : Nat) : (Nat → Option (Nat × Obj)) → List (Option (Nat × Obj)) := Nat.rec (motive := fun _ => (Nat → Option (Nat × Obj)) → List (Option (Nat × Obj))) (fun _ => []) (fun _ ih g => g 0 :: ih fun i => g (i + 1)) n
def KFv (n : Nat) (KV : KVT) : KTy := fun r T _ B c τ i ch _ => KV r (viewT n T.get) B c τ i ch
def KVof (n : Nat) (F : FT) : KVT := fun r vs B c τ i ch => ∃ l' N' t', F r l' N' t' ch ∧ l'.length = n ∧ vs = l'.map some ∧ B + c = N' + 1723 ∧ τ + i = t' + 1
theorem viewT_nth : ∀ (n : Nat) (g : Nat → Option (Nat × Obj)) (l : OL), viewT n g = l.map some → ∀ k x, nthO l k = some x → g k = some x
 | 0, g, l, h, k, x, e => by
  have h : [] = l.map some := h
  cases l with
  | nil => cases e
  | cons y l => cases h
 | n + 1, g, l, h, k, x, e => by
  have h : g 0 :: viewT n (fun i => g (i + 1)) = l.map some := h
  cases l with
  | nil => cases e
  | cons y l =>
   rw [List.map_cons] at h
   injection h with h1 h2
   cases k with
   | zero => rw [h1]; exact e
   | succ k => exact viewT_nth n _ l h2 k x e
theorem viewT_list : ∀ (n : Nat) (g : Nat → Option (Nat × Obj)) (l : OL), l.length = n → (∀ k, g k = nthO l k) → viewT n g = l.map some
 | 0, g, l, h, _ => by
  cases l with
  | nil => rfl
  | cons y l => cases h
 | n + 1, g, l, h, e => by
  cases l with
  | nil => cases h
  | cons y l =>
   show g 0 :: viewT n (fun i => g (i + 1)) = _
   rw [List.map_cons, e 0, viewT_list n _ l (Nat.succ.inj h) fun k => e (k + 1)]
   rfl
section
variable {w : World} {h : Heap} {d : Drawn} {os : OsState} {X : Nat → Option Obj}
theorem fin_ok {n : Nat} {F : FT} {R : Result → Shared → Prop} (hn : n ≤ 63) (k : ∀ r l' N' t' ch', F r l' N' t' ch' → AtS (VX w h d os X) R r (listT l') l'.length (N' + 1723) 0 (t' + 1) 0 ch') :
  ∀ r T m B c τ i ch js, KFv n (KVof n F) r T m B c τ i ch js → AtS (VX w h d os X) R r T m B c τ i ch := fun r T m B c τ i ch js x => by
 obtain ⟨l', N', t', hF, hl, hv, e1, e2⟩ := x
 intro g' D'
 have D2 : Rp (VX w h d os X) (listT l') l'.length (B + c) ch g' := D'.weaken fun j x hx => by
  rw [listT_get (by omega)] at hx
  refine ⟨?_, viewT_nth _ _ _ hv j x hx⟩
  rw [nthO_is] at hx
  exact (List.getElem?_eq_some_iff.mp hx).1
 have := k r l' N' t' ch hF g'
 rw [e1] at D2
 rw [e2]
 exact this D2
theorem tail_ok {n : Nat} {F : FT} (hn : n ≤ 63) {r : Result} {l' : OL} {N' t' : Nat} {ch' : Ch} (hF : F r l' N' t' ch') (hl : l'.length = n) : okAcc [] ∧ True ∧ KVof n F r (viewT n (listT l').get) (N' + 1723) 0 (t' + 1) 0 ch' :=
 ⟨okNil, trivial, l', N', t', hF, hl, viewT_list n _ l' hl fun k => listT_get (by omega) k, rfl, rfl⟩
theorem ct_run {n : Nat} (hn : n ≤ 63) (O : (VX w h d os X).Ok) {hk : HkTy} (W : HkW (VX w h d os X) hk) {fuel : Nat} {Γ : PySem.Ctx} {p : Pos} {T : MT} {m N t0 : Nat} {ch : Ch} {js : List Nat} {F : FT} {R : Result → Shared → Prop} {g : Heap}
  (run : simG (VX w h d os X) (HH2 hk) (KFv n (KVof n F)) fuel Γ p .base (denF Γ.code) T m (N + 1723) 0 (t0 + 1) 0 ch js [] True)
  (D : Rp (VX w h d os X) T m (N + 1723) ch g) (k : ∀ r l' N' t' ch', F r l' N' t' ch' → AtS (VX w h d os X) R r (listT l') l'.length (N' + 1723) 0 (t' + 1) 0 ch') : wpCode (VX w h d os X).M Γ R p ((VX w h d os X).sh g (t0 + 1)) :=
 contract1 (c := 0) (i := 0) O (HH2_ok _ O (Nat.le_refl 1723) W) run (fin_ok hn k) D
end
def sOne : Str := ⟨#[111, 110, 101]⟩
def sNumber : Str := ⟨#[110, 117, 109, 98, 101, 114]⟩
def sDot : Str := ⟨#[46, 48]⟩
structure CP where
 p1 : Pos
 p2 : Pos
 p3 : Pos
 p4 : Pos
 p5 : Pos
 p6 : Pos
 it : Expr
 sc : Scope
def eNe (x : CP) : Expr := .ListComp (.Name sOne x.p1) [⟨.Name sOne x.p2, x.it, [.Compare (.Name sOne x.p3) [.NotEq] [.Name sNumber x.p4] x.p5], 0⟩] x.sc x.p6
structure CE where
 g1 : Bool
 g2 : Bool
 more : List (Str × Const)
 gl : Nat
 q : Str
 fn : Option Nat
 co : Value
 fr : Option Nat
 bi : Nat
def envNe (x : CE) (ad ac : Nat) : Env := ⟨⟨.function, [(sDot, .local), (sOne, .local), (sNumber, .cell)], x.g1, x.g2, x.more⟩, ad, x.gl, [(sNumber, ac)], x.q, x.fn, x.co, x.fr, x.bi⟩
structure CS where
 bl : List (Code × Pos)
def CS.ctx (x : CS) (c : Code) : PySem.Ctx := ⟨c, none, none, x.bl, none⟩
def cNe (x : CP) (y : CE) (ait aacc ad ac : Nat) : Code := .compLoop (eNe x) 0 (.ref ait) (.ref aacc) (envNe y ad ac)
def entE (hh : Int) (s : Str) (tk : Nat) (v : Value) : DictEntry := ⟨hh, .str s tk, v⟩
def jsN : List Nat := [3, 0, 3, 6, 3, 1]
def jsNe : List Nat := [9, 9, 9, 7, 0, 94, 2, 9, 0, 5, 10, 5]
def jsEq : List Nat := [9, 9, 9, 7, 0, 94, 0]
def brN : Nat → List Nat := nthL [jsEq ++ [12, 1, 3, 5, 7, 9], jsNe ++ [12, 1, 3, 5, 7, 9]]
def A5 (N a0 a1 a2 a3 a4 : Nat) (i : Nat) : Nat := match i with
 | 0 => a0
 | 1 => a1
 | 2 => a2
 | 3 => a3
 | 4 => a4
 | i + 5 => N + 1723 + i
def hashS (w : World) (s : Str) : Int := reduceHash (w.params.strHash s.cps)
def esN (b : Bool) (hh : Int) (tk : Nat) (v : Value) : Array DictEntry := Bool.rec #[] #[entE hh sOne tk v] b
def ol5 (ax ait aacc ac ad : Nat) (xs : Array Value) (ep : Nat) (v : Int) (a : Obj) (n : Int) (nu : Nat) (es : Array DictEntry) (ep3 : Nat) : OL := [(ax, lstE xs ep), (ait, iterO ax v), (aacc, a), (ac, cellO (.int n nu)), (ad, dictO es ep3)]
def stopO (t : Nat) : Obj := { cls := .type "StopIteration", dict := none, data := .fields #[.ref t, .none, .none, .none, .bool false, .none], slots := #[] }
def iterX (v : Int) : Obj := { cls := .type "list_iterator", dict := none, data := .fields #[.none, .int v 0], slots := #[] }
abbrev dEp (b : Bool) (ep3 : Nat) : Nat := Bool.rec (ep3 + 1) ep3 b
abbrev esK (w : World) (b : Bool) (hh : Int) (tk t0 : Nat) (k : Int) (u : Nat) : Array DictEntry := Bool.rec #[entE (hashS w sOne) sOne (t0 + 1) (.int k u)] #[entE hh sOne tk (.int k u)] b
section
variable (w : World) (N t0 ax ait aacc ac ad ep ep2 ep3 nu tk : Nat) (n v hh : Int) (vo : Value) (xs ys : Array Value) (h : Heap) (d : Drawn) (os : OsState) (X : Nat → Option Obj) (x : CP) (y : CE) (z : CS) (p : Pos) (ch : Ch) (I : IT) (KV : KVT)
abbrev simN (b1 b2 b : Bool) (js : List Nat) : Prop := simG (VX (wF w b1 b2) h d os X) (HH2 (hkOf [hkNextL 2 brN, hkT 5 I])) (KFv 5 KV) 200 (z.ctx (cNe x y ait aacc ad ac)) p .base (denF (cNe x y ait aacc ad ac)) (listT (ol5 ax ait aacc ac ad xs ep v (lstE ys ep2) n nu (esN b hh tk vo) ep3)) 5 (N + 1723) 0 (t0 + 1) 0 ch js [] True
abbrev F5 : FT := fun r l' N' t' ch' => okAcc [] ∧ True ∧ KV r (viewT 5 (listT l').get) (N' + 1723) 0 (t' + 1) 0 ch'
abbrev rhsN (b : Bool) : Prop := okAcc (accL (A5 N ax ait aacc ac ad) jsN []) ∧ True ∧ ∃ k u, xs[v.toNat]? = some (.int k u) ∧
 ((False ∨ (okAcc (accL (A5 N ax ait aacc ac ad) jsEq []) ∧ ((k != n) = false ∧ True) ∧ I (ol5 ax ait aacc ac ad xs ep (v + 1) (lstE ys ep2) n nu (esK w b hh tk t0 k u) (dEp b ep3)) (z.ctx (cNe x y ait aacc ad ac)) ch (F5 KV))) ∨
  (okAcc (accL (A5 N ax ait aacc ac ad) jsNe []) ∧ (chkLe ys.size = true ∧ (k != n) = true ∧ True) ∧ I (ol5 ax ait aacc ac ad xs ep (v + 1) (pushO (.int k u) (lstE ys ep2)) n nu (esK w b hh tk t0 k u) (dEp b ep3)) (z.ctx (cNe x y ait aacc ad ac)) ch (F5 KV)))
theorem runN (b2 q0 q1 : Bool) : simN w N t0 ax ait aacc ac ad ep ep2 ep3 nu tk n v hh vo xs ys h d os X x y z p ch I KV q0 b2 q1 (jsN ++ [0]) = rhsN w N t0 ax ait aacc ac ad ep ep2 ep3 nu tk n v hh xs ys x y z ch I KV q1 := by
 cases q0 <;> cases q1 <;> kernel_rfl
def jsE1 : List Nat := [3, 0, 3, 56, 3, 1]
def jsE2 : List Nat := [3, 3, 13]
abbrev rhsE (b : Bool) : Prop := okAcc (accL (A5 N ax ait aacc ac ad) jsE2 ((xs.size, v.toNat) :: accL (A5 N ax ait aacc ac ad) jsE1 [])) ∧ True ∧
 KV (.ok .next) [some (ax, lstE xs ep), some (ait, iterX v), some (aacc, lstE ys ep2), some (ac, cellO (.int n nu)), some (ad, dictO (esN b hh tk vo) ep3)] (N + 1723) 2 (t0 + 1) 0 ch
theorem runE_f (b1 b2 b : Bool) : simN w N t0 ax ait aacc ac ad ep ep2 ep3 nu tk n v hh vo xs ys h d os X x y z p ch I KV b1 b2 b (jsE1 ++ jsE2) = rhsE N t0 ax ait aacc ac ad ep ep2 ep3 nu tk n v hh vo xs ys ch KV b := by kernel_rfl
end
def filtN (n : Int) (l : List Value) : List Value := l.filter fun x => match x with
 | .int k _ => k != n
 | _ => true
def allI (l : List Value) : Prop := ∀ x ∈ l, ∃ k u, x = .int k u
theorem push_lst (k : Value) (ys : List Value) (ep : Nat) : pushO k (lstE ⟨ys⟩ ep) = lstE ⟨ys ++ [k]⟩ (ep + 1) := by
 unfold pushO lstE Obj.mapSeq
 have : (((⟨ys⟩ : Array Value).push k).size == (⟨ys⟩ : Array Value).size) = false := by
  rw [Array.size_push]; simp
 simp only [this, Bool.false_eq_true, if_false]
 have e : (⟨ys⟩ : Array Value).push k = ⟨ys ++ [k]⟩ := Array.ext' (by simp)
 rw [e]
theorem hkOf2_ok {V : XW} {f g : HB} (hf : HBOk V f) (hg : HBOk V g) : HkW V (hkOf [f, g]) := hkOf_ok fun x hx => by
 cases hx with
 | head => exact hf
 | tail _ hx => cases hx with
  | head => exact hg
  | tail _ hx => cases hx
structure YN where
 L : List Value
 ep2 : Nat
 ep3 : Nat
 it : Obj
 hh : Int
 tk : Nat
 vo : Value
structure StNe where
 (ax ait aacc ac ad ep ep2 ep3 nu tk : Nat)
 (n hh : Int)
 vo : Value
 (xs ys : List Value)
 i : Nat
 b : Bool
 x : CP
 y : CE
 z : CS
def StNe.ol (s : StNe) : OL := ol5 s.ax s.ait s.aacc s.ac s.ad ⟨s.xs⟩ s.ep (Int.ofNat s.i) (lstE ⟨s.ys⟩ s.ep2) s.n s.nu (esN s.b s.hh s.tk s.vo) s.ep3
def StNe.c (s : StNe) : Code := cNe s.x s.y s.ait s.aacc s.ad s.ac
def StNe.out (s : StNe) (k : Nat) (y : YN) : OL := [(s.ax, lstE ⟨s.xs⟩ s.ep), (s.ait, y.it), (s.aacc, lstE ⟨s.ys ++ filtN s.n (s.xs.drop s.i)⟩ y.ep2), (s.ac, cellO (.int s.n s.nu)), (s.ad, dictO (esN (s.b || Nat.blt 0 k) y.hh y.tk y.vo) y.ep3)]
def I_ne (k : Nat) : IT := fun l Γ ch F => ∃ s : StNe, l = s.ol ∧ Γ = s.z.ctx s.c ∧ (s.i + k = s.xs.length ∧ allI s.xs ∧ s.ys.length + k ≤ 100) ∧ ∀ N' t' y, F (.ok .next) (s.out k y) N' t' ch
theorem I_ne_mono (k : Nat) : MonoI (I_ne k) := fun l Γ ch F G H hI => hI.imp fun s h => ⟨h.1, h.2.1, h.2.2.1, fun N' t' y => H _ _ _ _ _ (h.2.2.2 N' t' y)⟩
theorem filtN_cons (n k : Int) (u : Nat) (l : List Value) : filtN n (.int k u :: l) = if (k != n) = true then .int k u :: filtN n l else filtN n l := by
 unfold filtN; rw [List.filter_cons]
theorem esK_is (w : World) (b : Bool) (hh : Int) (tk t0 : Nat) (k : Int) (u : Nat) : esK w b hh tk t0 k u = esN true (Bool.rec (hashS w sOne) hh b) (Bool.rec (t0 + 1) tk b) (.int k u) := by cases b <;> rfl
theorem ne_ok (w : World) (h : Heap) (d : Drawn) (os : OsState) : ∀ k, CtOk 5 (I_ne k) w h d os
 | 0 => fun X O l Γ p R g N t0 ch F hl hI D K => by
  obtain ⟨s, e1, e2, ⟨h3, h4, h5⟩, hF⟩ := hI
  rw [e1] at D
  rw [e2]
  have run := (runE_f w N t0 s.ax s.ait s.aacc s.ac s.ad s.ep s.ep2 s.ep3 s.nu s.tk s.n (Int.ofNat s.i) s.hh s.vo ⟨s.xs⟩ ⟨s.ys⟩ h d os X s.x s.y s.z p ch (fun _ _ _ _ => False) (KVof 5 F) (w.params.followText "special-get-raises") (w.params.followText "comprehension-iter-twice") s.b).mpr ?_
  ·unfold simN at run
   rw [wF_self] at run
   exact ct_run (by decide) O (hkOf2_ok (hkNextL_ok O 2 brN) (hkT_ok O (fun _ _ _ _ _ _ _ _ _ _ _ _ h => h.elim) (fun _ _ _ _ _ _ h => h) (by decide))) run D K
  ·refine ⟨accL_ok _ _ _ (okAcc_cons.mpr ⟨h3.symm, accL_ok _ _ _ okNil⟩), trivial, _, N + 2, t0, hF (N + 2) t0 ⟨[], s.ep2, s.ep3, iterX (Int.ofNat s.i), s.hh, s.tk, s.vo⟩, rfl, ?_, rfl, rfl⟩
   show _ = [some _, some _, some (s.aacc, lstE ⟨s.ys ++ filtN s.n (s.xs.drop s.i)⟩ _), some _, some (s.ad, dictO (esN (s.b || false) s.hh s.tk s.vo) s.ep3)]
   rw [List.drop_eq_nil_of_le (Nat.le_of_eq (show s.xs.length = s.i from h3.symm)), show s.ys ++ filtN s.n [] = s.ys from List.append_nil s.ys, Bool.or_false]
 | k + 1 => fun X O l Γ p R g N t0 ch F hl hI D K => by
  obtain ⟨s, e1, e2, ⟨h3, h4, h5⟩, hF⟩ := hI
  rw [e1] at D
  rw [e2]
  have R' : rhsN w N t0 s.ax s.ait s.aacc s.ac s.ad s.ep s.ep2 s.ep3 s.nu s.tk s.n (Int.ofNat s.i) s.hh ⟨s.xs⟩ ⟨s.ys⟩ s.x s.y s.z ch (I_ne k) (KVof 5 F) s.b := by
   have hi : s.i < s.xs.length := by omega
   obtain ⟨kk, u, hku⟩ := h4 s.xs[s.i] (List.getElem_mem hi)
   have hd : s.xs.drop s.i = .int kk u :: s.xs.drop (s.i + 1) := by rw [List.drop_eq_getElem_cons hi, hku]
   have hb : ∀ N' t' (y : YN) (ys' : List Value), s.ys ++ filtN s.n (s.xs.drop s.i) = ys' ++ filtN s.n (s.xs.drop (s.i + 1)) → F (.ok .next) (StNe.out ⟨s.ax, s.ait, s.aacc, s.ac, s.ad, s.ep, s.ep2, s.ep3, s.nu, s.tk, s.n, s.hh, s.vo, s.xs, ys', s.i + 1, true, s.x, s.y, s.z⟩ k y) N' t' ch := fun N' t' y ys' e => by
    have := hF N' t' y
    unfold StNe.out at this
    rw [e, show (s.b || Nat.blt 0 (k + 1)) = (true || Nat.blt 0 k) from Bool.or_true _] at this
    exact this
   refine ⟨accL_ok _ _ _ okNil, trivial, kk, u, ?_, ?_⟩
   ·show (⟨s.xs⟩ : Array Value)[s.i]? = _
    rw [← hku]; simp [hi]
   ·cases hne : (kk != s.n) with
    | false =>
     refine .inl (.inr ⟨accL_ok _ _ _ okNil, ⟨rfl, trivial⟩, ?_⟩)
     rw [esK_is]
     refine ⟨⟨s.ax, s.ait, s.aacc, s.ac, s.ad, s.ep, s.ep2, dEp s.b s.ep3, s.nu, _, s.n, _, _, s.xs, s.ys, s.i + 1, true, s.x, s.y, s.z⟩, rfl, rfl, ⟨(Nat.succ_add_eq_add_succ s.i k).trans h3, h4, Nat.le_of_succ_le h5⟩, fun N' t' y => tail_ok (by decide) (hb N' t' y s.ys ?_) rfl⟩
     rw [hd, filtN_cons, hne]; rfl
    | true =>
     have h6 : s.ys.length + 1 + k ≤ 100 := (Nat.succ_add_eq_add_succ s.ys.length k) ▸ h5
     refine .inr ⟨accL_ok _ _ _ okNil, ⟨Nat.ble_eq_true_of_le (Nat.le_trans (Nat.le_succ _) (Nat.le_trans (Nat.le_trans (Nat.le_add_right _ k) h6) (by decide))), rfl, trivial⟩, ?_⟩
     rw [push_lst, esK_is]
     refine ⟨⟨s.ax, s.ait, s.aacc, s.ac, s.ad, s.ep, s.ep2 + 1, dEp s.b s.ep3, s.nu, _, s.n, _, _, s.xs, s.ys ++ [Value.int kk u], s.i + 1, true, s.x, s.y, s.z⟩, rfl, rfl, ⟨(Nat.succ_add_eq_add_succ s.i k).trans h3, h4, by rw [List.length_append]; exact h6⟩, fun N' t' y => tail_ok (by decide) (hb N' t' y (s.ys ++ [Value.int kk u]) ?_) rfl⟩
     rw [hd, filtN_cons, hne, List.append_assoc]; rfl
  have run := (runN w N t0 s.ax s.ait s.aacc s.ac s.ad s.ep s.ep2 s.ep3 s.nu s.tk s.n (Int.ofNat s.i) s.hh s.vo ⟨s.xs⟩ ⟨s.ys⟩ h d os X s.x s.y s.z p ch (I_ne k) (KVof 5 F) (w.params.followText "comprehension-iter-twice") (w.params.followText "special-get-raises") s.b).mpr R'
  unfold simN at run
  rw [wF_self] at run
  exact ct_run (by decide) O (hkOf2_ok (hkNextL_ok O 2 brN) (hkT_ok O (ne_ok w h d os k) (I_ne_mono k) (by decide))) run D K
section
variable {w : World} {h : Heap} {d : Drawn} {os : OsState} {X : Nat → Option Obj}
structure CtB where
 n : Nat
 m : Nat
 Y : Type
 P : OL → Code → Prop
 res : Nat → Y → Result
 out : OL → Nat → Y → List Obj
 Post : Nat → OL → Y → Prop
def CtB.I (C : CtB) : IT := fun l Γ ch F => C.P l Γ.code ∧ Γ.handled = none ∧ Γ.own = none ∧ Γ.past = none ∧ ∀ q, q < C.m → ∀ y N' t', C.Post q l y → F (C.res q y) (zipO l (C.out l q y)) N' t' ch
def rdB (n : Nat) (js : List Nat) (Γ : PySem.Ctx) (T : MT) (τ : Nat) : Option (DCt × Nat) := bT (pl Γ) (bO (rdCt n js Γ T τ) fun d => bL d.r fun b _ => some (d, b))
theorem rdB_k {n : Nat} {js : List Nat} {Γ : PySem.Ctx} {T : MT} {τ : Nat} {d : DCt × Nat} (h : rdB n js Γ T τ = some d) {P : Prop} (k : ∀ t, Γ = d.1.Γ → τ = t + 1 → d.1.l.length = n → Reads T d.1.is d.1.l → d.1.is.Nodup → d.1.Γ.handled = none ∧ d.1.Γ.own = none ∧ d.1.Γ.past = none → P) : P :=
 inv_t h fun e0 h => inv_o h fun q e h => inv_l h fun b r _ h => by
  rw [← Option.some.inj h] at k
  exact rdCt_k e fun t f1 f2 f3 f4 f5 => k t f1 f2 f3 f4 f5 (f1 ▸ pl_ok e0)
def hkB (C : CtB) (br : Nat → List Nat) : HB := hkD (fun js Γ T τ _ => rdB C.n js Γ T τ) fun d T m ch => ([], fun K => C.P d.1.l d.1.Γ.code ∧ allK C.m fun q => ∀ y N' t', C.Post q d.1.l y → K (C.res q y) (updL d.1.is (C.out d.1.l q y) T) m (N' + 1723) 0 (t' + 1) 0 ch (br (d.2 + q)))
theorem hkB_ok (O : (VX w h d os X).Ok) {C : CtB} {br : Nat → List Nat} (H : CtOk C.n C.I w h d os) (hn : C.n ≤ 63) : HBOk (VX w h d os X) (hkB C br) :=
 hkD_ok (fun d T m ch F G hFG x => ⟨x.1, allK_mono (fun q z y N' t' hy => hFG _ _ _ _ _ _ _ _ _ (z y N' t' hy)) x.2⟩)
 fun js Γ p T m B c τ i ch d e hps R g D x => rdB_k e fun t e1 e2 h1 h2 h3 h4 => by
  rw [e1, e2]
  refine ct_use (F := fun r' l' N' t' ch' => ∃ q, q < C.m ∧ ∃ y, r' = C.res q y ∧ l' = zipO d.1.l (C.out d.1.l q y) ∧ C.Post q d.1.l y ∧ ch' = ch) O H hn h1 h2 h3 D ⟨x.1, h4.1, h4.2.1, h4.2.2, fun q hq y N' t' hy => ⟨q, hq, y, rfl, rfl, hy, rfl⟩⟩ fun r' l' N' t' ch' hF g' D' => ?_
  obtain ⟨q, hq, y, e3, e4, hy, e5⟩ := hF
  rw [e4, e5] at D'
  rw [e3]
  exact allK_get x.2 q hq y N' t' hy g' (back_upd O D h2 h3 (h1 ▸ hn) D')
end
def nthD (l : OL) (k : Nat) : Obj := match nthO l k with
 | some x => x.2
 | none => default
def outNe (l : OL) (q : Nat) (y : YN) : List Obj := [nthD l 0, y.it, lstE ⟨y.L⟩ y.ep2, nthD l 3, dictO (esN (Nat.blt 0 q) y.hh y.tk y.vo) y.ep3]
def resNe (_ : Nat) (_ : YN) : Result := .ok .next
def xsOf (o : Obj) : List Value := match o.data with
 | .seq xs _ => xs.toList
 | _ => []
def nOf (o : Obj) : Int := match o.data with
 | .cell (some (.int n _)) => n
 | _ => 0
def P_ne (l : OL) (c : Code) : Prop := ∃ (ax ait aacc ac ad ep ep2 ep3 nu : Nat) (n : Int) (xs : List Value) (x : CP) (y : CE),
 l = ol5 ax ait aacc ac ad ⟨xs⟩ ep (Int.ofNat 0) (lstE ⟨[]⟩ ep2) n nu #[] ep3 ∧ c = cNe x y ait aacc ad ac ∧ allI xs ∧ xs.length ≤ 100
def Post_ne (q : Nat) (l : OL) (y : YN) : Prop := y.L = filtN (nOf (nthD l 3)) (xsOf (nthD l 0)) ∧ (q = 0 ↔ xsOf (nthD l 0) = [])
def C_ne : CtB := ⟨5, 2, YN, P_ne, resNe, outNe, Post_ne⟩
def StNe.at0 (s : StNe) (bl : List (Code × Pos)) : StNe := ⟨s.ax, s.ait, s.aacc, s.ac, s.ad, s.ep, s.ep2, s.ep3, s.nu, 0, s.n, 0, .none, s.xs, [], 0, false, s.x, s.y, ⟨bl⟩⟩
theorem P_ne_k {l : OL} {c : Code} (h : P_ne l c) : ∃ s : StNe, l = (s.at0 []).ol ∧ c = s.c ∧ allI s.xs ∧ s.xs.length ≤ 100 := by
 obtain ⟨ax, ait, aacc, ac, ad, ep, ep2, ep3, nu, n, xs, x, y, e1, e2, h3⟩ := h
 exact ⟨⟨ax, ait, aacc, ac, ad, ep, ep2, ep3, nu, 0, n, 0, .none, xs, [], 0, false, x, y, ⟨[]⟩⟩, e1, e2, h3⟩
theorem C_ne_ok (w : World) (h : Heap) (d : Drawn) (os : OsState) : CtOk C_ne.n C_ne.I w h d os := fun X O l Γ p R g N t0 ch F hl hI D K => by
 obtain ⟨hP, i1, i2, i3, hF⟩ := hI
 obtain ⟨s, e1, e2, h3, h4⟩ := P_ne_k hP
 obtain ⟨code, hd, own, bl, past⟩ := Γ
 have e3 : (⟨code, hd, own, bl, past⟩ : PySem.Ctx) = (s.at0 bl).z.ctx (s.at0 bl).c := by
  rw [show hd = none from i1, show own = none from i2, show past = none from i3, show code = _ from e2]; rfl
 refine ne_ok w h d os s.xs.length X O l _ p R g N t0 ch F hl ⟨s.at0 bl, e1, e3, ⟨Nat.zero_add _, h3, (Nat.zero_add _).symm ▸ h4⟩, fun N' t' y => ?_⟩ D K
 have key : ∀ q, q < 2 → Nat.blt 0 q = Nat.blt 0 s.xs.length → (q = 0 ↔ s.xs = []) → F (.ok .next) ((s.at0 bl).out s.xs.length y) N' t' ch := fun q hq e hz => by
  have := hF q hq ⟨filtN s.n s.xs, y.ep2, y.ep3, y.it, y.hh, y.tk, y.vo⟩ N' t' (by rw [e1]; exact ⟨rfl, hz⟩)
  rw [e1] at this
  unfold StNe.out
  rw [← e]
  exact this
 by_cases hx : s.xs = []
 ·exact key 0 (by decide) (by rw [hx]; rfl) ⟨fun _ => hx, fun _ => rfl⟩
 ·exact key 1 (by decide) (Nat.ble_eq_true_of_le (List.length_pos_iff.mpr hx)).symm ⟨fun q => (nomatch q), fun q => absurd q hx⟩
def stmtAt : List Stmt → Nat → Stmt
 | [], _ => default
 | x :: _, 0 => x
 | _ :: l, n + 1 => stmtAt l n
structure ForP where
 t : Expr
 b : List Stmt
 o : List Stmt
def forOf (s : Stmt) : ForP := match s with
 | .For t _ b o _ => ⟨t, b, o⟩
 | _ => ⟨default, [], []⟩
def ifThen (s : Stmt) : List Stmt := match s with
 | .If _ b _ _ => b
 | _ => []
def ifElse (s : Stmt) : List Stmt := match s with
 | .If _ _ o _ => o
 | _ => []
def asgOf (s : Stmt) : Expr := match s with
 | .Assign _ v _ => v
 | _ => default
def scopeC (e : Expr) : Scope := match e with
 | .ListComp _ _ sc _ => sc
 | _ => default
def fnD (P : Params) (a : Nat) : FuncData := match (T14 P).get a with
 | some o => match o.data with
  | .func f => f
  | _ => default
 | none => default
def bodyD (P : Params) (a : Nat) : List Stmt := match (fnD P a).body with
 | .stmts b => b
 | _ => []
def qualD (P : Params) (a : Nat) : Str := ⟨(fnD P a).qualname.cps ++ #[46, 60, 108, 111, 99, 97, 108, 115, 62, 46]⟩
def foE (P : Params) : ForP := forOf (stmtAt (bodyD P 1663) 1)
def envE (P : Params) (f ac : Nat) : Env := ⟨(fnD P 1663).scope, f, (fnD P 1663).globals, [(sNumber, ac)], qualD P 1663, some 1663, (fnD P 1663).code, some f, (fnD P 1663).builtins⟩
def codeE (P : Params) (f ac it : Nat) : Code := .forLoop (foE P).t (.ref it) (foE P).b (foE P).o (envE P f ac)
structure SP where
 c1 : List Stmt
 e1 : Env
 q1 : Pos
 b : List Stmt
 env : Env
 p1 : Pos
 p2 : Pos
def SP.bl (x : SP) : List (Code × Pos) := [(.func x.c1 x.e1, x.q1), (.func x.b x.env, x.p1), (.builtin "claim.caller" {}, x.p2)]
def ΓE (P : Params) (f ac it : Nat) (x : SP) : PySem.Ctx := ⟨codeE P f ac it, none, none, x.bl, none⟩
def siteE (P : Params) (k : Nat) : Expr := match k with
 | 0 => asgOf (stmtAt (ifThen (stmtAt (ifThen (stmtAt (ifElse (stmtAt (foE P).b 1)) 0)) 1)) 0)
 | 1 => asgOf (stmtAt (ifElse (stmtAt (ifElse (stmtAt (foE P).b 1)) 0)) 1)
 | _ => asgOf (stmtAt (ifElse (stmtAt (ifElse (stmtAt (foE P).b 1)) 0)) 2)
def cpOf (e : Expr) : CP := match e with
 | .ListComp (.Name _ p1) [⟨.Name _ p2, it, [.Compare (.Name _ p3) _ [.Name _ p4] p5], _⟩] sc p6 => ⟨p1, p2, p3, p4, p5, p6, it, sc⟩
 | _ => ⟨default, default, default, default, default, default, default, default⟩
def ceE (P : Params) (f : Nat) (sc : Scope) : CE := ⟨sc.isGenerator, sc.isCoroutine, sc.more, (fnD P 1663).globals, qualD P 1663, none, (fnD P 1663).code, some f, (fnD P 1663).builtins⟩
def cE' (P : Params) (k f ait aacc ad ac : Nat) : Code := cNe (cpOf (siteE P k)) (ceE P f (scopeC (siteE P k))) ait aacc ad ac
def sSource : Str := ⟨#[115, 111, 117, 114, 99, 101]⟩
def sReady : Str := ⟨#[114, 101, 97, 100, 121]⟩
def sOpening : Str := ⟨#[111, 112, 101, 110, 105, 110, 103]⟩
def sListener : Str := ⟨#[108, 105, 115, 116, 101, 110, 101, 114]⟩
def sTurn : Str := ⟨#[116, 117, 114, 110]⟩
def sWay : Str := ⟨#[119, 97, 121]⟩
def sAddress : Str := ⟨#[97, 100, 100, 114, 101, 115, 115]⟩
def sPort : Str := ⟨#[112, 111, 114, 116]⟩
def sMost : Str := ⟨#[109, 111, 115, 116, 95, 119, 97, 105, 116, 105, 110, 103]⟩
structure EF where
 la : Nat
 f : Nat
 ac : Nat
 ad : Nat
 aL : Nat
 lo : Nat
 lr : Nat
 it : Nat
 h : Nat → Int
 k : Nat → Nat
 epf : Nat
 epd : Nat
def frE4 (x : EF) (op re : Nat) : List DictEntry := [entE (x.h 0) sSource (x.k 0) (.ref x.la), entE (x.h 1) sReady (x.k 1) (.ref re), entE (x.h 2) sOpening (x.k 2) (.ref op), entE (x.h 3) sListener (x.k 3) (.ref x.aL)]
def frE2 (h4 : Int) (k4 : Nat) (h5 : Int) (k5 : Nat) (turn way : Value) : List DictEntry := [entE h4 sTurn k4 turn, entE h5 sWay k5 way]
def frmO (l : List DictEntry) (ep : Nat) : Obj := { cls := .type "frame", dict := none, data := .dict ⟨l⟩ ep, slots := #[] }
def cell? (v : Option Value) : Obj := { cls := .type "cell", dict := none, data := .cell v, slots := #[] }
def dctE (x : EF) : Obj := dictO #[entE (x.h 10) sAddress (x.k 10) (.int 10 (x.k 20)), entE (x.h 11) sPort (x.k 11) (.int 80 (x.k 21)), entE (x.h 12) sMost (x.k 12) (.int 3 (x.k 22)), entE (x.h 13) sOpening (x.k 13) (.ref x.lo), entE (x.h 14) sReady (x.k 14) (.ref x.lr)] x.epd
def lsnO (ad : Nat) : Obj := { cls := .ref 1410, dict := some ad, data := .plain, slots := #[] }
def rngO (v left : Int) : Obj := { cls := .type "range_iterator", dict := none, data := .fields #[.int v 0, .int left 0, .int 1 0], slots := #[] }
def olE (x : EF) (src fr cl : Obj) (l1 l2 : Obj) (op : Nat) (o1 : Obj) (re : Nat) (o2 : Obj) (rg : Obj) : OL :=
 [(x.la, src), (x.f, fr), (x.ac, cl), (x.ad, dctE x), (x.aL, lsnO x.ad), (x.lo, l1), (x.lr, l2), (op, o1), (re, o2), (x.it, rg)]
def jE : List Nat := (z63 ++ dec [0x1010c000300])
def jE_0 : List Nat := (z29 ++ (dec [0x10f0a0f00050f0f0f0f030b0a0b00050b0b0b0b0700090979097a0903001d041d001d1d110f100f000f110f03030502] ++ z25))
def jE_1 : List Nat := (z13 ++ (dec [0x10b1c0b001f0b0b0b0b1f02] ++ (z55 ++ (dec [0x100] ++ z51))))
def jE_2 : List Nat := (z13 ++ (dec [0x100] ++ (z55 ++ (dec [0x10d1c0d001f0d0d0d0d1f02] ++ z51))))
def jE_3 : List Nat := (z26 ++ dec [0x1121f201f000f000f0f03020f040f000f0f03050d0a0d001d0d0d0d0d0700090979097a091d0b1c0b001d0b0b0b0b0700090979097a091d02])
def jE_4 : List Nat := (z26 ++ (dec [0x1000f040f000f0f030500] ++ z25))
def jE_5 : List Nat := (z29 ++ (dec [0x121001f001f1f0700090979097a091d0700090979097a091d02001d1d1d1d7a0507097a0979097909030058000300] ++ (z141 ++ (dec [0x10b1c0b001d0b0b0b0b1d020b040b000b0b] ++ (z141 ++ (dec [0x10d040d000d0d] ++ z50))))))
def jE_6 : List Nat := (z12 ++ dec [0x112272027000f000f0f03002521211f212100210021020d1c0d001d0d0d0d0d1d02])
def jE_7 : List Nat := (z12 ++ z50)
def jE_8 : List Nat := dec [0x1122f202f0011001111032d0303]
def jE_9 : List Nat := dec [0x1122f202f0011001111032d2d2d0303]
def jE_10 : List Nat := z23
def jE_11 : List Nat := z21
def jE_12 : List Nat := z23
def jE_13 : List Nat := z21
def jE_14 : List Nat := dec [0x1122d202d0011001111032b0303]
def jE_15 : List Nat := dec [0x1122d202d0011001111032b2b2b0303]
def jE_16 : List Nat := z24
def jE_17 : List Nat := z22
def jE_18 : List Nat := z24
def jE_19 : List Nat := z22
def jE_20 : List Nat := (dec [0x10303] ++ z18)
def jE_21 : List Nat := (dec [0x123230303] ++ z18)
def brE : Nat → List Nat := nthL [jE_0 ++ [1, 3, 5, 7, 9, 11, 13, 15, 17, 19], jE_1 ++ [15, 41, 43, 5, 45, 8], jE_2 ++ [15, 41, 43, 5, 45, 8], jE_3 ++ [15, 31, 33, 5, 35, 20], jE_4 ++ [1, 3, 5, 7, 9, 11, 13, 15, 17, 19], jE_5 ++ [15, 39, 41, 5, 43, 14], jE_6 ++ [15, 39, 41, 5, 43, 14], jE_7 ++ [15, 39, 41, 5, 43, 14], jE_8 ++ [17, 47, 49, 5, 51, 10], jE_9 ++ [17, 47, 49, 5, 51, 12], jE_10 ++ [1, 3, 5, 7, 9, 11, 13, 43, 49, 19], jE_11 ++ [1, 3, 5, 7, 9, 11, 13, 43, 49, 19], jE_12 ++ [1, 3, 5, 7, 9, 11, 13, 43, 49, 19], jE_13 ++ [1, 3, 5, 7, 9, 11, 13, 43, 49, 19], jE_14 ++ [17, 45, 47, 5, 49, 16], jE_15 ++ [17, 45, 47, 5, 49, 18], jE_16 ++ [1, 3, 5, 7, 9, 11, 13, 41, 47, 19], jE_17 ++ [1, 3, 5, 7, 9, 11, 13, 41, 47, 19], jE_18 ++ [1, 3, 5, 7, 9, 11, 13, 41, 47, 19], jE_19 ++ [1, 3, 5, 7, 9, 11, 13, 41, 47, 19], jE_20 ++ [1, 3, 5, 7, 9, 11, 13, 33, 39, 19], jE_21 ++ [1, 3, 5, 7, 9, 11, 13, 33, 39, 19]]
def pickB (i : Nat) (l : List (Nat × Nat)) : Nat := List.rec (motive := fun _ => Nat) 0 (fun x _ ih => Bool.rec ih (x.2 + (i - x.1)) (Nat.ble x.1 i)) l
def AE (x : EF) (op re : Nat) (l : List (Nat × Nat)) (i : Nat) : Nat := match i with
 | 0 => x.la
 | 1 => x.f
 | 2 => x.ac
 | 3 => x.ad
 | 4 => x.aL
 | 5 => x.lo
 | 6 => x.lr
 | 7 => op
 | 8 => re
 | 9 => x.it
 | _ => pickB i l
abbrev lenI (a : Array Value) : Int := ((a.size : Nat) : Int)
abbrev numV (r2 : Int) (t2 : Nat) : Value := .int (1 + r2) (t2 + 1)
abbrev frI (b : Bool) (x : EF) (op re : Nat) (h4 : Int) (k4 : Nat) (h5 : Int) (k5 : Nat) (vt vw : Value) : Obj := Bool.rec (frmO (frE4 x op re) x.epf) (frmO (frE4 x op re ++ frE2 h4 k4 h5 k5 vt vw) x.epf) b
abbrev frF (w : World) (b : Bool) (x : EF) (op re : Nat) (h4 : Int) (k4 : Nat) (h5 : Int) (k5 : Nat) (t0 t2 : Nat) (vt vw : Value) : Obj := Bool.rec (frmO (frE4 x op re ++ frE2 (hashS w sTurn) (t0 + 2) (hashS w sWay) (t2 + 2) vt vw) (x.epf + 2)) (frmO (frE4 x op re ++ frE2 h4 k4 h5 k5 vt vw) x.epf) b
abbrev clI (b : Bool) (v : Value) : Obj := Bool.rec (cell? none) (cell? (some v)) b
section
variable (w : World) (N t0 op re e1 e2 e3 e4 nu : Nat) (n v : Int) (left : Nat) (s0 : Int) (u0 : Nat) (s1 : Int) (u1 : Nat) (h4 h5 : Int) (k4 k5 : Nat) (vt vw : Value) (xs ys : Array Value) (h : Heap) (d : Drawn) (os : OsState) (X : Nat → Option Obj) (x : EF) (z : SP) (p : Pos) (v1 v2 v3 : Array Value) (I : IT) (KV : KVT) (P : OL → Code → Prop) (Post : Nat → OL → YN → Prop)
abbrev F10 : FT := fun r l' N' t' ch' => okAcc [] ∧ True ∧ KV r (viewT 10 (listT l').get) (N' + 1723) 0 (t' + 1) 0 ch'
abbrev simE (b1 b2 b : Bool) (js : List Nat) (left : Int) : Prop := simG (VX (wF w b1 b2) h d os X) (HH2 (hkOf [hkTakeA, hkTakeX 8 brE, hkB ⟨5, 2, YN, P, resNe, outNe, Post⟩ brE, hkT 10 I])) (KFv 10 KV) 1200 (ΓE w.params x.f x.ac x.it z) p .base (denF (codeE w.params x.f x.ac x.it)) (listT (olE x (srcE s0 u0 s1 u1 0) (frI b x op re h4 k4 h5 k5 vt vw) (clI b (.int n nu)) (lstE xs e1) (lstE ys e2) op (lstE xs e3) re (lstE ys e4) (rngO v left))) 10 (N + 1723) 0 (t0 + 1) 0 (chL v1 v2 v3) js [] True
abbrev pE_0 (b : Bool) (r1 : Int) (uw : Nat) (r2 : Int) (N2 t2 : Nat) (sb0 : Int) (ub0 : Nat) (sb1 : Int) (ub1 : Nat) : Prop := okAcc (accL (AE x op re [(10, N2 + 1723)]) jE_0 []) ∧ ((chkEq (xs.push (numV r2 t2)) (xs.push (numV r2 t2)) true = true ∧ chkEq ys ys true = true ∧ lenI (xs.push (numV r2 t2)) + lenI ys = lenI (xs.push (numV r2 t2)) + lenI ys) ∧ (chkLe (ys.size) = true ∧ (chkLe ((xs.push (numV r2 t2)).size) = true ∧ (chkLe (ys.size) = true ∧ (chkLe ((xs.push (numV r2 t2)).size) = true ∧ (chkLe (xs.size) = true ∧ (chkLe (xs.size) = true ∧ (chkIn (xs ++ ys) (numV r2 t2) false = true ∧ (chkLe (xs.size + ys.size) = true ∧ (decide (r1 < 2) = true ∧ True)))))))))) ∧ I (olE x (srcE sb0 ub0 sb1 ub1 0) (frF w b x op re h4 k4 h5 k5 t0 t2 (.int v (t0 + 1)) (.int r1 uw)) (cell? (some (numV r2 t2))) (pushO (numV r2 t2) (lstE xs e1)) (lstE ys e2) op (pushO (numV r2 t2) (lstE xs e3)) re (lstE ys e4) (rngO (v + 1) (Int.ofNat (left + 1) - 1))) (ΓE w.params x.f x.ac x.it z) (chL v1 v2 v3) (F10 KV)
abbrev pE_1 (b : Bool) (r1 : Int) (uw : Nat) (r2 : Int) (N2 t2 : Nat) (sb0 : Int) (ub0 : Nat) (sb1 : Int) (ub1 : Nat) : Prop := ∀ _ : Pos, (okAcc (accL (AE x op re [(10, N2 + 1723)]) jE_1 []) ∧ (chkIn ys (numV r2 t2) false = true ∧ (chkThere xs (numV r2 t2) = true ∧ (chkIn xs (numV r2 t2) true = true ∧ ((r1 == 2) = false ∧ (chkIn (xs ++ ys) (numV r2 t2) true = true ∧ (chkLe (xs.size + ys.size) = true ∧ (decide (r1 < 2) = true ∧ True))))))) ∧ (P [(op, (lstE xs e3)), ((N2 + 1723 + 10), iterO op 0), ((N2 + 1723 + 11), lstE #[] 0), (x.ac, cell? (some (numV r2 t2))), ((N2 + 1723 + 12), dictO #[] 0)] (cE' w.params 1 x.f (N2 + 1723 + 10) (N2 + 1723 + 11) (N2 + 1723 + 12) x.ac) ∧ ((True ∧ (∀ (y1 : YN) (N3 t3 : Nat), Post 0 [(op, (lstE xs e3)), ((N2 + 1723 + 10), iterO op 0), ((N2 + 1723 + 11), lstE #[] 0), (x.ac, cell? (some (numV r2 t2))), ((N2 + 1723 + 12), dictO #[] 0)] y1 → (∀ _ : Pos, (okAcc (accL (AE x op re [(23, N3 + 1723), (10, N2 + 1723)]) jE_8 []) ∧ (True) ∧ (P [(re, (lstE ys e4)), ((N3 + 1723 + 0), iterO re 0), ((N3 + 1723 + 1), lstE #[] 0), (x.ac, cell? (some (numV r2 t2))), ((N3 + 1723 + 2), dictO #[] 0)] (cE' w.params 2 x.f (N3 + 1723 + 0) (N3 + 1723 + 1) (N3 + 1723 + 2) x.ac) ∧ ((True ∧ (∀ (y2 : YN) (N4 t4 : Nat), Post 0 [(re, (lstE ys e4)), ((N3 + 1723 + 0), iterO re 0), ((N3 + 1723 + 1), lstE #[] 0), (x.ac, cell? (some (numV r2 t2))), ((N3 + 1723 + 2), dictO #[] 0)] y2 → (okAcc (accL (AE x op re [(26, N4 + 1723), (23, N3 + 1723), (10, N2 + 1723)]) jE_10 []) ∧ ((chkEq (xs.eraseIdxIfInBounds (idxV (numV r2 t2) xs.toList)) (⟨y1.L⟩ : Array Value) true = true ∧ chkEq ys (⟨y2.L⟩ : Array Value) true = true ∧ lenI (xs.eraseIdxIfInBounds (idxV (numV r2 t2) xs.toList)) + lenI ys = lenI (⟨y1.L⟩ : Array Value) + lenI (⟨y2.L⟩ : Array Value)) ∧ (chkLe ((⟨y2.L⟩ : Array Value).size) = true ∧ (chkLe ((⟨y1.L⟩ : Array Value).size) = true ∧ (chkLe (ys.size) = true ∧ (chkLe ((xs.eraseIdxIfInBounds (idxV (numV r2 t2) xs.toList)).size) = true ∧ True))))) ∧ I (olE x (srcE sb0 ub0 sb1 ub1 0) (frF w b x (N2 + 1723 + 11) (N3 + 1723 + 1) h4 k4 h5 k5 t0 t2 (.int v (t0 + 1)) (.int r1 uw)) (cell? (some (numV r2 t2))) (eraseO (idxV (numV r2 t2) xs.toList) (lstE xs e1)) (lstE ys e2) (N2 + 1723 + 11) (lstE ⟨y1.L⟩ y1.ep2) (N3 + 1723 + 1) (lstE ⟨y2.L⟩ y2.ep2) (rngO (v + 1) (Int.ofNat (left + 1) - 1))) (ΓE w.params x.f x.ac x.it z) (chL v1 v2 v3) (F10 KV)))) ∧ (∀ (y2 : YN) (N4 t4 : Nat), Post 1 [(re, (lstE ys e4)), ((N3 + 1723 + 0), iterO re 0), ((N3 + 1723 + 1), lstE #[] 0), (x.ac, cell? (some (numV r2 t2))), ((N3 + 1723 + 2), dictO #[] 0)] y2 → (okAcc (accL (AE x op re [(26, N4 + 1723), (23, N3 + 1723), (10, N2 + 1723)]) jE_11 []) ∧ ((chkEq (xs.eraseIdxIfInBounds (idxV (numV r2 t2) xs.toList)) (⟨y1.L⟩ : Array Value) true = true ∧ chkEq ys (⟨y2.L⟩ : Array Value) true = true ∧ lenI (xs.eraseIdxIfInBounds (idxV (numV r2 t2) xs.toList)) + lenI ys = lenI (⟨y1.L⟩ : Array Value) + lenI (⟨y2.L⟩ : Array Value)) ∧ (chkLe ((⟨y2.L⟩ : Array Value).size) = true ∧ (chkLe ((⟨y1.L⟩ : Array Value).size) = true ∧ (chkLe (ys.size) = true ∧ (chkLe ((xs.eraseIdxIfInBounds (idxV (numV r2 t2) xs.toList)).size) = true ∧ True))))) ∧ I (olE x (srcE sb0 ub0 sb1 ub1 0) (frF w b x (N2 + 1723 + 11) (N3 + 1723 + 1) h4 k4 h5 k5 t0 t2 (.int v (t0 + 1)) (.int r1 uw)) (cell? (some (numV r2 t2))) (eraseO (idxV (numV r2 t2) xs.toList) (lstE xs e1)) (lstE ys e2) (N2 + 1723 + 11) (lstE ⟨y1.L⟩ y1.ep2) (N3 + 1723 + 1) (lstE ⟨y2.L⟩ y2.ep2) (rngO (v + 1) (Int.ofNat (left + 1) - 1))) (ΓE w.params x.f x.ac x.it z) (chL v1 v2 v3) (F10 KV))))))))) ∧ (∀ (y1 : YN) (N3 t3 : Nat), Post 1 [(op, (lstE xs e3)), ((N2 + 1723 + 10), iterO op 0), ((N2 + 1723 + 11), lstE #[] 0), (x.ac, cell? (some (numV r2 t2))), ((N2 + 1723 + 12), dictO #[] 0)] y1 → (∀ _ : Pos, (okAcc (accL (AE x op re [(23, N3 + 1723), (10, N2 + 1723)]) jE_9 []) ∧ (True) ∧ (P [(re, (lstE ys e4)), ((N3 + 1723 + 0), iterO re 0), ((N3 + 1723 + 1), lstE #[] 0), (x.ac, cell? (some (numV r2 t2))), ((N3 + 1723 + 2), dictO #[] 0)] (cE' w.params 2 x.f (N3 + 1723 + 0) (N3 + 1723 + 1) (N3 + 1723 + 2) x.ac) ∧ ((True ∧ (∀ (y2 : YN) (N4 t4 : Nat), Post 0 [(re, (lstE ys e4)), ((N3 + 1723 + 0), iterO re 0), ((N3 + 1723 + 1), lstE #[] 0), (x.ac, cell? (some (numV r2 t2))), ((N3 + 1723 + 2), dictO #[] 0)] y2 → (okAcc (accL (AE x op re [(26, N4 + 1723), (23, N3 + 1723), (10, N2 + 1723)]) jE_12 []) ∧ ((chkEq (xs.eraseIdxIfInBounds (idxV (numV r2 t2) xs.toList)) (⟨y1.L⟩ : Array Value) true = true ∧ chkEq ys (⟨y2.L⟩ : Array Value) true = true ∧ lenI (xs.eraseIdxIfInBounds (idxV (numV r2 t2) xs.toList)) + lenI ys = lenI (⟨y1.L⟩ : Array Value) + lenI (⟨y2.L⟩ : Array Value)) ∧ (chkLe ((⟨y2.L⟩ : Array Value).size) = true ∧ (chkLe ((⟨y1.L⟩ : Array Value).size) = true ∧ (chkLe (ys.size) = true ∧ (chkLe ((xs.eraseIdxIfInBounds (idxV (numV r2 t2) xs.toList)).size) = true ∧ True))))) ∧ I (olE x (srcE sb0 ub0 sb1 ub1 0) (frF w b x (N2 + 1723 + 11) (N3 + 1723 + 1) h4 k4 h5 k5 t0 t2 (.int v (t0 + 1)) (.int r1 uw)) (cell? (some (numV r2 t2))) (eraseO (idxV (numV r2 t2) xs.toList) (lstE xs e1)) (lstE ys e2) (N2 + 1723 + 11) (lstE ⟨y1.L⟩ y1.ep2) (N3 + 1723 + 1) (lstE ⟨y2.L⟩ y2.ep2) (rngO (v + 1) (Int.ofNat (left + 1) - 1))) (ΓE w.params x.f x.ac x.it z) (chL v1 v2 v3) (F10 KV)))) ∧ (∀ (y2 : YN) (N4 t4 : Nat), Post 1 [(re, (lstE ys e4)), ((N3 + 1723 + 0), iterO re 0), ((N3 + 1723 + 1), lstE #[] 0), (x.ac, cell? (some (numV r2 t2))), ((N3 + 1723 + 2), dictO #[] 0)] y2 → (okAcc (accL (AE x op re [(26, N4 + 1723), (23, N3 + 1723), (10, N2 + 1723)]) jE_13 []) ∧ ((chkEq (xs.eraseIdxIfInBounds (idxV (numV r2 t2) xs.toList)) (⟨y1.L⟩ : Array Value) true = true ∧ chkEq ys (⟨y2.L⟩ : Array Value) true = true ∧ lenI (xs.eraseIdxIfInBounds (idxV (numV r2 t2) xs.toList)) + lenI ys = lenI (⟨y1.L⟩ : Array Value) + lenI (⟨y2.L⟩ : Array Value)) ∧ (chkLe ((⟨y2.L⟩ : Array Value).size) = true ∧ (chkLe ((⟨y1.L⟩ : Array Value).size) = true ∧ (chkLe (ys.size) = true ∧ (chkLe ((xs.eraseIdxIfInBounds (idxV (numV r2 t2) xs.toList)).size) = true ∧ True))))) ∧ I (olE x (srcE sb0 ub0 sb1 ub1 0) (frF w b x (N2 + 1723 + 11) (N3 + 1723 + 1) h4 k4 h5 k5 t0 t2 (.int v (t0 + 1)) (.int r1 uw)) (cell? (some (numV r2 t2))) (eraseO (idxV (numV r2 t2) xs.toList) (lstE xs e1)) (lstE ys e2) (N2 + 1723 + 11) (lstE ⟨y1.L⟩ y1.ep2) (N3 + 1723 + 1) (lstE ⟨y2.L⟩ y2.ep2) (rngO (v + 1) (Int.ofNat (left + 1) - 1))) (ΓE w.params x.f x.ac x.it z) (chL v1 v2 v3) (F10 KV)))))))))))
abbrev pE_2 (b : Bool) (r1 : Int) (uw : Nat) (r2 : Int) (N2 t2 : Nat) (sb0 : Int) (ub0 : Nat) (sb1 : Int) (ub1 : Nat) : Prop := ∀ _ : Pos, (okAcc (accL (AE x op re [(10, N2 + 1723)]) jE_2 []) ∧ (chkThere ys (numV r2 t2) = true ∧ (chkIn ys (numV r2 t2) true = true ∧ (chkIn xs (numV r2 t2) false = true ∧ ((r1 == 2) = false ∧ (chkIn (xs ++ ys) (numV r2 t2) true = true ∧ (chkLe (xs.size + ys.size) = true ∧ (decide (r1 < 2) = true ∧ True))))))) ∧ (P [(op, (lstE xs e3)), ((N2 + 1723 + 10), iterO op 0), ((N2 + 1723 + 11), lstE #[] 0), (x.ac, cell? (some (numV r2 t2))), ((N2 + 1723 + 12), dictO #[] 0)] (cE' w.params 1 x.f (N2 + 1723 + 10) (N2 + 1723 + 11) (N2 + 1723 + 12) x.ac) ∧ ((True ∧ (∀ (y1 : YN) (N3 t3 : Nat), Post 0 [(op, (lstE xs e3)), ((N2 + 1723 + 10), iterO op 0), ((N2 + 1723 + 11), lstE #[] 0), (x.ac, cell? (some (numV r2 t2))), ((N2 + 1723 + 12), dictO #[] 0)] y1 → (∀ _ : Pos, (okAcc (accL (AE x op re [(23, N3 + 1723), (10, N2 + 1723)]) jE_8 []) ∧ (True) ∧ (P [(re, (lstE ys e4)), ((N3 + 1723 + 0), iterO re 0), ((N3 + 1723 + 1), lstE #[] 0), (x.ac, cell? (some (numV r2 t2))), ((N3 + 1723 + 2), dictO #[] 0)] (cE' w.params 2 x.f (N3 + 1723 + 0) (N3 + 1723 + 1) (N3 + 1723 + 2) x.ac) ∧ ((True ∧ (∀ (y2 : YN) (N4 t4 : Nat), Post 0 [(re, (lstE ys e4)), ((N3 + 1723 + 0), iterO re 0), ((N3 + 1723 + 1), lstE #[] 0), (x.ac, cell? (some (numV r2 t2))), ((N3 + 1723 + 2), dictO #[] 0)] y2 → (okAcc (accL (AE x op re [(26, N4 + 1723), (23, N3 + 1723), (10, N2 + 1723)]) jE_10 []) ∧ ((chkEq xs (⟨y1.L⟩ : Array Value) true = true ∧ chkEq (ys.eraseIdxIfInBounds (idxV (numV r2 t2) ys.toList)) (⟨y2.L⟩ : Array Value) true = true ∧ lenI xs + lenI (ys.eraseIdxIfInBounds (idxV (numV r2 t2) ys.toList)) = lenI (⟨y1.L⟩ : Array Value) + lenI (⟨y2.L⟩ : Array Value)) ∧ (chkLe ((⟨y2.L⟩ : Array Value).size) = true ∧ (chkLe ((⟨y1.L⟩ : Array Value).size) = true ∧ (chkLe ((ys.eraseIdxIfInBounds (idxV (numV r2 t2) ys.toList)).size) = true ∧ (chkLe (xs.size) = true ∧ True))))) ∧ I (olE x (srcE sb0 ub0 sb1 ub1 0) (frF w b x (N2 + 1723 + 11) (N3 + 1723 + 1) h4 k4 h5 k5 t0 t2 (.int v (t0 + 1)) (.int r1 uw)) (cell? (some (numV r2 t2))) (lstE xs e1) (eraseO (idxV (numV r2 t2) ys.toList) (lstE ys e2)) (N2 + 1723 + 11) (lstE ⟨y1.L⟩ y1.ep2) (N3 + 1723 + 1) (lstE ⟨y2.L⟩ y2.ep2) (rngO (v + 1) (Int.ofNat (left + 1) - 1))) (ΓE w.params x.f x.ac x.it z) (chL v1 v2 v3) (F10 KV)))) ∧ (∀ (y2 : YN) (N4 t4 : Nat), Post 1 [(re, (lstE ys e4)), ((N3 + 1723 + 0), iterO re 0), ((N3 + 1723 + 1), lstE #[] 0), (x.ac, cell? (some (numV r2 t2))), ((N3 + 1723 + 2), dictO #[] 0)] y2 → (okAcc (accL (AE x op re [(26, N4 + 1723), (23, N3 + 1723), (10, N2 + 1723)]) jE_11 []) ∧ ((chkEq xs (⟨y1.L⟩ : Array Value) true = true ∧ chkEq (ys.eraseIdxIfInBounds (idxV (numV r2 t2) ys.toList)) (⟨y2.L⟩ : Array Value) true = true ∧ lenI xs + lenI (ys.eraseIdxIfInBounds (idxV (numV r2 t2) ys.toList)) = lenI (⟨y1.L⟩ : Array Value) + lenI (⟨y2.L⟩ : Array Value)) ∧ (chkLe ((⟨y2.L⟩ : Array Value).size) = true ∧ (chkLe ((⟨y1.L⟩ : Array Value).size) = true ∧ (chkLe ((ys.eraseIdxIfInBounds (idxV (numV r2 t2) ys.toList)).size) = true ∧ (chkLe (xs.size) = true ∧ True))))) ∧ I (olE x (srcE sb0 ub0 sb1 ub1 0) (frF w b x (N2 + 1723 + 11) (N3 + 1723 + 1) h4 k4 h5 k5 t0 t2 (.int v (t0 + 1)) (.int r1 uw)) (cell? (some (numV r2 t2))) (lstE xs e1) (eraseO (idxV (numV r2 t2) ys.toList) (lstE ys e2)) (N2 + 1723 + 11) (lstE ⟨y1.L⟩ y1.ep2) (N3 + 1723 + 1) (lstE ⟨y2.L⟩ y2.ep2) (rngO (v + 1) (Int.ofNat (left + 1) - 1))) (ΓE w.params x.f x.ac x.it z) (chL v1 v2 v3) (F10 KV))))))))) ∧ (∀ (y1 : YN) (N3 t3 : Nat), Post 1 [(op, (lstE xs e3)), ((N2 + 1723 + 10), iterO op 0), ((N2 + 1723 + 11), lstE #[] 0), (x.ac, cell? (some (numV r2 t2))), ((N2 + 1723 + 12), dictO #[] 0)] y1 → (∀ _ : Pos, (okAcc (accL (AE x op re [(23, N3 + 1723), (10, N2 + 1723)]) jE_9 []) ∧ (True) ∧ (P [(re, (lstE ys e4)), ((N3 + 1723 + 0), iterO re 0), ((N3 + 1723 + 1), lstE #[] 0), (x.ac, cell? (some (numV r2 t2))), ((N3 + 1723 + 2), dictO #[] 0)] (cE' w.params 2 x.f (N3 + 1723 + 0) (N3 + 1723 + 1) (N3 + 1723 + 2) x.ac) ∧ ((True ∧ (∀ (y2 : YN) (N4 t4 : Nat), Post 0 [(re, (lstE ys e4)), ((N3 + 1723 + 0), iterO re 0), ((N3 + 1723 + 1), lstE #[] 0), (x.ac, cell? (some (numV r2 t2))), ((N3 + 1723 + 2), dictO #[] 0)] y2 → (okAcc (accL (AE x op re [(26, N4 + 1723), (23, N3 + 1723), (10, N2 + 1723)]) jE_12 []) ∧ ((chkEq xs (⟨y1.L⟩ : Array Value) true = true ∧ chkEq (ys.eraseIdxIfInBounds (idxV (numV r2 t2) ys.toList)) (⟨y2.L⟩ : Array Value) true = true ∧ lenI xs + lenI (ys.eraseIdxIfInBounds (idxV (numV r2 t2) ys.toList)) = lenI (⟨y1.L⟩ : Array Value) + lenI (⟨y2.L⟩ : Array Value)) ∧ (chkLe ((⟨y2.L⟩ : Array Value).size) = true ∧ (chkLe ((⟨y1.L⟩ : Array Value).size) = true ∧ (chkLe ((ys.eraseIdxIfInBounds (idxV (numV r2 t2) ys.toList)).size) = true ∧ (chkLe (xs.size) = true ∧ True))))) ∧ I (olE x (srcE sb0 ub0 sb1 ub1 0) (frF w b x (N2 + 1723 + 11) (N3 + 1723 + 1) h4 k4 h5 k5 t0 t2 (.int v (t0 + 1)) (.int r1 uw)) (cell? (some (numV r2 t2))) (lstE xs e1) (eraseO (idxV (numV r2 t2) ys.toList) (lstE ys e2)) (N2 + 1723 + 11) (lstE ⟨y1.L⟩ y1.ep2) (N3 + 1723 + 1) (lstE ⟨y2.L⟩ y2.ep2) (rngO (v + 1) (Int.ofNat (left + 1) - 1))) (ΓE w.params x.f x.ac x.it z) (chL v1 v2 v3) (F10 KV)))) ∧ (∀ (y2 : YN) (N4 t4 : Nat), Post 1 [(re, (lstE ys e4)), ((N3 + 1723 + 0), iterO re 0), ((N3 + 1723 + 1), lstE #[] 0), (x.ac, cell? (some (numV r2 t2))), ((N3 + 1723 + 2), dictO #[] 0)] y2 → (okAcc (accL (AE x op re [(26, N4 + 1723), (23, N3 + 1723), (10, N2 + 1723)]) jE_13 []) ∧ ((chkEq xs (⟨y1.L⟩ : Array Value) true = true ∧ chkEq (ys.eraseIdxIfInBounds (idxV (numV r2 t2) ys.toList)) (⟨y2.L⟩ : Array Value) true = true ∧ lenI xs + lenI (ys.eraseIdxIfInBounds (idxV (numV r2 t2) ys.toList)) = lenI (⟨y1.L⟩ : Array Value) + lenI (⟨y2.L⟩ : Array Value)) ∧ (chkLe ((⟨y2.L⟩ : Array Value).size) = true ∧ (chkLe ((⟨y1.L⟩ : Array Value).size) = true ∧ (chkLe ((ys.eraseIdxIfInBounds (idxV (numV r2 t2) ys.toList)).size) = true ∧ (chkLe (xs.size) = true ∧ True))))) ∧ I (olE x (srcE sb0 ub0 sb1 ub1 0) (frF w b x (N2 + 1723 + 11) (N3 + 1723 + 1) h4 k4 h5 k5 t0 t2 (.int v (t0 + 1)) (.int r1 uw)) (cell? (some (numV r2 t2))) (lstE xs e1) (eraseO (idxV (numV r2 t2) ys.toList) (lstE ys e2)) (N2 + 1723 + 11) (lstE ⟨y1.L⟩ y1.ep2) (N3 + 1723 + 1) (lstE ⟨y2.L⟩ y2.ep2) (rngO (v + 1) (Int.ofNat (left + 1) - 1))) (ΓE w.params x.f x.ac x.it z) (chL v1 v2 v3) (F10 KV)))))))))))
abbrev pE_3 (b : Bool) (r1 : Int) (uw : Nat) (r2 : Int) (N2 t2 : Nat) (sb0 : Int) (ub0 : Nat) (sb1 : Int) (ub1 : Nat) : Prop := ∀ _ : Pos, (okAcc (accL (AE x op re [(10, N2 + 1723)]) jE_3 []) ∧ (chkIn xs (numV r2 t2) true = true ∧ (chkLe (ys.size) = true ∧ (chkThere xs (numV r2 t2) = true ∧ (chkIn xs (numV r2 t2) true = true ∧ ((r1 == 2) = true ∧ (decide (r1 < 2) = false ∧ True)))))) ∧ (P [(op, (lstE xs e3)), ((N2 + 1723 + 5), iterO op 0), ((N2 + 1723 + 6), lstE #[] 0), (x.ac, cell? (some (numV r2 t2))), ((N2 + 1723 + 7), dictO #[] 0)] (cE' w.params 0 x.f (N2 + 1723 + 5) (N2 + 1723 + 6) (N2 + 1723 + 7) x.ac) ∧ ((True ∧ (∀ (y1 : YN) (N3 t3 : Nat), Post 0 [(op, (lstE xs e3)), ((N2 + 1723 + 5), iterO op 0), ((N2 + 1723 + 6), lstE #[] 0), (x.ac, cell? (some (numV r2 t2))), ((N2 + 1723 + 7), dictO #[] 0)] y1 → (okAcc (accL (AE x op re [(18, N3 + 1723), (10, N2 + 1723)]) jE_20 []) ∧ ((chkEq (xs.eraseIdxIfInBounds (idxV (numV r2 t2) xs.toList)) (⟨y1.L⟩ : Array Value) true = true ∧ chkEq (ys.push (numV r2 t2)) (ys ++ #[(numV r2 t2)]) true = true ∧ lenI (xs.eraseIdxIfInBounds (idxV (numV r2 t2) xs.toList)) + lenI (ys.push (numV r2 t2)) = lenI (⟨y1.L⟩ : Array Value) + lenI (ys ++ #[(numV r2 t2)])) ∧ (chkLe ((ys ++ #[(numV r2 t2)]).size) = true ∧ (chkLe ((⟨y1.L⟩ : Array Value).size) = true ∧ (chkLe ((ys.push (numV r2 t2)).size) = true ∧ (chkLe ((xs.eraseIdxIfInBounds (idxV (numV r2 t2) xs.toList)).size) = true ∧ (chkLe (ys.size + (#[(numV r2 t2)] : Array Value).size) = true ∧ True)))))) ∧ I (olE x (srcE sb0 ub0 sb1 ub1 0) (frF w b x (N2 + 1723 + 6) (N3 + 1723 + 1) h4 k4 h5 k5 t0 t2 (.int v (t0 + 1)) (.int r1 uw)) (cell? (some (numV r2 t2))) (eraseO (idxV (numV r2 t2) xs.toList) (lstE xs e1)) (pushO (numV r2 t2) (lstE ys e2)) (N2 + 1723 + 6) (lstE ⟨y1.L⟩ y1.ep2) (N3 + 1723 + 1) (listO (ys ++ #[(numV r2 t2)])) (rngO (v + 1) (Int.ofNat (left + 1) - 1))) (ΓE w.params x.f x.ac x.it z) (chL v1 v2 v3) (F10 KV)))) ∧ (∀ (y1 : YN) (N3 t3 : Nat), Post 1 [(op, (lstE xs e3)), ((N2 + 1723 + 5), iterO op 0), ((N2 + 1723 + 6), lstE #[] 0), (x.ac, cell? (some (numV r2 t2))), ((N2 + 1723 + 7), dictO #[] 0)] y1 → (okAcc (accL (AE x op re [(18, N3 + 1723), (10, N2 + 1723)]) jE_21 []) ∧ ((chkEq (xs.eraseIdxIfInBounds (idxV (numV r2 t2) xs.toList)) (⟨y1.L⟩ : Array Value) true = true ∧ chkEq (ys.push (numV r2 t2)) (ys ++ #[(numV r2 t2)]) true = true ∧ lenI (xs.eraseIdxIfInBounds (idxV (numV r2 t2) xs.toList)) + lenI (ys.push (numV r2 t2)) = lenI (⟨y1.L⟩ : Array Value) + lenI (ys ++ #[(numV r2 t2)])) ∧ (chkLe ((ys ++ #[(numV r2 t2)]).size) = true ∧ (chkLe ((⟨y1.L⟩ : Array Value).size) = true ∧ (chkLe ((ys.push (numV r2 t2)).size) = true ∧ (chkLe ((xs.eraseIdxIfInBounds (idxV (numV r2 t2) xs.toList)).size) = true ∧ (chkLe (ys.size + (#[(numV r2 t2)] : Array Value).size) = true ∧ True)))))) ∧ I (olE x (srcE sb0 ub0 sb1 ub1 0) (frF w b x (N2 + 1723 + 6) (N3 + 1723 + 1) h4 k4 h5 k5 t0 t2 (.int v (t0 + 1)) (.int r1 uw)) (cell? (some (numV r2 t2))) (eraseO (idxV (numV r2 t2) xs.toList) (lstE xs e1)) (pushO (numV r2 t2) (lstE ys e2)) (N2 + 1723 + 6) (lstE ⟨y1.L⟩ y1.ep2) (N3 + 1723 + 1) (listO (ys ++ #[(numV r2 t2)])) (rngO (v + 1) (Int.ofNat (left + 1) - 1))) (ΓE w.params x.f x.ac x.it z) (chL v1 v2 v3) (F10 KV))))))
abbrev pE_4 (b : Bool) (r1 : Int) (uw : Nat) (r2 : Int) (N2 t2 : Nat) (sb0 : Int) (ub0 : Nat) (sb1 : Int) (ub1 : Nat) : Prop := okAcc (accL (AE x op re [(10, N2 + 1723)]) jE_4 []) ∧ ((chkEq xs xs true = true ∧ chkEq ys ys true = true ∧ lenI xs + lenI ys = lenI xs + lenI ys) ∧ (chkLe (ys.size) = true ∧ (chkLe (xs.size) = true ∧ (chkLe (ys.size) = true ∧ (chkLe (xs.size) = true ∧ (chkIn xs (numV r2 t2) false = true ∧ (chkIn xs (numV r2 t2) false = true ∧ ((r1 == 2) = true ∧ (decide (r1 < 2) = false ∧ True))))))))) ∧ I (olE x (srcE sb0 ub0 sb1 ub1 0) (frF w b x op re h4 k4 h5 k5 t0 t2 (.int v (t0 + 1)) (.int r1 uw)) (cell? (some (numV r2 t2))) (lstE xs e1) (lstE ys e2) op (lstE xs e3) re (lstE ys e4) (rngO (v + 1) (Int.ofNat (left + 1) - 1))) (ΓE w.params x.f x.ac x.it z) (chL v1 v2 v3) (F10 KV)
abbrev pE_5 (b : Bool) (r1 : Int) (uw : Nat) (r2 : Int) (N2 t2 : Nat) (sb0 : Int) (ub0 : Nat) (sb1 : Int) (ub1 : Nat) : Prop := ∀ _ : Pos, (okAcc (accL (AE x op re [(10, N2 + 1723)]) jE_5 []) ∧ (chkIn ys (numV r2 t2) false = true ∧ (chkThere xs (numV r2 t2) = true ∧ (chkIn xs (numV r2 t2) true = true ∧ ((r1 == 2) = false ∧ (decide (r1 < 2) = false ∧ True))))) ∧ (P [(op, (lstE xs e3)), ((N2 + 1723 + 9), iterO op 0), ((N2 + 1723 + 10), lstE #[] 0), (x.ac, cell? (some (numV r2 t2))), ((N2 + 1723 + 11), dictO #[] 0)] (cE' w.params 1 x.f (N2 + 1723 + 9) (N2 + 1723 + 10) (N2 + 1723 + 11) x.ac) ∧ ((True ∧ (∀ (y1 : YN) (N3 t3 : Nat), Post 0 [(op, (lstE xs e3)), ((N2 + 1723 + 9), iterO op 0), ((N2 + 1723 + 10), lstE #[] 0), (x.ac, cell? (some (numV r2 t2))), ((N2 + 1723 + 11), dictO #[] 0)] y1 → (∀ _ : Pos, (okAcc (accL (AE x op re [(22, N3 + 1723), (10, N2 + 1723)]) jE_14 []) ∧ (True) ∧ (P [(re, (lstE ys e4)), ((N3 + 1723 + 0), iterO re 0), ((N3 + 1723 + 1), lstE #[] 0), (x.ac, cell? (some (numV r2 t2))), ((N3 + 1723 + 2), dictO #[] 0)] (cE' w.params 2 x.f (N3 + 1723 + 0) (N3 + 1723 + 1) (N3 + 1723 + 2) x.ac) ∧ ((True ∧ (∀ (y2 : YN) (N4 t4 : Nat), Post 0 [(re, (lstE ys e4)), ((N3 + 1723 + 0), iterO re 0), ((N3 + 1723 + 1), lstE #[] 0), (x.ac, cell? (some (numV r2 t2))), ((N3 + 1723 + 2), dictO #[] 0)] y2 → (okAcc (accL (AE x op re [(25, N4 + 1723), (22, N3 + 1723), (10, N2 + 1723)]) jE_16 []) ∧ ((chkEq (xs.eraseIdxIfInBounds (idxV (numV r2 t2) xs.toList)) (⟨y1.L⟩ : Array Value) true = true ∧ chkEq ys (⟨y2.L⟩ : Array Value) true = true ∧ lenI (xs.eraseIdxIfInBounds (idxV (numV r2 t2) xs.toList)) + lenI ys = lenI (⟨y1.L⟩ : Array Value) + lenI (⟨y2.L⟩ : Array Value)) ∧ (chkLe ((⟨y2.L⟩ : Array Value).size) = true ∧ (chkLe ((⟨y1.L⟩ : Array Value).size) = true ∧ (chkLe (ys.size) = true ∧ (chkLe ((xs.eraseIdxIfInBounds (idxV (numV r2 t2) xs.toList)).size) = true ∧ True))))) ∧ I (olE x (srcE sb0 ub0 sb1 ub1 0) (frF w b x (N2 + 1723 + 10) (N3 + 1723 + 1) h4 k4 h5 k5 t0 t2 (.int v (t0 + 1)) (.int r1 uw)) (cell? (some (numV r2 t2))) (eraseO (idxV (numV r2 t2) xs.toList) (lstE xs e1)) (lstE ys e2) (N2 + 1723 + 10) (lstE ⟨y1.L⟩ y1.ep2) (N3 + 1723 + 1) (lstE ⟨y2.L⟩ y2.ep2) (rngO (v + 1) (Int.ofNat (left + 1) - 1))) (ΓE w.params x.f x.ac x.it z) (chL v1 v2 v3) (F10 KV)))) ∧ (∀ (y2 : YN) (N4 t4 : Nat), Post 1 [(re, (lstE ys e4)), ((N3 + 1723 + 0), iterO re 0), ((N3 + 1723 + 1), lstE #[] 0), (x.ac, cell? (some (numV r2 t2))), ((N3 + 1723 + 2), dictO #[] 0)] y2 → (okAcc (accL (AE x op re [(25, N4 + 1723), (22, N3 + 1723), (10, N2 + 1723)]) jE_17 []) ∧ ((chkEq (xs.eraseIdxIfInBounds (idxV (numV r2 t2) xs.toList)) (⟨y1.L⟩ : Array Value) true = true ∧ chkEq ys (⟨y2.L⟩ : Array Value) true = true ∧ lenI (xs.eraseIdxIfInBounds (idxV (numV r2 t2) xs.toList)) + lenI ys = lenI (⟨y1.L⟩ : Array Value) + lenI (⟨y2.L⟩ : Array Value)) ∧ (chkLe ((⟨y2.L⟩ : Array Value).size) = true ∧ (chkLe ((⟨y1.L⟩ : Array Value).size) = true ∧ (chkLe (ys.size) = true ∧ (chkLe ((xs.eraseIdxIfInBounds (idxV (numV r2 t2) xs.toList)).size) = true ∧ True))))) ∧ I (olE x (srcE sb0 ub0 sb1 ub1 0) (frF w b x (N2 + 1723 + 10) (N3 + 1723 + 1) h4 k4 h5 k5 t0 t2 (.int v (t0 + 1)) (.int r1 uw)) (cell? (some (numV r2 t2))) (eraseO (idxV (numV r2 t2) xs.toList) (lstE xs e1)) (lstE ys e2) (N2 + 1723 + 10) (lstE ⟨y1.L⟩ y1.ep2) (N3 + 1723 + 1) (lstE ⟨y2.L⟩ y2.ep2) (rngO (v + 1) (Int.ofNat (left + 1) - 1))) (ΓE w.params x.f x.ac x.it z) (chL v1 v2 v3) (F10 KV))))))))) ∧ (∀ (y1 : YN) (N3 t3 : Nat), Post 1 [(op, (lstE xs e3)), ((N2 + 1723 + 9), iterO op 0), ((N2 + 1723 + 10), lstE #[] 0), (x.ac, cell? (some (numV r2 t2))), ((N2 + 1723 + 11), dictO #[] 0)] y1 → (∀ _ : Pos, (okAcc (accL (AE x op re [(22, N3 + 1723), (10, N2 + 1723)]) jE_15 []) ∧ (True) ∧ (P [(re, (lstE ys e4)), ((N3 + 1723 + 0), iterO re 0), ((N3 + 1723 + 1), lstE #[] 0), (x.ac, cell? (some (numV r2 t2))), ((N3 + 1723 + 2), dictO #[] 0)] (cE' w.params 2 x.f (N3 + 1723 + 0) (N3 + 1723 + 1) (N3 + 1723 + 2) x.ac) ∧ ((True ∧ (∀ (y2 : YN) (N4 t4 : Nat), Post 0 [(re, (lstE ys e4)), ((N3 + 1723 + 0), iterO re 0), ((N3 + 1723 + 1), lstE #[] 0), (x.ac, cell? (some (numV r2 t2))), ((N3 + 1723 + 2), dictO #[] 0)] y2 → (okAcc (accL (AE x op re [(25, N4 + 1723), (22, N3 + 1723), (10, N2 + 1723)]) jE_18 []) ∧ ((chkEq (xs.eraseIdxIfInBounds (idxV (numV r2 t2) xs.toList)) (⟨y1.L⟩ : Array Value) true = true ∧ chkEq ys (⟨y2.L⟩ : Array Value) true = true ∧ lenI (xs.eraseIdxIfInBounds (idxV (numV r2 t2) xs.toList)) + lenI ys = lenI (⟨y1.L⟩ : Array Value) + lenI (⟨y2.L⟩ : Array Value)) ∧ (chkLe ((⟨y2.L⟩ : Array Value).size) = true ∧ (chkLe ((⟨y1.L⟩ : Array Value).size) = true ∧ (chkLe (ys.size) = true ∧ (chkLe ((xs.eraseIdxIfInBounds (idxV (numV r2 t2) xs.toList)).size) = true ∧ True))))) ∧ I (olE x (srcE sb0 ub0 sb1 ub1 0) (frF w b x (N2 + 1723 + 10) (N3 + 1723 + 1) h4 k4 h5 k5 t0 t2 (.int v (t0 + 1)) (.int r1 uw)) (cell? (some (numV r2 t2))) (eraseO (idxV (numV r2 t2) xs.toList) (lstE xs e1)) (lstE ys e2) (N2 + 1723 + 10) (lstE ⟨y1.L⟩ y1.ep2) (N3 + 1723 + 1) (lstE ⟨y2.L⟩ y2.ep2) (rngO (v + 1) (Int.ofNat (left + 1) - 1))) (ΓE w.params x.f x.ac x.it z) (chL v1 v2 v3) (F10 KV)))) ∧ (∀ (y2 : YN) (N4 t4 : Nat), Post 1 [(re, (lstE ys e4)), ((N3 + 1723 + 0), iterO re 0), ((N3 + 1723 + 1), lstE #[] 0), (x.ac, cell? (some (numV r2 t2))), ((N3 + 1723 + 2), dictO #[] 0)] y2 → (okAcc (accL (AE x op re [(25, N4 + 1723), (22, N3 + 1723), (10, N2 + 1723)]) jE_19 []) ∧ ((chkEq (xs.eraseIdxIfInBounds (idxV (numV r2 t2) xs.toList)) (⟨y1.L⟩ : Array Value) true = true ∧ chkEq ys (⟨y2.L⟩ : Array Value) true = true ∧ lenI (xs.eraseIdxIfInBounds (idxV (numV r2 t2) xs.toList)) + lenI ys = lenI (⟨y1.L⟩ : Array Value) + lenI (⟨y2.L⟩ : Array Value)) ∧ (chkLe ((⟨y2.L⟩ : Array Value).size) = true ∧ (chkLe ((⟨y1.L⟩ : Array Value).size) = true ∧ (chkLe (ys.size) = true ∧ (chkLe ((xs.eraseIdxIfInBounds (idxV (numV r2 t2) xs.toList)).size) = true ∧ True))))) ∧ I (olE x (srcE sb0 ub0 sb1 ub1 0) (frF w b x (N2 + 1723 + 10) (N3 + 1723 + 1) h4 k4 h5 k5 t0 t2 (.int v (t0 + 1)) (.int r1 uw)) (cell? (some (numV r2 t2))) (eraseO (idxV (numV r2 t2) xs.toList) (lstE xs e1)) (lstE ys e2) (N2 + 1723 + 10) (lstE ⟨y1.L⟩ y1.ep2) (N3 + 1723 + 1) (lstE ⟨y2.L⟩ y2.ep2) (rngO (v + 1) (Int.ofNat (left + 1) - 1))) (ΓE w.params x.f x.ac x.it z) (chL v1 v2 v3) (F10 KV)))))))))))
abbrev pE_6 (b : Bool) (r1 : Int) (uw : Nat) (r2 : Int) (N2 t2 : Nat) (sb0 : Int) (ub0 : Nat) (sb1 : Int) (ub1 : Nat) : Prop := ∀ _ : Pos, (okAcc (accL (AE x op re [(10, N2 + 1723)]) jE_6 []) ∧ (chkThere ys (numV r2 t2) = true ∧ (chkIn ys (numV r2 t2) true = true ∧ (chkIn xs (numV r2 t2) false = true ∧ ((r1 == 2) = false ∧ (decide (r1 < 2) = false ∧ True))))) ∧ (P [(op, (lstE xs e3)), ((N2 + 1723 + 9), iterO op 0), ((N2 + 1723 + 10), lstE #[] 0), (x.ac, cell? (some (numV r2 t2))), ((N2 + 1723 + 11), dictO #[] 0)] (cE' w.params 1 x.f (N2 + 1723 + 9) (N2 + 1723 + 10) (N2 + 1723 + 11) x.ac) ∧ ((True ∧ (∀ (y1 : YN) (N3 t3 : Nat), Post 0 [(op, (lstE xs e3)), ((N2 + 1723 + 9), iterO op 0), ((N2 + 1723 + 10), lstE #[] 0), (x.ac, cell? (some (numV r2 t2))), ((N2 + 1723 + 11), dictO #[] 0)] y1 → (∀ _ : Pos, (okAcc (accL (AE x op re [(22, N3 + 1723), (10, N2 + 1723)]) jE_14 []) ∧ (True) ∧ (P [(re, (lstE ys e4)), ((N3 + 1723 + 0), iterO re 0), ((N3 + 1723 + 1), lstE #[] 0), (x.ac, cell? (some (numV r2 t2))), ((N3 + 1723 + 2), dictO #[] 0)] (cE' w.params 2 x.f (N3 + 1723 + 0) (N3 + 1723 + 1) (N3 + 1723 + 2) x.ac) ∧ ((True ∧ (∀ (y2 : YN) (N4 t4 : Nat), Post 0 [(re, (lstE ys e4)), ((N3 + 1723 + 0), iterO re 0), ((N3 + 1723 + 1), lstE #[] 0), (x.ac, cell? (some (numV r2 t2))), ((N3 + 1723 + 2), dictO #[] 0)] y2 → (okAcc (accL (AE x op re [(25, N4 + 1723), (22, N3 + 1723), (10, N2 + 1723)]) jE_16 []) ∧ ((chkEq xs (⟨y1.L⟩ : Array Value) true = true ∧ chkEq (ys.eraseIdxIfInBounds (idxV (numV r2 t2) ys.toList)) (⟨y2.L⟩ : Array Value) true = true ∧ lenI xs + lenI (ys.eraseIdxIfInBounds (idxV (numV r2 t2) ys.toList)) = lenI (⟨y1.L⟩ : Array Value) + lenI (⟨y2.L⟩ : Array Value)) ∧ (chkLe ((⟨y2.L⟩ : Array Value).size) = true ∧ (chkLe ((⟨y1.L⟩ : Array Value).size) = true ∧ (chkLe ((ys.eraseIdxIfInBounds (idxV (numV r2 t2) ys.toList)).size) = true ∧ (chkLe (xs.size) = true ∧ True))))) ∧ I (olE x (srcE sb0 ub0 sb1 ub1 0) (frF w b x (N2 + 1723 + 10) (N3 + 1723 + 1) h4 k4 h5 k5 t0 t2 (.int v (t0 + 1)) (.int r1 uw)) (cell? (some (numV r2 t2))) (lstE xs e1) (eraseO (idxV (numV r2 t2) ys.toList) (lstE ys e2)) (N2 + 1723 + 10) (lstE ⟨y1.L⟩ y1.ep2) (N3 + 1723 + 1) (lstE ⟨y2.L⟩ y2.ep2) (rngO (v + 1) (Int.ofNat (left + 1) - 1))) (ΓE w.params x.f x.ac x.it z) (chL v1 v2 v3) (F10 KV)))) ∧ (∀ (y2 : YN) (N4 t4 : Nat), Post 1 [(re, (lstE ys e4)), ((N3 + 1723 + 0), iterO re 0), ((N3 + 1723 + 1), lstE #[] 0), (x.ac, cell? (some (numV r2 t2))), ((N3 + 1723 + 2), dictO #[] 0)] y2 → (okAcc (accL (AE x op re [(25, N4 + 1723), (22, N3 + 1723), (10, N2 + 1723)]) jE_17 []) ∧ ((chkEq xs (⟨y1.L⟩ : Array Value) true = true ∧ chkEq (ys.eraseIdxIfInBounds (idxV (numV r2 t2) ys.toList)) (⟨y2.L⟩ : Array Value) true = true ∧ lenI xs + lenI (ys.eraseIdxIfInBounds (idxV (numV r2 t2) ys.toList)) = lenI (⟨y1.L⟩ : Array Value) + lenI (⟨y2.L⟩ : Array Value)) ∧ (chkLe ((⟨y2.L⟩ : Array Value).size) = true ∧ (chkLe ((⟨y1.L⟩ : Array Value).size) = true ∧ (chkLe ((ys.eraseIdxIfInBounds (idxV (numV r2 t2) ys.toList)).size) = true ∧ (chkLe (xs.size) = true ∧ True))))) ∧ I (olE x (srcE sb0 ub0 sb1 ub1 0) (frF w b x (N2 + 1723 + 10) (N3 + 1723 + 1) h4 k4 h5 k5 t0 t2 (.int v (t0 + 1)) (.int r1 uw)) (cell? (some (numV r2 t2))) (lstE xs e1) (eraseO (idxV (numV r2 t2) ys.toList) (lstE ys e2)) (N2 + 1723 + 10) (lstE ⟨y1.L⟩ y1.ep2) (N3 + 1723 + 1) (lstE ⟨y2.L⟩ y2.ep2) (rngO (v + 1) (Int.ofNat (left + 1) - 1))) (ΓE w.params x.f x.ac x.it z) (chL v1 v2 v3) (F10 KV))))))))) ∧ (∀ (y1 : YN) (N3 t3 : Nat), Post 1 [(op, (lstE xs e3)), ((N2 + 1723 + 9), iterO op 0), ((N2 + 1723 + 10), lstE #[] 0), (x.ac, cell? (some (numV r2 t2))), ((N2 + 1723 + 11), dictO #[] 0)] y1 → (∀ _ : Pos, (okAcc (accL (AE x op re [(22, N3 + 1723), (10, N2 + 1723)]) jE_15 []) ∧ (True) ∧ (P [(re, (lstE ys e4)), ((N3 + 1723 + 0), iterO re 0), ((N3 + 1723 + 1), lstE #[] 0), (x.ac, cell? (some (numV r2 t2))), ((N3 + 1723 + 2), dictO #[] 0)] (cE' w.params 2 x.f (N3 + 1723 + 0) (N3 + 1723 + 1) (N3 + 1723 + 2) x.ac) ∧ ((True ∧ (∀ (y2 : YN) (N4 t4 : Nat), Post 0 [(re, (lstE ys e4)), ((N3 + 1723 + 0), iterO re 0), ((N3 + 1723 + 1), lstE #[] 0), (x.ac, cell? (some (numV r2 t2))), ((N3 + 1723 + 2), dictO #[] 0)] y2 → (okAcc (accL (AE x op re [(25, N4 + 1723), (22, N3 + 1723), (10, N2 + 1723)]) jE_18 []) ∧ ((chkEq xs (⟨y1.L⟩ : Array Value) true = true ∧ chkEq (ys.eraseIdxIfInBounds (idxV (numV r2 t2) ys.toList)) (⟨y2.L⟩ : Array Value) true = true ∧ lenI xs + lenI (ys.eraseIdxIfInBounds (idxV (numV r2 t2) ys.toList)) = lenI (⟨y1.L⟩ : Array Value) + lenI (⟨y2.L⟩ : Array Value)) ∧ (chkLe ((⟨y2.L⟩ : Array Value).size) = true ∧ (chkLe ((⟨y1.L⟩ : Array Value).size) = true ∧ (chkLe ((ys.eraseIdxIfInBounds (idxV (numV r2 t2) ys.toList)).size) = true ∧ (chkLe (xs.size) = true ∧ True))))) ∧ I (olE x (srcE sb0 ub0 sb1 ub1 0) (frF w b x (N2 + 1723 + 10) (N3 + 1723 + 1) h4 k4 h5 k5 t0 t2 (.int v (t0 + 1)) (.int r1 uw)) (cell? (some (numV r2 t2))) (lstE xs e1) (eraseO (idxV (numV r2 t2) ys.toList) (lstE ys e2)) (N2 + 1723 + 10) (lstE ⟨y1.L⟩ y1.ep2) (N3 + 1723 + 1) (lstE ⟨y2.L⟩ y2.ep2) (rngO (v + 1) (Int.ofNat (left + 1) - 1))) (ΓE w.params x.f x.ac x.it z) (chL v1 v2 v3) (F10 KV)))) ∧ (∀ (y2 : YN) (N4 t4 : Nat), Post 1 [(re, (lstE ys e4)), ((N3 + 1723 + 0), iterO re 0), ((N3 + 1723 + 1), lstE #[] 0), (x.ac, cell? (some (numV r2 t2))), ((N3 + 1723 + 2), dictO #[] 0)] y2 → (okAcc (accL (AE x op re [(25, N4 + 1723), (22, N3 + 1723), (10, N2 + 1723)]) jE_19 []) ∧ ((chkEq xs (⟨y1.L⟩ : Array Value) true = true ∧ chkEq (ys.eraseIdxIfInBounds (idxV (numV r2 t2) ys.toList)) (⟨y2.L⟩ : Array Value) true = true ∧ lenI xs + lenI (ys.eraseIdxIfInBounds (idxV (numV r2 t2) ys.toList)) = lenI (⟨y1.L⟩ : Array Value) + lenI (⟨y2.L⟩ : Array Value)) ∧ (chkLe ((⟨y2.L⟩ : Array Value).size) = true ∧ (chkLe ((⟨y1.L⟩ : Array Value).size) = true ∧ (chkLe ((ys.eraseIdxIfInBounds (idxV (numV r2 t2) ys.toList)).size) = true ∧ (chkLe (xs.size) = true ∧ True))))) ∧ I (olE x (srcE sb0 ub0 sb1 ub1 0) (frF w b x (N2 + 1723 + 10) (N3 + 1723 + 1) h4 k4 h5 k5 t0 t2 (.int v (t0 + 1)) (.int r1 uw)) (cell? (some (numV r2 t2))) (lstE xs e1) (eraseO (idxV (numV r2 t2) ys.toList) (lstE ys e2)) (N2 + 1723 + 10) (lstE ⟨y1.L⟩ y1.ep2) (N3 + 1723 + 1) (lstE ⟨y2.L⟩ y2.ep2) (rngO (v + 1) (Int.ofNat (left + 1) - 1))) (ΓE w.params x.f x.ac x.it z) (chL v1 v2 v3) (F10 KV)))))))))))
abbrev pE_7 (b : Bool) (r1 : Int) (uw : Nat) (r2 : Int) (N2 t2 : Nat) (sb0 : Int) (ub0 : Nat) (sb1 : Int) (ub1 : Nat) : Prop := ∀ _ : Pos, (okAcc (accL (AE x op re [(10, N2 + 1723)]) jE_7 []) ∧ (chkIn ys (numV r2 t2) false = true ∧ (chkIn xs (numV r2 t2) false = true ∧ ((r1 == 2) = false ∧ (decide (r1 < 2) = false ∧ True)))) ∧ (P [(op, (lstE xs e3)), ((N2 + 1723 + 9), iterO op 0), ((N2 + 1723 + 10), lstE #[] 0), (x.ac, cell? (some (numV r2 t2))), ((N2 + 1723 + 11), dictO #[] 0)] (cE' w.params 1 x.f (N2 + 1723 + 9) (N2 + 1723 + 10) (N2 + 1723 + 11) x.ac) ∧ ((True ∧ (∀ (y1 : YN) (N3 t3 : Nat), Post 0 [(op, (lstE xs e3)), ((N2 + 1723 + 9), iterO op 0), ((N2 + 1723 + 10), lstE #[] 0), (x.ac, cell? (some (numV r2 t2))), ((N2 + 1723 + 11), dictO #[] 0)] y1 → (∀ _ : Pos, (okAcc (accL (AE x op re [(22, N3 + 1723), (10, N2 + 1723)]) jE_14 []) ∧ (True) ∧ (P [(re, (lstE ys e4)), ((N3 + 1723 + 0), iterO re 0), ((N3 + 1723 + 1), lstE #[] 0), (x.ac, cell? (some (numV r2 t2))), ((N3 + 1723 + 2), dictO #[] 0)] (cE' w.params 2 x.f (N3 + 1723 + 0) (N3 + 1723 + 1) (N3 + 1723 + 2) x.ac) ∧ ((True ∧ (∀ (y2 : YN) (N4 t4 : Nat), Post 0 [(re, (lstE ys e4)), ((N3 + 1723 + 0), iterO re 0), ((N3 + 1723 + 1), lstE #[] 0), (x.ac, cell? (some (numV r2 t2))), ((N3 + 1723 + 2), dictO #[] 0)] y2 → (okAcc (accL (AE x op re [(25, N4 + 1723), (22, N3 + 1723), (10, N2 + 1723)]) jE_16 []) ∧ ((chkEq xs (⟨y1.L⟩ : Array Value) true = true ∧ chkEq ys (⟨y2.L⟩ : Array Value) true = true ∧ lenI xs + lenI ys = lenI (⟨y1.L⟩ : Array Value) + lenI (⟨y2.L⟩ : Array Value)) ∧ (chkLe ((⟨y2.L⟩ : Array Value).size) = true ∧ (chkLe ((⟨y1.L⟩ : Array Value).size) = true ∧ (chkLe (ys.size) = true ∧ (chkLe (xs.size) = true ∧ True))))) ∧ I (olE x (srcE sb0 ub0 sb1 ub1 0) (frF w b x (N2 + 1723 + 10) (N3 + 1723 + 1) h4 k4 h5 k5 t0 t2 (.int v (t0 + 1)) (.int r1 uw)) (cell? (some (numV r2 t2))) (lstE xs e1) (lstE ys e2) (N2 + 1723 + 10) (lstE ⟨y1.L⟩ y1.ep2) (N3 + 1723 + 1) (lstE ⟨y2.L⟩ y2.ep2) (rngO (v + 1) (Int.ofNat (left + 1) - 1))) (ΓE w.params x.f x.ac x.it z) (chL v1 v2 v3) (F10 KV)))) ∧ (∀ (y2 : YN) (N4 t4 : Nat), Post 1 [(re, (lstE ys e4)), ((N3 + 1723 + 0), iterO re 0), ((N3 + 1723 + 1), lstE #[] 0), (x.ac, cell? (some (numV r2 t2))), ((N3 + 1723 + 2), dictO #[] 0)] y2 → (okAcc (accL (AE x op re [(25, N4 + 1723), (22, N3 + 1723), (10, N2 + 1723)]) jE_17 []) ∧ ((chkEq xs (⟨y1.L⟩ : Array Value) true = true ∧ chkEq ys (⟨y2.L⟩ : Array Value) true = true ∧ lenI xs + lenI ys = lenI (⟨y1.L⟩ : Array Value) + lenI (⟨y2.L⟩ : Array Value)) ∧ (chkLe ((⟨y2.L⟩ : Array Value).size) = true ∧ (chkLe ((⟨y1.L⟩ : Array Value).size) = true ∧ (chkLe (ys.size) = true ∧ (chkLe (xs.size) = true ∧ True))))) ∧ I (olE x (srcE sb0 ub0 sb1 ub1 0) (frF w b x (N2 + 1723 + 10) (N3 + 1723 + 1) h4 k4 h5 k5 t0 t2 (.int v (t0 + 1)) (.int r1 uw)) (cell? (some (numV r2 t2))) (lstE xs e1) (lstE ys e2) (N2 + 1723 + 10) (lstE ⟨y1.L⟩ y1.ep2) (N3 + 1723 + 1) (lstE ⟨y2.L⟩ y2.ep2) (rngO (v + 1) (Int.ofNat (left + 1) - 1))) (ΓE w.params x.f x.ac x.it z) (chL v1 v2 v3) (F10 KV))))))))) ∧ (∀ (y1 : YN) (N3 t3 : Nat), Post 1 [(op, (lstE xs e3)), ((N2 + 1723 + 9), iterO op 0), ((N2 + 1723 + 10), lstE #[] 0), (x.ac, cell? (some (numV r2 t2))), ((N2 + 1723 + 11), dictO #[] 0)] y1 → (∀ _ : Pos, (okAcc (accL (AE x op re [(22, N3 + 1723), (10, N2 + 1723)]) jE_15 []) ∧ (True) ∧ (P [(re, (lstE ys e4)), ((N3 + 1723 + 0), iterO re 0), ((N3 + 1723 + 1), lstE #[] 0), (x.ac, cell? (some (numV r2 t2))), ((N3 + 1723 + 2), dictO #[] 0)] (cE' w.params 2 x.f (N3 + 1723 + 0) (N3 + 1723 + 1) (N3 + 1723 + 2) x.ac) ∧ ((True ∧ (∀ (y2 : YN) (N4 t4 : Nat), Post 0 [(re, (lstE ys e4)), ((N3 + 1723 + 0), iterO re 0), ((N3 + 1723 + 1), lstE #[] 0), (x.ac, cell? (some (numV r2 t2))), ((N3 + 1723 + 2), dictO #[] 0)] y2 → (okAcc (accL (AE x op re [(25, N4 + 1723), (22, N3 + 1723), (10, N2 + 1723)]) jE_18 []) ∧ ((chkEq xs (⟨y1.L⟩ : Array Value) true = true ∧ chkEq ys (⟨y2.L⟩ : Array Value) true = true ∧ lenI xs + lenI ys = lenI (⟨y1.L⟩ : Array Value) + lenI (⟨y2.L⟩ : Array Value)) ∧ (chkLe ((⟨y2.L⟩ : Array Value).size) = true ∧ (chkLe ((⟨y1.L⟩ : Array Value).size) = true ∧ (chkLe (ys.size) = true ∧ (chkLe (xs.size) = true ∧ True))))) ∧ I (olE x (srcE sb0 ub0 sb1 ub1 0) (frF w b x (N2 + 1723 + 10) (N3 + 1723 + 1) h4 k4 h5 k5 t0 t2 (.int v (t0 + 1)) (.int r1 uw)) (cell? (some (numV r2 t2))) (lstE xs e1) (lstE ys e2) (N2 + 1723 + 10) (lstE ⟨y1.L⟩ y1.ep2) (N3 + 1723 + 1) (lstE ⟨y2.L⟩ y2.ep2) (rngO (v + 1) (Int.ofNat (left + 1) - 1))) (ΓE w.params x.f x.ac x.it z) (chL v1 v2 v3) (F10 KV)))) ∧ (∀ (y2 : YN) (N4 t4 : Nat), Post 1 [(re, (lstE ys e4)), ((N3 + 1723 + 0), iterO re 0), ((N3 + 1723 + 1), lstE #[] 0), (x.ac, cell? (some (numV r2 t2))), ((N3 + 1723 + 2), dictO #[] 0)] y2 → (okAcc (accL (AE x op re [(25, N4 + 1723), (22, N3 + 1723), (10, N2 + 1723)]) jE_19 []) ∧ ((chkEq xs (⟨y1.L⟩ : Array Value) true = true ∧ chkEq ys (⟨y2.L⟩ : Array Value) true = true ∧ lenI xs + lenI ys = lenI (⟨y1.L⟩ : Array Value) + lenI (⟨y2.L⟩ : Array Value)) ∧ (chkLe ((⟨y2.L⟩ : Array Value).size) = true ∧ (chkLe ((⟨y1.L⟩ : Array Value).size) = true ∧ (chkLe (ys.size) = true ∧ (chkLe (xs.size) = true ∧ True))))) ∧ I (olE x (srcE sb0 ub0 sb1 ub1 0) (frF w b x (N2 + 1723 + 10) (N3 + 1723 + 1) h4 k4 h5 k5 t0 t2 (.int v (t0 + 1)) (.int r1 uw)) (cell? (some (numV r2 t2))) (lstE xs e1) (lstE ys e2) (N2 + 1723 + 10) (lstE ⟨y1.L⟩ y1.ep2) (N3 + 1723 + 1) (lstE ⟨y2.L⟩ y2.ep2) (rngO (v + 1) (Int.ofNat (left + 1) - 1))) (ΓE w.params x.f x.ac x.it z) (chL v1 v2 v3) (F10 KV)))))))))))
def jE0 : List Nat := z63
def jE1 : List Nat := dec [0x1010c000300]
abbrev rhsLE (b : Bool) : Prop := okAcc (accL (AE x op re []) jE0 []) ∧ True ∧ (Bd s0 s1 ∧ ∀ (r1 : Int) (uw N1 t1 : Nat) (sa0 : Int) (ua0 : Nat) (sa1 : Int) (ua1 : Nat), 0 ≤ r1 → r1 < 4 → Bd sa0 sa1 → (okAcc (accL (AE x op re []) jE1 []) ∧ True ∧ (Bd sa0 sa1 ∧ ∀ (r2 : Int) (uq N2 t2 : Nat) (sb0 : Int) (ub0 : Nat) (sb1 : Int) (ub1 : Nat), 0 ≤ r2 → r2 < 4 → Bd sb0 sb1 → ((((((((False ∨ pE_0 w t0 op re e1 e2 e3 e4 v left h4 h5 k4 k5 xs ys x z v1 v2 v3 I KV b r1 uw r2 N2 t2 sb0 ub0 sb1 ub1) ∨ pE_1 w t0 op re e1 e2 e3 e4 v left h4 h5 k4 k5 xs ys x z v1 v2 v3 I KV P Post b r1 uw r2 N2 t2 sb0 ub0 sb1 ub1) ∨ pE_2 w t0 op re e1 e2 e3 e4 v left h4 h5 k4 k5 xs ys x z v1 v2 v3 I KV P Post b r1 uw r2 N2 t2 sb0 ub0 sb1 ub1) ∨ pE_3 w t0 op re e1 e2 e3 v left h4 h5 k4 k5 xs ys x z v1 v2 v3 I KV P Post b r1 uw r2 N2 t2 sb0 ub0 sb1 ub1) ∨ pE_4 w t0 op re e1 e2 e3 e4 v left h4 h5 k4 k5 xs ys x z v1 v2 v3 I KV b r1 uw r2 N2 t2 sb0 ub0 sb1 ub1) ∨ pE_5 w t0 op re e1 e2 e3 e4 v left h4 h5 k4 k5 xs ys x z v1 v2 v3 I KV P Post b r1 uw r2 N2 t2 sb0 ub0 sb1 ub1) ∨ pE_6 w t0 op re e1 e2 e3 e4 v left h4 h5 k4 k5 xs ys x z v1 v2 v3 I KV P Post b r1 uw r2 N2 t2 sb0 ub0 sb1 ub1) ∨ pE_7 w t0 op re e1 e2 e3 e4 v left h4 h5 k4 k5 xs ys x z v1 v2 v3 I KV P Post b r1 uw r2 N2 t2 sb0 ub0 sb1 ub1))))
theorem runLE (b2 q0 q1 : Bool) : simE w N t0 op re e1 e2 e3 e4 nu n v s0 u0 s1 u1 h4 h5 k4 k5 vt vw xs ys h d os X x z p v1 v2 v3 I KV P Post q0 b2 q1 (jE ++ [0]) (Int.ofNat (left + 1)) = rhsLE w t0 op re e1 e2 e3 e4 v left s0 s1 h4 h5 k4 k5 xs ys x z v1 v2 v3 I KV P Post q1 := by
 cases q0 <;> cases q1 <;> kernel_rfl
def jEe : List Nat := dec [0x1001713131300130013]
end
def kI (v : Value) : Int := match v with
 | .int k _ => k
 | _ => 0
def hasB (n : Int) (l : List Value) : Bool := l.any fun v => kI v == n
theorem hasB_iff {n : Int} {l : List Value} : hasB n l = true ↔ n ∈ l.map kI := by
 unfold hasB
 rw [List.any_eq_true, List.mem_map]
 constructor
 ·rintro ⟨x, h1, h2⟩; exact ⟨x, h1, eq_of_beq h2⟩
 ·rintro ⟨x, h1, h2⟩; exact ⟨x, h1, by rw [h2]; exact beq_self_eq_true n⟩
theorem allI_cons {x : Value} {l : List Value} : allI (x :: l) ↔ (∃ k u, x = .int k u) ∧ allI l := by
 unfold allI
 simp only [List.forall_mem_cons]
theorem allI_app {a b : List Value} : allI (a ++ b) ↔ allI a ∧ allI b := by
 unfold allI
 constructor
 ·intro h; exact ⟨fun x hx => h x (List.mem_append_left _ hx), fun x hx => h x (List.mem_append_right _ hx)⟩
 ·rintro ⟨h1, h2⟩ x hx
  rcases List.mem_append.mp hx with h | h
  ·exact h1 x h
  ·exact h2 x h
theorem eqv_int {x : Value} (h : ∃ k u, x = .int k u) (n : Int) (u : Nat) : eqv x (.int n u) = some (kI x == n) := by
 obtain ⟨k, t, rfl⟩ := h
 show some (Z.eqB k n) = _
 rw [eqB_beq]; rfl
theorem any_has (n : Int) (u : Nat) : ∀ {l : List Value}, allI l → (l.any fun y => isT (eqv y (.int n u))) = hasB n l
 | [], _ => rfl
 | x :: l, h => by
  rw [allI_cons] at h
  have := any_has n u h.2
  unfold hasB at this ⊢
  rw [List.any_cons, List.any_cons, this, eqv_int h.1]
  cases kI x == n <;> rfl
theorem all_isSome (n : Int) (u : Nat) : ∀ {l : List Value}, allI l → (l.all fun y => (eqv y (.int n u)).isSome) = true
 | [], _ => rfl
 | x :: l, h => by
  rw [allI_cons] at h
  rw [List.all_cons, all_isSome n u h.2, eqv_int h.1]; rfl
theorem chkIn_of {n : Int} {u : Nat} {l : List Value} (h : allI l) {b : Bool} (hb : hasB n l = b) : chkIn ⟨l⟩ (.int n u) b = true := by
 unfold chkIn
 rw [all_isSome n u h, any_has n u h, hb]; simp
theorem chkLe_of {l : List Value} (h : l.length ≤ 1000) : chkLe (⟨l⟩ : Array Value).size = true := Nat.ble_eq_true_of_le (by show l.length ≤ _; omega)
theorem chkThere_of {n : Int} {u : Nat} {l : List Value} (h : allI l) (hb : hasB n l = true) (hl : l.length ≤ 1000) : chkThere ⟨l⟩ (.int n u) = true := by
 unfold chkThere
 rw [chkIn_of h hb, chkLe_of hl]; rfl
theorem zip_self : ∀ {l : List Value}, allI l → zipEq l l = some true
 | [], _ => rfl
 | x :: l, h => by
  rw [allI_cons] at h
  obtain ⟨⟨k, u, rfl⟩, h2⟩ := h
  have e : zipEq (.int k u :: l) (.int k u :: l) = (match eqv (.int k u) (.int k u), zipEq l l with | some b, some d => some (Bool.rec false d b : Bool) | _, _ => none) := rfl
  rw [e, zip_self h2, eqv_int ⟨k, u, rfl⟩]
  show some (Bool.rec false true (k == k) : Bool) = some true
  rw [beq_self_eq_true]
theorem chkEq_of {a b : Array Value} {l : List Value} (h : allI l) (ha : a = ⟨l⟩) (hb : b = ⟨l⟩) : chkEq a b true = true := by
 subst ha hb
 unfold chkEq
 rw [zip_self h]; rfl
theorem app_arr (a b : List Value) : (⟨a⟩ : Array Value) ++ ⟨b⟩ = ⟨a ++ b⟩ := Array.ext' (by simp)
theorem push_arr (a : List Value) (v : Value) : (⟨a⟩ : Array Value).push v = ⟨a ++ [v]⟩ := Array.ext' (by simp)
theorem filt_id {n : Int} : ∀ {l : List Value}, allI l → hasB n l = false → filtN n l = l
 | [], _, _ => rfl
 | x :: l, h, hb => by
  rw [allI_cons] at h
  obtain ⟨⟨k, u, rfl⟩, h2⟩ := h
  have hb' : ((k == n) || hasB n l) = false := hb
  rw [Bool.or_eq_false_iff] at hb'
  rw [filtN_cons, filt_id h2 hb'.2]
  have : (k != n) = true := by rw [bne, hb'.1]; rfl
  rw [this]; rfl
theorem erase_filt {n : Int} {u : Nat} : ∀ {l : List Value}, allI l → (l.map kI).Nodup → hasB n l = true → l.eraseIdx (idxV (.int n u) l) = filtN n l
 | [], _, _, hb => by cases hb
 | x :: l, h, hn, hb => by
  rw [allI_cons] at h
  obtain ⟨⟨k, t, rfl⟩, h2⟩ := h
  rw [List.map_cons, List.nodup_cons] at hn
  rw [idxV_cons, eqv_int ⟨k, t, rfl⟩, filtN_cons]
  cases hk : (k == n) with
  | true =>
   have : kI (.int k t) == n := hk
   rw [show (kI (.int k t) == n) = true from hk]
   have e : (k != n) = false := by rw [bne, hk]; rfl
   rw [e]
   show l = filtN n l
   refine (filt_id h2 ?_).symm
   cases q : hasB n l with
   | false => rfl
   | true =>
    have hm := hasB_iff.mp q
    rw [← eq_of_beq hk] at hm
    exact absurd hm hn.1
  | false =>
   rw [show (kI (.int k t) == n) = false from hk]
   have e : (k != n) = true := by rw [bne, hk]; rfl
   rw [e]
   have hb' : ((k == n) || hasB n l) = true := hb
   rw [hk, Bool.false_or] at hb'
   show (.int k t) :: l.eraseIdx (idxV (.int n u) l) = (.int k t) :: filtN n l
   rw [erase_filt h2 hn.2 hb']
theorem eraseIf {l : List Value} {k : Nat} : (⟨l⟩ : Array Value).eraseIdxIfInBounds k = ⟨l.eraseIdx k⟩ := by
 apply Array.ext'
 unfold Array.eraseIdxIfInBounds
 split
 ·simp
 ·rename_i h
  show l = l.eraseIdx k
  rw [List.eraseIdx_of_length_le (by simpa using h)]
theorem mapSeq_lst (f : Array Value → Array Value) (xs : Array Value) (ep : Nat) : (lstE xs ep).mapSeq f = lstE (f xs) (if (f xs).size == xs.size then ep else ep + 1) := rfl
theorem erase_lst {n : Int} {u : Nat} {l : List Value} (h : allI l) (hn : (l.map kI).Nodup) (hb : hasB n l = true) (ep : Nat) : ∃ ep', eraseO (idxV (.int n u) l) (lstE ⟨l⟩ ep) = lstE ⟨filtN n l⟩ ep' := by
 unfold eraseO
 rw [mapSeq_lst, eraseIf, erase_filt h hn hb]
 exact ⟨_, rfl⟩
theorem filt_allI {n : Int} {l : List Value} (h : allI l) : allI (filtN n l) := fun x hx => h x (List.mem_filter.mp hx).1
theorem filt_len {n : Int} {l : List Value} : (filtN n l).length ≤ l.length := List.length_filter_le _ _
theorem filt_sub (n : Int) (l : List Value) : (filtN n l).Sublist l := List.filter_sublist
structure InvE (xs ys : List Value) : Prop where
 ax : allI xs
 ay : allI ys
 nd : ((xs ++ ys).map kI).Nodup
theorem InvE.ndx {xs ys : List Value} (h : InvE xs ys) : (xs.map kI).Nodup := (List.nodup_append.mp (by simpa using h.nd)).1
theorem InvE.ndy {xs ys : List Value} (h : InvE xs ys) : (ys.map kI).Nodup := (List.nodup_append.mp (by simpa using h.nd)).2.1
theorem InvE.apart {xs ys : List Value} (h : InvE xs ys) {n : Int} (hx : hasB n xs = true) : hasB n ys = false := by
 cases q : hasB n ys with
 | false => rfl
 | true =>
  have := (List.nodup_append.mp (by simpa using h.nd)).2.2 n (hasB_iff.mp hx) n (hasB_iff.mp q)
  exact absurd rfl this
theorem InvE.push {xs ys : List Value} (h : InvE xs ys) {n : Int} {u : Nat} (hx : hasB n xs = false) (hy : hasB n ys = false) : InvE (xs ++ [.int n u]) ys := by
 refine ⟨allI_app.mpr ⟨h.ax, fun x hx => ⟨n, u, by simpa using hx⟩⟩, h.ay, ?_⟩
 have hnx : n ∉ xs.map kI := fun q => by rw [hasB_iff.mpr q] at hx; cases hx
 have hny : n ∉ ys.map kI := fun q => by rw [hasB_iff.mpr q] at hy; cases hy
 have hd := h.nd
 have p : ((xs ++ [Value.int n u] ++ ys).map kI).Perm (n :: (xs ++ ys).map kI) := by
  simp only [List.map_append, List.map_cons, List.map_nil, List.append_assoc, List.singleton_append]
  exact List.perm_middle
 refine p.nodup_iff.mpr (List.nodup_cons.mpr ⟨?_, hd⟩)
 rw [List.map_append, List.mem_append]
 exact fun q => q.elim hnx hny
theorem InvE.filt {xs ys : List Value} (h : InvE xs ys) (n : Int) : InvE (filtN n xs) (filtN n ys) :=
 ⟨filt_allI h.ax, filt_allI h.ay, List.Nodup.sublist (((filt_sub n xs).append (filt_sub n ys)).map kI) h.nd⟩
theorem filt_out {n : Int} {l : List Value} (h : allI l) : hasB n (filtN n l) = false := by
 cases q : hasB n (filtN n l) with
 | false => rfl
 | true =>
  obtain ⟨x, h1, h2⟩ := List.mem_map.mp (hasB_iff.mp q)
  have h3 := (List.mem_filter.mp h1).2
  obtain ⟨k, u, rfl⟩ := h x (List.mem_filter.mp h1).1
  simp only [kI] at h2
  subst h2
  simp at h3
theorem InvE.move {xs ys : List Value} (h : InvE xs ys) {n : Int} {u : Nat} (hx : hasB n xs = true) : InvE (filtN n xs) (ys ++ [.int n u]) := by
 have hy := h.apart hx
 have e := filt_id h.ay hy
 have z := h.filt n
 rw [e] at z
 have w := z.push (u := u) (filt_out h.ax) hy
 refine ⟨z.ax, allI_app.mpr ⟨h.ay, fun x hx => ⟨n, u, by simpa using hx⟩⟩, ?_⟩
 have p : ((filtN n xs ++ (ys ++ [Value.int n u])).map kI).Perm ((filtN n xs ++ [Value.int n u] ++ ys).map kI) := by
  rw [List.append_assoc]
  exact ((List.perm_append_comm).append_left _).map kI
 exact p.nodup_iff.mpr w.nd
section
variable (w : World) (N t0 op re e1 e2 e3 e4 nu : Nat) (n v : Int) (left : Nat) (s0 : Int) (u0 : Nat) (s1 : Int) (u1 : Nat) (h4 h5 : Int) (k4 k5 : Nat) (vt vw : Value) (xs ys : Array Value) (h : Heap) (d : Drawn) (os : OsState) (X : Nat → Option Obj) (x : EF) (z : SP) (p : Pos) (v1 v2 v3 : Array Value) (I : IT) (KV : KVT) (P : OL → Code → Prop) (Post : Nat → OL → YN → Prop)
theorem runLE_end (b1 b2 b : Bool) : simE w N t0 op re e1 e2 e3 e4 nu n v s0 u0 s1 u1 h4 h5 k4 k5 vt vw xs ys h d os X x z p v1 v2 v3 I KV P Post b1 b2 b jEe (Int.ofNat 0) =
 (okAcc (accL (AE x op re [(10, N + 1723)]) jEe []) ∧ True ∧ KV (.ok .next) ((olE x (srcE s0 u0 s1 u1 0) (frI b x op re h4 k4 h5 k5 vt vw) (clI b (.int n nu)) (lstE xs e1) (lstE ys e2) op (lstE xs e3) re (lstE ys e4) (rngO v (Int.ofNat 0))).map some) (N + 1723) 2 (t0 + 1) 0 (chL v1 v2 v3)) := by kernel_rfl
end
def EF.ep (x : EF) (e : Nat) : EF := { x with epf := e }
structure StE where
 x : EF
 op : Nat
 re : Nat
 e1 : Nat
 e2 : Nat
 e3 : Nat
 e4 : Nat
 nu : Nat
 n : Int
 v : Int
 s0 : Int
 u0 : Nat
 s1 : Int
 u1 : Nat
 h4 : Int
 h5 : Int
 k4 : Nat
 k5 : Nat
 vt : Value
 vw : Value
 xs : List Value
 ys : List Value
 z : SP
 b : Bool
 v1 : Array Value
 v2 : Array Value
 v3 : Array Value
structure EndE where
 ef : Nat
 op : Nat
 re : Nat
 s0 : Int
 u0 : Nat
 s1 : Int
 u1 : Nat
 h4 : Int
 h5 : Int
 k4 : Nat
 k5 : Nat
 vt : Value
 vw : Value
 o1 : Obj
 o2 : Obj
 o3 : Obj
 o4 : Obj
 o5 : Obj
 o6 : Obj
def EndE.ol (y : EndE) (x : EF) : OL := olE (x.ep y.ef) (srcE y.s0 y.u0 y.s1 y.u1 0) (frI true (x.ep y.ef) y.op y.re y.h4 y.k4 y.h5 y.k5 y.vt y.vw) y.o1 y.o2 y.o3 y.op y.o4 y.re y.o5 y.o6
def I_E (w : World) (k : Nat) : IT := fun l Γ ch F => ∃ st : StE,
 l = olE st.x (srcE st.s0 st.u0 st.s1 st.u1 0) (frI st.b st.x st.op st.re st.h4 st.k4 st.h5 st.k5 st.vt st.vw) (clI st.b (.int st.n st.nu)) (lstE ⟨st.xs⟩ st.e1) (lstE ⟨st.ys⟩ st.e2) st.op (lstE ⟨st.xs⟩ st.e3) st.re (lstE ⟨st.ys⟩ st.e4) (rngO st.v (Int.ofNat k)) ∧
 Γ = ΓE w.params st.x.f st.x.ac st.x.it st.z ∧ ch = chL st.v1 st.v2 st.v3 ∧ Bd st.s0 st.s1 ∧ InvE st.xs st.ys ∧ st.xs.length + st.ys.length + k ≤ 100 ∧ (st.b = true ∨ 0 < k) ∧
 ∀ (y : EndE) (N' t' : Nat), Bd y.s0 y.s1 → F (.ok .next) (y.ol st.x) N' t' ch
theorem I_E_mono (w : World) (k : Nat) : MonoI (I_E w k) := by
 intro l Γ ch F G H hI
 obtain ⟨st, h1, h2, h3, h4, h5, h6, h7, hF⟩ := hI
 exact ⟨st, h1, h2, h3, h4, h5, h6, h7, fun y N' t' hb => H _ _ _ _ _ (hF y N' t' hb)⟩
theorem tail_E {w : World} {k t0 t2 : Nat} {F : FT} (st : StE) {r1 r2 : Int} {uw : Nat} {op' re' : Nat} {s0' s1' : Int} {u0' u1' : Nat} (hb : Bd s0' s1') {xs' ys' : List Value} {lo lr oo rr : Obj} {f1 f2 f3 f4 : Nat}
  (h1 : lo = lstE ⟨xs'⟩ f1) (h2 : lr = lstE ⟨ys'⟩ f2) (h3 : oo = lstE ⟨xs'⟩ f3) (h4 : rr = lstE ⟨ys'⟩ f4) (hi : InvE xs' ys') (hl : xs'.length + ys'.length + k ≤ 100)
  (hF : ∀ (y : EndE) (N' t' : Nat), Bd y.s0 y.s1 → F (.ok .next) (y.ol st.x) N' t' (chL st.v1 st.v2 st.v3)) :
  I_E w k (olE st.x (srcE s0' u0' s1' u1' 0) (frF w st.b st.x op' re' st.h4 st.k4 st.h5 st.k5 t0 t2 (.int st.v (t0 + 1)) (.int r1 uw)) (cell? (some (numV r2 t2))) lo lr op' oo re' rr (rngO (st.v + 1) (Int.ofNat (k + 1) - 1))) (ΓE w.params st.x.f st.x.ac st.x.it st.z) (chL st.v1 st.v2 st.v3) (F10 (KVof 10 F)) := by
 subst h1 h2 h3 h4
 have e : Int.ofNat (k + 1) - 1 = Int.ofNat k := by show ((k + 1 : Nat) : Int) - 1 = (k : Int); omega
 rw [e]
 refine ⟨⟨st.x.ep (Bool.rec (st.x.epf + 2) st.x.epf st.b), op', re', f1, f2, f3, f4, t2 + 1, 1 + r2, st.v + 1, s0', u0', s1', u1', Bool.rec (hashS w sTurn) st.h4 st.b, Bool.rec (hashS w sWay) st.h5 st.b, Bool.rec (t0 + 2) st.k4 st.b, Bool.rec (t2 + 2) st.k5 st.b, .int st.v (t0 + 1), .int r1 uw, xs', ys', st.z, true, st.v1, st.v2, st.v3⟩, ?_, rfl, rfl, hb, hi, hl, .inl rfl, fun y N' t' hy => tail_ok (by decide) (hF y N' t' hy) rfl⟩
 cases st.b <;> rfl
theorem ask_ne {ax ait aacc ac ad ep nu : Nat} {n : Int} {xs : List Value} {x : CP} {y : CE} (h : allI xs) (hl : xs.length ≤ 100) : P_ne [(ax, lstE ⟨xs⟩ ep), (ait, iterO ax 0), (aacc, lstE #[] 0), (ac, cell? (some (.int n nu))), (ad, dictO #[] 0)] (cNe x y ait aacc ad ac) :=
 ⟨ax, ait, aacc, ac, ad, ep, 0, 0, nu, n, xs, x, y, rfl, rfl, h, hl⟩
section
variable {w : World} {k t0 N2 t2 : Nat} {F : FT} (st : StE) {r1 r2 : Int} {uw : Nat} {sb0 sb1 : Int} {ub0 ub1 : Nat} (hb : Bd sb0 sb1) (hi : InvE st.xs st.ys) (hl : st.xs.length + st.ys.length + (k + 1) ≤ 100)
 (hF : ∀ (y : EndE) (N' t' : Nat), Bd y.s0 y.s1 → F (.ok .next) (y.ol st.x) N' t' (chL st.v1 st.v2 st.v3))
include hb hi hl hF
theorem path0 (hlt : r1 < 2) (hx : hasB (1 + r2) st.xs = false) (hy : hasB (1 + r2) st.ys = false) :
  pE_0 w t0 st.op st.re st.e1 st.e2 st.e3 st.e4 st.v k st.h4 st.h5 st.k4 st.k5 ⟨st.xs⟩ ⟨st.ys⟩ st.x st.z st.v1 st.v2 st.v3 (I_E w k) (KVof 10 F) st.b r1 uw r2 N2 t2 sb0 ub0 sb1 ub1 := by
 have ax' := (hi.push (u := t2 + 1) hx hy).ax
 have hxy : hasB (1 + r2) (st.xs ++ st.ys) = false := by unfold hasB at hx hy ⊢; rw [List.any_append, hx, hy]; rfl
 refine ⟨accL_ok _ _ _ okNil, ⟨⟨chkEq_of ax' (push_arr _ _) (push_arr _ _), chkEq_of hi.ay rfl rfl, rfl⟩, chkLe_of (by omega), ?_, chkLe_of (by omega), ?_, chkLe_of (by omega), chkLe_of (by omega), ?_, ?_, decide_eq_true hlt, trivial⟩, ?_⟩
 ·rw [push_arr]; exact chkLe_of (by simp; omega)
 ·rw [push_arr]; exact chkLe_of (by simp; omega)
 ·rw [app_arr]; exact chkIn_of (allI_app.mpr ⟨hi.ax, hi.ay⟩) hxy
 ·exact Nat.ble_eq_true_of_le (by show st.xs.length + st.ys.length ≤ _; omega)
 ·exact tail_E st hb (push_lst _ _ _) rfl (push_lst _ _ _) rfl (hi.push hx hy) (by simp; omega) hF
theorem path4 (hlt : ¬ r1 < 2) (h2 : r1 = 2) (hx : hasB (1 + r2) st.xs = false) :
  pE_4 w t0 st.op st.re st.e1 st.e2 st.e3 st.e4 st.v k st.h4 st.h5 st.k4 st.k5 ⟨st.xs⟩ ⟨st.ys⟩ st.x st.z st.v1 st.v2 st.v3 (I_E w k) (KVof 10 F) st.b r1 uw r2 N2 t2 sb0 ub0 sb1 ub1 := by
 refine ⟨accL_ok _ _ _ okNil, ⟨⟨chkEq_of hi.ax rfl rfl, chkEq_of hi.ay rfl rfl, rfl⟩, chkLe_of (by omega), chkLe_of (by omega), chkLe_of (by omega), chkLe_of (by omega), chkIn_of hi.ax hx, chkIn_of hi.ax hx, ?_, decide_eq_false hlt, trivial⟩, ?_⟩
 ·rw [h2]; rfl
 ·exact tail_E st hb rfl rfl rfl rfl hi (by omega) hF
theorem fin_forget {LO LR : Array Value} {lo lr : Obj} {f1 f2 opi rei : Nat} (hLO : LO = ⟨filtN (1 + r2) st.xs⟩) (hLR : LR = ⟨filtN (1 + r2) st.ys⟩) (hlo : lo = lstE ⟨filtN (1 + r2) st.xs⟩ f1) (hlr : lr = lstE ⟨filtN (1 + r2) st.ys⟩ f2)
  {y1 y2 : YN} (g1 : y1.L = filtN (1 + r2) st.xs) (g2 : y2.L = filtN (1 + r2) st.ys) :
  ((chkEq LO ⟨y1.L⟩ true = true ∧ chkEq LR ⟨y2.L⟩ true = true ∧ lenI LO + lenI LR = lenI ⟨y1.L⟩ + lenI ⟨y2.L⟩) ∧ chkLe (⟨y2.L⟩ : Array Value).size = true ∧ chkLe (⟨y1.L⟩ : Array Value).size = true ∧ chkLe LR.size = true ∧ chkLe LO.size = true ∧ True) ∧
  I_E w k (olE st.x (srcE sb0 ub0 sb1 ub1 0) (frF w st.b st.x opi rei st.h4 st.k4 st.h5 st.k5 t0 t2 (.int st.v (t0 + 1)) (.int r1 uw)) (cell? (some (numV r2 t2))) lo lr opi (lstE ⟨y1.L⟩ y1.ep2) rei (lstE ⟨y2.L⟩ y2.ep2) (rngO (st.v + 1) (Int.ofNat (k + 1) - 1))) (ΓE w.params st.x.f st.x.ac st.x.it st.z) (chL st.v1 st.v2 st.v3) (F10 (KVof 10 F)) := by
 have l1 : (filtN (1 + r2) st.xs).length ≤ st.xs.length := filt_len
 have l2 : (filtN (1 + r2) st.ys).length ≤ st.ys.length := filt_len
 subst hLO hLR
 rw [g1, g2]
 exact ⟨⟨⟨chkEq_of (filt_allI hi.ax) rfl rfl, chkEq_of (filt_allI hi.ay) rfl rfl, rfl⟩, chkLe_of (by omega), chkLe_of (by omega), chkLe_of (by omega), chkLe_of (by omega), trivial⟩,
  tail_E st hb hlo hlr rfl rfl (hi.filt _) (by omega) hF⟩
omit hb hF hl in
theorem xy_true (h : hasB (1 + r2) st.xs = true ∨ hasB (1 + r2) st.ys = true) : chkIn ((⟨st.xs⟩ : Array Value) ++ ⟨st.ys⟩) (numV r2 t2) true = true := by
 rw [app_arr]
 refine chkIn_of (allI_app.mpr ⟨hi.ax, hi.ay⟩) ?_
 unfold hasB at h ⊢
 rw [List.any_append]
 rcases h with h | h <;> rw [h]
 ·rfl
 ·exact Bool.or_true _
omit hb hF hi in
theorem xy_le : chkLe ((⟨st.xs⟩ : Array Value).size + (⟨st.ys⟩ : Array Value).size) = true := Nat.ble_eq_true_of_le (by show st.xs.length + st.ys.length ≤ _; omega)
theorem path1 (hlt : r1 < 2) (h2 : r1 ≠ 2) (hx : hasB (1 + r2) st.xs = true) :
  pE_1 w t0 st.op st.re st.e1 st.e2 st.e3 st.e4 st.v k st.h4 st.h5 st.k4 st.k5 ⟨st.xs⟩ ⟨st.ys⟩ st.x st.z st.v1 st.v2 st.v3 (I_E w k) (KVof 10 F) P_ne Post_ne st.b r1 uw r2 N2 t2 sb0 ub0 sb1 ub1 := by
 have hy := hi.apart hx
 obtain ⟨f1, a3⟩ := erase_lst (u := t2 + 1) hi.ax hi.ndx hx st.e1
 have a1 : (⟨st.xs⟩ : Array Value).eraseIdxIfInBounds (idxV (numV r2 t2) st.xs) = ⟨filtN (1 + r2) st.xs⟩ := by rw [eraseIf, erase_filt hi.ax hi.ndx hx]
 have a2 : (⟨st.ys⟩ : Array Value) = ⟨filtN (1 + r2) st.ys⟩ := by rw [filt_id hi.ay hy]
 have a4 : lstE ⟨st.ys⟩ st.e2 = lstE ⟨filtN (1 + r2) st.ys⟩ st.e2 := by rw [filt_id hi.ay hy]
 exact fun _ => ⟨accL_ok _ _ _ okNil, ⟨chkIn_of hi.ay hy, chkThere_of hi.ax hx (by omega), chkIn_of hi.ax hx, beq_false_of_ne h2, xy_true st hi (.inl hx), xy_le st hl, decide_eq_true hlt, trivial⟩, ask_ne hi.ax (by omega), ⟨trivial, fun y1 N3 t3 g1 _ => ⟨accL_ok _ _ _ okNil, trivial, ask_ne hi.ay (by omega), ⟨trivial, fun y2 N4 t4 g2 => ⟨accL_ok _ _ _ okNil, fin_forget st hb hi hl hF a1 a2 a3 a4 g1.1 g2.1⟩⟩, fun y2 N4 t4 g2 => ⟨accL_ok _ _ _ okNil, fin_forget st hb hi hl hF a1 a2 a3 a4 g1.1 g2.1⟩⟩⟩, fun y1 N3 t3 g1 _ => ⟨accL_ok _ _ _ okNil, trivial, ask_ne hi.ay (by omega), ⟨trivial, fun y2 N4 t4 g2 => ⟨accL_ok _ _ _ okNil, fin_forget st hb hi hl hF a1 a2 a3 a4 g1.1 g2.1⟩⟩, fun y2 N4 t4 g2 => ⟨accL_ok _ _ _ okNil, fin_forget st hb hi hl hF a1 a2 a3 a4 g1.1 g2.1⟩⟩⟩
theorem path2 (hlt : r1 < 2) (h2 : r1 ≠ 2) (hx : hasB (1 + r2) st.xs = false) (hy : hasB (1 + r2) st.ys = true) :
  pE_2 w t0 st.op st.re st.e1 st.e2 st.e3 st.e4 st.v k st.h4 st.h5 st.k4 st.k5 ⟨st.xs⟩ ⟨st.ys⟩ st.x st.z st.v1 st.v2 st.v3 (I_E w k) (KVof 10 F) P_ne Post_ne st.b r1 uw r2 N2 t2 sb0 ub0 sb1 ub1 := by
 obtain ⟨f2, a4⟩ := erase_lst (u := t2 + 1) hi.ay hi.ndy hy st.e2
 have a2 : (⟨st.ys⟩ : Array Value).eraseIdxIfInBounds (idxV (numV r2 t2) st.ys) = ⟨filtN (1 + r2) st.ys⟩ := by rw [eraseIf, erase_filt hi.ay hi.ndy hy]
 have a1 : (⟨st.xs⟩ : Array Value) = ⟨filtN (1 + r2) st.xs⟩ := by rw [filt_id hi.ax hx]
 have a3 : lstE ⟨st.xs⟩ st.e1 = lstE ⟨filtN (1 + r2) st.xs⟩ st.e1 := by rw [filt_id hi.ax hx]
 exact fun _ => ⟨accL_ok _ _ _ okNil, ⟨chkThere_of hi.ay hy (by omega), chkIn_of hi.ay hy, chkIn_of hi.ax hx, beq_false_of_ne h2, xy_true st hi (.inr hy), xy_le st hl, decide_eq_true hlt, trivial⟩, ask_ne hi.ax (by omega), ⟨trivial, fun y1 N3 t3 g1 _ => ⟨accL_ok _ _ _ okNil, trivial, ask_ne hi.ay (by omega), ⟨trivial, fun y2 N4 t4 g2 => ⟨accL_ok _ _ _ okNil, fin_forget st hb hi hl hF a1 a2 a3 a4 g1.1 g2.1⟩⟩, fun y2 N4 t4 g2 => ⟨accL_ok _ _ _ okNil, fin_forget st hb hi hl hF a1 a2 a3 a4 g1.1 g2.1⟩⟩⟩, fun y1 N3 t3 g1 _ => ⟨accL_ok _ _ _ okNil, trivial, ask_ne hi.ay (by omega), ⟨trivial, fun y2 N4 t4 g2 => ⟨accL_ok _ _ _ okNil, fin_forget st hb hi hl hF a1 a2 a3 a4 g1.1 g2.1⟩⟩, fun y2 N4 t4 g2 => ⟨accL_ok _ _ _ okNil, fin_forget st hb hi hl hF a1 a2 a3 a4 g1.1 g2.1⟩⟩⟩
theorem path5 (hlt : ¬ r1 < 2) (h2 : r1 ≠ 2) (hx : hasB (1 + r2) st.xs = true) :
  pE_5 w t0 st.op st.re st.e1 st.e2 st.e3 st.e4 st.v k st.h4 st.h5 st.k4 st.k5 ⟨st.xs⟩ ⟨st.ys⟩ st.x st.z st.v1 st.v2 st.v3 (I_E w k) (KVof 10 F) P_ne Post_ne st.b r1 uw r2 N2 t2 sb0 ub0 sb1 ub1 := by
 have hy := hi.apart hx
 obtain ⟨f1, a3⟩ := erase_lst (u := t2 + 1) hi.ax hi.ndx hx st.e1
 have a1 : (⟨st.xs⟩ : Array Value).eraseIdxIfInBounds (idxV (numV r2 t2) st.xs) = ⟨filtN (1 + r2) st.xs⟩ := by rw [eraseIf, erase_filt hi.ax hi.ndx hx]
 have a2 : (⟨st.ys⟩ : Array Value) = ⟨filtN (1 + r2) st.ys⟩ := by rw [filt_id hi.ay hy]
 have a4 : lstE ⟨st.ys⟩ st.e2 = lstE ⟨filtN (1 + r2) st.ys⟩ st.e2 := by rw [filt_id hi.ay hy]
 exact fun _ => ⟨accL_ok _ _ _ okNil, ⟨chkIn_of hi.ay hy, chkThere_of hi.ax hx (by omega), chkIn_of hi.ax hx, beq_false_of_ne h2, decide_eq_false hlt, trivial⟩, ask_ne hi.ax (by omega), ⟨trivial, fun y1 N3 t3 g1 _ => ⟨accL_ok _ _ _ okNil, trivial, ask_ne hi.ay (by omega), ⟨trivial, fun y2 N4 t4 g2 => ⟨accL_ok _ _ _ okNil, fin_forget st hb hi hl hF a1 a2 a3 a4 g1.1 g2.1⟩⟩, fun y2 N4 t4 g2 => ⟨accL_ok _ _ _ okNil, fin_forget st hb hi hl hF a1 a2 a3 a4 g1.1 g2.1⟩⟩⟩, fun y1 N3 t3 g1 _ => ⟨accL_ok _ _ _ okNil, trivial, ask_ne hi.ay (by omega), ⟨trivial, fun y2 N4 t4 g2 => ⟨accL_ok _ _ _ okNil, fin_forget st hb hi hl hF a1 a2 a3 a4 g1.1 g2.1⟩⟩, fun y2 N4 t4 g2 => ⟨accL_ok _ _ _ okNil, fin_forget st hb hi hl hF a1 a2 a3 a4 g1.1 g2.1⟩⟩⟩
theorem path6 (hlt : ¬ r1 < 2) (h2 : r1 ≠ 2) (hx : hasB (1 + r2) st.xs = false) (hy : hasB (1 + r2) st.ys = true) :
  pE_6 w t0 st.op st.re st.e1 st.e2 st.e3 st.e4 st.v k st.h4 st.h5 st.k4 st.k5 ⟨st.xs⟩ ⟨st.ys⟩ st.x st.z st.v1 st.v2 st.v3 (I_E w k) (KVof 10 F) P_ne Post_ne st.b r1 uw r2 N2 t2 sb0 ub0 sb1 ub1 := by
 obtain ⟨f2, a4⟩ := erase_lst (u := t2 + 1) hi.ay hi.ndy hy st.e2
 have a2 : (⟨st.ys⟩ : Array Value).eraseIdxIfInBounds (idxV (numV r2 t2) st.ys) = ⟨filtN (1 + r2) st.ys⟩ := by rw [eraseIf, erase_filt hi.ay hi.ndy hy]
 have a1 : (⟨st.xs⟩ : Array Value) = ⟨filtN (1 + r2) st.xs⟩ := by rw [filt_id hi.ax hx]
 have a3 : lstE ⟨st.xs⟩ st.e1 = lstE ⟨filtN (1 + r2) st.xs⟩ st.e1 := by rw [filt_id hi.ax hx]
 exact fun _ => ⟨accL_ok _ _ _ okNil, ⟨chkThere_of hi.ay hy (by omega), chkIn_of hi.ay hy, chkIn_of hi.ax hx, beq_false_of_ne h2, decide_eq_false hlt, trivial⟩, ask_ne hi.ax (by omega), ⟨trivial, fun y1 N3 t3 g1 _ => ⟨accL_ok _ _ _ okNil, trivial, ask_ne hi.ay (by omega), ⟨trivial, fun y2 N4 t4 g2 => ⟨accL_ok _ _ _ okNil, fin_forget st hb hi hl hF a1 a2 a3 a4 g1.1 g2.1⟩⟩, fun y2 N4 t4 g2 => ⟨accL_ok _ _ _ okNil, fin_forget st hb hi hl hF a1 a2 a3 a4 g1.1 g2.1⟩⟩⟩, fun y1 N3 t3 g1 _ => ⟨accL_ok _ _ _ okNil, trivial, ask_ne hi.ay (by omega), ⟨trivial, fun y2 N4 t4 g2 => ⟨accL_ok _ _ _ okNil, fin_forget st hb hi hl hF a1 a2 a3 a4 g1.1 g2.1⟩⟩, fun y2 N4 t4 g2 => ⟨accL_ok _ _ _ okNil, fin_forget st hb hi hl hF a1 a2 a3 a4 g1.1 g2.1⟩⟩⟩
theorem path7 (hlt : ¬ r1 < 2) (h2 : r1 ≠ 2) (hx : hasB (1 + r2) st.xs = false) (hy : hasB (1 + r2) st.ys = false) :
  pE_7 w t0 st.op st.re st.e1 st.e2 st.e3 st.e4 st.v k st.h4 st.h5 st.k4 st.k5 ⟨st.xs⟩ ⟨st.ys⟩ st.x st.z st.v1 st.v2 st.v3 (I_E w k) (KVof 10 F) P_ne Post_ne st.b r1 uw r2 N2 t2 sb0 ub0 sb1 ub1 := by
 have a1 : (⟨st.xs⟩ : Array Value) = ⟨filtN (1 + r2) st.xs⟩ := by rw [filt_id hi.ax hx]
 have a3 : lstE ⟨st.xs⟩ st.e1 = lstE ⟨filtN (1 + r2) st.xs⟩ st.e1 := by rw [filt_id hi.ax hx]
 have a2 : (⟨st.ys⟩ : Array Value) = ⟨filtN (1 + r2) st.ys⟩ := by rw [filt_id hi.ay hy]
 have a4 : lstE ⟨st.ys⟩ st.e2 = lstE ⟨filtN (1 + r2) st.ys⟩ st.e2 := by rw [filt_id hi.ay hy]
 exact fun _ => ⟨accL_ok _ _ _ okNil, ⟨chkIn_of hi.ay hy, chkIn_of hi.ax hx, beq_false_of_ne h2, decide_eq_false hlt, trivial⟩, ask_ne hi.ax (by omega), ⟨trivial, fun y1 N3 t3 g1 _ => ⟨accL_ok _ _ _ okNil, trivial, ask_ne hi.ay (by omega), ⟨trivial, fun y2 N4 t4 g2 => ⟨accL_ok _ _ _ okNil, fin_forget st hb hi hl hF a1 a2 a3 a4 g1.1 g2.1⟩⟩, fun y2 N4 t4 g2 => ⟨accL_ok _ _ _ okNil, fin_forget st hb hi hl hF a1 a2 a3 a4 g1.1 g2.1⟩⟩⟩, fun y1 N3 t3 g1 _ => ⟨accL_ok _ _ _ okNil, trivial, ask_ne hi.ay (by omega), ⟨trivial, fun y2 N4 t4 g2 => ⟨accL_ok _ _ _ okNil, fin_forget st hb hi hl hF a1 a2 a3 a4 g1.1 g2.1⟩⟩, fun y2 N4 t4 g2 => ⟨accL_ok _ _ _ okNil, fin_forget st hb hi hl hF a1 a2 a3 a4 g1.1 g2.1⟩⟩⟩
theorem fin_move {opi rei : Nat} {lo : Obj} {f1 : Nat} {LO : Array Value} (hLO : LO = ⟨filtN (1 + r2) st.xs⟩) (hlo : lo = lstE ⟨filtN (1 + r2) st.xs⟩ f1) (hx : hasB (1 + r2) st.xs = true) {y1 : YN} (g1 : y1.L = filtN (1 + r2) st.xs) :
  ((chkEq LO ⟨y1.L⟩ true = true ∧ chkEq ((⟨st.ys⟩ : Array Value).push (numV r2 t2)) ((⟨st.ys⟩ : Array Value) ++ #[numV r2 t2]) true = true ∧ lenI LO + lenI ((⟨st.ys⟩ : Array Value).push (numV r2 t2)) = lenI ⟨y1.L⟩ + lenI ((⟨st.ys⟩ : Array Value) ++ #[numV r2 t2])) ∧
   chkLe ((⟨st.ys⟩ : Array Value) ++ #[numV r2 t2]).size = true ∧ chkLe (⟨y1.L⟩ : Array Value).size = true ∧ chkLe ((⟨st.ys⟩ : Array Value).push (numV r2 t2)).size = true ∧ chkLe LO.size = true ∧ chkLe ((⟨st.ys⟩ : Array Value).size + (#[numV r2 t2] : Array Value).size) = true ∧ True) ∧
  I_E w k (olE st.x (srcE sb0 ub0 sb1 ub1 0) (frF w st.b st.x opi rei st.h4 st.k4 st.h5 st.k5 t0 t2 (.int st.v (t0 + 1)) (.int r1 uw)) (cell? (some (numV r2 t2))) lo (pushO (numV r2 t2) (lstE ⟨st.ys⟩ st.e2)) opi (lstE ⟨y1.L⟩ y1.ep2) rei (listO ((⟨st.ys⟩ : Array Value) ++ #[numV r2 t2])) (rngO (st.v + 1) (Int.ofNat (k + 1) - 1))) (ΓE w.params st.x.f st.x.ac st.x.it st.z) (chL st.v1 st.v2 st.v3) (F10 (KVof 10 F)) := by
 have l1 : (filtN (1 + r2) st.xs).length ≤ st.xs.length := filt_len
 have hm := hi.move (u := t2 + 1) hx
 subst hLO
 rw [g1]
 have e1 : (⟨st.ys⟩ : Array Value) ++ #[numV r2 t2] = ⟨st.ys ++ [numV r2 t2]⟩ := app_arr _ _
 have lr : (st.ys ++ [numV r2 t2]).length = st.ys.length + 1 := by simp
 have lf : (filtN (1 + r2) st.xs).length + 1 ≤ st.xs.length := by
  have := erase_filt (u := t2 + 1) hi.ax hi.ndx hx
  have hi' := (idxV_ok (numV r2 t2) st.xs (by rw [any_has _ _ hi.ax]; exact hx)).1
  rw [← this, List.length_eraseIdx_of_lt hi']
  omega
 rw [push_arr, e1, push_lst]
 exact ⟨⟨⟨chkEq_of (filt_allI hi.ax) rfl rfl, chkEq_of hm.ay rfl rfl, rfl⟩, chkLe_of (by omega), chkLe_of (by omega), chkLe_of (by omega), chkLe_of (by omega), Nat.ble_eq_true_of_le (by show st.ys.length + 1 ≤ _; omega), trivial⟩,
  tail_E st hb hlo rfl rfl (show listO _ = lstE _ 0 from rfl) hm (by omega) hF⟩
theorem path3 (hlt : ¬ r1 < 2) (h2 : r1 = 2) (hx : hasB (1 + r2) st.xs = true) :
  pE_3 w t0 st.op st.re st.e1 st.e2 st.e3 st.v k st.h4 st.h5 st.k4 st.k5 ⟨st.xs⟩ ⟨st.ys⟩ st.x st.z st.v1 st.v2 st.v3 (I_E w k) (KVof 10 F) P_ne Post_ne st.b r1 uw r2 N2 t2 sb0 ub0 sb1 ub1 := by
 obtain ⟨f1, a3⟩ := erase_lst (u := t2 + 1) hi.ax hi.ndx hx st.e1
 have a1 : (⟨st.xs⟩ : Array Value).eraseIdxIfInBounds (idxV (numV r2 t2) st.xs) = ⟨filtN (1 + r2) st.xs⟩ := by rw [eraseIf, erase_filt hi.ax hi.ndx hx]
 exact fun _ => ⟨accL_ok _ _ _ okNil, ⟨chkIn_of hi.ax hx, chkLe_of (by omega), chkThere_of hi.ax hx (by omega), chkIn_of hi.ax hx, by rw [h2]; rfl, decide_eq_false hlt, trivial⟩, ask_ne hi.ax (by omega), ⟨trivial, fun y1 N3 t3 g1 => ⟨accL_ok _ _ _ okNil, fin_move st hb hi hl hF a1 a3 hx g1.1⟩⟩, fun y1 N3 t3 g1 => ⟨accL_ok _ _ _ okNil, fin_move st hb hi hl hF a1 a3 hx g1.1⟩⟩
end
theorem hkOf4_ok {V : XW} {f g i j : HB} (hf : HBOk V f) (hg : HBOk V g) (hi : HBOk V i) (hj : HBOk V j) : HkW V (hkOf [f, g, i, j]) := hkOf_ok fun x hx => by
 cases hx with
 | head => exact hf
 | tail _ hx => cases hx with
  | head => exact hg
  | tail _ hx => cases hx with
   | head => exact hi
   | tail _ hx => cases hx with
    | head => exact hj
    | tail _ hx => cases hx
theorem E_ok (w : World) (h : Heap) (d : Drawn) (os : OsState) : ∀ k, CtOk 10 (I_E w k) w h d os
 | 0 => by
  intro X O l Γ p R g N t0 ch F hl hI D K
  obtain ⟨st, rfl, rfl, rfl, hb, hi, hlen, hb2, hF⟩ := hI
  have hbt : st.b = true := hb2.elim id (fun q => absurd q (Nat.lt_irrefl 0))
  have run := (runLE_end w N t0 st.op st.re st.e1 st.e2 st.e3 st.e4 st.nu st.n st.v st.s0 st.u0 st.s1 st.u1 st.h4 st.h5 st.k4 st.k5 st.vt st.vw ⟨st.xs⟩ ⟨st.ys⟩ h d os X st.x st.z p st.v1 st.v2 st.v3 (fun _ _ _ _ => False) (KVof 10 F) P_ne Post_ne
   (w.params.followText "special-get-raises") (w.params.followText "comprehension-iter-twice") st.b).mpr ?_
  ·unfold simE at run
   rw [wF_self] at run
   refine ct_run (by decide) O (hkOf4_ok (hkTakeA_ok O) (hkTakeX_ok O 8 brE) (hkB_ok (C := C_ne) O (C_ne_ok w h d os) (by decide)) ?_) run D K
   exact hkT_ok O (fun _ _ _ _ _ _ _ _ _ _ _ _ h => h.elim) (fun _ _ _ _ _ _ h => h) (by decide)
  ·refine ⟨accL_ok _ _ _ okNil, trivial, _, N + 2, t0, hF ⟨st.x.epf, st.op, st.re, st.s0, st.u0, st.s1, st.u1, st.h4, st.h5, st.k4, st.k5, st.vt, st.vw, clI st.b (.int st.n st.nu), lstE ⟨st.xs⟩ st.e1, lstE ⟨st.ys⟩ st.e2, lstE ⟨st.xs⟩ st.e3, lstE ⟨st.ys⟩ st.e4, rngO st.v (Int.ofNat 0)⟩ (N + 2) t0 hb, rfl, ?_, by omega, rfl⟩
   rw [hbt]; rfl
 | k + 1 => by
  intro X O l Γ p R g N t0 ch F hl hI D K
  obtain ⟨st, rfl, rfl, rfl, hb, hi, hlen, hb2, hF⟩ := hI
  have R' : rhsLE w t0 st.op st.re st.e1 st.e2 st.e3 st.e4 st.v k st.s0 st.s1 st.h4 st.h5 st.k4 st.k5 ⟨st.xs⟩ ⟨st.ys⟩ st.x st.z st.v1 st.v2 st.v3 (I_E w k) (KVof 10 F) P_ne Post_ne st.b := by
   refine ⟨accL_ok _ _ _ okNil, trivial, hb, fun r1 uw N1 t1 sa0 ua0 sa1 ua1 _ _ hba => ⟨accL_ok _ _ _ okNil, trivial, hba, fun r2 uq N2 t2 sb0 ub0 sb1 ub1 _ _ hbb => ?_⟩⟩
   by_cases hlt : r1 < 2
   ·have h2 : r1 ≠ 2 := by omega
    cases hx : hasB (1 + r2) st.xs with
    | true => exact .inl (.inl (.inl (.inl (.inl (.inl (.inr (path1 st hbb hi hlen hF hlt h2 hx)))))))
    | false =>
     cases hy : hasB (1 + r2) st.ys with
     | true => exact .inl (.inl (.inl (.inl (.inl (.inr (path2 st hbb hi hlen hF hlt h2 hx hy))))))
     | false => exact .inl (.inl (.inl (.inl (.inl (.inl (.inl (.inr (path0 st hbb hi hlen hF hlt hx hy))))))))
   ·by_cases h2 : r1 = 2
    ·cases hx : hasB (1 + r2) st.xs with
     | true => exact .inl (.inl (.inl (.inl (.inr (path3 st hbb hi hlen hF hlt h2 hx)))))
     | false => exact .inl (.inl (.inl (.inr (path4 st hbb hi hlen hF hlt h2 hx))))
    ·cases hx : hasB (1 + r2) st.xs with
     | true => exact .inl (.inl (.inr (path5 st hbb hi hlen hF hlt h2 hx)))
     | false =>
      cases hy : hasB (1 + r2) st.ys with
      | true => exact .inl (.inr (path6 st hbb hi hlen hF hlt h2 hx hy))
      | false => exact .inr (path7 st hbb hi hlen hF hlt h2 hx hy)
  have run := (runLE w N t0 st.op st.re st.e1 st.e2 st.e3 st.e4 st.nu st.n st.v k st.s0 st.u0 st.s1 st.u1 st.h4 st.h5 st.k4 st.k5 st.vt st.vw ⟨st.xs⟩ ⟨st.ys⟩ h d os X st.x st.z p st.v1 st.v2 st.v3 (I_E w k) (KVof 10 F) P_ne Post_ne (w.params.followText "comprehension-iter-twice") (w.params.followText "special-get-raises") st.b).mpr R'
  unfold simE at run
  rw [wF_self] at run
  exact ct_run (by decide) O (hkOf4_ok (hkTakeA_ok O) (hkTakeX_ok O 8 brE) (hkB_ok (C := C_ne) O (C_ne_ok w h d os) (by decide)) (hkT_ok O (E_ok w h d os k) (I_E_mono w k) (by decide))) run D K
section
variable {w : World} {h : Heap} {d : Drawn} {os : OsState} {X : Nat → Option Obj}
structure CtM where
 n : Nat
 m : Nat
 Y : Type
 sp : List (Code × Pos) → Bool
 P : OL → Code → Prop
 res : Y → Result
 out : OL → Y → OL
 Post : OL → Y → Prop
 len : ∀ l y, (out l y).length = m
def CtM.I (C : CtM) : IT := fun l Γ ch F => C.P l Γ.code ∧ Γ.handled = none ∧ Γ.own = none ∧ Γ.past = none ∧ C.sp Γ.below = true ∧ (∃ v : Array Value × Array Value × Array Value, ch = chL v.1 v.2.1 v.2.2) ∧ ∀ y N' t', C.Post l y → F (C.res y) (C.out l y) N' t' ch
def rdM (sp : List (Code × Pos) → Bool) (n : Nat) (js : List Nat) (Γ : PySem.Ctx) (T : MT) (τ : Nat) (ch : Ch) : Option (DCt × Array Value × Array Value × Array Value) := bT (pl Γ) (bT (sp Γ.below) (rdC n js Γ T τ ch))
theorem rdM_k {sp : List (Code × Pos) → Bool} {n : Nat} {js : List Nat} {Γ : PySem.Ctx} {T : MT} {τ : Nat} {ch : Ch} {d : DCt × Array Value × Array Value × Array Value} (h : rdM sp n js Γ T τ ch = some d) {P : Prop} (k : ∀ t, Γ = d.1.Γ → τ = t + 1 → d.1.l.length = n → Reads T d.1.is d.1.l → d.1.is.Nodup → ch = chL d.2.1 d.2.2.1 d.2.2.2 → d.1.Γ.handled = none ∧ d.1.Γ.own = none ∧ d.1.Γ.past = none → sp d.1.Γ.below = true → P) : P :=
 inv_t h fun e0 h => inv_t h fun e1 h => rdC_k h fun t f1 f2 f3 f4 f5 f6 => k t f1 f2 f3 f4 f5 f6 (f1 ▸ pl_ok e0) (f1 ▸ e1)
def hkM (C : CtM) : HB := hkD (rdM C.sp C.n) fun d _ _ ch => ([], fun K => C.P d.1.l d.1.Γ.code ∧ ∀ y N' t', C.Post d.1.l y → K (C.res y) (listT (C.out d.1.l y)) C.m (N' + 1723) 0 (t' + 1) 0 ch d.1.r)
theorem hkM_ok (O : (VX w h d os X).Ok) {C : CtM} (H : CtOk C.n C.I w h d os) (hn : C.n ≤ 63) : HBOk (VX w h d os X) (hkM C) :=
 hkD_ok (fun d T m ch F G hFG x => ⟨x.1, fun y N' t' hy => hFG _ _ _ _ _ _ _ _ _ (x.2 y N' t' hy)⟩)
 fun js Γ p T m B c τ i ch d e hps R g D x => rdM_k e fun t e1 e2 h1 h2 h3 h4 h5 h6 => by
  rw [e1, e2]
  refine ct_use (F := fun r' l' N' t' ch' => ∃ y, r' = C.res y ∧ l' = C.out d.1.l y ∧ C.Post d.1.l y ∧ ch' = ch) O H hn h1 h2 h3 D ⟨x.1, h5.1, h5.2.1, h5.2.2, h6, ⟨d.2, h4⟩, fun y N' t' hy => ⟨y, rfl, rfl, hy, rfl⟩⟩ fun r' l' N' t' ch' hF g' D' => ?_
  obtain ⟨y, e3, e4, hy, e5⟩ := hF
  rw [e4, e5, C.len] at D'
  rw [e3]
  exact x.2 y N' t' hy g' (back_sub O D h2 (h1 ▸ hn) D')
end
def sp3 (bl : List (Code × Pos)) : Bool := yes (bL bl fun x r => bL r fun y r => bL r fun z r => bN r (bO (cF x.1) fun _ => bO (cF y.1) fun _ => bT (isCl z.1) (some ())))
theorem sp3_ok {bl : List (Code × Pos)} (h : sp3 bl = true) : ∃ z : SP, bl = z.bl :=
 inv_l (yes_ok h) fun x r e h => inv_l h fun y r2 e2 h => inv_l h fun z r3 e3 h => inv_n h fun e4 h => inv_o h fun a e5 h => inv_o h fun b e6 h => inv_t h fun e7 _ => by
  obtain ⟨x, p1⟩ := x
  obtain ⟨y, p2⟩ := y
  obtain ⟨z, p3⟩ := z
  refine ⟨⟨a.1, a.2, p1, b.1, b.2, p2, p3⟩, ?_⟩
  rw [e, e2, e3, e4, show x = _ from cF_ok e5, show y = _ from cF_ok e6, show z = _ from isCl_ok e7]; rfl
def addrD (l : OL) (k : Nat) : Nat := match nthO l k with
 | some x => x.1
 | none => 0
structure YE where
 h : Nat → Int
 k : Nat → Nat
 epd : Nat
 e : EndE
def exE (l : OL) (y : YE) : EF := ⟨addrD l 0, addrD l 1, addrD l 2, addrD l 3, addrD l 4, addrD l 5, addrD l 6, addrD l 9, y.h, y.k, 0, y.epd⟩
def outE (l : OL) (y : YE) : OL := y.e.ol (exE l y)
def resE (_ : YE) : Result := .ok .next
def P_E (w : World) (l : OL) (c : Code) : Prop := ∃ (x : EF) (op re e1 e2 e3 e4 k : Nat) (v : Int) (s0 : Int) (u0 : Nat) (s1 : Int) (u1 : Nat), 0 < k ∧ k ≤ 100 ∧ Bd s0 s1 ∧
 l = olE x (srcE s0 u0 s1 u1 0) (frmO (frE4 x op re) x.epf) (cell? none) (lstE #[] e1) (lstE #[] e2) op (lstE #[] e3) re (lstE #[] e4) (rngO v (Int.ofNat k)) ∧ c = codeE w.params x.f x.ac x.it
def Post_E (_ : OL) (y : YE) : Prop := Bd y.e.s0 y.e.s1
def C_E (w : World) : CtM := ⟨10, 10, YE, sp3, P_E w, resE, outE, Post_E, fun _ _ => rfl⟩
theorem C_E_ok (w : World) (h : Heap) (d : Drawn) (os : OsState) : CtOk (C_E w).n (C_E w).I w h d os := by
 intro X O l Γ p R g N t0 ch F hl hI D K
 obtain ⟨⟨x, op, re, e1, e2, e3, e4, k, v, s0, u0, s1, u1, hk, hk2, hb, rfl, h2⟩, i1, i2, i3, hsp, ⟨ch', rfl⟩, hF⟩ := hI
 obtain ⟨code, hd, own, bl, past⟩ := Γ
 simp only at i1 i2 i3 h2
 subst i1 i2 i3 h2
 obtain ⟨z, rfl⟩ := sp3_ok hsp
 refine E_ok w h d os k X O _ _ p R g N t0 _ F hl ⟨⟨x, op, re, e1, e2, e3, e4, 0, 0, v, s0, u0, s1, u1, 0, 0, 0, 0, .none, .none, [], [], z, false, ch'.1, ch'.2.1, ch'.2.2⟩, rfl, rfl, rfl, hb, ⟨fun _ h => (nomatch h), fun _ h => (nomatch h), .nil⟩, by simpa using hk2, .inr hk, fun y N' t' hy => ?_⟩ D K
 exact hF ⟨x.h, x.k, x.epd, y⟩ N' t' hy
abbrev XT := Nat → Option Obj
abbrev IX := XT → IT
def lookA (l : OL) (a : Nat) : Option Obj := List.rec (motive := fun _ => Option Obj) none (fun x _ ih => Bool.rec ih (some x.2) (Nat.beq x.1 a)) l
def exL (X : XT) (l : OL) : XT := fun a => match lookA l a with
 | some o => some o
 | none => X a
theorem lookA_mem : ∀ {l : OL} {a : Nat} {o : Obj}, lookA l a = some o → (a, o) ∈ l
 | [], a, o, h => by cases h
 | x :: l, a, o, h => by
  have h' : (Bool.rec (lookA l a) (some x.2) (Nat.beq x.1 a) : Option Obj) = some o := h
  cases e : Nat.beq x.1 a with
  | true =>
   rw [e] at h'
   have h' : some x.2 = some o := h'
   cases h'
   rw [← Nat.eq_of_beq_eq_true e]; exact .head _
  | false => rw [e] at h'; exact .tail _ (lookA_mem h')
def SubX (X Y : XT) : Prop := ∀ a o, X a = some o → Y a = some o
def MonoX (I : IX) : Prop := ∀ X Y, SubX X Y → ∀ l Γ ch F, I X l Γ ch F → I Y l Γ ch F
section
variable {w : World} {h : Heap} {d : Drawn} {os : OsState} {X : XT}
def offX (X : XT) (b : Nat) : XT := fun a => if a = b then none else X a
theorem nthO_app (l : OL) (x : Nat × Obj) (k : Nat) : nthO (l ++ [x]) k = if k < l.length then nthO l k else if k = l.length then some x else none := by
 rw [nthO_is, nthO_is]
 split
 ·rw [List.getElem?_append_left (by assumption)]
 ·rename_i hk
  rw [List.getElem?_append_right (by omega)]
  split
  ·rename_i e; simp [e]
  ·rename_i e
   rw [List.getElem?_eq_none_iff]
   simp; omega
theorem Rp.thaw (O : (VX w h d os X).Ok) {l : OL} {b0 : Nat} {ch : Ch} {g : Heap} {b : Nat} {o : Obj} (hl : l.length ≤ 62) (D : Rp (VX w h d os X) (listT l) l.length b0 ch g) (hb : X b = some o) : Rp (VX w h d os (offX X b)) (listT (l ++ [(b, o)])) (l.length + 1) b0 ch g := by
 have lenA : (l ++ [(b, o)]).length ≤ 63 := by simp; omega
 have G : ∀ k x, (listT (l ++ [(b, o)])).get k = some x → ((listT l).get k = some x ∧ k < l.length) ∨ (k = l.length ∧ x = (b, o)) := fun k x hx => by
  rw [listT_get lenA, nthO_app] at hx
  split at hx
  ·rename_i hk; exact .inl ⟨by rw [listT_get (by omega)]; exact hx, hk⟩
  ·split at hx
   ·rename_i e; cases hx; exact .inr ⟨e, rfl⟩
   ·cases hx
 have ne : ∀ k x, (listT l).get k = some x → x.1 ≠ b := fun k x hx q => by
  have := D.exo k x.1 x.2 hx
  rw [q, show (VX w h d os X).ex b = X b from rfl, hb] at this; cases this
 have hlt : b < b0 := by
  have := Heap.lt_size (D.exk b o hb)
  rw [D.size] at this; exact this
 refine ⟨D.size, D.low, fun j a o' e => ?_, fun i j a o1 o2 e1 e2 => ?_, D.keep, D.ch, fun a o' e => ?_, fun j a o' e => ?_⟩
 ·rcases G j _ e with ⟨q, hk⟩ | ⟨q, r⟩
  ·obtain ⟨z1, z2⟩ := D.own j a o' q
   exact ⟨by omega, z2⟩
  ·cases r
   exact ⟨by omega, O.exn b o hb, hlt, D.exk b o hb⟩
 ·rcases G i _ e1 with ⟨q, hk⟩ | ⟨q, r⟩ <;> rcases G j _ e2 with ⟨q', hk'⟩ | ⟨q', r'⟩
  ·exact D.one i j a o1 o2 q q'
  ·cases r'; exact absurd rfl (ne i _ q)
  ·cases r; exact absurd rfl (ne j _ q')
  ·omega
 ·have e : (if a = b then none else X a) = some o' := e
  split at e
  ·cases e
  ·exact D.exk a o' e
 ·show (if a = b then none else X a) = none
  rcases G j _ e with ⟨q, hk⟩ | ⟨q, r⟩
  ·rw [if_neg (ne j _ q)]; exact D.exo j a o' q
  ·cases r; rw [if_pos rfl]
theorem offX_ok (O : (VX w h d os X).Ok) (b : Nat) : (VX w h d os (offX X b)).Ok := VX_ok O fun a o e => by
 have e : (if a = b then none else X a) = some o := e
 split at e
 ·cases e
 ·exact O.exn a o e
def offL (X : XT) (l : OL) : XT := fun a => Bool.rec (X a) none (l.any fun x => x.1 == a)
theorem offL_none {l : OL} {a : Nat} (h : (l.any fun x => x.1 == a) = true) : offL X l a = none := by unfold offL; rw [h]
theorem offL_else {l : OL} {a : Nat} (h : (l.any fun x => x.1 == a) = false) : offL X l a = X a := by unfold offL; rw [h]
theorem thawL : ∀ (lx l' : OL) (X' : XT) {b0 : Nat} {ch : Ch} {g : Heap}, (VX w h d os X').Ok → Rp (VX w h d os X') (listT l') l'.length b0 ch g → (∀ x ∈ lx, X' x.1 = some x.2) → (lx.map Prod.fst).Nodup → l'.length + lx.length ≤ 62 →
  Rp (VX w h d os (offL X' lx)) (listT (l' ++ lx)) (l'.length + lx.length) b0 ch g
 | [], l', X', b0, ch, g, O, D, _, _, _ => by
  rw [List.append_nil]
  exact D
 | x :: lx, l', X', b0, ch, g, O, D, hx, hn, hl => by
  rw [List.map_cons, List.nodup_cons] at hn
  rw [List.length_cons] at hl
  have D1 := Rp.thaw O (b := x.1) (o := x.2) (by omega) D (hx x (.head _))
  have e : (l' ++ [(x.1, x.2)]).length = l'.length + 1 := by simp
  have D2 := thawL lx (l' ++ [(x.1, x.2)]) (offX X' x.1) (offX_ok O x.1) (by rw [e]; exact D1) (fun y hy => by
   show (if y.1 = x.1 then none else X' y.1) = some y.2
   rw [if_neg (fun q : y.1 = x.1 => hn.1 (List.mem_map.mpr ⟨y, hy, q⟩))]
   exact hx y (.tail _ hy)) hn.2 (by rw [e]; omega)
  rw [e, List.append_assoc] at D2
  have e3 : l'.length + 1 + lx.length = l'.length + (x :: lx).length := by rw [List.length_cons]; omega
  rw [e3] at D2
  refine D2.sub fun a o ha => ?_
  cases q : (List.any (x :: lx) fun y => y.1 == a) with
  | true => rw [offL_none q] at ha; cases ha
  | false =>
   rw [offL_else q] at ha
   rw [List.any_cons, Bool.or_eq_false_iff] at q
   rw [offL_else q.2]
   show (if a = x.1 then none else X' a) = some o
   rw [if_neg (fun w => by rw [w, beq_self_eq_true] at q; cases q.1)]
   exact ha
theorem Rp.freeze (O : (VX w h d os X).Ok) {T T' : MT} {m m' b0 q b : Nat} {o : Obj} {ch : Ch} {g : Heap} (D : Rp (VX w h d os (offX X b)) T m b0 ch g) (e : T.get q = some (b, o)) (hX : X b = some o) (H : ∀ j x, T'.get j = some x → j < m' ∧ j ≠ q ∧ T.get j = some x) : Rp (VX w h d os X) T' m' b0 ch g :=
 ⟨D.size, D.low, fun j a o' e' => let z := H j _ e'; ⟨z.1, (D.own j a o' z.2.2).2⟩, fun i j a o1 o2 e1 e2 => D.one i j a o1 o2 (H i _ e1).2.2 (H j _ e2).2.2, D.keep, D.ch, fun a o' e' => by
  by_cases hab : a = b
  ·subst hab
   have e' : X a = some o' := e'
   rw [hX] at e'
   cases e'
   exact (D.own q a o e).2.2.2
  ·exact D.exk a o' (show (if a = b then none else X a) = some o' by rw [if_neg hab]; exact e'), fun j a o' e' => by
  have z := H j _ e'
  have hab : a ≠ b := fun w => by
   subst w
   exact z.2.1 (D.one j q a o' o z.2.2 e)
  have := D.exo j a o' z.2.2
  have t : (if a = b then none else X a) = none := this
  rw [if_neg hab] at t
  exact t⟩
theorem reads_take {T : MT} {is : List Nat} {l : OL} (n : Nat) (h : Reads T is l) : Reads T (is.take n) (l.take n) := by
 unfold Reads at h ⊢
 rw [List.map_take, List.map_take, h]
theorem reads_drop {T : MT} {is : List Nat} {l : OL} (n : Nat) (h : Reads T is l) : Reads T (is.drop n) (l.drop n) := by
 unfold Reads at h ⊢
 rw [List.map_drop, List.map_drop, h]
theorem reads_mem {T : MT} {is : List Nat} {l : OL} (h : Reads T is l) {x : Nat × Obj} (hx : x ∈ l) : ∃ i ∈ is, T.get i = some x := by
 have : some x ∈ is.map T.get := by rw [show is.map T.get = _ from h]; exact List.mem_map.mpr ⟨x, hx, rfl⟩
 exact List.mem_map.mp this
theorem reads_nodup {T : MT} {m b : Nat} {ch : Ch} {g : Heap} (D : Rp (VX w h d os X) T m b ch g) : ∀ {is : List Nat} {l : OL}, Reads T is l → is.Nodup → (l.map Prod.fst).Nodup
 | _, [], _, _ => .nil
 | [], _ :: _, r, _ => by cases r
 | i :: is, x :: l, r, hn => by
  rw [List.nodup_cons] at hn
  rw [List.map_cons, List.nodup_cons]
  have e : T.get i = some x := (List.cons.inj r).1
  have r : Reads T is l := (List.cons.inj r).2
  refine ⟨fun hm => ?_, reads_nodup D r hn.2⟩
  obtain ⟨y, hy, hyx⟩ := List.mem_map.mp hm
  obtain ⟨i2, hi2, hT⟩ := reads_mem r hy
  have : i2 = i := D.one i2 i y.1 y.2 x.2 hT (by rw [hyx]; exact e)
  exact hn.1 (this ▸ hi2)
theorem frz_out {T : MT} {m b n : Nat} {ch : Ch} {g : Heap} {is : List Nat} {l : OL} (D : Rp (VX w h d os X) T m b ch g) (h2 : Reads T is l) (h3 : is.Nodup) (hl : (l.take n).length ≤ 63) {y : Nat × Obj} (hy : y ∈ l.drop n) : frz g (listT (l.take n)) y.1 = some y.2 := by
 obtain ⟨i, hi, hT⟩ := reads_mem (reads_drop n h2) hy
 obtain ⟨z1, z2, z3, z4⟩ := D.own i y.1 y.2 hT
 refine frz_of z2 (fun k x hx q => ?_) z4
 rw [listT_get hl] at hx
 obtain ⟨i2, q1, q2⟩ := (reads_take n h2).nth hx
 have : i2 = i := D.one i2 i x.1 x.2 y.2 q2 (by rw [q]; exact hT)
 rw [← List.take_append_drop n is] at h3
 exact (List.nodup_append.mp h3).2.2 i (this ▸ List.mem_of_getElem? q1) i hi rfl
theorem exL_sub {T : MT} {m b n : Nat} {ch : Ch} {g : Heap} {is : List Nat} {l : OL} (O : (VX w h d os X).Ok) (D : Rp (VX w h d os X) T m b ch g) (h2 : Reads T is l) (h3 : is.Nodup) (hl : (l.take n).length ≤ 63) : SubX (exL X (l.drop n)) (frz g (listT (l.take n))) := fun a o e => by
 unfold exL at e
 cases ho : lookA (l.drop n) a with
 | some o' =>
  rw [ho] at e
  rw [← Option.some.inj e]
  exact frz_out D h2 h3 hl (lookA_mem ho)
 | none =>
  rw [ho] at e
  exact frz_sub O D (fun k x hx => (list_own (reads_take n h2) hl k x hx).2) a o e
theorem back_thaw {T : MT} {m b b' n nx : Nat} {ch ch' : Ch} {g g' : Heap} {is : List Nat} {l l' : OL} (O : (VX w h d os X).Ok) (D : Rp (VX w h d os X) T m b ch g) (h2 : Reads T is l) (h3 : is.Nodup) (hl : (l.take n).length ≤ 63) (hx : (l.drop n).length = nx) (h62 : l'.length + nx ≤ 62)
  (D' : Rp (VX w h d os (frz g (listT (l.take n)))) (listT l') l'.length b' ch' g') : Rp (VX w h d os X) (listT (l' ++ l.drop n)) (l'.length + nx) b' ch' g' := by
 have r2 := reads_drop n h2
 have D2 := thawL (l.drop n) l' _ (VX_ok O fun a o e => (frz_some e).1) D' (fun y hy => frz_out D h2 h3 hl hy) (reads_nodup D r2 (List.Nodup.sublist (List.drop_sublist _ _) h3)) (by rw [hx]; exact h62)
 rw [hx] at D2
 refine D2.sub fun a o ha => ?_
 cases q : (List.any (l.drop n) fun y => y.1 == a) with
 | true =>
  obtain ⟨y, hy, hy2⟩ := List.any_eq_true.mp q
  obtain ⟨i, hi, hT⟩ := reads_mem r2 hy
  have := D.exo i y.1 y.2 hT
  rw [eq_of_beq hy2, show (VX w h d os X).ex a = X a from rfl, ha] at this; cases this
 | false => rw [offL_else q]; exact frz_sub O D (fun k x hx => (list_own (reads_take n h2) hl k x hx).2) a o ha
def noX (X : XT) (l : OL) : Prop := List.rec (motive := fun _ => Prop) True (fun y _ ih => X y.1 = none ∧ ih) l
theorem noX_of {X : XT} : ∀ {l : OL}, (∀ y ∈ l, X y.1 = none) → noX X l
 | [], _ => trivial
 | y :: l, h => ⟨h y (.head _), noX_of fun z hz => h z (.tail _ hz)⟩
def hkTXf (X : XT) (n nx : Nat) (I : IX) : HB := hkD (fun js Γ T τ _ => rdCt (n + nx) js Γ T τ) fun d _ _ ch => ([], fun K => noX X (d.l.drop n) → I (exL X (d.l.drop n)) (d.l.take n) d.Γ ch fun r' l' N' t' ch' => l'.length + nx ≤ 62 ∧ K r' (listT (l' ++ d.l.drop n)) (l'.length + nx) (N' + 1723) 0 (t' + 1) 0 ch' d.r)
theorem hkTXf_ok (O : (VX w h d os X).Ok) {n nx : Nat} {I : IX} (H : CtX n I w h d os) (hm : ∀ X, MonoI (I X)) (hx : MonoX I) (hn : n + nx ≤ 63) : HBOk (VX w h d os X) (hkTXf X n nx I) :=
 hkD_ok (fun d T m ch F G hFG x hno => hm _ _ _ _ _ _ (fun r l' N' t' ch' q => ⟨q.1, hFG _ _ _ _ _ _ _ _ _ q.2⟩) (x hno))
 fun js Γ p T m B c τ i ch d e hps R g D x => rdCt_k e fun t e1 e2 h1 h2 h3 => by
  have hl : (d.l.take n).length = n := by rw [List.length_take, h1]; exact Nat.min_eq_left (Nat.le_add_right n nx)
  have hlx : (d.l.drop n).length = nx := by rw [List.length_drop, h1, Nat.add_sub_cancel_left]
  have h63 : n ≤ 63 := Nat.le_trans (Nat.le_add_right n nx) hn
  have hno : noX X (d.l.drop n) := noX_of fun y hy => by
   obtain ⟨i, hi, hT⟩ := reads_mem (reads_drop n h2) hy
   exact D.exo i y.1 y.2 hT
  rw [e1, e2]
  exact ctx_use O H h63 hl (reads_take n h2) (List.Nodup.sublist (List.take_sublist _ _) h3) D (hx _ _ (exL_sub O D h2 h3 (Nat.le_trans (Nat.le_of_eq hl) h63)) _ _ _ _ (x hno)) fun r' l' N' t' ch' hF g' D' => hF.2 g' (back_thaw O D h2 h3 (Nat.le_trans (Nat.le_of_eq hl) h63) hlx hF.1 D')
def hkTX (X : XT) (n nx : Nat) (I : IX) : HB := hkD (fun js Γ T τ _ => rdCt (n + nx) js Γ T τ) fun d _ _ ch => ([], fun K => I (exL X (d.l.drop n)) (d.l.take n) d.Γ ch fun r' l' N' t' ch' => l'.length + nx ≤ 62 ∧ K r' (listT (l' ++ d.l.drop n)) (l'.length + nx) (N' + 1723) 0 (t' + 1) 0 ch' d.r)
theorem hkTX_ok (O : (VX w h d os X).Ok) {n nx : Nat} {I : IX} (H : CtX n I w h d os) (hm : ∀ X, MonoI (I X)) (hx : MonoX I) (hn : n + nx ≤ 63) : HBOk (VX w h d os X) (hkTX X n nx I) :=
 hkD_ok (fun d T m ch F G hFG x => hm _ _ _ _ _ _ (fun r l' N' t' ch' q => ⟨q.1, hFG _ _ _ _ _ _ _ _ _ q.2⟩) x)
 fun js Γ p T m B c τ i ch d e hps R g D x => (hkTXf_ok O H hm hx hn).ok js Γ p T m B c τ i ch [] _ (show bO (rdCt (n + nx) js Γ T τ) _ = _ by rw [e]; rfl) (fun y hy => nomatch hy) R g D fun _ => x
structure CtBX where
 n : Nat
 m : Nat
 Y : Type
 sp : List (Code × Pos) → Bool
 P : XT → OL → Code → Prop
 res : Nat → Y → Result
 out : OL → Nat → Y → List Obj
 Post : Nat → OL → Code → Y → Prop
def CtBX.I (C : CtBX) : IX := fun X l Γ ch F => C.P X l Γ.code ∧ Γ.handled = none ∧ Γ.own = none ∧ Γ.past = none ∧ C.sp Γ.below = true ∧ (∃ v : Array Value × Array Value × Array Value, ch = chL v.1 v.2.1 v.2.2) ∧ ∀ q, q < C.m → ∀ y N' t', C.Post q l Γ.code y → F (C.res q y) (zipO l (C.out l q y)) N' t' ch
def CtBX.MonoX (C : CtBX) : Prop := ∀ X Y, SubX X Y → ∀ l c, C.P X l c → C.P Y l c
def rdBX (sp : List (Code × Pos) → Bool) (n : Nat) (js : List Nat) (Γ : PySem.Ctx) (T : MT) (τ : Nat) (ch : Ch) : Option ((DCt × Array Value × Array Value × Array Value) × Nat) := bO (rdM sp n js Γ T τ ch) fun d => bL d.1.r fun b _ => some (d, b)
def hkBX (X : XT) (C : CtBX) (br : Nat → List Nat) : HB := hkD (rdBX C.sp C.n) fun d T m ch => ([], fun K => C.P X d.1.1.l d.1.1.Γ.code ∧ allK C.m fun q => ∀ y N' t', C.Post q d.1.1.l d.1.1.Γ.code y → K (C.res q y) (updL d.1.1.is (C.out d.1.1.l q y) T) m (N' + 1723) 0 (t' + 1) 0 ch (br (d.2 + q)))
theorem hkBX_ok (O : (VX w h d os X).Ok) {C : CtBX} {br : Nat → List Nat} (H : CtX C.n C.I w h d os) (hx : C.MonoX) (hn : C.n ≤ 63) : HBOk (VX w h d os X) (hkBX X C br) :=
 hkD_ok (fun d T m ch F G hFG x => ⟨x.1, allK_mono (fun q z y N' t' hy => hFG _ _ _ _ _ _ _ _ _ (z y N' t' hy)) x.2⟩)
 fun js Γ p T m B c τ i ch d' e hps R g D x => inv_o e fun d e f => inv_l f fun b r _ f => by
  rw [← Option.some.inj f] at x
  exact rdM_k e fun t e1 e2 h1 h2 h3 h4 h5 h6 => by
   rw [e1, e2]
   have sub := frz_sub O D (fun k x hx => (list_own h2 (h1 ▸ hn) k x hx).2)
   refine ctx_use (F := fun r' l' N' t' ch' => ∃ q, q < C.m ∧ ∃ y, r' = C.res q y ∧ l' = zipO d.1.l (C.out d.1.l q y) ∧ C.Post q d.1.l d.1.Γ.code y ∧ ch' = ch) O H hn h1 h2 h3 D ⟨hx _ _ sub _ _ x.1, h5.1, h5.2.1, h5.2.2, h6, ⟨d.2, h4⟩, fun q hq y N' t' hy => ⟨q, hq, y, rfl, rfl, hy, rfl⟩⟩ fun r' l' N' t' ch' hF g' D' => ?_
   obtain ⟨q, hq, y, e3, e4, hy, e5⟩ := hF
   rw [e4, e5] at D'
   rw [e3]
   exact allK_get x.2 q hq y N' t' hy g' (back_upd O D h2 h3 (h1 ▸ hn) D')
end
section
open PySem.MeetsSeq PySem.SeqAt
def nRange : Nat := 439838794355
theorem nRange_is : PySem.W.S.codeS "range" = nRange := by kernel_rfl
def nRIter : Nat := 1954752940192971970453299505619571
theorem nRIter_is : PySem.W.S.codeS "range.__iter__" = nRIter := by kernel_rfl
def chkRg (n : Int) : Bool := Int.rec (motive := fun _ => Bool) (fun k => Nat.ble k 1000) (fun _ => false) n
theorem chkRg_ok {n : Int} (h : chkRg n = true) : 0 ≤ n ∧ n ≤ 1000 := by
 cases n with
 | ofNat k => exact ⟨Int.natCast_nonneg k, Int.ofNat_le.mpr (Nat.le_of_ble_eq_true h)⟩
 | negSucc k => cases h
theorem chkRg_of {n : Int} (h0 : 0 ≤ n) (h1 : n ≤ 1000) : chkRg n = true := by
 obtain ⟨k, rfl⟩ := Int.eq_ofNat_of_zero_le h0
 exact Nat.ble_eq_true_of_le (by omega)
theorem range_cond {n : Int} (h0 : 0 ≤ n) (h1 : n ≤ 1000) : Builtin.Range.rangeSize 0 n 1 = n ∧ (Builtin.Range.rangeFitsLong 0 && Builtin.Range.rangeFitsLong n && Builtin.Range.rangeFitsLong 1 && Builtin.Range.rangeFitsLong (Builtin.Range.rangeSize 0 n 1) && (Builtin.Range.rangeSize 0 n 1 == 0 || if (1 : Int) > 0 then Builtin.Range.rangeFitsLong (n + (1 - 1)) else Builtin.Range.rangeFitsLong (n + (1 + 1)))) = true := by
 have e : Builtin.Range.rangeSize 0 n 1 = n := by
  rw [rangeSize_one]
  split <;> omega
 refine ⟨e, ?_⟩
 rw [e]
 have f : ∀ x : Int, 0 ≤ x → x ≤ 1001 → Builtin.Range.rangeFitsLong x = true := fun x a b => by
  unfold Builtin.Range.rangeFitsLong
  rw [Bool.and_eq_true]
  exact ⟨decide_eq_true (by omega), decide_eq_true (by omega)⟩
 have e2 : n + (1 - 1) = n := by omega
 rw [f 0 (by omega) (by omega), f n h0 (by omega), f 1 (by omega) (by omega), if_pos (by decide), e2, f n h0 (by omega)]
 simp
structure DR where
 r : Nat
 q : Nat
 x : (Int × Nat) × (Int × Nat) × Int × Nat
 js : List Nat
def rd3I (l : List Value) : Option ((Int × Nat) × (Int × Nat) × Int × Nat) := bL l fun a r => bL r fun b r => bL r fun c r => bN r (bO (vInt a) fun a => bO (vInt b) fun b => bO (vInt c) fun c => some (a, b, c))
theorem rd3I_ok {l : List Value} {q : (Int × Nat) × (Int × Nat) × Int × Nat} (h : rd3I l = some q) : l = [.int q.1.1 q.1.2, .int q.2.1.1 q.2.1.2, .int q.2.2.1 q.2.2.2] :=
 inv_l h fun p r e h => inv_l h fun q r2 e2 h => inv_l h fun k r3 e3 h => inv_n h fun e4 h => inv_o h fun p' e5 h => inv_o h fun q' e6 h => inv_o h fun k' e7 h => by
  rw [e, e2, e3, e4, vInt_ok e5, vInt_ok e6, vInt_ok e7, ← Option.some.inj h]
def rdRg (vs : List Value) (js : List Nat) (T : MT) : Option DR := bO (aR vs) fun r => bL js fun j js => bO (itAt nRange T j) fun q => bO (rd3I q.2) fun x => some ⟨r, q.1, x, js⟩
theorem rdRg_ok {vs : List Value} {js : List Nat} {T : MT} {d : DR} (h : rdRg vs js T = some d) (hq : d.r = d.q) : vs = [.ref d.r] ∧ ∃ j, T.get j = some (d.r, { cls := .type "range", dict := none, data := .fields #[.int d.x.1.1 d.x.1.2, .int d.x.2.1.1 d.x.2.1.2, .int d.x.2.2.1 d.x.2.2.2], slots := #[] }) :=
 inv_o h fun r e h => inv_l h fun j js e1 h => inv_o h fun q e2 h => inv_o h fun x e3 h => by
  rw [← Option.some.inj h] at hq ⊢
  refine ⟨aR_ok e, j / 2, ?_⟩
  rw [itAt_ok nRange_is (show itAt nRange T j = some (q.1, q.2) from e2), rd3I_ok e3, ← show r = q.1 from hq]
def hRIter : H1 := fun js Γ _ T m B c _ i _ => bi nRIter Γ fun vs => bO (rdRg vs js T) fun d => bO ((T.ins m (B + c) (rngO 0 d.x.2.1.1)).get m) fun _ => some ⟨[(d.r, d.q)], d.js, (d.x.1.1 = 0 ∧ d.x.2.2.1 = 1 ∧ chkRg d.x.2.1.1 = true), .ok (.ret (.ref (B + c))), T.ins m (B + c) (rngO 0 d.x.2.1.1), m + 1, c + 1, i⟩
theorem hRIter_ok (V : XW) : H1Ok V hRIter := fun js Γ p T m B c τ i ch x hx hpre hps R h D K =>
 bi_k nRIter_is hx fun vs hc e => inv_o e fun d e1 e => inv_o e fun y hy e => by
  rw [← Option.some.inj e] at hpre hps K
  obtain ⟨hv, j, g⟩ := rdRg_ok e1 (hps _ (.head _))
  obtain ⟨h0, h1⟩ := chkRg_ok hpre.2.2
  obtain ⟨c1, c2⟩ := range_cond h0 h1
  rw [hv] at hc
  rw [show d.x.1.1 = 0 from hpre.1, show d.x.2.2.1 = 1 from hpre.2.1] at g
  refine hook_meets hc F.slot_range_iter.plain F.entry_range_iter ((AutoRange.range___iter___range_1 d.r 0 d.x.2.1.1 1 d.x.1.2 d.x.2.1.2 d.x.2.2.2 (by rw [c2]; simp)).inModel _ _) ⟨(D.own _ _ _ g).2.2.2, ?_⟩
  have k := K _ (D.alloc (o := rngO 0 d.x.2.1.1) rfl hy)
  rw [c2, c1, if_pos rfl]
  show R (.ok (.ret (.ref h.objs.size))) _
  rw [D.size]
  exact k
def nKNext : Nat := 604966931542717672622778513967276790323241898245050534750821
theorem nKNext_is : PySem.W.S.codeS "dict_keyiterator.__next__" = nKNext := by kernel_rfl
def keyitO (d : Nat) (i n ep : Int) : Obj := { cls := .type "dict_keyiterator", dict := none, data := .fields #[.ref d, .int i 0, .int n 0, .int ep 0], slots := #[] }
def keyitX (i n ep : Int) : Obj := { cls := .type "dict_keyiterator", dict := none, data := .fields #[.none, .int i 0, .int n 0, .int ep 0], slots := #[] }
section
variable {prog : Program} {w : World} {A : Around} {E : Value → Shared → Prop} {s : Shared}
theorem next_key {it d i ep : Nat} {es : Array DictEntry} {e : DictEntry} {P : Fin → Shared → Prop} (ho : s.heap.get? it = some (keyitO d (i : Int) (es.size : Int) (ep : Int))) (hod : s.heap.get? d = some (dictO es ep)) (hx : es[i]? = some e)
  (h : P (.done (.ret e.key)) { s with heap := s.heap.update it (Obj.mapFields (·.setIfInBounds 1 (rawInt ((i : Int) + 1)))) }) : wpAny (model prog w) A (Builtin.«dict_keyiterator.__next__» ⟨[.ref it], []⟩) P E s := by
 have hT : s.TypeIs (.ref it) "dict_keyiterator" := ⟨_, ho, rfl⟩
 show wpAny (model prog w) A (_ >>= _) P E s
 refine wpAny_bind (wpAny_pure ?_)
 refine wpAny_bind ?_
 refine wpAny_bind ?_
 first | refine wpAny_bind (wpAny_typeNameOfWhole_keyiter hT (wpAny_pure ?_)) | refine wpAny_bind (wpAny_typeNameOf_keyiter hT (wpAny_pure ?_))
 refine wpAny_bind (wpAny_fieldsOf ho rfl ?_)
 have hown : Builtin.Dict_items.ownsTuple "dict_keyiterator" = false := by decide
 simp only [hown, Bool.false_eq_true, if_false]
 show wpAny _ _ (if (Value.ref d == Value.none) = true then _ else _) _ _ s
 rw [if_neg (show ¬ ((Value.ref d == Value.none) = true) from Bool.false_ne_true)]
 refine wpAny_bind (wpAny_pure ?_)
 refine wpAny_bind (wpAny_dictEntries hod rfl ?_)
 rw [if_neg (by simp)]
 refine wpAny_bind (wpAny_pure ?_)
 refine wpAny_bind (wpAny_dictEpoch hod rfl ?_)
 rw [if_neg (by simp)]
 refine wpAny_pure ?_
 have hlt' : i < es.size := (Array.getElem?_eq_some_iff.mp hx).1
 have hee : es[i] = e := (Array.getElem?_eq_some_iff.mp hx).2
 simp only [show ¬ ((i : Int) < 0) from by omega, if_false, Int.toNat_natCast, hx]
 refine wpAny_bind ?_
 first | refine wpAny_bind (wpAny_typeNameOfWhole_keyiter hT (wpAny_pure ?_)) | refine wpAny_bind (wpAny_typeNameOf_keyiter hT (wpAny_pure ?_))
 refine wpAny_bind (wpAny_isOneOf_keyiter hT ?_)
 show wpAny _ _ (setField (.ref it) 1 (rawInt ((i : Int) + 1)) >>= _) _ _ s
 refine wpAny_bind (wpAny_setField ho rfl (by simp) ?_)
 have hT' : ({ s with heap := s.heap.update it (Obj.mapFields (·.setIfInBounds 1 (rawInt ((i : Int) + 1)))) } : Shared).TypeIs (.ref it) "dict_keyiterator" :=
  ⟨_, Heap.get?_update_self _ ho (Obj.isFreed_of_fields (Obj.data_mapFields rfl _)), (Obj.cls_mapFields ..)⟩
 refine wpAny_bind (wpAny_holding ?_)
 refine wpAny_bind (wpAny_isOneOf_keyiter hT' ?_)
 show wpAny _ _ (pure e.key) _ _ _
 exact wpAny_pure (wpAny_pure h)
theorem end_key {it d i ep : Nat} {es : Array DictEntry} {P : Fin → Shared → Prop} (hh : A.handled = none) (ho : s.heap.get? it = some (keyitO d (i : Int) (es.size : Int) (ep : Int))) (hod : s.heap.get? d = some (dictO es ep)) (hx : es.size ≤ i)
  (h : E (.ref (s.heap.objs.size + 1)) { s with heap := ((s.heap.update it (Obj.mapFields (·.setIfInBounds 0 .none))).push { cls := .type "tuple", data := .seq #[] }).push (stopO s.heap.objs.size) }) : wpAny (model prog w) A (Builtin.«dict_keyiterator.__next__» ⟨[.ref it], []⟩) P E s := by
 have hT : s.TypeIs (.ref it) "dict_keyiterator" := ⟨_, ho, rfl⟩
 show wpAny (model prog w) A (_ >>= _) P E s
 refine wpAny_bind (wpAny_pure ?_)
 refine wpAny_bind ?_
 refine wpAny_bind ?_
 first | refine wpAny_bind (wpAny_typeNameOfWhole_keyiter hT (wpAny_pure ?_)) | refine wpAny_bind (wpAny_typeNameOf_keyiter hT (wpAny_pure ?_))
 refine wpAny_bind (wpAny_fieldsOf ho rfl ?_)
 have hown : Builtin.Dict_items.ownsTuple "dict_keyiterator" = false := by decide
 simp only [hown, Bool.false_eq_true, if_false]
 show wpAny _ _ (if (Value.ref d == Value.none) = true then _ else _) _ _ s
 rw [if_neg (show ¬ ((Value.ref d == Value.none) = true) from Bool.false_ne_true)]
 refine wpAny_bind (wpAny_pure ?_)
 refine wpAny_bind (wpAny_dictEntries hod rfl ?_)
 rw [if_neg (by simp)]
 refine wpAny_bind (wpAny_pure ?_)
 refine wpAny_bind (wpAny_dictEpoch hod rfl ?_)
 rw [if_neg (by simp)]
 refine wpAny_pure ?_
 simp only [show ¬ ((i : Int) < 0) from by omega, if_false, Int.toNat_natCast, Array.getElem?_eq_none hx]
 refine wpAny_bind ?_
 first | refine wpAny_bind (wpAny_typeNameOfWhole_keyiter hT (wpAny_pure ?_)) | refine wpAny_bind (wpAny_typeNameOf_keyiter hT (wpAny_pure ?_))
 show wpAny _ _ (setField (.ref it) 0 .none >>= _) _ _ s
 refine wpAny_bind (wpAny_setField ho rfl (by simp) ?_)
 show wpAny _ _ (newExc (.type "StopIteration") [] >>= _) _ _ _
 refine wpAny_bind ?_
 simp only [newExc, newTuple]
 refine wpAny_bind (wpAny_newObj_type ?_ (by size_fits))
 refine wpAny_bind (m := firstArgMember _ _) (wpAny_of_eq (a := Value.none) (by first | rfl | (simp only [firstArgMember]; rfl)) ?_)
 refine wpAny_newObj_type ?_ (by size_fits)
 simp only [raiseNew]
 refine wpAny_bind (wpAny_handled ?_)
 rw [hh]
 refine wpAny_bind (wpAny_pure (wpAny_throw ?_))
 have z1 : (s.heap.update it (Obj.mapFields (·.setIfInBounds 0 .none))).objs.size = s.heap.objs.size := Heap.size_update ..
 have z2 : ((s.heap.update it (Obj.mapFields (·.setIfInBounds 0 .none))).push { cls := .type "tuple", data := .seq #[] }).objs.size = s.heap.objs.size + 1 := by rw [Heap.size_push, z1]
 have h' := h
 rw [← z2, ← z1] at h'
 exact h'
end
end
section
open PySem.MeetsSeq PySem.SeqAt
theorem Rp.push {V : XW} {T : MT} {m b : Nat} {ch : Ch} {h : Heap} {o : Obj} (hf : o.isFreed = false) (D : Rp V T m b ch h) : Rp V T m (b + 1) ch (h.push o) :=
 ⟨by rw [Heap.size_push, D.size], Nat.le_succ_of_le D.low, fun j a o' e => let ⟨z1, z2, z3, z4⟩ := D.own j a o' e; ⟨z1, z2, Nat.lt_succ_of_lt z3, Heap.get?_push_of_some _ z4⟩, D.one, fun a o' e q => Heap.get?_push_of_some _ (D.keep a o' e q), fun a vs e => ⟨Heap.get?_push_of_some _ (D.ch a vs e).1, (D.ch a vs e).2⟩, fun a o' e => Heap.get?_push_of_some _ (D.exk a o' e), D.exo⟩
theorem Rp.set {V : XW} (O : V.Ok) {T : MT} {m b q a : Nat} {ch : Ch} {h : Heap} {o o' : Obj} {f : Obj → Obj} (D : Rp V T m b ch h) (e : T.get q = some (a, o)) (hf : f o = o') (hn : o'.isFreed = false) : Rp V (T.upd q fun _ => o') m b ch (h.update a f) :=
 (D.upd O e (by rw [hf]; exact hn)).weaken fun j x hx => by
  rw [MT.get_upd] at hx ⊢
  by_cases hj : j = q
  ·subst hj
   rw [if_pos rfl, e] at hx
   rw [if_pos rfl, e]
   cases hx
   exact ⟨(D.own _ _ _ e).1, by rw [← hf]; rfl⟩
  ·rw [if_neg hj] at hx ⊢
   exact ⟨(D.own j x.1 x.2 hx).1, hx⟩
def kiAt (T : MT) (j : Nat) : Option (Nat × Nat × Int × Int × Int) := bO (itAt nKI T j) fun q => bL q.2 fun d r => bL r fun i r => bL r fun n r => bL r fun ep r => bN r (bO (vRef d) fun d => bO (vI0 i) fun i => bO (vI0 n) fun n => bO (vI0 ep) fun ep => some (q.1, d, i, n, ep))
theorem kiAt_ok {T : MT} {j : Nat} {q : Nat × Nat × Int × Int × Int} (h : kiAt T j = some q) : T.get (j / 2) = some (q.1, keyitO q.2.1 q.2.2.1 q.2.2.2.1 q.2.2.2.2) :=
 inv_o h fun x e h => inv_l h fun d r e1 h => inv_l h fun i r2 e2 h => inv_l h fun n r3 e3 h => inv_l h fun ep r4 e4 h => inv_n h fun e5 h => inv_o h fun d' e6 h => inv_o h fun i' e7 h => inv_o h fun n' e8 h => inv_o h fun ep' e9 h => by
  rw [itAt_ok nKI_is (show itAt nKI T j = some (x.1, x.2) from e), e1, e2, e3, e4, e5, vRef_ok e6, vI0_ok e7, vI0_ok e8, vI0_ok e9, ← Option.some.inj h]; rfl
structure DK where
 it : Nat
 j : Nat
 q : Nat × Nat × Int × Int × Int
 s : Nat × Array DictEntry × Nat
 js : List Nat
def rdK (vs : List Value) (js : List Nat) (T : MT) : Option DK := bO (aR vs) fun it => bL js fun j js => bL js fun j2 js => bO (kiAt T j) fun q => bO (dictAt T j2) fun s => some ⟨it, j, q, s, js⟩
theorem rdK_k {vs : List Value} {js : List Nat} {T : MT} {d : DK} (h : rdK vs js T = some d) (h1 : d.q.2.1 = d.s.1) (h2 : d.it = d.q.1) {P : Prop}
  (k : ∀ j2, vs = [.ref d.it] → T.get (d.j / 2) = some (d.it, keyitO d.s.1 d.q.2.2.1 d.q.2.2.2.1 d.q.2.2.2.2) → T.get j2 = some (d.s.1, dictO d.s.2.1 d.s.2.2) → P) : P :=
 inv_o h fun it e1 h => inv_l h fun j r e2 h => inv_l h fun j2 r2 e3 h => inv_o h fun q e4 h => inv_o h fun s e5 h => by
  rw [← Option.some.inj h] at h1 h2 k
  exact k (j2 / 2) (aR_ok e1) ((kiAt_ok e4).trans (by rw [show q.2.1 = s.1 from h1, ← show it = q.1 from h2])) (dictAt_ok (show dictAt T j2 = some (s.1, s.2.1, s.2.2) from e5))
theorem key_run {V : XW} (O : V.Ok) {Γ : PySem.Ctx} {T : MT} {m B c τ i0 : Nat} {ch : Ch} {R : Result → Shared → Prop} {p : Pos} {h : Heap} (D : Rp V T m (B + c) ch h) {it d q1 q2 i ep : Nat} {es : Array DictEntry} {e : DictEntry}
  (hc : Γ.code = .builtin "dict_keyiterator.__next__" ⟨[.ref it], []⟩) (e1 : T.get q1 = some (it, keyitO d (i : Int) (es.size : Int) (ep : Int))) (e2 : T.get q2 = some (d, dictO es ep)) (hx : es[i]? = some e)
  (K : AtS V R (.ok (.ret e.key)) (T.upd q1 fun _ => keyitO d ((i : Int) + 1) (es.size : Int) (ep : Int)) m B c τ i0 ch) : wpCode V.M Γ R p (V.sh h (τ + i0)) := by
 refine hook_meets (S := fun A R' s => s = V.sh h (τ + i0) ∧ R' = R) hc F.slot_dict_keyiterator_next.plain F.entry_dict_keyiterator_next (.of_wp fun A R' s ⟨hs, hR⟩ => ?_) ⟨rfl, rfl⟩
 subst hs hR
 exact next_key (D.own _ _ _ e1).2.2.2 (D.own _ _ _ e2).2.2.2 hx ⟨_, rfl, K _ (D.set O e1 rfl rfl)⟩
theorem key_next {V : XW} (O : V.Ok) {Γ : PySem.Ctx} {T : MT} {m B c τ i : Nat} {ch : Ch} {R : Result → Shared → Prop} {p : Pos} {g : Heap} (D : Rp V T m (B + c) ch g) {d : DK} {vs : List Value} {js : List Nat} (e : rdK vs js T = some d) (h1 : d.q.2.1 = d.s.1) (h2 : d.it = d.q.1)
  (hc : Γ.code = .builtin "dict_keyiterator.__next__" ⟨vs, []⟩) {q : Nat} {y : DictEntry} (x1 : d.q.2.2.1 = (q : Int)) (x2 : d.q.2.2.2.1 = (d.s.2.1.size : Int)) (x3 : d.q.2.2.2.2 = (d.s.2.2 : Int)) (x4 : d.s.2.1[q]? = some y)
  (K : AtS V R (.ok (.ret y.key)) (T.upd (d.j / 2) fun _ => keyitO d.q.2.1 (d.q.2.2.1 + 1) d.q.2.2.2.1 d.q.2.2.2.2) m B c τ i ch) : wpCode V.M Γ R p (V.sh g (τ + i)) :=
 rdK_k e h1 h2 fun j2 e1 e2 e3 => by
  rw [e1] at hc
  rw [x1, x2, x3] at e2 K
  rw [h1] at K
  exact key_run O D hc e2 e3 x4 K
def hkNextK : HB := hkI nKNext (fun _ => rdK) fun d T m B c τ i ch => ([(d.q.2.1, d.s.1), (d.it, d.q.1)], fun K => ∃ (q : Nat) (hh : Int) (k : Int) (u : Nat) (vv : Value), d.q.2.2.1 = (q : Int) ∧ d.q.2.2.2.1 = (d.s.2.1.size : Int) ∧ d.q.2.2.2.2 = (d.s.2.2 : Int) ∧ d.s.2.1[q]? = some ⟨hh, .int k u, vv⟩ ∧ K (.ok (.ret (.int k u))) (T.upd (d.j / 2) fun _ => keyitO d.q.2.1 (d.q.2.2.1 + 1) d.q.2.2.2.1 d.q.2.2.2.2) m B c τ i ch d.js)
theorem hkNextK_ok {V : XW} (O : V.Ok) : HBOk V hkNextK :=
 hkI_ok nKNext_is (fun d T m B c τ i ch F G H x => x.imp fun q x => x.imp fun hh x => x.imp fun k x => x.imp fun u x => x.imp fun vv x => ⟨x.1, x.2.1, x.2.2.1, x.2.2.2.1, H _ _ _ _ _ _ _ _ _ x.2.2.2.2⟩)
 fun vs js Γ p T m B c τ i ch d e hc hps R g D x => x.elim fun q x => x.elim fun hh x => x.elim fun k x => x.elim fun u x => x.elim fun vv x =>
  key_next O D e (hps _ (.head _)) (hps _ (.tail _ (.head _))) hc x.1 x.2.1 x.2.2.1 x.2.2.2.1 x.2.2.2.2
def rdKr (vs : List Value) (js : List Nat) (T : MT) : Option (DK × Nat × List Nat) := bO (rdK vs js T) fun d => bL d.js fun j js => bO (T.get (j / 2)) fun x => some (d, x.1, js)
def hkNextR : HB := hkI nKNext (fun _ => rdKr) fun d T m B c τ i ch => ([(d.1.q.2.1, d.1.s.1), (d.1.it, d.1.q.1)], fun K => ∃ (q : Nat) (hh : Int) (vv : Value), d.1.q.2.2.1 = (q : Int) ∧ d.1.q.2.2.2.1 = (d.1.s.2.1.size : Int) ∧ d.1.q.2.2.2.2 = (d.1.s.2.2 : Int) ∧ d.1.s.2.1[q]? = some ⟨hh, .ref d.2.1, vv⟩ ∧ K (.ok (.ret (.ref d.2.1))) (T.upd (d.1.j / 2) fun _ => keyitO d.1.q.2.1 (d.1.q.2.2.1 + 1) d.1.q.2.2.2.1 d.1.q.2.2.2.2) m B c τ i ch d.2.2)
theorem hkNextR_ok {V : XW} (O : V.Ok) : HBOk V hkNextR :=
 hkI_ok nKNext_is (fun d T m B c τ i ch F G H x => x.imp fun q x => x.imp fun hh x => x.imp fun vv x => ⟨x.1, x.2.1, x.2.2.1, x.2.2.2.1, H _ _ _ _ _ _ _ _ _ x.2.2.2.2⟩)
 fun vs js Γ p T m B c τ i ch d e hc hps R g D x => x.elim fun q x => x.elim fun hh x => x.elim fun vv x => inv_o e fun d' e h => inv_l h fun j r _ h => inv_o h fun y _ h => by
  rw [← Option.some.inj h] at hps x
  exact key_next O D e (hps _ (.head _)) (hps _ (.tail _ (.head _))) hc x.1 x.2.1 x.2.2.1 x.2.2.2.1 x.2.2.2.2
def tupE : Obj := { cls := .type "tuple", dict := none, data := .seq #[], slots := #[] }
def endT (T : MT) (m b : Nat) (d : DK) : MT := ((T.upd (d.j / 2) fun _ => keyitX d.q.2.2.1 d.q.2.2.2.1 d.q.2.2.2.2).ins m b tupE).ins (m + 1) (b + 1) (stopO b)
def hEndK : H1 := fun js Γ _ T m B c _ i _ => bi nKNext Γ fun vs => bO (rdK vs js T) fun d => bT (noO Γ.handled) (bO (((T.upd (d.j / 2) fun _ => keyitX d.q.2.2.1 d.q.2.2.2.1 d.q.2.2.2.2).ins m (B + c) tupE).get m) fun _ => bO ((endT T m (B + c) d).get (m + 1)) fun _ =>
 some ⟨[(d.q.2.1, d.s.1), (d.it, d.q.1)], d.js, (d.q.2.2.1 = (d.s.2.1.size : Int) ∧ d.q.2.2.2.1 = (d.s.2.1.size : Int) ∧ d.q.2.2.2.2 = (d.s.2.2 : Int)), .error (.ref (B + (c + 1))), endT T m (B + c) d, m + 2, c + 2, i⟩)
theorem hEndK_ok (V : XW) (O : V.Ok) : H1Ok V hEndK := fun js Γ p T m B c τ i ch x hx hpre hps R h D K =>
 bi_k nKNext_is hx fun vs hc e => inv_o e fun d e1 e => inv_t e fun hh e => inv_o e fun y1 g1 e => inv_o e fun y2 g2 e => by
  rw [← Option.some.inj e] at hpre hps K
  refine rdK_k e1 (hps _ (.head _)) (hps _ (.tail _ (.head _))) fun j2 f1 f2 f3 => ?_
  rw [f1] at hc
  rw [show d.q.2.2.1 = (d.s.2.1.size : Int) from hpre.1, show d.q.2.2.2.1 = (d.s.2.1.size : Int) from hpre.2.1, show d.q.2.2.2.2 = (d.s.2.2 : Int) from hpre.2.2] at f2
  have k := K _ (((D.set O f2 (f := Obj.mapFields (·.setIfInBounds 0 .none)) (o' := keyitX d.q.2.2.1 d.q.2.2.2.1 d.q.2.2.2.2) (by rw [hpre.1, hpre.2.1, hpre.2.2]; rfl) rfl).alloc (o := tupE) rfl g1).alloc (o := stopO (B + c)) rfl g2)
  refine hook_meets (S := fun A R' s => s = V.sh h (τ + i) ∧ R' = R ∧ A = arOf Γ) hc F.slot_dict_keyiterator_next.plain F.entry_dict_keyiterator_next (.of_wp fun A R' s hs => ?_) ⟨rfl, rfl, rfl⟩
  rw [hs.1, hs.2.1, hs.2.2]
  refine end_key (i := d.s.2.1.size) (noO_ok hh) (D.own _ _ _ f2).2.2.2 (D.own _ _ _ f3).2.2.2 (Nat.le_refl _) ?_
  rw [show (V.sh h (τ + i)).heap.objs.size = B + c from D.size]
  exact k
def nSort : Nat := 2166587332882953693805
theorem nSort_is : PySem.W.S.codeS "list.sort" = nSort := by kernel_rfl
theorem ints_of : ∀ {l : List Value}, allI l → IntsAre l (l.map kI)
 | [], _ => .nil
 | x :: l, h => by
  rw [allI_cons] at h
  obtain ⟨⟨k, u, rfl⟩, h2⟩ := h
  exact .cons k u (ints_of h2)
theorem of_ints : ∀ {l : List Value} {ns : List Int}, IntsAre l ns → allI l ∧ l.map kI = ns
 | _, _, .nil => ⟨fun _ h => (nomatch h), rfl⟩
 | _, _, .cons k u h => by
  obtain ⟨h1, h2⟩ := of_ints h
  exact ⟨allI_cons.mpr ⟨⟨_, _, rfl⟩, h1⟩, by rw [List.map_cons, h2]; rfl⟩
structure DSo where
 l : Nat
 j : Nat
 s : Nat × Array Value × Nat
 js : List Nat
def rdSo (vs : List Value) (js : List Nat) (T : MT) : Option DSo := bO (aR vs) fun l => bL js fun j js => bO (seqAt nList T j) fun s => some ⟨l, j, s, js⟩
theorem rdSo_ok {vs : List Value} {js : List Nat} {T : MT} {d : DSo} (h : rdSo vs js T = some d) (h1 : d.l = d.s.1) : vs = [.ref d.l] ∧ T.get (d.j / 2) = some (d.l, lstE d.s.2.1 d.s.2.2) :=
 inv_o h fun it e1 h => inv_l h fun j r e2 h => inv_o h fun s e5 h => by
  rw [← Option.some.inj h] at h1 ⊢
  refine ⟨aR_ok e1, (seqAt_ok nList_is e5).trans ?_⟩
  rw [← show it = s.1 from h1]; rfl
theorem Rp.set2 {V : XW} (O : V.Ok) {T : MT} {m b q a : Nat} {ch : Ch} {h : Heap} {o o1 o2 : Obj} {f2 : Obj → Obj} (D : Rp V (T.upd q fun _ => o1) m b ch h) (e : T.get q = some (a, o)) (hf : f2 o1 = o2) (hn : o2.isFreed = false) : Rp V (T.upd q fun _ => o2) m b ch (h.update a f2) := by
 have e5 : (T.upd q fun _ => o1).get q = some (a, o1) := by rw [MT.get_upd, if_pos rfl, e]; rfl
 refine (D.set O e5 hf hn).weaken fun k y hy => ?_
 by_cases hq : k = q
 ·rw [hq, MT.get_upd, if_pos rfl, e] at hy
  rw [hq, MT.get_upd, if_pos rfl, e5]
  exact ⟨(D.own _ _ _ e5).1, hy⟩
 ·rw [MT.get_upd, if_neg hq] at hy
  have hz : (T.upd q fun _ => o1).get k = some y := by rw [MT.get_upd, if_neg hq]; exact hy
  exact ⟨(D.own _ y.1 y.2 hz).1, by rw [MT.get_upd, if_neg hq]; exact hz⟩
def hkSort : HB := hkI nSort (fun _ => rdSo) fun d T m _ _ τ i ch => ([(d.l, d.s.1)], fun K => allI d.s.2.1.toList ∧ d.s.2.1.toList.length < 64 ∧ ∀ (L : List Value) (ep' N' : Nat), allI L → (L.map kI).Perm (d.s.2.1.toList.map kI) → (L.map kI).Pairwise (· ≤ ·) → K (.ok (.ret .none)) (T.upd (d.j / 2) fun _ => lstE ⟨L⟩ ep') m (N' + 1723) 0 τ i ch d.js)
theorem hkSort_ok {V : XW} (O : V.Ok) (hn : 1723 ≤ V.n₀) : HBOk V hkSort :=
 hkI_ok nSort_is (fun d T m B c τ i ch F G H x => ⟨x.1, x.2.1, fun L ep' N' h1 h2 h3 => H _ _ _ _ _ _ _ _ _ (x.2.2 L ep' N' h1 h2 h3)⟩)
 fun vs js Γ p T m B c τ i ch d e hc hps R g D x => by
  obtain ⟨hv, e4⟩ := rdSo_ok e (hps _ (.head _))
  rw [hv] at hc
  refine hook_meets (S := fun A R' s => s = V.sh g (τ + i) ∧ R' = R) hc slot_list_sort.plain entry_list_sort (.of_wp fun A R' s hs => ?_) ⟨rfl, rfl⟩
  rw [hs.1, hs.2]
  refine list_sort_tree (n := d.s.2.2) (vs := d.s.2.1.toList) (ns := d.s.2.1.toList.map kI) (D.own _ _ _ e4).2.2.2 (ints_of x.1) x.2.1 fun out ns' h1 h2 h3 => ⟨_, rfl, ?_⟩
  obtain ⟨q1, q2⟩ := of_ints h1
  have D2 := ((D.set O (f := Obj.mapSeq fun _ => #[]) (o' := Obj.mapSeq (fun _ => #[]) (lstE d.s.2.1 d.s.2.2)) e4 rfl rfl).push (o := seqObj "tuple" d.s.2.1 0) rfl).push (o := seqObj "list" #[] 0) rfl
  have k := x.2.2 out.toList (if out.size == (#[] : Array Value).size then (if (#[] : Array Value).size == d.s.2.1.size then d.s.2.2 else d.s.2.2 + 1) else (if (#[] : Array Value).size == d.s.2.1.size then d.s.2.2 else d.s.2.2 + 1) + 1) (B + c + 2 - 1723) q1 (by rw [q2]; exact h2) (by rw [q2]; exact h3)
  refine k _ ?_
  rw [show B + c + 2 - 1723 + 1723 + 0 = B + c + 1 + 1 from Nat.sub_add_cancel (Nat.le_trans (Nat.le_trans hn D.low) (Nat.le_add_right _ 2))]
  exact D2.set2 O e4 rfl rfl
def hkNextLB (br : Nat → List Nat) : HB := hkI nLNext (fun _ => rdNb) fun d T m B c τ i ch => ([(d.1.q.2.1, d.1.s.1), (d.1.it, d.1.q.1)], fun K => (d.1.s.2.1[d.1.q.2.2.toNat]? = some (.bool false) ∧ K (.ok (.ret (.bool false))) (T.upd (d.1.j / 2) fun _ => iterO d.1.q.2.1 (d.1.q.2.2 + 1)) m B c τ i ch (br d.2)) ∨ (d.1.s.2.1[d.1.q.2.2.toNat]? = some (.bool true) ∧ K (.ok (.ret (.bool true))) (T.upd (d.1.j / 2) fun _ => iterO d.1.q.2.1 (d.1.q.2.2 + 1)) m B c τ i ch (br (d.2 + 1))))
theorem hkNextLB_ok {V : XW} (O : V.Ok) (br : Nat → List Nat) : HBOk V (hkNextLB br) :=
 hkI_ok nLNext_is (fun d T m B c τ i ch F G H x => x.elim (fun q => .inl ⟨q.1, H _ _ _ _ _ _ _ _ _ q.2⟩) fun q => .inr ⟨q.1, H _ _ _ _ _ _ _ _ _ q.2⟩)
 fun vs js Γ p T m B c τ i ch d e hc hps R g D x => inv_o e fun d' e h => inv_l h fun b _ _ h => by
  rw [← Option.some.inj h] at hps x
  have h1 : d'.q.2.1 = d'.s.1 := hps _ (.head _)
  refine rdN_k e h1 (hps _ (.tail _ (.head _))) fun j2 e1 e2 e3 => x.elim (fun q => next_run O hc e1 e2 e3 D q.1 ?_) fun q => next_run O hc e1 e2 e3 D q.1 ?_ <;> (rw [← h1]; exact q.2)
def hDPopB : H1 := fun js Γ p T m B c τ i ch => bO (hDPop js Γ p T m B c τ i ch) fun x => some ⟨x.ps, x.js, (x.r = .ok (.ret (.bool true)) ∧ x.pre), .ok (.ret (.bool true)), x.T, x.m, x.c, x.i⟩
theorem hDPopB_ok (V : XW) (O : V.Ok) : H1Ok V hDPopB := fun js Γ p T m B c τ i ch x hx hpre hps R h D K => inv_o hx fun y hy e => by
 rw [← Option.some.inj e] at hpre hps K
 refine hDPop_ok V O js Γ p T m B c τ i ch y hy hpre.2 hps R h D ?_
 rw [hpre.1]
 exact K
def liaddX : { t : Args → Sem Fin // PySem.W.Fast.tw5741333931599015106 = t } := by
 have h : PySem.W.Fast.tw5741333931599015106 = PySem.W.Fast.tw5741333931599015106 := rfl
 conv at h => rhs; delta PySem.W.Fast.tw5741333931599015106; rw [lextX.2]
 exact ⟨_, h⟩
theorem alt_3 (args : Args) : denF (.builtin "list.__iadd__" args) = liaddX.1 args := (show denF (.builtin "list.__iadd__" args) = PySem.W.Fast.tw5741333931599015106 args by kernel_rfl).trans (congrFun liaddX.2 args)
theorem altn_3 : PySem.W.S.codeS "list.__iadd__" = 7635736742594467534504881056365 := by kernel_rfl
def altT2 (q : Nat) (c : Code) : Option (Sem Fin) := Bool.rec (altT q c) (alt1 7635736742594467534504881056365 liaddX.1 c) (Nat.beq q 3)
theorem altT2_ok (q : Nat) (c : Code) (t : Sem Fin) (h : altT2 q c = some t) : denF c = t := inv_b h (altT_ok q c t) fun h => alt1_ok altn_3 alt_3 h
def lextN : { t : Value → Value → Value → Sem Fin // ∀ a b r, PySem.Builtin.List.listSameRef a b = false → PySem.W.Fast.tw8938917530802602619 a b r = t a b r } :=
 ⟨_, fun a b r h => by
  delta PySem.W.Fast.tw8938917530802602619
  simp only [swapRef, h, Bool.or_false]
  rfl⟩
theorem liadd_is (x y : Nat) : denF (.builtin "list.__iadd__" ⟨[.ref x, .ref y], []⟩) = PySem.W.Fast.tw8938917530802602619 (.ref x) (.ref y) (.ref x) := by kernel_rfl
structure DA2 where
 v : Nat × Nat
 j : Nat × Nat
 x : Nat × Obj
 y : Nat × Obj
 js : List Nat
def rdA2 (vs : List Value) (js : List Nat) (T : MT) : Option DA2 := bO (aRR vs) fun v => bL js fun jx js => bL js fun jy js => bO (T.get (jx / 2)) fun x => bO (T.get (jy / 2)) fun y => bT (!Nat.beq (jx / 2) (jy / 2)) (some ⟨v, (jx, jy), x, y, js⟩)
theorem rdA2_ok {vs : List Value} {js : List Nat} {T : MT} {d : DA2} (h : rdA2 vs js T = some d) : vs = [.ref d.v.1, .ref d.v.2] ∧ T.get (d.j.1 / 2) = some d.x ∧ T.get (d.j.2 / 2) = some d.y ∧ Nat.beq (d.j.1 / 2) (d.j.2 / 2) = false :=
 inv_o h fun v e1 h => inv_l h fun jx r e2 h => inv_l h fun jy r2 e3 h => inv_o h fun x e4 h => inv_o h fun y e5 h => inv_t h fun e6 h => by
  rw [← Option.some.inj h]
  exact ⟨aRR_ok e1, e4, e5, (Bool.not_eq_true' _).mp e6⟩
def walAdd (js : List Nat) (Γ : PySem.Ctx) (T : MT) : Option WL := bO (biv 7635736742594467534504881056365 Γ) fun vs => bO (rdA2 vs js T) fun d => some ⟨[(d.v.2, d.y.1), (d.v.1, d.x.1)], d.js, 0, lextN.1 (.ref d.v.1) (.ref d.v.2) (.ref d.v.1)⟩
theorem walAdd_ok {V : XW} {js : List Nat} {Γ : PySem.Ctx} {p : Pos} {T : MT} {x : WL} (hx : walAdd js Γ T = some x) : WlOk V Γ p T x :=
 inv_o hx fun vs hc hx => inv_o hx fun d e hx => by
  rw [← Option.some.inj hx]
  refine fun hps m b ch h t D Q E k => ?_
  obtain ⟨e1, e2, e3, e4⟩ := rdA2_ok e
  have ne : d.v.1 ≠ d.v.2 := fun q => by
   have e5 : T.get (d.j.2 / 2) = some (d.x.1, d.y.2) := e3.trans (by rw [← show d.v.1 = d.x.1 from hps _ (.tail _ (.head _)), q, show d.v.2 = d.y.1 from hps _ (.head _)])
   rw [D.one _ _ d.x.1 d.x.2 d.y.2 e2 e5, Nat.beq_refl] at e4
   cases e4
  rw [biv_ok altn_3 hc, e1, liadd_is, lextN.2 _ _ _ (by simp [PySem.Builtin.List.listSameRef, ne])]
  exact k
def walT3 : WalTy := fun q js Γ p T => Bool.rec (walT2 q js Γ p T) (walAdd js Γ T) (Nat.beq q 9)
theorem walT3_ok {V : XW} {q : Nat} {js : List Nat} {Γ : PySem.Ctx} {p : Pos} {T : MT} {x : WL} (h : walT3 q js Γ p T = some x) : WlOk V Γ p T x :=
 inv_b h walT2_ok walAdd_ok
def hooks3 : List H1 := hooks ++ [hNe3, hRIter, hEndK, hDPopB]
def HH3 (hk : HkTy) : Hk := ⟨hsOf hooks3, hk, altT2, walT3⟩
theorem hooks3_ok (V : XW) (O : V.Ok) (hn : 1723 ≤ V.n₀) : ∀ f ∈ hooks3, H1Ok V f := fun f hf => (List.mem_append.mp hf).elim (hooks_ok V O hn f) fun hf => by
 have H : ∀ f ∈ [hNe3, hRIter, hEndK, hDPopB], H1Ok V f := by
  simp only [List.forall_mem_cons]
  exact ⟨hNe3_ok V, hRIter_ok V, hEndK_ok V O, hDPopB_ok V O, fun _ h => nomatch h⟩
 exact H f hf
theorem HH3_ok (V : XW) (O : V.Ok) (hn : 1723 ≤ V.n₀) {hk : HkTy} (W : HkW V hk) : HkOk V (HH3 hk) := ⟨hsOf_ok (hooks3_ok V O hn), W.mono, altT2_ok, fun _ _ _ _ _ _ => walT3_ok, W.ok⟩
theorem ct_run3 {w : World} {h : Heap} {d : Drawn} {os : OsState} {X : XT} {n : Nat} (hn : n ≤ 63) (O : (VX w h d os X).Ok) {hk : HkTy} (W : HkW (VX w h d os X) hk) {fuel : Nat} {Γ : PySem.Ctx} {p : Pos} {T : MT} {m N t0 : Nat} {ch : Ch} {js : List Nat} {F : FT} {R : Result → Shared → Prop} {g : Heap}
  (run : simG (VX w h d os X) (HH3 hk) (KFv n (KVof n F)) fuel Γ p .base (denF Γ.code) T m (N + 1723) 0 (t0 + 1) 0 ch js [] True)
  (D : Rp (VX w h d os X) T m (N + 1723) ch g) (k : ∀ r l' N' t' ch', F r l' N' t' ch' → AtS (VX w h d os X) R r (listT l') l'.length (N' + 1723) 0 (t' + 1) 0 ch') : wpCode (VX w h d os X).M Γ R p ((VX w h d os X).sh g (t0 + 1)) :=
 contract1 (c := 0) (i := 0) O (HH3_ok _ O (Nat.le_refl 1723) W) run (fin_ok hn k) D
end
def FrozenX (X : XT) (xs : XS) : Prop := ∀ x ∈ xs, ∃ (vs : Array Value) (ep : Nat), X x.2.1 = some { cls := .type "tuple", dict := none, data := .seq vs ep, slots := #[] } ∧ intsOf vs.toList = some x.1
def esX (xs : XS) : Array DictEntry := ⟨xs.map fun x => ⟨tkH x.1, .ref x.2.1, x.2.2⟩⟩
structure LisOk (X : XT) (es : Array DictEntry) (xs : XS) : Prop where
 e : es = esX xs
 fr : FrozenX X xs
 nd : noDup xs = true
 sz : xs.length ≤ 1000
theorem LisOk.sub {X Y : XT} (h : SubX X Y) {es : Array DictEntry} {xs : XS} (z : LisOk X es xs) : LisOk Y es xs :=
 ⟨z.e, fun x hx => let ⟨vs, ep, q1, q2⟩ := z.fr x hx; ⟨vs, ep, h _ _ q1, q2⟩, z.nd, z.sz⟩
theorem lis_ok {V : XW} {Γ : PySem.Ctx} {T : MT} {m b : Nat} {ch : Ch} {h : Heap} (D : Rp V T m b ch h) {a k j jk : Nat} {es : Array DictEntry} {ep : Nat} {xs : XS} {ks : List Int} (hd : dictAt T j = some (a, es, ep)) (hk : keyAt T jk = some (k, ks)) (z : LisOk V.ex es xs) (hr : room Γ = true) {c : Bool}
  (hc : (match idxH ks xs with | some _ => true | none => false) = c) : TDok V Γ T h a k j ⟨[], [], es, ep, xs, ks⟩ c := by
 refine ⟨dictAt_ok hd, (D.own _ _ _ (dictAt_ok hd)).2.2.2, keyAt_ok D hk, ?_, fun y hy => ?_, noDup_ok z.nd, room_ok hr, ?_, hc⟩
 ·have := z.e
  subst this
  rfl
 ·obtain ⟨vs, ep', q1, q2⟩ := z.fr y hy
  exact ⟨_, _, _, D.exk _ _ q1, rfl, rfl, intsOf_ok _ _ _ _ q2⟩
 ·have := z.e
  subst this
  have : (esX xs).size = xs.length := by unfold esX; simp
  have e : sizeLine = 16777216 := by decide
  have := z.sz
  show (esX xs).size ≤ sizeLine
  omega
structure DF where
 d : Nat
 k : Nat
 v : Value
 j : Nat
 jk : Nat
 q : Nat × Array DictEntry × Nat
 y : Nat × List Int
 js : List Nat
def rdF (Γ : PySem.Ctx) (d k : Nat) (v : Value) (js : List Nat) (T : MT) : Option DF := bL js fun j js => bL js fun jk js => bO (dictAt T j) fun q => bO (keyAt T jk) fun y => bT (room Γ) (some ⟨d, k, v, j, jk, q, y, js⟩)
theorem rdF_ok {Γ : PySem.Ctx} {d k : Nat} {v : Value} {js : List Nat} {T : MT} {x : DF} (h : rdF Γ d k v js T = some x) : d = x.d ∧ k = x.k ∧ v = x.v ∧ dictAt T x.j = some (x.q.1, x.q.2.1, x.q.2.2) ∧ keyAt T x.jk = some (x.y.1, x.y.2) ∧ room Γ = true :=
 inv_l h fun j r _ h => inv_l h fun jk r2 _ h => inv_o h fun q e1 h => inv_o h fun y e2 h => inv_t h fun e3 h => by
  rw [← Option.some.inj h]
  exact ⟨rfl, rfl, rfl, e1, e2, e3⟩
def rdFI (Γ : PySem.Ctx) (vs : List Value) (js : List Nat) (T : MT) : Option (DF × Nat × List Nat) := bO (aRR vs) fun v => bO (rdF Γ v.1 v.2 .none js T) fun x => bL x.js fun jb js => some (x, jb, js)
def hkFIn (X : XT) : HB := hkI nDIn rdFI fun d T m B c τ i ch => ([(d.1.k, d.1.y.1), (d.1.d, d.1.q.1)], fun K => (∃ xs, LisOk X d.1.q.2.1 xs ∧ (match idxH d.1.y.2 xs with | some _ => true | none => false) = clm d.2.1) ∧ K (.ok (.ret (.bool (clm d.2.1)))) T m B c τ (i + drw d.1.y.2) ch d.2.2)
theorem hkFIn_ok {V : XW} (hn : 1723 ≤ V.n₀) : HBOk V (hkFIn V.ex) :=
 hkI_ok nDIn_is (fun d T m B c τ i ch F G H x => ⟨x.1, H _ _ _ _ _ _ _ _ _ x.2⟩)
 fun vs js Γ p T m B c τ i ch d e hc hps R g D x => inv_o e fun v e1 e => inv_o e fun y e2 e => inv_l e fun jb r _ e => x.1.elim fun xs hx => by
  rw [← Option.some.inj e] at hps x hx
  obtain ⟨f1, f2, _, f3, f4, hr⟩ := rdF_ok e2
  rw [aRR_ok e1, f1, f2] at hc
  have a2 : y.k = y.y.1 := hps _ (.head _)
  have a3 : y.d = y.q.1 := hps _ (.tail _ (.head _))
  rw [← a3] at f3
  rw [← a2] at f4
  have z := lis_ok D f3 f4 hx.1 hr hx.2
  refine hook_meets (S := fun A R' s => s = V.sh g (τ + i) ∧ A = arOf Γ ∧ R' = R) hc slot_dict_contains.plain entry_dict_contains (.of_wp fun A R' s hs => ?_) ⟨rfl, rfl, rfl⟩
  rw [hs.1, hs.2.1, hs.2.2]
  show wpAny _ _ (dictGet y.d (.ref y.k) >>= _) _ _ _
  refine wpAny_bind (wpAny_dictGet_heap (knd := tupleKind (intKind V.prog V.w)) (tupleKind_room_in1 z.room) z.hk z.dict ?_)
  have hans := z.ans
  rw [find_H (V := V) z.hn] at hans
  have K' : R (.ok (.ret (.bool (clm jb)))) (V.sh g (τ + (i + drw y.y.2))) := x.2 g D
  rw [sh_add, ← hans] at K'
  simp only
  cases hf : atKey xs y.y.2 with
  | some q =>
   rw [hf] at K'
   exact wpAny_pure ⟨_, rfl, K'⟩
  | none =>
   rw [hf] at K'
   show wpAny _ _ (Builtin.Dict.pendingKey? y.d (.ref y.k) >>= _) _ _ _
   exact wpAny_bind (wpAny_pendingKey_other (sys_ne D hn z.e) (wpAny_pure ⟨_, rfl, K'⟩))
def aRRV (l : List Value) : Option ((Nat × Nat) × Value) := bL l fun a r => bL r fun b r => bL r fun v r => bN r (bO (vRef a) fun a => bO (vRef b) fun b => some ((a, b), v))
theorem aRRV_ok {l : List Value} {q : (Nat × Nat) × Value} (h : aRRV l = some q) : l = [.ref q.1.1, .ref q.1.2, q.2] :=
 inv_l h fun a r e h => inv_l h fun b r2 e2 h => inv_l h fun v r3 e3 h => inv_n h fun e4 h => inv_o h fun a' e5 h => inv_o h fun b' e6 h => by rw [e, e2, e3, e4, vRef_ok e5, vRef_ok e6, ← Option.some.inj h]
def rdFS (Γ : PySem.Ctx) (vs : List Value) (js : List Nat) (T : MT) : Option DF := bO (aRRV vs) fun v => rdF Γ v.1.1 v.1.2 v.2 js T
def hkFSet (X : XT) : HB := hkI nDSet rdFS fun d T m B c τ i ch => ([(d.k, d.y.1), (d.d, d.q.1)], fun K => (∃ xs, LisOk X d.q.2.1 xs ∧ idxH d.y.2 xs = none) ∧ K (.ok (.ret .none)) (T.upd (d.j / 2) fun _ => dictO (d.q.2.1.push ⟨tkH d.y.2, .ref d.y.1, d.v⟩) (d.q.2.2 + 1)) m B c τ (i + drw d.y.2) ch d.js)
theorem hkFSet_ok {V : XW} (O : V.Ok) (hn : 1723 ≤ V.n₀) : HBOk V (hkFSet V.ex) :=
 hkI_ok nDSet_is (fun d T m B c τ i ch F G H x => ⟨x.1, H _ _ _ _ _ _ _ _ _ x.2⟩)
 fun vs js Γ p T m B c τ i ch y e hc hps R g D x => inv_o e fun v e1 e2 => x.1.elim fun xs hx => by
  obtain ⟨f1, f2, f5, f3, f4, hr⟩ := rdF_ok e2
  rw [aRRV_ok e1, f1, f2, f5] at hc
  have a2 : y.k = y.y.1 := hps _ (.head _)
  have a3 : y.d = y.q.1 := hps _ (.tail _ (.head _))
  rw [← a3] at f3
  rw [← a2] at f4
  have z := lis_ok (c := false) D f3 f4 hx.1 hr (by rw [hx.2])
  refine hook_meets (S := fun A R' s => s = V.sh g (τ + i) ∧ A = arOf Γ ∧ R' = R) hc slot_dict_setitem.plain entry_dict_setitem (.of_wp fun A R' s hs => ?_) ⟨rfl, rfl, rfl⟩
  rw [hs.1, hs.2.1, hs.2.2]
  show wpAny _ _ (Builtin.Dict.notOrdered "__setitem__" ⟨[.ref y.d, .ref y.k, y.v], []⟩ >>= _) _ _ _
  refine wpAny_bind (wpAny_notOrdered_dict (typeIs_dict z.g) ?_)
  show wpAny _ _ (dictSet y.d (.ref y.k) y.v >>= _) _ _ _
  refine wpAny_bind (set_T (A := (arOf Γ).in1) z.room z (fun n hn => ?_) (fun hn => ?_))
  ·simp only at hn
   rw [hx.2] at hn; cases hn
  ·refine wpAny_pure ⟨.none, rfl, ?_⟩
   have K' := x.2 _ (D.set O (f := pushEnt ⟨tkH y.y.2, .ref y.k, y.v⟩) z.e (by rw [a2]; rfl) rfl)
   rw [sh_add] at K'
   exact K'
def AX4 (N : Nat) (l : List Nat) (i : Nat) : Nat := match l[i]? with
  | some a => a
  | none => N + 1723 + (i - l.length)
abbrev Fn (n : Nat) (KV : KVT) : FT := fun r l' N' t' ch' => okAcc [] ∧ True ∧ KV r (viewT n (listT l').get) (N' + 1723) 0 (t' + 1) 0 ch'
def brA : Nat → List Nat := nthL [[12, 1, 3], []]
def cAny (ait : Nat) : Code := .builtin "any.loop" ⟨[.ref ait], []⟩
section
variable (w : World) (N t0 ait al ep : Nat) (v : Int) (xs : Array Value) (h : Heap) (d : Drawn) (os : OsState) (X : Nat → Option Obj) (z : CS) (p : Pos) (ch : Ch) (I : IT) (KV : KVT)
abbrev simA (b1 b2 : Bool) (js : List Nat) : Prop := simG (VX (wF w b1 b2) h d os X) (HH3 (hkOf [hkNextLB brA, hkT 2 I])) (KFv 2 KV) 60 (z.ctx (cAny ait)) p .base (denF (cAny ait)) (listT [(ait, iterO al v), (al, lstE xs ep)]) 2 (N + 1723) 0 (t0 + 1) 0 ch js [] True
theorem runA_y (b1 b2 : Bool) : simA w N t0 ait al ep v xs h d os X z p ch I KV b1 b2 [1, 0, 1, 6, 1, 3, 0] = (okAcc (accL (AX4 N [ait, al]) [1, 0, 1, 6, 1, 3] []) ∧ True ∧
  ((xs[v.toNat]? = some (.bool false) ∧ (okAcc [] ∧ True ∧ I [(ait, iterO al (v + 1)), (al, lstE xs ep)] (z.ctx (cAny ait)) ch (Fn 2 KV))) ∨
   (xs[v.toNat]? = some (.bool true) ∧ (okAcc [] ∧ True ∧ KV (.ok (.ret (.bool true))) [some (ait, iterO al (v + 1)), some (al, lstE xs ep)] (N + 1723) 0 (t0 + 1) 0 ch)))) := by kernel_rfl
theorem runA_e (b1 b2 : Bool) : simA w N t0 ait al ep v xs h d os X z p ch I KV b1 b2 [1, 0, 1, 56, 1, 3, 1, 1, 7] = (okAcc (accL (AX4 N [ait, al]) [1, 1, 7] ((xs.size, v.toNat) :: accL (AX4 N [ait, al]) [1, 0, 1, 56, 1, 3] [])) ∧ True ∧
  KV (.ok (.ret (.bool false))) [some (ait, iterX v), some (al, lstE xs ep)] (N + 1723) 2 (t0 + 1) 0 ch) := by kernel_rfl
end
def sHeld : Str := ⟨#[104, 101, 108, 100]⟩
def sUsed : Str := ⟨#[117, 115, 101, 100]⟩
def sHU (b : Bool) : Str := Bool.rec sHeld sUsed b
def eNot (x : CP) (nm : Bool) : Expr := .ListComp (.Name sOne x.p1) [⟨.Name sOne x.p2, x.it, [.Compare (.Name sOne x.p3) [.NotIn] [.Name (sHU nm) x.p4] x.p5], 0⟩] x.sc x.p6
def envNot (x : CE) (nm : Bool) (ad ac : Nat) : Env := ⟨⟨.function, [(sDot, .local), (sOne, .local), (sHU nm, .cell)], x.g1, x.g2, x.more⟩, ad, x.gl, [(sHU nm, ac)], x.q, x.fn, x.co, x.fr, x.bi⟩
def cNot (x : CP) (nm : Bool) (y : CE) (ait aacc ad ac : Nat) : Code := .compLoop (eNot x nm) 0 (.ref ait) (.ref aacc) (envNot y nm ad ac)
def ol6 (ax ait aacc ac ah ad : Nat) (xs : Array Value) (ep : Nat) (v : Int) (a : Obj) (hs : Array Value) (eph : Nat) (es : Array DictEntry) (ep3 : Nat) : OL := [(ax, lstE xs ep), (ait, iterO ax v), (aacc, a), (ac, cellO (.ref ah)), (ah, lstE hs eph), (ad, dictO es ep3)]
def jsG : List Nat := [3, 0, 3, 6, 3, 1]
def jsGi : List Nat := [11, 11, 11, 7, 9, 9, 0, 9, 4, 9, 2]
def jsGo : List Nat := [11, 11, 11, 7, 9, 9, 0, 9, 4, 9, 0, 11, 0, 5, 10, 5]
def brG : Nat → List Nat := nthL [jsGi ++ [12, 1, 3, 5, 7, 9, 11], jsGo ++ [12, 1, 3, 5, 7, 9, 11]]
section
variable (w : World) (N t0 ax ait aacc ac ah ad ep ep2 eph ep3 tk : Nat) (v hh : Int) (vo : Value) (xs ys hs : Array Value) (h : Heap) (d : Drawn) (os : OsState) (X : Nat → Option Obj) (x : CP) (y : CE) (z : CS) (p : Pos) (ch : Ch) (I : IT) (KV : KVT)
abbrev simO (nm b1 b2 b : Bool) (js : List Nat) : Prop := simG (VX (wF w b1 b2) h d os X) (HH3 (hkOf [hkNextL 2 brG, hkT 6 I])) (KFv 6 KV) 200 (z.ctx (cNot x nm y ait aacc ad ac)) p .base (denF (cNot x nm y ait aacc ad ac)) (listT (ol6 ax ait aacc ac ah ad xs ep v (lstE ys ep2) hs eph (esN b hh tk vo) ep3)) 6 (N + 1723) 0 (t0 + 1) 0 ch js [] True
abbrev A6 : Nat → Nat := AX4 N [ax, ait, aacc, ac, ah, ad]
abbrev rhsO (nm b : Bool) : Prop := okAcc (accL (A6 N ax ait aacc ac ah ad) jsG []) ∧ True ∧ ∃ k u, xs[v.toNat]? = some (.int k u) ∧
  ((False ∨ (okAcc (accL (A6 N ax ait aacc ac ah ad) jsGi []) ∧ (chkIn hs (.int k u) true = true ∧ True) ∧ I (ol6 ax ait aacc ac ah ad xs ep (v + 1) (lstE ys ep2) hs eph (esK w b hh tk t0 k u) (dEp b ep3)) (z.ctx (cNot x nm y ait aacc ad ac)) ch (Fn 6 KV))) ∨
    (okAcc (accL (A6 N ax ait aacc ac ah ad) jsGo []) ∧ (chkLe ys.size = true ∧ chkIn hs (.int k u) false = true ∧ True) ∧ I (ol6 ax ait aacc ac ah ad xs ep (v + 1) (pushO (.int k u) (lstE ys ep2)) hs eph (esK w b hh tk t0 k u) (dEp b ep3)) (z.ctx (cNot x nm y ait aacc ad ac)) ch (Fn 6 KV)))
abbrev rhsOe (nm b : Bool) : Prop := okAcc (accL (A6 N ax ait aacc ac ah ad) [3, 3, 15] ((xs.size, v.toNat) :: accL (A6 N ax ait aacc ac ah ad) [3, 0, 3, 56, 3, 1] [])) ∧ True ∧
  KV (.ok .next) [some (ax, lstE xs ep), some (ait, iterX v), some (aacc, lstE ys ep2), some (ac, cellO (.ref ah)), some (ah, lstE hs eph), some (ad, dictO (esN b hh tk vo) ep3)] (N + 1723) 2 (t0 + 1) 0 ch
theorem runO (b2 q0 q1 q2 : Bool) : simO w N t0 ax ait aacc ac ah ad ep ep2 eph ep3 tk v hh vo xs ys hs h d os X x y z p ch I KV q0 q1 b2 q2 (jsG ++ [0]) = rhsO w N t0 ax ait aacc ac ah ad ep ep2 eph ep3 tk v hh xs ys hs x y z ch I KV q0 q2 := by
  cases q0 <;> cases q1 <;> cases q2 <;> kernel_rfl
theorem runO_e (nm b1 b2 b : Bool) : simO w N t0 ax ait aacc ac ah ad ep ep2 eph ep3 tk v hh vo xs ys hs h d os X x y z p ch I KV nm b1 b2 b [3, 0, 3, 56, 3, 1, 3, 3, 15] = rhsOe N t0 ax ait aacc ac ah ad ep ep2 eph ep3 tk v hh vo xs ys hs ch KV nm b := by kernel_rfl
end
def foG (P : Params) : ForP := forOf (stmtAt (bodyD P 1696) 2)
def siteG (P : Params) (k : Nat) : Expr := asgOf (stmtAt (foG P).b (3 + k))
def sFol : Str := ⟨#[102, 111, 108, 108, 111, 119, 105, 110, 103]⟩
def sMany : Str := ⟨#[109, 97, 110, 121]⟩
def sStep : Str := ⟨#[115, 116, 101, 112]⟩
def envRow (x : CE) (ad cf cm : Nat) : Env := ⟨⟨.function, [(sDot, .local), (sStep, .local), (sFol, .cell), (sMany, .cell)], x.g1, x.g2, x.more⟩, ad, x.gl, [(sMany, cm), (sFol, cf)], x.q, x.fn, x.co, x.fr, x.bi⟩
def cRow (P : Params) (y : CE) (ait aacc ad cf cm : Nat) : Code := .compLoop (siteG P 0) 0 (.ref ait) (.ref aacc) (envRow y ad cf cm)
def esS (b : Bool) (hh : Int) (tk : Nat) (v : Value) : Array DictEntry := Bool.rec #[] #[entE hh sStep tk v] b
abbrev esSK (w : World) (b : Bool) (hh : Int) (tk t0 : Nat) (v : Value) : Array DictEntry := Bool.rec #[entE (hashS w sStep) sStep (t0 + 2) v] #[entE hh sStep tk v] b
def olR (ait aacc cf cm ad : Nat) (v left : Int) (a : Obj) (F : Int) (fu : Nat) (M : Int) (mu : Nat) (es : Array DictEntry) (ep3 : Nat) : OL := [(ait, rngO v left), (aacc, a), (cf, cellO (.int F fu)), (cm, cellO (.int M mu)), (ad, dictO es ep3)]
def jsR : List Nat := [1, 0, 1, 0, 1, 1, 1, 1, 1, 1, 1, 9, 9, 5, 0, 0, 9, 0, 0, 7, 0, 130, 0, 0, 0, 3, 10, 3]
section
variable (w : World) (N t0 ait aacc cf cm ad ep2 ep3 fu mu tk left : Nat) (v F M hh : Int) (vo : Value) (ys : Array Value) (h : Heap) (d : Drawn) (os : OsState) (X : Nat → Option Obj) (y : CE) (z : CS) (p : Pos) (ch : Ch) (I : IT) (KV : KVT)
abbrev simR (b1 b2 b : Bool) (left : Int) (js : List Nat) : Prop := simG (VX (wF w b1 b2) h d os X) (HH3 (hkOf [hkT 5 I])) (KFv 5 KV) 200 (z.ctx (cRow w.params y ait aacc ad cf cm)) p .base (denF (cRow w.params y ait aacc ad cf cm)) (listT (olR ait aacc cf cm ad v left (lstE ys ep2) F fu M mu (esS b hh tk vo) ep3)) 5 (N + 1723) 0 (t0 + 1) 0 ch js [] True
abbrev rhsR (b : Bool) : Prop := okAcc (accL (AX4 N [ait, aacc, cf, cm, ad]) jsR []) ∧ (chkLe ys.size = true ∧ chk0 M = true ∧ True) ∧ I (olR ait aacc cf cm ad (v + 1) (Int.ofNat (left + 1) - 1) (pushO (.int (30 + (F - 30 + v).fmod M) (t0 + 1 + 7)) (lstE ys ep2)) F fu M mu (esSK w b hh tk t0 (.int v (t0 + 1))) (dEp b ep3)) (z.ctx (cRow w.params y ait aacc ad cf cm)) ch (Fn 5 KV)
theorem runR (b2 q0 q1 : Bool) : simR w N t0 ait aacc cf cm ad ep2 ep3 fu mu tk v F M hh vo ys h d os X y z p ch I KV q0 b2 q1 (Int.ofNat (left + 1)) (jsR ++ [6, 1, 3, 5, 7, 9]) = rhsR w N t0 ait aacc cf cm ad ep2 ep3 fu mu tk left v F M hh ys y z ch I KV q1 := by
  cases q0 <;> cases q1 <;> kernel_rfl
theorem runR_e (b1 b2 b : Bool) : simR w N t0 ait aacc cf cm ad ep2 ep3 fu mu tk v F M hh vo ys h d os X y z p ch I KV b1 b2 b (Int.ofNat 0) [1, 0, 1, 0, 1, 1, 1, 13] = (okAcc (accL (AX4 N [ait, aacc, cf, cm, ad]) [1, 0, 1, 0, 1, 1, 1, 13] []) ∧ True ∧
  KV (.ok .next) [some (ait, rngO v (Int.ofNat 0)), some (aacc, lstE ys ep2), some (cf, cellO (.int F fu)), some (cm, cellO (.int M mu)), some (ad, dictO (esS b hh tk vo) ep3)] (N + 1723) 2 (t0 + 1) 0 ch) := by kernel_rfl
end
theorem hkOf1_ok {V : XW} {f : HB} (hf : HBOk V f) : HkW V (hkOf [f]) := hkOf_ok fun x hx => by
 cases hx with
 | head => exact hf
 | tail _ hx => cases hx
def allB (l : List Value) : Prop := ∀ x ∈ l, ∃ b, x = .bool b
def isTr (x : Value) : Bool := match x with
 | .bool b => b
 | _ => false
def anyB (l : List Value) : Bool := l.any isTr
def I_any (k : Nat) : IT := fun l Γ ch F => ∃ (ait al ep : Nat) (xs : List Value) (i : Nat) (z : CS),
 l = [(ait, iterO al (Int.ofNat i)), (al, lstE ⟨xs⟩ ep)] ∧ Γ = z.ctx (cAny ait) ∧ i + k = xs.length ∧ allB xs ∧ ∀ N' t' it', F (.ok (.ret (.bool (anyB (xs.drop i))))) [(ait, it'), (al, lstE ⟨xs⟩ ep)] N' t' ch
theorem I_any_mono (k : Nat) : MonoI (I_any k) := by
 intro l Γ ch F G H hI
 obtain ⟨ait, al, ep, xs, i, z, h1, h2, h3, h4, hF⟩ := hI
 exact ⟨ait, al, ep, xs, i, z, h1, h2, h3, h4, fun N' t' a => H _ _ _ _ _ (hF N' t' a)⟩
theorem any_ok (w : World) (h : Heap) (d : Drawn) (os : OsState) : ∀ k, CtOk 2 (I_any k) w h d os
 | 0 => by
  intro X O l Γ p R g N t0 ch F hl hI D K
  obtain ⟨ait, al, ep, xs, i, z, rfl, rfl, h3, h4, hF⟩ := hI
  have run := (runA_e w N t0 ait al ep (Int.ofNat i) ⟨xs⟩ h d os X z p ch (fun _ _ _ _ => False) (KVof 2 F) (w.params.followText "special-get-raises") (w.params.followText "comprehension-iter-twice")).mpr ?_
  ·unfold simA at run
   rw [wF_self] at run
   exact ct_run3 (by decide) O (hkOf2_ok (hkNextLB_ok O brA) (hkT_ok O (fun _ _ _ _ _ _ _ _ _ _ _ _ h => h.elim) (fun _ _ _ _ _ _ h => h) (by decide))) run D K
  ·refine ⟨accL_ok _ _ _ (okAcc_cons.mpr ⟨?_, accL_ok _ _ _ okNil⟩), trivial, [(ait, iterX (Int.ofNat i)), (al, lstE ⟨xs⟩ ep)], N + 2, t0, ?_, rfl, rfl, by omega, rfl⟩
   ·show xs.length = i
    omega
   ·have := hF (N + 2) t0 (iterX (Int.ofNat i))
    rw [List.drop_eq_nil_of_le (by omega)] at this
    exact this
 | k + 1 => by
  intro X O l Γ p R g N t0 ch F hl hI D K
  obtain ⟨ait, al, ep, xs, i, z, rfl, rfl, h3, h4, hF⟩ := hI
  have run := (runA_y w N t0 ait al ep (Int.ofNat i) ⟨xs⟩ h d os X z p ch (I_any k) (KVof 2 F) (w.params.followText "special-get-raises") (w.params.followText "comprehension-iter-twice")).mpr ?_
  ·unfold simA at run
   rw [wF_self] at run
   exact ct_run3 (by decide) O (hkOf2_ok (hkNextLB_ok O brA) (hkT_ok O (any_ok w h d os k) (I_any_mono k) (by decide))) run D K
  ·have hi : i < xs.length := by omega
   obtain ⟨b, hb⟩ := h4 xs[i] (List.getElem_mem hi)
   have hd : xs.drop i = .bool b :: xs.drop (i + 1) := by rw [List.drop_eq_getElem_cons hi, hb]
   have hx : (⟨xs⟩ : Array Value)[(Int.ofNat i).toNat]? = some (.bool b) := by
    show (⟨xs⟩ : Array Value)[i]? = _
    rw [← hb]; simp [hi]
   refine ⟨accL_ok _ _ _ okNil, trivial, ?_⟩
   cases b with
   | false =>
    refine .inl ⟨hx, okNil, trivial, ait, al, ep, xs, i + 1, z, rfl, rfl, by omega, h4, fun N' t' it' => tail_ok (by decide) ?_ rfl⟩
    have := hF N' t' it'
    rw [hd] at this
    exact this
   | true =>
    refine .inr ⟨hx, okNil, trivial, [(ait, iterO al (Int.ofNat i + 1)), (al, lstE ⟨xs⟩ ep)], N, t0, ?_, rfl, rfl, rfl, rfl⟩
    have := hF N t0 (iterO al (Int.ofNat i + 1))
    rw [hd] at this
    exact this
structure YA where
 it : Obj
def P_any (l : OL) (c : Code) : Prop := ∃ (ait al ep : Nat) (xs : List Value), l = [(ait, iterO al (Int.ofNat 0)), (al, lstE ⟨xs⟩ ep)] ∧ c = cAny ait ∧ allB xs
def resA (q : Nat) (_ : YA) : Result := .ok (.ret (.bool (Nat.blt 0 q)))
def outA (l : OL) (_ : Nat) (y : YA) : List Obj := [y.it, nthD l 1]
def Post_any (q : Nat) (l : OL) (_ : YA) : Prop := anyB (xsOf (nthD l 1)) = Nat.blt 0 q
def C_any : CtB := ⟨2, 2, YA, P_any, resA, outA, Post_any⟩
theorem C_any_ok (w : World) (h : Heap) (d : Drawn) (os : OsState) : CtOk C_any.n C_any.I w h d os := by
 intro X O l Γ p R g N t0 ch F hl hI D K
 obtain ⟨⟨ait, al, ep, xs, rfl, h2, h3⟩, e1, e2, e3, hF⟩ := hI
 obtain ⟨code, hd, own, bl, past⟩ := Γ
 simp only at e1 e2 e3 h2
 subst e1 e2 e3 h2
 refine any_ok w h d os xs.length X O _ _ p R g N t0 ch F hl ⟨ait, al, ep, xs, 0, ⟨bl⟩, rfl, rfl, by omega, h3, fun N' t' it' => ?_⟩ D K
 rw [List.drop_zero]
 cases hb : anyB xs with
 | false => exact hF 0 (show 0 < 2 by decide) ⟨it'⟩ N' t' hb
 | true => exact hF 1 (show 1 < 2 by decide) ⟨it'⟩ N' t' hb
def filtO (hs l : List Value) : List Value := l.filter fun x => !(hasB (kI x) hs)
theorem filtO_cons (hs : List Value) (k : Int) (u : Nat) (l : List Value) : filtO hs (.int k u :: l) = if hasB k hs = true then filtO hs l else .int k u :: filtO hs l := by
 unfold filtO
 rw [List.filter_cons]
 show (if (!(hasB k hs)) = true then _ else _) = _
 cases hasB k hs <;> rfl
structure YO where
 L : List Value
 g : Int
 tg : Nat
 ep2 : Nat
 ep3 : Nat
 it : Obj
 hh : Int
 tk : Nat
 vo : Value
structure StNo where
 (ax ait aacc ac ah ad ep ep2 eph ep3 tk : Nat)
 hh : Int
 vo : Value
 (xs ys hs : List Value)
 i : Nat
 b : Bool
 x : CP
 y : CE
 z : CS
def StNo.ol (s : StNo) : OL := ol6 s.ax s.ait s.aacc s.ac s.ah s.ad ⟨s.xs⟩ s.ep (Int.ofNat s.i) (lstE ⟨s.ys⟩ s.ep2) ⟨s.hs⟩ s.eph (esN s.b s.hh s.tk s.vo) s.ep3
def StNo.c (s : StNo) (nm : Bool) : Code := cNot s.x nm s.y s.ait s.aacc s.ad s.ac
def StNo.out (s : StNo) (k : Nat) (y : YO) : OL := [(s.ax, lstE ⟨s.xs⟩ s.ep), (s.ait, y.it), (s.aacc, lstE ⟨s.ys ++ filtO s.hs (s.xs.drop s.i)⟩ y.ep2), (s.ac, cellO (.ref s.ah)), (s.ah, lstE ⟨s.hs⟩ s.eph), (s.ad, dictO (esN (s.b || Nat.blt 0 k) y.hh y.tk y.vo) y.ep3)]
def I_not (nm : Bool) (k : Nat) : IT := fun l Γ ch F => ∃ s : StNo, l = s.ol ∧ Γ = s.z.ctx (s.c nm) ∧ (s.i + k = s.xs.length ∧ allI s.xs ∧ allI s.hs ∧ s.ys.length + k ≤ 100) ∧ ∀ N' t' y, F (.ok .next) (s.out k y) N' t' ch
theorem I_not_mono (nm : Bool) (k : Nat) : MonoI (I_not nm k) := fun l Γ ch F G H hI => hI.imp fun s h => ⟨h.1, h.2.1, h.2.2.1, fun N' t' y => H _ _ _ _ _ (h.2.2.2 N' t' y)⟩
theorem not_ok (nm : Bool) (w : World) (h : Heap) (d : Drawn) (os : OsState) : ∀ k, CtOk 6 (I_not nm k) w h d os
 | 0 => fun X O l Γ p R g N t0 ch F hl hI D K => by
  obtain ⟨s, e1, e2, ⟨h3, h4, h5, h6⟩, hF⟩ := hI
  rw [e1] at D
  rw [e2]
  have run := (runO_e w N t0 s.ax s.ait s.aacc s.ac s.ah s.ad s.ep s.ep2 s.eph s.ep3 s.tk (Int.ofNat s.i) s.hh s.vo ⟨s.xs⟩ ⟨s.ys⟩ ⟨s.hs⟩ h d os X s.x s.y s.z p ch (fun _ _ _ _ => False) (KVof 6 F) nm (w.params.followText "special-get-raises") (w.params.followText "comprehension-iter-twice") s.b).mpr ?_
  ·unfold simO at run
   rw [wF_self] at run
   exact ct_run3 (by decide) O (hkOf2_ok (hkNextL_ok O 2 brG) (hkT_ok O (fun _ _ _ _ _ _ _ _ _ _ _ _ h => h.elim) (fun _ _ _ _ _ _ h => h) (by decide))) run D K
  ·refine ⟨accL_ok _ _ _ (okAcc_cons.mpr ⟨h3.symm, accL_ok _ _ _ okNil⟩), trivial, _, N + 2, t0, hF (N + 2) t0 ⟨[], 0, 0, s.ep2, s.ep3, iterX (Int.ofNat s.i), s.hh, s.tk, s.vo⟩, rfl, ?_, rfl, rfl⟩
   show _ = [some _, some _, some (s.aacc, lstE ⟨s.ys ++ filtO s.hs (s.xs.drop s.i)⟩ _), some _, some _, some (s.ad, dictO (esN (s.b || false) s.hh s.tk s.vo) s.ep3)]
   rw [List.drop_eq_nil_of_le (Nat.le_of_eq (show s.xs.length = s.i from h3.symm)), show s.ys ++ filtO s.hs [] = s.ys from List.append_nil s.ys, Bool.or_false]
 | k + 1 => fun X O l Γ p R g N t0 ch F hl hI D K => by
  obtain ⟨s, e1, e2, ⟨h3, h4, h5, h6⟩, hF⟩ := hI
  rw [e1] at D
  rw [e2]
  have R' : rhsO w N t0 s.ax s.ait s.aacc s.ac s.ah s.ad s.ep s.ep2 s.eph s.ep3 s.tk (Int.ofNat s.i) s.hh ⟨s.xs⟩ ⟨s.ys⟩ ⟨s.hs⟩ s.x s.y s.z ch (I_not nm k) (KVof 6 F) nm s.b := by
   have hi : s.i < s.xs.length := by omega
   obtain ⟨kk, u, hku⟩ := h4 s.xs[s.i] (List.getElem_mem hi)
   have hd : s.xs.drop s.i = .int kk u :: s.xs.drop (s.i + 1) := by rw [List.drop_eq_getElem_cons hi, hku]
   have hb : ∀ N' t' (y : YO) (ys' : List Value), s.ys ++ filtO s.hs (s.xs.drop s.i) = ys' ++ filtO s.hs (s.xs.drop (s.i + 1)) → F (.ok .next) (StNo.out ⟨s.ax, s.ait, s.aacc, s.ac, s.ah, s.ad, s.ep, s.ep2, s.eph, s.ep3, s.tk, s.hh, s.vo, s.xs, ys', s.hs, s.i + 1, true, s.x, s.y, s.z⟩ k y) N' t' ch := fun N' t' y ys' e => by
    have := hF N' t' y
    unfold StNo.out at this
    rw [e, show (s.b || Nat.blt 0 (k + 1)) = (true || Nat.blt 0 k) from Bool.or_true _] at this
    exact this
   refine ⟨accL_ok _ _ _ okNil, trivial, kk, u, ?_, ?_⟩
   ·show (⟨s.xs⟩ : Array Value)[s.i]? = _
    rw [← hku]; simp [hi]
   ·cases hne : hasB kk s.hs with
    | true =>
     refine .inl (.inr ⟨accL_ok _ _ _ okNil, ⟨chkIn_of h5 hne, trivial⟩, ?_⟩)
     rw [esK_is]
     refine ⟨⟨s.ax, s.ait, s.aacc, s.ac, s.ah, s.ad, s.ep, s.ep2, s.eph, dEp s.b s.ep3, _, _, _, s.xs, s.ys, s.hs, s.i + 1, true, s.x, s.y, s.z⟩, rfl, rfl, ⟨(Nat.succ_add_eq_add_succ s.i k).trans h3, h4, h5, Nat.le_of_succ_le h6⟩, fun N' t' y => tail_ok (by decide) (hb N' t' y s.ys ?_) rfl⟩
     rw [hd, filtO_cons, hne]; rfl
    | false =>
     refine .inr ⟨accL_ok _ _ _ okNil, ⟨chkLe_of (by omega), chkIn_of h5 hne, trivial⟩, ?_⟩
     rw [push_lst, esK_is]
     refine ⟨⟨s.ax, s.ait, s.aacc, s.ac, s.ah, s.ad, s.ep, s.ep2 + 1, s.eph, dEp s.b s.ep3, _, _, _, s.xs, s.ys ++ [Value.int kk u], s.hs, s.i + 1, true, s.x, s.y, s.z⟩, rfl, rfl, ⟨(Nat.succ_add_eq_add_succ s.i k).trans h3, h4, h5, by rw [List.length_append]; exact (Nat.succ_add_eq_add_succ s.ys.length k) ▸ h6⟩, fun N' t' y => tail_ok (by decide) (hb N' t' y (s.ys ++ [Value.int kk u]) ?_) rfl⟩
     rw [hd, filtO_cons, hne, List.append_assoc]; rfl
  have run := (runO w N t0 s.ax s.ait s.aacc s.ac s.ah s.ad s.ep s.ep2 s.eph s.ep3 s.tk (Int.ofNat s.i) s.hh s.vo ⟨s.xs⟩ ⟨s.ys⟩ ⟨s.hs⟩ h d os X s.x s.y s.z p ch (I_not nm k) (KVof 6 F) (w.params.followText "comprehension-iter-twice") nm (w.params.followText "special-get-raises") s.b).mpr R'
  unfold simO at run
  rw [wF_self] at run
  exact ct_run3 (by decide) O (hkOf2_ok (hkNextL_ok O 2 brG) (hkT_ok O (not_ok nm w h d os k) (I_not_mono nm k) (by decide))) run D K
def resO (_ : Nat) (_ : YO) : Result := .ok .next
def P_not (nm ne : Bool) (l : OL) (c : Code) : Prop := ∃ (ax ait aacc ac ah ad ep ep2 eph ep3 : Nat) (xs hs : List Value) (x : CP) (y : CE),
 l = ol6 ax ait aacc ac ah ad ⟨xs⟩ ep (Int.ofNat 0) (lstE ⟨[]⟩ ep2) ⟨hs⟩ eph #[] ep3 ∧ c = cNot x nm y ait aacc ad ac ∧ allI xs ∧ allI hs ∧ xs.length ≤ 100 ∧ (ne = true → xs ≠ [])
def outFr (l : OL) (_ : Nat) (y : YO) : List Obj := [nthD l 0, y.it, lstE ⟨y.L⟩ y.ep2, nthD l 3, nthD l 4, dictO (esN true y.hh y.tk y.vo) y.ep3]
def Post_fr (_ : Nat) (l : OL) (y : YO) : Prop := y.L = filtO (xsOf (nthD l 4)) (xsOf (nthD l 0))
def C_free : CtB := ⟨6, 1, YO, P_not false true, resO, outFr, Post_fr⟩
def StNo.at0 (s : StNo) (bl : List (Code × Pos)) : StNo := ⟨s.ax, s.ait, s.aacc, s.ac, s.ah, s.ad, s.ep, s.ep2, s.eph, s.ep3, 0, 0, .none, s.xs, [], s.hs, 0, false, s.x, s.y, ⟨bl⟩⟩
theorem P_not_k {nm ne : Bool} {l : OL} {c : Code} (h : P_not nm ne l c) : ∃ s : StNo, l = (s.at0 []).ol ∧ c = s.c nm ∧ allI s.xs ∧ allI s.hs ∧ s.xs.length ≤ 100 ∧ (ne = true → s.xs ≠ []) := by
 obtain ⟨ax, ait, aacc, ac, ah, ad, ep, ep2, eph, ep3, xs, hs, x, y, e1, e2, h3⟩ := h
 exact ⟨⟨ax, ait, aacc, ac, ah, ad, ep, ep2, eph, ep3, 0, 0, .none, xs, [], hs, 0, false, x, y, ⟨[]⟩⟩, e1, e2, h3⟩
theorem not_at {nm ne : Bool} {w : World} {h : Heap} {d : Drawn} {os : OsState} {X : Nat → Option Obj} (O : (VX w h d os X).Ok) {l : OL} {Γ : PySem.Ctx} {p : Pos} {R : Result → Shared → Prop} {g : Heap} {N t0 : Nat} {ch : Ch} {F : FT} (hl : l.length = 6) (hP : P_not nm ne l Γ.code) (i1 : Γ.handled = none) (i2 : Γ.own = none) (i3 : Γ.past = none)
  (D : Rp (VX w h d os X) (listT l) 6 (N + 1723) ch g) (K : ∀ r l' N' t' ch', F r l' N' t' ch' → AtS (VX w h d os X) R r (listT l') l'.length (N' + 1723) 0 (t' + 1) 0 ch')
  (k : ∀ s : StNo, l = (s.at0 []).ol → allI s.xs → allI s.hs → (ne = true → s.xs ≠ []) → ∀ N' t' y, F (.ok .next) ((s.at0 Γ.below).out s.xs.length y) N' t' ch) : wpCode (VX w h d os X).M Γ R p ((VX w h d os X).sh g (t0 + 1)) := by
 obtain ⟨s, e1, e2, h3, h4, h5, h6⟩ := P_not_k hP
 obtain ⟨code, hd, own, bl, past⟩ := Γ
 have e3 : (⟨code, hd, own, bl, past⟩ : PySem.Ctx) = (s.at0 bl).z.ctx ((s.at0 bl).c nm) := by
  rw [show hd = none from i1, show own = none from i2, show past = none from i3, show code = _ from e2]; rfl
 exact not_ok nm w h d os s.xs.length X O l _ p R g N t0 ch F hl ⟨s.at0 bl, e1, e3, ⟨Nat.zero_add _, h3, h4, (Nat.zero_add _).symm ▸ h5⟩, k s e1 h3 h4 h6⟩ D K
theorem C_free_ok (w : World) (h : Heap) (d : Drawn) (os : OsState) : CtOk C_free.n C_free.I w h d os := fun X O l Γ p R g N t0 ch F hl ⟨h1, e1, e2, e3, hF⟩ D K =>
 not_at O hl h1 e1 e2 e3 D K fun s es h3 h4 h6 N' t' y => by
  have := hF 0 (show 0 < 1 by decide) ⟨filtO s.hs s.xs, y.g, y.tg, y.ep2, y.ep3, y.it, y.hh, y.tk, y.vo⟩ N' t' (by rw [es]; rfl)
  rw [es] at this
  have hb : Nat.blt 0 s.xs.length = true := by
   cases hx : s.xs with
   | nil => exact absurd hx (h6 rfl)
   | cons v xs => rfl
  unfold StNo.out
  rw [hb]
  exact this
def outGo (l : OL) (q : Nat) (y : YO) : List Obj := [nthD l 0, y.it, lstE (Bool.rec #[] ⟨.int y.g y.tg :: y.L⟩ (Nat.blt 1 q)) y.ep2, nthD l 3, nthD l 4, dictO (esN (Nat.blt 0 q) y.hh y.tk y.vo) y.ep3]
def Post_go (q : Nat) (l : OL) (y : YO) : Prop := filtO (xsOf (nthD l 4)) (xsOf (nthD l 0)) = Bool.rec [] (.int y.g y.tg :: y.L) (Nat.blt 1 q)
def C_good : CtB := ⟨6, 3, YO, P_not true false, resO, outGo, Post_go⟩
theorem filtO_allI {hs l : List Value} (h : allI l) : allI (filtO hs l) := fun x hx => h x (List.mem_filter.mp hx).1
def rowI (F M : Int) (i k : Nat) : List Int := (List.range' i k).map fun (j : Nat) => 30 + (F - 30 + (j : Int)).fmod M
structure YR where
 L : List Value
 ep2 : Nat
 ep3 : Nat
 it : Obj
 hh : Int
 tk : Nat
 vo : Value
structure StR where
 (ait aacc cf cm ad ep2 ep3 fu mu tk : Nat)
 (F M hh : Int)
 vo : Value
 ys : List Value
 i : Nat
 b : Bool
 y : CE
 z : CS
def StR.ol (s : StR) (left : Int) : OL := olR s.ait s.aacc s.cf s.cm s.ad (s.i : Int) left (lstE ⟨s.ys⟩ s.ep2) s.F s.fu s.M s.mu (esS s.b s.hh s.tk s.vo) s.ep3
def StR.out (s : StR) (k : Nat) (y : YR) : OL := [(s.ait, y.it), (s.aacc, lstE ⟨s.ys ++ y.L⟩ y.ep2), (s.cf, cellO (.int s.F s.fu)), (s.cm, cellO (.int s.M s.mu)), (s.ad, dictO (esS (s.b || Nat.blt 0 k) y.hh y.tk y.vo) y.ep3)]
def I_row (w : World) (k : Nat) : IT := fun l Γ ch F' => ∃ s : StR, l = s.ol (Int.ofNat k) ∧ Γ = s.z.ctx (cRow w.params s.y s.ait s.aacc s.ad s.cf s.cm) ∧ (1 ≤ s.M ∧ s.ys.length + k ≤ 1000) ∧
 ∀ N' t' (y : YR), allI y.L → y.L.map kI = rowI s.F s.M s.i k → F' (.ok .next) (s.out k y) N' t' ch
theorem I_row_mono (w : World) (k : Nat) : MonoI (I_row w k) := fun l Γ ch F G H hI => hI.imp fun s h => ⟨h.1, h.2.1, h.2.2.1, fun N' t' y q1 q2 => H _ _ _ _ _ (h.2.2.2 N' t' y q1 q2)⟩
theorem esSK_is (w : World) (b : Bool) (hh : Int) (tk t0 : Nat) (v : Value) : esSK w b hh tk t0 v = esS true (Bool.rec (hashS w sStep) hh b) (Bool.rec (t0 + 2) tk b) v := by cases b <;> rfl
theorem row_ok (w : World) (h : Heap) (d : Drawn) (os : OsState) : ∀ k, CtOk 5 (I_row w k) w h d os
 | 0 => fun X O l Γ p R g N t0 ch F' hl hI D K => by
  obtain ⟨s, e1, e2, h3, hF⟩ := hI
  rw [e1] at D
  rw [e2]
  have run := (runR_e w N t0 s.ait s.aacc s.cf s.cm s.ad s.ep2 s.ep3 s.fu s.mu s.tk (s.i : Int) s.F s.M s.hh s.vo ⟨s.ys⟩ h d os X s.y s.z p ch (fun _ _ _ _ => False) (KVof 5 F') (w.params.followText "special-get-raises") (w.params.followText "comprehension-iter-twice") s.b).mpr ?_
  ·unfold simR at run
   rw [wF_self] at run
   exact ct_run3 (by decide) O (hkOf1_ok (hkT_ok O (fun _ _ _ _ _ _ _ _ _ _ _ _ h => h.elim) (fun _ _ _ _ _ _ h => h) (by decide))) run D K
  ·refine ⟨accL_ok _ _ _ okNil, trivial, _, N + 2, t0, hF (N + 2) t0 ⟨[], s.ep2, s.ep3, rngO (s.i : Int) (Int.ofNat 0), s.hh, s.tk, s.vo⟩ (fun _ h => (nomatch h)) rfl, rfl, ?_, rfl, rfl⟩
   show _ = [some _, some (s.aacc, lstE ⟨s.ys ++ []⟩ _), some _, some _, some (s.ad, dictO (esS (s.b || false) s.hh s.tk s.vo) s.ep3)]
   rw [List.append_nil, Bool.or_false]
 | k + 1 => fun X O l Γ p R g N t0 ch F' hl hI D K => by
  obtain ⟨s, e1, e2, h3, hF⟩ := hI
  rw [e1] at D
  rw [e2]
  have R' : rhsR w N t0 s.ait s.aacc s.cf s.cm s.ad s.ep2 s.ep3 s.fu s.mu s.tk k (s.i : Int) s.F s.M s.hh ⟨s.ys⟩ s.y s.z ch (I_row w k) (KVof 5 F') s.b := by
   have h4 : s.ys.length + 1 + k ≤ 1000 := (Nat.succ_add_eq_add_succ s.ys.length k) ▸ h3.2
   refine ⟨accL_ok _ _ _ okNil, ⟨chkLe_of (Nat.le_trans (Nat.le_succ _) (Nat.le_trans (Nat.le_add_right _ k) h4)), chk0_of (by have := h3.1; omega), trivial⟩, ?_⟩
   rw [push_lst, esSK_is, show Int.ofNat (k + 1) - 1 = Int.ofNat k from Int.add_sub_cancel (k : Int) 1]
   refine ⟨⟨s.ait, s.aacc, s.cf, s.cm, s.ad, s.ep2 + 1, dEp s.b s.ep3, s.fu, s.mu, _, s.F, s.M, _, _, s.ys ++ [.int (30 + (s.F - 30 + (s.i : Int)).fmod s.M) (t0 + 1 + 7)], s.i + 1, true, s.y, s.z⟩, rfl, rfl, ⟨h3.1, by rw [List.length_append]; exact h4⟩, fun N' t' y q1 q2 => tail_ok (by decide) ?_ rfl⟩
   have := hF N' t' ⟨.int (30 + (s.F - 30 + (s.i : Int)).fmod s.M) (t0 + 1 + 7) :: y.L, y.ep2, y.ep3, y.it, y.hh, y.tk, y.vo⟩ (allI_cons.mpr ⟨⟨_, _, rfl⟩, q1⟩) (by
    show kI _ :: y.L.map kI = _
    rw [q2]; rfl)
   unfold StR.out at this ⊢
   rw [show (s.b || Nat.blt 0 (k + 1)) = true from Bool.or_true _] at this
   rw [List.append_assoc]
   exact this
  have run := (runR w N t0 s.ait s.aacc s.cf s.cm s.ad s.ep2 s.ep3 s.fu s.mu s.tk k (s.i : Int) s.F s.M s.hh s.vo ⟨s.ys⟩ h d os X s.y s.z p ch (I_row w k) (KVof 5 F') (w.params.followText "comprehension-iter-twice") (w.params.followText "special-get-raises") s.b).mpr R'
  unfold simR at run
  rw [wF_self] at run
  exact ct_run3 (by decide) O (hkOf1_ok (hkT_ok O (row_ok w h d os k) (I_row_mono w k) (by decide))) run D K
def resR (_ : Nat) (_ : YR) : Result := .ok .next
def outR (l : OL) (_ : Nat) (y : YR) : List Obj := [y.it, lstE ⟨y.L⟩ y.ep2, nthD l 2, nthD l 3, dictO (esS true y.hh y.tk y.vo) y.ep3]
def P_row (w : World) (l : OL) (c : Code) : Prop := ∃ (ait aacc cf cm ad ep2 ep3 fu mu : Nat) (F M : Int) (y : CE),
 l = olR ait aacc cf cm ad 0 M (lstE ⟨[]⟩ ep2) F fu M mu #[] ep3 ∧ c = cRow w.params y ait aacc ad cf cm ∧ 1 ≤ M ∧ M ≤ 100
def Post_row (_ : Nat) (l : OL) (y : YR) : Prop := allI y.L ∧ y.L.map kI = rowI (nOf (nthD l 2)) (nOf (nthD l 3)) 0 (nOf (nthD l 3)).toNat
def C_row (w : World) : CtB := ⟨5, 1, YR, P_row w, resR, outR, Post_row⟩
def StR.at0 (s : StR) (bl : List (Code × Pos)) : StR := ⟨s.ait, s.aacc, s.cf, s.cm, s.ad, s.ep2, s.ep3, s.fu, s.mu, 0, s.F, s.M, 0, .none, [], 0, false, s.y, ⟨bl⟩⟩
theorem P_row_k {w : World} {l : OL} {c : Code} (h : P_row w l c) : ∃ s : StR, l = (s.at0 []).ol s.M ∧ c = cRow w.params s.y s.ait s.aacc s.ad s.cf s.cm ∧ 1 ≤ s.M ∧ s.M ≤ 100 := by
 obtain ⟨ait, aacc, cf, cm, ad, ep2, ep3, fu, mu, F, M, y, e1, e2, h3⟩ := h
 exact ⟨⟨ait, aacc, cf, cm, ad, ep2, ep3, fu, mu, 0, F, M, 0, .none, [], 0, false, y, ⟨[]⟩⟩, e1, e2, h3⟩
theorem C_row_ok (w : World) (h : Heap) (d : Drawn) (os : OsState) : CtOk (C_row w).n (C_row w).I w h d os := fun X O l Γ p R g N t0 ch F' hl hI D K => by
 obtain ⟨hP, i1, i2, i3, hF⟩ := hI
 obtain ⟨s, e1, e2, h3, h4⟩ := P_row_k hP
 obtain ⟨k, hk⟩ := Int.eq_ofNat_of_zero_le (Int.le_trans (by decide) h3)
 obtain ⟨code, hd, own, bl, past⟩ := Γ
 have e3 : (⟨code, hd, own, bl, past⟩ : PySem.Ctx) = (s.at0 bl).z.ctx (cRow w.params s.y s.ait s.aacc s.ad s.cf s.cm) := by
  rw [show hd = none from i1, show own = none from i2, show past = none from i3, show code = _ from e2]; rfl
 refine row_ok w h d os k X O l _ p R g N t0 ch F' hl ⟨s.at0 bl, by rw [e1, hk]; rfl, e3, ⟨h3, by show 0 + k ≤ 1000; omega⟩, fun N' t' y q1 q2 => ?_⟩ D K
 have hb : Nat.blt 0 k = true := by
  cases k with
  | zero => rw [hk] at h3; exact absurd h3 (by decide)
  | succ k => rfl
 have := hF 0 (show 0 < 1 by decide) y N' t' ⟨q1, by
  rw [e1]
  show y.L.map kI = rowI s.F s.M 0 s.M.toNat
  rw [show s.M.toNat = k by rw [hk]; rfl]
  exact q2⟩
 unfold StR.out
 rw [hb]
 rw [e1] at this
 exact this
def retArg (s : Stmt) : Expr := match s with
 | .Return (some (.Call _ (a :: _) _ _)) _ => a
 | _ => default
def sPlace : Str := ⟨#[112, 108, 97, 99, 101]⟩
def envKey (x : CE) (dl cp : Nat) : Env := ⟨⟨.function, [(sDot, .local), (sPlace, .local), (sPort, .cell)], x.g1, x.g2, x.more⟩, dl, x.gl, [(sPort, cp)], x.q, x.fn, x.co, x.fr, x.bi⟩
def cKey (P : Params) (y : CE) (ait aacc dl cp : Nat) : Code := .compLoop (retArg (stmtAt (bodyD P 1360) 1)) 0 (.ref ait) (.ref aacc) (envKey y dl cp)
def esP (b : Bool) (hh : Int) (tk : Nat) (v : Value) : Array DictEntry := Bool.rec #[] #[entE hh sPlace tk v] b
abbrev esPK (w : World) (b : Bool) (hh : Int) (tk t0 : Nat) (v : Value) : Array DictEntry := Bool.rec #[entE (hashS w sPlace) sPlace (t0 + 1) v] #[entE hh sPlace tk v] b
def tupO (xs : Array Value) (ep : Nat) : Obj := { cls := .type "tuple", dict := none, data := .seq xs ep, slots := #[] }
def olK (ait aacc ad cp dl : Nat) (it acc : Obj) (es : Array DictEntry) (ep : Nat) (port : Int) (tp : Nat) (ds : Array DictEntry) (ep3 : Nat) : OL := [(ait, it), (aacc, acc), (ad, dictO es ep), (cp, cellO (.int port tp)), (dl, dictO ds ep3)]
def jsK1 : List Nat := [1, 0, 1, 6, 1, 5]
def jsK2 : List Nat := [9, 9, 9, 11, 11, 11, 0, 11, 0, 11, 7, 0, 0, 0, 3, 10, 3]
abbrev Fx (n : Nat) (lx : OL) (KV : KVT) : FT := fun r l' N' t' ch' => l'.length + lx.length ≤ 62 ∧ (okAcc [] ∧ True ∧ KV r (viewT n (listT (l' ++ lx)).get) (N' + 1723) 0 (t' + 1) 0 ch')
section
variable (w : World) (N t0 ait aacc ad cp dl bk ep ep2 ep3 ept tp ta tu tk : Nat) (v n e port a u hh : Int) (vo : Value) (ys : Array Value) (es : Array DictEntry) (h : Heap) (d : Drawn) (os : OsState) (X : Nat → Option Obj) (y : CE) (z : CS) (p : Pos) (ch : Ch) (I : IX) (KV : KVT)
abbrev simK (b1 b2 b : Bool) (js : List Nat) : Prop := simG (VX (wF w b1 b2) h d os X) (HH3 (hkOf [hkNextR, hkTX X 5 1 I])) (KFv 6 KV) 200 (z.ctx (cKey w.params y ait aacc dl cp)) p .base (denF (cKey w.params y ait aacc dl cp)) (listT (olK ait aacc ad cp dl (keyitO ad v n e) (lstE ys ep2) es ep port tp (esP b hh tk vo) ep3 ++ [(bk, tupO #[.int a ta, .int u tu] ept)])) 6 (N + 1723) 0 (t0 + 1) 0 ch js [] True
abbrev rhsK (b : Bool) : Prop := okAcc (accL (AX4 N [ait, aacc, ad, cp, dl, bk]) jsK1 []) ∧ True ∧ ∃ (q : Nat) (hh' : Int) (vv : Value), v = (q : Int) ∧ n = (es.size : Int) ∧ e = (ep : Int) ∧ es[q]? = some ⟨hh', .ref bk, vv⟩ ∧
 (okAcc (accL (AX4 N [ait, aacc, ad, cp, dl, bk]) jsK2 []) ∧ (chkLe ys.size = true ∧ True) ∧ I (exL X [(bk, tupO #[.int a ta, .int u tu] ept)]) (olK ait aacc ad cp dl (keyitO ad (v + 1) n e) (pushO (.bool (u == port)) (lstE ys ep2)) es ep port tp (esPK w b hh tk t0 (.ref bk)) (dEp b ep3)) (z.ctx (cKey w.params y ait aacc dl cp)) ch (Fx 6 [(bk, tupO #[.int a ta, .int u tu] ept)] KV))
theorem runK (b2 q0 q1 : Bool) : simK w N t0 ait aacc ad cp dl bk ep ep2 ep3 ept tp ta tu tk v n e port a u hh vo ys es h d os X y z p ch I KV q0 b2 q1 (jsK1 ++ [11] ++ jsK2 ++ [12, 1, 3, 5, 7, 9, 11]) = rhsK w N t0 ait aacc ad cp dl bk ep ep2 ep3 ept tp ta tu tk v n e port a u hh ys es X y z ch I KV q1 := by
 cases q0 <;> cases q1 <;> kernel_rfl
abbrev simKe (b1 b2 b : Bool) (js : List Nat) : Prop := simG (VX (wF w b1 b2) h d os X) (HH3 (hkOf [hkNextR, hkTX X 5 1 I])) (KFv 5 KV) 200 (z.ctx (cKey w.params y ait aacc dl cp)) p .base (denF (cKey w.params y ait aacc dl cp)) (listT (olK ait aacc ad cp dl (keyitO ad v n e) (lstE ys ep2) es ep port tp (esP b hh tk vo) ep3)) 5 (N + 1723) 0 (t0 + 1) 0 ch js [] True
theorem runK_e (b1 b2 b : Bool) : simKe w N t0 ait aacc ad cp dl ep ep2 ep3 tp tk v n e port hh vo ys es h d os X y z p ch I KV b1 b2 b [1, 0, 1, 178, 1, 5, 13] = (okAcc (accL (AX4 N [ait, aacc, ad, cp, dl]) [1, 0, 1, 178, 1, 5, 13] []) ∧ ((v = (es.size : Int) ∧ n = (es.size : Int) ∧ e = (ep : Int)) ∧ True) ∧
 KV (.ok .next) [some (ait, keyitX v n e), some (aacc, lstE ys ep2), some (ad, dictO es ep), some (cp, cellO (.int port tp)), some (dl, dictO (esP b hh tk vo) ep3)] (N + 1723) 2 (t0 + 1) 0 ch) := by kernel_rfl
end
def secI (l : List Int) : Int := match l with
 | [_, u] => u
 | _ => 0
def eqPs (port : Int) (xs : XS) : List Value := xs.map fun x => .bool (secI x.1 == port)
def PairX (xs : XS) : Prop := ∀ x ∈ xs, ∃ u, x.1 = [0, u]
theorem ints2 {l : List Value} {a b : Int} (h : intsOf l = some [a, b]) : ∃ s t, l = [.int a s, .int b t] := by
 cases l with
 | nil => cases h
 | cons v l =>
  refine intsOf_inv h fun i s ks e h e1 => ?_
  cases l with
  | nil => rw [← Option.some.inj h] at e1; cases e1
  | cons v2 l2 =>
   refine intsOf_inv h fun i2 t ks2 e2 h2 e3 => ?_
   cases l2 with
   | cons v3 l3 =>
    refine intsOf_inv h2 fun i3 u ks3 _ _ e4 => ?_
    rw [e4] at e3; rw [e3] at e1; cases e1
   | nil =>
    rw [← Option.some.inj h2] at e3
    rw [e3] at e1
    cases e1
    exact ⟨s, t, by rw [e, e2]⟩
theorem off_back {X : XT} {b : Nat} {o : Obj} (h : X b = some o) : SubX X (exL (offX X b) [(b, o)]) := fun a o' e => by
 unfold exL
 have e2 : lookA [(b, o)] a = (Bool.rec none (some o) (Nat.beq b a) : Option Obj) := rfl
 rw [e2]
 cases q : Nat.beq b a with
 | true =>
  have := Nat.eq_of_beq_eq_true q
  subst this
  rw [h] at e
  exact e
 | false =>
  show (if a = b then none else X a) = some o'
  rw [if_neg (fun w => by rw [w, Nat.beq_refl] at q; cases q)]
  exact e
theorem back_ok {w : World} {h : Heap} {d : Drawn} {os : OsState} {X : XT} (O : (VX w h d os X).Ok) {b : Nat} {o : Obj} (hX : X b = some o) {n : Nat} (hn : n ≤ 62) {F : FT} {R : Result → Shared → Prop}
  (K : ∀ r l' N' t' ch', F r l' N' t' ch' → AtS (VX w h d os X) R r (listT l') l'.length (N' + 1723) 0 (t' + 1) 0 ch') :
  ∀ r l'' N' t' ch', (∃ l', l'' = l' ++ [(b, o)] ∧ l'.length = n ∧ F r l' N' t' ch') → AtS (VX w h d os (offX X b)) R r (listT l'') l''.length (N' + 1723) 0 (t' + 1) 0 ch' := by
 intro r l'' N' t' ch' ⟨l', e, hl, hF⟩ g' D'
 subst e
 have lenA : (l' ++ [(b, o)]).length = l'.length + 1 := by simp
 refine K r l' N' t' ch' hF g' (Rp.freeze O (q := l'.length) D' ?_ hX fun j x hx => ?_)
 ·rw [listT_get (by rw [lenA]; omega), nthO_app]; simp
 ·rw [listT_get (by omega)] at hx
  have hj : j < l'.length := by
   rw [nthO_is] at hx
   exact (List.getElem?_eq_some_iff.mp hx).1
  exact ⟨hj, Nat.ne_of_lt hj, by rw [listT_get (by rw [lenA]; omega), nthO_app, if_pos hj]; exact hx⟩
theorem tailx_ok {b : Nat} {o : Obj} {n : Nat} (hn : n + 1 ≤ 62) {F : FT} {r : Result} {l' : OL} {N' t' : Nat} {ch' : Ch} (hF : F r l' N' t' ch') (hl : l'.length = n) :
  Fx (n + 1) [(b, o)] (KVof (n + 1) fun r l'' N' t' ch' => ∃ l', l'' = l' ++ [(b, o)] ∧ l'.length = n ∧ F r l' N' t' ch') r l' N' t' ch' :=
 ⟨by rw [hl]; exact hn, tail_ok (n := n + 1) (by omega) ⟨l', rfl, hl, hF⟩ (by simp [hl])⟩
structure YK where
 it : Obj
 ep2 : Nat
 ep3 : Nat
 hh : Int
 tk : Nat
 vo : Value
 L : List Value
structure StK where
 (ait aacc ad cp dl ep ep2 ep3 tp tk : Nat)
 (port hh : Int)
 vo : Value
 ys : List Value
 xs : XS
 i : Nat
 b : Bool
 y : CE
 z : CS
def StK.ol (s : StK) : OL := olK s.ait s.aacc s.ad s.cp s.dl (keyitO s.ad (s.i : Int) ((esX s.xs).size : Int) (s.ep : Int)) (lstE ⟨s.ys⟩ s.ep2) (esX s.xs) s.ep s.port s.tp (esP s.b s.hh s.tk s.vo) s.ep3
def StK.out (s : StK) (k : Nat) (y : YK) : OL := olK s.ait s.aacc s.ad s.cp s.dl y.it (lstE ⟨s.ys ++ eqPs s.port (s.xs.drop s.i)⟩ y.ep2) (esX s.xs) s.ep s.port s.tp (esP (s.b || Nat.blt 0 k) y.hh y.tk y.vo) y.ep3
def I_key (w : World) (k : Nat) : IX := fun X l Γ ch F => ∃ s : StK, l = s.ol ∧ Γ = s.z.ctx (cKey w.params s.y s.ait s.aacc s.dl s.cp) ∧ FrozenX X s.xs ∧ (s.i + k = s.xs.length ∧ PairX s.xs ∧ s.ys.length + k ≤ 1000) ∧ ∀ N' t' y, F (.ok .next) (s.out k y) N' t' ch
theorem I_key_mono (w : World) (k : Nat) (X : XT) : MonoI (I_key w k X) := fun l Γ ch F G H hI => hI.imp fun s h => ⟨h.1, h.2.1, h.2.2.1, h.2.2.2.1, fun N' t' y => H _ _ _ _ _ (h.2.2.2.2 N' t' y)⟩
theorem frozen_sub {X Y : XT} (h : SubX X Y) {xs : XS} (z : FrozenX X xs) : FrozenX Y xs := fun x hx => let ⟨vs, ep, q1, q2⟩ := z x hx; ⟨vs, ep, h _ _ q1, q2⟩
theorem I_key_monoX (w : World) (k : Nat) : MonoX (I_key w k) := fun X Y H l Γ ch F hI => hI.imp fun s h => ⟨h.1, h.2.1, frozen_sub H h.2.2.1, h.2.2.2⟩
theorem esPK_is (w : World) (b : Bool) (hh : Int) (tk t0 : Nat) (v : Value) : esPK w b hh tk t0 v = esP true (Bool.rec (hashS w sPlace) hh b) (Bool.rec (t0 + 1) tk b) v := by cases b <;> rfl
theorem esX_size (xs : XS) : (esX xs).size = xs.length := by unfold esX; simp
theorem esX_get (xs : XS) (i : Nat) (hi : i < xs.length) : (esX xs)[i]? = some ⟨tkH xs[i].1, .ref xs[i].2.1, xs[i].2.2⟩ := by
 unfold esX
 simp [hi]
theorem key_ok (w : World) (h : Heap) (d : Drawn) (os : OsState) : ∀ k, CtX 5 (I_key w k) w h d os
 | 0 => fun X O l Γ p R g N t0 ch F hl hI D K => by
  obtain ⟨s, e1, e2, h4, ⟨h3, h5, h6⟩, hF⟩ := hI
  rw [e1] at D
  rw [e2]
  have run := (runK_e w N t0 s.ait s.aacc s.ad s.cp s.dl s.ep s.ep2 s.ep3 s.tp s.tk (s.i : Int) ((esX s.xs).size : Int) (s.ep : Int) s.port s.hh s.vo ⟨s.ys⟩ (esX s.xs) h d os X s.y s.z p ch (fun _ _ _ _ _ => False) (KVof 5 F) (w.params.followText "special-get-raises") (w.params.followText "comprehension-iter-twice") s.b).mpr ?_
  ·unfold simKe at run
   rw [wF_self] at run
   exact ct_run3 (by decide) O (hkOf2_ok (hkNextR_ok O) (hkTX_ok O (fun _ _ _ _ _ _ _ _ _ _ _ _ h => h.elim) (fun _ _ _ _ _ _ _ h => h) (fun _ _ _ _ _ _ _ h => h) (by decide))) run D K
  ·have hi : s.i = s.xs.length := h3
   refine ⟨accL_ok _ _ _ okNil, ⟨⟨by rw [esX_size, hi], rfl, rfl⟩, trivial⟩, _, N + 2, t0, hF (N + 2) t0 ⟨keyitX (s.i : Int) ((esX s.xs).size : Int) (s.ep : Int), s.ep2, s.ep3, s.hh, s.tk, s.vo, []⟩, rfl, ?_, rfl, rfl⟩
   show _ = [some _, some (s.aacc, lstE ⟨s.ys ++ eqPs s.port (s.xs.drop s.i)⟩ _), some _, some _, some (s.dl, dictO (esP (s.b || false) s.hh s.tk s.vo) s.ep3)]
   rw [List.drop_eq_nil_of_le (Nat.le_of_eq hi.symm), show s.ys ++ eqPs s.port [] = s.ys from List.append_nil s.ys, Bool.or_false]
 | k + 1 => fun X O l Γ p R g N t0 ch F hl hI D K => by
  obtain ⟨s, e1, e2, h4, ⟨h3, h5, h6⟩, hF⟩ := hI
  rw [e1] at D
  rw [e2]
  have hi : s.i < s.xs.length := by omega
  obtain ⟨u, hu⟩ := h5 s.xs[s.i] (List.getElem_mem hi)
  obtain ⟨vs, ept, hX, hints⟩ := h4 s.xs[s.i] (List.getElem_mem hi)
  rw [hu] at hints
  obtain ⟨ta, tu, hvs⟩ := ints2 hints
  rw [show vs = #[.int 0 ta, .int u tu] from Array.ext' hvs] at hX
  have hX : X s.xs[s.i].2.1 = some (tupO #[.int 0 ta, .int u tu] ept) := hX
  have hd : s.xs.drop s.i = s.xs[s.i] :: s.xs.drop (s.i + 1) := List.drop_eq_getElem_cons hi
  have D1 := Rp.thaw O (l := s.ol) (b := s.xs[s.i].2.1) (show (5 : Nat) ≤ 62 by decide) D hX
  have O1 := offX_ok O s.xs[s.i].2.1
  have R' : rhsK w N t0 s.ait s.aacc s.ad s.cp s.dl s.xs[s.i].2.1 s.ep s.ep2 s.ep3 ept s.tp ta tu s.tk (s.i : Int) ((esX s.xs).size : Int) (s.ep : Int) s.port 0 u s.hh ⟨s.ys⟩ (esX s.xs) (offX X s.xs[s.i].2.1) s.y s.z ch (I_key w k) (KVof 6 fun r l'' N' t' ch' => ∃ l', l'' = l' ++ [(s.xs[s.i].2.1, tupO #[.int 0 ta, .int u tu] ept)] ∧ l'.length = 5 ∧ F r l' N' t' ch') s.b := by
   have h7 : s.ys.length + 1 + k ≤ 1000 := (Nat.succ_add_eq_add_succ s.ys.length k) ▸ h6
   refine ⟨accL_ok _ _ _ okNil, trivial, s.i, _, _, rfl, rfl, rfl, esX_get s.xs s.i hi, accL_ok _ _ _ okNil, ⟨chkLe_of (Nat.le_trans (Nat.le_succ _) (Nat.le_trans (Nat.le_add_right _ k) h7)), trivial⟩, ?_⟩
   rw [push_lst, esPK_is]
   refine ⟨⟨s.ait, s.aacc, s.ad, s.cp, s.dl, s.ep, s.ep2 + 1, dEp s.b s.ep3, s.tp, _, s.port, _, _, s.ys ++ [Value.bool (u == s.port)], s.xs, s.i + 1, true, s.y, s.z⟩, rfl, rfl, frozen_sub (off_back hX) h4, ⟨(Nat.succ_add_eq_add_succ s.i k).trans h3, h5, by rw [List.length_append]; exact h7⟩, fun N' t' y => ?_⟩
   have := hF N' t' y
   have e3 : eqPs s.port (s.xs[s.i] :: s.xs.drop (s.i + 1)) = .bool (u == s.port) :: eqPs s.port (s.xs.drop (s.i + 1)) := by
    show Value.bool (secI s.xs[s.i].1 == s.port) :: _ = _
    rw [hu]; rfl
   unfold StK.out at this
   rw [show (s.b || Nat.blt 0 (k + 1)) = (true || Nat.blt 0 k) from Bool.or_true _, hd, e3] at this
   exact tailx_ok (by decide) (by unfold StK.out; rw [List.append_assoc]; exact this) rfl
  have run := (runK w N t0 s.ait s.aacc s.ad s.cp s.dl s.xs[s.i].2.1 s.ep s.ep2 s.ep3 ept s.tp ta tu s.tk (s.i : Int) ((esX s.xs).size : Int) (s.ep : Int) s.port 0 u s.hh s.vo ⟨s.ys⟩ (esX s.xs) h d os (offX X s.xs[s.i].2.1) s.y s.z p ch (I_key w k) (KVof 6 fun r l'' N' t' ch' => ∃ l', l'' = l' ++ [(s.xs[s.i].2.1, tupO #[.int 0 ta, .int u tu] ept)] ∧ l'.length = 5 ∧ F r l' N' t' ch') (w.params.followText "comprehension-iter-twice") (w.params.followText "special-get-raises") s.b).mpr R'
  unfold simK at run
  rw [wF_self] at run
  exact ct_run3 (by decide) O1 (hkOf2_ok (hkNextR_ok O1) (hkTX_ok O1 (key_ok w h d os k) (I_key_mono w k) (I_key_monoX w k) (by decide))) run D1 (back_ok O hX (by decide) K)
def resK (_ : Nat) (_ : YK) : Result := .ok .next
def outK (l : OL) (q : Nat) (y : YK) : List Obj := [y.it, lstE ⟨y.L⟩ y.ep2, nthD l 2, nthD l 3, dictO (esP (Nat.blt 0 q) y.hh y.tk y.vo) y.ep3]
def P_key (w : World) (xs : XS) (X : XT) (l : OL) (c : Code) : Prop := FrozenX X xs ∧ PairX xs ∧ xs.length ≤ 1000 ∧ ∃ (ait aacc ad cp dl ep ep2 ep3 tp : Nat) (port : Int) (y : CE),
 l = olK ait aacc ad cp dl (keyitO ad 0 ((esX xs).size : Int) (ep : Int)) (lstE ⟨[]⟩ ep2) (esX xs) ep port tp #[] ep3 ∧ c = cKey w.params y ait aacc dl cp
def Post_key (xs : XS) (q : Nat) (l : OL) (_ : Code) (y : YK) : Prop := y.L = eqPs (nOf (nthD l 3)) xs
def C_key (w : World) (xs : XS) : CtBX := ⟨5, 2, YK, fun _ => true, P_key w xs, resK, outK, Post_key xs⟩
theorem C_key_mono (w : World) (xs : XS) : (C_key w xs).MonoX := by
 intro X Y H l c ⟨h1, h2⟩
 exact ⟨frozen_sub H h1, h2⟩
theorem P_key_k {w : World} {xs : XS} {X : XT} {l : OL} {c : Code} (h : P_key w xs X l c) : FrozenX X xs ∧ PairX xs ∧ xs.length ≤ 1000 ∧ ∃ s : StK, (∀ bl, l = StK.ol ⟨s.ait, s.aacc, s.ad, s.cp, s.dl, s.ep, s.ep2, s.ep3, s.tp, 0, s.port, 0, .none, [], xs, 0, false, s.y, bl⟩) ∧ c = cKey w.params s.y s.ait s.aacc s.dl s.cp := by
 obtain ⟨h1, h2, h3, ait, aacc, ad, cp, dl, ep, ep2, ep3, tp, port, y, e1, e2⟩ := h
 exact ⟨h1, h2, h3, ⟨ait, aacc, ad, cp, dl, ep, ep2, ep3, tp, 0, port, 0, .none, [], [], 0, false, y, ⟨[]⟩⟩, fun _ => e1, e2⟩
theorem C_key_ok (w : World) (h : Heap) (d : Drawn) (os : OsState) (xs : XS) : CtX (C_key w xs).n (C_key w xs).I w h d os := fun X O l Γ p R g N t0 ch F hl hI D K => by
 obtain ⟨hP, i1, i2, i3, i4, _, hF⟩ := hI
 obtain ⟨h1, h2, h3, s, e1, e2⟩ := P_key_k hP
 obtain ⟨code, hd, own, bl, past⟩ := Γ
 have e3 : (⟨code, hd, own, bl, past⟩ : PySem.Ctx) = (⟨bl⟩ : CS).ctx (cKey w.params s.y s.ait s.aacc s.dl s.cp) := by
  rw [show hd = none from i1, show own = none from i2, show past = none from i3, show code = _ from e2]; rfl
 refine key_ok w h d os xs.length X O l _ p R g N t0 ch F hl ⟨⟨s.ait, s.aacc, s.ad, s.cp, s.dl, s.ep, s.ep2, s.ep3, s.tp, 0, s.port, 0, .none, [], xs, 0, false, s.y, ⟨bl⟩⟩, e1 _, e3, h1, ⟨Nat.zero_add _, h2, (Nat.zero_add _).symm ▸ h3⟩, fun N' t' y => ?_⟩ D K
 have key : ∀ q, q < 2 → Nat.blt 0 q = Nat.blt 0 xs.length → F (.ok .next) (StK.out ⟨s.ait, s.aacc, s.ad, s.cp, s.dl, s.ep, s.ep2, s.ep3, s.tp, 0, s.port, 0, .none, [], xs, 0, false, s.y, ⟨bl⟩⟩ xs.length y) N' t' ch := fun q hq e => by
  have := hF q hq ⟨y.it, y.ep2, y.ep3, y.hh, y.tk, y.vo, eqPs s.port xs⟩ N' t' (by rw [e1 ⟨bl⟩]; rfl)
  rw [e1 ⟨bl⟩] at this
  unfold StK.out
  rw [← e]
  exact this
 by_cases hx : xs = []
 ·exact key 0 (by decide) (by rw [hx]; rfl)
 ·exact key 1 (by decide) (Nat.ble_eq_true_of_le (List.length_pos_iff.mpr hx)).symm
theorem eqPs_allB (port : Int) (xs : XS) : allB (eqPs port xs) := fun x hx => by
 obtain ⟨y, _, rfl⟩ := List.mem_map.mp hx
 exact ⟨_, rfl⟩
def usedX (port : Int) (xs : XS) : Bool := xs.any fun x => secI x.1 == port
theorem eqPs_any (port : Int) : ∀ xs : XS, anyB (eqPs port xs) = usedX port xs
 | [] => rfl
 | x :: xs => by
  have := eqPs_any port xs
  unfold anyB usedX at this ⊢
  show ((secI x.1 == port) || (eqPs port xs).any isTr) = _
  rw [this, List.any_cons]
def jU : List Nat := dec [0x10613321307070700070007070300010179017a010979110d0d0d05050d0d000d000d020d05050500050005050300010179017a010902000b0b090978]
def jU0 : List Nat := dec [0x10c1900150015157817]
def jU1 : List Nat := dec [0x10c19001500151578171717]
def brU : Nat → List Nat := nthL [jU0 ++ [25, 21] ++ [2], jU1 ++ [25, 21] ++ [2], [], []]
def AU (tb td cd ld : Nat) (l : List (Nat × Nat)) (i : Nat) : Nat := match i with
 | 0 => tb
 | 1 => td
 | 2 => cd + 1723
 | 3 => ld + 1723
 | _ => pickB i l
def tblO (td : Nat) : Obj := { cls := .ref 1368, dict := some td, data := .plain, slots := #[] }
def sConn : Str := ⟨#[99, 111, 110, 110, 101, 99, 116, 105, 111, 110, 115]⟩
def sLis : Str := ⟨#[108, 105, 115, 116, 101, 110, 101, 114, 115]⟩
def tdcO (h0 : Int) (k0 : Nat) (cd : Nat) (h1 : Int) (k1 : Nat) (ld : Nat) (ep : Nat) : Obj := dictO #[entE h0 sConn k0 (.ref cd), entE h1 sLis k1 (.ref ld)] ep
def ceK (P : Params) (fr : Nat) : CE := ⟨(scopeC (retArg (stmtAt (bodyD P 1360) 1))).isGenerator, (scopeC (retArg (stmtAt (bodyD P 1360) 1))).isCoroutine, (scopeC (retArg (stmtAt (bodyD P 1360) 1))).more, (fnD P 1360).globals, qualD P 1360, none, (fnD P 1360).code, some fr, (fnD P 1360).builtins⟩
def cUsed (tb : Nat) (port : Int) (tp : Nat) : Code := .call (.ref 1360) ⟨[.ref tb, .int port tp], []⟩
structure SQ where
 t1 : Expr
 i1 : Value
 b1 : List Stmt
 o1 : List Stmt
 e1 : Env
 q1 : Pos
 c2 : List Stmt
 e2 : Env
 q2 : Pos
 c3 : List Stmt
 e3 : Env
 q3 : Pos
 q4 : Pos
 x5 : Expr
 e5 : Env
 q5 : Pos
 c6 : List Stmt
 e6 : Env
 q6 : Pos
def SQ.rest (x : SQ) (q : Bool) : List (Code × Pos) := Bool.rec [(.forLoop x.t1 x.i1 x.b1 x.o1 x.e1, x.q1), (.func x.c2 x.e2, x.q2), (.func x.c3 x.e3, x.q3), (.builtin "claim.caller" {}, x.q4)]
 [(.expr x.x5 x.e5, x.q5), (.func x.c6 x.e6, x.q6), (.forLoop x.t1 x.i1 x.b1 x.o1 x.e1, x.q1), (.func x.c2 x.e2, x.q2), (.func x.c3 x.e3, x.q3), (.builtin "claim.caller" {}, x.q4)] q
structure SW where
 t7 : Expr
 i7 : Value
 b7 : List Stmt
 o7 : List Stmt
 e7 : Env
 q7 : Pos
 c8 : List Stmt
 e8 : Env
 q8 : Pos
def blU (x : SQ) (y : SW) (q : Bool) : List (Code × Pos) := (.forLoop y.t7 y.i7 y.b7 y.o7 y.e7, y.q7) :: (.func y.c8 y.e8, y.q8) :: x.rest q
section
variable (w : World) (N t0 tb td cd ld tp k0 k1 ep epd : Nat) (port h0 h1 : Int) (es : Array DictEntry) (h : Heap) (d : Drawn) (os : OsState) (X : Nat → Option Obj) (x : SQ) (xw : SW) (p : Pos) (v1 v2 v3 : Array Value) (KV : KVT) (P : XT → OL → Code → Prop) (Post : Nat → OL → Code → YK → Prop) (PA : OL → Code → Prop) (PostA : Nat → OL → YA → Prop)
abbrev olU : OL := [(tb, tblO td), (td, tdcO h0 k0 (cd + 1723) h1 k1 (ld + 1723) epd), (cd + 1723, dictO #[] 0), (ld + 1723, dictO es ep)]
abbrev simU (b1 b2 q : Bool) (js : List Nat) : Prop := simG (VX (wF w b1 b2) h d os X) (HH3 (hkOf [hkBX X ⟨5, 2, YK, fun _ => true, P, resK, outK, Post⟩ brU, hkB ⟨2, 2, YA, PA, resA, outA, PostA⟩ brU])) (KFv 4 KV) 400 ⟨cUsed tb port tp, none, none, blU x xw q, none⟩ p .base (denF (cUsed tb port tp)) (listT (olU tb td cd ld k0 k1 ep epd h0 h1 es)) 4 (N + 1723) 0 (t0 + 1) 0 (chL v1 v2 v3) js [] True
abbrev rhsU : Prop := ∀ _ : Pos, (okAcc (accL (AU tb td cd ld [(4, N + 1723)]) jU []) ∧ True ∧ (P X [((N + 1723 + 5), keyitO (ld + 1723) 0 (es.size : Int) (ep : Int)), ((N + 1723 + 6), lstE #[] 0), ((ld + 1723), dictO es ep), ((N + 1723 + 1), cellO (.int port tp)), ((N + 1723 + 7), dictO #[] 0)] (cKey w.params (ceK w.params (N + 1723 + 0)) (N + 1723 + 5) (N + 1723 + 6) (N + 1723 + 7) (N + 1723 + 1)) ∧ ((True ∧ ∀ (y : YK) (N1 t1 : Nat), Post 0 [((N + 1723 + 5), keyitO (ld + 1723) 0 (es.size : Int) (ep : Int)), ((N + 1723 + 6), lstE #[] 0), ((ld + 1723), dictO es ep), ((N + 1723 + 1), cellO (.int port tp)), ((N + 1723 + 7), dictO #[] 0)] (cKey w.params (ceK w.params (N + 1723 + 0)) (N + 1723 + 5) (N + 1723 + 6) (N + 1723 + 7) (N + 1723 + 1)) y → (okAcc (accL (AU tb td cd ld [(12, N1 + 1723), (4, N + 1723)]) jU0 []) ∧ True ∧ (PA [((N1 + 1723 + 0), iterO (N + 1723 + 6) 0), ((N + 1723 + 6), lstE ⟨y.L⟩ y.ep2)] (cAny (N1 + 1723 + 0)) ∧ ((True ∧ (∀ (z : YA) (N2 t2 : Nat), PostA 0 [((N1 + 1723 + 0), iterO (N + 1723 + 6) 0), ((N + 1723 + 6), lstE ⟨y.L⟩ y.ep2)] z → (okAcc [] ∧ True ∧ KV (.ok (.ret (.bool false))) ((olU tb td cd ld k0 k1 ep epd h0 h1 es).map some) (N2 + 1723) 0 (t2 + 1) 0 (chL v1 v2 v3)))) ∧ (∀ (z : YA) (N2 t2 : Nat), PostA 1 [((N1 + 1723 + 0), iterO (N + 1723 + 6) 0), ((N + 1723 + 6), lstE ⟨y.L⟩ y.ep2)] z → (okAcc [] ∧ True ∧ KV (.ok (.ret (.bool true))) ((olU tb td cd ld k0 k1 ep epd h0 h1 es).map some) (N2 + 1723) 0 (t2 + 1) 0 (chL v1 v2 v3))))))) ∧ ∀ (y : YK) (N1 t1 : Nat), Post 1 [((N + 1723 + 5), keyitO (ld + 1723) 0 (es.size : Int) (ep : Int)), ((N + 1723 + 6), lstE #[] 0), ((ld + 1723), dictO es ep), ((N + 1723 + 1), cellO (.int port tp)), ((N + 1723 + 7), dictO #[] 0)] (cKey w.params (ceK w.params (N + 1723 + 0)) (N + 1723 + 5) (N + 1723 + 6) (N + 1723 + 7) (N + 1723 + 1)) y → (okAcc (accL (AU tb td cd ld [(12, N1 + 1723), (4, N + 1723)]) jU1 []) ∧ True ∧ (PA [((N1 + 1723 + 0), iterO (N + 1723 + 6) 0), ((N + 1723 + 6), lstE ⟨y.L⟩ y.ep2)] (cAny (N1 + 1723 + 0)) ∧ ((True ∧ (∀ (z : YA) (N2 t2 : Nat), PostA 0 [((N1 + 1723 + 0), iterO (N + 1723 + 6) 0), ((N + 1723 + 6), lstE ⟨y.L⟩ y.ep2)] z → (okAcc [] ∧ True ∧ KV (.ok (.ret (.bool false))) ((olU tb td cd ld k0 k1 ep epd h0 h1 es).map some) (N2 + 1723) 0 (t2 + 1) 0 (chL v1 v2 v3)))) ∧ (∀ (z : YA) (N2 t2 : Nat), PostA 1 [((N1 + 1723 + 0), iterO (N + 1723 + 6) 0), ((N + 1723 + 6), lstE ⟨y.L⟩ y.ep2)] z → (okAcc [] ∧ True ∧ KV (.ok (.ret (.bool true))) ((olU tb td cd ld k0 k1 ep epd h0 h1 es).map some) (N2 + 1723) 0 (t2 + 1) 0 (chL v1 v2 v3)))))))))
theorem runU (b2 q0 q1 : Bool) : simU w N t0 tb td cd ld tp k0 k1 ep epd port h0 h1 es h d os X x xw p v1 v2 v3 KV P Post PA PostA q1 b2 q0 (jU ++ [19, 21, 7, 11, 23] ++ [0]) = rhsU w N tb td cd ld tp k0 k1 ep epd port h0 h1 es X v1 v2 v3 KV P Post PA PostA := by
 cases q0 <;> cases q1 <;> kernel_rfl
end
def nRNext : Nat := 9231062798198206674541908477283886571094360729114862195
theorem nRNext_is : PySem.W.S.codeS "range_iterator.__next__" = nRNext := by kernel_rfl
structure DG where
 it : Nat
 j : Nat
 q : Nat × Int × Int
 b : Nat
def rd3R (l : List Value) : Option (Int × Int) := bL l fun a r => bL r fun b r => bL r fun c r => bN r (bO (vI0 a) fun a => bO (vI0 b) fun b => bO (vI0 c) fun c => bT (Z.eqB c (.ofNat 1)) (some (a, b)))
theorem rd3R_ok {l : List Value} {q : Int × Int} (h : rd3R l = some q) : l = [.int q.1 0, .int q.2 0, .int 1 0] :=
 inv_l h fun p r e h => inv_l h fun q r2 e2 h => inv_l h fun k r3 e3 h => inv_n h fun e4 h => inv_o h fun p' e5 h => inv_o h fun q' e6 h => inv_o h fun k' e7 h => inv_t h fun e8 h => by
  rw [e, e2, e3, e4, vI0_ok e5, vI0_ok e6, vI0_ok e7, (Z.eqB_iff _ _).mp e8, ← Option.some.inj h]; rfl
def rdRg2 (vs : List Value) (js : List Nat) (T : MT) : Option DG := bO (aR vs) fun it => bL js fun j js => bL js fun b _ => bO (itAt nRI T j) fun q => bO (rd3R q.2) fun x => some ⟨it, j, (q.1, x), b⟩
theorem rdRg2_ok {vs : List Value} {js : List Nat} {T : MT} {d : DG} (h : rdRg2 vs js T = some d) (h1 : d.it = d.q.1) : vs = [.ref d.it] ∧ T.get (d.j / 2) = some (d.it, rngO d.q.2.1 d.q.2.2) :=
 inv_o h fun it e1 h => inv_l h fun j r e2 h => inv_l h fun b r2 e3 h => inv_o h fun q e4 h => inv_o h fun x e5 h => by
  rw [← Option.some.inj h] at h1 ⊢
  refine ⟨aR_ok e1, (itAt_ok nRI_is (show itAt nRI T j = some (q.1, q.2) from e4)).trans ?_⟩
  rw [rd3R_ok e5, ← show it = q.1 from h1]; rfl
def hkNextRg (n : Nat) (br : Nat → List Nat) : HB := hkI nRNext (fun _ => rdRg2) fun d T m B c τ i ch => ([(d.it, d.q.1)], fun K => 0 < d.q.2.2 ∧ anyK n fun q => K (.ok (.ret (.int d.q.2.1 (τ + i)))) (T.upd (d.j / 2) fun _ => rngO (d.q.2.1 + 1) (d.q.2.2 - 1)) m B c τ (i + 1) ch (br (d.b + q)))
theorem hkNextRg_ok {V : XW} (O : V.Ok) (n : Nat) (br : Nat → List Nat) : HBOk V (hkNextRg n br) :=
 hkI_ok nRNext_is (fun d T m B c τ i ch F G H x => ⟨x.1, anyK_mono (fun _ => H _ _ _ _ _ _ _ _ _) x.2⟩)
 fun vs js Γ p T m B c τ i ch d e hc hps R g D x => by
  obtain ⟨hv, e4⟩ := rdRg2_ok e (hps _ (.head _))
  rw [hv] at hc
  refine hook_meets hc F.slot_range_iterator_next.plain F.entry_range_iterator_next ((AutoRange.range_iterator___next___range_iterator_1 d.it d.q.2.1 d.q.2.2 1 (by have := x.1; omega)).inModel _ _) ⟨(D.own _ _ _ e4).2.2.2, ?_⟩
  refine anyK_get (fun _ q => q) x.2 _ ?_
  exact (D.set O (f := Obj.mapFields fun x_1 => x_1.setIfInBounds 0 (rawInt (d.q.2.1 + 1))) (o' := rngO (d.q.2.1 + 1) d.q.2.2) e4 rfl rfl).set2 O e4 rfl rfl
def jN : List Nat := dec [0x10906090009]
def jN_0 : List Nat := (z27 ++ (dec [0x10500030379037a030d02] ++ z93))
def jN_1 : List Nat := (z27 ++ (dec [0x1780d00] ++ z93))
def jN_2 : List Nat := (z28 ++ dec [0x10c01010500030379037a030d02])
def jN_3 : List Nat := (z28 ++ dec [0x10c0101780d00])
def jNe : List Nat := dec [0x1000d09090900090009]
def brNf : Nat → List Nat := nthL [jN_0, jN_1, jN_2 ++ [1, 3, 5, 7, 9], jN_3 ++ [1, 3, 5, 7, 9]]
def sSelf : Str := ⟨#[115, 101, 108, 102]⟩
def sFirst : Str := ⟨#[102, 105, 114, 115, 116]⟩
def sLast : Str := ⟨#[108, 97, 115, 116]⟩
def sTaken : Str := ⟨#[116, 97, 107, 101, 110]⟩
structure PF where
 po : Nat
 pd : Nat
 td : Nat
 h : Nat → Int
 k : Nat → Nat
 first : Int
 tf : Nat
 last : Int
 tl : Nat
 ep : Nat
def PF.obj (x : PF) : Obj := { cls := .ref 154, dict := some x.pd, data := .plain, slots := #[] }
def PF.dct (x : PF) (fol : Value) : Obj := dictO #[entE (x.h 0) sFirst (x.k 0) (.int x.first x.tf), entE (x.h 1) sLast (x.k 1) (.int x.last x.tl), entE (x.h 2) sFol (x.k 2) fol, entE (x.h 3) sTaken (x.k 3) (.ref x.td)] x.ep
def foN (P : Params) : ForP := forOf (stmtAt (bodyD P 137) 1)
def envN (P : Params) (f : Nat) : Env := ⟨(fnD P 137).scope, f, (fnD P 137).globals, [], qualD P 137, some 137, (fnD P 137).code, some f, (fnD P 137).builtins⟩
def codeN (P : Params) (f it : Nat) : Code := .forLoop (foN P).t (.ref it) (foN P).b (foN P).o (envN P f)
structure NF where
 h0 : Int
 k0 : Nat
 h1 : Int
 k1 : Nat
 h2 : Int
 k2 : Nat
 ep : Nat
abbrev frNf (b : Bool) (x : NF) (po : Nat) (num turn : Value) : Obj := Bool.rec (frmO [entE x.h0 sSelf x.k0 (.ref po), entE x.h1 sNumber x.k1 num] x.ep) (frmO [entE x.h0 sSelf x.k0 (.ref po), entE x.h1 sNumber x.k1 num, entE x.h2 sTurn x.k2 turn] x.ep) b
abbrev frNk (w : World) (b : Bool) (x : NF) (po t0 : Nat) (num turn : Value) : Obj := Bool.rec (frmO [entE x.h0 sSelf x.k0 (.ref po), entE x.h1 sNumber x.k1 num, entE (hashS w sTurn) sTurn (t0 + 2) turn] (x.ep + 1)) (frmO [entE x.h0 sSelf x.k0 (.ref po), entE x.h1 sNumber x.k1 num, entE x.h2 sTurn x.k2 turn] x.ep) b
structure SN where
 cN : List Stmt
 eN : Env
 qN : Pos
 cT : List Stmt
 eT : Env
 qT : Pos
def blNf (z : SN) (x : SQ) (y : SW) (q : Bool) : List (Code × Pos) := (.func z.cN z.eN, z.qN) :: (.func z.cT z.eT, z.qT) :: blU x y q
section
variable (w : World) (N t0 f it ept : Nat) (xp : PF) (xn : NF) (n v left : Int) (tn : Nat) (fol vt : Value) (es : Array DictEntry) (h : Heap) (d : Drawn) (os : OsState) (X : Nat → Option Obj) (z : SN) (x : SQ) (xw : SW) (p : Pos) (v1 v2 v3 : Array Value) (I : IT) (KV : KVT)
abbrev olN (fr fol : Obj) (es : Array DictEntry) (ept : Nat) (rg : Obj) : OL := [(f, fr), (xp.po, xp.obj), (xp.pd, fol), (xp.td, dictO es ept), (it, rg)]
abbrev simNf (b1 b2 q b : Bool) (left : Int) (js : List Nat) : Prop := simG (VX (wF w b1 b2) h d os X) (HH3 (hkOf [hkNextRg 4 brNf, hkT 5 I])) (KFv 5 KV) 400 ⟨codeN w.params f it, none, none, blNf z x xw q, none⟩ p .base (denF (codeN w.params f it)) (listT (olN f it xp (frNf b xn xp.po (.int n tn) vt) (xp.dct fol) es ept (rngO v left))) 5 (N + 1723) 0 (t0 + 1) 0 (chL v1 v2 v3) js [] True
abbrev AN : Nat → Nat := AX4 N [f, xp.po, xp.pd, xp.td, it]
abbrev rhsNf (q b : Bool) : Prop := okAcc (accL (AN N f it xp) jN []) ∧ True ∧ (0 < left ∧ ((((False ∨ (okAcc (accL (AN N f it xp) jN_0 []) ∧ ((n == xp.last) = true ∧ chkD es n false = true ∧ True) ∧ KV (.ok (.ret (.int n tn))) ((olN f it xp (frNk w b xn xp.po t0 (.int n tn) (.int v (t0 + 1))) (xp.dct (.int xp.first xp.tf)) es ept (rngO (v + 1) (left - 1))).map some) (N + 1723) 2 (t0 + 1) 12 (chL v1 v2 v3))) ∨ (okAcc (accL (AN N f it xp) jN_1 []) ∧ ((n == xp.last) = false ∧ chkD es n false = true ∧ True) ∧ KV (.ok (.ret (.int n tn))) ((olN f it xp (frNk w b xn xp.po t0 (.int n tn) (.int v (t0 + 1))) (xp.dct (.int (n + 1) (t0 + 1 + 10))) es ept (rngO (v + 1) (left - 1))).map some) (N + 1723) 2 (t0 + 1) 13 (chL v1 v2 v3))) ∨ (okAcc (accL (AN N f it xp) jN_2 []) ∧ ((n == xp.last) = true ∧ chkD es n true = true ∧ True) ∧ I (olN f it xp (frNk w b xn xp.po t0 (.int xp.first xp.tf) (.int v (t0 + 1))) (xp.dct fol) es ept (rngO (v + 1) (left - 1))) ⟨codeN w.params f it, none, none, blNf z x xw q, none⟩ (chL v1 v2 v3) (Fn 5 KV))) ∨ (okAcc (accL (AN N f it xp) jN_3 []) ∧ ((n == xp.last) = false ∧ chkD es n true = true ∧ True) ∧ I (olN f it xp (frNk w b xn xp.po t0 (.int (n + 1) (t0 + 1 + 10)) (.int v (t0 + 1))) (xp.dct fol) es ept (rngO (v + 1) (left - 1))) ⟨codeN w.params f it, none, none, blNf z x xw q, none⟩ (chL v1 v2 v3) (Fn 5 KV))))
theorem runNf (b2 q0 q1 q2 : Bool) : simNf w N t0 f it ept xp xn n v tn fol vt es h d os X z x xw p v1 v2 v3 I KV q1 b2 q0 q2 left (jN ++ [0]) = rhsNf w N t0 f it ept xp xn n v left tn fol es z x xw v1 v2 v3 I KV q0 q2 := by
 cases q0 <;> cases q1 <;> cases q2 <;> kernel_rfl
theorem runNf_e (b1 b2 q b : Bool) : simNf w N t0 f it ept xp xn n v tn fol vt es h d os X z x xw p v1 v2 v3 I KV b1 b2 q b (Int.ofNat 0) jNe = (okAcc (accL (AN N f it xp) jNe []) ∧ True ∧
 KV (.ok .next) ((olN f it xp (frNf b xn xp.po (.int n tn) vt) (xp.dct fol) es ept (rngO v (Int.ofNat 0))).map some) (N + 1723) 2 (t0 + 1) 0 (chL v1 v2 v3)) := by kernel_rfl
end
def cEx (c : Code) : Option (Expr × Env) := match c with
 | .expr e env => some (e, env)
 | _ => none
theorem cEx_ok {c : Code} {q : Expr × Env} (h : cEx c = some q) : c = .expr q.1 q.2 := by
 cases c <;> first | exact nos h | rw [← Option.some.inj h]
def sp4 (bl : List (Code × Pos)) : Bool := yes (bL bl fun x r => bL r fun y r => bL r fun z r => bL r fun v r => bN r (bT (isFor x.1) (bO (cF y.1) fun _ => bO (cF z.1) fun _ => bT (isCl v.1) (some ()))))
def spE (bl : List (Code × Pos)) : Bool := yes (bL bl fun x r => bL r fun y r => bO (cEx x.1) fun _ => bO (cF y.1) fun _ => bT (sp4 r) (some ()))
def spR (bl : List (Code × Pos)) : Bool := sp4 bl || spE bl
theorem sp4_ok {bl : List (Code × Pos)} (h : sp4 bl = true) (x5 : Expr) (e5 : Env) (q5 : Pos) (c6 : List Stmt) (e6 : Env) (q6 : Pos) : ∃ x : SQ, bl = x.rest false ∧ (.expr x5 e5, q5) :: (.func c6 e6, q6) :: bl = x.rest true :=
 inv_l (yes_ok h) fun x r h1 h => inv_l h fun y r2 h2 h => inv_l h fun z r3 h3 h => inv_l h fun v r4 h4 h => inv_n h fun h5 h => inv_t h fun hx h => inv_o h fun a hy h => inv_o h fun b hz h => inv_t h fun hv _ => by
  obtain ⟨t1, i1, b1, o1, ev, ex⟩ := isFor_ok hx
  have e : bl = SQ.rest ⟨t1, i1, b1, o1, ev, x.2, a.1, a.2, y.2, b.1, b.2, z.2, v.2, x5, e5, q5, c6, e6, q6⟩ false := by
   rw [h1, h2, h3, h4, h5, show x = (x.1, x.2) from rfl, show y = (y.1, y.2) from rfl, show z = (z.1, z.2) from rfl, show v = (v.1, v.2) from rfl, ex, cF_ok hy, cF_ok hz, isCl_ok hv]; rfl
  exact ⟨_, e, by rw [e]; rfl⟩
theorem spR_ok {bl : List (Code × Pos)} (h : spR bl = true) : ∃ (x : SQ) (q : Bool), bl = x.rest q := by
 rcases Bool.or_eq_true _ _ |>.mp h with h | h
 ·obtain ⟨x, h1, _⟩ := sp4_ok h default default default [] default default
  exact ⟨x, false, h1⟩
 ·exact inv_l (yes_ok h) fun x r h1 h => inv_l h fun y r2 h2 h => inv_o h fun a hx h => inv_o h fun b hy h => inv_t h fun h4 _ =>
   (sp4_ok h4 a.1 a.2 x.2 b.1 b.2 y.2).elim fun q hq => ⟨q, true, by rw [h1, h2, ← hq.2, show x = (x.1, x.2) from rfl, show y = (y.1, y.2) from rfl, cEx_ok hx, cF_ok hy]⟩
def spU (bl : List (Code × Pos)) : Bool := yes (bL bl fun x r => bL r fun y r => bT (isFor x.1) (bO (cF y.1) fun _ => bT (spR r) (some ())))
theorem spU_ok {bl : List (Code × Pos)} (h : spU bl = true) : ∃ (x : SQ) (y : SW) (q : Bool), bl = blU x y q :=
 inv_l (yes_ok h) fun x r h1 h => inv_l h fun y r2 h2 h => inv_t h fun hx h => inv_o h fun a hy h => inv_t h fun h4 _ => by
  obtain ⟨t7, i7, b7, o7, e7, ex⟩ := isFor_ok hx
  obtain ⟨z, q, e⟩ := spR_ok h4
  refine ⟨z, ⟨t7, i7, b7, o7, e7, x.2, a.1, a.2, y.2⟩, q, ?_⟩
  rw [h1, h2, e, show x = (x.1, x.2) from rfl, show y = (y.1, y.2) from rfl, ex, cF_ok hy]; rfl
structure YU where
 u : Nat
def resU (q : Nat) (_ : YU) : Result := .ok (.ret (.bool (Nat.blt 0 q)))
def outU (l : OL) (_ : Nat) (_ : YU) : List Obj := [nthD l 0, nthD l 1, nthD l 2, nthD l 3]
def portOf (c : Code) : Int := match c with
 | .call _ ⟨[_, .int p _], _⟩ => p
 | _ => 0
def P_used (xs : XS) (X : XT) (l : OL) (c : Code) : Prop := FrozenX X xs ∧ PairX xs ∧ xs.length ≤ 1000 ∧ ∃ (tb td cd ld tp k0 k1 ep epd : Nat) (port h0 h1 : Int),
 l = olU tb td cd ld k0 k1 ep epd h0 h1 (esX xs) ∧ c = cUsed tb port tp
def Post_used (xs : XS) (q : Nat) (_ : OL) (c : Code) (_ : YU) : Prop := usedX (portOf c) xs = Nat.blt 0 q
def C_used (xs : XS) : CtBX := ⟨4, 2, YU, spU, P_used xs, resU, outU, Post_used xs⟩
theorem C_used_mono (xs : XS) : (C_used xs).MonoX := by
 intro X Y H l c ⟨h1, h2⟩
 exact ⟨frozen_sub H h1, h2⟩
theorem C_used_ok (w : World) (h : Heap) (d : Drawn) (os : OsState) (xs : XS) : CtX (C_used xs).n (C_used xs).I w h d os := by
 intro X O l Γ p R g N t0 ch F hl hI D K
 obtain ⟨⟨h1, h2, h3, tb, td, cd, ld, tp, k0, k1, ep, epd, port, h0', h1', rfl, h4⟩, e1, e2, e3, hsp, ⟨vc, rfl⟩, hF⟩ := hI
 obtain ⟨code, hd, own, bl, past⟩ := Γ
 simp only at e1 e2 e3 h4
 subst e1 e2 e3 h4
 obtain ⟨x, xw, q, rfl⟩ := spU_ok hsp
 have b3 : ∀ (y : YK) (lit acc : Nat), y.L = eqPs port xs → P_any [(lit, iterO acc 0), (acc, lstE ⟨y.L⟩ y.ep2)] (cAny lit) := fun y lit acc hy => ⟨lit, acc, y.ep2, y.L, rfl, rfl, by rw [hy]; exact eqPs_allB _ _⟩
 have R' : rhsU w N tb td cd ld tp k0 k1 ep epd port h0' h1' (esX xs) X vc.1 vc.2.1 vc.2.2 (KVof 4 F) (P_key w xs) (Post_key xs) P_any Post_any := by
  have A : ∀ (r : Bool) (y : YK) (lit acc : Nat) (z : YA) (N2 t2 q : Nat), Nat.blt 0 q = r → q < 2 → y.L = eqPs port xs → Post_any q [(lit, iterO acc 0), (acc, lstE ⟨y.L⟩ y.ep2)] z → okAcc [] ∧ True ∧ KVof 4 F (.ok (.ret (.bool r))) ((olU tb td cd ld k0 k1 ep epd h0' h1' (esX xs)).map some) (N2 + 1723) 0 (t2 + 1) 0 (chL vc.1 vc.2.1 vc.2.2) := by
   intro r y lit acc z N2 t2 q hr hq hy hz
   have hz : anyB y.L = Nat.blt 0 q := hz
   rw [hy, eqPs_any] at hz
   refine ⟨okNil, trivial, olU tb td cd ld k0 k1 ep epd h0' h1' (esX xs), N2, t2, ?_, rfl, rfl, rfl, rfl⟩
   have this : F (.ok (.ret (.bool (Nat.blt 0 q)))) (olU tb td cd ld k0 k1 ep epd h0' h1' (esX xs)) N2 t2 (chL vc.1 vc.2.1 vc.2.2) := hF q hq ⟨0⟩ N2 t2 hz
   rw [hr] at this
   exact this
  have P0 : P_key w xs X [(N + 1723 + 5, keyitO (ld + 1723) 0 ((esX xs).size : Int) (ep : Int)), (N + 1723 + 6, lstE #[] 0), (ld + 1723, dictO (esX xs) ep), (N + 1723 + 1, cellO (.int port tp)), (N + 1723 + 7, dictO #[] 0)] (cKey w.params (ceK w.params (N + 1723 + 0)) (N + 1723 + 5) (N + 1723 + 6) (N + 1723 + 7) (N + 1723 + 1)) :=
   ⟨h1, h2, h3, _, _, _, _, _, ep, 0, 0, tp, port, _, rfl, rfl⟩
  intro _
  exact ⟨accL_ok _ _ _ okNil, trivial, P0, ⟨trivial, fun y N1 t1 hy => ⟨accL_ok _ _ _ okNil, trivial, b3 y _ _ hy, ⟨trivial, fun z N2 t2 hz => A false y _ _ z N2 t2 0 rfl (by decide) hy hz⟩, fun z N2 t2 hz => A true y _ _ z N2 t2 1 rfl (by decide) hy hz⟩⟩, fun y N1 t1 hy => ⟨accL_ok _ _ _ okNil, trivial, b3 y _ _ hy, ⟨trivial, fun z N2 t2 hz => A false y _ _ z N2 t2 0 rfl (by decide) hy hz⟩, fun z N2 t2 hz => A true y _ _ z N2 t2 1 rfl (by decide) hy hz⟩⟩
 have run := (runU w N t0 tb td cd ld tp k0 k1 ep epd port h0' h1' (esX xs) h d os X x xw p vc.1 vc.2.1 vc.2.2 (KVof 4 F) (P_key w xs) (Post_key xs) P_any Post_any (w.params.followText "comprehension-iter-twice") q (w.params.followText "special-get-raises")).mpr R'
 unfold simU at run
 rw [wF_self] at run
 exact ct_run3 (by decide) O (hkOf2_ok (hkBX_ok (C := C_key w xs) O (C_key_ok w h d os xs) (C_key_mono w xs) (show (5 : Nat) ≤ 63 by decide)) (hkB_ok (C := C_any) O (C_any_ok w h d os) (by decide))) run D K
def hasI (n : Int) (D : List Int) : Bool := D.any fun k => k == n
def beh (first last n : Int) : Int := if n = last then first else n + 1
def Nf (D : List Int) (first last : Int) : Nat → Int → Option Int
 | 0, _ => none
 | k + 1, n => if hasI n D = true then Nf D first last k (beh first last n) else some n
def keyV (e : DictEntry) : Int := kI e.key
structure TakOk (es : Array DictEntry) (D : List Int) : Prop where
 all : es.toList.all keyI = true
 ks : es.toList.map keyV = D
 sz : es.size ≤ 1000
theorem idxK_has (n : Int) : ∀ {l : List DictEntry}, l.all keyI = true → (idxK n l).isSome = hasI n (l.map keyV)
 | [], _ => rfl
 | e :: l, h => by
  rw [List.all_cons, Bool.and_eq_true] at h
  have e1 : idxK n (e :: l) = (Bool.rec (match idxK n l with | some n => some (n + 1) | none => none) (some 0) (isK n e.key) : Option Nat) := rfl
  have ih := idxK_has n h.2
  have hk : isK n e.key = (keyV e == n) := by
   have h1 := h.1
   unfold keyI at h1
   split at h1
   ·rename_i i t hi
    unfold keyV
    rw [hi]
    exact eqB_beq i n
   ·cases h1
  rw [e1, hk]
  show _ = ((keyV e == n) || hasI n (l.map keyV))
  rw [← ih]
  cases (keyV e == n) with
  | true => rfl
  | false => cases idxK n l <;> rfl
theorem TakOk.chk {es : Array DictEntry} {D : List Int} (z : TakOk es D) {n : Int} {b : Bool} (h : hasI n D = b) : chkD es n b = true := by
 unfold chkD
 rw [z.all, idxK_has n z.all, z.ks, h]
 have : chkLe es.size = true := Nat.ble_eq_true_of_le (by have := z.sz; omega)
 rw [this]; simp
structure StN where
 f : Nat
 it : Nat
 ept : Nat
 xp : PF
 xn : NF
 n : Int
 v : Int
 tn : Nat
 fol : Value
 vt : Value
 es : Array DictEntry
 D : List Int
 b : Bool
 z : SN
 x : SQ
 xw : SW
 q : Bool
 v1 : Array Value
 v2 : Array Value
 v3 : Array Value
def I_N (w : World) (k : Nat) : IT := fun l Γ ch F => ∃ st : StN, l = olN st.f st.it st.xp (frNf st.b st.xn st.xp.po (.int st.n st.tn) st.vt) (st.xp.dct st.fol) st.es st.ept (rngO st.v (Int.ofNat k)) ∧
 Γ = ⟨codeN w.params st.f st.it, none, none, blNf st.z st.x st.xw st.q, none⟩ ∧ ch = chL st.v1 st.v2 st.v3 ∧ TakOk st.es st.D ∧
 (∀ u, Nf st.D st.xp.first st.xp.last k st.n = some u → ∀ fl fe rg' tu tf N' t', F (.ok (.ret (.int u tu))) (olN st.f st.it st.xp (frmO fl fe) (st.xp.dct (.int (beh st.xp.first st.xp.last u) tf)) st.es st.ept rg') N' t' ch) ∧
 (Nf st.D st.xp.first st.xp.last k st.n = none → ∀ fl fe rg' N' t', F (.ok .next) (olN st.f st.it st.xp (frmO fl fe) (st.xp.dct st.fol) st.es st.ept rg') N' t' ch)
theorem I_N_mono (w : World) (k : Nat) : MonoI (I_N w k) := by
 intro l Γ ch F G H hI
 obtain ⟨st, h1, h2, h3, h4, h5, h6⟩ := hI
 exact ⟨st, h1, h2, h3, h4, fun u hu a b c d e f g => H _ _ _ _ _ (h5 u hu a b c d e f g), fun hu a b c d e => H _ _ _ _ _ (h6 hu a b c d e)⟩
theorem frNk_is (w : World) (b : Bool) (x : NF) (po t0 : Nat) (num turn : Value) : frNk w b x po t0 num turn = frNf true ⟨x.h0, x.k0, x.h1, x.k1, Bool.rec (hashS w sTurn) x.h2 b, Bool.rec (t0 + 2) x.k2 b, Bool.rec (x.ep + 1) x.ep b⟩ po num turn := by cases b <;> rfl
def flNf (b : Bool) (x : NF) (po : Nat) (num turn : Value) : List DictEntry := Bool.rec [entE x.h0 sSelf x.k0 (.ref po), entE x.h1 sNumber x.k1 num] [entE x.h0 sSelf x.k0 (.ref po), entE x.h1 sNumber x.k1 num, entE x.h2 sTurn x.k2 turn] b
theorem frNf_is (b : Bool) (x : NF) (po : Nat) (num turn : Value) : frNf b x po num turn = frmO (flNf b x po num turn) x.ep := by cases b <;> rfl
theorem nf_ok (w : World) (h : Heap) (d : Drawn) (os : OsState) : ∀ k, CtOk 5 (I_N w k) w h d os
 | 0 => by
  intro X O l Γ p R g N t0 ch F hl hI D K
  obtain ⟨st, rfl, rfl, rfl, h4, h5, h6⟩ := hI
  have run := (runNf_e w N t0 st.f st.it st.ept st.xp st.xn st.n st.v st.tn st.fol st.vt st.es h d os X st.z st.x st.xw p st.v1 st.v2 st.v3 (fun _ _ _ _ => False) (KVof 5 F) (w.params.followText "special-get-raises") (w.params.followText "comprehension-iter-twice") st.q st.b).mpr ?_
  ·unfold simNf at run
   rw [wF_self] at run
   exact ct_run3 (by decide) O (hkOf2_ok (hkNextRg_ok O 4 brNf) (hkT_ok O (fun _ _ _ _ _ _ _ _ _ _ _ _ h => h.elim) (fun _ _ _ _ _ _ h => h) (by decide))) run D K
  ·refine ⟨accL_ok _ _ _ okNil, trivial, _, N + 2, t0, h6 rfl (flNf st.b st.xn st.xp.po (.int st.n st.tn) st.vt) st.xn.ep (rngO st.v (Int.ofNat 0)) (N + 2) t0, rfl, ?_, by omega, rfl⟩
   rw [frNf_is]
 | k + 1 => by
  intro X O l Γ p R g N t0 ch F hl hI D K
  obtain ⟨st, rfl, rfl, rfl, h4, h5, h6⟩ := hI
  have e : Int.ofNat (k + 1) - 1 = Int.ofNat k := by show ((k + 1 : Nat) : Int) - 1 = (k : Int); omega
  have R' : rhsNf w N t0 st.f st.it st.ept st.xp st.xn st.n st.v (Int.ofNat (k + 1)) st.tn st.fol st.es st.z st.x st.xw st.v1 st.v2 st.v3 (I_N w k) (KVof 5 F) st.q st.b := by
   refine ⟨accL_ok _ _ _ okNil, trivial, Int.natCast_pos.mpr (Nat.succ_pos k), ?_⟩
   have nx : ∀ n', beh st.xp.first st.xp.last st.n = n' → hasI st.n st.D = true → Nf st.D st.xp.first st.xp.last (k + 1) st.n = Nf st.D st.xp.first st.xp.last k n' := fun n' h1 h2 => by
    show (if hasI st.n st.D = true then Nf st.D st.xp.first st.xp.last k (beh st.xp.first st.xp.last st.n) else some st.n) = _
    rw [if_pos h2, h1]
   have tl : ∀ n' tn', beh st.xp.first st.xp.last st.n = n' → hasI st.n st.D = true → I_N w k (olN st.f st.it st.xp (frNk w st.b st.xn st.xp.po t0 (.int n' tn') (.int st.v (t0 + 1))) (st.xp.dct st.fol) st.es st.ept (rngO (st.v + 1) (Int.ofNat (k + 1) - 1))) ⟨codeN w.params st.f st.it, none, none, blNf st.z st.x st.xw st.q, none⟩ (chL st.v1 st.v2 st.v3) (Fn 5 (KVof 5 F)) := fun n' tn' h1 h2 => by
    rw [e, frNk_is]
    refine ⟨{ st with xn := ⟨st.xn.h0, st.xn.k0, st.xn.h1, st.xn.k1, Bool.rec (hashS w sTurn) st.xn.h2 st.b, Bool.rec (t0 + 2) st.xn.k2 st.b, Bool.rec (st.xn.ep + 1) st.xn.ep st.b⟩, n := n', tn := tn', v := st.v + 1, vt := .int st.v (t0 + 1), b := true }, rfl, rfl, rfl, h4, fun u hu a1 a2 a3 a4 a5 N' t' => tail_ok (by decide) (h5 u (by rw [nx n' h1 h2]; exact hu) a1 a2 a3 a4 a5 N' t') rfl, fun hu a1 a2 a3 N' t' => tail_ok (by decide) (h6 (by rw [nx n' h1 h2]; exact hu) a1 a2 a3 N' t') rfl⟩
   have fd : hasI st.n st.D = false → Nf st.D st.xp.first st.xp.last (k + 1) st.n = some st.n := fun h2 => by
    show (if hasI st.n st.D = true then _ else some st.n) = _
    rw [h2]; rfl
   cases hm : hasI st.n st.D with
   | false =>
    by_cases hl : st.n = st.xp.last
    ·have hb : beh st.xp.first st.xp.last st.n = st.xp.first := if_pos hl
     have := h5 st.n (fd hm) (flNf true ⟨st.xn.h0, st.xn.k0, st.xn.h1, st.xn.k1, Bool.rec (hashS w sTurn) st.xn.h2 st.b, Bool.rec (t0 + 2) st.xn.k2 st.b, Bool.rec (st.xn.ep + 1) st.xn.ep st.b⟩ st.xp.po (.int st.n st.tn) (.int st.v (t0 + 1))) (Bool.rec (st.xn.ep + 1) st.xn.ep st.b) (rngO (st.v + 1) (Int.ofNat (k + 1) - 1)) st.tn st.xp.tf (N + 2) (t0 + 12)
     rw [hb] at this
     exact .inl (.inl (.inl (.inr ⟨accL_ok _ _ _ okNil, ⟨by rw [hl]; exact beq_self_eq_true _, h4.chk hm, trivial⟩, _, N + 2, t0 + 12, this, rfl, by rw [frNk_is, frNf_is], by omega, by omega⟩)))
    ·have hb : beh st.xp.first st.xp.last st.n = st.n + 1 := if_neg hl
     have := h5 st.n (fd hm) (flNf true ⟨st.xn.h0, st.xn.k0, st.xn.h1, st.xn.k1, Bool.rec (hashS w sTurn) st.xn.h2 st.b, Bool.rec (t0 + 2) st.xn.k2 st.b, Bool.rec (st.xn.ep + 1) st.xn.ep st.b⟩ st.xp.po (.int st.n st.tn) (.int st.v (t0 + 1))) (Bool.rec (st.xn.ep + 1) st.xn.ep st.b) (rngO (st.v + 1) (Int.ofNat (k + 1) - 1)) st.tn (t0 + 1 + 10) (N + 2) (t0 + 13)
     rw [hb] at this
     exact .inl (.inl (.inr ⟨accL_ok _ _ _ okNil, ⟨beq_false_of_ne hl, h4.chk hm, trivial⟩, _, N + 2, t0 + 13, this, rfl, by rw [frNk_is, frNf_is], by omega, by omega⟩))
   | true =>
    by_cases hl : st.n = st.xp.last
    ·exact .inl (.inr ⟨accL_ok _ _ _ okNil, ⟨by rw [hl]; exact beq_self_eq_true _, h4.chk hm, trivial⟩, tl _ _ (if_pos hl) hm⟩)
    ·exact .inr ⟨accL_ok _ _ _ okNil, ⟨beq_false_of_ne hl, h4.chk hm, trivial⟩, tl _ _ (if_neg hl) hm⟩
  have run := (runNf w N t0 st.f st.it st.ept st.xp st.xn st.n st.v _ st.tn st.fol st.vt st.es h d os X st.z st.x st.xw p st.v1 st.v2 st.v3 (I_N w k) (KVof 5 F) (w.params.followText "comprehension-iter-twice") st.q (w.params.followText "special-get-raises") st.b).mpr R'
  unfold simNf at run
  rw [wF_self] at run
  exact ct_run3 (by decide) O (hkOf2_ok (hkNextRg_ok O 4 brNf) (hkT_ok O (nf_ok w h d os k) (I_N_mono w k) (by decide))) run D K
def spN (bl : List (Code × Pos)) : Bool := yes (bL bl fun x r => bL r fun y r => bO (cF x.1) fun _ => bO (cF y.1) fun _ => bT (spU r) (some ()))
theorem spN_ok {bl : List (Code × Pos)} (h : spN bl = true) : ∃ (z : SN) (x : SQ) (y : SW) (q : Bool), bl = blNf z x y q :=
 inv_l (yes_ok h) fun x r h1 h => inv_l h fun y r2 h2 h => inv_o h fun a hx h => inv_o h fun b hy h => inv_t h fun h4 _ => by
  obtain ⟨z, v, q, e⟩ := spU_ok h4
  refine ⟨⟨a.1, a.2, x.2, b.1, b.2, y.2⟩, z, v, q, ?_⟩
  rw [h1, h2, e, show x = (x.1, x.2) from rfl, show y = (y.1, y.2) from rfl, cF_ok hx, cF_ok hy]; rfl
structure YN2 where
 u : Int
 tu : Nat
 bu : Int
 tf : Nat
 fl : List DictEntry
 fe : Nat
 rg : Obj
def folO (o : Obj) (v : Value) : Obj := match o with
 | ⟨c, d, .dict es ep, s⟩ => match es.toList with
  | [e0, e1, e2, e3] => ⟨c, d, .dict ⟨[e0, e1, ⟨e2.hash, e2.key, v⟩, e3]⟩ ep, s⟩
  | _ => o
 | _ => o
def resNf (q : Nat) (y : YN2) : Result := .ok (Bool.rec (.ret (.int y.u y.tu)) .next (Nat.blt 0 q))
def outNf (l : OL) (q : Nat) (y : YN2) : List Obj := [frmO y.fl y.fe, nthD l 1, Bool.rec (folO (nthD l 2) (.int y.bu y.tf)) (nthD l 2) (Nat.blt 0 q), nthD l 3, y.rg]
def P_nf (w : World) (D : List Int) (first last F : Int) (k : Nat) (_ : XT) (l : OL) (c : Code) : Prop := ∃ (f it ept tn : Nat) (xp : PF) (xn : NF) (v left : Int) (fol : Value) (es : Array DictEntry),
 l = olN f it xp (frNf false xn xp.po (.int F tn) .none) (xp.dct fol) es ept (rngO v left) ∧ c = codeN w.params f it ∧ TakOk es D ∧ xp.first = first ∧ xp.last = last ∧ left = (k : Int)
def Post_nf (D : List Int) (first last F : Int) (k : Nat) (q : Nat) (_ : OL) (_ : Code) (y : YN2) : Prop := Bool.rec (Nf D first last k F = some y.u ∧ y.bu = beh first last y.u) (Nf D first last k F = none) (Nat.blt 0 q)
def C_nf (w : World) (D : List Int) (first last F : Int) (k : Nat) : CtBX := ⟨5, 2, YN2, spN, P_nf w D first last F k, resNf, outNf, Post_nf D first last F k⟩
theorem C_nf_mono (w : World) (D : List Int) (first last F : Int) (k : Nat) : (C_nf w D first last F k).MonoX := fun X Y H l c h => h
theorem C_nf_ok (w : World) (h : Heap) (d : Drawn) (os : OsState) (D : List Int) (first last F : Int) (k : Nat) : CtX (C_nf w D first last F k).n (C_nf w D first last F k).I w h d os := by
 intro X O l Γ p R g N t0 ch F' hl hI Dd K
 obtain ⟨⟨f, it, ept, tn, xp, xn, v, left, fol, es, rfl, h2, h3, rfl, rfl, rfl⟩, e1, e2, e3, hsp, ⟨vc, rfl⟩, hF⟩ := hI
 obtain ⟨code, hd, own, bl, past⟩ := Γ
 simp only at e1 e2 e3 h2
 subst e1 e2 e3 h2
 obtain ⟨z, x, xw, q, rfl⟩ := spN_ok hsp
 refine nf_ok w h d os k X O _ _ p R g N t0 _ F' hl ⟨⟨f, it, ept, xp, xn, F, v, tn, fol, .none, es, D, false, z, x, xw, q, vc.1, vc.2.1, vc.2.2⟩, rfl, rfl, rfl, h3, fun u hu fl fe rg' tu tf N' t' => ?_, fun hu fl fe rg' N' t' => ?_⟩ Dd K
 ·exact hF 0 (show 0 < 2 by decide) ⟨u, tu, _, tf, fl, fe, rg'⟩ N' t' ⟨hu, rfl⟩
 ·exact hF 1 (show 1 < 2 by decide) ⟨0, 0, 0, 0, fl, fe, rg'⟩ N' t' hu
def jO : List Nat := (dec [0x101011515151515151500150015] ++ (z73 ++ dec [0x11b001b001b1b7e0900070779077a07190900070779077a07197819190900070779077a0719020019197a09077a07790779071778170200171717177b, 0x1061d1bac801b001b1b]))
def jO1 : List Nat := dec [0x10c00010f0d7a0d790d790d0500030379037a0301010117000b4c0b000b0b170900070779077a07171717]
def jO2 : List Nat := dec [0x101]
def jO3 : List Nat := (z73 ++ dec [0x1120bb8800b001f0b0b0b0b0900070779077a071f020b400b000b0b0900070779077a071f1f02001f1f1f1f7a01])
def jOe : List Nat := dec [0x1001915151500150015]
def brO : Nat → List Nat := nthL [jO1 ++ [13, 15, 17, 19] ++ [2], [], jO2, jO3 ++ [1, 3, 5, 7, 9, 11, 13, 15, 17, 19, 21]]
def sLimits : Str := ⟨#[108, 105, 109, 105, 116, 115]⟩
def sIss : Str := ⟨#[105, 115, 115]⟩
def sPorts : Str := ⟨#[112, 111, 114, 116, 115]⟩
def sTable : Str := ⟨#[116, 97, 98, 108, 101]⟩
def sLinks : Str := ⟨#[108, 105, 110, 107, 115]⟩
def sGiven : Str := ⟨#[103, 105, 118, 101, 110]⟩
def sLocal : Str := ⟨#[108, 111, 99, 97, 108, 95, 112, 111, 114, 116]⟩
def sFound : Str := ⟨#[102, 111, 117, 110, 100]⟩
structure KF where
 so : Nat
 sd : Nat
 tb : Nat
 tbd : Nat
 cd : Nat
 ld : Nat
 h : Nat → Int
 k : Nat → Nat
 lim : Value
 iss : Value
 lis : Value
 lks : Value
 giv : Value
 ep : Nat
 h0 : Int
 k0 : Nat
 h1 : Int
 k1 : Nat
 epd : Nat
def KF.obj (x : KF) : Obj := { cls := .ref 1626, dict := some x.sd, data := .plain, slots := #[] }
def KF.dct (x : KF) (po : Nat) : Obj := dictO #[entE (x.h 0) sLimits (x.k 0) x.lim, entE (x.h 1) sIss (x.k 1) x.iss, entE (x.h 2) sPorts (x.k 2) (.ref po), entE (x.h 3) sTable (x.k 3) (.ref x.tb), entE (x.h 4) sLis (x.k 4) x.lis, entE (x.h 5) sLinks (x.k 5) x.lks, entE (x.h 6) sGiven (x.k 6) x.giv] x.ep
def foO (P : Params) : ForP := forOf (stmtAt (bodyD P 1504) 1)
def envO (P : Params) (f : Nat) : Env := ⟨(fnD P 1504).scope, f, (fnD P 1504).globals, [], qualD P 1504, some 1504, (fnD P 1504).code, some f, (fnD P 1504).builtins⟩
def codeO (P : Params) (f it : Nat) : Code := .forLoop (foO P).t (.ref it) (foO P).b (foO P).o (envO P f)
def blOw (xw : SW) (x : SQ) (q : Bool) : List (Code × Pos) := (.func xw.c8 xw.e8, xw.q8) :: x.rest q
structure OF where
 h0 : Int
 k0 : Nat
 h1 : Int
 k1 : Nat
 lp : Value
 h2 : Int
 k2 : Nat
 h3 : Int
 k3 : Nat
 ep : Nat
def flO (b : Bool) (x : OF) (so : Nat) (turn found : Value) : List DictEntry := Bool.rec [entE x.h0 sSelf x.k0 (.ref so), entE x.h1 sLocal x.k1 x.lp] [entE x.h0 sSelf x.k0 (.ref so), entE x.h1 sLocal x.k1 x.lp, entE x.h2 sTurn x.k2 turn, entE x.h3 sFound x.k3 found] b
def takE (u : Int) (tu : Nat) : DictEntry := ⟨hashInt u, .int u tu, .bool true⟩
section
variable (w : World) (N t0 f it ept epl tF : Nat) (kf : KF) (xp : PF) (xo : OF) (F v : Int) (left : Nat) (vt vf : Value) (es esL : Array DictEntry) (h : Heap) (d : Drawn) (os : OsState) (X : Nat → Option Obj) (x : SQ) (xw : SW) (p : Pos) (v1 v2 v3 : Array Value) (I : IX) (KV : KVT) (PN : XT → OL → Code → Prop) (PostN : Nat → OL → Code → YN2 → Prop) (PU : XT → OL → Code → Prop) (PostU : Nat → OL → Code → YU → Prop)
abbrev olO10 (fr pdo tdo : Obj) (esL : Array DictEntry) (epl : Nat) : OL := [(f, fr), (kf.so, kf.obj), (kf.sd, kf.dct xp.po), (xp.po, xp.obj), (xp.pd, pdo), (xp.td, tdo), (kf.tb, tblO kf.tbd), (kf.tbd, tdcO kf.h0 kf.k0 (kf.cd + 1723) kf.h1 kf.k1 (kf.ld + 1723) kf.epd), (kf.cd + 1723, dictO #[] 0), (kf.ld + 1723, dictO esL epl)]
abbrev GO (q : Bool) : PySem.Ctx := ⟨codeO w.params f it, none, none, blOw xw x q, none⟩
abbrev frOb (b : Bool) : Obj := frmO (flO b xo kf.so vt vf) xo.ep
abbrev simO2 (b1 b2 q b : Bool) (left : Int) (js : List Nat) : Prop := simG (VX (wF w b1 b2) h d os X) (HH3 (hkOf [hkBX X ⟨5, 2, YN2, spN, PN, resNf, outNf, PostN⟩ brO, hkBX X ⟨4, 2, YU, spU, PU, resU, outU, PostU⟩ brO, hkTX X 11 0 I])) (KFv 11 KV) 700 (GO w f it x xw q) p .base (denF (codeO w.params f it)) (listT (olO10 f kf xp (frOb kf xo vt vf b) (xp.dct (.int F tF)) (dictO es ept) esL epl ++ [(it, rngO v left)])) 11 (N + 1723) 0 (t0 + 1) 0 (chL v1 v2 v3) js [] True
def AO (l0 : List Nat) (l : List (Nat × Nat)) (i : Nat) : Nat := match l0[i]? with
 | some a => a
 | none => pickB i l
abbrev AO1 (l : List (Nat × Nat)) : Nat → Nat := AO [f, kf.so, kf.sd, xp.po, xp.pd, xp.td, kf.tb, kf.tbd, kf.cd + 1723, kf.ld + 1723, it] l
def ofK (w : World) (b : Bool) (x : OF) (t0 t1 : Nat) : OF := Bool.rec ⟨x.h0, x.k0, x.h1, x.k1, x.lp, hashS w sTurn, t0 + 2, hashS w sFound, t1 + 4, x.ep + 2⟩ x b
abbrev pO_u (q b : Bool) (N1 t1 N2 t2 : Nat) (y : YN2) : Prop := okAcc (accL (AO1 f it kf xp [(15, N2 + 1723), (15, N1 + 1723), (11, N + 1723)]) jO3 []) ∧ (((.ok (.ret (valK y.u (es.push (takE y.u y.tu)))) : Result) = .ok (.ret (.bool true)) ∧ chkD (es.push (takE y.u y.tu)) y.u true = true) ∧ chkD (es.push (takE y.u y.tu)) y.u true = true ∧ True) ∧ I (exL X []) (olO10 f kf xp (frmO (flO true (ofK w b xo t0 t1) kf.so (.int v (t0 + 1)) (.int y.u y.tu)) (ofK w b xo t0 t1).ep) (xp.dct (.int y.bu y.tf)) (eraseEnt (nat? (idxK y.u (es.push (takE y.u y.tu)).toList)) (pushEnt (takE y.u y.tu) (dictO es ept))) esL epl ++ [(it, rngO (v + 1) (Int.ofNat (left + 1) - 1))]) (GO w f it x xw q) (chL v1 v2 v3) (Fx 11 [] KV)
abbrev pO_f (b : Bool) (N1 t1 N2 t2 : Nat) (y : YN2) : Prop := okAcc (accL (AO1 f it kf xp [(15, N2 + 1723), (15, N1 + 1723), (11, N + 1723)]) jO2 []) ∧ True ∧ KV (.ok (.ret (.int y.u y.tu))) ((olO10 f kf xp (frmO (flO true (ofK w b xo t0 t1) kf.so (.int v (t0 + 1)) (.int y.u y.tu)) (ofK w b xo t0 t1).ep) (xp.dct (.int y.bu y.tf)) (pushEnt (takE y.u y.tu) (dictO es ept)) esL epl ++ [(it, rngO (v + 1) (Int.ofNat (left + 1) - 1))]).map some) (N2 + 1723) 0 (t2 + 1) 0 (chL v1 v2 v3)
abbrev rhsO2 (q b : Bool) : Prop := okAcc (accL (AO1 f it kf xp [(11, N + 1723)]) jO []) ∧ (((0 : Int) = 0 ∧ (1 : Int) = 1 ∧ chkRg (xp.last - xp.first + 1) = true) ∧ True) ∧ (PN X (olN (N + 1723 + 1) (N + 1723 + 3) xp (frNf false ⟨hashS w sSelf, t0 + 8, hashS w sNumber, t0 + 10, 0, 0, 2⟩ xp.po (.int F tF) .none) (xp.dct (.int F tF)) es ept (rngO 0 (xp.last - xp.first + 1))) (codeN w.params (N + 1723 + 1) (N + 1723 + 3)) ∧ ((True ∧ ∀ (y : YN2) (N1 t1 : Nat), PostN 0 (olN (N + 1723 + 1) (N + 1723 + 3) xp (frNf false ⟨hashS w sSelf, t0 + 8, hashS w sNumber, t0 + 10, 0, 0, 2⟩ xp.po (.int F tF) .none) (xp.dct (.int F tF)) es ept (rngO 0 (xp.last - xp.first + 1))) (codeN w.params (N + 1723 + 1) (N + 1723 + 3)) y → (okAcc (accL (AO1 f it kf xp [(15, N1 + 1723), (11, N + 1723)]) jO1 []) ∧ (chkD es y.u false = true ∧ True) ∧ (PU X (olU kf.tb kf.tbd kf.cd kf.ld kf.k0 kf.k1 epl kf.epd kf.h0 kf.h1 esL) (cUsed kf.tb y.u y.tu) ∧ ((True ∧ ∀ (u : YU) (N2 t2 : Nat), PostU 0 (olU kf.tb kf.tbd kf.cd kf.ld kf.k0 kf.k1 epl kf.epd kf.h0 kf.h1 esL) (cUsed kf.tb y.u y.tu) u → (pO_f w N t0 f it ept epl kf xp xo v left es esL v1 v2 v3 KV b N1 t1 N2 t2 y)) ∧ ∀ (u : YU) (N2 t2 : Nat), PostU 1 (olU kf.tb kf.tbd kf.cd kf.ld kf.k0 kf.k1 epl kf.epd kf.h0 kf.h1 esL) (cUsed kf.tb y.u y.tu) u → (pO_u w N t0 f it ept epl kf xp xo v left es esL X x xw v1 v2 v3 I KV q b N1 t1 N2 t2 y))))) ∧ ∀ (y : YN2) (N1 t1 : Nat), PostN 1 (olN (N + 1723 + 1) (N + 1723 + 3) xp (frNf false ⟨hashS w sSelf, t0 + 8, hashS w sNumber, t0 + 10, 0, 0, 2⟩ xp.po (.int F tF) .none) (xp.dct (.int F tF)) es ept (rngO 0 (xp.last - xp.first + 1))) (codeN w.params (N + 1723 + 1) (N + 1723 + 3)) y → (Halt 4 3)))
theorem runO2 (b2 q0 q1 q2 : Bool) : simO2 w N t0 f it ept epl tF kf xp xo F v vt vf es esL h d os X x xw p v1 v2 v3 I KV PN PostN PU PostU q1 b2 q0 q2 (Int.ofNat (left + 1)) (jO ++ [25, 7, 9, 11, 29] ++ [0]) = rhsO2 w N t0 f it ept epl tF kf xp xo F v left es esL X x xw v1 v2 v3 I KV PN PostN PU PostU q0 q2 := by
 cases q0 <;> cases q1 <;> cases q2 <;> kernel_rfl
theorem runO2_e (b1 b2 q b : Bool) : simO2 w N t0 f it ept epl tF kf xp xo F v vt vf es esL h d os X x xw p v1 v2 v3 I KV PN PostN PU PostU b1 b2 q b (Int.ofNat 0) jOe = (okAcc (accL (AO1 f it kf xp [(11, N + 1723)]) jOe []) ∧ True ∧
 KV (.ok .next) ((olO10 f kf xp (frOb kf xo vt vf b) (xp.dct (.int F tF)) (dictO es ept) esL epl ++ [(it, rngO v (Int.ofNat 0))]).map some) (N + 1723) 2 (t0 + 1) 0 (chL v1 v2 v3)) := by kernel_rfl
end
def Op (D : List Int) (xs : XS) (first last : Int) (m : Nat) : Nat → Int → Option Int
 | 0, _ => none
 | k + 1, F => match Nf D first last m F with
  | none => none
  | some u => if usedX u xs = true then Op D xs first last m k (beh first last u) else some u
theorem beh_in {first last n : Int} (h1 : first ≤ n) (h2 : n ≤ last) : first ≤ beh first last n ∧ beh first last n ≤ last := by
 unfold beh
 split <;> omega
theorem Nf_in {D : List Int} {first last : Int} : ∀ {k : Nat} {n u : Int}, first ≤ n → n ≤ last → Nf D first last k n = some u → first ≤ u ∧ u ≤ last ∧ hasI u D = false
 | 0, n, u, _, _, h => by cases h
 | k + 1, n, u, h1, h2, h => by
  have h : (if hasI n D = true then Nf D first last k (beh first last n) else some n) = some u := h
  split at h
  ·exact Nf_in (beh_in h1 h2).1 (beh_in h1 h2).2 h
  ·rename_i hn
   cases h
   exact ⟨h1, h2, by simpa using hn⟩
theorem keyI_take (u : Int) (tu : Nat) : keyI (takE u tu) = true := by
 show Z.eqB (hashInt u) (hashInt u) = true
 rw [eqB_beq, beq_self_eq_true]
theorem TakOk.push {es : Array DictEntry} {D : List Int} (z : TakOk es D) (hs : es.size ≤ 999) (u : Int) (tu : Nat) : TakOk (es.push (takE u tu)) (D ++ [u]) := by
 refine ⟨?_, ?_, by rw [Array.size_push]; omega⟩
 ·rw [Array.toList_push, List.all_append, z.all]
  show (true && (keyI (takE u tu) && true)) = true
  rw [keyI_take]; rfl
 ·rw [Array.toList_push, List.map_append, z.ks]; rfl
theorem hasI_app (n : Int) (D E : List Int) : hasI n (D ++ E) = (hasI n D || hasI n E) := List.any_append
theorem idxK_push (u : Int) (tu : Nat) : ∀ {l : List DictEntry}, l.all keyI = true → hasI u (l.map keyV) = false → idxK u (l ++ [takE u tu]) = some l.length
 | [], _, _ => by
  show (Bool.rec (match idxK u [] with | some n => some (n + 1) | none => none) (some 0) (isK u (takE u tu).key) : Option Nat) = some 0
  have : isK u (takE u tu).key = true := by show Z.eqB u u = true; rw [eqB_beq, beq_self_eq_true]
  rw [this]
 | e :: l, h, hu => by
  rw [List.all_cons, Bool.and_eq_true] at h
  have hu' : ((keyV e == u) || hasI u (l.map keyV)) = false := hu
  rw [Bool.or_eq_false_iff] at hu'
  have ih := idxK_push u tu h.2 hu'.2
  have hk : isK u e.key = false := by
   have h1 := h.1
   unfold keyI at h1
   split at h1
   ·rename_i i t hi
    have h3 := hu'.1
    unfold keyV at h3
    rw [hi] at h3
    rw [hi]
    show Z.eqB i u = false
    rw [eqB_beq]; exact h3
   ·cases h1
  show (Bool.rec (match idxK u (l ++ [takE u tu]) with | some n => some (n + 1) | none => none) (some 0) (isK u e.key) : Option Nat) = _
  rw [hk, ih]; rfl
theorem erase_push {es : Array DictEntry} {D : List Int} (z : TakOk es D) {u : Int} (tu : Nat) (h : hasI u D = false) (ept : Nat) :
  eraseEnt (nat? (idxK u (es.push (takE u tu)).toList)) (pushEnt (takE u tu) (dictO es ept)) = dictO es (ept + 1 + 1) ∧ valK u (es.push (takE u tu)) = .bool true := by
 have hi : idxK u (es.push (takE u tu)).toList = some es.size := by
  rw [Array.toList_push, idxK_push u tu z.all (by rw [z.ks]; exact h)]; simp
 constructor
 ·rw [hi]
  show ({ cls := .type "dict", dict := none, data := .dict ((es.push (takE u tu)).eraseIdxIfInBounds es.size) (ept + 1 + 1), slots := #[] } : Obj) = dictO es (ept + 1 + 1)
  have : (es.push (takE u tu)).eraseIdxIfInBounds es.size = es := by
   apply Array.ext'
   unfold Array.eraseIdxIfInBounds
   rw [dif_pos (by simp)]
   simp [List.eraseIdx_append_of_length_le]
  rw [this]; rfl
 ·unfold valK
  rw [hi]
  simp [takE]
structure StO where
 f : Nat
 it : Nat
 ept : Nat
 epl : Nat
 tF : Nat
 kf : KF
 xp : PF
 xo : OF
 F : Int
 v : Int
 vt : Value
 vf : Value
 es : Array DictEntry
 D : List Int
 xs : XS
 b : Bool
 x : SQ
 xw : SW
 q : Bool
 v1 : Array Value
 v2 : Array Value
 v3 : Array Value
def mO (xp : PF) : Nat := (xp.last - xp.first + 1).toNat
def I_O (w : World) (k : Nat) : IX := fun X l Γ ch F' => ∃ st : StO,
 l = olO10 st.f st.kf st.xp (frOb st.kf st.xo st.vt st.vf st.b) (st.xp.dct (.int st.F st.tF)) (dictO st.es st.ept) (esX st.xs) st.epl ++ [(st.it, rngO st.v (Int.ofNat k))] ∧
 Γ = GO w st.f st.it st.x st.xw st.q ∧ ch = chL st.v1 st.v2 st.v3 ∧ TakOk st.es st.D ∧ st.es.size ≤ 900 ∧ FrozenX X st.xs ∧ PairX st.xs ∧ st.xs.length ≤ 1000 ∧ st.xp.first ≤ st.F ∧ st.F ≤ st.xp.last ∧ st.xp.last - st.xp.first ≤ 100 ∧
 (∀ n, st.xp.first ≤ n → n ≤ st.xp.last → Nf st.D st.xp.first st.xp.last (mO st.xp) n ≠ none) ∧
 (∀ u, Op st.D st.xs st.xp.first st.xp.last (mO st.xp) k st.F = some u → ∀ fl fe tu tf e' ri rn N' t', F' (.ok (.ret (.int u tu))) (olO10 st.f st.kf st.xp (frmO fl fe) (st.xp.dct (.int (beh st.xp.first st.xp.last u) tf)) (dictO (st.es.push (takE u tu)) e') (esX st.xs) st.epl ++ [(st.it, rngO ri rn)]) N' t' ch) ∧
 (Op st.D st.xs st.xp.first st.xp.last (mO st.xp) k st.F = none → ∀ fl fe fo tf e' ri rn N' t', st.xp.first ≤ fo → fo ≤ st.xp.last → F' (.ok .next) (olO10 st.f st.kf st.xp (frmO fl fe) (st.xp.dct (.int fo tf)) (dictO st.es e') (esX st.xs) st.epl ++ [(st.it, rngO ri rn)]) N' t' ch)
theorem I_O_mono (w : World) (k : Nat) (X : XT) : MonoI (I_O w k X) := fun l Γ ch F G H hI => hI.imp fun st h => by
 iterate 12 refine ⟨h.1, ?_⟩; replace h := h.2
 exact ⟨fun u hu a b c d e i j f g => H _ _ _ _ _ (h.1 u hu a b c d e i j f g), fun hu a b c d e i j f g p q => H _ _ _ _ _ (h.2 hu a b c d e i j f g p q)⟩
theorem I_O_monoX (w : World) (k : Nat) : MonoX (I_O w k) := fun X Y H l Γ ch F hI => hI.imp fun st h => by
 iterate 5 refine ⟨h.1, ?_⟩; replace h := h.2
 exact ⟨frozen_sub H h.1, h.2⟩
theorem tailx0_ok {n : Nat} (hn : n ≤ 62) {F : FT} {r : Result} {l' : OL} {N' t' : Nat} {ch' : Ch} (hF : F r l' N' t' ch') (hl : l'.length = n) : Fx n [] (KVof n F) r l' N' t' ch' :=
 ⟨by rw [hl]; exact hn, by rw [List.append_nil]; exact tail_ok (by omega) hF hl⟩
theorem hkOf3_ok {V : XW} {f g i : HB} (hf : HBOk V f) (hg : HBOk V g) (hi : HBOk V i) : HkW V (hkOf [f, g, i]) := hkOf_ok fun x hx => by
 cases hx with
 | head => exact hf
 | tail _ hx => cases hx with
  | head => exact hg
  | tail _ hx => cases hx with
   | head => exact hi
   | tail _ hx => cases hx
set_option maxHeartbeats 4000000 in
theorem own_ok (w : World) (h : Heap) (d : Drawn) (os : OsState) : ∀ k, CtX 11 (I_O w k) w h d os
 | 0 => by
  intro X O l Γ p R g N t0 ch F' hl hI Dd K
  obtain ⟨st, rfl, rfl, rfl, h4, h5, h6, h7, h8, h9, ha, hb, hc, hd, he⟩ := hI
  have run := (runO2_e w N t0 st.f st.it st.ept st.epl st.tF st.kf st.xp st.xo st.F st.v st.vt st.vf st.es (esX st.xs) h d os X st.x st.xw p st.v1 st.v2 st.v3 (fun _ _ _ _ _ => False) (KVof 11 F') (P_nf w st.D st.xp.first st.xp.last st.F (mO st.xp)) (Post_nf st.D st.xp.first st.xp.last st.F (mO st.xp)) (P_used st.xs) (Post_used st.xs) (w.params.followText "special-get-raises") (w.params.followText "comprehension-iter-twice") st.q st.b).mpr ?_
  ·unfold simO2 at run
   rw [wF_self] at run
   exact ct_run3 (by decide) O (hkOf3_ok (hkBX_ok (C := C_nf w st.D st.xp.first st.xp.last st.F (mO st.xp)) O (C_nf_ok w h d os _ _ _ _ _) (C_nf_mono w _ _ _ _ _) (show (5 : Nat) ≤ 63 by decide)) (hkBX_ok (C := C_used st.xs) O (C_used_ok w h d os st.xs) (C_used_mono st.xs) (show (4 : Nat) ≤ 63 by decide)) (hkTX_ok O (fun _ _ _ _ _ _ _ _ _ _ _ _ h => h.elim) (fun _ _ _ _ _ _ _ h => h) (fun _ _ _ _ _ _ _ h => h) (by decide))) run Dd K
  ·exact ⟨accL_ok _ _ _ okNil, trivial, _, N + 2, t0, he rfl (flO st.b st.xo st.kf.so st.vt st.vf) st.xo.ep st.F st.tF st.ept st.v (Int.ofNat 0) (N + 2) t0 h9 ha, rfl, rfl, by omega, rfl⟩
 | k + 1 => by
  intro X O l Γ p R g N t0 ch F' hl hI Dd K
  obtain ⟨st, rfl, rfl, rfl, h4, h5, h6, h7, h8, h9, ha, hb, hc, hd, he⟩ := hI
  have e : Int.ofNat (k + 1) - 1 = Int.ofNat k := by show ((k + 1 : Nat) : Int) - 1 = (k : Int); omega
  have R' : rhsO2 w N t0 st.f st.it st.ept st.epl st.tF st.kf st.xp st.xo st.F st.v k st.es (esX st.xs) X st.x st.xw st.v1 st.v2 st.v3 (I_O w k) (KVof 11 F') (P_nf w st.D st.xp.first st.xp.last st.F (mO st.xp)) (Post_nf st.D st.xp.first st.xp.last st.F (mO st.xp)) (P_used st.xs) (Post_used st.xs) st.q st.b := by
   refine ⟨accL_ok _ _ _ okNil, ⟨⟨rfl, rfl, chkRg_of (by omega) (by omega)⟩, trivial⟩, ?_, ⟨trivial, fun y N1 t1 hy => ?_⟩, fun y N1 t1 hy => ?_⟩
   ·exact ⟨_, _, _, _, st.xp, _, _, _, _, st.es, rfl, rfl, h4, rfl, rfl, by unfold mO; omega⟩
   ·obtain ⟨hu, hbu⟩ : Nf st.D st.xp.first st.xp.last (mO st.xp) st.F = some y.u ∧ y.bu = beh st.xp.first st.xp.last y.u := hy
    obtain ⟨u1, u2, u3⟩ := Nf_in h9 ha hu
    have zp := h4.push (by omega) y.u y.tu
    have op : Op st.D st.xs st.xp.first st.xp.last (mO st.xp) (k + 1) st.F = if usedX y.u st.xs = true then Op st.D st.xs st.xp.first st.xp.last (mO st.xp) k (beh st.xp.first st.xp.last y.u) else some y.u := by
     show (match Nf st.D st.xp.first st.xp.last (mO st.xp) st.F with | none => none | some u => if usedX u st.xs = true then Op st.D st.xs st.xp.first st.xp.last (mO st.xp) k (beh st.xp.first st.xp.last u) else some u) = _
     rw [hu]
    refine ⟨accL_ok _ _ _ okNil, ⟨h4.chk u3, trivial⟩, ⟨h6, h7, h8, st.kf.tb, st.kf.tbd, st.kf.cd, st.kf.ld, y.tu, st.kf.k0, st.kf.k1, st.epl, st.kf.epd, y.u, st.kf.h0, st.kf.h1, rfl, rfl⟩, ⟨trivial, fun yu N2 t2 hyu => ?_⟩, fun yu N2 t2 hyu => ?_⟩
    ·have hyu : usedX y.u st.xs = false := hyu
     rw [hyu] at op
     have := hd y.u op (flO true (ofK w st.b st.xo t0 t1) st.kf.so (.int st.v (t0 + 1)) (.int y.u y.tu)) (ofK w st.b st.xo t0 t1).ep y.tu y.tf (st.ept + 1) (st.v + 1) (Int.ofNat (k + 1) - 1) N2 t2
     rw [← hbu] at this
     exact ⟨accL_ok _ _ _ okNil, trivial, _, N2, t2, this, rfl, rfl, rfl, rfl⟩
    ·have hyu : usedX y.u st.xs = true := hyu
     rw [hyu] at op
     obtain ⟨er1, er2⟩ := erase_push h4 y.tu u3 st.ept
     have hin : hasI y.u (st.D ++ [y.u]) = true := by
      rw [hasI_app]
      show (hasI y.u st.D || ((y.u == y.u) || false)) = true
      rw [beq_self_eq_true]; simp
     refine ⟨accL_ok _ _ _ okNil, ⟨⟨by rw [er2], zp.chk hin⟩, zp.chk hin, trivial⟩, ?_⟩
     rw [er1, e]
     refine ⟨{ st with ept := st.ept + 1 + 1, F := y.bu, tF := y.tf, xo := ofK w st.b st.xo t0 t1, v := st.v + 1, vt := .int st.v (t0 + 1), vf := .int y.u y.tu, b := true }, rfl, rfl, rfl, h4, h5, h6, h7, h8, ?_, ?_, hb, hc, fun u hu' a1 a2 a3 a4 a5 ri rn N' t' => ?_, fun hu' a1 a2 a3 a4 a5 ri rn N' t' q1 q2 => ?_⟩
     ·rw [hbu]; exact (beh_in u1 u2).1
     ·rw [hbu]; exact (beh_in u1 u2).2
     ·rw [hbu] at hu'
      exact tailx0_ok (by decide) (hd u (by rw [op]; exact hu') a1 a2 a3 a4 a5 ri rn N' t') rfl
     ·rw [hbu] at hu'
      exact tailx0_ok (by decide) (he (by rw [op]; exact hu') a1 a2 a3 a4 a5 ri rn N' t' q1 q2) rfl
   ·exact absurd (show Nf st.D st.xp.first st.xp.last (mO st.xp) st.F = none from hy) (hc _ h9 ha)
  have run := (runO2 w N t0 st.f st.it st.ept st.epl st.tF st.kf st.xp st.xo st.F st.v k st.vt st.vf st.es (esX st.xs) h d os X st.x st.xw p st.v1 st.v2 st.v3 (I_O w k) (KVof 11 F') (P_nf w st.D st.xp.first st.xp.last st.F (mO st.xp)) (Post_nf st.D st.xp.first st.xp.last st.F (mO st.xp)) (P_used st.xs) (Post_used st.xs) (w.params.followText "comprehension-iter-twice") st.q (w.params.followText "special-get-raises") st.b).mpr R'
  unfold simO2 at run
  rw [wF_self] at run
  exact ct_run3 (by decide) O (hkOf3_ok (hkBX_ok (C := C_nf w st.D st.xp.first st.xp.last st.F (mO st.xp)) O (C_nf_ok w h d os _ _ _ _ _) (C_nf_mono w _ _ _ _ _) (show (5 : Nat) ≤ 63 by decide)) (hkBX_ok (C := C_used st.xs) O (C_used_ok w h d os st.xs) (C_used_mono st.xs) (show (4 : Nat) ≤ 63 by decide)) (hkTX_ok O (own_ok w h d os k) (I_O_mono w k) (I_O_monoX w k) (by decide))) run Dd K
structure YOw where
 fl : List DictEntry
 fe : Nat
 u : Int
 tu : Nat
 fo : Int
 tf : Nat
 e' : Nat
 ri : Int
 rn : Int
def spO (bl : List (Code × Pos)) : Bool := yes (bL bl fun x r => bO (cF x.1) fun _ => bT (spR r) (some ()))
theorem spO_ok {bl : List (Code × Pos)} (h : spO bl = true) : ∃ (xw : SW) (x : SQ) (q : Bool), bl = blOw xw x q :=
 inv_l (yes_ok h) fun x r h1 h => inv_o h fun a hx h => inv_t h fun h4 _ => by
  obtain ⟨z, q, e⟩ := spR_ok h4
  refine ⟨⟨default, default, default, default, default, default, a.1, a.2, x.2⟩, z, q, ?_⟩
  rw [h1, e, show x = (x.1, x.2) from rfl, cF_ok hx]; rfl
def resOw (q : Nat) (y : YOw) : Result := match q with
 | 0 => .ok (.ret (.int y.u y.tu))
 | _ => .ok .next
def outOw (xp : PF) (es : Array DictEntry) (l : OL) (q : Nat) (y : YOw) : List Obj := match q with
 | 0 => [frmO y.fl y.fe, nthD l 1, nthD l 2, nthD l 3, xp.dct (.int y.fo y.tf), dictO (es.push (takE y.u y.tu)) y.e', nthD l 6, nthD l 7, nthD l 8, nthD l 9, rngO y.ri y.rn]
 | _ => [frmO y.fl y.fe, nthD l 1, nthD l 2, nthD l 3, xp.dct (.int y.fo y.tf), dictO es y.e', nthD l 6, nthD l 7, nthD l 8, nthD l 9, rngO y.ri y.rn]
def P_ow (w : World) (D : List Int) (xs : XS) (xp : PF) (es : Array DictEntry) (F : Int) (k : Nat) (X : XT) (l : OL) (c : Code) : Prop := (FrozenX X xs ∧ PairX xs ∧ xs.length ≤ 1000) ∧ ∃ (f it ept epl tF : Nat) (kf : KF) (xo : OF) (v : Int) (vt vf : Value) (b : Bool),
 l = olO10 f kf xp (frOb kf xo vt vf b) (xp.dct (.int F tF)) (dictO es ept) (esX xs) epl ++ [(it, rngO v (Int.ofNat k))] ∧ c = codeO w.params f it ∧ TakOk es D ∧ es.size ≤ 900 ∧ xp.first ≤ F ∧ F ≤ xp.last ∧ xp.last - xp.first ≤ 100 ∧ ∀ n, xp.first ≤ n → n ≤ xp.last → Nf D xp.first xp.last (mO xp) n ≠ none
def Post_ow (D : List Int) (xs : XS) (xp : PF) (F : Int) (k : Nat) (q : Nat) (_ : OL) (_ : Code) (y : YOw) : Prop := match q with
 | 0 => Op D xs xp.first xp.last (mO xp) k F = some y.u ∧ y.fo = beh xp.first xp.last y.u
 | _ => Op D xs xp.first xp.last (mO xp) k F = none ∧ xp.first ≤ y.fo ∧ y.fo ≤ xp.last
def C_own (w : World) (D : List Int) (xs : XS) (xp : PF) (es : Array DictEntry) (F : Int) (k : Nat) : CtBX := ⟨11, 2, YOw, spO, P_ow w D xs xp es F k, resOw, outOw xp es, Post_ow D xs xp F k⟩
theorem C_own_mono (w : World) (D : List Int) (xs : XS) (xp : PF) (es : Array DictEntry) (F : Int) (k : Nat) : (C_own w D xs xp es F k).MonoX := by
 intro X Y H l c ⟨⟨h1, h2⟩, h3⟩
 exact ⟨⟨frozen_sub H h1, h2⟩, h3⟩
theorem C_own_ok (w : World) (h : Heap) (d : Drawn) (os : OsState) (D : List Int) (xs : XS) (xp : PF) (es : Array DictEntry) (F : Int) (k : Nat) : CtX (C_own w D xs xp es F k).n (C_own w D xs xp es F k).I w h d os := by
 intro X O l Γ p R g N t0 ch F' hl hI Dd K
 obtain ⟨⟨⟨h1, h2, h3⟩, f, it, ept, epl, tF, kf, xo, v, vt, vf, b, rfl, h4, h5, h6, h7, h8, h9, ha⟩, e1, e2, e3, hsp, ⟨vc, rfl⟩, hF⟩ := hI
 obtain ⟨code, hd, own, bl, past⟩ := Γ
 simp only at e1 e2 e3 h4
 subst e1 e2 e3 h4
 obtain ⟨xw, x, q, rfl⟩ := spO_ok hsp
 refine own_ok w h d os k X O _ _ p R g N t0 _ F' hl ⟨⟨f, it, ept, epl, tF, kf, xp, xo, F, v, vt, vf, es, D, xs, b, x, xw, q, vc.1, vc.2.1, vc.2.2⟩, rfl, rfl, rfl, h5, h6, h1, h2, h3, h7, h8, h9, ha, fun u hu fl fe tu tf e' ri rn N' t' => ?_, fun hu fl fe fo tf e' ri rn N' t' q1 q2 => ?_⟩ Dd K
 ·exact hF 0 (show 0 < 2 by decide) ⟨fl, fe, u, tu, _, tf, e', ri, rn⟩ N' t' ⟨hu, rfl⟩
 ·exact hF 1 (show 1 < 2 by decide) ⟨fl, fe, 0, 0, fo, tf, e', ri, rn⟩ N' t' ⟨hu, q1, q2⟩
def KFs (is : List Nat) (KV : KVT) : KTy := fun r T _ B c τ i ch _ => KV r (is.map T.get) B c τ i ch
section
variable {w : World} {h : Heap} {d : Drawn} {os : OsState} {X : XT}
theorem Rp.pick {T T' : MT} {m m' b : Nat} {ch : Ch} {g : Heap} (D : Rp (VX w h d os X) T m b ch g) (H : ∀ k x, T'.get k = some x → k < m' ∧ ∃ j, T.get j = some x) (one : ∀ i j a o o', T'.get i = some (a, o) → T'.get j = some (a, o') → i = j) : Rp (VX w h d os X) T' m' b ch g :=
 ⟨D.size, D.low, fun j a o e => let ⟨q, i, e'⟩ := H j _ e; ⟨q, (D.own i a o e').2⟩, one, D.keep, D.ch, D.exk, fun j a o e => let ⟨_, i, e'⟩ := H j _ e; D.exo i a o e'⟩
theorem fins_ok {is : List Nat} (nd : is.Nodup) {n : Nat} {F : FT} {R : Result → Shared → Prop} (hn : n ≤ 63) (k : ∀ r l' N' t' ch', F r l' N' t' ch' → AtS (VX w h d os X) R r (listT l') l'.length (N' + 1723) 0 (t' + 1) 0 ch') :
  ∀ r T m B c τ i ch js, KFs is (KVof n F) r T m B c τ i ch js → AtS (VX w h d os X) R r T m B c τ i ch := fun r T m B c τ i ch js x => by
 obtain ⟨l', N', t', hF, hl, hv, e1, e2⟩ := x
 intro g' D'
 have D2 : Rp (VX w h d os X) (listT l') l'.length (B + c) ch g' := D'.pick (fun j x hx => by
  rw [listT_get (by omega)] at hx
  obtain ⟨i, _, q2⟩ := sel_nth hv hx
  rw [nthO_is] at hx
  exact ⟨(List.getElem?_eq_some_iff.mp hx).1, i, q2⟩) fun i j a o o' x1 x2 => by
  rw [listT_get (by omega)] at x1 x2
  obtain ⟨i1, q1, q2⟩ := sel_nth hv x1
  obtain ⟨i2, q3, q4⟩ := sel_nth hv x2
  have : i1 = i2 := D'.one _ _ _ _ _ q2 q4
  subst this
  exact nodup_nth nd q1 q3
 have := k r l' N' t' ch hF g'
 rw [e1] at D2
 rw [e2]
 exact this D2
theorem ct_runS {is : List Nat} (nd : is.Nodup) {n : Nat} (hn : n ≤ 63) (O : (VX w h d os X).Ok) {hk : HkTy} (W : HkW (VX w h d os X) hk) {fuel : Nat} {Γ : PySem.Ctx} {p : Pos} {T : MT} {m N t0 : Nat} {ch : Ch} {js : List Nat} {F : FT} {R : Result → Shared → Prop} {g : Heap}
  (run : simG (VX w h d os X) (HH3 hk) (KFs is (KVof n F)) fuel Γ p .base (denF Γ.code) T m (N + 1723) 0 (t0 + 1) 0 ch js [] True)
  (D : Rp (VX w h d os X) T m (N + 1723) ch g) (k : ∀ r l' N' t' ch', F r l' N' t' ch' → AtS (VX w h d os X) R r (listT l') l'.length (N' + 1723) 0 (t' + 1) 0 ch') : wpCode (VX w h d os X).M Γ R p ((VX w h d os X).sh g (t0 + 1)) :=
 contract1 (c := 0) (i := 0) O (HH3_ok _ O (Nat.le_refl 1723) W) run (fins_ok nd hn k) D
theorem ins_dense : ∀ (t : MT) (j b b' : Nat) (p p' : Obj), ((t.ins j b p).get j).isSome = ((t.ins j b' p').get j).isSome
 | .nil, j, b, b', p, p' => by
  have e : ∀ b p, (MT.ins .nil j b p) = .node b p .nil .nil := fun _ _ => rfl
  rw [e, e, MT.get_node, MT.get_node]
  by_cases q : j = 0
  ·simp [q]
  ·by_cases u : j % 2 = 1 <;> simp [q, u, MT.get_nil]
 | .node a o l r, j, b, b', p, p' => by
  rw [MT.ins_node, MT.ins_node]
  by_cases q : j = 0
  ·rw [if_pos q, if_pos q, MT.get_node, MT.get_node]; simp [q]
  ·rw [if_neg q, if_neg q]
   by_cases u : j % 2 = 1
   ·rw [if_pos u, if_pos u, MT.get_node, MT.get_node, if_neg q, if_neg q, if_pos u, if_pos u]
    exact ins_dense l _ b b' p p'
   ·rw [if_neg u, if_neg u, MT.get_node, MT.get_node, if_neg q, if_neg q, if_neg u, if_neg u]
    exact ins_dense r _ b b' p p'
structure CtN where
 n : Nat
 Y : Type
 P : OL → Code → Prop
 o : Y → Obj
 Post : OL → Y → Prop
def CtN.I (C : CtN) : IT := fun l Γ ch F => C.P l Γ.code ∧ Γ.handled = none ∧ Γ.own = none ∧ Γ.past = none ∧ ∀ y N' t' a, C.Post l y → F (.ok (.ret (.ref a))) (l ++ [(a, C.o y)]) N' t' ch
def pickN (C : CtN) (js : List Nat) (Γ : PySem.Ctx) (T : MT) (m τ : Nat) : Option DCt := bO ((T.ins m 0 default).get m) fun _ => bT (pl Γ) (rdCt C.n js Γ T τ)
def hkN (C : CtN) : HB := fun js Γ _ T m _ _ τ _ ch => bO (pickN C js Γ T m τ) fun d => some ([], fun K => C.P d.l d.Γ.code ∧ ∀ y N' t' a, C.Post d.l y → K (.ok (.ret (.ref a))) (T.ins m a (C.o y)) (m + 1) (N' + 1723) 0 (t' + 1) 0 ch d.r)
theorem ins_new {T : MT} {m a : Nat} {o : Obj} {z : Nat × Obj} (hz : (T.ins m 0 default).get m = some z) : (T.ins m a o).get m = some (a, o) := by
 have q := ins_dense T m a 0 o default
 rw [hz] at q
 obtain ⟨u, hu⟩ := Option.isSome_iff_exists.mp q
 rw [hu, MT.ins_some a o T m u hu]
theorem back_new (O : (VX w h d os X).Ok) {T : MT} {m b b' m' a : Nat} {ch ch' : Ch} {g g' : Heap} {is : List Nat} {l : OL} {o : Obj} (D : Rp (VX w h d os X) T m b ch g) (h2 : Reads T is l) (hl : l.length ≤ 62) (hu : (T.ins m a o).get m = some (a, o))
  (D' : Rp (VX w h d os (frz g (listT l))) (listT (l ++ [(a, o)])) m' b' ch' g') : Rp (VX w h d os X) (T.ins m a o) (m + 1) b' ch' g' := by
 have hl3 : l.length ≤ 63 := Nat.le_succ_of_le hl
 have hll : (l ++ [(a, o)]).length ≤ 63 := by rw [List.length_append]; exact Nat.succ_le_succ hl
 have hget : (listT (l ++ [(a, o)])).get l.length = some (a, o) := by rw [listT_get hll, nthO_app, if_neg (Nat.lt_irrefl _), if_pos rfl]
 have sub := frz_sub O D (fun k x hx => (list_own h2 hl3 k x hx).2)
 have none_of : ∀ o', frz g (listT l) a = some o' → False := fun o' e2 => by
  have e1 := D'.exo _ _ _ hget
  rw [show (VX w h d os (frz g (listT l))).ex a = frz g (listT l) a from rfl, e2] at e1
  cases e1
 have Xa : X a = none := by
  cases q : X a with
  | none => rfl
  | some o' => exact (none_of o' (sub a o' q)).elim
 have hTm : T.get m = none := by
  cases q : T.get m with
  | none => rfl
  | some y' => exact absurd (D.own m y'.1 y'.2 q).1 (Nat.lt_irrefl _)
 have G := fun j => MT.get_ins a o T m j hu hTm
 have inl : ∀ j x, j ∈ is → T.get j = some x → ∃ k, k < l.length ∧ (listT (l ++ [(a, o)])).get k = some x := fun j x hj hx => by
  obtain ⟨k, hk⟩ := List.mem_iff_getElem?.mp hj
  obtain ⟨z, q1, q2⟩ := h2.nth' hk
  rw [← Option.some.inj (hx.symm.trans q2)] at q1
  have hkl := (List.getElem?_eq_some_iff.mp (nthO_is l k ▸ q1)).1
  exact ⟨k, hkl, by rw [listT_get hll, nthO_app, if_pos hkl]; exact q1⟩
 have out : ∀ j x, j ∉ is → T.get j = some x → ∀ k z, (listT l).get k = some z → z.1 ≠ x.1 := fun j x hi hx k z hz q => by
  rw [listT_get hl3] at hz
  obtain ⟨i', r1, r2⟩ := h2.nth hz
  have : i' = j := D.one i' j z.1 z.2 x.2 r2 (by rw [q]; exact hx)
  exact hi (this ▸ List.mem_of_getElem? r1)
 have ne : ∀ j x, T.get j = some x → x.1 ≠ a := fun j x hx q => by
  by_cases hj : j ∈ is
  ·obtain ⟨k, hk, e1⟩ := inl j x hj hx
   exact absurd (D'.one k l.length a x.2 o (e1.trans (congrArg some (Prod.ext q rfl))) hget) (Nat.ne_of_lt hk)
  ·obtain ⟨z1, z2, z3, z4⟩ := D.own j x.1 x.2 hx
   exact none_of x.2 (by rw [← q]; exact frz_of z2 (out j x hj hx) z4)
 refine D.unfocus O (fun k x hx => (list_own h2 hl3 k x hx).2) D' (fun j x hx => ?_) (fun i j b o1 o2 e1 e2 => ?_)
 ·rw [G] at hx
  by_cases hj : j = m
  ·rw [if_pos hj] at hx
   rw [← Option.some.inj hx, hj]
   exact ⟨Nat.lt_succ_self m, .inl ⟨l.length, hget, Xa⟩⟩
  ·rw [if_neg hj] at hx
   refine ⟨Nat.lt_succ_of_lt (D.own j x.1 x.2 hx).1, ?_⟩
   by_cases hi : j ∈ is
   ·obtain ⟨k, hk, hkx⟩ := inl j x hi hx
    exact .inl ⟨k, hkx, D.exo j x.1 x.2 hx⟩
   ·exact .inr ⟨hx, out j x hi hx⟩
 ·rw [G] at e1 e2
  by_cases hi : i = m <;> by_cases hj : j = m
  ·rw [hi, hj]
  ·rw [if_pos hi] at e1; rw [if_neg hj] at e2
   exact absurd (congrArg Prod.fst (Option.some.inj e1)).symm (ne j (b, o2) e2)
  ·rw [if_neg hi] at e1; rw [if_pos hj] at e2
   exact absurd (congrArg Prod.fst (Option.some.inj e2)).symm (ne i (b, o1) e1)
  ·rw [if_neg hi] at e1; rw [if_neg hj] at e2
   exact D.one i j b o1 o2 e1 e2
theorem hkN_ok (O : (VX w h d os X).Ok) {C : CtN} (H : CtOk C.n C.I w h d os) (hn : C.n ≤ 62) : HBOk (VX w h d os X) (hkN C) where
 mono := fun js Γ p T m B c τ i ch ps W e F G hFG x => inv_o e fun d _ e => by
  rw [← show _ = W from congrArg Prod.snd (Option.some.inj e)] at x ⊢
  exact ⟨x.1, fun y N' t' a hy => hFG _ _ _ _ _ _ _ _ _ (x.2 y N' t' a hy)⟩
 ok := fun js Γ p T m B c τ i ch ps W e hps R g D x => inv_o e fun d e1 e => inv_o e1 fun z hz e1 => inv_t e1 fun h0 e1 => rdCt_k e1 fun t e2 e3 h1 h2 h3 => by
  rw [← show _ = W from congrArg Prod.snd (Option.some.inj e)] at x
  rw [e2] at h0
  rw [e2, e3]
  obtain ⟨p1, p2, p3⟩ := pl_ok h0
  refine ct_use (F := fun r' l' N' t' ch' => ∃ y a, r' = .ok (.ret (.ref a)) ∧ l' = d.l ++ [(a, C.o y)] ∧ C.Post d.l y ∧ ch' = ch) O H (Nat.le_succ_of_le hn) h1 h2 h3 D ⟨x.1, p1, p2, p3, fun y N' t' a hy => ⟨y, a, rfl, rfl, hy, rfl⟩⟩ fun r' l' N' t' ch' hF g' D' => ?_
  obtain ⟨y, a, e4, e5, hy, e6⟩ := hF
  rw [e5, e6] at D'
  rw [e4]
  exact x.2 y N' t' a hy g' (back_new O D h2 (h1 ▸ hn) (ins_new hz) D')
end
def cSrt (a : Nat) : Code := .builtin "sorted" ⟨[.ref a], []⟩
section
variable (w : World) (N t0 a ep : Nat) (es : Array DictEntry) (h : Heap) (d : Drawn) (os : OsState) (X : Nat → Option Obj) (z : CS) (p : Pos) (ch : Ch) (KV : KVT)
abbrev simSr (b1 b2 : Bool) (is : List Nat) (o : Obj) (js : List Nat) : Prop := simG (VX (wF w b1 b2) h d os X) (HH3 (hkOf [hkSort, hkNextK])) (KFs is KV) 300 (z.ctx (cSrt (a + 1723))) p .base (denF (cSrt (a + 1723))) (listT [(a + 1723, o)]) 1 (N + 1723) 0 (t0 + 1) 0 ch js [] True
def AS (a N : Nat) (i : Nat) : Nat := match i with
  | 0 => a + 1723
  | i + 1 => N + 1723 + i
def jsL0 : List Nat := z94
theorem runSl0  (b1 b2 : Bool) : simSr w N t0 a h d os X z p ch KV b1 b2 [0, 2] (lstE ⟨[]⟩ ep) jsL0 = (okAcc (accL (AS a N) jsL0 []) ∧ True ∧ (allI [] ∧ ([] : List Value).length < 64 ∧ ∀ (L : List Value) (ep' N' : Nat), allI L → (L.map kI).Perm (([] : List Value).map kI) → (L.map kI).Pairwise (· ≤ ·) →
  (okAcc [] ∧ True ∧ KV (.ok (.ret (.ref (N + 1723 + 1)))) [some (a + 1723, (lstE ⟨[]⟩ ep)), some (N + 1723 + 1, lstE ⟨L⟩ ep')] (N' + 1723) 0 (t0 + 1) 0 ch))) := by kernel_rfl
def jsL1 : List Nat := z94
theorem runSl1 (k0 : Int) (u0 : Nat) (b1 b2 : Bool) : simSr w N t0 a h d os X z p ch KV b1 b2 [0, 2] (lstE ⟨[.int k0 u0]⟩ ep) jsL1 = (okAcc (accL (AS a N) jsL1 []) ∧ True ∧ (allI [.int k0 u0] ∧ ([.int k0 u0] : List Value).length < 64 ∧ ∀ (L : List Value) (ep' N' : Nat), allI L → (L.map kI).Perm (([.int k0 u0] : List Value).map kI) → (L.map kI).Pairwise (· ≤ ·) →
  (okAcc [] ∧ True ∧ KV (.ok (.ret (.ref (N + 1723 + 1)))) [some (a + 1723, (lstE ⟨[.int k0 u0]⟩ ep)), some (N + 1723 + 1, lstE ⟨L⟩ ep')] (N' + 1723) 0 (t0 + 1) 0 ch))) := by kernel_rfl
def jsL2 : List Nat := z94
theorem runSl2 (k0 k1 : Int) (u0 u1 : Nat) (b1 b2 : Bool) : simSr w N t0 a h d os X z p ch KV b1 b2 [0, 2] (lstE ⟨[.int k0 u0, .int k1 u1]⟩ ep) jsL2 = (okAcc (accL (AS a N) jsL2 []) ∧ True ∧ (allI [.int k0 u0, .int k1 u1] ∧ ([.int k0 u0, .int k1 u1] : List Value).length < 64 ∧ ∀ (L : List Value) (ep' N' : Nat), allI L → (L.map kI).Perm (([.int k0 u0, .int k1 u1] : List Value).map kI) → (L.map kI).Pairwise (· ≤ ·) →
  (okAcc [] ∧ True ∧ KV (.ok (.ret (.ref (N + 1723 + 1)))) [some (a + 1723, (lstE ⟨[.int k0 u0, .int k1 u1]⟩ ep)), some (N + 1723 + 1, lstE ⟨L⟩ ep')] (N' + 1723) 0 (t0 + 1) 0 ch))) := by kernel_rfl
def jsL3 : List Nat := z94
theorem runSl3 (k0 k1 k2 : Int) (u0 u1 u2 : Nat) (b1 b2 : Bool) : simSr w N t0 a h d os X z p ch KV b1 b2 [0, 2] (lstE ⟨[.int k0 u0, .int k1 u1, .int k2 u2]⟩ ep) jsL3 = (okAcc (accL (AS a N) jsL3 []) ∧ True ∧ (allI [.int k0 u0, .int k1 u1, .int k2 u2] ∧ ([.int k0 u0, .int k1 u1, .int k2 u2] : List Value).length < 64 ∧ ∀ (L : List Value) (ep' N' : Nat), allI L → (L.map kI).Perm (([.int k0 u0, .int k1 u1, .int k2 u2] : List Value).map kI) → (L.map kI).Pairwise (· ≤ ·) →
  (okAcc [] ∧ True ∧ KV (.ok (.ret (.ref (N + 1723 + 1)))) [some (a + 1723, (lstE ⟨[.int k0 u0, .int k1 u1, .int k2 u2]⟩ ep)), some (N + 1723 + 1, lstE ⟨L⟩ ep')] (N' + 1723) 0 (t0 + 1) 0 ch))) := by kernel_rfl
def jsL4 : List Nat := z94
theorem runSl4 (k0 k1 k2 k3 : Int) (u0 u1 u2 u3 : Nat) (b1 b2 : Bool) : simSr w N t0 a h d os X z p ch KV b1 b2 [0, 2] (lstE ⟨[.int k0 u0, .int k1 u1, .int k2 u2, .int k3 u3]⟩ ep) jsL4 = (okAcc (accL (AS a N) jsL4 []) ∧ True ∧ (allI [.int k0 u0, .int k1 u1, .int k2 u2, .int k3 u3] ∧ ([.int k0 u0, .int k1 u1, .int k2 u2, .int k3 u3] : List Value).length < 64 ∧ ∀ (L : List Value) (ep' N' : Nat), allI L → (L.map kI).Perm (([.int k0 u0, .int k1 u1, .int k2 u2, .int k3 u3] : List Value).map kI) → (L.map kI).Pairwise (· ≤ ·) →
  (okAcc [] ∧ True ∧ KV (.ok (.ret (.ref (N + 1723 + 1)))) [some (a + 1723, (lstE ⟨[.int k0 u0, .int k1 u1, .int k2 u2, .int k3 u3]⟩ ep)), some (N + 1723 + 1, lstE ⟨L⟩ ep')] (N' + 1723) 0 (t0 + 1) 0 ch))) := by kernel_rfl
def jsD0_0 : List Nat := (dec [0x10303030101010501010100010001010101033e00] ++ z82)
theorem runSd0 (b2 b1 : Bool) : simSr w N t0 a h d os X z p ch KV b1 b2 [0, 5] (dictO es ep) (jsD0_0) = (okAcc (accL (AS a N) jsD0_0 []) ∧ (((0 : Int) = (es.size : Int) ∧ (es.size : Int) = (es.size : Int) ∧ (ep : Int) = (ep : Int)) ∧ True) ∧ (allI [] ∧ ([] : List Value).length < 64 ∧ ∀ (L : List Value) (ep' N' : Nat), allI L → (L.map kI).Perm (([] : List Value).map kI) → (L.map kI).Pairwise (· ≤ ·) → (okAcc [] ∧ True ∧ KV (.ok (.ret (.ref (N + 1723 + 4)))) [some (a + 1723, (dictO es ep)), some (N + 1723 + 4, lstE ⟨L⟩ ep')] (N' + 1723) 0 (t0 + 1) 0 ch))) := by
 cases b1 <;> kernel_rfl
def jsD1_0 : List Nat := z37
def jsD1_1 : List Nat := z82
theorem runSd1 (b2 b1 : Bool) : simSr w N t0 a h d os X z p ch KV b1 b2 [0, 5] (dictO es ep) (jsD1_0 ++ jsD1_1) = (okAcc (accL (AS a N) jsD1_0 []) ∧ True ∧ ∃ (q0 : Nat) (hh0 : Int) (k0 : Int) (u0 : Nat) (vv0 : Value), (0 : Int) = (q0 : Int) ∧ (es.size : Int) = (es.size : Int) ∧ (ep : Int) = (ep : Int) ∧ es[q0]? = some ⟨hh0, .int k0 u0, vv0⟩ ∧ (okAcc (accL (AS a N) jsD1_1 []) ∧ ((((0 : Int) + 1) = (es.size : Int) ∧ (es.size : Int) = (es.size : Int) ∧ (ep : Int) = (ep : Int)) ∧ True) ∧ (allI [.int k0 u0] ∧ ([.int k0 u0] : List Value).length < 64 ∧ ∀ (L : List Value) (ep' N' : Nat), allI L → (L.map kI).Perm (([.int k0 u0] : List Value).map kI) → (L.map kI).Pairwise (· ≤ ·) → (okAcc [] ∧ True ∧ KV (.ok (.ret (.ref (N + 1723 + 4)))) [some (a + 1723, (dictO es ep)), some (N + 1723 + 4, lstE ⟨L⟩ ep')] (N' + 1723) 0 (t0 + 1) 0 ch)))) := by
 cases b1 <;> kernel_rfl
def jsD2_0 : List Nat := z37
def jsD2_1 : List Nat := dec [0x101050c05000500030303]
def jsD2_2 : List Nat := z82
theorem runSd2 (b2 b1 : Bool) : simSr w N t0 a h d os X z p ch KV b1 b2 [0, 5] (dictO es ep) (jsD2_0 ++ jsD2_1 ++ jsD2_2) = (okAcc (accL (AS a N) jsD2_0 []) ∧ True ∧ ∃ (q0 : Nat) (hh0 : Int) (k0 : Int) (u0 : Nat) (vv0 : Value), (0 : Int) = (q0 : Int) ∧ (es.size : Int) = (es.size : Int) ∧ (ep : Int) = (ep : Int) ∧ es[q0]? = some ⟨hh0, .int k0 u0, vv0⟩ ∧ (okAcc (accL (AS a N) jsD2_1 []) ∧ True ∧ ∃ (q1 : Nat) (hh1 : Int) (k1 : Int) (u1 : Nat) (vv1 : Value), ((0 : Int) + 1) = (q1 : Int) ∧ (es.size : Int) = (es.size : Int) ∧ (ep : Int) = (ep : Int) ∧ es[q1]? = some ⟨hh1, .int k1 u1, vv1⟩ ∧ (okAcc (accL (AS a N) jsD2_2 []) ∧ (((((0 : Int) + 1) + 1) = (es.size : Int) ∧ (es.size : Int) = (es.size : Int) ∧ (ep : Int) = (ep : Int)) ∧ True) ∧ (allI [.int k0 u0, .int k1 u1] ∧ ([.int k0 u0, .int k1 u1] : List Value).length < 64 ∧ ∀ (L : List Value) (ep' N' : Nat), allI L → (L.map kI).Perm (([.int k0 u0, .int k1 u1] : List Value).map kI) → (L.map kI).Pairwise (· ≤ ·) → (okAcc [] ∧ True ∧ KV (.ok (.ret (.ref (N + 1723 + 4)))) [some (a + 1723, (dictO es ep)), some (N + 1723 + 4, lstE ⟨L⟩ ep')] (N' + 1723) 0 (t0 + 1) 0 ch))))) := by
 cases b1 <;> kernel_rfl
def jsD3_0 : List Nat := z37
def jsD3_1 : List Nat := dec [0x101050c05000500030303]
def jsD3_2 : List Nat := dec [0x101050c05000500030303]
def jsD3_3 : List Nat := z82
theorem runSd3 (b2 b1 : Bool) : simSr w N t0 a h d os X z p ch KV b1 b2 [0, 5] (dictO es ep) (jsD3_0 ++ jsD3_1 ++ jsD3_2 ++ jsD3_3) = (okAcc (accL (AS a N) jsD3_0 []) ∧ True ∧ ∃ (q0 : Nat) (hh0 : Int) (k0 : Int) (u0 : Nat) (vv0 : Value), (0 : Int) = (q0 : Int) ∧ (es.size : Int) = (es.size : Int) ∧ (ep : Int) = (ep : Int) ∧ es[q0]? = some ⟨hh0, .int k0 u0, vv0⟩ ∧ (okAcc (accL (AS a N) jsD3_1 []) ∧ True ∧ ∃ (q1 : Nat) (hh1 : Int) (k1 : Int) (u1 : Nat) (vv1 : Value), ((0 : Int) + 1) = (q1 : Int) ∧ (es.size : Int) = (es.size : Int) ∧ (ep : Int) = (ep : Int) ∧ es[q1]? = some ⟨hh1, .int k1 u1, vv1⟩ ∧ (okAcc (accL (AS a N) jsD3_2 []) ∧ True ∧ ∃ (q2 : Nat) (hh2 : Int) (k2 : Int) (u2 : Nat) (vv2 : Value), (((0 : Int) + 1) + 1) = (q2 : Int) ∧ (es.size : Int) = (es.size : Int) ∧ (ep : Int) = (ep : Int) ∧ es[q2]? = some ⟨hh2, .int k2 u2, vv2⟩ ∧ (okAcc (accL (AS a N) jsD3_3 []) ∧ ((((((0 : Int) + 1) + 1) + 1) = (es.size : Int) ∧ (es.size : Int) = (es.size : Int) ∧ (ep : Int) = (ep : Int)) ∧ True) ∧ (allI [.int k0 u0, .int k1 u1, .int k2 u2] ∧ ([.int k0 u0, .int k1 u1, .int k2 u2] : List Value).length < 64 ∧ ∀ (L : List Value) (ep' N' : Nat), allI L → (L.map kI).Perm (([.int k0 u0, .int k1 u1, .int k2 u2] : List Value).map kI) → (L.map kI).Pairwise (· ≤ ·) → (okAcc [] ∧ True ∧ KV (.ok (.ret (.ref (N + 1723 + 4)))) [some (a + 1723, (dictO es ep)), some (N + 1723 + 4, lstE ⟨L⟩ ep')] (N' + 1723) 0 (t0 + 1) 0 ch)))))) := by
 cases b1 <;> kernel_rfl
def jsD4_0 : List Nat := z37
def jsD4_1 : List Nat := dec [0x101050c05000500030303]
def jsD4_2 : List Nat := dec [0x101050c05000500030303]
def jsD4_3 : List Nat := dec [0x101050c05000500030303]
def jsD4_4 : List Nat := z82
theorem runSd4 (b2 b1 : Bool) : simSr w N t0 a h d os X z p ch KV b1 b2 [0, 5] (dictO es ep) (jsD4_0 ++ jsD4_1 ++ jsD4_2 ++ jsD4_3 ++ jsD4_4) = (okAcc (accL (AS a N) jsD4_0 []) ∧ True ∧ ∃ (q0 : Nat) (hh0 : Int) (k0 : Int) (u0 : Nat) (vv0 : Value), (0 : Int) = (q0 : Int) ∧ (es.size : Int) = (es.size : Int) ∧ (ep : Int) = (ep : Int) ∧ es[q0]? = some ⟨hh0, .int k0 u0, vv0⟩ ∧ (okAcc (accL (AS a N) jsD4_1 []) ∧ True ∧ ∃ (q1 : Nat) (hh1 : Int) (k1 : Int) (u1 : Nat) (vv1 : Value), ((0 : Int) + 1) = (q1 : Int) ∧ (es.size : Int) = (es.size : Int) ∧ (ep : Int) = (ep : Int) ∧ es[q1]? = some ⟨hh1, .int k1 u1, vv1⟩ ∧ (okAcc (accL (AS a N) jsD4_2 []) ∧ True ∧ ∃ (q2 : Nat) (hh2 : Int) (k2 : Int) (u2 : Nat) (vv2 : Value), (((0 : Int) + 1) + 1) = (q2 : Int) ∧ (es.size : Int) = (es.size : Int) ∧ (ep : Int) = (ep : Int) ∧ es[q2]? = some ⟨hh2, .int k2 u2, vv2⟩ ∧ (okAcc (accL (AS a N) jsD4_3 []) ∧ True ∧ ∃ (q3 : Nat) (hh3 : Int) (k3 : Int) (u3 : Nat) (vv3 : Value), ((((0 : Int) + 1) + 1) + 1) = (q3 : Int) ∧ (es.size : Int) = (es.size : Int) ∧ (ep : Int) = (ep : Int) ∧ es[q3]? = some ⟨hh3, .int k3 u3, vv3⟩ ∧ (okAcc (accL (AS a N) jsD4_4 []) ∧ (((((((0 : Int) + 1) + 1) + 1) + 1) = (es.size : Int) ∧ (es.size : Int) = (es.size : Int) ∧ (ep : Int) = (ep : Int)) ∧ True) ∧ (allI [.int k0 u0, .int k1 u1, .int k2 u2, .int k3 u3] ∧ ([.int k0 u0, .int k1 u1, .int k2 u2, .int k3 u3] : List Value).length < 64 ∧ ∀ (L : List Value) (ep' N' : Nat), allI L → (L.map kI).Perm (([.int k0 u0, .int k1 u1, .int k2 u2, .int k3 u3] : List Value).map kI) → (L.map kI).Pairwise (· ≤ ·) → (okAcc [] ∧ True ∧ KV (.ok (.ret (.ref (N + 1723 + 4)))) [some (a + 1723, (dictO es ep)), some (N + 1723 + 4, lstE ⟨L⟩ ep')] (N' + 1723) 0 (t0 + 1) 0 ch))))))) := by
 cases b1 <;> kernel_rfl
end
def keysO (o : Obj) : List Int := match o.data with
 | .seq xs _ => xs.toList.map kI
 | .dict es _ => es.toList.map keyV
 | _ => []
def SrtOk (o : Obj) : Prop := (∃ (xs : List Value) (ep : Nat), o = lstE ⟨xs⟩ ep ∧ allI xs ∧ xs.length ≤ 4) ∨ (∃ (es : Array DictEntry) (ep : Nat) (D : List Int), o = dictO es ep ∧ TakOk es D ∧ es.size ≤ 4)
structure YSt where
 L : List Value
 ep : Nat
def P_srt (l : OL) (c : Code) : Prop := ∃ a o, l = [(a + 1723, o)] ∧ c = cSrt (a + 1723) ∧ SrtOk o
def Post_srt (l : OL) (y : YSt) : Prop := allI y.L ∧ (y.L.map kI).Perm (keysO (nthD l 0)) ∧ (y.L.map kI).Pairwise (· ≤ ·)
def C_srt : CtN := ⟨1, YSt, P_srt, fun y => lstE ⟨y.L⟩ y.ep, Post_srt⟩
theorem tak_ent {l : List DictEntry} (h : l.all keyI = true) {q : Nat} {e : DictEntry} (hq : l[q]? = some e) : ∃ hh k u vv, e = ⟨hh, .int k u, vv⟩ := by
 have := List.all_eq_true.mp h e (List.mem_of_getElem? hq)
 obtain ⟨hh, k, vv⟩ := e
 cases k <;> first | exact ⟨_, _, _, _, rfl⟩ | cases this
section
variable {w : World} {N t0 a ep : Nat} {h : Heap} {d : Drawn} {os : OsState} {X : XT} {z : CS} {p : Pos} {ch : Ch} {KV : KVT}
def AskS (N t0 a : Nat) (ch : Ch) (KV : KVT) (ks : List Int) (o : Obj) (j : Nat) : Prop := ∀ (L : List Value) (ep' N' : Nat), allI L → (L.map kI).Perm ks → (L.map kI).Pairwise (· ≤ ·) → (okAcc [] ∧ True ∧ KV (.ok (.ret (.ref (N + 1723 + j)))) [some (a + 1723, o), some (N + 1723 + j, lstE ⟨L⟩ ep')] (N' + 1723) 0 (t0 + 1) 0 ch)
def mkI (q : Int × Nat) : Value := .int q.1 q.2
def mkE (q : Int × (Int × Nat) × Value) : DictEntry := ⟨q.1, mkI q.2.1, q.2.2⟩
theorem allI_mkI (f : List (Int × Nat)) : allI (f.map mkI) := fun x hx => by
 obtain ⟨q, _, e⟩ := List.mem_map.mp hx
 exact ⟨q.1, q.2, e.symm⟩
theorem allI_map : ∀ {l : List Value}, allI l → ∃ f : List (Int × Nat), l = f.map mkI
 | [], _ => ⟨[], rfl⟩
 | x :: l, h => by
  obtain ⟨⟨k, u, e⟩, h2⟩ := allI_cons.mp h
  obtain ⟨f, e2⟩ := allI_map h2
  exact ⟨(k, u) :: f, by rw [e, e2]; rfl⟩
theorem keyI_map : ∀ {l : List DictEntry}, l.all keyI = true → ∃ f : List (Int × (Int × Nat) × Value), l = f.map mkE
 | [], _ => ⟨[], rfl⟩
 | x :: l, h => by
  obtain ⟨hh, k, u, vv, e⟩ := tak_ent h (q := 0) rfl
  rw [List.all_cons, Bool.and_eq_true] at h
  obtain ⟨f, e2⟩ := keyI_map h.2
  exact ⟨(hh, (k, u), vv) :: f, by rw [e, e2]; rfl⟩
theorem srtL : ∀ f : List (Int × Nat), (f.map mkI).length ≤ 4 → ∀ b1 b2, AskS N t0 a ch KV ((f.map mkI).map kI) (lstE ⟨f.map mkI⟩ ep) 1 → ∃ js, simSr w N t0 a h d os X z p ch KV b1 b2 [0, 2] (lstE ⟨f.map mkI⟩ ep) js
 | [], _, _, _, H => ⟨_, (runSl0 w N t0 a ep h d os X z p ch KV   _ _).mpr ⟨accL_ok _ _ _ okNil, trivial, allI_mkI [], by decide, H⟩⟩
 | [q0], _, _, _, H => ⟨_, (runSl1 w N t0 a ep h d os X z p ch KV q0.1 q0.2 _ _).mpr ⟨accL_ok _ _ _ okNil, trivial, allI_mkI [q0], Nat.lt_of_sub_eq_succ rfl, H⟩⟩
 | [q0, q1], _, _, _, H => ⟨_, (runSl2 w N t0 a ep h d os X z p ch KV q0.1 q1.1 q0.2 q1.2 _ _).mpr ⟨accL_ok _ _ _ okNil, trivial, allI_mkI [q0, q1], Nat.lt_of_sub_eq_succ rfl, H⟩⟩
 | [q0, q1, q2], _, _, _, H => ⟨_, (runSl3 w N t0 a ep h d os X z p ch KV q0.1 q1.1 q2.1 q0.2 q1.2 q2.2 _ _).mpr ⟨accL_ok _ _ _ okNil, trivial, allI_mkI [q0, q1, q2], Nat.lt_of_sub_eq_succ rfl, H⟩⟩
 | [q0, q1, q2, q3], _, _, _, H => ⟨_, (runSl4 w N t0 a ep h d os X z p ch KV q0.1 q1.1 q2.1 q3.1 q0.2 q1.2 q2.2 q3.2 _ _).mpr ⟨accL_ok _ _ _ okNil, trivial, allI_mkI [q0, q1, q2, q3], Nat.lt_of_sub_eq_succ rfl, H⟩⟩
 | _ :: _ :: _ :: _ :: _ :: _, hn, _, _, _ => absurd hn (by simp)
theorem srtD : ∀ f : List (Int × (Int × Nat) × Value), (f.map mkE).length ≤ 4 → ∀ b2 b1, AskS N t0 a ch KV ((f.map mkE).map keyV) (dictO ⟨f.map mkE⟩ ep) 4 → ∃ js, simSr w N t0 a h d os X z p ch KV b1 b2 [0, 5] (dictO ⟨f.map mkE⟩ ep) js
 | [], _, _, _, H => ⟨_, (runSd0 w N t0 a ep ⟨[]⟩ h d os X z p ch KV _ _).mpr ⟨accL_ok _ _ _ okNil, ⟨⟨rfl, rfl, rfl⟩, trivial⟩, allI_mkI [], by decide, H⟩⟩
 | [q0], _, _, _, H => ⟨_, (runSd1 w N t0 a ep ⟨[mkE q0]⟩ h d os X z p ch KV _ _).mpr ⟨accL_ok _ _ _ okNil, trivial, 0, q0.1, q0.2.1.1, q0.2.1.2, q0.2.2, rfl, rfl, rfl, rfl, accL_ok _ _ _ okNil, ⟨⟨rfl, rfl, rfl⟩, trivial⟩, allI_mkI [q0.2.1], Nat.lt_of_sub_eq_succ rfl, H⟩⟩
 | [q0, q1], _, _, _, H => ⟨_, (runSd2 w N t0 a ep ⟨[mkE q0, mkE q1]⟩ h d os X z p ch KV _ _).mpr ⟨accL_ok _ _ _ okNil, trivial, 0, q0.1, q0.2.1.1, q0.2.1.2, q0.2.2, rfl, rfl, rfl, rfl, accL_ok _ _ _ okNil, trivial, 1, q1.1, q1.2.1.1, q1.2.1.2, q1.2.2, rfl, rfl, rfl, rfl, accL_ok _ _ _ okNil, ⟨⟨rfl, rfl, rfl⟩, trivial⟩, allI_mkI [q0.2.1, q1.2.1], Nat.lt_of_sub_eq_succ rfl, H⟩⟩
 | [q0, q1, q2], _, _, _, H => ⟨_, (runSd3 w N t0 a ep ⟨[mkE q0, mkE q1, mkE q2]⟩ h d os X z p ch KV _ _).mpr ⟨accL_ok _ _ _ okNil, trivial, 0, q0.1, q0.2.1.1, q0.2.1.2, q0.2.2, rfl, rfl, rfl, rfl, accL_ok _ _ _ okNil, trivial, 1, q1.1, q1.2.1.1, q1.2.1.2, q1.2.2, rfl, rfl, rfl, rfl, accL_ok _ _ _ okNil, trivial, 2, q2.1, q2.2.1.1, q2.2.1.2, q2.2.2, rfl, rfl, rfl, rfl, accL_ok _ _ _ okNil, ⟨⟨rfl, rfl, rfl⟩, trivial⟩, allI_mkI [q0.2.1, q1.2.1, q2.2.1], Nat.lt_of_sub_eq_succ rfl, H⟩⟩
 | [q0, q1, q2, q3], _, _, _, H => ⟨_, (runSd4 w N t0 a ep ⟨[mkE q0, mkE q1, mkE q2, mkE q3]⟩ h d os X z p ch KV _ _).mpr ⟨accL_ok _ _ _ okNil, trivial, 0, q0.1, q0.2.1.1, q0.2.1.2, q0.2.2, rfl, rfl, rfl, rfl, accL_ok _ _ _ okNil, trivial, 1, q1.1, q1.2.1.1, q1.2.1.2, q1.2.2, rfl, rfl, rfl, rfl, accL_ok _ _ _ okNil, trivial, 2, q2.1, q2.2.1.1, q2.2.1.2, q2.2.2, rfl, rfl, rfl, rfl, accL_ok _ _ _ okNil, trivial, 3, q3.1, q3.2.1.1, q3.2.1.2, q3.2.2, rfl, rfl, rfl, rfl, accL_ok _ _ _ okNil, ⟨⟨rfl, rfl, rfl⟩, trivial⟩, allI_mkI [q0.2.1, q1.2.1, q2.2.1, q3.2.1], Nat.lt_of_sub_eq_succ rfl, H⟩⟩
 | _ :: _ :: _ :: _ :: _ :: _, hn, _, _, _ => absurd hn (by simp)
end
theorem C_srt_ok (w : World) (h : Heap) (d : Drawn) (os : OsState) : CtOk C_srt.n C_srt.I w h d os := fun X O l Γ p R g N t0 ch F hl hI D K => by
 obtain ⟨⟨a, o, e0, h2, hs⟩, e1, e2, e3, hF⟩ := hI
 obtain ⟨code, hd, own, bl, past⟩ := Γ
 simp only at e1 e2 e3 h2
 subst e0 e1 e2 e3 h2
 have go : ∀ is js, simSr w N t0 a h d os X ⟨bl⟩ p ch (KVof 2 F) (w.params.followText "special-get-raises") (w.params.followText "comprehension-iter-twice") is o js → is.Nodup → wpCode (VX w h d os X).M ⟨cSrt (a + 1723), none, none, bl, none⟩ R p ((VX w h d os X).sh g (t0 + 1)) := fun is js run nd => by
  unfold simSr at run
  rw [wF_self] at run
  exact ct_runS nd (by decide) O (hkOf2_ok (hkSort_ok O (Nat.le_refl 1723)) (hkNextK_ok O)) run D K
 have fin : ∀ j, AskS N t0 a ch (KVof 2 F) (keysO o) o j := fun j L ep' N' q1 q2 q3 =>
  ⟨okNil, trivial, [(a + 1723, o), (N + 1723 + j, lstE ⟨L⟩ ep')], N', t0, hF ⟨L, ep'⟩ N' t0 _ ⟨q1, q2, q3⟩, rfl, rfl, rfl, rfl⟩
 rcases hs with ⟨xs, ep, e, ha, hn⟩ | ⟨es, ep, E, e, hT, hn⟩
 ·rw [e] at fin go
  obtain ⟨f, ef⟩ := allI_map ha
  rw [ef] at hn fin go
  obtain ⟨js, run⟩ := srtL f hn _ _ (fin 1)
  exact go _ _ run (by decide)
 ·obtain ⟨es⟩ := es
  rw [e] at fin go
  obtain ⟨f, ef⟩ := keyI_map hT.all
  have hn : es.length ≤ 4 := hn
  rw [show es = _ from ef] at hn fin go
  obtain ⟨js, run⟩ := srtD f hn _ _ (fin 4)
  exact go _ _ run (by decide)
structure InvG (m : Nat) (F : Int) (us hs : List Value) (xs : XS) : Prop where
 m1 : 1 ≤ m
 m4 : m ≤ 4
 f1 : 30 ≤ F
 f2 : F ≤ 29 + (m : Int)
 ah : allI hs
 au : allI us
 nd : (hs.map kI).Nodup
 inr : ∀ k ∈ hs.map kI, 30 ≤ k ∧ k ≤ 29 + (m : Int)
 ux : xs.map (fun x => x.1) = us.map fun v => [0, kI v]
theorem hasB_hasI (n : Int) : ∀ l : List Value, hasI n (l.map kI) = hasB n l
 | [] => rfl
 | v :: l => by
  show ((kI v == n) || hasI n (l.map kI)) = ((kI v == n) || hasB n l)
  rw [hasB_hasI n l]
theorem used_is (n : Int) : ∀ (xs : XS) (us : List Value), xs.map (fun x => x.1) = us.map (fun v => [0, kI v]) → usedX n xs = hasB n us
 | [], [], _ => rfl
 | [], _ :: _, h => by simp at h
 | _ :: _, [], h => by simp at h
 | x :: xs, v :: us, h => by
  simp only [List.map_cons, List.cons.injEq] at h
  show ((secI x.1 == n) || usedX n xs) = ((kI v == n) || hasB n us)
  rw [used_is n xs us h.2, h.1]; rfl
theorem pair_is {xs : XS} {us : List Value} (h : xs.map (fun x => x.1) = us.map (fun v => [0, kI v])) : PairX xs := fun x hx => by
 have : x.1 ∈ xs.map (fun x => x.1) := List.mem_map.mpr ⟨x, hx, rfl⟩
 rw [h] at this
 obtain ⟨v, _, e⟩ := List.mem_map.mp this
 exact ⟨kI v, e.symm⟩
theorem len_is {xs : XS} {us : List Value} (h : xs.map (fun x => x.1) = us.map (fun v => [0, kI v])) : xs.length = us.length := by
 have := congrArg List.length h
 simpa using this
def nums (m : Nat) : List Int := (List.range m).map fun (j : Nat) => 30 + (j : Int)
theorem mem_nums {m : Nat} {k : Int} (h1 : 30 ≤ k) (h2 : k ≤ 29 + (m : Int)) : k ∈ nums m :=
 List.mem_map.mpr ⟨(k - 30).toNat, List.mem_range.mpr (by omega), by show 30 + (((k - 30).toNat : Nat) : Int) = k; omega⟩
theorem len_held {m : Nat} {D : List Int} (hn : D.Nodup) (hr : ∀ k ∈ D, 30 ≤ k ∧ k ≤ 29 + (m : Int)) : D.length ≤ m := by
 have := List.Nodup.length_le_of_subset (l₂ := nums m) hn fun k hk => mem_nums (hr k hk).1 (hr k hk).2
 simpa [nums] using this
def at30 (m : Nat) (F : Int) (j : Nat) : Int := 30 + (F - 30 + (j : Int)).fmod (m : Int)
theorem rowI_get (m : Nat) (F : Int) (j : Nat) (h : j < m) : (rowI F (m : Int) 0 m)[j]? = some (at30 m F j) := by
 unfold rowI at30
 simp [h]
theorem rowI_len (m : Nat) (F : Int) : (rowI F (m : Int) 0 m).length = m := by simp [rowI]
theorem at30_in {m : Nat} (h1 : 1 ≤ m) (F : Int) (j : Nat) : 30 ≤ at30 m F j ∧ at30 m F j ≤ 29 + (m : Int) := by
 unfold at30
 rw [Int.fmod_eq_emod_of_nonneg _ (by omega)]
 have := Int.emod_nonneg (F - 30 + (j : Int)) (show (m : Int) ≠ 0 by omega)
 have := Int.emod_lt_of_pos (F - 30 + (j : Int)) (show 0 < (m : Int) by omega)
 omega
theorem m_cases {m : Nat} (h1 : 1 ≤ m) (h4 : m ≤ 4) : m = 1 ∨ m = 2 ∨ m = 3 ∨ m = 4 := by omega
theorem at30_0 {m : Nat} {F : Int} (h1 : 1 ≤ m) (f1 : 30 ≤ F) (f2 : F ≤ 29 + (m : Int)) : at30 m F 0 = F := by
 unfold at30
 rw [Int.fmod_eq_emod_of_nonneg _ (by omega), Int.emod_eq_of_lt (by omega) (by omega)]
 omega
theorem at30_succ {m : Nat} {F : Int} (h1 : 1 ≤ m) (h4 : m ≤ 4) (j : Nat) : beh 30 (29 + (m : Int)) (at30 m F j) = at30 m F (j + 1) := by
 unfold at30 beh
 rw [Int.fmod_eq_emod_of_nonneg _ (by omega), Int.fmod_eq_emod_of_nonneg _ (by omega)]
 rcases m_cases h1 h4 with rfl | rfl | rfl | rfl <;> split <;> omega
theorem at30_mem {m : Nat} {F n : Int} (h1 : 1 ≤ m) (h4 : m ≤ 4) (n1 : 30 ≤ n) (n2 : n ≤ 29 + (m : Int)) : ∃ j, j < m ∧ at30 m F j = n := by
 refine ⟨((n - F) % (m : Int)).toNat, ?_, ?_⟩
 ·have := Int.emod_nonneg (n - F) (show (m : Int) ≠ 0 by omega)
  have := Int.emod_lt_of_pos (n - F) (show 0 < (m : Int) by omega)
  omega
 ·unfold at30
  rw [Int.fmod_eq_emod_of_nonneg _ (by omega)]
  rcases m_cases h1 h4 with rfl | rfl | rfl | rfl <;> omega
theorem beh_next {m : Nat} {g : Int} (h1 : 1 ≤ m) (h4 : m ≤ 4) (g1 : 30 ≤ g) (g2 : g ≤ 29 + (m : Int)) : 30 + (g - 29).fmod (m : Int) = beh 30 (29 + (m : Int)) g := by
 have e := at30_succ (F := g) h1 h4 0
 rw [at30_0 h1 g1 g2] at e
 rw [e]
 unfold at30
 have : g - 30 + (((0 : Nat) + 1 : Nat) : Int) = g - 29 := by omega
 rw [this]
theorem least {P : Nat → Prop} [DecidablePred P] : ∀ j, P j → ∃ i, i ≤ j ∧ P i ∧ ∀ i', i' < i → ¬ P i'
 | 0, h => ⟨0, Nat.le_refl 0, h, fun i' h' => absurd h' (Nat.not_lt_zero _)⟩
 | j + 1, h => by
  by_cases q : ∃ i, i ≤ j ∧ P i
  ·obtain ⟨i, hi, hp⟩ := q
   obtain ⟨i2, a, b, c⟩ := least i hp
   exact ⟨i2, by omega, b, c⟩
  ·exact ⟨j + 1, Nat.le_refl _, h, fun i' h' hp => q ⟨i', by omega, hp⟩⟩
termination_by j => j
decreasing_by omega
theorem Nf_first {D : List Int} {m : Nat} {F : Int} (h1 : 1 ≤ m) (h4 : m ≤ 4) : ∀ (i k s : Nat), i < k → (∀ i', i' < i → hasI (at30 m F (s + i')) D = true) → hasI (at30 m F (s + i)) D = false → Nf D 30 (29 + (m : Int)) k (at30 m F s) = some (at30 m F (s + i))
 | i, 0, s, h, _, _ => absurd h (Nat.not_lt_zero _)
 | 0, k + 1, s, _, _, h => by
  show (if hasI (at30 m F s) D = true then _ else some (at30 m F s)) = _
  rw [if_neg (by rw [show at30 m F s = at30 m F (s + 0) from rfl, h]; simp)]; rfl
 | i + 1, k + 1, s, hk, hb, h => by
  show (if hasI (at30 m F s) D = true then Nf D 30 (29 + (m : Int)) k (beh 30 (29 + (m : Int)) (at30 m F s)) else _) = _
  rw [if_pos (show hasI (at30 m F s) D = true from hb 0 (by omega)), at30_succ h1 h4]
  have e : s + (i + 1) = s + 1 + i := by omega
  rw [e] at h ⊢
  exact Nf_first h1 h4 i k (s + 1) (by omega) (fun i' hi => by rw [show s + 1 + i' = s + (i' + 1) by omega]; exact hb (i' + 1) (by omega)) h
theorem Op_first {D : List Int} {xs : XS} {m : Nat} {F : Int} (h1 : 1 ≤ m) (h4 : m ≤ 4) : ∀ (k j s : Nat), j < k → j < m → hasI (at30 m F (s + j)) D = false → usedX (at30 m F (s + j)) xs = false →
  (∀ i, i < j → ¬ (hasI (at30 m F (s + i)) D = false ∧ usedX (at30 m F (s + i)) xs = false)) → Op D xs 30 (29 + (m : Int)) m k (at30 m F s) = some (at30 m F (s + j))
 | 0, j, s, h, _, _, _, _ => absurd h (Nat.not_lt_zero _)
 | k + 1, j, s, hk, hm, hf, hu, hb => by
  obtain ⟨i, hi, hp, hl⟩ := least (P := fun i => hasI (at30 m F (s + i)) D = false) j hf
  have nf : Nf D 30 (29 + (m : Int)) m (at30 m F s) = some (at30 m F (s + i)) := Nf_first h1 h4 i m s (by omega) (fun i' h' => by
   have := hl i' h'
   simpa using this) hp
  show (match Nf D 30 (29 + (m : Int)) m (at30 m F s) with | none => none | some u => if usedX u xs = true then Op D xs 30 (29 + (m : Int)) m k (beh 30 (29 + (m : Int)) u) else some u) = _
  rw [nf]
  rcases Nat.lt_or_ge i j with q | q
  ·have us : usedX (at30 m F (s + i)) xs = true := by
    cases hx : usedX (at30 m F (s + i)) xs with
    | true => rfl
    | false => exact absurd ⟨hp, hx⟩ (hb i q)
   show (if usedX (at30 m F (s + i)) xs = true then _ else _) = _
   rw [if_pos us, at30_succ h1 h4]
   have e : s + j = s + i + 1 + (j - i - 1) := by omega
   rw [e] at hf hu ⊢
   refine Op_first h1 h4 k (j - i - 1) (s + i + 1) (by omega) (by omega) hf hu fun i' h' => ?_
   rw [show s + i + 1 + i' = s + (i + 1 + i') by omega]
   exact hb (i + 1 + i') (by omega)
  ·have : i = j := by omega
   subst this
   show (if usedX (at30 m F (s + i)) xs = true then _ else some (at30 m F (s + i))) = _
   rw [hu]; rfl
theorem Op_in {D : List Int} {xs : XS} {first last : Int} {m : Nat} : ∀ {k : Nat} {F u : Int}, first ≤ F → F ≤ last → Op D xs first last m k F = some u → first ≤ u ∧ u ≤ last ∧ hasI u D = false ∧ usedX u xs = false
 | 0, F, u, _, _, h => by cases h
 | k + 1, F, u, f1, f2, h => by
  have h : (match Nf D first last m F with | none => none | some u => if usedX u xs = true then Op D xs first last m k (beh first last u) else some u) = some u := h
  cases hn : Nf D first last m F with
  | none => rw [hn] at h; cases h
  | some v =>
   rw [hn] at h
   obtain ⟨a, b, c⟩ := Nf_in f1 f2 hn
   have h : (if usedX v xs = true then Op D xs first last m k (beh first last v) else some v) = some u := h
   split at h
   ·exact Op_in (beh_in a b).1 (beh_in a b).2 h
   ·rename_i q
    cases h
    exact ⟨a, b, c, by simpa using q⟩
section
variable {m : Nat} {F : Int} {us hs : List Value} {xs : XS} (z : InvG m F us hs xs)
include z
theorem InvG.len : hs.length ≤ m := by
 have := len_held z.nd z.inr
 simpa using this
theorem InvG.used (n : Int) : usedX n xs = hasB n us := used_is n xs us z.ux
theorem InvG.free_some {L : List Value} (hL : L.map kI = rowI F (m : Int) 0 m) (hf : filtO hs L ≠ []) (n : Int) (n1 : 30 ≤ n) (n2 : n ≤ 29 + (m : Int)) : Nf (hs.map kI) 30 (29 + (m : Int)) m n ≠ none := by
 obtain ⟨v, hv⟩ := List.exists_mem_of_ne_nil _ hf
 have h2 := (List.mem_filter.mp hv).2
 have hk : kI v ∈ rowI F (m : Int) 0 m := by rw [← hL]; exact List.mem_map.mpr ⟨v, (List.mem_filter.mp hv).1, rfl⟩
 obtain ⟨j, hj⟩ := List.mem_iff_getElem?.mp hk
 have hjm : j < m := by
  have := (List.getElem?_eq_some_iff.mp hj).1
  rwa [rowI_len] at this
 rw [rowI_get m F j hjm] at hj
 have hj : at30 m F j = kI v := Option.some.inj hj
 obtain ⟨a, b⟩ := at30_in z.m1 F j
 rw [hj] at a b
 obtain ⟨i, hi, e⟩ := at30_mem (F := n) z.m1 z.m4 a b
 have fr : hasI (at30 m n i) (hs.map kI) = false := by
  rw [e, hasB_hasI]; simpa using h2
 obtain ⟨i2, q1, q2, q3⟩ := least (P := fun i => hasI (at30 m n i) (hs.map kI) = false) i fr
 have := Nf_first (D := hs.map kI) (F := n) z.m1 z.m4 i2 m 0 (by omega) (fun i' h' => by rw [Nat.zero_add]; simpa using q3 i' h') (by rw [Nat.zero_add]; exact q2)
 rw [at30_0 z.m1 n1 n2] at this
 rw [this]; simp
theorem InvG.free_none {L : List Value} (hL : L.map kI = rowI F (m : Int) 0 m) (hf : filtO hs L = []) {u : Int} : Nf (hs.map kI) 30 (29 + (m : Int)) m F ≠ some u := fun h => by
 obtain ⟨a, b, c⟩ := Nf_in z.f1 z.f2 h
 obtain ⟨j, hj, e⟩ := at30_mem (F := F) z.m1 z.m4 a b
 have hk : u ∈ L.map kI := by rw [hL, ← e]; exact List.mem_of_getElem? (rowI_get m F j hj)
 obtain ⟨v, hv, ev⟩ := List.mem_map.mp hk
 have : v ∈ filtO hs L := List.mem_filter.mpr ⟨hv, by rw [ev, ← hasB_hasI, c]; rfl⟩
 rw [hf] at this; cases this
theorem InvG.good_none {L : List Value} (hL : L.map kI = rowI F (m : Int) 0 m) (hg : filtO us (filtO hs L) = []) {k : Nat} {u : Int} : Op (hs.map kI) xs 30 (29 + (m : Int)) m k F ≠ some u := fun h => by
 obtain ⟨a, b, c, d⟩ := Op_in z.f1 z.f2 h
 obtain ⟨j, hj, e⟩ := at30_mem (F := F) z.m1 z.m4 a b
 have hk : u ∈ L.map kI := by rw [hL, ← e]; exact List.mem_of_getElem? (rowI_get m F j hj)
 obtain ⟨v, hv, ev⟩ := List.mem_map.mp hk
 have : v ∈ filtO us (filtO hs L) := List.mem_filter.mpr ⟨List.mem_filter.mpr ⟨hv, by rw [ev, ← hasB_hasI, c]; rfl⟩, by rw [ev, ← z.used, d]; rfl⟩
 rw [hg] at this; cases this
theorem InvG.good_some {L R : List Value} {g : Int} {tg : Nat} (hL : L.map kI = rowI F (m : Int) 0 m) (hg : filtO us (filtO hs L) = .int g tg :: R) : Op (hs.map kI) xs 30 (29 + (m : Int)) m m F = some g ∧ 30 ≤ g ∧ g ≤ 29 + (m : Int) ∧ hasB g hs = false := by
 unfold filtO at hg
 rw [List.filter_filter, List.filter_eq_cons_iff] at hg
 obtain ⟨l1, l2, e, h1, h2, _⟩ := hg
 have hlen : L.length = m := by
  have := congrArg List.length hL
  rwa [List.length_map, rowI_len] at this
 have hj : l1.length < m := by rw [← hlen, e]; simp
 have nth : ∀ i, i < m → L[i]?.map kI = some (at30 m F i) := fun i hi => by rw [← List.getElem?_map, hL]; exact rowI_get m F i hi
 have eg : at30 m F l1.length = g := by
  have := nth l1.length hj
  rw [e] at this
  simp at this
  exact this.symm
 have hg0 : hasB g us = false ∧ hasB g hs = false := by simpa [kI] using h2
 have op := Op_first (D := hs.map kI) (xs := xs) (F := F) z.m1 z.m4 m l1.length 0 hj hj (by rw [Nat.zero_add, eg, hasB_hasI]; exact hg0.2) (by rw [Nat.zero_add, eg, z.used]; exact hg0.1) fun i hi => by
  rw [Nat.zero_add, hasB_hasI, z.used]
  have hi2 : l1[i]? = some l1[i] := List.getElem?_eq_getElem hi
  have := nth i (by omega)
  rw [e, List.getElem?_append_left hi, hi2] at this
  have e2 : kI l1[i] = at30 m F i := Option.some.inj this
  have h3 := h1 l1[i] (List.getElem_mem hi)
  rw [e2] at h3
  rintro ⟨a, b⟩
  rw [a, b] at h3
  exact h3 rfl
 rw [at30_0 z.m1 z.f1 z.f2, Nat.zero_add, eg] at op
 obtain ⟨a, b⟩ := at30_in z.m1 F l1.length
 rw [eg] at a b
 exact ⟨op, a, b, hg0.2⟩
theorem InvG.follow {F' : Int} (f1 : 30 ≤ F') (f2 : F' ≤ 29 + (m : Int)) : InvG m F' us hs xs := ⟨z.m1, z.m4, f1, f2, z.ah, z.au, z.nd, z.inr, z.ux⟩
theorem InvG.listen {n : Int} {t : Nat} {a : Nat} {v : Value} : InvG m F (us ++ [.int n t]) hs (xs ++ [([0, n], a, v)]) :=
 ⟨z.m1, z.m4, z.f1, z.f2, z.ah, allI_app.mpr ⟨z.au, fun x hx => ⟨n, t, by simpa using hx⟩⟩, z.nd, z.inr, by rw [List.map_append, List.map_append, z.ux]; rfl⟩
theorem InvG.hold {g : Int} {t : Nat} (g1 : 30 ≤ g) (g2 : g ≤ 29 + (m : Int)) (hb : hasB g hs = false) : InvG m (beh 30 (29 + (m : Int)) g) us (hs ++ [.int g t]) xs := by
 refine ⟨z.m1, z.m4, (beh_in g1 g2).1, (beh_in g1 g2).2, allI_app.mpr ⟨z.ah, fun x hx => ⟨g, t, by simpa using hx⟩⟩, z.au, ?_, ?_, z.ux⟩
 ·rw [List.map_append, List.nodup_append]
  refine ⟨z.nd, by simp, fun a ha b hbb q => ?_⟩
  subst q
  have : a = g := by simpa [kI] using hbb
  subst this
  rw [hasB_iff.mpr ha] at hb; cases hb
 ·intro k hk
  rw [List.map_append, List.mem_append] at hk
  rcases hk with hk | hk
  ·exact z.inr k hk
  ·have : k = g := by simpa [kI] using hk
   subst this
   exact ⟨g1, g2⟩
end
theorem rowI_any {m : Nat} {F : Int} {L : List Value} (h1 : 1 ≤ m) (hL : L.map kI = rowI F (m : Int) 0 m) : L ≠ [] ∧ L.length = m := by
 have := congrArg List.length hL
 rw [List.length_map, rowI_len] at this
 exact ⟨fun q => by rw [q] at this; simp at this; omega, this⟩
theorem zip_kI : ∀ {a b : List Value}, allI a → allI b → a.map kI = b.map kI → zipEq a b = some true
 | [], [], _, _, _ => rfl
 | [], _ :: _, _, _, h => by simp at h
 | _ :: _, [], _, _, h => by simp at h
 | x :: a, y :: b, ha, hb, h => by
  rw [allI_cons] at ha hb
  obtain ⟨⟨k, u, rfl⟩, h2⟩ := ha
  obtain ⟨⟨k2, u2, rfl⟩, h3⟩ := hb
  simp only [List.map_cons, List.cons.injEq] at h
  have e : zipEq (.int k u :: a) (.int k2 u2 :: b) = (match eqv (.int k u) (.int k2 u2), zipEq a b with | some b, some d => some (Bool.rec false d b : Bool) | _, _ => none) := rfl
  rw [e, zip_kI h2 h3 h.2, eqv_int ⟨k, u, rfl⟩]
  have : (kI (.int k u) == k2) = true := by rw [show kI (.int k u) = k from rfl, show k = k2 from h.1]; exact beq_self_eq_true _
  rw [this]
theorem sorted_same {D : List Int} {a b : List Value} (ha : allI a) (hb : allI b) (pa : (a.map kI).Perm D) (pb : (b.map kI).Perm D) (sa : (a.map kI).Pairwise (· ≤ ·)) (sb : (b.map kI).Pairwise (· ≤ ·)) : chkEq ⟨a⟩ ⟨b⟩ true = true := by
 have e : a.map kI = b.map kI := List.Perm.eq_of_pairwise (fun x y _ _ h1 h2 => Int.le_antisymm h1 h2) sa sb (pa.trans pb.symm)
 unfold chkEq
 rw [show (⟨a⟩ : Array Value).toList = a from rfl, show (⟨b⟩ : Array Value).toList = b from rfl, zip_kI ha hb e]; rfl

def jG0_seg0_0 : List Nat := z64
def jG0_seg0_1 : List Nat := dec [0x1010c000300030378]
def jG0_seg0 : List Nat := jG0_seg0_0 ++ jG0_seg0_1
def jG0_end : List Nat := dec [0x1002b25252500250025]
def jG0_lis_0 : List Nat := (z31 ++ (dec [0x129292902002929292929292929] ++ (z142 ++ dec [0x1002b])))
def jG0_lis_1 : List Nat := dec [0x12d1f421f001f1f292919001b1b791b7a1b2929]
def jG0_lis_2 : List Nat := dec [0x148]
def jG0_lis : List Nat := jG0_lis_0 ++ jG0_lis_1 ++ jG0_lis_2 ++ [1, 3, 5, 7, 9, 11, 13, 15, 17, 19, 21, 23, 25, 27, 29, 31, 33, 35, 37, 39, 45]
def jG0_k1_0 : List Nat := (dec [0x1005800] ++ z32)
def jG0_k1 : List Nat := jG0_k1_0 ++ [45, 47, 7, 13, 49]
def jG0_k1u_0 : List Nat := (dec [0x1022104210021210b03025800] ++ z32)
def jG0_k1u : List Nat := jG0_k1u_0 ++ [45, 47, 7, 13, 49]
def jG0_s2_0 : List Nat := dec [0x130332033002f002f2f033131310303]
def jG0_s2 : List Nat := jG0_s2_0 ++ [47, 51, 53, 9, 35, 55]
def jG0_s3_0 : List Nat := dec [0x1363920390035003535033737370303]
def jG0_s3 : List Nat := jG0_s3_0 ++ [53, 57, 59, 11, 33, 61]
def jG0_nf4_0 : List Nat := (dec [0x10303] ++ (z19 ++ dec [0x1594e59005902]))
def jG0_nf4 : List Nat := jG0_nf4_0
def jG0_us4_0 : List Nat := (dec [0x13d3d0303] ++ (z19 ++ dec [0x11e]))
def jG0_us4 : List Nat := jG0_us4_0 ++ [85, 17, 15, 21, 19, 23, 27, 25, 29, 31, 89]
def jG0_gd4_0 : List Nat := (dec [0x1795e00410200414141417a0f117a117911791105003f3b283b003b3f3b033d3d3d0303] ++ (z74 ++ (dec [0x100] ++ (z74 ++ dec [0x11e4543ac80430043434300430043437f]))))
def jG0_gd4 : List Nat := jG0_gd4_0 ++ [65, 17, 15, 21, 19, 23, 27, 25, 29, 31, 69]
def jG0_nf5_0 : List Nat := (dec [0x16b6b656565272703035151535355555b5b5d5d655d5d00650065650065656969696500657b65006578657c6567670200676767677f6500657a7f7f7f, 0x100737365656551717171657171656565536f6f6f655353006f6f65556f655555026f6f65656565556d6d6d655555006d6d6565655b6b6b6b655b5b00, 0x173736578657951] ++ z34)
def jG0_nf5_1 : List Nat := dec [0x124000978]
def jG0_nf5_2 : List Nat := (dec [0x177752e7500757775] ++ z43)
def jG0_nf5 : List Nat := jG0_nf5_0 ++ [23] ++ jG0_nf5_1 ++ [35] ++ jG0_nf5_2 ++ [1, 3, 5, 7, 9, 11, 13, 15, 17, 19, 21, 23, 25, 27, 29, 31, 33, 35, 37, 39, 77]
def jG0_us5_0 : List Nat := (dec [0x15d53530063635d5d5d272703035151535355555d5555005d005d5d005d5d6161615d005d7b5d005d785d7c5d5f5f02005f5f5f5f7f5d005d7a7f7f7f, 0x167675d785d79510067675d5d5d516565655d65655d5d5d53636363] ++ z34)
def jG0_us5_1 : List Nat := dec [0x124000978]
def jG0_us5_2 : List Nat := (dec [0x16b692e6900696b69] ++ z43)
def jG0_us5 : List Nat := jG0_us5_0 ++ [23] ++ jG0_us5_1 ++ [35] ++ jG0_us5_2 ++ [1, 3, 5, 7, 9, 11, 13, 15, 17, 19, 21, 23, 25, 27, 29, 31, 33, 35, 37, 39, 77]
def jG0_gd5_0 : List Nat := (dec [0x13b003b003b3b3b03230a23003b003b003b3b3b032323232309005e003b003b003b3b3b03] ++ z41)
def jG0_gd5_1 : List Nat := dec [0x124000978]
def jG0_gd5_2 : List Nat := (dec [0x149472e4700474947] ++ z44)
def jG0_gd5 : List Nat := jG0_gd5_0 ++ [23] ++ jG0_gd5_1 ++ [35] ++ jG0_gd5_2 ++ [1, 3, 5, 7, 9, 11, 13, 15, 17, 19, 21, 23, 25, 27, 29, 31, 33, 35, 37, 39]
def jG0_nf4b_0 : List Nat := (dec [0x1555555] ++ (z75 ++ dec [0x1005f005f5f7e1300151579157a155d1300151579157a155d785d5d1300151579157a155d02005d5d7a13157a15791579155b0258005b02005b5b5b5b, 0x12a615fac805f005f5f5f]))
def jG0_nf4b : List Nat := jG0_nf4b_0 ++ [93, 21, 19, 23, 97]
def brX0 : Nat → List Nat := nthL [jG0_lis, jG0_k1 ++ [3], jG0_k1u ++ [3], jG0_s2 ++ [4], jG0_s3 ++ [5], jG0_nf4 ++ [14], jG0_us4 ++ [10], jG0_gd4 ++ [12], [127, 127], jG0_nf5, [127, 127], jG0_us5, jG0_gd5, [127, 127], jG0_nf4b ++ [8]]
def jG1_seg0_0 : List Nat := z64
def jG1_seg0_1 : List Nat := dec [0x1010c000300030378]
def jG1_seg0 : List Nat := jG1_seg0_0 ++ jG1_seg0_1
def jG1_end : List Nat := dec [0x1002d25252500250025]
def jG1_lis_0 : List Nat := (z31 ++ (dec [0x12b2b2b02002b2b2b2b2b2b2b2b] ++ (z142 ++ dec [0x1002d])))
def jG1_lis_1 : List Nat := dec [0x12f1f421f001f1f2b2b19001b1b791b7a1b2b2b]
def jG1_lis_2 : List Nat := dec [0x148]
def jG1_lis : List Nat := jG1_lis_0 ++ jG1_lis_1 ++ jG1_lis_2 ++ [1, 3, 5, 7, 9, 11, 13, 15, 17, 19, 21, 23, 25, 27, 29, 31, 33, 35, 37, 39, 41, 47]
def jG1_k1_0 : List Nat := (dec [0x1005800] ++ z33)
def jG1_k1 : List Nat := jG1_k1_0 ++ [47, 49, 7, 13, 51]
def jG1_k1u_0 : List Nat := (dec [0x1022104210021210b03025800] ++ z33)
def jG1_k1u : List Nat := jG1_k1u_0 ++ [47, 49, 7, 13, 51]
def jG1_s2_0 : List Nat := dec [0x1303520350031003131033333330303]
def jG1_s2 : List Nat := jG1_s2_0 ++ [49, 53, 55, 9, 35, 57]
def jG1_s3_0 : List Nat := dec [0x1363b203b0037003737033939390303]
def jG1_s3 : List Nat := jG1_s3_0 ++ [55, 59, 61, 11, 33, 63]
def jG1_nf4_0 : List Nat := (dec [0x10303] ++ (z20 ++ dec [0x14f4e4f004f02]))
def jG1_nf4 : List Nat := jG1_nf4_0
def jG1_us4_0 : List Nat := (dec [0x13f3f0303] ++ (z20 ++ dec [0x11e]))
def jG1_us4 : List Nat := jG1_us4_0 ++ [75, 17, 15, 21, 19, 23, 27, 25, 29, 31, 79]
def jG1_gd4_0 : List Nat := (dec [0x1795e00430200434343437a0f117a11791179110500413d283d003d413d033f3f3f0303] ++ (z76 ++ (dec [0x100] ++ (z76 ++ dec [0x11e4745ac80450045454500450045457f]))))
def jG1_gd4 : List Nat := jG1_gd4_0 ++ [67, 17, 15, 21, 19, 23, 27, 25, 29, 31, 71]
def jG1_nf5_0 : List Nat := (dec [0x151510061615b5b5b03474749494b4b515153535b5353005b005b5b005b5b5f5f5f5b005b7b5b005b785b7c5b5d5d02005d5d5d5d7f5b005b7a7f7f7f, 0x15b79470069695b5b5b476767675b67675b5b5b496565655b49490065655b4b655b4b4b0265655b5b5b5b4b6363635b4b4b0063635b5b5b516161615b, 0x169695b78] ++ z34)
def jG1_nf5_1 : List Nat := dec [0x124000978]
def jG1_nf5_2 : List Nat := (dec [0x16d6b2e6b006b6d6b] ++ z44)
def jG1_nf5 : List Nat := jG1_nf5_0 ++ [23] ++ jG1_nf5_1 ++ [35] ++ jG1_nf5_2 ++ [1, 3, 5, 7, 9, 11, 13, 15, 17, 19, 21, 23, 25, 27, 29, 31, 33, 35, 37, 39, 41]
def jG1_us5_0 : List Nat := (dec [0x159595953494900595953535303474749494b4b534b4b00530053530053535757575300537b53005378537c5355550200555555557f5300537a7f7f7f, 0x15d5d5378537947005d5d535353475b5b5b535b5b53535349] ++ z34)
def jG1_us5_1 : List Nat := dec [0x124000978]
def jG1_us5_2 : List Nat := (dec [0x1615f2e5f005f615f] ++ z44)
def jG1_us5 : List Nat := jG1_us5_0 ++ [23] ++ jG1_us5_1 ++ [35] ++ jG1_us5_2 ++ [1, 3, 5, 7, 9, 11, 13, 15, 17, 19, 21, 23, 25, 27, 29, 31, 33, 35, 37, 39, 41]
def jG1_gd5_0 : List Nat := (dec [0x13d003d003d3d3d03230a23003d003d003d3d3d032323232309005e003d003d003d3d3d03] ++ z41)
def jG1_gd5_1 : List Nat := dec [0x124000978]
def jG1_gd5_2 : List Nat := (dec [0x14b492e4900494b49] ++ z44)
def jG1_gd5 : List Nat := jG1_gd5_0 ++ [23] ++ jG1_gd5_1 ++ [35] ++ jG1_gd5_2 ++ [1, 3, 5, 7, 9, 11, 13, 15, 17, 19, 21, 23, 25, 27, 29, 31, 33, 35, 37, 39, 41]
def jG1_nf4b_0 : List Nat := (dec [0x14b4b4b] ++ (z75 ++ dec [0x100550055557e1300151579157a15531300151579157a15537853531300151579157a1553020053537a13157a15791579155102580051020051515151, 0x12a5755ac805500555555]))
def jG1_nf4b : List Nat := jG1_nf4b_0 ++ [83, 21, 19, 23, 87]
def brX1 : Nat → List Nat := nthL [jG1_lis, jG1_k1 ++ [3], jG1_k1u ++ [3], jG1_s2 ++ [4], jG1_s3 ++ [5], jG1_nf4 ++ [14], jG1_us4 ++ [10], jG1_gd4 ++ [12], [127, 127], jG1_nf5, [127, 127], jG1_us5, jG1_gd5, [127, 127], jG1_nf4b ++ [8]]
def sRow : Str := ⟨#[114, 111, 119]⟩
def sFree : Str := ⟨#[102, 114, 101, 101]⟩
def sGood : Str := ⟨#[103, 111, 111, 100]⟩
def sSockets : Str := ⟨#[115, 111, 99, 107, 101, 116, 115]⟩
structure GA where
 la : Nat
 f : Nat
 cs : Nat
 cf : Nat
 chd : Nat
 cus : Nat
 cm : Nat
 ul : Nat
 hl : Nat
 it : Nat
 fa : Nat
 m : Int
 tm : Nat
structure GX where
 h : Nat → Int
 k : Nat → Nat
 ep : Nat
 vt : Value
 vp : Value
 vr : Value
 vf : Value
 vg : Value
def envG (P : Params) (x : GA) : Env := ⟨(fnD P 1696).scope, x.f, (fnD P 1696).globals, [(sSockets, x.cs), (sFol, x.cf), (sHeld, x.chd), (sUsed, x.cus), (sMany, x.cm)], qualD P 1696, some 1696, (fnD P 1696).code, some x.f, (fnD P 1696).builtins⟩
def codeG (P : Params) (x : GA) : Code := .forLoop (foG P).t (.ref x.it) (foG P).b (foG P).o (envG P x)
structure GS where
 c1 : List Stmt
 q1 : Pos
 b : List Stmt
 e : EnvV
 p1 : Pos
 p2 : Pos
def ΓG (P : Params) (x : GA) (z : GS) : PySem.Ctx := ⟨codeG P x, none, none, [(.func z.c1 (envG P x), z.q1), (.func z.b (envL z.e x.fa), z.p1), (.builtin "claim.caller" {}, z.p2)], none⟩
def ceG (P : Params) (f : Nat) (sc : Scope) : CE := ⟨sc.isGenerator, sc.isCoroutine, sc.more, (fnD P 1696).globals, qualD P 1696, none, (fnD P 1696).code, some f, (fnD P 1696).builtins⟩
def frL (s : Nat) (x : GA) (y : GX) : List DictEntry := Nat.rec [entE (y.h 0) sSource (y.k 0) (.ref x.la)] (fun n _ => Nat.rec [entE (y.h 0) sSource (y.k 0) (.ref x.la), entE (y.h 1) sTurn (y.k 1) y.vt, entE (y.h 2) sPort (y.k 2) y.vp] (fun _ _ => [entE (y.h 0) sSource (y.k 0) (.ref x.la), entE (y.h 1) sTurn (y.k 1) y.vt, entE (y.h 2) sPort (y.k 2) y.vp, entE (y.h 3) sRow (y.k 3) y.vr, entE (y.h 4) sFree (y.k 4) y.vf, entE (y.h 5) sGood (y.k 5) y.vg]) n) s
def frG (s : Nat) (x : GA) (y : GX) (sl : Array (Option Value)) : Obj := { cls := .type "frame", dict := none, data := .dict ⟨frL s x y⟩ y.ep, slots := sl }
def selG {α : Type} (i : Nat) (a b c d e f : α) : α := match i with
 | 0 => a
 | 1 => b
 | 2 => c
 | 3 => d
 | 4 => e
 | _ => f
def gxL (w : World) (s : Nat) (y : GX) (t0 t1 : Nat) (vt vp : Value) : GX := Nat.rec ⟨fun i => selG i (y.h 0) (hashS w sTurn) (hashS w sPort) 0 0 0, fun i => selG i (y.k 0) (t0 + 2) (t1 + 2) 0 0 0, y.ep + 2, vt, vp, .none, .none, .none⟩ (fun _ _ => ⟨y.h, y.k, y.ep, vt, vp, y.vr, y.vf, y.vg⟩) s
def gxF (w : World) (s : Nat) (y : GX) (t0 t1 t3 t4 t5 : Nat) (vt vp vr vf vg : Value) : GX := Nat.rec ⟨fun i => selG i (y.h 0) (hashS w sTurn) (hashS w sPort) (hashS w sRow) (hashS w sFree) (hashS w sGood), fun i => selG i (y.k 0) (t0 + 2) (t1 + 2) (t3 + 1) (t4 + 1) (t5 + 1), y.ep + 5, vt, vp, vr, vf, vg⟩
 (fun n _ => Nat.rec ⟨fun i => selG i (y.h 0) (y.h 1) (y.h 2) (hashS w sRow) (hashS w sFree) (hashS w sGood), fun i => selG i (y.k 0) (y.k 1) (y.k 2) (t3 + 1) (t4 + 1) (t5 + 1), y.ep + 3, vt, vp, vr, vf, vg⟩ (fun _ _ => ⟨y.h, y.k, y.ep, vt, vp, vr, vf, vg⟩) n) s
def upS (s : Nat) : Nat := Nat.rec 1 (fun n _ => n + 1) s
structure XQ where
 k0 : Nat
 k1 : Nat
 k2 : Nat
 r0 : Nat
 r1 : Nat
 r2 : Nat
 r3 : Nat
 r4 : Nat
 n : Nat
 k3 : Nat
def codeX (x : XQ) : Obj := { cls := .type "code", dict := none, data := .fields #[.str ⟨#[60, 108, 97, 109, 98, 100, 97, 62]⟩ x.k0, .str ⟨#[95, 108, 97, 119, 95, 112, 111, 114, 116, 115, 95, 114, 105, 103, 104, 116, 46, 60, 108, 111, 99, 97, 108, 115, 62, 46, 60, 108, 97, 109, 98, 100, 97, 62]⟩ x.k1, .str ⟨#[47, 99, 108, 97, 105, 109, 47, 99, 117, 116, 46, 112, 121]⟩ x.k2, .int 1218 0, .int 0 0, .int 0 0, .int 0 0, .int 19 0, .ref x.r0, .bool true, .int 181 0, .ref x.r1, .none, .ref x.r2, .ref x.r3, .ref x.r4, .int (Int.ofNat x.n) 0, .int 1218 0, .str ⟨#[47, 99, 108, 97, 105, 109, 47, 99, 117, 116, 46, 112, 121]⟩ x.k3], slots := #[] }
def tabX (a : Nat) : Array Value := #[.int 1218 0, .int 43 0, .ref a]
def rdyG (x : GA) : Array (Option Value) := #[some (.ref 1695), some (.ref 3), none, some (.ref x.fa), none, some (.ref 1696), some (.ref 0), some (.ref x.cs), some (.ref x.cf), some (.ref x.chd), some (.ref x.cus), some (.ref x.cm)]
abbrev numP (r1 : Int) (t1 : Nat) : Value := .int (29 + r1) (t1 + 1)
def xqN (N t : Nat) : XQ := ⟨t + 2, t + 3, t + 4, N + 1723 + 2, N + 1723 + 3, N + 1723 + 4, N + 1723 + 5, N + 1723 + 6, t + 6, t + 7⟩
section
variable (w : World) (N t0 ept epl e1 e2 epf : Nat) (ga : GA) (gx : GX) (kf : KF) (xp : PF) (z : GS) (F v : Int) (tF : Nat) (G : Int) (tG : Nat) (xa : Nat) (xq : XQ) (sq left : Nat) (s0 : Int) (u0 : Nat) (s1 : Int) (u1 : Nat) (es : Array DictEntry) (xs : XS) (us hs : Array Value) (esF : Array DictEntry) (slf sla : Array (Option Value)) (h : Heap) (d : Drawn) (os : OsState) (X : Nat → Option Obj) (p : Pos) (v1 v2 v3 : Array Value) (I J : IX) (KV : KVT) (PR : OL → Code → Prop) (PostR : Nat → OL → YR → Prop) (PO : XT → OL → Code → Prop) (PostO : Nat → OL → Code → YOw → Prop) (PS : OL → Code → Prop) (PostS : OL → YSt → Prop) (PN : XT → OL → Code → Prop) (PostN : Nat → OL → Code → YN2 → Prop) (PF' : OL → Code → Prop) (PostF : Nat → OL → YO → Prop) (PG : OL → Code → Prop) (PostG : Nat → OL → YO → Prop)
abbrev olG (src fr : Obj) (fol : Value) (pdo tdo ldo ulo hlo rg fao : Obj) : OL := [(ga.la, src), (ga.f, fr), (ga.cs, cellO (.ref kf.so)), (ga.cf, cellO fol), (ga.chd, cellO (.ref ga.hl)), (ga.cus, cellO (.ref ga.ul)), (ga.cm, cellO (.int ga.m ga.tm)), (kf.sd, kf.dct xp.po), (kf.so, kf.obj), (xp.pd, pdo), (xp.po, xp.obj), (xp.td, tdo), (kf.tbd, tdcO kf.h0 kf.k0 (kf.cd + 1723) kf.h1 kf.k1 (kf.ld + 1723) kf.epd), (kf.tb, tblO kf.tbd), (kf.cd + 1723, dictO #[] 0), (kf.ld + 1723, ldo), (ga.ul, ulo), (ga.hl, hlo), (ga.it, rg), (ga.fa, fao)]
abbrev hksG0 : List HB := [hkTakeA, hkTakeX 3 brX0, hkB ⟨5, 1, YR, PR, resR, outR, PostR⟩ brX0, hkTX X 20 0 I, hkBX X ⟨11, 2, YOw, spO, PO, resOw, outOw xp es, PostO⟩ brX0, hkN ⟨1, YSt, PS, fun y => lstE ⟨y.L⟩ y.ep, PostS⟩, hkBX X ⟨5, 2, YN2, spN, PN, resNf, outNf, PostN⟩ brX0, hkB ⟨6, 1, YO, PF', resO, outFr, PostF⟩ brX0, hkB ⟨6, 3, YO, PG, resO, outGo, PostG⟩ brX0, hkFIn X, hkFSet X, hkTXf X 20 1 I, hkNextRg 1 brX0, hkTX X 21 0 J]
abbrev hksG1 : List HB := [hkTakeA, hkTakeX 3 brX1, hkB ⟨5, 1, YR, PR, resR, outR, PostR⟩ brX1, hkTX X 21 0 I, hkBX X ⟨11, 2, YOw, spO, PO, resOw, outOw xp es, PostO⟩ brX1, hkN ⟨1, YSt, PS, fun y => lstE ⟨y.L⟩ y.ep, PostS⟩, hkBX X ⟨5, 2, YN2, spN, PN, resNf, outNf, PostN⟩ brX1, hkB ⟨6, 1, YO, PF', resO, outFr, PostF⟩ brX1, hkB ⟨6, 3, YO, PG, resO, outGo, PostG⟩ brX1, hkFIn X, hkFSet X, hkTXf X 21 1 I, hkNextRg 1 brX1]
abbrev simG0 (b1 b2 : Bool) (s : Nat) (left : Int) (js : List Nat) : Prop := simG (VX (wF w b1 b2) h d os X) (HH3 (hkOf (hksG0 xp es X I J PR PostR PO PostO PS PostS PN PostN PF' PostF PG PostG))) (KFv 20 KV) 3000 (ΓG w.params ga z) p .base (denF (codeG w.params ga)) (listT (olG ga kf xp (srcE s0 u0 s1 u1 0) (frG s ga gx #[]) (.int G tG) (xp.dct (.int F tF)) (dictO es ept) (dictO (esX xs) epl) (lstE us e1) (lstE hs e2) (rngO v left) (frO esF epf #[]))) 20 (N + 1723) 0 (t0 + 1) 0 (chL #[] v2 v3) js [] True
abbrev simG1 (b1 b2 : Bool) (s : Nat) (left : Int) (js : List Nat) : Prop := simG (VX (wF w b1 b2) h d os X) (HH3 (hkOf (hksG1 xp es X I PR PostR PO PostO PS PostS PN PostN PF' PostF PG PostG))) (KFv 21 KV) 3000 (ΓG w.params ga z) p .base (denF (codeG w.params ga)) (listT (olG ga kf xp (srcE s0 u0 s1 u1 0) (frG s ga gx (rdyG ga)) (.int G tG) (xp.dct (.int F tF)) (dictO es ept) (dictO (esX xs) epl) (lstE us e1) (lstE hs e2) (rngO v left) (frO esF epf (rdyS z.e)) ++ [(xa, codeX xq)])) 21 (N + 1723) 0 (t0 + 1) 0 (chL (tabX xa) v2 v3) js [] True
abbrev AG0 (l : List (Nat × Nat)) : Nat → Nat := AO [ga.la, ga.f, ga.cs, ga.cf, ga.chd, ga.cus, ga.cm, kf.sd, kf.so, xp.pd, xp.po, xp.td, kf.tbd, kf.tb, kf.cd + 1723, kf.ld + 1723, ga.ul, ga.hl, ga.it, ga.fa] l
abbrev AG1 (l : List (Nat × Nat)) : Nat → Nat := AO [ga.la, ga.f, ga.cs, ga.cf, ga.chd, ga.cus, ga.cm, kf.sd, kf.so, xp.pd, xp.po, xp.td, kf.tbd, kf.tb, kf.cd + 1723, kf.ld + 1723, ga.ul, ga.hl, ga.it, ga.fa, xa] l
abbrev pN_0 (r1 : Int) (N1 t1 N2 t2 N3 t3 N4 t4 N5 t5 : Nat) (sb0 : Int) (ub0 : Nat) (sb1 : Int) (ub1 : Nat) : Prop := okAcc (accL (AG0 ga kf xp [(31, N5 + 1723), (28, N4 + 1723), (25, N3 + 1723), (20, N2 + 1723), (20, N1 + 1723), (20, N + 1723)]) jG0_nf4_0 []) ∧ (((0 : Int) = 0 ∧ (1 : Int) = 1 ∧ chkRg (xp.last - xp.first + 1) = true) ∧ (((0 : Int) != 0) = false ∧ (chkEq #[] #[] true = true ∧ True))) ∧ (0 < (xp.last - xp.first + 1) ∧ (False ∨ (okAcc (accL (AG0 ga kf xp [(31, N5 + 1723), (28, N4 + 1723), (25, N3 + 1723), (20, N2 + 1723), (20, N1 + 1723), (20, N + 1723)]) jG0_nf4b_0 []) ∧ (((0 : Int) = 0 ∧ (1 : Int) = 1 ∧ chkRg (xp.last - xp.first + 1) = true) ∧ (((0 : Int) == 0) = true ∧ True)) ∧ (PN X (olN (N5 + 1723 + 15) (N5 + 1723 + 17) xp (frNf false ⟨hashS w sSelf, t5 + 30, hashS w sNumber, t5 + 32, 0, 0, 2⟩ xp.po (.int F tF) .none) (xp.dct (.int F tF)) es ept (rngO 0 (xp.last - xp.first + 1))) (codeN w.params (N5 + 1723 + 15) (N5 + 1723 + 17)) ∧ ((True ∧ ∀ (y4 : YN2) (N6 t6 : Nat), PostN 0 (olN (N5 + 1723 + 15) (N5 + 1723 + 17) xp (frNf false ⟨hashS w sSelf, t5 + 30, hashS w sNumber, t5 + 32, 0, 0, 2⟩ xp.po (.int F tF) .none) (xp.dct (.int F tF)) es ept (rngO 0 (xp.last - xp.first + 1))) (codeN w.params (N5 + 1723 + 15) (N5 + 1723 + 17)) y4 → Halt 6 (N5 + 1723 + 14)) ∧ ∀ (y4 : YN2) (N6 t6 : Nat), PostN 1 (olN (N5 + 1723 + 15) (N5 + 1723 + 17) xp (frNf false ⟨hashS w sSelf, t5 + 30, hashS w sNumber, t5 + 32, 0, 0, 2⟩ xp.po (.int F tF) .none) (xp.dct (.int F tF)) es ept (rngO 0 (xp.last - xp.first + 1))) (codeN w.params (N5 + 1723 + 15) (N5 + 1723 + 17)) y4 → (okAcc (accL (AG0 ga kf xp [(49, N6 + 1723), (31, N5 + 1723), (28, N4 + 1723), (25, N3 + 1723), (20, N2 + 1723), (20, N1 + 1723), (20, N + 1723)]) jG0_nf5_0 []) ∧ True ∧ (PS [(xp.td, (dictO es ept))] (cSrt xp.td) ∧ ∀ (ya : YSt) (Na ta : Nat) (aa : Addr), PostS [(xp.td, (dictO es ept))] ya → (okAcc (accL (AG0 ga kf xp [(59, Na + 1723), (58, aa), (49, N6 + 1723), (31, N5 + 1723), (28, N4 + 1723), (25, N3 + 1723), (20, N2 + 1723), (20, N1 + 1723), (20, N + 1723)]) jG0_nf5_1 []) ∧ True ∧ (PS [(ga.hl, (lstE hs e2))] (cSrt ga.hl) ∧ ∀ (yb : YSt) (Nb tb : Nat) (ab : Addr), PostS [(ga.hl, (lstE hs e2))] yb → (okAcc (accL (AG0 ga kf xp [(60, Nb + 1723), (59, ab), (59, Na + 1723), (58, aa), (49, N6 + 1723), (31, N5 + 1723), (28, N4 + 1723), (25, N3 + 1723), (20, N2 + 1723), (20, N1 + 1723), (20, N + 1723)]) jG0_nf5_2 []) ∧ ((F != F) = false ∧ (chkEq ⟨ya.L⟩ ⟨yb.L⟩ true = true ∧ True)) ∧ J (exL X []) (olG ga kf xp (srcE sb0 ub0 sb1 ub1 0) (frG 2 ga (gxF w sq gx t0 t1 t3 t4 t5 (.int v (t0 + 1)) (numP r1 t1) (.ref (N2 + 1723 + 3)) (.ref (N3 + 1723 + 1)) (.ref (N4 + 1723 + 1))) (rdyG ga)) (.int F tF) (xp.dct (.int F tF)) (dictO es ept) (dictO (esX xs) epl) (lstE us e1) (lstE hs e2) (rngO (v + 1) (Int.ofNat (left + 1) - 1)) (frO esF epf (rdyS z.e)) ++ [(N5 + 1723 + 7, codeX (xqN N5 t5))]) (ΓG w.params ga z) (chL (tabX (N5 + 1723 + 7)) v2 v3) (Fx 20 [] KV)))))))))))
abbrev pU_0 (r1 : Int) (N1 t1 N2 t2 N3 t3 N4 t4 N5 t5 : Nat) (sb0 : Int) (ub0 : Nat) (sb1 : Int) (ub1 : Nat) : Prop := okAcc (accL (AG0 ga kf xp [(31, N5 + 1723), (28, N4 + 1723), (25, N3 + 1723), (20, N2 + 1723), (20, N1 + 1723), (20, N + 1723)]) jG0_us4_0 []) ∧ (((0 : Int) = 0 ∧ (1 : Int) = 1 ∧ chkRg (xp.last - xp.first + 1) = true) ∧ (((0 : Int) != 0) = false ∧ (chkEq #[] #[] true = true ∧ True))) ∧ (PO X (olO10 (N5 + 1723 + 11) kf xp (frOb kf ⟨hashS w sSelf, t5 + 11, hashS w sLocal, t5 + 12, .int 0 (t5 + 10), 0, 0, 0, 0, 2⟩ .none .none false) (xp.dct (.int F tF)) (dictO es ept) (esX xs) epl ++ [((N5 + 1723 + 13), rngO 0 (xp.last - xp.first + 1))]) (codeO w.params (N5 + 1723 + 11) (N5 + 1723 + 13)) ∧ ((True ∧ ∀ (y4 : YOw) (N6 t6 : Nat), PostO 0 (olO10 (N5 + 1723 + 11) kf xp (frOb kf ⟨hashS w sSelf, t5 + 11, hashS w sLocal, t5 + 12, .int 0 (t5 + 10), 0, 0, 0, 0, 2⟩ .none .none false) (xp.dct (.int F tF)) (dictO es ept) (esX xs) epl ++ [((N5 + 1723 + 13), rngO 0 (xp.last - xp.first + 1))]) (codeO w.params (N5 + 1723 + 11) (N5 + 1723 + 13)) y4 → (okAcc [] ∧ True ∧ KV (.ok (.ret (.bool false))) ((olG ga kf xp (srcE sb0 ub0 sb1 ub1 0) (frG 2 ga (gxF w sq gx t0 t1 t3 t4 t5 (.int v (t0 + 1)) (numP r1 t1) (.ref (N2 + 1723 + 3)) (.ref (N3 + 1723 + 1)) (.ref (N4 + 1723 + 1))) #[]) (.int G tG) (xp.dct (.int y4.fo y4.tf)) (dictO (es.push (takE y4.u y4.tu)) y4.e') (dictO (esX xs) epl) (lstE us e1) (lstE hs e2) (rngO (v + 1) (Int.ofNat (left + 1) - 1)) (frO esF epf #[])).map some) (N6 + 1723) 0 (t6 + 1) 0 (chL (tabX (N5 + 1723 + 7)) v2 v3))) ∧ ∀ (y4 : YOw) (N6 t6 : Nat), PostO 1 (olO10 (N5 + 1723 + 11) kf xp (frOb kf ⟨hashS w sSelf, t5 + 11, hashS w sLocal, t5 + 12, .int 0 (t5 + 10), 0, 0, 0, 0, 2⟩ .none .none false) (xp.dct (.int F tF)) (dictO es ept) (esX xs) epl ++ [((N5 + 1723 + 13), rngO 0 (xp.last - xp.first + 1))]) (codeO w.params (N5 + 1723 + 11) (N5 + 1723 + 13)) y4 → (okAcc (accL (AG0 ga kf xp [(45, N6 + 1723), (31, N5 + 1723), (28, N4 + 1723), (25, N3 + 1723), (20, N2 + 1723), (20, N1 + 1723), (20, N + 1723)]) jG0_us5_0 []) ∧ True ∧ (PS [(xp.td, (dictO es y4.e'))] (cSrt xp.td) ∧ ∀ (ya : YSt) (Na ta : Nat) (aa : Addr), PostS [(xp.td, (dictO es y4.e'))] ya → (okAcc (accL (AG0 ga kf xp [(53, Na + 1723), (52, aa), (45, N6 + 1723), (31, N5 + 1723), (28, N4 + 1723), (25, N3 + 1723), (20, N2 + 1723), (20, N1 + 1723), (20, N + 1723)]) jG0_us5_1 []) ∧ True ∧ (PS [(ga.hl, (lstE hs e2))] (cSrt ga.hl) ∧ ∀ (yb : YSt) (Nb tb : Nat) (ab : Addr), PostS [(ga.hl, (lstE hs e2))] yb → (okAcc (accL (AG0 ga kf xp [(54, Nb + 1723), (53, ab), (53, Na + 1723), (52, aa), (45, N6 + 1723), (31, N5 + 1723), (28, N4 + 1723), (25, N3 + 1723), (20, N2 + 1723), (20, N1 + 1723), (20, N + 1723)]) jG0_us5_2 []) ∧ ((y4.fo != y4.fo) = false ∧ (chkEq ⟨ya.L⟩ ⟨yb.L⟩ true = true ∧ True)) ∧ J (exL X []) (olG ga kf xp (srcE sb0 ub0 sb1 ub1 0) (frG 2 ga (gxF w sq gx t0 t1 t3 t4 t5 (.int v (t0 + 1)) (numP r1 t1) (.ref (N2 + 1723 + 3)) (.ref (N3 + 1723 + 1)) (.ref (N4 + 1723 + 1))) (rdyG ga)) (.int y4.fo y4.tf) (xp.dct (.int y4.fo y4.tf)) (dictO es y4.e') (dictO (esX xs) epl) (lstE us e1) (lstE hs e2) (rngO (v + 1) (Int.ofNat (left + 1) - 1)) (frO esF epf (rdyS z.e)) ++ [(N5 + 1723 + 7, codeX (xqN N5 t5))]) (ΓG w.params ga z) (chL (tabX (N5 + 1723 + 7)) v2 v3) (Fx 20 [] KV))))))))
abbrev pH_0 (r1 : Int) (N1 t1 N2 t2 N3 t3 N4 t4 N5 t5 : Nat) (sb0 : Int) (ub0 : Nat) (sb1 : Int) (ub1 : Nat) (y3 : YO) : Prop := okAcc (accL (AG0 ga kf xp [(31, N5 + 1723), (28, N4 + 1723), (25, N3 + 1723), (20, N2 + 1723), (20, N1 + 1723), (20, N + 1723)]) jG0_gd4_0 []) ∧ (((0 : Int) = 0 ∧ (1 : Int) = 1 ∧ chkRg (xp.last - xp.first + 1) = true) ∧ (((0 : Int) != 0) = false ∧ (chkEq ⟨.int y3.g y3.tg :: y3.L⟩ #[] false = true ∧ True))) ∧ (PO X (olO10 (N5 + 1723 + 1) kf xp (frOb kf ⟨hashS w sSelf, t5 + 3, hashS w sLocal, t5 + 4, .int 0 (t5 + 2), 0, 0, 0, 0, 2⟩ .none .none false) (xp.dct (.int F tF)) (dictO es ept) (esX xs) epl ++ [((N5 + 1723 + 3), rngO 0 (xp.last - xp.first + 1))]) (codeO w.params (N5 + 1723 + 1) (N5 + 1723 + 3)) ∧ ((True ∧ ∀ (y4 : YOw) (N6 t6 : Nat), PostO 0 (olO10 (N5 + 1723 + 1) kf xp (frOb kf ⟨hashS w sSelf, t5 + 3, hashS w sLocal, t5 + 4, .int 0 (t5 + 2), 0, 0, 0, 0, 2⟩ .none .none false) (xp.dct (.int F tF)) (dictO es ept) (esX xs) epl ++ [((N5 + 1723 + 3), rngO 0 (xp.last - xp.first + 1))]) (codeO w.params (N5 + 1723 + 1) (N5 + 1723 + 3)) y4 → (okAcc (accL (AG0 ga kf xp [(35, N6 + 1723), (31, N5 + 1723), (28, N4 + 1723), (25, N3 + 1723), (20, N2 + 1723), (20, N1 + 1723), (20, N + 1723)]) jG0_gd5_0 []) ∧ (chk0 ga.m = true ∧ (chkLe hs.size = true ∧ ((y4.u != y3.g) = false ∧ True))) ∧ (PS [(xp.td, (dictO (es.push (takE y4.u y4.tu)) y4.e'))] (cSrt xp.td) ∧ ∀ (ya : YSt) (Na ta : Nat) (aa : Addr), PostS [(xp.td, (dictO (es.push (takE y4.u y4.tu)) y4.e'))] ya → (okAcc (accL (AG0 ga kf xp [(36, Na + 1723), (35, aa), (35, N6 + 1723), (31, N5 + 1723), (28, N4 + 1723), (25, N3 + 1723), (20, N2 + 1723), (20, N1 + 1723), (20, N + 1723)]) jG0_gd5_1 []) ∧ True ∧ (PS [(ga.hl, (pushO (.int y3.g y3.tg) (lstE hs e2)))] (cSrt ga.hl) ∧ ∀ (yb : YSt) (Nb tb : Nat) (ab : Addr), PostS [(ga.hl, (pushO (.int y3.g y3.tg) (lstE hs e2)))] yb → (okAcc (accL (AG0 ga kf xp [(37, Nb + 1723), (36, ab), (36, Na + 1723), (35, aa), (35, N6 + 1723), (31, N5 + 1723), (28, N4 + 1723), (25, N3 + 1723), (20, N2 + 1723), (20, N1 + 1723), (20, N + 1723)]) jG0_gd5_2 []) ∧ ((y4.fo != (30 + (y3.g - 29).fmod ga.m)) = false ∧ (chkEq ⟨ya.L⟩ ⟨yb.L⟩ true = true ∧ True)) ∧ I (exL X []) (olG ga kf xp (srcE sb0 ub0 sb1 ub1 0) (frG 2 ga (gxF w sq gx t0 t1 t3 t4 t5 (.int v (t0 + 1)) (numP r1 t1) (.ref (N2 + 1723 + 3)) (.ref (N3 + 1723 + 1)) (.ref (N4 + 1723 + 1))) #[]) (.int (30 + (y3.g - 29).fmod ga.m) (t6 + 8)) (xp.dct (.int y4.fo y4.tf)) (dictO (es.push (takE y4.u y4.tu)) y4.e') (dictO (esX xs) epl) (lstE us e1) (pushO (.int y3.g y3.tg) (lstE hs e2)) (rngO (v + 1) (Int.ofNat (left + 1) - 1)) (frO esF epf #[])) (ΓG w.params ga z) (chL #[] v2 v3) (Fx 20 [] KV))))))) ∧ ∀ (y4 : YOw) (N6 t6 : Nat), PostO 1 (olO10 (N5 + 1723 + 1) kf xp (frOb kf ⟨hashS w sSelf, t5 + 3, hashS w sLocal, t5 + 4, .int 0 (t5 + 2), 0, 0, 0, 0, 2⟩ .none .none false) (xp.dct (.int F tF)) (dictO es ept) (esX xs) epl ++ [((N5 + 1723 + 3), rngO 0 (xp.last - xp.first + 1))]) (codeO w.params (N5 + 1723 + 1) (N5 + 1723 + 3)) y4 → Halt 6 3))
abbrev pL_0 (r1 r2 : Int) (N1 t1 N2 t2 : Nat) (sb0 : Int) (ub0 : Nat) (sb1 : Int) (ub1 : Nat) : Prop := okAcc (accL (AG0 ga kf xp [(20, N2 + 1723), (20, N1 + 1723), (20, N + 1723)]) jG0_lis_0 []) ∧ (chkLe us.size = true ∧ (chkIn us (numP r1 t1) false = true ∧ ((r2 == 0) = true ∧ True))) ∧ ((∃ xs1, LisOk X (esX xs) xs1 ∧ (match idxH [0, 29 + r1] xs1 with | some _ => true | none => false) = false) ∧ (okAcc (accL (AG0 ga kf xp [(20, N2 + 1723), (20, N1 + 1723), (20, N + 1723)]) jG0_lis_1 []) ∧ True ∧ ((∃ xs1, LisOk X (esX xs) xs1 ∧ idxH [0, 29 + r1] xs1 = none) ∧ (okAcc (accL (AG0 ga kf xp [(20, N2 + 1723), (20, N1 + 1723), (20, N + 1723)]) jG0_lis_2 []) ∧ True ∧ ((X (N2 + 1723 + 2) = none ∧ True) → I (exL X [((N2 + 1723 + 2), tupO #[.int 0 (t2 + 3), (numP r1 t1)] 0)]) (olG ga kf xp (srcE sb0 ub0 sb1 ub1 0) (frG (upS sq) ga (gxL w sq gx t0 t1 (.int v (t0 + 1)) (numP r1 t1)) #[]) (.int G tG) (xp.dct (.int F tF)) (dictO es ept) (dictO ((esX xs).push ⟨tkH [0, 29 + r1], .ref (N2 + 1723 + 2), .int (90 + (29 + r1)) (t2 + 5)⟩) (epl + 1)) (pushO (numP r1 t1) (lstE us e1)) (lstE hs e2) (rngO (v + 1) (Int.ofNat (left + 1) - 1)) (frO esF epf #[])) (ΓG w.params ga z) (chL #[] v2 v3) (Fx 20 [((N2 + 1723 + 2), tupO #[.int 0 (t2 + 3), (numP r1 t1)] 0)] KV))))))
abbrev pK_0 (r1 r2 : Int) (N1 t1 N2 t2 : Nat) (sb0 : Int) (ub0 : Nat) (sb1 : Int) (ub1 : Nat) : Prop := ∀ _ : Pos, (okAcc (accL (AG0 ga kf xp [(20, N2 + 1723), (20, N1 + 1723), (20, N + 1723)]) jG0_k1_0 []) ∧ (((0 : Int) = 0 ∧ (1 : Int) = 1 ∧ chkRg ga.m = true) ∧ (((77 : Int) != 77) = false ∧ (((77 : Int) != 0) = true ∧ ((r2 == 0) = false ∧ True)))) ∧ (PR [((N2 + 1723 + 2), rngO 0 ga.m), ((N2 + 1723 + 3), lstE #[] 0), (ga.cf, cellO (.int G tG)), (ga.cm, cellO (.int ga.m ga.tm)), ((N2 + 1723 + 4), dictO #[] 0)] (cRow w.params (ceG w.params ga.f (scopeC (siteG w.params 0))) (N2 + 1723 + 2) (N2 + 1723 + 3) (N2 + 1723 + 4) ga.cf ga.cm) ∧ (True ∧ ∀ (y1 : YR) (N3 t3 : Nat), PostR 0 [((N2 + 1723 + 2), rngO 0 ga.m), ((N2 + 1723 + 3), lstE #[] 0), (ga.cf, cellO (.int G tG)), (ga.cm, cellO (.int ga.m ga.tm)), ((N2 + 1723 + 4), dictO #[] 0)] y1 → ∀ _ : Pos, (okAcc (accL (AG0 ga kf xp [(25, N3 + 1723), (20, N2 + 1723), (20, N1 + 1723), (20, N + 1723)]) jG0_s2_0 []) ∧ True ∧ (PF' [((N2 + 1723 + 3), lstE ⟨y1.L⟩ y1.ep2), ((N3 + 1723), iterO (N2 + 1723 + 3) 0), ((N3 + 1723 + 1), lstE #[] 0), (ga.chd, cellO (.ref ga.hl)), (ga.hl, lstE hs e2), ((N3 + 1723 + 2), dictO #[] 0)] (cNot (cpOf (siteG w.params 1)) false (ceG w.params ga.f (scopeC (siteG w.params 1))) (N3 + 1723) (N3 + 1723 + 1) (N3 + 1723 + 2) ga.chd) ∧ (True ∧ ∀ (y2 : YO) (N4 t4 : Nat), PostF 0 [((N2 + 1723 + 3), lstE ⟨y1.L⟩ y1.ep2), ((N3 + 1723), iterO (N2 + 1723 + 3) 0), ((N3 + 1723 + 1), lstE #[] 0), (ga.chd, cellO (.ref ga.hl)), (ga.hl, lstE hs e2), ((N3 + 1723 + 2), dictO #[] 0)] y2 → ∀ _ : Pos, (okAcc (accL (AG0 ga kf xp [(28, N4 + 1723), (25, N3 + 1723), (20, N2 + 1723), (20, N1 + 1723), (20, N + 1723)]) jG0_s3_0 []) ∧ True ∧ (PG [((N3 + 1723 + 1), lstE ⟨y2.L⟩ y2.ep2), ((N4 + 1723), iterO (N3 + 1723 + 1) 0), ((N4 + 1723 + 1), lstE #[] 0), (ga.cus, cellO (.ref ga.ul)), (ga.ul, lstE us e1), ((N4 + 1723 + 2), dictO #[] 0)] (cNot (cpOf (siteG w.params 2)) true (ceG w.params ga.f (scopeC (siteG w.params 2))) (N4 + 1723) (N4 + 1723 + 1) (N4 + 1723 + 2) ga.cus) ∧ (((True ∧ ∀ (y3 : YO) (N5 t5 : Nat), PostG 0 [((N3 + 1723 + 1), lstE ⟨y2.L⟩ y2.ep2), ((N4 + 1723), iterO (N3 + 1723 + 1) 0), ((N4 + 1723 + 1), lstE #[] 0), (ga.cus, cellO (.ref ga.ul)), (ga.ul, lstE us e1), ((N4 + 1723 + 2), dictO #[] 0)] y3 → (pN_0 w N t0 ept epl e1 e2 epf ga gx kf xp z F v tF sq left es xs us hs esF X v2 v3 J KV PS PostS PN PostN r1 N1 t1 N2 t2 N3 t3 N4 t4 N5 t5 sb0 ub0 sb1 ub1)) ∧ ∀ (y3 : YO) (N5 t5 : Nat), PostG 1 [((N3 + 1723 + 1), lstE ⟨y2.L⟩ y2.ep2), ((N4 + 1723), iterO (N3 + 1723 + 1) 0), ((N4 + 1723 + 1), lstE #[] 0), (ga.cus, cellO (.ref ga.ul)), (ga.ul, lstE us e1), ((N4 + 1723 + 2), dictO #[] 0)] y3 → (pU_0 w N t0 ept epl e1 e2 epf ga gx kf xp z F v tF G tG sq left es xs us hs esF X v2 v3 J KV PO PostO PS PostS r1 N1 t1 N2 t2 N3 t3 N4 t4 N5 t5 sb0 ub0 sb1 ub1)) ∧ ∀ (y3 : YO) (N5 t5 : Nat), PostG 2 [((N3 + 1723 + 1), lstE ⟨y2.L⟩ y2.ep2), ((N4 + 1723), iterO (N3 + 1723 + 1) 0), ((N4 + 1723 + 1), lstE #[] 0), (ga.cus, cellO (.ref ga.ul)), (ga.ul, lstE us e1), ((N4 + 1723 + 2), dictO #[] 0)] y3 → (pH_0 w N t0 ept epl e1 e2 epf ga gx kf xp z F v tF sq left es xs us hs esF X v2 v3 I KV PO PostO PS PostS r1 N1 t1 N2 t2 N3 t3 N4 t4 N5 t5 sb0 ub0 sb1 ub1 y3))))))))))
abbrev pW_0 (r1 r2 : Int) (N1 t1 N2 t2 : Nat) (sb0 : Int) (ub0 : Nat) (sb1 : Int) (ub1 : Nat) : Prop := ∀ _ : Pos, (okAcc (accL (AG0 ga kf xp [(20, N2 + 1723), (20, N1 + 1723), (20, N + 1723)]) jG0_k1u_0 []) ∧ (((0 : Int) = 0 ∧ (1 : Int) = 1 ∧ chkRg ga.m = true) ∧ (((77 : Int) != 77) = false ∧ (((77 : Int) != 0) = true ∧ (chkIn us (numP r1 t1) true = true ∧ ((r2 == 0) = true ∧ True))))) ∧ (PR [((N2 + 1723 + 2), rngO 0 ga.m), ((N2 + 1723 + 3), lstE #[] 0), (ga.cf, cellO (.int G tG)), (ga.cm, cellO (.int ga.m ga.tm)), ((N2 + 1723 + 4), dictO #[] 0)] (cRow w.params (ceG w.params ga.f (scopeC (siteG w.params 0))) (N2 + 1723 + 2) (N2 + 1723 + 3) (N2 + 1723 + 4) ga.cf ga.cm) ∧ (True ∧ ∀ (y1 : YR) (N3 t3 : Nat), PostR 0 [((N2 + 1723 + 2), rngO 0 ga.m), ((N2 + 1723 + 3), lstE #[] 0), (ga.cf, cellO (.int G tG)), (ga.cm, cellO (.int ga.m ga.tm)), ((N2 + 1723 + 4), dictO #[] 0)] y1 → ∀ _ : Pos, (okAcc (accL (AG0 ga kf xp [(25, N3 + 1723), (20, N2 + 1723), (20, N1 + 1723), (20, N + 1723)]) jG0_s2_0 []) ∧ True ∧ (PF' [((N2 + 1723 + 3), lstE ⟨y1.L⟩ y1.ep2), ((N3 + 1723), iterO (N2 + 1723 + 3) 0), ((N3 + 1723 + 1), lstE #[] 0), (ga.chd, cellO (.ref ga.hl)), (ga.hl, lstE hs e2), ((N3 + 1723 + 2), dictO #[] 0)] (cNot (cpOf (siteG w.params 1)) false (ceG w.params ga.f (scopeC (siteG w.params 1))) (N3 + 1723) (N3 + 1723 + 1) (N3 + 1723 + 2) ga.chd) ∧ (True ∧ ∀ (y2 : YO) (N4 t4 : Nat), PostF 0 [((N2 + 1723 + 3), lstE ⟨y1.L⟩ y1.ep2), ((N3 + 1723), iterO (N2 + 1723 + 3) 0), ((N3 + 1723 + 1), lstE #[] 0), (ga.chd, cellO (.ref ga.hl)), (ga.hl, lstE hs e2), ((N3 + 1723 + 2), dictO #[] 0)] y2 → ∀ _ : Pos, (okAcc (accL (AG0 ga kf xp [(28, N4 + 1723), (25, N3 + 1723), (20, N2 + 1723), (20, N1 + 1723), (20, N + 1723)]) jG0_s3_0 []) ∧ True ∧ (PG [((N3 + 1723 + 1), lstE ⟨y2.L⟩ y2.ep2), ((N4 + 1723), iterO (N3 + 1723 + 1) 0), ((N4 + 1723 + 1), lstE #[] 0), (ga.cus, cellO (.ref ga.ul)), (ga.ul, lstE us e1), ((N4 + 1723 + 2), dictO #[] 0)] (cNot (cpOf (siteG w.params 2)) true (ceG w.params ga.f (scopeC (siteG w.params 2))) (N4 + 1723) (N4 + 1723 + 1) (N4 + 1723 + 2) ga.cus) ∧ (((True ∧ ∀ (y3 : YO) (N5 t5 : Nat), PostG 0 [((N3 + 1723 + 1), lstE ⟨y2.L⟩ y2.ep2), ((N4 + 1723), iterO (N3 + 1723 + 1) 0), ((N4 + 1723 + 1), lstE #[] 0), (ga.cus, cellO (.ref ga.ul)), (ga.ul, lstE us e1), ((N4 + 1723 + 2), dictO #[] 0)] y3 → (pN_0 w N t0 ept epl e1 e2 epf ga gx kf xp z F v tF sq left es xs us hs esF X v2 v3 J KV PS PostS PN PostN r1 N1 t1 N2 t2 N3 t3 N4 t4 N5 t5 sb0 ub0 sb1 ub1)) ∧ ∀ (y3 : YO) (N5 t5 : Nat), PostG 1 [((N3 + 1723 + 1), lstE ⟨y2.L⟩ y2.ep2), ((N4 + 1723), iterO (N3 + 1723 + 1) 0), ((N4 + 1723 + 1), lstE #[] 0), (ga.cus, cellO (.ref ga.ul)), (ga.ul, lstE us e1), ((N4 + 1723 + 2), dictO #[] 0)] y3 → (pU_0 w N t0 ept epl e1 e2 epf ga gx kf xp z F v tF G tG sq left es xs us hs esF X v2 v3 J KV PO PostO PS PostS r1 N1 t1 N2 t2 N3 t3 N4 t4 N5 t5 sb0 ub0 sb1 ub1)) ∧ ∀ (y3 : YO) (N5 t5 : Nat), PostG 2 [((N3 + 1723 + 1), lstE ⟨y2.L⟩ y2.ep2), ((N4 + 1723), iterO (N3 + 1723 + 1) 0), ((N4 + 1723 + 1), lstE #[] 0), (ga.cus, cellO (.ref ga.ul)), (ga.ul, lstE us e1), ((N4 + 1723 + 2), dictO #[] 0)] y3 → (pH_0 w N t0 ept epl e1 e2 epf ga gx kf xp z F v tF sq left es xs us hs esF X v2 v3 I KV PO PostO PS PostS r1 N1 t1 N2 t2 N3 t3 N4 t4 N5 t5 sb0 ub0 sb1 ub1 y3))))))))))
abbrev rhsG_0 : Prop := okAcc (accL (AG0 ga kf xp [(20, N + 1723)]) jG0_seg0_0 []) ∧ True ∧ (Bd s0 s1 ∧ ∀ (r1 : Int) (uw N1 t1 : Nat) (sa0 : Int) (ua0 : Nat) (sa1 : Int) (ua1 : Nat), 0 ≤ r1 → r1 < 7 → Bd sa0 sa1 → (okAcc (accL (AG0 ga kf xp [(20, N1 + 1723), (20, N + 1723)]) jG0_seg0_1 []) ∧ True ∧ (Bd sa0 sa1 ∧ ∀ (r2 : Int) (uq N2 t2 : Nat) (sb0 : Int) (ub0 : Nat) (sb1 : Int) (ub1 : Nat), 0 ≤ r2 → r2 < 3 → Bd sb0 sb1 → (((False ∨ (pL_0 w N t0 ept epl e1 e2 epf ga gx kf xp z F v tF G tG sq left es xs us hs esF X v2 v3 I KV r1 r2 N1 t1 N2 t2 sb0 ub0 sb1 ub1)) ∨ (pK_0 w N t0 ept epl e1 e2 epf ga gx kf xp z F v tF G tG sq left es xs us hs esF X v2 v3 I J KV PR PostR PO PostO PS PostS PN PostN PF' PostF PG PostG r1 r2 N1 t1 N2 t2 sb0 ub0 sb1 ub1)) ∨ (pW_0 w N t0 ept epl e1 e2 epf ga gx kf xp z F v tF G tG sq left es xs us hs esF X v2 v3 I J KV PR PostR PO PostO PS PostS PN PostN PF' PostF PG PostG r1 r2 N1 t1 N2 t2 sb0 ub0 sb1 ub1)))))
abbrev pN_1 (r1 : Int) (N1 t1 N2 t2 N3 t3 N4 t4 N5 t5 : Nat) (sb0 : Int) (ub0 : Nat) (sb1 : Int) (ub1 : Nat) : Prop := okAcc (accL (AG1 ga kf xp xa [(32, N5 + 1723), (29, N4 + 1723), (26, N3 + 1723), (21, N2 + 1723), (21, N1 + 1723), (21, N + 1723)]) jG1_nf4_0 []) ∧ (((0 : Int) = 0 ∧ (1 : Int) = 1 ∧ chkRg (xp.last - xp.first + 1) = true) ∧ (((0 : Int) != 0) = false ∧ (chkEq #[] #[] true = true ∧ True))) ∧ (0 < (xp.last - xp.first + 1) ∧ (False ∨ (okAcc (accL (AG1 ga kf xp xa [(32, N5 + 1723), (29, N4 + 1723), (26, N3 + 1723), (21, N2 + 1723), (21, N1 + 1723), (21, N + 1723)]) jG1_nf4b_0 []) ∧ (((0 : Int) = 0 ∧ (1 : Int) = 1 ∧ chkRg (xp.last - xp.first + 1) = true) ∧ (((0 : Int) == 0) = true ∧ True)) ∧ (PN X (olN (N5 + 1723 + 9) (N5 + 1723 + 11) xp (frNf false ⟨hashS w sSelf, t5 + 24, hashS w sNumber, t5 + 26, 0, 0, 2⟩ xp.po (.int F tF) .none) (xp.dct (.int F tF)) es ept (rngO 0 (xp.last - xp.first + 1))) (codeN w.params (N5 + 1723 + 9) (N5 + 1723 + 11)) ∧ ((True ∧ ∀ (y4 : YN2) (N6 t6 : Nat), PostN 0 (olN (N5 + 1723 + 9) (N5 + 1723 + 11) xp (frNf false ⟨hashS w sSelf, t5 + 24, hashS w sNumber, t5 + 26, 0, 0, 2⟩ xp.po (.int F tF) .none) (xp.dct (.int F tF)) es ept (rngO 0 (xp.last - xp.first + 1))) (codeN w.params (N5 + 1723 + 9) (N5 + 1723 + 11)) y4 → Halt 6 (N5 + 1723 + 8)) ∧ ∀ (y4 : YN2) (N6 t6 : Nat), PostN 1 (olN (N5 + 1723 + 9) (N5 + 1723 + 11) xp (frNf false ⟨hashS w sSelf, t5 + 24, hashS w sNumber, t5 + 26, 0, 0, 2⟩ xp.po (.int F tF) .none) (xp.dct (.int F tF)) es ept (rngO 0 (xp.last - xp.first + 1))) (codeN w.params (N5 + 1723 + 9) (N5 + 1723 + 11)) y4 → (okAcc (accL (AG1 ga kf xp xa [(44, N6 + 1723), (32, N5 + 1723), (29, N4 + 1723), (26, N3 + 1723), (21, N2 + 1723), (21, N1 + 1723), (21, N + 1723)]) jG1_nf5_0 []) ∧ True ∧ (PS [(xp.td, (dictO es ept))] (cSrt xp.td) ∧ ∀ (ya : YSt) (Na ta : Nat) (aa : Addr), PostS [(xp.td, (dictO es ept))] ya → (okAcc (accL (AG1 ga kf xp xa [(54, Na + 1723), (53, aa), (44, N6 + 1723), (32, N5 + 1723), (29, N4 + 1723), (26, N3 + 1723), (21, N2 + 1723), (21, N1 + 1723), (21, N + 1723)]) jG1_nf5_1 []) ∧ True ∧ (PS [(ga.hl, (lstE hs e2))] (cSrt ga.hl) ∧ ∀ (yb : YSt) (Nb tb : Nat) (ab : Addr), PostS [(ga.hl, (lstE hs e2))] yb → (okAcc (accL (AG1 ga kf xp xa [(55, Nb + 1723), (54, ab), (54, Na + 1723), (53, aa), (44, N6 + 1723), (32, N5 + 1723), (29, N4 + 1723), (26, N3 + 1723), (21, N2 + 1723), (21, N1 + 1723), (21, N + 1723)]) jG1_nf5_2 []) ∧ ((F != F) = false ∧ (chkEq ⟨ya.L⟩ ⟨yb.L⟩ true = true ∧ True)) ∧ I (exL X []) (olG ga kf xp (srcE sb0 ub0 sb1 ub1 0) (frG 2 ga (gxF w 2 gx t0 t1 t3 t4 t5 (.int v (t0 + 1)) (numP r1 t1) (.ref (N2 + 1723 + 3)) (.ref (N3 + 1723 + 1)) (.ref (N4 + 1723 + 1))) (rdyG ga)) (.int F tF) (xp.dct (.int F tF)) (dictO es ept) (dictO (esX xs) epl) (lstE us e1) (lstE hs e2) (rngO (v + 1) (Int.ofNat (left + 1) - 1)) (frO esF epf (rdyS z.e)) ++ [(xa, codeX xq)]) (ΓG w.params ga z) (chL (tabX xa) v2 v3) (Fx 21 [] KV)))))))))))
abbrev pU_1 (r1 : Int) (N1 t1 N2 t2 N3 t3 N4 t4 N5 t5 : Nat) (sb0 : Int) (ub0 : Nat) (sb1 : Int) (ub1 : Nat) : Prop := okAcc (accL (AG1 ga kf xp xa [(32, N5 + 1723), (29, N4 + 1723), (26, N3 + 1723), (21, N2 + 1723), (21, N1 + 1723), (21, N + 1723)]) jG1_us4_0 []) ∧ (((0 : Int) = 0 ∧ (1 : Int) = 1 ∧ chkRg (xp.last - xp.first + 1) = true) ∧ (((0 : Int) != 0) = false ∧ (chkEq #[] #[] true = true ∧ True))) ∧ (PO X (olO10 (N5 + 1723 + 5) kf xp (frOb kf ⟨hashS w sSelf, t5 + 5, hashS w sLocal, t5 + 6, .int 0 (t5 + 4), 0, 0, 0, 0, 2⟩ .none .none false) (xp.dct (.int F tF)) (dictO es ept) (esX xs) epl ++ [((N5 + 1723 + 7), rngO 0 (xp.last - xp.first + 1))]) (codeO w.params (N5 + 1723 + 5) (N5 + 1723 + 7)) ∧ ((True ∧ ∀ (y4 : YOw) (N6 t6 : Nat), PostO 0 (olO10 (N5 + 1723 + 5) kf xp (frOb kf ⟨hashS w sSelf, t5 + 5, hashS w sLocal, t5 + 6, .int 0 (t5 + 4), 0, 0, 0, 0, 2⟩ .none .none false) (xp.dct (.int F tF)) (dictO es ept) (esX xs) epl ++ [((N5 + 1723 + 7), rngO 0 (xp.last - xp.first + 1))]) (codeO w.params (N5 + 1723 + 5) (N5 + 1723 + 7)) y4 → (okAcc [] ∧ True ∧ KV (.ok (.ret (.bool false))) ((olG ga kf xp (srcE sb0 ub0 sb1 ub1 0) (frG 2 ga (gxF w 2 gx t0 t1 t3 t4 t5 (.int v (t0 + 1)) (numP r1 t1) (.ref (N2 + 1723 + 3)) (.ref (N3 + 1723 + 1)) (.ref (N4 + 1723 + 1))) (rdyG ga)) (.int G tG) (xp.dct (.int y4.fo y4.tf)) (dictO (es.push (takE y4.u y4.tu)) y4.e') (dictO (esX xs) epl) (lstE us e1) (lstE hs e2) (rngO (v + 1) (Int.ofNat (left + 1) - 1)) (frO esF epf (rdyS z.e)) ++ [(xa, codeX xq)]).map some) (N6 + 1723) 0 (t6 + 1) 0 (chL (tabX xa) v2 v3))) ∧ ∀ (y4 : YOw) (N6 t6 : Nat), PostO 1 (olO10 (N5 + 1723 + 5) kf xp (frOb kf ⟨hashS w sSelf, t5 + 5, hashS w sLocal, t5 + 6, .int 0 (t5 + 4), 0, 0, 0, 0, 2⟩ .none .none false) (xp.dct (.int F tF)) (dictO es ept) (esX xs) epl ++ [((N5 + 1723 + 7), rngO 0 (xp.last - xp.first + 1))]) (codeO w.params (N5 + 1723 + 5) (N5 + 1723 + 7)) y4 → (okAcc (accL (AG1 ga kf xp xa [(40, N6 + 1723), (32, N5 + 1723), (29, N4 + 1723), (26, N3 + 1723), (21, N2 + 1723), (21, N1 + 1723), (21, N + 1723)]) jG1_us5_0 []) ∧ True ∧ (PS [(xp.td, (dictO es y4.e'))] (cSrt xp.td) ∧ ∀ (ya : YSt) (Na ta : Nat) (aa : Addr), PostS [(xp.td, (dictO es y4.e'))] ya → (okAcc (accL (AG1 ga kf xp xa [(48, Na + 1723), (47, aa), (40, N6 + 1723), (32, N5 + 1723), (29, N4 + 1723), (26, N3 + 1723), (21, N2 + 1723), (21, N1 + 1723), (21, N + 1723)]) jG1_us5_1 []) ∧ True ∧ (PS [(ga.hl, (lstE hs e2))] (cSrt ga.hl) ∧ ∀ (yb : YSt) (Nb tb : Nat) (ab : Addr), PostS [(ga.hl, (lstE hs e2))] yb → (okAcc (accL (AG1 ga kf xp xa [(49, Nb + 1723), (48, ab), (48, Na + 1723), (47, aa), (40, N6 + 1723), (32, N5 + 1723), (29, N4 + 1723), (26, N3 + 1723), (21, N2 + 1723), (21, N1 + 1723), (21, N + 1723)]) jG1_us5_2 []) ∧ ((y4.fo != y4.fo) = false ∧ (chkEq ⟨ya.L⟩ ⟨yb.L⟩ true = true ∧ True)) ∧ I (exL X []) (olG ga kf xp (srcE sb0 ub0 sb1 ub1 0) (frG 2 ga (gxF w 2 gx t0 t1 t3 t4 t5 (.int v (t0 + 1)) (numP r1 t1) (.ref (N2 + 1723 + 3)) (.ref (N3 + 1723 + 1)) (.ref (N4 + 1723 + 1))) (rdyG ga)) (.int y4.fo y4.tf) (xp.dct (.int y4.fo y4.tf)) (dictO es y4.e') (dictO (esX xs) epl) (lstE us e1) (lstE hs e2) (rngO (v + 1) (Int.ofNat (left + 1) - 1)) (frO esF epf (rdyS z.e)) ++ [(xa, codeX xq)]) (ΓG w.params ga z) (chL (tabX xa) v2 v3) (Fx 21 [] KV))))))))
abbrev pH_1 (r1 : Int) (N1 t1 N2 t2 N3 t3 N4 t4 N5 t5 : Nat) (sb0 : Int) (ub0 : Nat) (sb1 : Int) (ub1 : Nat) (y3 : YO) : Prop := okAcc (accL (AG1 ga kf xp xa [(32, N5 + 1723), (29, N4 + 1723), (26, N3 + 1723), (21, N2 + 1723), (21, N1 + 1723), (21, N + 1723)]) jG1_gd4_0 []) ∧ (((0 : Int) = 0 ∧ (1 : Int) = 1 ∧ chkRg (xp.last - xp.first + 1) = true) ∧ (((0 : Int) != 0) = false ∧ (chkEq ⟨.int y3.g y3.tg :: y3.L⟩ #[] false = true ∧ True))) ∧ (PO X (olO10 (N5 + 1723 + 1) kf xp (frOb kf ⟨hashS w sSelf, t5 + 3, hashS w sLocal, t5 + 4, .int 0 (t5 + 2), 0, 0, 0, 0, 2⟩ .none .none false) (xp.dct (.int F tF)) (dictO es ept) (esX xs) epl ++ [((N5 + 1723 + 3), rngO 0 (xp.last - xp.first + 1))]) (codeO w.params (N5 + 1723 + 1) (N5 + 1723 + 3)) ∧ ((True ∧ ∀ (y4 : YOw) (N6 t6 : Nat), PostO 0 (olO10 (N5 + 1723 + 1) kf xp (frOb kf ⟨hashS w sSelf, t5 + 3, hashS w sLocal, t5 + 4, .int 0 (t5 + 2), 0, 0, 0, 0, 2⟩ .none .none false) (xp.dct (.int F tF)) (dictO es ept) (esX xs) epl ++ [((N5 + 1723 + 3), rngO 0 (xp.last - xp.first + 1))]) (codeO w.params (N5 + 1723 + 1) (N5 + 1723 + 3)) y4 → (okAcc (accL (AG1 ga kf xp xa [(36, N6 + 1723), (32, N5 + 1723), (29, N4 + 1723), (26, N3 + 1723), (21, N2 + 1723), (21, N1 + 1723), (21, N + 1723)]) jG1_gd5_0 []) ∧ (chk0 ga.m = true ∧ (chkLe hs.size = true ∧ ((y4.u != y3.g) = false ∧ True))) ∧ (PS [(xp.td, (dictO (es.push (takE y4.u y4.tu)) y4.e'))] (cSrt xp.td) ∧ ∀ (ya : YSt) (Na ta : Nat) (aa : Addr), PostS [(xp.td, (dictO (es.push (takE y4.u y4.tu)) y4.e'))] ya → (okAcc (accL (AG1 ga kf xp xa [(37, Na + 1723), (36, aa), (36, N6 + 1723), (32, N5 + 1723), (29, N4 + 1723), (26, N3 + 1723), (21, N2 + 1723), (21, N1 + 1723), (21, N + 1723)]) jG1_gd5_1 []) ∧ True ∧ (PS [(ga.hl, (pushO (.int y3.g y3.tg) (lstE hs e2)))] (cSrt ga.hl) ∧ ∀ (yb : YSt) (Nb tb : Nat) (ab : Addr), PostS [(ga.hl, (pushO (.int y3.g y3.tg) (lstE hs e2)))] yb → (okAcc (accL (AG1 ga kf xp xa [(38, Nb + 1723), (37, ab), (37, Na + 1723), (36, aa), (36, N6 + 1723), (32, N5 + 1723), (29, N4 + 1723), (26, N3 + 1723), (21, N2 + 1723), (21, N1 + 1723), (21, N + 1723)]) jG1_gd5_2 []) ∧ ((y4.fo != (30 + (y3.g - 29).fmod ga.m)) = false ∧ (chkEq ⟨ya.L⟩ ⟨yb.L⟩ true = true ∧ True)) ∧ I (exL X []) (olG ga kf xp (srcE sb0 ub0 sb1 ub1 0) (frG 2 ga (gxF w 2 gx t0 t1 t3 t4 t5 (.int v (t0 + 1)) (numP r1 t1) (.ref (N2 + 1723 + 3)) (.ref (N3 + 1723 + 1)) (.ref (N4 + 1723 + 1))) (rdyG ga)) (.int (30 + (y3.g - 29).fmod ga.m) (t6 + 8)) (xp.dct (.int y4.fo y4.tf)) (dictO (es.push (takE y4.u y4.tu)) y4.e') (dictO (esX xs) epl) (lstE us e1) (pushO (.int y3.g y3.tg) (lstE hs e2)) (rngO (v + 1) (Int.ofNat (left + 1) - 1)) (frO esF epf (rdyS z.e)) ++ [(xa, codeX xq)]) (ΓG w.params ga z) (chL (tabX xa) v2 v3) (Fx 21 [] KV))))))) ∧ ∀ (y4 : YOw) (N6 t6 : Nat), PostO 1 (olO10 (N5 + 1723 + 1) kf xp (frOb kf ⟨hashS w sSelf, t5 + 3, hashS w sLocal, t5 + 4, .int 0 (t5 + 2), 0, 0, 0, 0, 2⟩ .none .none false) (xp.dct (.int F tF)) (dictO es ept) (esX xs) epl ++ [((N5 + 1723 + 3), rngO 0 (xp.last - xp.first + 1))]) (codeO w.params (N5 + 1723 + 1) (N5 + 1723 + 3)) y4 → Halt 6 3))
abbrev pL_1 (r1 r2 : Int) (N1 t1 N2 t2 : Nat) (sb0 : Int) (ub0 : Nat) (sb1 : Int) (ub1 : Nat) : Prop := okAcc (accL (AG1 ga kf xp xa [(21, N2 + 1723), (21, N1 + 1723), (21, N + 1723)]) jG1_lis_0 []) ∧ (chkLe us.size = true ∧ (chkIn us (numP r1 t1) false = true ∧ ((r2 == 0) = true ∧ True))) ∧ ((∃ xs1, LisOk X (esX xs) xs1 ∧ (match idxH [0, 29 + r1] xs1 with | some _ => true | none => false) = false) ∧ (okAcc (accL (AG1 ga kf xp xa [(21, N2 + 1723), (21, N1 + 1723), (21, N + 1723)]) jG1_lis_1 []) ∧ True ∧ ((∃ xs1, LisOk X (esX xs) xs1 ∧ idxH [0, 29 + r1] xs1 = none) ∧ (okAcc (accL (AG1 ga kf xp xa [(21, N2 + 1723), (21, N1 + 1723), (21, N + 1723)]) jG1_lis_2 []) ∧ True ∧ ((X (N2 + 1723 + 2) = none ∧ True) → I (exL X [((N2 + 1723 + 2), tupO #[.int 0 (t2 + 3), (numP r1 t1)] 0)]) (olG ga kf xp (srcE sb0 ub0 sb1 ub1 0) (frG 2 ga (gxL w 2 gx t0 t1 (.int v (t0 + 1)) (numP r1 t1)) (rdyG ga)) (.int G tG) (xp.dct (.int F tF)) (dictO es ept) (dictO ((esX xs).push ⟨tkH [0, 29 + r1], .ref (N2 + 1723 + 2), .int (90 + (29 + r1)) (t2 + 5)⟩) (epl + 1)) (pushO (numP r1 t1) (lstE us e1)) (lstE hs e2) (rngO (v + 1) (Int.ofNat (left + 1) - 1)) (frO esF epf (rdyS z.e)) ++ [(xa, codeX xq)]) (ΓG w.params ga z) (chL (tabX xa) v2 v3) (Fx 21 [((N2 + 1723 + 2), tupO #[.int 0 (t2 + 3), (numP r1 t1)] 0)] KV))))))
abbrev pK_1 (r1 r2 : Int) (N1 t1 N2 t2 : Nat) (sb0 : Int) (ub0 : Nat) (sb1 : Int) (ub1 : Nat) : Prop := ∀ _ : Pos, (okAcc (accL (AG1 ga kf xp xa [(21, N2 + 1723), (21, N1 + 1723), (21, N + 1723)]) jG1_k1_0 []) ∧ (((0 : Int) = 0 ∧ (1 : Int) = 1 ∧ chkRg ga.m = true) ∧ (((77 : Int) != 77) = false ∧ (((77 : Int) != 0) = true ∧ ((r2 == 0) = false ∧ True)))) ∧ (PR [((N2 + 1723 + 2), rngO 0 ga.m), ((N2 + 1723 + 3), lstE #[] 0), (ga.cf, cellO (.int G tG)), (ga.cm, cellO (.int ga.m ga.tm)), ((N2 + 1723 + 4), dictO #[] 0)] (cRow w.params (ceG w.params ga.f (scopeC (siteG w.params 0))) (N2 + 1723 + 2) (N2 + 1723 + 3) (N2 + 1723 + 4) ga.cf ga.cm) ∧ (True ∧ ∀ (y1 : YR) (N3 t3 : Nat), PostR 0 [((N2 + 1723 + 2), rngO 0 ga.m), ((N2 + 1723 + 3), lstE #[] 0), (ga.cf, cellO (.int G tG)), (ga.cm, cellO (.int ga.m ga.tm)), ((N2 + 1723 + 4), dictO #[] 0)] y1 → ∀ _ : Pos, (okAcc (accL (AG1 ga kf xp xa [(26, N3 + 1723), (21, N2 + 1723), (21, N1 + 1723), (21, N + 1723)]) jG1_s2_0 []) ∧ True ∧ (PF' [((N2 + 1723 + 3), lstE ⟨y1.L⟩ y1.ep2), ((N3 + 1723), iterO (N2 + 1723 + 3) 0), ((N3 + 1723 + 1), lstE #[] 0), (ga.chd, cellO (.ref ga.hl)), (ga.hl, lstE hs e2), ((N3 + 1723 + 2), dictO #[] 0)] (cNot (cpOf (siteG w.params 1)) false (ceG w.params ga.f (scopeC (siteG w.params 1))) (N3 + 1723) (N3 + 1723 + 1) (N3 + 1723 + 2) ga.chd) ∧ (True ∧ ∀ (y2 : YO) (N4 t4 : Nat), PostF 0 [((N2 + 1723 + 3), lstE ⟨y1.L⟩ y1.ep2), ((N3 + 1723), iterO (N2 + 1723 + 3) 0), ((N3 + 1723 + 1), lstE #[] 0), (ga.chd, cellO (.ref ga.hl)), (ga.hl, lstE hs e2), ((N3 + 1723 + 2), dictO #[] 0)] y2 → ∀ _ : Pos, (okAcc (accL (AG1 ga kf xp xa [(29, N4 + 1723), (26, N3 + 1723), (21, N2 + 1723), (21, N1 + 1723), (21, N + 1723)]) jG1_s3_0 []) ∧ True ∧ (PG [((N3 + 1723 + 1), lstE ⟨y2.L⟩ y2.ep2), ((N4 + 1723), iterO (N3 + 1723 + 1) 0), ((N4 + 1723 + 1), lstE #[] 0), (ga.cus, cellO (.ref ga.ul)), (ga.ul, lstE us e1), ((N4 + 1723 + 2), dictO #[] 0)] (cNot (cpOf (siteG w.params 2)) true (ceG w.params ga.f (scopeC (siteG w.params 2))) (N4 + 1723) (N4 + 1723 + 1) (N4 + 1723 + 2) ga.cus) ∧ (((True ∧ ∀ (y3 : YO) (N5 t5 : Nat), PostG 0 [((N3 + 1723 + 1), lstE ⟨y2.L⟩ y2.ep2), ((N4 + 1723), iterO (N3 + 1723 + 1) 0), ((N4 + 1723 + 1), lstE #[] 0), (ga.cus, cellO (.ref ga.ul)), (ga.ul, lstE us e1), ((N4 + 1723 + 2), dictO #[] 0)] y3 → (pN_1 w N t0 ept epl e1 e2 epf ga gx kf xp z F v tF xa xq left es xs us hs esF X v2 v3 I KV PS PostS PN PostN r1 N1 t1 N2 t2 N3 t3 N4 t4 N5 t5 sb0 ub0 sb1 ub1)) ∧ ∀ (y3 : YO) (N5 t5 : Nat), PostG 1 [((N3 + 1723 + 1), lstE ⟨y2.L⟩ y2.ep2), ((N4 + 1723), iterO (N3 + 1723 + 1) 0), ((N4 + 1723 + 1), lstE #[] 0), (ga.cus, cellO (.ref ga.ul)), (ga.ul, lstE us e1), ((N4 + 1723 + 2), dictO #[] 0)] y3 → (pU_1 w N t0 ept epl e1 e2 epf ga gx kf xp z F v tF G tG xa xq left es xs us hs esF X v2 v3 I KV PO PostO PS PostS r1 N1 t1 N2 t2 N3 t3 N4 t4 N5 t5 sb0 ub0 sb1 ub1)) ∧ ∀ (y3 : YO) (N5 t5 : Nat), PostG 2 [((N3 + 1723 + 1), lstE ⟨y2.L⟩ y2.ep2), ((N4 + 1723), iterO (N3 + 1723 + 1) 0), ((N4 + 1723 + 1), lstE #[] 0), (ga.cus, cellO (.ref ga.ul)), (ga.ul, lstE us e1), ((N4 + 1723 + 2), dictO #[] 0)] y3 → (pH_1 w N t0 ept epl e1 e2 epf ga gx kf xp z F v tF xa xq left es xs us hs esF X v2 v3 I KV PO PostO PS PostS r1 N1 t1 N2 t2 N3 t3 N4 t4 N5 t5 sb0 ub0 sb1 ub1 y3))))))))))
abbrev pW_1 (r1 r2 : Int) (N1 t1 N2 t2 : Nat) (sb0 : Int) (ub0 : Nat) (sb1 : Int) (ub1 : Nat) : Prop := ∀ _ : Pos, (okAcc (accL (AG1 ga kf xp xa [(21, N2 + 1723), (21, N1 + 1723), (21, N + 1723)]) jG1_k1u_0 []) ∧ (((0 : Int) = 0 ∧ (1 : Int) = 1 ∧ chkRg ga.m = true) ∧ (((77 : Int) != 77) = false ∧ (((77 : Int) != 0) = true ∧ (chkIn us (numP r1 t1) true = true ∧ ((r2 == 0) = true ∧ True))))) ∧ (PR [((N2 + 1723 + 2), rngO 0 ga.m), ((N2 + 1723 + 3), lstE #[] 0), (ga.cf, cellO (.int G tG)), (ga.cm, cellO (.int ga.m ga.tm)), ((N2 + 1723 + 4), dictO #[] 0)] (cRow w.params (ceG w.params ga.f (scopeC (siteG w.params 0))) (N2 + 1723 + 2) (N2 + 1723 + 3) (N2 + 1723 + 4) ga.cf ga.cm) ∧ (True ∧ ∀ (y1 : YR) (N3 t3 : Nat), PostR 0 [((N2 + 1723 + 2), rngO 0 ga.m), ((N2 + 1723 + 3), lstE #[] 0), (ga.cf, cellO (.int G tG)), (ga.cm, cellO (.int ga.m ga.tm)), ((N2 + 1723 + 4), dictO #[] 0)] y1 → ∀ _ : Pos, (okAcc (accL (AG1 ga kf xp xa [(26, N3 + 1723), (21, N2 + 1723), (21, N1 + 1723), (21, N + 1723)]) jG1_s2_0 []) ∧ True ∧ (PF' [((N2 + 1723 + 3), lstE ⟨y1.L⟩ y1.ep2), ((N3 + 1723), iterO (N2 + 1723 + 3) 0), ((N3 + 1723 + 1), lstE #[] 0), (ga.chd, cellO (.ref ga.hl)), (ga.hl, lstE hs e2), ((N3 + 1723 + 2), dictO #[] 0)] (cNot (cpOf (siteG w.params 1)) false (ceG w.params ga.f (scopeC (siteG w.params 1))) (N3 + 1723) (N3 + 1723 + 1) (N3 + 1723 + 2) ga.chd) ∧ (True ∧ ∀ (y2 : YO) (N4 t4 : Nat), PostF 0 [((N2 + 1723 + 3), lstE ⟨y1.L⟩ y1.ep2), ((N3 + 1723), iterO (N2 + 1723 + 3) 0), ((N3 + 1723 + 1), lstE #[] 0), (ga.chd, cellO (.ref ga.hl)), (ga.hl, lstE hs e2), ((N3 + 1723 + 2), dictO #[] 0)] y2 → ∀ _ : Pos, (okAcc (accL (AG1 ga kf xp xa [(29, N4 + 1723), (26, N3 + 1723), (21, N2 + 1723), (21, N1 + 1723), (21, N + 1723)]) jG1_s3_0 []) ∧ True ∧ (PG [((N3 + 1723 + 1), lstE ⟨y2.L⟩ y2.ep2), ((N4 + 1723), iterO (N3 + 1723 + 1) 0), ((N4 + 1723 + 1), lstE #[] 0), (ga.cus, cellO (.ref ga.ul)), (ga.ul, lstE us e1), ((N4 + 1723 + 2), dictO #[] 0)] (cNot (cpOf (siteG w.params 2)) true (ceG w.params ga.f (scopeC (siteG w.params 2))) (N4 + 1723) (N4 + 1723 + 1) (N4 + 1723 + 2) ga.cus) ∧ (((True ∧ ∀ (y3 : YO) (N5 t5 : Nat), PostG 0 [((N3 + 1723 + 1), lstE ⟨y2.L⟩ y2.ep2), ((N4 + 1723), iterO (N3 + 1723 + 1) 0), ((N4 + 1723 + 1), lstE #[] 0), (ga.cus, cellO (.ref ga.ul)), (ga.ul, lstE us e1), ((N4 + 1723 + 2), dictO #[] 0)] y3 → (pN_1 w N t0 ept epl e1 e2 epf ga gx kf xp z F v tF xa xq left es xs us hs esF X v2 v3 I KV PS PostS PN PostN r1 N1 t1 N2 t2 N3 t3 N4 t4 N5 t5 sb0 ub0 sb1 ub1)) ∧ ∀ (y3 : YO) (N5 t5 : Nat), PostG 1 [((N3 + 1723 + 1), lstE ⟨y2.L⟩ y2.ep2), ((N4 + 1723), iterO (N3 + 1723 + 1) 0), ((N4 + 1723 + 1), lstE #[] 0), (ga.cus, cellO (.ref ga.ul)), (ga.ul, lstE us e1), ((N4 + 1723 + 2), dictO #[] 0)] y3 → (pU_1 w N t0 ept epl e1 e2 epf ga gx kf xp z F v tF G tG xa xq left es xs us hs esF X v2 v3 I KV PO PostO PS PostS r1 N1 t1 N2 t2 N3 t3 N4 t4 N5 t5 sb0 ub0 sb1 ub1)) ∧ ∀ (y3 : YO) (N5 t5 : Nat), PostG 2 [((N3 + 1723 + 1), lstE ⟨y2.L⟩ y2.ep2), ((N4 + 1723), iterO (N3 + 1723 + 1) 0), ((N4 + 1723 + 1), lstE #[] 0), (ga.cus, cellO (.ref ga.ul)), (ga.ul, lstE us e1), ((N4 + 1723 + 2), dictO #[] 0)] y3 → (pH_1 w N t0 ept epl e1 e2 epf ga gx kf xp z F v tF xa xq left es xs us hs esF X v2 v3 I KV PO PostO PS PostS r1 N1 t1 N2 t2 N3 t3 N4 t4 N5 t5 sb0 ub0 sb1 ub1 y3))))))))))
abbrev rhsG_1 : Prop := okAcc (accL (AG1 ga kf xp xa [(21, N + 1723)]) jG1_seg0_0 []) ∧ True ∧ (Bd s0 s1 ∧ ∀ (r1 : Int) (uw N1 t1 : Nat) (sa0 : Int) (ua0 : Nat) (sa1 : Int) (ua1 : Nat), 0 ≤ r1 → r1 < 7 → Bd sa0 sa1 → (okAcc (accL (AG1 ga kf xp xa [(21, N1 + 1723), (21, N + 1723)]) jG1_seg0_1 []) ∧ True ∧ (Bd sa0 sa1 ∧ ∀ (r2 : Int) (uq N2 t2 : Nat) (sb0 : Int) (ub0 : Nat) (sb1 : Int) (ub1 : Nat), 0 ≤ r2 → r2 < 3 → Bd sb0 sb1 → (((False ∨ (pL_1 w N t0 ept epl e1 e2 epf ga gx kf xp z F v tF G tG xa xq left es xs us hs esF X v2 v3 I KV r1 r2 N1 t1 N2 t2 sb0 ub0 sb1 ub1)) ∨ (pK_1 w N t0 ept epl e1 e2 epf ga gx kf xp z F v tF G tG xa xq left es xs us hs esF X v2 v3 I KV PR PostR PO PostO PS PostS PN PostN PF' PostF PG PostG r1 r2 N1 t1 N2 t2 sb0 ub0 sb1 ub1)) ∨ (pW_1 w N t0 ept epl e1 e2 epf ga gx kf xp z F v tF G tG xa xq left es xs us hs esF X v2 v3 I KV PR PostR PO PostO PS PostS PN PostN PF' PostF PG PostG r1 r2 N1 t1 N2 t2 sb0 ub0 sb1 ub1)))))
theorem runG_00 (b2 q0 : Bool) : simG0 w N t0 ept epl e1 e2 epf ga gx kf xp z F v tF G tG s0 u0 s1 u1 es xs us hs esF h d os X p v2 v3 I J KV PR PostR PO PostO PS PostS PN PostN PF' PostF PG PostG q0 b2 0 (Int.ofNat (left + 1)) (jG0_seg0 ++ [0]) = rhsG_0 w N t0 ept epl e1 e2 epf ga gx kf xp z F v tF G tG 0 left s0 s1 es xs us hs esF X v2 v3 I J KV PR PostR PO PostO PS PostS PN PostN PF' PostF PG PostG := by
 cases q0 <;> kernel_rfl
theorem runG_01 (b2 q0 : Bool) : simG0 w N t0 ept epl e1 e2 epf ga gx kf xp z F v tF G tG s0 u0 s1 u1 es xs us hs esF h d os X p v2 v3 I J KV PR PostR PO PostO PS PostS PN PostN PF' PostF PG PostG q0 b2 1 (Int.ofNat (left + 1)) (jG0_seg0 ++ [0]) = rhsG_0 w N t0 ept epl e1 e2 epf ga gx kf xp z F v tF G tG 1 left s0 s1 es xs us hs esF X v2 v3 I J KV PR PostR PO PostO PS PostS PN PostN PF' PostF PG PostG := by
 cases q0 <;> kernel_rfl
theorem runG_02 (b2 q0 : Bool) : simG0 w N t0 ept epl e1 e2 epf ga gx kf xp z F v tF G tG s0 u0 s1 u1 es xs us hs esF h d os X p v2 v3 I J KV PR PostR PO PostO PS PostS PN PostN PF' PostF PG PostG q0 b2 2 (Int.ofNat (left + 1)) (jG0_seg0 ++ [0]) = rhsG_0 w N t0 ept epl e1 e2 epf ga gx kf xp z F v tF G tG 2 left s0 s1 es xs us hs esF X v2 v3 I J KV PR PostR PO PostO PS PostS PN PostN PF' PostF PG PostG := by
 cases q0 <;> kernel_rfl
theorem runG_12 (b2 q0 : Bool) : simG1 w N t0 ept epl e1 e2 epf ga gx kf xp z F v tF G tG xa xq s0 u0 s1 u1 es xs us hs esF h d os X p v2 v3 I KV PR PostR PO PostO PS PostS PN PostN PF' PostF PG PostG q0 b2 2 (Int.ofNat (left + 1)) (jG1_seg0 ++ [0]) = rhsG_1 w N t0 ept epl e1 e2 epf ga gx kf xp z F v tF G tG xa xq left s0 s1 es xs us hs esF X v2 v3 I KV PR PostR PO PostO PS PostS PN PostN PF' PostF PG PostG := by
 cases q0 <;> kernel_rfl
theorem runGe_00 (b1 b2 : Bool) : simG0 w N t0 ept epl e1 e2 epf ga gx kf xp z F v tF G tG s0 u0 s1 u1 es xs us hs esF h d os X p v2 v3 I J KV PR PostR PO PostO PS PostS PN PostN PF' PostF PG PostG b1 b2 0 (Int.ofNat 0) jG0_end = (okAcc (accL (AG0 ga kf xp [(20, N + 1723)]) jG0_end []) ∧ True ∧ KV (.ok .next) ((olG ga kf xp (srcE s0 u0 s1 u1 0) (frG 0 ga gx #[]) (.int G tG) (xp.dct (.int F tF)) (dictO es ept) (dictO (esX xs) epl) (lstE us e1) (lstE hs e2) (rngO v (Int.ofNat 0)) (frO esF epf #[])).map some) (N + 1723) 2 (t0 + 1) 0 (chL #[] v2 v3)) := by kernel_rfl
theorem runGe_01 (b1 b2 : Bool) : simG0 w N t0 ept epl e1 e2 epf ga gx kf xp z F v tF G tG s0 u0 s1 u1 es xs us hs esF h d os X p v2 v3 I J KV PR PostR PO PostO PS PostS PN PostN PF' PostF PG PostG b1 b2 1 (Int.ofNat 0) jG0_end = (okAcc (accL (AG0 ga kf xp [(20, N + 1723)]) jG0_end []) ∧ True ∧ KV (.ok .next) ((olG ga kf xp (srcE s0 u0 s1 u1 0) (frG 1 ga gx #[]) (.int G tG) (xp.dct (.int F tF)) (dictO es ept) (dictO (esX xs) epl) (lstE us e1) (lstE hs e2) (rngO v (Int.ofNat 0)) (frO esF epf #[])).map some) (N + 1723) 2 (t0 + 1) 0 (chL #[] v2 v3)) := by kernel_rfl
theorem runGe_02 (b1 b2 : Bool) : simG0 w N t0 ept epl e1 e2 epf ga gx kf xp z F v tF G tG s0 u0 s1 u1 es xs us hs esF h d os X p v2 v3 I J KV PR PostR PO PostO PS PostS PN PostN PF' PostF PG PostG b1 b2 2 (Int.ofNat 0) jG0_end = (okAcc (accL (AG0 ga kf xp [(20, N + 1723)]) jG0_end []) ∧ True ∧ KV (.ok .next) ((olG ga kf xp (srcE s0 u0 s1 u1 0) (frG 2 ga gx #[]) (.int G tG) (xp.dct (.int F tF)) (dictO es ept) (dictO (esX xs) epl) (lstE us e1) (lstE hs e2) (rngO v (Int.ofNat 0)) (frO esF epf #[])).map some) (N + 1723) 2 (t0 + 1) 0 (chL #[] v2 v3)) := by kernel_rfl
theorem runGe_12 (b1 b2 : Bool) : simG1 w N t0 ept epl e1 e2 epf ga gx kf xp z F v tF G tG xa xq s0 u0 s1 u1 es xs us hs esF h d os X p v2 v3 I KV PR PostR PO PostO PS PostS PN PostN PF' PostF PG PostG b1 b2 2 (Int.ofNat 0) jG1_end = (okAcc (accL (AG1 ga kf xp xa [(21, N + 1723)]) jG1_end []) ∧ True ∧ KV (.ok .next) (((olG ga kf xp (srcE s0 u0 s1 u1 0) (frG 2 ga gx (rdyG ga)) (.int G tG) (xp.dct (.int F tF)) (dictO es ept) (dictO (esX xs) epl) (lstE us e1) (lstE hs e2) (rngO v (Int.ofNat 0)) (frO esF epf (rdyS z.e)) ++ [(xa, codeX xq)])).map some) (N + 1723) 2 (t0 + 1) 0 (chL (tabX xa) v2 v3)) := by kernel_rfl
end
theorem idx_used (n : Int) : ∀ (xs : XS) (us : List Value), xs.map (fun x => x.1) = us.map (fun v => [0, kI v]) → (match idxH [0, n] xs with | some _ => true | none => false) = hasB n us
 | [], [], _ => rfl
 | [], _ :: _, h => by simp at h
 | _ :: _, [], h => by simp at h
 | x :: xs, v :: us, h => by
  simp only [List.map_cons, List.cons.injEq] at h
  have ih := idx_used n xs us h.2
  show _ = ((kI v == n) || hasB n us)
  rw [idxH_cons, h.1, ← ih]
  by_cases e : kI v = n
  ·rw [e]; simp
  ·have : (kI v == n) = false := beq_false_of_ne e
   rw [this, if_neg (by simpa using e)]
   cases idxH [0, n] xs <;> rfl
theorem idx_none {n : Int} {xs : XS} {us : List Value} (h : xs.map (fun x => x.1) = us.map (fun v => [0, kI v])) (hb : hasB n us = false) : idxH [0, n] xs = none := by
 have := idx_used n xs us h
 rw [hb] at this
 cases e : idxH [0, n] xs with
 | none => rfl
 | some _ => rw [e] at this; cases this
theorem noDup_of : ∀ (xs : XS) (us : List Value), xs.map (fun x => x.1) = us.map (fun v => [0, kI v]) → (us.map kI).Nodup → noDup xs = true
 | [], [], _, _ => rfl
 | [], _ :: _, h, _ => by simp at h
 | _ :: _, [], h, _ => by simp at h
 | x :: xs, v :: us, h, hn => by
  simp only [List.map_cons, List.cons.injEq] at h
  rw [List.map_cons, List.nodup_cons] at hn
  have hb : hasB (kI v) us = false := by
   cases q : hasB (kI v) us with
   | false => rfl
   | true => exact absurd (hasB_iff.mp q) hn.1
  have e := idx_none h.2 hb
  show ((match idxH x.1 xs with | none => true | some _ => false) && noDup xs) = true
  rw [h.1, e, noDup_of xs us h.2 hn.2]; rfl
theorem esX_push (xs : XS) (ks : List Int) (a : Nat) (v : Value) : (esX xs).push ⟨tkH ks, .ref a, v⟩ = esX (xs ++ [(ks, a, v)]) := by
 unfold esX
 apply Array.ext'
 simp
theorem exL_one (X : XT) (b : Nat) (o : Obj) (a : Nat) : exL X [(b, o)] a = if b = a then some o else X a := by
 unfold exL
 show (match (Bool.rec none (some o) (Nat.beq b a) : Option Obj) with | some o => some o | none => X a) = _
 rw [MT.beq_dec]
 by_cases h : b = a
 ·simp [h]
 ·simp [h]
theorem frozen_push {X : XT} {xs : XS} (z : FrozenX X xs) {b t t' : Nat} {n : Int} {v : Value} (hb : X b = none) : FrozenX (exL X [(b, tupO #[.int 0 t, .int n t'] 0)]) (xs ++ [([0, n], b, v)]) := by
 intro x hx
 rcases List.mem_append.mp hx with h | h
 ·obtain ⟨vs, ep, q1, q2⟩ := z x h
  refine ⟨vs, ep, ?_, q2⟩
  rw [exL_one, if_neg (fun e => by rw [← e, hb] at q1; cases q1)]
  exact q1
 ·have e : x = ([0, n], b, v) := by simpa using h
  subst e
  refine ⟨#[.int 0 t, .int n t'], 0, ?_, rfl⟩
  rw [exL_one, if_pos rfl]; rfl
theorem exL_nil (X : XT) : exL X [] = X := rfl
theorem viewT_pre : ∀ (n : Nat) (g : Nat → Option (Nat × Obj)) (l : OL), l.length = n → (∀ k, k < n → g k = nthO l k) → viewT n g = l.map some
 | 0, g, l, h, _ => by
  cases l with
  | nil => rfl
  | cons y l => cases h
 | n + 1, g, l, h, e => by
  cases l with
  | nil => cases h
  | cons y l =>
   show g 0 :: viewT n (fun i => g (i + 1)) = _
   rw [List.map_cons, e 0 (by omega), viewT_pre n _ l (Nat.succ.inj h) fun k hk => e (k + 1) (by omega)]
   rfl
theorem tail_take {n : Nat} {F : FT} {r : Result} {l' lx : OL} {N' t' : Nat} {ch' : Ch} (hn : n ≤ l'.length) (hl : l'.length + lx.length ≤ 62) (hF : F r (l'.take n) N' t' ch') : Fx n lx (KVof n F) r l' N' t' ch' := by
 refine ⟨hl, okNil, trivial, l'.take n, N', t', hF, by rw [List.length_take]; omega, ?_, rfl, rfl⟩
 refine viewT_pre n _ _ (by rw [List.length_take]; omega) fun k hk => ?_
 rw [listT_get (by rw [List.length_append]; omega), nthO_is, nthO_is, List.getElem?_append_left (by omega), List.getElem?_take, if_pos hk]
def Post_go2 (q : Nat) (l : OL) (y : YO) : Prop := Post_go q l y ∧ (q = 0 → xsOf (nthD l 0) = []) ∧ (q = 1 → xsOf (nthD l 0) ≠ [])
def C_good2 : CtB := ⟨6, 3, YO, P_not true false, resO, outGo, Post_go2⟩
theorem lst_rec (b : Bool) (v : Value) (L : List Value) (ep : Nat) : lstE ⟨Bool.rec [] (v :: L) b⟩ ep = lstE (Bool.rec #[] ⟨v :: L⟩ b) ep := by cases b <;> rfl
theorem C_good2_ok (w : World) (h : Heap) (d : Drawn) (os : OsState) : CtOk C_good2.n C_good2.I w h d os := fun X O l Γ p R g N t0 ch F hl hI D K => by
 obtain ⟨h1, e1, e2, e3, hF⟩ := hI
 refine not_at O hl h1 e1 e2 e3 D K fun s es h3 h4 h6 N' t' y => ?_
 have key : ∀ q, q < 3 → ∀ (L : List Value) (k : Int) (u : Nat), filtO s.hs s.xs = Bool.rec [] (.int k u :: L) (Nat.blt 1 q) → Nat.blt 0 s.xs.length = Nat.blt 0 q → (q = 0 → s.xs = []) → (q = 1 → s.xs ≠ []) → F (.ok .next) ((s.at0 Γ.below).out s.xs.length y) N' t' ch := fun q q3 L k u hq hb p1 p2 => by
  have := hF q q3 ⟨L, k, u, y.ep2, y.ep3, y.it, y.hh, y.tk, y.vo⟩ N' t' (by rw [es]; exact ⟨hq, p1, p2⟩)
  rw [es] at this
  unfold StNo.out
  rw [hb]
  show F _ [_, _, (s.aacc, lstE ⟨filtO s.hs s.xs⟩ y.ep2), _, _, _] N' t' ch
  rw [hq, lst_rec]
  exact this
 by_cases hx : s.xs = []
 ·exact key 0 (by decide) [] 0 0 (by rw [hx]; rfl) (by rw [hx]; rfl) (fun _ => hx) fun q => (nomatch q)
 ·have hb : Nat.blt 0 s.xs.length = true := Nat.ble_eq_true_of_le (List.length_pos_iff.mpr hx)
  cases hq : filtO s.hs s.xs with
  | nil => exact key 1 (by decide) [] 0 0 hq hb (fun q => (nomatch q)) fun _ => hx
  | cons a L =>
   obtain ⟨k, u, e⟩ := filtO_allI (hs := s.hs) h3 a (by rw [hq]; exact .head _)
   exact key 2 (by decide) L k u (by rw [hq, e]; rfl) hb (fun q => (nomatch q)) fun q => absurd q (by decide)
structure StG where
 ept : Nat
 epl : Nat
 e1 : Nat
 e2 : Nat
 epf : Nat
 m : Nat
 tF : Nat
 tG : Nat
 ga : GA
 gx : GX
 kf : KF
 xp : PF
 z : GS
 F : Int
 v : Int
 s0 : Int
 u0 : Nat
 s1 : Int
 u1 : Nat
 es : Array DictEntry
 xs : XS
 us : List Value
 hs : List Value
 esF : Array DictEntry
 v2 : Array Value
 v3 : Array Value
abbrev cPO (w : World) (st : StG) := P_ow w (st.hs.map kI) st.xs st.xp st.es st.F (mO st.xp)
abbrev cQO (st : StG) := Post_ow (st.hs.map kI) st.xs st.xp st.F (mO st.xp)
abbrev cPN (w : World) (st : StG) := P_nf w (st.hs.map kI) st.xp.first st.xp.last st.F (mO st.xp)
abbrev cQN (st : StG) := Post_nf (st.hs.map kI) st.xp.first st.xp.last st.F (mO st.xp)
structure StG.Ok (st : StG) (X : XT) (k : Nat) : Prop where
 bd : Bd st.s0 st.s1
 inv : InvG st.m st.F st.us st.hs st.xs
 nu : (st.us.map kI).Nodup
 gm : st.ga.m = (st.m : Int)
 fi : st.xp.first = 30
 la : st.xp.last = 29 + (st.m : Int)
 tk : TakOk st.es (st.hs.map kI)
 fr : FrozenX X st.xs
 len : st.us.length + k ≤ 100
 td : ∃ a, st.xp.td = a + 1723
 hl : ∃ a, st.ga.hl = a + 1723
section
variable {st : StG} {X : XT} {k : Nat} (ok : st.Ok X k)
include ok
theorem StG.Ok.mO : mO st.xp = st.m := by
 unfold Mine.mO
 rw [ok.fi, ok.la]; omega
theorem StG.Ok.len_eq : st.xp.last - st.xp.first + 1 = Int.ofNat (Mine.mO st.xp) := by
 rw [ok.mO, ok.fi, ok.la]; show 29 + (st.m : Int) - 30 + 1 = (st.m : Int); omega
theorem StG.Ok.lis : LisOk X (esX st.xs) st.xs := ⟨rfl, ok.fr, noDup_of _ _ ok.inv.ux ok.nu, by have := len_is ok.inv.ux; have := ok.len; omega⟩
theorem StG.Ok.rg : ((0 : Int) = 0 ∧ (1 : Int) = 1 ∧ chkRg (st.xp.last - st.xp.first + 1) = true) := ⟨rfl, rfl, chkRg_of (by rw [ok.len_eq]; exact Int.natCast_nonneg _) (by rw [ok.len_eq, ok.mO]; have := ok.inv.m4; show (st.m : Int) ≤ _; omega)⟩
theorem StG.Ok.rgm : ((0 : Int) = 0 ∧ (1 : Int) = 1 ∧ chkRg st.ga.m = true) := ⟨rfl, rfl, chkRg_of (by rw [ok.gm]; exact Int.natCast_nonneg _) (by rw [ok.gm]; have := ok.inv.m4; omega)⟩
theorem StG.Ok.tks : st.es.size ≤ 4 ∧ st.hs.length ≤ 4 := by
 have h1 := ok.inv.len
 have h2 := ok.inv.m4
 have h3 := congrArg List.length ok.tk.ks
 simp only [List.length_map] at h3
 have : st.es.size = st.es.toList.length := rfl
 omega
end
theorem chk0_ge {b : Int} (h : 1 ≤ b) : chk0 b = true := by
 unfold chk0
 rw [eqB_beq, beq_false_of_ne (by omega : b ≠ 0)]; rfl
structure EndG where
 s : Nat
 gx : GX
 s0 : Int
 u0 : Nat
 s1 : Int
 u1 : Nat
 o : Nat → Obj
def EndG.ol (y : EndG) (st : StG) (slf sla : Array (Option Value)) : OL := [(st.ga.la, srcE y.s0 y.u0 y.s1 y.u1 0), (st.ga.f, frG y.s st.ga y.gx slf), (st.ga.cs, y.o 2), (st.ga.cf, y.o 3), (st.ga.chd, y.o 4), (st.ga.cus, y.o 5), (st.ga.cm, y.o 6), (st.kf.sd, y.o 7), (st.kf.so, y.o 8), (st.xp.pd, y.o 9), (st.xp.po, y.o 10), (st.xp.td, y.o 11), (st.kf.tbd, y.o 12), (st.kf.tb, y.o 13), (st.kf.cd + 1723, y.o 14), (st.kf.ld + 1723, y.o 15), (st.ga.ul, y.o 16), (st.ga.hl, y.o 17), (st.ga.it, y.o 18), (st.ga.fa, frO st.esF st.epf sla)]
def listG (s : Nat) (st : StG) (k : Nat) (slf sla : Array (Option Value)) : OL := olG st.ga st.kf st.xp (srcE st.s0 st.u0 st.s1 st.u1 0) (frG s st.ga st.gx slf) (.int st.F st.tG) (st.xp.dct (.int st.F st.tF)) (dictO st.es st.ept) (dictO (esX st.xs) st.epl) (lstE ⟨st.us⟩ st.e1) (lstE ⟨st.hs⟩ st.e2) (rngO st.v (Int.ofNat k)) (frO st.esF st.epf sla)
abbrev Hf0 (st : StG) (F' : FT) : Prop := ∀ (y : EndG) (N' t' : Nat), Bd y.s0 y.s1 → F' (.ok .next) (y.ol st #[] #[]) N' t' (chL #[] st.v2 st.v3)
abbrev Hf01 (st : StG) (F' : FT) : Prop := ∀ (y : EndG) (xa N' t' : Nat), Bd y.s0 y.s1 → F' (.ok .next) (y.ol st (rdyG st.ga) (rdyS st.z.e)) N' t' (chL (tabX xa) st.v2 st.v3)
abbrev Hf1 (st : StG) (xa : Nat) (F' : FT) : Prop := ∀ (y : EndG) (o : Obj) (N' t' : Nat), Bd y.s0 y.s1 → F' (.ok .next) (y.ol st (rdyG st.ga) (rdyS st.z.e) ++ [(xa, o)]) N' t' (chL (tabX xa) st.v2 st.v3)
def I_G1 (w : World) (k : Nat) : IX := fun X l Γ ch F' => ∃ (st : StG) (xa : Nat) (xq : XQ), l = listG 2 st k (rdyG st.ga) (rdyS st.z.e) ++ [(xa, codeX xq)] ∧ Γ = ΓG w.params st.ga st.z ∧ ch = chL (tabX xa) st.v2 st.v3 ∧ st.Ok X k ∧ Hf1 st xa F'
def I_G0 (w : World) (k : Nat) : IX := fun X l Γ ch F' => ∃ (st : StG) (s : Nat), s ≤ 2 ∧ l = listG s st k #[] #[] ∧ Γ = ΓG w.params st.ga st.z ∧ ch = chL #[] st.v2 st.v3 ∧ st.Ok X k ∧ Hf0 st F' ∧ Hf01 st F'
theorem StG.Ok.sub {st : StG} {X Y : XT} {k : Nat} (H : SubX X Y) (ok : st.Ok X k) : st.Ok Y k := ⟨ok.bd, ok.inv, ok.nu, ok.gm, ok.fi, ok.la, ok.tk, frozen_sub H ok.fr, ok.len, ok.td, ok.hl⟩
theorem I_G1_mono (w : World) (k : Nat) (X : XT) : MonoI (I_G1 w k X) := by
 intro l Γ ch F G H hI
 obtain ⟨st, xa, xq, h1, h2, h3, h4, h5⟩ := hI
 exact ⟨st, xa, xq, h1, h2, h3, h4, fun y o N' t' hb => H _ _ _ _ _ (h5 y o N' t' hb)⟩
theorem I_G1_monoX (w : World) (k : Nat) : MonoX (I_G1 w k) := by
 intro X Y H l Γ ch F hI
 obtain ⟨st, xa, xq, h1, h2, h3, h4, h5⟩ := hI
 exact ⟨st, xa, xq, h1, h2, h3, h4.sub H, h5⟩
theorem I_G0_mono (w : World) (k : Nat) (X : XT) : MonoI (I_G0 w k X) := by
 intro l Γ ch F G H hI
 obtain ⟨st, s, h0, h1, h2, h3, h4, h5, h6⟩ := hI
 exact ⟨st, s, h0, h1, h2, h3, h4, fun y N' t' hb => H _ _ _ _ _ (h5 y N' t' hb), fun y xa N' t' hb => H _ _ _ _ _ (h6 y xa N' t' hb)⟩
theorem I_G0_monoX (w : World) (k : Nat) : MonoX (I_G0 w k) := by
 intro X Y H l Γ ch F hI
 obtain ⟨st, s, h0, h1, h2, h3, h4, h5, h6⟩ := hI
 exact ⟨st, s, h0, h1, h2, h3, h4.sub H, h5, h6⟩
theorem tailG0 {w : World} {k : Nat} {X : XT} {lx : OL} {F' : FT} (st : StG) (s : Nat) (hs : s ≤ 2) (hlx : lx.length ≤ 10) (ok : st.Ok (exL X lx) k) (h0 : Hf0 st F') (h01 : Hf01 st F') : I_G0 w k (exL X lx) (listG s st k #[] #[]) (ΓG w.params st.ga st.z) (chL #[] st.v2 st.v3) (Fx 20 lx (KVof 20 F')) :=
 ⟨st, s, hs, rfl, rfl, rfl, ok, fun y N' t' hb => tail_take (Nat.le_refl 20) (by show 20 + lx.length ≤ 62; omega) (h0 y N' t' hb), fun y xa N' t' hb => tail_take (Nat.le_refl 20) (by show 20 + lx.length ≤ 62; omega) (h01 y xa N' t' hb)⟩
theorem tailG01 {w : World} {k : Nat} {X : XT} {lx : OL} {F' : FT} {xa : Nat} {xq : XQ} (st : StG) (hlx : lx.length ≤ 10) (ok : st.Ok (exL X lx) k) (h01 : Hf01 st F') : I_G1 w k (exL X lx) (listG 2 st k (rdyG st.ga) (rdyS st.z.e) ++ [(xa, codeX xq)]) (ΓG w.params st.ga st.z) (chL (tabX xa) st.v2 st.v3) (Fx 20 lx (KVof 20 F')) :=
 ⟨st, xa, xq, rfl, rfl, rfl, ok, fun y o N' t' hb => tail_take (Nat.le_succ 20) (by show 21 + lx.length ≤ 62; omega) (h01 y xa N' t' hb)⟩
theorem tailG1 {w : World} {k : Nat} {X : XT} {lx : OL} {F' : FT} {xa : Nat} {xq : XQ} (st : StG) (hlx : lx.length ≤ 10) (ok : st.Ok (exL X lx) k) (h1 : Hf1 st xa F') : I_G1 w k (exL X lx) (listG 2 st k (rdyG st.ga) (rdyS st.z.e) ++ [(xa, codeX xq)]) (ΓG w.params st.ga st.z) (chL (tabX xa) st.v2 st.v3) (Fx 21 lx (KVof 21 F')) :=
 ⟨st, xa, xq, rfl, rfl, rfl, ok, fun y o N' t' hb => tail_take (Nat.le_refl 21) (by show 21 + lx.length ≤ 62; omega) (h1 y o N' t' hb)⟩
theorem upS_le {s : Nat} (h : s ≤ 2) : upS s ≤ 2 := by
 rcases (show s = 0 ∨ s = 1 ∨ s = 2 by omega) with rfl | rfl | rfl <;> decide
theorem ofN (k : Nat) : Int.ofNat (k + 1) - 1 = Int.ofNat k := by show ((k + 1 : Nat) : Int) - 1 = (k : Int); omega
section
variable {st : StG} {X : XT} {k : Nat} (ok : st.Ok X (k + 1))
include ok
theorem StG.Ok.down (gx : GX) {F : Int} (f1 : 30 ≤ F) (f2 : F ≤ 29 + (st.m : Int)) {s0 s1 : Int} (u0 u1 tF tG ept : Nat) (hb : Bd s0 s1) (v : Int) : ({ st with gx := gx, F := F, tF := tF, tG := tG, ept := ept, s0 := s0, u0 := u0, s1 := s1, u1 := u1, v := v } : StG).Ok (exL X []) k :=
 ⟨hb, ok.inv.follow f1 f2, ok.nu, ok.gm, ok.fi, ok.la, ok.tk, ok.fr, by have := ok.len; show st.us.length + k ≤ 100; omega, ok.td, ok.hl⟩
theorem StG.Ok.listen (gx : GX) {n : Int} {t t' b : Nat} {v : Value} (hb : hasB n st.us = false) (hX : X b = none) {s0 s1 : Int} (u0 u1 epl e1 : Nat) (hbd : Bd s0 s1) (v' : Int) : ({ st with gx := gx, epl := epl, e1 := e1, us := st.us ++ [.int n t'], xs := st.xs ++ [([0, n], b, v)], s0 := s0, u0 := u0, s1 := s1, u1 := u1, v := v' } : StG).Ok (exL X [(b, tupO #[.int 0 t, .int n t'] 0)]) k := by
 refine ⟨hbd, ok.inv.listen, ?_, ok.gm, ok.fi, ok.la, ok.tk, frozen_push ok.fr hX, by have := ok.len; show (st.us ++ [_]).length + k ≤ 100; simp; omega, ok.td, ok.hl⟩
 show ((st.us ++ [Value.int n t']).map kI).Nodup
 rw [List.map_append, List.nodup_append]
 refine ⟨ok.nu, by simp, fun a ha b hbb q => ?_⟩
 subst q
 have : a = n := by simpa [kI] using hbb
 subst this
 rw [hasB_iff.mpr ha] at hb; cases hb
theorem StG.Ok.hold (gx : GX) {g : Int} {t : Nat} (g1 : 30 ≤ g) (g2 : g ≤ 29 + (st.m : Int)) (hh : hasB g st.hs = false) {s0 s1 : Int} (u0 u1 tF tG ept e2 tu : Nat) (hb : Bd s0 s1) (v : Int) {F : Int} (hF : F = beh 30 (29 + (st.m : Int)) g) : ({ st with gx := gx, F := F, tF := tF, tG := tG, ept := ept, e2 := e2, es := st.es.push (takE g tu), hs := st.hs ++ [.int g t], s0 := s0, u0 := u0, s1 := s1, u1 := u1, v := v } : StG).Ok (exL X []) k := by
 have h4 := ok.tks
 subst hF
 refine ⟨hb, ok.inv.hold g1 g2 hh, ok.nu, ok.gm, ok.fi, ok.la, ?_, ok.fr, by have := ok.len; show st.us.length + k ≤ 100; omega, ok.td, ok.hl⟩
 show TakOk (st.es.push (takE g tu)) ((st.hs ++ [Value.int g t]).map kI)
 rw [List.map_append]
 exact ok.tk.push (by omega) g tu
theorem StG.Ok.srtD {es : Array DictEntry} {D : List Int} (tk : TakOk es D) (h4 : es.size ≤ 4) (e : Nat) : P_srt [(st.xp.td, dictO es e)] (cSrt st.xp.td) := by
 obtain ⟨a, ha⟩ := ok.td
 exact ⟨a, dictO es e, by rw [ha], by rw [ha], .inr ⟨es, e, D, rfl, tk, h4⟩⟩
theorem StG.Ok.srtL {o : Obj} {l : List Value} {e : Nat} (ho : o = lstE ⟨l⟩ e) (ha : allI l) (h4 : l.length ≤ 4) : P_srt [(st.ga.hl, o)] (cSrt st.ga.hl) := by
 obtain ⟨a, hla⟩ := ok.hl
 exact ⟨a, o, by rw [hla], by rw [hla], .inl ⟨l, e, ho, ha, h4⟩⟩
end
theorem srt_same {es : Array DictEntry} {D : List Int} {l : List Value} (tk : TakOk es D) (hD : D = l.map kI) {a b e e' : Nat} {o : Obj} (ho : o = lstE ⟨l⟩ e') {ya yb : YSt} (ha : Post_srt [(a, dictO es e)] ya) (hb : Post_srt [(b, o)] yb) : chkEq ⟨ya.L⟩ ⟨yb.L⟩ true = true := by
 obtain ⟨a1, a2, a3⟩ := ha
 obtain ⟨b1, b2, b3⟩ := hb
 subst ho
 have a2 : (ya.L.map kI).Perm (es.toList.map keyV) := a2
 have b2 : (yb.L.map kI).Perm (l.map kI) := b2
 rw [tk.ks] at a2
 rw [← hD] at b2
 exact sorted_same a1 b1 a2 b2 a3 b3
theorem bneF {a b : Int} (h : a = b) : (a != b) = false := by subst h; simp
theorem pathL_0 {w : World} {k t0 : Nat} {X : XT} {F' : FT} (st : StG) (ok : st.Ok X (k + 1)) {s : Nat} (hs : s ≤ 2) (h0 : Hf0 st F') (h01 : Hf01 st F') {r1 : Int} {N1 t1 N2 t2 : Nat} {sb0 : Int} {ub0 : Nat} {sb1 : Int} {ub1 : Nat} (hb : Bd sb0 sb1) {r2 : Int} (h2 : r2 = 0) (hx : hasB (29 + r1) st.us = false) : pL_0 w N t0 st.ept st.epl st.e1 st.e2 st.epf st.ga st.gx st.kf st.xp st.z st.F st.v st.tF st.F st.tG s k st.es st.xs ⟨st.us⟩ ⟨st.hs⟩ st.esF X st.v2 st.v3 (I_G0 w k) (KVof 20 F') r1 r2 N1 t1 N2 t2 sb0 ub0 sb1 ub1 := by
 refine ⟨accL_ok _ _ _ okNil, ⟨chkLe_of (by have := ok.len; omega), chkIn_of ok.inv.au hx, by rw [h2]; rfl, trivial⟩, ⟨st.xs, ok.lis, (idx_used _ _ _ ok.inv.ux).trans hx⟩, accL_ok _ _ _ okNil, trivial, ⟨st.xs, ok.lis, idx_none ok.inv.ux hx⟩, accL_ok _ _ _ okNil, trivial, fun hno => ?_⟩
 rw [ofN, push_lst, esX_push]
 exact tailG0 (X := X) _ (upS s) (upS_le hs) (by show (1 : Nat) ≤ 10; decide) (ok.listen (gxL w s st.gx t0 t1 (.int st.v (t0 + 1)) (numP r1 t1)) (t := t2 + 3) (t' := t1 + 1) hx hno.1 ub0 ub1 (st.epl + 1) (st.e1 + 1) hb (st.v + 1)) h0 h01
theorem pathH_0 {w : World} {k t0 : Nat} {X : XT} {F' : FT} (st : StG) (ok : st.Ok X (k + 1)) {s : Nat} (hs : s ≤ 2) (h0 : Hf0 st F') (h01 : Hf01 st F') {r1 : Int} {N1 t1 N2 t2 : Nat} {sb0 : Int} {ub0 : Nat} {sb1 : Int} {ub1 : Nat} (hb : Bd sb0 sb1) {N3 t3 N4 t4 N5 t5 : Nat} {L : List Value} {y3 : YO} (hL : L.map kI = rowI st.F (st.m : Int) 0 st.m) (hg : filtO st.us (filtO st.hs L) = .int y3.g y3.tg :: y3.L) (hne : filtO st.hs L ≠ []) : pH_0 w N t0 st.ept st.epl st.e1 st.e2 st.epf st.ga st.gx st.kf st.xp st.z st.F st.v st.tF s k st.es st.xs ⟨st.us⟩ ⟨st.hs⟩ st.esF X st.v2 st.v3 (I_G0 w k) (KVof 20 F') (cPO w st) (cQO st) P_srt Post_srt r1 N1 t1 N2 t2 N3 t3 N4 t4 N5 t5 sb0 ub0 sb1 ub1 y3 := by
 obtain ⟨op, g1, g2, hh⟩ := ok.inv.good_some hL hg
 have h4 := ok.tks
 have hpl : pushO (.int y3.g y3.tg) (lstE ⟨st.hs⟩ st.e2) = lstE ⟨st.hs ++ [.int y3.g y3.tg]⟩ (st.e2 + 1) := push_lst _ _ _
 have hall : allI (st.hs ++ [Value.int y3.g y3.tg]) := (ok.inv.hold (t := y3.tg) g1 g2 hh).ah
 have hl4 : (st.hs ++ [Value.int y3.g y3.tg]).length ≤ 4 := by
  have := (ok.inv.hold (t := y3.tg) g1 g2 hh).len
  have := ok.inv.m4
  omega
 refine ⟨accL_ok _ _ _ okNil, ⟨ok.rg, rfl, rfl, trivial⟩, ⟨⟨ok.fr, pair_is ok.inv.ux, by have := len_is ok.inv.ux; have := ok.len; omega⟩, _, _, st.ept, st.epl, st.tF, st.kf, _, 0, .none, .none, false, by rw [ok.len_eq], rfl, ok.tk, by omega, by rw [ok.fi]; exact ok.inv.f1, by rw [ok.la]; exact ok.inv.f2, by rw [ok.fi, ok.la]; have := ok.inv.m4; omega, fun n n1 n2 => ?_⟩, ⟨trivial, fun y4 N6 t6 hp => ?_⟩, fun y4 N6 t6 hp => ?_⟩
 ·rw [ok.mO, ok.fi, ok.la]
  exact ok.inv.free_some hL hne n (by rw [ok.fi] at n1; exact n1) (by rw [ok.la] at n2; exact n2)
 ·obtain ⟨hu, hfo⟩ : Op (st.hs.map kI) st.xs st.xp.first st.xp.last (mO st.xp) (mO st.xp) st.F = some y4.u ∧ y4.fo = beh st.xp.first st.xp.last y4.u := hp
  rw [ok.mO, ok.fi, ok.la, op] at hu
  have hu : y4.u = y3.g := (Option.some.inj hu).symm
  rw [ok.fi, ok.la, hu] at hfo
  have hnf : 30 + (y3.g - 29).fmod st.ga.m = y4.fo := by rw [ok.gm, hfo]; exact beh_next ok.inv.m1 ok.inv.m4 g1 g2
  have tk' : TakOk (st.es.push (takE y4.u y4.tu)) (st.hs.map kI ++ [y4.u]) := ok.tk.push (by omega) _ _
  have h5 : (st.es.push (takE y4.u y4.tu)).size ≤ 4 := by
   have := congrArg List.length tk'.ks
   simp only [List.length_map, List.length_append, List.length_cons, List.length_nil] at this hl4
   have e : (st.es.push (takE y4.u y4.tu)).size = (st.es.push (takE y4.u y4.tu)).toList.length := rfl
   omega
  refine ⟨accL_ok _ _ _ okNil, ⟨chk0_ge (by rw [ok.gm]; have := ok.inv.m1; omega), chkLe_of (by omega), bneF hu, trivial⟩, ok.srtD tk' h5 _, fun ya Na ta aa hya => ⟨accL_ok _ _ _ okNil, trivial, ok.srtL hpl hall hl4, fun yb Nb tb ab hyb => ⟨accL_ok _ _ _ okNil, ⟨bneF hnf.symm, srt_same tk' (by rw [hu, List.map_append]; rfl) hpl hya hyb, trivial⟩, ?_⟩⟩⟩
  rw [ofN, hnf, hpl, hu]
  exact tailG0 (X := X) _ 2 (by decide) (by show (0 : Nat) ≤ 10; decide) (ok.hold (gxF w s st.gx t0 t1 t3 t4 t5 (.int st.v (t0 + 1)) (numP r1 t1) (.ref (N2 + 1723 + 3)) (.ref (N3 + 1723 + 1)) (.ref (N4 + 1723 + 1))) (t := y3.tg) g1 g2 hh ub0 ub1 y4.tf (t6 + 8) y4.e' (st.e2 + 1) y4.tu hb (st.v + 1) hfo) h0 h01
 ·have hq : Op (st.hs.map kI) st.xs st.xp.first st.xp.last (mO st.xp) (mO st.xp) st.F = none := hp.1
  rw [ok.mO, ok.fi, ok.la, op] at hq
  cases hq
theorem pathN_0 {w : World} {k t0 : Nat} {X : XT} {F' : FT} (st : StG) (ok : st.Ok X (k + 1)) {s : Nat} (hs : s ≤ 2) (h0 : Hf0 st F') (h01 : Hf01 st F') {r1 : Int} {N1 t1 N2 t2 : Nat} {sb0 : Int} {ub0 : Nat} {sb1 : Int} {ub1 : Nat} (hb : Bd sb0 sb1) {N3 t3 N4 t4 N5 t5 : Nat} {L : List Value} (hL : L.map kI = rowI st.F (st.m : Int) 0 st.m) (hf : filtO st.hs L = []) : pN_0 w N t0 st.ept st.epl st.e1 st.e2 st.epf st.ga st.gx st.kf st.xp st.z st.F st.v st.tF s k st.es st.xs ⟨st.us⟩ ⟨st.hs⟩ st.esF X st.v2 st.v3 (I_G1 w k) (KVof 20 F') P_srt Post_srt (cPN w st) (cQN st) r1 N1 t1 N2 t2 N3 t3 N4 t4 N5 t5 sb0 ub0 sb1 ub1 := by
 have h4 := ok.tks
 refine ⟨accL_ok _ _ _ okNil, ⟨ok.rg, rfl, rfl, trivial⟩, by rw [ok.len_eq, ok.mO]; have := ok.inv.m1; show (0 : Int) < (st.m : Int); omega, .inr ⟨accL_ok _ _ _ okNil, ⟨ok.rg, rfl, trivial⟩, ⟨_, _, st.ept, st.tF, st.xp, _, 0, _, .int st.F st.tF, st.es, rfl, rfl, ok.tk, rfl, rfl, ok.len_eq⟩, ⟨trivial, fun y4 N6 t6 hp => ?_⟩, fun y4 N6 t6 hp => ?_⟩⟩
 ·have hq : Nf (st.hs.map kI) st.xp.first st.xp.last (mO st.xp) st.F = some y4.u := hp.1
  rw [ok.mO, ok.fi, ok.la] at hq
  exact absurd hq (ok.inv.free_none hL hf)
 ·refine ⟨accL_ok _ _ _ okNil, trivial, ok.srtD ok.tk h4.1 _, fun ya Na ta aa hya => ⟨accL_ok _ _ _ okNil, trivial, ok.srtL rfl ok.inv.ah h4.2, fun yb Nb tb ab hyb => ⟨accL_ok _ _ _ okNil, ⟨bneF rfl, srt_same ok.tk rfl rfl hya hyb, trivial⟩, ?_⟩⟩⟩
  rw [ofN]
  exact tailG01 (X := X) _ (by show (0 : Nat) ≤ 10; decide) (ok.down (gxF w s st.gx t0 t1 t3 t4 t5 (.int st.v (t0 + 1)) (numP r1 t1) (.ref (N2 + 1723 + 3)) (.ref (N3 + 1723 + 1)) (.ref (N4 + 1723 + 1))) ok.inv.f1 ok.inv.f2 ub0 ub1 st.tF st.tF st.ept hb (st.v + 1)) h01
theorem pathU_0 {w : World} {k t0 : Nat} {X : XT} {F' : FT} (st : StG) (ok : st.Ok X (k + 1)) {s : Nat} (hs : s ≤ 2) (h0 : Hf0 st F') (h01 : Hf01 st F') {r1 : Int} {N1 t1 N2 t2 : Nat} {sb0 : Int} {ub0 : Nat} {sb1 : Int} {ub1 : Nat} (hb : Bd sb0 sb1) {N3 t3 N4 t4 N5 t5 : Nat} {L : List Value} (hL : L.map kI = rowI st.F (st.m : Int) 0 st.m) (hg : filtO st.us (filtO st.hs L) = []) (hne : filtO st.hs L ≠ []) : pU_0 w N t0 st.ept st.epl st.e1 st.e2 st.epf st.ga st.gx st.kf st.xp st.z st.F st.v st.tF st.F st.tG s k st.es st.xs ⟨st.us⟩ ⟨st.hs⟩ st.esF X st.v2 st.v3 (I_G1 w k) (KVof 20 F') (cPO w st) (cQO st) P_srt Post_srt r1 N1 t1 N2 t2 N3 t3 N4 t4 N5 t5 sb0 ub0 sb1 ub1 := by
 have h4 := ok.tks
 refine ⟨accL_ok _ _ _ okNil, ⟨ok.rg, rfl, rfl, trivial⟩, ⟨⟨ok.fr, pair_is ok.inv.ux, by have := len_is ok.inv.ux; have := ok.len; omega⟩, _, _, st.ept, st.epl, st.tF, st.kf, _, 0, .none, .none, false, by rw [ok.len_eq], rfl, ok.tk, by omega, by rw [ok.fi]; exact ok.inv.f1, by rw [ok.la]; exact ok.inv.f2, by rw [ok.fi, ok.la]; have := ok.inv.m4; omega, fun n n1 n2 => ?_⟩, ⟨trivial, fun y4 N6 t6 hp => ?_⟩, fun y4 N6 t6 hp => ?_⟩
 ·rw [ok.mO, ok.fi, ok.la]
  exact ok.inv.free_some hL hne n (by rw [ok.fi] at n1; exact n1) (by rw [ok.la] at n2; exact n2)
 ·have hq : Op (st.hs.map kI) st.xs st.xp.first st.xp.last (mO st.xp) (mO st.xp) st.F = some y4.u := hp.1
  rw [ok.mO, ok.fi, ok.la] at hq
  exact absurd hq (ok.inv.good_none hL hg)
 ·obtain ⟨_, f1, f2⟩ : Op (st.hs.map kI) st.xs st.xp.first st.xp.last (mO st.xp) (mO st.xp) st.F = none ∧ st.xp.first ≤ y4.fo ∧ y4.fo ≤ st.xp.last := hp
  rw [ok.fi] at f1
  rw [ok.la] at f2
  refine ⟨accL_ok _ _ _ okNil, trivial, ok.srtD ok.tk h4.1 _, fun ya Na ta aa hya => ⟨accL_ok _ _ _ okNil, trivial, ok.srtL rfl ok.inv.ah h4.2, fun yb Nb tb ab hyb => ⟨accL_ok _ _ _ okNil, ⟨bneF rfl, srt_same ok.tk rfl rfl hya hyb, trivial⟩, ?_⟩⟩⟩
  rw [ofN]
  exact tailG01 (X := X) _ (by show (0 : Nat) ≤ 10; decide) (ok.down (gxF w s st.gx t0 t1 t3 t4 t5 (.int st.v (t0 + 1)) (numP r1 t1) (.ref (N2 + 1723 + 3)) (.ref (N3 + 1723 + 1)) (.ref (N4 + 1723 + 1))) f1 f2 ub0 ub1 y4.tf y4.tf y4.e' hb (st.v + 1)) h01
theorem pathK_0 {w : World} {k t0 : Nat} {X : XT} {F' : FT} (st : StG) (ok : st.Ok X (k + 1)) {s : Nat} (hs : s ≤ 2) (h0 : Hf0 st F') (h01 : Hf01 st F') {r1 : Int} {N1 t1 N2 t2 : Nat} {sb0 : Int} {ub0 : Nat} {sb1 : Int} {ub1 : Nat} (hb : Bd sb0 sb1) {r2 : Int} (h2 : r2 ≠ 0) : pK_0 w N t0 st.ept st.epl st.e1 st.e2 st.epf st.ga st.gx st.kf st.xp st.z st.F st.v st.tF st.F st.tG s k st.es st.xs ⟨st.us⟩ ⟨st.hs⟩ st.esF X st.v2 st.v3 (I_G0 w k) (I_G1 w k) (KVof 20 F') (P_row w) Post_row (cPO w st) (cQO st) P_srt Post_srt (cPN w st) (cQN st) (P_not false true) Post_fr (P_not true false) Post_go2 r1 r2 N1 t1 N2 t2 sb0 ub0 sb1 ub1 := by
 have m1 := ok.inv.m1
 have m4 := ok.inv.m4
 refine fun _ => ⟨accL_ok _ _ _ okNil, ⟨ok.rgm, rfl, rfl, beq_false_of_ne h2, trivial⟩, ⟨_, _, _, _, _, 0, 0, st.tG, st.ga.tm, st.F, st.ga.m, _, rfl, rfl, by rw [ok.gm]; omega, by rw [ok.gm]; omega⟩, trivial, fun y1 N3 t3 q1 _ => ?_⟩
 obtain ⟨a1, r1'⟩ : allI y1.L ∧ y1.L.map kI = rowI st.F st.ga.m 0 st.ga.m.toNat := q1
 rw [ok.gm, show ((st.m : Int)).toNat = st.m from Int.toNat_natCast _] at r1'
 obtain ⟨rn, rl⟩ := rowI_any m1 r1'
 refine ⟨accL_ok _ _ _ okNil, trivial, ⟨_, _, _, _, _, _, y1.ep2, 0, st.e2, 0, y1.L, st.hs, _, _, rfl, rfl, a1, ok.inv.ah, by omega, fun _ => rn⟩, trivial, fun y2 N4 t4 q2 _ => ?_⟩
 have q2 : y2.L = filtO st.hs y1.L := q2
 have a2 : allI y2.L := by rw [q2]; exact filtO_allI a1
 have l2 : y2.L.length ≤ 100 := by
  rw [q2]
  have : (filtO st.hs y1.L).length ≤ y1.L.length := List.length_filter_le _ _
  omega
 refine ⟨accL_ok _ _ _ okNil, trivial, ⟨_, _, _, _, _, _, y2.ep2, 0, st.e1, 0, y2.L, st.us, _, _, rfl, rfl, a2, ok.inv.au, l2, fun q => by cases q⟩, ⟨⟨trivial, fun y3 N5 t5 q3 => ?_⟩, fun y3 N5 t5 q3 => ?_⟩, fun y3 N5 t5 q3 => ?_⟩
 ·have e : y2.L = [] := q3.2.1 rfl
  exact pathN_0 st ok hs h0 h01 hb r1' (by rw [← q2]; exact e)
 ·have e : y2.L ≠ [] := q3.2.2 rfl
  have g : filtO st.us y2.L = [] := q3.1
  exact pathU_0 st ok hs h0 h01 hb r1' (by rw [← q2]; exact g) (by rw [← q2]; exact e)
 ·have g : filtO st.us y2.L = .int y3.g y3.tg :: y3.L := q3.1
  exact pathH_0 st ok hs h0 h01 hb r1' (by rw [← q2]; exact g) (by rw [← q2]; intro e; rw [e] at g; cases g)
theorem pathW_0 {w : World} {k t0 : Nat} {X : XT} {F' : FT} (st : StG) (ok : st.Ok X (k + 1)) {s : Nat} (hs : s ≤ 2) (h0 : Hf0 st F') (h01 : Hf01 st F') {r1 : Int} {N1 t1 N2 t2 : Nat} {sb0 : Int} {ub0 : Nat} {sb1 : Int} {ub1 : Nat} (hb : Bd sb0 sb1) {r2 : Int} (h2 : r2 = 0) (hx : hasB (29 + r1) st.us = true) : pW_0 w N t0 st.ept st.epl st.e1 st.e2 st.epf st.ga st.gx st.kf st.xp st.z st.F st.v st.tF st.F st.tG s k st.es st.xs ⟨st.us⟩ ⟨st.hs⟩ st.esF X st.v2 st.v3 (I_G0 w k) (I_G1 w k) (KVof 20 F') (P_row w) Post_row (cPO w st) (cQO st) P_srt Post_srt (cPN w st) (cQN st) (P_not false true) Post_fr (P_not true false) Post_go2 r1 r2 N1 t1 N2 t2 sb0 ub0 sb1 ub1 := by
 have m1 := ok.inv.m1
 have m4 := ok.inv.m4
 refine fun _ => ⟨accL_ok _ _ _ okNil, ⟨ok.rgm, rfl, rfl, chkIn_of ok.inv.au hx, by rw [h2]; rfl, trivial⟩, ⟨_, _, _, _, _, 0, 0, st.tG, st.ga.tm, st.F, st.ga.m, _, rfl, rfl, by rw [ok.gm]; omega, by rw [ok.gm]; omega⟩, trivial, fun y1 N3 t3 q1 _ => ?_⟩
 obtain ⟨a1, r1'⟩ : allI y1.L ∧ y1.L.map kI = rowI st.F st.ga.m 0 st.ga.m.toNat := q1
 rw [ok.gm, show ((st.m : Int)).toNat = st.m from Int.toNat_natCast _] at r1'
 obtain ⟨rn, rl⟩ := rowI_any m1 r1'
 refine ⟨accL_ok _ _ _ okNil, trivial, ⟨_, _, _, _, _, _, y1.ep2, 0, st.e2, 0, y1.L, st.hs, _, _, rfl, rfl, a1, ok.inv.ah, by omega, fun _ => rn⟩, trivial, fun y2 N4 t4 q2 _ => ?_⟩
 have q2 : y2.L = filtO st.hs y1.L := q2
 have a2 : allI y2.L := by rw [q2]; exact filtO_allI a1
 have l2 : y2.L.length ≤ 100 := by
  rw [q2]
  have : (filtO st.hs y1.L).length ≤ y1.L.length := List.length_filter_le _ _
  omega
 refine ⟨accL_ok _ _ _ okNil, trivial, ⟨_, _, _, _, _, _, y2.ep2, 0, st.e1, 0, y2.L, st.us, _, _, rfl, rfl, a2, ok.inv.au, l2, fun q => by cases q⟩, ⟨⟨trivial, fun y3 N5 t5 q3 => ?_⟩, fun y3 N5 t5 q3 => ?_⟩, fun y3 N5 t5 q3 => ?_⟩
 ·have e : y2.L = [] := q3.2.1 rfl
  exact pathN_0 st ok hs h0 h01 hb r1' (by rw [← q2]; exact e)
 ·have e : y2.L ≠ [] := q3.2.2 rfl
  have g : filtO st.us y2.L = [] := q3.1
  exact pathU_0 st ok hs h0 h01 hb r1' (by rw [← q2]; exact g) (by rw [← q2]; exact e)
 ·have g : filtO st.us y2.L = .int y3.g y3.tg :: y3.L := q3.1
  exact pathH_0 st ok hs h0 h01 hb r1' (by rw [← q2]; exact g) (by rw [← q2]; intro e; rw [e] at g; cases g)
theorem pathL_1 {w : World} {k t0 : Nat} {X : XT} {F' : FT} {xa : Nat} {xq : XQ} (st : StG) (ok : st.Ok X (k + 1)) (h1 : Hf1 st xa F') {r1 : Int} {N1 t1 N2 t2 : Nat} {sb0 : Int} {ub0 : Nat} {sb1 : Int} {ub1 : Nat} (hb : Bd sb0 sb1) {r2 : Int} (h2 : r2 = 0) (hx : hasB (29 + r1) st.us = false) : pL_1 w N t0 st.ept st.epl st.e1 st.e2 st.epf st.ga st.gx st.kf st.xp st.z st.F st.v st.tF st.F st.tG xa xq k st.es st.xs ⟨st.us⟩ ⟨st.hs⟩ st.esF X st.v2 st.v3 (I_G1 w k) (KVof 21 F') r1 r2 N1 t1 N2 t2 sb0 ub0 sb1 ub1 := by
 refine ⟨accL_ok _ _ _ okNil, ⟨chkLe_of (by have := ok.len; omega), chkIn_of ok.inv.au hx, by rw [h2]; rfl, trivial⟩, ⟨st.xs, ok.lis, (idx_used _ _ _ ok.inv.ux).trans hx⟩, accL_ok _ _ _ okNil, trivial, ⟨st.xs, ok.lis, idx_none ok.inv.ux hx⟩, accL_ok _ _ _ okNil, trivial, fun hno => ?_⟩
 rw [ofN, push_lst, esX_push]
 exact tailG1 (X := X) _ (by show (1 : Nat) ≤ 10; decide) (ok.listen (gxL w 2 st.gx t0 t1 (.int st.v (t0 + 1)) (numP r1 t1)) (t := t2 + 3) (t' := t1 + 1) hx hno.1 ub0 ub1 (st.epl + 1) (st.e1 + 1) hb (st.v + 1)) h1
theorem pathH_1 {w : World} {k t0 : Nat} {X : XT} {F' : FT} {xa : Nat} {xq : XQ} (st : StG) (ok : st.Ok X (k + 1)) (h1 : Hf1 st xa F') {r1 : Int} {N1 t1 N2 t2 : Nat} {sb0 : Int} {ub0 : Nat} {sb1 : Int} {ub1 : Nat} (hb : Bd sb0 sb1) {N3 t3 N4 t4 N5 t5 : Nat} {L : List Value} {y3 : YO} (hL : L.map kI = rowI st.F (st.m : Int) 0 st.m) (hg : filtO st.us (filtO st.hs L) = .int y3.g y3.tg :: y3.L) (hne : filtO st.hs L ≠ []) : pH_1 w N t0 st.ept st.epl st.e1 st.e2 st.epf st.ga st.gx st.kf st.xp st.z st.F st.v st.tF xa xq k st.es st.xs ⟨st.us⟩ ⟨st.hs⟩ st.esF X st.v2 st.v3 (I_G1 w k) (KVof 21 F') (cPO w st) (cQO st) P_srt Post_srt r1 N1 t1 N2 t2 N3 t3 N4 t4 N5 t5 sb0 ub0 sb1 ub1 y3 := by
 obtain ⟨op, g1, g2, hh⟩ := ok.inv.good_some hL hg
 have h4 := ok.tks
 have hpl : pushO (.int y3.g y3.tg) (lstE ⟨st.hs⟩ st.e2) = lstE ⟨st.hs ++ [.int y3.g y3.tg]⟩ (st.e2 + 1) := push_lst _ _ _
 have hall : allI (st.hs ++ [Value.int y3.g y3.tg]) := (ok.inv.hold (t := y3.tg) g1 g2 hh).ah
 have hl4 : (st.hs ++ [Value.int y3.g y3.tg]).length ≤ 4 := by
  have := (ok.inv.hold (t := y3.tg) g1 g2 hh).len
  have := ok.inv.m4
  omega
 refine ⟨accL_ok _ _ _ okNil, ⟨ok.rg, rfl, rfl, trivial⟩, ⟨⟨ok.fr, pair_is ok.inv.ux, by have := len_is ok.inv.ux; have := ok.len; omega⟩, _, _, st.ept, st.epl, st.tF, st.kf, _, 0, .none, .none, false, by rw [ok.len_eq], rfl, ok.tk, by omega, by rw [ok.fi]; exact ok.inv.f1, by rw [ok.la]; exact ok.inv.f2, by rw [ok.fi, ok.la]; have := ok.inv.m4; omega, fun n n1 n2 => ?_⟩, ⟨trivial, fun y4 N6 t6 hp => ?_⟩, fun y4 N6 t6 hp => ?_⟩
 ·rw [ok.mO, ok.fi, ok.la]
  exact ok.inv.free_some hL hne n (by rw [ok.fi] at n1; exact n1) (by rw [ok.la] at n2; exact n2)
 ·obtain ⟨hu, hfo⟩ : Op (st.hs.map kI) st.xs st.xp.first st.xp.last (mO st.xp) (mO st.xp) st.F = some y4.u ∧ y4.fo = beh st.xp.first st.xp.last y4.u := hp
  rw [ok.mO, ok.fi, ok.la, op] at hu
  have hu : y4.u = y3.g := (Option.some.inj hu).symm
  rw [ok.fi, ok.la, hu] at hfo
  have hnf : 30 + (y3.g - 29).fmod st.ga.m = y4.fo := by rw [ok.gm, hfo]; exact beh_next ok.inv.m1 ok.inv.m4 g1 g2
  have tk' : TakOk (st.es.push (takE y4.u y4.tu)) (st.hs.map kI ++ [y4.u]) := ok.tk.push (by omega) _ _
  have h5 : (st.es.push (takE y4.u y4.tu)).size ≤ 4 := by
   have := congrArg List.length tk'.ks
   simp only [List.length_map, List.length_append, List.length_cons, List.length_nil] at this hl4
   have e : (st.es.push (takE y4.u y4.tu)).size = (st.es.push (takE y4.u y4.tu)).toList.length := rfl
   omega
  refine ⟨accL_ok _ _ _ okNil, ⟨chk0_ge (by rw [ok.gm]; have := ok.inv.m1; omega), chkLe_of (by omega), bneF hu, trivial⟩, ok.srtD tk' h5 _, fun ya Na ta aa hya => ⟨accL_ok _ _ _ okNil, trivial, ok.srtL hpl hall hl4, fun yb Nb tb ab hyb => ⟨accL_ok _ _ _ okNil, ⟨bneF hnf.symm, srt_same tk' (by rw [hu, List.map_append]; rfl) hpl hya hyb, trivial⟩, ?_⟩⟩⟩
  rw [ofN, hnf, hpl, hu]
  exact tailG1 (X := X) _ (by show (0 : Nat) ≤ 10; decide) (ok.hold (gxF w 2 st.gx t0 t1 t3 t4 t5 (.int st.v (t0 + 1)) (numP r1 t1) (.ref (N2 + 1723 + 3)) (.ref (N3 + 1723 + 1)) (.ref (N4 + 1723 + 1))) (t := y3.tg) g1 g2 hh ub0 ub1 y4.tf (t6 + 8) y4.e' (st.e2 + 1) y4.tu hb (st.v + 1) hfo) h1
 ·have hq : Op (st.hs.map kI) st.xs st.xp.first st.xp.last (mO st.xp) (mO st.xp) st.F = none := hp.1
  rw [ok.mO, ok.fi, ok.la, op] at hq
  cases hq
theorem pathN_1 {w : World} {k t0 : Nat} {X : XT} {F' : FT} {xa : Nat} {xq : XQ} (st : StG) (ok : st.Ok X (k + 1)) (h1 : Hf1 st xa F') {r1 : Int} {N1 t1 N2 t2 : Nat} {sb0 : Int} {ub0 : Nat} {sb1 : Int} {ub1 : Nat} (hb : Bd sb0 sb1) {N3 t3 N4 t4 N5 t5 : Nat} {L : List Value} (hL : L.map kI = rowI st.F (st.m : Int) 0 st.m) (hf : filtO st.hs L = []) : pN_1 w N t0 st.ept st.epl st.e1 st.e2 st.epf st.ga st.gx st.kf st.xp st.z st.F st.v st.tF xa xq k st.es st.xs ⟨st.us⟩ ⟨st.hs⟩ st.esF X st.v2 st.v3 (I_G1 w k) (KVof 21 F') P_srt Post_srt (cPN w st) (cQN st) r1 N1 t1 N2 t2 N3 t3 N4 t4 N5 t5 sb0 ub0 sb1 ub1 := by
 have h4 := ok.tks
 refine ⟨accL_ok _ _ _ okNil, ⟨ok.rg, rfl, rfl, trivial⟩, by rw [ok.len_eq, ok.mO]; have := ok.inv.m1; show (0 : Int) < (st.m : Int); omega, .inr ⟨accL_ok _ _ _ okNil, ⟨ok.rg, rfl, trivial⟩, ⟨_, _, st.ept, st.tF, st.xp, _, 0, _, .int st.F st.tF, st.es, rfl, rfl, ok.tk, rfl, rfl, ok.len_eq⟩, ⟨trivial, fun y4 N6 t6 hp => ?_⟩, fun y4 N6 t6 hp => ?_⟩⟩
 ·have hq : Nf (st.hs.map kI) st.xp.first st.xp.last (mO st.xp) st.F = some y4.u := hp.1
  rw [ok.mO, ok.fi, ok.la] at hq
  exact absurd hq (ok.inv.free_none hL hf)
 ·refine ⟨accL_ok _ _ _ okNil, trivial, ok.srtD ok.tk h4.1 _, fun ya Na ta aa hya => ⟨accL_ok _ _ _ okNil, trivial, ok.srtL rfl ok.inv.ah h4.2, fun yb Nb tb ab hyb => ⟨accL_ok _ _ _ okNil, ⟨bneF rfl, srt_same ok.tk rfl rfl hya hyb, trivial⟩, ?_⟩⟩⟩
  rw [ofN]
  exact tailG1 (X := X) _ (by show (0 : Nat) ≤ 10; decide) (ok.down (gxF w 2 st.gx t0 t1 t3 t4 t5 (.int st.v (t0 + 1)) (numP r1 t1) (.ref (N2 + 1723 + 3)) (.ref (N3 + 1723 + 1)) (.ref (N4 + 1723 + 1))) ok.inv.f1 ok.inv.f2 ub0 ub1 st.tF st.tF st.ept hb (st.v + 1)) h1
theorem pathU_1 {w : World} {k t0 : Nat} {X : XT} {F' : FT} {xa : Nat} {xq : XQ} (st : StG) (ok : st.Ok X (k + 1)) (h1 : Hf1 st xa F') {r1 : Int} {N1 t1 N2 t2 : Nat} {sb0 : Int} {ub0 : Nat} {sb1 : Int} {ub1 : Nat} (hb : Bd sb0 sb1) {N3 t3 N4 t4 N5 t5 : Nat} {L : List Value} (hL : L.map kI = rowI st.F (st.m : Int) 0 st.m) (hg : filtO st.us (filtO st.hs L) = []) (hne : filtO st.hs L ≠ []) : pU_1 w N t0 st.ept st.epl st.e1 st.e2 st.epf st.ga st.gx st.kf st.xp st.z st.F st.v st.tF st.F st.tG xa xq k st.es st.xs ⟨st.us⟩ ⟨st.hs⟩ st.esF X st.v2 st.v3 (I_G1 w k) (KVof 21 F') (cPO w st) (cQO st) P_srt Post_srt r1 N1 t1 N2 t2 N3 t3 N4 t4 N5 t5 sb0 ub0 sb1 ub1 := by
 have h4 := ok.tks
 refine ⟨accL_ok _ _ _ okNil, ⟨ok.rg, rfl, rfl, trivial⟩, ⟨⟨ok.fr, pair_is ok.inv.ux, by have := len_is ok.inv.ux; have := ok.len; omega⟩, _, _, st.ept, st.epl, st.tF, st.kf, _, 0, .none, .none, false, by rw [ok.len_eq], rfl, ok.tk, by omega, by rw [ok.fi]; exact ok.inv.f1, by rw [ok.la]; exact ok.inv.f2, by rw [ok.fi, ok.la]; have := ok.inv.m4; omega, fun n n1 n2 => ?_⟩, ⟨trivial, fun y4 N6 t6 hp => ?_⟩, fun y4 N6 t6 hp => ?_⟩
 ·rw [ok.mO, ok.fi, ok.la]
  exact ok.inv.free_some hL hne n (by rw [ok.fi] at n1; exact n1) (by rw [ok.la] at n2; exact n2)
 ·have hq : Op (st.hs.map kI) st.xs st.xp.first st.xp.last (mO st.xp) (mO st.xp) st.F = some y4.u := hp.1
  rw [ok.mO, ok.fi, ok.la] at hq
  exact absurd hq (ok.inv.good_none hL hg)
 ·obtain ⟨_, f1, f2⟩ : Op (st.hs.map kI) st.xs st.xp.first st.xp.last (mO st.xp) (mO st.xp) st.F = none ∧ st.xp.first ≤ y4.fo ∧ y4.fo ≤ st.xp.last := hp
  rw [ok.fi] at f1
  rw [ok.la] at f2
  refine ⟨accL_ok _ _ _ okNil, trivial, ok.srtD ok.tk h4.1 _, fun ya Na ta aa hya => ⟨accL_ok _ _ _ okNil, trivial, ok.srtL rfl ok.inv.ah h4.2, fun yb Nb tb ab hyb => ⟨accL_ok _ _ _ okNil, ⟨bneF rfl, srt_same ok.tk rfl rfl hya hyb, trivial⟩, ?_⟩⟩⟩
  rw [ofN]
  exact tailG1 (X := X) _ (by show (0 : Nat) ≤ 10; decide) (ok.down (gxF w 2 st.gx t0 t1 t3 t4 t5 (.int st.v (t0 + 1)) (numP r1 t1) (.ref (N2 + 1723 + 3)) (.ref (N3 + 1723 + 1)) (.ref (N4 + 1723 + 1))) f1 f2 ub0 ub1 y4.tf y4.tf y4.e' hb (st.v + 1)) h1
theorem pathK_1 {w : World} {k t0 : Nat} {X : XT} {F' : FT} {xa : Nat} {xq : XQ} (st : StG) (ok : st.Ok X (k + 1)) (h1 : Hf1 st xa F') {r1 : Int} {N1 t1 N2 t2 : Nat} {sb0 : Int} {ub0 : Nat} {sb1 : Int} {ub1 : Nat} (hb : Bd sb0 sb1) {r2 : Int} (h2 : r2 ≠ 0) : pK_1 w N t0 st.ept st.epl st.e1 st.e2 st.epf st.ga st.gx st.kf st.xp st.z st.F st.v st.tF st.F st.tG xa xq k st.es st.xs ⟨st.us⟩ ⟨st.hs⟩ st.esF X st.v2 st.v3 (I_G1 w k) (KVof 21 F') (P_row w) Post_row (cPO w st) (cQO st) P_srt Post_srt (cPN w st) (cQN st) (P_not false true) Post_fr (P_not true false) Post_go2 r1 r2 N1 t1 N2 t2 sb0 ub0 sb1 ub1 := by
 have m1 := ok.inv.m1
 have m4 := ok.inv.m4
 refine fun _ => ⟨accL_ok _ _ _ okNil, ⟨ok.rgm, rfl, rfl, beq_false_of_ne h2, trivial⟩, ⟨_, _, _, _, _, 0, 0, st.tG, st.ga.tm, st.F, st.ga.m, _, rfl, rfl, by rw [ok.gm]; omega, by rw [ok.gm]; omega⟩, trivial, fun y1 N3 t3 q1 _ => ?_⟩
 obtain ⟨a1, r1'⟩ : allI y1.L ∧ y1.L.map kI = rowI st.F st.ga.m 0 st.ga.m.toNat := q1
 rw [ok.gm, show ((st.m : Int)).toNat = st.m from Int.toNat_natCast _] at r1'
 obtain ⟨rn, rl⟩ := rowI_any m1 r1'
 refine ⟨accL_ok _ _ _ okNil, trivial, ⟨_, _, _, _, _, _, y1.ep2, 0, st.e2, 0, y1.L, st.hs, _, _, rfl, rfl, a1, ok.inv.ah, by omega, fun _ => rn⟩, trivial, fun y2 N4 t4 q2 _ => ?_⟩
 have q2 : y2.L = filtO st.hs y1.L := q2
 have a2 : allI y2.L := by rw [q2]; exact filtO_allI a1
 have l2 : y2.L.length ≤ 100 := by
  rw [q2]
  have : (filtO st.hs y1.L).length ≤ y1.L.length := List.length_filter_le _ _
  omega
 refine ⟨accL_ok _ _ _ okNil, trivial, ⟨_, _, _, _, _, _, y2.ep2, 0, st.e1, 0, y2.L, st.us, _, _, rfl, rfl, a2, ok.inv.au, l2, fun q => by cases q⟩, ⟨⟨trivial, fun y3 N5 t5 q3 => ?_⟩, fun y3 N5 t5 q3 => ?_⟩, fun y3 N5 t5 q3 => ?_⟩
 ·have e : y2.L = [] := q3.2.1 rfl
  exact pathN_1 st ok h1 hb r1' (by rw [← q2]; exact e)
 ·have e : y2.L ≠ [] := q3.2.2 rfl
  have g : filtO st.us y2.L = [] := q3.1
  exact pathU_1 st ok h1 hb r1' (by rw [← q2]; exact g) (by rw [← q2]; exact e)
 ·have g : filtO st.us y2.L = .int y3.g y3.tg :: y3.L := q3.1
  exact pathH_1 st ok h1 hb r1' (by rw [← q2]; exact g) (by rw [← q2]; intro e; rw [e] at g; cases g)
theorem pathW_1 {w : World} {k t0 : Nat} {X : XT} {F' : FT} {xa : Nat} {xq : XQ} (st : StG) (ok : st.Ok X (k + 1)) (h1 : Hf1 st xa F') {r1 : Int} {N1 t1 N2 t2 : Nat} {sb0 : Int} {ub0 : Nat} {sb1 : Int} {ub1 : Nat} (hb : Bd sb0 sb1) {r2 : Int} (h2 : r2 = 0) (hx : hasB (29 + r1) st.us = true) : pW_1 w N t0 st.ept st.epl st.e1 st.e2 st.epf st.ga st.gx st.kf st.xp st.z st.F st.v st.tF st.F st.tG xa xq k st.es st.xs ⟨st.us⟩ ⟨st.hs⟩ st.esF X st.v2 st.v3 (I_G1 w k) (KVof 21 F') (P_row w) Post_row (cPO w st) (cQO st) P_srt Post_srt (cPN w st) (cQN st) (P_not false true) Post_fr (P_not true false) Post_go2 r1 r2 N1 t1 N2 t2 sb0 ub0 sb1 ub1 := by
 have m1 := ok.inv.m1
 have m4 := ok.inv.m4
 refine fun _ => ⟨accL_ok _ _ _ okNil, ⟨ok.rgm, rfl, rfl, chkIn_of ok.inv.au hx, by rw [h2]; rfl, trivial⟩, ⟨_, _, _, _, _, 0, 0, st.tG, st.ga.tm, st.F, st.ga.m, _, rfl, rfl, by rw [ok.gm]; omega, by rw [ok.gm]; omega⟩, trivial, fun y1 N3 t3 q1 _ => ?_⟩
 obtain ⟨a1, r1'⟩ : allI y1.L ∧ y1.L.map kI = rowI st.F st.ga.m 0 st.ga.m.toNat := q1
 rw [ok.gm, show ((st.m : Int)).toNat = st.m from Int.toNat_natCast _] at r1'
 obtain ⟨rn, rl⟩ := rowI_any m1 r1'
 refine ⟨accL_ok _ _ _ okNil, trivial, ⟨_, _, _, _, _, _, y1.ep2, 0, st.e2, 0, y1.L, st.hs, _, _, rfl, rfl, a1, ok.inv.ah, by omega, fun _ => rn⟩, trivial, fun y2 N4 t4 q2 _ => ?_⟩
 have q2 : y2.L = filtO st.hs y1.L := q2
 have a2 : allI y2.L := by rw [q2]; exact filtO_allI a1
 have l2 : y2.L.length ≤ 100 := by
  rw [q2]
  have : (filtO st.hs y1.L).length ≤ y1.L.length := List.length_filter_le _ _
  omega
 refine ⟨accL_ok _ _ _ okNil, trivial, ⟨_, _, _, _, _, _, y2.ep2, 0, st.e1, 0, y2.L, st.us, _, _, rfl, rfl, a2, ok.inv.au, l2, fun q => by cases q⟩, ⟨⟨trivial, fun y3 N5 t5 q3 => ?_⟩, fun y3 N5 t5 q3 => ?_⟩, fun y3 N5 t5 q3 => ?_⟩
 ·have e : y2.L = [] := q3.2.1 rfl
  exact pathN_1 st ok h1 hb r1' (by rw [← q2]; exact e)
 ·have e : y2.L ≠ [] := q3.2.2 rfl
  have g : filtO st.us y2.L = [] := q3.1
  exact pathU_1 st ok h1 hb r1' (by rw [← q2]; exact g) (by rw [← q2]; exact e)
 ·have g : filtO st.us y2.L = .int y3.g y3.tg :: y3.L := q3.1
  exact pathH_1 st ok h1 hb r1' (by rw [← q2]; exact g) (by rw [← q2]; intro e; rw [e] at g; cases g)
def HBs (V : XW) (l : List HB) : Prop := ∀ f ∈ l, HBOk V f
theorem hbNil {V : XW} : HBs V [] := fun f h => by cases h
theorem hbCons {V : XW} {f : HB} {l : List HB} (h : HBOk V f) (hl : HBs V l) : HBs V (f :: l) := fun g hg => by
 cases hg with
 | head => exact h
 | tail _ hg => exact hl g hg
theorem ffC {n : Nat} {w : World} {h : Heap} {d : Drawn} {os : OsState} : CtX n (fun _ _ _ _ _ => False) w h d os := fun _ _ _ _ _ _ _ _ _ _ _ _ h => h.elim
theorem ffM (X : XT) : MonoI ((fun _ _ _ _ _ => False : IX) X) := fun _ _ _ _ _ _ h => h
theorem ffX : MonoX (fun _ _ _ _ _ => False) := fun _ _ _ _ _ _ _ h => h
theorem hooksG1_ok {w : World} {h : Heap} {d : Drawn} {os : OsState} {X : XT} (O : (VX w h d os X).Ok) (st : StG) {I : IX} (HI : CtX 21 I w h d os) (MI : ∀ X, MonoI (I X)) (XI : MonoX I) : HkW (VX w h d os X) (hkOf (hksG1 st.xp st.es X I (P_row w) Post_row (cPO w st) (cQO st) P_srt Post_srt (cPN w st) (cQN st) (P_not false true) Post_fr (P_not true false) Post_go2)) :=
 hkOf_ok (hbCons (hkTakeA_ok O) (hbCons (hkTakeX_ok O 3 brX1) (hbCons (hkB_ok (C := C_row w) O (C_row_ok w h d os) (show (5 : Nat) ≤ 63 by decide)) (hbCons (hkTX_ok O HI MI XI (by decide)) (hbCons (hkBX_ok (C := C_own w (st.hs.map kI) st.xs st.xp st.es st.F (mO st.xp)) O (C_own_ok w h d os _ _ _ _ _ _) (C_own_mono w _ _ _ _ _ _) (show (11 : Nat) ≤ 63 by decide)) (hbCons (hkN_ok (C := C_srt) O (C_srt_ok w h d os) (show (1 : Nat) ≤ 62 by decide)) (hbCons (hkBX_ok (C := C_nf w (st.hs.map kI) st.xp.first st.xp.last st.F (mO st.xp)) O (C_nf_ok w h d os _ _ _ _ _) (C_nf_mono w _ _ _ _ _) (show (5 : Nat) ≤ 63 by decide)) (hbCons (hkB_ok (C := C_free) O (C_free_ok w h d os) (show (6 : Nat) ≤ 63 by decide)) (hbCons (hkB_ok (C := C_good2) O (C_good2_ok w h d os) (show (6 : Nat) ≤ 63 by decide)) (hbCons (hkFIn_ok (V := VX w h d os X) (Nat.le_refl 1723)) (hbCons (hkFSet_ok (V := VX w h d os X) O (Nat.le_refl 1723)) (hbCons (hkTXf_ok O HI MI XI (by decide)) (hbCons (hkNextRg_ok O 1 brX1) hbNil)))))))))))))
theorem hooksG0_ok {w : World} {h : Heap} {d : Drawn} {os : OsState} {X : XT} (O : (VX w h d os X).Ok) (st : StG) {I : IX} {J : IX} (HI : CtX 20 I w h d os) (MI : ∀ X, MonoI (I X)) (XI : MonoX I) (HJ : CtX 21 J w h d os) (MJ : ∀ X, MonoI (J X)) (XJ : MonoX J) : HkW (VX w h d os X) (hkOf (hksG0 st.xp st.es X I J (P_row w) Post_row (cPO w st) (cQO st) P_srt Post_srt (cPN w st) (cQN st) (P_not false true) Post_fr (P_not true false) Post_go2)) :=
 hkOf_ok (hbCons (hkTakeA_ok O) (hbCons (hkTakeX_ok O 3 brX0) (hbCons (hkB_ok (C := C_row w) O (C_row_ok w h d os) (show (5 : Nat) ≤ 63 by decide)) (hbCons (hkTX_ok O HI MI XI (by decide)) (hbCons (hkBX_ok (C := C_own w (st.hs.map kI) st.xs st.xp st.es st.F (mO st.xp)) O (C_own_ok w h d os _ _ _ _ _ _) (C_own_mono w _ _ _ _ _ _) (show (11 : Nat) ≤ 63 by decide)) (hbCons (hkN_ok (C := C_srt) O (C_srt_ok w h d os) (show (1 : Nat) ≤ 62 by decide)) (hbCons (hkBX_ok (C := C_nf w (st.hs.map kI) st.xp.first st.xp.last st.F (mO st.xp)) O (C_nf_ok w h d os _ _ _ _ _) (C_nf_mono w _ _ _ _ _) (show (5 : Nat) ≤ 63 by decide)) (hbCons (hkB_ok (C := C_free) O (C_free_ok w h d os) (show (6 : Nat) ≤ 63 by decide)) (hbCons (hkB_ok (C := C_good2) O (C_good2_ok w h d os) (show (6 : Nat) ≤ 63 by decide)) (hbCons (hkFIn_ok (V := VX w h d os X) (Nat.le_refl 1723)) (hbCons (hkFSet_ok (V := VX w h d os X) O (Nat.le_refl 1723)) (hbCons (hkTXf_ok O HI MI XI (by decide)) (hbCons (hkNextRg_ok O 1 brX0) (hbCons (hkTX_ok O HJ MJ XJ (by decide)) hbNil))))))))))))))
set_option maxHeartbeats 4000000 in
theorem G1_ok (w : World) (h : Heap) (d : Drawn) (os : OsState) : ∀ k, CtX 21 (I_G1 w k) w h d os
 | 0 => by
  intro X O l Γ p R g N t0 ch F' hl hI Dd K
  obtain ⟨st, xa, xq, rfl, rfl, rfl, ok, h1⟩ := hI
  have run := (runGe_12 w N t0 st.ept st.epl st.e1 st.e2 st.epf st.ga st.gx st.kf st.xp st.z st.F st.v st.tF st.F st.tG xa xq st.s0 st.u0 st.s1 st.u1 st.es st.xs ⟨st.us⟩ ⟨st.hs⟩ st.esF h d os X p st.v2 st.v3 (fun _ _ _ _ _ => False) (KVof 21 F') (P_row w) Post_row (cPO w st) (cQO st) P_srt Post_srt (cPN w st) (cQN st) (P_not false true) Post_fr (P_not true false) Post_go2 (w.params.followText "special-get-raises") (w.params.followText "comprehension-iter-twice")).mpr ?_
  ·unfold simG1 at run
   rw [wF_self] at run
   exact ct_run3 (by decide) O (hooksG1_ok O st ffC ffM ffX) run Dd K
  ·exact ⟨accL_ok _ _ _ okNil, trivial, _, N + 2, t0, h1 ⟨2, st.gx, st.s0, st.u0, st.s1, st.u1, fun i => nthD (listG 2 st 0 (rdyG st.ga) (rdyS st.z.e)) i⟩ (codeX xq) (N + 2) t0 ok.bd, rfl, rfl, by omega, rfl⟩
 | k + 1 => by
  intro X O l Γ p R g N t0 ch F' hl hI Dd K
  obtain ⟨st, xa, xq, rfl, rfl, rfl, ok, h1⟩ := hI
  have R' : rhsG_1 w N t0 st.ept st.epl st.e1 st.e2 st.epf st.ga st.gx st.kf st.xp st.z st.F st.v st.tF st.F st.tG xa xq k st.s0 st.s1 st.es st.xs ⟨st.us⟩ ⟨st.hs⟩ st.esF X st.v2 st.v3 (I_G1 w k) (KVof 21 F') (P_row w) Post_row (cPO w st) (cQO st) P_srt Post_srt (cPN w st) (cQN st) (P_not false true) Post_fr (P_not true false) Post_go2 := by
   refine ⟨accL_ok _ _ _ okNil, trivial, ok.bd, fun r1 uw N1 t1 sa0 ua0 sa1 ua1 _ _ hba => ⟨accL_ok _ _ _ okNil, trivial, hba, fun r2 uq N2 t2 sb0 ub0 sb1 ub1 _ _ hbb => ?_⟩⟩
   by_cases h2 : r2 = 0
   ·cases hx : hasB (29 + r1) st.us with
    | false => exact .inl (.inl (.inr (pathL_1 st ok h1 hbb h2 hx)))
    | true => exact .inr (pathW_1 st ok h1 hbb h2 hx)
   ·exact .inl (.inr (pathK_1 st ok h1 hbb h2))
  have run : simG1 w N t0 st.ept st.epl st.e1 st.e2 st.epf st.ga st.gx st.kf st.xp st.z st.F st.v st.tF st.F st.tG xa xq st.s0 st.u0 st.s1 st.u1 st.es st.xs ⟨st.us⟩ ⟨st.hs⟩ st.esF h d os X p st.v2 st.v3 (I_G1 w k) (KVof 21 F') (P_row w) Post_row (cPO w st) (cQO st) P_srt Post_srt (cPN w st) (cQN st) (P_not false true) Post_fr (P_not true false) Post_go2 (w.params.followText "special-get-raises") (w.params.followText "comprehension-iter-twice") 2 (Int.ofNat (k + 1)) (jG1_seg0 ++ [0]) := by
   rw [runG_12]; exact R'
  unfold simG1 at run
  rw [wF_self] at run
  exact ct_run3 (by decide) O (hooksG1_ok O st (G1_ok w h d os k) (I_G1_mono w k) (I_G1_monoX w k)) run Dd K
set_option maxHeartbeats 4000000 in
theorem G0_ok (w : World) (h : Heap) (d : Drawn) (os : OsState) : ∀ k, CtX 20 (I_G0 w k) w h d os
 | 0 => by
  intro X O l Γ p R g N t0 ch F' hl hI Dd K
  obtain ⟨st, s, hs, rfl, rfl, rfl, ok, h0, h01⟩ := hI
  have run : simG0 w N t0 st.ept st.epl st.e1 st.e2 st.epf st.ga st.gx st.kf st.xp st.z st.F st.v st.tF st.F st.tG st.s0 st.u0 st.s1 st.u1 st.es st.xs ⟨st.us⟩ ⟨st.hs⟩ st.esF h d os X p st.v2 st.v3 (fun _ _ _ _ _ => False) (fun _ _ _ _ _ => False) (KVof 20 F') (P_row w) Post_row (cPO w st) (cQO st) P_srt Post_srt (cPN w st) (cQN st) (P_not false true) Post_fr (P_not true false) Post_go2 (w.params.followText "special-get-raises") (w.params.followText "comprehension-iter-twice") s (Int.ofNat 0) jG0_end := by
   rcases (show s = 0 ∨ s = 1 ∨ s = 2 by omega) with rfl | rfl | rfl
   ·rw [runGe_00]; exact ⟨accL_ok _ _ _ okNil, trivial, _, N + 2, t0, h0 ⟨0, st.gx, st.s0, st.u0, st.s1, st.u1, fun i => nthD (listG 0 st 0 #[] #[]) i⟩ (N + 2) t0 ok.bd, rfl, rfl, rfl, rfl⟩
   ·rw [runGe_01]; exact ⟨accL_ok _ _ _ okNil, trivial, _, N + 2, t0, h0 ⟨1, st.gx, st.s0, st.u0, st.s1, st.u1, fun i => nthD (listG 1 st 0 #[] #[]) i⟩ (N + 2) t0 ok.bd, rfl, rfl, rfl, rfl⟩
   ·rw [runGe_02]; exact ⟨accL_ok _ _ _ okNil, trivial, _, N + 2, t0, h0 ⟨2, st.gx, st.s0, st.u0, st.s1, st.u1, fun i => nthD (listG 2 st 0 #[] #[]) i⟩ (N + 2) t0 ok.bd, rfl, rfl, rfl, rfl⟩
  unfold simG0 at run
  rw [wF_self] at run
  exact ct_run3 (by decide) O (hooksG0_ok O st ffC ffM ffX ffC ffM ffX) run Dd K
 | k + 1 => by
  intro X O l Γ p R g N t0 ch F' hl hI Dd K
  obtain ⟨st, s, hs, rfl, rfl, rfl, ok, h0, h01⟩ := hI
  have R' : rhsG_0 w N t0 st.ept st.epl st.e1 st.e2 st.epf st.ga st.gx st.kf st.xp st.z st.F st.v st.tF st.F st.tG s k st.s0 st.s1 st.es st.xs ⟨st.us⟩ ⟨st.hs⟩ st.esF X st.v2 st.v3 (I_G0 w k) (I_G1 w k) (KVof 20 F') (P_row w) Post_row (cPO w st) (cQO st) P_srt Post_srt (cPN w st) (cQN st) (P_not false true) Post_fr (P_not true false) Post_go2 := by
   refine ⟨accL_ok _ _ _ okNil, trivial, ok.bd, fun r1 uw N1 t1 sa0 ua0 sa1 ua1 _ _ hba => ⟨accL_ok _ _ _ okNil, trivial, hba, fun r2 uq N2 t2 sb0 ub0 sb1 ub1 _ _ hbb => ?_⟩⟩
   by_cases h2 : r2 = 0
   ·cases hx : hasB (29 + r1) st.us with
    | false => exact .inl (.inl (.inr (pathL_0 st ok hs h0 h01 hbb h2 hx)))
    | true => exact .inr (pathW_0 st ok hs h0 h01 hbb h2 hx)
   ·exact .inl (.inr (pathK_0 st ok hs h0 h01 hbb h2))
  have run : simG0 w N t0 st.ept st.epl st.e1 st.e2 st.epf st.ga st.gx st.kf st.xp st.z st.F st.v st.tF st.F st.tG st.s0 st.u0 st.s1 st.u1 st.es st.xs ⟨st.us⟩ ⟨st.hs⟩ st.esF h d os X p st.v2 st.v3 (I_G0 w k) (I_G1 w k) (KVof 20 F') (P_row w) Post_row (cPO w st) (cQO st) P_srt Post_srt (cPN w st) (cQN st) (P_not false true) Post_fr (P_not true false) Post_go2 (w.params.followText "special-get-raises") (w.params.followText "comprehension-iter-twice") s (Int.ofNat (k + 1)) (jG0_seg0 ++ [0]) := by
   rcases (show s = 0 ∨ s = 1 ∨ s = 2 by omega) with rfl | rfl | rfl
   ·rw [runG_00]; exact R'
   ·rw [runG_01]; exact R'
   ·rw [runG_02]; exact R'
  unfold simG0 at run
  rw [wF_self] at run
  exact ct_run3 (by decide) O (hooksG0_ok O st (G0_ok w h d os k) (I_G0_mono w k) (I_G0_monoX w k) (G1_ok w h d os k) (I_G1_mono w k) (I_G1_monoX w k)) run Dd K
section
variable {w : World} {h : Heap} {d : Drawn} {os : OsState} {X : Nat → Option Obj}
def frs (bl : List (Code × Pos)) : Option (Env × Env) := bL bl fun x r => bL r fun y r => bL r fun z r => bN r (bO (cF x.1) fun a => bO (cF y.1) fun b => bT (isCl z.1) (some (a.2, b.2)))
theorem frs_ok {bl : List (Code × Pos)} {e1 e2 : Env} (h : frs bl = some (e1, e2)) : ∃ c1 q1 b p1 p2, bl = [(.func c1 e1, q1), (.func b e2, p1), (.builtin "claim.caller" {}, p2)] :=
 inv_l h fun x r f1 h => inv_l h fun y r2 f2 h => inv_l h fun z r3 f3 h => inv_n h fun f4 h => inv_o h fun a f5 h => inv_o h fun b f6 h => inv_t h fun f7 hz => by
  have g1 : a.2 = e1 := congrArg Prod.fst (Option.some.inj hz)
  have g2 : b.2 = e2 := congrArg Prod.snd (Option.some.inj hz)
  obtain ⟨x, p1⟩ := x
  obtain ⟨y, p2⟩ := y
  obtain ⟨z, p3⟩ := z
  refine ⟨a.1, p1, b.1, p2, p3, ?_⟩
  rw [f1, f2, f3, f4, show x = _ from cF_ok f5, show y = _ from cF_ok f6, show z = _ from isCl_ok f7, g1, g2]
structure CtMX where
 n : Nat
 m : Nat
 e : Nat
 Y : Type
 P : OL → Code → Env → Env → Ch → Prop
 res : Nat → Y → Result
 out : OL → Env → Nat → Y → OL
 tab : Nat → Y → Array Value → Array Value
 Post : Nat → OL → Y → Prop
 len : ∀ l e q y, (out l e q y).length = m
def CtMX.I (C : CtMX) : IT := fun l Γ ch F => Γ.handled = none ∧ Γ.own = none ∧ Γ.past = none ∧ ∃ e1 e2, frs Γ.below = some (e1, e2) ∧ C.P l Γ.code e1 e2 ch ∧ ∃ v : Array Value × Array Value × Array Value, ch = chL v.1 v.2.1 v.2.2 ∧ ∀ q, q < C.e → ∀ y N' t', C.Post q l y → F (C.res q y) (C.out l e2 q y) N' t' (chL (C.tab q y v.1) v.2.1 v.2.2)
def rdMX (n : Nat) (js : List Nat) (Γ : PySem.Ctx) (T : MT) (τ : Nat) (ch : Ch) : Option ((DCt × Array Value × Array Value × Array Value) × Env × Env) := bO (frs Γ.below) fun f => bO (rdM (fun _ => true) n js Γ T τ ch) fun d => some (d, f)
def hkMX (C : CtMX) : HB := hkD (rdMX C.n) fun d _ _ ch => ([], fun K => C.P d.1.1.l d.1.1.Γ.code d.2.1 d.2.2 ch ∧ allK C.e fun q => ∀ y N' t', C.Post q d.1.1.l y → K (C.res q y) (listT (C.out d.1.1.l d.2.2 q y)) C.m (N' + 1723) 0 (t' + 1) 0 (chL (C.tab q y d.1.2.1) d.1.2.2.1 d.1.2.2.2) d.1.1.r)
theorem hkMX_ok (O : (VX w h d os X).Ok) {C : CtMX} (H : CtOk C.n C.I w h d os) (hn : C.n ≤ 63) : HBOk (VX w h d os X) (hkMX C) :=
 hkD_ok (fun d T m ch F G hFG x => ⟨x.1, allK_mono (fun q z y N' t' hy => hFG _ _ _ _ _ _ _ _ _ (z y N' t' hy)) x.2⟩)
 fun js Γ p T m B c τ i ch d' e hps R g D x => inv_o e fun f h7 e => inv_o e fun d e e3 => by
  rw [← Option.some.inj e3] at x
  exact rdM_k e fun t e1 e2 h1 h2 h3 h4 h5 h6 => by
   rw [e1] at h7
   rw [e1, e2]
   refine ct_use (F := fun r' l' N' t' ch' => ∃ q, q < C.e ∧ ∃ y, r' = C.res q y ∧ l' = C.out d.1.l f.2 q y ∧ C.Post q d.1.l y ∧ ch' = chL (C.tab q y d.2.1) d.2.2.1 d.2.2.2) O H hn h1 h2 h3 D ⟨h5.1, h5.2.1, h5.2.2, f.1, f.2, h7, x.1, d.2, h4, fun q hq y N' t' hy => ⟨q, hq, y, rfl, rfl, hy, rfl⟩⟩ fun r' l' N' t' ch' hF g' D' => ?_
   obtain ⟨q, hq, y, e3, e4, hy, e5⟩ := hF
   rw [e4, e5, C.len] at D'
   rw [e3]
   exact allK_get x.2 q hq y N' t' hy g' (back_sub O D h2 (h1 ▸ hn) D')
end
def setS (o : Obj) (sl : Array (Option Value)) : Obj := ⟨o.cls, o.dict, o.data, sl⟩
def eOf (e : Env) : EnvV := ⟨e.scope.names, e.scope.more, e.globals, e.qual, e.func, e.code, e.builtins⟩
def gaOf (l : OL) : GA := ⟨addrD l 0, addrD l 1, addrD l 2, addrD l 3, addrD l 4, addrD l 5, addrD l 6, addrD l 16, addrD l 17, addrD l 18, addrD l 19, 0, 0⟩
structure YG where
 y : EndG
 xa : Nat
def resG (_ : Nat) (_ : YG) : Result := .ok .next
def outG (l : OL) (e : Env) (q : Nat) (y : YG) : OL := [(addrD l 0, srcE y.y.s0 y.y.u0 y.y.s1 y.y.u1 0), (addrD l 19, Nat.rec (nthD l 19) (fun _ _ => setS (nthD l 19) (rdyS (eOf e))) q), (addrD l 1, frG y.y.s (gaOf l) y.y.gx (Nat.rec #[] (fun _ _ => rdyG (gaOf l)) q)), (addrD l 2, y.y.o 2), (addrD l 3, y.y.o 3), (addrD l 4, y.y.o 4), (addrD l 5, y.y.o 5), (addrD l 6, y.y.o 6), (addrD l 7, y.y.o 7), (addrD l 8, y.y.o 8), (addrD l 9, y.y.o 9), (addrD l 10, y.y.o 10), (addrD l 11, y.y.o 11), (addrD l 12, y.y.o 12), (addrD l 13, y.y.o 13), (addrD l 14, y.y.o 14), (addrD l 15, y.y.o 15), (addrD l 16, y.y.o 16), (addrD l 17, y.y.o 17), (addrD l 18, y.y.o 18)]
def tabG (q : Nat) (y : YG) (v : Array Value) : Array Value := Nat.rec v (fun _ _ => tabX y.xa) q
def PostG (_ : Nat) (_ : OL) (y : YG) : Prop := Bd y.y.s0 y.y.s1
def jHa : List Nat := dec [0x101060005000200050578]
def jHb : List Nat := (dec [0x10200191919191919191919191919191919191919191919197d1700177d7f7f7f027d0200111111117c0700070778] ++ (z95 ++ (z95 ++ (z95 ++ (z95 ++ (z95 ++ (z95 ++ (z95 ++ (z95 ++ (z95 ++ (z95 ++ (dec [0x102001f1f1f1f1f1f1f1f1f1f7d1d001d7c7f7f7f1111] ++ (z96 ++ (z96 ++ (dec [0x1026a78026a0025026a002502002525252525257d2300237c7f7f7f1f1f00] ++ (z97 ++ (z97 ++ (dec [0x125] ++ (z38 ++ (z143 ++ (dec [0x102002d2d7d2b002b787f7f7f] ++ (z39 ++ (z143 ++ (z143 ++ (z143 ++ (z143 ++ dec [0x10d0b0b09090f0f413d3d3b3d3d003d003d3d3d3b3d3d003d003d3d3d3b3d3d003d003d3d3d3b3d3d003d003d3d3d3b3d3d003d003d3d003b003b3b3b, 0x101060005790d]))))))))))))))))))))))))))
def jHc : List Nat := dec [0x10c4543ac80430043434300430043437c]
def jH : List Nat := jHa ++ jHb ++ jHc ++ [1, 5, 15, 13, 11, 9, 7, 27, 29, 33, 35, 39, 41, 43, 47, 49, 55, 57, 69, 3]
def gaT (N N1 N2 t1 : Nat) (r1 : Int) (la fa : Nat) : GA := ⟨la, N + 1723 + 0, N + 1723 + 5, N + 1723 + 4, N + 1723 + 3, N + 1723 + 2, N + 1723 + 1, N1 + 1723 + 19, N1 + 1723 + 20, N2 + 1723 + 1, fa, 1 + r1, t1 + 1⟩
def selH {α : Type} (i : Nat) (a b c d e f g : α) : α := match i with
 | 0 => a
 | 1 => b
 | 2 => c
 | 3 => d
 | 4 => e
 | 5 => f
 | _ => g
def kfT (w : World) (N1 t1 : Nat) : KF := ⟨N1 + 1723 + 6, N1 + 1723 + 5, N1 + 1723 + 13, N1 + 1723 + 12, N1 + 15, N1 + 16, fun i => selH i (hashS w sLimits) (hashS w sIss) (hashS w sPorts) (hashS w sTable) (hashS w sLis) (hashS w sLinks) (hashS w sGiven), fun i => selH i (t1 + 55) (t1 + 57) (t1 + 71) (t1 + 78) (t1 + 80) (t1 + 82) (t1 + 85), .ref (N1 + 1723 + 3), .int 5 (t1 + 48), .ref (N1 + 1723 + 17), .ref (N1 + 1723 + 18), .int 0 (t1 + 83), 7, hashS w sConn, t1 + 74, hashS w sLis, t1 + 76, 2⟩
def xpT (w : World) (N1 t1 : Nat) (r1 : Int) : PF := ⟨N1 + 1723 + 9, N1 + 1723 + 8, N1 + 1723 + 11, fun i => selG i (hashS w sFirst) (hashS w sLast) (hashS w sFol) (hashS w sTaken) 0 0, fun i => selG i (t1 + 63) (t1 + 65) (t1 + 67) (t1 + 69) 0 0, 30, t1 + 2, 29 + (1 + r1), t1 + 4, 4⟩
def gxT (w : World) (t0 : Nat) : GX := ⟨fun _ => hashS w sSource, fun _ => t0 + 1, 1, .none, .none, .none, .none, .none⟩
section
variable (w : World) (N t0 la fa : Nat) (s0 : Int) (u0 : Nat) (s1 : Int) (u1 : Nat) (esF : Array DictEntry) (epf : Nat) (h : Heap) (d : Drawn) (os : OsState) (X : Nat → Option Obj) (b : List Stmt) (e : EnvV) (p1 p2 : Pos) (p : Pos) (v2 v3 : Array Value) (KV : KVT) (P : OL → Code → Env → Env → Ch → Prop) (Post : Nat → OL → YG → Prop)
abbrev simH (b1 b2 : Bool) (js : List Nat) : Prop := simG (VX (wF w b1 b2) h d os X) (HH3 (hkOf [hkTakeA, hkMX ⟨20, 20, 2, YG, P, resG, outG, tabG, Post, fun _ _ _ _ => rfl⟩])) (KFv 2 KV) 1600 ⟨.call (.ref 1696) ⟨[.ref la], []⟩, none, none, [(.func b (envL e fa), p1), (.builtin "claim.caller" {}, p2)], none⟩ p .base (denF (.call (.ref 1696) ⟨[.ref la], []⟩)) (listT [(la, srcE s0 u0 s1 u1 0), (fa, frO esF epf #[])]) 2 (N + 1723) 0 (t0 + 1) 0 (chL #[] v2 v3) js [] True
abbrev rhsH : Prop := okAcc (accL (AO [la, fa] [(2, N + 1723)]) jHa []) ∧ True ∧ (Bd s0 s1 ∧ ∀ (r1 : Int) (uw N1 t1 : Nat) (sa0 : Int) (ua0 : Nat) (sa1 : Int) (ua1 : Nat), 0 ≤ r1 → r1 < 4 → Bd sa0 sa1 → (okAcc (accL (AO [la, fa] [(8, N1 + 1723), (2, N + 1723)]) jHb []) ∧ (decide (29 + (1 + r1) ≤ 65535) = true ∧ (decide ((30 : Int) ≤ 29 + (1 + r1)) = true ∧ (decide ((1 : Int) ≤ 30) = true ∧ True))) ∧ (Bd sa0 sa1 ∧ ∀ (r2 : Int) (uq N2 t2 : Nat) (sb0 : Int) (ub0 : Nat) (sb1 : Int) (ub1 : Nat), 0 ≤ r2 → r2 < 4 → Bd sb0 sb1 → (okAcc (accL (AO [la, fa] [(33, N2 + 1723), (8, N1 + 1723), (2, N + 1723)]) jHc []) ∧ (((0 : Int) = 0 ∧ (1 : Int) = 1 ∧ chkRg (4 + r2) = true) ∧ True) ∧ (P (olG (gaT N N1 N2 t1 r1 la fa) (kfT w N1 t1) (xpT w N1 t1 r1) (srcE sb0 ub0 sb1 ub1 0) (frG 0 (gaT N N1 N2 t1 r1 la fa) (gxT w t0) #[]) (.int 30 (t1 + 86)) ((xpT w N1 t1 r1).dct (.int 30 (t1 + 2))) (dictO #[] 0) (dictO (esX []) 0) (lstE #[] 0) (lstE #[] 0) (rngO 0 (4 + r2)) (frO esF epf #[])) (codeG w.params (gaT N N1 N2 t1 r1 la fa)) (envG w.params (gaT N N1 N2 t1 r1 la fa)) (envL e fa) (chL #[] v2 v3) ∧ ((True ∧ ∀ (y : YG) (N3 t3 : Nat), Post 0 (olG (gaT N N1 N2 t1 r1 la fa) (kfT w N1 t1) (xpT w N1 t1 r1) (srcE sb0 ub0 sb1 ub1 0) (frG 0 (gaT N N1 N2 t1 r1 la fa) (gxT w t0) #[]) (.int 30 (t1 + 86)) ((xpT w N1 t1 r1).dct (.int 30 (t1 + 2))) (dictO #[] 0) (dictO (esX []) 0) (lstE #[] 0) (lstE #[] 0) (rngO 0 (4 + r2)) (frO esF epf #[])) y → (okAcc [] ∧ True ∧ KV (.ok (.ret (.bool true))) [some (la, srcE y.y.s0 y.y.u0 y.y.s1 y.y.u1 0), some (fa, frO esF epf #[])] (N3 + 1723) 0 (t3 + 1) 0 (chL #[] v2 v3))) ∧ ∀ (y : YG) (N3 t3 : Nat), Post 1 (olG (gaT N N1 N2 t1 r1 la fa) (kfT w N1 t1) (xpT w N1 t1 r1) (srcE sb0 ub0 sb1 ub1 0) (frG 0 (gaT N N1 N2 t1 r1 la fa) (gxT w t0) #[]) (.int 30 (t1 + 86)) ((xpT w N1 t1 r1).dct (.int 30 (t1 + 2))) (dictO #[] 0) (dictO (esX []) 0) (lstE #[] 0) (lstE #[] 0) (rngO 0 (4 + r2)) (frO esF epf #[])) y → (okAcc [] ∧ True ∧ KV (.ok (.ret (.bool true))) [some (la, srcE y.y.s0 y.y.u0 y.y.s1 y.y.u1 0), some (fa, frO esF epf (rdyS e))] (N3 + 1723) 0 (t3 + 1) 0 (chL (tabX y.xa) v2 v3))))))))
theorem runH (b2 q0 : Bool) : simH w N t0 la fa s0 u0 s1 u1 esF epf h d os X b e p1 p2 p v2 v3 KV P Post q0 b2 jH = rhsH w N t0 la fa s0 s1 esF epf e v2 v3 KV P Post := by
 cases q0 <;> kernel_rfl
end
def js_fixed : List Nat := (dec [0x100090909097b0279] ++ (z11 ++ (dec [0x17d1500157c7f7f7f0909] ++ (z30 ++ (dec [0x1171700] ++ (z133 ++ (dec [0x17b1d781d0200] ++ (z36 ++ (dec [0x11d] ++ (z134 ++ (z134 ++ (z144 ++ (dec [0x1020025257d230023787f7f7f] ++ (z38 ++ (z144 ++ (z144 ++ (z144 ++ (z144 ++ (dec [0x1070707] ++ (z83 ++ (dec [0x10033003333332900290029292f2f2100232379237a232f2f297a3100310031313100290029292100232379237a232f2f2f02002f2f2f2f2f2f2f2f7a, 0x17a350200353535357a13157a157915791507292929297a33] ++ (z77 ++ (dec [0x100] ++ (z77 ++ (dec [0x13937373700370037373700370037377f] ++ (z35 ++ (dec [0x13f3f003f003f3f7e19001b1b791b7a1b3d19001b1b791b7a1b3d783d3d19001b1b791b7a1b3d02003d3d7a191b7a1b791b791b3b783b02003b3b3b3b, 0x143430200434343437a3d191b7a1b791b791b3d3d3d414141414141410041004102413f3f3f003f003f] ++ (z98 ++ (dec [0x1001f1f3b19001b1b791b7a1b3b3b3b3d191919001b791b001b781b7a1b3d78457819001b1b791b7a1b45450200454545457a3d191b7a1b791b791b3d, 0x13b001f4c1f] ++ (z53 ++ (dec [0x147020049494747] ++ (z84 ++ (dec [0x147794f4b4b4b27274b4b004b004b024b] ++ (z85 ++ (dec [0x1005b005b0053005353785555555951515129295151005100510053535300537949330033003333335555555151515151292951510051005100513251, 0x1355b5b535b5b005b] ++ (z86 ++ (dec [0x135] ++ (z72 ++ (dec [0x11f521f005d1f1f1f1f19001b1b791b7a1b5d021f401f001f1f] ++ (z35 ++ (dec [0x1636300630063637e19001b1b791b7a1b6119001b1b791b7a1b6178616119001b1b791b7a1b61020061617a191b7a1b791b791b5f785f02005f5f5f5f, 0x167670200676767677a61191b7a1b791b791b6161616565656565656500650065026563636300630063] ++ (z98 ++ (dec [0x1001f1f5f19001b1b791b7a1b5f5f5f61191919001b791b001b781b7a1b6178697819001b1b791b7a1b69690200696969697a61191b7a1b791b791b61, 0x15f001f4c1f] ++ (z53 ++ (dec [0x16b02006d6d6b6b] ++ (z84 ++ (dec [0x16b79736f6f6f27276f6f006f006f026f] ++ (z85 ++ (dec [0x1007f80007f800077007777787980798079807d807575752929757500750075007777770077796d330033003333337980798079807575757575292975750075007500753275, 0x1073583807f807f80777f807f80007f80007f80007f807f80777f807f80007f80] ++ (z86 ++ (dec [0x185808580020085808580858085807a] ++ (z98 ++ (dec [0x17a8780020087808780878087807a13157a157915791507] ++ (z78 ++ (dec [0x100] ++ (z78 ++ (dec [0x18780878087808b808b808b808b808b808b808b80008b80008b80028b808980898089800089800089808980898000898000898089807f] ++ (z86 ++ (dec [0x1918000918000918091807e19001b1b791b7a1b8f8019001b1b791b7a1b8f80788f808f8019001b1b791b7a1b8f8002008f808f807a191b7a1b791b791b8d80788d8002008d808d808d808d807b, 0x195809580020095809580958095807a8f80191b7a1b791b791b8f808f808f8093809380938093809380938093800093800093800293809180918091800091800091809180] ++ (z98 ++ (dec [0x11b791b7a1b8d808d808d808f80191919001b791b001b781b7a1b8f8019001b1b791b7a1b97807819001b1b791b7a1b97809780020097809780978097807a8f80191b7a1b791b791b8f80, 0x18780878087808d80001f4c1f001f1f8d8019001b] ++ (z83 ++ (dec [0x1998002009b809b80998099807a8780] ++ (z84 ++ (dec [0x1998079a1809d809d809d8027279d809d80009d80009d80029d80] ++ (z85 ++ dec [0x100ad8000ad8000a58000a580a58078a780a780a780ab80a380a380a3802929a380a38000a38000a38000a580a580a58000a580799b8033003300333333a780a780a780a380a380a380a380a3802929a380a38000a38000a38000a38032a380, 0x102b580b38028b38000b380b580b3808780b180ad80ad80a580ad80ad8000ad8000ad8000ad80ad80a580ad80ad8000ad80]))))))))))))))))))))))))))))))))))))))))))))))))))))))))))))))))))
theorem run_fixed_false (w : World) (N t0 sa fa la : Nat) (o0 o2 : Obj) (es : Array DictEntry) (ep : Nat) (h : Heap) (d : Drawn) (os : OsState) (b : List Stmt) (e : EnvV) (p1 p2 p : Pos) (b2 : Bool) (v1 v2 v3 : Array Value) (sl : Array (Option Value)) :
 simG (VV (wF w false b2) h d os) (HH hkNo) (endL (.ok (.ret (.bool true)), some (sa, o0), some (fa, frO es ep (sl)), some (la, o2), N + 1723, 88, t0 + 1, 260, chL v1 v2 v3)) 4200 (ΓL 1715 [] b (envL e fa) p1 p2) p .base (denF (.call (.ref 1715) ⟨[], []⟩)) (TL sa fa la o0 (frO es ep (sl)) o2) 3 (N + 1723) 0 (t0 + 1) 0 (chL v1 v2 v3) js_fixed [] True =
 AllP (okAcc (accL (AL N sa fa la) js_fixed []) ∧ tt 10 ∧ ((.ok (.ret (.bool true)), some (sa, o0), some (fa, frO es ep (sl)), some (la, o2), N + 1723, 88, t0 + 1, 260, chL v1 v2 v3) : VL) = (.ok (.ret (.bool true)), some (sa, o0), some (fa, frO es ep (sl)), some (la, o2), N + 1723, 88, t0 + 1, 260, chL v1 v2 v3)) 3 := by kernel_rfl
theorem run_fixed_true (w : World) (N t0 sa fa la : Nat) (o0 o2 : Obj) (es : Array DictEntry) (ep : Nat) (h : Heap) (d : Drawn) (os : OsState) (b : List Stmt) (e : EnvV) (p1 p2 p : Pos) (b2 : Bool) (v1 v2 v3 : Array Value) (sl : Array (Option Value)) :
 simG (VV (wF w true b2) h d os) (HH hkNo) (endL (.ok (.ret (.bool true)), some (sa, o0), some (fa, frO es ep (sl)), some (la, o2), N + 1723, 88, t0 + 1, 260, chL v1 v2 v3)) 4200 (ΓL 1715 [] b (envL e fa) p1 p2) p .base (denF (.call (.ref 1715) ⟨[], []⟩)) (TL sa fa la o0 (frO es ep (sl)) o2) 3 (N + 1723) 0 (t0 + 1) 0 (chL v1 v2 v3) js_fixed [] True =
 AllP (okAcc (accL (AL N sa fa la) js_fixed []) ∧ tt 10 ∧ ((.ok (.ret (.bool true)), some (sa, o0), some (fa, frO es ep (sl)), some (la, o2), N + 1723, 88, t0 + 1, 260, chL v1 v2 v3) : VL) = (.ok (.ret (.bool true)), some (sa, o0), some (fa, frO es ep (sl)), some (la, o2), N + 1723, 88, t0 + 1, 260, chL v1 v2 v3)) 3 := by kernel_rfl
theorem pass_fixed (w : World) (h : Heap) (d : Drawn) (os : OsState) (O : (VV w h d os).Ok) (es : Nat → Nat → Array DictEntry) (ep : Nat) (b : List Stmt) (e : EnvV) (p1 p2 : Pos) (v1 v2 v3 : Array Value) (sl : Array (Option Value)) :
  Pass (VV w h d os) 1715 false es ep b e p1 p2 (sl) (chL v1 v2 v3) (fun sl1 ch => sl1 = sl ∧ ch = chL v1 v2 v3) := by
 intro N t0 sa fa la o0 s0 u0 s1 u1 p R g hb D K
 rw [← wF_self w] at D K ⊢
 revert D K
 have O' : ∀ b1 b2, (VV (wF w b1 b2) h d os).Ok := fun b1 b2 => ⟨O.exn, O.size, O.kt, O.tabs⟩
 generalize w.params.followText "special-get-raises" = b1
 generalize w.params.followText "comprehension-iter-twice" = b2
 intro D K
 have hH := HH_ok _ (O' b1 b2) (Nat.le_refl 1723) (hkNo_ok (VV (wF w b1 b2) h d os))
 have K' := K (N + 88) (t0 + 260) s0 u0 s1 u1 (sl) (chL v1 v2 v3) hb (⟨rfl, rfl⟩)
 have K2 : AtS (VV (wF w b1 b2) h d os) R (.ok (.ret (.bool true))) (TL sa fa la o0 (frO (es sa la) ep (sl)) (srcO s0 u0 s1 u1)) 3 (N + 1723) 88 (t0 + 1) 260 (chL v1 v2 v3) := fun h' D' => by
  have e1 : N + 1723 + 88 = N + 88 + 1723 + 0 := by omega
  have e2 : t0 + 1 + 260 = t0 + 260 + 1 + 0 := by omega
  rw [e1] at D'
  rw [e2]
  exact K' h' D'
 cases b1
 ·exact contractL (O' _ _) hH ((run_fixed_false w N t0 sa fa la o0 _ (es sa la) ep h d os b e p1 p2 p b2 v1 v2 v3 sl).mpr (AllP_ok ⟨accL_ok _ _ _ okNil, tt_ok _, rfl⟩ _)) D K2
 ·exact contractL (O' _ _) hH ((run_fixed_true w N t0 sa fa la o0 _ (es sa la) ep h d os b e p1 p2 p b2 v1 v2 v3 sl).mpr (AllP_ok ⟨accL_ok _ _ _ okNil, tt_ok _, rfl⟩ _)) D K2
def js_link : List Nat := (dec [0x17c0200070778] ++ (z11 ++ (dec [0x102001b1b1b1b1b1b1b1b1b1b7d1900197c7f7f7f] ++ (z99 ++ (z99 ++ (z99 ++ (dec [0x100] ++ (z145 ++ (dec [0x10d000f0f790f7a0f1b1b00] ++ (z54 ++ (dec [0x10200212121212121212121217d1f001f7c] ++ (z100 ++ (z100 ++ (z100 ++ (z100 ++ (z100 ++ (dec [0x121] ++ (z56 ++ (dec [0x1270200272727277d250025] ++ (z146 ++ (z146 ++ (z146 ++ (z146 ++ (z146 ++ (z56 ++ (dec [0x12d782d02002d2d2d2d7d2b002b] ++ (z39 ++ (z147 ++ (z147 ++ (z147 ++ (z147 ++ (z40 ++ (dec [0x1020035353535353535357d3300337c7f7f7f0d000f0f790f7a0f2f0d000f0f790f7a0f2f0d000f0f790f7a0f2f0002002f2f7a1b00] ++ (z101 ++ (z101 ++ (z101 ++ (z148 ++ (z148 ++ (z148 ++ (dec [0x102003b3b3b3b3b3b7d3900397c7f7f7f0d000f0f790f7a0f2f2f002f2f] ++ (z102 ++ (z102 ++ (z149 ++ (z149 ++ (z149 ++ (z45 ++ (dec [0x1780d000f0f790f7a0f1b] ++ (z54 ++ (dec [0x1020041414141414141417d3f003f7e] ++ (z103 ++ (z103 ++ (z103 ++ (z103 ++ (z150 ++ (z150 ++ (z150 ++ (z150 ++ (z45 ++ (dec [0x1470200474747477d4500457c7f7f7f] ++ (z151 ++ (z151 ++ (z151 ++ (z151 ++ (z145 ++ (dec [0x14d02004d4d4d4d7e4b004b787f7f7f] ++ (z152 ++ (dec [0x1512c514f4f4f004f004f4f4f004f004f4f7a4d78] ++ (z57 ++ (z57 ++ (z57 ++ (z57 ++ (z57 ++ (z57 ++ (z57 ++ (z57 ++ (z57 ++ (z57 ++ (z57 ++ (z57 ++ (z57 ++ (z57 ++ (z57 ++ (z57 ++ (dec [0x155555579805151510051005100] ++ (z152 ++ (z152 ++ (z152 ++ (z152 ++ (z152 ++ (z40 ++ (z40 ++ (z145 ++ (dec [0x18580858085800085800085800285808380838083800083800083808380838000838000838083807c0717171700197919001978197a1907070707818081807f8081808180008180008180028180007f80007f807f800707, 0x102008b808b808b808b808b808b808b808b807d8980008980007f7f7f7f07070007078580858085808580] ++ (z104 ++ (z104 ++ (z104 ++ (z153 ++ (z153 ++ (dec [0x193808f808f808d808f808f80008f80008f808f808f808d808f808f80008f80008f808f808f808d808f808f80008f80008f808f80008d80008d808d808d807a077c070707] ++ (z154 ++ (z154 ++ (dec [0x189807989807a89809580878000898089807989807a89809580878000898089807989807a898095800200958095807a878089807a8980798980798980070707878000898089807989807a8980077a07878000898089807989807a898007, 0x18780008980] ++ (z46 ++ (dec [0x102009b809b809b809b809b809b809b809b807d9980009980] ++ (z105 ++ (z105 ++ (z105 ++ (z155 ++ (z155 ++ (dec [0x1a3809f809f809d809f809f80009f80009f809f809f809d809f809f80009f80009f809f809f809d809f809f80009f80009f809f80009d80009d809d809d807a077c070707] ++ (z156 ++ (z156 ++ (dec [0x1978000998099807999807a9980a580978000998099807999807a9980a5800200a580a5807a978099807a99807999807999800707077a07978000998099807999807a998007] ++ (z46 ++ (dec [0x10200ab80ab80ab80ab80ab80ab80ab80ab807da98000a980] ++ (z106 ++ (z106 ++ (z106 ++ (z157 ++ (z157 ++ (dec [0x1b380af80af80ad80af80af8000af8000af80af80af80ad80af80af8000af8000af80af80af80ad80af80af8000af8000af80af8000ad8000ad80ad80ad807a077c070707] ++ (z158 ++ (z158 ++ (dec [0x1a9807aa980b580a78000a980a98079a9807aa980b580a78000a980a98079a9807aa980b5800200b580b5807aa780a9807aa98079a98079a9800707077a07a78000a980a98079a9807aa980077a07a78000a980a98079a9807aa98007, 0x1001700191979197a19a78000a980a98079a9807aa980b580a78000a980a98079] ++ (z46 ++ (dec [0x10200bb80bb80bb80bb80bb80bb80bb80bb807db98000b980] ++ (z107 ++ (z107 ++ (z107 ++ (z159 ++ (z159 ++ (dec [0x1c380bf80bf80bd80bf80bf8000bf8000bf80bf80bf80bd80bf80bf8000bf8000bf80bf80bf80bd80bf80bf8000bf8000bf80bf8000bd8000bd80bd80bd807a077c070707] ++ (z160 ++ (z160 ++ (dec [0x1b78000b980b98079b9807ab980c580b78000b980b98079b9807ab980c5800200c580c5807ab780b9807ab98079b98079b9800707077a07b78000b980b98079b9807ab98007] ++ (z46 ++ (dec [0x10200cb80cb80cb80cb80cb80cb80cb80cb807dc98000c980] ++ (z108 ++ (z108 ++ (z108 ++ (z161 ++ (z161 ++ (dec [0x1d380cf80cf80cd80cf80cf8000cf8000cf80cf80cf80cd80cf80cf8000cf8000cf80cf80cf80cd80cf80cf8000cf8000cf80cf8000cd8000cd80cd80cd807a077c070707] ++ (z162 ++ (z162 ++ (dec [0x1c78000c980c98079c9807ac980d5800200d580d5807ac780c9807ac98079c98079c980070707c78000c980c98079c9807ac98007] ++ (z46 ++ (dec [0x10200db80db80db80db80db80db80db80db807dd98000d980] ++ (z109 ++ (z109 ++ (z109 ++ (z163 ++ (z163 ++ (dec [0x1e380df80df80dd80df80df8000df8000df80df80df80dd80df80df8000df8000df80df80df80dd80df80df8000df8000df80df8000dd8000dd80dd80dd807a077c070707] ++ (z164 ++ (z164 ++ (dec [0x1d78000d980d98079d9807ad980e5800200e580e5807ad780d9807ad98079d98079d980070707d78000d980d98079d9807ad98007] ++ (z46 ++ (dec [0x10200eb80eb80eb80eb80eb80eb80eb80eb807de98000e980] ++ (z110 ++ (z110 ++ (z110 ++ (z165 ++ (z165 ++ (dec [0x1f380ef80ef80ed80ef80ef8000ef8000ef80ef80ef80ed80ef80ef8000ef8000ef80ef80ef80ed80ef80ef8000ef8000ef80ef8000ed8000ed80ed80ed807a077c070707] ++ (z166 ++ (z166 ++ (dec [0x1e78000e980e98079e9807ae980f5800200f580f5807ae780e9807ae98079e98079e980070707e78000e980e98079e9807ae98007] ++ (z46 ++ (dec [0x10200fb80fb80fb80fb80fb80fb80fb80fb807df98000f980] ++ (z111 ++ (z111 ++ (z111 ++ (z167 ++ (z167 ++ (dec [0x10381ff80ff80fd80ff80ff8000ff8000ff80ff80ff80fd80ff80ff8000ff8000ff80ff80ff80fd80ff80ff8000ff8000ff80ff8000fd8000fd80fd80fd807a077c070707] ++ (z168 ++ (z168 ++ (dec [0x10981858085808580008580008580027807f78000f980f98079f9807af98005810200058105817af780f9807af98079f98079f980070707f78000f980f98079f9807af98007] ++ (z65 ++ (dec [0x102000f810f810f810f810f810f810f810f810f810f817e0d81000d81] ++ (z112 ++ (z112 ++ (dec [0x10f81] ++ (z87 ++ (dec [0x11181781181118102001181118111811181118111817a0f81] ++ (z113 ++ (dec [0x113811381138113811381138108138100138113817c] ++ (z87 ++ (dec [0x11981020019811981198119817d17810017817c7f7f7f] ++ (z169 ++ (z169 ++ (z87 ++ (dec [0x11d81781d811d8102001d811d811d811d811d811d817a0f810f810b81000d810d81790d817a0d81] ++ (z113 ++ (z170 ++ (z170 ++ (z170 ++ (z47 ++ (dec [0x10002001f811f811f811f811f811f811f811f817a070b810d817a0d81790d81790d81] ++ (z61 ++ (dec [0x10002002381238123812381238123817a1f811f810b810d817a0d81790d81790d811f811f811f81782181218102002181218121812181218121817a] ++ (z58 ++ (dec [0x179258178258178258125812581782781782781278102002781278127812781278127817a258125812581000200258125812581258125812581] ++ (z58 ++ (dec [0x11f811f817c2b812b812b812b812b817823812381782381238178298178298129810200298129812981298129812981] ++ (z61 ++ (dec [0x12d812d8102002d812d817a0b810d817a0d81790d81790d811f81781f81] ++ (z66 ++ (dec [0x10233811b812e1b81001b8133811b81158100178117817917817a1781318100020031813181318131817a2f81158117817a17817917817917812f8102002f812f812f812f817a0b81000d810d81790d817a0d812d81158117817a1781791781791781, 0x10d81790d817a0d812d817a2d81780b81000d810d81790d817a0d812d810013811381138113810e1381002d8113811381138113810b81000d810d81790d817a0d812d812d812d810235811b81281b81001b8135811b81158100178117817917817a17812f81, 0x10b810b810b81000d81790d81000d81780d817a0d812d81783781783781378102003781378137813781378137817a0b81000d81] ++ (z66 ++ (dec [0x10200438143814381438143814381438143817d4181004181007f7f7f7f07070007073d813d813d813d813d813d813d81003d81003d81023d813b813b813b81003b81003b813b813b81003b81003b813b817d1f811f811f811f817a2d817c] ++ (z114 ++ (z114 ++ (z114 ++ (z171 ++ (z171 ++ (dec [0x14b814781478145814781478100478100478147814781458147814781004781004781478147814581478147810047810047814781004581004581458145817a077c070707] ++ (z172 ++ (z172 ++ (dec [0x141817941817a41814d813f8100418141817941817a41814d813f8100418141817941817a41814d8102004d814d817a3f8141817a41817941817941810707073f8100418141817941817a4181077a073f8100418141817941817a418107, 0x13f81004181] ++ (z48 ++ (dec [0x10200538153815381538153815381538153817d5181005181] ++ (z115 ++ (z115 ++ (z115 ++ (z173 ++ (z173 ++ (dec [0x15b815781578155815781578100578100578157815781558157815781005781005781578157815581578157810057810057815781005581005581558155817a077c070707] ++ (z174 ++ (z174 ++ (dec [0x14f8100518151817951817a51815d814f8100518151817951817a51815d8102005d815d817a4f8151817a51817951817951810707077a074f8100518151817951817a518107] ++ (z48 ++ (dec [0x10200638163816381638163816381638163817d6181006181] ++ (z116 ++ (z116 ++ (z116 ++ (z175 ++ (z175 ++ (dec [0x16b816781678165816781678100678100678167816781658167816781006781006781678167816581678167810067810067816781006581006581658165817a077c070707] ++ (z176 ++ (z176 ++ (dec [0x161817a61816d815f8100618161817961817a61816d815f8100618161817961817a61816d8102006d816d817a5f8161817a618179618179618107070778075f8100618161817961817a6181077a075f8100618161817961817a618107, 0x15f81006181618179] ++ (z67 ++ (z67 ++ (dec [0x1781381001381001381780b81000d810d81790d817a0d816f817802006f816f817a0b810d817a0d81790d81790d81] ++ (z48 ++ (dec [0x10200758175817581758175817581758175817d7381007381] ++ (z117 ++ (z117 ++ (z117 ++ (z177 ++ (z177 ++ (dec [0x17d817981798177817981798100798100798179817981778179817981007981007981798179817781798179810079810079817981007781007781778177817a077c070707] ++ (z178 ++ (z178 ++ (dec [0x1718100738173817973817a73817f81718100738173817973817a73817f8102007f817f817a718173817a73817973817973810707077a07718100738173817973817a738107] ++ (z48 ++ (dec [0x10200858185818581858185818581858185817d8381008381] ++ (z118 ++ (z118 ++ (z118 ++ (z179 ++ (z179 ++ (dec [0x18d818981898187818981898100898100898189818981878189818981008981008981898189818781898189810089810089818981008781008781878187817a077c070707] ++ (z180 ++ (z180 ++ (dec [0x1818100838183817983817a83818f8102008f818f817a818183817a8381798381798381070707818100838183817983817a838107] ++ (z48 ++ (dec [0x10200958195819581958195819581958195817d9381009381] ++ (z119 ++ (z119 ++ (z119 ++ (z181 ++ (z181 ++ (dec [0x19d819981998197819981998100998100998199819981978199819981009981009981998199819781998199810099810099819981009781009781978197817a077c070707] ++ (z182 ++ (z182 ++ (dec [0x1918100938193817993817a93819f8102009f819f817a918193817a9381799381799381070707918100938193817993817a938107] ++ (z48 ++ (dec [0x10200a581a581a581a581a581a581a581a5817da38100a381] ++ (z120 ++ (z120 ++ (z120 ++ (z183 ++ (z183 ++ (dec [0x1ad81a981a981a781a981a98100a98100a981a981a981a781a981a98100a98100a981a981a981a781a981a98100a98100a981a98100a78100a781a781a7817a077c070707] ++ (z184 ++ (z184 ++ (dec [0x1a18100a381a38179a3817aa381af810200af81af817aa181a3817aa38179a38179a381070707a18100a381a38179a3817aa38107] ++ (z48 ++ (dec [0x10200b581b581b581b581b581b581b581b5817db38100b381] ++ (z121 ++ (z121 ++ (z121 ++ (z185 ++ (z185 ++ (dec [0x1bd81b981b981b781b981b98100b98100b981b981b981b781b981b98100b98100b981b981b981b781b981b98100b98100b981b98100b78100b781b781b7817a077c070707] ++ (z186 ++ (z186 ++ (dec [0x1c3813d813d813d81003d81003d81027807b18100b381b38179b3817ab381bf810200bf81bf817ab181b3817ab38179b38179b381070707b18100b381b38179b3817ab38107] ++ (z65 ++ (dec [0x10200c981c981c981c981c981c981c981c981c981c9817ec78100c781] ++ (z122 ++ (z122 ++ (dec [0x1c981] ++ (z88 ++ (dec [0x1cb8178cb81cb810200cb81cb81cb81cb81cb81cb817ac981] ++ (z123 ++ (dec [0x1cd81cd81cd81cd81cd81cd8108cd8100cd81cd817c] ++ (z88 ++ (dec [0x1d3810200d381d381d381d3817dd18100d1817c7f7f7f] ++ (z187 ++ (z187 ++ (z88 ++ (dec [0x1d78178d781d7810200d781d781d781d781d781d7817ac981c981c58100c781c78179c7817ac781] ++ (z123 ++ (z188 ++ (z188 ++ (z188 ++ (z47 ++ (dec [0x1000200d981d981d981d981d981d981d981d9817a07c581c7817ac78179c78179c781] ++ (z62 ++ (dec [0x1000200dd81dd81dd81dd81dd81dd817ad981d981c581c7817ac78179c78179c781d981d981d98178db81db810200db81db81db81db81db81db817a] ++ (z59 ++ (dec [0x179df8178df8178df81df81df8178e18178e181e1810200e181e181e181e181e181e1817adf81df81df81000200df81df81df81df81df81df81] ++ (z59 ++ (dec [0x1d981d9817ce581e581e581e581e58178dd81dd8178dd81dd8178e38178e381e3810200e381e381e381e381e381e381] ++ (z62 ++ (dec [0x1e981000200e981e981e981e9817ae781cf81d1817ad18179d18179d181e7810200e781e781e781e781e781e781e781e7817ac58100c781c78179c7817ac781d981d981d981cf81d1817ad18179d18179d181c58100c781c78179c7817ac781d98178d981, 0x1ef81000200ef81ef81ef81ef81ef81ef817acf8100d181d18179d1817ad181ed81ed81ed81000200ed81ed81ed81ed81ed81ed817ae781e781cf81d1817ad18179d18179d181e78102eb81d5812ed58100d581eb81d581cf8100d181d18179d1817ad181, 0x1e781e781cf81d1817ad18179d18179d181e78178e781e781e78178f38178f381f3810200f381f381f381f381f381f3817acf8100d181d18179d1817ad181ed81ed81ed8179ef81ef81ef8178f18178f181f1810200f181f181f181f181f181f1817aef81ef81, 0x1d181f581f581f581f581f581ff81fb81fb81f981fb81fb8100fb8100fb81fb81fb81f981fb81fb8100fb8100fb81fb81fb81f981fb81fb8100fb8100fb81fb8100f98100f981f981f981f581f581f5817cf58178f5810200f581f581f581f581f581f581f581f5817ae781, 0x10b8200f78100f7810b82f781e781e781e781f581f781f781f78100f78100078207820782078207827af581f581f581f581f781f781f781f781f58178f581f58100058201820182d5810182018200018200018202018200d58100d581d581cf8100d181d18179d1817a, 0x10015820015821582001382001382138213821182118211821182f781f781118211821182118214118200118211827a0d827802000d820d820d820d820d820d827ae781e781cf81d1817ad18179d18179d181e781cf81d1817ad18179d18179d181e7810b82f781, 0x10f8211820f820d820d82001f821b821b82d5811b821b82001b82001b82021b8200d58100d581d581cf8100d181d18179d1817ad1810d820d820d820d820d821982158215821382158215820015820015821582158213821582158200158200158215821582138215821582, 0x121820021822182238223822382238223822d8229822982278229822982002982002982298229822782298229820029820029822982298227822982298200298200298229820027820027822782278202002382238223822382238223827ae78111820f821182000f8200, 0x1258225822582258223827a23822382238223822382238235823182318209823182318200318200318231823182098231823182003182003182318231820982318231820031820031823182000982000982098209822f822f822f8221822f822f82002f82002f82022f8200, 0x1d18100d18178d1817ad181e7812382003d822f822f8221822f822f82002f82002f8202238223827c2382782382258225822582002582002382783782783782378202003782378237823782378237827acf8100d181d18179d1817ad18123822382238200, 0x13f823f8202003f823f827ac581c7817ac78179c78179c781d981cf81cf81cf8100d18179] ++ (z68 ++ (dec [0x145822582458200258200258245822582cf8100d181d18179d1817ad181438200020043824382438243827a4182cf81d1817ad18179d18179d1814182020041824182418241827ac58100c781c78179c7817ac7813f82cf81d1817ad18179d18179d181, 0x14382] ++ (z52 ++ (dec [0x1d1817ad1814d824d824d820002004d824d824d824d824d824d827a43824382cf81d1817ad18179d18179d181438243824382438243824b824782478239824782478200478200478247824782398247824782004782004782478247823982478247820047820047824782, 0x15382785382538202005382538253825382538253827acf8100d181d18179d1817ad1814d824d824d82794f824f824f82785182785182518202005182518251825182518251827a4f824f824f820002004f824f824f824f824f824f827acf8100d181d18179, 0x1418255822582558200258200258255822582cf8100d181d18179d1817ad18141827843824382438278] ++ (z52 ++ (dec [0x17ac7813f8200cd81cd81cd81cd81cd810ecd81003f82cd81cd81cd81cd81c58100c781c78179c7817ac7813f823f823f82003982003982003982398239822582258225822582002582002582258225822582cf8100d181d18179d1817ad1814182784182003982, 0x1c581c581c58100c78179c78100c78178c7817ac7813f82785782785782578202005782578257825782578257827ac58100c781c78179c7817ac7813f827a3f8278c58100c781c78179c781] ++ (z68 ++ (dec [0x10200638263826382638263826382638263827d6182006182007f7f7f7f07070007075d825d825d825d825d825d825d82005d82005d82025d825b825b825b82005b82005b825b825b82005b82005b825b827dd981d981d981d9817a3f827c] ++ (z124 ++ (z124 ++ (z124 ++ (z189 ++ (z189 ++ (dec [0x16b826782678265826782678200678200678267826782658267826782006782006782678267826582678267820067820067826782006582006582658265827a077c070707] ++ (z190 ++ (z190 ++ (dec [0x161827961827a61826d825f8200618261827961827a61826d825f8200618261827961827a61826d8202006d826d827a5f8261827a61827961827961820707075f8200618261827961827a6182077a075f8200618261827961827a618207, 0x15f82006182] ++ (z49 ++ (dec [0x10200738273827382738273827382738273827d7182007182] ++ (z125 ++ (z125 ++ (z125 ++ (z191 ++ (z191 ++ (dec [0x17b827782778275827782778200778200778277827782758277827782007782007782778277827582778277820077820077827782007582007582758275827a077c070707] ++ (z192 ++ (z192 ++ (dec [0x16f8200718271827971827a71827d826f8200718271827971827a71827d8202007d827d827a6f8271827a71827971827971820707077a076f8200718271827971827a718207] ++ (z49 ++ (dec [0x10200838283828382838283828382838283827d8182008182] ++ (z126 ++ (z126 ++ (z126 ++ (z193 ++ (z193 ++ (dec [0x18b828782878285828782878200878200878287828782858287828782008782008782878287828582878287820087820087828782008582008582858285827a077c070707] ++ (z194 ++ (z194 ++ (dec [0x181827a81828d827f8200818281827981827a81828d827f8200818281827981827a81828d8202008d828d827a7f8281827a818279818279818207070778077f8200818281827981827a8182077a077f8200818281827981827a818207, 0x17f82008182818279] ++ (z69 ++ (z69 ++ (dec [0x178cd8100cd8100cd8178c58100c781c78179c7817ac7818f827802008f828f827ac581c7817ac78179c78179c781] ++ (z49 ++ (dec [0x10200958295829582958295829582958295827d9382009382] ++ (z127 ++ (z127 ++ (z127 ++ (z195 ++ (z195 ++ (dec [0x19d829982998297829982998200998200998299829982978299829982009982009982998299829782998299820099820099829982009782009782978297827a077c070707] ++ (z196 ++ (z196 ++ (dec [0x1918200938293827993827a93829f82918200938293827993827a93829f8202009f829f827a918293827a93827993827993820707077a07918200938293827993827a938207] ++ (z49 ++ (dec [0x10200a582a582a582a582a582a582a582a5827da38200a382] ++ (z128 ++ (z128 ++ (z128 ++ (z197 ++ (z197 ++ (dec [0x1ad82a982a982a782a982a98200a98200a982a982a982a782a982a98200a98200a982a982a982a782a982a98200a98200a982a98200a78200a782a782a7827a077c070707] ++ (z198 ++ (z198 ++ (dec [0x1a18200a382a38279a3827aa382af820200af82af827aa182a3827aa38279a38279a382070707a18200a382a38279a3827aa38207] ++ (z49 ++ (dec [0x10200b582b582b582b582b582b582b582b5827db38200b382] ++ (z129 ++ (z129 ++ (z129 ++ (z199 ++ (z199 ++ (dec [0x1bd82b982b982b782b982b98200b98200b982b982b982b782b982b98200b98200b982b982b982b782b982b98200b98200b982b98200b78200b782b782b7827a077c070707] ++ (z200 ++ (z200 ++ (dec [0x1b18200b382b38279b3827ab382bf820200bf82bf827ab182b3827ab38279b38279b382070707b18200b382b38279b3827ab38207] ++ (z49 ++ (dec [0x10200c582c582c582c582c582c582c582c5827dc38200c382] ++ (z130 ++ (z130 ++ (z130 ++ (z201 ++ (z201 ++ (dec [0x1cd82c982c982c782c982c98200c98200c982c982c982c782c982c98200c98200c982c982c982c782c982c98200c98200c982c98200c78200c782c782c7827a077c070707] ++ (z202 ++ (z202 ++ (dec [0x1c18200c382c38279c3827ac382cf820200cf82cf827ac182c3827ac38279c38279c382070707c18200c382c38279c3827ac38207] ++ (z49 ++ (dec [0x10200d582d582d582d582d582d582d582d5827dd38200d382] ++ (z131 ++ (z131 ++ (z131 ++ (z203 ++ (z203 ++ (dec [0x1dd82d982d982d782d982d98200d98200d982d982d982d782d982d98200d98200d982d982d982d782d982d98200d98200d982d98200d78200d782d782d7827a077c070707] ++ (z204 ++ (z204 ++ dec [0x100e782818081807f80818081800081800081800200e3825d825d825d82005d82005d82027807d18200d382d38279d3827ad382df820200df82df827ad182d3827ad38279d38279d382070707d18200d382d38279d3827ad38207]))))))))))))))))))))))))))))))))))))))))))))))))))))))))))))))))))))))))))))))))))))))))))))))))))))))))))))))))))))))))))))))))))))))))))))))))))))))))))))))))))))))))))))))))))))))))))))))))))))))))))))))))))))))))))))))))))))))))))))))))))))))))))))))))))))))))))))))))))))))))))))))))))))))))))))))))))))))))))))))))))))))))))))))))))))))))))))))))))))))))))))))))))))))))))))))))))))))))))))))))))))))))))))))))))))))))))
theorem run_link_false (w : World) (N t0 sa fa la : Nat) (o0 o2 : Obj) (es : Array DictEntry) (ep : Nat) (h : Heap) (d : Drawn) (os : OsState) (b : List Stmt) (e : EnvV) (p1 p2 p : Pos) (b2 : Bool) (v1 v2 v3 : Array Value) (sl : Array (Option Value)) :
 simG (VV (wF w false b2) h d os) (HH hkNo) (endL (.ok (.ret (.bool true)), some (sa, o0), some (fa, frO es ep (sl)), some (la, o2), N + 1723, 369, t0 + 1, 1582, chL v1 v2 v3)) 22000 (ΓL 1684 [.ref la] b (envL e fa) p1 p2) p .base (denF (.call (.ref 1684) ⟨[.ref la], []⟩)) (TL sa fa la o0 (frO es ep (sl)) o2) 3 (N + 1723) 0 (t0 + 1) 0 (chL v1 v2 v3) js_link [] True =
 AllP (okAcc (accL (AL N sa fa la) js_link []) ∧ tt 3 ∧ ((.ok (.ret (.bool true)), some (sa, o0), some (fa, frO es ep (sl)), some (la, o2), N + 1723, 369, t0 + 1, 1582, chL v1 v2 v3) : VL) = (.ok (.ret (.bool true)), some (sa, o0), some (fa, frO es ep (sl)), some (la, o2), N + 1723, 369, t0 + 1, 1582, chL v1 v2 v3)) 1 := by kernel_rfl
theorem run_link_true (w : World) (N t0 sa fa la : Nat) (o0 o2 : Obj) (es : Array DictEntry) (ep : Nat) (h : Heap) (d : Drawn) (os : OsState) (b : List Stmt) (e : EnvV) (p1 p2 p : Pos) (b2 : Bool) (v1 v2 v3 : Array Value) (sl : Array (Option Value)) :
 simG (VV (wF w true b2) h d os) (HH hkNo) (endL (.ok (.ret (.bool true)), some (sa, o0), some (fa, frO es ep (sl)), some (la, o2), N + 1723, 369, t0 + 1, 1582, chL v1 v2 v3)) 22000 (ΓL 1684 [.ref la] b (envL e fa) p1 p2) p .base (denF (.call (.ref 1684) ⟨[.ref la], []⟩)) (TL sa fa la o0 (frO es ep (sl)) o2) 3 (N + 1723) 0 (t0 + 1) 0 (chL v1 v2 v3) js_link [] True =
 AllP (okAcc (accL (AL N sa fa la) js_link []) ∧ tt 3 ∧ ((.ok (.ret (.bool true)), some (sa, o0), some (fa, frO es ep (sl)), some (la, o2), N + 1723, 369, t0 + 1, 1582, chL v1 v2 v3) : VL) = (.ok (.ret (.bool true)), some (sa, o0), some (fa, frO es ep (sl)), some (la, o2), N + 1723, 369, t0 + 1, 1582, chL v1 v2 v3)) 1 := by kernel_rfl
theorem pass_link (w : World) (h : Heap) (d : Drawn) (os : OsState) (O : (VV w h d os).Ok) (es : Nat → Nat → Array DictEntry) (ep : Nat) (b : List Stmt) (e : EnvV) (p1 p2 : Pos) (v1 v2 v3 : Array Value) (sl : Array (Option Value)) :
  Pass (VV w h d os) 1684 true es ep b e p1 p2 (sl) (chL v1 v2 v3) (fun sl1 ch => sl1 = sl ∧ ch = chL v1 v2 v3) := by
 intro N t0 sa fa la o0 s0 u0 s1 u1 p R g hb D K
 rw [← wF_self w] at D K ⊢
 revert D K
 have O' : ∀ b1 b2, (VV (wF w b1 b2) h d os).Ok := fun b1 b2 => ⟨O.exn, O.size, O.kt, O.tabs⟩
 generalize w.params.followText "special-get-raises" = b1
 generalize w.params.followText "comprehension-iter-twice" = b2
 intro D K
 have hH := HH_ok _ (O' b1 b2) (Nat.le_refl 1723) (hkNo_ok (VV (wF w b1 b2) h d os))
 have K' := K (N + 369) (t0 + 1582) s0 u0 s1 u1 (sl) (chL v1 v2 v3) hb (⟨rfl, rfl⟩)
 have K2 : AtS (VV (wF w b1 b2) h d os) R (.ok (.ret (.bool true))) (TL sa fa la o0 (frO (es sa la) ep (sl)) (srcO s0 u0 s1 u1)) 3 (N + 1723) 369 (t0 + 1) 1582 (chL v1 v2 v3) := fun h' D' => by
  have e1 : N + 1723 + 369 = N + 369 + 1723 + 0 := by omega
  have e2 : t0 + 1 + 1582 = t0 + 1582 + 1 + 0 := by omega
  rw [e1] at D'
  rw [e2]
  exact K' h' D'
 cases b1
 ·exact contractL (O' _ _) hH ((run_link_false w N t0 sa fa la o0 _ (es sa la) ep h d os b e p1 p2 p b2 v1 v2 v3 sl).mpr (AllP_ok ⟨accL_ok _ _ _ okNil, tt_ok _, rfl⟩ _)) D K2
 ·exact contractL (O' _ _) hH ((run_link_true w N t0 sa fa la o0 _ (es sa la) ep h d os b e p1 p2 p b2 v1 v2 v3 sl).mpr (AllP_ok ⟨accL_ok _ _ _ okNil, tt_ok _, rfl⟩ _)) D K2
def js0_errors : List Nat := (z0 ++ (dec [0x103] ++ z8))
def js1_errors : List Nat := (z0 ++ z8)
theorem run0_errors_false (w : World) (N t0 sa fa la : Nat) (o0 o2 : Obj) (es : Array DictEntry) (ep : Nat) (h : Heap) (d : Drawn) (os : OsState) (b : List Stmt) (e : EnvV) (p1 p2 p : Pos) (b2 : Bool) (v1 v3 : Array Value) :
 simG (VV (wF w false b2) h d os) (HH hkNo) (endL (.ok (.ret (.bool true)), some (sa, o0), some (fa, frO es ep (rdyS e)), some (la, o2), N + 1723, 144, t0 + 1, 415, chL v1 #[.int 1233 0, .int 34 0, .ref (N + 1723 + 99)] v3)) 6300 (ΓL 1703 [] b (envL e fa) p1 p2) p .base (denF (.call (.ref 1703) ⟨[], []⟩)) (TL sa fa la o0 (frO es ep (#[])) o2) 3 (N + 1723) 0 (t0 + 1) 0 (chL v1 #[] v3) js0_errors [] True =
 AllP (okAcc (accL (AL N sa fa la) js0_errors []) ∧ tt 0 ∧ ((.ok (.ret (.bool true)), some (sa, o0), some (fa, frO es ep (rdyS e)), some (la, o2), N + 1723, 144, t0 + 1, 415, chL v1 #[.int 1233 0, .int 34 0, .ref (N + 1723 + 99)] v3) : VL) = (.ok (.ret (.bool true)), some (sa, o0), some (fa, frO es ep (rdyS e)), some (la, o2), N + 1723, 144, t0 + 1, 415, chL v1 #[.int 1233 0, .int 34 0, .ref (N + 1723 + 99)] v3)) 1 := by kernel_rfl
theorem run0_errors_true (w : World) (N t0 sa fa la : Nat) (o0 o2 : Obj) (es : Array DictEntry) (ep : Nat) (h : Heap) (d : Drawn) (os : OsState) (b : List Stmt) (e : EnvV) (p1 p2 p : Pos) (b2 : Bool) (v1 v3 : Array Value) :
 simG (VV (wF w true b2) h d os) (HH hkNo) (endL (.ok (.ret (.bool true)), some (sa, o0), some (fa, frO es ep (rdyS e)), some (la, o2), N + 1723, 144, t0 + 1, 415, chL v1 #[.int 1233 0, .int 34 0, .ref (N + 1723 + 99)] v3)) 6300 (ΓL 1703 [] b (envL e fa) p1 p2) p .base (denF (.call (.ref 1703) ⟨[], []⟩)) (TL sa fa la o0 (frO es ep (#[])) o2) 3 (N + 1723) 0 (t0 + 1) 0 (chL v1 #[] v3) js0_errors [] True =
 AllP (okAcc (accL (AL N sa fa la) js0_errors []) ∧ tt 0 ∧ ((.ok (.ret (.bool true)), some (sa, o0), some (fa, frO es ep (rdyS e)), some (la, o2), N + 1723, 144, t0 + 1, 415, chL v1 #[.int 1233 0, .int 34 0, .ref (N + 1723 + 99)] v3) : VL) = (.ok (.ret (.bool true)), some (sa, o0), some (fa, frO es ep (rdyS e)), some (la, o2), N + 1723, 144, t0 + 1, 415, chL v1 #[.int 1233 0, .int 34 0, .ref (N + 1723 + 99)] v3)) 1 := by kernel_rfl
theorem pass0_errors (w : World) (h : Heap) (d : Drawn) (os : OsState) (O : (VV w h d os).Ok) (es : Nat → Nat → Array DictEntry) (ep : Nat) (b : List Stmt) (e : EnvV) (p1 p2 : Pos) (v1 v3 : Array Value) :
  Pass (VV w h d os) 1703 false es ep b e p1 p2 (#[]) (chL v1 #[] v3) (fun sl1 ch => sl1 = rdyS e ∧ ∃ v, ch = chL v1 v v3) := by
 intro N t0 sa fa la o0 s0 u0 s1 u1 p R g hb D K
 rw [← wF_self w] at D K ⊢
 revert D K
 have O' : ∀ b1 b2, (VV (wF w b1 b2) h d os).Ok := fun b1 b2 => ⟨O.exn, O.size, O.kt, O.tabs⟩
 generalize w.params.followText "special-get-raises" = b1
 generalize w.params.followText "comprehension-iter-twice" = b2
 intro D K
 have hH := HH_ok _ (O' b1 b2) (Nat.le_refl 1723) (hkNo_ok (VV (wF w b1 b2) h d os))
 have K' := K (N + 144) (t0 + 415) s0 u0 s1 u1 (rdyS e) (chL v1 #[.int 1233 0, .int 34 0, .ref (N + 1723 + 99)] v3) hb (⟨rfl, _, rfl⟩)
 have K2 : AtS (VV (wF w b1 b2) h d os) R (.ok (.ret (.bool true))) (TL sa fa la o0 (frO (es sa la) ep (rdyS e)) (srcO s0 u0 s1 u1)) 3 (N + 1723) 144 (t0 + 1) 415 (chL v1 #[.int 1233 0, .int 34 0, .ref (N + 1723 + 99)] v3) := fun h' D' => by
  have e1 : N + 1723 + 144 = N + 144 + 1723 + 0 := by omega
  have e2 : t0 + 1 + 415 = t0 + 415 + 1 + 0 := by omega
  rw [e1] at D'
  rw [e2]
  exact K' h' D'
 cases b1
 ·exact contractL (O' _ _) hH ((run0_errors_false w N t0 sa fa la o0 _ (es sa la) ep h d os b e p1 p2 p b2 v1 v3).mpr (AllP_ok ⟨accL_ok _ _ _ okNil, tt_ok _, rfl⟩ _)) D K2
 ·exact contractL (O' _ _) hH ((run0_errors_true w N t0 sa fa la o0 _ (es sa la) ep h d os b e p1 p2 p b2 v1 v3).mpr (AllP_ok ⟨accL_ok _ _ _ okNil, tt_ok _, rfl⟩ _)) D K2
theorem run1_errors_false (w : World) (N t0 sa fa la : Nat) (o0 o2 : Obj) (es : Array DictEntry) (ep : Nat) (h : Heap) (d : Drawn) (os : OsState) (b : List Stmt) (e : EnvV) (p1 p2 p : Pos) (b2 : Bool) (v1 v3 : Array Value) :
 simG (VV (wF w false b2) h d os) (HH hkNo) (endL (.ok (.ret (.bool true)), some (sa, o0), some (fa, frO es ep (rdyS e)), some (la, o2), N + 1723, 144, t0 + 1, 415, chL v1 #[.int 1233 0, .int 34 0, .ref (N + 1723 + 99)] v3)) 6300 (ΓL 1703 [] b (envL e fa) p1 p2) p .base (denF (.call (.ref 1703) ⟨[], []⟩)) (TL sa fa la o0 (frO es ep (rdyS e)) o2) 3 (N + 1723) 0 (t0 + 1) 0 (chL v1 #[] v3) js1_errors [] True =
 AllP (okAcc (accL (AL N sa fa la) js1_errors []) ∧ tt 0 ∧ ((.ok (.ret (.bool true)), some (sa, o0), some (fa, frO es ep (rdyS e)), some (la, o2), N + 1723, 144, t0 + 1, 415, chL v1 #[.int 1233 0, .int 34 0, .ref (N + 1723 + 99)] v3) : VL) = (.ok (.ret (.bool true)), some (sa, o0), some (fa, frO es ep (rdyS e)), some (la, o2), N + 1723, 144, t0 + 1, 415, chL v1 #[.int 1233 0, .int 34 0, .ref (N + 1723 + 99)] v3)) 1 := by kernel_rfl
theorem run1_errors_true (w : World) (N t0 sa fa la : Nat) (o0 o2 : Obj) (es : Array DictEntry) (ep : Nat) (h : Heap) (d : Drawn) (os : OsState) (b : List Stmt) (e : EnvV) (p1 p2 p : Pos) (b2 : Bool) (v1 v3 : Array Value) :
 simG (VV (wF w true b2) h d os) (HH hkNo) (endL (.ok (.ret (.bool true)), some (sa, o0), some (fa, frO es ep (rdyS e)), some (la, o2), N + 1723, 144, t0 + 1, 415, chL v1 #[.int 1233 0, .int 34 0, .ref (N + 1723 + 99)] v3)) 6300 (ΓL 1703 [] b (envL e fa) p1 p2) p .base (denF (.call (.ref 1703) ⟨[], []⟩)) (TL sa fa la o0 (frO es ep (rdyS e)) o2) 3 (N + 1723) 0 (t0 + 1) 0 (chL v1 #[] v3) js1_errors [] True =
 AllP (okAcc (accL (AL N sa fa la) js1_errors []) ∧ tt 0 ∧ ((.ok (.ret (.bool true)), some (sa, o0), some (fa, frO es ep (rdyS e)), some (la, o2), N + 1723, 144, t0 + 1, 415, chL v1 #[.int 1233 0, .int 34 0, .ref (N + 1723 + 99)] v3) : VL) = (.ok (.ret (.bool true)), some (sa, o0), some (fa, frO es ep (rdyS e)), some (la, o2), N + 1723, 144, t0 + 1, 415, chL v1 #[.int 1233 0, .int 34 0, .ref (N + 1723 + 99)] v3)) 1 := by kernel_rfl
theorem pass1_errors (w : World) (h : Heap) (d : Drawn) (os : OsState) (O : (VV w h d os).Ok) (es : Nat → Nat → Array DictEntry) (ep : Nat) (b : List Stmt) (e : EnvV) (p1 p2 : Pos) (v1 v3 : Array Value) :
  Pass (VV w h d os) 1703 false es ep b e p1 p2 (rdyS e) (chL v1 #[] v3) (fun sl1 ch => sl1 = rdyS e ∧ ∃ v, ch = chL v1 v v3) := by
 intro N t0 sa fa la o0 s0 u0 s1 u1 p R g hb D K
 rw [← wF_self w] at D K ⊢
 revert D K
 have O' : ∀ b1 b2, (VV (wF w b1 b2) h d os).Ok := fun b1 b2 => ⟨O.exn, O.size, O.kt, O.tabs⟩
 generalize w.params.followText "special-get-raises" = b1
 generalize w.params.followText "comprehension-iter-twice" = b2
 intro D K
 have hH := HH_ok _ (O' b1 b2) (Nat.le_refl 1723) (hkNo_ok (VV (wF w b1 b2) h d os))
 have K' := K (N + 144) (t0 + 415) s0 u0 s1 u1 (rdyS e) (chL v1 #[.int 1233 0, .int 34 0, .ref (N + 1723 + 99)] v3) hb (⟨rfl, _, rfl⟩)
 have K2 : AtS (VV (wF w b1 b2) h d os) R (.ok (.ret (.bool true))) (TL sa fa la o0 (frO (es sa la) ep (rdyS e)) (srcO s0 u0 s1 u1)) 3 (N + 1723) 144 (t0 + 1) 415 (chL v1 #[.int 1233 0, .int 34 0, .ref (N + 1723 + 99)] v3) := fun h' D' => by
  have e1 : N + 1723 + 144 = N + 144 + 1723 + 0 := by omega
  have e2 : t0 + 1 + 415 = t0 + 415 + 1 + 0 := by omega
  rw [e1] at D'
  rw [e2]
  exact K' h' D'
 cases b1
 ·exact contractL (O' _ _) hH ((run1_errors_false w N t0 sa fa la o0 _ (es sa la) ep h d os b e p1 p2 p b2 v1 v3).mpr (AllP_ok ⟨accL_ok _ _ _ okNil, tt_ok _, rfl⟩ _)) D K2
 ·exact contractL (O' _ _) hH ((run1_errors_true w N t0 sa fa la o0 _ (es sa la) ep h d os b e p1 p2 p b2 v1 v3).mpr (AllP_ok ⟨accL_ok _ _ _ okNil, tt_ok _, rfl⟩ _)) D K2
theorem Pass.mono {V : XW} {f : Nat} {src : Bool} {es : Nat → Nat → Array DictEntry} {ep : Nat} {b : List Stmt} {e : EnvV} {p1 p2 : Pos} {sl : Array (Option Value)} {ch : Ch} {P P' : Array (Option Value) → Ch → Prop} (h : Pass V f src es ep b e p1 p2 sl ch P) (H : ∀ s c, P s c → P' s c) : Pass V f src es ep b e p1 p2 sl ch P' :=
 fun N t0 sa fa la o0 s0 u0 s1 u1 p R g hb D K => h N t0 sa fa la o0 s0 u0 s1 u1 p R g hb D fun N' t' s0' u0' s1' u1' sl' ch' hb' q => K N' t' s0' u0' s1' u1' sl' ch' hb' (H _ _ q)
section
variable (w : World) (h : Heap) (d : Drawn) (os : OsState) (O : (VV w h d os).Ok)
def preT : PreT := fun _ _ _ _ _ => True
def sameP : List PostT := [fun _ sl v1 v2 v3 _ => (sl, chL v1 v2 v3)]
theorem all_fixed (O : (VV w h d os).Ok) : PassAll (VV w h d os) 1715 false preT sameP := fun es ep b e p1 p2 sl v1 v2 v3 _ =>
 (pass_fixed w h d os O es ep b e p1 p2 v1 v2 v3 sl).mono fun s c q => ⟨#[], _, .head _, by rw [q.1, q.2]⟩
theorem all_link (O : (VV w h d os).Ok) : PassAll (VV w h d os) 1684 true preT sameP := fun es ep b e p1 p2 sl v1 v2 v3 _ =>
 (pass_link w h d os O es ep b e p1 p2 v1 v2 v3 sl).mono fun s c q => ⟨#[], _, .head _, by rw [q.1, q.2]⟩
def preE : PreT := fun e sl _ v2 _ => v2 = #[] ∧ (sl = #[] ∨ sl = rdyS e)
def postE : List PostT := [fun e _ v1 _ v3 v => (rdyS e, chL v1 v v3)]
theorem all_errors (O : (VV w h d os).Ok) : PassAll (VV w h d os) 1703 false preE postE := fun es ep b e p1 p2 sl v1 v2 v3 hp => by
 obtain ⟨rfl, rfl | rfl⟩ := hp
 ·exact (pass0_errors w h d os O es ep b e p1 p2 v1 v3).mono fun s c q => let ⟨q1, v, q2⟩ := q; ⟨v, _, .head _, by rw [q1, q2]⟩
 ·exact (pass1_errors w h d os O es ep b e p1 p2 v1 v3).mono fun s c q => let ⟨q1, v, q2⟩ := q; ⟨v, _, .head _, by rw [q1, q2]⟩
end
def piG (i : Nat) : Nat := match i with
 | 0 => 0
 | 1 => 19
 | i + 2 => i + 1
theorem piG_inj {i j : Nat} (hi : i < 20) (hj : j < 20) (h : piG i = piG j) : i = j := by
 unfold piG at h
 split at h <;> split at h <;> omega
theorem Rp.reidx {w : World} {h : Heap} {d : Drawn} {os : OsState} {X : Nat → Option Obj} (O : (VX w h d os X).Ok) {l l' : OL} {m b : Nat} {ch : Ch} {g : Heap} (hl : l.length ≤ 63) (hl' : l'.length = 20) (D : Rp (VX w h d os X) (listT l) m b ch g)
  (H : ∀ i, i < 20 → nthO l' i = nthO l (piG i)) : Rp (VX w h d os X) (listT l') l'.length b ch g := by
 have G : ∀ k x, (listT l').get k = some x → k < 20 ∧ (listT l).get (piG k) = some x := fun k x hx => by
  rw [listT_get (by omega)] at hx
  have hk : k < 20 := by
   rw [nthO_is] at hx
   have := (List.getElem?_eq_some_iff.mp hx).1
   omega
  exact ⟨hk, by rw [listT_get hl, ← H k hk]; exact hx⟩
 have D1 := D.focus (T0 := listT l') (m0 := l'.length) (fun k x hx => ⟨by have := (G k x hx).1; omega, piG k, (G k x hx).2⟩) fun i j a o o' e1 e2 => by
  obtain ⟨h1, g1⟩ := G i _ e1
  obtain ⟨h2, g2⟩ := G j _ e2
  exact piG_inj h1 h2 (D.one _ _ _ _ _ g1 g2)
 exact D1.sub (frz_sub O D fun k x hx => ⟨piG k, (G k x hx).2⟩)
def P_GL (w : World) (l : OL) (c : Code) (e1 e2 : Env) (ch : Ch) : Prop := ∃ (st : StG) (k : Nat), l = listG 0 st k #[] #[] ∧ c = codeG w.params st.ga ∧ e1 = envG w.params st.ga ∧ e2 = envL st.z.e st.ga.fa ∧ ch = chL #[] st.v2 st.v3 ∧ ∀ X, st.Ok X k
def C_G (w : World) : CtMX := ⟨20, 20, 2, YG, P_GL w, resG, outG, tabG, PostG, fun _ _ _ _ => rfl⟩
theorem chL_inj {a b c a' b' c' : Array Value} (h : chL a b c = chL a' b' c') : a = a' ∧ b = b' ∧ c = c' := by
 unfold chL at h
 simp only [List.cons.injEq, Prod.mk.injEq, true_and, and_true] at h
 exact ⟨h.1, h.2.1, h.2.2⟩
theorem outG_0 (st : StG) (k : Nat) (y : EndG) (xa : Nat) : ∀ i, i < 20 → nthO (outG (listG 0 st k #[] #[]) (envL st.z.e st.ga.fa) 0 ⟨y, xa⟩) i = nthO (y.ol st #[] #[]) (piG i) := fun i hi => by
 exact match i, hi with
  | 0, _ => rfl
  | 1, _ => rfl
  | 2, _ => rfl
  | 3, _ => rfl
  | 4, _ => rfl
  | 5, _ => rfl
  | 6, _ => rfl
  | 7, _ => rfl
  | 8, _ => rfl
  | 9, _ => rfl
  | 10, _ => rfl
  | 11, _ => rfl
  | 12, _ => rfl
  | 13, _ => rfl
  | 14, _ => rfl
  | 15, _ => rfl
  | 16, _ => rfl
  | 17, _ => rfl
  | 18, _ => rfl
  | 19, _ => rfl
  | n + 20, h => absurd h (by omega)
theorem outG_1 (st : StG) (k : Nat) (y : EndG) (xa : Nat) : ∀ i, i < 20 → nthO (outG (listG 0 st k #[] #[]) (envL st.z.e st.ga.fa) 1 ⟨y, xa⟩) i = nthO (y.ol st (rdyG st.ga) (rdyS st.z.e)) (piG i) := fun i hi => by
 exact match i, hi with
  | 0, _ => rfl
  | 1, _ => rfl
  | 2, _ => rfl
  | 3, _ => rfl
  | 4, _ => rfl
  | 5, _ => rfl
  | 6, _ => rfl
  | 7, _ => rfl
  | 8, _ => rfl
  | 9, _ => rfl
  | 10, _ => rfl
  | 11, _ => rfl
  | 12, _ => rfl
  | 13, _ => rfl
  | 14, _ => rfl
  | 15, _ => rfl
  | 16, _ => rfl
  | 17, _ => rfl
  | 18, _ => rfl
  | 19, _ => rfl
  | n + 20, h => absurd h (by omega)
theorem C_G_ok (w : World) (h : Heap) (d : Drawn) (os : OsState) : CtOk (C_G w).n (C_G w).I w h d os := by
 intro X O l Γ p R g N t0 ch F hl hI D K
 obtain ⟨i1, i2, i3, e1, e2, hf, ⟨st, k, rfl, h2, h3, h4, h5, ok⟩, vc, hv, hF⟩ := hI
 obtain ⟨code, hd, own, bl, past⟩ := Γ
 simp only at i1 i2 i3 h2 hf
 obtain ⟨c1, q1, b, p1, p2, hb⟩ := frs_ok hf
 subst i1 i2 i3 h2 h3 h4 h5 hb
 have hvc := chL_inj hv
 refine G0_ok w h d os k X O _ _ p R g N t0 _ (fun r l'' N' t' ch' => ∃ l', l'.length = 20 ∧ l''.length ≤ 63 ∧ (∀ i, i < 20 → nthO l' i = nthO l'' (piG i)) ∧ F r l' N' t' ch') hl ⟨{ st with z := ⟨c1, q1, b, st.z.e, p1, p2⟩ }, 0, by decide, rfl, rfl, rfl, ⟨(ok X).bd, (ok X).inv, (ok X).nu, (ok X).gm, (ok X).fi, (ok X).la, (ok X).tk, (ok X).fr, (ok X).len, (ok X).td, (ok X).hl⟩, fun y N' t' hy => ?_, fun y xa N' t' hy => ?_⟩ D fun r l'' N' t' ch' ⟨l', q1, q2, q3, q4⟩ g' D' => ?_
 ·refine ⟨outG (listG 0 st k #[] #[]) (envL st.z.e st.ga.fa) 0 ⟨y, 0⟩, rfl, by show 20 ≤ 63; decide, outG_0 st k y 0, ?_⟩
  have := hF 0 (show 0 < 2 by decide) ⟨y, 0⟩ N' t' hy
  rw [← hvc.1, ← hvc.2.1, ← hvc.2.2] at this
  exact this
 ·refine ⟨outG (listG 0 st k #[] #[]) (envL st.z.e st.ga.fa) 1 ⟨y, xa⟩, rfl, by show 20 ≤ 63; decide, outG_1 st k y xa, ?_⟩
  have := hF 1 (show 1 < 2 by decide) ⟨y, xa⟩ N' t' hy
  rw [← hvc.1, ← hvc.2.1, ← hvc.2.2] at this
  exact this
 ·exact K r l' N' t' ch' q4 g' (Rp.reidx O q2 q1 D' q3)
structure YP where
 q : Nat
 s0 : Int
 u0 : Nat
 s1 : Int
 u1 : Nat
 xa : Nat
def C_ports (es : Array DictEntry) (ep : Nat) (e : EnvV) : CtC := ⟨2, YP, fun l Γ ch => ∃ (la fa : Nat) (s0 : Int) (u0 : Nat) (s1 : Int) (u1 : Nat) (b : List Stmt) (p1 p2 : Pos) (v2 v3 : Array Value), l = [(la, srcE s0 u0 s1 u1 0), (fa, frO es ep #[])] ∧ Γ = ⟨.call (.ref 1696) ⟨[.ref la], []⟩, none, none, [(.func b (envL e fa), p1), (.builtin "claim.caller" {}, p2)], none⟩ ∧ ch = chL #[] v2 v3 ∧ Bd s0 s1,
 fun _ => .ok (.ret (.bool true)), fun y => [srcE y.s0 y.u0 y.s1 y.u1 0, frO es ep (Nat.rec #[] (fun _ _ => rdyS e) y.q)], fun y v => Nat.rec v (fun _ _ => tabX y.xa) y.q, fun _ y => Bd y.s0 y.s1⟩
theorem stT_ok {w : World} {N N1 N2 t0 t1 la fa : Nat} {r1 r2 : Int} {sb0 : Int} {ub0 : Nat} {sb1 : Int} {ub1 : Nat} {esF : Array DictEntry} {epf : Nat} {e : EnvV} {v2 v3 : Array Value} (a0 : 0 ≤ r1) (a1 : r1 < 4) (b0 : 0 ≤ r2) (b1 : r2 < 4) (hb : Bd sb0 sb1) (X : XT) :
  (⟨0, 0, 0, 0, epf, (1 + r1).toNat, t1 + 2, t1 + 86, gaT N N1 N2 t1 r1 la fa, gxT w t0, kfT w N1 t1, xpT w N1 t1 r1, ⟨[], default, [], e, default, default⟩, 30, 0, sb0, ub0, sb1, ub1, #[], [], [], [], esF, v2, v3⟩ : StG).Ok X (4 + r2).toNat where
 bd := hb
 inv := ⟨by show 1 ≤ (1 + r1).toNat; omega, by show (1 + r1).toNat ≤ 4; omega, by show (30 : Int) ≤ 30; omega, by show (30 : Int) ≤ 29 + ((1 + r1).toNat : Int); omega, fun _ h => (nomatch h), fun _ h => (nomatch h), .nil, fun k h => (nomatch h), rfl⟩
 nu := .nil
 gm := by show 1 + r1 = ((1 + r1).toNat : Int); omega
 fi := rfl
 la := by show 29 + (1 + r1) = 29 + ((1 + r1).toNat : Int); omega
 tk := ⟨rfl, rfl, by show 0 ≤ 1000; decide⟩
 fr := fun x h => (nomatch h)
 len := by show 0 + (4 + r2).toNat ≤ 100; omega
 td := ⟨N1 + 11, by show N1 + 1723 + 11 = N1 + 11 + 1723; omega⟩
 hl := ⟨N1 + 20, by show N1 + 1723 + 20 = N1 + 20 + 1723; omega⟩
theorem C_ports_ok (es : Array DictEntry) (ep : Nat) (e : EnvV) (w : World) (h : Heap) (d : Drawn) (os : OsState) : CtOk (C_ports es ep e).n (C_ports es ep e).I w h d os := by
 intro X O l Γ p R g N t0 ch F hl hI D K
 obtain ⟨⟨la, fa, s0, u0, s1, u1, b, p1, p2, v2, v3, rfl, rfl, rfl, hb⟩, vc, hv, hF⟩ := hI
 have hvc := chL_inj hv
 have R' : rhsH w N t0 la fa s0 s1 es ep e v2 v3 (KVof 2 F) (P_GL w) PostG := by
  refine ⟨accL_ok _ _ _ okNil, trivial, hb, fun r1 uw N1 t1 sa0 ua0 sa1 ua1 a0 a1 hba => ⟨accL_ok _ _ _ okNil, ⟨decide_eq_true (by omega), decide_eq_true (by omega), rfl, trivial⟩, hba, fun r2 uq N2 t2 sb0 ub0 sb1 ub1 b0 b1 hbb => ⟨accL_ok _ _ _ okNil, ⟨⟨rfl, rfl, chkRg_of (by omega) (by omega)⟩, trivial⟩, ⟨_, (4 + r2).toNat, ?_, rfl, rfl, rfl, rfl, stT_ok (w := w) (N := N) (N1 := N1) (N2 := N2) (t0 := t0) (t1 := t1) (la := la) (fa := fa) (ub0 := ub0) (ub1 := ub1) (esF := es) (epf := ep) (e := e) (v2 := v2) (v3 := v3) a0 a1 b0 b1 hbb⟩, ⟨trivial, fun y N3 t3 hy => ?_⟩, fun y N3 t3 hy => ?_⟩⟩⟩
  ·have e4 : 4 + r2 = Int.ofNat (4 + r2).toNat := by show 4 + r2 = ((4 + r2).toNat : Int); omega
   rw [e4]; rfl
  ·have := hF ⟨0, y.y.s0, y.y.u0, y.y.s1, y.y.u1, 0⟩ N3 t3 hy
   rw [← hvc.1, ← hvc.2.1, ← hvc.2.2] at this
   exact ⟨okNil, trivial, _, N3, t3, this, rfl, rfl, rfl, rfl⟩
  ·have := hF ⟨1, y.y.s0, y.y.u0, y.y.s1, y.y.u1, y.xa⟩ N3 t3 hy
   rw [← hvc.1, ← hvc.2.1, ← hvc.2.2] at this
   exact ⟨okNil, trivial, _, N3, t3, this, rfl, rfl, rfl, rfl⟩
 have run := (runH w N t0 la fa s0 u0 s1 u1 es ep h d os X b e p1 p2 p v2 v3 (KVof 2 F) (P_GL w) PostG (w.params.followText "comprehension-iter-twice") (w.params.followText "special-get-raises")).mpr R'
 unfold simH at run
 rw [wF_self] at run
 exact ct_run3 (by decide) O (hkOf2_ok (hkTakeA_ok O) (hkMX_ok (C := C_G w) O (C_G_ok w h d os) (show (20 : Nat) ≤ 63 by decide))) run D K
def preG : PreT := fun _ sl v1 _ _ => v1 = #[] ∧ sl = #[]
def postG : List PostT := [fun _ sl v1 v2 v3 _ => (sl, chL v1 v2 v3), fun e _ _ v2 v3 v => (rdyS e, chL v v2 v3)]
theorem all_ports (w : World) (h : Heap) (d : Drawn) (os : OsState) (O : (VV w h d os).Ok) : PassAll (VV w h d os) 1696 true preG postG := fun es ep b e p1 p2 sl v1 v2 v3 hp => by
 obtain ⟨rfl, rfl⟩ := hp
 intro N t0 sa fa la o0 s0 u0 s1 u1 p R g hb D K
 have z := (hkC_ok (X := fun _ => none) O (C := C_ports (es sa la) ep e) (C_ports_ok _ _ _ w h d os) (show (2 : Nat) ≤ 63 by decide)).ok [5, 3] (ΓL 1696 [.ref la] b (envL e fa) p1 p2) p (TL sa fa la o0 (frO (es sa la) ep #[]) (srcO s0 u0 s1 u1)) 3 (N + 1723) 0 (t0 + 1) 0 (chL #[] v2 v3) [] _ rfl (fun y hy => nomatch hy) R g D
 refine z ⟨⟨la, fa, s0, u0, s1, u1, b, p1, p2, v2, v3, rfl, rfl, rfl, hb⟩, fun y N' t' hy => ?_⟩
 obtain ⟨q, s0', u0', s1', u1', xa⟩ := y
 cases q with
 | zero => exact K N' t' s0' u0' s1' u1' #[] _ hy ⟨#[], _, .head _, rfl⟩
 | succ q => exact K N' t' s0' u0' s1' u1' (rdyS e) _ hy ⟨tabX xa, _, .tail _ (.head _), rfl⟩
abbrev VP := Result × Option (Nat × Obj) × Option (Nat × Obj) × Nat × Nat × Nat × Nat × Ch
def endP (X : VP) : KTy := fun r T _ B c τ i ch _ => (r, T.get 0, T.get 7, B, c, τ, i, ch) = X
def ΓP (sa tk : Nat) (b : List Stmt) (env : Env) (p1 p2 : Pos) : PySem.Ctx := ⟨.call (.ref 1637) ⟨[.ref sa, .int 0 tk], []⟩, none, none, [(.func b env, p1), (.builtin "claim.caller" {}, p2)], none⟩
def scO (xs : Array Value) (ep : Nat) : Obj := { cls := .type "list", data := .seq xs ep }
def AP (N sa : Nat) (i : Nat) : Nat := match i with
 | 0 => sa
 | i + 1 => N + 1723 + i
def js_poolE : List Nat := dec [0x1070978700007070507070007000709000909090707050707000700070900070005000505007f03007f037b6400011600037803030302000303030378, 0x1037c80007f7679037803030382807d7c807b7c800003787c8000037c80000382807d037a03030909090d0707050707000700]
def js_poolA : List Nat := (z17 ++ dec [0x1037c80007f])
def js_poolB : List Nat := (z16 ++ dec [0x1037c80007f])
def js_poolC : List Nat := (z17 ++ dec [0x1037c807f02])
def js_poolD : List Nat := (z16 ++ dec [0x1037c807f02])
def mx (big : Int) : Int := ((big.fmod 2147483629 + 0 + 0 + 17) * 48271).fmod 2147483647
theorem runE_pool_false (w : World) (N t0 sa tk ep : Nat) (z : Int) (tz : Nat) (rest : List Value) (h : Heap) (d : Drawn) (os : OsState) (X : Nat → Option Obj) (b : List Stmt) (env : Env) (p1 p2 p : Pos) (b2 : Bool) (v1 v2 v3 : Array Value) :
 simG (VX (wF w false b2) h d os X) (HH hkNo) (endP (.ok (.ret (.ref (N + 1723 + 6))), some (sa, scO (#[]) ep), some (N + 1723 + 6, srcE 0 (t0 + 1 + 30) 820607 (t0 + 1 + 24) 0), N + 1723, 7, t0 + 1, 31, chL v1 v2 v3)) 400 (ΓP sa tk b env p1 p2) p .base (denF (.call (.ref 1637) ⟨[.ref sa, .int 0 tk], []⟩)) (.node sa (scO (#[]) ep) .nil .nil) 1 (N + 1723) 0 (t0 + 1) 0 (chL v1 v2 v3) js_poolE [] True =
 (okAcc (accL (AP N sa) js_poolE []) ∧ (true = true ∧ false = false ∧ true = true ∧ true = true ∧ true = true ∧ true = true ∧ true = true ∧ true = true ∧ false = false ∧ false = false ∧ true = true ∧ True) ∧ ((.ok (.ret (.ref (N + 1723 + 6))), some (sa, scO (#[]) ep), some (N + 1723 + 6, srcE 0 (t0 + 1 + 30) 820607 (t0 + 1 + 24) 0), N + 1723, 7, t0 + 1, 31, chL v1 v2 v3) : VP) = (.ok (.ret (.ref (N + 1723 + 6))), some (sa, scO (#[]) ep), some (N + 1723 + 6, srcE 0 (t0 + 1 + 30) 820607 (t0 + 1 + 24) 0), N + 1723, 7, t0 + 1, 31, chL v1 v2 v3)) := by kernel_rfl
theorem runE_pool_true (w : World) (N t0 sa tk ep : Nat) (z : Int) (tz : Nat) (rest : List Value) (h : Heap) (d : Drawn) (os : OsState) (X : Nat → Option Obj) (b : List Stmt) (env : Env) (p1 p2 p : Pos) (b2 : Bool) (v1 v2 v3 : Array Value) :
 simG (VX (wF w true b2) h d os X) (HH hkNo) (endP (.ok (.ret (.ref (N + 1723 + 6))), some (sa, scO (#[]) ep), some (N + 1723 + 6, srcE 0 (t0 + 1 + 30) 820607 (t0 + 1 + 24) 0), N + 1723, 7, t0 + 1, 31, chL v1 v2 v3)) 400 (ΓP sa tk b env p1 p2) p .base (denF (.call (.ref 1637) ⟨[.ref sa, .int 0 tk], []⟩)) (.node sa (scO (#[]) ep) .nil .nil) 1 (N + 1723) 0 (t0 + 1) 0 (chL v1 v2 v3) js_poolE [] True =
 (okAcc (accL (AP N sa) js_poolE []) ∧ (true = true ∧ false = false ∧ true = true ∧ true = true ∧ true = true ∧ true = true ∧ true = true ∧ true = true ∧ false = false ∧ false = false ∧ true = true ∧ True) ∧ ((.ok (.ret (.ref (N + 1723 + 6))), some (sa, scO (#[]) ep), some (N + 1723 + 6, srcE 0 (t0 + 1 + 30) 820607 (t0 + 1 + 24) 0), N + 1723, 7, t0 + 1, 31, chL v1 v2 v3) : VP) = (.ok (.ret (.ref (N + 1723 + 6))), some (sa, scO (#[]) ep), some (N + 1723 + 6, srcE 0 (t0 + 1 + 30) 820607 (t0 + 1 + 24) 0), N + 1723, 7, t0 + 1, 31, chL v1 v2 v3)) := by kernel_rfl
theorem runA_pool_false (w : World) (N t0 sa tk ep : Nat) (z : Int) (tz : Nat) (rest : List Value) (h : Heap) (d : Drawn) (os : OsState) (X : Nat → Option Obj) (b : List Stmt) (env : Env) (p1 p2 p : Pos) (b2 : Bool) (v1 v2 v3 : Array Value) :
 simG (VX (wF w false b2) h d os X) (HH hkNo) (endP (.ok (.ret (.ref (N + 1723 + 6))), some (sa, scO (⟨.int z tz :: rest⟩) ep), some (N + 1723 + 6, srcE (z * 0) (t0 + 1 + 31) (mx z) (t0 + 1 + 25) 0), N + 1723, 7, t0 + 1, 32, chL v1 v2 v3)) 400 (ΓP sa tk b env p1 p2) p .base (denF (.call (.ref 1637) ⟨[.ref sa, .int 0 tk], []⟩)) (.node sa (scO (⟨.int z tz :: rest⟩) ep) .nil .nil) 1 (N + 1723) 0 (t0 + 1) 0 (chL v1 v2 v3) js_poolA [] True =
 (okAcc (accL (AP N sa) js_poolA []) ∧ (true = true ∧ decide (z ≥ 1000000000000000000) = false ∧ true = true ∧ true = true ∧ true = true ∧ true = true ∧ true = true ∧ true = true ∧ decide ((-1 - z) > z) = false ∧ decide ((0 : Int) < (((⟨.int z tz :: rest⟩ : Array Value).size : Nat) : Int)) = true ∧ chkLe (⟨.int z tz :: rest⟩ : Array Value).size = true ∧ True) ∧ ((.ok (.ret (.ref (N + 1723 + 6))), some (sa, scO (⟨.int z tz :: rest⟩) ep), some (N + 1723 + 6, srcE (z * 0) (t0 + 1 + 31) (mx z) (t0 + 1 + 25) 0), N + 1723, 7, t0 + 1, 32, chL v1 v2 v3) : VP) = (.ok (.ret (.ref (N + 1723 + 6))), some (sa, scO (⟨.int z tz :: rest⟩) ep), some (N + 1723 + 6, srcE (z * 0) (t0 + 1 + 31) (mx z) (t0 + 1 + 25) 0), N + 1723, 7, t0 + 1, 32, chL v1 v2 v3)) := by kernel_rfl
theorem runA_pool_true (w : World) (N t0 sa tk ep : Nat) (z : Int) (tz : Nat) (rest : List Value) (h : Heap) (d : Drawn) (os : OsState) (X : Nat → Option Obj) (b : List Stmt) (env : Env) (p1 p2 p : Pos) (b2 : Bool) (v1 v2 v3 : Array Value) :
 simG (VX (wF w true b2) h d os X) (HH hkNo) (endP (.ok (.ret (.ref (N + 1723 + 6))), some (sa, scO (⟨.int z tz :: rest⟩) ep), some (N + 1723 + 6, srcE (z * 0) (t0 + 1 + 31) (mx z) (t0 + 1 + 25) 0), N + 1723, 7, t0 + 1, 32, chL v1 v2 v3)) 400 (ΓP sa tk b env p1 p2) p .base (denF (.call (.ref 1637) ⟨[.ref sa, .int 0 tk], []⟩)) (.node sa (scO (⟨.int z tz :: rest⟩) ep) .nil .nil) 1 (N + 1723) 0 (t0 + 1) 0 (chL v1 v2 v3) js_poolA [] True =
 (okAcc (accL (AP N sa) js_poolA []) ∧ (true = true ∧ decide (z ≥ 1000000000000000000) = false ∧ true = true ∧ true = true ∧ true = true ∧ true = true ∧ true = true ∧ true = true ∧ decide ((-1 - z) > z) = false ∧ decide ((0 : Int) < (((⟨.int z tz :: rest⟩ : Array Value).size : Nat) : Int)) = true ∧ chkLe (⟨.int z tz :: rest⟩ : Array Value).size = true ∧ True) ∧ ((.ok (.ret (.ref (N + 1723 + 6))), some (sa, scO (⟨.int z tz :: rest⟩) ep), some (N + 1723 + 6, srcE (z * 0) (t0 + 1 + 31) (mx z) (t0 + 1 + 25) 0), N + 1723, 7, t0 + 1, 32, chL v1 v2 v3) : VP) = (.ok (.ret (.ref (N + 1723 + 6))), some (sa, scO (⟨.int z tz :: rest⟩) ep), some (N + 1723 + 6, srcE (z * 0) (t0 + 1 + 31) (mx z) (t0 + 1 + 25) 0), N + 1723, 7, t0 + 1, 32, chL v1 v2 v3)) := by kernel_rfl
theorem runB_pool_false (w : World) (N t0 sa tk ep : Nat) (z : Int) (tz : Nat) (rest : List Value) (h : Heap) (d : Drawn) (os : OsState) (X : Nat → Option Obj) (b : List Stmt) (env : Env) (p1 p2 p : Pos) (b2 : Bool) (v1 v2 v3 : Array Value) :
 simG (VX (wF w false b2) h d os X) (HH hkNo) (endP (.ok (.ret (.ref (N + 1723 + 6))), some (sa, scO (⟨.int z tz :: rest⟩) ep), some (N + 1723 + 6, srcE ((-1 - z) * 0) (t0 + 1 + 31) (mx (-1 - z)) (t0 + 1 + 25) 0), N + 1723, 7, t0 + 1, 32, chL v1 v2 v3)) 400 (ΓP sa tk b env p1 p2) p .base (denF (.call (.ref 1637) ⟨[.ref sa, .int 0 tk], []⟩)) (.node sa (scO (⟨.int z tz :: rest⟩) ep) .nil .nil) 1 (N + 1723) 0 (t0 + 1) 0 (chL v1 v2 v3) js_poolB [] True =
 (okAcc (accL (AP N sa) js_poolB []) ∧ (true = true ∧ decide ((-1 - z) ≥ 1000000000000000000) = false ∧ true = true ∧ true = true ∧ true = true ∧ true = true ∧ true = true ∧ true = true ∧ decide ((-1 - z) > z) = true ∧ decide ((0 : Int) < (((⟨.int z tz :: rest⟩ : Array Value).size : Nat) : Int)) = true ∧ chkLe (⟨.int z tz :: rest⟩ : Array Value).size = true ∧ True) ∧ ((.ok (.ret (.ref (N + 1723 + 6))), some (sa, scO (⟨.int z tz :: rest⟩) ep), some (N + 1723 + 6, srcE ((-1 - z) * 0) (t0 + 1 + 31) (mx (-1 - z)) (t0 + 1 + 25) 0), N + 1723, 7, t0 + 1, 32, chL v1 v2 v3) : VP) = (.ok (.ret (.ref (N + 1723 + 6))), some (sa, scO (⟨.int z tz :: rest⟩) ep), some (N + 1723 + 6, srcE ((-1 - z) * 0) (t0 + 1 + 31) (mx (-1 - z)) (t0 + 1 + 25) 0), N + 1723, 7, t0 + 1, 32, chL v1 v2 v3)) := by kernel_rfl
theorem runB_pool_true (w : World) (N t0 sa tk ep : Nat) (z : Int) (tz : Nat) (rest : List Value) (h : Heap) (d : Drawn) (os : OsState) (X : Nat → Option Obj) (b : List Stmt) (env : Env) (p1 p2 p : Pos) (b2 : Bool) (v1 v2 v3 : Array Value) :
 simG (VX (wF w true b2) h d os X) (HH hkNo) (endP (.ok (.ret (.ref (N + 1723 + 6))), some (sa, scO (⟨.int z tz :: rest⟩) ep), some (N + 1723 + 6, srcE ((-1 - z) * 0) (t0 + 1 + 31) (mx (-1 - z)) (t0 + 1 + 25) 0), N + 1723, 7, t0 + 1, 32, chL v1 v2 v3)) 400 (ΓP sa tk b env p1 p2) p .base (denF (.call (.ref 1637) ⟨[.ref sa, .int 0 tk], []⟩)) (.node sa (scO (⟨.int z tz :: rest⟩) ep) .nil .nil) 1 (N + 1723) 0 (t0 + 1) 0 (chL v1 v2 v3) js_poolB [] True =
 (okAcc (accL (AP N sa) js_poolB []) ∧ (true = true ∧ decide ((-1 - z) ≥ 1000000000000000000) = false ∧ true = true ∧ true = true ∧ true = true ∧ true = true ∧ true = true ∧ true = true ∧ decide ((-1 - z) > z) = true ∧ decide ((0 : Int) < (((⟨.int z tz :: rest⟩ : Array Value).size : Nat) : Int)) = true ∧ chkLe (⟨.int z tz :: rest⟩ : Array Value).size = true ∧ True) ∧ ((.ok (.ret (.ref (N + 1723 + 6))), some (sa, scO (⟨.int z tz :: rest⟩) ep), some (N + 1723 + 6, srcE ((-1 - z) * 0) (t0 + 1 + 31) (mx (-1 - z)) (t0 + 1 + 25) 0), N + 1723, 7, t0 + 1, 32, chL v1 v2 v3) : VP) = (.ok (.ret (.ref (N + 1723 + 6))), some (sa, scO (⟨.int z tz :: rest⟩) ep), some (N + 1723 + 6, srcE ((-1 - z) * 0) (t0 + 1 + 31) (mx (-1 - z)) (t0 + 1 + 25) 0), N + 1723, 7, t0 + 1, 32, chL v1 v2 v3)) := by kernel_rfl
theorem runC_pool_false (w : World) (N t0 sa tk ep : Nat) (z : Int) (tz : Nat) (rest : List Value) (h : Heap) (d : Drawn) (os : OsState) (X : Nat → Option Obj) (b : List Stmt) (env : Env) (p1 p2 p : Pos) (b2 : Bool) (v1 v2 v3 : Array Value) :
 simG (VX (wF w false b2) h d os X) (HH hkNo) (endP (.ok (.ret (.ref (N + 1723 + 6))), some (sa, scO (⟨.int z tz :: rest⟩) ep), some (N + 1723 + 6, srcE (z * 1) (t0 + 1 + 31) (mx z) (t0 + 1 + 25) 0), N + 1723, 7, t0 + 1, 32, chL v1 v2 v3)) 400 (ΓP sa tk b env p1 p2) p .base (denF (.call (.ref 1637) ⟨[.ref sa, .int 0 tk], []⟩)) (.node sa (scO (⟨.int z tz :: rest⟩) ep) .nil .nil) 1 (N + 1723) 0 (t0 + 1) 0 (chL v1 v2 v3) js_poolC [] True =
 (okAcc (accL (AP N sa) js_poolC []) ∧ (true = true ∧ decide (z ≥ 1000000000000000000) = true ∧ true = true ∧ true = true ∧ true = true ∧ true = true ∧ true = true ∧ true = true ∧ decide ((-1 - z) > z) = false ∧ decide ((0 : Int) < (((⟨.int z tz :: rest⟩ : Array Value).size : Nat) : Int)) = true ∧ chkLe (⟨.int z tz :: rest⟩ : Array Value).size = true ∧ True) ∧ ((.ok (.ret (.ref (N + 1723 + 6))), some (sa, scO (⟨.int z tz :: rest⟩) ep), some (N + 1723 + 6, srcE (z * 1) (t0 + 1 + 31) (mx z) (t0 + 1 + 25) 0), N + 1723, 7, t0 + 1, 32, chL v1 v2 v3) : VP) = (.ok (.ret (.ref (N + 1723 + 6))), some (sa, scO (⟨.int z tz :: rest⟩) ep), some (N + 1723 + 6, srcE (z * 1) (t0 + 1 + 31) (mx z) (t0 + 1 + 25) 0), N + 1723, 7, t0 + 1, 32, chL v1 v2 v3)) := by kernel_rfl
theorem runC_pool_true (w : World) (N t0 sa tk ep : Nat) (z : Int) (tz : Nat) (rest : List Value) (h : Heap) (d : Drawn) (os : OsState) (X : Nat → Option Obj) (b : List Stmt) (env : Env) (p1 p2 p : Pos) (b2 : Bool) (v1 v2 v3 : Array Value) :
 simG (VX (wF w true b2) h d os X) (HH hkNo) (endP (.ok (.ret (.ref (N + 1723 + 6))), some (sa, scO (⟨.int z tz :: rest⟩) ep), some (N + 1723 + 6, srcE (z * 1) (t0 + 1 + 31) (mx z) (t0 + 1 + 25) 0), N + 1723, 7, t0 + 1, 32, chL v1 v2 v3)) 400 (ΓP sa tk b env p1 p2) p .base (denF (.call (.ref 1637) ⟨[.ref sa, .int 0 tk], []⟩)) (.node sa (scO (⟨.int z tz :: rest⟩) ep) .nil .nil) 1 (N + 1723) 0 (t0 + 1) 0 (chL v1 v2 v3) js_poolC [] True =
 (okAcc (accL (AP N sa) js_poolC []) ∧ (true = true ∧ decide (z ≥ 1000000000000000000) = true ∧ true = true ∧ true = true ∧ true = true ∧ true = true ∧ true = true ∧ true = true ∧ decide ((-1 - z) > z) = false ∧ decide ((0 : Int) < (((⟨.int z tz :: rest⟩ : Array Value).size : Nat) : Int)) = true ∧ chkLe (⟨.int z tz :: rest⟩ : Array Value).size = true ∧ True) ∧ ((.ok (.ret (.ref (N + 1723 + 6))), some (sa, scO (⟨.int z tz :: rest⟩) ep), some (N + 1723 + 6, srcE (z * 1) (t0 + 1 + 31) (mx z) (t0 + 1 + 25) 0), N + 1723, 7, t0 + 1, 32, chL v1 v2 v3) : VP) = (.ok (.ret (.ref (N + 1723 + 6))), some (sa, scO (⟨.int z tz :: rest⟩) ep), some (N + 1723 + 6, srcE (z * 1) (t0 + 1 + 31) (mx z) (t0 + 1 + 25) 0), N + 1723, 7, t0 + 1, 32, chL v1 v2 v3)) := by kernel_rfl
theorem runD_pool_false (w : World) (N t0 sa tk ep : Nat) (z : Int) (tz : Nat) (rest : List Value) (h : Heap) (d : Drawn) (os : OsState) (X : Nat → Option Obj) (b : List Stmt) (env : Env) (p1 p2 p : Pos) (b2 : Bool) (v1 v2 v3 : Array Value) :
 simG (VX (wF w false b2) h d os X) (HH hkNo) (endP (.ok (.ret (.ref (N + 1723 + 6))), some (sa, scO (⟨.int z tz :: rest⟩) ep), some (N + 1723 + 6, srcE ((-1 - z) * 1) (t0 + 1 + 31) (mx (-1 - z)) (t0 + 1 + 25) 0), N + 1723, 7, t0 + 1, 32, chL v1 v2 v3)) 400 (ΓP sa tk b env p1 p2) p .base (denF (.call (.ref 1637) ⟨[.ref sa, .int 0 tk], []⟩)) (.node sa (scO (⟨.int z tz :: rest⟩) ep) .nil .nil) 1 (N + 1723) 0 (t0 + 1) 0 (chL v1 v2 v3) js_poolD [] True =
 (okAcc (accL (AP N sa) js_poolD []) ∧ (true = true ∧ decide ((-1 - z) ≥ 1000000000000000000) = true ∧ true = true ∧ true = true ∧ true = true ∧ true = true ∧ true = true ∧ true = true ∧ decide ((-1 - z) > z) = true ∧ decide ((0 : Int) < (((⟨.int z tz :: rest⟩ : Array Value).size : Nat) : Int)) = true ∧ chkLe (⟨.int z tz :: rest⟩ : Array Value).size = true ∧ True) ∧ ((.ok (.ret (.ref (N + 1723 + 6))), some (sa, scO (⟨.int z tz :: rest⟩) ep), some (N + 1723 + 6, srcE ((-1 - z) * 1) (t0 + 1 + 31) (mx (-1 - z)) (t0 + 1 + 25) 0), N + 1723, 7, t0 + 1, 32, chL v1 v2 v3) : VP) = (.ok (.ret (.ref (N + 1723 + 6))), some (sa, scO (⟨.int z tz :: rest⟩) ep), some (N + 1723 + 6, srcE ((-1 - z) * 1) (t0 + 1 + 31) (mx (-1 - z)) (t0 + 1 + 25) 0), N + 1723, 7, t0 + 1, 32, chL v1 v2 v3)) := by kernel_rfl
theorem runD_pool_true (w : World) (N t0 sa tk ep : Nat) (z : Int) (tz : Nat) (rest : List Value) (h : Heap) (d : Drawn) (os : OsState) (X : Nat → Option Obj) (b : List Stmt) (env : Env) (p1 p2 p : Pos) (b2 : Bool) (v1 v2 v3 : Array Value) :
 simG (VX (wF w true b2) h d os X) (HH hkNo) (endP (.ok (.ret (.ref (N + 1723 + 6))), some (sa, scO (⟨.int z tz :: rest⟩) ep), some (N + 1723 + 6, srcE ((-1 - z) * 1) (t0 + 1 + 31) (mx (-1 - z)) (t0 + 1 + 25) 0), N + 1723, 7, t0 + 1, 32, chL v1 v2 v3)) 400 (ΓP sa tk b env p1 p2) p .base (denF (.call (.ref 1637) ⟨[.ref sa, .int 0 tk], []⟩)) (.node sa (scO (⟨.int z tz :: rest⟩) ep) .nil .nil) 1 (N + 1723) 0 (t0 + 1) 0 (chL v1 v2 v3) js_poolD [] True =
 (okAcc (accL (AP N sa) js_poolD []) ∧ (true = true ∧ decide ((-1 - z) ≥ 1000000000000000000) = true ∧ true = true ∧ true = true ∧ true = true ∧ true = true ∧ true = true ∧ true = true ∧ decide ((-1 - z) > z) = true ∧ decide ((0 : Int) < (((⟨.int z tz :: rest⟩ : Array Value).size : Nat) : Int)) = true ∧ chkLe (⟨.int z tz :: rest⟩ : Array Value).size = true ∧ True) ∧ ((.ok (.ret (.ref (N + 1723 + 6))), some (sa, scO (⟨.int z tz :: rest⟩) ep), some (N + 1723 + 6, srcE ((-1 - z) * 1) (t0 + 1 + 31) (mx (-1 - z)) (t0 + 1 + 25) 0), N + 1723, 7, t0 + 1, 32, chL v1 v2 v3) : VP) = (.ok (.ret (.ref (N + 1723 + 6))), some (sa, scO (⟨.int z tz :: rest⟩) ep), some (N + 1723 + 6, srcE ((-1 - z) * 1) (t0 + 1 + 31) (mx (-1 - z)) (t0 + 1 + 25) 0), N + 1723, 7, t0 + 1, 32, chL v1 v2 v3)) := by kernel_rfl
def TS (sa fa : Nat) (o0 o1 : Obj) : MT := .node sa o0 (.node fa o1 .nil .nil) .nil
theorem TS_0 (sa fa : Nat) (o0 o1 : Obj) : (TS sa fa o0 o1).get 0 = some (sa, o0) := rfl
theorem TS_1 (sa fa : Nat) (o0 o1 : Obj) : (TS sa fa o0 o1).get 1 = some (fa, o1) := rfl
theorem mx_bd (a : Int) : 0 ≤ mx a ∧ mx a < 2147483647 := by
 unfold mx
 rw [Int.fmod_eq_emod_of_nonneg _ (by decide)]
 exact ⟨Int.emod_nonneg _ (by decide), Int.emod_lt_of_pos _ (by decide)⟩
section
variable {w : World} {h : Heap} {d : Drawn} {os : OsState} {X : Nat → Option Obj}
theorem pool_end (O : (VX w h d os X).Ok) {sa fa N : Nat} {xs : Array Value} {ep : Nat} {o1 : Obj} {v1 v2 v3 : Array Value} {g g' : Heap} {T' : MT} {m' b' : Nat} {ch' : Ch} {on : Obj}
  (D : Rp (VX w h d os X) (TS sa fa (scO xs ep) o1) 2 (N + 1723) (chL v1 v2 v3) g) (D' : Rp (VX w h d os (frz g (.node sa (scO xs ep) .nil .nil))) T' m' b' ch' g')
  (e0 : T'.get 0 = some (sa, scO xs ep)) (e7 : T'.get 7 = some (N + 1723 + 6, on)) : Rp (VX w h d os X) (TL sa fa (N + 1723 + 6) (scO xs ep) o1 on) 3 b' ch' g' := by
 have h1 : ∀ k x, MT.get (.node sa (scO xs ep) .nil .nil) k = some x → x = (sa, scO xs ep) := fun k x hx => by
  rw [MT.get_node] at hx
  split at hx
  ·cases hx; rfl
  ·split at hx <;> cases hx
 have q0 := D.own 0 _ _ (TS_0 sa fa (scO xs ep) o1)
 have q1 := D.own 1 _ _ (TS_1 sa fa (scO xs ep) o1)
 have ne : sa ≠ fa := fun q => by
  subst q
  exact absurd (D.one 0 1 _ _ _ (TS_0 sa sa (scO xs ep) o1) (TS_1 sa sa (scO xs ep) o1)) (by decide)
 refine D.unfocus O (fun k x hx => ⟨0, by rw [h1 k x hx]; rfl⟩) D' (fun j x hx => ?_) (fun i j a o o' x1 x2 => ?_)
 ·rcases TL_get hx with ⟨rfl, rfl⟩ | ⟨rfl, rfl⟩ | ⟨rfl, rfl⟩
  ·exact ⟨by omega, .inl ⟨0, e0, D.exo 0 _ _ (TS_0 _ _ _ _)⟩⟩
  ·exact ⟨by omega, .inr ⟨TS_1 _ _ _ _, fun k y hy w => by rw [h1 k y hy] at w; exact ne w⟩⟩
  ·refine ⟨by omega, .inl ⟨7, e7, ?_⟩⟩
   cases q : X (N + 1723 + 6) with
   | none => rfl
   | some y =>
    have lt : N + 1723 + 6 < N + 1723 := by
     have := Heap.lt_size (D.exk _ _ q)
     rw [D.size] at this; exact this
    exact absurd lt (by omega)
 ·have l0 : sa < N + 1723 := q0.2.2.1
  have l1 : fa < N + 1723 := q1.2.2.1
  rcases TL_get x1 with ⟨rfl, y1⟩ | ⟨rfl, y1⟩ | ⟨rfl, y1⟩ <;> rcases TL_get x2 with ⟨rfl, y2⟩ | ⟨rfl, y2⟩ | ⟨rfl, y2⟩ <;> (have w1 := congrArg Prod.fst y1; have w2 := congrArg Prod.fst y2; simp only at w1 w2; first | rfl | (exfalso; omega))
theorem pool_wp (O : (VX w h d os X).Ok) {sa fa N t0 tk : Nat} {xs : Array Value} {ep : Nat} {o1 : Obj} {v1 v2 v3 : Array Value} {g : Heap} {R : Result → Shared → Prop} {b : List Stmt} {env : Env} {p1 p2 p : Pos}
  (D : Rp (VX w h d os X) (TS sa fa (scO xs ep) o1) 2 (N + 1723) (chL v1 v2 v3) g) (hx : xs = #[] ∨ ∃ z tz rest, xs = ⟨.int z tz :: rest⟩) (hs : xs.size ≤ 63)
  (k : ∀ la N' t' s0 u0 s1 u1, Bd s0 s1 → AtS (VX w h d os X) R (.ok (.ret (.ref la))) (TL sa fa la (scO xs ep) o1 (srcE s0 u0 s1 u1 0)) 3 (N' + 1723) 0 (t' + 1) 0 (chL v1 v2 v3)) :
  wpCode (VX w h d os X).M (ΓP sa tk b env p1 p2) R p ((VX w h d os X).sh g (t0 + 1)) := by
 have D1 := D.focus1 (TS_0 sa fa (scO xs ep) o1)
 have O1 : (VX w h d os (frz g (.node sa (scO xs ep) .nil .nil))).Ok := VX_ok O fun a o e => (frz_some e).1
 have hw0 : ∀ b1 b2, HkOk (VX (wF w b1 b2) h d os (frz g (.node sa (scO xs ep) .nil .nil))) (HH hkNo) := fun b1 b2 => HH_ok _ (VXw_ok O1 (wF w b1 b2) rfl) (Nat.le_refl 1723) (hkNo_ok _)
 have fin : ∀ (s0 : Int) (u0 : Nat) (s1 : Int) (u1 i : Nat), Bd s0 s1 → ∀ js, (∃ n, simG (VX w h d os (frz g (.node sa (scO xs ep) .nil .nil))) (HH hkNo) (endP (.ok (.ret (.ref (N + 1723 + 6))), some (sa, scO xs ep), some (N + 1723 + 6, srcE s0 u0 s1 u1 0), N + 1723, 7, t0 + 1, i, chL v1 v2 v3)) n (ΓP sa tk b env p1 p2) p .base (denF (ΓP sa tk b env p1 p2).code) (.node sa (scO xs ep) .nil .nil) 1 (N + 1723) 0 (t0 + 1) 0 (chL v1 v2 v3) js [] True) →
   HkOk (VX w h d os (frz g (.node sa (scO xs ep) .nil .nil))) (HH hkNo) → wpCode (VX w h d os X).M (ΓP sa tk b env p1 p2) R p ((VX w h d os X).sh g (t0 + 1)) := by
  intro s0 u0 s1 u1 i bd js ⟨n, run⟩ hw
  refine contract1 (V := VX w h d os (frz g (.node sa (scO xs ep) .nil .nil))) (R := R) O1 hw run (fun r T' m' B c τ i' ch js x => ?_) (c := 0) (i := 0) D1
  unfold endP at x
  simp only [Prod.mk.injEq] at x
  obtain ⟨rfl, e0, e7, rfl, rfl, rfl, rfl, rfl⟩ := x
  intro g' D'
  have D2 := pool_end O D D' e0 e7
  have K := k (N + 1723 + 6) (N + 7) (t0 + i') s0 u0 s1 u1 bd
  have e1 : N + 1723 + 7 = N + 7 + 1723 + 0 := by omega
  have e2 : t0 + 1 + i' = t0 + i' + 1 + 0 := by omega
  rw [e1] at D2
  rw [e2]
  exact K g' D2
 have hww := hw0 (w.params.followText "special-get-raises") (w.params.followText "comprehension-iter-twice")
 rw [wF_self] at hww
 rcases hx with rfl | ⟨z, tz, rest, rfl⟩
 ·refine fin 0 (t0 + 1 + 30) 820607 (t0 + 1 + 24) 31 ⟨by decide, by decide, by decide⟩ js_poolE ⟨400, ?_⟩ hww
  rw [← wF_self w]
  cases w.params.followText "special-get-raises"
  ·exact (runE_pool_false w N t0 sa tk ep 0 0 [] h d os _ b env p1 p2 p _ v1 v2 v3).mpr ⟨accL_ok _ _ _ okNil, ⟨rfl, rfl, rfl, rfl, rfl, rfl, rfl, rfl, rfl, rfl, rfl, trivial⟩, rfl⟩
  ·exact (runE_pool_true w N t0 sa tk ep 0 0 [] h d os _ b env p1 p2 p _ v1 v2 v3).mpr ⟨accL_ok _ _ _ okNil, ⟨rfl, rfl, rfl, rfl, rfl, rfl, rfl, rfl, rfl, rfl, rfl, trivial⟩, rfl⟩
 ·have c1 : chkLe (⟨.int z tz :: rest⟩ : Array Value).size = true := Nat.ble_eq_true_of_le (by omega)
  have c2 : decide ((0 : Int) < (((⟨.int z tz :: rest⟩ : Array Value).size : Nat) : Int)) = true := by
   apply decide_eq_true
   have : (⟨.int z tz :: rest⟩ : Array Value).size = rest.length + 1 := rfl
   rw [this]; omega
  rcases Int.lt_or_le z (-1 - z) with hz | hz
  ·have c3 : decide ((-1 - z) > z) = true := decide_eq_true hz
   rcases Int.lt_or_le (-1 - z) 1000000000000000000 with hg | hg
   ·have c4 : decide ((-1 - z) ≥ 1000000000000000000) = false := decide_eq_false (by omega)
    refine fin ((-1 - z) * 0) (t0 + 1 + 31) (mx (-1 - z)) (t0 + 1 + 25) 32 ⟨by omega, (mx_bd _).1, (mx_bd _).2⟩ js_poolB ⟨400, ?_⟩ hww
    rw [← wF_self w]
    cases w.params.followText "special-get-raises"
    ·exact (runB_pool_false w N t0 sa tk ep z tz rest h d os _ b env p1 p2 p _ v1 v2 v3).mpr ⟨accL_ok _ _ _ okNil, ⟨rfl, c4, rfl, rfl, rfl, rfl, rfl, rfl, c3, c2, c1, trivial⟩, rfl⟩
    ·exact (runB_pool_true w N t0 sa tk ep z tz rest h d os _ b env p1 p2 p _ v1 v2 v3).mpr ⟨accL_ok _ _ _ okNil, ⟨rfl, c4, rfl, rfl, rfl, rfl, rfl, rfl, c3, c2, c1, trivial⟩, rfl⟩
   ·have c4 : decide ((-1 - z) ≥ 1000000000000000000) = true := decide_eq_true hg
    refine fin ((-1 - z) * 1) (t0 + 1 + 31) (mx (-1 - z)) (t0 + 1 + 25) 32 ⟨by omega, (mx_bd _).1, (mx_bd _).2⟩ js_poolD ⟨400, ?_⟩ hww
    rw [← wF_self w]
    cases w.params.followText "special-get-raises"
    ·exact (runD_pool_false w N t0 sa tk ep z tz rest h d os _ b env p1 p2 p _ v1 v2 v3).mpr ⟨accL_ok _ _ _ okNil, ⟨rfl, c4, rfl, rfl, rfl, rfl, rfl, rfl, c3, c2, c1, trivial⟩, rfl⟩
    ·exact (runD_pool_true w N t0 sa tk ep z tz rest h d os _ b env p1 p2 p _ v1 v2 v3).mpr ⟨accL_ok _ _ _ okNil, ⟨rfl, c4, rfl, rfl, rfl, rfl, rfl, rfl, c3, c2, c1, trivial⟩, rfl⟩
  ·have c3 : decide ((-1 - z) > z) = false := decide_eq_false (by omega)
   rcases Int.lt_or_le z 1000000000000000000 with hg | hg
   ·have c4 : decide (z ≥ 1000000000000000000) = false := decide_eq_false (by omega)
    refine fin (z * 0) (t0 + 1 + 31) (mx z) (t0 + 1 + 25) 32 ⟨by omega, (mx_bd _).1, (mx_bd _).2⟩ js_poolA ⟨400, ?_⟩ hww
    rw [← wF_self w]
    cases w.params.followText "special-get-raises"
    ·exact (runA_pool_false w N t0 sa tk ep z tz rest h d os _ b env p1 p2 p _ v1 v2 v3).mpr ⟨accL_ok _ _ _ okNil, ⟨rfl, c4, rfl, rfl, rfl, rfl, rfl, rfl, c3, c2, c1, trivial⟩, rfl⟩
    ·exact (runA_pool_true w N t0 sa tk ep z tz rest h d os _ b env p1 p2 p _ v1 v2 v3).mpr ⟨accL_ok _ _ _ okNil, ⟨rfl, c4, rfl, rfl, rfl, rfl, rfl, rfl, c3, c2, c1, trivial⟩, rfl⟩
   ·have c4 : decide (z ≥ 1000000000000000000) = true := decide_eq_true hg
    refine fin (z * 1) (t0 + 1 + 31) (mx z) (t0 + 1 + 25) 32 ⟨by omega, (mx_bd _).1, (mx_bd _).2⟩ js_poolC ⟨400, ?_⟩ hww
    rw [← wF_self w]
    cases w.params.followText "special-get-raises"
    ·exact (runC_pool_false w N t0 sa tk ep z tz rest h d os _ b env p1 p2 p _ v1 v2 v3).mpr ⟨accL_ok _ _ _ okNil, ⟨rfl, c4, rfl, rfl, rfl, rfl, rfl, rfl, c3, c2, c1, trivial⟩, rfl⟩
    ·exact (runC_pool_true w N t0 sa tk ep z tz rest h d os _ b env p1 p2 p _ v1 v2 v3).mpr ⟨accL_ok _ _ _ okNil, ⟨rfl, c4, rfl, rfl, rfl, rfl, rfl, rfl, c3, c2, c1, trivial⟩, rfl⟩
end
def jT : List Nat := (dec [0x102000b0b0b0b0b0b0b0b7d0900097d7f7f7f0200030378] ++ (z132 ++ (z132 ++ (z132 ++ (z205 ++ (z205 ++ dec [0x101060003790303030303031b17171517170017001717171517170017001717171517170017001717171517170017001717001500151515]))))))
def jT1 : List Nat := dec [0x10c1f1d1d1d001d001d1d1d001d001d1d7c]
def jT2 : List Nat := dec [0x10217152815001517150700090979097a09030700090979097a09030700090979097a0903]
def brT : Nat → List Nat := fun _ => jT1 ++ [1, 3, 5, 7, 9, 13, 15, 17, 19, 31] ++ jT2
def AT (la : Nat) (l : List (Nat × Nat)) (i : Nat) : Nat := match i with
 | 0 => la
 | _ => pickB i l
def hT0 (w : World) (i : Nat) : Int := match i with
 | 0 => hashS w sSource
 | 1 => hashS w sReady
 | 2 => hashS w sOpening
 | 3 => hashS w sListener
 | 10 => hashS w sAddress
 | 11 => hashS w sPort
 | 12 => hashS w sMost
 | 13 => hashS w sOpening
 | 14 => hashS w sReady
 | _ => 0
def kT0 (t0 i : Nat) : Nat := match i with
 | 0 => t0 + 1
 | 1 => t0 + 19
 | 2 => t0 + 20
 | 3 => t0 + 21
 | 10 => t0 + 10
 | 11 => t0 + 12
 | 12 => t0 + 14
 | 13 => t0 + 16
 | 14 => t0 + 18
 | 20 => t0 + 2
 | 21 => t0 + 3
 | 22 => t0 + 4
 | _ => 0
def xT (la N N1 : Nat) (w : World) (t0 : Nat) : EF := ⟨la, N + 1723 + 0, N + 1723 + 1, N + 1723 + 2, N + 1723 + 3, N + 1723 + 5, N + 1723 + 6, N1 + 1723 + 1, hT0 w, kT0 t0, 4, 5⟩
section
variable (w : World) (N t0 la : Nat) (s0 : Int) (u0 : Nat) (s1 : Int) (u1 : Nat) (h : Heap) (d : Drawn) (os : OsState) (X : Nat → Option Obj) (b : List Stmt) (env : Env) (p1 p2 : Pos) (p : Pos) (v1 v2 v3 : Array Value) (KV : KVT) (P : OL → Code → Prop) (Post : OL → YE → Prop)
abbrev simT (b1 b2 : Bool) (js : List Nat) : Prop := simG (VX (wF w b1 b2) h d os X) (HH2 (hkOf [hkTakeS brT, hkM ⟨10, 10, YE, sp3, P, resE, outE, Post, fun _ _ => rfl⟩])) (KFv 1 KV) 700 ⟨.call (.ref 1663) ⟨[.ref la], []⟩, none, none, [(.func b env, p1), (.builtin "claim.caller" {}, p2)], none⟩ p .base (denF (.call (.ref 1663) ⟨[.ref la], []⟩)) (listT [(la, srcE s0 u0 s1 u1 0)]) 1 (N + 1723) 0 (t0 + 1) 0 (chL v1 v2 v3) js [] True
abbrev rhsT : Prop := okAcc (accL (AT la [(1, N + 1723)]) jT []) ∧ True ∧ (Bd s0 s1 ∧ ∀ (uq N1 t1 : Nat) (sa0 : Int) (ua0 : Nat) (sa1 : Int) (ua1 : Nat), Bd sa0 sa1 → (((((((True ∧ (okAcc (accL (AT la [(14, N1 + 1723), (1, N + 1723)]) jT1 []) ∧ True ∧ (P (olE (xT la N N1 w t0) (srcE sa0 ua0 sa1 ua1 0) (frmO (frE4 (xT la N N1 w t0) (N + 1723 + 7) (N + 1723 + 8)) 4) (cell? none) (lstE #[] 0) (lstE #[] 0) (N + 1723 + 7) (lstE #[] 0) (N + 1723 + 8) (lstE #[] 0) (rngO 0 (Int.ofNat 3))) (codeE w.params (N + 1723 + 0) (N + 1723 + 1) (N1 + 1723 + 1)) ∧ ∀ (y : YE) (N2 t2 : Nat), Post (olE (xT la N N1 w t0) (srcE sa0 ua0 sa1 ua1 0) (frmO (frE4 (xT la N N1 w t0) (N + 1723 + 7) (N + 1723 + 8)) 4) (cell? none) (lstE #[] 0) (lstE #[] 0) (N + 1723 + 7) (lstE #[] 0) (N + 1723 + 8) (lstE #[] 0) (rngO 0 (Int.ofNat 3))) y → (okAcc (accL (AE (xT la N N1 w t0) y.e.op y.e.re [(10, N2 + 1723)]) jT2 []) ∧ (chkEq #[.int 10 (y.k 20), .int 80 (y.k 21), .int 3 (y.k 22)] #[.int 10 (t2 + 4), .int 80 (t2 + 5), .int 3 (t2 + 6)] true = true ∧ True) ∧ KV (.ok (.ret (.bool true))) [some (la, srcE y.e.s0 y.e.u0 y.e.s1 y.e.u1 0)] (N2 + 1723) 2 (t2 + 1) 6 (chL v1 v2 v3))))) ∧ (okAcc (accL (AT la [(14, N1 + 1723), (1, N + 1723)]) jT1 []) ∧ True ∧ (P (olE (xT la N N1 w t0) (srcE sa0 ua0 sa1 ua1 0) (frmO (frE4 (xT la N N1 w t0) (N + 1723 + 7) (N + 1723 + 8)) 4) (cell? none) (lstE #[] 0) (lstE #[] 0) (N + 1723 + 7) (lstE #[] 0) (N + 1723 + 8) (lstE #[] 0) (rngO 0 (Int.ofNat 4))) (codeE w.params (N + 1723 + 0) (N + 1723 + 1) (N1 + 1723 + 1)) ∧ ∀ (y : YE) (N2 t2 : Nat), Post (olE (xT la N N1 w t0) (srcE sa0 ua0 sa1 ua1 0) (frmO (frE4 (xT la N N1 w t0) (N + 1723 + 7) (N + 1723 + 8)) 4) (cell? none) (lstE #[] 0) (lstE #[] 0) (N + 1723 + 7) (lstE #[] 0) (N + 1723 + 8) (lstE #[] 0) (rngO 0 (Int.ofNat 4))) y → (okAcc (accL (AE (xT la N N1 w t0) y.e.op y.e.re [(10, N2 + 1723)]) jT2 []) ∧ (chkEq #[.int 10 (y.k 20), .int 80 (y.k 21), .int 3 (y.k 22)] #[.int 10 (t2 + 4), .int 80 (t2 + 5), .int 3 (t2 + 6)] true = true ∧ True) ∧ KV (.ok (.ret (.bool true))) [some (la, srcE y.e.s0 y.e.u0 y.e.s1 y.e.u1 0)] (N2 + 1723) 2 (t2 + 1) 6 (chL v1 v2 v3))))) ∧ (okAcc (accL (AT la [(14, N1 + 1723), (1, N + 1723)]) jT1 []) ∧ True ∧ (P (olE (xT la N N1 w t0) (srcE sa0 ua0 sa1 ua1 0) (frmO (frE4 (xT la N N1 w t0) (N + 1723 + 7) (N + 1723 + 8)) 4) (cell? none) (lstE #[] 0) (lstE #[] 0) (N + 1723 + 7) (lstE #[] 0) (N + 1723 + 8) (lstE #[] 0) (rngO 0 (Int.ofNat 5))) (codeE w.params (N + 1723 + 0) (N + 1723 + 1) (N1 + 1723 + 1)) ∧ ∀ (y : YE) (N2 t2 : Nat), Post (olE (xT la N N1 w t0) (srcE sa0 ua0 sa1 ua1 0) (frmO (frE4 (xT la N N1 w t0) (N + 1723 + 7) (N + 1723 + 8)) 4) (cell? none) (lstE #[] 0) (lstE #[] 0) (N + 1723 + 7) (lstE #[] 0) (N + 1723 + 8) (lstE #[] 0) (rngO 0 (Int.ofNat 5))) y → (okAcc (accL (AE (xT la N N1 w t0) y.e.op y.e.re [(10, N2 + 1723)]) jT2 []) ∧ (chkEq #[.int 10 (y.k 20), .int 80 (y.k 21), .int 3 (y.k 22)] #[.int 10 (t2 + 4), .int 80 (t2 + 5), .int 3 (t2 + 6)] true = true ∧ True) ∧ KV (.ok (.ret (.bool true))) [some (la, srcE y.e.s0 y.e.u0 y.e.s1 y.e.u1 0)] (N2 + 1723) 2 (t2 + 1) 6 (chL v1 v2 v3))))) ∧ (okAcc (accL (AT la [(14, N1 + 1723), (1, N + 1723)]) jT1 []) ∧ True ∧ (P (olE (xT la N N1 w t0) (srcE sa0 ua0 sa1 ua1 0) (frmO (frE4 (xT la N N1 w t0) (N + 1723 + 7) (N + 1723 + 8)) 4) (cell? none) (lstE #[] 0) (lstE #[] 0) (N + 1723 + 7) (lstE #[] 0) (N + 1723 + 8) (lstE #[] 0) (rngO 0 (Int.ofNat 6))) (codeE w.params (N + 1723 + 0) (N + 1723 + 1) (N1 + 1723 + 1)) ∧ ∀ (y : YE) (N2 t2 : Nat), Post (olE (xT la N N1 w t0) (srcE sa0 ua0 sa1 ua1 0) (frmO (frE4 (xT la N N1 w t0) (N + 1723 + 7) (N + 1723 + 8)) 4) (cell? none) (lstE #[] 0) (lstE #[] 0) (N + 1723 + 7) (lstE #[] 0) (N + 1723 + 8) (lstE #[] 0) (rngO 0 (Int.ofNat 6))) y → (okAcc (accL (AE (xT la N N1 w t0) y.e.op y.e.re [(10, N2 + 1723)]) jT2 []) ∧ (chkEq #[.int 10 (y.k 20), .int 80 (y.k 21), .int 3 (y.k 22)] #[.int 10 (t2 + 4), .int 80 (t2 + 5), .int 3 (t2 + 6)] true = true ∧ True) ∧ KV (.ok (.ret (.bool true))) [some (la, srcE y.e.s0 y.e.u0 y.e.s1 y.e.u1 0)] (N2 + 1723) 2 (t2 + 1) 6 (chL v1 v2 v3))))) ∧ (okAcc (accL (AT la [(14, N1 + 1723), (1, N + 1723)]) jT1 []) ∧ True ∧ (P (olE (xT la N N1 w t0) (srcE sa0 ua0 sa1 ua1 0) (frmO (frE4 (xT la N N1 w t0) (N + 1723 + 7) (N + 1723 + 8)) 4) (cell? none) (lstE #[] 0) (lstE #[] 0) (N + 1723 + 7) (lstE #[] 0) (N + 1723 + 8) (lstE #[] 0) (rngO 0 (Int.ofNat 7))) (codeE w.params (N + 1723 + 0) (N + 1723 + 1) (N1 + 1723 + 1)) ∧ ∀ (y : YE) (N2 t2 : Nat), Post (olE (xT la N N1 w t0) (srcE sa0 ua0 sa1 ua1 0) (frmO (frE4 (xT la N N1 w t0) (N + 1723 + 7) (N + 1723 + 8)) 4) (cell? none) (lstE #[] 0) (lstE #[] 0) (N + 1723 + 7) (lstE #[] 0) (N + 1723 + 8) (lstE #[] 0) (rngO 0 (Int.ofNat 7))) y → (okAcc (accL (AE (xT la N N1 w t0) y.e.op y.e.re [(10, N2 + 1723)]) jT2 []) ∧ (chkEq #[.int 10 (y.k 20), .int 80 (y.k 21), .int 3 (y.k 22)] #[.int 10 (t2 + 4), .int 80 (t2 + 5), .int 3 (t2 + 6)] true = true ∧ True) ∧ KV (.ok (.ret (.bool true))) [some (la, srcE y.e.s0 y.e.u0 y.e.s1 y.e.u1 0)] (N2 + 1723) 2 (t2 + 1) 6 (chL v1 v2 v3))))) ∧ (okAcc (accL (AT la [(14, N1 + 1723), (1, N + 1723)]) jT1 []) ∧ True ∧ (P (olE (xT la N N1 w t0) (srcE sa0 ua0 sa1 ua1 0) (frmO (frE4 (xT la N N1 w t0) (N + 1723 + 7) (N + 1723 + 8)) 4) (cell? none) (lstE #[] 0) (lstE #[] 0) (N + 1723 + 7) (lstE #[] 0) (N + 1723 + 8) (lstE #[] 0) (rngO 0 (Int.ofNat 8))) (codeE w.params (N + 1723 + 0) (N + 1723 + 1) (N1 + 1723 + 1)) ∧ ∀ (y : YE) (N2 t2 : Nat), Post (olE (xT la N N1 w t0) (srcE sa0 ua0 sa1 ua1 0) (frmO (frE4 (xT la N N1 w t0) (N + 1723 + 7) (N + 1723 + 8)) 4) (cell? none) (lstE #[] 0) (lstE #[] 0) (N + 1723 + 7) (lstE #[] 0) (N + 1723 + 8) (lstE #[] 0) (rngO 0 (Int.ofNat 8))) y → (okAcc (accL (AE (xT la N N1 w t0) y.e.op y.e.re [(10, N2 + 1723)]) jT2 []) ∧ (chkEq #[.int 10 (y.k 20), .int 80 (y.k 21), .int 3 (y.k 22)] #[.int 10 (t2 + 4), .int 80 (t2 + 5), .int 3 (t2 + 6)] true = true ∧ True) ∧ KV (.ok (.ret (.bool true))) [some (la, srcE y.e.s0 y.e.u0 y.e.s1 y.e.u1 0)] (N2 + 1723) 2 (t2 + 1) 6 (chL v1 v2 v3))))) ∧ (okAcc (accL (AT la [(14, N1 + 1723), (1, N + 1723)]) jT1 []) ∧ True ∧ (P (olE (xT la N N1 w t0) (srcE sa0 ua0 sa1 ua1 0) (frmO (frE4 (xT la N N1 w t0) (N + 1723 + 7) (N + 1723 + 8)) 4) (cell? none) (lstE #[] 0) (lstE #[] 0) (N + 1723 + 7) (lstE #[] 0) (N + 1723 + 8) (lstE #[] 0) (rngO 0 (Int.ofNat 9))) (codeE w.params (N + 1723 + 0) (N + 1723 + 1) (N1 + 1723 + 1)) ∧ ∀ (y : YE) (N2 t2 : Nat), Post (olE (xT la N N1 w t0) (srcE sa0 ua0 sa1 ua1 0) (frmO (frE4 (xT la N N1 w t0) (N + 1723 + 7) (N + 1723 + 8)) 4) (cell? none) (lstE #[] 0) (lstE #[] 0) (N + 1723 + 7) (lstE #[] 0) (N + 1723 + 8) (lstE #[] 0) (rngO 0 (Int.ofNat 9))) y → (okAcc (accL (AE (xT la N N1 w t0) y.e.op y.e.re [(10, N2 + 1723)]) jT2 []) ∧ (chkEq #[.int 10 (y.k 20), .int 80 (y.k 21), .int 3 (y.k 22)] #[.int 10 (t2 + 4), .int 80 (t2 + 5), .int 3 (t2 + 6)] true = true ∧ True) ∧ KV (.ok (.ret (.bool true))) [some (la, srcE y.e.s0 y.e.u0 y.e.s1 y.e.u1 0)] (N2 + 1723) 2 (t2 + 1) 6 (chL v1 v2 v3))))))
theorem runTM (b2 q0 : Bool) : simT w N t0 la s0 u0 s1 u1 h d os X b env p1 p2 p v1 v2 v3 KV P Post q0 b2 (jT ++ [0]) = rhsT w N t0 la s0 s1 v1 v2 v3 KV P Post := by
 cases q0 <;> kernel_rfl
end
structure StT where
 la : Nat
 s0 : Int
 u0 : Nat
 s1 : Int
 u1 : Nat
 b : List Stmt
 env : Env
 p1 : Pos
 p2 : Pos
 v1 : Array Value
 v2 : Array Value
 v3 : Array Value
def I_T (f : Nat) : IT := fun l Γ ch F => ∃ st : StT, l = [(st.la, srcE st.s0 st.u0 st.s1 st.u1 0)] ∧ Γ = ⟨.call (.ref f) ⟨[.ref st.la], []⟩, none, none, [(.func st.b st.env, st.p1), (.builtin "claim.caller" {}, st.p2)], none⟩ ∧ ch = chL st.v1 st.v2 st.v3 ∧ Bd st.s0 st.s1 ∧
 ∀ (s0' : Int) (u0' : Nat) (s1' : Int) (u1' : Nat) (N' t' : Nat), Bd s0' s1' → F (.ok (.ret (.bool true))) [(st.la, srcE s0' u0' s1' u1' 0)] N' t' ch
theorem hkOf2b_ok {V : XW} {f g : HB} (hf : HBOk V f) (hg : HBOk V g) : HkW V (hkOf [f, g]) := hkOf2_ok hf hg
theorem T_ok (w : World) (h : Heap) (d : Drawn) (os : OsState) : CtOk 1 (I_T 1663) w h d os := by
 intro X O l Γ p R g N t0 ch F hl hI D K
 obtain ⟨st, rfl, rfl, rfl, hb, hF⟩ := hI
 have A : ∀ (N1 k : Nat) (sa0 : Int) (ua0 : Nat) (sa1 : Int) (ua1 : Nat), Bd sa0 sa1 → 0 < k → k ≤ 100 → P_E w (olE (xT st.la N N1 w t0) (srcE sa0 ua0 sa1 ua1 0) (frmO (frE4 (xT st.la N N1 w t0) (N + 1723 + 7) (N + 1723 + 8)) 4) (cell? none) (lstE #[] 0) (lstE #[] 0) (N + 1723 + 7) (lstE #[] 0) (N + 1723 + 8) (lstE #[] 0) (rngO 0 (Int.ofNat k))) (codeE w.params (N + 1723 + 0) (N + 1723 + 1) (N1 + 1723 + 1)) :=
  fun N1 k sa0 ua0 sa1 ua1 hba h0 h1 => ⟨xT st.la N N1 w t0, _, _, 0, 0, 0, 0, k, 0, sa0, ua0, sa1, ua1, h0, h1, hba, rfl, rfl⟩
 have B : ∀ (N1 : Nat) (y : YE) (N2 t2 : Nat), Bd y.e.s0 y.e.s1 → (okAcc (accL (AE (xT st.la N N1 w t0) y.e.op y.e.re [(10, N2 + 1723)]) jT2 []) ∧ (chkEq #[.int 10 (y.k 20), .int 80 (y.k 21), .int 3 (y.k 22)] #[.int 10 (t2 + 4), .int 80 (t2 + 5), .int 3 (t2 + 6)] true = true ∧ True) ∧ KVof 1 F (.ok (.ret (.bool true))) [some (st.la, srcE y.e.s0 y.e.u0 y.e.s1 y.e.u1 0)] (N2 + 1723) 2 (t2 + 1) 6 (chL st.v1 st.v2 st.v3)) :=
  fun N1 y N2 t2 hy => ⟨accL_ok _ _ _ okNil, ⟨rfl, trivial⟩, _, N2 + 2, t2 + 6, hF y.e.s0 y.e.u0 y.e.s1 y.e.u1 (N2 + 2) (t2 + 6) hy, rfl, rfl, by omega, by omega⟩
 have R' : rhsT w N t0 st.la st.s0 st.s1 st.v1 st.v2 st.v3 (KVof 1 F) (P_E w) Post_E := by
  refine ⟨accL_ok _ _ _ okNil, trivial, hb, fun uq N1 t1 sa0 ua0 sa1 ua1 hba => ?_⟩
  have Z := fun k h0 h1 => And.intro (A N1 k sa0 ua0 sa1 ua1 hba h0 h1) (fun y N2 t2 (hy : Bd y.e.s0 y.e.s1) => B N1 y N2 t2 hy)
  exact ⟨⟨⟨⟨⟨⟨⟨trivial, accL_ok _ _ _ okNil, trivial, Z 3 (by decide) (by decide)⟩, accL_ok _ _ _ okNil, trivial, Z 4 (by decide) (by decide)⟩, accL_ok _ _ _ okNil, trivial, Z 5 (by decide) (by decide)⟩, accL_ok _ _ _ okNil, trivial, Z 6 (by decide) (by decide)⟩, accL_ok _ _ _ okNil, trivial, Z 7 (by decide) (by decide)⟩, accL_ok _ _ _ okNil, trivial, Z 8 (by decide) (by decide)⟩, accL_ok _ _ _ okNil, trivial, Z 9 (by decide) (by decide)⟩
 have run := (runTM w N t0 st.la st.s0 st.u0 st.s1 st.u1 h d os X st.b st.env st.p1 st.p2 p st.v1 st.v2 st.v3 (KVof 1 F) (P_E w) Post_E (w.params.followText "comprehension-iter-twice") (w.params.followText "special-get-raises")).mpr R'
 unfold simT at run
 rw [wF_self] at run
 exact ct_run (by decide) O (hkOf2_ok (hkTakeS_ok O brT) (hkM_ok (C := C_E w) O (C_E_ok w h d os) (show (10 : Nat) ≤ 63 by decide))) run D K
theorem all_T {w : World} {h : Heap} {d : Drawn} {os : OsState} (O : (VV w h d os).Ok) {f : Nat} (H : CtOk 1 (I_T f) w h d os) : PassAll (VV w h d os) f true preT sameP := fun es ep b e p1 p2 sl v1 v2 v3 _ => by
 intro N t0 sa fa la o0 s0 u0 s1 u1 p R g hb D K
 have e2 : (TL sa fa la o0 (frO (es sa la) ep sl) (srcO s0 u0 s1 u1)).get 2 = some (la, srcE s0 u0 s1 u1 0) := rfl
 have D1 := D.focus1 e2
 have O1 : (VX w h d os (frz g (.node la (srcE s0 u0 s1 u1 0) .nil .nil))).Ok := VX_ok O fun a o e => (frz_some e).1
 refine H _ O1 [(la, srcE s0 u0 s1 u1 0)] _ p R g N t0 _ (fun r l' N' t' ch' => ∃ s0' u0' s1' u1', Bd s0' s1' ∧ r = .ok (.ret (.bool true)) ∧ l' = [(la, srcE s0' u0' s1' u1' 0)] ∧ ch' = chL v1 v2 v3) rfl ⟨⟨la, s0, u0, s1, u1, b, envL e fa, p1, p2, v1, v2, v3⟩, rfl, rfl, rfl, hb, fun s0' u0' s1' u1' N' t' hb' => ⟨s0', u0', s1', u1', hb', rfl, rfl, rfl⟩⟩ D1 fun r l' N' t' ch' hF => ?_
 obtain ⟨s0', u0', s1', u1', hb', rfl, rfl, rfl⟩ := hF
 intro g' D'
 have D2 := D.unfocus1 O e2 D' (o' := srcE s0' u0' s1' u1' 0) rfl
 exact K N' t' s0' u0' s1' u1' sl _ hb' ⟨#[], _, .head _, rfl⟩ g' D2
theorem all_listener (w : World) (h : Heap) (d : Drawn) (os : OsState) (O : (VV w h d os).Ok) : PassAll (VV w h d os) 1663 true preT sameP := all_T O (T_ok w h d os)
def mS (T : MT) : Option ((Nat × Nat) × Obj × Obj) := bM T fun sa o0 l r => bM l fun fa o1 l1 r1 => bZ l1 (bZ r1 (bZ r (some ((sa, fa), o0, o1))))
theorem mS_ok {T : MT} {q : (Nat × Nat) × Obj × Obj} (h : mS T = some q) : T = TS q.1.1 q.1.2 q.2.1 q.2.2 :=
 inv_m h fun _ _ _ _ h1 h => inv_m h fun _ _ _ _ h2 h => inv_z h fun h4 h => inv_z h fun h5 h => inv_z h fun h6 h => by rw [← Option.some.inj h, h1, h2, h4, h5, h6]; rfl
theorem TS_lt {sa fa : Nat} {o0 o1 : Obj} {j : Nat} {x : Nat × Obj} (h : (TS sa fa o0 o1).get j = some x) : j < 2 := by
 unfold TS at h
 rw [MT.get_node] at h
 by_cases h0 : j = 0
 ·omega
 ·rw [if_neg h0] at h
  by_cases h1 : j % 2 = 1
  ·rw [if_pos h1, MT.get_node] at h
   by_cases h2 : j / 2 = 0
   ·omega
   ·rw [if_neg h2] at h
    by_cases h3 : j / 2 % 2 = 1
    ·rw [if_pos h3] at h; cases h
    ·rw [if_neg h3] at h; cases h
  ·rw [if_neg h1] at h; cases h
def aR0 (l : List Value) : Option (Nat × Nat) := bO (aRV l) fun q => bO (vInt q.2) fun k => bT (Z.eqB k.1 (.ofNat 0)) (some (q.1, k.2))
theorem aR0_ok {l : List Value} {q : Nat × Nat} (h : aR0 l = some q) : l = [.ref q.1, .int (.ofNat 0) q.2] :=
 inv_o h fun q' e h => inv_o h fun k e2 h => inv_t h fun e3 h => by rw [aRV_ok e, vInt_ok e2, (Z.eqB_iff _ _).mp e3, ← Option.some.inj h]
structure DQ where
 a : Nat
 sa : Nat
 fa : Nat
 o1 : Obj
 xs : Array Value
 ep : Nat
 js : List Nat
def poolA (js : List Nat) (Γ : PySem.Ctx) (T : MT) (τ : Nat) (ch : Ch) : Option DQ := bO (clAt Γ) fun q => bT (Nat.beq q.1 1637) (bO (aR0 q.2.1) fun a => bO (bl2 q.2.2) fun z => bO (cF z.1.1) fun _ =>
 bO (mS T) fun t => bO (seqAt nList T 0) fun s => bO (isChL ch) fun _ => bS τ fun _ => bL js fun _ r => some ⟨a.1, t.1.1, t.1.2, t.2.2, s.2.1, s.2.2, r⟩)
theorem poolA_k {js : List Nat} {Γ : PySem.Ctx} {T : MT} {τ : Nat} {ch : Ch} {d : DQ} (h : poolA js Γ T τ ch = some d) (ha : d.a = d.sa) {P : Prop}
  (k : ∀ tk bb env p1 p2 t (v : Array Value × Array Value × Array Value), Γ = ΓP d.sa tk bb env p1 p2 → T = TS d.sa d.fa (scO d.xs d.ep) d.o1 → ch = chL v.1 v.2.1 v.2.2 → τ = t + 1 → P) : P :=
 inv_o h fun q h1 e => inv_t e fun h2 e => inv_o e fun a h3 e => inv_o e fun z h4 e => inv_o e fun en h5 e => inv_o e fun t h6 e => inv_o e fun s h7 e => inv_o e fun v h8 e => inv_s e fun n h9 e => inv_l e fun _ _ _ e => by
  rw [← Option.some.inj e] at ha k
  have h0 := seqAt_ok nList_is h7
  rw [mS_ok h6] at h0
  refine k a.2 en.1 en.2 z.1.2 z.2 n v ((clAt_ok h1).trans ?_) ((mS_ok h6).trans (by rw [show t.2.1 = _ from congrArg Prod.snd (Option.some.inj (show some (t.1.1, t.2.1) = _ from h0))]; rfl)) (isChL_ok h8) h9
  rw [Nat.eq_of_beq_eq_true h2, aR0_ok h3, bl2_ok h4, ← show a.1 = t.1.1 from ha, show z.1 = (z.1.1, z.1.2) from rfl, cF_ok h5]; rfl
def hkPool : HB := hkD poolA fun d _ _ ch => ([(d.a, d.sa)], fun K => (d.xs = #[] ∨ ∃ z tz rest, d.xs = ⟨.int z tz :: rest⟩) ∧ d.xs.size ≤ 63 ∧ ∀ la N' t' s0 u0 s1 u1, Bd s0 s1 →
      K (.ok (.ret (.ref la))) (TL d.sa d.fa la (scO d.xs d.ep) d.o1 (srcE s0 u0 s1 u1 0)) 3 (N' + 1723) 0 (t' + 1) 0 ch d.js)
theorem hkPool_ok {w : World} {h : Heap} {dd : Drawn} {os : OsState} {X : Nat → Option Obj} (O : (VX w h dd os X).Ok) : HBOk (VX w h dd os X) hkPool :=
 hkD_ok (fun d T m ch F G H x => ⟨x.1, x.2.1, fun la N' t' s0 u0 s1 u1 hb => H _ _ _ _ _ _ _ _ _ (x.2.2 la N' t' s0 u0 s1 u1 hb)⟩)
 fun js Γ p T m B c τ i ch d e hps R g D x => poolA_k e (hps (d.a, d.sa) (.head _)) fun tk bb env p1 p2 t v e1 e2 e3 e4 => by
  rw [e2] at D
  rw [e3] at D x
  rw [e1, e4, Nat.add_right_comm]
  have D0 := D.weaken fun j x hx => ⟨TS_lt hx, hx⟩
  rw [← Nat.sub_add_cancel (show 1723 ≤ B + c from D.low)] at D0
  exact pool_wp O D0 x.1 x.2.1 x.2.2
theorem rhs_closed {s0 s1 : Int} (hb : Bd s0 s1) (N sa fa la u0 u1 t0 : Nat) (o0 : Obj) (es : Array DictEntry) (ep : Nat) (e : EnvV) (v1 v2 : Array Value) : AllP (okAcc (accL (AXf sa fa la [(3, N + 1723)]) jsC_0 []) ∧ tt 0 ∧ Bd s0 s1 ∧ ∀ (ua Na ta : Nat) (s0a : Int) (u0a : Nat) (s1a : Int) (u1a : Nat), Bd s0a s1a → (((True ∧ (AllP (okAcc (accL (AXf sa fa la [(26, Na + 1723), (3, N + 1723)]) jsC_1 []) ∧ tt 1 ∧ Bd s0a s1a ∧ ∀ (ub Nb tb : Nat) (s0b : Int) (u0b : Nat) (s1b : Int) (u1b : Nat), Bd s0b s1b → (True ∧ (AllP (okAcc (accL (AXf sa fa la [(43, Nb + 1723), (26, Na + 1723), (3, N + 1723)]) jsC_2 []) ∧ tt 7 ∧ Bd s0b s1b ∧ ∀ (uc Nc tc : Nat) (s0c : Int) (u0c : Nat) (s1c : Int) (u1c : Nat), Bd s0c s1c → ((True ∧ (AllP (okAcc (accL (AXf sa fa la [(81, Nc + 1723), (43, Nb + 1723), (26, Na + 1723), (3, N + 1723)]) jsC_3 []) ∧ tt 16 ∧ KD (sa, o0) (fa, frO es ep (rdyS e)) la v1 v2 (.ok (.ret (.bool true)), some (sa, o0), some (fa, frO es ep (rdyS e)), some (la, srcE s0c u0c s1c u1c 0), Nc + 1723, tc + 1, some (v1, v2))) 5)) ∧ (AllP (okAcc (accL (AXf sa fa la [(81, Nc + 1723), (43, Nb + 1723), (26, Na + 1723), (3, N + 1723)]) jsC_4 []) ∧ tt 16 ∧ KD (sa, o0) (fa, frO es ep (rdyS e)) la v1 v2 (.ok (.ret (.bool true)), some (sa, o0), some (fa, frO es ep (rdyS e)), some (la, srcE s0c u0c s1c u1c 0), Nc + 1723, tc + 1, some (v1, v2))) 5))) 1))) 1)) ∧ (AllP (okAcc (accL (AXf sa fa la [(26, Na + 1723), (3, N + 1723)]) jsC_5 []) ∧ tt 4 ∧ Bd s0a s1a ∧ ∀ (ub Nb tb : Nat) (s0b : Int) (u0b : Nat) (s1b : Int) (u1b : Nat), Bd s0b s1b → ((True ∧ (AllP (okAcc (accL (AXf sa fa la [(53, Nb + 1723), (26, Na + 1723), (3, N + 1723)]) jsC_6 []) ∧ tt 7 ∧ Bd s0b s1b ∧ ∀ (uc Nc tc : Nat) (s0c : Int) (u0c : Nat) (s1c : Int) (u1c : Nat), Bd s0c s1c → ((True ∧ (AllP (okAcc (accL (AXf sa fa la [(91, Nc + 1723), (53, Nb + 1723), (26, Na + 1723), (3, N + 1723)]) jsC_7 []) ∧ tt 20 ∧ KD (sa, o0) (fa, frO es ep (rdyS e)) la v1 v2 (.ok (.ret (.bool true)), some (sa, o0), some (fa, frO es ep (rdyS e)), some (la, srcE s0c u0c s1c u1c 0), Nc + 1723, tc + 1, some (v1, v2))) 5)) ∧ (AllP (okAcc (accL (AXf sa fa la [(91, Nc + 1723), (53, Nb + 1723), (26, Na + 1723), (3, N + 1723)]) jsC_8 []) ∧ tt 20 ∧ KD (sa, o0) (fa, frO es ep (rdyS e)) la v1 v2 (.ok (.ret (.bool true)), some (sa, o0), some (fa, frO es ep (rdyS e)), some (la, srcE s0c u0c s1c u1c 0), Nc + 1723, tc + 1, some (v1, v2))) 5))) 1)) ∧ (AllP (okAcc (accL (AXf sa fa la [(53, Nb + 1723), (26, Na + 1723), (3, N + 1723)]) jsC_9 []) ∧ tt 7 ∧ Bd s0b s1b ∧ ∀ (uc Nc tc : Nat) (s0c : Int) (u0c : Nat) (s1c : Int) (u1c : Nat), Bd s0c s1c → ((True ∧ (AllP (okAcc (accL (AXf sa fa la [(91, Nc + 1723), (53, Nb + 1723), (26, Na + 1723), (3, N + 1723)]) jsC_10 []) ∧ tt 20 ∧ KD (sa, o0) (fa, frO es ep (rdyS e)) la v1 v2 (.ok (.ret (.bool true)), some (sa, o0), some (fa, frO es ep (rdyS e)), some (la, srcE s0c u0c s1c u1c 0), Nc + 1723, tc + 1, some (v1, v2))) 5)) ∧ (AllP (okAcc (accL (AXf sa fa la [(91, Nc + 1723), (53, Nb + 1723), (26, Na + 1723), (3, N + 1723)]) jsC_11 []) ∧ tt 20 ∧ KD (sa, o0) (fa, frO es ep (rdyS e)) la v1 v2 (.ok (.ret (.bool true)), some (sa, o0), some (fa, frO es ep (rdyS e)), some (la, srcE s0c u0c s1c u1c 0), Nc + 1723, tc + 1, some (v1, v2))) 5))) 1))) 1)) ∧ (AllP (okAcc (accL (AXf sa fa la [(26, Na + 1723), (3, N + 1723)]) jsC_12 []) ∧ tt 7 ∧ Bd s0a s1a ∧ ∀ (ub Nb tb : Nat) (s0b : Int) (u0b : Nat) (s1b : Int) (u1b : Nat), Bd s0b s1b → (((True ∧ (AllP (okAcc (accL (AXf sa fa la [(63, Nb + 1723), (26, Na + 1723), (3, N + 1723)]) jsC_13 []) ∧ tt 7 ∧ Bd s0b s1b ∧ ∀ (uc Nc tc : Nat) (s0c : Int) (u0c : Nat) (s1c : Int) (u1c : Nat), Bd s0c s1c → ((True ∧ (AllP (okAcc (accL (AXf sa fa la [(101, Nc + 1723), (63, Nb + 1723), (26, Na + 1723), (3, N + 1723)]) jsC_14 []) ∧ tt 22 ∧ KD (sa, o0) (fa, frO es ep (rdyS e)) la v1 v2 (.ok (.ret (.bool true)), some (sa, o0), some (fa, frO es ep (rdyS e)), some (la, srcE s0c u0c s1c u1c 0), Nc + 1723, tc + 1, some (v1, v2))) 5)) ∧ (AllP (okAcc (accL (AXf sa fa la [(101, Nc + 1723), (63, Nb + 1723), (26, Na + 1723), (3, N + 1723)]) jsC_15 []) ∧ tt 22 ∧ KD (sa, o0) (fa, frO es ep (rdyS e)) la v1 v2 (.ok (.ret (.bool true)), some (sa, o0), some (fa, frO es ep (rdyS e)), some (la, srcE s0c u0c s1c u1c 0), Nc + 1723, tc + 1, some (v1, v2))) 5))) 1)) ∧ (AllP (okAcc (accL (AXf sa fa la [(63, Nb + 1723), (26, Na + 1723), (3, N + 1723)]) jsC_16 []) ∧ tt 7 ∧ Bd s0b s1b ∧ ∀ (uc Nc tc : Nat) (s0c : Int) (u0c : Nat) (s1c : Int) (u1c : Nat), Bd s0c s1c → ((True ∧ (AllP (okAcc (accL (AXf sa fa la [(101, Nc + 1723), (63, Nb + 1723), (26, Na + 1723), (3, N + 1723)]) jsC_17 []) ∧ tt 22 ∧ KD (sa, o0) (fa, frO es ep (rdyS e)) la v1 v2 (.ok (.ret (.bool true)), some (sa, o0), some (fa, frO es ep (rdyS e)), some (la, srcE s0c u0c s1c u1c 0), Nc + 1723, tc + 1, some (v1, v2))) 5)) ∧ (AllP (okAcc (accL (AXf sa fa la [(101, Nc + 1723), (63, Nb + 1723), (26, Na + 1723), (3, N + 1723)]) jsC_18 []) ∧ tt 22 ∧ KD (sa, o0) (fa, frO es ep (rdyS e)) la v1 v2 (.ok (.ret (.bool true)), some (sa, o0), some (fa, frO es ep (rdyS e)), some (la, srcE s0c u0c s1c u1c 0), Nc + 1723, tc + 1, some (v1, v2))) 5))) 1)) ∧ (AllP (okAcc (accL (AXf sa fa la [(63, Nb + 1723), (26, Na + 1723), (3, N + 1723)]) jsC_19 []) ∧ tt 7 ∧ Bd s0b s1b ∧ ∀ (uc Nc tc : Nat) (s0c : Int) (u0c : Nat) (s1c : Int) (u1c : Nat), Bd s0c s1c → ((True ∧ (AllP (okAcc (accL (AXf sa fa la [(101, Nc + 1723), (63, Nb + 1723), (26, Na + 1723), (3, N + 1723)]) jsC_20 []) ∧ tt 22 ∧ KD (sa, o0) (fa, frO es ep (rdyS e)) la v1 v2 (.ok (.ret (.bool true)), some (sa, o0), some (fa, frO es ep (rdyS e)), some (la, srcE s0c u0c s1c u1c 0), Nc + 1723, tc + 1, some (v1, v2))) 5)) ∧ (AllP (okAcc (accL (AXf sa fa la [(101, Nc + 1723), (63, Nb + 1723), (26, Na + 1723), (3, N + 1723)]) jsC_21 []) ∧ tt 22 ∧ KD (sa, o0) (fa, frO es ep (rdyS e)) la v1 v2 (.ok (.ret (.bool true)), some (sa, o0), some (fa, frO es ep (rdyS e)), some (la, srcE s0c u0c s1c u1c 0), Nc + 1723, tc + 1, some (v1, v2))) 5))) 1))) 1))) 0 :=
 AllP_ok ⟨accL_ok _ _ _ okNil, tt_ok _, hb, fun ua Na ta s0a u0a s1a u1a hba => ⟨⟨⟨trivial, AllP_ok ⟨accL_ok _ _ _ okNil, tt_ok _, hba, fun ub Nb tb s0b u0b s1b u1b hbb => ⟨trivial, AllP_ok ⟨accL_ok _ _ _ okNil, tt_ok _, hbb, fun uc Nc tc s0c u0c s1c u1c hbc => ⟨⟨trivial, AllP_ok ⟨accL_ok _ _ _ okNil, tt_ok _, rfl, rfl, rfl, ⟨_, _, _, _, hbc, rfl⟩, ⟨_, rfl⟩, ⟨_, rfl⟩, rfl⟩ _⟩, AllP_ok ⟨accL_ok _ _ _ okNil, tt_ok _, rfl, rfl, rfl, ⟨_, _, _, _, hbc, rfl⟩, ⟨_, rfl⟩, ⟨_, rfl⟩, rfl⟩ _⟩⟩ _⟩⟩ _⟩, AllP_ok ⟨accL_ok _ _ _ okNil, tt_ok _, hba, fun ub Nb tb s0b u0b s1b u1b hbb => ⟨⟨trivial, AllP_ok ⟨accL_ok _ _ _ okNil, tt_ok _, hbb, fun uc Nc tc s0c u0c s1c u1c hbc => ⟨⟨trivial, AllP_ok ⟨accL_ok _ _ _ okNil, tt_ok _, rfl, rfl, rfl, ⟨_, _, _, _, hbc, rfl⟩, ⟨_, rfl⟩, ⟨_, rfl⟩, rfl⟩ _⟩, AllP_ok ⟨accL_ok _ _ _ okNil, tt_ok _, rfl, rfl, rfl, ⟨_, _, _, _, hbc, rfl⟩, ⟨_, rfl⟩, ⟨_, rfl⟩, rfl⟩ _⟩⟩ _⟩, AllP_ok ⟨accL_ok _ _ _ okNil, tt_ok _, hbb, fun uc Nc tc s0c u0c s1c u1c hbc => ⟨⟨trivial, AllP_ok ⟨accL_ok _ _ _ okNil, tt_ok _, rfl, rfl, rfl, ⟨_, _, _, _, hbc, rfl⟩, ⟨_, rfl⟩, ⟨_, rfl⟩, rfl⟩ _⟩, AllP_ok ⟨accL_ok _ _ _ okNil, tt_ok _, rfl, rfl, rfl, ⟨_, _, _, _, hbc, rfl⟩, ⟨_, rfl⟩, ⟨_, rfl⟩, rfl⟩ _⟩⟩ _⟩⟩ _⟩, AllP_ok ⟨accL_ok _ _ _ okNil, tt_ok _, hba, fun ub Nb tb s0b u0b s1b u1b hbb => ⟨⟨⟨trivial, AllP_ok ⟨accL_ok _ _ _ okNil, tt_ok _, hbb, fun uc Nc tc s0c u0c s1c u1c hbc => ⟨⟨trivial, AllP_ok ⟨accL_ok _ _ _ okNil, tt_ok _, rfl, rfl, rfl, ⟨_, _, _, _, hbc, rfl⟩, ⟨_, rfl⟩, ⟨_, rfl⟩, rfl⟩ _⟩, AllP_ok ⟨accL_ok _ _ _ okNil, tt_ok _, rfl, rfl, rfl, ⟨_, _, _, _, hbc, rfl⟩, ⟨_, rfl⟩, ⟨_, rfl⟩, rfl⟩ _⟩⟩ _⟩, AllP_ok ⟨accL_ok _ _ _ okNil, tt_ok _, hbb, fun uc Nc tc s0c u0c s1c u1c hbc => ⟨⟨trivial, AllP_ok ⟨accL_ok _ _ _ okNil, tt_ok _, rfl, rfl, rfl, ⟨_, _, _, _, hbc, rfl⟩, ⟨_, rfl⟩, ⟨_, rfl⟩, rfl⟩ _⟩, AllP_ok ⟨accL_ok _ _ _ okNil, tt_ok _, rfl, rfl, rfl, ⟨_, _, _, _, hbc, rfl⟩, ⟨_, rfl⟩, ⟨_, rfl⟩, rfl⟩ _⟩⟩ _⟩, AllP_ok ⟨accL_ok _ _ _ okNil, tt_ok _, hbb, fun uc Nc tc s0c u0c s1c u1c hbc => ⟨⟨trivial, AllP_ok ⟨accL_ok _ _ _ okNil, tt_ok _, rfl, rfl, rfl, ⟨_, _, _, _, hbc, rfl⟩, ⟨_, rfl⟩, ⟨_, rfl⟩, rfl⟩ _⟩, AllP_ok ⟨accL_ok _ _ _ okNil, tt_ok _, rfl, rfl, rfl, ⟨_, _, _, _, hbc, rfl⟩, ⟨_, rfl⟩, ⟨_, rfl⟩, rfl⟩ _⟩⟩ _⟩⟩ _⟩⟩ _
theorem pass_closed (w : World) (h : Heap) (d : Drawn) (os : OsState) (O : (VV w h d os).Ok) (es : Nat → Nat → Array DictEntry) (ep : Nat) (b : List Stmt) (e : EnvV) (p1 p2 : Pos) (v1 v2 : Array Value) :
  Pass (VV w h d os) 1708 true es ep b e p1 p2 (rdyS e) (chL v1 v2 #[]) (fun sl1 ch => sl1 = rdyS e ∧ ∃ v, ch = chL v1 v2 v) := by
 intro N t0 sa fa la o0 s0 u0 s1 u1 p R g hb D K
 rw [← wF_self w] at D K ⊢
 revert D K
 have O' : ∀ b1 b2, (VV (wF w b1 b2) h d os).Ok := fun b1 b2 => ⟨O.exn, O.size, O.kt, O.tabs⟩
 generalize w.params.followText "special-get-raises" = b1
 generalize w.params.followText "comprehension-iter-twice" = b2
 intro D K
 have hH : HkOk (VV (wF w b1 b2) h d os) (HH (hkOf [hkTakeS brC])) := HH_ok _ (O' b1 b2) (Nat.le_refl 1723) (hkOf_ok fun f hf => by
  cases hf with
  | head => exact hkTakeS_ok (O' b1 b2) brC
  | tail _ hf => cases hf)
 have fin : ∀ r T m B c τ i ch js, KC (sa, o0) (fa, frO (es sa la) ep (rdyS e)) la v1 v2 r T m B c τ i ch js → AtS (VV (wF w b1 b2) h d os) R r T m B c τ i ch := by
  intro r T m B c τ i ch js x
  obtain ⟨x1, x2, x3, ⟨z0, y0, z1, y1, bd, x4⟩, ⟨N', x5⟩, ⟨t', x6⟩, x7⟩ := x
  simp only at x1 x2 x3 x4 x5 x6 x7
  subst x1 x5 x6
  intro g' D'
  have D2 := D'.weaken (T := TL sa fa la o0 (frO (es sa la) ep (rdyS e)) (srcO z0 y0 z1 y1)) (m := 3) fun j x hx => by
   rcases TL_get hx with ⟨rfl, rfl⟩ | ⟨rfl, rfl⟩ | ⟨rfl, rfl⟩
   ·exact ⟨by omega, x2⟩
   ·exact ⟨by omega, x3⟩
   ·exact ⟨by omega, x4⟩
  have hch : ∃ v, ch = chL v1 v2 v := by
   cases q : isChL ch with
   | none => rw [q] at x7; cases x7
   | some v =>
    rw [q] at x7
    obtain ⟨a, b', c'⟩ := v
    have x7 : some (a, b') = some (v1, v2) := x7
    cases x7
    exact ⟨_, isChL_ok q⟩
  have k := K (N' + c) (t' + i) z0 y0 z1 y1 (rdyS e) ch bd ⟨rfl, hch⟩
  have e1 : N' + 1723 + c = N' + c + 1723 + 0 := by omega
  have e2 : t' + 1 + i = t' + i + 1 + 0 := by omega
  rw [e1] at D2
  rw [e2]
  exact k g' D2
 cases b1
 ·exact contract1 (O' _ _) hH ((run_closed_false w N t0 sa fa la o0 s0 u0 s1 u1 (es sa la) ep h d os b e p1 p2 p b2 v1 v2).mpr (rhs_closed hb N sa fa la u0 u1 t0 o0 (es sa la) ep e v1 v2)) fin (c := 0) (i := 0) D
 ·exact contract1 (O' _ _) hH ((run_closed_true w N t0 sa fa la o0 s0 u0 s1 u1 (es sa la) ep h d os b e p1 p2 p b2 v1 v2).mpr (rhs_closed hb N sa fa la u0 u1 t0 o0 (es sa la) ep e v1 v2)) fin (c := 0) (i := 0) D
def preC : PreT := fun e sl _ _ v3 => v3 = #[] ∧ sl = rdyS e
def postC : List PostT := [fun e _ v1 v2 _ v => (rdyS e, chL v1 v2 v)]
theorem all_closed (w : World) (h : Heap) (d : Drawn) (os : OsState) (O : (VV w h d os).Ok) : PassAll (VV w h d os) 1708 true preC postC := fun es ep b e p1 p2 sl v1 v2 v3 hp => by
 obtain ⟨rfl, rfl⟩ := hp
 exact (pass_closed w h d os O es ep b e p1 p2 v1 v2).mono fun s c q => let ⟨q1, v, q2⟩ := q; ⟨v, _, .head _, by rw [q1, q2]⟩
def jL0 : List Nat := [0, 0, 3, 3, 0, 2, 0, 3, 0, 6, 1]
def jL1 : List Nat := [3, 3, 0, 0, 12, 3, 3]
def jL2 : List Nat := [0, 3, 0, 18, 5, 3, 3]
def jL3 : List Nat := [0, 3, 0, 24, 5, 3, 3]
def jL4 : List Nat := [0, 3, 0, 30, 5, 3, 3]
def jL5 : List Nat := [0, 0, 36, 3, 3]
def jL6 : List Nat := [0, 3, 0, 42, 5, 3, 3]
def jL : List Nat := jL0 ++ jL1 ++ jL2 ++ jL3 ++ jL4 ++ jL5 ++ jL6
abbrev hksL : List HB := [hkPool, hkPass 1715 false preT sameP, hkPass 1663 true preT sameP, hkPass 1684 true preT sameP, hkPass 1696 true preG postG, hkPass 1703 false preE postE, hkPass 1708 true preC postC]
def ΓLaw (sa : Nat) (p0 : Pos) : PySem.Ctx := ⟨.call (.ref 1722) ⟨[.ref sa], []⟩, none, none, [(.builtin "claim.caller" {}, p0)], none⟩
section
variable (w : World) (N t0 sa ep : Nat) (xs : Array Value) (h : Heap) (d : Drawn) (os : OsState) (p0 p : Pos) (K : KTy)
abbrev simL (b1 b2 : Bool) (js : List Nat) : Prop := simG (VV (wF w b1 b2) h d os) (HH3 (hkOf hksL)) K 400 (ΓLaw sa p0) p .base (denF (.call (.ref 1722) ⟨[.ref sa], []⟩)) (.node sa (scO xs ep) .nil .nil) 1 (N + 1723) 0 (t0 + 1) 0 (chL #[] #[] #[]) js [] True
def eLaw (P : Params) : EnvV := ⟨(fnD P 1722).scope.names, (fnD P 1722).scope.more, (fnD P 1722).globals, qualD P 1722, some 1722, (fnD P 1722).code, (fnD P 1722).builtins⟩
abbrev KLT := Result → Option (Nat × Obj) → Option (Array Value × Array Value × Array Value) → Prop
def KFl (KL : KLT) : KTy := fun r T _ _ _ _ _ ch _ => KL r (T.get 0) (isChL ch)
variable (KL : KLT)
abbrev rhsL : Prop := okAcc (accL (AO [sa, N + 1723 + 0] []) jL0 []) ∧ True ∧ ((xs = #[] ∨ ∃ z tz rest, xs = ⟨.int z tz :: rest⟩) ∧ xs.size ≤ 63 ∧ ∀ (la N0 t1 : Nat) (a0 : Int) (b0 : Nat) (c0 : Int) (d0 : Nat), Bd a0 c0 → (okAcc (accL (AO [sa, N + 1723 + 0, la] []) jL1 []) ∧ True ∧ (True ∧ Bd a0 c0 ∧ ∀ (v1 : Array Value) (N1 t1 : Nat) (a1 : Int) (b1 : Nat) (c1 : Int) (d1 : Nat), Bd a1 c1 → ((okAcc (accL (AO [sa, N + 1723 + 0, la] []) jL2 []) ∧ True ∧ (True ∧ Bd a1 c1 ∧ ∀ (v2 : Array Value) (N2 t2 : Nat) (a2 : Int) (b2 : Nat) (c2 : Int) (d2 : Nat), Bd a2 c2 → ((okAcc (accL (AO [sa, N + 1723 + 0, la] []) jL3 []) ∧ True ∧ (True ∧ Bd a2 c2 ∧ ∀ (v3 : Array Value) (N3 t3 : Nat) (a3 : Int) (b3 : Nat) (c3 : Int) (d3 : Nat), Bd a3 c3 → ((okAcc (accL (AO [sa, N + 1723 + 0, la] []) jL4 []) ∧ True ∧ (((#[] : Array Value) = #[] ∧ (#[] : Array (Option Value)) = #[]) ∧ Bd a3 c3 ∧ ∀ (v4 : Array Value) (N4 t4 : Nat) (a4 : Int) (b4 : Nat) (c4 : Int) (d4 : Nat), Bd a4 c4 → ((okAcc (accL (AO [sa, N + 1723 + 0, la] []) jL5 []) ∧ True ∧ (((#[] : Array Value) = #[] ∧ ((#[] : Array (Option Value)) = #[] ∨ (#[] : Array (Option Value)) = rdyS (eLaw w.params))) ∧ Bd a4 c4 ∧ ∀ (v5 : Array Value) (N5 t5 : Nat) (a5 : Int) (b5 : Nat) (c5 : Int) (d5 : Nat), Bd a5 c5 → ((okAcc (accL (AO [sa, N + 1723 + 0, la] []) jL6 []) ∧ True ∧ (((#[] : Array Value) = #[] ∧ rdyS (eLaw w.params) = rdyS (eLaw w.params)) ∧ Bd a5 c5 ∧ ∀ (v6 : Array Value) (N6 t6 : Nat) (a6 : Int) (b6 : Nat) (c6 : Int) (d6 : Nat), Bd a6 c6 → ((okAcc [] ∧ True ∧ KL (.ok (.ret (.bool true))) (some (sa, scO xs ep)) (some (#[], v5, v6))) ∧ True))) ∧ True))) ∧ (okAcc (accL (AO [sa, N + 1723 + 0, la] []) jL5 []) ∧ True ∧ (((#[] : Array Value) = #[] ∧ (rdyS (eLaw w.params) = #[] ∨ rdyS (eLaw w.params) = rdyS (eLaw w.params))) ∧ Bd a4 c4 ∧ ∀ (v5 : Array Value) (N5 t5 : Nat) (a5 : Int) (b5 : Nat) (c5 : Int) (d5 : Nat), Bd a5 c5 → ((okAcc (accL (AO [sa, N + 1723 + 0, la] []) jL6 []) ∧ True ∧ (((#[] : Array Value) = #[] ∧ rdyS (eLaw w.params) = rdyS (eLaw w.params)) ∧ Bd a5 c5 ∧ ∀ (v6 : Array Value) (N6 t6 : Nat) (a6 : Int) (b6 : Nat) (c6 : Int) (d6 : Nat), Bd a6 c6 → ((okAcc [] ∧ True ∧ KL (.ok (.ret (.bool true))) (some (sa, scO xs ep)) (some (v4, v5, v6))) ∧ True))) ∧ True))) ∧ True))) ∧ True))) ∧ True))) ∧ True))))
theorem runL_f (b2 : Bool) : simL w N t0 sa ep xs h d os p0 p (KFl KL) false b2 jL = rhsL w N sa ep xs KL := by kernel_rfl
theorem runL_t (b2 : Bool) : simL w N t0 sa ep xs h d os p0 p (KFl KL) true b2 jL = rhsL w N sa ep xs KL := by kernel_rfl
end
def Γ0 : PySem.Ctx := ⟨.builtin "claim.caller" {}, none, none, [], none⟩
theorem leftT2 : LeftO pw qM looseM XtM (fun s => (s.heap, s.toks)) (fun w => (hM w.params, 2606)) 20000 := by
 refine LeftO.of_pieces (H₀ := boot_heap) (H₁ := hM) (gs₀ := #[]) (gs₁ := #[]) (d₀ := boot_drawn) (d₁ := {}) (k₀ := boot_toks) (k₁ := 2606) (m₀ := 11) (ann := annM) (M := stepsM) openT sizeT runT (by kernel_rfl) fun w => funext fun os => ?_
 rw [lk1, lk3, lk4, lk2, seenT]
 rfl
theorem callAt {c : ClaimW} {t : List Value → Sem Fin} {w : World} {s : Shared} {free : Addr → Prop} {gens : Prop} {kept : Heap → Prop} (hz : s.asleep) (hg : s.gens = #[])
  (H : ∀ args, c.pre args = true → WData.layableAll args = true → ∀ ord : List DictEntry → List DictEntry, (∀ l, (ord l).Perm l) → ∃ vs s₁, layAllW c.records (classAt s.heap) w.params ord args s = some (vs, s₁) ∧
   Sem.wp (model c.prog w) Γ0 (t vs) (Sem.finPost (model c.prog w) Γ0 fun r s' => (c.Ends s args vs s₁ r s' ∧ s'.os = s.os ∧ kept s'.heap) ∧ leftWithCleanup s'.gens = false)
    (fun e _ s' => (c.Ends s args vs s₁ (.error e) s' ∧ s'.os = s.os ∧ kept s'.heap) ∧ leftWithCleanup s'.gens = false) default s₁) :
  c.CallFrom (fun vs => ⟨t vs, .builtin "claim.caller" {}, default, []⟩) w free gens kept s := fun args h1 h2 ord h3 => by
 obtain ⟨vs, s₁, lay, h⟩ := H args h1 h2 ord h3
 have al := layAllW_rest _ _ _ lay
 obtain ⟨k, r, s2, s3, sched, ran, fo, ⟨ends, os, kp⟩⟩ := wp_halts_full (M := model c.prog w) (R := fun r s' => c.Ends s args vs s₁ r s' ∧ s'.os = s.os ∧ kept s'.heap) (Shared.asleep_of_life al.2.2.2 hz) h
 obtain ⟨eh, _, _, eo, _⟩ := Shared.forget_eq fo
 have ends := ends.congr eh
 have kp : kept s3.heap := by rw [eh]; exact kp
 have os : s3.os = s.os := eo.trans os
 have life : s3.heap.life = s.heap.life := (runN_life _ _ _ ran).trans al.2.2.2
 refine ⟨vs, s₁, lay, k, _, s3, sched, ?_, (fun _ i x hx => by rw [hg] at hx; simp at hx), kp, by rw [life], Shared.rest_eq os⟩
 rcases ends with ⟨v, rfl, d1, d2, d3, d4, d5⟩ | ⟨e, ob, cls, rfl, d1, d2, d3, d4, d5⟩
 ·exact .inl ⟨v, rfl, d1, d2, d3, fun b o y _ => d4 b o y, d5⟩
 ·exact .inr ⟨e, ob, cls, rfl, d1, d2, d3, d4, fun b o y _ => d5 b o y⟩
theorem itemsI {R : WRecords} : ∀ {xs : List WData}, WShape.hasItems R xs .int = true → ∃ is : List Int, xs = is.map .int
 | [], _ => ⟨[], rfl⟩
 | x :: xs, h => by
  obtain ⟨h1, h2⟩ : WShape.has R x .int = true ∧ WShape.hasItems R xs .int = true := by simpa [WShape.hasItems] using h
  obtain ⟨i, rfl⟩ := hasW_int h1
  obtain ⟨is, rfl⟩ := itemsI h2
  exact ⟨i :: is, rfl⟩
theorem layI {R : WRecords} {cl : Str → Option Addr} {P : Params} {ord : List DictEntry → List DictEntry} : ∀ (is : List Int) (s : Shared), ∃ (vs : List Value) (n : Nat), layAllW R cl P ord (is.map .int) s = some (vs, { s with toks := s.toks + n }) ∧ vs.length = is.length ∧ (vs = [] ∨ ∃ z tz rest, vs = .int z tz :: rest)
 | [], s => ⟨[], 0, by rw [List.map_nil]; unfold layAllW; rfl, rfl, .inl rfl⟩
 | i :: is, s => by
  obtain ⟨vs, n, h1, h2, h3⟩ := layI (R := R) (cl := cl) (P := P) (ord := ord) is { s with toks := s.toks + 1 }
  refine ⟨.int i s.toks :: vs, 1 + n, ?_, by rw [List.length_cons, List.length_cons, h2], .inr ⟨_, _, _, rfl⟩⟩
  rw [List.map_cons, layAllW]
  have : layW R cl P ord (.int i) s = some (.int i s.toks, { s with toks := s.toks + 1 }) := by unfold layW; rfl
  rw [this]
  show (match layAllW R cl P ord (is.map .int) { s with toks := s.toks + 1 } with | some r => some (Value.int i s.toks :: r.1, r.2) | none => none) = _
  rw [h1]
  show some (_, ({ s with toks := s.toks + 1 + n } : Shared)) = _
  rw [Nat.add_assoc]
def RunAsk : Prop := ∀ (w : World) (d : Drawn) (os : OsState) (t0 : Nat) (p : Pos) (xs : Array Value) (R : Result → Shared → Prop), (xs = #[] ∨ ∃ z tz rest, xs = ⟨.int z tz :: rest⟩) → xs.size ≤ 63 →
 (∀ h' t', OldK ((hM w.params).push (scO xs 0)) h' → R (.ok (.ret (.bool true))) ⟨h', #[], d, t', os⟩) →
 wpCode (model pw w) (Γ0.enter (.call (.ref 1722) ⟨[.ref 1723], []⟩) none p) R p ⟨(hM w.params).push (scO xs 0), #[], d, t0 + 1, os⟩
theorem law_at (P : Params) : (hM P).nsMap mainGlobals (Str.ofString "law") = some (.ref 1722) := by kernel_rfl
theorem size_M (P : Params) : (hM P).objs.size = 1723 := by kernel_rfl
theorem lt_val (xs : List WData) : (WTm.lt (.lit (.int 63)) (.len (.arg 0))).value [] { args := [.list xs] } = some (.bool (decide ((63 : Int) < (xs.length : Int)))) := by kernel_rfl
theorem not_val {a : WTm} {e : WCtx} {b : Bool} (h : a.value [] e = some (.bool b)) : (WTm.not a).value [] e = some (.bool (!b)) := by
 rw [WTm.value, h]
theorem and_val {a c : WTm} {e : WCtx} (h : a.value [] e = some (.bool false)) : (WTm.and a c).holds [] e = false := by
 rw [WTm.holds, WTm.value, h]
theorem pre63 {is : List Int} (h : (PySem.Challenge.rw_on0354_01.pre).holds [] { args := [.list (is.map .int)] } = true) : is.length ≤ 63 := by
 have e : PySem.Challenge.rw_on0354_01.pre = .and (.not (.lt (.lit (.int 63)) (.len (.arg 0)))) (.lit (.bool true)) := rfl
 rw [e] at h
 by_cases q : (63 : Int) < (is.map WData.int).length
 ·have l := not_val (lt_val (is.map WData.int))
  rw [decide_eq_true q] at l
  rw [and_val l] at h
  cases h
 ·rw [List.length_map, Int.not_lt] at q
  exact Int.ofNat_le.mp q
theorem postT {args ds : List WData} : PySem.Challenge.rw_on0354_01.row.claim.post args (.bool true) ds = true := by kernel_rfl
theorem rootT (said : PySem.Challenge.rw_on0354_01.row.wellSaid = true) (run : RunAsk) : PySem.Challenge.rw_on0354_01.row.Holds := by
 have ok : (chainsOk qM && opensWell PySem.Challenge.rw_on0354_01.row.prog && (frees PySem.Challenge.rw_on0354_01.row.toRowW && PySem.Challenge.rw_on0354_01.row.within.isEmpty)) = true := by decide +kernel
 obtain ⟨ok, k5⟩ := Bool.and_eq_true_iff.mp ok
 obtain ⟨hch, ow⟩ := Bool.and_eq_true_iff.mp ok
 obtain ⟨fr, wi⟩ := Bool.and_eq_true_iff.mp k5
 obtain ⟨same, hu, ha, hap, mk⟩ := frees_parts fr
 have pr : PySem.Challenge.rw_on0354_01.row.toRowW.promised := by w_witness2
 refine ⟨said, pr, ⟨⟨rfl, rfl, rfl, rfl, rfl, by decide +kernel⟩, ow, rfl⟩, pr.witness, fun w => ?_⟩
 have lb := leftT2.behind (XP := XL qM []) (fun s e => xl_of s (Bool.and_eq_true_iff.mp e).1) hch w
 refine ⟨lb.1, fun s' hs' => ?_⟩
 obtain ⟨s₀, hf, hg0, s, hT, hz, hgens, hns, G, y⟩ := lb.2 s' hs'
 have gens : s.gens = #[] := Array.eq_empty_of_size_eq_zero (beq_iff_eq.mp hgens)
 have yh : s.heap = hM w.params := congrArg Prod.fst y
 have yt : s.toks = 2606 := congrArg Prod.snd y
 obtain ⟨hp0, sg, sd, st, so⟩ := s
 simp only at yh yt gens
 subst yh yt gens
 refine ⟨s₀, hf, hg0, ⟨hM w.params, #[], sd, 2606, so⟩, hT, fun n hn => ?_, (fun x hx => nomatch hx), (fun x hx => nomatch hx), callAt hz rfl fun args hpre hlay ord hord => ?_⟩
 ·obtain rfl : n = PySem.Challenge.rw_on0354_01.row.name := by split at hn <;> simp_all
  exact pinned_of_view hns G (by rfl) (by rfl) (by rfl)
 ·obtain ⟨hsh, hp⟩ := pre_splitW hpre
  obtain ⟨d, r, rfl, h1, h2⟩ := hasAllW_cons hsh
  obtain rfl := hasAllW_nil h2
  obtain ⟨xs, rfl, h3⟩ := hasW_list h1
  obtain ⟨is, rfl⟩ := itemsI h3
  have hl : is.length ≤ 63 := by
   have hp : (PySem.Challenge.rw_on0354_01.pre).holds [] { args := [.list (is.map .int)] } = true := hp
   exact pre63 hp
  obtain ⟨vs, n, lay, hvl, hvs⟩ := layI (R := PySem.Challenge.rw_on0354_01.row.claim.records) (cl := classAt (hM w.params)) (P := w.params) (ord := ord) is ⟨hM w.params, #[], sd, 2606, so⟩
  have hlaid : layAllW PySem.Challenge.rw_on0354_01.row.claim.records (classAt (hM w.params)) w.params ord [.list (is.map .int)] ⟨hM w.params, #[], sd, 2606, so⟩ = some ([.ref 1723], ⟨(hM w.params).push (scO vs.toArray 0), #[], sd, 2606 + n, so⟩) := by
   have : layW PySem.Challenge.rw_on0354_01.row.claim.records (classAt (hM w.params)) w.params ord (.list (is.map .int)) ⟨hM w.params, #[], sd, 2606, so⟩ = some (.ref 1723, ⟨(hM w.params).push (scO vs.toArray 0), #[], sd, 2606 + n, so⟩) := by
    rw [layW, lay]
    show some (Value.ref (hM w.params).objs.size, _) = _
    rw [size_M]; rfl
   rw [layAllW, this]
   show (match layAllW PySem.Challenge.rw_on0354_01.row.claim.records (classAt (hM w.params)) w.params ord [] ⟨(hM w.params).push (scO vs.toArray 0), #[], sd, 2606 + n, so⟩ with | some r => some (Value.ref 1723 :: r.1, r.2) | none => none) = _
   rw [layAllW]
  refine ⟨_, _, hlaid, ?_⟩
  have keeps := layAllW_keeps _ _ _ hlaid
  obtain ⟨as, hrd, hin, hold⟩ := reads_layAllW hord _ _ _ hlaid hlay _ (fun _ _ e => e)
  have L : Laid PySem.Challenge.rw_on0354_01.row.claim.records w ⟨hM w.params, #[], sd, 2606, so⟩ _ _ _ as := ⟨⟨ord, hord, hlaid⟩, hrd, hin, hold, keeps, rfl, rfl⟩
  have G₁ := G.keeps XL.keeps keeps
  have hmg : (hM w.params).nsMap mainGlobals PySem.Challenge.rw_on0354_01.row.name = some (.ref 1722) := law_at w.params
  rw [Sem.wp_bind']
  refine (Sem.wp_nsGet _ _ _ _ _ G₁.T.g _ _).mpr ?_
  rw [hmg]
  show Sem.wp _ _ (PySem.call (.ref 1722) [.ref 1723] >>= fun v => ret v) _ _ _ _
  rw [Sem.wp_bind', PySem.call, Sem.wp_runValue]
  have e : 2606 + n = (2605 + n) + 1 := by omega
  have sz : vs.toArray.size ≤ 63 := by
   rw [show vs.toArray.size = vs.length from rfl, hvl]; exact hl
  have sh : vs.toArray = #[] ∨ ∃ z tz rest, vs.toArray = ⟨.int z tz :: rest⟩ := by
   rcases hvs with rfl | ⟨z, tz, rest, rfl⟩
   ·exact .inl rfl
   ·exact .inr ⟨z, tz, rest, rfl⟩
  show wpCode (model pw w) (Γ0.enter (.call (.ref 1722) ⟨[.ref 1723], []⟩) none default) _ default ⟨(hM w.params).push (scO vs.toArray 0), #[], sd, 2606 + n, so⟩
  rw [e] at L ⊢
  refine run w sd so (2605 + n) default vs.toArray _ sh sz fun h' t' old => ?_
  have g : GoodWG PySem.Challenge.rw_on0354_01.row.claim (classAt (hM w.params)) (ExcName.means (hM w.params)) [.list (is.map .int)] ⟨(hM w.params).push (scO vs.toArray 0), #[], sd, (2605 + n) + 1, so⟩ (.ok (.ret (.bool true))) ⟨h', #[], sd, t', so⟩ :=
   ⟨.inl ⟨.bool true, .bool true, [], rfl, fun _ => rfl, .bool true, postT, fun _ => ⟨List.nodup_nil, fun a h => nomatch h⟩⟩, old, rfl, .of_eq rfl⟩
  have z := g.laid (c := PySem.Challenge.rw_on0354_01.row.claim) same (List.isEmpty_iff.mp wi) (ident_freeW hu ha hap) L
  show Sem.wp _ _ (Pure.pure (Fin.done (.ret (.bool true)))) _ _ _ _
  rw [Sem.wp_pure']
  exact ⟨⟨z.1, z.2.1, fun q => by cases q⟩, leftWithCleanup_false_of_bare z.2.2⟩
def okT (n : Nat) (t : BT) : Nat → Nat → Bool := BT.rec (motive := fun _ => Nat → Nat → Bool) (fun _ _ => true) (fun o _ _ hl hr a s => Nat.blt a n && ((alive o).isSome && (hl (a + s) (2 * s) && hr (a + 2 * s) (2 * s)))) t
theorem alive_eq {o o' : Obj} (h : alive o = some o') : o' = o := by
 unfold alive at h
 split at h
 ·cases h
 ·exact (Option.some.inj h).symm
theorem okT_get (n : Nat) : ∀ (t : BT) (a s i : Nat) (o : Obj), okT n t a s = true → t.get i = some o → a + s * i < n ∧ alive o = some o
 | .nil, a, s, i, o, _, h => by cases h
 | .node v l r, a, s, i, o, h, g => by
  have h : (Nat.blt a n && ((alive v).isSome && (okT n l (a + s) (2 * s) && okT n r (a + 2 * s) (2 * s)))) = true := h
  rw [Bool.and_eq_true, Bool.and_eq_true, Bool.and_eq_true] at h
  obtain ⟨h1, h2, h3, h4⟩ := h
  rw [BT.get_node] at g
  split at g
  ·rename_i e
   cases g
   obtain ⟨o', ho⟩ := Option.isSome_iff_exists.mp h2
   have := alive_eq ho
   subst this
   refine ⟨?_, ho⟩
   subst e
   have : a < n := Nat.le_of_ble_eq_true h1
   simpa using this
  ·split at g
   ·rename_i e1 e2
    obtain ⟨q1, q2⟩ := okT_get n l _ _ _ o h3 g
    refine ⟨?_, q2⟩
    have e : s * i = s + 2 * s * (i / 2) := by
     have : i = 1 + 2 * (i / 2) := by omega
     calc s * i = s * (1 + 2 * (i / 2)) := by rw [← this]
      _ = s + 2 * s * (i / 2) := by rw [Nat.mul_add, Nat.mul_one, ← Nat.mul_assoc, Nat.mul_comm s 2]
    omega
   ·rename_i e1 e2
    obtain ⟨q1, q2⟩ := okT_get n r _ _ _ o h4 g
    refine ⟨?_, q2⟩
    have e : s * i = 2 * s + 2 * s * (i / 2 - 1) := by
     have : i = 2 + 2 * (i / 2 - 1) := by omega
     calc s * i = s * (2 + 2 * (i / 2 - 1)) := by rw [← this]
      _ = 2 * s + 2 * s * (i / 2 - 1) := by rw [Nat.mul_add, ← Nat.mul_assoc, Nat.mul_comm s 2]
    omega
theorem okT_M (P : Params) : okT 1723 (T14 P) 0 1 = true := by kernel_rfl
theorem kt_M (P : Params) {a : Nat} {o : Obj} (h : (T14 P).get a = some o) : (hM P).get? a = some o := by
 obtain ⟨h1, h2⟩ := okT_get 1723 (T14 P) 0 1 a o (okT_M P) h
 have : a < 1723 := by omega
 unfold hM
 rw [abs_get this h, h2]
def tabObj (o : Obj) : Bool := match o with
 | ⟨.none, none, .fields ps, sl⟩ => yes (bN ps.toList (bN sl.toList (some ())))
 | _ => false
theorem tabObj_ok {o : Obj} (h : tabObj o = true) : o = tableObj #[] := by
 obtain ⟨c, d, da, sl⟩ := o
 cases c <;> first | cases h | skip
 cases d <;> first | cases h | skip
 cases da <;> first | cases h | skip
 exact inv_n (yes_ok h) fun e1 h => inv_n h fun e2 _ => by
  rw [show (_ : Array Value) = #[] from Array.ext' e1, show sl = #[] from Array.ext' e2]; rfl
def tabQ (P : Params) (c a : Nat) : Bool := yes (bO ((T14 P).get c) fun o => bO ((T14 P).get a) fun p => bO (clT o.cls) fun n => bO (dFld o.data) fun vs => bT (Nat.beq (PySem.W.S.codeS n) (PySem.W.S.codeS "code")) (bO ((vs[11]? : Option Value)) fun v => bO (vRef v) fun x => bT (Nat.beq x a) (bT (tabObj p) (some ()))))
theorem tabQ_ok {P : Params} {c a : Nat} (h : tabQ P c a = true) : (hM P).TableAt c a #[] :=
 inv_o (yes_ok h) fun o e1 h => inv_o h fun p e2 h => inv_o h fun n e3 h => inv_o h fun vs e4 h => inv_t h fun h1 h => inv_o h fun v e5 h => inv_o h fun x e6 h => inv_t h fun h2 h => inv_t h fun h3 _ =>
  ⟨⟨o, vs, kt_M P e1, (clT_ok e3).trans (by rw [id_of rfl h1]), dFld_ok e4, e5.trans (by rw [vRef_ok e6, Nat.eq_of_beq_eq_true h2])⟩, (kt_M P e2).trans (by rw [tabObj_ok h3]; rfl)⟩
theorem tab1 (P : Params) : tabQ P 1695 1693 = true := by kernel_rfl
theorem tab2 (P : Params) : tabQ P 1702 1698 = true := by kernel_rfl
theorem tab3 (P : Params) : tabQ P 1707 1705 = true := by kernel_rfl
theorem chLook3 {l1 l2 l3 : Nat × Array Value} {a : Nat} {vs : Array Value} (h : chLook [l1, l2, l3] a = some vs) : (a = l1.1 ∧ vs = l1.2) ∨ (a = l2.1 ∧ vs = l2.2) ∨ (a = l3.1 ∧ vs = l3.2) := by
 have h : (match Nat.beq l1.1 a with | true => some l1.2 | false => match Nat.beq l2.1 a with | true => some l2.2 | false => match Nat.beq l3.1 a with | true => some l3.2 | false => none) = some vs := h
 cases e1 : Nat.beq l1.1 a with
 | true => rw [e1] at h; exact .inl ⟨(Nat.eq_of_beq_eq_true e1).symm, (Option.some.inj h).symm⟩
 | false =>
  rw [e1] at h
  cases e2 : Nat.beq l2.1 a with
  | true => rw [e2] at h; exact .inr (.inl ⟨(Nat.eq_of_beq_eq_true e2).symm, (Option.some.inj h).symm⟩)
  | false =>
   rw [e2] at h
   cases e3 : Nat.beq l3.1 a with
   | true => rw [e3] at h; exact .inr (.inr ⟨(Nat.eq_of_beq_eq_true e3).symm, (Option.some.inj h).symm⟩)
   | false => rw [e3] at h; cases h
theorem okV (w : World) (d : Drawn) (os : OsState) : (VV w (hM w.params) d os).Ok where
 exn := fun a o h => nomatch h
 size := size_M w.params
 kt := fun a o h => kt_M w.params h
 tabs := fun a vs h => by
  rcases chLook3 h with ⟨rfl, rfl⟩ | ⟨rfl, rfl⟩ | ⟨rfl, rfl⟩
  ·exact ⟨1702, tabQ_ok (tab2 _)⟩
  ·exact ⟨1695, tabQ_ok (tab1 _)⟩
  ·exact ⟨1707, tabQ_ok (tab3 _)⟩
theorem rp0 (w : World) (d : Drawn) (os : OsState) (xs : Array Value) : Rp (VV w (hM w.params) d os) (.node 1723 (scO xs 0) .nil .nil) 1 (1 + 1723) (chL #[] #[] #[]) ((hM w.params).push (scO xs 0)) := by
 have G : ∀ j a o, MT.get (.node 1723 (scO xs 0) .nil .nil) j = some (a, o) → j = 0 ∧ a = 1723 ∧ o = scO xs 0 := fun j a o h => by
  rw [MT.get_node] at h
  split at h
  ·rename_i e; cases h; exact ⟨e, rfl, rfl⟩
  ·split at h <;> cases h
 have T : ∀ c a, (hM w.params).TableAt c a #[] → ((hM w.params).push (scO xs 0)).get? a = some (tableObj #[]) ∧ ∃ c ps more, (hM w.params).TableAt c a ps ∧ (#[] : Array Value) = ps ++ more := fun c a t => ⟨Heap.get?_push_of_some _ t.2, c, #[], #[], t, rfl⟩
 refine ⟨?_, by show 1723 ≤ 1 + 1723; omega, fun j a o h => ?_, fun i j a o o' h1 h2 => ?_, fun a o h _ => Heap.get?_push_of_some _ h, fun a vs h => ?_, (fun a o h => nomatch h), fun _ _ _ _ => rfl⟩
 ·rw [Heap.size_push, size_M]
 ·obtain ⟨rfl, rfl, rfl⟩ := G j a o h
  refine ⟨by omega, Nat.le_refl 1723, by omega, ?_⟩
  have := Heap.get?_push_size (hM w.params) (o := scO xs 0) rfl
  rw [size_M] at this
  exact this
 ·rw [(G i a o h1).1, (G j a o' h2).1]
 ·rcases chLook3 h with ⟨rfl, rfl⟩ | ⟨rfl, rfl⟩ | ⟨rfl, rfl⟩
  ·exact T _ _ (tabQ_ok (tab1 _))
  ·exact T _ _ (tabQ_ok (tab2 _))
  ·exact T _ _ (tabQ_ok (tab3 _))
theorem old_of {w : World} {d : Drawn} {os : OsState} {xs : Array Value} {T : MT} {m b : Nat} {ch : Ch} {g : Heap} (D : Rp (VV w (hM w.params) d os) T m b ch g) (h0 : T.get 0 = some (1723, scO xs 0)) : OldK ((hM w.params).push (scO xs 0)) g := by
 have key : ∀ a o, ((hM w.params).push (scO xs 0)).get? a = some o → asItWas ((hM w.params).push (scO xs 0)) g a o := fun a o e => by
  rcases Heap.get?_push_cases e with ⟨q, rfl⟩ | e0
  ·rw [size_M] at q
   subst q
   exact .inl (D.own 0 _ _ h0).2.2.2
  ·cases hc : chLook ch a with
   | none => exact .inl (D.keep a o e0 hc)
   | some vs =>
    obtain ⟨h1, c, ps, more, ht, hv⟩ := D.ch a vs hc
    have ho : o = tableObj ps := by
     have := ht.2
     rw [show (VV w (hM w.params) d os).h₀ = hM w.params from rfl, e0] at this
     exact Option.some.inj this
    subst ho
    refine .inr (.inl ⟨(Heap.TableAt.push ht (scO xs 0)).isCodeTable, rfl, ps, more, rfl, ?_⟩)
    rw [h1, hv]; rfl
 refine ⟨key, fun a o e => ?_⟩
 rcases key a o e with h | ⟨_, _, vs, more, _, h⟩ | ⟨_, _, ⟨o', _, _, h, _⟩, _⟩
 ·exact ⟨_, h⟩
 ·exact ⟨_, h⟩
 ·exact ⟨_, h⟩
theorem law_wp {w : World} {h : Heap} {d : Drawn} {os : OsState} (O : (VV w h d os).Ok) {N t0 sa : Nat} {xs : Array Value} {R : Result → Shared → Prop} {p0 p : Pos} {g : Heap} (D : Rp (VV w h d os) (.node sa (scO xs 0) .nil .nil) 1 (N + 1723) (chL #[] #[] #[]) g)
  (hx : xs = #[] ∨ ∃ z tz rest, xs = ⟨.int z tz :: rest⟩) (hs : xs.size ≤ 63)
  (k : ∀ T m b ch g' t', Rp (VV w h d os) T m b ch g' → T.get 0 = some (sa, scO xs 0) → R (.ok (.ret (.bool true))) ((VV w h d os).sh g' t')) : wpCode (VV w h d os).M (ΓLaw sa p0) R p ((VV w h d os).sh g (t0 + 1)) := by
 have R' : rhsL w N sa 0 xs (fun r o _ => r = .ok (.ret (.bool true)) ∧ o = some (sa, scO xs 0)) := by
  refine ⟨accL_ok _ _ _ okNil, trivial, hx, hs, fun la N0 t1 a0 b0 c0 d0 q0 => ⟨accL_ok _ _ _ okNil, trivial, trivial, q0, fun v1 N1 t1 a1 b1 c1 d1 q1 => ⟨⟨accL_ok _ _ _ okNil, trivial, trivial, q1, fun v2 N2 t2 a2 b2 c2 d2 q2 => ⟨⟨accL_ok _ _ _ okNil, trivial, trivial, q2, fun v3 N3 t3 a3 b3 c3 d3 q3 => ⟨⟨accL_ok _ _ _ okNil, trivial, ⟨rfl, rfl⟩, q3, fun v4 N4 t4 a4 b4 c4 d4 q4 => ⟨⟨accL_ok _ _ _ okNil, trivial, ⟨rfl, .inl rfl⟩, q4, fun v5 N5 t5 a5 b5 c5 d5 q5 => ⟨⟨accL_ok _ _ _ okNil, trivial, ⟨rfl, rfl⟩, q5, fun v6 N6 t6 a6 b6 c6 d6 q6 => ⟨⟨okNil, trivial, rfl, rfl⟩, trivial⟩⟩, trivial⟩⟩, ⟨accL_ok _ _ _ okNil, trivial, ⟨rfl, .inr rfl⟩, q4, fun v5 N5 t5 a5 b5 c5 d5 q5 => ⟨⟨accL_ok _ _ _ okNil, trivial, ⟨rfl, rfl⟩, q5, fun v6 N6 t6 a6 b6 c6 d6 q6 => ⟨⟨okNil, trivial, rfl, rfl⟩, trivial⟩⟩, trivial⟩⟩, trivial⟩⟩, trivial⟩⟩, trivial⟩⟩, trivial⟩⟩⟩
 have run : simL w N t0 sa 0 xs h d os p0 p (KFl fun r o _ => r = .ok (.ret (.bool true)) ∧ o = some (sa, scO xs 0)) (w.params.followText "special-get-raises") (w.params.followText "comprehension-iter-twice") jL := by
  cases w.params.followText "special-get-raises"
  ·exact (runL_f w N t0 sa 0 xs h d os p0 p _ _).mpr R'
  ·exact (runL_t w N t0 sa 0 xs h d os p0 p _ _).mpr R'
 unfold simL at run
 rw [wF_self] at run
 have W : HkW (VV w h d os) (hkOf hksL) := hkOf_ok (hbCons (hkPool_ok O) (hbCons (hkPass_ok (all_fixed w h d os O)) (hbCons (hkPass_ok (all_listener w h d os O)) (hbCons (hkPass_ok (all_link w h d os O)) (hbCons (hkPass_ok (all_ports w h d os O)) (hbCons (hkPass_ok (all_errors w h d os O)) (hbCons (hkPass_ok (all_closed w h d os O)) hbNil)))))))
 refine contract1 (c := 0) (i := 0) O (HH3_ok _ O (Nat.le_refl 1723) W) run (fun r T m B c τ i ch js x => ?_) D
 obtain ⟨rfl, h0⟩ := x
 intro g' D'
 exact k T m _ ch g' _ D' h0
theorem runAsk : RunAsk := fun w d os t0 p xs R hx hs k => by
 refine law_wp (okV w d os) (rp0 w d os xs) hx hs fun T m b ch g' t' D' h0 => ?_
 exact k g' t' (old_of D' h0)
end
set_option maxHeartbeats 0 in
theorem ws : PySem.Challenge.rw_on0354_01.wellSaid = true := by
  rw [PySem.W.Fast.te9446332074065402090]
  unfold PySem.W.Fast.tw9446332074065402090 PySem.W.Fast.tw17960256430627541270 PySem.W.Fast.tw2436336058641802641 PySem.W.Fast.tw12908688711261696721
  repeat' (with_reducible apply look_both)
  all_goals decide +kernel
end Mine
set_option maxHeartbeats 8000000 in
theorem PySem.Challenge.cw_on0354_01_holds : PySem.Challenge.rw_on0354_01.Holds := by
 exact holds_law Mine.ws fun said => Mine.rootT said Mine.runAsk
