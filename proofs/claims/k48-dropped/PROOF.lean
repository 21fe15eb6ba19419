import PyProof.Rows.All
import Wide.All
import OpenK.AllK
import Wide.FinOn
import KE.KStateDown
import Lean
import HandS.ForMost
import HandS.Exc
import HandS.TryOnly
import HandS.WordsExc
import HandS.ExcOwn
import HandS.ExcInit
import HandS.ExcSuper
import KE.KExcSuper
import HandS.Flow
import HandS.Defaults
import HandS.IsInst
import HandS.Deep
import HandS.TupAny
import HandS.TupMul
import HandS.TupSets
import HandS.Conv
import HandS.More
import HandS.Zip
import KE.GoesEnum
import HandS.Head0
import HandS.Head1
import HandS.Head2
import HandS.HeadEnd
import HandS.HeadHook1
import HandS.HeadHook2
import HandS.HeadHook3
import HandS.HeadHook4
import PySem.Challenge.RW_cutweave_k48_whole_what_was_dropped_is_n
set_option Elab.async false
set_option linter.all false
set_option maxRecDepth 100000
set_option autoImplicit false
set_option maxHeartbeats 4000000
namespace Cw
open PySem PySem.Spec PyProof.Rows L2
def top (i : Nat) : Stmt := PySem.Challenge.pw_cutweave_k48_whole_what_was_dropped_is_n.main.body.getD i (.Pass ⟨0, 0, 0, 0⟩)
abbrev s_is_whole : Stmt := top 14
abbrev s_is_below : Stmt := top 15
abbrev s_is_name : Stmt := top 16
abbrev s_is_process : Stmt := top 17
abbrev s_is_channel : Stmt := top 18
abbrev s_is_act : Stmt := top 19
abbrev s_is_rule : Stmt := top 20
abbrev s_frozen : Stmt := top 21
abbrev s_rows : Stmt := top 22
abbrev s_Net_init : Stmt := inClass (top 23) 0
abbrev s_start : Stmt := top 25
abbrev s_is_lossy : Stmt := top 26
abbrev s_is_ordered : Stmt := top 27
abbrev s_as_deed : Stmt := top 28
abbrev s_owner_of : Stmt := top 29
abbrev s_owner : Stmt := top 30
abbrev s_open_messages_of : Stmt := top 31
abbrev s_can_do : Stmt := top 32
abbrev s_with_part : Stmt := top 33
abbrev s_without_message : Stmt := top 34
abbrev s_behind_worlds : Stmt := top 35
abbrev s_done : Stmt := top 37
abbrev s_is_integer : Stmt := top 41
abbrev s_is_from_to : Stmt := top 42
abbrev s_is_sequence : Stmt := top 43
abbrev s_is_deed : Stmt := top 44
abbrev s_made_tuples : Stmt := top 45
abbrev s_gone_on : Stmt := top 46
abbrev s_behind_core_told : Stmt := top 47
abbrev s_message_of : Stmt := top 49
abbrev s_Story_init : Stmt := inClass (top 50) 0
abbrev s_Story_look_at_messages : Stmt := inClass (top 50) 1
abbrev s_Story_make_clocks : Stmt := inClass (top 50) 2
abbrev s_Story_is_consistent : Stmt := inClass (top 50) 4
abbrev s_is_within : Stmt := top 51
abbrev s_story_of : Stmt := top 52
abbrev s_need_story : Stmt := top 53
abbrev s_are_checkpoints : Stmt := top 55
abbrev s_are_processes : Stmt := top 56
abbrev s_checked : Stmt := top 57
abbrev s_allowed_of : Stmt := top 58
abbrev s_greatest_allowed : Stmt := top 59
abbrev s_line : Stmt := top 60
abbrev s_floor_of : Stmt := top 62
abbrev s_floor : Stmt := top 63
abbrev s_droppable : Stmt := top 64
abbrev s_open_messages : Stmt := top 65
abbrev s_law_so : Stmt := top 67
abbrev s_law_numbers : Stmt := top 68
abbrev s_law_draw : Stmt := top 69
abbrev s_law_net : Stmt := top 70
abbrev s_law_start : Stmt := top 71
abbrev s_law_loose : Stmt := top 72
abbrev s_law_can : Stmt := top 73
abbrev s_law_owner : Stmt := top 74
abbrev s_law_set : Stmt := top 75
abbrev s_law_done : Stmt := top 76
abbrev s_law_history : Stmt := top 77
abbrev s_law_at : Stmt := top 78
abbrev s_law_pick : Stmt := top 80
abbrev s_law_run : Stmt := top 81
abbrev s_law_points : Stmt := top 82
abbrev s_law_line : Stmt := top 83
abbrev s_law_wrong : Stmt := top 84
abbrev s_law : Stmt := top 85
abbrev exT : List Value := [.type "Exception", .type "BaseException", .type "object"]
abbrev s_BadStep_init : Stmt := inClass (top 4) 0
end Cw
namespace Cw
open PySem PySem.Spec PyProof.Rows L2
/-! ### the head: what is looked at behind the top -/
def dOf (g x q : Str) (st : Stmt) : He.DefD := ⟨(g, none), x, q, defArgs st, defBody st, defScope st, [], []⟩
def mOf (c m q : Str) (st : Stmt) : He.DefD := ⟨(c, some m), m, q, defArgs st, defBody st, defScope st, [], []⟩
def fn0 : List He.DefD := [
  dOf "is_whole" "is_whole" "is_whole" s_is_whole,
  dOf "is_below" "is_below" "is_below" s_is_below,
  dOf "is_name" "is_name" "is_name" s_is_name,
  dOf "is_process" "is_process" "is_process" s_is_process,
  dOf "is_channel" "is_channel" "is_channel" s_is_channel,
  dOf "is_act" "is_act" "is_act" s_is_act,
  dOf "is_rule" "is_rule" "is_rule" s_is_rule,
  dOf "_frozen" "_frozen" "_frozen" s_frozen,
  dOf "_rows" "_rows" "_rows" s_rows,
  mOf "Net" "__init__" "Net.__init__" s_Net_init,
  dOf "start" "start" "start" s_start,
  dOf "is_lossy" "is_lossy" "is_lossy" s_is_lossy,
  dOf "is_ordered" "is_ordered" "is_ordered" s_is_ordered,
  dOf "as_deed" "as_deed" "as_deed" s_as_deed,
  dOf "owner_of" "owner_of" "owner_of" s_owner_of,
  dOf "owner" "owner" "owner" s_owner,
  dOf "open_messages_of" "open_messages_of" "open_messages_of" s_open_messages_of,
  dOf "can_do" "can_do" "can_do" s_can_do,
  dOf "_with_part" "_with_part" "_with_part" s_with_part,
  dOf "_without_message" "_without_message" "_without_message" s_without_message,
  dOf "behind_worlds" "behind" "behind" s_behind_worlds,
  dOf "done" "done" "done" s_done,
  dOf "is_integer" "is_integer" "is_integer" s_is_integer,
  dOf "is_from_to" "is_from_to" "is_from_to" s_is_from_to,
  dOf "is_sequence" "is_sequence" "is_sequence" s_is_sequence]
def fn1 : List He.DefD := [
  dOf "is_deed" "is_deed" "is_deed" s_is_deed,
  dOf "made_tuples" "made_tuples" "made_tuples" s_made_tuples,
  dOf "gone_on" "gone_on" "gone_on" s_gone_on,
  dOf "behind_core_told" "behind" "behind" s_behind_core_told,
  dOf "message_of" "message_of" "message_of" s_message_of,
  mOf "Story" "__init__" "Story.__init__" s_Story_init,
  mOf "Story" "look_at_messages" "Story.look_at_messages" s_Story_look_at_messages,
  mOf "Story" "make_clocks" "Story.make_clocks" s_Story_make_clocks,
  mOf "Story" "is_consistent" "Story.is_consistent" s_Story_is_consistent,
  dOf "is_within" "is_within" "is_within" s_is_within,
  dOf "story_of" "story_of" "story_of" s_story_of,
  dOf "need_story" "need_story" "need_story" s_need_story,
  dOf "are_checkpoints" "are_checkpoints" "are_checkpoints" s_are_checkpoints,
  dOf "are_processes" "are_processes" "are_processes" s_are_processes,
  dOf "checked" "checked" "checked" s_checked,
  dOf "allowed_of" "allowed_of" "allowed_of" s_allowed_of,
  dOf "greatest_allowed" "greatest_allowed" "greatest_allowed" s_greatest_allowed,
  dOf "line" "line" "line" s_line,
  dOf "floor_of" "floor_of" "floor_of" s_floor_of,
  dOf "floor" "floor" "floor" s_floor,
  dOf "droppable" "droppable" "droppable" s_droppable,
  dOf "open_messages" "open_messages" "open_messages" s_open_messages,
  dOf "_law_so" "_law_so" "_law_so" s_law_so,
  dOf "_law_numbers" "_law_numbers" "_law_numbers" s_law_numbers,
  dOf "_law_draw" "_law_draw" "_law_draw" s_law_draw]
def fn2 : List He.DefD := [
  dOf "_law_net" "_law_net" "_law_net" s_law_net,
  dOf "_law_start" "_law_start" "_law_start" s_law_start,
  dOf "_law_loose" "_law_loose" "_law_loose" s_law_loose,
  dOf "_law_can" "_law_can" "_law_can" s_law_can,
  dOf "_law_owner" "_law_owner" "_law_owner" s_law_owner,
  dOf "_law_set" "_law_set" "_law_set" s_law_set,
  dOf "_law_done" "_law_done" "_law_done" s_law_done,
  dOf "_law_history" "_law_history" "_law_history" s_law_history,
  dOf "_law_at" "_law_at" "_law_at" s_law_at,
  dOf "_law_pick" "_law_pick" "_law_pick" s_law_pick,
  dOf "_law_run" "_law_run" "_law_run" s_law_run,
  dOf "_law_points" "_law_points" "_law_points" s_law_points,
  dOf "_law_line" "_law_line" "_law_line" s_law_line,
  dOf "_law_wrong" "_law_wrong" "_law_wrong" s_law_wrong,
  dOf "law" "law" "law" s_law]
def fn : List He.DefD := fn0 ++ fn1 ++ fn2
def fa0 : List He.Fa := [.glo "is_whole", .glo "is_below", .glo "is_name", .glo "is_process", .glo "is_channel", .glo "is_act", .glo "is_rule", .glo "_frozen", .glo "_rows", .glo "start", .glo "is_lossy", .glo "is_ordered", .glo "as_deed", .glo "owner_of", .glo "owner", .glo "open_messages_of", .glo "can_do", .glo "_with_part", .glo "_without_message", .glo "behind_worlds", .glo "done", .glo "is_integer", .glo "is_from_to", .glo "is_sequence", .glo "is_deed", .glo "made_tuples", .glo "gone_on", .glo "behind_core_told", .glo "message_of", .glo "is_within"]
def fa1 : List He.Fa := [.glo "story_of", .glo "need_story", .glo "are_checkpoints", .glo "are_processes", .glo "checked", .glo "allowed_of", .glo "greatest_allowed", .glo "line", .glo "floor_of", .glo "floor", .glo "droppable", .glo "open_messages", .glo "_law_so", .glo "_law_numbers", .glo "_law_draw", .glo "_law_net", .glo "_law_start", .glo "_law_loose", .glo "_law_can", .glo "_law_owner", .glo "_law_set", .glo "_law_done", .glo "_law_history", .glo "_law_at", .glo "_law_pick", .glo "_law_run", .glo "_law_points", .glo "_law_line", .glo "_law_wrong", .glo "law"]
def fa2 : List He.Fa := [.free "isinstance", .free "len", .free "all", .free "any", .free "tuple", .free "list", .free "int", .free "bool", .free "str", .free "enumerate", .free "zip", .free "range", .free "set", .free "sum", .free "max", .free "min", .free "sorted", .free "super", .glo "Net", .glo "Story", .glo "BadStep", .int "MOST_LETTERS" 6, .int "MOST_PROCESSES" 5, .int "MOST_STATES" 8, .int "MOST_CHANNELS" 8, .int "MOST_RULES" 40, .int "TOKENS" 10, .int "MOST_DEEDS" 60, .str "LETTERS" "abcdefghijklmnopqrstuvwxyz", .glo "KINDS"]
def fa3 : List He.Fa := [.glo "SORTS", .cls "Net", .mkr "Net", .cls "Story", .mkr "Story", .noat "Net" "processes", .noat "Net" "channels", .noat "Net" "rules", .noat "Story" "net", .noat "Story" "rows", .noat "Story" "run", .noat "Story" "whole", .noat "Story" "sent", .noat "Story" "ended", .noat "Story" "token", .noat "Story" "lost", .noat "Story" "clocks", .meth "Story" "look_at_messages", .meth "Story" "make_clocks", .meth "Story" "is_consistent"]
def fa : List He.Fa := fa0 ++ fa1 ++ fa2 ++ fa3
def nm0 : List Str := ["_wall", "CutError", "BadValue", "BadStep", "KINDS", "LETTERS", "MOST_LETTERS", "MOST_PROCESSES", "MOST_STATES", "MOST_CHANNELS", "MOST_RULES", "TOKENS", "is_whole", "is_below", "is_name", "is_process", "is_channel", "is_act", "is_rule", "_frozen", "_rows", "Net", "start", "is_lossy", "is_ordered", "as_deed", "owner_of", "owner", "open_messages_of", "can_do"]
def nm1 : List Str := ["_with_part", "_without_message", "behind", "behind_worlds", "done", "SORTS", "MOST_DEEDS", "is_integer", "is_from_to", "is_sequence", "is_deed", "made_tuples", "gone_on", "behind_core_told", "message_of", "Story", "is_within", "story_of", "need_story", "are_checkpoints", "are_processes", "checked", "allowed_of", "greatest_allowed", "line", "floor_of", "floor", "droppable", "open_messages", "_law_so"]
def nm2 : List Str := ["_law_numbers", "_law_draw", "_law_net", "_law_start", "_law_loose", "_law_can", "_law_owner", "_law_set", "_law_done", "_law_history", "_law_at", "_law_worlds", "_law_pick", "_law_run", "_law_points", "_law_line", "_law_wrong"]
def nms : List Str := nm0 ++ nm1 ++ nm2
def ts : List He.Tab := [((fun K => He.ga K "SORTS"), ["act", "take", "lose"])]
/-! the part of the heap, without lists -/
def isL (o : Obj) : Bool := match o.cls with
  | .type c => c == "list"
  | _ => false
def frL (g : Addr → Option Obj) (as : List Addr) : PySem.W.Frag := (He.frG g as).filter fun q => !isL q.2
theorem frL_mem {g : Addr → Option Obj} {as : List Addr} {a : Addr} {o : Obj} (h : (frL g as).lookup a = some o) : g a = some o ∧ isL o = false := by
  obtain ⟨h1, h2⟩ := List.mem_filter.mp (He.lookup_mem h)
  exact ⟨He.frG_mem h1, by simpa using h2⟩
def asY (g : Addr → Option Obj) : List Addr := He.asD g 4 ++ [cStatics]
def KY (g : Addr → Option Obj) : PySem.W.Frag := frL g (asY g)
/-! the error's class -/
def exC (K : PySem.W.Frag) (C : Addr) : Bool :=
  PySem.W.excInitIn K C exT "Exception.__new__" && (PySem.W.excOver K C exT && (He.eqO (PySem.W.findIn K (.ref C) "__init__") (some (some (.ref (He.ma K C "__init__")))) && (decide (PySem.W.typeIn K (.ref (He.ma K C "__init__")) = some (.type "function")) &&
  (He.eqO (PySem.W.findIn K (.ref C) "__setattr__") (some (some (.builtin "object.__setattr__"))) && (He.eqO (PySem.W.takerIn K C "at") (some none) && (PySem.W.hasDictIn K C && ((PySem.W.clsIn K C).isSome && (decide (PySem.W.mroIn K C (.ref C) = some true) &&
  (He.eqO (PySem.W.nsIn K cStatics "thirdparty.any") (some none) && (He.eqO (PySem.W.ks_superIn K C C "__init__") (some (some (.builtin "Exception.__init__"))) && (decide (PySem.W.subIn K (.ref C) (.type "Exception") = some true) && (decide (PySem.W.subIn K (.ref C) (.type "BaseException") = some true) &&
  (decide (PySem.W.typeIn K (.ref C) = some (.type "type")) && (PySem.W.keepIn K (.ref C) && decide (PySem.W.exmOne K (.ref C) (.ref C) = some true)))))))))))))))
def fileB (file : Str) (K : PySem.W.Frag) (c : Addr) : Bool := match K.lookup c with
  | some ⟨_, _, .fields vs, _⟩ => (match (vs[2]? : Option Value) with
    | some (.str z _) => file == z
    | _ => false)
  | _ => false
def cellB (K : PySem.W.Frag) (cc C : Addr) : Bool := match K.lookup cc with
  | some ⟨_, _, .cell (some (.ref b)), _⟩ => decide (b = C)
  | _ => false
def exF (file : Str) (K : PySem.W.Frag) (C fI : Addr) : Bool := match K.lookup fI with
  | some ⟨_, _, .func fd, _⟩ => (match fd.defaults, fd.code, fd.closure with
    | .none, .ref c, [(_, cc)] => PySem.W.codeIn K (.ref c) "BadStep.__init__" && (fileB file K c && cellB K cc C)
    | _, _, _ => false)
  | _ => false
abbrev InitT : Type := Option (Str × Str × Arguments × FuncBody × Scope × Addr × List Str × Addr)
def initO (K : PySem.W.Frag) (fI : Addr) : InitT := match K.lookup fI with
  | some ⟨_, _, .func fd, _⟩ => some (fd.name, fd.qualname, fd.params, fd.body, fd.scope, fd.globals, fd.closure.map (·.1), fd.builtins)
  | _ => none
def initV : InitT := some ("__init__", "BadStep.__init__", defArgs s_BadStep_init, .stmts (defBody s_BadStep_init), defScope s_BadStep_init, mainGlobals, ["__class__"], builtinsNs)
abbrev prg : Program := PySem.Challenge.pw_cutweave_k48_whole_what_was_dropped_is_n
def kinds4 : List He.Dv := [.str "order", .str "loose", .str "order lossy", .str "loose lossy"]
def sorts3 : List (Str × He.Dv) := [("act", .int 2), ("take", .int 3), ("lose", .int 3)]
def exB (K : PySem.W.Frag) : Bool := exC K (He.ga K "BadStep") && (exF prg.main.file K (He.ga K "BadStep") (He.ma K (He.ga K "BadStep") "__init__") && ((He.Fa.glo "BadStep").ok K && ((He.Fa.glo "KINDS").ok K && ((He.Fa.glo "SORTS").ok K && (He.tupB K "KINDS" kinds4 && He.valsB K (He.ga K "SORTS") sorts3)))))
abbrev AlY : Type := He.AlT × (InitT × Bool)
def SaysY (w : World) (K : PySem.W.Frag) : Prop := He.obsT fa fn ts K = He.valT fn ts w ∧ initO K (He.ma K (He.ga K "BadStep") "__init__") = initV ∧ exB K = true
def obsY (g : Addr → Option Obj) : AlY := (He.obsT fa fn ts (KY g), (initO (KY g) (He.ma (KY g) (He.ga (KY g) "BadStep") "__init__"), exB (KY g)))
def valY (w : World) : AlY := (He.valT fn ts w, (initV, true))
def NoL (K : PySem.W.Frag) : Prop := ∀ a o, K.lookup a = some o → isL o = false
theorem saysY_of {w : World} {h : Heap} (e : obsY h.get? = valY w) : ∃ K : PySem.W.Frag, K.In h ∧ NoL K ∧ SaysY w K := by
  unfold obsY valY at e
  obtain ⟨e1, e2⟩ := Prod.mk.inj e
  obtain ⟨e3, e4⟩ := Prod.mk.inj e2
  exact ⟨KY h.get?, fun _ _ z => (frL_mem z).1, fun _ _ z => (frL_mem z).2, e1, e3, e4⟩
def hookY : PySem.W.Hook where
  α := AlY
  obs := fun s => obsY s.heap.get?
  val := valY
  says := fun w h => ∃ K : PySem.W.Frag, K.In h ∧ NoL K ∧ SaysY w K
  of := fun _ _ e => saysY_of e
  keeps := fun _ _ _ ⟨K, hK, c⟩ k => ⟨K, PySem.W.Frag.In.keeps hK k, c⟩
theorem obsY_eq {g : Addr → Option Obj} {s : Shared} (h : ∀ a, g a = s.heap.get? a) : obsY g = hookY.obs s := by
  have e : g = s.heap.get? := funext h
  rw [e]
  rfl
abbrev R : PySem.W.OpenRow := PySem.W.OpenLaw.row PySem.Challenge.rw_cutweave_k48_whole_what_was_dropped_is_n
def ob (s : PySem.W.SharedT) : AlY := obsY (HandSHeadRun.getT s)
theorem ob_eq (s : PySem.W.SharedT) : ob s = hookY.obs s.abs := obsY_eq (HandSHeadRun.getT_eq s)
end Cw
set_option maxHeartbeats 0
namespace Cw
open PySem PySem.Spec PyProof.Rows L2
abbrev RE (w : World) : Prop := HandSHeadRun.RunEq R (PySem.W.view R.prog [85]) hookY ob 40000 nms w
theorem runF (w : World) : RE (w.withFollow "special-get-raises" false) := by
  intro os
  kernel_rfl
theorem runT (w : World) : RE (w.withFollow "special-get-raises" true) := by
  intro os
  kernel_rfl
theorem run (w : World) : RE w := PySem.W.byRow2 "special-get-raises" (P := RE) runF runT w
end Cw
set_option maxHeartbeats 4000000
namespace Cw
open PySem PySem.Spec PyProof.Rows L2
/-! ### closed data, and how values stand for it in a heap -/
inductive D where
  | non | bl (b : Bool) | int (i : Int) | str (s : Str)
  | tup (ds : List D) | lst (ds : List D)
  | obj (C : Addr) (ns : List Str) (ds : List D)
  | ty (n : String)
  | dic (ks : List (List Key)) (ds : List D)
  | rng (i j : Int)
def Ext (H H' : Hp) : Prop := ∀ a o, H a = some o → H' a = some o
theorem Ext.refl (H : Hp) : Ext H H := fun _ _ h => h
theorem Ext.trans {H H1 H2 : Hp} (a : Ext H H1) (b : Ext H1 H2) : Ext H H2 := fun x o h => b x o (a x o h)
theorem Ext.new {H : Hp} {p : Addr} {o : HO} (h : H p = none) : Ext H (upd H p o) := fun a u e => by
  rw [upd_ne (ne_of_none e h)]; exact e
theorem Ext.mut {H H' : Hp} {p : Addr} {o : HO} (e : Ext H H') (h : H p = none) : Ext H (upd H' p o) := fun a u ha => by
  rw [upd_ne (ne_of_none ha h)]; exact e a u ha
theorem Ext.back {H H' : Hp} {p : Addr} (e : Ext H H') (h : H' p = none) : H p = none := by
  cases h1 : H p with
  | none => rfl
  | some o => rw [e p o h1] at h; cases h
mutual
inductive Rep (S : Hp) : V → D → Prop
  | non : Rep S .non .non
  | bl (b : Bool) : Rep S (.bl b) (.bl b)
  | int (i : Int) : Rep S (.int i) (.int i)
  | str (z : Str) : Rep S (.str z) (.str z)
  | ty (n : String) : Rep S (.ty n) (.ty n)
  | tup {a : Addr} {xs : List V} {ds : List D} : S a = some (.tup xs) → Reps S xs ds → Rep S (.ref a) (.tup ds)
  | lst {a : Addr} {xs : List V} {ds : List D} : S a = some (.lst xs) → Reps S xs ds → Rep S (.ref a) (.lst ds)
  | obj {a C dx : Addr} {fs : List (Str × V)} {ds : List D} : S a = some (.ins C dx fs) → Reps S (fs.map (·.2)) ds → Rep S (.ref a) (.obj C (fs.map (·.1)) ds)
  | dic {a : Addr} {kvs : List (List Key × V)} {ds : List D} : S a = some (.dT kvs) → Reps S (kvs.map (·.2)) ds → Rep S (.ref a) (.dic (kvs.map (·.1)) ds)
  | rng {a : Addr} {i j : Int} : S a = some (.rng i j) → Rep S (.ref a) (.rng i j)
inductive Reps (S : Hp) : List V → List D → Prop
  | nil : Reps S [] []
  | cons {v : V} {d : D} {vs : List V} {ds : List D} : Rep S v d → Reps S vs ds → Reps S (v :: vs) (d :: ds)
end
mutual
theorem Rep.mono {S S' : Hp} (e : Ext S S') : ∀ {v : V} {d : D}, Rep S v d → Rep S' v d
  | _, _, .non => .non
  | _, _, .bl b => .bl b
  | _, _, .int i => .int i
  | _, _, .str z => .str z
  | _, _, .ty n => .ty n
  | _, _, .tup h r => .tup (e _ _ h) (Reps.mono e r)
  | _, _, .lst h r => .lst (e _ _ h) (Reps.mono e r)
  | _, _, .obj h r => .obj (e _ _ h) (Reps.mono e r)
  | _, _, .dic h r => .dic (e _ _ h) (Reps.mono e r)
  | _, _, .rng h => .rng (e _ _ h)
theorem Reps.mono {S S' : Hp} (e : Ext S S') : ∀ {vs : List V} {ds : List D}, Reps S vs ds → Reps S' vs ds
  | _, _, .nil => .nil
  | _, _, .cons h r => .cons (Rep.mono e h) (Reps.mono e r)
end
section
variable {S : Hp} {xs ys : List V} {ds es : List D} {v : V} {d : D}
theorem Reps.length (r : Reps S xs ds) : xs.length = ds.length := by
  induction ds generalizing xs with
  | nil => cases r; rfl
  | cons d ds ih => cases r with
    | cons _ r => simp [ih r]
theorem Reps.get (r : Reps S xs ds) {i : Nat} (h : ds[i]? = some d) : ∃ v, xs[i]? = some v ∧ Rep S v d := by
  induction ds generalizing xs i with
  | nil => simp at h
  | cons e ds ih => cases r with
    | cons a r => cases i with
      | zero => simp at h; subst h; exact ⟨_, rfl, a⟩
      | succ i => simpa using ih r (by simpa using h)
theorem Reps.getV (r : Reps S xs ds) {i : Nat} (h : xs[i]? = some v) : ∃ d, ds[i]? = some d ∧ Rep S v d := by
  induction ds generalizing xs i with
  | nil => cases r; simp at h
  | cons e ds ih => cases r with
    | cons a r => cases i with
      | zero => simp at h; subst h; exact ⟨_, rfl, a⟩
      | succ i => simpa using ih r (by simpa using h)
theorem Reps.append (r : Reps S xs ds) (q : Reps S ys es) : Reps S (xs ++ ys) (ds ++ es) := by
  induction ds generalizing xs with
  | nil => cases r; exact q
  | cons d ds ih => cases r with
    | cons a r => exact .cons a (ih r)
theorem Reps.set (r : Reps S xs ds) (q : Rep S v d) (i : Nat) : Reps S (xs.set i v) (ds.set i d) := by
  induction ds generalizing xs i with
  | nil => cases r; exact .nil
  | cons e ds ih => cases r with
    | cons a r => cases i with
      | zero => exact .cons q r
      | succ i => exact .cons a (ih r i)
theorem Reps.take (r : Reps S xs ds) (n : Nat) : Reps S (xs.take n) (ds.take n) := by
  induction ds generalizing xs n with
  | nil => cases r; simp; exact .nil
  | cons e ds ih => cases r with
    | cons a r => cases n with
      | zero => exact .nil
      | succ n => exact .cons a (ih r n)
theorem Reps.drop (r : Reps S xs ds) (n : Nat) : Reps S (xs.drop n) (ds.drop n) := by
  induction ds generalizing xs n with
  | nil => cases r; simp; exact .nil
  | cons e ds ih => cases r with
    | cons a r => cases n with
      | zero => exact .cons a r
      | succ n => exact ih r n
theorem Reps.one {d : D} {v : V} (h : Rep S v d) : Reps S [v] [d] := .cons h .nil
theorem Reps.dropLast (r : Reps S xs ds) : Reps S xs.dropLast ds.dropLast := by
  rw [List.dropLast_eq_take, List.dropLast_eq_take, r.length]; exact r.take _
theorem Reps.ints : ∀ {is : List Int} {xs : List V}, Reps S xs (is.map D.int) → xs = is.map V.int
  | [], _, .nil => rfl
  | _ :: _, _, .cons (.int i) r => by rw [Reps.ints r]; rfl
theorem Reps.bls : ∀ {is : List Bool} {xs : List V}, Reps S xs (is.map D.bl) → xs = is.map V.bl
  | [], _, .nil => rfl
  | _ :: _, _, .cons (.bl i) r => by rw [Reps.bls r]; rfl
theorem Reps.strs : ∀ {is : List Str} {xs : List V}, Reps S xs (is.map D.str) → xs = is.map V.str
  | [], _, .nil => rfl
  | _ :: _, _, .cons (.str i) r => by rw [Reps.strs r]; rfl
theorem Reps.of_ints (S : Hp) : ∀ (is : List Int), Reps S (is.map V.int) (is.map D.int)
  | [] => .nil
  | i :: is => .cons (.int i) (Reps.of_ints S is)
end
/-! ### what a slot holds, what stands at a handle -/
inductive E where
  | d (d : D) | at (k : Nat) | sub (k i : Nat) | raw (ns : List Int)
abbrev HA := Addr × List Addr
inductive MO where
  | lst (ds : List D) | lol (dss : List (List D)) | dic (ks : List (List Key)) (ds : List D) | ins (C : Addr) (fs : List (Str × E)) | gone
def ERep (S : Hp) (ps : List HA) (v : V) : E → Prop
  | .d d => Rep S v d
  | .at k => ∃ pa, ps[k]? = some pa ∧ v = .ref pa.1
  | .sub k i => ∃ pa a, ps[k]? = some pa ∧ pa.2[i]? = some a ∧ v = .ref a
  | .raw ns => ∃ a o, v = .ref a ∧ S a = some (.frz o (.lst (ns.map V.int)))
def FRep (S : Hp) (ps : List HA) : List (Str × V) → List (Str × E) → Prop
  | [], [] => True
  | (n, v) :: r, (m, e) :: q => n = m ∧ ERep S ps v e ∧ FRep S ps r q
  | _, _ => False
def MRep (S : Hp) (ps : List HA) (H : Hp) (pa : HA) : MO → Prop
  | .lst ds => pa.2 = [] ∧ ∃ xs, H pa.1 = some (.lst xs) ∧ Reps S xs ds
  | .lol dss => pa.2.length = dss.length ∧ H pa.1 = some (.lst (pa.2.map V.ref)) ∧ ∀ (i : Nat) (a : Addr) (ds : List D), pa.2[i]? = some a → dss[i]? = some ds → ∃ xs, H a = some (.lst xs) ∧ Reps S xs ds
  | .dic ks ds => pa.2 = [] ∧ ∃ kvs, H pa.1 = some (.dT kvs) ∧ kvs.map (·.1) = ks ∧ Reps S (kvs.map (·.2)) ds
  | .ins C fs => pa.2 = [] ∧ ∃ dx fv, H pa.1 = some (.ins C dx fv) ∧ FRep S ps fv fs
  | .gone => True
/-- the addresses of the live handles -/
def Lv (ps : List HA) (mu : List MO) (b : Addr) : Prop := ∃ (k : Nat) (pa : HA) (o : MO), ps[k]? = some pa ∧ mu[k]? = some o ∧ o ≠ .gone ∧ (b = pa.1 ∨ b ∈ pa.2)
structure Fr where
  H0 : Hp
  M : Addr → Prop
open Classical in
noncomputable def hid (M : Addr → Prop) (H : Hp) : Hp := fun b => if M b then none else H b
noncomputable def stab (F : Fr) (ps : List HA) (mu : List MO) (H : Hp) : Hp := hid (fun b => F.M b ∨ Lv ps mu b) H
/-- not a tuple -/
def NT (o : HO) : Prop := ∀ xs, o ≠ .tup xs
structure Sat (F : Fr) (ps : List HA) (env : List (Option E)) (mu : List MO) (σ : L2.St) (H : Hp) : Prop where
  ex : Ext F.H0 H
  m0 : ∀ b, F.M b → ∃ o, F.H0 b = some o ∧ NT o
  fr : ∀ b, Lv ps mu b → F.H0 b = none
  nd : (ps.flatMap fun pa => pa.1 :: pa.2).Nodup
  len : ps.length = mu.length
  tr : ∀ b ∈ ps.flatMap (fun pa => pa.1 :: pa.2), ∃ o, H b = some o
  mr : ∀ (k : Nat) (pa : HA) (o : MO), ps[k]? = some pa → mu[k]? = some o → MRep (stab F ps mu H) ps H pa o
  ln : env.length = σ.length
  en : ∀ (i : Nat) (ε : E), env[i]? = some (some ε) → ∃ v, σ[i]? = some (some v) ∧ ERep (stab F ps mu H) ps v ε
section
variable {F : Fr} {ps : List HA} {mu : List MO} {env : List (Option E)} {σ : L2.St} {H H' : Hp}
theorem stab_some {b : Addr} {o : HO} (h : stab F ps mu H b = some o) : ¬ F.M b ∧ ¬ Lv ps mu b ∧ H b = some o := by
  unfold stab hid at h
  split at h
  · cases h
  · rename_i q
    exact ⟨fun z => q (.inl z), fun z => q (.inr z), h⟩
theorem stab_of {b : Addr} (h1 : ¬ F.M b) (h2 : ¬ Lv ps mu b) : stab F ps mu H b = H b := by
  unfold stab hid
  rw [if_neg (fun z => z.elim h1 h2)]
theorem stab_le : Ext (stab F ps mu H) H := fun _ _ h => (stab_some h).2.2
theorem stab_mono (e : Ext H H') : Ext (stab F ps mu H) (stab F ps mu H') := fun a o h => by
  obtain ⟨h1, h2, h3⟩ := stab_some h
  rw [stab_of h1 h2]; exact e _ _ h3
theorem ERep.mono {S S' : Hp} {v : V} (e : Ext S S') : ∀ {ε : E}, ERep S ps v ε → ERep S' ps v ε
  | .d _, h => Rep.mono e h
  | .at _, h => h
  | .sub _ _, h => h
  | .raw _, ⟨a, o, h1, h2⟩ => ⟨a, o, h1, e _ _ h2⟩
theorem FRep.mono {S S' : Hp} (e : Ext S S') : ∀ {fv : List (Str × V)} {fs : List (Str × E)}, FRep S ps fv fs → FRep S' ps fv fs
  | [], [], _ => trivial
  | (_, _) :: _, (_, _) :: _, h => ⟨h.1, h.2.1.mono e, FRep.mono e h.2.2⟩
  | [], _ :: _, h => h.elim
  | _ :: _, [], h => h.elim
theorem MRep.mono {S S' : Hp} {pa : HA} (e : Ext S S') (eH : Ext H H') : ∀ {o : MO}, MRep S ps H pa o → MRep S' ps H' pa o
  | .lst _, ⟨h1, xs, h2, h3⟩ => ⟨h1, xs, eH _ _ h2, h3.mono e⟩
  | .lol _, ⟨h1, h2, h3⟩ => ⟨h1, eH _ _ h2, fun i a ds p q => by
      obtain ⟨xs, a1, a2⟩ := h3 i a ds p q
      exact ⟨xs, eH _ _ a1, a2.mono e⟩⟩
  | .dic _ _, ⟨h1, kvs, h2, h3, h4⟩ => ⟨h1, kvs, eH _ _ h2, h3, h4.mono e⟩
  | .ins _ _, ⟨h1, dx, fv, h2, h3⟩ => ⟨h1, dx, fv, eH _ _ h2, h3.mono e⟩
  | .gone, _ => trivial
theorem Sat.mono (I : Sat F ps env mu σ H) (e : Ext H H') : Sat F ps env mu σ H' where
  ex := I.ex.trans e
  m0 := I.m0
  fr := I.fr
  nd := I.nd
  len := I.len
  tr := fun b h => (I.tr b h).imp fun o q => e _ _ q
  mr := fun k pa o a b => (I.mr k pa o a b).mono (stab_mono e) e
  ln := I.ln
  en := fun i ε h => by
    obtain ⟨v, a, b⟩ := I.en i ε h
    exact ⟨v, a, b.mono (stab_mono e)⟩
theorem Lv.mem {b : Addr} (h : Lv ps mu b) : b ∈ ps.flatMap (fun pa => pa.1 :: pa.2) := by
  obtain ⟨k, pa, o, h1, h2, h3, h4⟩ := h
  refine List.mem_flatMap.mpr ⟨pa, List.mem_of_getElem? h1, ?_⟩
  rcases h4 with h4 | h4
  · rw [h4]; exact List.mem_cons_self
  · exact List.mem_cons_of_mem _ h4
theorem Sat.tracked (I : Sat F ps env mu σ H) {b : Addr} (h : Lv ps mu b) : ∃ o, H b = some o := I.tr b h.mem
/-- a new address is stable -/
theorem Sat.fresh (I : Sat F ps env mu σ H) {p : Addr} (h : H p = none) : ¬ F.M p ∧ ¬ Lv ps mu p := by
  refine ⟨fun z => ?_, fun z => ?_⟩
  · obtain ⟨o, q, _⟩ := I.m0 p z
    rw [I.ex _ _ q] at h; cases h
  · obtain ⟨o, q⟩ := I.tracked z
    rw [q] at h; cases h
/-- .. with one more address hidden -/
noncomputable def stabN (F : Fr) (ps : List HA) (mu : List MO) (L : List Addr) (H : Hp) : Hp := hid (fun b => (F.M b ∨ Lv ps mu b) ∨ b ∈ L) H
theorem stabN_some {L : List Addr} {b : Addr} {o : HO} (h : stabN F ps mu L H b = some o) : ¬ (F.M b ∨ Lv ps mu b) ∧ b ∉ L ∧ H b = some o := by
  unfold stabN hid at h
  split at h
  · cases h
  · rename_i q
    exact ⟨fun z => q (.inl z), fun z => q (.inr z), h⟩
theorem stabN_of {L : List Addr} {b : Addr} (h1 : ¬ (F.M b ∨ Lv ps mu b)) (h2 : b ∉ L) : stabN F ps mu L H b = H b := by
  unfold stabN hid
  rw [if_neg (fun z => z.elim h1 h2)]
theorem stabN_le {L : List Addr} : Ext (stabN F ps mu L H) (stab F ps mu H) := fun a o h => by
  obtain ⟨h1, h2, h3⟩ := stabN_some h
  rw [stab_of (fun z => h1 (.inl z)) (fun z => h1 (.inr z))]; exact h3
theorem stabN_new {L : List Addr} (h : ∀ p ∈ L, H p = none) (e : Ext H H') : Ext (stab F ps mu H) (stabN F ps mu L H') := fun a o z => by
  obtain ⟨h1, h2, h3⟩ := stab_some z
  rw [stabN_of (fun y => y.elim h1 h2) (fun y => by rw [h a y] at h3; cases h3)]; exact e _ _ h3
theorem stabN_new1 {p : Addr} (h : H p = none) (e : Ext H H') : Ext (stab F ps mu H) (stabN F ps mu [p] H') := stabN_new (fun q hq => by rw [List.mem_singleton.mp hq]; exact h) e
theorem Sat.new (I : Sat F ps env mu σ H) {p : Addr} {o : HO} (h : H p = none) : stab F ps mu (upd H p o) p = some o := by
  obtain ⟨h1, h2⟩ := I.fresh h
  rw [stab_of h1 h2, upd_same]
end
/-! ### the universal readings -/
def wE (X : Cx) (e : Expr) : TE := fun σ H Q => ∃ t, PE X e t ∧ t σ H Q
def wT (X : Cx) (e : Expr) : TT := fun σ H Q => ∃ t, PT X e t ∧ t σ H Q
def wW (X : Cx) (e : Expr) : TT := fun σ H Q => ∃ t, PW X e t ∧ t σ H Q
def wA (X : Cx) (es : List Expr) : TA := fun σ H Q => ∃ t, PA X es t ∧ t σ H Q
def wS (X : Cx) (s : Stmt) : TS := fun D σ H => ∃ t, PS X s t ∧ t D σ H
def wSs (X : Cx) (s : List Stmt) : TS := fun D σ H => ∃ t, PSs X s t ∧ t D σ H
def wI (X : Cx) (tg it : Expr) : TI := fun σ H R => ∃ t, PI X tg it t ∧ t σ H R
def wG (X : Cx) (tg : Expr) : TG := fun v σ H Q => ∃ t, PG X tg t ∧ t v σ H Q
section
variable {X : Cx} {e tg it : Expr} {es : List Expr} {s : Stmt} {ss : List Stmt}
theorem pE : PE X e (wE X e) := ⟨fun pins s σ H Q I ⟨t, h, q⟩ => h.run pins s σ H Q I q⟩
theorem pT : PT X e (wT X e) := ⟨fun pins s σ H Q I ⟨t, h, q⟩ => h.run pins s σ H Q I q⟩
theorem pW : PW X e (wW X e) := ⟨fun wh pins s σ H Q I ⟨t, h, q⟩ => h.run wh pins s σ H Q I q⟩
theorem pA : PA X es (wA X es) := ⟨fun pos pins s σ H Q I ⟨t, h, q⟩ => h.run pos pins s σ H Q I q⟩
theorem pS : PS X s (wS X s) := ⟨fun pins st σ H D I ⟨t, h, q⟩ => h.run pins st σ H D I q⟩
theorem pSs : PSs X ss (wSs X ss) := ⟨fun pins st σ H D I ⟨t, h, q⟩ => h.run pins st σ H D I q⟩
theorem pI : PI X tg it (wI X tg it) := ⟨fun pins s σ H R I ⟨t, h, q⟩ => h.run pins s σ H R I q⟩
theorem pG : PG X tg (wG X tg) := ⟨fun pins s σ H x v Q I r ⟨t, h, q⟩ => h.run pins s σ H x v Q I r q⟩
end
/-! ### the judgements over data -/
/-- e evaluates to ε -/
def Ev (X : Cx) (e : Expr) (env : List (Option E)) (mu : List MO) (ε : E) : Prop := ∀ F ps σ H Q, Sat F ps env mu σ H → (∀ v H', Ext H H' → ERep (stab F ps mu H') ps v ε → Q v H') → wE X e σ H Q
/-- e evaluates to a new list of these -/
def EvN (X : Cx) (e : Expr) (env : List (Option E)) (mu : List MO) (ds : List D) : Prop := ∀ F ps σ H Q, Sat F ps env mu σ H →
  (∀ p xs H', H p = none → Ext H H' → H' p = some (.lst xs) → Reps (stabN F ps mu [p] H') xs ds → Q (.ref p) H') → wE X e σ H Q
/-- e, as a test, is b -/
def EvT (X : Cx) (e : Expr) (env : List (Option E)) (mu : List MO) (b : Bool) : Prop := ∀ F ps σ H Q, Sat F ps env mu σ H → (∀ H', Ext H H' → Q b H') → wT X e σ H Q
def EvW (X : Cx) (e : Expr) (env : List (Option E)) (mu : List MO) (b : Bool) : Prop := ∀ F ps σ H Q, Sat F ps env mu σ H → (∀ H', Ext H H' → Q b H') → wW X e σ H Q
/-- arguments -/
def EReps (S : Hp) (ps : List HA) : List V → List E → Prop
  | [], [] => True
  | v :: vs, e :: es => ERep S ps v e ∧ EReps S ps vs es
  | _, _ => False
theorem EReps.mono {S S' : Hp} {ps : List HA} (e : Ext S S') : ∀ {vs : List V} {es : List E}, EReps S ps vs es → EReps S' ps vs es
  | [], [], _ => trivial
  | _ :: _, _ :: _, h => ⟨h.1.mono e, EReps.mono e h.2⟩
  | [], _ :: _, h => h.elim
  | _ :: _, [], h => h.elim
def EvA (X : Cx) (es : List Expr) (env : List (Option E)) (mu : List MO) (εs : List E) : Prop := ∀ F ps σ H Q, Sat F ps env mu σ H → (∀ vs H', Ext H H' → EReps (stab F ps mu H') ps vs εs → Q vs H') → wA X es σ H Q
section
variable {X : Cx} {env : List (Option E)} {mu : List MO} {a b c e : Expr} {ε : E} {pos : Pos} {d : D} {ds : List D}
theorem EvN.ev (h : EvN X e env mu ds) : Ev X e env mu (.d (.lst ds)) := fun F ps σ H Q I k => h F ps σ H Q I fun p xs H' hp ex hx hr => k _ _ ex (by
  obtain ⟨h1, h2⟩ := I.fresh hp
  exact .lst (by rw [stab_of h1 h2]; exact hx) (hr.mono stabN_le))
theorem ev_var (i : Nat) {x : Str} (hN : X.N[i]? = some x) (hv : Vis X.env.scope x) (h : env[i]? = some (some ε)) (hd : (x == ("__debug__" : Str)) = false := by decide) (hcd : (x == ("__classdict__" : Str)) = false := by decide) : Ev X (.Name x pos) env mu ε := fun F ps σ H Q I k => by
  obtain ⟨v, h1, h2⟩ := I.en i ε h
  exact ⟨_, pe_var hN hv hd hcd, v, h1, k v H (Ext.refl H) h2⟩
theorem ev_int {i : Int} {j} : Ev X (.Constant (.int i) j pos) env mu (.d (.int i)) := fun F ps σ H Q I k => ⟨_, pe_int, k _ H (Ext.refl H) (.int i)⟩
theorem ev_str {z : Str} {j} : Ev X (.Constant (.str z) j pos) env mu (.d (.str z)) := fun F ps σ H Q I k => ⟨_, pe_str, k _ H (Ext.refl H) (.str z)⟩
theorem ev_bl {z : Bool} {j} : Ev X (.Constant (.bool z) j pos) env mu (.d (.bl z)) := fun F ps σ H Q I k => ⟨_, pe_bl, k _ H (Ext.refl H) (.bl z)⟩
theorem ev_non {j} : Ev X (.Constant .none j pos) env mu (.d .non) := fun F ps σ H Q I k => ⟨_, pe_non, k _ H (Ext.refl H) .non⟩
/-- two operands, an operator by its rule -/
theorem ev_op {op : Operator} {r : R2} {ε1 ε2 : E} (ho : OpR X (binaryOp op) r) (ha : Ev X a env mu ε1) (hb : Ev X b env mu ε2)
    (h : ∀ F ps σ H v w Q, Sat F ps env mu σ H → ERep (stab F ps mu H) ps v ε1 → ERep (stab F ps mu H) ps w ε2 → (∀ z H', Ext H H' → ERep (stab F ps mu H') ps z ε → Q z H') → r v w H Q) : Ev X (.BinOp a op b pos) env mu ε := fun F ps σ H Q I k =>
  ⟨_, pe_op ho pE pE, ha F ps σ H _ I fun v H1 e1 r1 => hb F ps σ H1 _ (I.mono e1) fun w H2 e2 r2 => h F ps σ H2 v w Q ((I.mono e1).mono e2) (r1.mono (stab_mono e2)) r2 fun z H3 e3 r3 => k z H3 ((e1.trans e2).trans e3) r3⟩
theorem ev_cmp {op : CmpOp} {r : R2} {ε1 ε2 : E} (ho : OpR X (compareOp op) r) (hm : behindInMarks op b = false) (ha : Ev X a env mu ε1) (hb : Ev X b env mu ε2)
    (h : ∀ F ps σ H v w Q, Sat F ps env mu σ H → ERep (stab F ps mu H) ps v ε1 → ERep (stab F ps mu H) ps w ε2 → (∀ z H', Ext H H' → ERep (stab F ps mu H') ps z ε → Q z H') → r v w H Q) : Ev X (.Compare a [op] [b] pos) env mu ε := fun F ps σ H Q I k =>
  ⟨_, pe_cmpR ho pE pE hm, ha F ps σ H _ I fun v H1 e1 r1 => hb F ps σ H1 _ (I.mono e1) fun w H2 e2 r2 => h F ps σ H2 v w Q ((I.mono e1).mono e2) (r1.mono (stab_mono e2)) r2 fun z H3 e3 r3 => k z H3 ((e1.trans e2).trans e3) r3⟩
end
end Cw
namespace Cw
open PySem PySem.Spec PyProof.Rows L2
section
variable {S : Hp} {v : V}
theorem Rep.int_eq {i : Int} (r : Rep S v (.int i)) : v = .int i := by cases r; rfl
theorem Rep.str_eq {z : Str} (r : Rep S v (.str z)) : v = .str z := by cases r; rfl
theorem Rep.bl_eq {b : Bool} (r : Rep S v (.bl b)) : v = .bl b := by cases r; rfl
theorem Rep.non_eq (r : Rep S v .non) : v = .non := by cases r; rfl
theorem Rep.tup_eq {ds : List D} (r : Rep S v (.tup ds)) : ∃ a xs, v = .ref a ∧ S a = some (.tup xs) ∧ Reps S xs ds := by cases r; exact ⟨_, _, rfl, by assumption, by assumption⟩
theorem Rep.lst_eq {ds : List D} (r : Rep S v (.lst ds)) : ∃ a xs, v = .ref a ∧ S a = some (.lst xs) ∧ Reps S xs ds := by cases r; exact ⟨_, _, rfl, by assumption, by assumption⟩
end
/-- what a reader sees of a sequence: (a tuple?, its members) -/
def seqE (mu : List MO) : E → Option (Bool × List D)
  | .d (.tup ds) => some (true, ds)
  | .d (.lst ds) => some (false, ds)
  | .at k => (match mu[k]? with
    | some (.lst ds) => some (false, ds)
    | _ => none)
  | .sub k i => (match mu[k]? with
    | some (.lol dss) => dss[i]?.map fun ds => (false, ds)
    | _ => none)
  | _ => none
def hoOf (t : Bool) (xs : List V) : HO := if t then .tup xs else .lst xs
section
variable {F : Fr} {ps : List HA} {mu : List MO} {env : List (Option E)} {σ : L2.St} {H H' : Hp}
theorem seqE_rep (I : Sat F ps env mu σ H) {v : V} {ε : E} {t : Bool} {ds : List D} (r : ERep (stab F ps mu H) ps v ε) (h : seqE mu ε = some (t, ds)) :
    ∃ a xs, v = .ref a ∧ H a = some (hoOf t xs) ∧ Reps (stab F ps mu H) xs ds := by
  cases ε with
  | d d =>
    cases d with
    | tup es =>
      cases h
      obtain ⟨a, xs, e1, e2, e3⟩ := Rep.tup_eq r
      exact ⟨a, xs, e1, stab_le _ _ e2, e3⟩
    | lst es =>
      cases h
      obtain ⟨a, xs, e1, e2, e3⟩ := Rep.lst_eq r
      exact ⟨a, xs, e1, stab_le _ _ e2, e3⟩
    | _ => cases h
  | «at» k =>
    obtain ⟨pa, e1, e2⟩ := r
    have h' : (match mu[k]? with
      | some (.lst ds) => some (false, ds)
      | _ => none) = some (t, ds) := h
    split at h'
    · rename_i es q
      cases h'
      obtain ⟨_, xs, h1, h2⟩ := I.mr k pa _ e1 q
      exact ⟨pa.1, xs, e2, h1, h2⟩
    · cases h'
  | sub k i =>
    obtain ⟨pa, a, e1, e2, e3⟩ := r
    have h : (match mu[k]? with
      | some (.lol dss) => dss[i]?.map fun ds => (false, ds)
      | _ => none) = some (t, ds) := h
    split at h
    · rename_i dss q
      obtain ⟨_, _, z⟩ := I.mr k pa _ e1 q
      cases q2 : dss[i]? with
      | none => rw [q2] at h; cases h
      | some es =>
        rw [q2] at h
        cases h
        obtain ⟨xs, h1, h2⟩ := z i a _ e2 q2
        exact ⟨a, xs, e3, h1, h2⟩
    · cases h
  | raw ns => cases h
theorem seq_any {K : PySem.W.Frag} {a : Addr} {t : Bool} {xs : List V} (h : H a = some (hoOf t xs)) : SqL K H a xs ∨ SqT K H a xs := by
  cases t with
  | true => exact .inr (SqT.of h)
  | false => exact .inl (SqL.of h)
theorem seq_t {K : PySem.W.Frag} {a : Addr} {xs : List V} (h : H a = some (hoOf true xs)) : SqT K H a xs := SqT.of h
theorem seq_l {K : PySem.W.Frag} {a : Addr} {xs : List V} (h : H a = some (hoOf false xs)) : SqL K H a xs := SqL.of h
theorem Sat.repTup (I : Sat F ps env mu σ H) {p : Addr} {xs : List V} {ds : List D} (h : H p = none) (r : Reps (stab F ps mu H) xs ds) : Rep (stab F ps mu (upd H p (.tup xs))) (.ref p) (.tup ds) :=
  .tup (I.new h) (r.mono (stab_mono (Ext.new h)))
theorem Sat.repLst (I : Sat F ps env mu σ H) {p : Addr} {xs : List V} {ds : List D} (h : H p = none) (r : Reps (stab F ps mu H) xs ds) : Rep (stab F ps mu (upd H p (.lst xs))) (.ref p) (.lst ds) :=
  .lst (I.new h) (r.mono (stab_mono (Ext.new h)))
end
/-! ### arithmetic -/
section
variable {X : Cx} {env : List (Option E)} {mu : List MO} {a b c e : Expr} {ε : E} {pos : Pos} {d : D} {ds : List D} {i j : Int}
theorem ev_is {ε' : E} (h : Ev X e env mu ε) (q : ε = ε') : Ev X e env mu ε' := q ▸ h
theorem ev_I0 {op : Operator} {f : Int → Int → Int} (ho : OpR X (binaryOp op) (rI0 fun i j => .int (f i j))) (ha : Ev X a env mu (.d (.int i))) (hb : Ev X b env mu (.d (.int j))) : Ev X (.BinOp a op b pos) env mu (.d (.int (f i j))) :=
  ev_op ho ha hb fun F ps σ H v w Q I rv rw k => ⟨i, j, Rep.int_eq rv, Rep.int_eq rw, k _ H (Ext.refl H) (.int _)⟩
theorem ev_add (ha : Ev X a env mu (.d (.int i))) (hb : Ev X b env mu (.d (.int j))) : Ev X (.BinOp a .Add b pos) env mu (.d (.int (i + j))) := ev_I0 op_add ha hb
theorem ev_subI (ha : Ev X a env mu (.d (.int i))) (hb : Ev X b env mu (.d (.int j))) : Ev X (.BinOp a .Sub b pos) env mu (.d (.int (i - j))) := ev_I0 op_sub ha hb
theorem ev_mul (ha : Ev X a env mu (.d (.int i))) (hb : Ev X b env mu (.d (.int j))) (hc : CMul i j) : Ev X (.BinOp a .Mult b pos) env mu (.d (.int (i * j))) :=
  ev_op op_mul ha hb fun F ps σ H v w Q I rv rw k => ⟨i, j, Rep.int_eq rv, Rep.int_eq rw, hc, k _ H (Ext.refl H) (.int _)⟩
theorem ev_mod (ha : Ev X a env mu (.d (.int i))) (hb : Ev X b env mu (.d (.int j))) (hc : 0 < j) : Ev X (.BinOp a .Mod b pos) env mu (.d (.int (i % j))) :=
  ev_op op_mod ha hb fun F ps σ H v w Q I rv rw k => ⟨i, j, Rep.int_eq rv, Rep.int_eq rw, hc, k _ H (Ext.refl H) (.int _)⟩
theorem ev_fdiv (ha : Ev X a env mu (.d (.int i))) (hb : Ev X b env mu (.d (.int j))) (hc : CDiv i j) : Ev X (.BinOp a .FloorDiv b pos) env mu (.d (.int (i / j))) :=
  ev_op op_fdiv ha hb fun F ps σ H v w Q I rv rw k => ⟨i, j, Rep.int_eq rv, Rep.int_eq rw, hc, k _ H (Ext.refl H) (.int _)⟩
theorem ev_pow (ha : Ev X a env mu (.d (.int i))) (hb : Ev X b env mu (.d (.int j))) (hc : CPow i j) : Ev X (.BinOp a .Pow b pos) env mu (.d (.int (i ^ j.toNat))) :=
  ev_op op_pow ha hb fun F ps σ H v w Q I rv rw k => ⟨i, j, Rep.int_eq rv, Rep.int_eq rw, hc, k _ H (Ext.refl H) (.int _)⟩
theorem ev_addS {x y : Str} (ha : Ev X a env mu (.d (.str x))) (hb : Ev X b env mu (.d (.str y))) (hc : x.length + y.length ≤ sizeLine) : Ev X (.BinOp a .Add b pos) env mu (.d (.str (x ++ y))) :=
  ev_op op_add_str ha hb fun F ps σ H v w Q I rv rw k => ⟨x, y, Rep.str_eq rv, Rep.str_eq rw, hc, k _ H (Ext.refl H) (.str _)⟩
/-- list + list: a new list -/
theorem ev_cat {ε1 ε2 : E} {xs ys : List D} (ha : Ev X a env mu ε1) (hb : Ev X b env mu ε2) (h1 : seqE mu ε1 = some (false, xs)) (h2 : seqE mu ε2 = some (false, ys)) (hl : xs.length + ys.length ≤ sizeLine) : EvN X (.BinOp a .Add b pos) env mu (xs ++ ys) := fun F ps σ H Q I k =>
  ⟨_, pe_op op_cat pE pE, ha F ps σ H _ I fun v H1 e1 r1 => hb F ps σ H1 _ (I.mono e1) fun w H2 e2 r2 => by
    have I2 := (I.mono e1).mono e2
    obtain ⟨p, us, rfl, g1, q1⟩ := seqE_rep I2 (r1.mono (stab_mono e2)) h1
    obtain ⟨p', ws, rfl, g2, q2⟩ := seqE_rep I2 r2 h2
    refine ⟨p, p', us, ws, rfl, rfl, g1, g2, by rw [q1.length, q2.length]; exact hl, fun l hl => ?_⟩
    exact k l _ _ ((e1.trans e2).back hl) ((e1.trans e2).trans (Ext.new hl)) upd_same ((q1.append q2).mono (stabN_new1 hl (Ext.new hl)))⟩
/-- tuple + tuple -/
theorem ev_catT {ε1 ε2 : E} {xs ys : List D} (ha : Ev X a env mu (.d (.tup xs))) (hb : Ev X b env mu (.d (.tup ys))) (hl : xs.length + ys.length ≤ sizeLine) : Ev X (.BinOp a .Add b pos) env mu (.d (.tup (xs ++ ys))) :=
  ev_op op_catA ha hb fun F ps σ H v w Q I rv rw k => by
    obtain ⟨p, us, rfl, g1, q1⟩ := Rep.tup_eq rv
    obtain ⟨p', ws, rfl, g2, q2⟩ := Rep.tup_eq rw
    refine ⟨p, p', us, ws, rfl, rfl, SqT.of (stab_le _ _ g1), SqT.of (stab_le _ _ g2), by rw [q1.length, q2.length]; exact hl, ?_⟩
    have nil : ∀ {xs : List V} {ds : List D}, Reps (stab F ps mu H) xs ds → xs = [] → ds = [] := fun r e => by subst e; cases r; rfl
    refine ⟨fun z => k _ H (Ext.refl H) (.tup g2 (by rw [nil q1 z]; exact q2)), fun _ z => k _ H (Ext.refl H) (.tup g1 (by rw [nil q2 z, List.append_nil]; exact q1)), fun _ _ p hp => k _ _ (Ext.new hp) (I.repTup hp (q1.append q2))⟩
end
end Cw
namespace Cw
open PySem PySem.Spec PyProof.Rows L2
/-! ### comparisons -/
/-- the comparison op of such operands is r -/
def CmpOk (X : Cx) (op : CmpOp) (mu : List MO) (ε1 ε2 : E) (r : Bool) : Prop := ∃ r2 : R2, OpR X (compareOp op) r2 ∧
  ∀ F ps env σ H v w Q, Sat F ps env mu σ H → ERep (stab F ps mu H) ps v ε1 → ERep (stab F ps mu H) ps w ε2 → (∀ H', Ext H H' → Q (.bl r) H') → r2 v w H Q
section
variable {X : Cx} {env : List (Option E)} {mu : List MO} {a b c e : Expr} {ε ε1 ε2 ε3 : E} {pos : Pos} {d : D} {ds : List D} {i j : Int} {r r' : Bool} {op op' : CmpOp} {rest : List Expr} {x y : Bool}
theorem ev_cmpB (h : CmpOk X op mu ε1 ε2 r) (ha : Ev X a env mu ε1) (hb : Ev X b env mu ε2) (hm : behindInMarks op b = false) : Ev X (.Compare a [op] [b] pos) env mu (.d (.bl r)) := by
  obtain ⟨r2, ho, h⟩ := h
  exact ev_cmp ho hm ha hb fun F ps σ H v w Q I rv rw k => h F ps env σ H v w Q I rv rw fun H' e => k _ H' e (.bl r)
theorem et_cmp (h : CmpOk X op mu ε1 ε2 r) (ha : Ev X a env mu ε1) (hb : Ev X b env mu ε2) (hm : behindInMarks op b = false) : EvT X (.Compare a [op] [b] pos) env mu r := by
  obtain ⟨r2, ho, h⟩ := h
  exact fun F ps σ H Q I k => ⟨_, pt_cmpR ho pE pE hm, ha F ps σ H _ I fun v H1 e1 r1 => hb F ps σ H1 _ (I.mono e1) fun w H2 e2 r2 =>
    h F ps env σ H2 v w _ ((I.mono e1).mono e2) (r1.mono (stab_mono e2)) r2 fun H3 e3 => ⟨r, rfl, k H3 ((e1.trans e2).trans e3)⟩⟩
theorem ev_chain (h : CmpOk X op mu ε1 ε2 r) (h' : CmpOk X op' mu ε2 ε3 r') (ha : Ev X a env mu ε1) (hb : Ev X b env mu ε2) (hc : Ev X c env mu ε3) (hm : lastMarks [op, op'] [b, c] = false) : Ev X (.Compare a [op, op'] [b, c] pos) env mu (.d (.bl (r && r'))) := by
  obtain ⟨r2, ho, h⟩ := h
  obtain ⟨r2', ho', h'⟩ := h'
  refine fun F ps σ H Q I k => ⟨_, pe_chain ho ho' pE pE pE hm, ha F ps σ H _ I fun v H1 e1 r1 => hb F ps σ H1 _ (I.mono e1) fun w H2 e2 r2 =>
    h F ps env σ H2 v w _ ((I.mono e1).mono e2) (r1.mono (stab_mono e2)) r2 fun H3 e3 => ⟨r, rfl, ?_⟩⟩
  cases r with
  | false => exact k _ H3 ((e1.trans e2).trans e3) (.bl _)
  | true =>
    have I3 := ((I.mono e1).mono e2).mono e3
    exact hc F ps σ H3 _ I3 fun u H4 e4 r4 => h' F ps env σ H4 w u _ (I3.mono e4) (r2.mono (stab_mono (e3.trans e4))) r4 fun H5 e5 => k _ H5 ((((e1.trans e2).trans e3).trans e4).trans e5) (.bl _)
theorem et_chain (h : CmpOk X op mu ε1 ε2 r) (h' : CmpOk X op' mu ε2 ε3 r') (ha : Ev X a env mu ε1) (hb : Ev X b env mu ε2) (hc : Ev X c env mu ε3) (hm : lastMarks [op, op'] [b, c] = false) : EvT X (.Compare a [op, op'] [b, c] pos) env mu (r && r') := by
  obtain ⟨r2, ho, h⟩ := h
  obtain ⟨r2', ho', h'⟩ := h'
  refine fun F ps σ H Q I k => ⟨_, pt_chain ho ho' pE pE pE hm, ha F ps σ H _ I fun v H1 e1 r1 => hb F ps σ H1 _ (I.mono e1) fun w H2 e2 r2 =>
    h F ps env σ H2 v w _ ((I.mono e1).mono e2) (r1.mono (stab_mono e2)) r2 fun H3 e3 => ⟨r, rfl, ?_⟩⟩
  cases r with
  | false => exact ⟨_, rfl, k H3 ((e1.trans e2).trans e3)⟩
  | true =>
    have I3 := ((I.mono e1).mono e2).mono e3
    exact hc F ps σ H3 _ I3 fun u H4 e4 r4 => h' F ps env σ H4 w u _ (I3.mono e4) (r2.mono (stab_mono (e3.trans e4))) r4 fun H5 e5 => ⟨_, rfl, k H5 ((((e1.trans e2).trans e3).trans e4).trans e5)⟩
theorem CmpOk.is {r' : Bool} (h : CmpOk X op mu ε1 ε2 r) (e : r = r') : CmpOk X op mu ε1 ε2 r' := e ▸ h
theorem cmp_I {p : Int → Int → Bool} (ho : OpR X (compareOp op) (rI0 fun i j => .bl (p i j))) : CmpOk X op mu (.d (.int i)) (.d (.int j)) (p i j) :=
  ⟨_, ho, fun F ps env σ H v w Q I rv rw k => ⟨i, j, Rep.int_eq rv, Rep.int_eq rw, k H (Ext.refl H)⟩⟩
theorem cmp_lt : CmpOk X .Lt mu (.d (.int i)) (.d (.int j)) (decide (i < j)) := cmp_I op_lt
theorem cmp_le : CmpOk X .LtE mu (.d (.int i)) (.d (.int j)) (decide (i ≤ j)) := cmp_I op_le
theorem cmp_gt : CmpOk X .Gt mu (.d (.int i)) (.d (.int j)) (decide (j < i)) := cmp_I op_gt
theorem cmp_ge : CmpOk X .GtE mu (.d (.int i)) (.d (.int j)) (decide (j ≤ i)) := cmp_I op_ge
theorem vint_eq (i j : Int) : decide (V.int i = V.int j) = decide (i = j) := by
  by_cases h : i = j
  · subst h; simp
  · rw [decide_eq_false h, decide_eq_false (fun q => h (V.int.inj q))]
theorem vstr_eq (i j : Str) : decide (V.str i = V.str j) = decide (i = j) := by
  by_cases h : i = j
  · subst h; simp
  · rw [decide_eq_false h, decide_eq_false (fun q => h (V.str.inj q))]
theorem vbl_eq (i j : Bool) : decide (V.bl i = V.bl j) = decide (i = j) := by cases i <;> cases j <;> rfl
theorem cmp_eq : CmpOk X .Eq mu (.d (.int i)) (.d (.int j)) (decide (i = j)) := ⟨_, op_eq, fun F ps env σ H v w Q I rv rw k => by
  obtain rfl := Rep.int_eq rv; obtain rfl := Rep.int_eq rw
  exact ⟨rfl, by rw [vint_eq]; exact k H (Ext.refl H)⟩⟩
theorem cmp_ne : CmpOk X .NotEq mu (.d (.int i)) (.d (.int j)) (!decide (i = j)) := ⟨_, op_ne, fun F ps env σ H v w Q I rv rw k => by
  obtain rfl := Rep.int_eq rv; obtain rfl := Rep.int_eq rw
  exact ⟨rfl, by rw [vint_eq]; exact k H (Ext.refl H)⟩⟩
theorem cmp_eqS {i j : Str} : CmpOk X .Eq mu (.d (.str i)) (.d (.str j)) (decide (i = j)) := ⟨_, op_eq, fun F ps env σ H v w Q I rv rw k => by
  obtain rfl := Rep.str_eq rv; obtain rfl := Rep.str_eq rw
  exact ⟨rfl, by rw [vstr_eq]; exact k H (Ext.refl H)⟩⟩
theorem cmp_neS {i j : Str} : CmpOk X .NotEq mu (.d (.str i)) (.d (.str j)) (!decide (i = j)) := ⟨_, op_ne, fun F ps env σ H v w Q I rv rw k => by
  obtain rfl := Rep.str_eq rv; obtain rfl := Rep.str_eq rw
  exact ⟨rfl, by rw [vstr_eq]; exact k H (Ext.refl H)⟩⟩
theorem cmp_eqB {i j : Bool} : CmpOk X .Eq mu (.d (.bl i)) (.d (.bl j)) (decide (i = j)) := ⟨_, op_eq, fun F ps env σ H v w Q I rv rw k => by
  obtain rfl := Rep.bl_eq rv; obtain rfl := Rep.bl_eq rw
  exact ⟨rfl, by rw [vbl_eq]; exact k H (Ext.refl H)⟩⟩
def isNon : E → Bool
  | .d .non => true
  | _ => false
theorem isNon_rep {S : Hp} {ps : List HA} {v : V} (r : ERep S ps v ε) : decide (v = .non) = isNon ε := by
  cases ε with
  | d d =>
    have r : Rep S v d := r
    cases r <;> rfl
  | «at» k => obtain ⟨_, _, rfl⟩ := r; rfl
  | sub k i => obtain ⟨_, _, _, _, rfl⟩ := r; rfl
  | raw ns => obtain ⟨_, _, rfl, _⟩ := r; rfl
theorem cmp_isN : CmpOk X .Is mu ε (.d .non) (isNon ε) := ⟨_, op_isN, fun F ps env σ H v w Q I rv rw k => by
  obtain rfl := Rep.non_eq rw
  exact ⟨rfl, by rw [isNon_rep rv]; exact k H (Ext.refl H)⟩⟩
theorem cmp_notN : CmpOk X .IsNot mu ε (.d .non) (!isNon ε) := ⟨_, op_notN, fun F ps env σ H v w Q I rv rw k => by
  obtain rfl := Rep.non_eq rw
  exact ⟨rfl, by rw [isNon_rep rv]; exact k H (Ext.refl H)⟩⟩
/-- flat data as values -/
def flV : D → Option V
  | .non => some .non
  | .bl b => some (.bl b)
  | .int i => some (.int i)
  | .str z => some (.str z)
  | _ => none
theorem flV_rep {S : Hp} {v w : V} (r : Rep S v d) (h : flV d = some w) : v = w := by
  cases r <;> first | exact Option.some.inj h | (cases h)
theorem flVs_rep {S : Hp} : ∀ {vs : List V} {ds : List D} {ws : List V}, Reps S vs ds → ds.map flV = ws.map some → vs = ws
  | [], _, [], .nil, _ => rfl
  | [], _, _ :: _, .nil, h => by cases h
  | _ :: _, _ :: _, [], .cons _ _, h => by cases h
  | v :: vs, d :: ds, w :: ws, .cons r q, h => by
    injection h with h1 h2
    rw [flV_rep r h1, flVs_rep q h2]
/-- x in xs, flat things -/
theorem cmp_in {t : Bool} {x : V} {xs : List V} (h1 : flV d = some x) (h2 : seqE mu ε = some (t, ds)) (h3 : ds.map flV = xs.map some) (f1 : flatV x = true) (f2 : xs.all flatV = true) : CmpOk X .In mu (.d d) ε (inV x xs) := ⟨_, op_in_seq, fun F ps env σ H v w Q I rv rw k => by
  obtain rfl := flV_rep rv h1
  obtain ⟨a, us, rfl, g, q⟩ := seqE_rep I rw h2
  obtain rfl := flVs_rep q h3
  exact ⟨a, us, rfl, seq_any g, f1, f2, k H (Ext.refl H)⟩⟩
theorem cmp_notIn {t : Bool} {x : V} {xs : List V} (h1 : flV d = some x) (h2 : seqE mu ε = some (t, ds)) (h3 : ds.map flV = xs.map some) (f1 : flatV x = true) (f2 : xs.all flatV = true) : CmpOk X .NotIn mu (.d d) ε (!inV x xs) := ⟨_, op_notIn_seq, fun F ps env σ H v w Q I rv rw k => by
  obtain rfl := flV_rep rv h1
  obtain ⟨a, us, rfl, g, q⟩ := seqE_rep I rw h2
  obtain rfl := flVs_rep q h3
  exact ⟨a, us, rfl, seq_any g, f1, f2, k H (Ext.refl H)⟩⟩
/-- a sign in a text -/
theorem cmp_inSign {c : Nat} {z : Str} : CmpOk X .In mu (.d (.str ⟨#[c]⟩)) (.d (.str z)) (decide (c ∈ z.cps.toList)) := ⟨_, op_in_sign, fun F ps env σ H v w Q I rv rw k =>
  ⟨c, z, Rep.str_eq rv, Rep.str_eq rw, k H (Ext.refl H)⟩⟩
/-- data for the deep ==: ints, texts, tuples, lists -/
def pyOf : D → Option PyData
  | .non => some .none
  | .bl b => some (.bool b)
  | .int i => some (.int i)
  | .str z => some (.str z)
  | _ => none
/-! ### booleans -/
theorem ev_and1 (h : Ev X a env mu ε) {op : BoolOp} : Ev X (.BoolOp op [a] pos) env mu ε := fun F ps σ H Q I k => ⟨_, pe_one pE, h F ps σ H Q I k⟩
theorem ev_and (h1 : Ev X a env mu (.d (.bl x))) (h2 : x = true → Ev X (.BoolOp .And (b :: rest) pos) env mu (.d (.bl y))) : Ev X (.BoolOp .And (a :: b :: rest) pos) env mu (.d (.bl (x && y))) := fun F ps σ H Q I k =>
  ⟨_, pe_and pE pE, h1 F ps σ H _ I fun v H1 e1 r1 => ⟨x, Rep.bl_eq r1, by
    cases x with
    | true => exact h2 rfl F ps σ H1 Q (I.mono e1) fun w H2 e2 r2 => k w H2 (e1.trans e2) r2
    | false => exact k _ H1 e1 (.bl _)⟩⟩
theorem ev_or (h1 : Ev X a env mu (.d (.bl x))) (h2 : x = false → Ev X (.BoolOp .Or (b :: rest) pos) env mu (.d (.bl y))) : Ev X (.BoolOp .Or (a :: b :: rest) pos) env mu (.d (.bl (x || y))) := fun F ps σ H Q I k =>
  ⟨_, pe_or pE pE, h1 F ps σ H _ I fun v H1 e1 r1 => ⟨x, Rep.bl_eq r1, by
    cases x with
    | false => exact h2 rfl F ps σ H1 Q (I.mono e1) fun w H2 e2 r2 => k w H2 (e1.trans e2) r2
    | true => exact k _ H1 e1 (.bl _)⟩⟩
theorem ev_not (h1 : Ev X a env mu (.d (.bl x))) : Ev X (.UnaryOp .Not a pos) env mu (.d (.bl (!x))) := fun F ps σ H Q I k =>
  ⟨_, pe_not pE, h1 F ps σ H _ I fun v H1 e1 r1 => ⟨x, Rep.bl_eq r1, k _ H1 e1 (.bl _)⟩⟩
theorem et_val (h1 : Ev X a env mu (.d (.bl x))) (he : ∀ whole, isTrue a X.env whole = (do let v ← whole; standAt a.pos; holding [v] (truthy v)) := by intro _; rfl) : EvT X a env mu x := fun F ps σ H Q I k =>
  ⟨_, pt_val pE he, h1 F ps σ H _ I fun v H1 e1 r1 => ⟨x, Rep.bl_eq r1, k H1 e1⟩⟩
theorem et_not (h1 : EvT X a env mu x) : EvT X (.UnaryOp .Not a pos) env mu (!x) := fun F ps σ H Q I k =>
  ⟨_, pt_not pT, h1 F ps σ H _ I fun H1 e1 => k H1 e1⟩
theorem ew_and1 (h : EvT X a env mu x) : EvW X (.BoolOp .And [a] pos) env mu x := fun F ps σ H Q I k => ⟨_, pw_and1 pT, h F ps σ H Q I k⟩
theorem ew_or1 (h : EvT X a env mu x) : EvW X (.BoolOp .Or [a] pos) env mu x := fun F ps σ H Q I k => ⟨_, pw_or1 pT, h F ps σ H Q I k⟩
theorem ew_and (h1 : EvT X a env mu x) (h2 : x = true → EvW X (.BoolOp .And (b :: rest) pos) env mu y) : EvW X (.BoolOp .And (a :: b :: rest) pos) env mu (x && y) := fun F ps σ H Q I k =>
  ⟨_, pw_and pT pW, h1 F ps σ H _ I fun H1 e1 => by
    cases x with
    | true => exact h2 rfl F ps σ H1 Q (I.mono e1) fun H2 e2 => k H2 (e1.trans e2)
    | false => exact k H1 e1⟩
theorem ew_or (h1 : EvT X a env mu x) (h2 : x = false → EvW X (.BoolOp .Or (b :: rest) pos) env mu y) : EvW X (.BoolOp .Or (a :: b :: rest) pos) env mu (x || y) := fun F ps σ H Q I k =>
  ⟨_, pw_or pT pW, h1 F ps σ H _ I fun H1 e1 => by
    cases x with
    | false => exact h2 rfl F ps σ H1 Q (I.mono e1) fun H2 e2 => k H2 (e1.trans e2)
    | true => exact k H1 e1⟩
theorem et_W (h : EvW X a env mu x) : EvT X a env mu x := fun F ps σ H Q I k => ⟨_, pW.pt, h F ps σ H Q I k⟩
theorem et_is (h : EvT X a env mu x) (e : x = y) : EvT X a env mu y := e ▸ h
theorem ev_if (h : EvT X c env mu x) (h1 : x = true → Ev X a env mu ε) (h2 : x = false → Ev X b env mu ε) : Ev X (.IfExp c a b pos) env mu ε := fun F ps σ H Q I k =>
  ⟨_, pe_ifExp pT pE pE, h F ps σ H _ I fun H1 e1 => by
    cases x with
    | true => exact h1 rfl F ps σ H1 Q (I.mono e1) fun v H2 e2 r2 => k v H2 (e1.trans e2) r2
    | false => exact h2 rfl F ps σ H1 Q (I.mono e1) fun v H2 e2 r2 => k v H2 (e1.trans e2) r2⟩
/-! ### arguments, displays -/
variable {es : List Expr} {εs : List E}
theorem ea_nil : EvA X [] env mu [] := fun F ps σ H Q I k => ⟨_, pa_nil, k [] H (Ext.refl H) trivial⟩
/-- not a starred argument -/
def NoStar (e : Expr) : Prop := ∀ (env : Env) (es : List Expr), starEach (e :: es) env = (false, eval e env) :: starEach es env
theorem no_star2 {env : Env} (n : NoStar b) : (backTo pos (starEach [b] env)).any (·.1) = false := by rw [n]; rfl
theorem ea_cons (h : Ev X e env mu ε) (hr : EvA X es env mu εs) (hs : NoStar e := by intro _ _; rfl) : EvA X (e :: es) env mu (ε :: εs) := fun F ps σ H Q I k =>
  ⟨_, pa_cons pE pA (hs _ _), h F ps σ H _ I fun v H1 e1 r1 => hr F ps σ H1 _ (I.mono e1) fun vs H2 e2 r2 => k (v :: vs) H2 (e1.trans e2) ⟨r1.mono (stab_mono e2), r2⟩⟩
/-- all of them closed -/
def dsOf : List E → Option (List D)
  | [] => some []
  | .d d :: r => (dsOf r).map (d :: ·)
  | _ :: _ => none
theorem dsOf_rep {S : Hp} {ps : List HA} : ∀ {vs : List V} {εs : List E} {ds : List D}, EReps S ps vs εs → dsOf εs = some ds → Reps S vs ds
  | [], [], ds, _, h => by cases h; exact .nil
  | v :: vs, .d d :: r, ds, q, h => by
    have h' : (dsOf r).map (d :: ·) = some ds := h
    cases g : dsOf r with
    | none => rw [g] at h'; cases h'
    | some es => rw [g] at h'; cases h'; exact .cons q.1 (dsOf_rep q.2 g)
  | _ :: _, .at _ :: _, _, _, h => by cases h
  | _ :: _, .sub _ _ :: _, _, _, h => by cases h
  | _ :: _, .raw _ :: _, _, _, h => by cases h
  | [], _ :: _, _, q, _ => q.elim
  | _ :: _, [], _, q, _ => q.elim
theorem ev_tup {x1} (h : EvA X es env mu εs) (hd : dsOf εs = some ds) (hl : ds.length ≤ 1000) : Ev X (.Tuple es x1 pos) env mu (.d (.tup ds)) := fun F ps σ H Q I k =>
  ⟨_, pe_tup pA, h F ps σ H _ I fun vs H1 e1 r1 => by
    have r := dsOf_rep r1 hd
    refine ⟨by rw [r.length]; exact Nat.le_trans hl (by decide), fun p hp => k _ _ (e1.trans (Ext.new hp)) ((I.mono e1).repTup hp r)⟩⟩
theorem en_lst (h : EvA X es env mu εs) (hd : dsOf εs = some ds) (hl : ds.length ≤ 1000) : EvN X (.List es pos) env mu ds := fun F ps σ H Q I k =>
  ⟨_, pe_lst pA, h F ps σ H _ I fun vs H1 e1 r1 => by
    have r := dsOf_rep r1 hd
    exact ⟨by rw [r.length]; exact Nat.le_trans hl (by decide), fun p hp => k _ _ _ (e1.back hp) (e1.trans (Ext.new hp)) upd_same (r.mono (stabN_new1 hp (Ext.new hp)))⟩⟩
/-! ### subscripts -/
theorem atI_get {α : Type} {xs : List α} {i : Int} {x : α} (h : atI xs i = some x) : ∃ j, ixN xs.length i = some j ∧ xs[j]? = some x := by
  unfold atI at h
  cases q : ixN xs.length i with
  | none => rw [q] at h; cases h
  | some j => rw [q] at h; exact ⟨j, rfl, h⟩
theorem atI_of {α : Type} {xs : List α} {i : Int} {j : Nat} {x : α} (h : ixN xs.length i = some j) (g : xs[j]? = some x) : atI xs i = some x := by
  unfold atI; rw [h]; exact g
theorem Reps.atI {S : Hp} {xs : List V} (r : Reps S xs ds) (h : L2.atI ds i = some d) : ∃ v, L2.atI xs i = some v ∧ Rep S v d := by
  obtain ⟨j, h1, h2⟩ := atI_get h
  obtain ⟨v, g1, g2⟩ := r.get h2
  exact ⟨v, atI_of (by rw [r.length]; exact h1) g1, g2⟩
theorem ev_ix {t : Bool} (ha : Ev X a env mu ε) (hb : Ev X b env mu (.d (.int i))) (hs : seqE mu ε = some (t, ds)) (hi : L2.atI ds i = some d) (hp : PlainIx b := by exact fun _ _ => rfl) : Ev X (.Subscript a b pos) env mu (.d d) := fun F ps σ H Q I k =>
  ⟨_, pe_ix ix_seq pE pE hp, ha F ps σ H _ I fun v H1 e1 r1 => hb F ps σ H1 _ (I.mono e1) fun w H2 e2 r2 => by
    have I2 := (I.mono e1).mono e2
    obtain ⟨p, us, rfl, g, q⟩ := seqE_rep I2 (r1.mono (stab_mono e2)) hs
    obtain ⟨z, h1, h2⟩ := q.atI hi
    obtain rfl := Rep.int_eq r2
    cases t with
    | true => exact .inr (.inl ⟨p, us, i, z, rfl, rfl, seq_t g, h1, k z H2 (e1.trans e2) h2⟩)
    | false => exact .inl ⟨p, us, i, z, rfl, rfl, seq_l g, h1, k z H2 (e1.trans e2) h2⟩⟩
/-- a list of one's own lists -/
theorem ev_ixL {k : Nat} {dss : List (List D)} {j : Nat} (ha : Ev X a env mu (.at k)) (hb : Ev X b env mu (.d (.int i))) (hs : mu[k]? = some (.lol dss)) (hi : ixN dss.length i = some j) (hp : PlainIx b := by exact fun _ _ => rfl) : Ev X (.Subscript a b pos) env mu (.sub k j) := fun F ps σ H Q I kk =>
  ⟨_, pe_ix ix_seq pE pE hp, ha F ps σ H _ I fun v H1 e1 r1 => hb F ps σ H1 _ (I.mono e1) fun w H2 e2 r2 => by
    have I2 := (I.mono e1).mono e2
    obtain ⟨pa, g1, rfl⟩ := r1
    obtain rfl := Rep.int_eq r2
    obtain ⟨m1, m2, m3⟩ := I2.mr k pa _ g1 hs
    obtain ⟨_, hj, _, _⟩ := ixN_seq hi
    have hj' : j < pa.2.length := by rw [m1]; exact hj
    refine .inl ⟨pa.1, _, i, .ref pa.2[j], rfl, rfl, SqL.of m2, atI_of (j := j) (by rw [List.length_map, m1]; exact hi) (by rw [List.getElem?_map, List.getElem?_eq_getElem hj']; rfl), ?_⟩
    exact kk _ H2 (e1.trans e2) ⟨pa, pa.2[j], g1, List.getElem?_eq_getElem hj', rfl⟩⟩
theorem ev_ixS {z : Str} {n : Nat} (ha : Ev X a env mu (.d (.str z))) (hb : Ev X b env mu (.d (.int i))) (hl : z.length ≤ sizeLine) (hi : L2.atI z.cps.toList i = some n) (hp : PlainIx b := by exact fun _ _ => rfl) : Ev X (.Subscript a b pos) env mu (.d (.str ⟨#[n]⟩)) := fun F ps σ H Q I k =>
  ⟨_, pe_ix ix_seq pE pE hp, ha F ps σ H _ I fun v H1 e1 r1 => hb F ps σ H1 _ (I.mono e1) fun w H2 e2 r2 => by
    obtain rfl := Rep.int_eq r2
    obtain rfl := Rep.str_eq r1
    exact .inr (.inr ⟨z, i, n, rfl, rfl, hl, hi, k _ H2 (e1.trans e2) (.str _)⟩)⟩
/-- a part of a slice -/
def EvO (X : Cx) (oe : Option Expr) (env : List (Option E)) (mu : List MO) (o : Option Int) : Prop := ∀ F ps σ H Q, Sat F ps env mu σ H → (∀ H', Ext H H' → Q o H') → ∃ t, PO X oe t ∧ t σ H Q
theorem eo_none : EvO X none env mu none := fun F ps σ H Q I k => ⟨_, po_none, k H (Ext.refl H)⟩
theorem eo_some (h : Ev X e env mu (.d (.int i))) : EvO X (some e) env mu (some i) := fun F ps σ H Q I k => ⟨_, po_some pE, h F ps σ H _ I fun v H1 e1 r1 => ⟨i, Rep.int_eq r1, k H1 e1⟩⟩
def wO (X : Cx) (oe : Option Expr) : TO := fun σ H Q => ∃ t, PO X oe t ∧ t σ H Q
end
end Cw
/-! enumerate and zip over tracked lists and tuples, in any mix -/
namespace Cw
open PySem PySem.Spec PyProof.Rows L2
def ItAt (t : Bool) (h : Heap) (it a : Addr) (i : Nat) : Prop := match t with
  | true => h.IsTupleIter it a i
  | false => h.IsListIter it a i
def SeqIs (t : Bool) (h : Heap) (a : Addr) (its : Array Value) : Prop := match t with
  | true => h.IsTuple a its
  | false => h.IsList a its
theorem ItAt.obj {t : Bool} {h : Heap} {it a : Addr} {i : Nat} (x : ItAt t h it a i) : ∃ o, h.get? it = some o ∧ ∀ v, o.data ≠ .cell v := by
  cases t with
  | true => obtain ⟨o, e, _, d⟩ := (show h.IsTupleIter it a i from x); exact ⟨o, e, fun v z => by rw [d] at z; cases z⟩
  | false => obtain ⟨o, e, _, d⟩ := (show h.IsListIter it a i from x); exact ⟨o, e, fun v z => by rw [d] at z; cases z⟩
theorem ItAt.keep {t : Bool} {h h' : Heap} {it a : Addr} {i : Nat} (x : ItAt t h it a i) (k : ∀ o, h.get? it = some o → h'.get? it = some o) : ItAt t h' it a i := by
  cases t with
  | true => exact (show h.IsTupleIter it a i from x).at k
  | false => exact (show h.IsListIter it a i from x).at k
theorem seq_inv {X : Cx} {pins : List (Addr × Obj)} {σ : L2.St} {H : Hp} {s : Shared} {t : Bool} {a : Addr} {xs : List V} (I : Inv X pins σ H s) (h : H a = some (hoOf t xs)) : ∃ its : List Value, Vals xs its ∧ SeqIs t s.heap a its.toArray := by
  cases t with
  | true => obtain ⟨its, r, p, _⟩ := I.tuple (SqT.of h); exact ⟨its, r, p⟩
  | false => obtain ⟨its, r, p, _⟩ := I.list (SqL.of h); exact ⟨its, r, p.isList⟩
theorem drawsB {prog : Program} {w : World} {A : Around} (hh : A.handled = none) {t : Bool} {it a : Addr} (hne : a ≠ it) (its : Array Value) :
    Draws prog w A it [it, a] its.size (fun i v => its[i]? = some v) (fun i h => ItAt t h it a i ∧ SeqIs t h a its) := by
  cases t with
  | true => exact Draws.tuple hh it a hne its
  | false => exact Draws.list hh it a hne its
def itO (t : Bool) (a : Addr) : Obj := { cls := .type (if t then "tuple_iterator" else "list_iterator"), data := .fields #[.ref a, .int 0 0] }
theorem beginsB (t : Bool) (a : Addr) (its : Array Value) : Begins (.ref a) (itO t a) fun h => SeqIs t h a its := by
  cases t with
  | true => exact begins_tuple a its
  | false => exact begins_list a its
theorem itO_at {t : Bool} {h : Heap} {it a : Addr} (e : h.get? it = some (itO t a)) : ItAt t h it a 0 := by
  cases t with
  | true => exact ⟨_, e, rfl, rfl⟩
  | false => exact ⟨_, e, rfl, rfl⟩
theorem hoOf_inj {t : Bool} {xs ys : List V} (h : hoOf t xs = hoOf t ys) : xs = ys := by
  cases t with
  | true => cases h; rfl
  | false => cases h; rfl
/-! ### enumerate -/
def ItEn (t : Bool) (a : Addr) : It :=
  ⟨fun i H => ∃ (xs : List V) (x : V), H a = some (hoOf t xs) ∧ xs[i]? = some x, fun i H v H' => ∃ T x, v = .ref T ∧ H T = none ∧ H' = upd H T (.tup [.int (i : Nat), x]) ∧ ∀ xs, H a = some (hoOf t xs) → xs[i]? = some x, fun i H => ∃ xs : List V, H a = some (hoOf t xs) ∧ i = xs.length⟩
theorem turn_en {P : Program} {w : World} {K : PySem.W.Frag} {elts : List Expr} {kk : Nat} {tpos : Pos} {t : Bool} (a e it : Addr) :
    Turn P w K (.Tuple elts kk tpos) (ItEn t a) [e, it] e (fun i h => (∃ old, IsEnum h e it ((i : Nat) : Int) old) ∧ ItAt t h it a i ∧ e ≠ it) where
  mem := by simp
  obj := fun i h st b hb => by
    obtain ⟨⟨old, he⟩, hi, _⟩ := st
    rcases (show b = e ∨ b = it by simpa using hb) with rfl | rfl
    · exact ⟨_, he, fun v q => nomatch q⟩
    · exact hi.obj
  keep := fun i h h' st k => ⟨st.1.imp fun old he => k e (by simp) _ he, st.2.1.keep fun o q => k it (by simp) o q, st.2.2⟩
  item := by
    intro X hP hw hK hc i pins s σ H E I hf st hg
    subst hP hw hK
    obtain ⟨⟨old, he⟩, hi, hne⟩ := st
    obtain ⟨xs, x, hq, hx⟩ := hg
    obtain ⟨its, rv, p⟩ := seq_inv I hq
    obtain ⟨u, hu, ru⟩ := rv.get hx
    have hel : e < s.heap.objs.size := Heap.lt_size he
    have hil : it < s.heap.objs.size := by obtain ⟨_, q, _⟩ := hi.obj; exact Heap.lt_size q
    have nae : e ≠ a := fun z => by have := (hf e (by simp)).1; rw [z, hq] at this; cases this
    have nai : a ≠ it := fun z => by have := (hf it (by simp)).1; rw [← z, hq] at this; cases this
    have hil2 : i < its.toArray.size := by have := (List.getElem?_eq_some_iff.mp hu).1; simpa using this
    refine wpAny_pyNext_enum_itemC (drawsB (A := X.A.in1) (t := t) (I.ok.hd hc) nai its.toArray) he ⟨hi, p⟩ hil2 hne (by simp [hne, nae]) fun x' h' tk hx' ho hst' hT hsz hk => ?_
    have eu : u = x' := by simpa [hu] using hx'
    subst eu
    refine ⟨_, rfl, wpAny_letOwnedTupleGo_enum (s := { s with heap := h', toks := tk + 1 }) ho fun h'' he' sb => ?_⟩
    have hT2 := (sb.2 _ (Nat.ne_of_gt hel)).trans hT
    have nw : ObjOk X.prog X.w (upd H s.heap.objs.size (.tup [.int (i : Nat), x])) h'' s.heap.objs.size (.tup [.int (i : Nat), x]) :=
      ⟨by show 2 ≤ sizeLine; decide, [.int i tk, u], .cons ⟨_, rfl⟩ (.cons ru .nil), ⟨_, hT2, rfl, _, rfl⟩⟩
    have J : Inv X pins σ (upd H s.heap.objs.size (.tup [.int (i : Nat), x])) { s with heap := h'', toks := tk + 1 } :=
      I.turnedNew (ch := [e, it]) (fun b ob hb q => (sb.2 b (fun z => hb (by simp [z]))).trans (hk b ob (fun z => hb (by simp [z])) (fun z => hb (by simp [z])) q)) hf (Nat.le_refl _) nw
    refine ⟨.ref s.heap.objs.size, _, J, rfl, ⟨_, x, rfl, I.hok.fresh (Nat.le_refl _), rfl, fun ys hy => by rw [hq] at hy; rw [← hoOf_inj (Option.some.inj hy)]; exact hx⟩, ⟨⟨u, ?_⟩, hst'.1.keep fun o q => (sb.2 it (Ne.symm hne)).trans q, hne⟩, fun b hb => ?_⟩
    · rw [show ((i + 1 : Nat) : Int) = (i : Int) + 1 by omega]; exact he'
    · have hb' : b < s.heap.objs.size := by
        rcases (show b = e ∨ b = it by simpa using hb) with z | z
        · rw [z]; exact hel
        · rw [z]; exact hil
      rw [upd_ne (Nat.ne_of_lt hb')]
      exact (hf b hb).1
  done := by
    intro X hP hw hK hc i pins s σ H E I hf st hg
    subst hP hw hK
    obtain ⟨⟨old, he⟩, hi, hne⟩ := st
    obtain ⟨xs, hq, hx⟩ := hg
    obtain ⟨its, rv, p⟩ := seq_inv I hq
    obtain ⟨f0, f1, f2, f3, f4, f5⟩ := hf it (by simp)
    have nai : a ≠ it := fun z => by rw [← z, hq] at f0; cases f0
    have hl := rv.length
    have ei : i = its.toArray.size := by simp; omega
    subst ei
    exact wpAny_pyNext_enum_endD (drawsB (A := X.A.in1) (t := t) (I.ok.hd hc) nai its.toArray) he ⟨hi, p⟩ fun h' eb => ⟨rfl, I.turned (t' := s.toks) (fun b o hb q => eb b o hb q) f0 f1 f3 f4 f5⟩
  self := fun A i s Q E st h => let ⟨⟨_, he⟩, _⟩ := st; wpAny_pyIter_enum he h
/-- enumerate(v), v told by how its iterator begins -/
theorem meets_en1 {v : Value} {o : Obj} {G : Heap → Prop} (B : Begins v o G) :
    Meets (Builtin.«enumerate.__new__» ⟨[.type "enumerate", v], []⟩) (fun _ R s => G s.heap ∧
      R (.ok (.ret (.ref (s.heap.push o).objs.size))) { s with heap := (s.heap.push o).push { cls := .type "enumerate", data := .fields #[.none, .bool false, .ref s.heap.objs.size, rawInt 0, .none, .none] } }) :=
  .of_wp fun prog w A R s h => by
    obtain ⟨hp, g, d, tk, os⟩ := s; obtain ⟨hG, h⟩ := h
    have hsub := sub_enumerate
    have qi : ∀ {A' : Around} {E : Value → Shared → Prop} {Q : Value → Shared → Prop}, Q (.ref hp.objs.size) ⟨hp.push o, g, d, tk, os⟩ → wpAny (model prog w) A' (pyIter v) Q E ⟨hp, g, d, tk, os⟩ :=
      fun q => B.iter prog w _ _ ⟨hp, g, d, tk, os⟩ _ hG q
    wp_walk using qi
    refine wpAny_stack_any fun st => wpAny_pure ?_
    split
    · rename_i c _ _ _ _ _
      cases (c == Value.type "enumerate")
      all_goals (wp_walk using qi; exact ⟨_, rfl, h⟩)
    · wp_walk using qi
      exact ⟨_, rfl, h⟩
theorem en_begins {prog : Program} {w : World} {A : Around} {E : Value → Shared → Prop} {s : Shared} {v : Value} {o : Obj} {G : Heap → Prop} {Q : Value → Shared → Prop} (B : Begins v o G) (hG : G s.heap)
    (h : ∀ h', IsEnum h' (s.heap.objs.size + 1) s.heap.objs.size 0 .none → h'.get? s.heap.objs.size = some o →
      (∀ b o, s.heap.get? b = some o → h'.get? b = some o) → Q (.ref (s.heap.objs.size + 1)) { s with heap := h' }) :
    wpAny (model prog w) A (call (.type "enumerate") [v]) Q E s := by
  refine callType_new F.called_enumerate (by decide) (F.typeCall_enumerate_1 _) (F.newCall_enumerate_1 _) (fun obj => F.args_object_init_2 obj _) F.entry_enumerate_new (meets_en1 B) ⟨hG, ?_⟩
  have hz : (s.heap.push o).objs.size = s.heap.objs.size + 1 := Heap.size_push ..
  show _ ∧ _
  rw [hz]
  have he : IsEnum ((s.heap.push o).push { cls := .type "enumerate", data := .fields #[.none, .bool false, .ref s.heap.objs.size, rawInt 0, .none, .none] }) (s.heap.objs.size + 1) s.heap.objs.size 0 .none := by
    have z := Heap.get?_push_size (s.heap.push o) (o := { cls := .type "enumerate", data := .fields #[.none, .bool false, .ref s.heap.objs.size, rawInt 0, .none, .none] }) rfl
    rw [hz] at z; exact z
  exact ⟨⟨_, he, rfl⟩, h _ he (Heap.get?_push_of_some _ (Heap.get?_push_size _ B.free)) fun b o x => Heap.get?_push_of_some _ (Heap.get?_push_of_some _ x)⟩
def iEn (ta : TA) : TI := fun σ H R => ta σ H fun vs H1 => ∃ t a xs, vs = [.ref a] ∧ H1 a = some (hoOf t xs) ∧ R (ItEn t a) H1
theorem pi_en {X : Cx} {e : Expr} {ta : TA} {p pos tpos : Pos} {elts : List Expr} {kk : Nat} (hg : Gl X "enumerate") (hm : X.mg "enumerate" = none) (ha : L2.PA X [e] ta) (hs : starEach [e] X.env = [(false, eval e X.env)] := by rfl) :
    PI X (.Tuple elts kk tpos) (.Call (.Name "enumerate" p) [e] [] pos) (iEn ta) := by
  refine ⟨fun pins s σ H R I h => ?_⟩
  refine Call_ (ld_blt I hg hm boot_enumerate (PyProof.Rows.callWith_type1 (thn (ha.run pos pins s σ H _ I h) fun us s1 ⟨vs, H1, I1, r1, q1⟩ => ?_) hs rfl))
  obtain ⟨t, a, xs, ex, hq, q⟩ := q1
  subst ex
  cases r1 with
  | cons r rr =>
    cases rr
    cases r
    obtain ⟨its, rv, p'⟩ := seq_inv I1 hq
    refine en_begins (beginsB t a its.toArray) p' fun h' he hit hk => wpAny_pyIter_enum he ?_
    have I2 : Inv X pins σ H1 { s1 with heap := h' } := I1.kept (t' := s1.toks) hk
    refine ⟨s1.heap.objs.size + 1, [s1.heap.objs.size + 1, s1.heap.objs.size], _, _, H1, rfl, I2, turn_en a (s1.heap.objs.size + 1) s1.heap.objs.size, ⟨⟨.none, he⟩, itO_at hit, Nat.succ_ne_self _⟩, fun b hb => ?_, q⟩
    have hle : s1.heap.objs.size ≤ b := by
      rcases (show b = s1.heap.objs.size + 1 ∨ b = s1.heap.objs.size by simpa using hb) with z | z
      · rw [z]; exact Nat.le_add_right _ _
      · rw [z]; exact Nat.le_refl _
    exact I1.fpOk hle (I1.hok.fresh hle)
/-! ### zip -/
def ItZ (t u : Bool) (a b : Addr) : It :=
  ⟨fun i H => ∃ (xs ys : List V) (x y : V), H a = some (hoOf t xs) ∧ H b = some (hoOf u ys) ∧ xs[i]? = some x ∧ ys[i]? = some y,
    fun i H v H' => ∃ T x y, v = .ref T ∧ H T = none ∧ H' = upd H T (.tup [x, y]) ∧ (∀ xs, H a = some (hoOf t xs) → xs[i]? = some x) ∧ ∀ ys, H b = some (hoOf u ys) → ys[i]? = some y,
    fun i H => ∃ xs ys : List V, H a = some (hoOf t xs) ∧ H b = some (hoOf u ys) ∧ i ≤ xs.length ∧ i ≤ ys.length ∧ (i = xs.length ∨ i = ys.length)⟩
structure Apart (z TI TO i1 i2 : Addr) : Prop where
  a : TI ≠ z
  b : TO ≠ z
  c : TI ≠ TO
  d : TI ≠ i1
  e : TI ≠ i2
  f : z ≠ i1
  g : z ≠ i2
  h : TO ≠ i1
  i : TO ≠ i2
  j : i1 ≠ i2
theorem turn_z {P : Program} {w : World} {K : PySem.W.Frag} {elts : List Expr} {kk : Nat} {tpos : Pos} {t u : Bool} {a b z TI TO i1 i2 : Addr} (D : Apart z TI TO i1 i2) :
    Turn P w K (.Tuple elts kk tpos) (ItZ t u a b) [z, TI, TO, i1, i2] z (fun i h => IsZip h z TI TO .none ∧ IsPair h TI (.ref i1) (.ref i2) ∧ (∃ x y, IsPair h TO x y) ∧ ItAt t h i1 a i ∧ ItAt u h i2 b i) where
  mem := by simp
  obj := fun i h st c hc => by
    obtain ⟨hz, hTI, ⟨x, y, hTO⟩, h1, h2⟩ := st
    rcases (show c = z ∨ c = TI ∨ c = TO ∨ c = i1 ∨ c = i2 by simpa using hc) with rfl | rfl | rfl | rfl | rfl
    · exact ⟨_, hz, fun v q => nomatch q⟩
    · exact ⟨_, hTI, fun v q => nomatch q⟩
    · exact ⟨_, hTO, fun v q => nomatch q⟩
    · exact h1.obj
    · exact h2.obj
  keep := fun i h h' st k => ⟨k z (by simp) _ st.1, k TI (by simp) _ st.2.1, st.2.2.1.imp fun x ⟨y, q⟩ => ⟨y, k TO (by simp) _ q⟩, st.2.2.2.1.keep fun o q => k i1 (by simp) o q, st.2.2.2.2.keep fun o q => k i2 (by simp) o q⟩
  item := by
    intro X hP hw hK hc i pins s σ H E I hf st hg
    subst hP hw hK
    obtain ⟨hz, hTI, ⟨x0, y0, hTO⟩, h1, h2⟩ := st
    obtain ⟨xs, ys, x, y, hqx, hqy, hx, hy⟩ := hg
    obtain ⟨its, rv, p⟩ := seq_inv I hqx
    obtain ⟨its2, rv2, p2⟩ := seq_inv I hqy
    obtain ⟨v, hv, r1⟩ := rv.get hx
    obtain ⟨v2, hv2, r2⟩ := rv2.get hy
    have na : ∀ c ∈ [z, TI, TO, i1, i2], c ≠ a := fun c hcm q => by have := (hf c hcm).1; rw [q, hqx] at this; cases this
    have nb : ∀ c ∈ [z, TI, TO, i1, i2], c ≠ b := fun c hcm q => by have := (hf c hcm).1; rw [q, hqy] at this; cases this
    have l1 : i < its.toArray.size := by have := (List.getElem?_eq_some_iff.mp hv).1; simpa using this
    have l2 : i < its2.toArray.size := by have := (List.getElem?_eq_some_iff.mp hv2).1; simpa using this
    have S : ZipSep2 z TI TO i1 i2 [i1, a] [i2, b] := ⟨D.a, D.b, D.c, D.d, by simp, by simp [D.f, na z (by simp)], by simp [D.h, na TO (by simp)], D.e, by simp, by simp [D.g, nb z (by simp)], by simp [D.i, nb TO (by simp)], by simp [D.j, nb i1 (by simp)], by simp [Ne.symm D.j, na i2 (by simp)]⟩
    have hzl : z < s.heap.objs.size := Heap.lt_size hz
    refine wpAny_pyNext_zipD2_item S (drawsB (A := X.A.in1) (t := t) (I.ok.hd hc) (Ne.symm (na i1 (by simp))) its.toArray) (drawsB (A := X.A.in1) (t := u) (I.ok.hd hc) (Ne.symm (nb i2 (by simp))) its2.toArray) hz hTI hTO ⟨h1, p⟩ ⟨h2, p2⟩ l1 l2 fun w1 w2 h' tk e1 e2 z' TO' k1 k2 hT hsz hk => ?_
    have eu : v = w1 := by simpa [hv] using e1
    have eu2 : v2 = w2 := by simpa [hv2] using e2
    subst eu eu2
    refine ⟨_, rfl, wpAny_letOwnedTupleGo_zip (s := { s with heap := h', toks := tk }) z' fun h'' z'' sb => ?_⟩
    have hT2 : h''.get? s.heap.objs.size = some { cls := .type "tuple", data := .seq #[v, v2] } := (sb.2 _ (Nat.ne_of_gt hzl)).trans hT
    have nw : ObjOk X.prog X.w (upd H s.heap.objs.size (.tup [x, y])) h'' s.heap.objs.size (.tup [x, y]) :=
      ⟨by show 2 ≤ sizeLine; decide, [v, v2], .cons r1 (.cons r2 .nil), ⟨_, hT2, rfl, _, rfl⟩⟩
    have J : Inv X pins σ (upd H s.heap.objs.size (.tup [x, y])) { s with heap := h'', toks := tk } :=
      I.turnedNew (ch := [z, TI, TO, i1, i2]) (fun c o hb q => (sb.2 c (fun q' => hb (by simp [q']))).trans (hk c o (fun q' => hb (by simp [q'])) (fun q' => hb (by simp [q'])) (fun q' => hb (by simp [q'])) (fun q' => hb (by simp [q'])) q)) hf (Nat.le_refl _) nw
    refine ⟨.ref s.heap.objs.size, _, J, rfl, ⟨_, x, y, rfl, I.hok.fresh (Nat.le_refl _), rfl, fun l hl => by rw [hqx] at hl; rw [← hoOf_inj (Option.some.inj hl)]; exact hx, fun l hl => by rw [hqy] at hl; rw [← hoOf_inj (Option.some.inj hl)]; exact hy⟩, ⟨z'', ?_, ⟨v, v2, ?_⟩, ?_, ?_⟩, fun c hcm => ?_⟩
    · exact (sb.2 _ D.a).trans (hk _ _ D.a D.c D.d D.e hTI)
    · exact (sb.2 _ D.b).trans TO'
    · exact k1.1.keep fun o q => (sb.2 _ (Ne.symm D.f)).trans q
    · exact k2.1.keep fun o q => (sb.2 _ (Ne.symm D.g)).trans q
    · have hlt : c < s.heap.objs.size := by
        rcases (show c = z ∨ c = TI ∨ c = TO ∨ c = i1 ∨ c = i2 by simpa using hcm) with q | q | q | q | q
        · rw [q]; exact hzl
        · rw [q]; exact Heap.lt_size hTI
        · rw [q]; exact Heap.lt_size hTO
        · rw [q]; obtain ⟨_, e1, _⟩ := h1.obj; exact Heap.lt_size e1
        · rw [q]; obtain ⟨_, e2, _⟩ := h2.obj; exact Heap.lt_size e2
      rw [upd_ne (Nat.ne_of_lt hlt)]
      exact (hf c hcm).1
  done := by
    intro X hP hw hK hc i pins s σ H E I hf st hg
    subst hP hw hK
    obtain ⟨hz, hTI, ⟨x0, y0, hTO⟩, h1, h2⟩ := st
    obtain ⟨xs, ys, hqx, hqy, hl1, hl2, hend⟩ := hg
    obtain ⟨its, rv, p⟩ := seq_inv I hqx
    obtain ⟨its2, rv2, p2⟩ := seq_inv I hqy
    have na : ∀ c ∈ [z, TI, TO, i1, i2], c ≠ a := fun c hcm q => by have := (hf c hcm).1; rw [q, hqx] at this; cases this
    have nb : ∀ c ∈ [z, TI, TO, i1, i2], c ≠ b := fun c hcm q => by have := (hf c hcm).1; rw [q, hqy] at this; cases this
    have S : ZipSep2 z TI TO i1 i2 [i1, a] [i2, b] := ⟨D.a, D.b, D.c, D.d, by simp, by simp [D.f, na z (by simp)], by simp [D.h, na TO (by simp)], D.e, by simp, by simp [D.g, nb z (by simp)], by simp [D.i, nb TO (by simp)], by simp [D.j, nb i1 (by simp)], by simp [Ne.symm D.j, na i2 (by simp)]⟩
    have e1 := rv.length
    have e2 := rv2.length
    exact wpAny_pyNext_zipD2_end S (drawsB (A := X.A.in1) (t := t) (I.ok.hd hc) (Ne.symm (na i1 (by simp))) its.toArray) (drawsB (A := X.A.in1) (t := u) (I.ok.hd hc) (Ne.symm (nb i2 (by simp))) its2.toArray) hz hTI hTO ⟨h1, p⟩ ⟨h2, p2⟩ (by simp; omega) (by simp; omega) (by simp; omega)
      fun h' tk hk => ⟨rfl, I.turnedL (ch := [z, TI, TO, i1, i2]) (fun c o hb q => hk c o (fun q' => hb (by simp [q'])) (fun q' => hb (by simp [q'])) (fun q' => hb (by simp [q'])) (fun q' => hb (by simp [q'])) q) hf⟩
  self := fun A i s Q E st h => wpAny_pyIter_zip st.1 h
def iZi (ta : TA) : TI := fun σ H R => ta σ H fun vs H1 => ∃ t u a b xs ys, vs = [.ref a, .ref b] ∧ H1 a = some (hoOf t xs) ∧ H1 b = some (hoOf u ys) ∧ R (ItZ t u a b) H1
theorem pi_zi {X : Cx} {e e2 : Expr} {ta : TA} {p pos tpos : Pos} {elts : List Expr} {kk : Nat} (hg : Gl X "zip") (hm : X.mg "zip" = none) (ha : L2.PA X [e, e2] ta)
    (hs : starEach [e, e2] X.env = (false, eval e X.env) :: starEach [e2] X.env := by rfl) (hpl : (backTo pos (starEach [e2] X.env)).any (·.1) = false := by rfl) :
    PI X (.Tuple elts kk tpos) (.Call (.Name "zip" p) [e, e2] [] pos) (iZi ta) := by
  refine ⟨fun pins s σ H R I h => ?_⟩
  refine Call_ (ld_blt I hg hm PyProof.Rows.boot_zip (PyProof.Rows.callWith_type1 (thn (ha.run pos pins s σ H _ I h) fun us s1 ⟨vs, H1, I1, r1, q1⟩ => ?_) hs hpl))
  obtain ⟨t, u, a, b, xs, ys, ex, hqx, hqy, q⟩ := q1
  subst ex
  cases r1 with
  | cons r rr =>
    cases rr with
    | cons r' rr =>
      cases rr
      cases r
      cases r'
      obtain ⟨its, rv, p1⟩ := seq_inv I1 hqx
      obtain ⟨its2, rv2, p2⟩ := seq_inv I1 hqy
      refine zip_begins2 (beginsB t a its.toArray) (beginsB u b its2.toArray) p1 p2 fun h' hz hTI hTO g1 g2 hsz hk => wpAny_pyIter_zip hz ?_
      have I2 : Inv X pins σ H1 { s1 with heap := h' } := I1.kept (t' := s1.toks) hk
      refine ⟨s1.heap.objs.size + 4, [s1.heap.objs.size + 4, s1.heap.objs.size + 2, s1.heap.objs.size + 3, s1.heap.objs.size, s1.heap.objs.size + 1], _, _, H1, rfl, I2, turn_z ⟨?_, ?_, ?_, ?_, ?_, ?_, ?_, ?_, ?_, ?_⟩, ⟨hz, hTI, ⟨_, _, hTO⟩, itO_at g1, itO_at g2⟩, fun c hcm => ?_, q⟩
      iterate 10 (show (_ : Nat) ≠ _; omega)
      have hle : s1.heap.objs.size ≤ c := by
        rcases (show c = s1.heap.objs.size + 4 ∨ c = s1.heap.objs.size + 2 ∨ c = s1.heap.objs.size + 3 ∨ c = s1.heap.objs.size ∨ c = s1.heap.objs.size + 1 by simpa using hcm) with z | z | z | z | z <;> rw [z] <;> first | exact Nat.le_add_right _ _ | exact Nat.le_refl _
      exact I1.fpOk hle (I1.hok.fresh hle)
end Cw
namespace Cw
open PySem PySem.Spec PyProof.Rows L2
/-! ### slices -/
def cutA {α : Type} (xs : List α) (lo hi : Option Int) : List α := (xs.drop (HT.sIx xs.length 0 lo)).take (HT.sIx xs.length xs.length hi - HT.sIx xs.length 0 lo)
section
variable {X : Cx} {env : List (Option E)} {mu : List MO} {a b c e : Expr} {ε ε1 ε2 ε3 : E} {pos p2 : Pos} {d : D} {ds : List D} {i j : Int} {es : List Expr} {εs : List E} {lo hi : Option Expr} {ol oh : Option Int}
theorem pO {oe : Option Expr} : PO X oe (wO X oe) := ⟨fun pins s σ H Q I ⟨t, h, q⟩ => h.run pins s σ H Q I q⟩
theorem Reps.cut {S : Hp} {xs : List V} (r : Reps S xs ds) : Reps S (cutV xs ol oh) (cutA ds ol oh) := by
  unfold cutV cutA
  rw [r.length]
  exact (r.drop _).take _
theorem en_sl (ha : Ev X a env mu ε) (hs : seqE mu ε = some (false, ds)) (hl : EvO X lo env mu ol) (hh : EvO X hi env mu oh) : EvN X (.Subscript a (.Slice lo hi none p2) pos) env mu (cutA ds ol oh) := fun F ps σ H Q I k =>
  ⟨_, pe_slice sl_list pE pO pO, ha F ps σ H _ I fun v H1 e1 r1 => hl F ps σ H1 _ (I.mono e1) fun H2 e2 => hh F ps σ H2 _ ((I.mono e1).mono e2) fun H3 e3 => by
    have I3 := ((I.mono e1).mono e2).mono e3
    obtain ⟨q, us, rfl, g, r⟩ := seqE_rep I3 (r1.mono (stab_mono (e2.trans e3))) hs
    exact ⟨q, us, rfl, seq_l g, fun p hp => k p _ _ (((e1.trans e2).trans e3).back hp) (((e1.trans e2).trans e3).trans (Ext.new hp)) upd_same (r.cut.mono (stabN_new1 hp (Ext.new hp)))⟩⟩
theorem cut_whole {α : Type} {xs : List α} (h : HT.sIx xs.length 0 ol = 0 ∧ HT.sIx xs.length xs.length oh = xs.length) : cutA xs ol oh = xs := by
  unfold cutA; rw [h.1, h.2]; simp
theorem ev_slT (ha : Ev X a env mu (.d (.tup ds))) (hl : EvO X lo env mu ol) (hh : EvO X hi env mu oh) : Ev X (.Subscript a (.Slice lo hi none p2) pos) env mu (.d (.tup (cutA ds ol oh))) := fun F ps σ H Q I k =>
  ⟨_, pe_slice sl_tupA pE pO pO, ha F ps σ H _ I fun v H1 e1 r1 => hl F ps σ H1 _ (I.mono e1) fun H2 e2 => hh F ps σ H2 _ ((I.mono e1).mono e2) fun H3 e3 => by
    have I3 := ((I.mono e1).mono e2).mono e3
    obtain ⟨q, us, rfl, g, r⟩ := Rep.tup_eq (r1.mono (stab_mono (e2.trans e3)))
    refine ⟨q, us, rfl, SqT.of (stab_le _ _ g), fun hw => k _ _ ((e1.trans e2).trans e3) (.tup g ?_), fun hw p hp => k _ _ (((e1.trans e2).trans e3).trans (Ext.new hp)) (I3.repTup hp r.cut)⟩
    rw [cut_whole (by rw [← r.length]; exact hw)]; exact r⟩
/-! ### built-ins -/
theorem ev_callB {x : Str} {id : String} {r : List V → Hp → VK → Prop} {p : Pos} (hc : CallR X (.builtin id) r) (hg : Gl X x) (hm : X.mg x = none) (hv : bootBuiltins x = some (.builtin id)) (ha : EvA X (e :: es) env mu εs)
    (h : ∀ F ps σ H vs Q, Sat F ps env mu σ H → EReps (stab F ps mu H) ps vs εs → (∀ z H', Ext H H' → ERep (stab F ps mu H') ps z ε → Q z H') → r vs H Q)
    (hn : x ≠ "__name__" := by decide) (hdb : (x == ("__debug__" : Str)) = false := by decide) (he : starEach (e :: es) X.env = (false, eval e X.env) :: starEach es X.env := by rfl) (hpl : (backTo pos (starEach es X.env)).any (·.1) = false := by rfl) : Ev X (.Call (.Name x p) (e :: es) [] pos) env mu ε := fun F ps σ H Q I k =>
  ⟨_, pe_callB hc hg hm hv pA hn hdb he hpl, ha F ps σ H _ I fun vs H1 e1 r1 => h F ps σ H1 vs Q (I.mono e1) r1 fun z H2 e2 r2 => k z H2 (e1.trans e2) r2⟩
theorem ev_callTy {x : Str} {T : String} {r : List V → Hp → VK → Prop} {p : Pos} (hc : CallR X (.type T) r) (hg : Gl X x) (hm : X.mg x = none) (hv : bootBuiltins x = some (.type T)) (ha : EvA X (e :: es) env mu εs)
    (h : ∀ F ps σ H vs Q, Sat F ps env mu σ H → EReps (stab F ps mu H) ps vs εs → (∀ z H', Ext H H' → ERep (stab F ps mu H') ps z ε → Q z H') → r vs H Q)
    (hn : x ≠ "__name__" := by decide) (hdb : (x == ("__debug__" : Str)) = false := by decide) (he : starEach (e :: es) X.env = (false, eval e X.env) :: starEach es X.env := by rfl) (hpl : (backTo pos (starEach es X.env)).any (·.1) = false := by rfl) : Ev X (.Call (.Name x p) (e :: es) [] pos) env mu ε := fun F ps σ H Q I k =>
  ⟨_, pe_callTy hc hg hm hv pA hn hdb he hpl, ha F ps σ H _ I fun vs H1 e1 r1 => h F ps σ H1 vs Q (I.mono e1) r1 fun z H2 e2 r2 => k z H2 (e1.trans e2) r2⟩
theorem er1 {S : Hp} {ps : List HA} {vs : List V} (r : EReps S ps vs [ε]) : ∃ v, vs = [v] ∧ ERep S ps v ε := by
  match vs, r with
  | [v], r => exact ⟨v, rfl, r.1⟩
theorem er2 {S : Hp} {ps : List HA} {vs : List V} (r : EReps S ps vs [ε, ε1]) : ∃ v w, vs = [v, w] ∧ ERep S ps v ε ∧ ERep S ps w ε1 := by
  match vs, r with
  | [v, w], r => exact ⟨v, w, rfl, r.1, r.2.1⟩
  | [_], r => exact r.2.elim
variable {p : Pos}
theorem ev_len {t : Bool} (hg : Gl X "len") (hm : X.mg "len" = none) (n1 : NoStar e) (ha : Ev X e env mu ε) (hs : seqE mu ε = some (t, ds)) : Ev X (.Call (.Name "len" p) [e] [] pos) env mu (.d (.int (ds.length : Int))) :=
  ev_callB call_len_seq hg hm PySem.boot_len (ea_cons ha ea_nil n1) (he := n1 _ _) (hpl := rfl) fun F ps σ H vs Q I r k => by
    obtain ⟨v, rfl, r1⟩ := er1 r
    obtain ⟨q, us, rfl, g, r⟩ := seqE_rep I r1 hs
    exact ⟨q, us, rfl, seq_any g, by rw [r.length]; exact k _ H (Ext.refl H) (.int _)⟩
theorem ev_lenS {z : Str} (hg : Gl X "len") (hm : X.mg "len" = none) (n1 : NoStar e) (ha : Ev X e env mu (.d (.str z))) (hs : z.length ≤ sizeLine) : Ev X (.Call (.Name "len" p) [e] [] pos) env mu (.d (.int (z.length : Int))) :=
  ev_callB call_len_str hg hm PySem.boot_len (ea_cons ha ea_nil n1) (he := n1 _ _) (hpl := rfl) fun F ps σ H vs Q I r k => by
    obtain ⟨v, rfl, r1⟩ := er1 r
    obtain rfl := Rep.str_eq r1
    exact ⟨z, rfl, hs, k _ H (Ext.refl H) (.int _)⟩
theorem ev_intI (hg : Gl X "int") (hm : X.mg "int" = none) (n1 : NoStar e) (ha : Ev X e env mu (.d (.int i))) : Ev X (.Call (.Name "int" p) [e] [] pos) env mu (.d (.int i)) :=
  ev_callTy call_int1 hg hm PyProof.Rows.boot_int (ea_cons ha ea_nil n1) (he := n1 _ _) (hpl := rfl) fun F ps σ H vs Q I r k => by
    obtain ⟨v, rfl, r1⟩ := er1 r
    obtain rfl := Rep.int_eq r1
    exact .inl ⟨i, rfl, k _ H (Ext.refl H) (.int _)⟩
theorem ev_max (hc : X.calm = true) (hg : Gl X "max") (hm : X.mg "max" = none) (n1 : NoStar a) (n2 : NoStar b) (ha : Ev X a env mu (.d (.int i))) (hb : Ev X b env mu (.d (.int j))) : Ev X (.Call (.Name "max" p) [a, b] [] pos) env mu (.d (.int (if j > i then j else i))) :=
  ev_callB (call_max2 hc) hg hm boot_max (ea_cons ha (ea_cons hb ea_nil n2) n1) (he := n1 _ _) (hpl := no_star2 n2) fun F ps σ H vs Q I r k => by
    obtain ⟨v, w, rfl, r1, r2⟩ := er2 r
    obtain rfl := Rep.int_eq r1
    obtain rfl := Rep.int_eq r2
    exact ⟨i, j, rfl, k _ H (Ext.refl H) (.int _)⟩
theorem ev_min (hc : X.calm = true) (hg : Gl X "min") (hm : X.mg "min" = none) (n1 : NoStar a) (n2 : NoStar b) (ha : Ev X a env mu (.d (.int i))) (hb : Ev X b env mu (.d (.int j))) : Ev X (.Call (.Name "min" p) [a, b] [] pos) env mu (.d (.int (if j < i then j else i))) :=
  ev_callB (call_min2 hc) hg hm boot_min (ea_cons ha (ea_cons hb ea_nil n2) n1) (he := n1 _ _) (hpl := no_star2 n2) fun F ps σ H vs Q I r k => by
    obtain ⟨v, w, rfl, r1, r2⟩ := er2 r
    obtain rfl := Rep.int_eq r1
    obtain rfl := Rep.int_eq r2
    exact ⟨i, j, rfl, k _ H (Ext.refl H) (.int _)⟩
theorem ev_all {bs : List Bool} (hc : X.calm = true) (hg : Gl X "all") (hm : X.mg "all" = none) (n1 : NoStar e) (ha : Ev X e env mu ε) (hs : seqE mu ε = some (false, bs.map D.bl)) : Ev X (.Call (.Name "all" p) [e] [] pos) env mu (.d (.bl (bs.all id))) :=
  ev_callB (cr_all hc) hg hm boot_all (ea_cons ha ea_nil n1) (he := n1 _ _) (hpl := rfl) fun F ps σ H vs Q I r k => by
    obtain ⟨v, rfl, r1⟩ := er1 r
    obtain ⟨q, us, rfl, g, r⟩ := seqE_rep I r1 hs
    obtain rfl := Reps.bls r
    exact ⟨q, bs, rfl, seq_l g, k _ H (Ext.refl H) (.bl _)⟩
theorem ev_any {bs : List Bool} (hc : X.calm = true) (hg : Gl X "any") (hm : X.mg "any" = none) (n1 : NoStar e) (ha : Ev X e env mu ε) (hs : seqE mu ε = some (false, bs.map D.bl)) : Ev X (.Call (.Name "any" p) [e] [] pos) env mu (.d (.bl (bs.any id))) :=
  ev_callB (cr_any hc) hg hm boot_any (ea_cons ha ea_nil n1) (he := n1 _ _) (hpl := rfl) fun F ps σ H vs Q I r k => by
    obtain ⟨v, rfl, r1⟩ := er1 r
    obtain ⟨q, us, rfl, g, r⟩ := seqE_rep I r1 hs
    obtain rfl := Reps.bls r
    exact ⟨q, bs, rfl, seq_l g, k _ H (Ext.refl H) (.bl _)⟩
theorem ev_sum {ns : List Int} (hc : X.calm = true) (hg : Gl X "sum") (hm : X.mg "sum" = none) (n1 : NoStar e) (ha : Ev X e env mu ε) (hs : seqE mu ε = some (false, ns.map D.int)) : Ev X (.Call (.Name "sum" p) [e] [] pos) env mu (.d (.int ns.sum)) :=
  ev_callB (cr_sum hc) hg hm boot_sum (ea_cons ha ea_nil n1) (he := n1 _ _) (hpl := rfl) fun F ps σ H vs Q I r k => by
    obtain ⟨v, rfl, r1⟩ := er1 r
    obtain ⟨q, us, rfl, g, r⟩ := seqE_rep I r1 hs
    obtain rfl := Reps.ints r
    exact ⟨q, ns, rfl, seq_l g, k _ H (Ext.refl H) (.int _)⟩
/-- tuple(a list): a new tuple -/
theorem ev_tupleL (hg : Gl X "tuple") (hm : X.mg "tuple" = none) (n1 : NoStar e) (ha : Ev X e env mu ε) (hs : seqE mu ε = some (false, ds)) : Ev X (.Call (.Name "tuple" p) [e] [] pos) env mu (.d (.tup ds)) :=
  ev_callTy call_tuple_of hg hm boot_tuple (ea_cons ha ea_nil n1) (he := n1 _ _) (hpl := rfl) fun F ps σ H vs Q I r k => by
    obtain ⟨v, rfl, r1⟩ := er1 r
    obtain ⟨q, us, rfl, g, r⟩ := seqE_rep I r1 hs
    exact ⟨q, us, rfl, .inl ⟨seq_l g, fun l hl => k _ _ (Ext.new hl) (I.repTup hl r)⟩⟩
/-- tuple(a tuple): itself -/
theorem ev_tupleT (hg : Gl X "tuple") (hm : X.mg "tuple" = none) (n1 : NoStar e) (ha : Ev X e env mu (.d (.tup ds))) : Ev X (.Call (.Name "tuple" p) [e] [] pos) env mu (.d (.tup ds)) :=
  ev_callTy call_tuple_of hg hm boot_tuple (ea_cons ha ea_nil n1) (he := n1 _ _) (hpl := rfl) fun F ps σ H vs Q I r k => by
    obtain ⟨v, rfl, r1⟩ := er1 r
    obtain ⟨q, us, rfl, g, r'⟩ := Rep.tup_eq r1
    exact ⟨q, us, rfl, .inr ⟨SqT.of (stab_le _ _ g), k _ _ (Ext.refl H) (.tup g r')⟩⟩
/-- list(a list | a tuple): a new list -/
theorem en_list {t : Bool} (hg : Gl X "list") (hm : X.mg "list" = none) (n1 : NoStar e) (ha : Ev X e env mu ε) (hs : seqE mu ε = some (t, ds)) : EvN X (.Call (.Name "list" p) [e] [] pos) env mu ds := fun F ps σ H Q I k =>
  ⟨_, pe_callTy call_list_of hg hm boot_list pA (by decide) (by decide) (n1 _ _) rfl, (ea_cons ha ea_nil n1) F ps σ H _ I fun vs H1 e1 r1 => by
    obtain ⟨v, rfl, r2⟩ := er1 r1
    obtain ⟨q, us, rfl, g, r⟩ := seqE_rep (I.mono e1) r2 hs
    exact ⟨q, us, rfl, seq_any g, fun l hl => k l _ _ (e1.back hl) (e1.trans (Ext.new hl)) upd_same (r.mono (stabN_new1 hl (Ext.new hl)))⟩⟩
/-- a built-in class as a value -/
theorem ev_ty {x : Str} {n : String} (hg : Gl X x) (hm : X.mg x = none) (hv : bootBuiltins x = some (.type n)) (hn : x ≠ "__name__" := by decide) (hd : (x == ("__debug__" : Str)) = false := by decide) : Ev X (.Name x pos) env mu (.d (.ty n)) := fun F ps σ H Q I k =>
  ⟨_, pe_bltn (v := .ty n) hg hm hv rfl hn hd, k _ H (Ext.refl H) (.ty n)⟩
/-- a module's constant -/
theorem ev_gint {x : Str} (hg : Gl X x) (hm : ∃ t, X.mg x = some (.int i t)) (hd : (x == ("__debug__" : Str)) = false := by decide) : Ev X (.Name x pos) env mu (.d (.int i)) := fun F ps σ H Q I k => by
  obtain ⟨t, hm⟩ := hm
  exact ⟨_, pe_glob hg hm (v := .int i) ⟨t, rfl⟩ hd, k _ H (Ext.refl H) (.int i)⟩
theorem ev_gstr {x z : Str} (hg : Gl X x) (hm : ∃ t, X.mg x = some (.str z t)) (hd : (x == ("__debug__" : Str)) = false := by decide) : Ev X (.Name x pos) env mu (.d (.str z)) := fun F ps σ H Q I k => by
  obtain ⟨t, hm⟩ := hm
  exact ⟨_, pe_glob hg hm (v := .str z) ⟨t, rfl⟩ hd, k _ H (Ext.refl H) (.str z)⟩
/-! ### isinstance -/
def tyD : D → String
  | .non => "NoneType"
  | .bl _ => "bool"
  | .int _ => "int"
  | .str _ => "str"
  | .tup _ => "tuple"
  | .lst _ => "list"
  | .dic _ _ => "dict"
  | .rng _ _ => "range"
  | .obj _ _ _ => "object"
  | .ty _ => "type"
def tyOk : D → Bool
  | .obj _ _ _ => false
  | .ty _ => false
  | .rng _ _ => false
  | _ => true
theorem rep_ty {K : PySem.W.Frag} {S H : Hp} {v : V} (r : Rep S v d) (e : Ext S H) (h : tyOk d = true) : TyX K H v (.type (tyD d)) := by
  cases r with
  | non => exact .base .non
  | bl b => exact .base (.bl b)
  | int i => exact .base (.int i)
  | str z => exact .base (.str z)
  | tup h1 _ => exact .base (.tup (e _ _ h1))
  | lst h1 _ => exact .base (.lst (e _ _ h1))
  | dic h1 _ => exact .base (.dT (e _ _ h1))
  | obj _ _ => cases h
  | ty _ => cases h
  | rng _ => cases h
theorem ev_isi {n : String} {r : Bool} (hg : Gl X "isinstance") (hm : X.mg "isinstance" = none) (n1 : NoStar a) (n2 : NoStar b) (ha : Ev X a env mu (.d d)) (hb : Ev X b env mu (.d (.ty n))) (ht : tyOk d = true) (hk : kitB (tyD d) n = some r) : Ev X (.Call (.Name "isinstance" p) [a, b] [] pos) env mu (.d (.bl r)) :=
  ev_callB call_isi hg hm boot_isinstance (ea_cons ha (ea_cons hb ea_nil n2) n1) (he := n1 _ _) (hpl := no_star2 n2) fun F ps σ H vs Q I rr k => by
    obtain ⟨v, w, rfl, r1, r2⟩ := er2 rr
    have r2 : Rep (stab F ps mu H) w (.ty n) := r2
    cases r2
    exact ⟨v, .ty n, _, _, r, rfl, .ty n, rep_ty r1 stab_le ht, kit_ty hk, k _ H (Ext.refl H) (.bl _)⟩
theorem ev_isi2 {m1 m2 : String} {r1 r2 : Bool} (hg : Gl X "isinstance") (hm : X.mg "isinstance" = none) (n1 : NoStar a) (n2 : NoStar b) (ha : Ev X a env mu (.d d)) (hb : Ev X b env mu (.d (.tup [.ty m1, .ty m2]))) (ht : tyOk d = true) (hk1 : kitB (tyD d) m1 = some r1) (hk2 : kitB (tyD d) m2 = some r2) : Ev X (.Call (.Name "isinstance" p) [a, b] [] pos) env mu (.d (.bl (r1 || r2))) :=
  ev_callB call_isiT hg hm boot_isinstance (ea_cons ha (ea_cons hb ea_nil n2) n1) (he := n1 _ _) (hpl := no_star2 n2) fun F ps σ H vs Q I rr k => by
    obtain ⟨v, w, rfl, q1, q2⟩ := er2 rr
    obtain ⟨a, xs, rfl, g, q⟩ := Rep.tup_eq q2
    match xs, q with
    | [_, _], .cons (.ty _) (.cons (.ty _) .nil) =>
      refine ⟨v, a, _, _, [.type m1, .type m2], r1 || r2, rfl, stab_le _ _ g, .cons (.ty m1) (.cons (.ty m2) .nil), rep_ty q1 stab_le ht, ?_, k _ H (Ext.refl H) (.bl _)⟩
      refine kitAny_cons (kit_ty hk1) (r := r1 || r2) (fun e => ?_) (fun e => by rw [e]; rfl)
      refine kitAny_cons (kit_ty hk2) (fun e2 => ?_) (fun e2 => by rw [e2, Bool.or_true])
      rw [e, e2]; rfl
/-! ### attributes -/
def idxN : List Str → Str → Option Nat
  | [], _ => none
  | n :: ns, f => if (f == n) = true then some 0 else (idxN ns f).map (· + 1)
theorem idxN_look {S : Hp} {f : Str} : ∀ {fs : List (Str × V)} {ds : List D} {n : Nat}, Reps S (fs.map (·.2)) ds → idxN (fs.map (·.1)) f = some n → ds[n]? = some d → ∃ v, fs.lookup f = some v ∧ Rep S v d
  | [], _, _, _, h, _ => by cases h
  | (m, v) :: fs, ds, n, r, h, g => by
    cases r with
    | @cons _ d0 _ ds' r0 r =>
      rw [List.lookup_cons]
      have h : (if (f == m) = true then some 0 else (idxN (fs.map (·.1)) f).map (· + 1)) = some n := h
      cases q : f == m with
      | true =>
        rw [q, if_pos rfl] at h
        cases h
        simp at g
        subst g
        exact ⟨v, rfl, r0⟩
      | false =>
        rw [q, if_neg Bool.false_ne_true] at h
        cases q2 : idxN (fs.map (·.1)) f with
        | none => rw [q2] at h; cases h
        | some k =>
          rw [q2] at h
          cases h
          exact idxN_look r q2 (by simpa using g)
theorem idxN_none {f : Str} : ∀ {fs : List (Str × V)}, idxN (fs.map (·.1)) f = none → fs.lookup f = none
  | [], _ => rfl
  | (m, v) :: fs, h => by
    rw [List.lookup_cons]
    have h : (if (f == m) = true then some 0 else (idxN (fs.map (·.1)) f).map (· + 1)) = none := h
    cases q : f == m with
    | true => rw [q, if_pos rfl] at h; cases h
    | false =>
      rw [q, if_neg Bool.false_ne_true] at h
      cases q2 : idxN (fs.map (·.1)) f with
      | none => exact idxN_none q2
      | some k => rw [q2] at h; cases h
theorem ev_attr {C : Addr} {ns : List Str} {f : Str} {n : Nat} (ha : Ev X e env mu (.d (.obj C ns ds))) (c : Cls X.K C) (na : NoAttr X.K C f) (h1 : idxN ns f = some n) (h2 : ds[n]? = some d)
    (hb : attributeBase e f X.env (eval e X.env) = eval e X.env := by rfl) : Ev X (.Attribute e f pos) env mu (.d d) := fun F ps σ H Q I k =>
  ⟨_, pe_fld pE hb, ha F ps σ H _ I fun v H1 e1 r1 => by
    have r1 : Rep (stab F ps mu H1) v (.obj C ns ds) := r1
    cases r1 with
    | @obj a _ dx fs _ g r =>
      obtain ⟨z, g1, g2⟩ := idxN_look r h1 h2
      exact ⟨a, C, dx, fs, z, rfl, stab_le _ _ g, c, na, g1, k z H1 e1 g2⟩⟩
theorem ev_attrM {C : Addr} {fs : List (Str × E)} {f : Str} {k : Nat} (ha : Ev X e env mu (.at k)) (hk : mu[k]? = some (.ins C fs)) (c : Cls X.K C) (na : NoAttr X.K C f) (hl : fs.lookup f = some ε)
    (hb : attributeBase e f X.env (eval e X.env) = eval e X.env := by rfl) : Ev X (.Attribute e f pos) env mu ε := fun F ps σ H Q I kk =>
  ⟨_, pe_fld pE hb, ha F ps σ H _ I fun v H1 e1 r1 => by
    obtain ⟨pa, g1, rfl⟩ := r1
    obtain ⟨_, dx, fv, g2, g3⟩ := (I.mono e1).mr k pa _ g1 hk
    have key : ∀ {fv : List (Str × V)} {fs : List (Str × E)}, FRep (stab F ps mu H1) ps fv fs → fs.lookup f = some ε → ∃ v, fv.lookup f = some v ∧ ERep (stab F ps mu H1) ps v ε := by
      intro fv fs
      induction fs generalizing fv with
      | nil => intro _ h; cases h
      | cons q fs ih =>
        intro h h2
        match fv, h with
        | (n, v) :: r, h =>
          obtain ⟨m, e⟩ := q
          obtain ⟨e1, h1, h3⟩ := h
          subst e1
          rw [List.lookup_cons] at h2 ⊢
          cases hb : f == n with
          | true => rw [hb] at h2; cases h2; exact ⟨v, rfl, h1⟩
          | false => rw [hb] at h2; exact ih h3 h2
    obtain ⟨v, g4, g5⟩ := key g3 hl
    exact ⟨pa.1, C, dx, fv, v, rfl, g2, c, na, g4, kk v H1 e1 g5⟩⟩
end
/-! ### calls of one's own defs -/
def spD (Pre : List D → (D → Prop) → Prop) : Sp := fun vs H Q _ => ∃ (M : Addr → Prop) (ds : List D), (∀ b, M b → ∃ o, H b = some o ∧ NT o) ∧ Reps (hid M H) vs ds ∧ Pre ds fun d => ∀ v H', Ext H H' → Rep (hid M H') v d → Q v H'
structure Fn (P : Program) (w : World) (K : PySem.W.Frag) (mg : Str → Option Value) (base : Heap) (x : Str) (k : Nat) (Pre : List D → (D → Prop) → Prop) : Prop where
  ex : ∃ (f : Addr) (fd : FuncData) (ps : List Str), FnOk P w K mg base CX0 k f fd ps (spD Pre) ∧ mg x = some (.ref f) ∧ PySem.W.keepIn K (.ref f) = true ∧ Binds K fd ps []
theorem hid_some {M : Addr → Prop} {H : Hp} {b : Addr} {o : HO} (h : hid M H b = some o) : ¬ M b ∧ H b = some o := by
  unfold hid at h
  split at h
  · cases h
  · rename_i q; exact ⟨q, h⟩
theorem hid_of {M : Addr → Prop} {H : Hp} {b : Addr} (h : ¬ M b) : hid M H b = H b := by unfold hid; rw [if_neg h]
theorem hid_le {M : Addr → Prop} {H : Hp} : Ext (hid M H) H := fun _ _ h => (hid_some h).2
theorem hid_mono {M : Addr → Prop} {H H' : Hp} (e : Ext H H') : Ext (hid M H) (hid M H') := fun a o h => by
  obtain ⟨h1, h2⟩ := hid_some h
  rw [hid_of h1]; exact e _ _ h2
mutual
/-- no list, no dict, no object within -/
def noLst : D → Bool
  | .lst _ => false
  | .dic _ _ => false
  | .rng _ _ => false
  | .obj _ _ _ => false
  | .tup ds => noLsts ds
  | _ => true
def noLsts : List D → Bool
  | [] => true
  | d :: ds => noLst d && noLsts ds
end
mutual
theorem Rep.free {S S' : Hp} (e : ∀ a xs, S a = some (.tup xs) → S' a = some (.tup xs)) : ∀ {v : V} {d : D}, Rep S v d → noLst d = true → Rep S' v d
  | _, _, .non, _ => .non
  | _, _, .bl b, _ => .bl b
  | _, _, .int i, _ => .int i
  | _, _, .str z, _ => .str z
  | _, _, .ty n, _ => .ty n
  | _, _, .tup h r, q => .tup (e _ _ h) (Reps.free e r (by unfold noLst at q; exact q))
  | _, _, .lst h r, q => by unfold noLst at q; cases q
  | _, _, .obj h r, q => by unfold noLst at q; cases q
  | _, _, .dic h r, q => by unfold noLst at q; cases q
  | _, _, .rng h, q => by unfold noLst at q; cases q
theorem Reps.free {S S' : Hp} (e : ∀ a xs, S a = some (.tup xs) → S' a = some (.tup xs)) : ∀ {vs : List V} {ds : List D}, Reps S vs ds → noLsts ds = true → Reps S' vs ds
  | _, _, .nil, _ => .nil
  | _, _, .cons h r, q => by
    unfold noLsts at q
    obtain ⟨q1, q2⟩ := Bool.and_eq_true_iff.mp q
    exact .cons (Rep.free e h q1) (Reps.free e r q2)
end
section
variable {X : Cx} {env : List (Option E)} {mu : List MO} {a b c e : Expr} {ε : E} {pos p : Pos} {d : D} {ds : List D} {es : List Expr} {εs : List E} {x : Str} {k : Nat} {Pre : List D → (D → Prop) → Prop}
theorem stab_hid {F : Fr} {ps : List HA} {H : Hp} : stab F ps mu H = hid (fun b => F.M b ∨ Lv ps mu b) H := rfl
theorem Sat.held {F : Fr} {ps : List HA} {σ : L2.St} {H : Hp} (I : Sat F ps env mu σ H) {b : Addr} (z : F.M b ∨ Lv ps mu b) : ∃ o, H b = some o ∧ NT o := by
  rcases z with z | z
  · obtain ⟨o, q, n⟩ := I.m0 b z; exact ⟨o, I.ex _ _ q, n⟩
  · obtain ⟨k, pa, o, h1, h2, h3, h4⟩ := z
    have m := I.mr k pa o h1 h2
    have one : ∀ {u : HO}, NT u → pa.2 = [] → H pa.1 = some u → ∃ o, H b = some o ∧ NT o := fun n e q => by
      rcases h4 with h4 | h4
      · exact ⟨_, by rw [h4]; exact q, n⟩
      · rw [e] at h4; cases h4
    cases o with
    | lst ds => obtain ⟨e, xs, q, _⟩ := m; exact one (fun _ z => by cases z) e q
    | dic ks ds => obtain ⟨e, kvs, q, _⟩ := m; exact one (fun _ z => by cases z) e q
    | ins C fs => obtain ⟨e, dx, fv, q, _⟩ := m; exact one (fun _ z => by cases z) e q
    | gone => exact absurd rfl h3
    | lol dss =>
      obtain ⟨e, q, c⟩ := m
      rcases h4 with h4 | h4
      · exact ⟨_, by rw [h4]; exact q, fun _ z => by cases z⟩
      · obtain ⟨i, hi, ei⟩ := List.mem_iff_getElem.mp h4
        obtain ⟨xs, g, _⟩ := c i b _ (by rw [← ei]; exact List.getElem?_eq_getElem hi) (List.getElem?_eq_getElem (by rw [← e]; exact hi))
        exact ⟨_, g, fun _ z => by cases z⟩
/-- whatever comes back -/
def EvP (X : Cx) (e : Expr) (env : List (Option E)) (mu : List MO) (P : D → Prop) : Prop := ∀ F ps σ H Q, Sat F ps env mu σ H → (∀ v d H', P d → Ext H H' → Rep (stab F ps mu H') v d → Q v H') → wE X e σ H Q
theorem evp_call {P : D → Prop} (G : Fn X.prog X.w X.K X.mg X.base x k Pre) (hr : Room k X.A) (hg : Gl X x) (ha : EvA X (e :: es) env mu εs) (hd : dsOf εs = some ds) (hp : ∀ k : D → Prop, (∀ d, P d → k d) → Pre ds k)
    (hdb : (x == ("__debug__" : Str)) = false := by decide) (he : starEach (e :: es) X.env = (false, eval e X.env) :: starEach es X.env := by rfl) (hpl : (backTo pos (starEach es X.env)).any (·.1) = false := by rfl) : EvP X (.Call (.Name x p) (e :: es) [] pos) env mu P := by
  obtain ⟨f, fd, ps', G, hm, hk, hb⟩ := G.ex
  exact fun F ps σ H Q I kk => ⟨_, pe_call G hr hg hm hk hb .nil pass0 pA hdb he hpl, ha F ps σ H _ I fun vs H1 e1 r1 => by
    have I1 := I.mono e1
    show spD Pre (vs ++ []) H1 Q E0
    rw [List.append_nil]
    refine ⟨fun b => F.M b ∨ Lv ps mu b, ds, fun b z => I1.held z, dsOf_rep r1 hd, hp _ fun d pd v H2 e2 r2 => kk v d H2 pd (e1.trans e2) r2⟩⟩
theorem EvP.ev (h : EvP X e env mu (fun z => z = d)) : Ev X e env mu (.d d) := fun F ps σ H Q I k => h F ps σ H Q I fun v z H' pz ex r => k v H' ex (by subst pz; exact r)
theorem ev_call (G : Fn X.prog X.w X.K X.mg X.base x k Pre) (hr : Room k X.A) (hg : Gl X x) (ha : EvA X (e :: es) env mu εs) (hd : dsOf εs = some ds) (hp : ∀ k : D → Prop, k d → Pre ds k)
    (hdb : (x == ("__debug__" : Str)) = false := by decide) (he : starEach (e :: es) X.env = (false, eval e X.env) :: starEach es X.env := by rfl) (hpl : (backTo pos (starEach es X.env)).any (·.1) = false := by rfl) : Ev X (.Call (.Name x p) (e :: es) [] pos) env mu (.d d) :=
  (evp_call (P := fun z => z = d) G hr hg ha hd (fun k q => hp k (q d rfl)) hdb he hpl).ev
/-- arguments that are lists of one's own are lent -/
def lend (mu : List MO) : E → Option D
  | .d d => some d
  | ε => (match seqE mu ε with
    | some (true, ds) => some (.tup ds)
    | some (false, ds) => some (.lst ds)
    | none => none)
def lends (mu : List MO) : List E → Option (List D)
  | [] => some []
  | ε :: r => (match lend mu ε, lends mu r with
    | some d, some ds => some (d :: ds)
    | _, _ => none)
theorem lends_rep {F : Fr} {ps : List HA} {σ : L2.St} {H : Hp} (I : Sat F ps env mu σ H) : ∀ {vs : List V} {εs : List E} {ds : List D}, EReps (stab F ps mu H) ps vs εs → lends mu εs = some ds →
    ∃ M' : Addr → Prop, (∀ b, M' b → F.M b ∨ Lv ps mu b) ∧ (∀ b, F.M b ∨ Lv ps mu b → ¬ M' b → ∃ xs, H b = some (.lst xs)) ∧ Reps (hid M' H) vs ds
  | [], [], ds, _, h => by cases h; exact ⟨fun b => F.M b ∨ Lv ps mu b, fun _ z => z, fun _ z n => absurd z n, .nil⟩
  | v :: vs, ε :: r, ds, q, h => by
    unfold lends at h
    cases g1 : lend mu ε with
    | none => rw [g1] at h; cases h
    | some d1 =>
      cases g2 : lends mu r with
      | none => rw [g1, g2] at h; cases h
      | some d2 =>
        rw [g1, g2] at h
        cases h
        obtain ⟨M', m1, m2, m3⟩ := lends_rep I q.2 g2
        have sub : Ext (stab F ps mu H) (hid M' H) := fun a o z => by
          obtain ⟨z1, z2, z3⟩ := stab_some z
          rw [hid_of (fun y => (m1 a y).elim z1 z2)]; exact z3
        have done : ∀ d, Rep (stab F ps mu H) v d → ∃ M' : Addr → Prop, (∀ b, M' b → F.M b ∨ Lv ps mu b) ∧ (∀ b, F.M b ∨ Lv ps mu b → ¬ M' b → ∃ xs, H b = some (.lst xs)) ∧ Reps (hid M' H) (v :: vs) (d :: d2) := fun d r => ⟨M', m1, m2, .cons (r.mono sub) m3⟩
        have own : ∀ es, seqE mu ε = some (false, es) → ∃ M' : Addr → Prop, (∀ b, M' b → F.M b ∨ Lv ps mu b) ∧ (∀ b, F.M b ∨ Lv ps mu b → ¬ M' b → ∃ xs, H b = some (.lst xs)) ∧ Reps (hid M' H) (v :: vs) (.lst es :: d2) := fun es he => by
          obtain ⟨a, xs, rfl, g, rr⟩ := seqE_rep I q.1 he
          refine ⟨fun b => M' b ∧ b ≠ a, fun b z => m1 b z.1, fun b z n => ?_, ?_⟩
          · by_cases hb : b = a
            · exact ⟨xs, by rw [hb]; exact g⟩
            · exact m2 b z fun y => n ⟨y, hb⟩
          · have s2 : Ext (hid M' H) (hid (fun b => M' b ∧ b ≠ a) H) := fun c o z => by
              obtain ⟨z1, z2⟩ := hid_some z
              rw [hid_of (fun y => z1 y.1)]; exact z2
            exact .cons (.lst (by rw [hid_of (fun y => y.2 rfl)]; exact g) ((rr.mono sub).mono s2)) (m3.mono s2)
        cases ε with
        | d d => cases g1; exact done _ q.1
        | «at» n =>
          have g1 : (match seqE mu (.at n) with
            | some (true, ds) => some (D.tup ds)
            | some (false, ds) => some (D.lst ds)
            | none => none) = some d1 := g1
          cases g3 : seqE mu (.at n) with
          | none => rw [g3] at g1; cases g1
          | some tp =>
            obtain ⟨t, es⟩ := tp
            cases t with
            | false => rw [g3] at g1; cases g1; exact own es g3
            | true =>
              obtain ⟨pa, y1, y2⟩ := q.1
              have g3' : (match mu[n]? with
                | some (.lst ds) => some (false, ds)
                | _ => none) = some (true, es) := g3
              split at g3' <;> cases g3'
        | sub n i =>
          have g1 : (match seqE mu (.sub n i) with
            | some (true, ds) => some (D.tup ds)
            | some (false, ds) => some (D.lst ds)
            | none => none) = some d1 := g1
          cases g3 : seqE mu (.sub n i) with
          | none => rw [g3] at g1; cases g1
          | some tp =>
            obtain ⟨t, es⟩ := tp
            cases t with
            | false => rw [g3] at g1; cases g1; exact own es g3
            | true =>
              have g3' : (match mu[n]? with
                | some (.lol dss) => dss[i]?.map fun ds => (false, ds)
                | _ => none) = some (true, es) := g3
              split at g3'
              · rename_i dss _
                cases g5 : dss[i]? with
                | none => rw [g5] at g3'; cases g3'
                | some y => rw [g5] at g3'; cases g3'
              · cases g3'
        | raw ns => cases g1
  | [], _ :: _, _, q, _ => q.elim
  | _ :: _, [], _, q, _ => q.elim
/-- a call with lent arguments: what comes back holds no list -/
theorem ev_callL (G : Fn X.prog X.w X.K X.mg X.base x k Pre) (hr : Room k X.A) (hg : Gl X x) (ha : EvA X (e :: es) env mu εs) (hd : lends mu εs = some ds) (hn : noLst d = true) (hp : ∀ k : D → Prop, k d → Pre ds k)
    (hdb : (x == ("__debug__" : Str)) = false := by decide) (he : starEach (e :: es) X.env = (false, eval e X.env) :: starEach es X.env := by rfl) (hpl : (backTo pos (starEach es X.env)).any (·.1) = false := by rfl) : Ev X (.Call (.Name x p) (e :: es) [] pos) env mu (.d d) := by
  obtain ⟨f, fd, ps', G, hm, hk, hb⟩ := G.ex
  exact fun F ps σ H Q I kk => ⟨_, pe_call G hr hg hm hk hb .nil pass0 pA hdb he hpl, ha F ps σ H _ I fun vs H1 e1 r1 => by
    have I1 := I.mono e1
    show spD Pre (vs ++ []) H1 Q E0
    rw [List.append_nil]
    obtain ⟨M', m1, m2, m3⟩ := lends_rep I1 r1 hd
    refine ⟨M', ds, fun b z => I1.held (m1 b z), m3, hp _ fun v H2 e2 r2 => kk v H2 (e1.trans e2) (Rep.free (fun a xs z => ?_) r2 hn)⟩
    obtain ⟨z1, z2⟩ := hid_some z
    have nb : ¬ (F.M a ∨ Lv ps mu a) := fun y => by
      obtain ⟨us, q⟩ := m2 a y z1
      rw [e2 _ _ q] at z2; cases z2
    rw [stab_of (fun y => nb (.inl y)) (fun y => nb (.inr y))]; exact z2⟩
end
end Cw
namespace Cw
open PySem PySem.Spec PyProof.Rows L2
/-! ### what is walked -/
inductive Item where
  | one (ε : E) | two (ε1 ε2 : E)
def IRep (S : Hp) (ps : List HA) (H : Hp) (x : V) : Item → Prop
  | .one ε => ERep S ps x ε
  | .two ε1 ε2 => ∃ T v w, x = .ref T ∧ H T = some (.tup [v, w]) ∧ ERep S ps v ε1 ∧ ERep S ps w ε2
/-- the iterator J yields these items, as long as what it reads stands -/
def ItOk (S1 : Hp) (ps : List HA) (J : It) (items : List Item) (src : List MO → Prop) : Prop := ∀ F' ps' env' mu' σ' H', Sat F' ps' env' mu' σ' H' → Ext S1 (stab F' ps' mu' H') → ps <+: ps' → src mu' →
  (∀ i item, items[i]? = some item → J.go i H' ∧ ∀ x H'', J.yld i H' x H'' → Ext H' H'' ∧ IRep (stab F' ps' mu' H'') ps' H'' x item) ∧ J.stop items.length H'
def EvI (X : Cx) (tg it : Expr) (env : List (Option E)) (mu : List MO) (items : List Item) (src : List MO → Prop) : Prop := ∀ F ps σ H R, Sat F ps env mu σ H → (∀ J H1, Ext H H1 → ItOk (stab F ps mu H1) ps J items src → R J H1) → wI X tg it σ H R
theorem prefix_get {α : Type} {l l' : List α} {i : Nat} {x : α} (h : l <+: l') (e : l[i]? = some x) : l'[i]? = some x := by
  obtain ⟨r, rfl⟩ := h
  rw [List.getElem?_append_left (List.getElem?_eq_some_iff.mp e).1]; exact e
section
variable {X : Cx} {env : List (Option E)} {mu : List MO} {a b c e tg : Expr} {ε ε1 ε2 : E} {pos p : Pos} {d : D} {ds : List D} {i j : Int}
abbrev anyMu : List MO → Prop := fun _ => True
/-- over closed data -/
theorem ei_tup (ha : Ev X e env mu (.d (.tup ds))) : EvI X tg e env mu (ds.map fun d => .one (.d d)) anyMu := fun F ps σ H R I k =>
  ⟨_, pi_tup pE, ha F ps σ H _ I fun v H1 e1 r1 => by
    obtain ⟨a, xs, rfl, g, r⟩ := Rep.tup_eq r1
    refine ⟨a, rfl, ⟨xs, SqT.of (stab_le _ _ g)⟩, k _ H1 e1 fun F' ps' env' mu' σ' H' I' ex pf _ => ?_⟩
    have g' : H' a = some (.tup xs) := stab_le _ _ (ex _ _ g)
    refine ⟨fun i item hi => ?_, ⟨xs, SqT.of g', by rw [List.length_map, r.length]; exact Nat.le_refl _⟩⟩
    rw [List.getElem?_map] at hi
    cases q : ds[i]? with
    | none => rw [q] at hi; cases hi
    | some d =>
      rw [q] at hi
      cases hi
      obtain ⟨x, hx, rx⟩ := r.get q
      refine ⟨⟨xs, x, SqT.of g', hx⟩, fun y H'' hy => ?_⟩
      obtain ⟨rfl, hy⟩ := hy
      have : x = y := by have z := hy xs (SqT.of g'); rw [hx] at z; exact Option.some.inj z
      subst this
      exact ⟨Ext.refl _, rx.mono ex⟩⟩
theorem ei_lst (ha : Ev X e env mu (.d (.lst ds))) : EvI X tg e env mu (ds.map fun d => .one (.d d)) anyMu := fun F ps σ H R I k =>
  ⟨_, pi_list pE, ha F ps σ H _ I fun v H1 e1 r1 => by
    obtain ⟨a, xs, rfl, g, r⟩ := Rep.lst_eq r1
    refine ⟨a, rfl, ⟨xs, SqL.of (stab_le _ _ g)⟩, k _ H1 e1 fun F' ps' env' mu' σ' H' I' ex pf _ => ?_⟩
    have g' : H' a = some (.lst xs) := stab_le _ _ (ex _ _ g)
    refine ⟨fun i item hi => ?_, ⟨xs, SqL.of g', by rw [List.length_map, r.length]; exact Nat.le_refl _⟩⟩
    rw [List.getElem?_map] at hi
    cases q : ds[i]? with
    | none => rw [q] at hi; cases hi
    | some d =>
      rw [q] at hi
      cases hi
      obtain ⟨x, hx, rx⟩ := r.get q
      refine ⟨⟨xs, x, SqL.of g', hx⟩, fun y H'' hy => ?_⟩
      obtain ⟨rfl, hy⟩ := hy
      have : x = y := by have z := hy xs (SqL.of g'); rw [hx] at z; exact Option.some.inj z
      subst this
      exact ⟨Ext.refl _, rx.mono ex⟩⟩
/-- over a list of one's own, which stays as it is -/
theorem ei_own {k : Nat} (ha : Ev X e env mu (.at k)) (hk : mu[k]? = some (.lst ds)) : EvI X tg e env mu (ds.map fun d => .one (.d d)) (fun mu' => mu'[k]? = some (.lst ds)) := fun F ps σ H R I kk =>
  ⟨_, pi_list pE, ha F ps σ H _ I fun v H1 e1 r1 => by
    obtain ⟨pa, p1, rfl⟩ := r1
    obtain ⟨_, xs0, g0, r0⟩ := (I.mono e1).mr k pa _ p1 hk
    refine ⟨pa.1, rfl, ⟨xs0, SqL.of g0⟩, kk _ H1 e1 fun F' ps' env' mu' σ' H' I' ex pf hs => ?_⟩
    obtain ⟨_, xs, g', r⟩ := I'.mr k pa _ (prefix_get pf p1) hs
    refine ⟨fun i item hi => ?_, ⟨xs, SqL.of g', by rw [List.length_map, r.length]; exact Nat.le_refl _⟩⟩
    rw [List.getElem?_map] at hi
    cases q : ds[i]? with
    | none => rw [q] at hi; cases hi
    | some d =>
      rw [q] at hi
      cases hi
      obtain ⟨x, hx, rx⟩ := r.get q
      refine ⟨⟨xs, x, SqL.of g', hx⟩, fun y H'' hy => ?_⟩
      obtain ⟨rfl, hy⟩ := hy
      have : x = y := by have z := hy xs (SqL.of g'); rw [hx] at z; exact Option.some.inj z
      subst this
      exact ⟨Ext.refl _, rx⟩⟩
/-- over a list of one's own lists: each by its place -/
theorem ei_lol {k : Nat} {dss : List (List D)} (ha : Ev X e env mu (.at k)) (hk : mu[k]? = some (.lol dss)) : EvI X tg e env mu ((List.range dss.length).map fun i => .one (.sub k i)) (fun mu' => ∃ dss', mu'[k]? = some (.lol dss') ∧ dss'.length = dss.length) := fun F ps σ H R I kk =>
  ⟨_, pi_list pE, ha F ps σ H _ I fun v H1 e1 r1 => by
    obtain ⟨pa, p1, rfl⟩ := r1
    obtain ⟨l0, g0, r0⟩ := (I.mono e1).mr k pa _ p1 hk
    refine ⟨pa.1, rfl, ⟨_, SqL.of g0⟩, kk _ H1 e1 fun F' ps' env' mu' σ' H' I' ex pf hs => ?_⟩
    obtain ⟨dss', h1, h2⟩ := hs
    have p' := prefix_get pf p1
    obtain ⟨l', g', r⟩ := I'.mr k pa _ p' h1
    refine ⟨fun i item hi => ?_, ⟨_, SqL.of g', by rw [List.length_map, List.length_map, List.length_range, l0]; exact Nat.le_refl _⟩⟩
    rw [List.getElem?_map] at hi
    cases q : (List.range dss.length)[i]? with
    | none => rw [q] at hi; cases hi
    | some n =>
      rw [q] at hi
      cases hi
      obtain ⟨hn, en⟩ := List.getElem?_eq_some_iff.mp q
      rw [List.getElem_range] at en
      subst en
      have hi2 : i < pa.2.length := by rw [l0]; simpa using hn
      have hx : (pa.2.map V.ref)[i]? = some (.ref pa.2[i]) := by rw [List.getElem?_map, List.getElem?_eq_getElem hi2]; rfl
      refine ⟨⟨_, _, SqL.of g', hx⟩, fun y H'' hy => ?_⟩
      obtain ⟨rfl, hy⟩ := hy
      have : V.ref pa.2[i] = y := by have z := hy _ (SqL.of g'); rw [hx] at z; exact Option.some.inj z
      subst this
      exact ⟨Ext.refl _, pa, pa.2[i], p', List.getElem?_eq_getElem hi2, rfl⟩⟩
theorem ei_range1 (hg : Gl X "range") (hm : X.mg "range" = none) (n1 : NoStar a) (ha : Ev X a env mu (.d (.int i))) (hb : i < 2 ^ 62) (h0 : -(2 ^ 62) ≤ i) : EvI X tg (.Call (.Name "range" p) [a] [] pos) env mu ((List.range i.toNat).map fun (n : Nat) => .one (.d (.int (n : Int)))) anyMu := fun F ps σ H R I k =>
  ⟨_, pi_range1 hg hm pA (n1 _ _), (ea_cons ha ea_nil n1) F ps σ H _ I fun vs H1 e1 r1 => by
    obtain ⟨v, rfl, r⟩ := er1 r1
    obtain rfl := Rep.int_eq r
    refine ⟨i, rfl, h0, hb, k _ H1 e1 fun F' ps' env' mu' σ' H' I' ex pf _ => ⟨fun n item hi => ?_, by rw [List.length_map, List.length_range]; exact Nat.le_refl _⟩⟩
    rw [List.getElem?_map] at hi
    cases q : (List.range i.toNat)[n]? with
    | none => rw [q] at hi; cases hi
    | some m =>
      rw [q] at hi
      cases hi
      obtain ⟨hn, en⟩ := List.getElem?_eq_some_iff.mp q
      rw [List.getElem_range] at en
      subst en
      refine ⟨by rw [List.length_range] at hn; exact hn, fun y H'' hy => ?_⟩
      obtain ⟨rfl, rfl⟩ := hy
      exact ⟨Ext.refl _, by rw [Int.zero_add]; exact .int _⟩⟩
theorem ei_range2 (hg : Gl X "range") (hm : X.mg "range" = none) (n1 : NoStar a) (n2 : NoStar b) (ha : Ev X a env mu (.d (.int i))) (hb : Ev X b env mu (.d (.int j))) (h : -(2 ^ 62) ≤ i ∧ i < 2 ^ 62 ∧ -(2 ^ 62) ≤ j ∧ j < 2 ^ 62) :
    EvI X tg (.Call (.Name "range" p) [a, b] [] pos) env mu ((List.range (j - i).toNat).map fun (n : Nat) => .one (.d (.int (i + (n : Int))))) anyMu := fun F ps σ H R I k =>
  ⟨_, pi_range2 hg hm pA (by rw [n1, n2]; rfl) (n2 _ _), (ea_cons ha (ea_cons hb ea_nil n2) n1) F ps σ H _ I fun vs H1 e1 r1 => by
    obtain ⟨v, w, rfl, r, r'⟩ := er2 r1
    obtain rfl := Rep.int_eq r
    obtain rfl := Rep.int_eq r'
    refine ⟨i, j, rfl, h, k _ H1 e1 fun F' ps' env' mu' σ' H' I' ex pf _ => ⟨fun n item hi => ?_, by rw [List.length_map, List.length_range]; exact Nat.le_refl _⟩⟩
    rw [List.getElem?_map] at hi
    cases q : (List.range (j - i).toNat)[n]? with
    | none => rw [q] at hi; cases hi
    | some m =>
      rw [q] at hi
      cases hi
      obtain ⟨hn, en⟩ := List.getElem?_eq_some_iff.mp q
      rw [List.getElem_range] at en
      subst en
      refine ⟨by rw [List.length_range] at hn; exact hn, fun y H'' hy => ?_⟩
      obtain ⟨rfl, rfl⟩ := hy
      exact ⟨Ext.refl _, .int _⟩⟩
/-- over the signs of a text -/
theorem ei_str {z : Str} (ha : Ev X e env mu (.d (.str z))) : EvI X tg e env mu (z.cps.toList.map fun c => .one (.d (.str ⟨#[c]⟩))) anyMu := fun F ps σ H R I k =>
  ⟨_, pi_str pE, ha F ps σ H _ I fun v H1 e1 r1 => by
    obtain rfl := Rep.str_eq r1
    refine ⟨z, rfl, k _ H1 e1 fun F' ps' env' mu' σ' H' I' ex pf _ => ⟨fun n item hi => ?_, by rw [List.length_map, Array.length_toList]; exact Nat.le_refl _⟩⟩
    rw [List.getElem?_map] at hi
    cases q : z.cps.toList[n]? with
    | none => rw [q] at hi; cases hi
    | some m =>
      rw [q] at hi
      cases hi
      have q' : z.cps[n]? = some m := by simpa using q
      refine ⟨by have := (Array.getElem?_eq_some_iff.mp q').1; exact this, fun y H'' hy => ?_⟩
      obtain ⟨rfl, c, hc, rfl⟩ := hy
      rw [q'] at hc
      cases hc
      exact ⟨Ext.refl _, .str _⟩⟩
/-- closed data, read again later -/
theorem seqD_rep {S : Hp} {v : V} {t : Bool} (r : Rep S v d) (h : seqE [] (.d d) = some (t, ds)) : ∃ a xs, v = .ref a ∧ S a = some (hoOf t xs) ∧ Reps S xs ds := by
  cases d with
  | tup es => cases h; obtain ⟨a, xs, e1, e2, e3⟩ := Rep.tup_eq r; exact ⟨a, xs, e1, e2, e3⟩
  | lst es => cases h; obtain ⟨a, xs, e1, e2, e3⟩ := Rep.lst_eq r; exact ⟨a, xs, e1, e2, e3⟩
  | _ => cases h
def seqD : D → Option (Bool × List D)
  | .tup ds => some (true, ds)
  | .lst ds => some (false, ds)
  | _ => none
theorem seqD_is {t : Bool} {S : Hp} {v : V} (r : Rep S v d) (h : seqD d = some (t, ds)) : ∃ a xs, v = .ref a ∧ S a = some (hoOf t xs) ∧ Reps S xs ds := by
  cases d with
  | tup es => cases h; obtain ⟨a, xs, e1, e2, e3⟩ := Rep.tup_eq r; exact ⟨a, xs, e1, e2, e3⟩
  | lst es => cases h; obtain ⟨a, xs, e1, e2, e3⟩ := Rep.lst_eq r; exact ⟨a, xs, e1, e2, e3⟩
  | _ => cases h
variable {elts : List Expr} {kk : Nat} {tpos : Pos} {t u : Bool}
theorem ei_enum (hg : Gl X "enumerate") (hm : X.mg "enumerate" = none) (n1 : NoStar e) (ha : Ev X e env mu (.d d)) (hs : seqD d = some (t, ds)) : EvI X (.Tuple elts kk tpos) (.Call (.Name "enumerate" p) [e] [] pos) env mu (ds.zipIdx.map fun q => .two (.d (.int (q.2 : Int))) (.d q.1)) anyMu := fun F ps σ H R I k =>
  ⟨_, pi_en hg hm pA (n1 _ _), (ea_cons ha ea_nil n1) F ps σ H _ I fun vs H1 e1 r1 => by
    obtain ⟨v, rfl, r⟩ := er1 r1
    obtain ⟨a, xs, rfl, g, r⟩ := seqD_is r hs
    refine ⟨t, a, xs, rfl, stab_le _ _ g, k _ H1 e1 fun F' ps' env' mu' σ' H' I' ex pf _ => ?_⟩
    have g' : H' a = some (hoOf t xs) := stab_le _ _ (ex _ _ g)
    refine ⟨fun i item hi => ?_, ⟨xs, g', by rw [List.length_map, List.length_zipIdx, r.length]⟩⟩
    rw [List.getElem?_map, List.getElem?_zipIdx] at hi
    cases q : ds[i]? with
    | none => rw [q] at hi; cases hi
    | some d =>
      rw [q] at hi
      cases hi
      obtain ⟨x, hx, rx⟩ := r.get q
      refine ⟨⟨xs, x, g', hx⟩, fun y H'' hy => ?_⟩
      obtain ⟨T, z, rfl, hT, rfl, hz⟩ := hy
      have : x = z := by have w := hz xs g'; rw [hx] at w; exact Option.some.inj w
      subst this
      refine ⟨Ext.new hT, T, _, _, rfl, upd_same, ?_, (rx.mono ex).mono (stab_mono (Ext.new hT))⟩
      show Rep _ _ (.int ((0 + i : Nat) : Int))
      rw [Nat.zero_add]; exact .int _⟩
/-- enumerate of a list of one's own lists -/
theorem ei_enumL {k : Nat} {dss : List (List D)} (hg : Gl X "enumerate") (hm : X.mg "enumerate" = none) (n1 : NoStar e) (ha : Ev X e env mu (.at k)) (hk : mu[k]? = some (.lol dss)) :
    EvI X (.Tuple elts kk tpos) (.Call (.Name "enumerate" p) [e] [] pos) env mu ((List.range dss.length).map fun (i : Nat) => .two (.d (.int (i : Int))) (.sub k i)) (fun mu' => ∃ dss', mu'[k]? = some (.lol dss') ∧ dss'.length = dss.length) := fun F ps σ H R I kk =>
  ⟨_, pi_en hg hm pA (n1 _ _), (ea_cons ha ea_nil n1) F ps σ H _ I fun vs H1 e1 r1 => by
    obtain ⟨v, rfl, r2⟩ := er1 r1
    obtain ⟨pa, p1, rfl⟩ := r2
    obtain ⟨l0, g0, r0⟩ := (I.mono e1).mr k pa _ p1 hk
    refine ⟨false, pa.1, _, rfl, g0, kk _ H1 e1 fun F' ps' env' mu' σ' H' I' ex pf hs => ?_⟩
    obtain ⟨dss', h1, h2⟩ := hs
    have p' := prefix_get pf p1
    obtain ⟨l', g', r⟩ := I'.mr k pa _ p' h1
    refine ⟨fun i item hi => ?_, ⟨_, g', by rw [List.length_map, List.length_map, List.length_range, l0]⟩⟩
    rw [List.getElem?_map] at hi
    cases q : (List.range dss.length)[i]? with
    | none => rw [q] at hi; cases hi
    | some n =>
      rw [q] at hi
      cases hi
      obtain ⟨hn, en⟩ := List.getElem?_eq_some_iff.mp q
      rw [List.getElem_range] at en
      subst en
      have hi2 : i < pa.2.length := by rw [l0]; simpa using hn
      have hx : (pa.2.map V.ref)[i]? = some (.ref pa.2[i]) := by rw [List.getElem?_map, List.getElem?_eq_getElem hi2]; rfl
      refine ⟨⟨_, _, g', hx⟩, fun y H'' hy => ?_⟩
      obtain ⟨T, z, rfl, hT, rfl, hz⟩ := hy
      have : V.ref pa.2[i] = z := by have w := hz _ g'; rw [hx] at w; exact Option.some.inj w
      subst this
      exact ⟨Ext.new hT, T, _, _, rfl, upd_same, .int _, pa, pa.2[i], p', List.getElem?_eq_getElem hi2, rfl⟩⟩
theorem ei_zip {d1 d2 : D} {ds1 ds2 : List D} (hg : Gl X "zip") (hm : X.mg "zip" = none) (n1 : NoStar a) (n2 : NoStar b) (ha : Ev X a env mu (.d d1)) (hb : Ev X b env mu (.d d2)) (h1 : seqD d1 = some (t, ds1)) (h2 : seqD d2 = some (u, ds2)) :
    EvI X (.Tuple elts kk tpos) (.Call (.Name "zip" p) [a, b] [] pos) env mu ((ds1.zip ds2).map fun q => .two (.d q.1) (.d q.2)) anyMu := fun F ps σ H R I k =>
  ⟨_, pi_zi hg hm pA (n1 _ _) (no_star2 n2), (ea_cons ha (ea_cons hb ea_nil n2) n1) F ps σ H _ I fun vs H1 e1 r1 => by
    obtain ⟨v, w, rfl, r, r'⟩ := er2 r1
    obtain ⟨a1, xs, rfl, g, r⟩ := seqD_is r h1
    obtain ⟨b1, ys, rfl, g2, r'⟩ := seqD_is r' h2
    refine ⟨t, u, a1, b1, xs, ys, rfl, stab_le _ _ g, stab_le _ _ g2, k _ H1 e1 fun F' ps' env' mu' σ' H' I' ex pf _ => ?_⟩
    have g' : H' a1 = some (hoOf t xs) := stab_le _ _ (ex _ _ g)
    have g2' : H' b1 = some (hoOf u ys) := stab_le _ _ (ex _ _ g2)
    have l1 := r.length
    have l2 := r'.length
    refine ⟨fun i item hi => ?_, ⟨xs, ys, g', g2', ?_⟩⟩
    · rw [List.getElem?_map] at hi
      cases q : (ds1.zip ds2)[i]? with
      | none => rw [q] at hi; cases hi
      | some d =>
        rw [q] at hi
        cases hi
        obtain ⟨q1, q2⟩ := List.getElem?_zip_eq_some.mp q
        obtain ⟨x, hx, rx⟩ := r.get q1
        obtain ⟨y, hy, ry⟩ := r'.get q2
        refine ⟨⟨xs, ys, x, y, g', g2', hx, hy⟩, fun z H'' hz => ?_⟩
        obtain ⟨T, x', y', rfl, hT, rfl, hz1, hz2⟩ := hz
        have e1 : x = x' := by have w := hz1 xs g'; rw [hx] at w; exact Option.some.inj w
        have e2 : y = y' := by have w := hz2 ys g2'; rw [hy] at w; exact Option.some.inj w
        subst e1 e2
        exact ⟨Ext.new hT, T, _, _, rfl, upd_same, (rx.mono ex).mono (stab_mono (Ext.new hT)), (ry.mono ex).mono (stab_mono (Ext.new hT))⟩
    · rw [List.length_map, List.length_zip]
      omega⟩
/-! ### targets -/
inductive Tg where
  | one (j : Nat) | two (j1 j2 : Nat)
def TgOk (X : Cx) (tg : Expr) : Tg → Prop
  | .one j => PG X tg (gName j)
  | .two j1 j2 => PG X tg (gTup X.K 2 (gCons (gName j1) (gCons (gName j2) gNil)))
def bindT (env : List (Option E)) : Tg → Item → Option (List (Option E))
  | .one j, .one ε => some (env.set j (some ε))
  | .two j1 j2, .two ε1 ε2 => some ((env.set j1 (some ε1)).set j2 (some ε2))
  | .two j1 j2, .one (.d (.tup [d1, d2])) => some ((env.set j1 (some (.d d1))).set j2 (some (.d d2)))
  | _, _ => none
theorem Sat.setSlot {F : Fr} {ps : List HA} {σ : L2.St} {H : Hp} (I : Sat F ps env mu σ H) {v : V} (r : ERep (stab F ps mu H) ps v ε) (j : Nat) : Sat F ps (env.set j (some ε)) mu (σ.set j (some v)) H where
  ex := I.ex
  m0 := I.m0
  fr := I.fr
  nd := I.nd
  len := I.len
  tr := I.tr
  mr := I.mr
  ln := by rw [List.length_set, List.length_set]; exact I.ln
  en := fun i ε' h => by
    by_cases hi : j = i
    · subst hi
      have hl : j < env.length := by have := (List.getElem?_eq_some_iff.mp h).1; simpa using this
      rw [List.getElem?_set_self hl] at h
      cases h
      exact ⟨v, List.getElem?_set_self (by rw [← I.ln]; exact hl), r⟩
    · rw [List.getElem?_set_ne hi] at h ⊢
      exact I.en i ε' h
theorem Sat.unsetSlot {F : Fr} {ps : List HA} {σ : L2.St} {H : Hp} (I : Sat F ps env mu σ H) (j : Nat) : Sat F ps (env.set j none) mu (σ.set j none) H where
  ex := I.ex
  m0 := I.m0
  fr := I.fr
  nd := I.nd
  len := I.len
  tr := I.tr
  mr := I.mr
  ln := by rw [List.length_set, List.length_set]; exact I.ln
  en := fun i ε' h => by
    by_cases hi : j = i
    · subst hi
      have hl : j < env.length := by have := (List.getElem?_eq_some_iff.mp h).1; simpa using this
      rw [List.getElem?_set_self hl] at h
      cases h
    · rw [List.getElem?_set_ne hi] at h ⊢
      exact I.en i ε' h
def wipeE (env : List (Option E)) : List Nat → List (Option E)
  | [] => env
  | v :: vs => (wipeE env vs).set v none
theorem Sat.wipe {F : Fr} {ps : List HA} {σ : L2.St} {H : Hp} (I : Sat F ps env mu σ H) : ∀ vs : List Nat, Sat F ps (wipeE env vs) mu (L2.wipe σ vs) H
  | [] => I
  | v :: vs => (Sat.wipe I vs).unsetSlot v
/-- the target is stored -/
theorem bind_run {F : Fr} {ps : List HA} {σ : L2.St} {H : Hp} {tg : Expr} {T : Tg} {item : Item} {env' : List (Option E)} {x : V} {Q : L2.St → Hp → Prop} (I : Sat F ps env mu σ H) (r : IRep (stab F ps mu H) ps H x item) (hb : bindT env T item = some env') (ok : TgOk X tg T)
    (h : ∀ σ', Sat F ps env' mu σ' H → (∀ vs : List Nat, (∀ j, (T = .one j → j ∈ vs)) → (∀ j1 j2, T = .two j1 j2 → j1 ∈ vs ∧ j2 ∈ vs) → L2.wipe σ' vs = L2.wipe σ vs) → Q σ' H) : wG X tg x σ H Q := by
  have wset : ∀ (vs : List Nat) (σ : L2.St) (j : Nat) (o : Option V), j ∈ vs → L2.wipe (σ.set j o) vs = L2.wipe σ vs := by
    intro vs
    induction vs with
    | nil => intro σ j o h; cases h
    | cons v vs ih =>
      intro σ j o h
      unfold L2.wipe
      by_cases hm : j ∈ vs
      · rw [ih σ j o hm]
      · have e : j = v := by rcases List.mem_cons.mp h with h | h; exact h; exact absurd h hm
        subst e
        have key : ∀ (us : List Nat) (σ : L2.St), j ∉ us → L2.wipe (σ.set j o) us = (L2.wipe σ us).set j o := by
          intro us
          induction us with
          | nil => intro σ _; rfl
          | cons u us ih2 =>
            intro σ hn
            unfold L2.wipe
            rw [ih2 σ (fun z => hn (List.mem_cons_of_mem _ z)), List.set_comm _ _ (fun z => hn (by rw [z]; exact List.mem_cons_self))]
        rw [key vs σ hm, List.set_set]
  cases T with
  | one j =>
    cases item with
    | two _ _ => cases hb
    | one ε =>
      cases hb
      exact ⟨_, ok, h _ (I.setSlot r j) fun vs h1 _ => wset vs σ j _ (h1 j rfl)⟩
  | two j1 j2 =>
    have fin : ∀ (T : Addr) (v w : V) (ε1 ε2 : E), x = .ref T → H T = some (.tup [v, w]) → ERep (stab F ps mu H) ps v ε1 → ERep (stab F ps mu H) ps w ε2 → env' = (env.set j1 (some ε1)).set j2 (some ε2) → wG X tg x σ H Q := fun T v w ε1 ε2 ex hT r1 r2 he => by
      subst ex he
      refine ⟨_, ok, T, [v, w], rfl, SqT.of hT, rfl, v, [w], rfl, w, [], rfl, rfl, h _ ((I.setSlot r1 j1).setSlot r2 j2) fun vs _ h2 => ?_⟩
      obtain ⟨m1, m2⟩ := h2 j1 j2 rfl
      rw [wset vs _ j2 _ m2, wset vs _ j1 _ m1]
    cases item with
    | two ε1 ε2 =>
      obtain ⟨T, v, w, ex, hT, r1, r2⟩ := r
      exact fin T v w ε1 ε2 ex hT r1 r2 (Option.some.inj hb).symm
    | one ε =>
      cases ε with
      | d d =>
        cases d with
        | tup ds =>
          match ds, hb with
          | [d1, d2], hb =>
            obtain ⟨T, xs, ex, g, q⟩ := Rep.tup_eq r
            match xs, q with
            | [v, w], .cons q1 (.cons q2 .nil) => exact fin T v w (.d d1) (.d d2) ex (stab_le _ _ g) q1 q2 (Option.some.inj hb).symm
        | _ => cases hb
      | _ => cases hb
end
/-! ### comprehensions -/
structure OkX (X : Cx) : Prop where
  calm : X.calm = true
  nd : X.N.Nodup
  po : PassesOwn (model X.prog X.w) X.A X.env X.xe
def Blk (X : Cx) (scope : Scope) (X' : Cx) : Prop := ∃ (s : Shared) (H : Hp) (C : Addr) (cl : List (Str × Addr)) (fp : List Addr), X' = X.blk s H scope (compEnvC scope cl C X.env) fp
theorem OkX.blk {X X' : Cx} {scope : Scope} (B : OkX X) (h : Blk X scope X') : OkX X' := by
  obtain ⟨s, H, C, cl, fp, rfl⟩ := h
  exact ⟨B.calm, B.nd, PassesOwn.never⟩
def wTs (X : Cx) (ifs : List Expr) : TT := fun σ H Q => ∃ t, PTs X ifs t ∧ t σ H Q
theorem pTs {X : Cx} {ifs : List Expr} : PTs X ifs (wTs X ifs) := ⟨fun pins s σ H Q I ⟨t, h, q⟩ => h.run pins s σ H Q I q⟩
/-- the tests of a comprehension -/
def EvTs (X : Cx) (ifs : List Expr) (env : List (Option E)) (mu : List MO) (b : Bool) : Prop := ∀ F ps σ H Q, Sat F ps env mu σ H → (∀ H', Ext H H' → Q b H') → wTs X ifs σ H Q
section
variable {X : Cx} {env : List (Option E)} {mu : List MO} {c : Expr} {b : Bool}
theorem ets_nil : EvTs X [] env mu true := fun F ps σ H Q I k => ⟨_, pts_nil, k H (Ext.refl H)⟩
theorem ets_one (h : EvT X c env mu b) : EvTs X [c] env mu b := fun F ps σ H Q I k => ⟨_, pts_one pT, h F ps σ H Q I k⟩
end
/-! addresses are hidden in a frame -/
open Classical in
noncomputable def Fr.hide (F : Fr) (L : List Addr) (H' : Hp) : Fr := ⟨fun b => if b ∈ L then H' b else F.H0 b, fun b => F.M b ∨ b ∈ L⟩
section
variable {F : Fr} {ps : List HA} {mu : List MO} {env : List (Option E)} {σ : L2.St} {H H1 H' G : Hp} {L : List Addr}
theorem hide_stab {a : Addr} {u : HO} : stab (F.hide L G) ps mu H a = some u ↔ stabN F ps mu L H a = some u := by
  constructor
  · intro h
    obtain ⟨h1, h2, h3⟩ := stab_some h
    rw [stabN_of (fun z => z.elim (fun y => h1 (.inl y)) h2) (fun z => h1 (.inr z))]; exact h3
  · intro h
    obtain ⟨h1, h2, h3⟩ := stabN_some h
    rw [stab_of (fun z => (show F.M a ∨ a ∈ L from z).elim (fun y => h1 (.inl y)) h2) (fun z => h1 (.inr z))]; exact h3
theorem hide_le : Ext (stab (F.hide L G) ps mu H) (stabN F ps mu L H) := fun a u h => hide_stab.mp h
theorem hide_ge : Ext (stabN F ps mu L H) (stab (F.hide L G) ps mu H) := fun a u h => hide_stab.mpr h
/-- what stood before the hidden ones were made stands in the frame that hides them -/
theorem Sat.hide (I : Sat F ps env mu σ H1) (e : Ext H1 H') (h1 : ∀ b ∈ L, H1 b = none) (h2 : ∀ b ∈ L, ∃ o, H' b = some o ∧ NT o) : Sat (F.hide L H') ps env mu σ H' where
  ex := fun b o h => by
    have h : (if b ∈ L then H' b else F.H0 b) = some o := h
    by_cases hb : b ∈ L
    · rw [if_pos hb] at h; exact h
    · rw [if_neg hb] at h; exact e _ _ (I.ex _ _ h)
  m0 := fun b z => by
    have z : F.M b ∨ b ∈ L := z
    show ∃ o, (if b ∈ L then H' b else F.H0 b) = some o ∧ NT o
    by_cases hb : b ∈ L
    · rw [if_pos hb]; exact h2 b hb
    · rw [if_neg hb]; exact I.m0 b (z.resolve_right hb)
  fr := fun b z => by
    show (if b ∈ L then H' b else F.H0 b) = none
    have nb : b ∉ L := fun y => by obtain ⟨o, q⟩ := I.tracked z; rw [h1 b y] at q; cases q
    rw [if_neg nb]; exact I.fr b z
  nd := I.nd
  len := I.len
  tr := fun b h => (I.tr b h).imp fun o q => e _ _ q
  mr := fun k pa o a b => (I.mr k pa o a b).mono ((stabN_new h1 e).trans hide_ge) e
  ln := I.ln
  en := fun i ε h => by
    obtain ⟨v, a, b⟩ := I.en i ε h
    exact ⟨v, a, b.mono ((stabN_new h1 e).trans hide_ge)⟩
end
end Cw
namespace Cw
open PySem PySem.Spec PyProof.Rows L2
/-! ### comprehensions -/
def bG (X : Cx) (scope : Scope) (tg : Expr) : TG := fun v σ H Q => ∀ X', Blk X scope X' → wG X' tg v σ H Q
def bT (X : Cx) (scope : Scope) (ifs : List Expr) : TT := fun σ H Q => ∀ X', Blk X scope X' → wTs X' ifs σ H Q
def bE (X : Cx) (scope : Scope) (e : Expr) : TE := fun σ H Q => ∀ X', Blk X scope X' → wE X' e σ H Q
section
variable {X : Cx} {env : List (Option E)} {mu : List MO} {iter tg elt : Expr} {ifs : List Expr} {scope : Scope} {own : List (Str × Nat)} {pos : Pos} {T : Tg} {src : List MO → Prop} {α : Type}
/-- what a comprehension asks, over data -/
structure LcOk (X : Cx) (tg iter elt : Expr) (ifs : List Expr) (scope : Scope) (own : List (Str × Nat)) (env : List (Option E)) (mu : List MO) {α : Type} (xs : List α) (it : α → Item) (T : Tg) (src : List MO → Prop) : Prop where
  B : OkX X
  hi : EvI X tg iter env mu (xs.map it) src
  hsrc : src mu
  ok : BlkOk X.N X.env.scope scope own
  o1 : ∀ j, T = .one j → j ∈ own.map (·.2)
  o2 : ∀ j1 j2, T = .two j1 j2 → j1 ∈ own.map (·.2) ∧ j2 ∈ own.map (·.2)
  hg : ∀ X', Blk X scope X' → TgOk X' tg T
  hl : xs.length ≤ 10000
theorem stabN_upd {F : Fr} {ps : List HA} {mu : List MO} {H : Hp} {L : List Addr} {a : Addr} {o : HO} (h : a ∈ L) : Ext (stabN F ps mu L H) (stabN F ps mu L (upd H a o)) := fun b u z => by
  obtain ⟨h1, h2, h3⟩ := stabN_some z
  rw [stabN_of h1 h2, upd_ne (fun y => h2 (by rw [y]; exact h))]; exact h3
theorem stabN_mono {F : Fr} {ps : List HA} {mu : List MO} {H H' : Hp} {L : List Addr} (e : Ext H H') : Ext (stabN F ps mu L H) (stabN F ps mu L H') := hid_mono e
theorem wipe_wipe {σ : L2.St} {vs : List Nat} : L2.wipe (L2.wipe σ vs) vs = L2.wipe σ vs := by
    apply List.ext_getElem?
    intro n
    by_cases hn : n ∈ vs
    · have key : ∀ (us : List Nat) (τ : L2.St), n ∈ us → (L2.wipe τ us)[n]? = if n < τ.length then some none else none := by
        intro us
        induction us with
        | nil => intro τ h; cases h
        | cons u us ih =>
          intro τ h
          unfold L2.wipe
          by_cases hu : u = n
          · subst hu
            by_cases hl : u < τ.length
            · rw [List.getElem?_set_self (by rw [wipe_length]; exact hl), if_pos hl]
            · rw [if_neg hl, List.getElem?_eq_none (by rw [List.length_set, wipe_length]; omega)]
          · rw [List.getElem?_set_ne hu]
            exact ih τ (by rcases List.mem_cons.mp h with h | h; exact absurd h.symm hu; exact h)
      rw [key vs _ hn, key vs _ hn, wipe_length]
    · rw [wipe_out hn]
theorem lc_tLc {xs : List α} {it : α → Item} (p : α → Bool) (g : α → D) (K : LcOk X tg iter elt ifs scope own env mu xs it T src)
    (hb : ∀ x ∈ xs, ∃ env', bindT (wipeE env (own.map (·.2))) T (it x) = some env' ∧ ∀ X', Blk X scope X' → EvTs X' ifs env' mu (p x) ∧ (p x = true → Ev X' elt env' mu (.d (g x))))
    {F : Fr} {ps : List HA} {σ : L2.St} {H : Hp} {Q : VK} (I : Sat F ps env mu σ H)
    (k : ∀ q us H', H q = none → Ext H H' → H' q = some (.lst us) → Reps (stabN F ps mu [q] H') us ((xs.filter p).map g) → Q (.ref q) H') :
    tLc (wI X tg iter) (bG X scope tg) (bT X scope ifs) (bE X scope elt) (own.map (·.2)) σ H Q := by
  refine K.hi F ps σ H _ I fun J H1 e1 hJ Dl hD => ?_
  have I1 := I.mono e1
  refine ⟨fun i m H' => m = xs.length - i ∧ i ≤ xs.length ∧ Ext H1 H' ∧ ∃ acc, H' Dl = some (.lst acc) ∧ acc.length ≤ i ∧ Reps (stabN F ps mu [Dl] H') acc (((xs.take i).filter p).map g), ⟨xs.length, rfl, Nat.zero_le _, Ext.new hD, [], upd_same, Nat.le_refl _, by simp; exact .nil⟩, ?_⟩
  rintro i m H' ⟨rfl, hi, ex, acc, hacc, hal, racc⟩
  have mk : ∀ {H'' : Hp}, Ext H1 H'' → (∃ a, H'' Dl = some (.lst a)) → Sat (F.hide [Dl] H'') ps env mu σ H'' := fun ex2 ha => I1.hide ex2 (fun b hb => by rw [List.mem_singleton.mp hb]; exact hD) (fun b hb => by rw [List.mem_singleton.mp hb]; obtain ⟨a, q⟩ := ha; exact ⟨_, q, fun _ z => by cases z⟩)
  have I2 := mk ex ⟨acc, hacc⟩
  have s1 : Ext (stab F ps mu H1) (stab (F.hide [Dl] H') ps mu H') := (stabN_new1 hD ex).trans hide_ge
  obtain ⟨J1, J2⟩ := hJ _ ps env mu σ H' I2 s1 (List.prefix_refl _) K.hsrc
  by_cases hlt : i < xs.length
  · obtain ⟨x, hx⟩ : ∃ x, xs[i]? = some x := ⟨_, List.getElem?_eq_getElem hlt⟩
    obtain ⟨go, yl⟩ := J1 i (it x) (by rw [List.getElem?_map, hx]; rfl)
    refine .inr ⟨go, fun H'' => xs.length - (i + 1) < xs.length - i ∧ Ext H1 H'' ∧ ∃ acc, H'' Dl = some (.lst acc) ∧ acc.length ≤ i + 1 ∧ Reps (stabN F ps mu [Dl] H'') acc (((xs.take (i + 1)).filter p).map g), fun H'' n => ⟨xs.length - (i + 1), n.1, rfl, hlt, n.2⟩, fun v H2 hy => ?_⟩
    obtain ⟨e2, r2⟩ := yl v H2 hy
    obtain ⟨env', hb1, hb2⟩ := hb x (List.mem_of_getElem? hx)
    have I3 := (I2.mono e2).wipe (own.map (·.2))
    intro X' hX'
    refine bind_run I3 r2 hb1 (K.hg X' hX') fun σ2 I4 hw => ⟨?_, ?_⟩
    · have q := hw (own.map (·.2)) K.o1 K.o2
      rw [q, wipe_wipe]
    · intro X2 hX2
      refine (hb2 X2 hX2).1 _ ps σ2 H2 _ I4 fun H3 e3 => ?_
      have tk : xs.take (i + 1) = xs.take i ++ [x] := by rw [List.take_succ, hx]; rfl
      cases hp : p x with
      | false =>
        show _ ∧ _
        refine ⟨by omega, (ex.trans e2).trans e3, acc, e3 _ _ (e2 _ _ hacc), Nat.le_succ_of_le hal, ?_⟩
        rw [tk, List.filter_append, List.filter_cons, hp]
        simp only [Bool.false_eq_true, if_false, List.filter_nil, List.append_nil]
        exact racc.mono (stabN_mono (e2.trans e3))
      | true =>
        show bE X scope elt σ2 H3 _
        intro X3 hX3
        refine (hb2 X3 hX3).2 hp _ ps σ2 H3 _ (I4.mono e3) fun y H4 e4 r4 => ?_
        have h4 := e4 _ _ (e3 _ _ (e2 _ _ hacc))
        refine ⟨acc, h4, Nat.lt_of_le_of_lt hal (Nat.lt_of_lt_of_le hlt (Nat.le_trans K.hl (by decide))), by omega, Ext.mut (((ex.trans e2).trans e3).trans e4) hD, acc ++ [y], upd_same, by rw [List.length_append, List.length_singleton]; omega, ?_⟩
        rw [tk, List.filter_append, List.filter_cons, hp]
        simp only [if_true, List.filter_nil, List.map_append, List.map_cons, List.map_nil]
        have r4 : Rep (stab (F.hide [Dl] H') ps mu H4) y (g x) := r4
        exact ((racc.mono (stabN_mono ((e2.trans e3).trans e4))).append (.one (r4.mono hide_le))).mono (stabN_upd (by simp))
  · have e : i = xs.length := by omega
    subst e
    rw [List.length_map] at J2
    rw [List.take_length] at racc
    exact .inl ⟨J2, k Dl acc H' (e1.back hD) (e1.trans ex) hacc racc⟩
/-- the universal readings of a block -/
theorem pBG : ∀ (s : Shared) (H : Hp) (C : Addr) (cl : List (Str × Addr)) (fp : List Addr), PG (X.blk s H scope (compEnvC scope cl C X.env) fp) tg (bG X scope tg) := fun s H C cl fp =>
  ⟨fun pins st σ H' v u Q I r h => pG.run pins st σ H' v u Q I r (h _ ⟨s, H, C, cl, fp, rfl⟩)⟩
theorem pBT : ∀ (s : Shared) (H : Hp) (C : Addr) (cl : List (Str × Addr)) (fp : List Addr), PTs (X.blk s H scope (compEnvC scope cl C X.env) fp) ifs (bT X scope ifs) := fun s H C cl fp =>
  ⟨fun pins st σ H' Q I h => pTs.run pins st σ H' Q I (h _ ⟨s, H, C, cl, fp, rfl⟩)⟩
theorem pBE : ∀ (s : Shared) (H : Hp) (C : Addr) (cl : List (Str × Addr)) (fp : List Addr), PE (X.blk s H scope (compEnvC scope cl C X.env) fp) elt (bE X scope elt) := fun s H C cl fp =>
  ⟨fun pins st σ H' Q I h => pE.run pins st σ H' Q I (h _ ⟨s, H, C, cl, fp, rfl⟩)⟩
theorem en_lc {xs : List α} {it : α → Item} (p : α → Bool) (g : α → D) (K : LcOk X tg iter elt ifs scope own env mu xs it T src)
    (hb : ∀ x ∈ xs, ∃ env', bindT (wipeE env (own.map (·.2))) T (it x) = some env' ∧ ∀ X', Blk X scope X' → EvTs X' ifs env' mu (p x) ∧ (p x = true → Ev X' elt env' mu (.d (g x))))
    (hs : ∀ x, foldedSetIterable iter X.env x = pure x := by intro _; rfl) : EvN X (.ListComp elt [⟨tg, iter, ifs, 0⟩] scope pos) env mu ((xs.filter p).map g) := fun F ps σ H Q I k =>
  ⟨_, pe_lc K.B.calm K.B.nd pI K.ok pBG pBT pBE hs, lc_tLc p g K hb I k⟩
/-- .. without a test -/
theorem en_lcm {xs : List α} {it : α → Item} (g : α → D) (K : LcOk X tg iter elt [] scope own env mu xs it T src)
    (hb : ∀ x ∈ xs, ∃ env', bindT (wipeE env (own.map (·.2))) T (it x) = some env' ∧ ∀ X', Blk X scope X' → Ev X' elt env' mu (.d (g x)))
    (hs : ∀ x, foldedSetIterable iter X.env x = pure x := by intro _; rfl) : EvN X (.ListComp elt [⟨tg, iter, [], 0⟩] scope pos) env mu (xs.map g) := by
  have h := en_lc (pos := pos) (fun _ => true) g K (fun x hx => by
    obtain ⟨e, h1, h2⟩ := hb x hx
    exact ⟨e, h1, fun X' b => ⟨ets_nil, fun _ => h2 X' b⟩⟩) hs
  rwa [List.filter_eq_self.mpr (fun _ _ => rfl)] at h
/-! ### lists of new lists -/
def EvNL (X : Cx) (e : Expr) (env : List (Option E)) (mu : List MO) (dss : List (List D)) : Prop := ∀ F ps σ H Q, Sat F ps env mu σ H →
  (∀ p qs H', (∀ a ∈ p :: qs, H a = none) → (p :: qs).Nodup → Ext H H' → H' p = some (.lst (qs.map V.ref)) → qs.length = dss.length →
    (∀ (i : Nat) (a : Addr) (ds : List D), qs[i]? = some a → dss[i]? = some ds → ∃ us, H' a = some (.lst us) ∧ Reps (stabN F ps mu (p :: qs) H') us ds) → Q (.ref p) H') → wE X e σ H Q
theorem enl_lc {xs : List α} {it : α → Item} (g : α → List D) (K : LcOk X tg iter elt [] scope own env mu xs it T src)
    (hb : ∀ x ∈ xs, ∃ env', bindT (wipeE env (own.map (·.2))) T (it x) = some env' ∧ ∀ X', Blk X scope X' → EvN X' elt env' mu (g x)) {F : Fr} {ps : List HA} {σ : L2.St} {H : Hp} {Q : VK} (I : Sat F ps env mu σ H)
    (k : ∀ p qs H', (∀ a ∈ p :: qs, H a = none) → (p :: qs).Nodup → Ext H H' → H' p = some (.lst (qs.map V.ref)) → qs.length = (xs.map g).length →
      (∀ (i : Nat) (a : Addr) (ds : List D), qs[i]? = some a → (xs.map g)[i]? = some ds → ∃ us, H' a = some (.lst us) ∧ Reps (stabN F ps mu (p :: qs) H') us ds) → Q (.ref p) H') :
    tLc (wI X tg iter) (bG X scope tg) (bT X scope []) (bE X scope elt) (own.map (·.2)) σ H Q := by
  refine K.hi F ps σ H _ I fun J H1 e1 hJ Dl hD => ?_
  have I1 := I.mono e1
  refine ⟨fun i m H' => m = xs.length - i ∧ i ≤ xs.length ∧ Ext H1 H' ∧ ∃ qs : List Addr, H' Dl = some (.lst (qs.map V.ref)) ∧ qs.length = i ∧ (∀ a ∈ Dl :: qs, H1 a = none) ∧ (Dl :: qs).Nodup ∧
    ∀ (j : Nat) (a : Addr) (ds : List D), qs[j]? = some a → (xs.map g)[j]? = some ds → ∃ us, H' a = some (.lst us) ∧ Reps (stabN F ps mu (Dl :: qs) H') us ds,
    ⟨xs.length, rfl, Nat.zero_le _, Ext.new hD, [], upd_same, rfl, fun a ha => by rw [List.mem_singleton.mp ha]; exact hD, by simp, fun j a ds h => by simp at h⟩, ?_⟩
  rintro i m H' ⟨rfl, hi, ex, qs, hacc, hal, hfr, hnd, hct⟩
  have hho : ∀ a ∈ Dl :: qs, ∃ o, H' a = some o ∧ NT o := fun a ha => by
    rcases List.mem_cons.mp ha with rfl | ha
    · exact ⟨_, hacc, fun _ z => by cases z⟩
    · obtain ⟨j, hj, ej⟩ := List.mem_iff_getElem.mp ha
      have hj2 : j < (xs.map g).length := by rw [List.length_map]; omega
      obtain ⟨us, h1, _⟩ := hct j a _ (by rw [← ej]; exact List.getElem?_eq_getElem hj) (List.getElem?_eq_getElem hj2)
      exact ⟨_, h1, fun _ z => by cases z⟩
  have I2 := I1.hide ex hfr hho
  have s1 : Ext (stab F ps mu H1) (stab (F.hide (Dl :: qs) H') ps mu H') := (stabN_new hfr ex).trans hide_ge
  obtain ⟨J1, J2⟩ := hJ _ ps env mu σ H' I2 s1 (List.prefix_refl _) K.hsrc
  by_cases hlt : i < xs.length
  · obtain ⟨x, hx⟩ : ∃ x, xs[i]? = some x := ⟨_, List.getElem?_eq_getElem hlt⟩
    obtain ⟨go, yl⟩ := J1 i (it x) (by rw [List.getElem?_map, hx]; rfl)
    refine .inr ⟨go, fun H'' => xs.length - (i + 1) < xs.length - i ∧ Ext H1 H'' ∧ ∃ qs : List Addr, H'' Dl = some (.lst (qs.map V.ref)) ∧ qs.length = i + 1 ∧ (∀ a ∈ Dl :: qs, H1 a = none) ∧ (Dl :: qs).Nodup ∧
      ∀ (j : Nat) (a : Addr) (ds : List D), qs[j]? = some a → (xs.map g)[j]? = some ds → ∃ us, H'' a = some (.lst us) ∧ Reps (stabN F ps mu (Dl :: qs) H'') us ds, fun H'' n => ⟨xs.length - (i + 1), n.1, rfl, hlt, n.2⟩, fun v H2 hy => ?_⟩
    obtain ⟨e2, r2⟩ := yl v H2 hy
    obtain ⟨env', hb1, hb2⟩ := hb x (List.mem_of_getElem? hx)
    have I3 := (I2.mono e2).wipe (own.map (·.2))
    intro X' hX'
    refine bind_run I3 r2 hb1 (K.hg X' hX') fun σ2 I4 hw => ⟨?_, ?_⟩
    · have q := hw (own.map (·.2)) K.o1 K.o2
      rw [q, wipe_wipe]
    · intro X2 hX2
      refine ⟨_, pts_nil, ?_⟩
      show bE X scope elt σ2 H2 _
      intro X3 hX3
      refine hb2 X3 hX3 _ ps σ2 H2 _ I4 fun p us H4 hp e4 h4 r4 => ?_
      have hD4 := e4 _ _ (e2 _ _ hacc)
      have hp1 : H' p = none := e2.back hp
      have np : p ∉ Dl :: qs := fun y => by obtain ⟨o, z, _⟩ := hho p y; rw [hp1] at z; cases z
      have npD : p ≠ Dl := fun y => np (by rw [y]; exact List.mem_cons_self)
      refine ⟨_, hD4, by rw [List.length_map, hal]; exact Nat.lt_of_lt_of_le hlt (Nat.le_trans K.hl (by decide)), by omega, Ext.mut ((ex.trans e2).trans e4) hD, qs ++ [p], by rw [upd_same, List.map_append]; rfl, by rw [List.length_append, hal]; rfl, ?_, ?_, ?_⟩
      · intro a ha
        rcases List.mem_cons.mp ha with rfl | ha
        · exact hD
        · rcases List.mem_append.mp ha with ha | ha
          · exact hfr a (List.mem_cons_of_mem _ ha)
          · rw [List.mem_singleton.mp ha]; exact ex.back hp1
      · have := List.nodup_cons.mp hnd
        refine List.nodup_cons.mpr ⟨fun y => ?_, List.nodup_append.mpr ⟨this.2, by simp, fun a ha b hb e => ?_⟩⟩
        · rcases List.mem_append.mp y with y | y
          · exact this.1 y
          · exact npD (List.mem_singleton.mp y).symm
        · rw [List.mem_singleton.mp hb] at e
          exact np (by rw [← e]; exact List.mem_cons_of_mem _ ha)
      · have mono1 : Ext (stabN F ps mu (Dl :: qs) H') (stabN F ps mu (Dl :: (qs ++ [p])) (upd H4 Dl (.lst (qs.map V.ref ++ [.ref p])))) := fun b u z => by
          obtain ⟨z1, z2, z3⟩ := stabN_some z
          have nb : b ≠ p := fun y => by rw [y, hp1] at z3; cases z3
          have n2 : b ∉ Dl :: (qs ++ [p]) := fun y => by
            rcases List.mem_cons.mp y with y | y
            · exact z2 (by rw [y]; exact List.mem_cons_self)
            · rcases List.mem_append.mp y with y | y
              · exact z2 (List.mem_cons_of_mem _ y)
              · exact nb (List.mem_singleton.mp y)
          rw [stabN_of z1 n2, upd_ne (fun y => z2 (by rw [y]; exact List.mem_cons_self))]
          exact e4 _ _ (e2 _ _ z3)
        intro j a ds hj hd
        by_cases hjl : j < qs.length
        · rw [List.getElem?_append_left hjl] at hj
          obtain ⟨us', g1, g2⟩ := hct j a ds hj hd
          have na : a ≠ Dl := fun y => (List.nodup_cons.mp hnd).1 (by rw [← y]; exact List.mem_of_getElem? hj)
          exact ⟨us', by rw [upd_ne na]; exact e4 _ _ (e2 _ _ g1), g2.mono mono1⟩
        · have ej : j = qs.length := by
            have := (List.getElem?_eq_some_iff.mp hj).1
            rw [List.length_append, List.length_singleton] at this
            omega
          subst ej
          rw [List.getElem?_append_right (Nat.le_refl _), Nat.sub_self] at hj
          cases hj
          rw [List.getElem?_map, hal, hx] at hd
          cases hd
          refine ⟨us, by rw [upd_ne npD]; exact h4, r4.mono fun b u z => ?_⟩
          obtain ⟨z1, z2, z3⟩ := stabN_some z
          have z1 : ¬ ((F.M b ∨ b ∈ Dl :: qs) ∨ Lv ps mu b) := z1
          have n2 : b ∉ Dl :: (qs ++ [p]) := fun y => by
            rcases List.mem_cons.mp y with y | y
            · exact z1 (.inl (.inr (by rw [y]; exact List.mem_cons_self)))
            · rcases List.mem_append.mp y with y | y
              · exact z1 (.inl (.inr (List.mem_cons_of_mem _ y)))
              · exact z2 y
          rw [stabN_of (fun y => z1 (y.elim (fun y => .inl (.inl y)) .inr)) n2, upd_ne (fun y => z1 (.inl (.inr (by rw [y]; exact List.mem_cons_self))))]
          exact z3
  · have e : i = xs.length := by omega
    subst e
    rw [List.length_map] at J2
    refine .inl ⟨J2, k Dl qs H' (fun a ha => e1.back (hfr a ha)) hnd (e1.trans ex) hacc (by rw [List.length_map]; exact hal) hct⟩
theorem enl_pe {xs : List α} {it : α → Item} (g : α → List D) (K : LcOk X tg iter elt [] scope own env mu xs it T src)
    (hb : ∀ x ∈ xs, ∃ env', bindT (wipeE env (own.map (·.2))) T (it x) = some env' ∧ ∀ X', Blk X scope X' → EvN X' elt env' mu (g x))
    (hs : ∀ x, foldedSetIterable iter X.env x = pure x := by intro _; rfl) : EvNL X (.ListComp elt [⟨tg, iter, [], 0⟩] scope pos) env mu (xs.map g) := fun F ps σ H Q I k =>
  ⟨_, pe_lc K.B.calm K.B.nd pI K.ok pBG pBT pBE hs, enl_lc g K hb I k⟩
end
end Cw
namespace Cw
open PySem PySem.Spec PyProof.Rows L2
/-! ### the state changes -/
section
variable {F : Fr} {ps : List HA} {mu : List MO} {env : List (Option E)} {σ : L2.St} {H H' : Hp} {k : Nat} {pa : HA} {o o' : MO} {a : Addr} {u : HO}
theorem ERep.ext {S : Hp} {ps' : List HA} {v : V} (h : ps <+: ps') : ∀ {ε : E}, ERep S ps v ε → ERep S ps' v ε
  | .d _, r => r
  | .at _, ⟨pa, h1, h2⟩ => ⟨pa, prefix_get h h1, h2⟩
  | .sub _ _, ⟨pa, a, h1, h2, h3⟩ => ⟨pa, a, prefix_get h h1, h2, h3⟩
  | .raw _, r => r
theorem FRep.ext {S : Hp} {ps' : List HA} (h : ps <+: ps') : ∀ {fv : List (Str × V)} {fs : List (Str × E)}, FRep S ps fv fs → FRep S ps' fv fs
  | [], [], _ => trivial
  | (_, _) :: _, (_, _) :: _, r => ⟨r.1, r.2.1.ext h, FRep.ext h r.2.2⟩
  | [], _ :: _, r => r.elim
  | _ :: _, [], r => r.elim
theorem MRep.ext {S : Hp} {ps' : List HA} (h : ps <+: ps') : ∀ {o : MO}, MRep S ps H pa o → MRep S ps' H pa o
  | .lst _, r => r
  | .lol _, r => r
  | .dic _ _, r => r
  | .ins _ _, ⟨h1, dx, fv, h2, h3⟩ => ⟨h1, dx, fv, h2, h3.ext h⟩
  | .gone, _ => trivial
theorem MRep.frame {S : Hp} (h : ∀ b, b ∈ pa.1 :: pa.2 → H' b = H b) : ∀ {o : MO}, MRep S ps H pa o → MRep S ps H' pa o
  | .lst _, ⟨h1, xs, h2, h3⟩ => ⟨h1, xs, by rw [h _ List.mem_cons_self]; exact h2, h3⟩
  | .lol _, ⟨h1, h2, h3⟩ => ⟨h1, by rw [h _ List.mem_cons_self]; exact h2, fun i a ds p q => by
      obtain ⟨xs, a1, a2⟩ := h3 i a ds p q
      exact ⟨xs, by rw [h _ (List.mem_cons_of_mem _ (List.mem_of_getElem? p))]; exact a1, a2⟩⟩
  | .dic _ _, ⟨h1, kvs, h2, h3⟩ => ⟨h1, kvs, by rw [h _ List.mem_cons_self]; exact h2, h3⟩
  | .ins _ _, ⟨h1, dx, fv, h2, h3⟩ => ⟨h1, dx, fv, by rw [h _ List.mem_cons_self]; exact h2, h3⟩
  | .gone, _ => trivial
theorem hds_apart (nd : (ps.flatMap fun pa => pa.1 :: pa.2).Nodup) {i j : Nat} {p q : HA} (hi : ps[i]? = some p) (hj : ps[j]? = some q) (hne : i ≠ j) {b : Addr} (hb : b ∈ p.1 :: p.2) : b ∉ q.1 :: q.2 := by
  induction ps generalizing i j with
  | nil => simp at hi
  | cons x ps ih =>
    rw [List.flatMap_cons, List.nodup_append] at nd
    cases i with
    | zero =>
      cases j with
      | zero => exact absurd rfl hne
      | succ j =>
        simp at hi hj
        subst hi
        intro hq
        exact nd.2.2 b hb b (List.mem_flatMap.mpr ⟨q, List.mem_of_getElem? hj, hq⟩) rfl
    | succ i =>
      cases j with
      | zero =>
        simp at hi hj
        subst hj
        intro hq
        exact nd.2.2 b hq b (List.mem_flatMap.mpr ⟨p, List.mem_of_getElem? hi, hb⟩) rfl
      | succ j => exact ih nd.2.1 (by simpa using hi) (by simpa using hj) (fun e => hne (by rw [e]))
/-- what stands at a handle is changed -/
theorem Sat.put (I : Sat F ps env mu σ H) (hk : ps[k]? = some pa) (ho : mu[k]? = some o) (n1 : o ≠ .gone) (n2 : o' ≠ .gone) (ha : a ∈ pa.1 :: pa.2) (new : MRep (stab F ps mu H) ps (upd H a u) pa o') : Sat F ps env (mu.set k o') σ (upd H a u) := by
  have hkl : k < mu.length := (List.getElem?_eq_some_iff.mp ho).1
  have lv : ∀ b, Lv ps (mu.set k o') b ↔ Lv ps mu b := fun b => by
    constructor
    · rintro ⟨j, p, q, h1, h2, h3, h4⟩
      by_cases hj : k = j
      · subst hj
        rw [hk] at h1; cases h1
        exact ⟨k, pa, o, hk, ho, n1, h4⟩
      · rw [List.getElem?_set_ne hj] at h2
        exact ⟨j, p, q, h1, h2, h3, h4⟩
    · rintro ⟨j, p, q, h1, h2, h3, h4⟩
      by_cases hj : k = j
      · subst hj
        rw [hk] at h1; cases h1
        exact ⟨k, pa, o', hk, List.getElem?_set_self hkl, n2, h4⟩
      · exact ⟨j, p, q, h1, by rw [List.getElem?_set_ne hj]; exact h2, h3, h4⟩
  have la : Lv ps mu a := ⟨k, pa, o, hk, ho, n1, List.mem_cons.mp ha⟩
  have st : stab F ps (mu.set k o') (upd H a u) = stab F ps mu H := by
    funext b
    by_cases h : F.M b ∨ Lv ps mu b
    · have h' : F.M b ∨ Lv ps (mu.set k o') b := h.imp id (lv b).mpr
      unfold stab hid; rw [if_pos h, if_pos h']
    · have h' : ¬ (F.M b ∨ Lv ps (mu.set k o') b) := fun z => h (z.imp id (lv b).mp)
      have nb : b ≠ a := fun e => h (.inr (by rw [e]; exact la))
      unfold stab hid; rw [if_neg h, if_neg h', upd_ne nb]
  refine ⟨I.ex.mut (I.fr a la), I.m0, fun b h => I.fr b ((lv b).mp h), I.nd, by rw [List.length_set]; exact I.len, fun b h => ?_, fun j p q h1 h2 => ?_, I.ln, fun i ε h => ?_⟩
  · by_cases hb : b = a
    · exact ⟨u, by rw [hb, upd_same]⟩
    · rw [upd_ne hb]; exact I.tr b h
  · rw [st]
    by_cases hj : k = j
    · subst hj
      rw [hk] at h1; cases h1
      rw [List.getElem?_set_self hkl] at h2; cases h2
      exact new
    · rw [List.getElem?_set_ne hj] at h2
      exact (I.mr j p q h1 h2).frame fun b hb => upd_ne fun e => hds_apart I.nd h1 hk (Ne.symm hj) hb (by rw [e]; exact ha)
  · rw [st]; exact I.en i ε h
/-- a new handle -/
theorem Sat.alloc (I : Sat F ps env mu σ H) {p : Addr} {qs : List Addr} (fr : ∀ b ∈ p :: qs, H b = none) (nd : (p :: qs).Nodup) (e : Ext H H') (tr : ∀ b ∈ p :: qs, ∃ o, H' b = some o) (new : MRep (stabN F ps mu (p :: qs) H') ps H' (p, qs) o) :
    Sat F (ps ++ [(p, qs)]) env (mu ++ [o]) σ H' := by
  have lv : ∀ b, Lv (ps ++ [(p, qs)]) (mu ++ [o]) b → Lv ps mu b ∨ b ∈ p :: qs := fun b ⟨j, r, q, h1, h2, h3, h4⟩ => by
    by_cases hj : j < ps.length
    · rw [List.getElem?_append_left hj] at h1
      rw [List.getElem?_append_left (by rw [← I.len]; exact hj)] at h2
      exact .inl ⟨j, r, q, h1, h2, h3, h4⟩
    · have hl := (List.getElem?_eq_some_iff.mp h1).1
      rw [List.length_append, List.length_singleton] at hl
      have ej : j = ps.length := by omega
      subst ej
      rw [List.getElem?_append_right (Nat.le_refl _), Nat.sub_self] at h1
      cases h1
      exact .inr (List.mem_cons.mpr h4)
  have s1 : Ext (stabN F ps mu (p :: qs) H') (stab F (ps ++ [(p, qs)]) (mu ++ [o]) H') := fun b u z => by
    obtain ⟨z1, z2, z3⟩ := stabN_some z
    rw [stab_of (fun y => z1 (.inl y)) (fun y => (lv b y).elim (fun y => z1 (.inr y)) z2)]; exact z3
  have s0 : Ext (stab F ps mu H) (stab F (ps ++ [(p, qs)]) (mu ++ [o]) H') := (stabN_new fr e).trans s1
  have pf : ps <+: ps ++ [(p, qs)] := List.prefix_append _ _
  refine ⟨I.ex.trans e, I.m0, fun b h => (lv b h).elim (I.fr b) fun y => I.ex.back (fr b y), ?_, by rw [List.length_append, List.length_append, I.len]; rfl, ?_, ?_, I.ln, ?_⟩
  · rw [List.flatMap_append, List.flatMap_singleton]
    refine List.nodup_append.mpr ⟨I.nd, nd, fun a ha b hb eq => ?_⟩
    obtain ⟨o, q⟩ := I.tr a ha
    rw [eq, fr b hb] at q; cases q
  · intro b hb
    rw [List.flatMap_append, List.flatMap_singleton] at hb
    rcases List.mem_append.mp hb with hb | hb
    · exact (I.tr b hb).imp fun o q => e _ _ q
    · exact tr b hb
  · intro j r q h1 h2
    by_cases hj : j < ps.length
    · rw [List.getElem?_append_left hj] at h1
      rw [List.getElem?_append_left (by rw [← I.len]; exact hj)] at h2
      exact ((I.mr j r q h1 h2).mono s0 e).ext pf
    · have hl := (List.getElem?_eq_some_iff.mp h1).1
      rw [List.length_append, List.length_singleton] at hl
      have ej : j = ps.length := by omega
      subst ej
      rw [List.getElem?_append_right (Nat.le_refl _), Nat.sub_self] at h1
      rw [I.len, List.getElem?_append_right (Nat.le_refl _), Nat.sub_self] at h2
      cases h1; cases h2
      exact (new.mono s1 (Ext.refl _)).ext pf
  · intro i ε h
    obtain ⟨v, h1, h2⟩ := I.en i ε h
    exact ⟨v, h1, (h2.mono s0).ext pf⟩
/-- a list of one's own becomes data -/
def unAt (k : Nat) (d : D) : Option E → Option E
  | some (.at j) => if j = k then some (.d d) else some (.at j)
  | x => x
theorem Sat.freeze (I : Sat F ps env mu σ H) {ds : List D} (ho : mu[k]? = some (.lst ds)) : Sat F ps (env.map (unAt k (.lst ds))) (mu.set k .gone) σ H := by
  have hkl : k < mu.length := (List.getElem?_eq_some_iff.mp ho).1
  obtain ⟨pa, hk⟩ : ∃ pa, ps[k]? = some pa := ⟨_, List.getElem?_eq_getElem (by rw [I.len]; exact hkl)⟩
  obtain ⟨e2, xs, hx, rx⟩ := I.mr k pa _ hk ho
  have lv : ∀ b, Lv ps (mu.set k .gone) b → Lv ps mu b := fun b ⟨j, p, q, h1, h2, h3, h4⟩ => by
    by_cases hj : k = j
    · subst hj
      rw [List.getElem?_set_self hkl] at h2; cases h2
      exact absurd rfl h3
    · rw [List.getElem?_set_ne hj] at h2
      exact ⟨j, p, q, h1, h2, h3, h4⟩
  have s0 : Ext (stab F ps mu H) (stab F ps (mu.set k .gone) H) := fun b u z => by
    obtain ⟨z1, z2, z3⟩ := stab_some z
    rw [stab_of z1 (fun y => z2 (lv b y))]; exact z3
  have nM : ¬ F.M pa.1 := fun z => by
    obtain ⟨o, q, _⟩ := I.m0 _ z
    rw [I.fr pa.1 ⟨k, pa, _, hk, ho, (by intro z; cases z), .inl rfl⟩] at q; cases q
  have nL : ¬ Lv ps (mu.set k .gone) pa.1 := fun ⟨j, p, q, h1, h2, h3, h4⟩ => by
    by_cases hj : k = j
    · subst hj
      rw [List.getElem?_set_self hkl] at h2; cases h2
      exact h3 rfl
    · exact hds_apart I.nd hk h1 hj List.mem_cons_self (List.mem_cons.mpr h4)
  refine ⟨I.ex, I.m0, fun b h => I.fr b (lv b h), I.nd, by rw [List.length_set]; exact I.len, I.tr, fun j p q h1 h2 => ?_, by rw [List.length_map]; exact I.ln, fun i ε h => ?_⟩
  · by_cases hj : k = j
    · subst hj
      rw [List.getElem?_set_self hkl] at h2; cases h2
      trivial
    · rw [List.getElem?_set_ne hj] at h2
      exact (I.mr j p q h1 h2).mono s0 (Ext.refl _)
  · rw [List.getElem?_map] at h
    cases q : env[i]? with
    | none => rw [q] at h; cases h
    | some x =>
      rw [q] at h
      cases x with
      | none => cases h
      | some x =>
        obtain ⟨v, h1, h2⟩ := I.en i x q
        refine ⟨v, h1, ?_⟩
        have keep : ∀ {y : E}, ERep (stab F ps mu H) ps v y → some y = some ε → ERep (stab F ps (mu.set k .gone) H) ps v ε := fun r e => by cases e; exact r.mono s0
        cases x with
        | d d => exact keep h2 (Option.some.inj h)
        | sub a b => exact keep h2 (Option.some.inj h)
        | raw ns => exact keep h2 (Option.some.inj h)
        | «at» j =>
          have h : (if j = k then some (E.d (.lst ds)) else some (E.at j)) = some ε := Option.some.inj h
          by_cases hj : j = k
          · rw [if_pos hj] at h
            cases h
            subst hj
            obtain ⟨pa', g1, rfl⟩ := h2
            rw [hk] at g1; cases g1
            exact .lst (by rw [stab_of nM nL]; exact hx) (rx.mono s0)
          · rw [if_neg hj] at h
            exact keep h2 h
/-- a frame that keeps all that is stable -/
noncomputable def Fr.reb (F : Fr) (ps : List HA) (mu : List MO) (H : Hp) : Fr := ⟨hid (Lv ps mu) H, F.M⟩
theorem reb_some {b : Addr} {o : HO} (h : (F.reb ps mu H).H0 b = some o) : ¬ Lv ps mu b ∧ H b = some o := hid_some h
theorem Sat.reb (I : Sat F ps env mu σ H) : Sat (F.reb ps mu H) ps env mu σ H :=
  ⟨fun b o h => (reb_some h).2, fun b h => by
    obtain ⟨o, q, n⟩ := I.m0 b h
    refine ⟨o, ?_, n⟩
    show hid (Lv ps mu) H b = some o
    rw [hid_of (fun z => by rw [I.fr b z] at q; cases q)]
    exact I.ex _ _ q, fun b h => by
    show hid (Lv ps mu) H b = none
    unfold hid; rw [if_pos h], I.nd, I.len, I.tr, I.mr, I.ln, I.en⟩
theorem reb_back (I : Sat F ps env mu σ H) {ps' : List HA} {env' : List (Option E)} {mu' : List MO} {σ' : L2.St} (J : Sat (F.reb ps mu H) ps' env' mu' σ' H') : Sat F ps' env' mu' σ' H' := by
  have up : ∀ b o, F.H0 b = some o → (F.reb ps mu H).H0 b = some o := fun b o q => by
    show hid (Lv ps mu) H b = some o
    rw [hid_of (fun z => by rw [I.fr b z] at q; cases q)]
    exact I.ex _ _ q
  refine ⟨fun b o q => J.ex _ _ (up b o q), I.m0, fun b h => ?_, J.nd, J.len, J.tr, J.mr, J.ln, J.en⟩
  cases q : F.H0 b with
  | none => rfl
  | some o =>
    have z := J.fr b h
    rw [up b o q] at z; cases z
theorem reb_stab {ps' : List HA} {env' : List (Option E)} {mu' : List MO} {σ' : L2.St} (J : Sat (F.reb ps mu H) ps' env' mu' σ' H') : Ext (stab F ps mu H) (stab (F.reb ps mu H) ps' mu' H') := fun b o z => by
  obtain ⟨z1, z2, z3⟩ := stab_some z
  have q : (F.reb ps mu H).H0 b = some o := by
    show hid (Lv ps mu) H b = some o
    rw [hid_of z2]; exact z3
  rw [stab_of (F := F.reb ps mu H) z1 (fun y => by rw [J.fr b y] at q; cases q)]
  exact J.ex _ _ q
end
/-! ### statements -/
structure Post where
  nx : List (Option E) → List MO → Prop
  rt : D → List MO → Prop
  bk : List (Option E) → List MO → Prop := fun _ _ => False
  ct : List (Option E) → List MO → Prop := fun _ _ => False
structure EndsOk (F : Fr) (ps : List HA) (P : Post) (K : Ends) : Prop where
  nx : ∀ env' mu' ps' σ' H', P.nx env' mu' → ps <+: ps' → Sat F ps' env' mu' σ' H' → K.nx σ' H'
  rt : ∀ v d env' mu' ps' σ' H', P.rt d mu' → ps <+: ps' → Sat F ps' env' mu' σ' H' → Rep (hid F.M H') v d → K.rt v H'
  bk : ∀ env' mu' ps' σ' H', P.bk env' mu' → ps <+: ps' → Sat F ps' env' mu' σ' H' → K.bk σ' H'
  ct : ∀ env' mu' ps' σ' H', P.ct env' mu' → ps <+: ps' → Sat F ps' env' mu' σ' H' → K.ct σ' H'
theorem EndsOk.step {F : Fr} {ps ps1 : List HA} {P : Post} {K : Ends} (h : EndsOk F ps P K) (pf : ps <+: ps1) : EndsOk F ps1 P K :=
  ⟨fun e u p s H q f => h.nx e u p s H q (pf.trans f), fun v d e u p s H q f => h.rt v d e u p s H q (pf.trans f), fun e u p s H q f => h.bk e u p s H q (pf.trans f), fun e u p s H q f => h.ct e u p s H q (pf.trans f)⟩
def GoS (X : Cx) (s : Stmt) (env : List (Option E)) (mu : List MO) (P : Post) : Prop := ∀ F ps σ H K, Sat F ps env mu σ H → EndsOk F ps P K → wS X s K σ H
def Go (X : Cx) (ss : List Stmt) (env : List (Option E)) (mu : List MO) (P : Post) : Prop := ∀ F ps σ H K, Sat F ps env mu σ H → EndsOk F ps P K → wSs X ss K σ H
section
variable {X : Cx} {env : List (Option E)} {mu : List MO} {P : Post} {s : Stmt} {rest ss A B : List Stmt} {e c o i tg it : Expr} {ε : E} {pos pos' : Pos} {d : D} {ds : List D} {n k j : Nat} {x : Str} {b : Bool}
theorem go_cons (h : GoS X s env mu { P with nx := fun e u => Go X rest e u P }) : Go X (s :: rest) env mu P := fun F ps σ H K I E =>
  ⟨_, pss_cons pS pSs, h F ps σ H { K with nx := wSs X rest K } I ⟨fun e u p s H q f J => q F p s H K J (E.step f), E.rt, E.bk, E.ct⟩⟩
theorem go_one (h : GoS X s env mu P) : Go X [s] env mu P := fun F ps σ H K I E => ⟨_, pss_one pS, h F ps σ H K I E⟩
theorem go_nil (h : P.nx env mu) : Go X [] env mu P := fun F ps σ H K I E => ⟨_, pss_nil, E.nx _ _ ps σ H h (List.prefix_refl _) I⟩
theorem gos_never (h : False) : GoS X s env mu P := h.elim
theorem go_pass (h : P.nx env mu) : GoS X (.Pass pos) env mu P := fun F ps σ H K I E => ⟨_, ps_pass, E.nx _ _ ps σ H h (List.prefix_refl _) I⟩
theorem go_break (h : P.bk env mu) : GoS X (.Break pos) env mu P := fun F ps σ H K I E => ⟨_, ps_break, E.bk _ _ ps σ H h (List.prefix_refl _) I⟩
theorem go_continue (h : P.ct env mu) : GoS X (.Continue pos) env mu P := fun F ps σ H K I E => ⟨_, ps_continue, E.ct _ _ ps σ H h (List.prefix_refl _) I⟩
theorem go_set (i : Nat) (B : OkX X) (hi : X.N[i]? = some x) (hx : Loc X.env.scope x) (he : Ev X e env mu ε) (h : P.nx (env.set i (some ε)) mu) (hs : swapsWith e (some (.Name x pos')) pos.line X.env = pure false := by rfl)
    (hf : X.fn x = true ∨ X.env.scope.names.lookup x = some .local := by first | exact .inl rfl | exact .inr rfl) : GoS X (.Assign [.Name x pos'] e pos) env mu P := fun F ps σ H K I E =>
  ⟨_, ps_set B.nd hi hx pE hs hf, he F ps σ H _ I fun v H1 e1 r1 => E.nx _ _ ps _ H1 h (List.prefix_refl _) ((I.mono e1).setSlot r1 i)⟩
/-- what comes back is known by P alone -/
theorem go_setP (i : Nat) {Q : D → Prop} (B : OkX X) (hi : X.N[i]? = some x) (hx : Loc X.env.scope x) (he : EvP X e env mu Q) (h : ∀ d, Q d → P.nx (env.set i (some (.d d))) mu) (hs : swapsWith e (some (.Name x pos')) pos.line X.env = pure false := by rfl)
    (hf : X.fn x = true ∨ X.env.scope.names.lookup x = some .local := by first | exact .inl rfl | exact .inr rfl) : GoS X (.Assign [.Name x pos'] e pos) env mu P := fun F ps σ H K I E =>
  ⟨_, ps_set B.nd hi hx pE hs hf, he F ps σ H _ I fun v d H1 q e1 r1 => E.nx _ _ ps _ H1 (h d q) (List.prefix_refl _) ((I.mono e1).setSlot (ε := .d d) r1 i)⟩
theorem alloc_lst {F : Fr} {ps : List HA} {σ : L2.St} {H H1 : Hp} {p : Addr} {xs : List V} (I : Sat F ps env mu σ H) (hp : H p = none) (e1 : Ext H H1) (h1 : H1 p = some (.lst xs)) (r1 : Reps (stabN F ps mu [p] H1) xs ds) : Sat F (ps ++ [(p, [])]) env (mu ++ [.lst ds]) σ H1 :=
  I.alloc (fun b hb => by rw [List.mem_singleton.mp hb]; exact hp) (by simp) e1 (fun b hb => by rw [List.mem_singleton.mp hb]; exact ⟨_, h1⟩) ⟨rfl, xs, h1, r1⟩
theorem new_at {F : Fr} {ps : List HA} {σ : L2.St} {H : Hp} {S : Hp} {q : HA} {o : MO} (I : Sat F (ps ++ [q]) env (mu ++ [o]) σ H) : ERep S (ps ++ [q]) (.ref q.1) (.at mu.length) := by
  have hl : ps.length = mu.length := by have := I.len; simp at this; exact this
  exact ⟨q, by rw [← hl, List.getElem?_append_right (Nat.le_refl _), Nat.sub_self]; rfl, rfl⟩
/-- a new list of one's own -/
theorem go_setN (i : Nat) (B : OkX X) (hi : X.N[i]? = some x) (hx : Loc X.env.scope x) (he : EvN X e env mu ds) (h : P.nx (env.set i (some (.at mu.length))) (mu ++ [.lst ds])) (hs : swapsWith e (some (.Name x pos')) pos.line X.env = pure false := by rfl)
    (hf : X.fn x = true ∨ X.env.scope.names.lookup x = some .local := by first | exact .inl rfl | exact .inr rfl) : GoS X (.Assign [.Name x pos'] e pos) env mu P := fun F ps σ H K I E =>
  ⟨_, ps_set B.nd hi hx pE hs hf, he F ps σ H _ I fun p xs H1 hp e1 h1 r1 => by
    have J := alloc_lst I hp e1 h1 r1
    exact E.nx _ _ _ _ H1 h (List.prefix_append _ _) (J.setSlot (new_at J) i)⟩
theorem go_ret (he : Ev X e env mu ε) (hd : lend mu ε = some d) (h : P.rt d mu) : GoS X (.Return (some e) pos) env mu P := fun F ps σ H K I E =>
  ⟨_, ps_ret pE, he F ps σ H _ I fun v H1 e1 r1 => E.rt v d env mu ps σ H1 h (List.prefix_refl _) (I.mono e1) (by
    have I1 := I.mono e1
    have sub : Ext (stab F ps mu H1) (hid F.M H1) := fun a o z => by
      obtain ⟨z1, z2, z3⟩ := stab_some z
      rw [hid_of z1]; exact z3
    cases ε with
    | d d' => cases hd; exact Rep.mono sub r1
    | «at» m =>
      have hd : (match seqE mu (.at m) with
        | some (true, ds) => some (D.tup ds)
        | some (false, ds) => some (D.lst ds)
        | none => none) = some d := hd
      cases g : seqE mu (.at m) with
      | none => rw [g] at hd; cases hd
      | some tp =>
        obtain ⟨t, es⟩ := tp
        obtain ⟨a, xs, rfl, g1, g2⟩ := seqE_rep I1 r1 g
        obtain ⟨pa, y1, y2⟩ := r1
        have y2 : a = pa.1 := by cases y2; rfl
        have g' : (match mu[m]? with
          | some (.lst ds) => some (false, ds)
          | _ => none) = some (t, es) := g
        split at g'
        · rename_i es' q
          cases g'
          rw [g] at hd
          cases hd
          have nM : ¬ F.M a := fun z => by
            obtain ⟨o, q1, _⟩ := I1.m0 _ z
            rw [I1.fr a ⟨m, pa, _, y1, q, (by intro z; cases z), .inl y2⟩] at q1; cases q1
          exact .lst (by rw [hid_of nM]; exact g1) (g2.mono sub)
        · cases g'
    | sub m i =>
      have hd : (match seqE mu (.sub m i) with
        | some (true, ds) => some (D.tup ds)
        | some (false, ds) => some (D.lst ds)
        | none => none) = some d := hd
      cases g : seqE mu (.sub m i) with
      | none => rw [g] at hd; cases hd
      | some tp =>
        obtain ⟨t, es⟩ := tp
        obtain ⟨a, xs, rfl, g1, g2⟩ := seqE_rep I1 r1 g
        obtain ⟨pa, a', y1, y3, y2⟩ := r1
        have y2 : a = a' := by cases y2; rfl
        subst y2
        have g' : (match mu[m]? with
          | some (.lol dss) => dss[i]?.map fun ds => (false, ds)
          | _ => none) = some (t, es) := g
        split at g'
        · rename_i dss q
          cases q2 : dss[i]? with
          | none => rw [q2] at g'; cases g'
          | some es' =>
            rw [q2] at g'
            cases g'
            rw [g] at hd
            cases hd
            have nM : ¬ F.M a := fun z => by
              obtain ⟨o, q1, _⟩ := I1.m0 _ z
              rw [I1.fr a ⟨m, pa, _, y1, q, (by intro z; cases z), .inr (List.mem_of_getElem? y3)⟩] at q1; cases q1
            exact .lst (by rw [hid_of nM]; exact g1) (g2.mono sub)
        · cases g'
    | raw ns => cases hd)⟩
theorem go_retP {Q : D → Prop} (he : EvP X e env mu Q) (h : ∀ d, Q d → P.rt d mu) : GoS X (.Return (some e) pos) env mu P := fun F ps σ H K I E =>
  ⟨_, ps_ret pE, he F ps σ H _ I fun v d H1 q e1 r1 => E.rt v d env mu ps σ H1 (h d q) (List.prefix_refl _) (I.mono e1) (Rep.mono (fun a o z => by
    obtain ⟨z1, z2, z3⟩ := stab_some z
    rw [hid_of z1]; exact z3) r1)⟩
theorem go_freeze (k : Nat) (hk : mu[k]? = some (.lst ds)) (h : Go X ss (env.map (unAt k (.lst ds))) (mu.set k .gone) P) : Go X ss env mu P := fun F ps σ H K I E => h F ps σ H K (I.freeze hk) E
theorem gos_freeze (k : Nat) (hk : mu[k]? = some (.lst ds)) (h : GoS X s (env.map (unAt k (.lst ds))) (mu.set k .gone) P) : GoS X s env mu P := fun F ps σ H K I E => h F ps σ H K (I.freeze hk) E
theorem go_if (hc : EvT X c env mu b) (h1 : b = true → Go X A env mu P) (h2 : b = false → Go X B env mu P) : GoS X (.If c A B pos) env mu P := fun F ps σ H K I E =>
  ⟨_, ps_if pT pSs pSs, hc F ps σ H _ I fun H1 e1 => by
    cases b with
    | true => exact h1 rfl F ps σ H1 K (I.mono e1) E
    | false => exact h2 rfl F ps σ H1 K (I.mono e1) E⟩
theorem go_for {items : List Item} {src : List MO → Prop} {T : Tg} {body : List Stmt} (W : Nat → List (Option E) → List MO → Prop) (B : OkX X) (hi : EvI X tg it env mu items src) (ht : TgOk X tg T) (h0 : W 0 env mu) (hsrc : ∀ i e u, W i e u → src u)
    (hstep : ∀ i item e u, items[i]? = some item → W i e u → ∃ e', bindT e T item = some e' ∧ Go X body e' u { nx := W (i + 1), ct := W (i + 1), bk := P.nx, rt := P.rt })
    (hend : ∀ e u, W items.length e u → P.nx e u) (hs : ∀ x, foldedSetIterable it X.env x = pure x := by intro _; rfl) : GoS X (.For tg it body [] pos) env mu P := fun F ps σ H K I E => by
  refine ⟨_, ps_for B.po B.calm pI pG pSs hs, hi F ps σ H _ I fun J H1 e1 hJ => ?_⟩
  have I1 := I.mono e1
  refine ⟨fun i m σ' H' => m = items.length - i ∧ i ≤ items.length ∧ ∃ e u ps', W i e u ∧ ps <+: ps' ∧ Sat (F.reb ps mu H1) ps' e u σ' H', ⟨_, rfl, Nat.zero_le _, env, mu, ps, h0, List.prefix_refl _, I1.reb⟩, ?_⟩
  rintro i m σ' H' ⟨rfl, hi, e, u, ps', w, pf, J1⟩
  obtain ⟨g1, g2⟩ := hJ _ ps' e u σ' H' J1 (reb_stab J1) pf (hsrc i e u w)
  by_cases hlt : i < items.length
  · have hx : items[i]? = some items[i] := List.getElem?_eq_getElem hlt
    obtain ⟨go, yl⟩ := g1 i _ hx
    refine .inr ⟨go, fun σ2 H2 => items.length - (i + 1) < items.length - i ∧ ∃ e u ps', W (i + 1) e u ∧ ps <+: ps' ∧ Sat (F.reb ps mu H1) ps' e u σ2 H2, fun σ2 H2 n => ⟨_, n.1, rfl, hlt, n.2⟩, fun v H2 hy => ?_⟩
    obtain ⟨e2, r2⟩ := yl v H2 hy
    obtain ⟨e', hb, hgo⟩ := hstep i _ e u hx w
    refine bind_run (J1.mono e2) r2 hb ht fun σ2 J2 _ => ?_
    refine hgo _ ps' σ2 H2 _ J2 ⟨fun e3 u3 p3 s3 H3 q f Z => ⟨by omega, e3, u3, p3, q, pf.trans f, Z⟩, fun v d e3 u3 p3 s3 H3 q f Z r => E.rt v d e3 u3 p3 s3 H3 q (pf.trans f) (reb_back I1 Z) r, fun e3 u3 p3 s3 H3 q f Z => E.nx e3 u3 p3 s3 H3 q (pf.trans f) (reb_back I1 Z), fun e3 u3 p3 s3 H3 q f Z => ⟨by omega, e3, u3, p3, q, pf.trans f, Z⟩⟩
  · have ei : i = items.length := by omega
    subst ei
    exact .inl ⟨g2, E.nx e u ps' σ' H' (hend e u w) pf (reb_back I1 J1)⟩
theorem go_while {body : List Stmt} (W : Nat → List (Option E) → List MO → Prop) (B : OkX X) (h0 : ∃ m, W m env mu)
    (hstep : ∀ m e u, W m e u → ∃ b, EvT X c e u b ∧ (b = true → Go X body e u { nx := fun e' u' => ∃ m', m' < m ∧ W m' e' u', ct := fun e' u' => ∃ m', m' < m ∧ W m' e' u', bk := P.nx, rt := P.rt }) ∧ (b = false → P.nx e u)) : GoS X (.While c body [] pos) env mu P := fun F ps σ H K I E => by
  refine ⟨_, ps_while B.po pT pSs, fun m σ' H' => ∃ e u ps', W m e u ∧ ps <+: ps' ∧ Sat F ps' e u σ' H', ?_, ?_⟩
  · obtain ⟨m, w⟩ := h0
    exact ⟨m, env, mu, ps, w, List.prefix_refl _, I⟩
  · rintro m σ' H' ⟨e, u, ps', w, pf, J⟩
    obtain ⟨b, h1, h2, h3⟩ := hstep m e u w
    refine h1 F ps' σ' H' _ J fun H1 e1 => ?_
    cases b with
    | false => exact E.nx e u ps' σ' H1 (h3 rfl) pf (J.mono e1)
    | true =>
      show ∃ N : L2.St → Hp → Prop, _
      refine ⟨fun σ2 H2 => ∃ m', m' < m ∧ ∃ e u ps', W m' e u ∧ ps <+: ps' ∧ Sat F ps' e u σ2 H2, fun σ2 H2 n => n, ?_⟩
      exact h2 rfl F ps' σ' H1 _ (J.mono e1) ⟨fun e3 u3 p3 s3 H3 ⟨m', q1, q2⟩ f Z => ⟨m', q1, e3, u3, p3, q2, pf.trans f, Z⟩, fun v d e3 u3 p3 s3 H3 q f Z r => E.rt v d e3 u3 p3 s3 H3 q (pf.trans f) Z r, fun e3 u3 p3 s3 H3 q f Z => E.nx e3 u3 p3 s3 H3 q (pf.trans f) Z, fun e3 u3 p3 s3 H3 ⟨m', q1, q2⟩ f Z => ⟨m', q1, e3, u3, p3, q2, pf.trans f, Z⟩⟩
end
end Cw
namespace Cw
open PySem PySem.Spec PyProof.Rows L2
section
variable {X : Cx} {env : List (Option E)} {mu : List MO} {P : Post} {ss : List Stmt} {e c o i tg it elt iter value : Expr} {ε ε2 : E} {pos pos' p2 apos tpos : Pos} {d : D} {ds : List D} {n k j : Nat} {x : Str} {b : Bool} {z : Int} {dss : List (List D)}
/-! ### stores -/
def gNs : List Nat → TGs
  | [] => gNil
  | j :: js => gCons (gName j) (gNs js)
def setN : List (Option E) → List Nat → List D → List (Option E)
  | env, j :: js, d :: ds => setN (env.set j (some (.d d))) js ds
  | env, _, _ => env
theorem gNs_run {F : Fr} {ps : List HA} {H : Hp} {Q : L2.St → Hp → Prop} : ∀ {js : List Nat} {ds : List D} {vs : List V} {env : List (Option E)} {σ : L2.St}, Sat F ps env mu σ H → Reps (stab F ps mu H) vs ds → ds.length = js.length → (∀ σ', Sat F ps (setN env js ds) mu σ' H → Q σ' H) → gNs js vs σ H Q
  | [], [], [], env, σ, I, _, _, h => ⟨rfl, h σ I⟩
  | j :: js, d :: ds, v :: vs, env, σ, I, .cons r rs, hl, h => ⟨v, vs, rfl, gNs_run (I.setSlot (ε := .d d) r j) rs (by simpa using hl) h⟩
  | [], _ :: _, _, _, _, _, _, hl, _ => by simp at hl
  | _ :: _, [], _, _, _, _, _, hl, _ => by simp at hl
theorem go_unpackP {js : List Nat} {Q : D → Prop} (he : EvP X e env mu Q) (hg : PG X tg (gTup X.K js.length (gNs js))) (h : ∀ d, Q d → ∃ ds, d = .tup ds ∧ ds.length = js.length ∧ P.nx (setN env js ds) mu) (hs : swapsWithSole [tg] e pos.line X.env = pure false := by rfl) (hw : swappedStores [tg] e X.env = pure none := by rfl)
    (h1 : (assignEach [tg] X.env).map (·.2) = [assign tg X.env] := by rfl) : GoS X (.Assign [tg] e pos) env mu P := fun F ps σ H K I E =>
  ⟨_, ps_asg pE hg hs hw h1, he F ps σ H _ I fun v d H1 q e1 r1 => by
    obtain ⟨ds, rfl, hl, hp⟩ := h d q
    obtain ⟨a, xs, rfl, g, r⟩ := Rep.tup_eq r1
    exact ⟨a, xs, rfl, SqT.of (stab_le _ _ g), by rw [r.length, hl], gNs_run (I.mono e1) r hl fun σ' J => E.nx _ _ ps σ' H1 hp (List.prefix_refl _) J⟩⟩
theorem Ev.toP (h : Ev X e env mu (.d d)) : EvP X e env mu (fun y => y = d) := fun F ps σ H Q I k => h F ps σ H Q I fun v H' ex r => k v d H' rfl ex r
theorem go_unpack {js : List Nat} (he : Ev X e env mu (.d (.tup ds))) (hg : PG X tg (gTup X.K js.length (gNs js))) (hl : ds.length = js.length) (h : P.nx (setN env js ds) mu) (hs : swapsWithSole [tg] e pos.line X.env = pure false := by rfl) (hw : swappedStores [tg] e X.env = pure none := by rfl)
    (h1 : (assignEach [tg] X.env).map (·.2) = [assign tg X.env] := by rfl) : GoS X (.Assign [tg] e pos) env mu P :=
  go_unpackP he.toP hg (fun d q => ⟨ds, q, hl, h⟩) hs hw h1
/-- xs[i] = e -/
theorem go_setIx (ho : Ev X o env mu (.at k)) (hk : mu[k]? = some (.lst ds)) (hi : Ev X i env mu (.d (.int z))) (hj : ixN ds.length z = some j) (he : Ev X e env mu (.d d)) (h : P.nx env (mu.set k (.lst (ds.set j d)))) (hs : swapsWithSole [.Subscript o i pos'] e pos.line X.env = pure false := by rfl) (hw : swappedStores [.Subscript o i pos'] e X.env = pure none := by rfl)
    (h1 : (assignEach [.Subscript o i pos'] X.env).map (·.2) = [assign (.Subscript o i pos') X.env] := by rfl)
    (hp : PG X (.Subscript o i pos') (gSub (wE X o) (wE X i) rSetL) := by exact pg_sub pE pE set_list) : GoS X (.Assign [.Subscript o i pos'] e pos) env mu P := fun F ps σ H K I E =>
  ⟨_, ps_asg pE hp hs hw h1, he F ps σ H _ I fun v H1 e1 r1 => ho F ps σ H1 _ (I.mono e1) fun w H2 e2 r2 => hi F ps σ H2 _ ((I.mono e1).mono e2) fun y H3 e3 r3 => by
    have I3 := ((I.mono e1).mono e2).mono e3
    obtain ⟨pa, p1, rfl⟩ := r2
    obtain rfl := Rep.int_eq r3
    obtain ⟨q1, xs, q2, q3⟩ := I3.mr k pa _ p1 hk
    refine ⟨pa.1, xs, z, j, rfl, rfl, q2, by rw [q3.length]; exact hj, E.nx _ _ ps σ _ h (List.prefix_refl _) (I3.put p1 hk (by intro z; cases z) (by intro z; cases z) List.mem_cons_self ⟨q1, _, upd_same, q3.set ((r1.mono (stab_mono (e2.trans e3)))) j⟩)⟩⟩
/-- xs.append(e) -/
theorem go_app (B : OkX X) (ho : Ev X o env mu (.at k)) (hk : mu[k]? = some (.lst ds)) (n1 : NoStar e) (he : Ev X e env mu (.d d)) (hl : ds.length < 100000) (h : P.nx env (mu.set k (.lst (ds ++ [d]))))
    (hbase : attributeBase o "append" X.env (eval o X.env) = eval o X.env := by rfl)
    (hfew : ((backTo pos' (starEach [e] X.env)).all (fun x => !x.1) && (backToKw pos' (keywordEach [] X.env)).all (fun x => x.1.isSome)
      && decide (([e] : List Expr).length + ([] : List Keyword).length + (if ([] : List Keyword).isEmpty then 0 else 1) < 30)) = true := by rfl)
    (hline : (apos.endLine == pos'.line) = true := by rfl) (hs : swapsWith (.Call (.Attribute o "append" apos) [e] [] pos') none pos.line X.env = pure false := by rfl) : GoS X (.Expr (.Call (.Attribute o "append" apos) [e] [] pos') pos) env mu P := fun F ps σ H K I E =>
  ⟨_, ps_expr (pe_bm PySem.F.plainAttrs_list PySem.F.slot_list_append PySem.F.type_list_append mt_append pE (pa_cons pE pa_nil (n1 _ _)) hbase hfew hline (n1 _ _) rfl) hs, ho F ps σ H _ I fun v H1 e1 r1 => by
    obtain ⟨pa, p1, rfl⟩ := r1
    obtain ⟨q1, xs, q2, q3⟩ := (I.mono e1).mr k pa _ p1 hk
    refine ⟨.inl ⟨rfl, _, SqL.of q2⟩, he F ps σ H1 _ (I.mono e1) fun w H2 e2 r2 => ?_⟩
    have I2 := (I.mono e1).mono e2
    obtain ⟨q1, xs, q2, q3⟩ := I2.mr k pa _ p1 hk
    exact ⟨pa.1, xs, w, rfl, rfl, q2, by rw [q3.length]; exact Nat.lt_of_lt_of_le hl (by decide), E.nx _ _ ps σ _ h (List.prefix_refl _) (I2.put p1 hk (by intro z; cases z) (by intro z; cases z) List.mem_cons_self ⟨q1, _, upd_same, q3.append (.one r2)⟩)⟩⟩
theorem nd_at {ps : List HA} {pa : HA} {k : Nat} (nd : (ps.flatMap fun pa => pa.1 :: pa.2).Nodup) (h : ps[k]? = some pa) : (pa.1 :: pa.2).Nodup := by
  induction ps generalizing k with
  | nil => simp at h
  | cons x ps ih =>
    rw [List.flatMap_cons, List.nodup_append] at nd
    cases k with
    | zero => simp at h; subst h; exact nd.1
    | succ k => exact ih nd.2.1 (by simpa using h)
theorem lolput {ps : List HA} {pa : HA} {S H : Hp} {a : Addr} {us : List V} {ds' : List D} (nd : (pa.1 :: pa.2).Nodup) (q1 : pa.2.length = dss.length) (q2 : H pa.1 = some (.lst (pa.2.map V.ref))) (q3 : ∀ (i : Nat) (a : Addr) (ds : List D), pa.2[i]? = some a → dss[i]? = some ds → ∃ xs, H a = some (.lst xs) ∧ Reps S xs ds)
    (p2 : pa.2[j]? = some a) (hj : dss[j]? = some ds) (r : Reps S us ds') : MRep S ps (upd H a (.lst us)) pa (.lol (dss.set j ds')) := by
  obtain ⟨n1, n2⟩ := List.nodup_cons.mp nd
  have na : pa.1 ≠ a := fun z => n1 (by rw [z]; exact List.mem_of_getElem? p2)
  refine ⟨by rw [List.length_set]; exact q1, by rw [upd_ne na]; exact q2, fun i b es hb he => ?_⟩
  by_cases hi : j = i
  · subst hi
    rw [p2] at hb
    cases hb
    rw [List.getElem?_set_self (List.getElem?_eq_some_iff.mp hj).1] at he
    cases he
    exact ⟨us, upd_same, r⟩
  · rw [List.getElem?_set_ne hi] at he
    obtain ⟨xs, g1, g2⟩ := q3 i b es hb he
    have nb : b ≠ a := fun z => hi ((List.getElem?_inj (List.getElem?_eq_some_iff.mp p2).1 n2).mp (by rw [p2, hb, z]))
    exact ⟨xs, by rw [upd_ne nb]; exact g1, g2⟩
/-- xs[i].append(e), xs a list of one's own lists -/
theorem go_appS (B : OkX X) (ho : Ev X o env mu (.sub k j)) (hk : mu[k]? = some (.lol dss)) (hj : dss[j]? = some ds) (n1 : NoStar e) (he : Ev X e env mu (.d d)) (hl : ds.length < 100000) (h : P.nx env (mu.set k (.lol (dss.set j (ds ++ [d])))))
    (hbase : attributeBase o "append" X.env (eval o X.env) = eval o X.env := by rfl)
    (hfew : ((backTo pos' (starEach [e] X.env)).all (fun x => !x.1) && (backToKw pos' (keywordEach [] X.env)).all (fun x => x.1.isSome)
      && decide (([e] : List Expr).length + ([] : List Keyword).length + (if ([] : List Keyword).isEmpty then 0 else 1) < 30)) = true := by rfl)
    (hline : (apos.endLine == pos'.line) = true := by rfl) (hs : swapsWith (.Call (.Attribute o "append" apos) [e] [] pos') none pos.line X.env = pure false := by rfl) : GoS X (.Expr (.Call (.Attribute o "append" apos) [e] [] pos') pos) env mu P := fun F ps σ H K I E =>
  ⟨_, ps_expr (pe_bm PySem.F.plainAttrs_list PySem.F.slot_list_append PySem.F.type_list_append mt_append pE (pa_cons pE pa_nil (n1 _ _)) hbase hfew hline (n1 _ _) rfl) hs, ho F ps σ H _ I fun v H1 e1 r1 => by
    obtain ⟨pa, a, p1, p2, rfl⟩ := r1
    obtain ⟨q1, q2, q3⟩ := (I.mono e1).mr k pa _ p1 hk
    obtain ⟨xs, q4, q5⟩ := q3 j a ds p2 hj
    refine ⟨.inl ⟨rfl, _, SqL.of q4⟩, he F ps σ H1 _ (I.mono e1) fun w H2 e2 r2 => ?_⟩
    have I2 := (I.mono e1).mono e2
    obtain ⟨q1, q2, q3⟩ := I2.mr k pa _ p1 hk
    obtain ⟨xs, q4, q5⟩ := q3 j a ds p2 hj
    have ma : a ∈ pa.1 :: pa.2 := List.mem_cons_of_mem _ (List.mem_of_getElem? p2)
    have nd : (pa.1 :: pa.2).Nodup := nd_at I2.nd p1
    refine ⟨a, xs, w, rfl, rfl, q4, by rw [q5.length]; exact Nat.lt_of_lt_of_le hl (by decide), E.nx _ _ ps σ _ h (List.prefix_refl _) (I2.put p1 hk (by intro z; cases z) (by intro z; cases z) ma (lolput nd q1 q2 q3 p2 hj (q5.append (.one r2))))⟩⟩
/-- xs[i].pop() as a statement -/
theorem go_popS (ho : Ev X o env mu (.sub k j)) (hk : mu[k]? = some (.lol dss)) (hj : dss[j]? = some ds) (hne : ds ≠ []) (h : P.nx env (mu.set k (.lol (dss.set j ds.dropLast))))
    (hbase : attributeBase o "pop" X.env (eval o X.env) = eval o X.env := by rfl) (hline : (apos.endLine == pos'.line) = true := by rfl) (hs : swapsWith (.Call (.Attribute o "pop" apos) [] [] pos') none pos.line X.env = pure false := by rfl) : GoS X (.Expr (.Call (.Attribute o "pop" apos) [] [] pos') pos) env mu P := fun F ps σ H K I E =>
  ⟨_, ps_expr (pe_bm0 PySem.F.plainAttrs_list PySem.F.slot_list_pop PySem.F.type_list_pop mt_pop pE hbase hline) hs, ho F ps σ H _ I fun v H1 e1 r1 => by
    obtain ⟨pa, a, p1, p2, rfl⟩ := r1
    have I1 := I.mono e1
    obtain ⟨q1, q2, q3⟩ := I1.mr k pa _ p1 hk
    obtain ⟨xs, q4, q5⟩ := q3 j a ds p2 hj
    have hx : xs.length ≠ 0 := by rw [q5.length]; intro z; exact hne (List.length_eq_zero_iff.mp z)
    refine ⟨.inl ⟨rfl, _, SqL.of q4⟩, a, xs, xs[xs.length - 1]'(by omega), rfl, rfl, q4, List.getElem?_eq_getElem (by omega), E.nx _ _ ps σ _ h (List.prefix_refl _) (I1.put p1 hk (by intro z; cases z) (by intro z; cases z) (List.mem_cons_of_mem _ (List.mem_of_getElem? p2)) (lolput (nd_at I1.nd p1) q1 q2 q3 p2 hj q5.dropLast))⟩⟩
/-- x += e (ints) -/
theorem go_aug (i : Nat) {y z : Int} (B : OkX X) (hi : X.N[i]? = some x) (hx : Loc X.env.scope x) (h0 : env[i]? = some (some (.d (.int y)))) (he : Ev X e env mu (.d (.int z))) (h : P.nx (env.set i (some (.d (.int (y + z))))) mu)
    (hf : X.fn x = true ∨ X.env.scope.names.lookup x = some .local := by first | exact .inl rfl | exact .inr rfl) : GoS X (.AugAssign (.Name x pos') .Add e pos) env mu P := fun F ps σ H K I E =>
  ⟨_, ps_aug B.nd hi hx pE ip_add hf, by
    obtain ⟨v, h1, h2⟩ := I.en i _ h0
    obtain rfl := Rep.int_eq h2
    refine ⟨_, h1, he F ps σ H _ I fun w H1 e1 r1 => ?_⟩
    obtain rfl := Rep.int_eq r1
    exact ⟨y, z, rfl, rfl, E.nx _ _ ps _ H1 h (List.prefix_refl _) ((I.mono e1).setSlot (ε := .d (.int (y + z))) (.int _) i)⟩⟩
def rGetL (K : PySem.W.Frag) : V → V → Hp → VK → Prop := fun o i H Q => ∃ p xs z v, o = .ref p ∧ i = .int z ∧ SqL K H p xs ∧ 0 ≤ z ∧ xs[z.toNat]? = some v ∧ Q v H
theorem get_list : PGet X (rGetL X.K) := by
  intro pins s σ H o i ov iv Q I ro ri h
  obtain ⟨p, xs, z, v, rfl, rfl, hq, h0, hx, q⟩ := h
  cases ro
  obtain ⟨t, rfl⟩ := ri
  obtain ⟨its, r, pl, hz⟩ := I.list hq
  obtain ⟨w, ew, rw'⟩ := r.get hx
  have hl := r.length
  have hi := (List.getElem?_eq_some_iff.mp hx).1
  have hs : sizeLine < 2 ^ 62 := by decide
  exact wpAny_getItem_list (x := w) pl.isList h0 (by omega) (by simpa using ew) ⟨v, H, I, rw', q⟩
/-- xs[i] += e (a list of one's own, ints) -/
theorem go_augIx {y z z2 : Int} (ho : Ev X o env mu (.at k)) (hk : mu[k]? = some (.lst ds)) (hi : Ev X i env mu (.d (.int z))) (h0 : 0 ≤ z) (hj : z.toNat < ds.length) (hy : ds[z.toNat]? = some (.int y)) (he : Ev X e env mu (.d (.int z2))) (h : P.nx env (mu.set k (.lst (ds.set z.toNat (.int (y + z2))))))
    (ha : ∀ ov iv new, augStore i ov iv new = (do holding [new, ov, iv] (setItem ov iv new); release [new, ov, iv] []; pure .next) := by intros; rfl) : GoS X (.AugAssign (.Subscript o i tpos) .Add e pos) env mu P := fun F ps σ H K I E =>
  ⟨_, ps_augS pE pE get_list pE ip_add set_list ha, ho F ps σ H _ I fun v H1 e1 r1 => hi F ps σ H1 _ (I.mono e1) fun w H2 e2 r2 => by
    have I2 := (I.mono e1).mono e2
    obtain ⟨pa, p1, rfl⟩ := r1
    obtain rfl := Rep.int_eq r2
    obtain ⟨q1, xs, q2, q3⟩ := I2.mr k pa _ p1 hk
    obtain ⟨u, g1, g2⟩ := q3.get hy
    obtain rfl := Rep.int_eq g2
    refine ⟨pa.1, xs, z, _, rfl, rfl, SqL.of q2, h0, g1, he F ps σ H2 _ I2 fun t H3 e3 r3 => ?_⟩
    obtain rfl := Rep.int_eq r3
    have I3 := I2.mono e3
    obtain ⟨q1, xs, q2, q3⟩ := I3.mr k pa _ p1 hk
    exact ⟨y, z2, rfl, rfl, pa.1, xs, z, z.toNat, rfl, rfl, q2, by unfold ixN; rw [if_pos h0, if_pos (by rw [q3.length]; omega)], E.nx _ _ ps σ _ h (List.prefix_refl _) (I3.put p1 hk (by intro z; cases z) (by intro z; cases z) List.mem_cons_self ⟨q1, _, upd_same, q3.set (.int _) _⟩)⟩⟩
/-- an expression whose value is dropped -/
theorem go_drop (he : Ev X e env mu ε) (h : P.nx env mu) (hs : swapsWith e none pos.line X.env = pure false := by rfl) : GoS X (.Expr e pos) env mu P := fun F ps σ H K I E =>
  ⟨_, ps_expr pE hs, he F ps σ H _ I fun v H1 e1 r1 => E.nx _ _ ps σ H1 h (List.prefix_refl _) (I.mono e1)⟩
/-! ### a comprehension given to a name -/
section
variable {α : Type} {ifs : List Expr} {scope : Scope} {own : List (Str × Nat)} {T : Tg} {src : List MO → Prop} {py spos : Pos}
theorem go_setLc (i : Nat) {xs : List α} {it : α → Item} (p : α → Bool) (g : α → D) (K : LcOk X tg iter elt ifs scope own env mu xs it T src) (hi : X.N[i]? = some x) (hy : X.env.scope.names.lookup x = some .local)
    (hb : ∀ y ∈ xs, ∃ env', bindT (wipeE env (own.map (·.2))) T (it y) = some env' ∧ ∀ X', Blk X scope X' → EvTs X' ifs env' mu (p y) ∧ (p y = true → Ev X' elt env' mu (.d (g y)))) (h : P.nx (env.set i (some (.at mu.length))) (mu ++ [.lst ((xs.filter p).map g)]))
    (hsw : swapsWith (.ListComp elt [⟨tg, iter, ifs, 0⟩] scope pos) (some (.Name x py)) spos.line X.env = pure true) (hs : ∀ x, foldedSetIterable iter X.env x = pure x := by intro _; rfl) : GoS X (.Assign [.Name x py] (.ListComp elt [⟨tg, iter, ifs, 0⟩] scope pos) spos) env mu P := fun F ps σ H K' I E =>
  ⟨_, ps_setLc K.B.calm K.B.nd hi hy hsw pI K.ok pBG pBT pBE hs, lc_tLc p g K hb I fun q us H1 hq e1 h1 r1 => by
    have J := alloc_lst I hq e1 h1 r1
    exact E.nx _ _ _ _ H1 h (List.prefix_append _ _) (J.setSlot (new_at J) i)⟩
theorem go_setLcm (i : Nat) {xs : List α} {it : α → Item} (g : α → D) (K : LcOk X tg iter elt [] scope own env mu xs it T src) (hi : X.N[i]? = some x) (hy : X.env.scope.names.lookup x = some .local)
    (hb : ∀ y ∈ xs, ∃ env', bindT (wipeE env (own.map (·.2))) T (it y) = some env' ∧ ∀ X', Blk X scope X' → Ev X' elt env' mu (.d (g y))) (h : P.nx (env.set i (some (.at mu.length))) (mu ++ [.lst (xs.map g)]))
    (hsw : swapsWith (.ListComp elt [⟨tg, iter, [], 0⟩] scope pos) (some (.Name x py)) spos.line X.env = pure true) (hs : ∀ x, foldedSetIterable iter X.env x = pure x := by intro _; rfl) : GoS X (.Assign [.Name x py] (.ListComp elt [⟨tg, iter, [], 0⟩] scope pos) spos) env mu P :=
  go_setLc i (fun _ => true) g K hi hy (fun x hx => by
    obtain ⟨e, h1, h2⟩ := hb x hx
    exact ⟨e, h1, fun X' b => ⟨ets_nil, fun _ => h2 X' b⟩⟩) (by rw [List.filter_eq_self.mpr (fun _ _ => rfl)]; exact h) hsw hs
theorem alloc_lol {F : Fr} {ps : List HA} {σ : L2.St} {H H1 : Hp} {p : Addr} {qs : List Addr} (I : Sat F ps env mu σ H) (fr : ∀ a ∈ p :: qs, H a = none) (nd : (p :: qs).Nodup) (e1 : Ext H H1) (h1 : H1 p = some (.lst (qs.map V.ref))) (hl : qs.length = dss.length)
    (hc : ∀ (i : Nat) (a : Addr) (ds : List D), qs[i]? = some a → dss[i]? = some ds → ∃ us, H1 a = some (.lst us) ∧ Reps (stabN F ps mu (p :: qs) H1) us ds) : Sat F (ps ++ [(p, qs)]) env (mu ++ [.lol dss]) σ H1 :=
  I.alloc fr nd e1 (fun b hb => by
    rcases List.mem_cons.mp hb with rfl | hb
    · exact ⟨_, h1⟩
    · obtain ⟨i, hi, ei⟩ := List.mem_iff_getElem.mp hb
      have hi2 : i < dss.length := by omega
      obtain ⟨us, g, _⟩ := hc i b _ (by rw [← ei]; exact List.getElem?_eq_getElem hi) (List.getElem?_eq_getElem hi2)
      exact ⟨_, g⟩) ⟨hl, h1, hc⟩
theorem go_setLcL (i : Nat) {xs : List α} {it : α → Item} (g : α → List D) (K : LcOk X tg iter elt [] scope own env mu xs it T src) (hi : X.N[i]? = some x) (hy : X.env.scope.names.lookup x = some .local)
    (hb : ∀ y ∈ xs, ∃ env', bindT (wipeE env (own.map (·.2))) T (it y) = some env' ∧ ∀ X', Blk X scope X' → EvN X' elt env' mu (g y)) (h : P.nx (env.set i (some (.at mu.length))) (mu ++ [.lol (xs.map g)]))
    (hsw : swapsWith (.ListComp elt [⟨tg, iter, [], 0⟩] scope pos) (some (.Name x py)) spos.line X.env = pure true) (hs : ∀ x, foldedSetIterable iter X.env x = pure x := by intro _; rfl) : GoS X (.Assign [.Name x py] (.ListComp elt [⟨tg, iter, [], 0⟩] scope pos) spos) env mu P := fun F ps σ H K' I E =>
  ⟨_, ps_setLc K.B.calm K.B.nd hi hy hsw pI K.ok pBG pBT pBE hs, enl_lc g K hb I fun p qs H1 fr nd e1 h1 hl hc => by
    have J := alloc_lol I fr nd e1 h1 hl hc
    exact E.nx _ _ _ _ H1 h (List.prefix_append _ _) (J.setSlot (new_at J) i)⟩
end
end
end Cw
namespace Cw
open PySem PySem.Spec PyProof.Rows L2
/-! ### a def keeps its promise -/
theorem start_sat {N : List Str} {S H : Hp} {vs : List V} {ds : List D} (hl : ds.length ≤ N.length) {M : Addr → Prop} (hM : ∀ b, M b → ∃ o, H b = some o ∧ NT o) (r : Reps (hid M H) vs ds) :
    Sat ⟨H, M⟩ [] (ds.map (fun d => some (.d d)) ++ List.replicate (N.length - ds.length) none) [] (L2.start N vs) H where
  ex := Ext.refl H
  m0 := hM
  fr := fun b h => by obtain ⟨k, pa, o, h1, _⟩ := h; simp at h1
  nd := by simp
  len := rfl
  tr := fun b h => by simp at h
  mr := fun k pa o h => by simp at h
  ln := by unfold L2.start; rw [List.length_append, List.length_append, List.length_map, List.length_map, List.length_replicate, List.length_replicate, r.length]
  en := fun i ε h => by
    have e : stab ⟨H, M⟩ [] [] H = hid M H := by
      funext b
      have nl : ¬ Lv [] [] b := fun ⟨k, pa, o, h1, _⟩ => by simp at h1
      by_cases q : M b
      · unfold stab hid; rw [if_pos q, if_pos (.inl q)]
      · unfold stab hid; rw [if_neg q, if_neg (fun z => z.elim q nl)]
    rw [e]
    by_cases hi : i < ds.length
    · rw [List.getElem?_append_left (by rw [List.length_map]; exact hi), List.getElem?_map, List.getElem?_eq_getElem hi] at h
      cases h
      obtain ⟨v, h1, h2⟩ := r.get (List.getElem?_eq_getElem hi)
      refine ⟨v, ?_, h2⟩
      unfold L2.start
      rw [List.getElem?_append_left (by rw [List.length_map, r.length]; exact hi), List.getElem?_map, h1]; rfl
    · rw [List.getElem?_append_right (by rw [List.length_map]; omega)] at h
      have := List.mem_of_getElem? h
      rw [List.mem_replicate] at this
      cases this.2
abbrev FnT (K : PySem.W.Frag) (x qual : Str) (st : Stmt) (f : Addr) (fd : FuncData) : Prop := FunD K x qual (defArgs st) (defBody st) (defScope st) [] [] f fd
/-- the context of a body -/
abbrev Bx (P : Program) (w : World) (K : PySem.W.Frag) (mg : Str → Option Value) (base : Heap) (N : List Str) (qual : Str) (st : Stmt) (f : Addr) (cdv : Value) (A : Around) (outer : List Env) (s : Shared) (H : Hp) (E : XK) : Cx := (cxOf CX0 P w K mg base N qual (defScope st) f cdv A outer s H E).nox
theorem fn_ok {P : Program} {w : World} {K : PySem.W.Frag} {mg : Str → Option Value} {base : Heap} {x qual : Str} {st : Stmt} {f : Addr} {fd : FuncData} {N ps : List Str} {k : Nat} {Pre : List D → (D → Prop) → Prop} (F : FnT K x qual st f fd) (S : FnScope N ps (defScope st))
    (len : ∀ ds k, Pre ds k → ds.length = ps.length)
    (body : ∀ (cdv : Value) (A : Around) (outer : List Env) (s : Shared) (H : Hp) (E : XK) (X : Cx), X = Bx P w K mg base N qual st f cdv A outer s H E → OkX X → Room k X.A → ∀ (ds : List D) (kk : D → Prop), Pre ds kk →
      Go X (defBody st) (ds.map (fun d => some (.d d)) ++ List.replicate (N.length - ds.length) none) [] { nx := fun _ _ => kk .non, rt := fun d _ => kk d }) :
    FnOk P w K mg base CX0 (k + 1) f fd ps (spD Pre) := by
  have hN : ps.length ≤ N.length := by have := congrArg List.length S.pre; rw [List.length_take] at this; omega
  refine F.ok S (fun vs H Q E h => ?_) (fun cdv A outer s H vs Q E hr h => ?_)
  · obtain ⟨M, ds, _, r, p⟩ := h
    rw [r.length]; exact len _ _ p
  · obtain ⟨M, ds, hM, r, p⟩ := h
    have hl := len _ _ p
    obtain ⟨t, h1, h2⟩ := body cdv A outer s H E _ rfl ⟨rfl, S.nd, PassesOwn.never⟩ hr ds _ p ⟨H, M⟩ [] _ H { nx := fun _ H' => Q .non H', rt := Q } (start_sat (S := H) (by omega) hM r) ⟨fun e u p s H' q _ J => q .non H' J.ex .non, fun v d e u p s H' q _ J z => q v H' J.ex z, fun _ _ _ _ _ q => q.elim, fun _ _ _ _ _ q => q.elim⟩
    exact ⟨t, PSs.nox h1, h2⟩
theorem fn_mk {P : Program} {w : World} {K : PySem.W.Frag} {mg : Str → Option Value} {base : Heap} {g x qual : Str} {st : Stmt} {f : Addr} {fd : FuncData} {N ps : List Str} {k : Nat} {Pre : List D → (D → Prop) → Prop} (F : FnT K x qual st f fd) (hm : mg g = some (.ref f)) (hb : Binds K fd ps []) (S : FnScope N ps (defScope st))
    (len : ∀ ds k, Pre ds k → ds.length = ps.length)
    (body : ∀ (cdv : Value) (A : Around) (outer : List Env) (s : Shared) (H : Hp) (E : XK) (X : Cx), X = Bx P w K mg base N qual st f cdv A outer s H E → OkX X → Room k X.A → ∀ (ds : List D) (kk : D → Prop), Pre ds kk →
      Go X (defBody st) (ds.map (fun d => some (.d d)) ++ List.replicate (N.length - ds.length) none) [] { nx := fun _ _ => kk .non, rt := fun d _ => kk d }) :
    Fn P w K mg base g (k + 1) Pre := ⟨f, fd, ps, fn_ok F S len body, hm, F.kp, hb⟩
theorem Fn.mono {P : Program} {w : World} {K : PySem.W.Frag} {mg : Str → Option Value} {base : Heap} {g : Str} {j k : Nat} {Pre : List D → (D → Prop) → Prop} (h : Fn P w K mg base g j Pre) (l : j ≤ k) : Fn P w K mg base g k Pre := by
  obtain ⟨f, fd, ps, h1, h2⟩ := h.ex
  exact ⟨f, fd, ps, h1.mono l, h2⟩
end Cw
namespace Cw
open PySem PySem.Spec PyProof.Rows L2
/-! ### operations by what they see -/
section
variable {X : Cx} {env : List (Option E)} {mu : List MO} {a b c e : Expr} {ε ε1 ε2 : E} {pos p : Pos} {d d1 d2 : D} {ds : List D} {i j : Int} {r : Bool} {t : Bool}
theorem ev_neg (ha : Ev X a env mu (.d (.int i))) : Ev X (.UnaryOp .USub a pos) env mu (.d (.int (-i))) := fun F ps σ H Q I k =>
  ⟨_, pe_un un_neg pE, ha F ps σ H _ I fun v H1 e1 r1 => ⟨i, Rep.int_eq r1, k _ H1 e1 (.int _)⟩⟩
def idxE (mu : List MO) : E → E → Option E
  | .d (.str z), .d (.int i) => if z.length ≤ 1000 then (atI z.cps.toList i).map fun n => .d (.str ⟨#[n]⟩) else none
  | .at k, .d (.int i) => (match mu[k]? with
    | some (.lol dss) => (ixN dss.length i).map fun j => .sub k j
    | some (.lst ds) => (atI ds i).map .d
    | _ => none)
  | ε, .d (.int i) => (match seqE mu ε with
    | some (_, ds) => (atI ds i).map .d
    | none => none)
  | _, _ => none
theorem ev_idx (ha : Ev X a env mu ε1) (hb : Ev X b env mu ε2) (h : idxE mu ε1 ε2 = some ε) (hp : PlainIx b := by exact fun _ _ => rfl) : Ev X (.Subscript a b pos) env mu ε := by
  have seq : ∀ i, ε2 = .d (.int i) → (match seqE mu ε1 with
    | some (_, ds) => (atI ds i).map E.d
    | none => none) = some ε → Ev X (.Subscript a b pos) env mu ε := fun i e2 hh => by
    subst e2
    cases g : seqE mu ε1 with
    | none => rw [g] at hh; cases hh
    | some q =>
      obtain ⟨t, ds⟩ := q
      rw [g] at hh
      cases g2 : atI ds i with
      | none => simp only [g2] at hh; cases hh
      | some d =>
        simp only [g2] at hh
        cases hh
        exact ev_ix ha hb g g2 hp
  cases ε2 with
  | d d2 =>
    cases d2 with
    | int i =>
      cases ε1 with
      | d d1 =>
        cases d1 with
        | str z =>
          have h : (if z.length ≤ 1000 then (atI z.cps.toList i).map fun n => E.d (.str ⟨#[n]⟩) else none) = some ε := h
          split at h
          · rename_i hl
            cases g2 : atI z.cps.toList i with
            | none => rw [g2] at h; cases h
            | some n => rw [g2] at h; cases h; exact ev_ixS ha hb (Nat.le_trans hl (by decide)) g2 hp
          · cases h
        | _ => exact seq i rfl h
      | «at» k =>
        have h : (match mu[k]? with
          | some (.lol dss) => (ixN dss.length i).map fun j => E.sub k j
          | some (.lst ds) => (atI ds i).map .d
          | _ => none) = some ε := h
        split at h
        · rename_i dss q
          cases g2 : ixN dss.length i with
          | none => rw [g2] at h; cases h
          | some j => rw [g2] at h; cases h; exact ev_ixL ha hb q g2 hp
        · rename_i ds q
          refine seq i rfl ?_
          have e : seqE mu (.at k) = some (false, ds) := by
            show (match mu[k]? with
              | some (.lst ds) => some (false, ds)
              | _ => none) = _
            rw [q]
          rw [e]; exact h
        · cases h
      | sub k j => exact seq i rfl h
      | raw ns => exact seq i rfl h
    | _ => cases ε1 with
      | d d1 => cases d1 <;> cases h
      | «at» k => cases h
      | sub k j => cases h
      | raw ns => cases h
  | «at» k => cases ε1 with
    | d d1 => cases d1 <;> cases h
    | «at» k => cases h
    | sub k j => cases h
    | raw ns => cases h
  | sub k j => cases ε1 with
    | d d1 => cases d1 <;> cases h
    | «at» k => cases h
    | sub k j => cases h
    | raw ns => cases h
  | raw ns => cases ε1 with
    | d d1 => cases d1 <;> cases h
    | «at» k => cases h
    | sub k j => cases h
    | raw ns => cases h
theorem atI_map {α : Type} {f : α → D} {xs : List α} {n : Nat} {x : α} (h : xs[n]? = some x) : atI (xs.map f) (n : Int) = some (f x) := by
  have hl := (List.getElem?_eq_some_iff.mp h).1
  refine atI_of (j := n) ?_ (by rw [List.getElem?_map, h]; rfl)
  unfold ixN
  rw [if_pos (Int.natCast_nonneg n), if_pos (by rw [List.length_map]; omega), Int.toNat_natCast]
theorem idx_tup {α : Type} {f : α → D} {xs : List α} {n : Nat} {x : α} (h : xs[n]? = some x) : idxE mu (.d (.tup (xs.map f))) (.d (.int (n : Int))) = some (.d (f x)) := by
  show (atI (xs.map f) (n : Int)).map E.d = _
  rw [atI_map h]; rfl
theorem idx_lst {α : Type} {f : α → D} {xs : List α} {n : Nat} {x : α} (h : xs[n]? = some x) : idxE mu (.d (.lst (xs.map f))) (.d (.int (n : Int))) = some (.d (f x)) := by
  show (atI (xs.map f) (n : Int)).map E.d = _
  rw [atI_map h]; rfl
theorem idx_at {α : Type} {f : α → D} {xs : List α} {n k : Nat} {x : α} (hk : mu[k]? = some (.lst (xs.map f))) (h : xs[n]? = some x) : idxE mu (.at k) (.d (.int (n : Int))) = some (.d (f x)) := by
  show (match mu[k]? with
    | some (.lol dss) => (ixN dss.length (n : Int)).map fun j => E.sub k j
    | some (.lst ds) => (atI ds (n : Int)).map .d
    | _ => none) = _
  rw [hk]
  show (atI (xs.map f) (n : Int)).map E.d = _
  rw [atI_map h]; rfl
theorem idx_lol {dss : List (List D)} {n k : Nat} (hk : mu[k]? = some (.lol dss)) (h : n < dss.length) : idxE mu (.at k) (.d (.int (n : Int))) = some (.sub k n) := by
  show (match mu[k]? with
    | some (.lol dss) => (ixN dss.length (n : Int)).map fun j => E.sub k j
    | some (.lst ds) => (atI ds (n : Int)).map .d
    | _ => none) = _
  rw [hk]
  show (ixN dss.length (n : Int)).map (fun j => E.sub k j) = _
  unfold ixN
  rw [if_pos (Int.natCast_nonneg n), if_pos (by omega), Int.toNat_natCast]; rfl
/-- the last one -/
theorem atI_last {α : Type} {xs : List α} {x : α} (h : xs.getLast? = some x) : atI xs (-1) = some x := by
  have hne : xs ≠ [] := fun e => by rw [e] at h; cases h
  have hl : 0 < xs.length := List.length_pos_iff.mpr hne
  refine atI_of (j := xs.length - 1) ?_ (by rw [← List.getLast?_eq_getElem?]; exact h)
  unfold ixN
  rw [if_neg (by omega), if_pos (by omega)]
  congr 1
  omega
/-! equality of plain things -/
def eqB : D → D → Option Bool
  | .int i, .int j => some (decide (i = j))
  | .str i, .str j => some (decide (i = j))
  | .bl i, .bl j => some (decide (i = j))
  | _, _ => none
theorem cmp_eqG (h : eqB d1 d2 = some r) : CmpOk X .Eq mu (.d d1) (.d d2) r := by
  cases d1 <;> cases d2 <;> first | (cases h; exact cmp_eq) | (cases h; exact cmp_eqS) | (cases h; exact cmp_eqB) | cases h
theorem cmp_neB {i j : Bool} : CmpOk X .NotEq mu (.d (.bl i)) (.d (.bl j)) (!decide (i = j)) := ⟨_, op_ne, fun F ps env σ H v w Q I rv rw k => by
  obtain rfl := Rep.bl_eq rv; obtain rfl := Rep.bl_eq rw
  exact ⟨rfl, by rw [vbl_eq]; exact k H (Ext.refl H)⟩⟩
theorem cmp_neG (h : eqB d1 d2 = some r) : CmpOk X .NotEq mu (.d d1) (.d d2) (!r) := by
  cases d1 <;> cases d2 <;> first | (cases h; exact cmp_ne) | (cases h; exact cmp_neS) | (cases h; exact cmp_neB) | cases h
/-! membership of texts, of ints -/
theorem inV_strs {z : Str} : ∀ {zs : List Str}, inV (.str z) (zs.map V.str) = decide (z ∈ zs)
  | [] => rfl
  | y :: ys => by
    have ih := inV_strs (z := z) (zs := ys)
    unfold inV at ih ⊢
    rw [List.map_cons, List.any_cons, ih]
    by_cases h : z = y
    · subst h; simp [eqV]
    · have : eqV (.str y) (.str z) = false := by simp [eqV]; exact fun e => h e.symm
      simp [h, this]
theorem inV_ints {z : Int} : ∀ {zs : List Int}, inV (.int z) (zs.map V.int) = decide (z ∈ zs)
  | [] => rfl
  | y :: ys => by
    have ih := inV_ints (z := z) (zs := ys)
    unfold inV at ih ⊢
    rw [List.map_cons, List.any_cons, ih]
    by_cases h : z = y
    · subst h; simp [eqV]
    · have : eqV (.int y) (.int z) = false := by simp [eqV]; exact fun e => h e.symm
      simp [h, this]
theorem flat_strs : ∀ zs : List Str, (zs.map V.str).all flatV = true
  | [] => rfl
  | _ :: ys => by rw [List.map_cons, List.all_cons, flat_strs ys]; rfl
theorem flat_ints : ∀ zs : List Int, (zs.map V.int).all flatV = true
  | [] => rfl
  | _ :: ys => by rw [List.map_cons, List.all_cons, flat_ints ys]; rfl
theorem cmp_inS {z : Str} {zs : List Str} (h : seqE mu ε = some (t, zs.map D.str)) : CmpOk X .In mu (.d (.str z)) ε (decide (z ∈ zs)) := by
  rw [← inV_strs]
  exact cmp_in rfl h (by rw [List.map_map, List.map_map]; rfl) rfl (flat_strs zs)
theorem cmp_notInS {z : Str} {zs : List Str} (h : seqE mu ε = some (t, zs.map D.str)) : CmpOk X .NotIn mu (.d (.str z)) ε (!decide (z ∈ zs)) := by
  rw [← inV_strs]
  exact cmp_notIn rfl h (by rw [List.map_map, List.map_map]; rfl) rfl (flat_strs zs)
theorem cmp_inI {z : Int} {zs : List Int} (h : seqE mu ε = some (t, zs.map D.int)) : CmpOk X .In mu (.d (.int z)) ε (decide (z ∈ zs)) := by
  rw [← inV_ints]
  exact cmp_in rfl h (by rw [List.map_map, List.map_map]; rfl) rfl (flat_ints zs)
theorem cmp_notInI {z : Int} {zs : List Int} (h : seqE mu ε = some (t, zs.map D.int)) : CmpOk X .NotIn mu (.d (.int z)) ε (!decide (z ∈ zs)) := by
  rw [← inV_ints]
  exact cmp_notIn rfl h (by rw [List.map_map, List.map_map]; rfl) rfl (flat_ints zs)
/-! len, by what is seen -/
def lenE (mu : List MO) : E → Option Nat
  | .d (.str z) => if z.length ≤ 1000 then some z.length else none
  | ε => (seqE mu ε).map fun q => q.2.length
theorem ev_lenG {n : Nat} (hg : Gl X "len") (hm : X.mg "len" = none) (n1 : NoStar e) (ha : Ev X e env mu ε) (h : lenE mu ε = some n) : Ev X (.Call (.Name "len" p) [e] [] pos) env mu (.d (.int (n : Int))) := by
  have seq : (seqE mu ε).map (fun q => q.2.length) = some n → Ev X (.Call (.Name "len" p) [e] [] pos) env mu (.d (.int (n : Int))) := fun hh => by
    cases g : seqE mu ε with
    | none => rw [g] at hh; cases hh
    | some q =>
      obtain ⟨t, ds⟩ := q
      rw [g] at hh
      cases hh
      exact ev_len hg hm n1 ha g
  cases ε with
  | d d =>
    cases d with
    | str z =>
      have h : (if z.length ≤ 1000 then some z.length else none) = some n := h
      split at h
      · rename_i hl
        cases h
        exact ev_lenS hg hm n1 ha (Nat.le_trans hl (by decide))
      · cases h
    | _ => exact seq h
  | _ => exact seq h
/-! tuple(..) of a list or a tuple -/
theorem ev_tupleG {d : D} (hg : Gl X "tuple") (hm : X.mg "tuple" = none) (n1 : NoStar e) (ha : Ev X e env mu (.d d)) (hs : seqD d = some (t, ds)) : Ev X (.Call (.Name "tuple" p) [e] [] pos) env mu (.d (.tup ds)) := by
  cases d with
  | tup es => cases hs; exact ev_tupleT hg hm n1 ha
  | lst es => cases hs; exact ev_tupleL hg hm n1 ha rfl
  | _ => cases hs
end
end Cw
namespace Cw
open PySem PySem.Spec PyProof.Rows L2
/-! ### attributes are stored, dicts are written and read -/
def putE (f : Str) (ε : E) : List (Str × E) → List (Str × E)
  | [] => [(f, ε)]
  | (g, x) :: r => if g = f then (g, ε) :: r else (g, x) :: putE f ε r
theorem FRep.put {S : Hp} {ps : List HA} {f : Str} {v : V} {ε : E} (r : ERep S ps v ε) : ∀ {fv : List (Str × V)} {fs : List (Str × E)}, FRep S ps fv fs → FRep S ps (putF f v fv) (putE f ε fs)
  | [], [], _ => ⟨rfl, r, trivial⟩
  | (g, x) :: fv, (h, y) :: fs, q => by
    obtain ⟨rfl, q2, q3⟩ := q
    unfold putF putE
    by_cases e : g = f
    · rw [if_pos e, if_pos e]; exact ⟨rfl, r, q3⟩
    · rw [if_neg e, if_neg e]; exact ⟨rfl, q2, FRep.put r q3⟩
  | [], _ :: _, q => q.elim
  | _ :: _, [], q => q.elim
theorem FRep.len {S : Hp} {ps : List HA} : ∀ {fv : List (Str × V)} {fs : List (Str × E)}, FRep S ps fv fs → fv.length = fs.length
  | [], [], _ => rfl
  | (g, x) :: fv, (h, y) :: fs, q => by rw [List.length_cons, List.length_cons, FRep.len q.2.2]
  | [], _ :: _, q => q.elim
  | _ :: _, [], q => q.elim
/-- e makes a new thing -/
def EvNew (X : Cx) (e : Expr) (env : List (Option E)) (mu : List MO) (o : MO) : Prop := ∀ F ps σ H Q, Sat F ps env mu σ H →
  (∀ p qs H', Ext H H' → (∀ b ∈ p :: qs, H b = none) → Sat F (ps ++ [(p, qs)]) env (mu ++ [o]) σ H' → Q (.ref p) H') → wE X e σ H Q
section
variable {X : Cx} {env : List (Option E)} {mu : List MO} {P : Post} {e c o i value : Expr} {ε ε2 : E} {pos pos' p2 apos : Pos} {d : D} {ds : List D} {n k j : Nat} {x f : Str} {b : Bool} {z : Int} {dss : List (List D)} {C : Addr} {fs : List (Str × E)} {m : MO}
theorem EvN.new (h : EvN X e env mu ds) : EvNew X e env mu (.lst ds) := fun F ps σ H Q I k => h F ps σ H Q I fun p xs H' hp e1 h1 r1 =>
  k p [] H' e1 (fun b hb => by rw [List.mem_singleton.mp hb]; exact hp) (alloc_lst I hp e1 h1 r1)
theorem EvNL.new (h : EvNL X e env mu dss) : EvNew X e env mu (.lol dss) := fun F ps σ H Q I k => h F ps σ H Q I fun p qs H' fr nd e1 h1 hl hc =>
  k p qs H' e1 fr (alloc_lol I fr nd e1 h1 hl hc)
theorem ew_dict : EvNew X (.Dict [] [] pos) env mu (.dic [] []) := fun F ps σ H Q I k => ⟨_, pe_dnewT, fun p hp =>
  k p [] _ (Ext.new hp) (fun b hb => by rw [List.mem_singleton.mp hb]; exact hp) (I.alloc (fun b hb => by rw [List.mem_singleton.mp hb]; exact hp) (by simp) (Ext.new hp)
    (fun b hb => by rw [List.mem_singleton.mp hb]; exact ⟨_, upd_same⟩) ⟨rfl, [], upd_same, rfl, .nil⟩)⟩
/-- o.f = e -/
theorem go_fld (ho : Ev X o env mu (.at k)) (hk : mu[k]? = some (.ins C fs)) (c : Cls X.K C) (na : NoAttr X.K C f) (hl : fs.length < 1000) (he : Ev X e env mu ε) (h : P.nx env (mu.set k (.ins C (putE f ε fs))))
    (hs : swapsWith e (some (.Attribute o f pos')) pos.line X.env = pure false := by rfl) : GoS X (.Assign [.Attribute o f pos'] e pos) env mu P := fun F ps σ H K I E =>
  ⟨_, ps_fld pE pE hs, he F ps σ H _ I fun v H1 e1 r1 => ho F ps σ H1 _ (I.mono e1) fun w H2 e2 r2 => by
    have I2 := (I.mono e1).mono e2
    obtain ⟨pa, p1, rfl⟩ := r2
    obtain ⟨q1, dx, fv, q2, q3⟩ := I2.mr k pa _ p1 hk
    exact ⟨pa.1, C, dx, fv, rfl, q2, c, na, by rw [q3.len]; exact hl, E.nx _ _ ps σ _ h (List.prefix_refl _) (I2.put p1 hk (by intro z; cases z) (by intro z; cases z) List.mem_cons_self ⟨q1, dx, _, upd_same, q3.put (r1.mono (stab_mono e2))⟩)⟩⟩
theorem go_fldH (he : EvNew X e env mu m) (ho : Ev X o env (mu ++ [m]) (.at k)) (hk : mu[k]? = some (.ins C fs)) (c : Cls X.K C) (na : NoAttr X.K C f) (hl : fs.length < 1000) (h : P.nx env ((mu ++ [m]).set k (.ins C (putE f (.at mu.length) fs))))
    (hs : swapsWith e (some (.Attribute o f pos')) pos.line X.env = pure false := by rfl) : GoS X (.Assign [.Attribute o f pos'] e pos) env mu P := fun F ps σ H K I E =>
  ⟨_, ps_fld pE pE hs, he F ps σ H _ I fun p qs H1 e1 fr I1 => ho F _ σ H1 _ I1 fun w H2 e2 r2 => by
    have I2 := I1.mono e2
    have hk' : (mu ++ [m])[k]? = some (.ins C fs) := by rw [List.getElem?_append_left (List.getElem?_eq_some_iff.mp hk).1]; exact hk
    obtain ⟨pa, p1, rfl⟩ := r2
    obtain ⟨q1, dx, fv, q2, q3⟩ := I2.mr k pa _ p1 hk'
    have r1 : ERep (stab F (ps ++ [(p, qs)]) (mu ++ [m]) H2) (ps ++ [(p, qs)]) (.ref p) (.at mu.length) := ⟨(p, qs), by rw [← I.len, List.getElem?_append_right (Nat.le_refl _), Nat.sub_self]; rfl, rfl⟩
    exact ⟨pa.1, C, dx, fv, rfl, q2, c, na, by rw [q3.len]; exact hl, E.nx _ _ _ σ _ h (List.prefix_append _ _) (I2.put p1 hk' (by intro z; cases z) (by intro z; cases z) List.mem_cons_self ⟨q1, dx, _, upd_same, q3.put r1⟩)⟩⟩
end
/-! ### dicts -/
def keyD : Key → D
  | .inl i => .int i
  | .inr z => .str z
theorem Reps.keys {S : Hp} : ∀ {k : List Key} {xs : List V}, Reps S xs (k.map keyD) → xs = k.map kV
  | [], _, .nil => rfl
  | .inl i :: k, _, .cons (.int _) r => by rw [Reps.keys r]; rfl
  | .inr z :: k, _, .cons (.str _) r => by rw [Reps.keys r]; rfl
section
variable {κ β : Type} [DecidableEq κ]
def getA (kvs : List (κ × β)) (k : κ) : Option β := (kvs.find? fun kv => decide (kv.1 = k)).map (·.2)
def putA (kvs : List (κ × β)) (k : κ) (v : β) : List (κ × β) :=
  if (kvs.any fun kv => decide (kv.1 = k)) = true then kvs.map (fun kv => if kv.1 = k then (kv.1, v) else kv) else kvs ++ [(k, v)]
end
/-- the values side by side -/
def Side (S : Hp) (kvs : List (List Key × V)) (kds : List (List Key × D)) : Prop := kvs.map (·.1) = kds.map (·.1) ∧ Reps S (kvs.map (·.2)) (kds.map (·.2))
section
variable {S : Hp}
theorem Side.get : ∀ {kvs : List (List Key × V)} {kds : List (List Key × D)} {k : List Key}, Side S kvs kds →
    (∃ v d, valV kvs k = some v ∧ getA kds k = some d ∧ Rep S v d) ∨ (valV kvs k = none ∧ getA kds k = none)
  | [], [], _, _ => .inr ⟨rfl, rfl⟩
  | (a, v) :: r, (b, d) :: q, k, ⟨h1, h2⟩ => by
    rw [List.map_cons, List.map_cons] at h1 h2
    injection h1 with h11 h12
    simp only at h11
    subst h11
    cases h2 with
    | cons h21 h22 =>
      by_cases e : a = k
      · exact .inl ⟨v, d, valV_pos e, by unfold getA; rw [List.find?_cons_of_pos (by simpa using e)]; rfl, h21⟩
      · rw [valV_neg (p := (a, v)) e]
        have : getA ((a, d) :: q) k = getA q k := by unfold getA; rw [List.find?_cons_of_neg (by simpa using e)]
        rw [this]
        exact Side.get ⟨h12, h22⟩
  | [], _ :: _, _, ⟨h1, _⟩ => by simp at h1
  | _ :: _, [], _, ⟨h1, _⟩ => by simp at h1
theorem Side.any : ∀ {kvs : List (List Key × V)} {kds : List (List Key × D)} {k : List Key}, kvs.map (·.1) = kds.map (·.1) → (kvs.any fun kv => decide (kv.1 = k)) = (kds.any fun kv => decide (kv.1 = k))
  | [], [], _, _ => rfl
  | (a, v) :: r, (b, d) :: q, k, h1 => by
    rw [List.map_cons, List.map_cons] at h1
    injection h1 with h11 h12
    simp only at h11
    subst h11
    rw [List.any_cons, List.any_cons, Side.any h12]
  | [], _ :: _, _, h1 => by simp at h1
  | _ :: _, [], _, h1 => by simp at h1
theorem Side.app : ∀ {kvs : List (List Key × V)} {kds : List (List Key × D)} {k : List Key} {v : V} {d : D}, Side S kvs kds → Rep S v d → Side S (kvs ++ [(k, v)]) (kds ++ [(k, d)]) := fun {kvs kds k v d} ⟨h1, h2⟩ r => by
  refine ⟨by rw [List.map_append, List.map_append, h1]; rfl, ?_⟩
  rw [List.map_append, List.map_append]
  exact h2.append (.one r)
theorem Side.rep : ∀ {kvs : List (List Key × V)} {kds : List (List Key × D)} {k : List Key} {v : V} {d : D}, Side S kvs kds → Rep S v d → Side S (kvs.map fun kv => if kv.1 = k then (kv.1, v) else kv) (kds.map fun kv => if kv.1 = k then (kv.1, d) else kv)
  | [], [], _, _, _, h, _ => h
  | (a, u) :: r, (b, c) :: q, k, v, d, ⟨h1, h2⟩, hr => by
    rw [List.map_cons, List.map_cons] at h1 h2
    injection h1 with h11 h12
    simp only at h11
    subst h11
    cases h2 with
    | cons h21 h22 =>
      obtain ⟨g1, g2⟩ := Side.rep (k := k) ⟨h12, h22⟩ hr
      rw [List.map_cons, List.map_cons]
      by_cases e : a = k
      · simp only [if_pos e]
        exact ⟨by rw [List.map_cons, List.map_cons, g1], by rw [List.map_cons, List.map_cons]; exact .cons hr g2⟩
      · simp only [if_neg e]
        exact ⟨by rw [List.map_cons, List.map_cons, g1], by rw [List.map_cons, List.map_cons]; exact .cons h21 g2⟩
  | [], _ :: _, _, _, _, ⟨h1, _⟩, _ => by simp at h1
  | _ :: _, [], _, _, _, ⟨h1, _⟩, _ => by simp at h1
theorem Side.put {kvs : List (List Key × V)} {kds : List (List Key × D)} {k : List Key} {v : V} {d : D} (h : Side S kvs kds) (r : Rep S v d) : Side S (putK kvs k v) (putA kds k d) := by
  unfold putK putA
  rw [Side.any h.1]
  split
  · exact h.rep r
  · exact h.app r
end
/-- a dict by its pairs -/
abbrev dicM (kds : List (List Key × D)) : MO := .dic (kds.map (·.1)) (kds.map (·.2))
abbrev dicD (kds : List (List Key × D)) : D := .dic (kds.map (·.1)) (kds.map (·.2))
section
variable {X : Cx} {env : List (Option E)} {mu : List MO} {P : Post} {e c o i value : Expr} {ε ε2 : E} {pos pos' p2 apos : Pos} {d : D} {ds : List D} {n k j : Nat} {x f : Str} {b : Bool} {kds : List (List Key × D)} {key : List Key}
/-- o[i] = e, o a dict of one's own -/
theorem go_putD (hr : Room n X.A) (ho : Ev X o env mu (.at k)) (hk : mu[k]? = some (dicM kds)) (hi : Ev X i env mu (.d (.tup (key.map keyD)))) (he : Ev X e env mu (.d d)) (hl : kds.length < 1000) (h : P.nx env (mu.set k (dicM (putA kds key d))))
    (hs : swapsWith e (some (.Subscript o i pos')) pos.line X.env = pure false := by rfl) : GoS X (.Assign [.Subscript o i pos'] e pos) env mu P := fun F ps σ H K I E =>
  ⟨_, ps_dput (Nat.lt_of_le_of_lt (Nat.add_le_add_left (by decide) _) hr.units) pE pE pE hs, he F ps σ H _ I fun v H1 e1 r1 => ho F ps σ H1 _ (I.mono e1) fun w H2 e2 r2 => hi F ps σ H2 _ ((I.mono e1).mono e2) fun y H3 e3 r3 => by
    have I3 := ((I.mono e1).mono e2).mono e3
    obtain ⟨pa, p1, rfl⟩ := r2
    obtain ⟨t, xs, rfl, g, r⟩ := Rep.tup_eq r3
    obtain rfl := r.keys
    obtain ⟨q1, kvs, q2, q3, q4⟩ := I3.mr k pa _ p1 hk
    have sd : Side (stab F ps mu H3) (putK kvs key v) (putA kds key d) := Side.put ⟨q3, q4⟩ (r1.mono (stab_mono (e2.trans e3)))
    have hlen : kvs.length < sizeLine := by
      have := congrArg List.length q3
      rw [List.length_map, List.length_map] at this
      rw [this]
      exact Nat.lt_of_lt_of_le hl (by decide)
    exact ⟨pa.1, _, rfl, DPut.t q2 (stab_le _ _ g) hlen, E.nx _ _ ps σ _ h (List.prefix_refl _) (I3.put p1 hk (by intro z; cases z) (by intro z; cases z) List.mem_cons_self ⟨q1, _, upd_same, sd.1, sd.2⟩)⟩⟩
/-- what a dict is to a reader -/
def dicE (mu : List MO) : E → Option (List (List Key) × List D)
  | .d (.dic ks ds) => some (ks, ds)
  | .at k => (match mu[k]? with
    | some (.dic ks ds) => some (ks, ds)
    | _ => none)
  | _ => none
theorem dicE_rep {F : Fr} {ps : List HA} {σ : L2.St} {H : Hp} (I : Sat F ps env mu σ H) {v : V} (r : ERep (stab F ps mu H) ps v ε) (h : dicE mu ε = some (kds.map (·.1), kds.map (·.2))) :
    ∃ a kvs, v = .ref a ∧ H a = some (.dT kvs) ∧ Side (stab F ps mu H) kvs kds := by
  match ε, h with
  | .d (.dic ks ds), h =>
    unfold dicE at h
    injection h with h
    injection h with h1 h2
    subst h1 h2
    have r : Rep (stab F ps mu H) v (.dic (kds.map (·.1)) (kds.map (·.2))) := r
    generalize e1 : kds.map (·.1) = ks at r
    generalize e2 : kds.map (·.2) = ds at r
    cases r with
    | dic g1 g2 => exact ⟨_, _, rfl, stab_le _ _ g1, e1.symm, by rw [e2]; exact g2⟩
  | .at k, h =>
    cases hm : mu[k]? with
    | none => simp [dicE, hm] at h
    | some o =>
      cases o with
      | dic ks ds =>
        simp only [dicE, hm, Option.some.injEq, Prod.mk.injEq] at h
        obtain ⟨h1, h2⟩ := h
        obtain ⟨pa, p1, rfl⟩ := r
        obtain ⟨q1, kvs, q2, q3, q4⟩ := I.mr k pa _ p1 hm
        exact ⟨_, kvs, rfl, q2, q3.trans h1, by rw [← h2]; exact q4⟩
      | _ => simp [dicE, hm] at h
theorem ev_getD (hr : Room n X.A) (ho : Ev X o env mu ε) (hd : dicE mu ε = some (kds.map (·.1), kds.map (·.2))) (hi : Ev X i env mu (.d (.tup (key.map keyD)))) (hg : getA kds key = some d) (hns : NoSl i := by exact fun _ _ => rfl) : Ev X (.Subscript o i pos) env mu (.d d) := fun F ps σ H Q I kk =>
  ⟨_, pe_dget (Nat.lt_of_le_of_lt (Nat.add_le_add_left (by decide) _) hr.units) pE pE hns, ho F ps σ H _ I fun w H2 e2 r2 => hi F ps σ H2 _ (I.mono e2) fun y H3 e3 r3 => by
    have I3 := (I.mono e2).mono e3
    obtain ⟨t, xs, rfl, g, r⟩ := Rep.tup_eq r3
    obtain rfl := r.keys
    obtain ⟨a, kvs, rfl, g2, sd⟩ := dicE_rep I3 (r2.mono (stab_mono e3)) hd
    rcases sd.get (k := key) with ⟨v, d', h1, h2, h3⟩ | ⟨_, h2⟩
    · rw [hg] at h2; cases h2
      exact ⟨a, v, rfl, by rw [← h1]; exact DGet.t g2 (stab_le _ _ g), kk v H3 (e2.trans e3) h3⟩
    · rw [hg] at h2; cases h2⟩
theorem ev_getD1 (B : OkX X) (hr : Room n X.A) (ho : Ev X o env mu ε) (hd : dicE mu ε = some (kds.map (·.1), kds.map (·.2))) (n1 : NoStar i) (hi : Ev X i env mu (.d (.tup (key.map keyD))))
    (hbase : attributeBase o "get" X.env (eval o X.env) = eval o X.env := by rfl)
    (hfew : ((backTo pos (starEach [i] X.env)).all (fun x => !x.1) && (backToKw pos (keywordEach [] X.env)).all (fun x => x.1.isSome)
      && decide (([i] : List Expr).length + ([] : List Keyword).length + (if ([] : List Keyword).isEmpty then 0 else 1) < 30)) = true := by rfl)
    (hline : (apos.endLine == pos.line) = true := by rfl) (ht : backTo pos (starEach [i] X.env) = [(false, eval i X.env)] := by rfl) :
    Ev X (.Call (.Attribute o "get" apos) [i] [] pos) env mu (.d ((getA kds key).getD .non)) := fun F ps σ H Q I kk =>
  ⟨_, pe_dget1 (Nat.lt_of_le_of_lt (Nat.add_le_add_left (by decide) _) hr.units) pE pE ⟨hbase, hfew, hline, ht⟩, ho F ps σ H _ I fun w H2 e2 r2 => by
    obtain ⟨a, kvs, rfl, g2, _⟩ := dicE_rep (I.mono e2) r2 hd
    refine ⟨a, rfl, .inr ⟨kvs, .inl g2⟩, hi F ps σ H2 _ (I.mono e2) fun y H3 e3 r3 => ?_⟩
    have I3 := (I.mono e2).mono e3
    obtain ⟨t, xs, rfl, g, r⟩ := Rep.tup_eq r3
    obtain rfl := r.keys
    obtain ⟨a', kvs', ea, g2, sd⟩ := dicE_rep I3 (r2.mono (stab_mono e3)) hd
    cases ea
    refine ⟨_, DGet.t g2 (stab_le _ _ g), ?_⟩
    rcases sd.get (k := key) with ⟨v, d', h1, h2, h3⟩ | ⟨h1, h2⟩
    · rw [h1]; exact kk v H3 (e2.trans e3) (by rw [h2]; exact h3)
    · rw [h1]; exact kk .non H3 (e2.trans e3) (by rw [h2]; exact .non)⟩
end
end Cw
namespace Cw
open PySem PySem.Spec PyProof.Rows L2
/-! ### methods and constructors -/
def seqO {α : Type} : List (Option α) → Option (List α)
  | [] => some []
  | none :: _ => none
  | some a :: r => (seqO r).map (a :: ·)
/-- a handle read as data -/
def lendR (mu : List MO) : Nat → E → Option D
  | _, .d d => some d
  | 0, _ => none
  | n + 1, .at k => (match mu[k]? with
    | some (.lst ds) => some (.lst ds)
    | some (.lol dss) => some (.lst (dss.map .lst))
    | some (.dic ks ds) => some (.dic ks ds)
    | some (.ins C fs) => (seqO (fs.map fun q => lendR mu n q.2)).map fun ds => .obj C (fs.map (·.1)) ds
    | _ => none)
  | _ + 1, .sub _ _ => none
  | _ + 1, .raw _ => none
section
variable {F : Fr} {ps : List HA} {mu : List MO} {env : List (Option E)} {σ : L2.St} {H H' : Hp}
theorem stab_M : Ext (stab F ps mu H) (hid F.M H) := fun a o z => by
  obtain ⟨z1, z2, z3⟩ := stab_some z
  rw [hid_of z1]; exact z3
theorem Sat.liveM (I : Sat F ps env mu σ H) {b : Addr} (h : Lv ps mu b) : ¬ F.M b := fun z => by
  obtain ⟨o, q, _⟩ := I.m0 _ z
  rw [I.fr b h] at q; cases q
theorem lendR_rep (I : Sat F ps env mu σ H) : ∀ (n : Nat) {v : V} {ε : E} {d : D}, ERep (stab F ps mu H) ps v ε → lendR mu n ε = some d → Rep (hid F.M H) v d
  | n, v, .d d, d', r, h => by
    have : d = d' := by cases n <;> (unfold lendR at h; injection h)
    subst this
    exact Rep.mono stab_M r
  | 0, _, .at _, _, _, h => by unfold lendR at h; cases h
  | 0, _, .sub _ _, _, _, h => by unfold lendR at h; cases h
  | 0, _, .raw _, _, _, h => by unfold lendR at h; cases h
  | _ + 1, _, .raw _, _, _, h => by unfold lendR at h; cases h
  | _ + 1, _, .sub _ _, _, _, h => by unfold lendR at h; cases h
  | n + 1, v, .at k, d, r, h => by
    obtain ⟨pa, p1, rfl⟩ := r
    cases hm : mu[k]? with
    | none => simp [lendR, hm] at h
    | some o =>
      have lv : o ≠ .gone → ∀ b ∈ pa.1 :: pa.2, ¬ F.M b := fun hg b hb => I.liveM ⟨k, pa, o, p1, hm, hg, List.mem_cons.mp hb⟩
      cases o with
      | lst ds =>
        simp only [lendR, hm, Option.some.injEq] at h
        subst h
        obtain ⟨q1, xs, q2, q3⟩ := I.mr k pa _ p1 hm
        exact .lst (by rw [hid_of (lv (by intro z; cases z) _ List.mem_cons_self)]; exact q2) (q3.mono stab_M)
      | lol dss =>
        simp only [lendR, hm, Option.some.injEq] at h
        subst h
        obtain ⟨q1, q2, q3⟩ := I.mr k pa _ p1 hm
        refine .lst (by rw [hid_of (lv (by intro z; cases z) _ List.mem_cons_self)]; exact q2) ?_
        have all : ∀ (as : List Addr) (es : List (List D)), as.length = es.length → (∀ b ∈ as, b ∈ pa.2) → (∀ (i : Nat) (a : Addr) (ds : List D), as[i]? = some a → es[i]? = some ds → ∃ xs, H a = some (.lst xs) ∧ Reps (stab F ps mu H) xs ds) → Reps (hid F.M H) (as.map V.ref) (es.map D.lst) := by
          intro as
          induction as with
          | nil => intro es hl _ _; cases es with
            | nil => exact .nil
            | cons => simp at hl
          | cons a as ih => intro es hl hs hc; cases es with
            | nil => simp at hl
            | cons ds es =>
              obtain ⟨xs, g1, g2⟩ := hc 0 a ds rfl rfl
              exact .cons (.lst (by rw [hid_of (lv (by intro z; cases z) _ (List.mem_cons_of_mem _ (hs a List.mem_cons_self)))]; exact g1) (g2.mono stab_M)) (ih es (by simpa using hl) (fun b hb => hs b (List.mem_cons_of_mem _ hb)) fun i b ds h1 h2 => hc (i + 1) b ds h1 h2)
        exact all pa.2 dss q1 (fun b hb => hb) q3
      | dic ks ds =>
        simp only [lendR, hm, Option.some.injEq] at h
        subst h
        obtain ⟨q1, kvs, q2, q3, q4⟩ := I.mr k pa _ p1 hm
        subst q3
        exact .dic (by rw [hid_of (lv (by intro z; cases z) _ List.mem_cons_self)]; exact q2) (q4.mono stab_M)
      | ins C fs =>
        simp only [lendR, hm] at h
        cases hs : seqO (fs.map fun q => lendR mu n q.2) with
        | none => rw [hs] at h; cases h
        | some ds =>
          rw [hs] at h
          simp only [Option.map_some, Option.some.injEq] at h
          subst h
          obtain ⟨q1, dx, fv, q2, q3⟩ := I.mr k pa _ p1 hm
          have all : ∀ (fv : List (Str × V)) (fs : List (Str × E)) (ds : List D), FRep (stab F ps mu H) ps fv fs → seqO (fs.map fun q => lendR mu n q.2) = some ds → fv.map (·.1) = fs.map (·.1) ∧ Reps (hid F.M H) (fv.map (·.2)) ds := by
            intro fv
            induction fv with
            | nil => intro fs ds h1 h2; cases fs with
              | nil => cases h2; exact ⟨rfl, .nil⟩
              | cons => exact h1.elim
            | cons a fv ih => intro fs ds h1 h2; cases fs with
              | nil => exact h1.elim
              | cons b fs =>
                obtain ⟨g1, g2, g3⟩ := h1
                rw [List.map_cons] at h2
                cases hx : lendR mu n b.2 with
                | none => rw [hx] at h2; cases h2
                | some d0 =>
                  rw [hx] at h2
                  unfold seqO at h2
                  cases hy : seqO (fs.map fun q => lendR mu n q.2) with
                  | none => rw [hy] at h2; cases h2
                  | some ds0 =>
                    rw [hy] at h2
                    cases h2
                    obtain ⟨e1, e2⟩ := ih fs ds0 g3 hy
                    exact ⟨by rw [List.map_cons, List.map_cons, e1, g1], .cons (lendR_rep I n g2 hx) e2⟩
          obtain ⟨e1, e2⟩ := all fv fs ds q3 hs
          rw [← e1]
          exact .obj (by rw [hid_of (lv (by intro z; cases z) _ List.mem_cons_self)]; exact q2) e2
      | gone => simp [lendR, hm] at h
/-- without the slots; with them again -/
theorem Sat.bare (I : Sat F ps env mu σ H) : Sat F ps [] mu [] H := ⟨I.ex, I.m0, I.fr, I.nd, I.len, I.tr, I.mr, rfl, fun i ε h => by simp at h⟩
theorem Sat.slots (J : Sat F ps [] mu [] H) (hl : env.length = σ.length) (h : ∀ (i : Nat) (ε : E), env[i]? = some (some ε) → ∃ v, σ[i]? = some (some v) ∧ ERep (stab F ps mu H) ps v ε) : Sat F ps env mu σ H := ⟨J.ex, J.m0, J.fr, J.nd, J.len, J.tr, J.mr, hl, h⟩
theorem EReps.len {S : Hp} : ∀ {vs : List V} {es : List E}, EReps S ps vs es → vs.length = es.length
  | [], [], _ => rfl
  | _ :: _, _ :: _, h => by rw [List.length_cons, List.length_cons, EReps.len h.2]
  | [], _ :: _, h => h.elim
  | _ :: _, [], h => h.elim
theorem EReps.get {S : Hp} : ∀ {vs : List V} {es : List E} {i : Nat} {ε : E}, EReps S ps vs es → es[i]? = some ε → ∃ v, vs[i]? = some v ∧ ERep S ps v ε
  | v :: _, _ :: _, 0, _, h, e => by cases e; exact ⟨v, rfl, h.1⟩
  | _ :: _, _ :: _, i + 1, _, h, e => by
    obtain ⟨v, a, b⟩ := EReps.get (i := i) h.2 e
    exact ⟨v, a, b⟩
  | [], [], _, _, _, e => by simp at e
  | [], _ :: _, _, _, h, _ => h.elim
  | _ :: _, [], _, _, h, _ => h.elim
end
/-- a promise over handles -/
def spM (Pre : List E → List MO → (D → List MO → Prop) → Prop) : Sp := fun vs H Q _ => ∃ F ps mu εs kk, Sat F ps [] mu [] H ∧ EReps (stab F ps mu H) ps vs εs ∧ Pre εs mu kk ∧
  ∀ v d ps' mu' H', kk d mu' → ps <+: ps' → Sat F ps' [] mu' [] H' → Rep (hid F.M H') v d → Q v H'
theorem fn_okM {P : Program} {w : World} {K : PySem.W.Frag} {mg : Str → Option Value} {base : Heap} {x qual : Str} {st : Stmt} {f : Addr} {fd : FuncData} {N ps : List Str} {k : Nat} {Pre : List E → List MO → (D → List MO → Prop) → Prop} (F : FnT K x qual st f fd) (S : FnScope N ps (defScope st))
    (len : ∀ ds mu k, Pre ds mu k → ds.length = ps.length)
    (body : ∀ (cdv : Value) (A : Around) (outer : List Env) (s : Shared) (H : Hp) (E : XK) (X : Cx), X = Bx P w K mg base N qual st f cdv A outer s H E → OkX X → Room k X.A → ∀ (εs : List Cw.E) (mu : List MO) (kk : D → List MO → Prop), Pre εs mu kk →
      Go X (defBody st) (εs.map some ++ List.replicate (N.length - εs.length) none) mu { nx := fun _ mu' => kk .non mu', rt := kk }) :
    FnOk P w K mg base CX0 (k + 1) f fd ps (spM Pre) := by
  have hN : ps.length ≤ N.length := by have := congrArg List.length S.pre; rw [List.length_take] at this; omega
  refine F.ok S (fun vs H Q E h => ?_) (fun cdv A outer s H vs Q E hr h => ?_)
  · obtain ⟨_, _, _, εs, _, _, r, p, _⟩ := h
    rw [r.len]; exact len _ _ _ p
  · obtain ⟨F0, ps0, mu, εs, kk, I, r, p, q⟩ := h
    have hl := len _ _ _ p
    have J : Sat F0 ps0 (εs.map some ++ List.replicate (N.length - εs.length) none) mu (L2.start N vs) H := by
      refine I.slots ?_ fun i ε h => ?_
      · unfold L2.start; rw [List.length_append, List.length_append, List.length_map, List.length_map, List.length_replicate, List.length_replicate, r.len]
      · by_cases hi : i < εs.length
        · rw [List.getElem?_append_left (by rw [List.length_map]; exact hi), List.getElem?_map, List.getElem?_eq_getElem hi] at h
          cases h
          obtain ⟨v, h1, h2⟩ := r.get (List.getElem?_eq_getElem hi)
          refine ⟨v, ?_, h2⟩
          unfold L2.start
          rw [List.getElem?_append_left (by rw [List.length_map, r.len]; exact hi), List.getElem?_map, h1]; rfl
        · rw [List.getElem?_append_right (by rw [List.length_map]; omega)] at h
          have := List.mem_of_getElem? h
          rw [List.mem_replicate] at this
          cases this.2
    obtain ⟨t, h1, h2⟩ := body cdv A outer s H E _ rfl ⟨rfl, S.nd, PassesOwn.never⟩ hr εs mu kk p F0 ps0 _ H { nx := fun _ H' => Q .non H', rt := Q } J
      ⟨fun e u p s H' z pf J => q .non .non p u H' z pf J.bare .non, fun v d e u p s H' z pf J r => q v d p u H' z pf J.bare r, fun _ _ _ _ _ q => q.elim, fun _ _ _ _ _ q => q.elim⟩
    exact ⟨t, PSs.nox h1, h2⟩
/-- the methods of a class -/
structure MtM (P : Program) (w : World) (K : PySem.W.Frag) (mg : Str → Option Value) (base : Heap) (C : Addr) (m : Str) (k : Nat) (Pre : List E → List MO → (D → List MO → Prop) → Prop) : Prop where
  ex : ∃ (f : Addr) (fd : FuncData) (ps : List Str), FnOk P w K mg base CX0 k f fd ps (spM Pre) ∧ Meth K C m f ∧ Binds K fd ps []
structure MtD (P : Program) (w : World) (K : PySem.W.Frag) (mg : Str → Option Value) (base : Heap) (C : Addr) (m : Str) (k : Nat) (Pre : List D → (D → Prop) → Prop) : Prop where
  ex : ∃ (f : Addr) (fd : FuncData) (ps : List Str), FnOk P w K mg base CX0 k f fd ps (spD Pre) ∧ Meth K C m f ∧ Binds K fd ps []
/-- a class that is made by x(..) -/
structure MkM (P : Program) (w : World) (K : PySem.W.Frag) (mg : Str → Option Value) (base : Heap) (x : Str) (C : Addr) (k : Nat) (Pre : List E → List MO → (D → List MO → Prop) → Prop) : Prop where
  ex : ∃ (f : Addr) (fd : FuncData) (ps : List Str), FnOk P w K mg base CX0 k f fd ps (spM Pre) ∧ Mk K C f ∧ mg x = some (.ref C) ∧ Binds K fd ps []
section
variable {X : Cx} {env : List (Option E)} {mu : List MO} {P : Post} {e o : Expr} {es : List Expr} {εs : List E} {ε : E} {pos p apos spos : Pos} {d : D} {ds : List D} {x m : Str} {k n j : Nat} {C : Addr} {fs : List (Str × E)}
theorem Sat.around {F : Fr} {ps : List HA} {σ : L2.St} {H H' : Hp} (I : Sat F ps env mu σ H) {ps' : List HA} {mu' : List MO} (J : Sat (F.reb ps mu H) ps' [] mu' [] H') (pf : ps <+: ps') : Sat F ps' env mu' σ H' :=
  (reb_back I J).slots I.ln fun i ε h => by
    obtain ⟨v, h1, h2⟩ := I.en i ε h
    exact ⟨v, h1, ERep.ext pf (h2.mono (reb_stab J))⟩
/-- o.m(), o an object of one's own -/
theorem go_meth0 {Pre : List E → List MO → (D → List MO → Prop) → Prop} {pl : Sem Bool} (G : MtM X.prog X.w X.K X.mg X.base C m n Pre) (hr : Room n X.A) (c : Cls X.K C) (ho : Ev X o env mu (.at k)) (hk : mu[k]? = some (.ins C fs)) (hn : fs.lookup m = none)
    (h : Pre [.at k] mu fun _ mu' => P.nx env mu')
    (ht : eval (.Call (.Attribute o m apos) [] [] pos) X.env = (do
      let ov ← eval o X.env
      standAt apos.atName
      let (f, first) ← holding [ov] (getMethod ov m pl)
      callWith pos f first (backTo pos (starEach [] X.env)) (backToKw pos (keywordEach [] X.env))) := by rfl)
    (hs : swapsWith (.Call (.Attribute o m apos) [] [] pos) none spos.line X.env = pure false := by rfl) : GoS X (.Expr (.Call (.Attribute o m apos) [] [] pos) spos) env mu P := by
  obtain ⟨f, fd, pps, G, hm, hb⟩ := G.ex
  refine fun F ps σ H K I E => ⟨_, ps_expr (pe_meth0 pE c hm G hr hb .nil pass0 ht) hs, ho F ps σ H _ I fun v H1 e1 r1 => ?_⟩
  have I1 := I.mono e1
  obtain ⟨pa, p1, rfl⟩ := r1
  obtain ⟨q1, dx, fv, q2, q3⟩ := I1.mr k pa _ p1 hk
  have hl : fv.lookup m = none := by
    have all : ∀ (fv : List (Str × V)) (fs : List (Str × Cw.E)), FRep (stab F ps mu H1) ps fv fs → fs.lookup m = none → fv.lookup m = none := by
      intro fv
      induction fv with
      | nil => intro _ _ _; rfl
      | cons a fv ih => intro fs h1 h2; cases fs with
        | nil => exact h1.elim
        | cons b fs =>
          obtain ⟨g1, _, g3⟩ := h1
          obtain ⟨a1, a2⟩ := a
          obtain ⟨b1, b2⟩ := b
          simp only at g1
          subst g1
          rw [List.lookup_cons] at h2 ⊢
          cases hb : (m == a1) with
          | true => rw [hb] at h2; cases h2
          | false => rw [hb] at h2; exact ih fs g3 h2
    exact all fv fs q3 hn
  refine ⟨pa.1, dx, fv, rfl, q2, hl, ?_⟩
  have J := I1.reb
  exact ⟨F.reb ps mu H1, ps, mu, [.at k], _, J.bare, ⟨⟨pa, p1, rfl⟩, trivial⟩, h, fun v d ps' mu' H' z pf J' _ => E.nx _ _ ps' σ H' z pf (I1.around J' pf)⟩
theorem dsOf_in {S : Hp} {ps : List HA} : ∀ {vs : List V} {ds : List D}, Reps S vs ds → EReps S ps vs (ds.map E.d)
  | [], [], _ => trivial
  | _ :: _, _ :: _, .cons h r => ⟨h, dsOf_in r⟩
/-- C(e, ..), of closed data: closed data -/
theorem evp_make {Pre : List E → List MO → (D → List MO → Prop) → Prop} {R : D → Prop} (G : MkM X.prog X.w X.K X.mg X.base x C n Pre) (hr : Room (n + 1) X.A) (hg : Gl X x) (ha : EvA X (e :: es) env mu εs) (hd : dsOf εs = some ds)
    (h : Pre (.at 0 :: ds.map E.d) [.ins C []] fun z mu' => z = .non ∧ ∃ d, lendR mu' 9 (.at 0) = some d ∧ R d)
    (hdb : (x == ("__debug__" : Str)) = false := by decide) (he : starEach (e :: es) X.env = (false, eval e X.env) :: starEach es X.env := by rfl) (hpl : (backTo pos (starEach es X.env)).any (·.1) = false := by rfl) : EvP X (.Call (.Name x p) (e :: es) [] pos) env mu R := by
  obtain ⟨f, fd, pps, G, M, hm, hb⟩ := G.ex
  refine fun F ps σ H Q I kk => ⟨_, pe_make M G hr hg hm hb .nil pass0 pA hdb he hpl, ha F ps σ H _ I fun vs H1 e1 r1 a dx hx hdx hne => ?_⟩
  have I1 := I.mono e1
  show spM Pre (.ref a :: (vs ++ [])) _ _ E0
  rw [List.append_nil]
  have hdx2 : upd H1 dx (.own a) a = none := by rw [upd_ne (Ne.symm hne)]; exact hx
  have ex2 : Ext H1 (upd (upd H1 dx (.own a)) a (.ins C dx [])) := (Ext.new hdx).trans (Ext.new hdx2)
  have lv : ∀ b, Lv [(a, [])] [MO.ins C []] b → b = a := fun b ⟨j, pa, o, h1, h2, h3, h4⟩ => by
    cases j with
    | zero => cases h1; rcases h4 with h4 | h4
              · exact h4
              · cases h4
    | succ j => simp at h1
  let F' : Fr := ⟨H1, fun b => F.M b ∨ Lv ps mu b⟩
  have J : Sat F' [(a, [])] [] [.ins C []] [] (upd (upd H1 dx (.own a)) a (.ins C dx [])) :=
    ⟨ex2, fun b z => I1.held z, fun b z => by rw [lv b z]; exact hx, by simp, rfl, fun b hb => by
      have : b = a := by simpa using hb
      rw [this]; exact ⟨_, upd_same⟩, fun j pa o h1 h2 => by
        cases j with
        | zero => cases h1; cases h2; exact ⟨rfl, dx, [], upd_same, trivial⟩
        | succ j => simp at h1, rfl, fun i ε h => by simp at h⟩
  have sub : Ext (stab F ps mu H1) (stab F' [(a, [])] [.ins C []] (upd (upd H1 dx (.own a)) a (.ins C dx []))) := fun b o z => by
    obtain ⟨z1, z2, z3⟩ := stab_some z
    rw [stab_of (F := F') (fun y => y.elim z1 z2) (fun y => by rw [lv b y, hx] at z3; cases z3)]
    exact ex2 _ _ z3
  refine ⟨F', [(a, [])], [.ins C []], .at 0 :: ds.map E.d, _, J, ⟨⟨(a, []), rfl, rfl⟩, (dsOf_in (dsOf_rep r1 hd)).mono sub⟩, h, fun v d ps' mu' H' z pf J' rr => ?_⟩
  obtain ⟨rfl, d, hd, hR⟩ := z
  cases rr
  refine ⟨rfl, kk _ d H' hR (e1.trans J'.ex) ?_⟩
  have r0 : ERep (stab F' ps' mu' H') ps' (.ref a) (.at 0) := ⟨(a, []), prefix_get pf rfl, rfl⟩
  exact lendR_rep J' 9 r0 hd
/-- o.m(e, ..), o closed data, with lent arguments -/
theorem ev_methL {Pre : List D → (D → Prop) → Prop} {pl : Sem Bool} {ns : List Str} {os : List D} (G : MtD X.prog X.w X.K X.mg X.base C m n Pre) (hr : Room n X.A) (c : Cls X.K C) (ho : Ev X o env mu (.d (.obj C ns os))) (hm0 : idxN ns m = none)
    (ha : EvA X (e :: es) env mu εs) (hd : lends mu εs = some ds) (hn : noLst d = true) (hp : ∀ k : D → Prop, k d → Pre (.obj C ns os :: ds) k)
    (hst : starEach (e :: es) X.env = (false, eval e X.env) :: starEach es X.env := by rfl) (hpl : (backTo pos (starEach es X.env)).any (·.1) = false := by rfl)
    (ht : eval (.Call (.Attribute o m apos) (e :: es) [] pos) X.env = (do
      let ov ← eval o X.env
      standAt apos.atName
      let (f, first) ← holding [ov] (getMethod ov m pl)
      callWith pos f first (backTo pos (starEach (e :: es) X.env)) (backToKw pos (keywordEach [] X.env))) := by rfl) :
    Ev X (.Call (.Attribute o m apos) (e :: es) [] pos) env mu (.d d) := by
  obtain ⟨f, fd, ps', G, hm, hb⟩ := G.ex
  exact fun F ps σ H Q I kk => ⟨_, pe_meth pE c hm G hr hb .nil pass0 pA hst hpl ht, ho F ps σ H _ I fun v H0 e0 r0 => by
    have r0' : Rep (stab F ps mu H0) v (.obj C ns os) := r0
    generalize en : ns = ns' at r0'
    cases r0' with
    | obj g1 g2 =>
      rename_i a dx fs
      refine ⟨a, dx, fs, rfl, stab_le _ _ g1, idxN_none (by rw [← en]; exact hm0), ha F ps σ H0 _ (I.mono e0) fun vs H1 e1 r1 => ?_⟩
      have I1 := (I.mono e0).mono e1
      show spD Pre (.ref a :: (vs ++ [])) H1 Q E0
      rw [List.append_nil]
      obtain ⟨M', m1, m2, m3⟩ := lends_rep I1 r1 hd
      have sub : Ext (stab F ps mu H1) (hid M' H1) := fun a o z => by
        obtain ⟨z1, z2, z3⟩ := stab_some z
        rw [hid_of (fun y => (m1 a y).elim z1 z2)]; exact z3
      have rself : Rep (hid M' H1) (.ref a) (.obj C ns os) := by
        rw [en]
        exact Rep.mono ((stab_mono e1).trans sub) (.obj g1 g2)
      refine ⟨M', _, fun b z => I1.held (m1 b z), .cons rself m3, hp _ fun v H2 e2 r2 => kk v H2 ((e0.trans e1).trans e2) (Rep.free (fun a xs z => ?_) r2 hn)⟩
      obtain ⟨z1, z2⟩ := hid_some z
      have nb : ¬ (F.M a ∨ Lv ps mu a) := fun y => by
        obtain ⟨us, q⟩ := m2 a y z1
        rw [e2 _ _ q] at z2; cases z2
      rw [stab_of (fun y => nb (.inl y)) (fun y => nb (.inr y))]; exact z2⟩
end
end Cw
namespace Cw
open PySem PySem.Spec PyProof.Rows L2
/-- a def of the module -/
def TxD (K : PySem.W.Frag) (mg : Str → Option Value) (g x qual : Str) (st : Stmt) : Prop := ∃ f fd, FnT K x qual st f fd ∧ mg g = some (.ref f)
/-- a method -/
def TxM (K : PySem.W.Frag) (C : Addr) (m x qual : Str) (st : Stmt) : Prop := ∃ f fd, FnT K x qual st f fd ∧ Meth K C m f
/-- the way in of a class -/
def TxI (K : PySem.W.Frag) (mg : Str → Option Value) (g : Str) (C : Addr) (qual : Str) (st : Stmt) : Prop := ∃ f fd, FnT K "__init__" qual st f fd ∧ Mk K C f ∧ mg g = some (.ref C)
/-- a written tuple of texts -/
def TxT (K : PySem.W.Frag) (mg : Str → Option Value) (g : Str) (zs : List Str) : Prop := ∃ a, mg g = some (.ref a) ∧ ∃ (o : Obj) (its : Array Value) (n : Nat), K.lookup a = some o ∧ o.cls = .type "tuple" ∧ o.data = .seq its n ∧ its.size ≤ sizeLine ∧ Vals (zs.map V.str) its.toList
/-- a written dict from texts to ints -/
def TxS (K : PySem.W.Frag) (w : World) (mg : Str → Option Value) (g : Str) (tab : Str → Option Int) : Prop := ∃ a es n, mg g = some (.ref a) ∧ KDict K w a es n ∧
  ∀ z, (tab z = none → PySem.W.nsIn K a z = some none) ∧ ∀ i, tab z = some i → ∃ t, PySem.W.nsIn K a z = some (some (.int i t))
structure Tx (P : Program) (w : World) (K : PySem.W.Frag) (mg : Str → Option Value) (base : Heap) (CN CS : Addr) : Prop where
  d_is_whole : TxD K mg "is_whole" "is_whole" "is_whole" Cw.s_is_whole
  d_is_below : TxD K mg "is_below" "is_below" "is_below" Cw.s_is_below
  d_is_name : TxD K mg "is_name" "is_name" "is_name" Cw.s_is_name
  d_is_process : TxD K mg "is_process" "is_process" "is_process" Cw.s_is_process
  d_is_channel : TxD K mg "is_channel" "is_channel" "is_channel" Cw.s_is_channel
  d_is_act : TxD K mg "is_act" "is_act" "is_act" Cw.s_is_act
  d_is_rule : TxD K mg "is_rule" "is_rule" "is_rule" Cw.s_is_rule
  d_frozen : TxD K mg "_frozen" "_frozen" "_frozen" Cw.s_frozen
  d_rows : TxD K mg "_rows" "_rows" "_rows" Cw.s_rows
  d_Net_init : TxI K mg "Net" CN "Net.__init__" Cw.s_Net_init
  d_start : TxD K mg "start" "start" "start" Cw.s_start
  d_is_lossy : TxD K mg "is_lossy" "is_lossy" "is_lossy" Cw.s_is_lossy
  d_is_ordered : TxD K mg "is_ordered" "is_ordered" "is_ordered" Cw.s_is_ordered
  d_as_deed : TxD K mg "as_deed" "as_deed" "as_deed" Cw.s_as_deed
  d_owner_of : TxD K mg "owner_of" "owner_of" "owner_of" Cw.s_owner_of
  d_owner : TxD K mg "owner" "owner" "owner" Cw.s_owner
  d_open_messages_of : TxD K mg "open_messages_of" "open_messages_of" "open_messages_of" Cw.s_open_messages_of
  d_can_do : TxD K mg "can_do" "can_do" "can_do" Cw.s_can_do
  d_with_part : TxD K mg "_with_part" "_with_part" "_with_part" Cw.s_with_part
  d_without_message : TxD K mg "_without_message" "_without_message" "_without_message" Cw.s_without_message
  d_behind_worlds : TxD K mg "behind_worlds" "behind" "behind" Cw.s_behind_worlds
  d_done : TxD K mg "done" "done" "done" Cw.s_done
  d_is_integer : TxD K mg "is_integer" "is_integer" "is_integer" Cw.s_is_integer
  d_is_from_to : TxD K mg "is_from_to" "is_from_to" "is_from_to" Cw.s_is_from_to
  d_is_sequence : TxD K mg "is_sequence" "is_sequence" "is_sequence" Cw.s_is_sequence
  d_is_deed : TxD K mg "is_deed" "is_deed" "is_deed" Cw.s_is_deed
  d_made_tuples : TxD K mg "made_tuples" "made_tuples" "made_tuples" Cw.s_made_tuples
  d_gone_on : TxD K mg "gone_on" "gone_on" "gone_on" Cw.s_gone_on
  d_behind_core_told : TxD K mg "behind_core_told" "behind" "behind" Cw.s_behind_core_told
  d_message_of : TxD K mg "message_of" "message_of" "message_of" Cw.s_message_of
  d_Story_init : TxI K mg "Story" CS "Story.__init__" Cw.s_Story_init
  d_Story_look_at_messages : TxM K CS "look_at_messages" "look_at_messages" "Story.look_at_messages" Cw.s_Story_look_at_messages
  d_Story_make_clocks : TxM K CS "make_clocks" "make_clocks" "Story.make_clocks" Cw.s_Story_make_clocks
  d_Story_is_consistent : TxM K CS "is_consistent" "is_consistent" "Story.is_consistent" Cw.s_Story_is_consistent
  d_is_within : TxD K mg "is_within" "is_within" "is_within" Cw.s_is_within
  d_story_of : TxD K mg "story_of" "story_of" "story_of" Cw.s_story_of
  d_need_story : TxD K mg "need_story" "need_story" "need_story" Cw.s_need_story
  d_are_checkpoints : TxD K mg "are_checkpoints" "are_checkpoints" "are_checkpoints" Cw.s_are_checkpoints
  d_are_processes : TxD K mg "are_processes" "are_processes" "are_processes" Cw.s_are_processes
  d_checked : TxD K mg "checked" "checked" "checked" Cw.s_checked
  d_allowed_of : TxD K mg "allowed_of" "allowed_of" "allowed_of" Cw.s_allowed_of
  d_greatest_allowed : TxD K mg "greatest_allowed" "greatest_allowed" "greatest_allowed" Cw.s_greatest_allowed
  d_line : TxD K mg "line" "line" "line" Cw.s_line
  d_floor_of : TxD K mg "floor_of" "floor_of" "floor_of" Cw.s_floor_of
  d_floor : TxD K mg "floor" "floor" "floor" Cw.s_floor
  d_droppable : TxD K mg "droppable" "droppable" "droppable" Cw.s_droppable
  d_open_messages : TxD K mg "open_messages" "open_messages" "open_messages" Cw.s_open_messages
  d_law_so : TxD K mg "_law_so" "_law_so" "_law_so" Cw.s_law_so
  d_law_numbers : TxD K mg "_law_numbers" "_law_numbers" "_law_numbers" Cw.s_law_numbers
  d_law_draw : TxD K mg "_law_draw" "_law_draw" "_law_draw" Cw.s_law_draw
  d_law_net : TxD K mg "_law_net" "_law_net" "_law_net" Cw.s_law_net
  d_law_start : TxD K mg "_law_start" "_law_start" "_law_start" Cw.s_law_start
  d_law_loose : TxD K mg "_law_loose" "_law_loose" "_law_loose" Cw.s_law_loose
  d_law_can : TxD K mg "_law_can" "_law_can" "_law_can" Cw.s_law_can
  d_law_owner : TxD K mg "_law_owner" "_law_owner" "_law_owner" Cw.s_law_owner
  d_law_set : TxD K mg "_law_set" "_law_set" "_law_set" Cw.s_law_set
  d_law_done : TxD K mg "_law_done" "_law_done" "_law_done" Cw.s_law_done
  d_law_history : TxD K mg "_law_history" "_law_history" "_law_history" Cw.s_law_history
  d_law_at : TxD K mg "_law_at" "_law_at" "_law_at" Cw.s_law_at
  d_law_pick : TxD K mg "_law_pick" "_law_pick" "_law_pick" Cw.s_law_pick
  d_law_run : TxD K mg "_law_run" "_law_run" "_law_run" Cw.s_law_run
  d_law_points : TxD K mg "_law_points" "_law_points" "_law_points" Cw.s_law_points
  d_law_line : TxD K mg "_law_line" "_law_line" "_law_line" Cw.s_law_line
  d_law_wrong : TxD K mg "_law_wrong" "_law_wrong" "_law_wrong" Cw.s_law_wrong
  d_law : TxD K mg "law" "law" "law" Cw.s_law
  b_isinstance : mg "isinstance" = none
  b_len : mg "len" = none
  b_all : mg "all" = none
  b_any : mg "any" = none
  b_tuple : mg "tuple" = none
  b_list : mg "list" = none
  b_int : mg "int" = none
  b_bool : mg "bool" = none
  b_str : mg "str" = none
  b_enumerate : mg "enumerate" = none
  b_zip : mg "zip" = none
  b_range : mg "range" = none
  b_set : mg "set" = none
  b_sum : mg "sum" = none
  b_max : mg "max" = none
  b_min : mg "min" = none
  b_sorted : mg "sorted" = none
  b_super : mg "super" = none
  i_MOST_LETTERS : ∃ t, mg "MOST_LETTERS" = some (.int 6 t)
  i_MOST_PROCESSES : ∃ t, mg "MOST_PROCESSES" = some (.int 5 t)
  i_MOST_STATES : ∃ t, mg "MOST_STATES" = some (.int 8 t)
  i_MOST_CHANNELS : ∃ t, mg "MOST_CHANNELS" = some (.int 8 t)
  i_MOST_RULES : ∃ t, mg "MOST_RULES" = some (.int 40 t)
  i_TOKENS : ∃ t, mg "TOKENS" = some (.int 10 t)
  i_MOST_DEEDS : ∃ t, mg "MOST_DEEDS" = some (.int 60 t)
  z_LETTERS : ∃ t, mg "LETTERS" = some (.str "abcdefghijklmnopqrstuvwxyz" t)
  t_KINDS : TxT K mg "KINDS" ["order", "loose", "order lossy", "loose lossy"]
  t_SORTS : TxS K w mg "SORTS" (fun z => if z = "act" then some 2 else if z = "take" then some 3 else if z = "lose" then some 3 else none)
  c_Net : Cls K CN
  c_Story : Cls K CS
  a_Net_processes : NoAttr K CN "processes"
  a_Net_channels : NoAttr K CN "channels"
  a_Net_rules : NoAttr K CN "rules"
  a_Story_net : NoAttr K CS "net"
  a_Story_rows : NoAttr K CS "rows"
  a_Story_run : NoAttr K CS "run"
  a_Story_whole : NoAttr K CS "whole"
  a_Story_sent : NoAttr K CS "sent"
  a_Story_ended : NoAttr K CS "ended"
  a_Story_token : NoAttr K CS "token"
  a_Story_lost : NoAttr K CS "lost"
  a_Story_clocks : NoAttr K CS "clocks"
end Cw
namespace Cw
open PySem PySem.Spec PyProof.Rows L2
/-! ### tuples of ints, deep -/
abbrev tI (ns : List Int) : D := .tup (ns.map D.int)
abbrev pdI (ns : List Int) : PyData := .tuple (ns.map PyData.int)
section
variable {K : PySem.W.Frag} {S H : Hp}
theorem dp_ints : ∀ {ns : List Int} {xs : List V}, Reps S xs (ns.map D.int) → DpAll K H xs (ns.map PyData.int)
  | [], _, .nil => .nil
  | _ :: _, _, .cons (.int i) r => .cons (.int i) (dp_ints r)
theorem dp_tI {ns : List Int} {v : V} (e : Ext S H) (r : Rep S v (tI ns)) : Dp K H v (pdI ns) := by
  obtain ⟨a, xs, rfl, g, q⟩ := Rep.tup_eq r
  exact .tup (SqT.of (e _ _ g)) (dp_ints q)
theorem dp_tIs (e : Ext S H) : ∀ {nss : List (List Int)} {xs : List V}, Reps S xs (nss.map tI) → DpAll K H xs (nss.map pdI)
  | [], _, .nil => .nil
  | _ :: _, _, .cons h r => .cons (dp_tI e h) (dp_tIs e r)
theorem canLay_ints : ∀ ns : List Int, PyData.canLayAll0 (ns.map PyData.int) = true
  | [] => rfl
  | n :: ns => by rw [List.map_cons]; unfold PyData.canLayAll0; rw [canLay_ints ns]; rfl
theorem depth_ints : ∀ ns : List Int, PyData.depthAll (ns.map PyData.int) = 0
  | [] => rfl
  | n :: ns => by rw [List.map_cons]; unfold PyData.depthAll; rw [depth_ints ns]; rfl
theorem canLay_pI (ns : List Int) : (pdI ns).canLay0 = true := by unfold PyData.canLay0; exact canLay_ints ns
theorem depth_pI (ns : List Int) : (pdI ns).depth = 1 := by unfold PyData.depth; rw [depth_ints]
theorem shaped_pI (ns : List Int) : SeqAt.shaped (pdI ns) = true := by unfold SeqAt.shaped; rw [canLay_pI, depth_pI]; rfl
theorem canLay_pIs : ∀ nss : List (List Int), PyData.canLayAll0 (nss.map pdI) = true
  | [] => rfl
  | n :: ns => by rw [List.map_cons]; unfold PyData.canLayAll0; rw [canLay_pIs ns, canLay_pI]; rfl
theorem depth_pIs : ∀ nss : List (List Int), PyData.depthAll (nss.map pdI) ≤ 1
  | [] => by simp [PyData.depthAll]
  | n :: ns => by rw [List.map_cons]; unfold PyData.depthAll; rw [depth_pI]; exact Nat.max_le.mpr ⟨Nat.le_refl _, depth_pIs ns⟩
theorem shaped_lI (nss : List (List Int)) : SeqAt.shaped (.list (nss.map pdI)) = true := by
  unfold SeqAt.shaped PyData.canLay0 PyData.depth; rw [canLay_pIs]; simp only [Bool.true_and, decide_eq_true_eq]; have := depth_pIs nss; omega
theorem shaped_tI (nss : List (List Int)) : SeqAt.shaped (.tuple (nss.map pdI)) = true := by
  unfold SeqAt.shaped PyData.canLay0 PyData.depth; rw [canLay_pIs]; simp only [Bool.true_and, decide_eq_true_eq]; have := depth_pIs nss; omega
theorem eqv_ints : ∀ a b : List Int, PyData.eqvAll (a.map PyData.int) (b.map PyData.int) = decide (a = b)
  | [], [] => by unfold PyData.eqvAll; rfl
  | [], _ :: _ => by rw [List.map_nil, List.map_cons]; unfold PyData.eqvAll; rfl
  | _ :: _, [] => by rw [List.map_nil, List.map_cons]; unfold PyData.eqvAll; rfl
  | x :: a, y :: b => by
    rw [List.map_cons, List.map_cons]
    unfold PyData.eqvAll
    rw [eqv_ints a b]
    unfold PyData.eqv
    by_cases h1 : x = y <;> by_cases h2 : a = b <;> simp [h1, h2]
theorem eqv_pI (a b : List Int) : PyData.eqv (pdI a) (pdI b) = decide (a = b) := by unfold PyData.eqv; exact eqv_ints a b
theorem any_pI (n : List Int) : ∀ nss : List (List Int), ((nss.map pdI).any fun z => PyData.eqv z (pdI n)) = decide (n ∈ nss)
  | [] => rfl
  | m :: nss => by
    rw [List.map_cons, List.any_cons, any_pI n nss, eqv_pI]
    by_cases h1 : n = m
    · subst h1; simp
    · have h2 : ¬ m = n := fun e => h1 e.symm
      simp [h1, h2]
end
section
variable {X : Cx} {env : List (Option E)} {mu : List MO} {a b c e : Expr} {ε ε1 ε2 : E} {pos p : Pos} {d d1 d2 : D} {ds : List D} {i j : Int} {r : Bool} {t : Bool} {k : Nat} {op : CmpOp}
theorem ev_c (ha : Ev X a env mu ε1) (hb : Ev X b env mu ε2) (h : CmpOk X op mu ε1 ε2 r) (hm : behindInMarks op b = false := by rfl) : Ev X (.Compare a [op] [b] pos) env mu (.d (.bl r)) := ev_cmpB h ha hb hm
theorem et_c (ha : Ev X a env mu ε1) (hb : Ev X b env mu ε2) (h : CmpOk X op mu ε1 ε2 r) (hm : behindInMarks op b = false := by rfl) : EvT X (.Compare a [op] [b] pos) env mu r := et_cmp h ha hb hm
theorem cmp_eqT {n m : List Int} (hr : Room k X.A) : CmpOk X .Eq mu (.d (tI n)) (.d (tI m)) (decide (n = m)) := ⟨_, op_eqD hr.units, fun F ps env σ H v w Q I rv rw kk =>
  ⟨_, _, dp_tI stab_le rv, dp_tI stab_le rw, shaped_pI _, shaped_pI _, by rw [eqv_pI]; exact kk H (Ext.refl H)⟩⟩
theorem cmp_neT {n m : List Int} (hr : Room k X.A) : CmpOk X .NotEq mu (.d (tI n)) (.d (tI m)) (!decide (n = m)) := ⟨_, op_neD hr.units, fun F ps env σ H v w Q I rv rw kk =>
  ⟨_, _, dp_tI stab_le rv, dp_tI stab_le rw, shaped_pI _, shaped_pI _, by rw [eqv_pI]; exact kk H (Ext.refl H)⟩⟩
def rInDT (K : PySem.W.Frag) : R2 := fun x y H Q => ∃ d ds, Dp K H x d ∧ Dp K H y (.tuple ds) ∧ SeqAt.shaped d = true ∧ SeqAt.shaped (.tuple ds) = true ∧ Q (.bl (ds.any fun z => PyData.eqv z d)) H
def rNotInDT (K : PySem.W.Frag) : R2 := fun x y H Q => ∃ d ds, Dp K H x d ∧ Dp K H y (.tuple ds) ∧ SeqAt.shaped d = true ∧ SeqAt.shaped (.tuple ds) = true ∧ Q (.bl (!ds.any fun z => PyData.eqv z d)) H
theorem op_inDT (hu : X.A.units + 65 < cLine) : OpR X (compareOp .In) (rInDT X.K) := by
  intro pins s σ H x y v u Q I rx ry h
  obtain ⟨d, ds, hd, he, sd, se, q⟩ := h
  obtain ⟨as, r1⟩ := Dp.reads I d x v hd rx
  obtain ⟨bs, r2⟩ := Dp.reads I (.tuple ds) y u he ry
  exact SeqAt.in_tuple_reads r2 r1 (SeqAt.canLay_of_shaped se) (SeqAt.canLay_of_shaped sd) (room_in_shaped sd hu) ⟨.bl _, H, I, rfl, q⟩
theorem op_notInDT (hu : X.A.units + 65 < cLine) : OpR X (compareOp .NotIn) (rNotInDT X.K) := by
  intro pins s σ H x y v u Q I rx ry h
  obtain ⟨d, ds, hd, he, sd, se, q⟩ := h
  obtain ⟨as, r1⟩ := Dp.reads I d x v hd rx
  obtain ⟨bs, r2⟩ := Dp.reads I (.tuple ds) y u he ry
  exact SeqAt.notIn_tuple_reads r2 r1 (SeqAt.canLay_of_shaped se) (SeqAt.canLay_of_shaped sd) (room_in_shaped sd hu) ⟨.bl _, H, I, rfl, q⟩
theorem Room.units65 {A : Around} (r : Room k A) : A.units + 65 < cLine := by have := r.un; omega
/-- a tuple of ints among such -/
theorem cmp_inT {n : List Int} {nss : List (List Int)} (hr : Room k X.A) (h : seqE mu ε = some (true, nss.map tI)) : CmpOk X .In mu (.d (tI n)) ε (decide (n ∈ nss)) := ⟨_, op_inDT (Room.units65 hr), fun F ps env σ H v w Q I rv rw kk => by
  obtain ⟨a, xs, rfl, g, q⟩ := seqE_rep I rw h
  exact ⟨_, _, dp_tI stab_le rv, .tup (SqT.of g) (dp_tIs stab_le q), shaped_pI _, shaped_tI _, by rw [any_pI]; exact kk H (Ext.refl H)⟩⟩
theorem cmp_notInT {n : List Int} {nss : List (List Int)} (hr : Room k X.A) (h : seqE mu ε = some (true, nss.map tI)) : CmpOk X .NotIn mu (.d (tI n)) ε (!decide (n ∈ nss)) := ⟨_, op_notInDT (Room.units65 hr), fun F ps env σ H v w Q I rv rw kk => by
  obtain ⟨a, xs, rfl, g, q⟩ := seqE_rep I rw h
  exact ⟨_, _, dp_tI stab_le rv, .tup (SqT.of g) (dp_tIs stab_le q), shaped_pI _, shaped_tI _, by rw [any_pI]; exact kk H (Ext.refl H)⟩⟩
theorem cmp_notInL {n : List Int} {nss : List (List Int)} (hr : Room k X.A) (h : seqE mu ε = some (false, nss.map tI)) : CmpOk X .NotIn mu (.d (tI n)) ε (!decide (n ∈ nss)) := ⟨_, op_notInD (Room.units65 hr), fun F ps env σ H v w Q I rv rw kk => by
  obtain ⟨a, xs, rfl, g, q⟩ := seqE_rep I rw h
  exact ⟨_, _, dp_tI stab_le rv, .lst (SqL.of g) (dp_tIs stab_le q), shaped_pI _, shaped_lI _, by rw [any_pI]; exact kk H (Ext.refl H)⟩⟩
/-! a text in its tuple -/
abbrev tZ (z : Str) : D := .tup [.str z]
abbrev pdZ (z : Str) : PyData := .tuple [.str z]
theorem dp_tZ {K : PySem.W.Frag} {S H : Hp} {z : Str} {v : V} (ex : Ext S H) (r : Rep S v (tZ z)) : Dp K H v (pdZ z) := by
  obtain ⟨a, xs, rfl, g, q⟩ := Rep.tup_eq r
  cases q with
  | cons h1 h2 => cases h2; cases h1; exact .tup (SqT.of (ex _ _ g)) (.cons (.str z) .nil)
theorem dp_tZs {K : PySem.W.Frag} {S H : Hp} (ex : Ext S H) : ∀ {zs : List Str} {xs : List V}, Reps S xs (zs.map tZ) → DpAll K H xs (zs.map pdZ)
  | [], _, .nil => .nil
  | _ :: _, _, .cons h r => .cons (dp_tZ ex h) (dp_tZs ex r)
theorem canLay_pZ {z : Str} (h : PyData.strOk z = true) : (pdZ z).canLay0 = true := by unfold PyData.canLay0 PyData.canLayAll0 PyData.canLayAll0 PyData.canLay0; rw [h]; rfl
theorem depth_pZ (z : Str) : (pdZ z).depth = 1 := rfl
theorem shaped_pZ {z : Str} (h : PyData.strOk z = true) : SeqAt.shaped (pdZ z) = true := by unfold SeqAt.shaped; rw [canLay_pZ h, depth_pZ]; rfl
theorem canLay_pZs : ∀ {zs : List Str}, zs.all PyData.strOk = true → PyData.canLayAll0 (zs.map pdZ) = true
  | [], _ => rfl
  | z :: zs, h => by
    rw [List.all_cons] at h
    obtain ⟨h1, h2⟩ := Bool.and_eq_true_iff.mp h
    rw [List.map_cons]; unfold PyData.canLayAll0; rw [canLay_pZs h2, canLay_pZ h1]; rfl
theorem depth_pZs : ∀ zs : List Str, PyData.depthAll (zs.map pdZ) ≤ 1
  | [] => by simp [PyData.depthAll]
  | n :: ns => by rw [List.map_cons]; unfold PyData.depthAll; rw [depth_pZ]; exact Nat.max_le.mpr ⟨Nat.le_refl _, depth_pZs ns⟩
theorem shaped_lZ {zs : List Str} (h : zs.all PyData.strOk = true) : SeqAt.shaped (.list (zs.map pdZ)) = true := by
  unfold SeqAt.shaped PyData.canLay0 PyData.depth; rw [canLay_pZs h]; simp only [Bool.true_and, decide_eq_true_eq]; have := depth_pZs zs; omega
theorem any_pZ (n : Str) : ∀ zs : List Str, ((zs.map pdZ).any fun z => PyData.eqv z (pdZ n)) = decide (n ∈ zs)
  | [] => rfl
  | m :: nss => by
    rw [List.map_cons, List.any_cons, any_pZ n nss]
    have : PyData.eqv (pdZ m) (pdZ n) = decide (m = n) := by
      unfold PyData.eqv PyData.eqvAll PyData.eqv PyData.eqvAll
      by_cases h : m = n <;> simp [h]
    rw [this]
    by_cases h1 : n = m
    · subst h1; simp
    · have h2 : ¬ m = n := fun e => h1 e.symm
      simp [h1, h2]
theorem cmp_inZ {n : Str} {zs : List Str} (hr : Room k X.A) (h : seqE mu ε = some (false, zs.map tZ)) (o1 : PyData.strOk n = true) (o2 : zs.all PyData.strOk = true) : CmpOk X .In mu (.d (tZ n)) ε (decide (n ∈ zs)) := ⟨_, op_inD (Room.units65 hr), fun F ps env σ H v w Q I rv rw kk => by
  obtain ⟨a, xs, rfl, g, q⟩ := seqE_rep I rw h
  exact ⟨_, _, dp_tZ stab_le rv, .lst (SqL.of g) (dp_tZs stab_le q), shaped_pZ o1, shaped_lZ o2, by rw [any_pZ]; exact kk H (Ext.refl H)⟩⟩
theorem cmp_notInZ {n : Str} {zs : List Str} (hr : Room k X.A) (h : seqE mu ε = some (false, zs.map tZ)) (o1 : PyData.strOk n = true) (o2 : zs.all PyData.strOk = true) : CmpOk X .NotIn mu (.d (tZ n)) ε (!decide (n ∈ zs)) := ⟨_, op_notInD (Room.units65 hr), fun F ps env σ H v w Q I rv rw kk => by
  obtain ⟨a, xs, rfl, g, q⟩ := seqE_rep I rw h
  exact ⟨_, _, dp_tZ stab_le rv, .lst (SqL.of g) (dp_tZs stab_le q), shaped_pZ o1, shaped_lZ o2, by rw [any_pZ]; exact kk H (Ext.refl H)⟩⟩
/-! ### written tuples and dicts of the module -/
theorem ev_inK {x z : Str} {zs : List Str} (hg : Gl X x) (hT : TxT X.K X.mg x zs) (ha : Ev X a env mu (.d (.str z))) (hm : behindInMarks .In (.Name x p) = false := by rfl) (hd : (x == ("__debug__" : Str)) = false := by decide) : Ev X (.Compare a [.In] [.Name x p] pos) env mu (.d (.bl (decide (z ∈ zs)))) := fun F ps σ H Q I kk => by
  obtain ⟨A, h1, h3⟩ := hT
  refine ⟨_, pe_cmpR op_in_seq pE (pe_glob hg h1 (v := .ref A) rfl hd) hm, ha F ps σ H _ I fun v H1 e1 r1 => ?_⟩
  obtain rfl := Rep.str_eq r1
  refine ⟨A, zs.map V.str, rfl, .inr (.inr h3), rfl, flat_strs zs, ?_⟩
  rw [inV_strs]
  exact kk _ H1 e1 (.bl _)
theorem et_notInS {x z : Str} {tab : Str → Option Int} (hg : Gl X x) (hT : TxS X.K X.w X.mg x tab) (ha : Ev X a env mu (.d (.str z))) (hm : behindInMarks .NotIn (.Name x p) = false := by rfl) (hd : (x == ("__debug__" : Str)) = false := by decide) : Ev X (.Compare a [.NotIn] [.Name x p] pos) env mu (.d (.bl (!(tab z).isSome))) := fun F ps σ H Q I kk => by
  obtain ⟨A, es, n, h1, h3, h4⟩ := hT
  refine ⟨_, pe_cmpR (op_notIn_kd h3) pE (pe_glob hg h1 (v := .ref A) rfl hd) hm, ha F ps σ H _ I fun v H1 e1 r1 => ?_⟩
  obtain rfl := Rep.str_eq r1
  cases ht : tab z with
  | none => exact ⟨z, none, rfl, rfl, (h4 z).1 ht, kk _ H1 e1 (by rw [ht]; exact .bl _)⟩
  | some i => obtain ⟨t, q⟩ := (h4 z).2 i ht; exact ⟨z, _, rfl, rfl, q, kk _ H1 e1 (by rw [ht]; exact .bl _)⟩
theorem ev_ixKd {x z : Str} {tab : Str → Option Int} (hg : Gl X x) (hT : TxS X.K X.w X.mg x tab) (ha : Ev X a env mu (.d (.str z))) (hi : tab z = some i) (hp : PlainIx a := by exact fun _ _ => rfl) (hd : (x == ("__debug__" : Str)) = false := by decide) : Ev X (.Subscript (.Name x p) a pos) env mu (.d (.int i)) := fun F ps σ H Q I kk => by
  obtain ⟨A, es, n, h1, h3, h4⟩ := hT
  refine ⟨_, pe_ix ix_kdict (pe_glob hg h1 (v := .ref A) rfl hd) pE hp, ha F ps σ H _ I fun v H1 e1 r1 => ?_⟩
  obtain rfl := Rep.str_eq r1
  obtain ⟨t, q⟩ := (h4 z).2 i hi
  exact ⟨A, z, .int i, rfl, rfl, ⟨es, n, _, h3.at_, h3.lit, q, ⟨t, rfl⟩⟩, kk _ H1 e1 (.int i)⟩
/-! ### texts -/
theorem ev_starts {y z : Str} {apos : Pos} (n1 : NoStar e) (ha : Ev X a env mu (.d (.str y))) (he : Ev X e env mu (.d (.str z))) (hbase : attributeBase a "startswith" X.env (eval a X.env) = eval a X.env := by rfl) (hline : (apos.endLine == pos.line) = true := by rfl) :
    Ev X (.Call (.Attribute a "startswith" apos) [e] [] pos) env mu (.d (.bl (Txt.startswith y z))) := fun F ps σ H Q I kk =>
  ⟨_, pe_m1 PySem.F.slot_str_startswith PySem.F.type_str_startswith mt_startswith pE pE (n1 _ _) hbase hline, ha F ps σ H _ I fun v H1 e1 r1 => by
    obtain rfl := Rep.str_eq r1
    refine ⟨⟨y, rfl⟩, he F ps σ H1 _ (I.mono e1) fun w H2 e2 r2 => ?_⟩
    obtain rfl := Rep.str_eq r2
    exact ⟨y, z, rfl, rfl, kk _ H2 (e1.trans e2) (.bl _)⟩⟩
theorem ev_ends {y z : Str} {apos : Pos} (n1 : NoStar e) (ha : Ev X a env mu (.d (.str y))) (he : Ev X e env mu (.d (.str z))) (hbase : attributeBase a "endswith" X.env (eval a X.env) = eval a X.env := by rfl) (hline : (apos.endLine == pos.line) = true := by rfl) :
    Ev X (.Call (.Attribute a "endswith" apos) [e] [] pos) env mu (.d (.bl (Txt.endswith y z))) := fun F ps σ H Q I kk =>
  ⟨_, pe_m1 PySem.F.slot_str_endswith PySem.F.type_str_endswith mt_endswith pE pE (n1 _ _) hbase hline, ha F ps σ H _ I fun v H1 e1 r1 => by
    obtain rfl := Rep.str_eq r1
    refine ⟨⟨y, rfl⟩, he F ps σ H1 _ (I.mono e1) fun w H2 e2 r2 => ?_⟩
    obtain rfl := Rep.str_eq r2
    exact ⟨y, z, rfl, rfl, kk _ H2 (e1.trans e2) (.bl _)⟩⟩
/-! ### ranges as lists, as things -/
theorem rgV_D {S : Hp} (n : Nat) : Reps S (rgV 0 (n : Int)) ((List.range n).map fun (m : Nat) => D.int (m : Int)) := by
  have e : rgV 0 (n : Int) = (((List.range n).map fun (m : Nat) => (m : Int))).map V.int := by
    unfold rgV
    rw [List.map_map, show ((n : Int) - 0).toNat = n by omega]
    refine List.map_congr_left fun m _ => ?_
    show V.int (0 + (m : Int)) = V.int (m : Int)
    rw [Int.zero_add]
  have e2 : ((List.range n).map fun (m : Nat) => D.int (m : Int)) = (((List.range n).map fun (m : Nat) => (m : Int))).map D.int := by rw [List.map_map]; rfl
  rw [e, e2]
  exact Reps.of_ints S _
theorem en_listRg {n : Nat} {p2 p3 : Pos} (hc : X.calm = true) (hg : Gl X "list") (hm : X.mg "list" = none) (hg2 : Gl X "range") (hm2 : X.mg "range" = none) (n1 : NoStar a) (ha : Ev X a env mu (.d (.int (n : Int)))) (hn : n ≤ 1000)
    (na : starEach [.Call (.Name "range" p2) [a] [] p3] X.env = (false, eval (.Call (.Name "range" p2) [a] [] p3) X.env) :: starEach [] X.env := by rfl) :
    EvN X (.Call (.Name "list" p) [.Call (.Name "range" p2) [a] [] p3] [] pos) env mu ((List.range n).map fun (m : Nat) => D.int (m : Int)) := fun F ps σ H Q I kk =>
  ⟨_, pe_listRg hc hg hm (prg_1 hg2 hm2 pE (n1 _ _)) na, ha F ps σ H _ I fun v H1 e1 r1 => by
    obtain rfl := Rep.int_eq r1
    exact ⟨_, rfl, RgOk.of_le (by omega) (by omega) (by omega) (by omega), fun q hq => kk q _ _ (e1.back hq) (e1.trans (Ext.new hq)) upd_same (rgV_D n)⟩⟩
theorem cr_range1 : CallR X (.type "range") (fun vs H Q => ∃ i, vs = [V.int i] ∧ ∀ p, H p = none → Q (.ref p) (upd H p (.rng 0 i))) := by
  intro pins s σ H vs us Q I r h
  obtain ⟨i, rfl, q⟩ := h
  obtain ⟨u1, rfl, ri⟩ := r.one
  obtain ⟨t, rfl⟩ := ri
  refine call_range_1 ⟨.ref s.heap.objs.size, upd H s.heap.objs.size (.rng 0 i), I.laid (t' := s.toks + 1 + 1) (fun b o e => Heap.get?_push_of_some _ e) (Nat.le_refl _) ?_, rfl, q _ (I.hok.fresh (Nat.le_refl _))⟩
  exact ⟨_, _, _, Heap.get?_push_size _ rfl⟩
theorem ev_range1 (hg : Gl X "range") (hm : X.mg "range" = none) (n1 : NoStar a) (ha : Ev X a env mu (.d (.int i))) : Ev X (.Call (.Name "range" p) [a] [] pos) env mu (.d (.rng 0 i)) :=
  ev_callTy cr_range1 hg hm boot_range (ea_cons ha ea_nil n1) (he := n1 _ _) fun F ps σ H vs Q I rr k => by
    obtain ⟨v, rfl, r1⟩ := er1 rr
    obtain rfl := Rep.int_eq r1
    exact ⟨i, rfl, fun p hp => k _ _ (Ext.new hp) (.rng (I.new hp))⟩
theorem call_list_rng (hc : X.calm = true) : CallR X (.type "list") (fun vs H Q => ∃ a i j, vs = [V.ref a] ∧ H a = some (.rng i j) ∧ RgOk i j ∧ ∀ p, H p = none → Q (.ref p) (upd H p (.lst (rgV i j)))) := by
  intro pins s σ H vs us Q I r h
  obtain ⟨a, i, j, rfl, ha, ⟨b1, b2, b3, b4, b5⟩, q⟩ := h
  obtain ⟨u1, rfl, ri⟩ := r.one
  cases ri
  obtain ⟨t, u, v, hr⟩ := I.hok a _ ha
  refine call_list_range (n := (j - i).toNat) (I.ok.hd hc) (t := t) (u := u) (v := v) (c := 1) (a := i) (b := j) hr (small_one b1 b2 b3 b4) (rangeSize_nat i j) b5 fun h' tk acc c' hk e' hi => ?_
  refine ⟨.ref s.heap.objs.size, upd H s.heap.objs.size (.lst (rgV i j)), I.laid hk (Nat.le_refl _) (show ObjOk X.prog X.w _ _ _ (.lst (rgV i j)) from ⟨?_, acc.toList, c', vals_rg hi, ?_⟩), rfl, q _ (I.hok.fresh (Nat.le_refl _))⟩
  · rw [rgV_length, sizeLine_eq]; omega
  · rw [Array.toArray_toList]; exact e'
/-- a call that gives a new list -/
theorem en_callTy {x : Str} {T : String} {r : List V → Hp → VK → Prop} {es : List Expr} {εs : List E} (hc : CallR X (.type T) r) (hg : Gl X x) (hm : X.mg x = none) (hv : bootBuiltins x = some (.type T)) (ha : EvA X (e :: es) env mu εs)
    (h : ∀ F ps σ H vs Q, Sat F ps env mu σ H → EReps (stab F ps mu H) ps vs εs → (∀ p xs H', H p = none → Ext H H' → H' p = some (.lst xs) → Reps (stabN F ps mu [p] H') xs ds → Q (.ref p) H') → r vs H Q)
    (hn : x ≠ "__name__" := by decide) (hdb : (x == ("__debug__" : Str)) = false := by decide) (he : starEach (e :: es) X.env = (false, eval e X.env) :: starEach es X.env := by rfl) (hpl : (backTo pos (starEach es X.env)).any (·.1) = false := by rfl) : EvN X (.Call (.Name x p) (e :: es) [] pos) env mu ds := fun F ps σ H Q I kk =>
  ⟨_, pe_callTy hc hg hm hv pA hn hdb he hpl, ha F ps σ H _ I fun vs H1 e1 r1 => h F ps σ H1 vs Q (I.mono e1) r1 fun p xs H' hp e2 h2 r2 => kk p xs H' (e1.back hp) (e1.trans e2) h2 r2⟩
theorem en_listR {n : Nat} (hc : X.calm = true) (hg : Gl X "list") (hm : X.mg "list" = none) (n1 : NoStar a) (ha : Ev X a env mu (.d (.rng 0 (n : Int)))) (hn : n ≤ 1000) : EvN X (.Call (.Name "list" p) [a] [] pos) env mu ((List.range n).map fun (m : Nat) => D.int (m : Int)) :=
  en_callTy (call_list_rng hc) hg hm boot_list (ea_cons ha ea_nil n1) (he := n1 _ _) fun F ps σ H vs Q I rr kk => by
    obtain ⟨v, rfl, r1⟩ := er1 rr
    have r1 : Rep (stab F ps mu H) v (.rng 0 (n : Int)) := r1
    cases r1 with
    | rng g => exact ⟨_, 0, n, rfl, stab_le _ _ g, RgOk.of_le (by omega) (by omega) (by omega) (by omega), fun q hq => kk q _ _ hq (Ext.new hq) upd_same (rgV_D n)⟩
end
end Cw
namespace Cw
open PySem PySem.Spec PyProof.Rows L2
/-! ### a tuple, repeated -/
theorem tuple_mul1 (l : Addr) (items : Array Value) (n : Nat) (dd : Option Addr) (sl : Array (Option Value)) (u : Tok) :
    Meets (Builtin.«tuple.__mul__» ⟨[.ref l, .int 1 u], []⟩) (fun _ R s => s.heap.get? l = some { cls := .type "tuple", dict := dd, data := .seq items n, slots := sl } ∧ R (.ok (.ret (Value.ref l))) s) :=
  .of_wp fun prog w A R s h => by
    obtain ⟨hp, g, d, tk, os⟩ := s
    obtain ⟨hl, h⟩ := h
    have f1 := AutoSeq1.idx_int
    have c0 : (decide ((1 : Int) < -(2 ^ 63)) || decide ((1 : Int) ≥ 2 ^ 63)) = false := by decide
    have c1 : (items.isEmpty || (1 : Int) == 1) = true := by rw [show ((1 : Int) == 1) = true from rfl, Bool.or_true]
    wp_walk using PySem.AutoSeq1.wpAny_loadPart' hl
    repeat (first
      | (refine wpAny_ite_false (decide_eq_false (by rw [c0]; exact Bool.false_ne_true)) ?_; wp_walk using PySem.AutoSeq1.wpAny_loadPart' hl)
      | (refine wpAny_ite_true (decide_eq_true (by rw [c1])) ?_; wp_walk using PySem.AutoSeq1.wpAny_loadPart' hl))
    exact ⟨_, rfl, h⟩
def rRep1 (K : PySem.W.Frag) : R2 := fun x y H Q => ∃ l xs, x = .ref l ∧ y = .int 1 ∧ SqT K H l xs ∧ Q (.ref l) H
section
variable {X : Cx}
theorem op_rep1 : OpR X (binaryOp .Mult) (rRep1 X.K) := by
  intro pins s σ H x y v u Q I rx ry h
  obtain ⟨l, xs, rfl, rfl, hT, q⟩ := h
  cases rx
  obtain ⟨t, rfl⟩ := ry
  obtain ⟨its, r, ⟨⟨cls, dd, data, sl⟩, ho, hc, n, hd⟩, hs⟩ := I.tuple hT
  simp only at hc hd
  subst hc hd
  refine wpAny_binaryOp_repeat_ref (T := "tuple") (U := "int") (by decide) ⟨_, ho, rfl⟩ (fun s' => typeIs_int s' 1 t) noFill_tuple_mul PySem.F.fills_int_mul PySem.F.slot_int_rmul repeat_tuple PySem.F.slot_int_index.lookup
    (call_meets PySem.F.slot_int_rmul (typeIs_int s 1 t) PySem.F.entry_int_rmul (PySem.F.args_int_rmul_2 _ _) (int_rmul_tuple 1 t l its.toArray n dd sl)
      ⟨ho, rfl, ⟨_, ho, rfl⟩, call_meets PySem.F.slot_tuple_mul ⟨_, ho, rfl⟩ PySem.F.entry_tuple_mul (PySem.F.args_tuple_mul_2 _ _) (tuple_mul1 l its.toArray n dd sl t) ⟨ho, ?_⟩⟩)
  exact ⟨.ref l, H, I.tok _, rfl, q⟩
end
theorem Reps.rep {S : Hp} {xs : List V} {ds : List D} (r : Reps S xs ds) : ∀ n : Nat, Reps S (List.replicate n xs).flatten (List.replicate n ds).flatten
  | 0 => .nil
  | n + 1 => by rw [List.replicate_succ, List.replicate_succ, List.flatten_cons, List.flatten_cons]; exact r.append (Reps.rep r n)
section
variable {X : Cx} {env : List (Option E)} {mu : List MO} {P : Post} {a b c e tg it : Expr} {ε ε1 ε2 : E} {pos p p2 q tpos : Pos} {d d1 d2 : D} {ds ds1 ds2 : List D} {i j : Int} {r : Bool} {t u : Bool} {k n kk : Nat} {elts : List Expr}
theorem ev_rep (ha : Ev X a env mu (.d (.tup ds))) (hb : Ev X b env mu (.d (.int (n : Int)))) (h1 : 1 ≤ n) (h2 : n ≤ 1000) (h3 : ds ≠ []) (h4 : ds.length ≤ 1000) : Ev X (.BinOp a .Mult b pos) env mu (.d (.tup (List.replicate n ds).flatten)) := by
  by_cases e1 : n = 1
  · subst e1
    refine ev_op op_rep1 ha hb fun F ps σ H v w Q I rv rw kk => ?_
    obtain ⟨l, xs, rfl, g, q⟩ := Rep.tup_eq rv
    obtain rfl := Rep.int_eq rw
    refine ⟨l, xs, rfl, rfl, SqT.of (stab_le _ _ g), kk _ H (Ext.refl H) ?_⟩
    have : (List.replicate 1 ds).flatten = ds := by simp
    rw [this]; exact rv
  · refine ev_op op_repT ha hb fun F ps σ H v w Q I rv rw kk => ?_
    obtain ⟨l, xs, rfl, g, q⟩ := Rep.tup_eq rv
    obtain rfl := Rep.int_eq rw
    refine ⟨l, n, xs, rfl, rfl, SqT.of (stab_le _ _ g), fun e => h3 ?_, by omega, by omega, by rw [q.length]; exact h4, fun p hp => kk _ _ (Ext.new hp) ?_⟩
    · rw [e] at q; cases q; rfl
    · exact I.repTup hp (by rw [Int.toNat_natCast]; exact q.rep n)
/-! ### len(set(xs)) -/
theorem ev_lenSet {ns : List Int} (hc : X.calm = true) (hg : Gl X "len") (hm : X.mg "len" = none) (hg2 : Gl X "set") (hm2 : X.mg "set" = none) (n1 : NoStar a) (ha : Ev X a env mu ε) (hs : seqE mu ε = some (false, ns.map D.int)) (hn : ns.Nodup) (hl : ns.length ≤ 60) :
    Ev X (.Call (.Name "len" p) [.Call (.Name "set" p2) [a] [] q] [] pos) env mu (.d (.int (ns.length : Int))) := fun F ps σ H Q I kk =>
  ⟨_, pe_lenSetI hc hg hm hg2 hm2 pE (n1 _ _), ha F ps σ H _ I fun v H1 e1 r1 => by
    obtain ⟨l, xs, rfl, g, r⟩ := seqE_rep (I.mono e1) r1 hs
    obtain rfl := r.ints
    exact ⟨l, ns, rfl, SqL.of g, by omega, hn, kk _ H1 e1 (.int _)⟩⟩
/-! ### zip, the first a list of one's own -/
theorem ei_zipL {m : Nat} (hg : Gl X "zip") (hm : X.mg "zip" = none) (n1 : NoStar a) (n2 : NoStar b) (ha : Ev X a env mu (.at m)) (hk : mu[m]? = some (.lst ds1)) (hb : Ev X b env mu (.d d2)) (h2 : seqD d2 = some (u, ds2)) :
    EvI X (.Tuple elts kk tpos) (.Call (.Name "zip" p) [a, b] [] pos) env mu ((ds1.zip ds2).map fun q => .two (.d q.1) (.d q.2)) (fun mu' => mu'[m]? = some (.lst ds1)) := fun F ps σ H R I k =>
  ⟨_, pi_zi hg hm pA (n1 _ _) (no_star2 n2), (ea_cons ha (ea_cons hb ea_nil n2) n1) F ps σ H _ I fun vs H1 e1 r1 => by
    obtain ⟨v, w, rfl, r, r'⟩ := er2 r1
    obtain ⟨pa, p1, rfl⟩ := r
    obtain ⟨_, xs0, g0, _⟩ := (I.mono e1).mr m pa _ p1 hk
    obtain ⟨b1, ys, rfl, g2, r'⟩ := seqD_is r' h2
    refine ⟨false, u, pa.1, b1, xs0, ys, rfl, g0, stab_le _ _ g2, k _ H1 e1 fun F' ps' env' mu' σ' H' I' ex pf hs => ?_⟩
    obtain ⟨_, xs, g', r⟩ := I'.mr m pa _ (prefix_get pf p1) hs
    have g2' : H' b1 = some (hoOf u ys) := stab_le _ _ (ex _ _ g2)
    have l1 := r.length
    have l2 := r'.length
    refine ⟨fun i item hi => ?_, ⟨xs, ys, g', g2', ?_⟩⟩
    · rw [List.getElem?_map] at hi
      cases q : (ds1.zip ds2)[i]? with
      | none => rw [q] at hi; cases hi
      | some d =>
        rw [q] at hi
        cases hi
        obtain ⟨q1, q2⟩ := List.getElem?_zip_eq_some.mp q
        obtain ⟨x, hx, rx⟩ := r.get q1
        obtain ⟨y, hy, ry⟩ := r'.get q2
        refine ⟨⟨xs, ys, x, y, g', g2', hx, hy⟩, fun z H'' hz => ?_⟩
        obtain ⟨T, x', y', rfl, hT, rfl, hz1, hz2⟩ := hz
        have ex1 := hz1 xs g'
        have ey1 := hz2 ys g2'
        rw [hx] at ex1
        rw [hy] at ey1
        cases ex1
        cases ey1
        exact ⟨Ext.new hT, T, x, y, rfl, upd_same, rx.mono (stab_mono (Ext.new hT)), (ry.mono ex).mono (stab_mono (Ext.new hT))⟩
    · rw [List.length_map, List.length_zip, l1, l2]
      omega⟩
/-! ### a loop over a thing that is not known in advance -/
def EvIX (X : Cx) (tg it : Expr) (env : List (Option E)) (mu : List MO) (G : List Item → Prop) (src : List MO → Prop) : Prop := ∀ F ps σ H R, Sat F ps env mu σ H → (∀ items J H1, G items → Ext H H1 → ItOk (stab F ps mu H1) ps J items src → R J H1) → wI X tg it σ H R
theorem eix_lst {G : List D → Prop} (ha : EvP X e env mu (fun d => ∃ ds, d = .lst ds ∧ G ds)) : EvIX X tg e env mu (fun items => ∃ ds, G ds ∧ items = ds.map fun d => .one (.d d)) anyMu := fun F ps σ H R I k =>
  ⟨_, pi_list pE, ha F ps σ H _ I fun v d H1 hd e1 r1 => by
    obtain ⟨ds, rfl, hG⟩ := hd
    obtain ⟨a, xs, rfl, g, r⟩ := Rep.lst_eq r1
    refine ⟨a, rfl, ⟨xs, SqL.of (stab_le _ _ g)⟩, k _ _ H1 ⟨ds, hG, rfl⟩ e1 fun F' ps' env' mu' σ' H' I' ex pf _ => ?_⟩
    have g' : H' a = some (.lst xs) := stab_le _ _ (ex _ _ g)
    refine ⟨fun i item hi => ?_, ⟨xs, SqL.of g', by rw [List.length_map, r.length]; exact Nat.le_refl _⟩⟩
    rw [List.getElem?_map] at hi
    cases q : ds[i]? with
    | none => rw [q] at hi; cases hi
    | some d =>
      rw [q] at hi
      cases hi
      obtain ⟨x, hx, rx⟩ := r.get q
      refine ⟨⟨xs, x, SqL.of g', hx⟩, fun y H'' hy => ?_⟩
      obtain ⟨rfl, hy⟩ := hy
      have : x = y := by have z := hy xs (SqL.of g'); rw [hx] at z; exact Option.some.inj z
      subst this
      exact ⟨Ext.refl _, rx.mono ex⟩⟩
theorem go_forX {G : List Item → Prop} {src : List MO → Prop} {T : Tg} {body : List Stmt} (W : List Item → Nat → List (Option E) → List MO → Prop) (B : OkX X) (hi : EvIX X tg it env mu G src) (ht : TgOk X tg T) (h0 : ∀ items, G items → W items 0 env mu) (hsrc : ∀ items i e u, W items i e u → src u)
    (hstep : ∀ items i item e u, G items → items[i]? = some item → W items i e u → ∃ e', bindT e T item = some e' ∧ Go X body e' u { nx := W items (i + 1), ct := W items (i + 1), bk := P.nx, rt := P.rt })
    (hend : ∀ items e u, G items → W items items.length e u → P.nx e u) (hs : ∀ x, foldedSetIterable it X.env x = pure x := by intro _; rfl) : GoS X (.For tg it body [] pos) env mu P := fun F ps σ H K I E => by
  refine ⟨_, ps_for B.po B.calm pI pG pSs hs, hi F ps σ H _ I fun items J H1 hG e1 hJ => ?_⟩
  have I1 := I.mono e1
  refine ⟨fun i m σ' H' => m = items.length - i ∧ i ≤ items.length ∧ ∃ e u ps', W items i e u ∧ ps <+: ps' ∧ Sat (F.reb ps mu H1) ps' e u σ' H', ⟨_, rfl, Nat.zero_le _, env, mu, ps, h0 items hG, List.prefix_refl _, I1.reb⟩, ?_⟩
  rintro i m σ' H' ⟨rfl, hi, e, u, ps', w, pf, J1⟩
  obtain ⟨g1, g2⟩ := hJ _ ps' e u σ' H' J1 (reb_stab J1) pf (hsrc items i e u w)
  by_cases hlt : i < items.length
  · have hx : items[i]? = some items[i] := List.getElem?_eq_getElem hlt
    obtain ⟨go, yl⟩ := g1 i _ hx
    refine .inr ⟨go, fun σ2 H2 => items.length - (i + 1) < items.length - i ∧ ∃ e u ps', W items (i + 1) e u ∧ ps <+: ps' ∧ Sat (F.reb ps mu H1) ps' e u σ2 H2, fun σ2 H2 n => ⟨_, n.1, rfl, hlt, n.2⟩, fun v H2 hy => ?_⟩
    obtain ⟨e2, r2⟩ := yl v H2 hy
    obtain ⟨e', hb, hgo⟩ := hstep items i _ e u hG hx w
    refine bind_run (J1.mono e2) r2 hb ht fun σ2 J2 _ => ?_
    refine hgo _ ps' σ2 H2 _ J2 ⟨fun e3 u3 p3 s3 H3 q f Z => ⟨by omega, e3, u3, p3, q, pf.trans f, Z⟩, fun v d e3 u3 p3 s3 H3 q f Z r => E.rt v d e3 u3 p3 s3 H3 q (pf.trans f) (reb_back I1 Z) r, fun e3 u3 p3 s3 H3 q f Z => E.nx e3 u3 p3 s3 H3 q (pf.trans f) (reb_back I1 Z), fun e3 u3 p3 s3 H3 q f Z => ⟨by omega, e3, u3, p3, q, pf.trans f, Z⟩⟩
  · have ei : i = items.length := by omega
    subst ei
    exact .inl ⟨g2, E.nx e u ps' σ' H' (hend items e u hG w) pf (reb_back I1 J1)⟩
/-! ### sorted(list(d)), the keys tuples of ints -/
def kI (ns : List Int) : List Key := ns.map Sum.inl
theorem kI_V : ∀ ns : List Int, (kI ns).map kV = ns.map V.int
  | [] => rfl
  | n :: ns => by show V.int n :: (kI ns).map kV = _; rw [kI_V ns]; rfl
theorem keys_tI {F : Fr} {ps : List HA} {σ : L2.St} {H : Hp} (I : Sat F ps env mu σ H) : ∀ {kvs : List (List Key × V)} {bs : List Addr} {nss : List (List Int)}, IsKeys H kvs bs → kvs.map (·.1) = nss.map kI → Reps (stab F ps mu H) (bs.map V.ref) (nss.map tI)
  | [], _, [], .nil, _ => .nil
  | (k, v) :: kvs, b :: bs, n :: nss, .cons h t, e => by
    rw [List.map_cons, List.map_cons] at e
    injection e with e1 e2
    simp only at e1
    subst e1
    have hb : H b = some (.tup ((kI n).map kV)) := h
    rw [kI_V] at hb
    have nh : ¬ (F.M b ∨ Lv ps mu b) := fun z => by
      obtain ⟨o, q, nt⟩ := I.held z
      rw [hb] at q; cases q
      exact nt _ rfl
    exact .cons (.tup (by rw [stab_of (fun y => nh (.inl y)) (fun y => nh (.inr y))]; exact hb) (Reps.of_ints _ n)) (keys_tI I t e2)
  | [], _, _ :: _, _, e => by simp at e
  | _ :: _, _, [], _, e => by simp at e
theorem evp_list_d {kds : List (List Key × D)} {nss : List (List Int)} (hc : X.calm = true) (hg : Gl X "list") (hm : X.mg "list" = none) (n1 : NoStar e) (ha : Ev X e env mu ε) (hd : dicE mu ε = some (kds.map (·.1), kds.map (·.2))) (hk : kds.map (·.1) = nss.map kI) :
    Ev X (.Call (.Name "list" p) [e] [] pos) env mu (.d (.lst (nss.map tI))) :=
  ev_callTy (call_list_dT hc) hg hm boot_list (ea_cons ha ea_nil n1) (he := n1 _ _) fun F ps σ H vs Q I rr kk => by
    obtain ⟨v, rfl, r1⟩ := er1 rr
    obtain ⟨a, kvs, rfl, g, sd⟩ := dicE_rep I r1 hd
    exact ⟨a, kvs, rfl, .inl g, fun q bs hq hb => kk _ _ (Ext.new hq) (I.repLst hq (keys_tI I hb (sd.1.trans hk)))⟩
theorem tupI_of {K : PySem.W.Frag} {S H : Hp} {n : List Int} {v : V} (ex : Ext S H) (r : Rep S v (tI n)) : TupI K H v n := by
  obtain ⟨a, xs, rfl, g, q⟩ := Rep.tup_eq r
  obtain rfl := q.ints
  exact ⟨a, rfl, SqT.of (ex _ _ g)⟩
theorem Reps.perm_tI {S : Hp} {xs ys : List V} (h : ys.Perm xs) : ∀ {nss : List (List Int)}, Reps S xs (nss.map tI) → ∃ mss : List (List Int), mss.Perm nss ∧ Reps S ys (mss.map tI) := by
  induction h with
  | nil => intro nss r; exact ⟨nss, .refl _, r⟩
  | @cons x l1 l2 _ ih => intro nss r; cases nss with
    | nil => cases r
    | cons n nss => cases r with
      | cons r1 r2 => obtain ⟨m, h1, h2⟩ := ih r2; exact ⟨n :: m, h1.cons n, .cons r1 h2⟩
  | swap x y l => intro nss r; cases nss with
    | nil => cases r
    | cons n nss => cases r with
      | cons r1 r2 => cases nss with
        | nil => cases r2
        | cons m nss => cases r2 with
          | cons r3 r4 => exact ⟨m :: n :: nss, .swap _ _ _, .cons r3 (.cons r1 r4)⟩
  | trans _ _ ih1 ih2 => intro nss r; obtain ⟨m, h1, h2⟩ := ih2 r; obtain ⟨m', h3, h4⟩ := ih1 h2; exact ⟨m', h3.trans h1, h4⟩
theorem evp_sort {nss : List (List Int)} {dd : Nat} {B : Int} (hg : Gl X "sorted") (hm : X.mg "sorted" = none) (n1 : NoStar e) (ha : Ev X e env mu (.d (.lst (nss.map tI)))) (h1 : 1 ≤ dd) (h2 : ∀ n ∈ nss, n.length = dd ∧ ∀ m ∈ n, 0 ≤ m ∧ m < B) (h3 : nss.length < 64) :
    EvP X (.Call (.Name "sorted" p) [e] [] pos) env mu (fun d => ∃ ds, d = .lst ds ∧ ∃ mss : List (List Int), mss.Perm nss ∧ ds = mss.map tI) := fun F ps σ H Q I kk =>
  ⟨_, pe_callB (cr_sortT (B := B) h1) hg hm boot_sorted pA (he := n1 _ _), (ea_cons ha ea_nil n1) F ps σ H _ I fun vs H1 e1 rr => by
    obtain ⟨v, rfl, r1⟩ := er1 rr
    obtain ⟨a, xs, rfl, g, r⟩ := Rep.lst_eq r1
    have I1 := I.mono e1
    refine ⟨a, xs, rfl, SqL.of (stab_le _ _ g), by rw [r.length, List.length_map]; exact h3, fun x hx => ?_, fun ys q hp _ hq => ?_⟩
    · obtain ⟨i, hi, ei⟩ := List.mem_iff_getElem.mp hx
      obtain ⟨d, hd, rd⟩ := r.getV (List.getElem?_eq_getElem hi)
      rw [List.getElem?_map] at hd
      cases hn : nss[i]? with
      | none => rw [hn] at hd; cases hd
      | some n =>
        rw [hn] at hd
        cases hd
        rw [ei] at rd
        obtain ⟨h4, h5⟩ := h2 n (List.mem_of_getElem? hn)
        exact ⟨n, tupI_of stab_le rd, h4, h5⟩
    · obtain ⟨mss, h4, h5⟩ := r.perm_tI hp
      exact kk _ _ _ ⟨_, rfl, mss, h4, rfl⟩ (e1.trans (Ext.new hq)) (I1.repLst hq h5)⟩
end
end Cw
namespace Cw
open PySem PySem.Spec PyProof.Rows L2
/-! ### a body's context, known -/
structure Ctx (P : Program) (w : World) (K : PySem.W.Frag) (mg : Str → Option Value) (base : Heap) (N : List Str) (so sc : Scope) (n : Nat) (X : Cx) : Prop where
  pr : X.prog = P
  w : X.w = w
  K : X.K = K
  mg : X.mg = mg
  base : X.base = base
  N : X.N = N
  sc : X.env.scope = sc
  B : OkX X
  room : Room n X.A
  fnc : ∀ x, so.names.lookup x = some .cell → X.fn x = true
/-- the scope of a block within -/
def relS (sc' sc : Scope) : Scope := { sc' with names := sc'.names.map fun (n, k) => if (k == .free && sc.kind == .function && sc.names.lookup n == some .cell) then (n, .cell) else (n, k) }
/-- a variable in sight, of a plain name -/
def visB (sc : Scope) (x : Str) : Bool := (match sc.names.lookup x with
  | some .local => true
  | some .cell => true
  | some .free => true
  | _ => false) && !(x == ("__debug__" : Str)) && !(x == ("__classdict__" : Str))
def locB (so sc : Scope) (x : Str) : Bool := (match sc.names.lookup x with
  | some .local => true
  | some .cell => (match so.names.lookup x with
    | some .cell => true
    | _ => false)
  | _ => false)
/-- a local that no block within sees -/
def locL (sc : Scope) (x : Str) : Bool := (match sc.names.lookup x with
  | some .local => true
  | _ => false)
def glB (sc : Scope) (x : Str) : Bool := (match sc.names.lookup x with
  | some .globalImplicit => true
  | _ => false) && !(x == ("__debug__" : Str)) && !(x == ("__name__" : Str))
section
variable {P : Program} {w : World} {K : PySem.W.Frag} {mg : Str → Option Value} {base : Heap} {N : List Str} {so sc : Scope} {n k : Nat} {X : Cx} {x : Str}
theorem visB_vis (h : visB sc x = true) : Vis sc x ∧ (x == ("__debug__" : Str)) = false ∧ (x == ("__classdict__" : Str)) = false := by
  unfold visB at h
  simp only [Bool.and_eq_true, Bool.not_eq_true'] at h
  refine ⟨?_, h.1.2, h.2⟩
  have h1 := h.1.1
  split at h1
  · rename_i e; exact .inl e
  · rename_i e; exact .inr (.inl e)
  · rename_i e; exact .inr (.inr e)
  · cases h1
theorem locL_loc (h : locL sc x = true) : sc.names.lookup x = some .local := by
  unfold locL at h
  split at h
  · assumption
  · cases h
theorem Ctx.loc (C : Ctx P w K mg base N so sc n X) (h : locB so sc x = true) : Loc X.env.scope x ∧ (X.fn x = true ∨ X.env.scope.names.lookup x = some .local) := by
  unfold locB at h
  rw [C.sc]
  split at h
  · rename_i e; exact ⟨.inl e, .inr e⟩
  · rename_i e
    split at h
    · rename_i e2; exact ⟨.inr e, .inl (C.fnc x e2)⟩
    · cases h
  · cases h
theorem glB_gl (h : glB sc x = true) : sc.names.lookup x = some .globalImplicit ∧ (x == ("__debug__" : Str)) = false ∧ x ≠ "__name__" := by
  unfold glB at h
  simp only [Bool.and_eq_true, Bool.not_eq_true'] at h
  refine ⟨?_, h.1.2, fun e => ?_⟩
  · have h1 := h.1.1
    split at h1
    · assumption
    · cases h1
  · have := h.2
    rw [e] at this
    exact absurd this (by decide)
theorem Ctx.gl (C : Ctx P w K mg base N so sc n X) (h : glB sc x = true) : Gl X x := by
  show X.env.scope.names.lookup x = some .globalImplicit
  rw [C.sc]; exact (glB_gl h).1
theorem Ctx.free (C : Ctx P w K mg base N so sc n X) (h : mg x = none) : X.mg x = none := by rw [C.mg]; exact h
theorem Ctx.fn {Pre : List D → (D → Prop) → Prop} (C : Ctx P w K mg base N so sc n X) (G : Fn P w K mg base x k Pre) : Fn X.prog X.w X.K X.mg X.base x k Pre := by rw [C.pr, C.w, C.K, C.mg, C.base]; exact G
theorem Ctx.rm (C : Ctx P w K mg base N so sc n X) (h : k ≤ n) : Room k X.A := C.room.mono h
theorem Ctx.blk {X' : Cx} {sc' : Scope} (C : Ctx P w K mg base N so sc n X) (h : Blk X sc' X') : Ctx P w K mg base N sc' (relS sc' sc) n X' := by
  have B' := C.B.blk h
  obtain ⟨s, H, Ca, cl, fp, rfl⟩ := h
  exact ⟨C.pr, C.w, C.K, C.mg, C.base, C.N, by rw [← C.sc] <;> rfl, B', C.room, fun x h => beq_iff_eq.mpr h⟩
theorem ctx_body {qual : Str} {st : Stmt} {f : Addr} {cdv : Value} {A : Around} {outer : List Env} {s : Shared} {H : Hp} {E : XK} (B : OkX (Bx P w K mg base N qual st f cdv A outer s H E)) (hr : Room n (Bx P w K mg base N qual st f cdv A outer s H E).A) :
    Ctx P w K mg base N (defScope st) (defScope st) n (Bx P w K mg base N qual st f cdv A outer s H E) := ⟨rfl, rfl, rfl, rfl, rfl, rfl, rfl, B, hr, fun _ _ => rfl⟩
end
section
variable {P : Program} {w : World} {K : PySem.W.Frag} {mg : Str → Option Value} {base : Heap} {N : List Str} {so sc : Scope} {n k i : Nat} {X : Cx} {x z : Str} {CN CS : Addr}
variable {env : List (Option E)} {mu : List MO} {a b c e : Expr} {ε ε1 ε2 : E} {pos p : Pos} {d d1 d2 : D} {ds : List D} {v j : Int} {r : Bool} {t : Bool} {op : CmpOp} {es : List Expr} {εs : List E} {Po : Post} {s : Stmt} {rest A : List Stmt}
theorem c_var (C : Ctx P w K mg base N so sc n X) (hi : N[i]? = some x) (hv : visB sc x = true) (he : env[i]? = some (some ε)) : Ev X (.Name x pos) env mu ε := by
  obtain ⟨h1, h2, h3⟩ := visB_vis hv
  exact ev_var i (by rw [C.N]; exact hi) (by rw [C.sc]; exact h1) he h2 h3
theorem c_ty {T : String} (C : Ctx P w K mg base N so sc n X) (hm : mg x = none) (hg : glB sc x = true) (hv : bootBuiltins x = some (.type T)) : Ev X (.Name x pos) env mu (.d (.ty T)) := ev_ty (C.gl hg) (C.free hm) hv (glB_gl hg).2.2 (glB_gl hg).2.1
theorem c_gint (C : Ctx P w K mg base N so sc n X) (hm : ∃ t, mg x = some (.int v t)) (hg : glB sc x = true) : Ev X (.Name x pos) env mu (.d (.int v)) := ev_gint (C.gl hg) (by rw [C.mg]; exact hm) (glB_gl hg).2.1
theorem c_gstr (C : Ctx P w K mg base N so sc n X) (hm : ∃ t, mg x = some (.str z t)) (hg : glB sc x = true) : Ev X (.Name x pos) env mu (.d (.str z)) := ev_gstr (C.gl hg) (by rw [C.mg]; exact hm) (glB_gl hg).2.1
theorem c_len {m : Nat} (C : Ctx P w K mg base N so sc n X) (T : Tx P w K mg base CN CS) (hg : glB sc "len" = true) (ha : Ev X e env mu ε) (h : lenE mu ε = some m) (n1 : NoStar e := by intro _ _; rfl) : Ev X (.Call (.Name "len" p) [e] [] pos) env mu (.d (.int (m : Int))) := ev_lenG (C.gl hg) (C.free T.b_len) n1 ha h
theorem c_int (C : Ctx P w K mg base N so sc n X) (T : Tx P w K mg base CN CS) (hg : glB sc "int" = true) (ha : Ev X e env mu (.d (.int v))) (n1 : NoStar e := by intro _ _; rfl) : Ev X (.Call (.Name "int" p) [e] [] pos) env mu (.d (.int v)) := ev_intI (C.gl hg) (C.free T.b_int) n1 ha
theorem c_max (C : Ctx P w K mg base N so sc n X) (T : Tx P w K mg base CN CS) (hg : glB sc "max" = true) (ha : Ev X a env mu (.d (.int v))) (hb : Ev X b env mu (.d (.int j))) (n1 : NoStar a := by intro _ _; rfl) (n2 : NoStar b := by intro _ _; rfl) : Ev X (.Call (.Name "max" p) [a, b] [] pos) env mu (.d (.int (if j > v then j else v))) := ev_max C.B.calm (C.gl hg) (C.free T.b_max) n1 n2 ha hb
theorem c_min (C : Ctx P w K mg base N so sc n X) (T : Tx P w K mg base CN CS) (hg : glB sc "min" = true) (ha : Ev X a env mu (.d (.int v))) (hb : Ev X b env mu (.d (.int j))) (n1 : NoStar a := by intro _ _; rfl) (n2 : NoStar b := by intro _ _; rfl) : Ev X (.Call (.Name "min" p) [a, b] [] pos) env mu (.d (.int (if j < v then j else v))) := ev_min C.B.calm (C.gl hg) (C.free T.b_min) n1 n2 ha hb
theorem c_all {bs : List Bool} (C : Ctx P w K mg base N so sc n X) (T : Tx P w K mg base CN CS) (hg : glB sc "all" = true) (ha : EvN X e env mu (bs.map D.bl)) (n1 : NoStar e := by intro _ _; rfl) : Ev X (.Call (.Name "all" p) [e] [] pos) env mu (.d (.bl (bs.all id))) := ev_all C.B.calm (C.gl hg) (C.free T.b_all) n1 ha.ev rfl
theorem c_any {bs : List Bool} (C : Ctx P w K mg base N so sc n X) (T : Tx P w K mg base CN CS) (hg : glB sc "any" = true) (ha : EvN X e env mu (bs.map D.bl)) (n1 : NoStar e := by intro _ _; rfl) : Ev X (.Call (.Name "any" p) [e] [] pos) env mu (.d (.bl (bs.any id))) := ev_any C.B.calm (C.gl hg) (C.free T.b_any) n1 ha.ev rfl
theorem c_sum {ns : List Int} (C : Ctx P w K mg base N so sc n X) (T : Tx P w K mg base CN CS) (hg : glB sc "sum" = true) (ha : EvN X e env mu (ns.map D.int)) (n1 : NoStar e := by intro _ _; rfl) : Ev X (.Call (.Name "sum" p) [e] [] pos) env mu (.d (.int ns.sum)) := ev_sum C.B.calm (C.gl hg) (C.free T.b_sum) n1 ha.ev rfl
theorem c_tupN (C : Ctx P w K mg base N so sc n X) (T : Tx P w K mg base CN CS) (hg : glB sc "tuple" = true) (ha : EvN X e env mu ds) (n1 : NoStar e := by intro _ _; rfl) : Ev X (.Call (.Name "tuple" p) [e] [] pos) env mu (.d (.tup ds)) := ev_tupleL (C.gl hg) (C.free T.b_tuple) n1 ha.ev rfl
theorem c_tup (C : Ctx P w K mg base N so sc n X) (T : Tx P w K mg base CN CS) (hg : glB sc "tuple" = true) (ha : Ev X e env mu ε) (h : seqE mu ε = some (t, ds)) (n1 : NoStar e := by intro _ _; rfl) : Ev X (.Call (.Name "tuple" p) [e] [] pos) env mu (.d (.tup ds)) := by
  cases t with
  | false => exact ev_tupleL (C.gl hg) (C.free T.b_tuple) n1 ha h
  | true =>
    have : ε = .d (.tup ds) := by
      cases ε with
      | d d => cases d <;> simp [seqE] at h; rw [h]
      | «at» k =>
        cases hm : mu[k]? with
        | none => simp [seqE, hm] at h
        | some o => cases o <;> simp [seqE, hm] at h
      | sub k i =>
        cases hm : mu[k]? with
        | none => simp [seqE, hm] at h
        | some o => cases o <;> simp [seqE, hm] at h
      | raw ns => cases h
    subst this
    exact ev_tupleT (C.gl hg) (C.free T.b_tuple) n1 ha
theorem c_list (C : Ctx P w K mg base N so sc n X) (T : Tx P w K mg base CN CS) (hg : glB sc "list" = true) (ha : Ev X e env mu ε) (h : seqE mu ε = some (t, ds)) (n1 : NoStar e := by intro _ _; rfl) : EvN X (.Call (.Name "list" p) [e] [] pos) env mu ds := en_list (C.gl hg) (C.free T.b_list) n1 ha h
theorem c_isi {m : String} (C : Ctx P w K mg base N so sc n X) (T : Tx P w K mg base CN CS) (hg : glB sc "isinstance" = true) (ha : Ev X a env mu (.d d)) (hb : Ev X b env mu (.d (.ty m))) (ht : tyOk d = true) (hk : kitB (tyD d) m = some r) (n1 : NoStar a := by intro _ _; rfl) (n2 : NoStar b := by intro _ _; rfl) : Ev X (.Call (.Name "isinstance" p) [a, b] [] pos) env mu (.d (.bl r)) := ev_isi (C.gl hg) (C.free T.b_isinstance) n1 n2 ha hb ht hk
theorem c_isi2 {m1 m2 : String} {r1 r2 : Bool} (C : Ctx P w K mg base N so sc n X) (T : Tx P w K mg base CN CS) (hg : glB sc "isinstance" = true) (ha : Ev X a env mu (.d d)) (hb : Ev X b env mu (.d (.tup [.ty m1, .ty m2]))) (ht : tyOk d = true) (hk1 : kitB (tyD d) m1 = some r1) (hk2 : kitB (tyD d) m2 = some r2) (n1 : NoStar a := by intro _ _; rfl) (n2 : NoStar b := by intro _ _; rfl) : Ev X (.Call (.Name "isinstance" p) [a, b] [] pos) env mu (.d (.bl (r1 || r2))) := ev_isi2 (C.gl hg) (C.free T.b_isinstance) n1 n2 ha hb ht hk1 hk2
/-- a def by what it is worth -/
abbrev FnR (P : Program) (w : World) (K : PySem.W.Frag) (mg : Str → Option Value) (base : Heap) (x : Str) (k : Nat) (R : List D → D → Prop) : Prop := Fn P w K mg base x k (fun ds kk => ∃ d, R ds d ∧ kk d)
theorem c_call {R : List D → D → Prop} (C : Ctx P w K mg base N so sc n X) (G : FnR P w K mg base x k R) (hk : k ≤ n) (hg : glB sc x = true) (ha : EvA X (e :: es) env mu εs) (hd : dsOf εs = some ds) (hp : R ds d)
    (he : starEach (e :: es) X.env = (false, eval e X.env) :: starEach es X.env := by rfl) (hpl : (backTo pos (starEach es X.env)).any (·.1) = false := by rfl) : Ev X (.Call (.Name x p) (e :: es) [] pos) env mu (.d d) :=
  ev_call (C.fn G) (C.rm hk) (C.gl hg) ha hd (fun k hk => ⟨d, hp, hk⟩) (glB_gl hg).2.1 he hpl
theorem c_callL {R : List D → D → Prop} (C : Ctx P w K mg base N so sc n X) (G : FnR P w K mg base x k R) (hk : k ≤ n) (hg : glB sc x = true) (ha : EvA X (e :: es) env mu εs) (hd : lends mu εs = some ds) (hp : R ds d) (hn : noLst d = true)
    (he : starEach (e :: es) X.env = (false, eval e X.env) :: starEach es X.env := by rfl) (hpl : (backTo pos (starEach es X.env)).any (·.1) = false := by rfl) : Ev X (.Call (.Name x p) (e :: es) [] pos) env mu (.d d) :=
  ev_callL (C.fn G) (C.rm hk) (C.gl hg) ha hd hn (fun k hk => ⟨d, hp, hk⟩) (glB_gl hg).2.1 he hpl
/-- .. whatever it gives -/
theorem c_callP {Q : D → Prop} {Pre : List D → (D → Prop) → Prop} (C : Ctx P w K mg base N so sc n X) (G : Fn P w K mg base x k Pre) (hk : k ≤ n) (hg : glB sc x = true) (ha : EvA X (e :: es) env mu εs) (hd : dsOf εs = some ds) (hp : ∀ k : D → Prop, (∀ d, Q d → k d) → Pre ds k)
    (he : starEach (e :: es) X.env = (false, eval e X.env) :: starEach es X.env := by rfl) (hpl : (backTo pos (starEach es X.env)).any (·.1) = false := by rfl) : EvP X (.Call (.Name x p) (e :: es) [] pos) env mu Q :=
  evp_call (C.fn G) (C.rm hk) (C.gl hg) ha hd hp (glB_gl hg).2.1 he hpl
/-- x = e -/
theorem c_set {y : Pos} (C : Ctx P w K mg base N so sc n X) (hi : N[i]? = some x) (hx : locB so sc x = true) (he : Ev X e env mu ε) (h : Go X rest (env.set i (some ε)) mu Po) (hs : swapsWith e (some (.Name x y)) pos.line X.env = pure false := by rfl) : Go X (.Assign [.Name x y] e pos :: rest) env mu Po :=
  go_cons (go_set i C.B (by rw [C.N]; exact hi) (C.loc hx).1 he h hs (C.loc hx).2)
theorem c_setP {y : Pos} {Q : D → Prop} (C : Ctx P w K mg base N so sc n X) (hi : N[i]? = some x) (hx : locB so sc x = true) (he : EvP X e env mu Q) (h : ∀ d, Q d → Go X rest (env.set i (some (.d d))) mu Po) (hs : swapsWith e (some (.Name x y)) pos.line X.env = pure false := by rfl) : Go X (.Assign [.Name x y] e pos :: rest) env mu Po :=
  go_cons (go_setP i C.B (by rw [C.N]; exact hi) (C.loc hx).1 he h hs (C.loc hx).2)
theorem c_setN {y : Pos} (C : Ctx P w K mg base N so sc n X) (hi : N[i]? = some x) (hx : locB so sc x = true) (he : EvN X e env mu ds) (h : Go X rest (env.set i (some (.at mu.length))) (mu ++ [.lst ds]) Po) (hs : swapsWith e (some (.Name x y)) pos.line X.env = pure false := by rfl) : Go X (.Assign [.Name x y] e pos :: rest) env mu Po :=
  go_cons (go_setN i C.B (by rw [C.N]; exact hi) (C.loc hx).1 he h hs (C.loc hx).2)
theorem c_aug {y : Pos} {u : Int} (C : Ctx P w K mg base N so sc n X) (hi : N[i]? = some x) (hx : locB so sc x = true) (h0 : env[i]? = some (some (.d (.int u)))) (he : Ev X e env mu (.d (.int v))) (h : Go X rest (env.set i (some (.d (.int (u + v))))) mu Po) : Go X (.AugAssign (.Name x y) .Add e pos :: rest) env mu Po :=
  go_cons (go_aug i C.B (by rw [C.N]; exact hi) (C.loc hx).1 h0 he h (C.loc hx).2)
/-- if, the way that is taken known -/
theorem c_ifT {A' : List Stmt} (hc : EvT X c env mu true) (h : Go X A env mu { Po with nx := fun e u => Go X rest e u Po }) : Go X (.If c A A' pos :: rest) env mu Po := go_cons (go_if hc (fun _ => h) (fun z => by cases z))
theorem c_ifF {A' : List Stmt} (hc : EvT X c env mu false) (h : Go X A' env mu { Po with nx := fun e u => Go X rest e u Po }) : Go X (.If c A A' pos :: rest) env mu Po := go_cons (go_if hc (fun z => by cases z) (fun _ => h))
theorem c_ifF0 (hc : EvT X c env mu false) (h : Go X rest env mu Po) : Go X (.If c A [] pos :: rest) env mu Po := c_ifF hc (go_nil h)
theorem c_ret (he : Ev X e env mu ε) (hd : lend mu ε = some d) (h : Po.rt d mu) : Go X (.Return (some e) pos :: rest) env mu Po := go_cons (go_ret he hd h)
theorem c_retP {Q : D → Prop} (he : EvP X e env mu Q) (h : ∀ d, Q d → Po.rt d mu) : Go X (.Return (some e) pos :: rest) env mu Po := go_cons (go_retP he h)
theorem c_is {r' : Bool} (h : EvT X c env mu r) (e : r = r') : EvT X c env mu r' := et_is h e
/-- the plain def: R tells what it is worth -/
theorem fn_r {g qual : Str} {st : Stmt} {ps : List Str} {R : List D → D → Prop} (Fd : TxD K mg g x qual st)
    (hb : ∀ (kV doc pm : Value) (an : Option Addr) (cdv ct : Value) (us : List Value), us.length = ps.length → bindArgs (PySem.W.fnOf x qual (defArgs st) (defBody st) (defScope st) .none kV doc pm an cdv ct) ⟨us, []⟩ = pure (ps.zip us)) (S : FnScope N ps (defScope st))
    (len : ∀ ds d, R ds d → ds.length = ps.length)
    (body : ∀ X, Ctx P w K mg base N (defScope st) (defScope st) n X → (∃ f cdv A outer s H Ex, X = Bx P w K mg base N qual st f cdv A outer s H Ex) → ∀ ds d (kk : D → Prop), R ds d → kk d →
      Go X (defBody st) (ds.map (fun d => some (.d d)) ++ List.replicate (N.length - ds.length) none) [] { nx := fun _ _ => kk .non, rt := fun d _ => kk d }) :
    FnR P w K mg base g (n + 1) R := by
  obtain ⟨f, fd, F, hm⟩ := Fd
  refine fn_mk F hm (F.bindsN hb) S (fun ds kk ⟨d, h, _⟩ => len ds d h) ?_
  rintro cdv A outer s H Ex X hX B hr ds kk ⟨d, h, hk⟩
  subst hX
  exact body _ (ctx_body B hr) ⟨f, cdv, A, outer, s, H, Ex, rfl⟩ ds d kk h hk
theorem fn_p {g qual : Str} {st : Stmt} {ps : List Str} {Pre : List D → (D → Prop) → Prop} (Fd : TxD K mg g x qual st)
    (hb : ∀ (kV doc pm : Value) (an : Option Addr) (cdv ct : Value) (us : List Value), us.length = ps.length → bindArgs (PySem.W.fnOf x qual (defArgs st) (defBody st) (defScope st) .none kV doc pm an cdv ct) ⟨us, []⟩ = pure (ps.zip us)) (S : FnScope N ps (defScope st))
    (len : ∀ ds k, Pre ds k → ds.length = ps.length)
    (body : ∀ X, Ctx P w K mg base N (defScope st) (defScope st) n X → (∃ f cdv A outer s H Ex, X = Bx P w K mg base N qual st f cdv A outer s H Ex) → ∀ ds (kk : D → Prop), Pre ds kk →
      Go X (defBody st) (ds.map (fun d => some (.d d)) ++ List.replicate (N.length - ds.length) none) [] { nx := fun _ _ => kk .non, rt := fun d _ => kk d }) :
    Fn P w K mg base g (n + 1) Pre := by
  obtain ⟨f, fd, F, hm⟩ := Fd
  refine fn_mk F hm (F.bindsN hb) S len ?_
  rintro cdv A outer s H Ex X hX B hr ds kk h
  subst hX
  exact body _ (ctx_body B hr) ⟨f, cdv, A, outer, s, H, Ex, rfl⟩ ds kk h
end
end Cw
namespace Cw
open PySem PySem.Spec PyProof.Rows L2
/-! ### the script; calls over handles -/
def noAt : E → Bool
  | .at _ => false
  | .sub _ _ => false
  | _ => true
theorem ERep.noAt {S : Hp} {ps ps' : List HA} {v : V} : ∀ {ε : E}, noAt ε = true → ERep S ps v ε → ERep S ps' v ε
  | .d _, _, r => r
  | .raw _, _, r => r
  | .at _, h, _ => by cases h
  | .sub _ _, h, _ => by cases h
theorem EReps.noAt {S : Hp} {ps ps' : List HA} : ∀ {vs : List V} {εs : List E}, εs.all noAt = true → EReps S ps vs εs → EReps S ps' vs εs
  | [], [], _, _ => trivial
  | _ :: _, _ :: _, h, r => by
    rw [List.all_cons] at h
    obtain ⟨h1, h2⟩ := Bool.and_eq_true_iff.mp h
    exact ⟨r.1.noAt h1, EReps.noAt h2 r.2⟩
  | [], _ :: _, _, r => r.elim
  | _ :: _, [], _, r => r.elim
structure FnM (P : Program) (w : World) (K : PySem.W.Frag) (mg : Str → Option Value) (base : Heap) (x : Str) (k : Nat) (Pre : List E → List MO → (D → List MO → Prop) → Prop) : Prop where
  ex : ∃ (f : Addr) (fd : FuncData) (ps : List Str), FnOk P w K mg base CX0 k f fd ps (spM Pre) ∧ mg x = some (.ref f) ∧ PySem.W.keepIn K (.ref f) = true ∧ Binds K fd ps []
section
variable {X : Cx} {env : List (Option E)} {mu : List MO} {P : Post} {a e o : Expr} {es : List Expr} {εs : List E} {ε : E} {pos p p2 apos spos : Pos} {d : D} {ds : List D} {x m : Str} {k n j : Nat} {lo hi : Option Expr} {ol oh : Option Int}
theorem evp_callM {Pre : List E → List MO → (D → List MO → Prop) → Prop} {Q : D → Prop} (G : FnM X.prog X.w X.K X.mg X.base x k Pre) (hr : Room k X.A) (hg : Gl X x) (ha : EvA X (e :: es) env mu εs) (hn : εs.all noAt = true) (hp : Pre εs [] fun d _ => Q d)
    (hdb : (x == ("__debug__" : Str)) = false := by decide) (he : starEach (e :: es) X.env = (false, eval e X.env) :: starEach es X.env := by rfl) (hpl : (backTo pos (starEach es X.env)).any (·.1) = false := by rfl) : EvP X (.Call (.Name x p) (e :: es) [] pos) env mu Q := by
  obtain ⟨f, fd, ps', G, hm, hk, hb⟩ := G.ex
  exact fun F ps σ H Q' I kk => ⟨_, pe_call G hr hg hm hk hb .nil pass0 pA hdb he hpl, ha F ps σ H _ I fun vs H1 e1 r1 => by
    have I1 := I.mono e1
    show spM Pre (vs ++ []) H1 Q' E0
    rw [List.append_nil]
    have nl : ∀ b, ¬ Lv [] [] b := fun b ⟨k, pa, o, h1, _⟩ => by simp at h1
    have J : Sat ⟨H1, fun b => F.M b ∨ Lv ps mu b⟩ [] [] [] [] H1 := ⟨Ext.refl H1, fun b z => I1.held z, fun b z => (nl b z).elim, by simp, rfl, fun b h => by simp at h, fun k pa o h => by simp at h, rfl, fun i ε h => by simp at h⟩
    have es : stab ⟨H1, fun b => F.M b ∨ Lv ps mu b⟩ [] [] H1 = stab F ps mu H1 := by
      funext b
      by_cases z : F.M b ∨ Lv ps mu b
      · unfold stab hid; rw [if_pos z, if_pos (.inl z)]
      · unfold stab hid; rw [if_neg z, if_neg (fun y => y.elim z (nl b))]
    exact ⟨⟨H1, fun b => F.M b ∨ Lv ps mu b⟩, [], [], εs, _, J, by rw [es]; exact r1.noAt hn, hp, fun v d ps' mu' H' q _ J' r => kk v d H' q (e1.trans J'.ex) r⟩⟩
theorem Reps.ints_of {S : Hp} {ns : List Int} : Reps S (ns.map V.int) (ns.map D.int) := Reps.of_ints S ns
theorem en_slR {ns : List Int} (ha : Ev X a env mu (.raw ns)) (hl : EvO X lo env mu ol) (hh : EvO X hi env mu oh) : EvN X (.Subscript a (.Slice lo hi none p2) pos) env mu ((cutA ns ol oh).map D.int) := fun F ps σ H Q I k =>
  ⟨_, pe_slice sl_list pE pO pO, ha F ps σ H _ I fun v H1 e1 r1 => hl F ps σ H1 _ (I.mono e1) fun H2 e2 => hh F ps σ H2 _ ((I.mono e1).mono e2) fun H3 e3 => by
    obtain ⟨q, o, rfl, g⟩ := r1
    have g3 : H3 q = some (.frz o (.lst (ns.map V.int))) := e3 _ _ (e2 _ _ (stab_le _ _ g))
    refine ⟨q, _, rfl, .inl (.inr ⟨o, g3⟩), fun p hp => k p _ _ (((e1.trans e2).trans e3).back hp) (((e1.trans e2).trans e3).trans (Ext.new hp)) upd_same ?_⟩
    have r : Reps (stabN F ps mu [p] (upd H3 p (.lst (cutV (ns.map V.int) ol oh)))) (cutV (ns.map V.int) ol oh) (cutA (ns.map D.int) ol oh) := (Reps.of_ints _ ns).cut
    have e : cutA (ns.map D.int) ol oh = (cutA ns ol oh).map D.int := by
      unfold cutA
      rw [List.length_map, List.map_take, List.map_drop]
    rw [← e]; exact r⟩
end
section
variable {P : Program} {w : World} {K : PySem.W.Frag} {mg : Str → Option Value} {base : Heap} {N : List Str} {so sc : Scope} {n k : Nat} {x : Str}
/-- a def over handles -/
theorem fn_m {g qual : Str} {st : Stmt} {ps : List Str} {Pre : List E → List MO → (D → List MO → Prop) → Prop} (Fd : TxD K mg g x qual st)
    (hb : ∀ (kV doc pm : Value) (an : Option Addr) (cdv ct : Value) (us : List Value), us.length = ps.length → bindArgs (PySem.W.fnOf x qual (defArgs st) (defBody st) (defScope st) .none kV doc pm an cdv ct) ⟨us, []⟩ = pure (ps.zip us)) (S : FnScope N ps (defScope st))
    (len : ∀ ds mu k, Pre ds mu k → ds.length = ps.length)
    (body : ∀ X, Ctx P w K mg base N (defScope st) (defScope st) n X → (∃ f cdv A outer s H Ex, X = Bx P w K mg base N qual st f cdv A outer s H Ex) → ∀ εs mu (kk : D → List MO → Prop), Pre εs mu kk →
      Go X (defBody st) (εs.map some ++ List.replicate (N.length - εs.length) none) mu { nx := fun _ mu' => kk .non mu', rt := kk }) :
    FnM P w K mg base g (n + 1) Pre := by
  obtain ⟨f, fd, F, hm⟩ := Fd
  refine ⟨f, fd, ps, fn_okM F S len ?_, hm, F.kp, F.bindsN hb⟩
  rintro cdv A outer s H Ex X hX B hr ds mu kk h
  subst hX
  exact body _ (ctx_body B hr) ⟨f, cdv, A, outer, s, H, Ex, rfl⟩ ds mu kk h
/-- a method over handles -/
theorem fn_mm {C : Addr} {m qual : Str} {st : Stmt} {ps : List Str} {Pre : List E → List MO → (D → List MO → Prop) → Prop} (Fd : TxM K C m x qual st)
    (hb : ∀ (kV doc pm : Value) (an : Option Addr) (cdv ct : Value) (us : List Value), us.length = ps.length → bindArgs (PySem.W.fnOf x qual (defArgs st) (defBody st) (defScope st) .none kV doc pm an cdv ct) ⟨us, []⟩ = pure (ps.zip us)) (S : FnScope N ps (defScope st))
    (len : ∀ ds mu k, Pre ds mu k → ds.length = ps.length)
    (body : ∀ X, Ctx P w K mg base N (defScope st) (defScope st) n X → (∃ f cdv A outer s H Ex, X = Bx P w K mg base N qual st f cdv A outer s H Ex) → ∀ εs mu (kk : D → List MO → Prop), Pre εs mu kk →
      Go X (defBody st) (εs.map some ++ List.replicate (N.length - εs.length) none) mu { nx := fun _ mu' => kk .non mu', rt := kk }) :
    MtM P w K mg base C m (n + 1) Pre := by
  obtain ⟨f, fd, F, hm⟩ := Fd
  refine ⟨f, fd, ps, fn_okM F S len ?_, hm, F.bindsN hb⟩
  rintro cdv A outer s H Ex X hX B hr ds mu kk h
  subst hX
  exact body _ (ctx_body B hr) ⟨f, cdv, A, outer, s, H, Ex, rfl⟩ ds mu kk h
/-- a class's way in -/
theorem fn_i {C : Addr} {g qual : Str} {st : Stmt} {ps : List Str} {Pre : List E → List MO → (D → List MO → Prop) → Prop} (Fd : TxI K mg g C qual st)
    (hb : ∀ (kV doc pm : Value) (an : Option Addr) (cdv ct : Value) (us : List Value), us.length = ps.length → bindArgs (PySem.W.fnOf "__init__" qual (defArgs st) (defBody st) (defScope st) .none kV doc pm an cdv ct) ⟨us, []⟩ = pure (ps.zip us)) (S : FnScope N ps (defScope st))
    (len : ∀ ds mu k, Pre ds mu k → ds.length = ps.length)
    (body : ∀ X, Ctx P w K mg base N (defScope st) (defScope st) n X → (∃ f cdv A outer s H Ex, X = Bx P w K mg base N qual st f cdv A outer s H Ex) → ∀ εs mu (kk : D → List MO → Prop), Pre εs mu kk →
      Go X (defBody st) (εs.map some ++ List.replicate (N.length - εs.length) none) mu { nx := fun _ mu' => kk .non mu', rt := kk }) :
    MkM P w K mg base g C (n + 1) Pre := by
  obtain ⟨f, fd, F, hm, hg⟩ := Fd
  refine ⟨f, fd, ps, fn_okM F S len ?_, hm, hg, F.bindsN hb⟩
  rintro cdv A outer s H Ex X hX B hr ds mu kk h
  subst hX
  exact body _ (ctx_body B hr) ⟨f, cdv, A, outer, s, H, Ex, rfl⟩ ds mu kk h
/-- a method over data -/
theorem fn_d {C : Addr} {m qual : Str} {st : Stmt} {ps : List Str} {Pre : List D → (D → Prop) → Prop} (Fd : TxM K C m x qual st)
    (hb : ∀ (kV doc pm : Value) (an : Option Addr) (cdv ct : Value) (us : List Value), us.length = ps.length → bindArgs (PySem.W.fnOf x qual (defArgs st) (defBody st) (defScope st) .none kV doc pm an cdv ct) ⟨us, []⟩ = pure (ps.zip us)) (S : FnScope N ps (defScope st))
    (len : ∀ ds k, Pre ds k → ds.length = ps.length)
    (body : ∀ X, Ctx P w K mg base N (defScope st) (defScope st) n X → (∃ f cdv A outer s H Ex, X = Bx P w K mg base N qual st f cdv A outer s H Ex) → ∀ ds (kk : D → Prop), Pre ds kk →
      Go X (defBody st) (ds.map (fun d => some (.d d)) ++ List.replicate (N.length - ds.length) none) [] { nx := fun _ _ => kk .non, rt := fun d _ => kk d }) :
    MtD P w K mg base C m (n + 1) Pre := by
  obtain ⟨f, fd, F, hm⟩ := Fd
  refine ⟨f, fd, ps, fn_ok F S len ?_, hm, F.bindsN hb⟩
  rintro cdv A outer s H Ex X hX B hr ds kk h
  subst hX
  exact body _ (ctx_body B hr) ⟨f, cdv, A, outer, s, H, Ex, rfl⟩ ds kk h
end
end Cw
namespace Cw
open PySem PySem.Spec PyProof.Rows L2
/-! ### comprehensions and loops, with a context -/
def bkB (sc : Scope) : Bool := (if sc.kind.isAnnotationScope then ScopeKind.function else sc.kind) == .function
/-- the comprehension is laid straight into its name -/
def swB (sc scope : Scope) (t : Str) (l1 l2 : Nat) : Bool := bkB sc && sc.names.lookup t == some .local && l1 == l2 && !(scope.names.any fun (n, k) => n == t && (k == .local || k == .cell))
def ownT : Tg → List Nat
  | .one j => [j]
  | .two j1 j2 => [j1, j2]
section
variable {P : Program} {w : World} {K : PySem.W.Frag} {mg : Str → Option Value} {base : Heap} {N L : List Str} {so sc : Scope} {n k i : Nat} {X : Cx} {x y z : Str} {CN CS : Addr}
variable {env : List (Option E)} {mu : List MO} {a b c e tg iter elt it : Expr} {ifs : List Expr} {scope : Scope} {own : List (Str × Nat)} {ε ε1 ε2 : E} {pos p p1 p2 py spos : Pos} {d d1 d2 : D} {ds ds1 ds2 : List D} {v j : Int} {r t u : Bool} {es : List Expr} {εs : List E} {Po : Post} {s : Stmt} {rest A : List Stmt} {T : Tg} {src : List MO → Prop} {α : Type} {xs : List α} {f : α → Item} {kk : Nat} {j1 j2 : Nat}
theorem sw_lc (C : Ctx P w K mg base N so sc n X) {g : List Comprehension} {l : Nat} : swapsWith (.ListComp elt g scope pos) (some (.Name x py)) l X.env = pure (swB sc scope x py.line pos.line) := by
  show (pure (X.env.blockKind == .function && X.env.kindOf x == some .local && py.line == pos.line && !(scope.names.any fun (n, k) => n == x && (k == .local || k == .cell))) : Sem Bool) = _
  rw [← C.sc]
  rfl
theorem c_tg1 (C : Ctx P w K mg base N so sc n X) (hi : N[i]? = some x) (hx : locB so sc x = true) : TgOk X (.Name x pos) (.one i) := pg_name C.B.nd (by rw [C.N]; exact hi) (C.loc hx).1 (C.loc hx).2
theorem c_tg2 (C : Ctx P w K mg base N so sc n X) (hi : N[j1]? = some x) (hx : locB so sc x = true) (hi2 : N[j2]? = some y) (hx2 : locB so sc y = true) : TgOk X (.Tuple [.Name x p1, .Name y p2] kk pos) (.two j1 j2) :=
  pg_tup C.B.calm (pgs_cons (pg_name C.B.nd (by rw [C.N]; exact hi) (C.loc hx).1 (C.loc hx).2) (pgs_cons (pg_name C.B.nd (by rw [C.N]; exact hi2) (C.loc hx2).1 (C.loc hx2).2) pgs_nil))
/-- targets of a name list -/
structure NmTg (X : Cx) (es : List Expr) (js : List Nat) : Prop where
  pg : PGs X es (gNs js)
  ln : (assignEach es X.env).length = js.length
  st : (assignEach es X.env).findIdx? (·.1) = none
theorem nt_nil : NmTg X [] [] := ⟨pgs_nil, rfl, rfl⟩
theorem nt_cons {js : List Nat} (C : Ctx P w K mg base N so sc n X) (hi : N[i]? = some x) (hx : locB so sc x = true) (h : NmTg X es js) : NmTg X (.Name x pos :: es) (i :: js) :=
  ⟨pgs_cons (pg_name C.B.nd (by rw [C.N]; exact hi) (C.loc hx).1 (C.loc hx).2) h.pg, by
    show ((false, assign (.Name x pos) X.env) :: assignEach es X.env).length = _
    rw [List.length_cons, List.length_cons, h.ln], by
    show ((false, assign (.Name x pos) X.env) :: assignEach es X.env).findIdx? (·.1) = none
    rw [List.findIdx?_cons, h.st]; rfl⟩
theorem c_unp {js : List Nat} (C : Ctx P w K mg base N so sc n X) (ht : NmTg X es js) (he : Ev X e env mu (.d (.tup ds))) (hl : ds.length = js.length) (h : Go X rest (setN env js ds) mu Po)
    (hs : swapsWithSole [.Tuple es kk p] e pos.line X.env = pure false := by rfl) (hw : swappedStores [.Tuple es kk p] e X.env = pure none := by rfl) (h1 : (assignEach [.Tuple es kk p] X.env).map (·.2) = [assign (.Tuple es kk p) X.env] := by rfl) : Go X (.Assign [.Tuple es kk p] e pos :: rest) env mu Po :=
  go_cons (go_unpack he (pg_tup C.B.calm ht.pg ht.ln ht.st) hl h hs hw h1)
theorem c_unpP {js : List Nat} {Q : D → Prop} (C : Ctx P w K mg base N so sc n X) (ht : NmTg X es js) (he : EvP X e env mu Q) (h : ∀ d, Q d → ∃ ds, d = .tup ds ∧ ds.length = js.length ∧ Go X rest (setN env js ds) mu Po)
    (hs : swapsWithSole [.Tuple es kk p] e pos.line X.env = pure false := by rfl) (hw : swappedStores [.Tuple es kk p] e X.env = pure none := by rfl) (h1 : (assignEach [.Tuple es kk p] X.env).map (·.2) = [assign (.Tuple es kk p) X.env] := by rfl) : Go X (.Assign [.Tuple es kk p] e pos :: rest) env mu Po :=
  go_cons (go_unpackP he (pg_tup C.B.calm ht.pg ht.ln ht.st) h hs hw h1)
/-- what a comprehension asks -/
theorem c_lcOk (C : Ctx P w K mg base N so sc n X) (hN : L = N) (hI : EvI X tg iter env mu (xs.map f) src) (hsrc : src mu) (hok : blkC L sc scope own = true) (ho : (ownT T).all (fun j => (own.map (·.2)).contains j) = true)
    (ht : ∀ X', Ctx P w K mg base N scope (relS scope sc) n X' → TgOk X' tg T) (hl : xs.length ≤ 10000) : LcOk X tg iter elt ifs scope own env mu xs f T src where
  B := C.B
  hi := hI
  hsrc := hsrc
  ok := by rw [C.N, C.sc, ← hN]; exact blkOk_by hok
  o1 := fun j e => by
    subst e
    simpa [ownT] using ho
  o2 := fun j1 j2 e => by
    subst e
    simpa [ownT] using ho
  hg := fun X' h => ht X' (C.blk h)
  hl := hl
theorem en_c (C : Ctx P w K mg base N so sc n X) (hN : L = N) (p : α → Bool) (g : α → D) (hI : EvI X tg iter env mu (xs.map f) src) (hsrc : src mu) (hok : blkC L sc scope own = true) (ho : (ownT T).all (fun j => (own.map (·.2)).contains j) = true)
    (ht : ∀ X', Ctx P w K mg base N scope (relS scope sc) n X' → TgOk X' tg T) (hl : xs.length ≤ 10000)
    (hb : ∀ x ∈ xs, ∃ env', bindT (wipeE env (own.map (·.2))) T (f x) = some env' ∧ ∀ X', Ctx P w K mg base N scope (relS scope sc) n X' → EvTs X' ifs env' mu (p x) ∧ (p x = true → Ev X' elt env' mu (.d (g x))))
    (hs : ∀ x, foldedSetIterable iter X.env x = pure x := by intro _; rfl) : EvN X (.ListComp elt [⟨tg, iter, ifs, 0⟩] scope pos) env mu ((xs.filter p).map g) :=
  en_lc p g (c_lcOk C hN hI hsrc hok ho ht hl) (fun x hx => by
    obtain ⟨env', h1, h2⟩ := hb x hx
    exact ⟨env', h1, fun X' h => h2 X' (C.blk h)⟩) hs
theorem en_cm (C : Ctx P w K mg base N so sc n X) (hN : L = N) (g : α → D) (hI : EvI X tg iter env mu (xs.map f) src) (hsrc : src mu) (hok : blkC L sc scope own = true) (ho : (ownT T).all (fun j => (own.map (·.2)).contains j) = true)
    (ht : ∀ X', Ctx P w K mg base N scope (relS scope sc) n X' → TgOk X' tg T) (hl : xs.length ≤ 10000)
    (hb : ∀ x ∈ xs, ∃ env', bindT (wipeE env (own.map (·.2))) T (f x) = some env' ∧ ∀ X', Ctx P w K mg base N scope (relS scope sc) n X' → Ev X' elt env' mu (.d (g x)))
    (hs : ∀ x, foldedSetIterable iter X.env x = pure x := by intro _; rfl) : EvN X (.ListComp elt [⟨tg, iter, [], 0⟩] scope pos) env mu (xs.map g) :=
  en_lcm g (c_lcOk C hN hI hsrc hok ho ht hl) (fun x hx => by
    obtain ⟨env', h1, h2⟩ := hb x hx
    exact ⟨env', h1, fun X' h => h2 X' (C.blk h)⟩) hs
/-- x = [..] -/
theorem c_setC (C : Ctx P w K mg base N so sc n X) (hN : L = N) (p : α → Bool) (g : α → D) (hi : N[i]? = some x) (hsw : swB sc scope x py.line pos.line = true) (hI : EvI X tg iter env mu (xs.map f) src) (hsrc : src mu) (hok : blkC L sc scope own = true) (ho : (ownT T).all (fun j => (own.map (·.2)).contains j) = true)
    (ht : ∀ X', Ctx P w K mg base N scope (relS scope sc) n X' → TgOk X' tg T) (hl : xs.length ≤ 10000)
    (hb : ∀ x ∈ xs, ∃ env', bindT (wipeE env (own.map (·.2))) T (f x) = some env' ∧ ∀ X', Ctx P w K mg base N scope (relS scope sc) n X' → EvTs X' ifs env' mu (p x) ∧ (p x = true → Ev X' elt env' mu (.d (g x))))
    (h : Go X rest (env.set i (some (.at mu.length))) (mu ++ [.lst ((xs.filter p).map g)]) Po)
    (hs : ∀ x, foldedSetIterable iter X.env x = pure x := by intro _; rfl) : Go X (.Assign [.Name x py] (.ListComp elt [⟨tg, iter, ifs, 0⟩] scope pos) spos :: rest) env mu Po :=
  go_cons (go_setLc i p g (c_lcOk C hN hI hsrc hok ho ht hl) (by rw [C.N]; exact hi) (by
    rw [C.sc]
    unfold swB at hsw
    simp only [Bool.and_eq_true, beq_iff_eq] at hsw
    exact hsw.1.1.2) (fun x hx => by
    obtain ⟨env', h1, h2⟩ := hb x hx
    exact ⟨env', h1, fun X' h => h2 X' (C.blk h)⟩) h (by rw [sw_lc C, hsw]) hs)
theorem c_setCm (C : Ctx P w K mg base N so sc n X) (hN : L = N) (g : α → D) (hi : N[i]? = some x) (hsw : swB sc scope x py.line pos.line = true) (hI : EvI X tg iter env mu (xs.map f) src) (hsrc : src mu) (hok : blkC L sc scope own = true) (ho : (ownT T).all (fun j => (own.map (·.2)).contains j) = true)
    (ht : ∀ X', Ctx P w K mg base N scope (relS scope sc) n X' → TgOk X' tg T) (hl : xs.length ≤ 10000)
    (hb : ∀ x ∈ xs, ∃ env', bindT (wipeE env (own.map (·.2))) T (f x) = some env' ∧ ∀ X', Ctx P w K mg base N scope (relS scope sc) n X' → Ev X' elt env' mu (.d (g x)))
    (h : Go X rest (env.set i (some (.at mu.length))) (mu ++ [.lst (xs.map g)]) Po)
    (hs : ∀ x, foldedSetIterable iter X.env x = pure x := by intro _; rfl) : Go X (.Assign [.Name x py] (.ListComp elt [⟨tg, iter, [], 0⟩] scope pos) spos :: rest) env mu Po :=
  go_cons (go_setLcm i g (c_lcOk C hN hI hsrc hok ho ht hl) (by rw [C.N]; exact hi) (by
    rw [C.sc]
    unfold swB at hsw
    simp only [Bool.and_eq_true, beq_iff_eq] at hsw
    exact hsw.1.1.2) (fun x hx => by
    obtain ⟨env', h1, h2⟩ := hb x hx
    exact ⟨env', h1, fun X' h => h2 X' (C.blk h)⟩) h (by rw [sw_lc C, hsw]) hs)
theorem c_setCL (C : Ctx P w K mg base N so sc n X) (hN : L = N) (g : α → List D) (hi : N[i]? = some x) (hsw : swB sc scope x py.line pos.line = true) (hI : EvI X tg iter env mu (xs.map f) src) (hsrc : src mu) (hok : blkC L sc scope own = true) (ho : (ownT T).all (fun j => (own.map (·.2)).contains j) = true)
    (ht : ∀ X', Ctx P w K mg base N scope (relS scope sc) n X' → TgOk X' tg T) (hl : xs.length ≤ 10000)
    (hb : ∀ x ∈ xs, ∃ env', bindT (wipeE env (own.map (·.2))) T (f x) = some env' ∧ ∀ X', Ctx P w K mg base N scope (relS scope sc) n X' → EvN X' elt env' mu (g x))
    (h : Go X rest (env.set i (some (.at mu.length))) (mu ++ [.lol (xs.map g)]) Po)
    (hs : ∀ x, foldedSetIterable iter X.env x = pure x := by intro _; rfl) : Go X (.Assign [.Name x py] (.ListComp elt [⟨tg, iter, [], 0⟩] scope pos) spos :: rest) env mu Po :=
  go_cons (go_setLcL i g (c_lcOk C hN hI hsrc hok ho ht hl) (by rw [C.N]; exact hi) (by
    rw [C.sc]
    unfold swB at hsw
    simp only [Bool.and_eq_true, beq_iff_eq] at hsw
    exact hsw.1.1.2) (fun x hx => by
    obtain ⟨env', h1, h2⟩ := hb x hx
    exact ⟨env', h1, fun X' h => h2 X' (C.blk h)⟩) h (by rw [sw_lc C, hsw]) hs)
/-- .. a name that a block within sees -/
theorem c_setNc (C : Ctx P w K mg base N so sc n X) {g : List Comprehension} (hi : N[i]? = some x) (hx : locB so sc x = true) (hsw : swB sc scope x py.line pos.line = false) (he : EvN X (.ListComp elt g scope pos) env mu ds) (h : Go X rest (env.set i (some (.at mu.length))) (mu ++ [.lst ds]) Po) : Go X (.Assign [.Name x py] (.ListComp elt g scope pos) spos :: rest) env mu Po :=
  c_setN C hi hx he h (by rw [sw_lc C, hsw])
theorem c_for {items : List Item} {body : List Stmt} (C : Ctx P w K mg base N so sc n X) (W : Nat → List (Option E) → List MO → Prop) (hi : EvI X tg it env mu items src) (ht : TgOk X tg T) (h0 : W 0 env mu) (hsrc : ∀ i e u, W i e u → src u)
    (hstep : ∀ i item e u, items[i]? = some item → W i e u → ∃ e', bindT e T item = some e' ∧ Go X body e' u { nx := W (i + 1), ct := W (i + 1), bk := fun e u => Go X rest e u Po, rt := Po.rt })
    (hend : ∀ e u, W items.length e u → Go X rest e u Po) (hs : ∀ x, foldedSetIterable it X.env x = pure x := by intro _; rfl) : Go X (.For tg it body [] pos :: rest) env mu Po :=
  go_cons (go_for W C.B hi ht h0 hsrc hstep hend hs)
theorem c_while {body : List Stmt} (C : Ctx P w K mg base N so sc n X) (W : Nat → List (Option E) → List MO → Prop) (h0 : ∃ m, W m env mu)
    (hstep : ∀ m e u, W m e u → ∃ b, EvT X c e u b ∧ (b = true → Go X body e u { nx := fun e' u' => ∃ m', m' < m ∧ W m' e' u', ct := fun e' u' => ∃ m', m' < m ∧ W m' e' u', bk := fun e u => Go X rest e u Po, rt := Po.rt }) ∧ (b = false → Go X rest e u Po)) : Go X (.While c body [] pos :: rest) env mu Po :=
  go_cons (go_while W C.B h0 hstep)
/-! headers -/
theorem c_range1 (C : Ctx P w K mg base N so sc n X) (Tx' : Tx P w K mg base CN CS) (hg : glB sc "range" = true) {m : Nat} (ha : Ev X a env mu (.d (.int (m : Int)))) (hb : m < 2 ^ 60) (n1 : NoStar a := by intro _ _; rfl) : EvI X tg (.Call (.Name "range" p) [a] [] pos) env mu ((List.range m).map fun (n : Nat) => .one (.d (.int (n : Int)))) anyMu := by
  have := ei_range1 (tg := tg) (p := p) (pos := pos) (C.gl hg) (C.free Tx'.b_range) n1 ha (by omega) (by omega)
  rwa [Int.toNat_natCast] at this
theorem c_range2 (C : Ctx P w K mg base N so sc n X) (Tx' : Tx P w K mg base CN CS) (hg : glB sc "range" = true) {m l : Nat} (ha : Ev X a env mu (.d (.int (m : Int)))) (hb : Ev X b env mu (.d (.int (l : Int)))) (h1 : m < 2 ^ 60) (h2 : l < 2 ^ 60) (n1 : NoStar a := by intro _ _; rfl) (n2 : NoStar b := by intro _ _; rfl) :
    EvI X tg (.Call (.Name "range" p) [a, b] [] pos) env mu ((List.range (l - m)).map fun (q : Nat) => .one (.d (.int ((m + q : Nat) : Int)))) anyMu := by
  have := ei_range2 (tg := tg) (p := p) (pos := pos) (C.gl hg) (C.free Tx'.b_range) n1 n2 ha hb (by omega)
  rwa [show ((l : Int) - (m : Int)).toNat = l - m by omega] at this
theorem c_enum (C : Ctx P w K mg base N so sc n X) (Tx' : Tx P w K mg base CN CS) (hg : glB sc "enumerate" = true) (ha : Ev X e env mu (.d d)) (hs : seqD d = some (t, ds)) (n1 : NoStar e := by intro _ _; rfl) : EvI X (.Tuple es kk p2) (.Call (.Name "enumerate" p) [e] [] pos) env mu (ds.zipIdx.map fun q => .two (.d (.int (q.2 : Int))) (.d q.1)) anyMu :=
  ei_enum (C.gl hg) (C.free Tx'.b_enumerate) n1 ha hs
theorem c_zip (C : Ctx P w K mg base N so sc n X) (Tx' : Tx P w K mg base CN CS) (hg : glB sc "zip" = true) (ha : Ev X a env mu (.d d1)) (hb : Ev X b env mu (.d d2)) (h1 : seqD d1 = some (t, ds1)) (h2 : seqD d2 = some (u, ds2)) (n1 : NoStar a := by intro _ _; rfl) (n2 : NoStar b := by intro _ _; rfl) :
    EvI X (.Tuple es kk p2) (.Call (.Name "zip" p) [a, b] [] pos) env mu ((ds1.zip ds2).map fun q => .two (.d q.1) (.d q.2)) anyMu := ei_zip (C.gl hg) (C.free Tx'.b_zip) n1 n2 ha hb h1 h2
/-! short ways -/
theorem ev_andF {rest : List Expr} (h1 : Ev X a env mu (.d (.bl false))) : Ev X (.BoolOp .And (a :: b :: rest) pos) env mu (.d (.bl false)) := ev_and (y := false) h1 fun h => by cases h
theorem ev_andT {rest : List Expr} (h1 : Ev X a env mu (.d (.bl true))) (h2 : Ev X (.BoolOp .And (b :: rest) pos) env mu (.d (.bl r))) : Ev X (.BoolOp .And (a :: b :: rest) pos) env mu (.d (.bl r)) := ev_and h1 fun _ => h2
theorem ev_orT {rest : List Expr} (h1 : Ev X a env mu (.d (.bl true))) : Ev X (.BoolOp .Or (a :: b :: rest) pos) env mu (.d (.bl true)) := ev_or (y := false) h1 fun h => by cases h
theorem ev_orF {rest : List Expr} (h1 : Ev X a env mu (.d (.bl false))) (h2 : Ev X (.BoolOp .Or (b :: rest) pos) env mu (.d (.bl r))) : Ev X (.BoolOp .Or (a :: b :: rest) pos) env mu (.d (.bl r)) := ev_or h1 fun _ => h2
theorem ew_andF {rest : List Expr} (h1 : EvT X a env mu false) : EvW X (.BoolOp .And (a :: b :: rest) pos) env mu false := ew_and (y := false) h1 fun h => by cases h
theorem ew_andT {rest : List Expr} (h1 : EvT X a env mu true) (h2 : EvW X (.BoolOp .And (b :: rest) pos) env mu r) : EvW X (.BoolOp .And (a :: b :: rest) pos) env mu r := ew_and h1 fun _ => h2
theorem ew_orT {rest : List Expr} (h1 : EvT X a env mu true) : EvW X (.BoolOp .Or (a :: b :: rest) pos) env mu true := ew_or (y := false) h1 fun h => by cases h
theorem ew_orF {rest : List Expr} (h1 : EvT X a env mu false) (h2 : EvW X (.BoolOp .Or (b :: rest) pos) env mu r) : EvW X (.BoolOp .Or (a :: b :: rest) pos) env mu r := ew_or h1 fun _ => h2
theorem ev_ifT (h : EvT X c env mu true) (h1 : Ev X a env mu ε) : Ev X (.IfExp c a b pos) env mu ε := ev_if h (fun _ => h1) fun z => by cases z
theorem ev_ifF (h : EvT X c env mu false) (h1 : Ev X b env mu ε) : Ev X (.IfExp c a b pos) env mu ε := ev_if h (fun z => by cases z) fun _ => h1
theorem ev_bls (h : Ev X e env mu (.d (.bl r))) (q : r = t) : Ev X e env mu (.d (.bl t)) := by rw [← q]; exact h
end
end Cw
namespace Cw
open PySem
/-! ### nets, deeds, worlds in plain Lean -/
structure Chan where
  nm : Str
  g : Nat
  t : Nat
  loose : Bool
  lossy : Bool
inductive Act where
  | nop | send (c tok : Nat) | take (c tok : Nat)
structure Rule where
  p : Nat
  s : Nat
  a : Act
  s' : Nat
structure Nt where
  ps : List (Str × Nat)
  cs : List Chan
  rs : List Rule
inductive Deed where
  | act (r : Nat) | take (r k : Nat) | lose (c k : Nat)
structure Wd where
  st : List Nat
  sent : List Nat
  pres : List (List (Nat × Nat))
/-! as data -/
def kindS : Bool → Bool → Str
  | false, false => "order"
  | true, false => "loose"
  | false, true => "order lossy"
  | true, true => "loose lossy"
abbrev nD (n : Nat) : D := .int (n : Int)
def encAct : Act → D
  | .nop => .tup [.str "do"]
  | .send c t => .tup [.str "send", nD c, nD t]
  | .take c t => .tup [.str "take", nD c, nD t]
def encRule (r : Rule) : D := .tup [nD r.p, nD r.s, encAct r.a, nD r.s']
def encChan (c : Chan) : D := .tup [.str c.nm, nD c.g, nD c.t, .str (kindS c.loose c.lossy)]
def encProc (q : Str × Nat) : D := .tup [.str q.1, nD q.2]
def encDeed : Deed → D
  | .act r => .tup [.str "act", nD r]
  | .take r k => .tup [.str "take", nD r, nD k]
  | .lose c k => .tup [.str "lose", nD c, nD k]
def encPair (q : Nat × Nat) : D := .tup [nD q.1, nD q.2]
def encRow (r : List (Nat × Nat)) : D := .tup (r.map encPair)
def encWd (w : Wd) : D := .tup [.tup (w.st.map nD), .tup (w.sent.map nD), .tup (w.pres.map encRow)]
def encParts (N : Nt) : D := .tup [.lst (N.ps.map encProc), .lst (N.cs.map encChan), .lst (N.rs.map encRule)]
def encNet (C : Addr) (N : Nt) : D := .obj C ["processes", "channels", "rules"] [.tup (N.ps.map encProc), .tup (N.cs.map encChan), .tup (N.rs.map encRule)]
def encHist (h : List (List Deed)) : D := .tup (h.map fun r => .tup (r.map encDeed))
/-! what a net is, what may be done -/
def actChan : Act → Option Nat
  | .nop => none
  | .send c _ => some c
  | .take c _ => some c
structure GoodN (N : Nt) : Prop where
  p2 : 2 ≤ N.ps.length
  p3 : N.ps.length ≤ 3
  c1 : 1 ≤ N.cs.length
  c4 : N.cs.length ≤ 4
  r0 : N.rs.length ≤ 40
  pnm : N.ps.map (·.1) = (["p", "q", "r"] : List Str).take N.ps.length
  cnm : N.cs.map (·.nm) = (["ca", "cb", "cc", "cd"] : List Str).take N.cs.length
  psz : ∀ q ∈ N.ps, 1 ≤ q.2 ∧ q.2 ≤ 8
  cg : ∀ c ∈ N.cs, c.g < N.ps.length ∧ c.t < N.ps.length ∧ c.g ≠ c.t
  rp : ∀ r ∈ N.rs, ∃ q, N.ps[r.p]? = some q ∧ r.s < q.2 ∧ r.s' < q.2
  ra : ∀ r ∈ N.rs, match r.a with
    | .nop => True
    | .send c t => t < 10 ∧ ∃ C, N.cs[c]? = some C ∧ C.g = r.p
    | .take c t => t < 10 ∧ ∃ C, N.cs[c]? = some C ∧ C.t = r.p
/-- a world of that net's shape -/
structure Shp (N : Nt) (w : Wd) : Prop where
  st : w.st.length = N.ps.length
  sent : w.sent.length = N.cs.length
  pres : w.pres.length = N.cs.length
/-- the messages that may be taken or lost -/
def openM (C : Chan) (r : List (Nat × Nat)) : List (Nat × Nat) := if C.loose then r else r.take 1
def owner (N : Nt) : Deed → Option Nat
  | .act r => (N.rs[r]?).map (·.p)
  | .take r _ => (N.rs[r]?).map (·.p)
  | .lose c _ => (N.cs[c]?).map (·.t)
/-- a deed of that net -/
def IsDeed (N : Nt) : Deed → Prop
  | .act r => ∃ R, N.rs[r]? = some R ∧ ∀ c t, R.a ≠ .take c t
  | .take r _ => ∃ R c t, N.rs[r]? = some R ∧ R.a = .take c t
  | .lose c _ => ∃ C, N.cs[c]? = some C ∧ C.lossy = true
def Can (N : Nt) (w : Wd) : Deed → Prop
  | .act r => ∃ R, N.rs[r]? = some R ∧ (∀ c t, R.a ≠ .take c t) ∧ w.st[R.p]? = some R.s
  | .take r k => ∃ R c t C m, N.rs[r]? = some R ∧ R.a = .take c t ∧ w.st[R.p]? = some R.s ∧ N.cs[c]? = some C ∧ w.pres[c]? = some m ∧ (k, t) ∈ openM C m
  | .lose c k => ∃ C m t, N.cs[c]? = some C ∧ C.lossy = true ∧ w.pres[c]? = some m ∧ (k, t) ∈ openM C m
theorem Can.deed {N : Nt} {w : Wd} : ∀ {d : Deed}, Can N w d → IsDeed N d
  | .act _, ⟨R, h1, h2, _⟩ => ⟨R, h1, h2⟩
  | .take _ _, ⟨R, c, t, _, _, h1, h2, _⟩ => ⟨R, c, t, h1, h2⟩
  | .lose _ _, ⟨C, _, _, h1, h2, _⟩ => ⟨C, h1, h2⟩
/-- less the message k of channel c -/
def dropM (w : Wd) (c k : Nat) : Wd := { w with pres := w.pres.modify c fun r => r.filter fun q => decide (q.1 ≠ k) }
def doA (w : Wd) (R : Rule) : Wd := { w with st := w.st.set R.p R.s' }
def doSend (w : Wd) (c t : Nat) : Wd := { w with sent := w.sent.modify c (· + 1), pres := w.pres.modify c fun r => r ++ [((w.sent[c]?).getD 0, t)] }
def doD (N : Nt) (w : Wd) : Deed → Wd
  | .act r => (match N.rs[r]? with
    | some R => (match R.a with
      | .send c t => doSend (doA w R) c t
      | _ => doA w R)
    | none => w)
  | .take r k => (match N.rs[r]? with
    | some R => (match R.a with
      | .take c _ => dropM (doA w R) c k
      | _ => doA w R)
    | none => w)
  | .lose c k => dropM w c k
def wd0 (N : Nt) : Wd := ⟨N.ps.map fun _ => 0, N.cs.map fun _ => 0, N.cs.map fun _ => []⟩
def draw (row : List Int) (at_ lim : Nat) : Nat :=
  if at_ < row.length then ((row[at_]?.getD 0) % (lim : Int)).toNat
  else (((((row[at_ % row.length]?.getD 0) * 40692 + (at_ : Int) * 7919 + 3) % 2147483399) * 48271 + (at_ : Int)) % 2147483647 % (lim : Int)).toNat
theorem draw_lt {row : List Int} {at_ lim : Nat} (h : 0 < lim) : draw row at_ lim < lim := by
  unfold draw
  split
  · have := Int.emod_lt_of_pos (row[at_]?.getD 0) (show (0 : Int) < lim by omega)
    have := Int.emod_nonneg (row[at_]?.getD 0) (show (lim : Int) ≠ 0 by omega)
    omega
  · have := Int.emod_lt_of_pos (((((row[at_ % row.length]?.getD 0) * 40692 + (at_ : Int) * 7919 + 3) % 2147483399) * 48271 + (at_ : Int)) % 2147483647) (show (0 : Int) < lim by omega)
    have := Int.emod_nonneg (((((row[at_ % row.length]?.getD 0) * 40692 + (at_ : Int) * 7919 + 3) % 2147483399) * 48271 + (at_ : Int)) % 2147483647) (show (lim : Int) ≠ 0 by omega)
    omega
end Cw
namespace Cw
open PySem PySem.Spec PyProof.Rows L2
theorem kit_ii : kitB "int" "int" = some true := by decide +kernel
theorem kit_ib : kitB "int" "bool" = some false := by decide +kernel
theorem kit_il : kitB "int" "list" = some false := by decide +kernel
theorem kit_it : kitB "int" "tuple" = some false := by decide +kernel
theorem kit_is : kitB "int" "str" = some false := by decide +kernel
theorem kit_ss : kitB "str" "str" = some true := by decide +kernel
theorem kit_sl : kitB "str" "list" = some false := by decide +kernel
theorem kit_st : kitB "str" "tuple" = some false := by decide +kernel
theorem kit_tt : kitB "tuple" "tuple" = some true := by decide +kernel
theorem kit_tl : kitB "tuple" "list" = some false := by decide +kernel
theorem kit_tb : kitB "tuple" "bool" = some false := by decide +kernel
theorem kit_ti : kitB "tuple" "int" = some false := by decide +kernel
theorem kit_ts : kitB "tuple" "str" = some false := by decide +kernel
theorem kit_ll : kitB "list" "list" = some true := by decide +kernel
theorem kit_lt : kitB "list" "tuple" = some false := by decide +kernel
theorem kit_tn : kitB "NoneType" "int" = some false := by decide +kernel
theorem kit_nb : kitB "NoneType" "bool" = some false := by decide +kernel
theorem kit_ns : kitB "NoneType" "str" = some false := by decide +kernel
theorem kit_nl : kitB "NoneType" "list" = some false := by decide +kernel
theorem kit_si : kitB "str" "int" = some false := by decide +kernel
theorem kit_sb : kitB "str" "bool" = some false := by decide +kernel
theorem kit_li : kitB "list" "int" = some false := by decide +kernel
theorem kit_lb : kitB "list" "bool" = some false := by decide +kernel
theorem kit_ls : kitB "list" "str" = some false := by decide +kernel
theorem kit_nt : kitB "NoneType" "tuple" = some false := by decide +kernel
def okD : D → Bool
  | .int _ => true
  | .str _ => true
  | .tup _ => true
  | .lst _ => true
  | .non => true
  | _ => false
def isIntD : D → Bool
  | .int _ => true
  | _ => false
def isStrD : D → Bool
  | .str _ => true
  | _ => false
def isTupD : D → Bool
  | .tup _ => true
  | _ => false
def isSqD : D → Bool
  | .tup _ => true
  | .lst _ => true
  | _ => false
section
variable {P : Program} {w : World} {K : PySem.W.Frag} {mg : Str → Option Value} {base : Heap} {N : List Str} {so sc : Scope} {n : Nat} {X : Cx} {CN CS : Addr} {env : List (Option E)} {mu : List MO} {a : Expr} {pos p p1 p2 p3 : Pos} {d : D} {kk : Nat}
theorem c_isInt (C : Ctx P w K mg base N so sc n X) (T : Tx P w K mg base CN CS) (h1 : glB sc "isinstance" = true) (h2 : glB sc "int" = true) (ha : Ev X a env mu (.d d)) (hd : okD d = true) (n1 : NoStar a := by intro _ _; rfl) : Ev X (.Call (.Name "isinstance" p) [a, .Name "int" p2] [] pos) env mu (.d (.bl (isIntD d))) := by
  refine c_isi C T h1 ha (c_ty C T.b_int h2 rfl) ?_ ?_ n1
  · cases d <;> first | rfl | cases hd
  · cases d <;> first | exact kit_ii | exact kit_si | exact kit_ti | exact kit_li | exact kit_tn | cases hd
theorem c_isBool (C : Ctx P w K mg base N so sc n X) (T : Tx P w K mg base CN CS) (h1 : glB sc "isinstance" = true) (h2 : glB sc "bool" = true) (ha : Ev X a env mu (.d d)) (hd : okD d = true) (n1 : NoStar a := by intro _ _; rfl) : Ev X (.Call (.Name "isinstance" p) [a, .Name "bool" p2] [] pos) env mu (.d (.bl false)) := by
  refine c_isi C T h1 ha (c_ty C T.b_bool h2 rfl) ?_ ?_ n1
  · cases d <;> first | rfl | cases hd
  · cases d <;> first | exact kit_ib | exact kit_sb | exact kit_tb | exact kit_lb | exact kit_nb | cases hd
theorem c_isStr (C : Ctx P w K mg base N so sc n X) (T : Tx P w K mg base CN CS) (h1 : glB sc "isinstance" = true) (h2 : glB sc "str" = true) (ha : Ev X a env mu (.d d)) (hd : okD d = true) (n1 : NoStar a := by intro _ _; rfl) : Ev X (.Call (.Name "isinstance" p) [a, .Name "str" p2] [] pos) env mu (.d (.bl (isStrD d))) := by
  refine c_isi C T h1 ha (c_ty C T.b_str h2 rfl) ?_ ?_ n1
  · cases d <;> first | rfl | cases hd
  · cases d <;> first | exact kit_is | exact kit_ss | exact kit_ts | exact kit_ls | exact kit_ns | cases hd
theorem c_isTup (C : Ctx P w K mg base N so sc n X) (T : Tx P w K mg base CN CS) (h1 : glB sc "isinstance" = true) (h2 : glB sc "tuple" = true) (ha : Ev X a env mu (.d d)) (hd : okD d = true) (n1 : NoStar a := by intro _ _; rfl) : Ev X (.Call (.Name "isinstance" p) [a, .Name "tuple" p2] [] pos) env mu (.d (.bl (isTupD d))) := by
  refine c_isi C T h1 ha (c_ty C T.b_tuple h2 rfl) ?_ ?_ n1
  · cases d <;> first | rfl | cases hd
  · cases d <;> first | exact kit_it | exact kit_st | exact kit_tt | exact kit_lt | exact kit_nt | cases hd
theorem c_isSq (C : Ctx P w K mg base N so sc n X) (T : Tx P w K mg base CN CS) (h1 : glB sc "isinstance" = true) (h2 : glB sc "list" = true) (h3 : glB sc "tuple" = true) (ha : Ev X a env mu (.d d)) (hd : okD d = true) (n1 : NoStar a := by intro _ _; rfl) : Ev X (.Call (.Name "isinstance" p) [a, .Tuple [.Name "list" p2, .Name "tuple" p3] kk p1] [] pos) env mu (.d (.bl (isSqD d))) := by
  have hb : Ev X (.Tuple [.Name "list" p2, .Name "tuple" p3] kk p1) env mu (.d (.tup [.ty "list", .ty "tuple"])) := ev_tup (ea_cons (c_ty C T.b_list h2 rfl) (ea_cons (c_ty C T.b_tuple h3 rfl) ea_nil)) rfl (by decide)
  cases d with
  | int i => exact c_isi2 C T h1 ha hb rfl kit_il kit_it n1
  | str z => exact c_isi2 C T h1 ha hb rfl kit_sl kit_st n1
  | tup ds => exact c_isi2 C T h1 ha hb rfl kit_tl kit_tt n1
  | lst ds => exact c_isi2 C T h1 ha hb rfl kit_ll kit_lt n1
  | non => exact c_isi2 C T h1 ha hb rfl kit_nl kit_nt n1
  | _ => cases hd
end
end Cw
namespace Cw
open PySem PySem.Spec PyProof.Rows L2
section
variable {P : Program} {w : World} {K : PySem.W.Frag} {mg : Str → Option Value} {base : Heap} {N : List Str} {so sc : Scope} {n : Nat} {X : Cx} {CN CS : Addr} {env : List (Option E)} {mu : List MO} {e : Expr} {pos p : Pos} {α : Type} {xs : List α}
theorem c_allM {q : α → Bool} (C : Ctx P w K mg base N so sc n X) (T : Tx P w K mg base CN CS) (hg : glB sc "all" = true) (ha : EvN X e env mu (xs.map fun x => D.bl (q x))) (n1 : NoStar e := by intro _ _; rfl) : Ev X (.Call (.Name "all" p) [e] [] pos) env mu (.d (.bl (xs.all q))) := by
  have h : EvN X e env mu ((xs.map q).map D.bl) := by rw [List.map_map]; exact ha
  have := c_all (p := p) (pos := pos) C T hg h n1
  rwa [List.all_map] at this
theorem c_anyM {q : α → Bool} (C : Ctx P w K mg base N so sc n X) (T : Tx P w K mg base CN CS) (hg : glB sc "any" = true) (ha : EvN X e env mu (xs.map fun x => D.bl (q x))) (n1 : NoStar e := by intro _ _; rfl) : Ev X (.Call (.Name "any" p) [e] [] pos) env mu (.d (.bl (xs.any q))) := by
  have h : EvN X e env mu ((xs.map q).map D.bl) := by rw [List.map_map]; exact ha
  have := c_any (p := p) (pos := pos) C T hg h n1
  rwa [List.any_map] at this
/-- all([..]): each holds -/
theorem c_allT {q : α → Bool} (C : Ctx P w K mg base N so sc n X) (T : Tx P w K mg base CN CS) (hg : glB sc "all" = true) (ha : EvN X e env mu (xs.map fun x => D.bl (q x))) (hq : ∀ x ∈ xs, q x = true) (n1 : NoStar e := by intro _ _; rfl) : Ev X (.Call (.Name "all" p) [e] [] pos) env mu (.d (.bl true)) := by
  have := c_allM (p := p) (pos := pos) C T hg ha n1
  rwa [List.all_eq_true.mpr hq] at this
theorem c_allC (C : Ctx P w K mg base N so sc n X) (T : Tx P w K mg base CN CS) (hg : glB sc "all" = true) (ha : EvN X e env mu (xs.map fun _ => D.bl true)) (n1 : NoStar e := by intro _ _; rfl) : Ev X (.Call (.Name "all" p) [e] [] pos) env mu (.d (.bl true)) :=
  c_allT (q := fun _ => true) C T hg ha (fun _ _ => rfl) n1
theorem c_sumM {q : α → Nat} (C : Ctx P w K mg base N so sc n X) (T : Tx P w K mg base CN CS) (hg : glB sc "sum" = true) (ha : EvN X e env mu (xs.map fun x => nD (q x))) (n1 : NoStar e := by intro _ _; rfl) : Ev X (.Call (.Name "sum" p) [e] [] pos) env mu (.d (nD ((xs.map q).sum))) := by
  have h : EvN X e env mu ((xs.map fun x => (q x : Int)).map D.int) := by rw [List.map_map]; exact ha
  have h2 := c_sum (p := p) (pos := pos) C T hg h n1
  have e2 : ∀ ys : List α, (ys.map fun x => (q x : Int)).sum = (((ys.map q).sum : Nat) : Int) := fun ys => by
    induction ys with
    | nil => rfl
    | cons y ys ih => rw [List.map_cons, List.map_cons, List.sum_cons, List.sum_cons, ih]; omega
  rw [e2] at h2
  exact h2
end
section
variable {P : Program} {w : World} {K : PySem.W.Frag} {mg : Str → Option Value} {base : Heap} {N : List Str} {so sc : Scope} {n k kk : Nat} {X : Cx} {CN CS : Addr} {env : List (Option E)} {mu : List MO} {a b e tg : Expr} {pos p p2 : Pos} {α β : Type} {xs : List α} {ys : List β} {ε : E} {es : List Expr}
theorem ei_tupM {f : α → D} (ha : Ev X e env mu (.d (.tup (xs.map f)))) : EvI X tg e env mu (xs.map fun x => .one (.d (f x))) anyMu := by
  have := ei_tup (tg := tg) ha
  rwa [List.map_map] at this
theorem ei_lstM {f : α → D} (ha : Ev X e env mu (.d (.lst (xs.map f)))) : EvI X tg e env mu (xs.map fun x => .one (.d (f x))) anyMu := by
  have := ei_lst (tg := tg) ha
  rwa [List.map_map] at this
theorem ei_ownM {f : α → D} {j : Nat} (ha : Ev X e env mu (.at j)) (hk : mu[j]? = some (.lst (xs.map f))) : EvI X tg e env mu (xs.map fun x => .one (.d (f x))) (fun mu' => mu'[j]? = some (.lst (xs.map f))) := by
  have := ei_own (tg := tg) ha hk
  rwa [List.map_map] at this
theorem c_enumM {f : α → D} {d : D} {t : Bool} (C : Ctx P w K mg base N so sc n X) (Tx' : Tx P w K mg base CN CS) (hg : glB sc "enumerate" = true) (ha : Ev X e env mu (.d d)) (hs : seqD d = some (t, xs.map f)) (n1 : NoStar e := by intro _ _; rfl) : EvI X (.Tuple es kk p2) (.Call (.Name "enumerate" p) [e] [] pos) env mu (xs.zipIdx.map fun q => .two (.d (nD q.2)) (.d (f q.1))) anyMu := by
  have := c_enum (es := es) (kk := kk) (p2 := p2) (p := p) (pos := pos) C Tx' hg ha hs n1
  rwa [List.zipIdx_map, List.map_map] at this
theorem c_zipM {f : α → D} {g : β → D} {d1 d2 : D} {t u : Bool} (C : Ctx P w K mg base N so sc n X) (Tx' : Tx P w K mg base CN CS) (hg : glB sc "zip" = true) (ha : Ev X a env mu (.d d1)) (hb : Ev X b env mu (.d d2)) (h1 : seqD d1 = some (t, xs.map f)) (h2 : seqD d2 = some (u, ys.map g)) (n1 : NoStar a := by intro _ _; rfl) (n2 : NoStar b := by intro _ _; rfl) :
    EvI X (.Tuple es kk p2) (.Call (.Name "zip" p) [a, b] [] pos) env mu ((xs.zip ys).map fun q => .two (.d (f q.1)) (.d (g q.2))) anyMu := by
  have := c_zip (es := es) (kk := kk) (p2 := p2) (p := p) (pos := pos) C Tx' hg ha hb h1 h2 n1 n2
  rwa [List.zip_map, List.map_map] at this
theorem cmp_notInZM {f : α → Str} {z : Str} (hr : Room k X.A) (h : seqE mu ε = some (false, xs.map fun x => tZ (f x))) (o1 : PyData.strOk z = true) (o2 : (xs.map f).all PyData.strOk = true) : CmpOk X .NotIn mu (.d (tZ z)) ε (!decide (z ∈ xs.map f)) :=
  cmp_notInZ hr (by rw [h, List.map_map]; rfl) o1 o2
theorem cmp_inZM {f : α → Str} {z : Str} (hr : Room k X.A) (h : seqE mu ε = some (false, xs.map fun x => tZ (f x))) (o1 : PyData.strOk z = true) (o2 : (xs.map f).all PyData.strOk = true) : CmpOk X .In mu (.d (tZ z)) ε (decide (z ∈ xs.map f)) :=
  cmp_inZ hr (by rw [h, List.map_map]; rfl) o1 o2
theorem c_attr {CC : Addr} {ns : List Str} {f : Str} {j : Nat} {ds : List D} {d : D} (C : Ctx P w K mg base N so sc n X) (ha : Ev X e env mu (.d (.obj CC ns ds))) (c : Cls K CC) (na : NoAttr K CC f) (h1 : idxN ns f = some j) (h2 : ds[j]? = some d)
    (hb : attributeBase e f X.env (eval e X.env) = eval e X.env := by rfl) : Ev X (.Attribute e f pos) env mu (.d d) := ev_attr ha (by rw [C.K]; exact c) (by rw [C.K]; exact na) h1 h2 hb
theorem c_attrM {CC : Addr} {f : Str} {j : Nat} {fs : List (Str × E)} (C : Ctx P w K mg base N so sc n X) (ha : Ev X e env mu (.at j)) (hk : mu[j]? = some (.ins CC fs)) (c : Cls K CC) (na : NoAttr K CC f) (hl : fs.lookup f = some ε)
    (hb : attributeBase e f X.env (eval e X.env) = eval e X.env := by rfl) : Ev X (.Attribute e f pos) env mu ε := ev_attrM ha hk (by rw [C.K]; exact c) (by rw [C.K]; exact na) hl hb
theorem rep_flat {β : Type} (a : β) : ∀ m : Nat, (List.replicate m [a]).flatten = List.replicate m a
  | 0 => rfl
  | m + 1 => by rw [List.replicate_succ, List.flatten_cons, rep_flat a m, List.replicate_succ]; rfl
theorem c_rep {d : D} {m : Nat} (ha : Ev X a env mu (.d (.tup [d]))) (hb : Ev X b env mu (.d (nD m))) (h1 : 1 ≤ m) (h2 : m ≤ 1000) : Ev X (.BinOp a .Mult b pos) env mu (.d (.tup (List.replicate m d))) := by
  have := ev_rep (pos := pos) ha hb h1 h2 (by simp) (by simp)
  rwa [rep_flat] at this
theorem c_retD {d : D} {Po : Post} {rest : List Stmt} (he : Ev X e env mu (.d d)) (h : Po.rt d mu) : Go X (.Return (some e) pos :: rest) env mu Po := go_cons (go_ret he rfl h)
/-! what stands in a slot -/
theorem gs_ne {l : List (Option E)} {i j : Nat} {a : Option E} {r : Option (Option E)} (h : Nat.beq i j = false) (h2 : l[j]? = r) : (l.set i a)[j]? = r := by
  rw [List.getElem?_set_ne (Nat.ne_of_beq_eq_false h)]; exact h2
theorem gs_eq {l : List (Option E)} {i : Nat} {a y : Option E} (h : l[i]? = some y) : (l.set i a)[i]? = some a :=
  List.getElem?_set_self (List.getElem?_eq_some_iff.mp h).1
theorem gs_setN {l : List (Option E)} {i j : Nat} {js : List Nat} {d : D} {ds : List D} {r : Option (Option E)} (h : (setN (l.set j (some (.d d))) js ds)[i]? = r) : (setN l (j :: js) (d :: ds))[i]? = r := h
theorem gs_setN0 {l : List (Option E)} {i : Nat} {r : Option (Option E)} (h : l[i]? = r) : (setN l [] [])[i]? = r := h
theorem gs_map {l : List (Option E)} {i k : Nat} {d : D} {a : E} {r : Option (Option E)} (h : l[i]? = some (some a)) (h2 : some (unAt k d (some a)) = r) : (l.map (unAt k d))[i]? = r := by
  rw [List.getElem?_map, h]; exact h2
theorem gs_mapAt {l : List (Option E)} {i k : Nat} {d : D} (h : l[i]? = some (some (.at k))) : (l.map (unAt k d))[i]? = some (some (.d d)) := by
  rw [List.getElem?_map, h]; show some (if k = k then some (E.d d) else some (.at k)) = _; rw [if_pos rfl]
theorem gs_mapD {l : List (Option E)} {i k : Nat} {d x : D} (h : l[i]? = some (some (.d x))) : (l.map (unAt k d))[i]? = some (some (.d x)) := by
  rw [List.getElem?_map, h]; rfl
theorem gs_mapO {l : List (Option E)} {i k j : Nat} {d : D} (h : l[i]? = some (some (.at j))) (hn : j ≠ k) : (l.map (unAt k d))[i]? = some (some (.at j)) := by
  rw [List.getElem?_map, h]; show some (if j = k then some (E.d d) else some (.at j)) = _; rw [if_neg hn]
end
end Cw
namespace Cw
/-! ### the plain law: worlds at cuts -/
def sndC (M : Nt) : Deed → Option (Nat × Nat)
  | .act r => (match M.rs[r]? with
    | some R => (match R.a with
      | .send c t => some (c, t)
      | _ => none)
    | none => none)
  | _ => none
def remC (M : Nt) : Deed → Option (Nat × Nat)
  | .take r k => (match M.rs[r]? with
    | some R => (match R.a with
      | .take c _ => some (c, k)
      | _ => none)
    | none => none)
  | .lose c k => some (c, k)
  | .act _ => none
def stpC (M : Nt) : Deed → Option Nat
  | .act r => (M.rs[r]?).map (·.s')
  | .take r _ => (M.rs[r]?).map (·.s')
  | .lose _ _ => none
def onC (c : Nat) : Option (Nat × Nat) → Option Nat
  | some (c', x) => if c' = c then some x else none
  | none => none
def toks (M : Nt) (c : Nat) (row : List Deed) : List Nat := row.filterMap fun d => onC c (sndC M d)
def gone (M : Nt) (c : Nat) (row : List Deed) : List Nat := row.filterMap fun d => onC c (remC M d)
def stOf (M : Nt) (row : List Deed) : Nat := row.foldl (fun s d => (stpC M d).getD s) 0
def px (rows : List (List Deed)) (n : List Nat) (p : Nat) : List Deed := (rows[p]?.getD []).take (n[p]?.getD 0)
def tk (M : Nt) (rows : List (List Deed)) (n : List Nat) (c : Nat) : List Nat := match M.cs[c]? with
  | some C => toks M c (px rows n C.g)
  | none => []
def gn (M : Nt) (rows : List (List Deed)) (n : List Nat) (c : Nat) : List Nat := match M.cs[c]? with
  | some C => gone M c (px rows n C.t)
  | none => []
def prL (tks gns : List Nat) : List (Nat × Nat) := (tks.zipIdx.filter fun q => decide (q.2 ∉ gns)).map fun q => (q.2, q.1)
def atW (M : Nt) (rows : List (List Deed)) (n : List Nat) : Wd :=
  ⟨(List.range M.ps.length).map fun p => stOf M (px rows n p), (List.range M.cs.length).map fun c => (tk M rows n c).length,
    (List.range M.cs.length).map fun c => prL (tk M rows n c) (gn M rows n c)⟩
def Closed (M : Nt) (rows : List (List Deed)) (n : List Nat) : Prop := ∀ c k, k ∈ gn M rows n c → k < (tk M rows n c).length
structure Owned (M : Nt) (rows : List (List Deed)) : Prop where
  len : rows.length = M.ps.length
  ok : ∀ p r, rows[p]? = some r → ∀ d ∈ r, IsDeed M d ∧ owner M d = some p
theorem toks_app {M : Nt} {c : Nat} {a b : List Deed} : toks M c (a ++ b) = toks M c a ++ toks M c b := List.filterMap_append
theorem gone_app {M : Nt} {c : Nat} {a b : List Deed} : gone M c (a ++ b) = gone M c a ++ gone M c b := List.filterMap_append
theorem stOf_snoc {M : Nt} {a : List Deed} {d : Deed} : stOf M (a ++ [d]) = (stpC M d).getD (stOf M a) := by
  unfold stOf; rw [List.foldl_append]; rfl
theorem snd_owner {M : Nt} (G : GoodN M) {d : Deed} {p c t : Nat} (ho : owner M d = some p) (h : sndC M d = some (c, t)) : ∃ C, M.cs[c]? = some C ∧ C.g = p := by
  cases d with
  | act r =>
    simp only [sndC] at h
    simp only [owner] at ho
    cases hR : M.rs[r]? with
    | none => rw [hR] at h; cases h
    | some R =>
      rw [hR] at h ho
      have hr := G.ra R (List.mem_of_getElem? hR)
      cases ha : R.a with
      | nop => simp [ha] at h
      | take _ _ => simp [ha] at h
      | send c' t' =>
        rw [ha] at hr
        simp [ha] at h
        obtain ⟨rfl, rfl⟩ := h
        obtain ⟨_, C, h1, h2⟩ := hr
        exact ⟨C, h1, by rw [h2]; exact Option.some.inj ho⟩
  | take r k => cases h
  | lose c k => cases h
theorem rem_owner {M : Nt} (G : GoodN M) {d : Deed} {p c k : Nat} (ho : owner M d = some p) (h : remC M d = some (c, k)) : ∃ C, M.cs[c]? = some C ∧ C.t = p := by
  cases d with
  | act r => cases h
  | take r j =>
    simp only [remC] at h
    simp only [owner] at ho
    cases hR : M.rs[r]? with
    | none => rw [hR] at h; cases h
    | some R =>
      rw [hR] at h ho
      have hr := G.ra R (List.mem_of_getElem? hR)
      cases ha : R.a with
      | nop => simp [ha] at h
      | send _ _ => simp [ha] at h
      | take c' t' =>
        rw [ha] at hr
        simp [ha] at h
        obtain ⟨rfl, rfl⟩ := h
        obtain ⟨_, C, h1, h2⟩ := hr
        exact ⟨C, h1, by rw [h2]; exact Option.some.inj ho⟩
  | lose c' j =>
    simp only [remC, Option.some.injEq, Prod.mk.injEq] at h
    obtain ⟨rfl, rfl⟩ := h
    simp only [owner] at ho
    cases hC : M.cs[c']? with
    | none => rw [hC] at ho; cases ho
    | some C => rw [hC] at ho; exact ⟨C, rfl, Option.some.inj ho⟩
theorem px_same {rows : List (List Deed)} {n : List Nat} {p q x : Nat} (h : p ≠ q) : px rows (n.set p x) q = px rows n q := by
  unfold px; rw [List.getElem?_set_ne h]
theorem px_step {rows : List (List Deed)} {n : List Nat} {p i : Nat} {r : List Deed} {d : Deed} (h1 : n[p]? = some i) (h2 : rows[p]? = some r) (h3 : r[i]? = some d) : px rows (n.set p (i + 1)) p = px rows n p ++ [d] := by
  have hl := (List.getElem?_eq_some_iff.mp h1).1
  unfold px
  rw [List.getElem?_set_self hl, h2, h1]
  simp only [Option.getD_some]
  rw [List.take_add_one, h3]; rfl
theorem toks_one_ne {M : Nt} (G : GoodN M) {d : Deed} {p c : Nat} {C : Chan} (ho : owner M d = some p) (hC : M.cs[c]? = some C) (h : C.g ≠ p) : toks M c [d] = [] := by
  unfold toks
  cases e : sndC M d with
  | none => simp [e, onC]
  | some x =>
    obtain ⟨c', t⟩ := x
    by_cases hc : c' = c
    · subst hc
      obtain ⟨C', h1, h2⟩ := snd_owner G ho e
      rw [hC] at h1; cases h1
      exact absurd h2 h
    · simp [e, onC, hc]
theorem gone_one_ne {M : Nt} (G : GoodN M) {d : Deed} {p c : Nat} {C : Chan} (ho : owner M d = some p) (hC : M.cs[c]? = some C) (h : C.t ≠ p) : gone M c [d] = [] := by
  unfold gone
  cases e : remC M d with
  | none => simp [e, onC]
  | some x =>
    obtain ⟨c', t⟩ := x
    by_cases hc : c' = c
    · subst hc
      obtain ⟨C', h1, h2⟩ := rem_owner G ho e
      rw [hC] at h1; cases h1
      exact absurd h2 h
    · simp [e, onC, hc]
section
variable {M : Nt} {rows : List (List Deed)} {n : List Nat} {p i : Nat} {r : List Deed} {d : Deed}
theorem tk_step (G : GoodN M) (ho : owner M d = some p) (h1 : n[p]? = some i) (h2 : rows[p]? = some r) (h3 : r[i]? = some d) {c : Nat} (hc : c < M.cs.length) : tk M rows (n.set p (i + 1)) c = tk M rows n c ++ toks M c [d] := by
  unfold tk
  rw [List.getElem?_eq_getElem hc]
  simp only
  by_cases e : M.cs[c].g = p
  · rw [e, px_step h1 h2 h3, toks_app]
  · rw [px_same (Ne.symm e), toks_one_ne G ho (List.getElem?_eq_getElem hc) e, List.append_nil]
theorem gn_step (G : GoodN M) (ho : owner M d = some p) (h1 : n[p]? = some i) (h2 : rows[p]? = some r) (h3 : r[i]? = some d) {c : Nat} (hc : c < M.cs.length) : gn M rows (n.set p (i + 1)) c = gn M rows n c ++ gone M c [d] := by
  unfold gn
  rw [List.getElem?_eq_getElem hc]
  simp only
  by_cases e : M.cs[c].t = p
  · rw [e, px_step h1 h2 h3, gone_app]
  · rw [px_same (Ne.symm e), gone_one_ne G ho (List.getElem?_eq_getElem hc) e, List.append_nil]
theorem prL_snoc {tks gns : List Nat} {t : Nat} (h : ∀ k ∈ gns, k < tks.length) : prL (tks ++ [t]) gns = prL tks gns ++ [(tks.length, t)] := by
  unfold prL
  rw [List.zipIdx_append, List.filter_append, List.map_append]
  congr 1
  have : tks.length ∉ gns := fun h' => Nat.lt_irrefl _ (h _ h')
  simp [this]
theorem prL_gone {tks gns : List Nat} {k : Nat} : prL tks (gns ++ [k]) = (prL tks gns).filter fun q => decide (q.1 ≠ k) := by
  unfold prL
  rw [List.filter_map, List.filter_filter]
  congr 1
  apply List.filter_congr
  intro x _
  simp only [List.mem_append, List.mem_singleton, Function.comp_def, not_or, ne_eq, decide_not]
  by_cases h1 : x.2 ∈ gns <;> by_cases h2 : x.2 = k <;> simp [h1, h2]
theorem prL_mem {tks gns : List Nat} {k t : Nat} : (k, t) ∈ prL tks gns ↔ tks[k]? = some t ∧ k ∉ gns := by
  unfold prL
  rw [List.mem_map]
  constructor
  · rintro ⟨⟨a, b⟩, h1, h2⟩
    simp only [Prod.mk.injEq] at h2
    obtain ⟨rfl, rfl⟩ := h2
    rw [List.mem_filter] at h1
    obtain ⟨h1, h3⟩ := h1
    exact ⟨(List.mem_zipIdx_iff_getElem?).mp h1, of_decide_eq_true h3⟩
  · rintro ⟨h1, h2⟩
    exact ⟨(t, k), List.mem_filter.mpr ⟨(List.mem_zipIdx_iff_getElem?).mpr h1, decide_eq_true h2⟩, rfl⟩
theorem map_range_ext {α : Type} {f g : Nat → α} {m : Nat} (h : ∀ i, i < m → f i = g i) : (List.range m).map f = (List.range m).map g :=
  List.map_congr_left fun i hi => h i (List.mem_range.mp hi)
theorem map_range_set {α : Type} {f g : Nat → α} {m p : Nat} {x : α} (h : ∀ i, i < m → i ≠ p → f i = g i) (hx : p < m → f p = x) : (List.range m).map f = ((List.range m).map g).set p x := by
  apply List.ext_getElem?
  intro i
  rw [List.getElem?_set]
  by_cases hi : i < m
  · by_cases e : p = i
    · subst e; simp [hi, hx hi]
    · simp [hi, e, h i hi (Ne.symm e)]
  · by_cases e : p = i
    · subst e; simp [hi]
    · simp [hi, e]
theorem map_range_modify {α : Type} {f g : Nat → α} {m p : Nat} {u : α → α} (h : ∀ i, i < m → i ≠ p → f i = g i) (hx : p < m → f p = u (g p)) : (List.range m).map f = ((List.range m).map g).modify p u := by
  apply List.ext_getElem?
  intro i
  rw [List.getElem?_modify]
  by_cases hi : i < m
  · by_cases e : p = i
    · subst e; simp [hi, hx hi]
    · simp [hi, e, h i hi (Ne.symm e)]
  · simp [hi]
end
end Cw
namespace Cw
section
variable {M : Nt} {rows : List (List Deed)} {n : List Nat} {p i : Nat} {r : List Deed} {d : Deed}
theorem st_step (h1 : n[p]? = some i) (h2 : rows[p]? = some r) (h3 : r[i]? = some d) : (atW M rows (n.set p (i + 1))).st = match stpC M d with
    | some s => (atW M rows n).st.set p s
    | none => (atW M rows n).st := by
  unfold atW
  simp only
  cases e : stpC M d with
  | some s =>
    exact map_range_set (fun q _ hq => by rw [px_same (Ne.symm hq)]) (fun _ => by rw [px_step h1 h2 h3, stOf_snoc, e]; rfl)
  | none =>
    refine map_range_ext fun q _ => ?_
    by_cases hq : p = q
    · subst hq; rw [px_step h1 h2 h3, stOf_snoc, e]; rfl
    · rw [px_same hq]
theorem toks_one {c : Nat} : toks M c [d] = (onC c (sndC M d)).toList := by
  unfold toks
  cases h : onC c (sndC M d) <;> simp [h]
theorem gone_one {c : Nat} : gone M c [d] = (onC c (remC M d)).toList := by
  unfold gone
  cases h : onC c (remC M d) <;> simp [h]
theorem sent_step (G : GoodN M) (ho : owner M d = some p) (h1 : n[p]? = some i) (h2 : rows[p]? = some r) (h3 : r[i]? = some d) : (atW M rows (n.set p (i + 1))).sent = match sndC M d with
    | some (c, _) => (atW M rows n).sent.modify c (· + 1)
    | none => (atW M rows n).sent := by
  unfold atW
  simp only
  cases e : sndC M d with
  | some x =>
    obtain ⟨c, t⟩ := x
    exact map_range_modify (fun q hl hq => by rw [tk_step G ho h1 h2 h3 hl, toks_one, e]; simp [onC, Ne.symm hq]) (fun hl => by rw [tk_step G ho h1 h2 h3 hl, toks_one, e]; simp [onC])
  | none =>
    exact map_range_ext fun q hl => by rw [tk_step G ho h1 h2 h3 hl, toks_one, e]; simp [onC]
theorem pres_step (G : GoodN M) (ho : owner M d = some p) (hcl : Closed M rows n) (h1 : n[p]? = some i) (h2 : rows[p]? = some r) (h3 : r[i]? = some d) (hx : sndC M d = none ∨ remC M d = none) : (atW M rows (n.set p (i + 1))).pres = match sndC M d, remC M d with
    | some (c, t), _ => (atW M rows n).pres.modify c fun m => m ++ [((tk M rows n c).length, t)]
    | none, some (c, k) => (atW M rows n).pres.modify c fun m => m.filter fun q => decide (q.1 ≠ k)
    | none, none => (atW M rows n).pres := by
  unfold atW
  simp only
  cases e : sndC M d with
  | some x =>
    obtain ⟨c, t⟩ := x
    have e2 : remC M d = none := hx.resolve_left (by rw [e]; exact fun h => nomatch h)
    refine map_range_modify (fun q hl hq => ?_) (fun hl => ?_)
    · rw [tk_step G ho h1 h2 h3 hl, gn_step G ho h1 h2 h3 hl, toks_one, gone_one, e, e2]; simp [onC, Ne.symm hq]
    · rw [tk_step G ho h1 h2 h3 hl, gn_step G ho h1 h2 h3 hl, toks_one, gone_one, e, e2]; simp [onC]
      exact prL_snoc (hcl c)
  | none =>
    cases e2 : remC M d with
    | some x =>
      obtain ⟨c, k⟩ := x
      refine map_range_modify (fun q hl hq => ?_) (fun hl => ?_)
      · rw [tk_step G ho h1 h2 h3 hl, gn_step G ho h1 h2 h3 hl, toks_one, gone_one, e, e2]; simp [onC, Ne.symm hq]
      · rw [tk_step G ho h1 h2 h3 hl, gn_step G ho h1 h2 h3 hl, toks_one, gone_one, e, e2]
        simp only [onC, if_pos, Option.toList, List.append_nil]
        exact prL_gone
    | none =>
      exact map_range_ext fun q hl => by rw [tk_step G ho h1 h2 h3 hl, gn_step G ho h1 h2 h3 hl, toks_one, gone_one, e, e2]; simp [onC]
theorem atW_sent {c : Nat} (hc : c < M.cs.length) : (atW M rows n).sent[c]? = some (tk M rows n c).length := by
  unfold atW; simp [hc]
theorem atW_pres {c : Nat} (hc : c < M.cs.length) : (atW M rows n).pres[c]? = some (prL (tk M rows n c) (gn M rows n c)) := by
  unfold atW; simp [hc]
theorem atW_st {q : Nat} (hc : q < M.ps.length) : (atW M rows n).st[q]? = some (stOf M (px rows n q)) := by
  unfold atW; simp [hc]
theorem openM_sub {C : Chan} {m : List (Nat × Nat)} {q : Nat × Nat} (h : q ∈ openM C m) : q ∈ m := by
  unfold openM at h
  split at h
  · exact h
  · exact List.mem_of_mem_take h
theorem can_rem (hcan : Can M (atW M rows n) d) {c k : Nat} (h : remC M d = some (c, k)) : k < (tk M rows n c).length ∧ sndC M d = none := by
  cases d with
  | act r => cases h
  | take r j =>
    obtain ⟨R, c', t, C, m, hR, ha, _, hC, hm, hin⟩ := hcan
    simp [remC, hR, ha] at h
    obtain ⟨rfl, rfl⟩ := h
    rw [atW_pres (List.getElem?_eq_some_iff.mp hC).1] at hm
    cases hm
    have := prL_mem.mp (openM_sub hin)
    exact ⟨(List.getElem?_eq_some_iff.mp this.1).1, rfl⟩
  | lose c' j =>
    obtain ⟨C, m, t, hC, _, hm, hin⟩ := hcan
    simp only [remC, Option.some.injEq, Prod.mk.injEq] at h
    obtain ⟨rfl, rfl⟩ := h
    rw [atW_pres (List.getElem?_eq_some_iff.mp hC).1] at hm
    cases hm
    have := prL_mem.mp (openM_sub hin)
    exact ⟨(List.getElem?_eq_some_iff.mp this.1).1, rfl⟩
theorem closed_step (G : GoodN M) (ho : owner M d = some p) (hcan : Can M (atW M rows n) d) (hcl : Closed M rows n) (h1 : n[p]? = some i) (h2 : rows[p]? = some r) (h3 : r[i]? = some d) : Closed M rows (n.set p (i + 1)) := by
  intro c k hk
  by_cases hc : c < M.cs.length
  · rw [tk_step G ho h1 h2 h3 hc, List.length_append]
    rw [gn_step G ho h1 h2 h3 hc, List.mem_append] at hk
    rcases hk with hk | hk
    · have := hcl c k hk; omega
    · rw [gone_one] at hk
      cases e : remC M d with
      | none => rw [e] at hk; simp [onC] at hk
      | some x =>
        obtain ⟨c', k'⟩ := x
        rw [e] at hk
        by_cases h : c' = c
        · subst h
          simp [onC] at hk
          subst hk
          have := (can_rem hcan e).1
          omega
        · simp [onC, h] at hk
  · have : M.cs[c]? = none := List.getElem?_eq_none (by omega)
    unfold gn at hk
    rw [this] at hk
    cases hk
theorem doD_at (G : GoodN M) (ho : owner M d = some p) (hcan : Can M (atW M rows n) d) (hcl : Closed M rows n) (h1 : n[p]? = some i) (h2 : rows[p]? = some r) (h3 : r[i]? = some d) : doD M (atW M rows n) d = atW M rows (n.set p (i + 1)) := by
  have hx : sndC M d = none ∨ remC M d = none := by
    cases e : remC M d with
    | none => exact .inr rfl
    | some x => exact .inl (can_rem hcan (c := x.1) (k := x.2) e).2
  have s1 := st_step (M := M) h1 h2 h3
  have s2 := sent_step G ho h1 h2 h3
  have s3 := pres_step G ho hcl h1 h2 h3 hx
  have key : ∀ w w' : Wd, w.st = w'.st → w.sent = w'.sent → w.pres = w'.pres → w = w' := by
    rintro ⟨_, _, _⟩ ⟨_, _, _⟩ rfl rfl rfl; rfl
  cases d with
  | act r0 =>
    obtain ⟨R, hR, ha, hs⟩ := hcan
    have hp : R.p = p := by simp only [owner, hR] at ho; exact Option.some.inj ho
    subst hp
    cases hra : R.a with
    | nop =>
      have e1 : sndC M (.act r0) = none := by simp [sndC, hR, hra]
      rw [e1] at s2 s3
      simp only [stpC, hR, Option.map_some] at s1
      simp only [remC] at s3
      refine key _ _ ?_ ?_ ?_ <;> simp only [doD, hR, hra, doA]
      · exact s1.symm
      · exact s2.symm
      · exact s3.symm
    | send c t =>
      have e1 : sndC M (.act r0) = some (c, t) := by simp [sndC, hR, hra]
      rw [e1] at s2 s3
      simp only [stpC, hR, Option.map_some] at s1
      simp only at s2 s3
      have hcl' : c < M.cs.length := by
        obtain ⟨C, h, _⟩ := snd_owner G (p := R.p) (by simp [owner, hR]) e1
        exact (List.getElem?_eq_some_iff.mp h).1
      refine key _ _ ?_ ?_ ?_ <;> simp only [doD, hR, hra, doA, doSend]
      · exact s1.symm
      · exact s2.symm
      · rw [s3, atW_sent hcl']; rfl
    | take c t => exact absurd hra (ha c t)
  | take r0 k =>
    obtain ⟨R, c, t, C, m, hR, ha, hs, hC, hm, hin⟩ := hcan
    have hp : R.p = p := by simp only [owner, hR] at ho; exact Option.some.inj ho
    subst hp
    have e1 : sndC M (.take r0 k) = none := rfl
    have e2 : remC M (.take r0 k) = some (c, k) := by simp [remC, hR, ha]
    rw [e1] at s2
    rw [e1, e2] at s3
    simp only [stpC, hR, Option.map_some] at s1
    simp only at s3
    refine key _ _ ?_ ?_ ?_ <;> simp only [doD, hR, ha, doA, dropM]
    · exact s1.symm
    · exact s2.symm
    · exact s3.symm
  | lose c k =>
    have e1 : sndC M (.lose c k) = none := rfl
    have e2 : remC M (.lose c k) = some (c, k) := rfl
    rw [e1] at s2
    rw [e1, e2] at s3
    simp only [stpC] at s1
    simp only at s3
    refine key _ _ ?_ ?_ ?_ <;> simp only [doD, dropM]
    · exact s1.symm
    · exact s2.symm
    · exact s3.symm
/-! ### steps -/
def zer (M : Nt) : List Nat := M.ps.map fun _ => 0
inductive Steps (M : Nt) (rows : List (List Deed)) : List Deed → Wd → List Nat → Prop
  | nil : Steps M rows [] (wd0 M) (zer M)
  | snoc {ds : List Deed} {w : Wd} {n : List Nat} {p i : Nat} {r : List Deed} {d : Deed} : Steps M rows ds w n → n[p]? = some i → rows[p]? = some r → r[i]? = some d → Can M w d → Steps M rows (ds ++ [d]) (doD M w d) (n.set p (i + 1))
theorem zer_get {q : Nat} : (zer M)[q]?.getD 0 = 0 := by
  unfold zer
  rw [List.getElem?_map]
  cases M.ps[q]? <;> rfl
theorem px_zer {q : Nat} : px rows (zer M) q = [] := by
  unfold px
  rw [zer_get, List.take_zero]
theorem tk_zer {c : Nat} : tk M rows (zer M) c = [] := by
  unfold tk
  split
  · rw [px_zer]; rfl
  · rfl
theorem gn_zer {c : Nat} : gn M rows (zer M) c = [] := by
  unfold gn
  split
  · rw [px_zer]; rfl
  · rfl
theorem atW_zer : atW M rows (zer M) = wd0 M := by
  have c0 : ∀ {α β : Type} (l : List α) (x : β), (List.range l.length).map (fun _ => x) = l.map fun _ => x := by
    intro α β l x
    apply List.ext_getElem?
    intro i
    by_cases h : i < l.length <;> simp [h]
  unfold atW wd0
  simp only [tk_zer, gn_zer, px_zer]
  rw [c0, c0, show stOf M [] = 0 from rfl, show prL [] [] = [] from rfl, c0]
  rfl
theorem Steps.inv (G : GoodN M) (O : Owned M rows) {ds : List Deed} {w : Wd} {n : List Nat} (S : Steps M rows ds w n) : w = atW M rows n ∧ Closed M rows n ∧ n.length = M.ps.length ∧ ∀ q : Nat, n[q]?.getD 0 ≤ (rows[q]?.getD []).length := by
  induction S with
  | nil =>
    refine ⟨atW_zer.symm, fun c k hk => ?_, by simp [zer], fun q => ?_⟩
    · rw [gn_zer] at hk; cases hk
    · rw [zer_get]; omega
  | @snoc ds w n p i r d S h1 h2 h3 hc ih =>
    obtain ⟨rfl, i2, i3, i4⟩ := ih
    have ho := (O.ok p r h2 d (List.mem_of_getElem? h3)).2
    refine ⟨doD_at G ho hc i2 h1 h2 h3, closed_step G ho hc i2 h1 h2 h3, by rw [List.length_set]; exact i3, fun q => ?_⟩
    have hl := (List.getElem?_eq_some_iff.mp h1).1
    by_cases e : p = q
    · subst e
      rw [List.getElem?_set_self hl, h2]
      have := (List.getElem?_eq_some_iff.mp h3).1
      simp only [Option.getD_some]; omega
    · rw [List.getElem?_set_ne e]; exact i4 q
end
end Cw
namespace Cw
section
variable {M : Nt} {rows : List (List Deed)} {n n' : List Nat} {p i : Nat} {r : List Deed} {d : Deed}
def leL (n n' : List Nat) : Prop := ∀ q : Nat, n[q]?.getD 0 ≤ n'[q]?.getD 0
theorem px_le (h : leL n n') (q : Nat) : ∃ s, px rows n' q = px rows n q ++ s := by
  unfold px
  have : (rows[q]?.getD []).take (n[q]?.getD 0) <+: (rows[q]?.getD []).take (n'[q]?.getD 0) := List.take_prefix_take_left (h q)
  obtain ⟨s, hs⟩ := this
  exact ⟨s, hs.symm⟩
theorem tk_le (h : leL n n') (c : Nat) : ∃ s, tk M rows n' c = tk M rows n c ++ s := by
  unfold tk
  split
  · rename_i C _
    obtain ⟨s, hs⟩ := px_le (rows := rows) h C.g
    exact ⟨toks M c s, by rw [hs, toks_app]⟩
  · exact ⟨[], rfl⟩
theorem gn_le (h : leL n n') (c : Nat) : ∃ s, gn M rows n' c = gn M rows n c ++ s := by
  unfold gn
  split
  · rename_i C _
    obtain ⟨s, hs⟩ := px_le (rows := rows) h C.t
    exact ⟨gone M c s, by rw [hs, gone_app]⟩
  · exact ⟨[], rfl⟩
theorem prL_app {a b g : List Nat} (h : ∀ k ∈ g, k < a.length) : ∃ s, prL (a ++ b) g = prL a g ++ s := by
  unfold prL
  rw [List.zipIdx_append, List.filter_append, List.map_append]
  exact ⟨_, rfl⟩
theorem openM_app {C : Chan} {m s : List (Nat × Nat)} {q : Nat × Nat} (h : q ∈ openM C m) : q ∈ openM C (m ++ s) := by
  unfold openM at h ⊢
  split
  · rename_i e
    rw [if_pos e] at h
    exact List.mem_append_left _ h
  · rename_i e
    rw [if_neg e] at h
    cases m with
    | nil => cases h
    | cons x m => exact h
/-- what can be done can be done behind more deeds of others -/
theorem can_mono (G : GoodN M) (ho : owner M d = some p) (hp : p < M.ps.length) (hle : leL n n') (heq : n[p]?.getD 0 = n'[p]?.getD 0) (hcl : Closed M rows n) (h : Can M (atW M rows n) d) : Can M (atW M rows n') d := by
  have hpx : px rows n' p = px rows n p := by unfold px; rw [heq]
  have hpr : ∀ {c : Nat} {C : Chan} {m : List (Nat × Nat)}, M.cs[c]? = some C → C.t = p → (atW M rows n).pres[c]? = some m → ∃ s, (atW M rows n').pres[c]? = some (m ++ s) := by
    intro c C m hC ht hm
    have hl := (List.getElem?_eq_some_iff.mp hC).1
    rw [atW_pres hl] at hm ⊢
    cases hm
    obtain ⟨s, hs⟩ := tk_le (M := M) (rows := rows) hle c
    have hg : gn M rows n' c = gn M rows n c := by
      unfold gn; rw [hC]; simp only; rw [ht, hpx]
    rw [hs, hg]
    obtain ⟨s2, hs2⟩ := prL_app (b := s) (fun k hk => hcl c k hk)
    exact ⟨s2, by rw [hs2]⟩
  have hst : ∀ {q : Nat}, q = p → (atW M rows n).st[q]? = (atW M rows n').st[q]? := by
    rintro q rfl
    rw [atW_st hp, atW_st hp, hpx]
  cases d with
  | act r0 =>
    obtain ⟨R, hR, ha, hs⟩ := h
    have hq : R.p = p := by simp only [owner, hR] at ho; exact Option.some.inj ho
    exact ⟨R, hR, ha, by rw [← hst hq]; exact hs⟩
  | take r0 k =>
    obtain ⟨R, c, t, C, m, hR, ha, hs, hC, hm, hin⟩ := h
    have hq : R.p = p := by simp only [owner, hR] at ho; exact Option.some.inj ho
    obtain ⟨C', hC', ht⟩ := rem_owner G ho (c := c) (k := k) (by simp [remC, hR, ha])
    rw [hC] at hC'; cases hC'
    obtain ⟨s, hs2⟩ := hpr hC ht hm
    exact ⟨R, c, t, C, _, hR, ha, by rw [← hst hq]; exact hs, hC, hs2, openM_app hin⟩
  | lose c k =>
    obtain ⟨C, m, t, hC, hl, hm, hin⟩ := h
    obtain ⟨C', hC', ht⟩ := rem_owner G ho (c := c) (k := k) rfl
    rw [hC] at hC'; cases hC'
    obtain ⟨s, hs2⟩ := hpr hC ht hm
    exact ⟨C, _, t, hC, hl, hs2, openM_app hin⟩
/-- the least run is never stuck ahead of a run's end -/
theorem Steps.next (G : GoodN M) (O : Owned M rows) {ds es : List Deed} {w v : Wd} (S : Steps M rows ds w n) (S' : Steps M rows es v n') :
    leL n n' ∨ ∃ (p i : Nat) (r : List Deed) (d : Deed), n'[p]? = some i ∧ rows[p]? = some r ∧ r[i]? = some d ∧ Can M v d := by
  induction S with
  | nil => exact .inl fun q => by rw [zer_get]; omega
  | @snoc ds w n p i r d S h1 h2 h3 hc ih =>
    rcases ih with ih | ih
    · obtain ⟨hv, c2, l2, b2⟩ := S'.inv G O
      obtain ⟨hw, c1, l1, b1⟩ := S.inv G O
      have ho := (O.ok p r h2 d (List.mem_of_getElem? h3)).2
      have hl := (List.getElem?_eq_some_iff.mp h1).1
      obtain ⟨j, hj⟩ : ∃ j, n'[p]? = some j := ⟨_, List.getElem?_eq_getElem (by omega)⟩
      have hij := ih p
      rw [h1, hj] at hij
      simp only [Option.getD_some] at hij
      by_cases e : i = j
      · subst e
        refine .inr ⟨p, i, r, d, hj, h2, h3, ?_⟩
        rw [hv]
        rw [hw] at hc
        exact can_mono G ho (by omega) ih (by rw [h1, hj]) c1 hc
      · refine .inl fun q => ?_
        by_cases e2 : p = q
        · subst e2
          rw [List.getElem?_set_self hl, hj]
          simp only [Option.getD_some]; omega
        · rw [List.getElem?_set_ne e2]; exact ih q
    · exact .inr ih
def whole (rows : List (List Deed)) : List Nat := rows.map List.length
theorem whole_get {q : Nat} : (whole rows)[q]?.getD 0 = (rows[q]?.getD []).length := by
  unfold whole
  rw [List.getElem?_map]
  cases rows[q]? <;> rfl
theorem leL_antisymm (h1 : leL n n') (h2 : leL n' n) (hl : n.length = n'.length) : n = n' := by
  apply List.ext_getElem hl
  intro q a b
  have e1 := h1 q
  have e2 := h2 q
  rw [List.getElem?_eq_getElem a, List.getElem?_eq_getElem b] at e1 e2
  simp only [Option.getD_some] at e1 e2
  omega
theorem Steps.whole (G : GoodN M) (O : Owned M rows) {ds es : List Deed} {w v : Wd} (S : Steps M rows ds w (whole rows)) (S' : Steps M rows es v n') (hst : ∀ (p i : Nat) (r : List Deed) (d : Deed), n'[p]? = some i → rows[p]? = some r → r[i]? = some d → ¬ Can M v d) : n' = Cw.whole rows := by
  obtain ⟨_, _, l2, b2⟩ := S'.inv G O
  rcases S.next G O S' with h | ⟨p, i, r, d, h1, h2, h3, h4⟩
  · exact leL_antisymm (fun q => by rw [whole_get]; exact b2 q) h (by unfold Cw.whole; rw [List.length_map, O.len]; exact l2)
  · exact absurd h4 (hst p i r d h1 h2 h3)
/-! ### a drawn run and its history -/
inductive Run (M : Nt) : List Deed → Wd → Prop
  | nil : Run M [] (wd0 M)
  | snoc {ds : List Deed} {w : Wd} {d : Deed} : Run M ds w → Can M w d → Run M (ds ++ [d]) (doD M w d)
def hist (M : Nt) (ds : List Deed) : List (List Deed) := (List.range M.ps.length).map fun p => ds.filter fun d => decide (owner M d = some p)
theorem hist_get {ds : List Deed} {p : Nat} (h : p < M.ps.length) : (hist M ds)[p]? = some (ds.filter fun d => decide (owner M d = some p)) := by
  unfold hist; simp [h]
theorem owner_some (G : GoodN M) (h : IsDeed M d) : ∃ p, owner M d = some p ∧ p < M.ps.length := by
  cases d with
  | act r =>
    obtain ⟨R, hR, _⟩ := h
    obtain ⟨q, hq, _⟩ := G.rp R (List.mem_of_getElem? hR)
    exact ⟨R.p, by simp [owner, hR], (List.getElem?_eq_some_iff.mp hq).1⟩
  | take r k =>
    obtain ⟨R, c, t, hR, _⟩ := h
    obtain ⟨q, hq, _⟩ := G.rp R (List.mem_of_getElem? hR)
    exact ⟨R.p, by simp [owner, hR], (List.getElem?_eq_some_iff.mp hq).1⟩
  | lose c k =>
    obtain ⟨C, hC, _⟩ := h
    exact ⟨C.t, by simp [owner, hC], (G.cg C (List.mem_of_getElem? hC)).2.1⟩
theorem Run.deeds {ds : List Deed} {w : Wd} (R : Run M ds w) : ∀ d ∈ ds, IsDeed M d := by
  induction R with
  | nil => exact fun _ h => nomatch h
  | snoc R hc ih =>
    intro d hd
    rcases List.mem_append.mp hd with hd | hd
    · exact ih d hd
    · rw [List.mem_singleton.mp hd]; exact hc.deed
theorem hist_owned {ds : List Deed} (h : ∀ d ∈ ds, IsDeed M d) : Owned M (hist M ds) := by
  refine ⟨by unfold hist; simp, fun p r hr d hd => ?_⟩
  have hl : p < M.ps.length := by have := (List.getElem?_eq_some_iff.mp hr).1; unfold hist at this; simpa using this
  rw [hist_get hl] at hr
  cases hr
  obtain ⟨h1, h2⟩ := List.mem_filter.mp hd
  exact ⟨h d h1, of_decide_eq_true h2⟩
theorem Steps.ext {rows' : List (List Deed)} (hx : ∀ (p : Nat) (r : List Deed), rows[p]? = some r → ∃ s, rows'[p]? = some (r ++ s)) {ds : List Deed} {w : Wd} (S : Steps M rows ds w n) : Steps M rows' ds w n := by
  induction S with
  | nil => exact .nil
  | snoc S h1 h2 h3 hc ih =>
    obtain ⟨s, hs⟩ := hx _ _ h2
    exact .snoc ih h1 hs (by rw [List.getElem?_append_left (List.getElem?_eq_some_iff.mp h3).1]; exact h3) hc
theorem hist_app {a b : List Deed} (p : Nat) (r : List Deed) (h : (hist M a)[p]? = some r) : ∃ s, (hist M (a ++ b))[p]? = some (r ++ s) := by
  have hl : p < M.ps.length := by have := (List.getElem?_eq_some_iff.mp h).1; unfold hist at this; simpa using this
  rw [hist_get hl] at h
  cases h
  rw [hist_get hl, List.filter_append]
  exact ⟨_, rfl⟩
theorem Run.steps (G : GoodN M) {ds : List Deed} {w : Wd} (R : Run M ds w) : Steps M (hist M ds) ds w (Cw.whole (hist M ds)) := by
  induction R with
  | nil =>
    have : Cw.whole (hist M []) = zer M := by
      unfold Cw.whole hist zer
      apply List.ext_getElem?
      intro i
      by_cases h : i < M.ps.length <;> simp [h]
    rw [this]; exact .nil
  | @snoc ds w d R hc ih =>
    obtain ⟨p, ho, hp⟩ := owner_some G hc.deed
    have := ih.ext (hist_app (b := [d]))
    have h1 : (Cw.whole (hist M ds))[p]? = some (ds.filter fun d => decide (owner M d = some p)).length := by
      unfold Cw.whole; rw [List.getElem?_map, hist_get hp]; rfl
    have h2 := hist_get (M := M) (ds := ds ++ [d]) hp
    have := Steps.snoc this h1 h2 (by rw [List.filter_append, List.getElem?_append_right (Nat.le_refl _), Nat.sub_self]; simp [ho]) hc
    have e : (Cw.whole (hist M ds)).set p ((ds.filter fun d => decide (owner M d = some p)).length + 1) = Cw.whole (hist M (ds ++ [d])) := by
      apply List.ext_getElem?
      intro i
      by_cases hi : i < M.ps.length
      · unfold Cw.whole
        rw [List.getElem?_map, hist_get hi]
        by_cases e : p = i
        · subst e
          rw [List.getElem?_set_self (by unfold hist; simp [hi])]
          simp [ho]
        · rw [List.getElem?_set_ne e, List.getElem?_map, hist_get hi]
          have : ¬ owner M d = some i := by rw [ho]; exact fun h => e (Option.some.inj h)
          simp [this]
      · rw [List.getElem?_eq_none (by unfold Cw.whole hist; simp; omega), List.getElem?_eq_none (by unfold Cw.whole hist; simp; omega)]
    rw [e] at this
    exact this
end
end Cw
namespace Cw
/-! ### the messages' events -/
section
variable {κ β : Type} [DecidableEq κ]
theorem get_put {l : List (κ × β)} {k k' : κ} {v : β} : getA (putA l k v) k' = if k' = k then some v else getA l k' := by
  unfold putA
  split
  · rename_i h
    unfold getA
    induction l with
    | nil => simp at h
    | cons x l ih =>
      rw [List.map_cons]
      by_cases e : x.1 = k
      · by_cases e2 : k' = k
        · subst e2; simp [e]
        · have n1 : ¬ x.1 = k' := fun z => e2 (by rw [← z, e])
          rw [if_pos e, List.find?_cons_of_neg (by simpa using n1), List.find?_cons_of_neg (by simpa using n1)]
          simp only [e2, if_false]
          by_cases h2 : (l.any fun kv => decide (kv.1 = k)) = true
          · rw [ih h2]; simp [e2]
          · congr 2
            rw [Bool.not_eq_true, List.any_eq_false] at h2
            conv => rhs; rw [← List.map_id l]
            exact List.map_congr_left fun y hy => by simp only [id]; rw [if_neg (by simpa using h2 y hy)]
      · have h2 : (l.any fun kv => decide (kv.1 = k)) = true := by simpa [e] using h
        rw [if_neg e]
        by_cases e3 : x.1 = k'
        · have : ¬ k' = k := fun z => e (by rw [e3, z])
          simp [e3, this]
        · rw [List.find?_cons_of_neg (by simpa using e3), List.find?_cons_of_neg (by simpa using e3)]
          exact ih h2
  · rename_i h
    unfold getA
    rw [List.find?_append]
    by_cases e2 : k' = k
    · subst e2
      have : (l.find? fun kv => decide (kv.1 = k')) = none := by
        rw [List.find?_eq_none]
        intro x hx
        have := List.any_eq_false.mp (Bool.eq_false_iff.mpr h) x hx
        simpa using this
      rw [this]; simp
    · have : ¬ k = k' := fun z => e2 z.symm
      simp [e2, this]
theorem put_len {l : List (κ × β)} {k : κ} {v : β} : (putA l k v).length ≤ l.length + 1 := by
  unfold putA
  split
  · rw [List.length_map]; omega
  · rw [List.length_append]; simp
end
abbrev Ev3 := Nat × Nat × Deed
def evs (rows : List (List Deed)) : List Ev3 := rows.zipIdx.flatMap fun q => q.1.zipIdx.map fun x => (q.2, x.2, x.1)
structure LS where
  sent : List ((Nat × Nat) × (Nat × Nat))
  ended : List ((Nat × Nat) × (Nat × Nat))
  token : List ((Nat × Nat) × Nat)
  lost : List (Nat × Nat)
  many : List Nat
def isLose : Deed → Bool
  | .lose _ _ => true
  | _ => false
def lookD (M : Nt) (s : LS) (e : Ev3) : LS := match remC M e.2.2 with
  | some m => { s with ended := putA s.ended m (e.1, e.2.1), lost := if isLose e.2.2 ∧ m ∉ s.lost then s.lost ++ [m] else s.lost }
  | none => (match sndC M e.2.2 with
    | some (c, t) => { s with sent := putA s.sent (c, (s.many[c]?).getD 0) (e.1, e.2.1), token := putA s.token (c, (s.many[c]?).getD 0) t, many := s.many.modify c (· + 1) }
    | none => s)
def ls0 (M : Nt) : LS := ⟨[], [], [], [], M.cs.map fun _ => 0⟩
def look (M : Nt) (es : List Ev3) : LS := es.foldl (lookD M) (ls0 M)
theorem look_snoc {M : Nt} {es : List Ev3} {e : Ev3} : look M (es ++ [e]) = lookD M (look M es) e := by
  unfold look; rw [List.foldl_append]; rfl
def sndOn (M : Nt) (c : Nat) (d : Deed) : Bool := (onC c (sndC M d)).isSome
def remIs (M : Nt) (m : Nat × Nat) (d : Deed) : Bool := decide (remC M d = some m)
theorem onC_some {c x : Nat} : onC c (some (c, x)) = some x := by simp [onC]
theorem onC_ne {c c' x : Nat} (h : c' ≠ c) : onC c (some (c', x)) = none := by simp [onC, h]
structure LSok (M : Nt) (es : List Ev3) (s : LS) : Prop where
  many : ∀ c, c < M.cs.length → s.many[c]? = some (es.filter fun e => sndOn M c e.2.2).length
  ml : s.many.length = M.cs.length
  sent : ∀ c k, getA s.sent (c, k) = ((es.filter fun e => sndOn M c e.2.2)[k]?).map fun e => (e.1, e.2.1)
  token : ∀ c k, getA s.token (c, k) = (es.filterMap fun e => onC c (sndC M e.2.2))[k]?
  ended : ∀ m, getA s.ended m = ((es.filter fun e => remIs M m e.2.2).getLast?).map fun e => (e.1, e.2.1)
  ln : s.sent.length ≤ es.length ∧ s.ended.length ≤ es.length ∧ s.token.length ≤ es.length ∧ s.lost.length ≤ es.length
theorem fm_len {M : Nt} {c : Nat} {es : List Ev3} : (es.filterMap fun e => onC c (sndC M e.2.2)).length = (es.filter fun e => sndOn M c e.2.2).length := by
  induction es with
  | nil => rfl
  | cons e es ih =>
    unfold sndOn
    cases h : onC c (sndC M e.2.2) with
    | none => simp only [List.filterMap_cons, List.filter_cons, h]; exact ih
    | some t => simp only [List.filterMap_cons, List.filter_cons, h, List.length_cons, ih, Option.isSome_some, if_true]; rfl
theorem snoc_ind {α : Type} {P : List α → Prop} (h0 : P []) (h : ∀ l x, P l → P (l ++ [x])) : ∀ l, P l := by
  intro l
  have : ∀ m : List α, P m.reverse := by
    intro m
    induction m with
    | nil => exact h0
    | cons x m ih => rw [List.reverse_cons]; exact h _ _ ih
  have := this l.reverse
  rwa [List.reverse_reverse] at this
theorem get_snoc {α : Type} {l : List α} {x : α} {k : Nat} : (l ++ [x])[k]? = if k = l.length then some x else l[k]? := by
  by_cases h : k = l.length
  · subst h; simp
  · rw [if_neg h]
    by_cases h2 : k < l.length
    · exact List.getElem?_append_left h2
    · rw [List.getElem?_eq_none (by simp; omega), List.getElem?_eq_none (by omega)]
theorem snd_lt {M : Nt} (G : GoodN M) {d : Deed} (hd : IsDeed M d) {c t : Nat} (h : sndC M d = some (c, t)) : c < M.cs.length := by
  obtain ⟨p, ho, _⟩ := owner_some G hd
  obtain ⟨C, hC, _⟩ := snd_owner G ho h
  exact (List.getElem?_eq_some_iff.mp hC).1
theorem look_ok {M : Nt} (G : GoodN M) {es : List Ev3} (hes : ∀ e ∈ es, IsDeed M e.2.2) : LSok M es (look M es) := by
  revert hes
  refine snoc_ind (P := fun es => (∀ e ∈ es, IsDeed M e.2.2) → LSok M es (look M es)) ?_ ?_ es
  · intro _
    refine ⟨fun c hc => by simp [look, ls0, hc], by simp [look, ls0], fun c k => rfl, fun c k => rfl, fun m => rfl, by simp [look, ls0]⟩
  · intro es e ih hes
    have I := ih fun x hx => hes x (List.mem_append_left _ hx)
    have hd := hes e (by simp)
    rw [look_snoc]
    generalize look M es = s at I
    obtain ⟨l1, l2, l3, l4⟩ := I.ln
    unfold lookD
    cases hr : remC M e.2.2 with
    | some m =>
      have hs : sndC M e.2.2 = none := by
        cases he : e.2.2 with
        | act r => rw [he] at hr; cases hr
        | take r k => rfl
        | lose c k => rfl
      have f0 : ∀ c, sndOn M c e.2.2 = false := fun c => by unfold sndOn; rw [hs]; rfl
      refine ⟨fun c hc => ?_, I.ml, fun c k => ?_, fun c k => ?_, fun m' => ?_, ?_⟩
      · simp only; rw [I.many c hc, List.filter_append]; simp [f0]
      · simp only; rw [I.sent, List.filter_append]; simp [f0]
      · simp only; rw [I.token, List.filterMap_append]; simp [hs, onC]
      · simp only
        rw [get_put, I.ended, List.filter_append]
        by_cases h : m' = m
        · subst h; simp [remIs, hr]
        · have : ¬ m = m' := fun z => h z.symm
          simp [remIs, hr, h, this]
      · simp only [List.length_append, List.length_singleton]
        have := put_len (l := s.ended) (k := m) (v := (e.1, e.2.1))
        refine ⟨by omega, by omega, by omega, ?_⟩
        split
        · rw [List.length_append]; simp; omega
        · omega
    | none =>
      have r0 : ∀ m, remIs M m e.2.2 = false := fun m => by unfold remIs; rw [hr]; rfl
      cases hs : sndC M e.2.2 with
      | none =>
        have f0 : ∀ c, sndOn M c e.2.2 = false := fun c => by unfold sndOn; rw [hs]; rfl
        refine ⟨fun c hc => ?_, I.ml, fun c k => ?_, fun c k => ?_, fun m' => ?_, ?_⟩
        · simp only; rw [I.many c hc, List.filter_append]; simp [f0]
        · simp only; rw [I.sent, List.filter_append]; simp [f0]
        · simp only; rw [I.token, List.filterMap_append]; simp [hs, onC]
        · simp only; rw [I.ended, List.filter_append]; simp [r0]
        · simp only [List.length_append, List.length_singleton]; omega
      | some x =>
        obtain ⟨c0, t⟩ := x
        have hc0 := snd_lt G hd hs
        have hm := I.many c0 hc0
        have f0 : ∀ c, c ≠ c0 → sndOn M c e.2.2 = false := fun c h => by unfold sndOn; rw [hs, onC_ne (Ne.symm h)]; rfl
        have f1 : sndOn M c0 e.2.2 = true := by unfold sndOn; rw [hs, onC_some]; rfl
        simp only
        rw [hm]
        refine ⟨fun c hc => ?_, ?_, fun c k => ?_, fun c k => ?_, fun m' => ?_, ?_⟩
        · simp only
          rw [List.getElem?_modify, I.many c hc, List.filter_append]
          by_cases h : c0 = c
          · subst h; simp [f1]
          · simp [f0 c (Ne.symm h), h]
        · simp only; rw [List.length_modify]; exact I.ml
        · simp only
          rw [get_put, I.sent, List.filter_append]
          by_cases h : c = c0
          · subst h
            have : List.filter (fun e : Ev3 => sndOn M c e.2.2) [e] = [e] := by simp [f1]
            rw [this, get_snoc]
            simp only [Prod.mk.injEq, true_and, Option.getD_some]
            split <;> rfl
          · simp [h, f0 c h]
        · simp only
          rw [get_put, I.token, List.filterMap_append]
          by_cases h : c = c0
          · subst h
            have : List.filterMap (fun e : Ev3 => onC c (sndC M e.2.2)) [e] = [t] := by simp [hs, onC]
            rw [this, get_snoc, fm_len]
            simp only [Prod.mk.injEq, true_and, Option.getD_some]
          · have : List.filterMap (fun e : Ev3 => onC c (sndC M e.2.2)) [e] = [] := by simp [hs, onC, Ne.symm h]
            simp [h, this]
        · simp only; rw [I.ended, List.filter_append]; simp [r0]
        · simp only [List.length_append, List.length_singleton]
          have h1 := put_len (l := s.sent) (k := (c0, (some (es.filter fun e => sndOn M c0 e.2.2).length).getD 0)) (v := (e.1, e.2.1))
          have h2 := put_len (l := s.token) (k := (c0, (some (es.filter fun e => sndOn M c0 e.2.2).length).getD 0)) (v := t)
          omega
end Cw
namespace Cw
theorem evs_mem {rows : List (List Deed)} {p i : Nat} {d : Deed} : (p, i, d) ∈ evs rows ↔ ∃ r, rows[p]? = some r ∧ r[i]? = some d := by
  unfold evs
  rw [List.mem_flatMap]
  constructor
  · rintro ⟨⟨r, q⟩, h1, h2⟩
    rw [List.mem_map] at h2
    obtain ⟨⟨d', j⟩, h3, h4⟩ := h2
    simp only [Prod.mk.injEq] at h4
    obtain ⟨rfl, rfl, rfl⟩ := h4
    exact ⟨r, List.mem_zipIdx_iff_getElem?.mp h1, List.mem_zipIdx_iff_getElem?.mp h3⟩
  · rintro ⟨r, h1, h2⟩
    exact ⟨(r, p), List.mem_zipIdx_iff_getElem?.mpr h1, List.mem_map.mpr ⟨(d, i), List.mem_zipIdx_iff_getElem?.mpr h2, rfl⟩⟩
/-- only one row's part is not empty -/
theorem flat_one {α β : Type} {f : α × Nat → List β} {g : Nat} : ∀ {l : List α} {o : Nat}, (∀ x ∈ l.zipIdx o, x.2 ≠ g → f x = []) → (l.zipIdx o).flatMap f = match l[g - o]? with
    | some a => if o ≤ g then f (a, g) else []
    | none => []
  | [], o, _ => rfl
  | a :: l, o, h => by
    rw [List.zipIdx_cons, List.flatMap_cons]
    have ih := flat_one (l := l) (o := o + 1) fun x hx => h x (by rw [List.zipIdx_cons]; exact List.mem_cons_of_mem _ hx)
    rw [ih]
    by_cases e : o = g
    · subst e
      simp only [Nat.sub_self, List.getElem?_cons_zero, if_pos (Nat.le_refl o)]
      split
      · rw [if_neg (by omega), List.append_nil]
      · rw [List.append_nil]
    · rw [h (a, o) (by rw [List.zipIdx_cons]; exact List.mem_cons_self) e, List.nil_append]
      by_cases h2 : o ≤ g
      · have : g - o = (g - (o + 1)) + 1 := by omega
        rw [this, List.getElem?_cons_succ]
        split
        · rw [if_pos (by omega), if_pos h2]
        · rfl
      · simp only [if_neg h2, if_neg (show ¬ o + 1 ≤ g by omega)]
        split <;> split <;> rfl
theorem filt_idx {α : Type} {P : α → Bool} : ∀ {r : List α} {o k : Nat} {d : α} {j : Nat}, ((r.zipIdx o).filter fun x => P x.1)[k]? = some (d, j) → ∃ i, j = o + i ∧ r[i]? = some d ∧ P d = true ∧ ((r.take i).filter P).length = k
  | [], o, k, d, j, h => by simp at h
  | a :: r, o, k, d, j, h => by
    rw [List.zipIdx_cons] at h
    cases e : P a with
    | false =>
      rw [List.filter_cons_of_neg (by simp [e])] at h
      obtain ⟨i, h1, h2, h3, h4⟩ := filt_idx h
      exact ⟨i + 1, by omega, h2, h3, by rw [List.take_succ_cons, List.filter_cons_of_neg (by simp [e])]; exact h4⟩
    | true =>
      rw [List.filter_cons_of_pos (by simp [e])] at h
      cases k with
      | zero =>
        simp only [List.getElem?_cons_zero, Option.some.injEq, Prod.mk.injEq] at h
        obtain ⟨rfl, rfl⟩ := h
        exact ⟨0, rfl, rfl, e, rfl⟩
      | succ k =>
        rw [List.getElem?_cons_succ] at h
        obtain ⟨i, h1, h2, h3, h4⟩ := filt_idx h
        exact ⟨i + 1, by omega, h2, h3, by rw [List.take_succ_cons, List.filter_cons_of_pos (by simp [e]), List.length_cons, h4]⟩
theorem filt_len {α : Type} {P : α → Bool} {r : List α} {o : Nat} : ((r.zipIdx o).filter fun x => P x.1).length = (r.filter P).length := by
  induction r generalizing o with
  | nil => rfl
  | cons a r ih =>
    rw [List.zipIdx_cons]
    cases e : P a with
    | false => simp only [List.filter_cons, e]; exact ih
    | true => simp only [List.filter_cons, e, if_true, List.length_cons]; rw [ih]
theorem toks_len {M : Nt} {c : Nat} {r : List Deed} : (toks M c r).length = (r.filter (sndOn M c)).length := by
  unfold toks
  induction r with
  | nil => rfl
  | cons e r ih =>
    unfold sndOn
    cases h : onC c (sndC M e) with
    | none => simp only [List.filterMap_cons, List.filter_cons, h]; exact ih
    | some t => simp only [List.filterMap_cons, List.filter_cons, h, List.length_cons, ih, Option.isSome_some, if_true]; rfl
section
variable {M : Nt} {rows : List (List Deed)}
theorem snd_on_ne (G : GoodN M) (O : Owned M rows) {c p : Nat} {C : Chan} (hC : M.cs[c]? = some C) {r : List Deed} (hr : rows[p]? = some r) (h : p ≠ C.g) : ∀ d ∈ r, sndOn M c d = false := by
  intro d hd
  have ho := (O.ok p r hr d hd).2
  have := toks_one_ne G ho hC (Ne.symm h)
  rw [toks_one] at this
  unfold sndOn
  cases e : onC c (sndC M d) with
  | none => rfl
  | some t => rw [e] at this; cases this
theorem evs_snd (G : GoodN M) (O : Owned M rows) {c : Nat} {C : Chan} (hC : M.cs[c]? = some C) : (evs rows).filter (fun e => sndOn M c e.2.2) = (((rows[C.g]?.getD []).zipIdx).filter fun x => sndOn M c x.1).map fun x => (C.g, x.2, x.1) := by
  unfold evs
  rw [List.filter_flatMap, flat_one (g := C.g)]
  · rw [Nat.sub_zero]
    cases h : rows[C.g]? with
    | none => rfl
    | some r => simp only [if_pos (Nat.zero_le _), Option.getD_some]; rw [List.filter_map]; rfl
  · rintro ⟨r, p⟩ hx hp
    rw [List.mem_zipIdx_iff_getElem?] at hx
    rw [List.filter_map, List.map_eq_nil_iff, List.filter_eq_nil_iff]
    rintro ⟨d, i⟩ hd
    have := snd_on_ne G O hC hx hp d (List.mem_of_getElem? (List.mem_zipIdx_iff_getElem?.mp hd))
    simp [Function.comp, this]
/-- where a message is sent -/
structure SendAt (M : Nt) (rows : List (List Deed)) (c k g j : Nat) : Prop where
  ch : ∃ C, M.cs[c]? = some C ∧ C.g = g
  ex : ∃ r d, rows[g]? = some r ∧ r[j]? = some d ∧ sndOn M c d = true ∧ (toks M c (r.take j)).length = k
theorem SendAt.tk {c k g j : Nat} (S : SendAt M rows c k g j) (n : List Nat) : k < (tk M rows n c).length ↔ j < n[g]?.getD 0 := by
  obtain ⟨⟨C, hC, rfl⟩, r, d, hr, hd, hs, hk⟩ := S
  unfold Cw.tk
  rw [hC]
  simp only
  unfold px
  rw [hr]
  simp only [Option.getD_some]
  constructor
  · intro h
    apply Classical.byContradiction
    intro h2
    have : r.take (n[C.g]?.getD 0) <+: r.take j := List.take_prefix_take_left (by omega)
    obtain ⟨s, hs'⟩ := this
    rw [← hs', toks_app, List.length_append] at hk
    omega
  · intro h
    have : r.take (j + 1) <+: r.take (n[C.g]?.getD 0) := List.take_prefix_take_left (by omega)
    obtain ⟨s, hs'⟩ := this
    rw [← hs', toks_app, List.length_append, List.take_add_one, hd, toks_app, List.length_append, hk]
    have : (toks M c (some d).toList).length = 1 := by
      show (toks M c [d]).length = 1
      rw [toks_len]; simp [hs]
    omega
variable {s : LS}
theorem LSok.sentAt (G : GoodN M) (O : Owned M rows) (I : LSok M (evs rows) s) {c k g j : Nat} (h : getA s.sent (c, k) = some (g, j)) (hc : c < M.cs.length) : SendAt M rows c k g j := by
  rw [I.sent, evs_snd G O (List.getElem?_eq_getElem hc), List.getElem?_map] at h
  cases e : (List.filter (fun x => sndOn M c x.1) (rows[M.cs[c].g]?.getD []).zipIdx)[k]? with
  | none => rw [e] at h; cases h
  | some x =>
    obtain ⟨d, j'⟩ := x
    rw [e] at h
    simp only [Option.map_some, Option.some.injEq, Prod.mk.injEq] at h
    obtain ⟨rfl, rfl⟩ := h
    obtain ⟨i, h1, h2, h3, h4⟩ := filt_idx e
    rw [Nat.zero_add] at h1
    subst h1
    cases hr : rows[M.cs[c].g]? with
    | none => rw [hr] at h2; simp at h2
    | some r =>
      rw [hr] at h2 h4
      exact ⟨⟨_, List.getElem?_eq_getElem hc, rfl⟩, r, d, hr, h2, h3, by rw [toks_len]; exact h4⟩
theorem tk_whole {c : Nat} {C : Chan} (hC : M.cs[c]? = some C) : tk M rows (whole rows) c = toks M c (rows[C.g]?.getD []) := by
  unfold tk
  rw [hC]
  simp only
  unfold px
  rw [whole_get, List.take_length]
theorem LSok.sentEx (G : GoodN M) (O : Owned M rows) (I : LSok M (evs rows) s) {c k : Nat} (hk : k < (tk M rows (whole rows) c).length) : ∃ g j, getA s.sent (c, k) = some (g, j) ∧ SendAt M rows c k g j ∧ j < (rows[g]?.getD []).length := by
  have hc : c < M.cs.length := by
    apply Classical.byContradiction
    intro h
    unfold tk at hk
    rw [List.getElem?_eq_none (by omega)] at hk
    simp at hk
  have hC := List.getElem?_eq_getElem hc
  obtain ⟨⟨g, j⟩, hx⟩ : ∃ x, getA s.sent (c, k) = some x := by
    rw [I.sent, evs_snd G O hC, List.getElem?_map]
    rw [tk_whole hC, toks_len, ← filt_len (o := 0)] at hk
    rw [List.getElem?_eq_getElem hk]
    exact ⟨_, rfl⟩
  have S := I.sentAt G O hx hc
  refine ⟨g, j, hx, S, ?_⟩
  obtain ⟨r, d, hr, hd, _⟩ := S.ex
  rw [hr]
  exact (List.getElem?_eq_some_iff.mp hd).1
theorem LSok.sentNone (G : GoodN M) (O : Owned M rows) (I : LSok M (evs rows) s) {c k : Nat} {x : Nat × Nat} (h : getA s.sent (c, k) = some x) : k < (tk M rows (whole rows) c).length := by
  obtain ⟨g, j⟩ := x
  have hc : c < M.cs.length := by
    apply Classical.byContradiction
    intro hc
    rw [I.sent] at h
    have : (evs rows).filter (fun e => sndOn M c e.2.2) = [] := by
      rw [List.filter_eq_nil_iff]
      rintro ⟨p, i, d⟩ hd
      obtain ⟨r, h1, h2⟩ := evs_mem.mp hd
      have hdd := (O.ok p r h1 d (List.mem_of_getElem? h2)).1
      simp only [sndOn]
      cases e : sndC M d with
      | none => simp [onC]
      | some y =>
        have := snd_lt G hdd (c := y.1) (t := y.2) e
        rw [show (some y : Option (Nat × Nat)) = some (y.1, y.2) from rfl, onC_ne (by omega)]
        simp
    rw [this] at h
    cases h
  have S := I.sentAt G O h hc
  rw [S.tk, whole_get]
  obtain ⟨r, d, hr, hd, _⟩ := S.ex
  rw [hr]
  exact (List.getElem?_eq_some_iff.mp hd).1
theorem LSok.tok (G : GoodN M) (O : Owned M rows) (I : LSok M (evs rows) s) {c k : Nat} (hc : c < M.cs.length) : getA s.token (c, k) = (tk M rows (whole rows) c)[k]? := by
  rw [I.token, tk_whole (List.getElem?_eq_getElem hc)]
  congr 1
  unfold evs toks
  rw [List.filterMap_flatMap, flat_one (g := M.cs[c].g)]
  · rw [Nat.sub_zero]
    cases h : rows[M.cs[c].g]? with
    | none => rfl
    | some r =>
      simp only [if_pos (Nat.zero_le _), Option.getD_some]
      rw [List.filterMap_map]
      conv => rhs; rw [← List.zipIdx_map_fst 0 r]
      rw [List.filterMap_map]
      rfl
  · rintro ⟨r, p⟩ hx hp
    rw [List.mem_zipIdx_iff_getElem?] at hx
    rw [List.filterMap_eq_nil_iff]
    intro x hx2
    obtain ⟨⟨d, i⟩, hd, rfl⟩ := List.mem_map.mp hx2
    have := snd_on_ne G O (List.getElem?_eq_getElem hc) hx hp d (List.mem_of_getElem? (List.mem_zipIdx_iff_getElem?.mp hd))
    simpa [sndOn] using this
theorem LSok.endAt (I : LSok M (evs rows) s) {m : Nat × Nat} {p i : Nat} (h : getA s.ended m = some (p, i)) : ∃ r d, rows[p]? = some r ∧ r[i]? = some d ∧ remC M d = some m := by
  rw [I.ended] at h
  cases e : ((evs rows).filter fun e => remIs M m e.2.2).getLast? with
  | none => rw [e] at h; cases h
  | some x =>
    obtain ⟨p', i', d⟩ := x
    rw [e] at h
    simp only [Option.map_some, Option.some.injEq, Prod.mk.injEq] at h
    obtain ⟨rfl, rfl⟩ := h
    obtain ⟨h1, h2⟩ := List.mem_filter.mp (List.mem_of_getLast? e)
    obtain ⟨r, h3, h4⟩ := evs_mem.mp h1
    exact ⟨r, d, h3, h4, by simpa [remIs] using h2⟩
end
end Cw
namespace Cw
/-! ### clocks -/
abbrev Sent := List ((Nat × Nat) × (Nat × Nat))
def lastClk (cl : List (List (List Nat))) (p : Nat) (z : List Nat) : List Nat := ((cl[p]?.getD []).getLast?).getD z
def c1Of (M : Nt) (sent : Sent) (cl : List (List (List Nat))) (d : Deed) (c0 : List Nat) : List Nat := match remC M d with
  | some m => (match getA sent m with
    | some (g, j) => List.zipWith max c0 (((cl[g]?.getD [])[j]?).getD [])
    | none => c0)
  | none => c0
def clkN (M : Nt) (sent : Sent) (cl : List (List (List Nat))) (d : Deed) : List Nat :=
  (c1Of M sent cl d (lastClk cl ((owner M d).getD 0) (M.ps.map fun _ => 0))).set ((owner M d).getD 0) ((cl[(owner M d).getD 0]?.getD []).length + 1)
def clkD (M : Nt) (sent : Sent) (cl : List (List (List Nat))) (d : Deed) : List (List (List Nat)) := cl.modify ((owner M d).getD 0) (· ++ [clkN M sent cl d])
def cl0 (M : Nt) : List (List (List Nat)) := M.ps.map fun _ => []
def clks (M : Nt) (sent : Sent) (run : List Deed) : List (List (List Nat)) := run.foldl (clkD M sent) (cl0 M)
theorem clks_snoc {M : Nt} {sent : Sent} {run : List Deed} {d : Deed} : clks M sent (run ++ [d]) = clkD M sent (clks M sent run) d := by
  unfold clks; rw [List.foldl_append]; rfl
def ck (cl : List (List (List Nat))) (p i : Nat) : Option (List Nat) := (cl[p]?.getD [])[i]?
/-- what a deed's clock asks for is there -/
def ClkOk1 (M : Nt) (sent : Sent) (cl : List (List (List Nat))) (d : Deed) : Prop := (∃ p, owner M d = some p ∧ p < M.ps.length) ∧ (∀ m, remC M d = some m → ∃ g j c, getA sent m = some (g, j) ∧ ck cl g j = some c ∧ c.length = M.ps.length) ∧ ∀ (p i : Nat) (c : List Nat), ck cl p i = some c → c.length = M.ps.length
structure ClkInv (M : Nt) (rows : List (List Deed)) (sent : Sent) (n : List Nat) (cl : List (List (List Nat))) : Prop where
  len : cl.length = M.ps.length
  rl : ∀ p : Nat, (cl[p]?.getD []).length = n[p]?.getD 0
  cln : ∀ (p i : Nat) (c : List Nat), ck cl p i = some c → c.length = M.ps.length
  own : ∀ (p i : Nat) (c : List Nat), ck cl p i = some c → c[p]?.getD 0 = i + 1
  bnd : ∀ (p i : Nat) (c : List Nat), ck cl p i = some c → leL c n
  mono : ∀ (p i j : Nat) (c e : List Nat), ck cl p i = some c → ck cl p j = some e → i ≤ j → leL c e
  rem : ∀ (p i : Nat) (c : List Nat) (r : List Deed) (d : Deed) (m : Nat × Nat) (g j : Nat), ck cl p i = some c → rows[p]? = some r → r[i]? = some d → remC M d = some m → getA sent m = some (g, j) → ∃ e, ck cl g j = some e ∧ leL e c
  min : ∀ (p i : Nat) (c : List Nat) (ys : List Nat), ck cl p i = some c → Closed M rows ys → i < ys[p]?.getD 0 → leL c ys
theorem leL_refl (n : List Nat) : leL n n := fun _ => Nat.le_refl _
theorem leL_trans {a b c : List Nat} (h1 : leL a b) (h2 : leL b c) : leL a c := fun q => Nat.le_trans (h1 q) (h2 q)
theorem set_getD {l : List Nat} {p q v : Nat} (hp : p < l.length) : (l.set p v)[q]?.getD 0 = if q = p then v else l[q]?.getD 0 := by
  by_cases h : q = p
  · subst h; rw [List.getElem?_set_self hp, if_pos rfl]; rfl
  · rw [List.getElem?_set_ne (Ne.symm h), if_neg h]
theorem ck_step {cl : List (List (List Nat))} {p i : Nat} {nc : List Nat} (hp : p < cl.length) (hi : (cl[p]?.getD []).length = i) (q j : Nat) : ck (cl.modify p (· ++ [nc])) q j = if q = p ∧ j = i then some nc else ck cl q j := by
  unfold ck
  rw [List.getElem?_modify]
  by_cases h : p = q
  · subst h
    have hr := List.getElem?_eq_getElem hp
    rw [hr] at hi ⊢
    simp only [Option.getD_some] at hi
    simp only [if_pos, Option.map_some, Option.getD_some, Option.map_eq_map]
    rw [get_snoc, hi]
    by_cases h2 : j = i <;> simp [h2]
  · have : ¬ q = p := fun z => h z.symm
    simp only [this, false_and, if_false]
    simp [h]
theorem zip_getD {a b : List Nat} {q : Nat} (h : a.length = b.length) : (List.zipWith max a b)[q]?.getD 0 = max (a[q]?.getD 0) (b[q]?.getD 0) := by
  rw [List.getElem?_zipWith]
  by_cases hq : q < a.length
  · rw [List.getElem?_eq_getElem hq, List.getElem?_eq_getElem (by omega)]; rfl
  · rw [List.getElem?_eq_none (by omega), List.getElem?_eq_none (by omega)]; rfl
theorem gn_mem {M : Nt} {rows : List (List Deed)} {ys : List Nat} (G : GoodN M) {p i c k : Nat} {r : List Deed} {d : Deed} (ho : owner M d = some p) (hr : rows[p]? = some r) (hd : r[i]? = some d) (hm : remC M d = some (c, k)) (hi : i < ys[p]?.getD 0) : k ∈ gn M rows ys c := by
  obtain ⟨C, hC, rfl⟩ := rem_owner G ho hm
  unfold gn
  rw [hC]
  simp only
  unfold gone px
  rw [hr, List.mem_filterMap]
  refine ⟨d, ?_, by rw [hm, onC_some]⟩
  simp only [Option.getD_some]
  exact List.mem_of_getElem? (i := i) (by rw [List.getElem?_take_of_lt hi]; exact hd)
section
variable {M : Nt} {rows : List (List Deed)} {s : LS}
theorem Steps.clk (G : GoodN M) (O : Owned M rows) (I : LSok M (evs rows) s) {ds : List Deed} {w : Wd} {n : List Nat} (S : Steps M rows ds w n) :
    ClkInv M rows s.sent n (clks M s.sent ds) ∧ ∀ (t : Nat) (d : Deed), ds[t]? = some d → ClkOk1 M s.sent (clks M s.sent (ds.take t)) d := by
  induction S with
  | nil =>
    have e0 : ∀ p i, ck (clks M s.sent []) p i = none := by
      intro p i
      unfold ck clks cl0
      simp only [List.foldl_nil, List.getElem?_map]
      cases M.ps[p]? <;> simp
    refine ⟨⟨by simp [clks, cl0], fun p => ?_, ?_, ?_, ?_, ?_, ?_, ?_⟩, fun t d h => by simp at h⟩
    · rw [zer_get]
      unfold clks cl0
      simp only [List.foldl_nil, List.getElem?_map]
      cases M.ps[p]? <;> simp
    all_goals intro p i
    · intro c h; rw [e0] at h; cases h
    · intro c h; rw [e0] at h; cases h
    · intro c h; rw [e0] at h; cases h
    · intro j c e h; rw [e0] at h; cases h
    · intro c r d m g j h; rw [e0] at h; cases h
    · intro c ys h; rw [e0] at h; cases h
  | @snoc ds w n p i r d S h1 h2 h3 hc ih =>
    obtain ⟨V, hok⟩ := ih
    obtain ⟨hw, hcl, hnl, hnb⟩ := S.inv G O
    obtain ⟨hdd, ho⟩ := O.ok p r h2 d (List.mem_of_getElem? h3)
    have hpn := (List.getElem?_eq_some_iff.mp h1).1
    have hpP : p < M.ps.length := by omega
    have hnp : n[p]?.getD 0 = i := by rw [h1]; rfl
    have hrl := V.rl p
    rw [hnp] at hrl
    generalize hcl2 : clks M s.sent ds = cl at V hrl
    -- the sender's clock
    have hsend : ∀ m, remC M d = some m → ∃ g j c, getA s.sent m = some (g, j) ∧ ck cl g j = some c ∧ SendAt M rows m.1 m.2 g j := by
      rintro ⟨c, k⟩ hm
      rw [hw] at hc
      have hk := (can_rem hc hm).1
      have hk2 : k < (tk M rows (Cw.whole rows) c).length := by
        obtain ⟨s', hs'⟩ := tk_le (M := M) (rows := rows) (n := n) (n' := Cw.whole rows) (fun q => by rw [whole_get]; exact hnb q) c
        rw [hs', List.length_append]; omega
      obtain ⟨g, j, hg, hS, _⟩ := I.sentEx G O hk2
      have hj := (hS.tk n).mp hk
      rw [← V.rl g] at hj
      exact ⟨g, j, _, hg, List.getElem?_eq_getElem hj, hS⟩
    have hk1 : ClkOk1 M s.sent cl d := by
      refine ⟨⟨p, ho, hpP⟩, fun m hm => ?_, V.cln⟩
      obtain ⟨g, j, c, q1, q2, _⟩ := hsend m hm
      exact ⟨g, j, c, q1, q2, V.cln _ _ _ q2⟩
    refine ⟨?_, fun t d' h => ?_⟩
    · rw [clks_snoc, hcl2]
      unfold clkD
      rw [ho]
      simp only [Option.getD_some]
      -- the old clock
      obtain ⟨c0, hc0⟩ : ∃ c0, lastClk cl p (M.ps.map fun _ => 0) = c0 := ⟨_, rfl⟩
      have c0len : c0.length = M.ps.length := by
        rw [← hc0]; unfold lastClk
        cases e : (cl[p]?.getD []).getLast? with
        | none => simp
        | some x =>
          rw [List.getLast?_eq_getElem?] at e
          exact V.cln p _ x e
      have c0le : leL c0 n := by
        rw [← hc0]; unfold lastClk
        cases e : (cl[p]?.getD []).getLast? with
        | none =>
          intro q
          rw [show ((none : Option (List Nat)).getD (M.ps.map fun _ => 0)) = zer M from rfl, zer_get]; omega
        | some x =>
          rw [List.getLast?_eq_getElem?] at e
          exact V.bnd p _ x e
      have c0prev : ∀ j c, j < i → ck cl p j = some c → leL c c0 := by
        intro j c hj hjc
        rw [← hc0]; unfold lastClk
        cases e : (cl[p]?.getD []).getLast? with
        | none => rw [List.getLast?_eq_none_iff] at e; rw [e] at hrl; simp at hrl; omega
        | some x =>
          rw [List.getLast?_eq_getElem?] at e
          exact V.mono p j _ c x hjc e (by omega)
      have c0min : ∀ ys, Closed M rows ys → i < ys[p]?.getD 0 → leL c0 ys := by
        intro ys hys hi
        rw [← hc0]; unfold lastClk
        cases e : (cl[p]?.getD []).getLast? with
        | none =>
          intro q
          rw [show ((none : Option (List Nat)).getD (M.ps.map fun _ => 0)) = zer M from rfl, zer_get]; omega
        | some x =>
          rw [List.getLast?_eq_getElem?] at e
          exact V.min p _ x ys e hys (by omega)
      -- the clock behind the sender's
      obtain ⟨c1, hc1⟩ : ∃ c1, c1Of M s.sent cl d c0 = c1 := ⟨_, rfl⟩
      have c1f : c1.length = M.ps.length ∧ leL c0 c1 ∧ leL c1 n ∧ (∀ m g j, remC M d = some m → getA s.sent m = some (g, j) → ∃ e, ck cl g j = some e ∧ leL e c1) ∧ ∀ ys, Closed M rows ys → i < ys[p]?.getD 0 → leL c1 ys := by
        rw [← hc1]
        unfold c1Of
        cases hm : remC M d with
        | none => exact ⟨c0len, leL_refl _, c0le, (fun m g j h => by cases h), c0min⟩
        | some m =>
          obtain ⟨g, j, e, q1, q2, q3⟩ := hsend m hm
          simp only [q1]
          have q2' := q2
          unfold ck at q2'
          rw [q2']
          simp only [Option.getD_some]
          have el := V.cln _ _ _ q2
          have hz : c0.length = e.length := by omega
          refine ⟨by rw [List.length_zipWith]; omega, fun q => by rw [zip_getD hz]; omega, fun q => ?_, ?_, fun ys hys hi q => ?_⟩
          · rw [zip_getD hz]
            have := c0le q
            have := V.bnd _ _ _ q2 q
            omega
          · rintro m' g' j' hm' hg'
            cases hm'
            rw [q1] at hg'
            cases hg'
            exact ⟨e, q2, fun q => by rw [zip_getD hz]; omega⟩
          · rw [zip_getD hz]
            have e1 := c0min ys hys hi q
            have hk := hys m.1 m.2 (gn_mem G ho h2 h3 (c := m.1) (k := m.2) hm hi)
            rw [q3.tk] at hk
            have e2 := V.min _ _ _ ys q2 hys hk q
            omega
      obtain ⟨c1len, c01, c1n, c1s, c1min⟩ := c1f
      obtain ⟨nc, hnc⟩ : ∃ nc, clkN M s.sent cl d = nc := ⟨_, rfl⟩
      have ncE : nc = c1.set p (i + 1) := by
        rw [← hnc]; unfold clkN; rw [ho]; simp only [Option.getD_some]; rw [hc0, hc1, hrl]
      have ncG : ∀ q : Nat, nc[q]?.getD 0 = if q = p then i + 1 else c1[q]?.getD 0 := fun q => by rw [ncE]; exact set_getD (by omega)
      have c1nc : leL c1 nc := fun q => by
        rw [ncG]
        split
        · rename_i h; subst h; have := c1n q; rw [hnp] at this; omega
        · exact Nat.le_refl _
      rw [hnc]
      have hcs := ck_step (cl := cl) (p := p) (i := i) (nc := nc) (by rw [V.len]; exact hpP) hrl
      have nG : ∀ q : Nat, (n.set p (i + 1))[q]?.getD 0 = if q = p then i + 1 else n[q]?.getD 0 := fun q => set_getD hpn
      have nle : leL n (n.set p (i + 1)) := fun q => by
        rw [nG]; split
        · rename_i h; subst h; omega
        · exact Nat.le_refl _
      have old : ∀ {q j c}, ck cl q j = some c → j < n[q]?.getD 0 := by
        intro q j c h
        rw [← V.rl q]
        exact (List.getElem?_eq_some_iff.mp h).1
      have keep : ∀ {q j c}, ck cl q j = some c → ck (cl.modify p (· ++ [nc])) q j = some c := by
        intro q j c h
        rw [hcs, if_neg]; · exact h
        rintro ⟨rfl, rfl⟩
        have := old h
        omega
      refine ⟨by rw [List.length_modify]; exact V.len, fun q => ?_, ?_, ?_, ?_, ?_, ?_, ?_⟩
      · rw [List.getElem?_modify, nG]
        by_cases e : p = q
        · subst e
          have hr := List.getElem?_eq_getElem (l := cl) (i := p) (by rw [V.len]; exact hpP)
          rw [hr] at hrl ⊢
          simp only [Option.getD_some] at hrl
          simp [hrl]
        · rw [if_neg (Ne.symm e)]
          have := V.rl q
          simpa [e] using this
      · intro q j c h
        rw [hcs] at h
        split at h
        · cases h; rw [ncE, List.length_set]; exact c1len
        · exact V.cln _ _ _ h
      · intro q j c h
        rw [hcs] at h
        split at h
        · rename_i e; obtain ⟨rfl, rfl⟩ := e; cases h; rw [ncG, if_pos rfl]
        · exact V.own _ _ _ h
      · intro q j c h
        rw [hcs] at h
        split at h
        · cases h
          intro q'
          rw [ncG, nG]
          split
          · omega
          · exact c1n q'
        · exact leL_trans (V.bnd _ _ _ h) nle
      · intro q j j2 c e h h' hjj
        rw [hcs] at h h'
        split at h
        · rename_i e1
          obtain ⟨rfl, rfl⟩ := e1
          cases h
          split at h'
          · cases h'; exact leL_refl _
          · have := old h'; omega
        · split at h'
          · rename_i e1
            obtain ⟨rfl, rfl⟩ := e1
            cases h'
            have := old h
            exact leL_trans (c0prev j c (by omega) h) (leL_trans c01 c1nc)
          · exact V.mono _ _ _ _ _ h h' hjj
      · intro q j c r' d' m g j2 h hr' hd' hm hg
        rw [hcs] at h
        split at h
        · rename_i e1
          obtain ⟨rfl, rfl⟩ := e1
          cases h
          rw [h2] at hr'; cases hr'
          rw [h3] at hd'; cases hd'
          obtain ⟨e, k1, k2⟩ := c1s m g j2 hm hg
          exact ⟨e, keep k1, leL_trans k2 c1nc⟩
        · obtain ⟨e, k1, k2⟩ := V.rem _ _ _ _ _ _ _ _ h hr' hd' hm hg
          exact ⟨e, keep k1, k2⟩
      · intro q j c ys h hys hj
        rw [hcs] at h
        split at h
        · rename_i e1
          obtain ⟨rfl, rfl⟩ := e1
          cases h
          intro q'
          rw [ncG]
          split
          · rename_i e2; subst e2; omega
          · exact c1min ys hys hj q'
        · exact V.min _ _ _ _ h hys hj
    · rw [get_snoc] at h
      split at h
      · rename_i e
        subst e
        cases h
        rw [List.take_left, hcl2]
        exact hk1
      · have ht := (List.getElem?_eq_some_iff.mp h).1
        rw [List.take_append_of_le_length (Nat.le_of_lt ht)]
        exact hok t d' h
/-- consistent by clocks is closed -/
theorem ClkInv.cons (G : GoodN M) (O : Owned M rows) (I : LSok M (evs rows) s) {cl : List (List (List Nat))} (V : ClkInv M rows s.sent (whole rows) cl) (hw : Closed M rows (whole rows)) {ys : List Nat} (hle : leL ys (whole rows)) :
    (∀ p y : Nat, ys[p]? = some y → 0 < y → ∀ c, ck cl p (y - 1) = some c → leL c ys) ↔ Closed M rows ys := by
  constructor
  · intro h c k hk
    unfold gn at hk
    cases hC : M.cs[c]? with
    | none => rw [hC] at hk; cases hk
    | some C =>
      rw [hC] at hk
      simp only at hk
      unfold gone at hk
      rw [List.mem_filterMap] at hk
      obtain ⟨d, hd, hk⟩ := hk
      unfold px at hd
      obtain ⟨i, hi, hdi⟩ := List.mem_iff_getElem.mp hd
      rw [List.length_take] at hi
      rw [List.getElem_take] at hdi
      have hm : remC M d = some (c, k) := by
        cases e : remC M d with
        | none => rw [e] at hk; cases hk
        | some x =>
          obtain ⟨c', k'⟩ := x
          rw [e] at hk
          by_cases h : c' = c
          · subst h; rw [onC_some] at hk; cases hk; rfl
          · rw [onC_ne h] at hk; cases hk
      cases hr : rows[C.t]? with
      | none => simp [hr] at hi
      | some r =>
        simp only [hr, Option.getD_some] at hi hdi
        have hd' : r[i]? = some d := by rw [← hdi]; exact List.getElem?_eq_getElem _
        cases hy : ys[C.t]? with
        | none => simp [hy] at hi
        | some y =>
          simp only [hy, Option.getD_some] at hi
          have hyw := hle C.t
          rw [hy, whole_get, hr] at hyw
          simp only [Option.getD_some] at hyw
          have hrl := V.rl C.t
          rw [whole_get, hr] at hrl
          simp only [Option.getD_some] at hrl
          obtain ⟨cy, hcy⟩ : ∃ x, ck cl C.t (y - 1) = some x := ⟨_, List.getElem?_eq_getElem (by omega)⟩
          obtain ⟨ci, hci⟩ : ∃ x, ck cl C.t i = some x := ⟨_, List.getElem?_eq_getElem (by omega)⟩
          have l1 := h C.t y hy (by omega) cy hcy
          have l2 := V.mono _ _ _ _ _ hci hcy (by omega)
          have ho := (O.ok C.t r hr d (List.mem_of_getElem? hd')).2
          have hkw := hw c k (gn_mem G ho hr hd' hm (by rw [whole_get, hr]; simp only [Option.getD_some]; omega))
          obtain ⟨g, j, hg, hS, _⟩ := I.sentEx G O hkw
          obtain ⟨e, he, l3⟩ := V.rem _ _ _ _ _ _ _ _ hci hr hd' hm hg
          have ow := V.own _ _ _ he
          have := leL_trans l3 (leL_trans l2 l1) g
          exact (hS.tk ys).mpr (by omega)
  · intro h p y hy h0 c hc
    exact V.min p (y - 1) c ys hc h (by rw [hy]; simp only [Option.getD_some]; omega)
end
end Cw
namespace Cw
/-! ### the greatest allowed cut -/
section
variable {M : Nt} {rows rows' : List (List Deed)} {pts pts' left : List (List Nat)} {fs gs : List Nat} {ys zs low cut : List Nat}
def AllowedC (rows : List (List Deed)) (pts : List (List Nat)) (fs : List Nat) (ys : List Nat) : Prop := ∀ p y : Nat, ys[p]? = some y → y ∈ pts[p]?.getD [] ∨ (p ∉ fs ∧ y = (rows[p]?.getD []).length)
structure IsGA (M : Nt) (rows : List (List Deed)) (pts : List (List Nat)) (fs : List Nat) (ys : List Nat) : Prop where
  len : ys.length = rows.length
  al : AllowedC rows pts fs ys
  cl : Closed M rows ys
  mx : ∀ zs : List Nat, zs.length = rows.length → AllowedC rows pts fs zs → Closed M rows zs → leL zs ys
theorem IsGA.uniq (h1 : IsGA M rows pts fs ys) (h2 : IsGA M rows pts fs zs) : ys = zs :=
  leL_antisymm (h2.mx ys h1.len h1.al h1.cl) (h1.mx zs h2.len h2.al h2.cl) (by rw [h1.len, h2.len])
/-- rows that go on -/
structure Goes (rows rows' : List (List Deed)) : Prop where
  len : rows.length = rows'.length
  ex : ∀ (p : Nat) (r : List Deed), rows[p]? = some r → ∃ s, rows'[p]? = some (r ++ s)
theorem Goes.px (h : Goes rows rows') (hl : leL ys (whole rows)) (p : Nat) : px rows' ys p = px rows ys p := by
  unfold Cw.px
  have := hl p
  rw [whole_get] at this
  cases hr : rows[p]? with
  | none =>
    have : rows'[p]? = none := by rw [List.getElem?_eq_none_iff] at hr ⊢; rw [← h.len]; exact hr
    rw [this]
  | some r =>
    obtain ⟨s, hs⟩ := h.ex p r hr
    rw [hr] at this
    rw [hs]
    exact List.take_append_of_le_length this
theorem Goes.tk (h : Goes rows rows') (hl : leL ys (whole rows)) (c : Nat) : tk M rows' ys c = tk M rows ys c := by
  unfold Cw.tk; cases M.cs[c]? with
  | none => rfl
  | some C => simp only; rw [h.px hl]
theorem Goes.gn (h : Goes rows rows') (hl : leL ys (whole rows)) (c : Nat) : gn M rows' ys c = gn M rows ys c := by
  unfold Cw.gn; cases M.cs[c]? with
  | none => rfl
  | some C => simp only; rw [h.px hl]
theorem Goes.closed (h : Goes rows rows') (hl : leL ys (whole rows)) : Closed M rows' ys ↔ Closed M rows ys := by
  unfold Closed
  simp only [h.tk hl, h.gn hl]
def PtsLe (rows : List (List Deed)) (pts : List (List Nat)) : Prop := ∀ p : Nat, ∀ k ∈ pts[p]?.getD [], k ≤ (rows[p]?.getD []).length
theorem IsGA.le (hp : PtsLe rows pts) (h : IsGA M rows pts fs ys) : leL ys (whole rows) := by
  intro p
  rw [whole_get]
  cases e : ys[p]? with
  | none => exact Nat.zero_le _
  | some y =>
    rcases h.al p y e with h1 | ⟨_, h1⟩
    · exact hp p y h1
    · rw [h1]; exact Nat.le_refl _
/-- the floor is never passed -/
theorem floor_le (g : Goes rows rows') (hp : PtsLe rows pts) (hs : ∀ p : Nat, ∀ k ∈ pts[p]?.getD [], k ∈ pts'[p]?.getD []) (hall : ∀ p, p < rows.length → p ∈ gs) (h1 : IsGA M rows pts gs low) (h2 : IsGA M rows' pts' fs cut) : leL low cut := by
  refine h2.mx low (by rw [h1.len, g.len]) (fun p y hy => ?_) ((g.closed (h1.le hp)).mpr h1.cl)
  rcases h1.al p y hy with h | ⟨h, _⟩
  · exact .inl (hs p y h)
  · exact absurd (hall p (by rw [← h1.len]; exact (List.getElem?_eq_some_iff.mp hy).1)) h
/-- what is dropped is in no line -/
theorem left_same (hl : ∀ p k : Nat, k ∈ left[p]?.getD [] → k ∈ pts'[p]?.getD []) (hb : ∀ p k : Nat, k ∈ pts'[p]?.getD [] → low[p]?.getD 0 ≤ k → k ∈ left[p]?.getD []) (hle : leL low cut) (h : IsGA M rows' pts' fs cut) : IsGA M rows' left fs cut := by
  refine ⟨h.len, fun p y hy => ?_, h.cl, fun zs hz ha hc => h.mx zs hz (fun p y hy => ?_) hc⟩
  · rcases h.al p y hy with h1 | h1
    · refine .inl (hb p y h1 ?_)
      have := hle p
      rw [hy] at this
      exact this
    · exact .inr h1
  · rcases ha p y hy with h1 | h1
    · exact .inl (hl p y h1)
    · exact .inr h1
/-- what the program says is open -/
def OpenAt (M : Nt) (rows : List (List Deed)) (low : List Nat) (c : Nat) (m : List (Nat × Nat)) : Prop :=
  ∀ k t, (tk M rows (whole rows) c)[k]? = some t → k ∉ gn M rows low c → (k, t) ∈ m
theorem held_ok (g : Goes rows rows') (hlow : leL low (whole rows)) (hle : leL low cut) {c k t : Nat} {m : List (Nat × Nat)} (ho : OpenAt M rows low c m) (hin : (k, t) ∈ prL (tk M rows' cut c) (gn M rows' cut c)) (hk : k < (tk M rows (whole rows) c).length) : (k, t) ∈ m := by
  obtain ⟨h1, h2⟩ := prL_mem.mp hin
  refine ho k t ?_ ?_
  · -- both are the beginnings of one row
    have hw : leL cut cut := leL_refl _
    unfold tk at h1 hk ⊢
    cases hC : M.cs[c]? with
    | none => rw [hC] at hk; simp at hk
    | some C =>
      rw [hC] at h1 hk
      simp only at h1 hk ⊢
      unfold px at h1 hk ⊢
      cases hr : rows[C.g]? with
      | none => rw [hr] at hk; simp [toks] at hk
      | some r =>
        obtain ⟨s, hs⟩ := g.ex _ _ hr
        rw [hr] at hk
        rw [hs] at h1
        simp only [Option.getD_some] at h1 hk ⊢
        have hwg : (whole rows)[C.g]?.getD 0 = r.length := by rw [whole_get, hr]; rfl
        rw [hwg, List.take_length] at hk ⊢
        have e1 : toks M c ((r ++ s).take (cut[C.g]?.getD 0)) <+: toks M c (r ++ s) := by
          have : (r ++ s).take (cut[C.g]?.getD 0) <+: r ++ s := List.take_prefix _ _
          obtain ⟨u, hu⟩ := this
          exact ⟨toks M c u, by rw [← toks_app, hu]⟩
        have e2 : toks M c (r ++ s) = toks M c r ++ toks M c s := toks_app
        obtain ⟨u, hu⟩ := e1
        have e3 : (toks M c (r ++ s))[k]? = some t := by
          rw [← hu, List.getElem?_append_left (List.getElem?_eq_some_iff.mp h1).1]; exact h1
        rw [e2, List.getElem?_append_left hk] at e3
        exact e3
  · intro h
    apply h2
    obtain ⟨s, hs⟩ := gn_le (M := M) (rows := rows') hle c
    rw [hs, g.gn hlow]
    exact List.mem_append_left _ h
/-! ### the rows of points -/
theorem hist_goes {a b : List Deed} : Goes (hist M a) (hist M (a ++ b)) := ⟨by unfold hist; simp, hist_app⟩
end
end Cw
/-! the making of an own exception over (a class over) Exception, its __init__ saying super().__init__('..') and self.at = at -/
namespace Cw
open PySem PySem.W PySem.Spec PySem.Calls PyProof.Rows
def xBody (p0 p1 p2 p3 p4 p5 q0 q1 q2 q3 : Pos) (j : Nat) (m : Str) : List Stmt :=
  [.Expr (.Call (.Attribute (.Call (.Name "super" p0) [] [] p1) "__init__" p2) [.Constant (.str m) j p3] [] p4) p5,
   .Assign [.Attribute (.Name "self" q0) "at" q1] (.Name "at" q2) q3]
/-- what the written part says of such a class -/
structure XInit (prog : Program) (K : Frag) (C fI cc cda : Addr) (qual : Str) (params : Arguments) (body : List Stmt) (scope : Scope) : Prop where
  q : excInitIn K C exT "Exception.__new__" = true
  ov : excOver K C exT = true
  hi : findIn K (.ref C) "__init__" = some (some (.ref fI))
  ti : typeIn K (.ref fI) = some (.type "function")
  sa : findIn K (.ref C) "__setattr__" = some (some (.builtin "object.__setattr__"))
  tk : takerIn K C "at" = some none
  hd : hasDictIn K C = true
  lk : ∃ oc od osl kV doc pm an ct, K.lookup fI = some ⟨oc, od, .func (ksFn "__init__" qual params body scope .none kV doc pm an (.ref cda) ct cc), osl⟩
  cd : codeIn K (.ref cda) qual = true
  fl : ∃ ccl cdd ccs vs file tf, K.lookup cda = some ⟨ccl, cdd, .fields vs, ccs⟩ ∧ vs[2]? = some (.str file tf) ∧ ((prog.main.file : Str) == file) = true
  cl : ∃ cl cld csl, K.lookup cc = some ⟨cl, cld, .cell (some (.ref C)), csl⟩
  ci : ∃ cdC, clsIn K C = some cdC
  mi : mroIn K C (.ref C) = some true
  tp : nsIn K cStatics "thirdparty.any" = some none
  sp : ks_superIn K C C "__init__" = some (some (.builtin "Exception.__init__"))
  sb : subIn K (.ref C) (.type "Exception") = some true
  bx : subIn K (.ref C) (.type "BaseException") = some true
  ty : typeIn K (.ref C) = some (.type "type")
  kp : keepIn K (.ref C) = true
  top : (prog.main.scope.names.lookup ("super" : Str)).isSome = false
/-- how the call of super's __init__ is run, at these places of the text -/
def XEval (p0 p1 p2 p3 p4 : Pos) (j : Nat) (m : Str) : Prop := ∀ env : Env, ∃ pl : Sem Bool, eval (.Call (.Attribute (.Call (.Name "super" p0) [] [] p1) "__init__" p2) [.Constant (.str m) j p3] [] p4) env = (do
  let ov ← attributeBase (.Call (.Name "super" p0) [] [] p1) "__init__" env (eval (.Call (.Name "super" p0) [] [] p1) env)
  standAt p2.atName
  let (f, first) ← holding [ov] (getMethod ov "__init__" pl)
  callWith p4 f first (backTo p4 (starEach [.Constant (.str m) j p3] env)) [])
structure XScope (scope : Scope) (params : Arguments) (body : List Stmt) : Prop where
  ks : scope.names.lookup ("super" : Str) = some .globalImplicit
  kc : scope.names.lookup ("__class__" : Str) = some .free
  sf : scope.names.lookup ("self" : Str) = some .local
  at_ : scope.names.lookup ("at" : Str) = some .local
  kind : scope.kind = .function
  co : scope.isCoroutine = false
  gen : scope.isGenerator = false
  cell : ∀ x ∈ scope.names, x.2 ≠ .cell
  par : ∃ ar, (params.posonlyargs ++ params.args).head? = some ar ∧ ar.arg = "self"
  isb : ∃ p0 p1 p2 p3 p4 p5 q0 q1 q2 q3 j m, body = xBody p0 p1 p2 p3 p4 p5 q0 q1 q2 q3 j m ∧ XEval p0 p1 p2 p3 p4 j m ∧ ∀ env : Env, swapsWith (.Name "at" q2) (some (.Attribute (.Name "self" q0) "at" q1)) q3.line env = pure false
  bind : ∀ (qual : Str) (kV doc pm cdv ct : Value) (an : Option Addr) (cc : Addr) (u v : Value), bindArgs (ksFn "__init__" qual params body scope .none kV doc pm an cdv ct cc) ⟨[u, v], []⟩ = pure [(("self" : Str), u), (("at" : Str), v)]
section
variable {prog : Program} {w : World} {A : Around} {E : Value → Shared → Prop} {K : Frag} {C fI cc cda : Addr} {qual : Str} {params : Arguments} {body : List Stmt} {scope : Scope} {mg mb : Str → Option Value}
  {h : Heap} {g : Array GenState} {d : Drawn} {t : Nat} {os : OsState}
theorem make_exc (T : XInit prog K C fI cc cda qual params body scope) (S : XScope scope params body) (X : K.In h) (hg : h.Ns mainGlobals mg) (ms : mg "super" = none) (hb : h.Ns builtinsNs mb) (bs : mb "super" = some (.type "super"))
    (lim : h.NoLimit) {v : Value} (room : (A.under (.builtin "type.__call__" ⟨[.ref C, v], []⟩)).depth < recursionLimit) {Q : Value → Shared → Prop}
    (hq : ∀ h' t' e oe vs, (∀ b o, h.get? b = some o → h'.get? b = some o) → h.get? e = none → h'.get? e = some oe → oe.cls = .ref C → oe.data = .fields vs → vs[1]? = some .none → Q (.ref e) ⟨h', g, d, t', os⟩) :
    wpAny (model prog w) A (call (.ref C) [v]) Q E ⟨h, g, d, t, os⟩ := by
  obtain ⟨nm, N, qn, bss, bm, hdct, sn, sub, ab, col, dd, k0, k1, k2, k3, k5, hC, hT⟩ := excInit_of X T.q
  refine wpAny_call (PySem.HandSPX.call_own F.excBase_Exception hT hC (looks_findIn X T.hi) (fun self => bind_fn X self T.ti) (by show 1 ≤ sizeLine; rw [sizeLine_eq]; omega) ?_)
  obtain ⟨e, he⟩ : ∃ e, h.objs.size + 1 = e := ⟨_, rfl⟩
  rw [he]
  obtain ⟨hp, hhp⟩ : ∃ hp, (h.push (kdv_tup [v])).push (PySem.HandSPX.excO C h.objs.size) = hp := ⟨_, rfl⟩
  rw [hhp]
  have kk : ∀ b o, h.get? b = some o → hp.get? b = some o := fun b o z => by
    rw [← hhp]; exact Heap.get?_push_of_some _ (Heap.get?_push_of_some _ z)
  have hen : h.get? e = none := by
    cases z : h.get? e with
    | none => rfl
    | some o => rw [← he] at z; exact absurd (Heap.lt_size z) (Nat.not_lt.mpr (Nat.le_succ _))
  have hget : hp.get? e = some (excObj C h.objs.size none .none) := by
    rw [← hhp, ← he]; heap_get
  have X2 : K.In hp := X.keeps kk
  obtain ⟨oc, od, osl, kV, doc, pm, an, ct, lk⟩ := T.lk
  obtain ⟨p0, p1, p2, p3, p4, p5, q0, q1, q2, q3, j, m, hbody, hev, hsw⟩ := S.isb
  refine ks_codeAny_call_defAt (fd := ksFn "__init__" qual params body scope .none kV doc pm an (.ref cda) ct cc) (body := body) (binds := [("self", .ref e), ("at", v)]) room (X2 _ _ lk) rfl (lim.keeps kk) (codeRec_of X2 T.cd) rfl (BindsTo.of_eq (S.bind _ _ _ _ _ _ _ _ _ _)) S.cell
    (fun x hx => by
      simp only [List.mem_cons, List.mem_nil_iff, or_false] at hx
      rcases hx with rfl | rfl
      · exact S.sf
      · exact S.at_) (fun h1 hns hk1 => ?_) S.co S.gen S.kind
  -- the ground under the body
  obtain ⟨g0, hg0⟩ : ∃ g0, hideAll hp [e] = g0 := ⟨_, rfl⟩
  have kg : ∀ b o, h.get? b = some o → g0.get? b = some o := fun b o z => by
    rw [← hg0]
    exact hideAll_get _ (kk b o z) (by rw [List.mem_singleton]; rintro rfl; rw [hen] at z; cases z)
  have Xg : K.In g0 := X.keeps kg
  have F1 : PyProof.Rows.Fr g0 hp.objs.size h1 (fun y => List.lookup y ([("self", .ref e), ("at", v)] : List (Str × Value)).reverse) :=
    ⟨hns, fun b o z => hk1 b o (by rw [← hg0] at z; exact of_hideAll _ z), by rw [← hg0]; exact Nat.le_of_eq (hideAll_size _ _)⟩
  have N1 : News g0 hp.objs.size h1 [(e, excObj C h.objs.size none .none)] := fun p hp' => by
    rw [List.mem_singleton] at hp'
    subst hp'
    exact ⟨hk1 _ _ hget, Nat.ne_of_lt (Heap.lt_size hget), by rw [← hg0]; exact hideAll_none _ (List.mem_singleton.mpr rfl)⟩
  have f1 : ∀ b o, h.get? b = some o → h1.get? b = some o := fun b o z => hk1 b o (kk b o z)
  obtain ⟨ccl, cdd, ccs, vs, file, tf, hcd1, hcd2, hcd3⟩ := T.fl
  obtain ⟨cl, cld, csl, hcl⟩ := T.cl
  obtain ⟨cdC, hci⟩ := T.ci
  obtain ⟨ar, har, hara⟩ := S.par
  have hcdC : ∃ oC, h.get? C = some oC ∧ oC.data = .cls cdC := by
    unfold clsIn at hci
    split at hci
    · rename_i c1 d1 cd1 sl1 ho
      cases hci
      exact ⟨_, X _ _ ho, rfl⟩
    · cases hci
  obtain ⟨oC, hC1, hC2⟩ := hcdC
  subst hbody
  show PySem.wpAt (model prog w) ((A.under (.builtin "type.__call__" ⟨[.ref C, v], []⟩)).deeper (ksEnv qual scope hp.objs.size fI (.ref cda) cc)) (.func (xBody p0 p1 p2 p3 p4 p5 q0 q1 q2 q3 j m) (ksEnv qual scope hp.objs.size fI (.ref cda) cc))
    (execs (xBody p0 p1 p2 p3 p4 p5 q0 q1 q2 q3 j m) (ksEnv qual scope hp.objs.size fI (.ref cda) cc)) _ _ _
  unfold xBody
  obtain ⟨pl, hpl⟩ := hev (ksEnv qual scope hp.objs.size fI (.ref cda) cc)
  refine ks_wpAt_execs_cons (ks_wpAt_Expr_any (hi := by unfold interactive; simp [S.kind]) (ks_wpAt_MethodCall (he := hpl) (ks_wpAt_super_base (env := ksEnv qual scope hp.objs.size fI (.ref cda) cc) S.ks S.kc (by decide) rfl (f1 _ _ (X _ _ lk)) rfl har rfl (f1 _ _ (X _ _ hcd1)) rfl hcd2 hcd3 T.top ?_)))
  refine ks_loadName_global S.kind S.ks (loadGlobal_builtin (env := ksEnv qual scope hp.objs.size fI (.ref cda) cc) (hg.keeps f1) ms (hb.keeps f1) bs ⟨rfl, ?_⟩)
  refine wpAny_loadName_free S.kind S.kc rfl ⟨_, f1 _ _ (X _ _ hcl), rfl⟩ ?_
  rw [hara]
  refine wpAny_loadName_local (v := .ref e) S.kind S.sf F1.ns rfl ?_
  refine ks_wpAny_isType_cls (f1 _ _ hC1) hC2 ⟨rfl, ?_⟩
  refine ks_wpAny_call_super (f1 _ _ hC1) hC2 (hk1 _ _ hget) rfl (fun c z => by cases z) (looks_mroIn (X.keeps f1) T.mi) (fun h2 es k2 => ?_)
  obtain ⟨so, hso⟩ : ∃ so, h1.objs.size = so := ⟨_, rfl⟩
  obtain ⟨F2, N2, l2⟩ := ks_newsPush (s := ⟨h1, g, d, t + 2, os⟩) F1 N1 rfl es k2
  rw [hso] at N2 l2 ⊢
  refine kxs_method kxs_Exception F2 Xg N2 (List.mem_cons_self ..) (InstAt.of_exc0 N2 (List.mem_cons_of_mem _ (List.mem_singleton.mpr rfl))) T.tp T.sp T.sb (by decide) (fun q h3 F3 N3 l3 => ?_)
  refine kxs_callWith1 N3 (List.mem_cons_self ..) ?_
  refine Calls.spliced_cons ?_
  refine wpAny_Constant_str (k := j) (pos := p3) (env := ksEnv qual scope hp.objs.size fI (.ref cda) cc) ?_
  refine Calls.spliced_nil ?_
  refine ⟨kxs_at N3 (List.mem_cons_self ..), ?_⟩
  have ne1 : so ≠ e := fun z => by
    have := l2 _ (List.mem_singleton.mpr rfl)
    rw [z] at this
    exact Nat.lt_irrefl _ this
  have ne2 : q ≠ e := fun z => by
    have := l3 _ (List.mem_cons_of_mem _ (List.mem_singleton.mpr rfl))
    rw [z] at this
    exact Nat.lt_irrefl _ this
  refine kxs_call F3 Xg N3 F.excBase_Exception T.q (List.mem_cons_self ..) (.tail ne2 (.tail ne1 (.head fun _ z => nomatch z))) (by show 1 ≤ sizeLine; rw [sizeLine_eq]; omega) (fun t4 h4 F4 N4 l4 => ?_)
  have ne3 : t4 ≠ e := fun z => by
    have := l4 _ (List.mem_cons_of_mem _ (List.mem_cons_of_mem _ (List.mem_singleton.mpr rfl)))
    rw [z] at this
    exact Nat.lt_irrefl _ this
  refine ks_wpAt_execs_cons (ks_wpAt_Assign_Attr (wpAt_of_wpAny ?_) (hsw _))
  show wpAny _ _ (eval (.Name "at" q2) (ksEnv qual scope hp.objs.size fI (.ref cda) cc)) _ _ _
  refine wpAny_Name (wpAny_loadName_local (v := v) S.kind S.at_ F4.ns rfl ?_) (by decide)
  show wpAny _ _ (eval (.Name "self" q0) (ksEnv qual scope hp.objs.size fI (.ref cda) cc)) _ _ _
  refine wpAny_Name (wpAny_loadName_local (v := .ref e) S.kind S.sf F4.ns rfl ?_) (by decide)
  refine set_exc0 F.store_Exception F4 Xg N4 (List.mem_cons_of_mem _ (List.mem_cons_of_mem _ (List.mem_cons_of_mem _ (List.mem_singleton.mpr rfl)))) T.sa T.ov T.tk T.hd rfl (.tail ne3 (.tail ne2 (.tail ne1 (.head fun _ z => nomatch z)))) (by show 1 ≤ 1000; omega) (fun dx h5 F5 N5 l5 => ?_)
  refine wpAt_of_wpAny (wpAny_execs_nil ⟨rfl, hq h5 _ e _ _ (fun b o z => F5.keep b o (kg b o z)) hen (N5 _ (List.mem_cons_of_mem _ (List.mem_cons_of_mem _ (List.mem_cons_of_mem _ (List.mem_cons_of_mem _ (List.mem_singleton.mpr rfl)))))).1 rfl rfl rfl⟩)
end
end Cw
namespace Cw
open PySem PySem.Spec PyProof.Rows L2
section
variable {X : Cx} {x : Str} {C fI cc cda : Addr} {qual : Str} {params : Arguments} {body : List Stmt} {scope : Scope} {p pos : Pos} {e : Expr} {te : TE}
/-- x(e), x such a class -/
theorem pmk_x (T : XInit X.prog X.K C fI cc cda qual params body scope) (S : XScope scope params body) (gC : X.mg x = some (.ref C)) (ms : X.mg "super" = none) {k : Nat} (hr : Room (k + 1) X.A) (hg : Gl X x) (ha : PE X e te)
    (hdb : (x == ("__debug__" : Str)) = false := by decide) (hs : starEach [e] X.env = (false, eval e X.env) :: starEach [] X.env := by rfl) : PMk X (.Call (.Name x p) [e] [] pos) (fun σ H Q => te σ H fun _ H1 => ∀ d, Q (.ref C) d H1) := by
  intro pins s σ H Q I h
  refine wpAny_Call_Name_kw (ld_glob I hg gC ?_ hdb)
  refine PySem.W.callWith_K (h₀ := X.base) I.ok.mod.kin T.kp ?_ hs rfl
  rw [hs]
  show wpAny _ _ (spliced ((false, eval e X.env) :: [])) _ _ _
  refine Calls.spliced_cons (thn (ha.run pins s σ H _ I h) fun u s1 ⟨v, H1, I1, r1, q1⟩ => Calls.spliced_nil ⟨I1.kIn, ?_⟩)
  show wpAny _ _ (call (.ref C) [u]) _ _ _
  obtain ⟨mb, b1, b2⟩ := I1.mod.blt
  obtain ⟨hp, g, dr, tk, os⟩ := s1
  refine make_exc T S I1.kIn (I1.mod.glob.keeps I1.bk) ms (b1.keeps I1.bk) ((b2 "super" (by decide)).trans PyProof.Rows.Boot.«super») I1.nolimit (hr.make C [u] []).depth ?_
  intro h' t' e' oe vs k n he hc hd h1
  exact ⟨e', oe, vs, ⟨hp, g, dr, tk, os⟩, H1, .ref C, oe.dict, rfl, I1, k, n, he, ⟨hc, rfl⟩, hd, h1, I1.hok.gone n, rfl, I1.bare, raises_own T.bx T.ty, q1 _⟩
end
end Cw
namespace Cw
open PySem PySem.Spec PyProof.Rows L2
/-- the error's class -/
structure TxE (P : Program) (K : PySem.W.Frag) (mg : Str → Option Value) (CE : Addr) : Prop where
  x : ∃ fI cc cda, XInit P K CE fI cc cda "BadStep.__init__" (defArgs s_BadStep_init) (defBody s_BadStep_init) (defScope s_BadStep_init)
  g : mg "BadStep" = some (.ref CE)
  m : PySem.W.exmOne K (.ref CE) (.ref CE) = some true
theorem xs_BadStep : XScope (defScope s_BadStep_init) (defArgs s_BadStep_init) (defBody s_BadStep_init) where
  ks := by decide +kernel
  kc := by decide +kernel
  sf := by decide +kernel
  at_ := by decide +kernel
  kind := rfl
  co := rfl
  gen := rfl
  cell := by decide +kernel
  par := ⟨_, rfl, rfl⟩
  isb := ⟨_, _, _, _, _, _, _, _, _, _, _, _, rfl, fun _ => ⟨_, rfl⟩, fun _ => rfl⟩
  bind := fun _ _ _ _ _ _ _ _ _ _ => rfl
/-- a def that returns data or lets out the error -/
def spE (CE : Addr) (R : List D → Option D → Prop) : Sp := fun vs H Q E => ∃ (M : Addr → Prop) (ds : List D) (r : Option D), (∀ b, M b → ∃ o, H b = some o ∧ NT o) ∧ Reps (hid M H) vs ds ∧ R ds r ∧
  (∀ d, r = some d → ∀ v H', Ext H H' → Rep (hid M H') v d → Q v H') ∧ (r = none → ∀ dd H', Ext H H' → E (.ref CE) dd H')
structure FnE (P : Program) (w : World) (K : PySem.W.Frag) (mg : Str → Option Value) (base : Heap) (CE : Addr) (x : Str) (k : Nat) (R : List D → Option D → Prop) : Prop where
  ex : ∃ (f : Addr) (fd : FuncData) (ps : List Str), FnOk P w K mg base (L2.CX P w) k f fd ps (spE CE R) ∧ mg x = some (.ref f) ∧ PySem.W.keepIn K (.ref f) = true ∧ Binds K fd ps []
theorem PS_nox {X : Cx} {s : Stmt} {t : TS} (h : PS X.nox s t) : PS X s t := ⟨fun pins sh σ H D I hw =>
  wpAny_mono (h.run pins sh σ H D (I.wish _) hw) (fun _ _ q => q.unwish) fun _ _ z => False.elim z⟩
/-- a block that ends in the error -/
def GoE (X : Cx) (F : Fr) (ss : List Stmt) (env : List (Option E)) (mu : List MO) : Prop := ∀ ps σ H K, Sat F ps env mu σ H → wSs X ss K σ H
section
variable {X : Cx} {F : Fr} {env : List (Option E)} {mu : List MO} {s : Stmt} {rest A B : List Stmt} {P : Post} {c e : Expr} {pos pos' p : Pos} {W : WX} {CE : Addr} {te : TE}
theorem goE_step (h : GoS X.nox s env mu P) (hn : ∀ e u, P.nx e u → GoE X F rest e u) (hr : ∀ d u, ¬ P.rt d u) (hb : ∀ e u, ¬ P.bk e u) (hc : ∀ e u, ¬ P.ct e u) : GoE X F (s :: rest) env mu := by
  intro ps σ H K I
  obtain ⟨t, h1, h2⟩ := h F ps σ H { K with nx := wSs X rest K } I ⟨fun e u ps' σ' H' q _ J => hn e u q ps' σ' H' K J, fun v d e u ps' σ' H' q => absurd q (hr d u), fun e u ps' σ' H' q => absurd q (hb e u), fun e u ps' σ' H' q => absurd q (hc e u)⟩
  exact ⟨_, pss_cons (PS_nox h1) pSs, h2⟩
theorem PT_nox {b : TT} (h : PT X.nox c b) : PT X c b := h.nox
theorem goE_if (h : EvT X.nox c env mu true) (h1 : GoE X F A env mu) : GoE X F (.If c A B pos :: rest) env mu := by
  intro ps σ H K I
  obtain ⟨t, ht, h2⟩ := h F ps σ H (fun b H1 => if b = true then wSs X A { K with nx := wSs X rest K } σ H1 else wSs X B { K with nx := wSs X rest K } σ H1) I (fun H1 e1 => h1 ps σ H1 _ (I.mono e1))
  exact ⟨_, pss_cons (ps_if (PT.nox ht) pSs pSs) pSs, h2⟩
theorem goE_raise (hc : X.calm = true) (tk : Takes X W) (hm : PMk X e (fun σ H Q => te σ H fun _ H1 => ∀ d, Q (.ref CE) d H1)) (ht : ∀ ps σ H (Q : VK), Sat F ps env mu σ H → (∀ v H', Ext H H' → Q v H') → te σ H Q)
    (hw : ∀ σ H', Ext F.H0 H' → ∀ d, W (.ref CE) d σ H') : GoE X F (.Raise (some e) none pos :: rest) env mu := by
  intro ps σ H K I
  exact ⟨_, pss_cons (ps_raise hc tk hm) pSs, ht ps σ H _ I fun v H' e1 d => hw σ H' (I.ex.trans e1) d⟩
end
section
variable {P : Program} {w : World} {K : PySem.W.Frag} {mg : Str → Option Value} {base : Heap} {N : List Str} {n : Nat} {CE : Addr}
/-- a def that may let out the error -/
theorem fn_e {g x qual : Str} {st : Stmt} {ps : List Str} {R : List D → Option D → Prop} (Fd : TxD K mg g x qual st)
    (hb : ∀ (kV doc pm : Value) (an : Option Addr) (cdv ct : Value) (us : List Value), us.length = ps.length → bindArgs (PySem.W.fnOf x qual (defArgs st) (defBody st) (defScope st) .none kV doc pm an cdv ct) ⟨us, []⟩ = pure (ps.zip us)) (S : FnScope N ps (defScope st))
    (len : ∀ ds d, R ds d → ds.length = ps.length)
    (body : ∀ X, Ctx P w K mg base N (defScope st) (defScope st) n X → (∃ f cdv A outer s H Ex, X = (cxOf (L2.CX P w) P w K mg base N qual (defScope st) f cdv A outer s H Ex).nox) → ∀ ds d (kk : D → Prop), R ds (some d) → kk d →
      Go X (defBody st) (ds.map (fun d => some (.d d)) ++ List.replicate (N.length - ds.length) none) [] { nx := fun _ _ => kk .non, rt := fun d _ => kk d })
    (bodyE : ∀ X, Ctx P w K mg base N (defScope st) (defScope st) n X.nox → (∃ f cdv A outer s H Ex, X = cxOf (L2.CX P w) P w K mg base N qual (defScope st) f cdv A outer s H Ex) → ∀ F W, Takes X W → (∀ σ H', Ext F.H0 H' → ∀ d, W (.ref CE) d σ H') → ∀ ds, R ds none →
      GoE X F (defBody st) (ds.map (fun d => some (.d d)) ++ List.replicate (N.length - ds.length) none) []) :
    FnE P w K mg base CE g (n + 1) R := by
  obtain ⟨f, fd, Fd, hm⟩ := Fd
  have hN : ps.length ≤ N.length := by have := congrArg List.length S.pre; rw [List.length_take] at this; omega
  refine ⟨f, fd, ps, Fd.ok S (fun vs H Q E h => ?_) (fun cdv A outer s H vs Q Ex hr h => ?_), hm, Fd.kp, Fd.bindsN hb⟩
  · obtain ⟨M, ds, r, _, rr, p, _⟩ := h
    rw [rr.length]; exact len _ _ p
  · obtain ⟨M, ds, r, hM, rr, p, h1, h2⟩ := h
    have hl := len _ _ p
    have I0 := start_sat (N := N) (S := H) (by omega) hM rr
    have B : OkX (cxOf (L2.CX P w) P w K mg base N qual (defScope st) f cdv A outer s H Ex).nox := ⟨rfl, S.nd, PassesOwn.never⟩
    have C : Ctx P w K mg base N (defScope st) (defScope st) n (cxOf (L2.CX P w) P w K mg base N qual (defScope st) f cdv A outer s H Ex).nox := ⟨rfl, rfl, rfl, rfl, rfl, rfl, rfl, B, hr, fun _ _ => rfl⟩
    cases r with
    | some d =>
      obtain ⟨t, k1, k2⟩ := body _ C ⟨f, cdv, A, outer, s, H, Ex, rfl⟩ ds d (fun d' => ∀ v H', Ext H H' → Rep (hid M H') v d' → Q v H') p (h1 d rfl) ⟨H, M⟩ [] _ H { nx := fun _ H' => Q .non H', rt := Q } I0
        ⟨fun e u p s H' q _ J => q .non H' J.ex .non, fun v d e u p s H' q _ J z => q v H' J.ex z, fun _ _ _ _ _ q => q.elim, fun _ _ _ _ _ q => q.elim⟩
      exact ⟨t, PSs.nox k1, k2⟩
    | none =>
      exact bodyE (cxOf (L2.CX P w) P w K mg base N qual (defScope st) f cdv A outer s H Ex) C ⟨f, cdv, A, outer, s, H, Ex, rfl⟩ ⟨H, M⟩ (fun cls d _ H' => Ex cls d H') (takes_of rfl rfl rfl rfl) (fun σ H' e d => h2 rfl d H' e) ds p [] _ H _ I0
end
end Cw
namespace Cw
open PySem PySem.Spec PyProof.Rows L2
section
variable {P : Program} {w : World} {K : PySem.W.Frag} {mg : Str → Option Value} {base : Heap} {N : List Str} {so sc : Scope} {n k i : Nat} {X : Cx} {CE : Addr} {env : List (Option E)} {mu : List MO} {e : Expr} {es : List Expr} {εs : List E} {ds : List D} {Po : Post} {x y : Str}
theorem cs_set {s0 : Pos} {y : Pos} {pos : Pos} {ε : E} (C : Ctx P w K mg base N so sc n X) (hi : N[i]? = some x) (hx : locB so sc x = true) (he : Ev X e env mu ε) (h : Po.nx (env.set i (some ε)) mu) (hs : swapsWith e (some (.Name x y)) pos.line X.env = pure false := by rfl) : GoS X (.Assign [.Name x y] e pos) env mu Po :=
  go_set i C.B (by rw [C.N]; exact hi) (C.loc hx).1 he h hs (C.loc hx).2
theorem Ctx.tr (C : Ctx P w K mg base N so sc n X) {pn : List (Addr × Obj)} {xe : Value → Shared → Prop} (po : PassesOwn (model X.prog X.w) X.A X.env xe) : Ctx P w K mg base N so sc n (X.tr pn xe) :=
  ⟨C.pr, C.w, C.K, C.mg, C.base, C.N, C.sc, ⟨C.B.calm, C.B.nd, po⟩, C.room, C.fnc⟩
/-- try: return x(..) except BadStep: return None -/
theorem go_tryE {R : List D → Option D → Prop} {r : Option D} {p pos rp np hp0 tp cp rp2 : Pos} {j : Nat} (C : Ctx P w K mg base N so sc n X) (T : TxE P K mg CE) (hs : X.stack = X.env :: X.outer) (hf : X.env.frame = some X.env.locals) (G : FnE P w K mg base CE x k R) (hk : k ≤ n)
    (hg : glB sc x = true) (hgB : glB sc "BadStep" = true) (hd : dsOf εs = some ds) (hp : R ds r) (h : Po.rt (r.getD .non) mu) (ha : ∀ X', Ctx P w K mg base N so sc n X' → EvA X' (e :: es) env mu εs)
    (he : starEach (e :: es) X.env = (false, eval e X.env) :: starEach es X.env := by rfl) (hpl : (backTo pos (starEach es X.env)).any (·.1) = false := by rfl) :
    GoS X (.Try [.Return (some (.Call (.Name x p) (e :: es) [] pos)) rp] [.ExceptHandler (some (.Name "BadStep" np)) none [.Return (some (.Constant .none j cp)) rp2] tp] [] [] hp0) env mu Po := by
  obtain ⟨f, fd, ps', G, hm, hkp, hb⟩ := G.ex
  obtain ⟨hc1, hc2, hc3, hc4, hc5⟩ : X.prog = P ∧ X.w = w ∧ X.K = K ∧ X.mg = mg ∧ X.base = base := ⟨C.pr, C.w, C.K, C.mg, C.base⟩
  subst hc1 hc2 hc3 hc4 hc5
  intro F ps σ H Kk I E
  let uA : TA := fun σ H Q => ∀ pn xe, PassesOwn (model X.prog X.w) X.A X.env xe → wA (X.tr pn xe) (e :: es) σ H Q
  have pu : ∀ pn xe, PassesOwn (model X.prog X.w) X.A X.env xe → PA (X.tr pn xe) (e :: es) uA := fun pn xe po => ⟨fun pos pins s σ H Q I h => pA.run pos pins s σ H Q I (h pn xe po)⟩
  refine ⟨_, ps_try_only (c := .ref CE) (tb := fun W => tRet (tCallS (spE CE R) (WE W) uA)) (ts := fun _ _ _ => tRet (tC .non)) (Wout := fun _ _ _ _ => False) hs hf ⟨C.gl hgB, by decide, .inl T.g⟩ takes0
    (fun W pn xe tk po => pss_one (ps_ret (pe_callS G (C.rm hk) (C.gl hg) hm hkp hb (fun σ => passAt tk σ) (pu pn xe po) (glB_gl hg).2.1 he hpl))) (fun a oe cls d pn _ _ => pss_one (ps_ret pe_non)), ?_⟩
  intro pn xe po
  refine ha _ (C.tr po) F ps σ H _ I (fun vs H1 e1 r1 => ?_)
  have I1 := I.mono e1
  refine ⟨fun b => F.M b ∨ Lv ps mu b, ds, r, fun b z => I1.held z, dsOf_rep r1 hd, hp, ?_, ?_⟩
  · rintro d rfl v H' e2 rep
    exact E.rt v d env mu ps σ H' h (List.prefix_refl _) (I1.mono e2) (Rep.mono stab_M rep)
  · rintro rfl dd H' e2
    exact ⟨true, T.m, fun _ a na => E.rt .non .non env mu ps σ H' h (List.prefix_refl _) (I1.mono e2) .non, fun z => by cases z⟩
theorem Ctx.nx (C : Ctx P w K mg base N so sc n X) : Ctx P w K mg base N so sc n X.nox :=
  ⟨C.pr, C.w, C.K, C.mg, C.base, C.N, C.sc, ⟨C.B.calm, C.B.nd, PassesOwn.never⟩, C.room, C.fnc⟩
/-- a try whose body raises nothing -/
theorem c_tryThru {body rest : List Stmt} {h₀ : ExceptHandler} {hs : List ExceptHandler} {pos : Pos} (C : Ctx P w K mg base N so sc n X) (h : ∀ X', Ctx P w K mg base N so sc n X' → Go X' body env mu { Po with nx := fun e u => Go X rest e u Po }) :
    Go X (.Try body (h₀ :: hs) [] [] pos :: rest) env mu Po := by
  refine go_cons (fun F ps σ H Kk I E => ?_)
  obtain ⟨t, h1, h2⟩ := h _ C.nx F ps σ H Kk I E
  exact ⟨t, ps_try_thru0 h1, h2⟩
theorem c_drop {rest : List Stmt} {ε : E} {pos : Pos} (C : Ctx P w K mg base N so sc n X) (he : Ev X e env mu ε) (h : Go X rest env mu Po) (hs : swapsWith e none pos.line X.env = pure false := by rfl) : Go X (.Expr e pos :: rest) env mu Po :=
  go_cons (go_drop he h hs)
end
end Cw
namespace Cw
open PySem PySem.Spec PyProof.Rows L2
section
variable {X : Cx} {env : List (Option E)} {mu : List MO} {a b c e : Expr} {pos p : Pos} {x z : Str}
theorem et_notInK {tab : Str → Option Int} (hg : Gl X x) (hT : TxS X.K X.w X.mg x tab) (ha : Ev X a env mu (.d (.str z))) (hm : behindInMarks .NotIn (.Name x p) = false := by rfl) (hd : (x == ("__debug__" : Str)) = false := by decide) : EvT X (.Compare a [.NotIn] [.Name x p] pos) env mu (!(tab z).isSome) := fun F ps σ H Q I kk => by
  obtain ⟨A, es, n, h1, h3, h4⟩ := hT
  refine ⟨_, pt_cmpR (op_notIn_kd h3) pE (pe_glob hg h1 (v := .ref A) rfl hd) hm, ha F ps σ H _ I fun v H1 e1 r1 => ?_⟩
  obtain rfl := Rep.str_eq r1
  cases ht : tab z with
  | none => exact ⟨z, none, rfl, rfl, (h4 z).1 ht, _, rfl, by have := kk H1 e1; rw [ht] at this; exact this⟩
  | some i => obtain ⟨t, q⟩ := (h4 z).2 i ht; exact ⟨z, _, rfl, rfl, q, _, rfl, by have := kk H1 e1; rw [ht] at this; exact this⟩
end
end Cw
namespace Cw
open PySem PySem.Spec PyProof.Rows L2
section
variable {X : Cx} {env : List (Option E)} {mu : List MO} {e : Expr} {pos p : Pos} {ds : List D} {es : List Expr} {εs : List E} {x : Str} {k : Nat} {Pre : List D → (D → Prop) → Prop}
/-- as ev_callL, for a wish -/
theorem evp_callL {Q : D → Prop} (G : Fn X.prog X.w X.K X.mg X.base x k Pre) (hr : Room k X.A) (hg : Gl X x) (ha : EvA X (e :: es) env mu εs) (hd : lends mu εs = some ds) (hn : ∀ d, Q d → noLst d = true) (hp : ∀ k : D → Prop, (∀ d, Q d → k d) → Pre ds k)
    (hdb : (x == ("__debug__" : Str)) = false := by decide) (he : starEach (e :: es) X.env = (false, eval e X.env) :: starEach es X.env := by rfl) (hpl : (backTo pos (starEach es X.env)).any (·.1) = false := by rfl) : EvP X (.Call (.Name x p) (e :: es) [] pos) env mu Q := by
  obtain ⟨f, fd, ps', G, hm, hk, hb⟩ := G.ex
  intro F ps σ H K I kk
  refine ⟨_, pe_call G hr hg hm hk hb .nil pass0 pA hdb he hpl, ha F ps σ H _ I fun vs H1 e1 r1 => ?_⟩
  have I1 := I.mono e1
  show spD Pre (vs ++ []) H1 K E0
  rw [List.append_nil]
  obtain ⟨M', m1, m2, m3⟩ := lends_rep I1 r1 hd
  refine ⟨M', ds, fun b z => I1.held (m1 b z), m3, hp _ fun d qd v H2 e2 r2 => kk v d H2 qd (e1.trans e2) (Rep.free (fun a xs z => ?_) r2 (hn d qd))⟩
  obtain ⟨z1, z2⟩ := hid_some z
  have nb : ¬ (F.M a ∨ Lv ps mu a) := fun y => by
    obtain ⟨us, q⟩ := m2 a y z1
    rw [e2 _ _ q] at z2; cases z2
  rw [stab_of (fun y => nb (.inl y)) (fun y => nb (.inr y))]
  exact z2
end
section
variable {P : Program} {w : World} {K : PySem.W.Frag} {mg : Str → Option Value} {base : Heap} {N : List Str} {so sc : Scope} {n k : Nat} {X : Cx} {x : Str} {env : List (Option E)} {mu : List MO} {e : Expr} {pos p : Pos} {ds : List D} {es : List Expr} {εs : List E} {Pre : List D → (D → Prop) → Prop}
theorem c_callPL {Q : D → Prop} (C : Ctx P w K mg base N so sc n X) (G : Fn P w K mg base x k Pre) (hk : k ≤ n) (hg : glB sc x = true) (ha : EvA X (e :: es) env mu εs) (hd : lends mu εs = some ds) (hn : ∀ d, Q d → noLst d = true) (hp : ∀ k : D → Prop, (∀ d, Q d → k d) → Pre ds k)
    (he : starEach (e :: es) X.env = (false, eval e X.env) :: starEach es X.env := by rfl) (hpl : (backTo pos (starEach es X.env)).any (·.1) = false := by rfl) : EvP X (.Call (.Name x p) (e :: es) [] pos) env mu Q :=
  evp_callL (C.fn G) (C.rm hk) (C.gl hg) ha hd hn hp (glB_gl hg).2.1 he hpl
theorem len_at {k : Nat} {ds : List D} (h : mu[k]? = some (.lst ds)) : lenE mu (.at k) = some ds.length := by simp only [lenE, seqE, h, Option.map_some]
theorem idx_hd {k n : Nat} {α : Type} {f : α → D} {xs : List α} {x : α} (h : mu[k]? = some (.lst (xs.map f))) (h2 : xs[n]? = some x) : idxE mu (.at k) (.d (.int (n : Int))) = some (.d (f x)) := idx_at h h2
end
end Cw
namespace Cw
open PySem PySem.Spec PyProof.Rows L2
section
variable {X : Cx} {env : List (Option E)} {mu : List MO} {e tg : Expr} {ds : List D}
/-- over one of a list's own lists -/
theorem ei_sub {k j : Nat} {dss : List (List D)} (ha : Ev X e env mu (.sub k j)) (hk : mu[k]? = some (.lol dss)) (hj : dss[j]? = some ds) : EvI X tg e env mu (ds.map fun d => .one (.d d)) (fun mu' => ∃ dss', mu'[k]? = some (.lol dss') ∧ dss'[j]? = some ds) := fun F ps σ H R I kk =>
  ⟨_, pi_list pE, ha F ps σ H _ I fun v H1 e1 r1 => by
    obtain ⟨pa, a, p1, p2, rfl⟩ := r1
    obtain ⟨_, _, q3⟩ := (I.mono e1).mr k pa _ p1 hk
    obtain ⟨xs0, g0, r0⟩ := q3 j a ds p2 hj
    refine ⟨a, rfl, ⟨xs0, SqL.of g0⟩, kk _ H1 e1 fun F' ps' env' mu' σ' H' I' ex pf hs => ?_⟩
    obtain ⟨dss', h1, h2⟩ := hs
    obtain ⟨_, _, q3'⟩ := I'.mr k pa _ (prefix_get pf p1) h1
    obtain ⟨xs, g', r⟩ := q3' j a ds p2 h2
    refine ⟨fun i item hi => ?_, ⟨xs, SqL.of g', by rw [List.length_map, r.length]; exact Nat.le_refl _⟩⟩
    rw [List.getElem?_map] at hi
    cases q : ds[i]? with
    | none => rw [q] at hi; cases hi
    | some d =>
      rw [q] at hi
      cases hi
      obtain ⟨x, hx, rx⟩ := r.get q
      refine ⟨⟨xs, x, SqL.of g', hx⟩, fun y H'' hy => ?_⟩
      obtain ⟨rfl, hy⟩ := hy
      have : x = y := by have z := hy xs (SqL.of g'); rw [hx] at z; exact Option.some.inj z
      subst this
      exact ⟨Ext.refl _, rx⟩⟩
theorem ei_subM {α : Type} {xs : List α} {f : α → D} {k j : Nat} {dss : List (List D)} (ha : Ev X e env mu (.sub k j)) (hk : mu[k]? = some (.lol dss)) (hj : dss[j]? = some (xs.map f)) : EvI X tg e env mu (xs.map fun x => .one (.d (f x))) (fun mu' => ∃ dss', mu'[k]? = some (.lol dss') ∧ dss'[j]? = some (xs.map f)) := by
  have := ei_sub (tg := tg) ha hk hj
  rwa [List.map_map] at this
end
end Cw
set_option maxHeartbeats 2000000
namespace Cw
open PySem PySem.Spec PyProof.Rows L2
local macro_rules | `(tactic| top_argsB) => `(tactic| first | ((with_reducible refine' gs_eq ?a1_0); (case a1_0 => top_argsB)) | ((with_reducible refine' gs_ne ?a2_0 ?a2_1); (case a2_0 => rfl); (case a2_1 => top_argsB)) | ((with_reducible refine' gs_setN ?a3_0); (case a3_0 => top_argsB)) | ((with_reducible refine' gs_setN0 ?a4_0); (case a4_0 => top_argsB)) | ((with_reducible refine' gs_mapAt ?a5_0); (case a5_0 => top_argsB)) | ((with_reducible refine' gs_mapD ?a6_0); (case a6_0 => top_argsB)) | ((with_reducible refine' gs_mapO ?a7_0 ?a7_1); (case a7_0 => top_argsB); (case a7_1 => first | assumption | omega)) | rfl | fail)
local macro_rules | `(tactic| tb_rel) => `(tactic| first | ((with_reducible refine' c_var ?a8_0 ?a8_1 ?a8_2 ?a8_3); (case a8_0 => assumption); (case a8_1 => with_reducible assumption); (case a8_2 => decide +kernel); (case a8_3 => top_argsB)) | fail)
local macro_rules | `(tactic| tb_start) => `(tactic| first | rfl | exact idx_tup (by assumption) | exact idx_lst (by assumption) | exact idx_at rfl (by assumption) | exact idx_lol rfl (by assumption) | fail)
local macro_rules | `(tactic| allgen_close_more) => `(tactic| first | exact cmp_eqG rfl | exact cmp_neG rfl | exact cmp_lt | exact cmp_le | exact cmp_gt | exact cmp_ge | exact cmp_isN | exact cmp_notN | exact cmp_inS (zs := [_, _]) rfl | exact cmp_notInS (zs := [_, _]) rfl | fail)
local macro_rules | `(tactic| allgen_close2_more) => `(tactic| first | assumption | (constructor <;> first | assumption | omega | rfl) | fail)
local macro_rules | `(tactic| k_caughtN0) => `(tactic| first | exact eo_none | ((with_reducible refine' eo_some ?a9_0); (case a9_0 => kts_caught)) | fail)
local macro_rules | `(tactic| k_caught0) => `(tactic| first | exact ea_nil | ((with_reducible refine' ea_cons ?a10_0 ?a10_1 ?a10_2); (case a10_0 => kts_caught); (case a10_1 => k_caught0); (case a10_2 => exact fun _ _ => rfl)) | fail)
local macro_rules | `(tactic| k_caughtNB) => `(tactic| first
  | ((with_reducible refine' ew_and1 ?a13_0); (case a13_0 => kts_caughtN))
  | ((with_reducible refine' ew_or1 ?a14_0); (case a14_0 => kts_caughtN))
  | ((with_reducible refine' ew_andT ?a15_0 ?a15_1); (case a15_0 => ((with_reducible refine' et_is ?a11_0 ?a11_1); (case a11_0 => kts_caughtN); (case a11_1 => rfl))); (case a15_1 => k_caughtNB))
  | ((with_reducible refine' ew_andF ?a16_0); (case a16_0 => ((with_reducible refine' et_is ?a11_0 ?a11_1); (case a11_0 => kts_caughtN); (case a11_1 => rfl))))
  | ((with_reducible refine' ew_orF ?a17_0 ?a17_1); (case a17_0 => ((with_reducible refine' et_is ?a11_0 ?a11_1); (case a11_0 => kts_caughtN); (case a11_1 => rfl))); (case a17_1 => k_caughtNB))
  | ((with_reducible refine' ew_orT ?a18_0); (case a18_0 => ((with_reducible refine' et_is ?a11_0 ?a11_1); (case a11_0 => kts_caughtN); (case a11_1 => rfl))))
  | fail)
local macro_rules | `(tactic| kts_caught) => `(tactic| first
  | tb_rel
  | with_reducible exact ev_int
  | with_reducible exact ev_str
  | with_reducible exact ev_bl
  | with_reducible exact ev_non
  | ((with_reducible refine' ev_idx ?a19_0 ?a19_1 ?a19_2 ?a19_3); (case a19_0 => kts_caught); (case a19_1 => kts_caught); (case a19_2 => tb_start); (case a19_3 => exact fun _ _ => rfl))
  | ((with_reducible refine' ev_slT ?a20_0 ?a20_1 ?a20_2); (case a20_0 => kts_caught); (case a20_1 => k_caughtN0); (case a20_2 => k_caughtN0))
  | ((with_reducible refine' ev_tup ?a21_0 ?a21_1 ?a21_2); (case a21_0 => k_caught0); (case a21_1 => rfl); (case a21_2 => exact Nat.le_of_ble_eq_true rfl))
  | ((with_reducible refine' ev_add ?a22_0 ?a22_1); (case a22_0 => kts_caught); (case a22_1 => kts_caught))
  | ((with_reducible refine' ev_subI ?a23_0 ?a23_1); (case a23_0 => kts_caught); (case a23_1 => kts_caught))
  | ((with_reducible refine' ev_addS ?a24_0 ?a24_1 ?a24_2); (case a24_0 => kts_caught); (case a24_1 => kts_caught); (case a24_2 => exact Nat.le_of_ble_eq_true rfl))
  | ((with_reducible refine' ev_c ?a25_0 ?a25_1 ?a25_2 ?a25_3); (case a25_0 => kts_caught); (case a25_1 => kts_caught); (case a25_2 => allgen_close_more); (case a25_3 => rfl))
  | ((with_reducible refine' ev_neg ?a26_0); (case a26_0 => kts_caught))
  | ((with_reducible refine' ev_not ?a27_0); (case a27_0 => kts_caught))
  | ((with_reducible refine' ev_and1 ?a28_0); (case a28_0 => kts_caught))
  | ((with_reducible refine' ev_andT ?a29_0 ?a29_1); (case a29_0 => ((with_reducible refine' ev_bls ?a12_0 ?a12_1); (case a12_0 => kts_caught); (case a12_1 => rfl))); (case a29_1 => kts_caught))
  | ((with_reducible refine' ev_andF ?a30_0); (case a30_0 => ((with_reducible refine' ev_bls ?a12_0 ?a12_1); (case a12_0 => kts_caught); (case a12_1 => rfl))))
  | ((with_reducible refine' ev_orF ?a31_0 ?a31_1); (case a31_0 => ((with_reducible refine' ev_bls ?a12_0 ?a12_1); (case a12_0 => kts_caught); (case a12_1 => rfl))); (case a31_1 => kts_caught))
  | ((with_reducible refine' ev_orT ?a32_0); (case a32_0 => ((with_reducible refine' ev_bls ?a12_0 ?a12_1); (case a12_0 => kts_caught); (case a12_1 => rfl))))
  | ((with_reducible refine' ev_ifT ?a33_0 ?a33_1); (case a33_0 => ((with_reducible refine' et_is ?a11_0 ?a11_1); (case a11_0 => kts_caughtN); (case a11_1 => rfl))); (case a33_1 => kts_caught))
  | ((with_reducible refine' ev_ifF ?a34_0 ?a34_1); (case a34_0 => ((with_reducible refine' et_is ?a11_0 ?a11_1); (case a11_0 => kts_caughtN); (case a11_1 => rfl))); (case a34_1 => kts_caught))
  | ((with_reducible refine' c_attr ?a35_0 ?a35_1 ?a35_2 ?a35_3 ?a35_4 ?a35_5 ?a35_6); (case a35_0 => assumption); (case a35_1 => kts_caught); (case a35_2 => first | with_reducible exact Tx.c_Net (by assumption) | with_reducible exact Tx.c_Story (by assumption)); (case a35_3 => first | with_reducible exact Tx.a_Net_processes (by assumption) | with_reducible exact Tx.a_Net_channels (by assumption) | with_reducible exact Tx.a_Net_rules (by assumption) | with_reducible exact Tx.a_Story_net (by assumption) | with_reducible exact Tx.a_Story_rows (by assumption) | with_reducible exact Tx.a_Story_run (by assumption) | with_reducible exact Tx.a_Story_whole (by assumption) | with_reducible exact Tx.a_Story_sent (by assumption) | with_reducible exact Tx.a_Story_ended (by assumption) | with_reducible exact Tx.a_Story_token (by assumption) | with_reducible exact Tx.a_Story_lost (by assumption) | with_reducible exact Tx.a_Story_clocks (by assumption)); (case a35_4 => rfl); (case a35_5 => rfl); (case a35_6 => rfl))
  | ((with_reducible refine' c_attrM ?a36_0 ?a36_1 ?a36_2 ?a36_3 ?a36_4 ?a36_5 ?a36_6); (case a36_0 => assumption); (case a36_1 => kts_caught); (case a36_2 => rfl); (case a36_3 => first | with_reducible exact Tx.c_Net (by assumption) | with_reducible exact Tx.c_Story (by assumption)); (case a36_4 => first | with_reducible exact Tx.a_Net_processes (by assumption) | with_reducible exact Tx.a_Net_channels (by assumption) | with_reducible exact Tx.a_Net_rules (by assumption) | with_reducible exact Tx.a_Story_net (by assumption) | with_reducible exact Tx.a_Story_rows (by assumption) | with_reducible exact Tx.a_Story_run (by assumption) | with_reducible exact Tx.a_Story_whole (by assumption) | with_reducible exact Tx.a_Story_sent (by assumption) | with_reducible exact Tx.a_Story_ended (by assumption) | with_reducible exact Tx.a_Story_token (by assumption) | with_reducible exact Tx.a_Story_lost (by assumption) | with_reducible exact Tx.a_Story_clocks (by assumption)); (case a36_5 => rfl); (case a36_6 => rfl))
  | ((with_reducible refine' c_gint ?a37_0 ?a37_1 ?a37_2); (case a37_0 => assumption); (case a37_1 => first | with_reducible exact Tx.i_MOST_LETTERS (by assumption) | with_reducible exact Tx.i_MOST_PROCESSES (by assumption) | with_reducible exact Tx.i_MOST_STATES (by assumption) | with_reducible exact Tx.i_MOST_CHANNELS (by assumption) | with_reducible exact Tx.i_MOST_RULES (by assumption) | with_reducible exact Tx.i_TOKENS (by assumption) | with_reducible exact Tx.i_MOST_DEEDS (by assumption)); (case a37_2 => decide +kernel))
  | ((with_reducible refine' c_gstr ?a38_0 ?a38_1 ?a38_2); (case a38_0 => assumption); (case a38_1 => with_reducible exact Tx.z_LETTERS (by assumption)); (case a38_2 => decide +kernel))
  | ((with_reducible refine' c_len ?a39_0 ?a39_1 ?a39_2 ?a39_3 ?a39_4 ?a39_5); (case a39_0 => assumption); (case a39_1 => assumption); (case a39_2 => decide +kernel); (case a39_3 => kts_caught); (case a39_4 => rfl); (case a39_5 => exact fun _ _ => rfl))
  | ((with_reducible refine' c_int ?a40_0 ?a40_1 ?a40_2 ?a40_3 ?a40_4); (case a40_0 => assumption); (case a40_1 => assumption); (case a40_2 => decide +kernel); (case a40_3 => kts_caught); (case a40_4 => exact fun _ _ => rfl))
  | ((with_reducible refine' c_isInt ?a41_0 ?a41_1 ?a41_2 ?a41_3 ?a41_4 ?a41_5 ?a41_6); (case a41_0 => assumption); (case a41_1 => assumption); (case a41_2 => decide +kernel); (case a41_3 => decide +kernel); (case a41_4 => kts_caught); (case a41_5 => rfl); (case a41_6 => exact fun _ _ => rfl))
  | ((with_reducible refine' c_isBool ?a42_0 ?a42_1 ?a42_2 ?a42_3 ?a42_4 ?a42_5 ?a42_6); (case a42_0 => assumption); (case a42_1 => assumption); (case a42_2 => decide +kernel); (case a42_3 => decide +kernel); (case a42_4 => kts_caught); (case a42_5 => rfl); (case a42_6 => exact fun _ _ => rfl))
  | ((with_reducible refine' c_isStr ?a43_0 ?a43_1 ?a43_2 ?a43_3 ?a43_4 ?a43_5 ?a43_6); (case a43_0 => assumption); (case a43_1 => assumption); (case a43_2 => decide +kernel); (case a43_3 => decide +kernel); (case a43_4 => kts_caught); (case a43_5 => rfl); (case a43_6 => exact fun _ _ => rfl))
  | ((with_reducible refine' c_isTup ?a44_0 ?a44_1 ?a44_2 ?a44_3 ?a44_4 ?a44_5 ?a44_6); (case a44_0 => assumption); (case a44_1 => assumption); (case a44_2 => decide +kernel); (case a44_3 => decide +kernel); (case a44_4 => kts_caught); (case a44_5 => rfl); (case a44_6 => exact fun _ _ => rfl))
  | ((with_reducible refine' c_isSq ?a45_0 ?a45_1 ?a45_2 ?a45_3 ?a45_4 ?a45_5 ?a45_6 ?a45_7); (case a45_0 => assumption); (case a45_1 => assumption); (case a45_2 => decide +kernel); (case a45_3 => decide +kernel); (case a45_4 => decide +kernel); (case a45_5 => kts_caught); (case a45_6 => rfl); (case a45_7 => exact fun _ _ => rfl))
  | ((with_reducible refine' c_call ?a46_0 ?a46_1 ?a46_2 ?a46_3 ?a46_4 ?a46_5 ?a46_6 ?a46_7 ?a46_8); (case a46_0 => assumption); (case a46_1 => with_reducible assumption); (case a46_2 => decide); (case a46_3 => decide +kernel); (case a46_4 => k_caught0); (case a46_5 => rfl); (case a46_6 => allgen_close2_more); (case a46_7 => rfl); (case a46_8 => rfl))
  | fail)
local macro_rules | `(tactic| kts_caughtN) => `(tactic| first
  | ((with_reducible refine' et_c ?a47_0 ?a47_1 ?a47_2 ?a47_3); (case a47_0 => kts_caught); (case a47_1 => kts_caught); (case a47_2 => allgen_close_more); (case a47_3 => rfl))
  | ((with_reducible refine' et_not ?a48_0); (case a48_0 => kts_caughtN))
  | ((with_reducible refine' et_W ?a49_0); (case a49_0 => k_caughtNB))
  | ((with_reducible refine' et_val ?a50_0 ?a50_1); (case a50_0 => kts_caught); (case a50_1 => exact fun _ => rfl))
  | fail)
local macro_rules | `(tactic| top_reprB) => `(tactic| first | ((with_reducible refine' et_is ?a11_0 ?a11_1); (case a11_0 => kts_caughtN); (case a11_1 => rfl)) | fail)
local macro_rules | `(tactic| top_strB) => `(tactic| first | ((with_reducible refine' ev_bls ?a12_0 ?a12_1); (case a12_0 => kts_caught); (case a12_1 => rfl)) | fail)
local macro_rules | `(tactic| top_name) => `(tactic| first | ((with_reducible refine' ev_is ?a51_0 ?a51_1); (case a51_0 => kts_caught); (case a51_1 => rfl)) | fail)
variable {P : Program} {w : World} {K : PySem.W.Frag} {mg : Str → Option Value} {base : Heap} {CN CS : Addr}
inductive rWhole : List D → D → Prop
  | mk {i : Int} : rWhole [.int i] (.bl true)
theorem w_is_whole (T : Tx P w K mg base CN CS) : FnR P w K mg base "is_whole" 1 rWhole := by
  refine fn_r (N := ["value"]) (ps := ["value"]) T.d_is_whole (fun _ _ _ _ _ _ us hl => match us, hl with | [_], _ => rfl) ⟨rfl, rfl, rfl, by decide +kernel, rfl, by decide +kernel, by decide +kernel⟩ (fun ds d h => by cases h <;> rfl) ?_
  intro X C hX ds d kk h hk
  obtain ⟨N, hN⟩ : ∃ N, (["value"] : List Str) = N := ⟨_, rfl⟩
  rw [hN] at C
  have n0 : N[0]? = some ("value" : Str) := by rw [← hN] <;> rfl
  cases h
  exact c_ret (by kts_caught) rfl hk
theorem w_is_integer (T : Tx P w K mg base CN CS) : FnR P w K mg base "is_integer" 1 rWhole := by
  refine fn_r (N := ["value"]) (ps := ["value"]) T.d_is_integer (fun _ _ _ _ _ _ us hl => match us, hl with | [_], _ => rfl) ⟨rfl, rfl, rfl, by decide +kernel, rfl, by decide +kernel, by decide +kernel⟩ (fun ds d h => by cases h <;> rfl) ?_
  intro X C hX ds d kk h hk
  obtain ⟨N, hN⟩ : ∃ N, (["value"] : List Str) = N := ⟨_, rfl⟩
  rw [hN] at C
  have n0 : N[0]? = some ("value" : Str) := by rw [← hN] <;> rfl
  cases h
  exact c_ret (by kts_caught) rfl hk
inductive rBelow : List D → D → Prop
  | mk {i j : Int} : rBelow [.int i, .int j] (.bl (decide (0 ≤ i) && decide (i < j)))
theorem w_is_below (T : Tx P w K mg base CN CS) : FnR P w K mg base "is_below" 2 rBelow := by
  have g1 := w_is_whole T
  refine fn_r (N := ["value", "top"]) (ps := ["value", "top"]) T.d_is_below (fun _ _ _ _ _ _ us hl => match us, hl with | [_, _], _ => rfl) ⟨rfl, rfl, rfl, by decide +kernel, rfl, by decide +kernel, by decide +kernel⟩ (fun ds d h => by cases h <;> rfl) ?_
  intro X C hX ds d kk h hk
  obtain ⟨N, hN⟩ : ∃ N, (["value", "top"] : List Str) = N := ⟨_, rfl⟩
  rw [hN] at C
  have n0 : N[0]? = some ("value" : Str) := by rw [← hN] <;> rfl
  have n1 : N[1]? = some ("top" : Str) := by rw [← hN] <;> rfl
  cases h
  refine c_ret (ev_andT (by kts_caught) (ev_and1 (ev_chain cmp_le cmp_lt (by kts_caught) (by kts_caught) (by kts_caught) rfl))) rfl hk
inductive rFromTo : List D → D → Prop
  | mk {i j k : Int} : rFromTo [.int i, .int j, .int k] (.bl (decide (j ≤ i) && decide (i ≤ k)))
theorem w_is_from_to (T : Tx P w K mg base CN CS) : FnR P w K mg base "is_from_to" 2 rFromTo := by
  have g1 := w_is_integer T
  refine fn_r (N := ["value", "least", "most"]) (ps := ["value", "least", "most"]) T.d_is_from_to (fun _ _ _ _ _ _ us hl => match us, hl with | [_, _, _], _ => rfl) ⟨rfl, rfl, rfl, by decide +kernel, rfl, by decide +kernel, by decide +kernel⟩ (fun ds d h => by cases h <;> rfl) ?_
  intro X C hX ds d kk h hk
  obtain ⟨N, hN⟩ : ∃ N, (["value", "least", "most"] : List Str) = N := ⟨_, rfl⟩
  rw [hN] at C
  have n0 : N[0]? = some ("value" : Str) := by rw [← hN] <;> rfl
  have n1 : N[1]? = some ("least" : Str) := by rw [← hN] <;> rfl
  have n2 : N[2]? = some ("most" : Str) := by rw [← hN] <;> rfl
  cases h
  refine c_ret (ev_andT (by kts_caught) (ev_and1 (ev_chain cmp_le cmp_le (by kts_caught) (by kts_caught) (by kts_caught) rfl))) rfl hk
inductive rSeq : List D → D → Prop
  | tup {ds : List D} : rSeq [.tup ds] (.bl true)
  | lst {ds : List D} : rSeq [.lst ds] (.bl true)
theorem w_is_sequence (T : Tx P w K mg base CN CS) : FnR P w K mg base "is_sequence" 1 rSeq := by
  refine fn_r (N := ["value"]) (ps := ["value"]) T.d_is_sequence (fun _ _ _ _ _ _ us hl => match us, hl with | [_], _ => rfl) ⟨rfl, rfl, rfl, by decide +kernel, rfl, by decide +kernel, by decide +kernel⟩ (fun ds d h => by cases h <;> rfl) ?_
  intro X C hX ds d kk h hk
  obtain ⟨N, hN⟩ : ∃ N, (["value"] : List Str) = N := ⟨_, rfl⟩
  rw [hN] at C
  have n0 : N[0]? = some ("value" : Str) := by rw [← hN] <;> rfl
  cases h with
  | tup => exact c_ret (by kts_caught) rfl hk
  | lst => exact c_ret (by kts_caught) rfl hk
def nmOk (z : Str) : Bool := decide (1 ≤ z.length) && decide (z.length ≤ 6) && z.cps.toList.all fun c => decide (c ∈ ("abcdefghijklmnopqrstuvwxyz" : Str).cps.toList)
inductive rName : List D → D → Prop
  | mk {z : Str} : nmOk z = true → rName [.str z] (.bl true)
theorem w_is_name (T : Tx P w K mg base CN CS) : FnR P w K mg base "is_name" 1 rName := by
  refine fn_r (N := ["value", "sign"]) (ps := ["value"]) T.d_is_name (fun _ _ _ _ _ _ us hl => match us, hl with | [_], _ => rfl) ⟨rfl, rfl, rfl, by decide +kernel, rfl, by decide +kernel, by decide +kernel⟩ (fun ds d h => by cases h <;> rfl) ?_
  intro X C hX ds d kk h hk
  obtain ⟨N, hN⟩ : ∃ N, (["value", "sign"] : List Str) = N := ⟨_, rfl⟩
  rw [hN] at C
  have n0 : N[0]? = some ("value" : Str) := by rw [← hN] <;> rfl
  have n1 : N[1]? = some ("sign" : Str) := by rw [← hN] <;> rfl
  cases h with
  | @mk z hz =>
    unfold nmOk at hz
    simp only [Bool.and_eq_true, decide_eq_true_eq, List.all_eq_true] at hz
    obtain ⟨⟨h1, h2⟩, h3⟩ := hz
    have hl : lenE [] (.d (.str z)) = some z.length := by simp only [lenE]; rw [if_pos (by omega)]
    have hc : z.cps.toList.length ≤ 10000 := by
      have : z.cps.toList.length = z.length := by rw [Array.length_toList]; rfl
      omega
    refine c_ifF0 (et_W (ew_orF (by top_reprB) (ew_or1 (et_not (et_is (y := true) (et_chain cmp_le cmp_le (by kts_caught) (c_len C T (by decide +kernel) (by kts_caught) hl) (by kts_caught) rfl) ?_))))) ?_
    · simp; omega
    · refine c_ret (c_allT C T (by decide +kernel) (en_cm C hN (T := .one 1) (own := [("sign", 1)]) (f := fun c => .one (.d (.str ⟨#[c]⟩))) (fun c => D.bl (decide (c ∈ ("abcdefghijklmnopqrstuvwxyz" : Str).cps.toList))) (ei_str (by kts_caught)) trivial (by decide +kernel) (by decide +kernel) (fun X' C' => c_tg1 C' n1 (by decide +kernel)) hc (fun c _ => ⟨_, rfl, fun X' C' => ?_⟩)) ?_) rfl hk
      · exact ev_c (by kts_caught) (by kts_caught) cmp_inSign
      · exact fun c hc => decide_eq_true (h3 c hc)
inductive rProc : List D → D → Prop
  | mk {q : Str × Nat} {el : List (Str × Nat)} : nmOk q.1 = true → PyData.strOk q.1 = true → (el.map (·.1)).all PyData.strOk = true → 1 ≤ q.2 → q.2 ≤ 8 → q.1 ∉ el.map (·.1) → el.length ≤ 100 → rProc [encProc q, .tup (el.map encProc)] (.bl true)
theorem w_is_process (T : Tx P w K mg base CN CS) : FnR P w K mg base "is_process" 2 rProc := by
  have g1 := w_is_name T
  have g2 := w_is_whole T
  refine fn_r (N := ["value", "elder", "one"]) (ps := ["value", "elder"]) T.d_is_process (fun _ _ _ _ _ _ us hl => match us, hl with | [_, _], _ => rfl) ⟨rfl, rfl, rfl, by decide +kernel, rfl, by decide +kernel, by decide +kernel⟩ (fun ds d h => by cases h <;> rfl) ?_
  intro X C hX ds d kk h hk
  obtain ⟨N, hN⟩ : ∃ N, (["value", "elder", "one"] : List Str) = N := ⟨_, rfl⟩
  rw [hN] at C
  have n0 : N[0]? = some ("value" : Str) := by rw [← hN] <;> rfl
  have n1 : N[1]? = some ("elder" : Str) := by rw [← hN] <;> rfl
  have n2 : N[2]? = some ("one" : Str) := by rw [← hN] <;> rfl
  cases h with
  | @mk q el h1 h2 h3 h4 h5 h6 h7 =>
    have r1 : rName [.str q.1] (.bl true) := .mk h1
    refine c_ifF0 (by top_reprB) ?_
    refine c_ret (ev_bls (ev_and (ev_chain cmp_le cmp_le (by kts_caught) (by kts_caught) (by kts_caught) rfl) (fun _ => ev_and1 (ev_c (by top_name) (en_cm C hN (T := .one 2) (own := [("one", 2)]) (f := fun d => .one (.d (encProc d))) (fun d => tZ d.1) (xs := el) (ei_tupM (by kts_caught)) trivial (by decide +kernel) (by decide +kernel) (fun X' C' => c_tg1 C' n2 (by decide +kernel)) (by omega) (fun c _ => ⟨_, rfl, fun X' C' => by top_name⟩)).ev (cmp_notInZM C.room rfl h2 h3)))) (by rw [decide_eq_true (show (1 : Int) ≤ (q.2 : Int) by omega), decide_eq_true (show (q.2 : Int) ≤ 8 by omega), decide_eq_false h6]; rfl)) rfl hk
structure ChOk (C : Chan) (n : Nat) (el : List Chan) : Prop where
  n1 : nmOk C.nm = true
  n2 : PyData.strOk C.nm = true
  n3 : (el.map (·.nm)).all PyData.strOk = true
  new : C.nm ∉ el.map (·.nm)
  el : el.length ≤ 100
  g : C.g < n
  t : C.t < n
  ne : C.g ≠ C.t
inductive rChan : List D → D → Prop
  | mk {C : Chan} {ps : List (Str × Nat)} {el : List Chan} : ChOk C ps.length el → rChan [encChan C, .tup (ps.map encProc), .tup (el.map encChan)] (.bl true)
theorem rBelow.yes {i j : Nat} (h : i < j) : rBelow [nD i, nD j] (.bl true) := by
  have : (decide ((0 : Int) ≤ (i : Int)) && decide ((i : Int) < (j : Int))) = true := by
    rw [decide_eq_true (show (0 : Int) ≤ (i : Int) by omega), decide_eq_true (show (i : Int) < (j : Int) by omega)]; rfl
  rw [← this]; exact .mk
theorem kindS_in (a b : Bool) : kindS a b ∈ (["order", "loose", "order lossy", "loose lossy"] : List Str) := by cases a <;> cases b <;> decide
theorem w_is_channel (T : Tx P w K mg base CN CS) : FnR P w K mg base "is_channel" 3 rChan := by
  have g1 := w_is_name T
  have g2 := w_is_below T
  refine fn_r (N := ["value", "processes", "elder", "one"]) (ps := ["value", "processes", "elder"]) T.d_is_channel (fun _ _ _ _ _ _ us hl => match us, hl with | [_, _, _], _ => rfl) ⟨rfl, rfl, rfl, by decide +kernel, rfl, by decide +kernel, by decide +kernel⟩ (fun ds d h => by cases h <;> rfl) ?_
  intro X C hX ds d kk h hk
  obtain ⟨N, hN⟩ : ∃ N, (["value", "processes", "elder", "one"] : List Str) = N := ⟨_, rfl⟩
  rw [hN] at C
  have n0 : N[0]? = some ("value" : Str) := by rw [← hN] <;> rfl
  have n1 : N[1]? = some ("processes" : Str) := by rw [← hN] <;> rfl
  have n2 : N[2]? = some ("elder" : Str) := by rw [← hN] <;> rfl
  have n3 : N[3]? = some ("one" : Str) := by rw [← hN] <;> rfl
  cases h with
  | @mk c ps el h =>
    have r1 : rName [.str c.nm] (.bl true) := .mk h.n1
    have b1 : rBelow [nD c.g, nD (ps.map encProc).length] (.bl true) := .yes (by rw [List.length_map]; exact h.g)
    have b2 : rBelow [nD c.t, nD (ps.map encProc).length] (.bl true) := .yes (by rw [List.length_map]; exact h.t)
    refine c_ifF0 (et_W (ew_orF (by top_reprB) (ew_orF (by top_reprB) (ew_or1 (et_is (et_c (by top_name) (en_cm C hN (T := .one 3) (own := [("one", 3)]) (f := fun d => .one (.d (encChan d))) (fun d => tZ d.nm) (xs := el) (ei_tupM (by kts_caught)) trivial (by decide +kernel) (by decide +kernel) (fun X' C' => c_tg1 C' n3 (by decide +kernel)) (by have := h.el; omega) (fun c _ => ⟨_, rfl, fun X' C' => by top_name⟩)).ev (cmp_inZM C.room rfl h.n2 h.n3)) (decide_eq_false h.new)))))) ?_
    refine c_ifF0 (et_W (ew_orF (by top_reprB) (ew_orF (by top_reprB) (ew_or1 (et_is (by kts_caughtN) (decide_eq_false (by have := h.ne; omega))))))) ?_
    refine c_ret (ev_andT (by top_strB) (ev_and1 (ev_bls (ev_inK (C.gl (by decide +kernel)) (by rw [C.K, C.mg]; exact T.t_KINDS) (by top_name)) (decide_eq_true (kindS_in c.loose c.lossy))))) rfl hk
inductive rAct : List D → D → Prop
  | nop {p : Nat} {cs : List Chan} : rAct [encAct .nop, nD p, .tup (cs.map encChan)] (.bl true)
  | send {c t : Nat} {cs : List Chan} {C : Chan} : t < 10 → cs[c]? = some C → rAct [encAct (.send c t), nD C.g, .tup (cs.map encChan)] (.bl true)
  | take {c t : Nat} {cs : List Chan} {C : Chan} : t < 10 → cs[c]? = some C → rAct [encAct (.take c t), nD C.t, .tup (cs.map encChan)] (.bl true)
theorem w_is_act (T : Tx P w K mg base CN CS) : FnR P w K mg base "is_act" 3 rAct := by
  have g1 := w_is_below T
  refine fn_r (N := ["act", "process", "channels"]) (ps := ["act", "process", "channels"]) T.d_is_act (fun _ _ _ _ _ _ us hl => match us, hl with | [_, _, _], _ => rfl) ⟨rfl, rfl, rfl, by decide +kernel, rfl, by decide +kernel, by decide +kernel⟩ (fun ds d h => by cases h <;> rfl) ?_
  intro X C hX ds d kk h hk
  obtain ⟨N, hN⟩ : ∃ N, (["act", "process", "channels"] : List Str) = N := ⟨_, rfl⟩
  rw [hN] at C
  have n0 : N[0]? = some ("act" : Str) := by rw [← hN] <;> rfl
  have n1 : N[1]? = some ("process" : Str) := by rw [← hN] <;> rfl
  have n2 : N[2]? = some ("channels" : Str) := by rw [← hN] <;> rfl
  cases h with
  | nop =>
    refine c_ifF0 (by top_reprB) ?_
    exact c_ifT (by top_reprB) (c_ret (by top_strB) rfl hk)
  | @send c t cs C h1 h2 =>
    have hl := (List.getElem?_eq_some_iff.mp h2).1
    have b1 : rBelow [nD c, nD (cs.map encChan).length] (.bl true) := .yes (by rw [List.length_map]; exact hl)
    have b2 : rBelow [nD t, .int 10] (.bl true) := rBelow.yes (j := 10) h1
    refine c_ifF0 (by top_reprB) ?_
    refine c_ifF0 (by top_reprB) ?_
    refine c_ifF0 (by top_reprB) ?_
    refine c_ifF0 (by top_reprB) ?_
    refine c_ret (ev_bls (by kts_caught) (decide_eq_true rfl)) rfl hk
  | @take c t cs C h1 h2 =>
    have hl := (List.getElem?_eq_some_iff.mp h2).1
    have b1 : rBelow [nD c, nD (cs.map encChan).length] (.bl true) := .yes (by rw [List.length_map]; exact hl)
    have b2 : rBelow [nD t, .int 10] (.bl true) := rBelow.yes (j := 10) h1
    refine c_ifF0 (by top_reprB) ?_
    refine c_ifF0 (by top_reprB) ?_
    refine c_ifF0 (by top_reprB) ?_
    refine c_ifF0 (by top_reprB) ?_
    refine c_ret (ev_bls (by kts_caught) (decide_eq_true rfl)) rfl hk
def RuOk (r : Rule) (ps : List (Str × Nat)) (cs : List Chan) : Prop := (∃ q, ps[r.p]? = some q ∧ r.s < q.2 ∧ r.s' < q.2) ∧ (match r.a with
    | .nop => True
    | .send c t => t < 10 ∧ ∃ C, cs[c]? = some C ∧ C.g = r.p
    | .take c t => t < 10 ∧ ∃ C, cs[c]? = some C ∧ C.t = r.p)
theorem rAct.of {r : Rule} {ps : List (Str × Nat)} {cs : List Chan} (h : RuOk r ps cs) : rAct [encAct r.a, nD r.p, .tup (cs.map encChan)] (.bl true) := by
  obtain ⟨_, h⟩ := h
  cases e : r.a with
  | nop => exact .nop
  | send c t =>
    rw [e] at h
    obtain ⟨h1, C, h2, h3⟩ := h
    rw [← h3]; exact .send h1 h2
  | take c t =>
    rw [e] at h
    obtain ⟨h1, C, h2, h3⟩ := h
    rw [← h3]; exact .take h1 h2
inductive rRule : List D → D → Prop
  | mk {r : Rule} {ps : List (Str × Nat)} {cs : List Chan} : RuOk r ps cs → rRule [encRule r, .tup (ps.map encProc), .tup (cs.map encChan)] (.bl true)
theorem w_is_rule (T : Tx P w K mg base CN CS) : FnR P w K mg base "is_rule" 4 rRule := by
  have g1 := w_is_below T
  have g2 := w_is_act T
  refine fn_r (N := ["value", "processes", "channels", "states"]) (ps := ["value", "processes", "channels"]) T.d_is_rule (fun _ _ _ _ _ _ us hl => match us, hl with | [_, _, _], _ => rfl) ⟨rfl, rfl, rfl, by decide +kernel, rfl, by decide +kernel, by decide +kernel⟩ (fun ds d h => by cases h <;> rfl) ?_
  intro X C hX ds d kk h hk
  obtain ⟨N, hN⟩ : ∃ N, (["value", "processes", "channels", "states"] : List Str) = N := ⟨_, rfl⟩
  rw [hN] at C
  have n0 : N[0]? = some ("value" : Str) := by rw [← hN] <;> rfl
  have n1 : N[1]? = some ("processes" : Str) := by rw [← hN] <;> rfl
  have n2 : N[2]? = some ("channels" : Str) := by rw [← hN] <;> rfl
  have n3 : N[3]? = some ("states" : Str) := by rw [← hN] <;> rfl
  cases h with
  | @mk r ps cs h =>
    have a1 := rAct.of h
    obtain ⟨⟨q, h1, h2, h3⟩, _⟩ := h
    have hl := (List.getElem?_eq_some_iff.mp h1).1
    have b1 : rBelow [nD r.p, nD (ps.map encProc).length] (.bl true) := .yes (by rw [List.length_map]; exact hl)
    have b2 : rBelow [nD r.s, nD q.2] (.bl true) := .yes h2
    have b3 : rBelow [nD r.s', nD q.2] (.bl true) := .yes h3
    refine c_ifF0 (by top_reprB) ?_
    refine c_set C n3 (by decide +kernel) (by kts_caught) ?_
    refine c_ret (by top_strB) rfl hk
/-- what _frozen makes of data, to this depth -/
inductive Frz : Nat → D → D → Prop
  | stop {d : D} : okD d = true → Frz 0 d d
  | leaf {n : Nat} {d : D} : okD d = true → isSqD d = false → Frz n d d
  | seq {n : Nat} {d : D} {t : Bool} {qs : List (D × D)} : seqD d = some (t, qs.map (·.1)) → (∀ q ∈ qs, Frz n q.1 q.2) → qs.length ≤ 1000 → Frz (n + 1) d (.tup (qs.map (·.2)))
def rFrz (n : Nat) (ds : List D) (e : D) : Prop := ∃ d, ds = [d, nD n] ∧ Frz n d e
theorem w_frozen0 (T : Tx P w K mg base CN CS) : FnR P w K mg base "_frozen" 1 (rFrz 0) := by
  refine fn_r (N := ["value", "depth", "part"]) (ps := ["value", "depth"]) T.d_frozen (fun _ _ _ _ _ _ us hl => match us, hl with | [_, _], _ => rfl) ⟨rfl, rfl, rfl, by decide +kernel, rfl, by decide +kernel, by decide +kernel⟩ (fun ds d h => by obtain ⟨_, rfl, _⟩ := h; rfl) ?_
  intro X C hX ds d kk h hk
  obtain ⟨N, hN⟩ : ∃ N, (["value", "depth", "part"] : List Str) = N := ⟨_, rfl⟩
  rw [hN] at C
  have n0 : N[0]? = some ("value" : Str) := by rw [← hN] <;> rfl
  have n1 : N[1]? = some ("depth" : Str) := by rw [← hN] <;> rfl
  have n2 : N[2]? = some ("part" : Str) := by rw [← hN] <;> rfl
  obtain ⟨d, rfl, h⟩ := h
  refine c_ifF0 (by top_reprB) ?_
  cases h with
  | stop => exact c_ret (by kts_caught) rfl hk
  | leaf => exact c_ret (by kts_caught) rfl hk
theorem seqD_sq {d : D} {t : Bool} {ds : List D} (h : seqD d = some (t, ds)) : okD d = true ∧ isSqD d = true := by
  cases d <;> first | exact ⟨rfl, rfl⟩ | (cases h)
theorem ei_seqM {X : Cx} {e tg : Expr} {env : List (Option E)} {mu : List MO} {d : D} {t : Bool} {α : Type} {xs : List α} {f : α → D} (ha : Ev X e env mu (.d d)) (h : seqD d = some (t, xs.map f)) : EvI X tg e env mu (xs.map fun x => .one (.d (f x))) anyMu := by
  cases d with
  | tup ds => cases h; exact ei_tupM ha
  | lst ds => cases h; exact ei_lstM ha
  | _ => cases h
theorem w_frozenS (T : Tx P w K mg base CN CS) {n m : Nat} (hm : m ≤ 10) (g1 : FnR P w K mg base "_frozen" (m + 1) (rFrz n)) : FnR P w K mg base "_frozen" (m + 2) (rFrz (n + 1)) := by
  refine fn_r (N := ["value", "depth", "part"]) (ps := ["value", "depth"]) T.d_frozen (fun _ _ _ _ _ _ us hl => match us, hl with | [_, _], _ => rfl) ⟨rfl, rfl, rfl, by decide +kernel, rfl, by decide +kernel, by decide +kernel⟩ (fun ds d h => by obtain ⟨_, rfl, _⟩ := h; rfl) ?_
  intro X C hX ds d kk h hk
  obtain ⟨N, hN⟩ : ∃ N, (["value", "depth", "part"] : List Str) = N := ⟨_, rfl⟩
  rw [hN] at C
  have n0 : N[0]? = some ("value" : Str) := by rw [← hN] <;> rfl
  have n1 : N[1]? = some ("depth" : Str) := by rw [← hN] <;> rfl
  have n2 : N[2]? = some ("part" : Str) := by rw [← hN] <;> rfl
  obtain ⟨d, rfl, h⟩ := h
  have hpos : decide ((0 : Int) < ((n + 1 : Nat) : Int)) = true := decide_eq_true (by omega)
  have hsub : ((n + 1 : Nat) : Int) - 1 = (n : Int) := by omega
  cases h with
  | leaf h1 h2 =>
    refine c_ifF0 (et_W (ew_andT (et_is (by kts_caughtN) hpos) (ew_and1 (et_val (ev_bls (c_isSq C T (by decide +kernel) (by decide +kernel) (by decide +kernel) (by kts_caught) h1) h2))))) ?_
    exact c_ret (by kts_caught) rfl hk
  | @seq _ _ t qs h1 h2 h3 =>
    obtain ⟨o1, o2⟩ := seqD_sq h1
    refine c_ifT (et_W (ew_andT (et_is (by kts_caughtN) hpos) (ew_and1 (et_val (ev_bls (c_isSq C T (by decide +kernel) (by decide +kernel) (by decide +kernel) (by kts_caught) o1) o2))))) ?_
    refine c_ret (c_tupN C T (by decide +kernel) (en_cm C hN (T := .one 2) (own := [("part", 2)]) (f := fun q => .one (.d q.1)) (fun q => q.2) (xs := qs) (ei_seqM (by kts_caught) h1) trivial (by decide +kernel) (by decide +kernel) (fun X' C' => c_tg1 C' n2 (by decide +kernel)) (by omega) (fun q hq => ⟨_, rfl, fun X' C' => ?_⟩))) rfl hk
    refine c_call C' g1 (by omega) (by decide +kernel) (εs := [.d q.1, .d (nD n)]) (ea_cons (by kts_caught) (ea_cons (ev_is (by kts_caught) (by rw [hsub])) ea_nil)) rfl ⟨_, rfl, h2 q hq⟩
theorem w_frozen3 (T : Tx P w K mg base CN CS) : FnR P w K mg base "_frozen" 4 (rFrz 3) := w_frozenS T (by decide) (w_frozenS T (by decide) (w_frozenS T (by decide) (w_frozen0 T)))
def rRows (ds : List D) (e : D) : Prop := ∃ (d : D) (es : List D) (a b : Nat), ds = [d, nD a, nD b] ∧ e = .tup es ∧ Frz 3 d (.tup es) ∧ a ≤ es.length ∧ es.length ≤ b ∧ es.length ≤ 100 ∧ ∀ y ∈ es, isTupD y = true
theorem w_rows (T : Tx P w K mg base CN CS) : FnR P w K mg base "_rows" 5 rRows := by
  have g1 := w_frozen3 T
  refine fn_r (N := ["value", "least", "most", "rows", "row"]) (ps := ["value", "least", "most"]) T.d_rows (fun _ _ _ _ _ _ us hl => match us, hl with | [_, _, _], _ => rfl) ⟨rfl, rfl, rfl, by decide +kernel, rfl, by decide +kernel, by decide +kernel⟩ (fun ds d h => by obtain ⟨_, _, _, _, rfl, _⟩ := h; rfl) ?_
  intro X C hX ds d kk h hk
  obtain ⟨N, hN⟩ : ∃ N, (["value", "least", "most", "rows", "row"] : List Str) = N := ⟨_, rfl⟩
  rw [hN] at C
  have n0 : N[0]? = some ("value" : Str) := by rw [← hN] <;> rfl
  have n1 : N[1]? = some ("least" : Str) := by rw [← hN] <;> rfl
  have n2 : N[2]? = some ("most" : Str) := by rw [← hN] <;> rfl
  have n3 : N[3]? = some ("rows" : Str) := by rw [← hN] <;> rfl
  have n4 : N[4]? = some ("row" : Str) := by rw [← hN] <;> rfl
  obtain ⟨d, es, a, b, rfl, rfl, h1, h2, h3, h4, h5⟩ := h
  refine c_set C n3 (by decide +kernel) (c_call C g1 (by decide) (by decide +kernel) (by k_caught0) rfl ⟨_, rfl, h1⟩) ?_
  refine c_ifF0 (et_W (ew_orF (by top_reprB) (ew_or1 (et_not (et_is (y := true) (et_chain cmp_le cmp_le (by kts_caught) (by kts_caught) (by kts_caught) rfl) (by rw [decide_eq_true (show (a : Int) ≤ (es.length : Int) by omega), decide_eq_true (show (es.length : Int) ≤ (b : Int) by omega)]; rfl)))))) ?_
  refine c_ret (ev_ifT (et_val (c_allT C T (by decide +kernel) (en_cm C hN (T := .one 4) (own := [("row", 4)]) (f := fun q => .one (.d q)) (fun q => D.bl (isTupD q)) (xs := es) (ei_tup (by kts_caught)) trivial (by decide +kernel) (by decide +kernel) (fun X' C' => c_tg1 C' n4 (by decide +kernel)) (by omega) (fun q hq => ⟨_, rfl, fun X' C' => ?_⟩)) h5)) (by kts_caught)) rfl hk
  refine c_isTup C' T (by decide +kernel) (by decide +kernel) (by kts_caught) ?_
  have := h5 q hq
  cases q <;> first | rfl | (cases this)
theorem frz_tup {n : Nat} {ds : List D} (h : ∀ d ∈ ds, Frz n d d) (hl : ds.length ≤ 1000) : Frz (n + 1) (.tup ds) (.tup ds) := by
  have e1 : (ds.map fun d => (d, d)).map (·.1) = ds := by rw [List.map_map]; exact List.map_id _
  have e2 : (ds.map fun d => (d, d)).map (·.2) = ds := by rw [List.map_map]; exact List.map_id _
  have := Frz.seq (n := n) (d := .tup ds) (t := true) (qs := ds.map fun d => (d, d)) (by rw [e1]; rfl) (fun q hq => by
    obtain ⟨d, hd, rfl⟩ := List.mem_map.mp hq
    exact h d hd) (by rw [List.length_map]; exact hl)
  rwa [e2] at this
theorem frz_lst {n : Nat} {ds : List D} (h : ∀ d ∈ ds, Frz n d d) (hl : ds.length ≤ 1000) : Frz (n + 1) (.lst ds) (.tup ds) := by
  have e1 : (ds.map fun d => (d, d)).map (·.1) = ds := by rw [List.map_map]; exact List.map_id _
  have e2 : (ds.map fun d => (d, d)).map (·.2) = ds := by rw [List.map_map]; exact List.map_id _
  have := Frz.seq (n := n) (d := .lst ds) (t := false) (qs := ds.map fun d => (d, d)) (by rw [e1]; rfl) (fun q hq => by
    obtain ⟨d, hd, rfl⟩ := List.mem_map.mp hq
    exact h d hd) (by rw [List.length_map]; exact hl)
  rwa [e2] at this
theorem frz_int {n : Nat} {i : Int} : Frz n (.int i) (.int i) := .leaf rfl rfl
theorem frz_str {n : Nat} {z : Str} : Frz n (.str z) (.str z) := .leaf rfl rfl
theorem frz_proc (q : Str × Nat) : Frz 2 (encProc q) (encProc q) := frz_tup (by simp only [List.mem_cons, List.not_mem_nil, or_false, forall_eq_or_imp, forall_eq]; exact ⟨frz_str, frz_int⟩) (Nat.le_of_ble_eq_true rfl)
theorem frz_chan (c : Chan) : Frz 2 (encChan c) (encChan c) := frz_tup (by simp only [List.mem_cons, List.not_mem_nil, or_false, forall_eq_or_imp, forall_eq]; exact ⟨frz_str, frz_int, frz_int, frz_str⟩) (Nat.le_of_ble_eq_true rfl)
theorem frz_act (a : Act) : Frz 1 (encAct a) (encAct a) := by
  cases a with
  | nop => exact frz_tup (by simp only [List.mem_cons, List.not_mem_nil, or_false, forall_eq]; exact frz_str) (Nat.le_of_ble_eq_true rfl)
  | send c t => exact frz_tup (by simp only [List.mem_cons, List.not_mem_nil, or_false, forall_eq_or_imp, forall_eq]; exact ⟨frz_str, frz_int, frz_int⟩) (Nat.le_of_ble_eq_true rfl)
  | take c t => exact frz_tup (by simp only [List.mem_cons, List.not_mem_nil, or_false, forall_eq_or_imp, forall_eq]; exact ⟨frz_str, frz_int, frz_int⟩) (Nat.le_of_ble_eq_true rfl)
theorem frz_rule (r : Rule) : Frz 2 (encRule r) (encRule r) := frz_tup (by simp only [List.mem_cons, List.not_mem_nil, or_false, forall_eq_or_imp, forall_eq]; exact ⟨frz_int, frz_int, frz_act _, frz_int⟩) (Nat.le_of_ble_eq_true rfl)
theorem rows_of {α : Type} {f : α → D} {xs : List α} {a b : Nat} (hf : ∀ x, Frz 2 (f x) (f x)) (ht : ∀ x, isTupD (f x) = true) (h1 : a ≤ xs.length) (h2 : xs.length ≤ b) (h3 : xs.length ≤ 100) : rRows [.lst (xs.map f), nD a, nD b] (.tup (xs.map f)) :=
  ⟨_, _, a, b, rfl, rfl, frz_lst (fun d hd => by obtain ⟨x, _, rfl⟩ := List.mem_map.mp hd; exact hf x) (by rw [List.length_map]; omega), by rw [List.length_map]; exact h1, by rw [List.length_map]; exact h2, by rw [List.length_map]; exact h3, fun y hy => by obtain ⟨x, _, rfl⟩ := List.mem_map.mp hy; exact ht x⟩
theorem cut_take {α : Type} {f : α → D} {xs : List α} {i : Nat} (h : i ≤ xs.length) : cutA (xs.map f) none (some (i : Int)) = (xs.take i).map f := by
  have e1 : HT.sIx (xs.map f).length 0 none = 0 := rfl
  have e2 : HT.sIx (xs.map f).length (xs.map f).length (some (i : Int)) = i := by
    unfold HT.sIx
    simp only [List.length_map]
    split <;> omega
  unfold cutA
  rw [e1, e2, List.drop_zero, Nat.sub_zero, List.map_take]
theorem nodup_take {α β : Type} {f : α → β} {xs : List α} {i : Nat} {x : α} (h : (xs.map f).Nodup) (hx : xs[i]? = some x) : f x ∉ (xs.take i).map f := by
  intro hm
  obtain ⟨y, hy, e⟩ := List.mem_map.mp hm
  obtain ⟨j, hj, ej⟩ := List.mem_iff_getElem.mp hy
  rw [List.length_take] at hj
  rw [List.getElem_take] at ej
  obtain ⟨hi, ei⟩ := List.getElem?_eq_some_iff.mp hx
  have hji : j < i := by omega
  have := List.pairwise_iff_getElem.mp h j i (by rw [List.length_map]; omega) (by rw [List.length_map]; omega) hji
  rw [List.getElem_map, List.getElem_map, ej, ei] at this
  exact this e
theorem take_nodup {l : List Str} (h : l.Nodup) (n : Nat) : (l.take n).Nodup := h.sublist (List.take_sublist n l)
theorem nms_ok : ∀ z ∈ (["p", "q", "r", "ca", "cb", "cc", "cd"] : List Str), nmOk z = true ∧ PyData.strOk z = true := by decide +kernel
theorem GoodN.pn {N : Nt} (h : GoodN N) {z : Str} (hz : z ∈ N.ps.map (·.1)) : nmOk z = true ∧ PyData.strOk z = true := by
  rw [h.pnm] at hz
  have := List.mem_of_mem_take hz
  exact nms_ok z (by
    simp only [List.mem_cons, List.not_mem_nil, or_false] at this ⊢
    rcases this with e | e | e <;> simp [e])
theorem GoodN.cn {N : Nt} (h : GoodN N) {z : Str} (hz : z ∈ N.cs.map (·.nm)) : nmOk z = true ∧ PyData.strOk z = true := by
  rw [h.cnm] at hz
  have := List.mem_of_mem_take hz
  exact nms_ok z (by
    simp only [List.mem_cons, List.not_mem_nil, or_false] at this ⊢
    rcases this with e | e | e | e <;> simp [e])
theorem GoodN.proc {N : Nt} (h : GoodN N) {i : Nat} {q : Str × Nat} (hq : N.ps[i]? = some q) : rProc [encProc q, .tup ((N.ps.take i).map encProc)] (.bl true) := by
  have hm := List.mem_of_getElem? hq
  obtain ⟨a1, a2⟩ := h.pn (List.mem_map.mpr ⟨q, hm, rfl⟩)
  obtain ⟨b1, b2⟩ := h.psz q hm
  refine .mk a1 a2 (List.all_eq_true.mpr fun z hz => ?_) b1 b2 (nodup_take (by rw [h.pnm]; exact take_nodup (by decide) _) hq) (by rw [List.length_take]; have := h.p3; omega)
  obtain ⟨y, hy, rfl⟩ := List.mem_map.mp hz
  exact (h.pn (List.mem_map.mpr ⟨y, List.mem_of_mem_take hy, rfl⟩)).2
theorem GoodN.chan {N : Nt} (h : GoodN N) {i : Nat} {c : Chan} (hc : N.cs[i]? = some c) : rChan [encChan c, .tup (N.ps.map encProc), .tup ((N.cs.take i).map encChan)] (.bl true) := by
  have hm := List.mem_of_getElem? hc
  obtain ⟨a1, a2⟩ := h.cn (List.mem_map.mpr ⟨c, hm, rfl⟩)
  obtain ⟨b1, b2, b3⟩ := h.cg c hm
  refine .mk ⟨a1, a2, List.all_eq_true.mpr fun z hz => ?_, nodup_take (by rw [h.cnm]; exact take_nodup (by decide) _) hc, by rw [List.length_take]; have := h.c4; omega, b1, b2, b3⟩
  obtain ⟨y, hy, rfl⟩ := List.mem_map.mp hz
  exact (h.cn (List.mem_map.mpr ⟨y, List.mem_of_mem_take hy, rfl⟩)).2
theorem GoodN.rule {N : Nt} (h : GoodN N) {r : Rule} (hr : r ∈ N.rs) : rRule [encRule r, .tup (N.ps.map encProc), .tup (N.cs.map encChan)] (.bl true) := .mk ⟨h.rp r hr, h.ra r hr⟩
def netFs (N : Nt) : List (Str × E) := [("processes", .d (.tup (N.ps.map encProc))), ("channels", .d (.tup (N.cs.map encChan))), ("rules", .d (.tup (N.rs.map encRule)))]
def PreNet (CN : Addr) (εs : List E) (mu : List MO) (kk : D → List MO → Prop) : Prop := ∃ N, GoodN N ∧ εs = [.at 0, .d (.lst (N.ps.map encProc)), .d (.lst (N.cs.map encChan)), .d (.lst (N.rs.map encRule))] ∧ mu = [.ins CN []] ∧ kk .non [.ins CN (netFs N)]
theorem w_Net (T : Tx P w K mg base CN CS) : MkM P w K mg base "Net" CN 6 (PreNet CN) := by
  have g1 := w_rows T
  have g2 := w_is_process T
  have g3 := w_is_channel T
  have g4 := w_is_rule T
  refine fn_i (N := ["self", "processes", "channels", "rules", "rows", "at", "row", "ways", "way", "told", "rule"]) (ps := ["self", "processes", "channels", "rules"]) T.d_Net_init (fun _ _ _ _ _ _ us hl => match us, hl with | [_, _, _, _], _ => rfl) ⟨rfl, rfl, rfl, by decide +kernel, rfl, by decide +kernel, by decide +kernel⟩ (fun ds mu kk h => by obtain ⟨_, _, rfl, _⟩ := h; rfl) ?_
  intro X C hX ds mu kk h
  obtain ⟨N, hN⟩ : ∃ N, (["self", "processes", "channels", "rules", "rows", "at", "row", "ways", "way", "told", "rule"] : List Str) = N := ⟨_, rfl⟩
  rw [hN] at C
  have n0 : N[0]? = some ("self" : Str) := by rw [← hN] <;> rfl
  have n1 : N[1]? = some ("processes" : Str) := by rw [← hN] <;> rfl
  have n2 : N[2]? = some ("channels" : Str) := by rw [← hN] <;> rfl
  have n3 : N[3]? = some ("rules" : Str) := by rw [← hN] <;> rfl
  have n4 : N[4]? = some ("rows" : Str) := by rw [← hN] <;> rfl
  have n5 : N[5]? = some ("at" : Str) := by rw [← hN] <;> rfl
  have n6 : N[6]? = some ("row" : Str) := by rw [← hN] <;> rfl
  have n7 : N[7]? = some ("ways" : Str) := by rw [← hN] <;> rfl
  have n8 : N[8]? = some ("way" : Str) := by rw [← hN] <;> rfl
  have n9 : N[9]? = some ("told" : Str) := by rw [← hN] <;> rfl
  have n10 : N[10]? = some ("rule" : Str) := by rw [← hN] <;> rfl
  obtain ⟨M, G, rfl, rfl, hk⟩ := h
  have r1 : rRows [.lst (M.ps.map encProc), .int 1, .int 5] (.tup (M.ps.map encProc)) := rows_of (a := 1) (b := 5) frz_proc (fun _ => rfl) (by have := G.p2; omega) (by have := G.p3; omega) (by have := G.p3; omega)
  have r2 : rRows [.lst (M.cs.map encChan), .int 0, .int 8] (.tup (M.cs.map encChan)) := rows_of (a := 0) (b := 8) frz_chan (fun _ => rfl) (by omega) (by have := G.c4; omega) (by have := G.c4; omega)
  have r3 : rRows [.lst (M.rs.map encRule), .int 0, .int 40] (.tup (M.rs.map encRule)) := rows_of (a := 0) (b := 40) frz_rule (fun _ => rfl) (by omega) G.r0 (by have := G.r0; omega)
  refine c_set C n4 (by decide +kernel) (by kts_caught) ?_
  refine c_ifF0 (et_W (ew_orF (by top_reprB) (ew_or1 (et_not (et_val (c_allC C T (by decide +kernel) (en_cm C hN (T := .two 5 6) (own := [("at", 5), ("row", 6)]) (f := fun q => .two (.d (nD q.2)) (.d (encProc q.1))) (fun q => D.bl true) (xs := M.ps.zipIdx) (c_enumM C T (by decide +kernel) (by kts_caught) rfl) trivial (by decide +kernel) (by decide +kernel) (fun X' C' => c_tg2 C' n5 (by decide +kernel) n6 (by decide +kernel)) (by rw [List.length_zipIdx]; have := G.p3; omega) (fun q hq => ⟨_, rfl, fun X' C' => ?_⟩)))))))) ?_
  · obtain ⟨q1, q2⟩ := q
    have hi := List.mem_zipIdx_iff_getElem?.mp hq
    have hl := (List.getElem?_eq_some_iff.mp hi).1
    refine c_call C' g2 (by decide) (by decide +kernel) (εs := [.d (encProc q1), .d (.tup ((M.ps.take q2).map encProc))]) (ea_cons (by kts_caught) (ea_cons (ev_is (by kts_caught) (by rw [cut_take (Nat.le_of_lt hl)])) ea_nil)) rfl (G.proc hi)
  refine c_set C n7 (by decide +kernel) (by kts_caught) ?_
  refine c_ifF0 (et_W (ew_orF (by top_reprB) (ew_or1 (et_not (et_val (c_allC C T (by decide +kernel) (en_cm C hN (T := .two 5 8) (own := [("at", 5), ("way", 8)]) (f := fun q => .two (.d (nD q.2)) (.d (encChan q.1))) (fun q => D.bl true) (xs := M.cs.zipIdx) (c_enumM C T (by decide +kernel) (by kts_caught) rfl) trivial (by decide +kernel) (by decide +kernel) (fun X' C' => c_tg2 C' n5 (by decide +kernel) n8 (by decide +kernel)) (by rw [List.length_zipIdx]; have := G.c4; omega) (fun q hq => ⟨_, rfl, fun X' C' => ?_⟩)))))))) ?_
  · obtain ⟨q1, q2⟩ := q
    have hi := List.mem_zipIdx_iff_getElem?.mp hq
    have hl := (List.getElem?_eq_some_iff.mp hi).1
    refine c_call C' g3 (by decide) (by decide +kernel) (εs := [.d (encChan q1), .d (.tup (M.ps.map encProc)), .d (.tup ((M.cs.take q2).map encChan))]) (ea_cons (by kts_caught) (ea_cons (by kts_caught) (ea_cons (ev_is (by kts_caught) (by rw [cut_take (Nat.le_of_lt hl)])) ea_nil))) rfl (G.chan hi)
  refine c_set C n9 (by decide +kernel) (by kts_caught) ?_
  refine c_ifF0 (et_W (ew_orF (by top_reprB) (ew_or1 (et_not (et_val (c_allC C T (by decide +kernel) (en_cm C hN (T := .one 10) (own := [("rule", 10)]) (f := fun q => .one (.d (encRule q))) (fun q => D.bl true) (xs := M.rs) (ei_tupM (by kts_caught)) trivial (by decide +kernel) (by decide +kernel) (fun X' C' => c_tg1 C' n10 (by decide +kernel)) (by have := G.r0; omega) (fun q hq => ⟨_, rfl, fun X' C' => ?_⟩)))))))) ?_
  · have r4 := G.rule hq
    kts_caught
  refine go_cons (go_fld (by kts_caught) rfl (by rw [C.K]; exact T.c_Net) (by rw [C.K]; exact T.a_Net_processes) (by decide) (by kts_caught) ?_)
  refine go_cons (go_fld (by kts_caught) rfl (by rw [C.K]; exact T.c_Net) (by rw [C.K]; exact T.a_Net_channels) (Nat.le_of_ble_eq_true rfl) (by kts_caught) ?_)
  refine go_cons (go_fld (by kts_caught) rfl (by rw [C.K]; exact T.c_Net) (by rw [C.K]; exact T.a_Net_rules) (Nat.le_of_ble_eq_true rfl) (by kts_caught) ?_)
  exact go_nil hk
theorem map_const {α : Type} {d : D} : ∀ xs : List α, List.replicate xs.length d = xs.map fun _ => d
  | [] => rfl
  | x :: xs => by rw [List.length_cons, List.replicate_succ, map_const xs]; rfl
inductive rStart (CN : Addr) : List D → D → Prop
  | mk {M : Nt} : GoodN M → rStart CN [encNet CN M] (encWd (wd0 M))
theorem w_start (T : Tx P w K mg base CN CS) : FnR P w K mg base "start" 1 (rStart CN) := by
  refine fn_r (N := ["net", "channels"]) (ps := ["net"]) T.d_start (fun _ _ _ _ _ _ us hl => match us, hl with | [_], _ => rfl) ⟨rfl, rfl, rfl, by decide +kernel, rfl, by decide +kernel, by decide +kernel⟩ (fun ds d h => by cases h <;> rfl) ?_
  intro X C hX ds d kk h hk
  obtain ⟨N, hN⟩ : ∃ N, (["net", "channels"] : List Str) = N := ⟨_, rfl⟩
  rw [hN] at C
  have n0 : N[0]? = some ("net" : Str) := by rw [← hN] <;> rfl
  have n1 : N[1]? = some ("channels" : Str) := by rw [← hN] <;> rfl
  cases h with
  | @mk M G =>
    refine c_set C n1 (by decide +kernel) (by kts_caught) ?_
    refine c_retD (ev_is (ev_tup (ea_cons (c_rep (d := nD 0) (m := (M.ps.map encProc).length) (by kts_caught) (by kts_caught) (by rw [List.length_map]; have := G.p2; omega) (by rw [List.length_map]; have := G.p3; omega)) (ea_cons (c_rep (d := nD 0) (m := (M.cs.map encChan).length) (by kts_caught) (by kts_caught) (by rw [List.length_map]; have := G.c1; omega) (by rw [List.length_map]; have := G.c4; omega)) (ea_cons (c_rep (d := .tup []) (m := (M.cs.map encChan).length) (by kts_caught) (by kts_caught) (by rw [List.length_map]; have := G.c1; omega) (by rw [List.length_map]; have := G.c4; omega)) ea_nil))) rfl (Nat.le_of_ble_eq_true rfl)) ?_) hk
    rw [List.length_map, List.length_map, map_const, map_const, map_const]
    unfold encWd wd0
    simp only [List.map_map]
    rfl
inductive rLossy (CN : Addr) : List D → D → Prop
  | mk {M : Nt} {c : Nat} {C : Chan} : M.cs[c]? = some C → rLossy CN [encNet CN M, nD c] (.bl C.lossy)
theorem w_is_lossy (T : Tx P w K mg base CN CS) : FnR P w K mg base "is_lossy" 1 (rLossy CN) := by
  refine fn_r (N := ["net", "channel"]) (ps := ["net", "channel"]) T.d_is_lossy (fun _ _ _ _ _ _ us hl => match us, hl with | [_, _], _ => rfl) ⟨rfl, rfl, rfl, by decide +kernel, rfl, by decide +kernel, by decide +kernel⟩ (fun ds d h => by cases h <;> rfl) ?_
  intro X C hX ds d kk h hk
  obtain ⟨N, hN⟩ : ∃ N, (["net", "channel"] : List Str) = N := ⟨_, rfl⟩
  rw [hN] at C
  have n0 : N[0]? = some ("net" : Str) := by rw [← hN] <;> rfl
  have n1 : N[1]? = some ("channel" : Str) := by rw [← hN] <;> rfl
  cases h with
  | @mk M c ch hc =>
    refine c_ret (ev_bls (ev_c (by top_name) (by kts_caught) (cmp_inS (z := kindS ch.loose ch.lossy) (zs := ["order lossy", "loose lossy"]) rfl)) ?_) rfl hk
    cases ch.loose <;> cases ch.lossy <;> decide
inductive rOrdered (CN : Addr) : List D → D → Prop
  | mk {M : Nt} {c : Nat} {C : Chan} : M.cs[c]? = some C → rOrdered CN [encNet CN M, nD c] (.bl (!C.loose))
theorem w_is_ordered (T : Tx P w K mg base CN CS) : FnR P w K mg base "is_ordered" 1 (rOrdered CN) := by
  refine fn_r (N := ["net", "channel"]) (ps := ["net", "channel"]) T.d_is_ordered (fun _ _ _ _ _ _ us hl => match us, hl with | [_, _], _ => rfl) ⟨rfl, rfl, rfl, by decide +kernel, rfl, by decide +kernel, by decide +kernel⟩ (fun ds d h => by cases h <;> rfl) ?_
  intro X C hX ds d kk h hk
  obtain ⟨N, hN⟩ : ∃ N, (["net", "channel"] : List Str) = N := ⟨_, rfl⟩
  rw [hN] at C
  have n0 : N[0]? = some ("net" : Str) := by rw [← hN] <;> rfl
  have n1 : N[1]? = some ("channel" : Str) := by rw [← hN] <;> rfl
  cases h with
  | @mk M c ch hc =>
    refine c_ret (ev_bls (ev_c (by top_name) (by kts_caught) (cmp_inS (z := kindS ch.loose ch.lossy) (zs := ["order", "order lossy"]) rfl)) ?_) rfl hk
    cases ch.loose <;> cases ch.lossy <;> decide
inductive rAs (CN : Addr) : List D → D → Prop
  | mk {M : Nt} {d : Deed} : IsDeed M d → rAs CN [encNet CN M, encDeed d] (encDeed d)
theorem parts_ok (C0 : True) : True := trivial
theorem w_as_deed (T : Tx P w K mg base CN CS) : FnR P w K mg base "as_deed" 3 (rAs CN) := by
  have g1 := w_is_whole T
  have g2 := w_is_below T
  have g3 := w_is_lossy T
  refine fn_r (N := ["net", "deed", "part", "fits", "is_take"]) (ps := ["net", "deed"]) T.d_as_deed (fun _ _ _ _ _ _ us hl => match us, hl with | [_, _], _ => rfl) ⟨rfl, rfl, rfl, by decide +kernel, rfl, by decide +kernel, by decide +kernel⟩ (fun ds d h => by cases h <;> rfl) ?_
  intro X C hX ds d kk h hk
  obtain ⟨N, hN⟩ : ∃ N, (["net", "deed", "part", "fits", "is_take"] : List Str) = N := ⟨_, rfl⟩
  rw [hN] at C
  have n0 : N[0]? = some ("net" : Str) := by rw [← hN] <;> rfl
  have n1 : N[1]? = some ("deed" : Str) := by rw [← hN] <;> rfl
  have n2 : N[2]? = some ("part" : Str) := by rw [← hN] <;> rfl
  have n3 : N[3]? = some ("fits" : Str) := by rw [← hN] <;> rfl
  have n4 : N[4]? = some ("is_take" : Str) := by rw [← hN] <;> rfl
  cases h with
  | @mk M d hd =>
    have w1 : ∀ i : Nat, rWhole [nD i] (.bl true) := fun _ => .mk
    cases d with
    | act r =>
      obtain ⟨⟨p, s, a, s'⟩, hR, ha⟩ := hd
      have hl := (List.getElem?_eq_some_iff.mp hR).1
      have b1 : rBelow [nD r, nD (M.rs.map encRule).length] (.bl true) := .yes (by rw [List.length_map]; exact hl)
      refine c_ifF0 (by top_reprB) ?_
      refine c_ifF0 (et_not (et_val (c_allC C T (by decide +kernel) (en_cm C hN (T := .one 2) (own := [("part", 2)]) (f := fun x => .one (.d (nD x))) (fun _ => D.bl true) (xs := [r]) (ei_tupM (by top_name)) trivial (by decide +kernel) (by decide +kernel) (fun X' C' => c_tg1 C' n2 (by decide +kernel)) (Nat.le_of_ble_eq_true rfl) (fun x hx => ⟨_, rfl, fun X' C' => ev_andT (by have := w1 x; kts_caught) (ev_and1 (ev_bls (by kts_caught) (decide_eq_true (by omega))))⟩))))) ?_
      refine c_ifF0 (by top_reprB) ?_
      refine c_ifF0 (by top_reprB) ?_
      cases a with
      | nop =>
        refine c_set C n4 (by decide +kernel) (by top_strB) ?_
        refine c_set C n3 (by decide +kernel) (by top_strB) ?_
        exact c_retD (ev_ifT (by kts_caughtN) (c_tup C T (by decide +kernel) (by kts_caught) rfl)) hk
      | send c t =>
        refine c_set C n4 (by decide +kernel) (by top_strB) ?_
        refine c_set C n3 (by decide +kernel) (by top_strB) ?_
        exact c_retD (ev_ifT (by kts_caughtN) (c_tup C T (by decide +kernel) (by kts_caught) rfl)) hk
      | take c t => exact absurd rfl (ha c t)
    | take r k =>
      obtain ⟨⟨p, s, a, s'⟩, c, t, hR, rfl⟩ := hd
      have hl := (List.getElem?_eq_some_iff.mp hR).1
      have b1 : rBelow [nD r, nD (M.rs.map encRule).length] (.bl true) := .yes (by rw [List.length_map]; exact hl)
      refine c_ifF0 (by top_reprB) ?_
      refine c_ifF0 (et_not (et_val (c_allC C T (by decide +kernel) (en_cm C hN (T := .one 2) (own := [("part", 2)]) (f := fun x => .one (.d (nD x))) (fun _ => D.bl true) (xs := [r, k]) (ei_tupM (by top_name)) trivial (by decide +kernel) (by decide +kernel) (fun X' C' => c_tg1 C' n2 (by decide +kernel)) (Nat.le_of_ble_eq_true rfl) (fun x hx => ⟨_, rfl, fun X' C' => ev_andT (by have := w1 x; kts_caught) (ev_and1 (ev_bls (by kts_caught) (decide_eq_true (by omega))))⟩))))) ?_
      refine c_ifF0 (by top_reprB) ?_
      refine c_ifF0 (by top_reprB) ?_
      refine c_set C n4 (by decide +kernel) (by top_strB) ?_
      refine c_set C n3 (by decide +kernel) (by top_strB) ?_
      exact c_retD (ev_ifT (by kts_caughtN) (c_tup C T (by decide +kernel) (by kts_caught) rfl)) hk
    | lose c k =>
      obtain ⟨Ch, hC, hls⟩ := hd
      have hl := (List.getElem?_eq_some_iff.mp hC).1
      have b1 : rBelow [nD c, nD (M.cs.map encChan).length] (.bl true) := .yes (by rw [List.length_map]; exact hl)
      have b2 : rLossy CN [encNet CN M, nD c] (.bl true) := by rw [← hls]; exact .mk hC
      refine c_ifF0 (by top_reprB) ?_
      refine c_ifF0 (et_not (et_val (c_allC C T (by decide +kernel) (en_cm C hN (T := .one 2) (own := [("part", 2)]) (f := fun x => .one (.d (nD x))) (fun _ => D.bl true) (xs := [c, k]) (ei_tupM (by top_name)) trivial (by decide +kernel) (by decide +kernel) (fun X' C' => c_tg1 C' n2 (by decide +kernel)) (Nat.le_of_ble_eq_true rfl) (fun x hx => ⟨_, rfl, fun X' C' => ev_andT (by have := w1 x; kts_caught) (ev_and1 (ev_bls (by kts_caught) (decide_eq_true (by omega))))⟩))))) ?_
      refine c_ifT (by top_reprB) ?_
      refine c_set C n3 (by decide +kernel) (by top_strB) ?_
      exact c_retD (ev_ifT (by kts_caughtN) (c_tup C T (by decide +kernel) (by kts_caught) rfl)) hk
inductive rOwn (CN : Addr) : List D → D → Prop
  | mk {M : Nt} {d : Deed} {p : Nat} : IsDeed M d → owner M d = some p → rOwn CN [encNet CN M, encDeed d] (nD p)
theorem owner_act {M : Nt} {r p : Nat} (h : owner M (.act r) = some p) : ∃ R, M.rs[r]? = some R ∧ R.p = p := by
  have h : (M.rs[r]?).map (·.p) = some p := h
  cases e : M.rs[r]? with
  | none => rw [e] at h; cases h
  | some R => rw [e] at h; exact ⟨R, rfl, Option.some.inj h⟩
theorem owner_lose {M : Nt} {c k p : Nat} (h : owner M (.lose c k) = some p) : ∃ C, M.cs[c]? = some C ∧ C.t = p := by
  have h : (M.cs[c]?).map (·.t) = some p := h
  cases e : M.cs[c]? with
  | none => rw [e] at h; cases h
  | some R => rw [e] at h; exact ⟨R, rfl, Option.some.inj h⟩
theorem w_owner_of (T : Tx P w K mg base CN CS) : FnR P w K mg base "owner_of" 1 (rOwn CN) := by
  refine fn_r (N := ["net", "deed"]) (ps := ["net", "deed"]) T.d_owner_of (fun _ _ _ _ _ _ us hl => match us, hl with | [_, _], _ => rfl) ⟨rfl, rfl, rfl, by decide +kernel, rfl, by decide +kernel, by decide +kernel⟩ (fun ds d h => by cases h <;> rfl) ?_
  intro X C hX ds d kk h hk
  obtain ⟨N, hN⟩ : ∃ N, (["net", "deed"] : List Str) = N := ⟨_, rfl⟩
  rw [hN] at C
  have n0 : N[0]? = some ("net" : Str) := by rw [← hN] <;> rfl
  have n1 : N[1]? = some ("deed" : Str) := by rw [← hN] <;> rfl
  cases h with
  | @mk M d p hd hp =>
    cases d with
    | act r =>
      obtain ⟨R, hR, rfl⟩ := owner_act hp
      exact c_retD (ev_ifF (by top_reprB) (by kts_caught)) hk
    | take r k =>
      obtain ⟨R, hR, rfl⟩ := owner_act (r := r) hp
      exact c_retD (ev_ifF (by top_reprB) (by kts_caught)) hk
    | lose c k =>
      obtain ⟨R, hR, rfl⟩ := owner_lose hp
      exact c_retD (ev_ifT (by top_reprB) (by kts_caught)) hk
theorem isNon_deed (d : Deed) : isNon (.d (encDeed d)) = false := by cases d <;> rfl
theorem w_owner (T : Tx P w K mg base CN CS) : FnR P w K mg base "owner" 4 (rOwn CN) := by
  have g1 := w_as_deed T
  have g2 := w_owner_of T
  refine fn_r (N := ["net", "deed", "clean"]) (ps := ["net", "deed"]) T.d_owner (fun _ _ _ _ _ _ us hl => match us, hl with | [_, _], _ => rfl) ⟨rfl, rfl, rfl, by decide +kernel, rfl, by decide +kernel, by decide +kernel⟩ (fun ds d h => by cases h <;> rfl) ?_
  intro X C hX ds d kk h hk
  obtain ⟨N, hN⟩ : ∃ N, (["net", "deed", "clean"] : List Str) = N := ⟨_, rfl⟩
  rw [hN] at C
  have n0 : N[0]? = some ("net" : Str) := by rw [← hN] <;> rfl
  have n1 : N[1]? = some ("deed" : Str) := by rw [← hN] <;> rfl
  have n2 : N[2]? = some ("clean" : Str) := by rw [← hN] <;> rfl
  cases h with
  | @mk M d p hd hp =>
    have a1 : rAs CN [encNet CN M, encDeed d] (encDeed d) := .mk hd
    have a2 : rOwn CN [encNet CN M, encDeed d] (nD p) := .mk hd hp
    refine c_set C n2 (by decide +kernel) (by kts_caught) ?_
    refine c_ifF0 (et_is (by kts_caughtN) (isNon_deed d)) ?_
    exact c_retD (by kts_caught) hk
inductive rOpen (CN : Addr) : List D → D → Prop
  | mk {M : Nt} {W : Wd} {c : Nat} {C : Chan} {m : List (Nat × Nat)} : M.cs[c]? = some C → W.pres[c]? = some m → m.length ≤ 1000 → rOpen CN [encNet CN M, encWd W, nD c] (encRow (openM C m))
theorem cut_1 {α : Type} {xs : List α} : cutA xs none (some 1) = xs.take 1 := by
  have e1 : HT.sIx xs.length 0 none = 0 := rfl
  have e2 : HT.sIx xs.length xs.length (some 1) = min 1 xs.length := by
    unfold HT.sIx
    simp only
    split <;> omega
  unfold cutA
  rw [e1, e2, List.drop_zero, Nat.sub_zero]
  cases xs <;> simp
theorem w_open_messages_of (T : Tx P w K mg base CN CS) : FnR P w K mg base "open_messages_of" 2 (rOpen CN) := by
  have g1 := w_is_ordered T
  refine fn_r (N := ["net", "world", "channel", "present", "pair"]) (ps := ["net", "world", "channel"]) T.d_open_messages_of (fun _ _ _ _ _ _ us hl => match us, hl with | [_, _, _], _ => rfl) ⟨rfl, rfl, rfl, by decide +kernel, rfl, by decide +kernel, by decide +kernel⟩ (fun ds d h => by cases h <;> rfl) ?_
  intro X C hX ds d kk h hk
  obtain ⟨N, hN⟩ : ∃ N, (["net", "world", "channel", "present", "pair"] : List Str) = N := ⟨_, rfl⟩
  rw [hN] at C
  have n0 : N[0]? = some ("net" : Str) := by rw [← hN] <;> rfl
  have n1 : N[1]? = some ("world" : Str) := by rw [← hN] <;> rfl
  have n2 : N[2]? = some ("channel" : Str) := by rw [← hN] <;> rfl
  have n3 : N[3]? = some ("present" : Str) := by rw [← hN] <;> rfl
  have n4 : N[4]? = some ("pair" : Str) := by rw [← hN] <;> rfl
  cases h with
  | @mk M W c ch m hc hm hl =>
    have b1 : rOrdered CN [encNet CN M, nD c] (.bl (!ch.loose)) := .mk hc
    refine c_set C n3 (by decide +kernel) (c_tupN C T (by decide +kernel) (en_cm C hN (T := .one 4) (own := [("pair", 4)]) (f := fun q => .one (.d (encPair q))) (fun q => encPair q) (xs := m) (ei_tupM (ev_is (ev_idx (ev_idx (by kts_caught) (by kts_caught) (by tb_start)) (by kts_caught) (idx_tup (f := encRow) hm)) rfl)) trivial (by decide +kernel) (by decide +kernel) (fun X' C' => c_tg1 C' n4 (by decide +kernel)) (by omega) (fun q hq => ⟨_, rfl, fun X' C' => c_tup C' T (by decide +kernel) (by kts_caught) rfl⟩))) ?_
    cases hb : ch.loose with
    | true =>
      have : openM ch m = m := by unfold openM; rw [if_pos hb]
      rw [this] at hk
      rw [hb] at b1
      exact c_retD (ev_ifF (et_val (by kts_caught)) (by kts_caught)) hk
    | false =>
      have : openM ch m = m.take 1 := by unfold openM; rw [if_neg (by rw [hb]; exact Bool.false_ne_true)]
      rw [this] at hk
      rw [hb] at b1
      exact c_retD (ev_ifT (et_val (by kts_caught)) (ev_is (ev_slT (by kts_caught) eo_none (eo_some ev_int)) (by rw [cut_1]; unfold encRow; rw [List.map_take]))) hk
inductive rWith : List D → D → Prop
  | mk {ds : List D} {i : Nat} {d : D} : i < ds.length → ds.length ≤ 1000 → rWith [.tup ds, nD i, d] (.tup (ds.set i d))
theorem cut_to {α : Type} {xs : List α} {i : Nat} (h : i ≤ xs.length) : cutA xs none (some (i : Int)) = xs.take i := by
  have e1 : HT.sIx xs.length 0 none = 0 := rfl
  have e2 : HT.sIx xs.length xs.length (some (i : Int)) = i := by
    unfold HT.sIx
    simp only
    split <;> omega
  unfold cutA
  rw [e1, e2, List.drop_zero, Nat.sub_zero]
theorem cut_from {α : Type} {xs : List α} {i : Nat} (h : i ≤ xs.length) : cutA xs (some (i : Int)) none = xs.drop i := by
  have e1 : HT.sIx xs.length xs.length none = xs.length := rfl
  have e2 : HT.sIx xs.length 0 (some (i : Int)) = i := by
    unfold HT.sIx
    simp only
    split <;> omega
  unfold cutA
  rw [e1, e2, List.take_of_length_le (by rw [List.length_drop]; exact Nat.le_refl _)]
theorem set_cut {α : Type} {xs : List α} {i : Nat} {d : α} (h : i < xs.length) : xs.take i ++ [d] ++ xs.drop (i + 1) = xs.set i d := by
  rw [List.set_eq_take_append_cons_drop, if_pos h, List.append_assoc]; rfl
theorem w_with_part (T : Tx P w K mg base CN CS) : FnR P w K mg base "_with_part" 1 rWith := by
  refine fn_r (N := ["row", "at", "part"]) (ps := ["row", "at", "part"]) T.d_with_part (fun _ _ _ _ _ _ us hl => match us, hl with | [_, _, _], _ => rfl) ⟨rfl, rfl, rfl, by decide +kernel, rfl, by decide +kernel, by decide +kernel⟩ (fun ds d h => by cases h <;> rfl) ?_
  intro X C hX ds d kk h hk
  obtain ⟨N, hN⟩ : ∃ N, (["row", "at", "part"] : List Str) = N := ⟨_, rfl⟩
  rw [hN] at C
  have n0 : N[0]? = some ("row" : Str) := by rw [← hN] <;> rfl
  have n1 : N[1]? = some ("at" : Str) := by rw [← hN] <;> rfl
  have n2 : N[2]? = some ("part" : Str) := by rw [← hN] <;> rfl
  cases h with
  | @mk ds i d h1 h2 =>
    have hz : sizeLine = 16777216 := sizeLine_eq
    refine c_retD (ev_is (ev_catT (ε1 := .d (.tup (ds.take i ++ [d]))) (ε2 := .d (.tup (ds.drop (i + 1)))) (ev_catT (ε1 := .d (.tup (ds.take i))) (ε2 := .d (.tup [d])) (c_tup C T (by decide +kernel) (ev_is (ev_slT (by kts_caught) eo_none (eo_some (by kts_caught))) (by rw [cut_to (Nat.le_of_lt h1)])) rfl) (by kts_caught) (by rw [List.length_take, List.length_singleton]; omega)) (c_tup C T (by decide +kernel) (ev_is (ev_slT (by kts_caught) (eo_some (by kts_caught)) eo_none) (by rw [show ((i : Int) + 1) = ((i + 1 : Nat) : Int) from rfl, cut_from (by omega)])) rfl) (by rw [List.length_append, List.length_take, List.length_drop, List.length_singleton]; omega)) (by rw [set_cut h1])) hk
inductive rWithout : List D → D → Prop
  | mk {pres : List (List (Nat × Nat))} {c k : Nat} {m : List (Nat × Nat)} : pres[c]? = some m → pres.length ≤ 1000 → m.length ≤ 1000 → rWithout [.tup (pres.map encRow), nD c, nD k] (.tup ((pres.modify c fun r => r.filter fun q => decide (q.1 ≠ k)).map encRow))
theorem map_modify {α : Type} {f : α → D} {g : α → α} {xs : List α} {c : Nat} {m : α} (h : xs[c]? = some m) : (xs.modify c g).map f = (xs.map f).set c (f (g m)) := by
  apply List.ext_getElem?
  intro i
  rw [List.getElem?_map, List.getElem?_modify, List.getElem?_set, List.getElem?_map]
  by_cases e : c = i
  · subst e
    obtain ⟨hl, _⟩ := List.getElem?_eq_some_iff.mp h
    rw [h]
    simp [hl]
  · simp [e]
theorem w_without_message (T : Tx P w K mg base CN CS) : FnR P w K mg base "_without_message" 2 rWithout := by
  have g1 := w_with_part T
  refine fn_r (N := ["present", "channel", "k", "left", "pair"]) (ps := ["present", "channel", "k"]) T.d_without_message (fun _ _ _ _ _ _ us hl => match us, hl with | [_, _, _], _ => rfl) ⟨rfl, rfl, rfl, by decide +kernel, rfl, by decide +kernel, by decide +kernel⟩ (fun ds d h => by cases h <;> rfl) ?_
  intro X C hX ds d kk h hk
  obtain ⟨N, hN⟩ : ∃ N, (["present", "channel", "k", "left", "pair"] : List Str) = N := ⟨_, rfl⟩
  rw [hN] at C
  have n0 : N[0]? = some ("present" : Str) := by rw [← hN] <;> rfl
  have n1 : N[1]? = some ("channel" : Str) := by rw [← hN] <;> rfl
  have n2 : N[2]? = some ("k" : Str) := by rw [← hN] <;> rfl
  have n3 : N[3]? = some ("left" : Str) := by rw [← hN] <;> rfl
  have n4 : N[4]? = some ("pair" : Str) := by rw [← hN] <;> rfl
  cases h with
  | @mk pres c k m h1 h2 h3 =>
    have hl := (List.getElem?_eq_some_iff.mp h1).1
    refine c_set C n3 (by decide +kernel) (c_tupN C T (by decide +kernel) (en_c C hN (T := .one 4) (own := [("pair", 4)]) (f := fun q => .one (.d (encPair q))) (fun q => decide (q.1 ≠ k)) (fun q => encPair q) (xs := m) (ei_tupM (ev_is (ev_idx (by kts_caught) (by kts_caught) (idx_tup (f := encRow) h1)) rfl)) trivial (by decide +kernel) (by decide +kernel) (fun X' C' => c_tg1 C' n4 (by decide +kernel)) (by omega) (fun q hq => ⟨_, rfl, fun X' C' => ⟨ets_one (et_is (by kts_caughtN) ?_), fun _ => c_tup C' T (by decide +kernel) (by kts_caught) rfl⟩⟩))) ?_
    · by_cases e : q.1 = k
      · simp [e]
      · have : ¬ (q.1 : Int) = (k : Int) := by omega
        simp [e, this]
    · have a1 : rWith [.tup (pres.map encRow), nD c, encRow (m.filter fun q => decide (q.1 ≠ k))] (.tup ((pres.modify c fun r => r.filter fun q => decide (q.1 ≠ k)).map encRow)) := by
        rw [map_modify h1]
        exact .mk (by rw [List.length_map]; exact hl) (by rw [List.length_map]; exact h2)
      exact c_retD (c_call C g1 (by decide) (by decide +kernel) (by k_caught0) rfl a1) hk
section
variable {X : Cx} {mu : List MO} {ε : E} {α : Type} {xs : List α} {k : Nat} {t : Bool}
theorem cmp_inIM {f : α → Nat} {z : Nat} (h : seqE mu ε = some (t, xs.map fun x => nD (f x))) : CmpOk X .In mu (.d (nD z)) ε (decide (z ∈ xs.map f)) := by
  have := cmp_inI (X := X) (z := (z : Int)) (zs := xs.map fun x => (f x : Int)) (mu := mu) (ε := ε) (t := t) (by rw [h, List.map_map]; rfl)
  refine this.is ?_
  rw [Bool.eq_iff_iff, decide_eq_true_eq, decide_eq_true_eq, List.mem_map, List.mem_map]
  exact ⟨fun ⟨x, h1, h2⟩ => ⟨x, h1, by omega⟩, fun ⟨x, h1, h2⟩ => ⟨x, h1, by omega⟩⟩
theorem cmp_notInIM {f : α → Nat} {z : Nat} (h : seqE mu ε = some (t, xs.map fun x => nD (f x))) : CmpOk X .NotIn mu (.d (nD z)) ε (!decide (z ∈ xs.map f)) := by
  have := cmp_notInI (X := X) (z := (z : Int)) (zs := xs.map fun x => (f x : Int)) (mu := mu) (ε := ε) (t := t) (by rw [h, List.map_map]; rfl)
  refine this.is ?_
  congr 1
  rw [Bool.eq_iff_iff, decide_eq_true_eq, decide_eq_true_eq, List.mem_map, List.mem_map]
  exact ⟨fun ⟨x, h1, h2⟩ => ⟨x, h1, by omega⟩, fun ⟨x, h1, h2⟩ => ⟨x, h1, by omega⟩⟩
theorem mem_pr {q : Nat × Nat} {xs : List (Nat × Nat)} : ([(q.1 : Int), (q.2 : Int)] ∈ xs.map fun q => [(q.1 : Int), (q.2 : Int)]) ↔ q ∈ xs := by
  rw [List.mem_map]
  constructor
  · rintro ⟨x, h1, h2⟩
    simp only [List.cons.injEq, and_true] at h2
    obtain ⟨h2, h3⟩ := h2
    have : x = q := Prod.ext (by omega) (by omega)
    rw [← this]; exact h1
  · exact fun h => ⟨q, h, rfl⟩
theorem cmp_inPM {q : Nat × Nat} {xs : List (Nat × Nat)} (hr : Room k X.A) (h : seqE mu ε = some (true, xs.map encPair)) : CmpOk X .In mu (.d (encPair q)) ε (decide (q ∈ xs)) := by
  have := cmp_inT (X := X) (k := k) (n := [(q.1 : Int), (q.2 : Int)]) (nss := xs.map fun q => [(q.1 : Int), (q.2 : Int)]) (mu := mu) (ε := ε) hr (by rw [h, List.map_map]; rfl)
  refine CmpOk.is this ?_
  rw [Bool.eq_iff_iff, decide_eq_true_eq, decide_eq_true_eq, mem_pr]
theorem cmp_notInPM {q : Nat × Nat} {xs : List (Nat × Nat)} (hr : Room k X.A) (h : seqE mu ε = some (true, xs.map encPair)) : CmpOk X .NotIn mu (.d (encPair q)) ε (!decide (q ∈ xs)) := by
  have := cmp_notInT (X := X) (k := k) (n := [(q.1 : Int), (q.2 : Int)]) (nss := xs.map fun q => [(q.1 : Int), (q.2 : Int)]) (mu := mu) (ε := ε) hr (by rw [h, List.map_map]; rfl)
  refine CmpOk.is this ?_
  congr 1
  rw [Bool.eq_iff_iff, decide_eq_true_eq, decide_eq_true_eq, mem_pr]
theorem cmp_notInPL {q : Nat × Nat} {xs : List (Nat × Nat)} (hr : Room k X.A) (h : seqE mu ε = some (false, xs.map encPair)) : CmpOk X .NotIn mu (.d (encPair q)) ε (!decide (q ∈ xs)) := by
  have := cmp_notInL (X := X) (k := k) (n := [(q.1 : Int), (q.2 : Int)]) (nss := xs.map fun q => [(q.1 : Int), (q.2 : Int)]) (mu := mu) (ε := ε) hr (by rw [h, List.map_map]; rfl)
  refine CmpOk.is this ?_
  congr 1
  rw [Bool.eq_iff_iff, decide_eq_true_eq, decide_eq_true_eq, mem_pr]
end
structure WdOk (M : Nt) (W : Wd) : Prop where
  sh : Shp M W
  ms : ∀ m ∈ W.pres, m.length ≤ 1000
inductive rCan (CN : Addr) : List D → D → Prop
  | mk {M : Nt} {W : Wd} {d : Deed} {b : Bool} : GoodN M → WdOk M W → IsDeed M d → (b = true ↔ Can M W d) → rCan CN [encNet CN M, encWd W, encDeed d] (.bl b)
theorem get_of {α : Type} {xs : List α} {i n : Nat} (h : xs.length = n) (hi : i < n) : ∃ x, xs[i]? = some x := ⟨_, List.getElem?_eq_getElem (by omega)⟩
theorem Bool.iffE {a b : Bool} {p : Prop} (h : b = true ↔ p) (h2 : a = true ↔ p) : a = b := by
  rw [Bool.eq_iff_iff, h, h2]
theorem w_can_do (T : Tx P w K mg base CN CS) : FnR P w K mg base "can_do" 3 (rCan CN) := by
  have g1 := w_open_messages_of T
  refine fn_r (N := ["net", "world", "deed", "k", "_", "process", "state", "act"]) (ps := ["net", "world", "deed"]) T.d_can_do (fun _ _ _ _ _ _ us hl => match us, hl with | [_, _, _], _ => rfl) ⟨rfl, rfl, rfl, by decide +kernel, rfl, by decide +kernel, by decide +kernel⟩ (fun ds d h => by cases h <;> rfl) ?_
  intro X C hX ds d kk h hk
  obtain ⟨N, hN⟩ : ∃ N, (["net", "world", "deed", "k", "_", "process", "state", "act"] : List Str) = N := ⟨_, rfl⟩
  rw [hN] at C
  have n0 : N[0]? = some ("net" : Str) := by rw [← hN] <;> rfl
  have n1 : N[1]? = some ("world" : Str) := by rw [← hN] <;> rfl
  have n2 : N[2]? = some ("deed" : Str) := by rw [← hN] <;> rfl
  have n3 : N[3]? = some ("k" : Str) := by rw [← hN] <;> rfl
  have n4 : N[4]? = some ("_" : Str) := by rw [← hN] <;> rfl
  have n5 : N[5]? = some ("process" : Str) := by rw [← hN] <;> rfl
  have n6 : N[6]? = some ("state" : Str) := by rw [← hN] <;> rfl
  have n7 : N[7]? = some ("act" : Str) := by rw [← hN] <;> rfl
  cases h with
  | @mk M W d b G S hd hb =>
    cases d with
    | lose c k =>
      obtain ⟨Ch, hC, hls⟩ := hd
      obtain ⟨m, hm⟩ := get_of S.sh.pres (List.getElem?_eq_some_iff.mp hC).1
      have a1 : rOpen CN [encNet CN M, encWd W, nD c] (encRow (openM Ch m)) := .mk hC hm (S.ms m (List.mem_of_getElem? hm))
      have hl : (openM Ch m).length ≤ 1000 := by
        have := S.ms m (List.mem_of_getElem? hm)
        unfold openM
        split
        · exact this
        · rw [List.length_take]; omega
      refine c_ifT (by top_reprB) ?_
      refine c_retD (ev_bls (ev_c (by kts_caught) (en_cm C hN (T := .two 3 4) (own := [("k", 3), ("_", 4)]) (f := fun q => .one (.d (encPair q))) (fun q => nD q.1) (xs := openM Ch m) (ei_tupM (by top_name)) trivial (by decide +kernel) (by decide +kernel) (fun X' C' => c_tg2 C' n3 (by decide +kernel) n4 (by decide +kernel)) (by omega) (fun q hq => ⟨_, rfl, fun X' C' => by kts_caught⟩)).ev (cmp_inIM (f := Prod.fst) rfl)) (Bool.iffE hb ?_)) hk
      rw [decide_eq_true_eq, List.mem_map]
      constructor
      · rintro ⟨⟨k', t⟩, h1, h2⟩
        simp only at h2
        subst h2
        exact ⟨Ch, m, t, hC, hls, hm, h1⟩
      · rintro ⟨C2, m2, t, h1, _, h3, h4⟩
        rw [hC] at h1; cases h1
        rw [hm] at h3; cases h3
        exact ⟨(k, t), h4, rfl⟩
    | act r =>
      obtain ⟨⟨p, s, a, s'⟩, hR, ha⟩ := hd
      obtain ⟨q, hq, _⟩ := G.rp _ (List.mem_of_getElem? hR)
      obtain ⟨x, hx⟩ := get_of S.sh.st (List.getElem?_eq_some_iff.mp hq).1
      refine c_ifF0 (by top_reprB) ?_
      refine c_unp C (nt_cons C n5 (by decide +kernel) (nt_cons C n6 (by decide +kernel) (nt_cons C n7 (by decide +kernel) (nt_cons C n4 (by decide +kernel) nt_nil)))) (ds := [nD p, nD s, encAct a, nD s']) (by top_name) rfl ?_
      by_cases e : x = s
      · have hbt : b = true := hb.mpr ⟨_, hR, ha, by rw [← e]; exact hx⟩
        refine c_ifF0 (et_is (by kts_caughtN) (by simp [e])) ?_
        subst hbt
        exact c_retD (ev_orT (by top_strB)) hk
      · have hbf : b = false := by
          cases b with
          | false => rfl
          | true =>
            obtain ⟨R, h1, _, h3⟩ := hb.mp rfl
            rw [hR] at h1; cases h1
            simp only at h3
            rw [hx] at h3
            exact absurd (Option.some.inj h3) e
        refine c_ifT (et_is (by kts_caughtN) (by simp; omega)) ?_
        subst hbf
        exact c_retD (by kts_caught) hk
    | take r k =>
      obtain ⟨⟨p, s, a, s'⟩, c, t, hR, rfl⟩ := hd
      obtain ⟨q, hq, _⟩ := G.rp _ (List.mem_of_getElem? hR)
      obtain ⟨x, hx⟩ := get_of S.sh.st (List.getElem?_eq_some_iff.mp hq).1
      obtain ⟨_, Ch, hC, _⟩ := G.ra _ (List.mem_of_getElem? hR)
      obtain ⟨m, hm⟩ := get_of S.sh.pres (List.getElem?_eq_some_iff.mp hC).1
      have a1 : rOpen CN [encNet CN M, encWd W, nD c] (encRow (openM Ch m)) := .mk hC hm (S.ms m (List.mem_of_getElem? hm))
      refine c_ifF0 (by top_reprB) ?_
      refine c_unp C (nt_cons C n5 (by decide +kernel) (nt_cons C n6 (by decide +kernel) (nt_cons C n7 (by decide +kernel) (nt_cons C n4 (by decide +kernel) nt_nil)))) (ds := [nD p, nD s, encAct (.take c t), nD s']) (by top_name) rfl ?_
      by_cases e : x = s
      · refine c_ifF0 (et_is (by kts_caughtN) (by simp [e])) ?_
        refine c_retD (ev_orF (by top_strB) (ev_and1 (ev_bls (ev_c (by top_name) (by kts_caught) (cmp_inPM (q := (k, t)) C.room rfl)) (Bool.iffE hb ?_)))) hk
        rw [decide_eq_true_eq]
        constructor
        · exact fun h => ⟨_, c, t, Ch, m, hR, rfl, by rw [← e]; exact hx, hC, hm, h⟩
        · rintro ⟨R, c2, t2, C2, m2, h1, h2, _, h4, h5, h6⟩
          rw [hR] at h1; cases h1
          cases h2
          rw [hC] at h4; cases h4
          rw [hm] at h5; cases h5
          exact h6
      · have hbf : b = false := by
          cases b with
          | false => rfl
          | true =>
            obtain ⟨R, _, _, _, _, h1, _, h3, _⟩ := hb.mp rfl
            rw [hR] at h1; cases h1
            simp only at h3
            rw [hx] at h3
            exact absurd (Option.some.inj h3) e
        refine c_ifT (et_is (by kts_caughtN) (by simp; omega)) ?_
        subst hbf
        exact c_retD (by kts_caught) hk
inductive rBeh (CN : Addr) : List D → D → Prop
  | mk {M : Nt} {W : Wd} {d : Deed} : GoodN M → WdOk M W → IsDeed M d → rBeh CN [encNet CN M, encWd W, encDeed d] (encWd (doD M W d))
theorem encWd_st {W : Wd} {p s : Nat} : encWd { W with st := W.st.set p s } = .tup [.tup ((W.st.map nD).set p (nD s)), .tup (W.sent.map nD), .tup (W.pres.map encRow)] := by
  unfold encWd
  rw [List.map_set]
theorem w_behind (T : Tx P w K mg base CN CS) : FnR P w K mg base "behind_worlds" 3 (rBeh CN) := by
  have g1 := w_with_part T
  have g2 := w_without_message T
  refine fn_r (N := ["net", "world", "deed", "states", "sent", "present", "pair", "row", "process", "_", "act", "then", "k"]) (ps := ["net", "world", "deed"]) T.d_behind_worlds (fun _ _ _ _ _ _ us hl => match us, hl with | [_, _, _], _ => rfl) ⟨rfl, rfl, rfl, by decide +kernel, rfl, by decide +kernel, by decide +kernel⟩ (fun ds d h => by cases h <;> rfl) ?_
  intro X C hX ds d kk h hk
  obtain ⟨N, hN⟩ : ∃ N, (["net", "world", "deed", "states", "sent", "present", "pair", "row", "process", "_", "act", "then", "k"] : List Str) = N := ⟨_, rfl⟩
  rw [hN] at C
  have n0 : N[0]? = some ("net" : Str) := by rw [← hN] <;> rfl
  have n1 : N[1]? = some ("world" : Str) := by rw [← hN] <;> rfl
  have n2 : N[2]? = some ("deed" : Str) := by rw [← hN] <;> rfl
  have n3 : N[3]? = some ("states" : Str) := by rw [← hN] <;> rfl
  have n4 : N[4]? = some ("sent" : Str) := by rw [← hN] <;> rfl
  have n5 : N[5]? = some ("present" : Str) := by rw [← hN] <;> rfl
  have n6 : N[6]? = some ("pair" : Str) := by rw [← hN] <;> rfl
  have n7 : N[7]? = some ("row" : Str) := by rw [← hN] <;> rfl
  have n8 : N[8]? = some ("process" : Str) := by rw [← hN] <;> rfl
  have n9 : N[9]? = some ("_" : Str) := by rw [← hN] <;> rfl
  have n10 : N[10]? = some ("act" : Str) := by rw [← hN] <;> rfl
  have n11 : N[11]? = some ("then" : Str) := by rw [← hN] <;> rfl
  have n12 : N[12]? = some ("k" : Str) := by rw [← hN] <;> rfl
  cases h with
  | @mk M W d G S hd =>
    have hz : sizeLine = 16777216 := sizeLine_eq
    have lp := S.sh.pres
    have lc := G.c4
    refine c_set C n3 (by decide +kernel) (c_tup C T (by decide +kernel) (by kts_caught) rfl) ?_
    refine c_set C n4 (by decide +kernel) (c_tup C T (by decide +kernel) (by kts_caught) rfl) ?_
    refine c_set C n5 (by decide +kernel) (c_tupN C T (by decide +kernel) (en_cm C hN (T := .one 7) (own := [("row", 7)]) (f := fun m => .one (.d (encRow m))) (fun m => encRow m) (xs := W.pres) (ei_tupM (by top_name)) trivial (by decide +kernel) (by decide +kernel) (fun X' C' => c_tg1 C' n7 (by decide +kernel)) (by omega) (fun m hm => ⟨_, rfl, fun X' C' => ?_⟩))) ?_
    · exact c_tupN C' T (by decide +kernel) (en_cm C' hN (T := .one 6) (own := [("pair", 6)]) (f := fun q => .one (.d (encPair q))) (fun q => encPair q) (xs := m) (ei_tupM (by top_name)) trivial (by decide +kernel) (by decide +kernel) (fun X' C' => c_tg1 C' n6 (by decide +kernel)) (by have := S.ms m hm; omega) (fun q hq => ⟨_, rfl, fun X' C' => c_tup C' T (by decide +kernel) (by kts_caught) rfl⟩))
    cases d with
    | lose c k =>
      obtain ⟨Ch, hC, hls⟩ := hd
      obtain ⟨m, hm⟩ := get_of S.sh.pres (List.getElem?_eq_some_iff.mp hC).1
      have a1 : rWithout [.tup (W.pres.map encRow), nD c, nD k] (.tup ((W.pres.modify c fun r => r.filter fun q => decide (q.1 ≠ k)).map encRow)) := .mk hm (by omega) (S.ms m (List.mem_of_getElem? hm))
      refine c_ifT (by top_reprB) ?_
      exact c_retD (by top_name) hk
    | act r =>
      obtain ⟨⟨p, s, a, s'⟩, hR, ha⟩ := hd
      obtain ⟨q, hq, _⟩ := G.rp _ (List.mem_of_getElem? hR)
      have hpl := (List.getElem?_eq_some_iff.mp hq).1
      have l3 := G.p3
      have ls := S.sh.st
      have a1 : rWith [.tup (W.st.map nD), nD p, nD s'] (.tup ((W.st.map nD).set p (nD s'))) := .mk (by rw [List.length_map]; simp only at hpl; omega) (by rw [List.length_map]; omega)
      refine c_ifF0 (by top_reprB) ?_
      refine c_unp C (nt_cons C n8 (by decide +kernel) (nt_cons C n9 (by decide +kernel) (nt_cons C n10 (by decide +kernel) (nt_cons C n11 (by decide +kernel) nt_nil)))) (ds := [nD p, nD s, encAct a, nD s']) (by top_name) rfl ?_
      refine c_set C n3 (by decide +kernel) (by kts_caught) ?_
      cases a with
      | nop =>
        refine c_ifF0 (by top_reprB) ?_
        refine c_ifF0 (by top_reprB) ?_
        refine c_retD (ev_is (by kts_caught) ?_) hk
        rw [show doD M W (.act r) = { W with st := W.st.set p s' } by simp only [doD, hR] <;> rfl, encWd_st]
      | send c t =>
        obtain ⟨_, Ch, hC, _⟩ := G.ra _ (List.mem_of_getElem? hR)
        have hcl := (List.getElem?_eq_some_iff.mp hC).1
        obtain ⟨m, hm⟩ := get_of S.sh.pres hcl
        obtain ⟨k0, hk0⟩ := get_of S.sh.sent hcl
        have lse := S.sh.sent
        have lm := S.ms m (List.mem_of_getElem? hm)
        have a2 : rWith [.tup (W.pres.map encRow), nD c, encRow (m ++ [(k0, t)])] (.tup ((W.pres.map encRow).set c (encRow (m ++ [(k0, t)])))) := .mk (by rw [List.length_map]; omega) (by rw [List.length_map]; omega)
        have a3 : rWith [.tup (W.sent.map nD), nD c, nD (k0 + 1)] (.tup ((W.sent.map nD).set c (nD (k0 + 1)))) := .mk (by rw [List.length_map]; omega) (by rw [List.length_map]; omega)
        refine c_ifF0 (by top_reprB) ?_
        refine c_ifT (by top_reprB) ?_
        refine c_set C n12 (by decide +kernel) (by kts_caught) ?_
        refine c_set C n5 (by decide +kernel) (c_call C g1 (by decide) (by decide +kernel) (εs := [.d (.tup (W.pres.map encRow)), .d (nD c), .d (encRow (m ++ [(k0, t)]))]) (ea_cons (by kts_caught) (ea_cons (by kts_caught) (ea_cons (ev_is (ev_catT (ε1 := .d .non) (ε2 := .d .non) (xs := m.map encPair) (ys := [encPair (k0, t)]) (ev_is (ev_idx (by kts_caught) (by kts_caught) (idx_tup (f := encRow) hm)) rfl) (by top_name) (by rw [List.length_map, List.length_singleton]; omega)) (by unfold encRow; rw [List.map_append]; rfl)) ea_nil))) rfl a2) ?_
        refine c_set C n4 (by decide +kernel) (c_call C g1 (by decide) (by decide +kernel) (εs := [.d (.tup (W.sent.map nD)), .d (nD c), .d (nD (k0 + 1))]) (ea_cons (by kts_caught) (ea_cons (by kts_caught) (ea_cons (by top_name) ea_nil))) rfl a3) ?_
        refine go_nil ?_
        refine c_retD (ev_is (by kts_caught) ?_) hk
        rw [show doD M W (.act r) = doSend { W with st := W.st.set p s' } c t by simp only [doD, hR] <;> rfl]
        unfold doSend encWd
        simp only
        rw [map_modify hk0, map_modify hm, hk0, List.map_set]
        rfl
      | take c t => exact absurd rfl (ha c t)
    | take r k =>
      obtain ⟨⟨p, s, a, s'⟩, c, t, hR, rfl⟩ := hd
      obtain ⟨q, hq, _⟩ := G.rp _ (List.mem_of_getElem? hR)
      obtain ⟨_, Ch, hC, _⟩ := G.ra _ (List.mem_of_getElem? hR)
      obtain ⟨m, hm⟩ := get_of S.sh.pres (List.getElem?_eq_some_iff.mp hC).1
      have hpl := (List.getElem?_eq_some_iff.mp hq).1
      have l3 := G.p3
      have ls := S.sh.st
      have a1 : rWith [.tup (W.st.map nD), nD p, nD s'] (.tup ((W.st.map nD).set p (nD s'))) := .mk (by rw [List.length_map]; simp only at hpl; omega) (by rw [List.length_map]; omega)
      have a2 : rWithout [.tup (W.pres.map encRow), nD c, nD k] (.tup ((W.pres.modify c fun r => r.filter fun q => decide (q.1 ≠ k)).map encRow)) := .mk hm (by omega) (S.ms m (List.mem_of_getElem? hm))
      refine c_ifF0 (by top_reprB) ?_
      refine c_unp C (nt_cons C n8 (by decide +kernel) (nt_cons C n9 (by decide +kernel) (nt_cons C n10 (by decide +kernel) (nt_cons C n11 (by decide +kernel) nt_nil)))) (ds := [nD p, nD s, encAct (.take c t), nD s']) (by top_name) rfl ?_
      refine c_set C n3 (by decide +kernel) (by kts_caught) ?_
      refine c_ifT (by top_reprB) ?_
      refine c_retD (ev_is (by kts_caught) ?_) hk
      rw [show doD M W (.take r k) = dropM { W with st := W.st.set p s' } c k by simp only [doD, hR] <;> rfl]
      unfold dropM encWd
      simp only
      rw [List.map_set]
inductive rMsg (CN : Addr) : List D → D → Prop
  | act {M : Nt} {r : Nat} : rMsg CN [encNet CN M, encDeed (.act r)] .non
  | take {M : Nt} {r k c t : Nat} {R : Rule} : M.rs[r]? = some R → R.a = .take c t → rMsg CN [encNet CN M, encDeed (.take r k)] (encPair (c, k))
  | lose {M : Nt} {c k : Nat} : rMsg CN [encNet CN M, encDeed (.lose c k)] (encPair (c, k))
theorem w_message_of (T : Tx P w K mg base CN CS) : FnR P w K mg base "message_of" 1 (rMsg CN) := by
  refine fn_r (N := ["net", "deed"]) (ps := ["net", "deed"]) T.d_message_of (fun _ _ _ _ _ _ us hl => match us, hl with | [_, _], _ => rfl) ⟨rfl, rfl, rfl, by decide +kernel, rfl, by decide +kernel, by decide +kernel⟩ (fun ds d h => by cases h <;> rfl) ?_
  intro X C hX ds d kk h hk
  obtain ⟨N, hN⟩ : ∃ N, (["net", "deed"] : List Str) = N := ⟨_, rfl⟩
  rw [hN] at C
  have n0 : N[0]? = some ("net" : Str) := by rw [← hN] <;> rfl
  have n1 : N[1]? = some ("deed" : Str) := by rw [← hN] <;> rfl
  cases h with
  | act =>
    refine c_ifF0 (by top_reprB) ?_
    refine c_ifF0 (by top_reprB) ?_
    exact c_retD (by kts_caught) hk
  | @take M r k c t R h1 h2 =>
    obtain ⟨p, s, a, s'⟩ := R
    simp only at h2
    subst h2
    refine c_ifT (by top_reprB) ?_
    exact c_retD (by top_name) hk
  | @lose M c k =>
    refine c_ifF0 (by top_reprB) ?_
    refine c_ifT (by top_reprB) ?_
    exact c_retD (by top_name) hk
def within (xs ys : List Nat) : Bool := (xs.zip ys).all fun q => decide (q.1 ≤ q.2)
def rWithin (ds : List D) (e : D) : Prop := ∃ (d1 d2 : D) (t u : Bool) (xs ys : List Nat), ds = [d1, d2] ∧ seqD d1 = some (t, xs.map nD) ∧ seqD d2 = some (u, ys.map nD) ∧ xs.length ≤ 1000 ∧ e = .bl (within xs ys)
theorem nle (a b : Nat) : decide ((a : Int) ≤ (b : Int)) = decide (a ≤ b) := by
  rw [Bool.eq_iff_iff, decide_eq_true_eq, decide_eq_true_eq]; omega
theorem nlt (a b : Nat) : decide ((a : Int) < (b : Int)) = decide (a < b) := by
  rw [Bool.eq_iff_iff, decide_eq_true_eq, decide_eq_true_eq]; omega
theorem neq (a b : Nat) : decide ((a : Int) = (b : Int)) = decide (a = b) := by
  rw [Bool.eq_iff_iff, decide_eq_true_eq, decide_eq_true_eq]; omega
theorem w_is_within (T : Tx P w K mg base CN CS) : FnR P w K mg base "is_within" 1 rWithin := by
  refine fn_r (N := ["one", "other", "a", "b"]) (ps := ["one", "other"]) T.d_is_within (fun _ _ _ _ _ _ us hl => match us, hl with | [_, _], _ => rfl) ⟨rfl, rfl, rfl, by decide +kernel, rfl, by decide +kernel, by decide +kernel⟩ (fun ds d h => by obtain ⟨_, _, _, _, _, _, rfl, _⟩ := h; rfl) ?_
  intro X C hX ds d kk h hk
  obtain ⟨N, hN⟩ : ∃ N, (["one", "other", "a", "b"] : List Str) = N := ⟨_, rfl⟩
  rw [hN] at C
  have n0 : N[0]? = some ("one" : Str) := by rw [← hN] <;> rfl
  have n1 : N[1]? = some ("other" : Str) := by rw [← hN] <;> rfl
  have n2 : N[2]? = some ("a" : Str) := by rw [← hN] <;> rfl
  have n3 : N[3]? = some ("b" : Str) := by rw [← hN] <;> rfl
  obtain ⟨d1, d2, t, u, xs, ys, rfl, h1, h2, h3, rfl⟩ := h
  refine c_retD (c_allM C T (by decide +kernel) (en_cm C hN (T := .two 2 3) (own := [("a", 2), ("b", 3)]) (f := fun q => .two (.d (nD q.1)) (.d (nD q.2))) (fun q => D.bl (decide (q.1 ≤ q.2))) (xs := xs.zip ys) (c_zipM C T (by decide +kernel) (by kts_caught) (by kts_caught) h1 h2) trivial (by decide +kernel) (by decide +kernel) (fun X' C' => c_tg2 C' n2 (by decide +kernel) n3 (by decide +kernel)) (by rw [List.length_zip]; omega) (fun q hq => ⟨_, rfl, fun X' C' => ev_bls (by kts_caught) (nle _ _)⟩))) hk
/-! the story -/
structure StL where
  rows : List (List Deed)
  run : List Deed
  sent : List ((Nat × Nat) × (Nat × Nat))
  ended : List ((Nat × Nat) × (Nat × Nat))
  token : List ((Nat × Nat) × Nat)
  lost : List (Nat × Nat)
  clocks : List (List (List Nat))
def keyP (q : Nat × Nat) : List Key := [.inl (q.1 : Int), .inl (q.2 : Int)]
def kdP (l : List ((Nat × Nat) × (Nat × Nat))) : List (List Key × D) := l.map fun x => (keyP x.1, encPair x.2)
def kdN (l : List ((Nat × Nat) × Nat)) : List (List Key × D) := l.map fun x => (keyP x.1, nD x.2)
def kdT (l : List (Nat × Nat)) : List (List Key × D) := l.map fun x => (keyP x, .bl true)
def encClk (c : List Nat) : D := .tup (c.map nD)
def encSt (CN CS : Addr) (M : Nt) (s : StL) : D := .obj CS ["net", "rows", "run", "whole", "sent", "ended", "token", "lost", "clocks"]
  [encNet CN M, encHist s.rows, .tup (s.run.map encDeed), .tup (s.rows.map fun r : List Deed => nD r.length), dicD (kdP s.sent), dicD (kdP s.ended), dicD (kdN s.token), dicD (kdT s.lost), .lst (s.clocks.map fun r => .lst (r.map encClk))]
/-- a cut within the clocks -/
def CutOk (s : StL) (ys : List Nat) : Prop := ys.length ≤ 100 ∧ ∀ p y : Nat, ys[p]? = some y → ∃ r : List (List Nat), s.clocks[p]? = some r ∧ y ≤ r.length ∧ ∀ c : List Nat, c ∈ r → c.length ≤ 1000
def consOk (s : StL) (ys : List Nat) : Prop := ∀ p y : Nat, ys[p]? = some y → 0 < y → ∀ r c, s.clocks[p]? = some r → r[y - 1]? = some c → within c ys = true
def PreCons (CN CS : Addr) (ds : List D) (kk : D → Prop) : Prop := ∃ M s ys b, ds = [encSt CN CS M s, .lst (ys.map nD)] ∧ CutOk s ys ∧ (b = true ↔ consOk s ys) ∧ kk (.bl b)
theorem w_is_consistent (T : Tx P w K mg base CN CS) : MtD P w K mg base CS "is_consistent" 2 (PreCons CN CS) := by
  have g1 := w_is_within T
  refine fn_d (N := ["self", "cut", "process", "number"]) (ps := ["self", "cut"]) T.d_Story_is_consistent (fun _ _ _ _ _ _ us hl => match us, hl with | [_, _], _ => rfl) ⟨rfl, rfl, rfl, by decide +kernel, rfl, by decide +kernel, by decide +kernel⟩ (fun ds kk h => by obtain ⟨_, _, _, _, rfl, _⟩ := h; rfl) ?_
  intro X C hX ds kk h
  obtain ⟨N, hN⟩ : ∃ N, (["self", "cut", "process", "number"] : List Str) = N := ⟨_, rfl⟩
  rw [hN] at C
  have n0 : N[0]? = some ("self" : Str) := by rw [← hN] <;> rfl
  have n1 : N[1]? = some ("cut" : Str) := by rw [← hN] <;> rfl
  have n2 : N[2]? = some ("process" : Str) := by rw [← hN] <;> rfl
  have n3 : N[3]? = some ("number" : Str) := by rw [← hN] <;> rfl
  obtain ⟨M, s, ys, b, rfl, hc, hb, hk⟩ := h
  refine c_for C (T := .two 2 3) (fun i e u => (∃ o2 o3, e = [some (.d (encSt CN CS M s)), some (.d (.lst (ys.map nD))), o2, o3]) ∧ u = [] ∧ ∀ p y : Nat, p < i → ys[p]? = some y → 0 < y → ∀ r c, s.clocks[p]? = some r → r[y - 1]? = some c → within c ys = true)
    (c_enumM C T (by decide +kernel) (xs := ys) (f := nD) (d := .lst (ys.map nD)) (by kts_caught) rfl) (c_tg2 C n2 (by decide +kernel) n3 (by decide +kernel)) ⟨⟨_, _, rfl⟩, rfl, fun p y h => absurd h (Nat.not_lt_zero _)⟩ (fun _ _ _ _ => trivial) ?_ ?_
  · rintro i item e u hi ⟨⟨o2, o3, rfl⟩, rfl, hw⟩
    rw [List.getElem?_map] at hi
    cases hz : ys.zipIdx[i]? with
    | none => rw [hz] at hi; cases hi
    | some q =>
      rw [hz] at hi
      cases hi
      rw [List.getElem?_zipIdx] at hz
      cases hy : ys[i]? with
      | none => rw [hy] at hz; cases hz
      | some y =>
        rw [hy] at hz
        cases hz
        obtain ⟨r, hr, hyr, hcl⟩ := hc.2 i y hy
        refine ⟨_, rfl, ?_⟩
        simp only [Nat.zero_add]
        by_cases h0 : 0 < y
        · obtain ⟨c, hcc⟩ : ∃ c, r[y - 1]? = some c := ⟨_, List.getElem?_eq_getElem (by omega)⟩
          have a1 : rWithin [encClk c, .lst (ys.map nD)] (.bl (within c ys)) := ⟨_, _, true, false, c, ys, rfl, rfl, rfl, hcl c (List.mem_of_getElem? hcc), rfl⟩
          have e1 : ((y : Int) - 1) = ((y - 1 : Nat) : Int) := by omega
          have ev : ∀ {X : Cx}, Ctx P w K mg base N (defScope s_Story_is_consistent) (defScope s_Story_is_consistent) 1 X → True := fun _ => trivial
          cases hwb : within c ys with
          | true =>
            rw [hwb] at a1
            refine c_ifF0 (et_W (ew_andT (et_is (by kts_caughtN) (decide_eq_true (by omega))) (ew_and1 (et_not (et_val (c_call C g1 (by decide) (by decide +kernel) (εs := [.d (encClk c), .d (.lst (ys.map nD))]) (ea_cons (ev_idx (ev_idx (by kts_caught) (by kts_caught) (idx_lst (f := fun r => D.lst (r.map encClk)) hr)) (ev_is (by kts_caught) (by rw [e1])) (idx_lst (f := encClk) hcc)) (ea_cons (by kts_caught) ea_nil)) rfl a1)))))) ?_
            refine go_nil ⟨⟨_, _, rfl⟩, rfl, fun p y' hp hy' h0' r' c' hr' hc' => ?_⟩
            by_cases ep : p = i
            · subst ep
              rw [hy] at hy'; cases hy'
              rw [hr] at hr'; cases hr'
              rw [hcc] at hc'; cases hc'
              exact hwb
            · exact hw p y' (by omega) hy' h0' r' c' hr' hc'
          | false =>
            rw [hwb] at a1
            refine c_ifT (et_W (ew_andT (et_is (by kts_caughtN) (decide_eq_true (by omega))) (ew_and1 (et_not (et_val (c_call C g1 (by decide) (by decide +kernel) (εs := [.d (encClk c), .d (.lst (ys.map nD))]) (ea_cons (ev_idx (ev_idx (by kts_caught) (by kts_caught) (idx_lst (f := fun r => D.lst (r.map encClk)) hr)) (ev_is (by kts_caught) (by rw [e1])) (idx_lst (f := encClk) hcc)) (ea_cons (by kts_caught) ea_nil)) rfl a1)))))) ?_
            have hbf : b = false := by
              cases b with
              | false => rfl
              | true =>
                have := hb.mp rfl i y hy h0 r c hr hcc
                rw [hwb] at this; cases this
            subst hbf
            exact c_retD (by kts_caught) hk
        · refine c_ifF0 (et_W (ew_andF (et_is (by kts_caughtN) (decide_eq_false (by omega))))) ?_
          refine go_nil ⟨⟨_, _, rfl⟩, rfl, fun p y' hp hy' h0' r' c' hr' hc' => ?_⟩
          by_cases ep : p = i
          · subst ep
            rw [hy] at hy'; cases hy'
            exact absurd h0' h0
          · exact hw p y' (by omega) hy' h0' r' c' hr' hc'
  · rintro e u ⟨⟨o2, o3, rfl⟩, rfl, hw⟩
    have hbt : b = true := hb.mpr fun p y hy => hw p y (by
      rw [List.length_map, List.length_zipIdx]
      exact (List.getElem?_eq_some_iff.mp hy).1) hy
    subst hbt
    exact c_retD (by kts_caught) hk
structure RowOk (r : List Nat) (most : Nat) : Prop where
  hd : r[0]? = some 0
  up : r.Pairwise (· < ·)
  le : ∀ k ∈ r, k ≤ most
  ln : r.length ≤ 1000
structure PtsOk (rows : List (List Deed)) (pts : List (List Nat)) : Prop where
  len : pts.length = rows.length
  sh : rows.length ≤ 100
  ok : ∀ q ∈ pts.zip rows, RowOk q.1 q.2.length
def encPts (pts : List (List Nat)) : D := .lst (pts.map fun r : List Nat => .lst (r.map nD))
def rPrs (CN CS : Addr) (ds : List D) (e : D) : Prop := ∃ (M : Nt) (s : StL) (fs : List Nat), ds = [encSt CN CS M s, .lst (fs.map nD)] ∧ fs.Nodup ∧ (∀ x ∈ fs, x < s.rows.length) ∧ fs.length ≤ 50 ∧ e = .bl true
theorem w_are_processes (T : Tx P w K mg base CN CS) : FnR P w K mg base "are_processes" 3 (rPrs CN CS) := by
  have g1 := w_is_sequence T
  have g2 := w_is_from_to T
  refine fn_r (N := ["story", "value", "one"]) (ps := ["story", "value"]) T.d_are_processes (fun _ _ _ _ _ _ us hl => match us, hl with | [_, _], _ => rfl) ⟨rfl, rfl, rfl, by decide +kernel, rfl, by decide +kernel, by decide +kernel⟩ (fun ds d h => by obtain ⟨_, _, _, rfl, _⟩ := h; rfl) ?_
  intro X C hX ds d kk h hk
  obtain ⟨N, hN⟩ : ∃ N, (["story", "value", "one"] : List Str) = N := ⟨_, rfl⟩
  rw [hN] at C
  have n0 : N[0]? = some ("story" : Str) := by rw [← hN] <;> rfl
  have n1 : N[1]? = some ("value" : Str) := by rw [← hN] <;> rfl
  have n2 : N[2]? = some ("one" : Str) := by rw [← hN] <;> rfl
  obtain ⟨M, s, fs, rfl, nd, hlt, hl, rfl⟩ := h
  refine c_ifF0 (et_W (ew_orF (by top_reprB) (ew_or1 (et_not (et_val (c_allC C T (by decide +kernel) (en_cm C hN (T := .one 2) (own := [("one", 2)]) (f := fun x => .one (.d (nD x))) (fun _ => D.bl true) (xs := fs) (ei_lstM (by kts_caught)) trivial (by decide +kernel) (by decide +kernel) (fun X' C' => c_tg1 C' n2 (by decide +kernel)) (by omega) (fun x hx => ⟨_, rfl, fun X' C' => ?_⟩)))))))) ?_
  · have := hlt x hx
    have a1 : rFromTo [nD x, .int 0, .int (((s.rows.map fun r : List Deed => nD r.length).length : Int) - 1)] (.bl true) := by
      have : (decide ((0 : Int) ≤ (x : Int)) && decide ((x : Int) ≤ ((s.rows.map fun r : List Deed => nD r.length).length : Int) - 1)) = true := by
        rw [List.length_map, decide_eq_true (show (0 : Int) ≤ (x : Int) by omega), decide_eq_true (show (x : Int) ≤ (s.rows.length : Int) - 1 by omega)]; rfl
      rw [← this]; exact .mk
    exact c_call C' g2 (by decide) (by decide +kernel) (εs := [.d (nD x), .d (.int 0), .d (.int (((s.rows.map fun r : List Deed => nD r.length).length : Int) - 1))]) (ea_cons (by kts_caught) (ea_cons (by kts_caught) (ea_cons (by top_name) ea_nil))) rfl a1
  have nd2 : (fs.map fun x : Nat => (x : Int)).Nodup := List.pairwise_map.mpr (nd.imp fun h e => h (by omega))
  exact c_retD (ev_bls (ev_c (ev_lenSet C.B.calm (C.gl (by decide +kernel)) (C.free T.b_len) (C.gl (by decide +kernel)) (C.free T.b_set) (by intro _ _; rfl) (by kts_caught) (ns := fs.map fun x : Nat => (x : Int)) (by show some (false, fs.map nD) = _; rw [List.map_map]; rfl) nd2 (by rw [List.length_map]; omega)) (by kts_caught) cmp_eq) (decide_eq_true (by simp))) hk
def rChk (CN CS : Addr) (ds : List D) (e : D) : Prop := ∃ M s pts, ds = [encSt CN CS M s, encPts pts] ∧ PtsOk s.rows pts ∧ e = .bl true
theorem w_are_checkpoints (T : Tx P w K mg base CN CS) : FnR P w K mg base "are_checkpoints" 3 (rChk CN CS) := by
  have g1 := w_is_sequence T
  have g2 := w_is_from_to T
  refine fn_r (N := ["story", "value", "row", "most", "number", "at"]) (ps := ["story", "value"]) T.d_are_checkpoints (fun _ _ _ _ _ _ us hl => match us, hl with | [_, _], _ => rfl) ⟨rfl, rfl, rfl, by decide +kernel, rfl, by decide +kernel, by decide +kernel⟩ (fun ds d h => by obtain ⟨_, _, _, rfl, _⟩ := h; rfl) ?_
  intro X C hX ds d kk h hk
  obtain ⟨N, hN⟩ : ∃ N, (["story", "value", "row", "most", "number", "at"] : List Str) = N := ⟨_, rfl⟩
  rw [hN] at C
  have n0 : N[0]? = some ("story" : Str) := by rw [← hN] <;> rfl
  have n1 : N[1]? = some ("value" : Str) := by rw [← hN] <;> rfl
  have n2 : N[2]? = some ("row" : Str) := by rw [← hN] <;> rfl
  have n3 : N[3]? = some ("most" : Str) := by rw [← hN] <;> rfl
  have n4 : N[4]? = some ("number" : Str) := by rw [← hN] <;> rfl
  have n5 : N[5]? = some ("at" : Str) := by rw [← hN] <;> rfl
  obtain ⟨M, s, pts, rfl, ok, rfl⟩ := h
  refine c_ifF0 (et_W (ew_orF (by top_reprB) (ew_or1 (et_is (by kts_caughtN) (by rw [decide_eq_true (by simp only [List.length_map]; have := ok.len; omega)]; rfl))))) ?_
  refine c_for C (T := .two 2 3) (fun i e u => (∃ o2 o3, e = [some (.d (encSt CN CS M s)), some (.d (encPts pts)), o2, o3, none, none]) ∧ u = [])
    (c_zipM C T (by decide +kernel) (xs := pts) (ys := s.rows) (f := fun r : List Nat => .lst (r.map nD)) (g := fun h : List Deed => nD h.length) (d1 := encPts pts) (d2 := .tup (s.rows.map fun r : List Deed => nD r.length)) (by kts_caught) (by top_name) rfl rfl) (c_tg2 C n2 (by decide +kernel) n3 (by decide +kernel)) ⟨⟨_, _, rfl⟩, rfl⟩ (fun _ _ _ _ => trivial) ?_ ?_
  · rintro i item e u hi ⟨⟨o2, o3, rfl⟩, rfl⟩
    rw [List.getElem?_map] at hi
    cases hz : (pts.zip s.rows)[i]? with
    | none => rw [hz] at hi; cases hi
    | some q =>
      rw [hz] at hi
      cases hi
      obtain ⟨r, h⟩ := q
      have R : RowOk r h.length := ok.ok (r, h) (List.mem_of_getElem? hz)
      refine ⟨_, rfl, ?_⟩
      have hl0 : 0 < r.length := (List.getElem?_eq_some_iff.mp R.hd).1
      have hlr := R.ln
      refine c_ifF0 (et_W (ew_orF (by top_reprB) (ew_orF (et_is (by kts_caughtN) (decide_eq_false (by simp only [List.length_map]; omega))) (ew_or1 (et_not (et_val (c_allC C T (by decide +kernel) (en_cm C hN (T := .one 4) (own := [("number", 4)]) (f := fun x => .one (.d (nD x))) (fun _ => D.bl true) (xs := r) (ei_lstM (by kts_caught)) trivial (by decide +kernel) (by decide +kernel) (fun X' C' => c_tg1 C' n4 (by decide +kernel)) (by omega) (fun x hx => ⟨_, rfl, fun X' C' => ?_⟩))))))))) ?_
      · have hle := R.le x hx
        have a1 : rFromTo [nD x, .int 0, nD h.length] (.bl true) := by
          have : (decide ((0 : Int) ≤ (x : Int)) && decide ((x : Int) ≤ (h.length : Int))) = true := by
            rw [decide_eq_true (show (0 : Int) ≤ (x : Int) by omega), decide_eq_true (show (x : Int) ≤ (h.length : Int) by omega)]; rfl
          rw [← this]; exact .mk
        kts_caught
      refine c_ifF0 (et_W (ew_orF (et_is (et_c (ev_idx (by top_name) (by top_name) (idx_lst (f := nD) (n := 0) R.hd)) (by kts_caught) cmp_ne) (by rfl)) (ew_or1 (et_not (et_val (c_allC C T (by decide +kernel) (en_cm C hN (T := .one 5) (own := [("at", 5)]) (f := fun (x : Nat) => .one (.d (.int (x : Int)))) (fun _ => D.bl true) (xs := List.range (r.length - 1)) (c_range1 C T (by decide +kernel) (m := r.length - 1) (ev_is (by kts_caught) (by rw [show (((r.map nD).length : Nat) : Int) - 1 = ((r.length - 1 : Nat) : Int) by rw [List.length_map]; omega])) (by omega)) trivial (by decide +kernel) (by decide +kernel) (fun X' C' => c_tg1 C' n5 (by decide +kernel)) (by rw [List.length_range]; omega) (fun x hx => ⟨_, rfl, fun X' C' => ?_⟩)))))))) ?_
      · have hx := List.mem_range.mp hx
        have g3 : r[x]? = some r[x] := List.getElem?_eq_getElem (by omega)
        have g4 : r[x + 1]? = some r[x + 1] := List.getElem?_eq_getElem (by omega)
        have hlt := List.pairwise_iff_getElem.mp R.up x (x + 1) (by omega) (by omega) (by omega)
        exact ev_bls (ev_c (ev_idx (by top_name) (by top_name) (idx_lst (f := nD) g3)) (ev_idx (by top_name) (by top_name) (idx_lst (f := nD) g4)) cmp_lt) (decide_eq_true (by omega))
      exact go_nil ⟨⟨_, _, rfl⟩, rfl⟩
  · rintro e u ⟨⟨o2, o3, rfl⟩, rfl⟩
    exact c_retD (by kts_caught) hk
/-- the points a process may stand at -/
def allowL (rows : List (List Deed)) (pts : List (List Nat)) (fs : List Nat) : List (List Nat) := pts.zipIdx.map fun q => if q.2 ∉ fs ∧ q.1.getLast? ≠ some ((rows[q.2]?.map List.length).getD 0) then q.1 ++ [(rows[q.2]?.map List.length).getD 0] else q.1
def rAllow (CN CS : Addr) (ds : List D) (e : D) : Prop := ∃ (M : Nt) (s : StL) (pts : List (List Nat)) (fs : List Nat), ds = [encSt CN CS M s, encPts pts, .lst (fs.map nD)] ∧ PtsOk s.rows pts ∧ e = encPts (allowL s.rows pts fs)
theorem allow_get {rows : List (List Deed)} {pts : List (List Nat)} {fs : List Nat} {i : Nat} {r : List Nat} (h : pts[i]? = some r) : (allowL rows pts fs)[i]? = some (if i ∉ fs ∧ r.getLast? ≠ some ((rows[i]?.map List.length).getD 0) then r ++ [(rows[i]?.map List.length).getD 0] else r) := by
  unfold allowL
  rw [List.getElem?_map, List.getElem?_zipIdx, h]
  simp
theorem idx_atI {mu : List MO} {k : Nat} {ds : List D} {i : Int} {d : D} (h : mu[k]? = some (.lst ds)) (h2 : L2.atI ds i = some d) : idxE mu (.at k) (.d (.int i)) = some (.d d) := by
  simp only [idxE, h, h2]; rfl
theorem w_allowed_of (T : Tx P w K mg base CN CS) : FnR P w K mg base "allowed_of" 1 (rAllow CN CS) := by
  refine fn_r (N := ["story", "checkpoints", "failed", "rows", "process", "row", "numbers"]) (ps := ["story", "checkpoints", "failed"]) T.d_allowed_of (fun _ _ _ _ _ _ us hl => match us, hl with | [_, _, _], _ => rfl) ⟨rfl, rfl, rfl, by decide +kernel, rfl, by decide +kernel, by decide +kernel⟩ (fun ds d h => by obtain ⟨_, _, _, _, rfl, _⟩ := h; rfl) ?_
  intro X C hX ds d kk h hk
  obtain ⟨N, hN⟩ : ∃ N, (["story", "checkpoints", "failed", "rows", "process", "row", "numbers"] : List Str) = N := ⟨_, rfl⟩
  rw [hN] at C
  have n0 : N[0]? = some ("story" : Str) := by rw [← hN] <;> rfl
  have n1 : N[1]? = some ("checkpoints" : Str) := by rw [← hN] <;> rfl
  have n2 : N[2]? = some ("failed" : Str) := by rw [← hN] <;> rfl
  have n3 : N[3]? = some ("rows" : Str) := by rw [← hN] <;> rfl
  have n4 : N[4]? = some ("process" : Str) := by rw [← hN] <;> rfl
  have n5 : N[5]? = some ("row" : Str) := by rw [← hN] <;> rfl
  have n6 : N[6]? = some ("numbers" : Str) := by rw [← hN] <;> rfl
  obtain ⟨M, s, pts, fs, rfl, ok, rfl⟩ := h
  have hal : (allowL s.rows pts fs).length = pts.length := by unfold allowL; rw [List.length_map, List.length_zipIdx]
  have hps : pts.length ≤ 100 := by rw [ok.len]; exact ok.sh
  refine c_setN C n3 (by decide +kernel) (en_lst ea_nil rfl (by decide)) ?_
  refine c_for C (T := .two 4 5) (fun i e u => ∃ o4 o5 o6 gs, e = [some (.d (encSt CN CS M s)), some (.d (encPts pts)), some (.d (.lst (fs.map nD))), some (.at 0), o4, o5, o6] ∧ u = .lst (((allowL s.rows pts fs).take i).map fun r : List Nat => D.lst (r.map nD)) :: gs)
    (c_enumM C T (by decide +kernel) (xs := pts) (f := fun r : List Nat => D.lst (r.map nD)) (d := encPts pts) (by kts_caught) rfl) (c_tg2 C n4 (by decide +kernel) n5 (by decide +kernel)) ⟨none, none, none, [], rfl, rfl⟩ (fun _ _ _ _ => trivial) ?_ ?_
  · rintro i item e u hi ⟨o4, o5, o6, gs, rfl, rfl⟩
    rw [List.getElem?_map] at hi
    cases hzz : pts.zipIdx[i]? with
    | none => rw [hzz] at hi; cases hi
    | some q =>
      rw [hzz] at hi
      cases hi
      rw [List.getElem?_zipIdx] at hzz
      cases hy : pts[i]? with
      | none => rw [hy] at hzz; cases hzz
      | some r =>
        rw [hy] at hzz
        cases hzz
        refine ⟨_, rfl, ?_⟩
        simp only [Nat.zero_add]
        refine c_setN C n6 (by decide +kernel) (c_list C T (by decide +kernel) (by kts_caught) (ds := r.map nD) (t := false) rfl) ?_
        have hk : ∀ {m : MO}, ((MO.lst (((allowL s.rows pts fs).take i).map fun r : List Nat => D.lst (r.map nD)) :: gs) ++ [m])[(MO.lst (((allowL s.rows pts fs).take i).map fun r : List Nat => D.lst (r.map nD)) :: gs).length]? = some m := by
          intro m
          rw [List.getElem?_append_right (Nat.le_refl _), Nat.sub_self]; rfl
        have hip : i < pts.length := (List.getElem?_eq_some_iff.mp hy).1
        obtain ⟨h, hh⟩ := get_of rfl (show i < s.rows.length by have := ok.len; omega)
        have R : RowOk r h.length := ok.ok (r, h) (List.mem_of_getElem? (i := i) (List.getElem?_zip_eq_some.mpr ⟨hy, hh⟩))
        obtain ⟨la, hla⟩ : ∃ x, r.getLast? = some x := by
          cases hr : r.getLast? with
          | some x => exact ⟨x, rfl⟩
          | none =>
            have := List.getLast?_eq_none_iff.mp hr
            subst this
            have := R.hd
            cases this
        have hag := allow_get (rows := s.rows) (fs := fs) hy
        rw [hh] at hag
        simp only [Option.map_some, Option.getD_some, hla, ne_eq, Option.some.injEq] at hag
        have htk : ∀ z, (allowL s.rows pts fs)[i]? = some z → ((allowL s.rows pts fs).take i).map (fun r : List Nat => D.lst (r.map nD)) ++ [D.lst (z.map nD)] = ((allowL s.rows pts fs).take (i + 1)).map fun r : List Nat => D.lst (r.map nD) := fun z hz => by
          rw [List.take_add_one, hz, List.map_append]; rfl
        by_cases hcd : i ∉ fs ∧ la ≠ h.length
        · refine c_ifT (et_is (et_W (ew_and (et_c (by kts_caught) (by kts_caught) (cmp_notInIM (z := i) (f := fun x : Nat => x) (xs := fs) rfl)) (fun _ => ew_and1 (et_c (ev_idx (by kts_caught) (ev_neg ev_int) (idx_atI hk (atI_last (by rw [List.getLast?_map, hla]; rfl)))) (ev_idx (by kts_caught) (by kts_caught) (idx_tup (f := fun r : List Deed => nD r.length) hh)) cmp_ne)))) ?_) ?_
          · rw [neq, List.map_id', decide_eq_false hcd.1, decide_eq_false hcd.2]; rfl
          · refine go_cons (go_app C.B (by kts_caught) hk (by intro _ _; rfl) (ev_idx (by kts_caught) (by kts_caught) (idx_tup (f := fun r : List Deed => nD r.length) hh)) (by rw [List.length_map]; have := R.ln; omega) ?_)
            refine go_nil ?_
            have hk2 : ((MO.lst (((allowL s.rows pts fs).take i).map fun r : List Nat => D.lst (r.map nD)) :: gs) ++ [MO.lst (r.map nD)]).set (MO.lst (((allowL s.rows pts fs).take i).map fun r : List Nat => D.lst (r.map nD)) :: gs).length (MO.lst (r.map nD ++ [nD h.length])) = (MO.lst (((allowL s.rows pts fs).take i).map fun r : List Nat => D.lst (r.map nD)) :: gs) ++ [MO.lst (r.map nD ++ [nD h.length])] := by
              rw [List.set_append_right _ _ (Nat.le_refl _), Nat.sub_self]; rfl
            rw [hk2]
            refine go_cons (gos_freeze _ hk ?_)
            refine go_app C.B (by kts_caught) rfl (by intro _ _; rfl) (by kts_caught) (by rw [List.length_map, List.length_take]; omega) ?_
            refine go_nil ⟨_, _, _, gs ++ [MO.gone], rfl, ?_⟩
            rw [List.set_append_right _ _ (Nat.le_refl _), Nat.sub_self, ← htk (r ++ [h.length]) (by rw [hag, if_pos hcd]), List.map_append]
            rfl
        · refine c_ifF0 (et_is (et_W (ew_and (et_c (by kts_caught) (by kts_caught) (cmp_notInIM (z := i) (f := fun x : Nat => x) (xs := fs) rfl)) (fun _ => ew_and1 (et_c (ev_idx (by kts_caught) (ev_neg ev_int) (idx_atI hk (atI_last (by rw [List.getLast?_map, hla]; rfl)))) (ev_idx (by kts_caught) (by kts_caught) (idx_tup (f := fun r : List Deed => nD r.length) hh)) cmp_ne)))) ?_) ?_
          · rw [neq, List.map_id', Bool.and_eq_false_iff]
            by_cases h1 : i ∈ fs
            · exact .inl (by rw [decide_eq_true h1]; rfl)
            · exact .inr (by rw [decide_eq_true (show la = h.length from Classical.byContradiction fun z => hcd ⟨h1, z⟩)]; rfl)
          · refine go_cons (gos_freeze _ hk ?_)
            refine go_app C.B (by kts_caught) rfl (by intro _ _; rfl) (by kts_caught) (by rw [List.length_map, List.length_take]; omega) ?_
            refine go_nil ⟨_, _, _, gs ++ [MO.gone], rfl, ?_⟩
            rw [List.set_append_right _ _ (Nat.le_refl _), Nat.sub_self, ← htk r (by rw [hag, if_neg hcd])]
            rfl
  · rintro e u ⟨o4, o5, o6, gs, rfl, rfl⟩
    refine c_ret (ε := .at 0) (by kts_caught) ?_ hk
    rw [List.length_map, List.length_zipIdx, ← hal, List.take_length]
    rfl
inductive rDone (CN : Addr) : List D → Option D → Prop
  | yes {M : Nt} {W : Wd} {d : Deed} : GoodN M → WdOk M W → IsDeed M d → Can M W d → rDone CN [encNet CN M, encWd W, encDeed d] (some (encWd (doD M W d)))
  | no {M : Nt} {W : Wd} {d : Deed} : GoodN M → WdOk M W → IsDeed M d → ¬ Can M W d → rDone CN [encNet CN M, encWd W, encDeed d] none
theorem w_done {CE : Addr} (T : Tx P w K mg base CN CS) (TE : TxE P K mg CE) : FnE P w K mg base CE "done" 5 (rDone CN) := by
  have g1 := w_as_deed T
  have g2 := w_can_do T
  have g3 := w_behind T
  refine fn_e (N := ["net", "world", "deed", "clean"]) (ps := ["net", "world", "deed"]) T.d_done (fun _ _ _ _ _ _ us hl => match us, hl with | [_, _, _], _ => rfl) ⟨rfl, rfl, rfl, by decide +kernel, rfl, by decide +kernel, by decide +kernel⟩ (fun ds d h => by cases h <;> rfl) ?_ ?_
  · intro X C hX ds d kk h hk
    obtain ⟨N, hN⟩ : ∃ N, (["net", "world", "deed", "clean"] : List Str) = N := ⟨_, rfl⟩
    rw [hN] at C
    have n0 : N[0]? = some ("net" : Str) := by rw [← hN] <;> rfl
    have n1 : N[1]? = some ("world" : Str) := by rw [← hN] <;> rfl
    have n2 : N[2]? = some ("deed" : Str) := by rw [← hN] <;> rfl
    have n3 : N[3]? = some ("clean" : Str) := by rw [← hN] <;> rfl
    cases h with
    | @yes M W d G S hd hc =>
      have a1 : rAs CN [encNet CN M, encDeed d] (encDeed d) := .mk hd
      have a2 : rCan CN [encNet CN M, encWd W, encDeed d] (.bl true) := .mk G S hd ⟨fun _ => hc, fun _ => rfl⟩
      have a3 : rBeh CN [encNet CN M, encWd W, encDeed d] (encWd (doD M W d)) := .mk G S hd
      refine c_set C n3 (by decide +kernel) (by kts_caught) ?_
      refine c_ifF0 (et_W (ew_orF (et_is (by kts_caughtN) (isNon_deed d)) (ew_or1 (et_not (et_val (x := true) (by kts_caught)))))) ?_
      exact c_retD (by kts_caught) hk
  · intro X C hX F W tk hW ds h
    obtain ⟨N, hN⟩ : ∃ N, (["net", "world", "deed", "clean"] : List Str) = N := ⟨_, rfl⟩
    rw [hN] at C
    have n0 : N[0]? = some ("net" : Str) := by rw [← hN] <;> rfl
    have n1 : N[1]? = some ("world" : Str) := by rw [← hN] <;> rfl
    have n2 : N[2]? = some ("deed" : Str) := by rw [← hN] <;> rfl
    have n3 : N[3]? = some ("clean" : Str) := by rw [← hN] <;> rfl
    cases h with
    | @no M W d G S hd hc =>
      have a1 : rAs CN [encNet CN M, encDeed d] (encDeed d) := .mk hd
      have a2 : rCan CN [encNet CN M, encWd W, encDeed d] (.bl false) := .mk G S hd ⟨fun h => (by cases h), fun h => absurd h hc⟩
      obtain ⟨fI, cc, cda, hx⟩ := TE.x
      refine goE_step (P := { nx := fun e u => e = [some (.d (encNet CN M)), some (.d (encWd W)), some (.d (encDeed d)), some (.d (encDeed d))] ∧ u = [], rt := fun _ _ => False }) (cs_set (s0 := ⟨0, 0, 0, 0⟩) C n3 (by decide +kernel) (by kts_caught) ⟨rfl, rfl⟩) ?_ (fun _ _ h => h) (fun _ _ h => h) (fun _ _ h => h)
      rintro e u ⟨rfl, rfl⟩
      refine goE_if (et_W (ew_orF (et_is (by kts_caughtN) (isNon_deed d)) (ew_or1 (et_not (et_val (x := false) (by kts_caught)))))) ?_
      have hxr : XInit X.prog X.K CE fI cc cda "BadStep.__init__" (defArgs s_BadStep_init) (defBody s_BadStep_init) (defScope s_BadStep_init) := by rw [show X.prog = P from C.pr, show X.K = K from C.K]; exact hx
      exact goE_raise C.B.calm tk (pmk_x (k := 3) hxr xs_BadStep (by rw [show X.mg = mg from C.mg]; exact TE.g) (by rw [show X.mg = mg from C.mg]; exact T.b_super) C.room (C.gl (by decide +kernel)) pe_int) (fun ps σ H Q I h => h _ H (Ext.refl _)) hW
inductive rDoneN (CN : Addr) : List D → D → Prop
  | yes {M : Nt} {W : Wd} {d : Deed} : GoodN M → WdOk M W → IsDeed M d → Can M W d → rDoneN CN [encNet CN M, encWd W, encDeed d] (encWd (doD M W d))
  | no {M : Nt} {W : Wd} {d : Deed} : GoodN M → WdOk M W → IsDeed M d → ¬ Can M W d → rDoneN CN [encNet CN M, encWd W, encDeed d] .non
theorem w_behind_ct {CE : Addr} (T : Tx P w K mg base CN CS) (TE : TxE P K mg CE) : FnR P w K mg base "behind_core_told" 6 (rDoneN CN) := by
  have g1 := w_done T TE
  refine fn_r (N := ["net", "world", "deed"]) (ps := ["net", "world", "deed"]) T.d_behind_core_told (fun _ _ _ _ _ _ us hl => match us, hl with | [_, _, _], _ => rfl) ⟨rfl, rfl, rfl, by decide +kernel, rfl, by decide +kernel, by decide +kernel⟩ (fun ds d h => by cases h <;> rfl) ?_
  intro X C hX ds d kk h hk
  obtain ⟨N, hN⟩ : ∃ N, (["net", "world", "deed"] : List Str) = N := ⟨_, rfl⟩
  rw [hN] at C
  have n0 : N[0]? = some ("net" : Str) := by rw [← hN] <;> rfl
  have n1 : N[1]? = some ("world" : Str) := by rw [← hN] <;> rfl
  have n2 : N[2]? = some ("deed" : Str) := by rw [← hN] <;> rfl
  obtain ⟨f, cdv, A, outer, s, H, Ex, hX⟩ := hX
  have hs : X.stack = X.env :: X.outer := by rw [hX] <;> rfl
  have hf : X.env.frame = some X.env.locals := by rw [hX] <;> rfl
  cases h with
  | @yes M W d G S hd hc =>
    exact go_one (go_tryE (r := some (encWd (doD M W d))) C TE hs hf g1 (by decide) (by decide +kernel) (by decide +kernel) (εs := [.d (encNet CN M), .d (encWd W), .d (encDeed d)]) rfl (.yes G S hd hc) hk (fun X' C' => by k_caught0))
  | @no M W d G S hd hc =>
    exact go_one (go_tryE (r := none) C TE hs hf g1 (by decide) (by decide +kernel) (by decide +kernel) (εs := [.d (encNet CN M), .d (encWd W), .d (encDeed d)]) rfl (.no G S hd hc) hk (fun X' C' => by k_caught0))
inductive rIsD (CN : Addr) : List D → D → Prop
  | mk {M : Nt} {d : Deed} {p : Nat} : IsDeed M d → owner M d = some p → rIsD CN [encNet CN M, encDeed d] (.bl true)
theorem w_is_deed (T : Tx P w K mg base CN CS) : FnR P w K mg base "is_deed" 5 (rIsD CN) := by
  have g1 := w_is_sequence T
  have g2 := w_is_integer T
  have g3 := w_owner T
  refine fn_r (N := ["net", "value", "part"]) (ps := ["net", "value"]) T.d_is_deed (fun _ _ _ _ _ _ us hl => match us, hl with | [_, _], _ => rfl) ⟨rfl, rfl, rfl, by decide +kernel, rfl, by decide +kernel, by decide +kernel⟩ (fun ds d h => by cases h <;> rfl) ?_
  intro X C hX ds d kk h hk
  obtain ⟨N, hN⟩ : ∃ N, (["net", "value", "part"] : List Str) = N := ⟨_, rfl⟩
  rw [hN] at C
  have n0 : N[0]? = some ("net" : Str) := by rw [← hN] <;> rfl
  have n1 : N[1]? = some ("value" : Str) := by rw [← hN] <;> rfl
  have n2 : N[2]? = some ("part" : Str) := by rw [← hN] <;> rfl
  cases h with
  | @mk M d p hd ho =>
    have w1 : ∀ i : Nat, rWhole [nD i] (.bl true) := fun _ => .mk
    have hT : TxS X.K X.w X.mg "SORTS" (fun z => if z = "act" then some 2 else if z = "take" then some 3 else if z = "lose" then some 3 else none) := by rw [C.K, C.w, C.mg]; exact T.t_SORTS
    have a3 : rOwn CN [encNet CN M, encDeed d] (nD p) := .mk hd ho
    cases d with
    | act r =>
      refine c_ifF0 (et_W (ew_orF (by top_reprB) (ew_orF (by top_reprB) (ew_orF (by top_reprB) (ew_or1 (et_is (et_notInK (z := "act") (C.gl (by decide +kernel)) hT (by top_name)) (by decide +kernel))))))) ?_
      refine c_ifF0 (et_W (ew_orF (et_is (et_c (ε1 := .d (.int 2)) (by top_name) (ev_ixKd (z := "act") (i := 2) (C.gl (by decide +kernel)) hT (by top_name) (by decide +kernel)) (cmp_neG rfl)) (by decide +kernel)) (ew_or1 (et_not (et_val (c_allC C T (by decide +kernel) (en_cm C hN (T := .one 2) (own := [("part", 2)]) (f := fun x => .one (.d (nD x))) (fun _ => D.bl true) (xs := [r]) (ei_tupM (by top_name)) trivial (by decide +kernel) (by decide +kernel) (fun X' C' => c_tg1 C' n2 (by decide +kernel)) (Nat.le_of_ble_eq_true rfl) (fun x hx => ⟨_, rfl, fun X' C' => ev_andT (by have := w1 x; kts_caught) (ev_and1 (ev_bls (by kts_caught) (decide_eq_true (by omega))))⟩)))))))) ?_
      refine c_tryThru C fun X' C' => c_drop C' (c_call C' g3 (by decide) (by decide +kernel) (εs := [.d (encNet CN M), .d (encDeed (.act r))]) (ea_cons (by kts_caught) (ea_cons (c_tup C' T (by decide +kernel) (by kts_caught) rfl) ea_nil)) rfl a3) (go_nil ?_)
      exact c_retD ev_bl hk
    | take r k =>
      refine c_ifF0 (et_W (ew_orF (by top_reprB) (ew_orF (by top_reprB) (ew_orF (by top_reprB) (ew_or1 (et_is (et_notInK (z := "take") (C.gl (by decide +kernel)) hT (by top_name)) (by decide +kernel))))))) ?_
      refine c_ifF0 (et_W (ew_orF (et_is (et_c (ε1 := .d (.int 3)) (by top_name) (ev_ixKd (z := "take") (i := 3) (C.gl (by decide +kernel)) hT (by top_name) (by decide +kernel)) (cmp_neG rfl)) (by decide +kernel)) (ew_or1 (et_not (et_val (c_allC C T (by decide +kernel) (en_cm C hN (T := .one 2) (own := [("part", 2)]) (f := fun x => .one (.d (nD x))) (fun _ => D.bl true) (xs := [r, k]) (ei_tupM (by top_name)) trivial (by decide +kernel) (by decide +kernel) (fun X' C' => c_tg1 C' n2 (by decide +kernel)) (Nat.le_of_ble_eq_true rfl) (fun x hx => ⟨_, rfl, fun X' C' => ev_andT (by have := w1 x; kts_caught) (ev_and1 (ev_bls (by kts_caught) (decide_eq_true (by omega))))⟩)))))))) ?_
      refine c_tryThru C fun X' C' => c_drop C' (c_call C' g3 (by decide) (by decide +kernel) (εs := [.d (encNet CN M), .d (encDeed (.take r k))]) (ea_cons (by kts_caught) (ea_cons (c_tup C' T (by decide +kernel) (by kts_caught) rfl) ea_nil)) rfl a3) (go_nil ?_)
      exact c_retD ev_bl hk
    | lose c k =>
      refine c_ifF0 (et_W (ew_orF (by top_reprB) (ew_orF (by top_reprB) (ew_orF (by top_reprB) (ew_or1 (et_is (et_notInK (z := "lose") (C.gl (by decide +kernel)) hT (by top_name)) (by decide +kernel))))))) ?_
      refine c_ifF0 (et_W (ew_orF (et_is (et_c (ε1 := .d (.int 3)) (by top_name) (ev_ixKd (z := "lose") (i := 3) (C.gl (by decide +kernel)) hT (by top_name) (by decide +kernel)) (cmp_neG rfl)) (by decide +kernel)) (ew_or1 (et_not (et_val (c_allC C T (by decide +kernel) (en_cm C hN (T := .one 2) (own := [("part", 2)]) (f := fun x => .one (.d (nD x))) (fun _ => D.bl true) (xs := [c, k]) (ei_tupM (by top_name)) trivial (by decide +kernel) (by decide +kernel) (fun X' C' => c_tg1 C' n2 (by decide +kernel)) (Nat.le_of_ble_eq_true rfl) (fun x hx => ⟨_, rfl, fun X' C' => ev_andT (by have := w1 x; kts_caught) (ev_and1 (ev_bls (by kts_caught) (decide_eq_true (by omega))))⟩)))))))) ?_
      refine c_tryThru C fun X' C' => c_drop C' (c_call C' g3 (by decide) (by decide +kernel) (εs := [.d (encNet CN M), .d (encDeed (.lose c k))]) (ea_cons (by kts_caught) (ea_cons (c_tup C' T (by decide +kernel) (by kts_caught) rfl) ea_nil)) rfl a3) (go_nil ?_)
      exact c_retD ev_bl hk
abbrev encR (r : List Deed) : D := .tup (r.map encDeed)
structure HistOk (M : Nt) (h : List (List Deed)) : Prop where
  G : GoodN M
  O : Owned M h
  ln : ∀ r ∈ h, r.length ≤ 60
theorem HistOk.p3 {M : Nt} {h : List (List Deed)} (H : HistOk M h) : h.length ≤ 3 := by rw [H.O.len]; exact H.G.p3
def rMade (CN : Addr) (ds : List D) (e : D) : Prop := ∃ M h, HistOk M h ∧ ds = [encNet CN M, encHist h] ∧ e = encHist h
theorem w_made_tuples (T : Tx P w K mg base CN CS) : FnR P w K mg base "made_tuples" 6 (rMade CN) := by
  have g1 := w_is_sequence T
  have g2 := w_is_deed T
  have g3 := w_owner T
  refine fn_r (N := ["net", "told", "rows", "process", "deeds", "deed", "row"]) (ps := ["net", "told"]) T.d_made_tuples (fun _ _ _ _ _ _ us hl => match us, hl with | [_, _], _ => rfl) ⟨rfl, rfl, rfl, by decide +kernel, rfl, by decide +kernel, by decide +kernel⟩ (fun ds d h => by obtain ⟨_, _, _, rfl, _⟩ := h; rfl) ?_
  intro X C hX ds d kk h hk
  obtain ⟨N, hN⟩ : ∃ N, (["net", "told", "rows", "process", "deeds", "deed", "row"] : List Str) = N := ⟨_, rfl⟩
  rw [hN] at C
  have n0 : N[0]? = some ("net" : Str) := by rw [← hN] <;> rfl
  have n1 : N[1]? = some ("told" : Str) := by rw [← hN] <;> rfl
  have n2 : N[2]? = some ("rows" : Str) := by rw [← hN] <;> rfl
  have n3 : N[3]? = some ("process" : Str) := by rw [← hN] <;> rfl
  have n4 : N[4]? = some ("deeds" : Str) := by rw [← hN] <;> rfl
  have n5 : N[5]? = some ("deed" : Str) := by rw [← hN] <;> rfl
  have n6 : N[6]? = some ("row" : Str) := by rw [← hN] <;> rfl
  obtain ⟨M, h, H, rfl, rfl⟩ := h
  have l3 := H.p3
  refine c_ifF0 (et_W (ew_orF (by top_reprB) (ew_or1 (et_is (by kts_caughtN) (by rw [decide_eq_true (by simp only [List.length_map]; have := H.O.len; omega)]; rfl))))) ?_
  refine c_setN C n2 (by decide +kernel) (en_lst ea_nil rfl (by decide)) ?_
  refine c_for C (T := .two 3 4) (fun i e u => (∃ o3 o4 o5 o6, e = [some (.d (encNet CN M)), some (.d (encHist h)), some (.at 0), o3, o4, o5, o6]) ∧ u = [.lst ((h.take i).map encR)])
    (c_enumM C T (by decide +kernel) (xs := h) (f := encR) (d := encHist h) (by kts_caught) rfl) (c_tg2 C n3 (by decide +kernel) n4 (by decide +kernel)) ⟨⟨_, _, _, _, rfl⟩, rfl⟩ (fun _ _ _ _ => trivial) ?_ ?_
  · rintro i item e u hi ⟨⟨o3, o4, o5, o6, rfl⟩, rfl⟩
    rw [List.getElem?_map] at hi
    cases hzz : h.zipIdx[i]? with
    | none => rw [hzz] at hi; cases hi
    | some q =>
      rw [hzz] at hi
      cases hi
      rw [List.getElem?_zipIdx] at hzz
      cases hy : h[i]? with
      | none => rw [hy] at hzz; cases hzz
      | some r =>
        rw [hy] at hzz
        cases hzz
        have hr60 := H.ln r (List.mem_of_getElem? hy)
        have hown := H.O.ok i r hy
        refine ⟨_, rfl, ?_⟩
        simp only [Nat.zero_add]
        refine c_ifF0 (et_W (ew_orF (by top_reprB) (ew_or1 (et_not (et_val (c_allC C T (by decide +kernel) (en_cm C hN (T := .one 5) (own := [("deed", 5)]) (f := fun x => .one (.d (encDeed x))) (fun _ => D.bl true) (xs := r) (ei_tupM (by kts_caught)) trivial (by decide +kernel) (by decide +kernel) (fun X' C' => c_tg1 C' n5 (by decide +kernel)) (by omega) (fun x hx => ⟨_, rfl, fun X' C' => ?_⟩)))))))) ?_
        · have a2 : rIsD CN [encNet CN M, encDeed x] (.bl true) := .mk (hown x hx).1 (hown x hx).2
          kts_caught
        refine c_set C n6 (by decide +kernel) (c_tupN C T (by decide +kernel) (en_cm C hN (T := .one 5) (own := [("deed", 5)]) (f := fun x => .one (.d (encDeed x))) (fun x => encDeed x) (xs := r) (ei_tupM (by kts_caught)) trivial (by decide +kernel) (by decide +kernel) (fun X' C' => c_tg1 C' n5 (by decide +kernel)) (by omega) (fun x hx => ⟨_, rfl, fun X' C' => ?_⟩))) ?_
        · cases x <;> exact c_tup C' T (by decide +kernel) (by kts_caught) rfl
        refine c_ifF0 (et_is (et_val (c_anyM C T (by decide +kernel) (q := fun _ : Deed => false) (en_cm C hN (T := .one 5) (own := [("deed", 5)]) (f := fun x => .one (.d (encDeed x))) (fun _ => D.bl false) (xs := r) (ei_tupM (by kts_caught)) trivial (by decide +kernel) (by decide +kernel) (fun X' C' => c_tg1 C' n5 (by decide +kernel)) (by omega) (fun x hx => ⟨_, rfl, fun X' C' => ?_⟩)))) (by simp)) ?_
        · have a3 : rOwn CN [encNet CN M, encDeed x] (nD i) := .mk (hown x hx).1 (hown x hx).2
          exact ev_bls (ev_c (ε1 := .d (nD i)) (ε2 := .d (nD i)) (by kts_caught) (by kts_caught) (cmp_neG rfl)) (by rw [decide_eq_true rfl]; rfl)
        refine go_cons (go_app C.B (by kts_caught) rfl (by intro _ _; rfl) (by kts_caught) (by rw [List.length_map, List.length_take]; omega) ?_)
        refine go_nil ⟨⟨_, _, _, _, rfl⟩, ?_⟩
        rw [List.take_add_one, hy, List.map_append]
        rfl
  · rintro e u ⟨⟨o3, o4, o5, o6, rfl⟩, rfl⟩
    refine c_retD (c_tup C T (by decide +kernel) (by kts_caught) rfl) ?_
    rw [List.length_map, List.length_zipIdx, List.take_length]
    exact hk
theorem sum_set {l : List Nat} {p i : Nat} (h : l[p]? = some i) : (l.set p (i + 1)).sum = l.sum + 1 := by
  induction l generalizing p with
  | nil => simp at h
  | cons x l ih =>
    cases p with
    | zero => simp only [List.getElem?_cons_zero, Option.some.injEq] at h; subst h; simp; omega
    | succ p => rw [List.getElem?_cons_succ] at h; simp [ih h]; omega
theorem Steps.len {M : Nt} {rows : List (List Deed)} {ds : List Deed} {w : Wd} {n : List Nat} (S : Steps M rows ds w n) : ds.length = n.sum := by
  induction S with
  | nil =>
    have : ∀ l : List (Str × Nat), (l.map fun _ => 0).sum = 0 := fun l => by induction l with
      | nil => rfl
      | cons x l ih => simpa using ih
    rw [show (zer M).sum = 0 from this _]; rfl
  | snoc S h1 h2 h3 hc ih => rw [List.length_append, sum_set h1, ih]; rfl
theorem sum_le : ∀ {a b : List Nat}, a.length = b.length → leL a b → a.sum ≤ b.sum
  | [], [], _, _ => Nat.le_refl _
  | x :: a, y :: b, hl, h => by
    have h0 := h 0
    have ih := sum_le (a := a) (b := b) (by simpa using hl) (fun q => h (q + 1))
    simp only [List.getElem?_cons_zero, Option.getD_some] at h0
    simp only [List.sum_cons]; omega
  | [], _ :: _, hl, _ => by simp at hl
  | _ :: _, [], hl, _ => by simp at hl
theorem prL_len {a g : List Nat} : (prL a g).length ≤ a.length := by
  unfold prL
  rw [List.length_map]
  exact Nat.le_trans (List.length_filter_le _ _) (by rw [List.length_zipIdx]; exact Nat.le_refl _)
theorem px_len {M : Nt} {h : List (List Deed)} (H : HistOk M h) (n : List Nat) (p : Nat) : (px h n p).length ≤ 60 := by
  unfold px
  rw [List.length_take]
  cases e : h[p]? with
  | none => simp
  | some r => have := H.ln r (List.mem_of_getElem? e); simp only [Option.getD_some]; omega
theorem tk_len {M : Nt} {h : List (List Deed)} (H : HistOk M h) (n : List Nat) (c : Nat) : (tk M h n c).length ≤ 60 := by
  unfold tk
  split
  · rename_i C _
    exact Nat.le_trans (List.length_filterMap_le _ _) (px_len H n C.g)
  · simp
theorem wdOk_at {M : Nt} {h : List (List Deed)} (H : HistOk M h) (n : List Nat) : WdOk M (atW M h n) := by
  refine ⟨⟨by unfold atW; simp, by unfold atW; simp, by unfold atW; simp⟩, fun m hm => ?_⟩
  unfold atW at hm
  simp only at hm
  obtain ⟨c, _, rfl⟩ := List.mem_map.mp hm
  have := prL_len (a := tk M h n c) (g := gn M h n c)
  have := tk_len H n c
  omega
theorem whole_sum : ∀ {h : List (List Deed)}, (∀ r ∈ h, r.length ≤ 60) → (whole h).sum ≤ h.length * 60
  | [], _ => Nat.le_refl _
  | r :: h, hl => by
    have ih := whole_sum (h := h) fun x hx => hl x (List.mem_cons_of_mem _ hx)
    have := hl r List.mem_cons_self
    unfold whole at ih ⊢
    rw [List.map_cons, List.sum_cons, List.length_cons]
    omega
def PreGone (CN : Addr) (ds : List D) (kk : D → Prop) : Prop := ∃ M h, HistOk M h ∧ ds = [encNet CN M, encHist h, encWd (wd0 M), .tup (h.map fun _ => nD 0), .tup (h.map fun r : List Deed => nD r.length)] ∧
  ∀ run w n, Steps M h run w n → (∀ (p i : Nat) (r : List Deed) (d : Deed), n[p]? = some i → h[p]? = some r → r[i]? = some d → ¬ Can M w d) → kk (.tup [.lst (run.map encDeed), encWd w, .tup (n.map nD)])
theorem w_gone_on {CE : Addr} (T : Tx P w K mg base CN CS) (TE : TxE P K mg CE) : Fn P w K mg base "gone_on" 7 (PreGone CN) := by
  have g1 := w_behind_ct T TE
  refine fn_p (N := ["net", "rows", "world", "numbers", "ends", "deeds", "process", "new"]) (ps := ["net", "rows", "world", "numbers", "ends"]) T.d_gone_on (fun _ _ _ _ _ _ us hl => match us, hl with | [_, _, _, _, _], _ => rfl) ⟨rfl, rfl, rfl, by decide +kernel, rfl, by decide +kernel, by decide +kernel⟩ (fun ds kk h => by obtain ⟨_, _, _, rfl, _⟩ := h; rfl) ?_
  intro X C hX ds kk h
  obtain ⟨N, hN⟩ : ∃ N, (["net", "rows", "world", "numbers", "ends", "deeds", "process", "new"] : List Str) = N := ⟨_, rfl⟩
  rw [hN] at C
  have n0 : N[0]? = some ("net" : Str) := by rw [← hN] <;> rfl
  have n1 : N[1]? = some ("rows" : Str) := by rw [← hN] <;> rfl
  have n2 : N[2]? = some ("world" : Str) := by rw [← hN] <;> rfl
  have n3 : N[3]? = some ("numbers" : Str) := by rw [← hN] <;> rfl
  have n4 : N[4]? = some ("ends" : Str) := by rw [← hN] <;> rfl
  have n5 : N[5]? = some ("deeds" : Str) := by rw [← hN] <;> rfl
  have n6 : N[6]? = some ("process" : Str) := by rw [← hN] <;> rfl
  have n7 : N[7]? = some ("new" : Str) := by rw [← hN] <;> rfl
  obtain ⟨M, h, H, rfl, hk⟩ := h
  have l3 := H.p3
  have lP := H.O.len
  have hz : (zer M).map nD = h.map fun _ => nD 0 := by
    unfold zer
    apply List.ext_getElem?
    intro i
    by_cases hi : i < M.ps.length
    · simp [hi, lP]
    · simp [hi, lP]
  refine c_setN C n5 (by decide +kernel) (en_lst ea_nil rfl (by decide)) ?_
  refine c_setN C n3 (by decide +kernel) (c_list C T (by decide +kernel) (by kts_caught) (ds := h.map fun _ => nD 0) (t := true) rfl) ?_
  refine c_set C n6 (by decide +kernel) (by kts_caught) ?_
  refine c_while C (fun m e u => ∃ run w n pr, Steps M h run w n ∧ pr ≤ M.ps.length ∧ (∀ (p i : Nat) (r : List Deed) (d : Deed), p < pr → n[p]? = some i → h[p]? = some r → r[i]? = some d → ¬ Can M w d) ∧
    (∃ o7, e = [some (.d (encNet CN M)), some (.d (encHist h)), some (.d (encWd w)), some (.at 1), some (.d (.tup (h.map fun r : List Deed => nD r.length))), some (.at 0), some (.d (nD pr)), o7]) ∧
    u = [.lst (run.map encDeed), .lst (n.map nD)] ∧ m = ((whole h).sum - run.length) * (M.ps.length + 1) + (M.ps.length - pr))
    ⟨_, [], wd0 M, zer M, 0, .nil, Nat.zero_le _, fun _ _ _ _ hp => absurd hp (Nat.not_lt_zero _), ⟨_, rfl⟩, by rw [hz]; rfl, rfl⟩ ?_
  rintro m e u ⟨run, W, n, pr, S, hpr, hbl, ⟨o7, rfl⟩, rfl, hm⟩
  obtain ⟨hW, hcl, hnl, hnb⟩ := S.inv H.G H.O
  refine ⟨decide (pr < h.length), et_is (et_c (ε1 := .d (nD pr)) (ε2 := .d (nD h.length)) (by kts_caught) (ev_is (by kts_caught) (by simp)) cmp_lt) (by rw [nlt]), ?_, ?_⟩
  · intro hlt
    have hlt := of_decide_eq_true hlt
    obtain ⟨r, hr⟩ := get_of rfl hlt
    obtain ⟨i, hi⟩ := get_of hnl (show pr < M.ps.length by omega)
    have hr60 := H.ln r (List.mem_of_getElem? hr)
    have hib := hnb pr
    rw [hi, hr] at hib
    simp only [Option.getD_some] at hib
    -- the turn in which nothing new is found
    have stay : (∀ d, r[i]? = some d → ¬ Can M W d) → ∃ m', m' < m ∧ ∃ run' w' n' pr', Steps M h run' w' n' ∧ pr' ≤ M.ps.length ∧ (∀ (p i : Nat) (r : List Deed) (d : Deed), p < pr' → n'[p]? = some i → h[p]? = some r → r[i]? = some d → ¬ Can M w' d) ∧
        (∃ o7, [some (E.d (encNet CN M)), some (.d (encHist h)), some (.d (encWd W)), some (.at 1), some (.d (.tup (h.map fun r : List Deed => nD r.length))), some (.at 0), some (.d (nD (pr + 1))), some (.d .non)] = [some (.d (encNet CN M)), some (.d (encHist h)), some (.d (encWd w')), some (.at 1), some (.d (.tup (h.map fun r : List Deed => nD r.length))), some (.at 0), some (.d (nD pr')), o7]) ∧
        [MO.lst (run.map encDeed), .lst (n.map nD)] = [.lst (run'.map encDeed), .lst (n'.map nD)] ∧ m' = ((whole h).sum - run'.length) * (M.ps.length + 1) + (M.ps.length - pr') := fun hno =>
      ⟨_, by rw [hm]; omega, run, W, n, pr + 1, S, by omega, fun p i' r' d hp h1 h2 h3 => by
        by_cases e : p = pr
        · subst e
          rw [hi] at h1; cases h1
          rw [hr] at h2; cases h2
          exact hno d h3
        · exact hbl p i' r' d (by omega) h1 h2 h3, ⟨_, rfl⟩, rfl, rfl⟩
    refine c_set C n7 (by decide +kernel) (by kts_caught) ?_
    by_cases hlt2 : i < r.length
    · obtain ⟨d, hd⟩ := get_of rfl hlt2
      obtain ⟨hdd, hdo⟩ := H.O.ok pr r hr d (List.mem_of_getElem? hd)
      refine c_ifT (et_is (et_c (ε1 := .d (nD i)) (ε2 := .d (nD r.length)) (ev_idx (by kts_caught) (by kts_caught) (idx_at rfl hi)) (ev_idx (by kts_caught) (by kts_caught) (idx_tup (f := fun r : List Deed => nD r.length) hr)) cmp_lt) (by rw [nlt, decide_eq_true hlt2])) ?_
      have hidx : idxE [MO.lst (run.map encDeed), .lst (n.map nD)] (.d (.tup (r.map encDeed))) (.d (nD i)) = some (.d (encDeed d)) := idx_tup (f := encDeed) hd
      by_cases hc : Can M W d
      · have a1 : rDoneN CN [encNet CN M, encWd W, encDeed d] (encWd (doD M W d)) := .yes H.G (by rw [hW]; exact wdOk_at H n) hdd hc
        have S' := S.snoc hi hr hd hc
        have hlen : run.length + 1 ≤ (whole h).sum := by
          have e1 := S'.len
          rw [List.length_append] at e1
          have e2 := sum_le (a := n.set pr (i + 1)) (b := whole h) (by rw [List.length_set, hnl]; unfold whole; rw [List.length_map, lP]) (fun q => by rw [whole_get]; exact (S'.inv H.G H.O).2.2.2 q)
          simp only [List.length_singleton] at e1
          omega
        refine c_set C n7 (by decide +kernel) (c_call C g1 (by decide) (by decide +kernel) (εs := [.d (encNet CN M), .d (encWd W), .d (encDeed d)]) (ea_cons (by kts_caught) (ea_cons (by kts_caught) (ea_cons (ev_idx (ev_idx (by kts_caught) (by kts_caught) (idx_tup (f := encR) hr)) (ev_idx (by kts_caught) (by kts_caught) (idx_at rfl hi)) hidx) ea_nil))) rfl a1) (go_nil ?_)
        refine c_ifF (et_is (by kts_caughtN) rfl) ?_
        refine go_cons (go_app C.B (by kts_caught) rfl (by intro _ _; rfl) (ev_idx (ev_idx (by kts_caught) (by kts_caught) (idx_tup (f := encR) hr)) (ev_idx (by kts_caught) (by kts_caught) (idx_at rfl hi)) hidx) (by rw [List.length_map]; have e3 := whole_sum H.ln; omega) ?_)
        refine go_cons (go_augIx (y := (i : Int)) (z := (pr : Int)) (z2 := 1) (by kts_caught) rfl (by kts_caught) (by omega) (by rw [List.length_map]; simp; omega) (by rw [List.getElem?_map, show ((pr : Nat) : Int).toNat = pr from rfl, hi]; rfl) (by kts_caught) ?_)
        refine c_set C n2 (by decide +kernel) (by kts_caught) ?_
        refine c_set C n6 (by decide +kernel) (by kts_caught) (go_nil ?_)
        refine go_nil ?_
        refine ⟨_, ?_, run ++ [d], doD M W d, n.set pr (i + 1), 0, S', Nat.zero_le _, fun _ _ _ _ hp => absurd hp (Nat.not_lt_zero _), ⟨_, rfl⟩, ?_, rfl⟩
        · rw [hm, List.length_append]
          simp only [List.length_singleton]
          obtain ⟨t, ht⟩ : ∃ t, (whole h).sum - run.length = t + 1 := ⟨(whole h).sum - run.length - 1, by omega⟩
          rw [show (whole h).sum - (run.length + 1) = t by omega, ht, Nat.succ_mul]
          omega
        · rw [List.map_append, List.map_set]
          rfl
      · have a1 : rDoneN CN [encNet CN M, encWd W, encDeed d] .non := .no H.G (by rw [hW]; exact wdOk_at H n) hdd hc
        refine c_set C n7 (by decide +kernel) (c_call C g1 (by decide) (by decide +kernel) (εs := [.d (encNet CN M), .d (encWd W), .d (encDeed d)]) (ea_cons (by kts_caught) (ea_cons (by kts_caught) (ea_cons (ev_idx (ev_idx (by kts_caught) (by kts_caught) (idx_tup (f := encR) hr)) (ev_idx (by kts_caught) (by kts_caught) (idx_at rfl hi)) hidx) ea_nil))) rfl a1) (go_nil ?_)
        refine c_ifT (et_is (by kts_caughtN) rfl) ?_
        refine c_aug C n6 (by decide +kernel) rfl ev_int (go_nil (go_nil ?_))
        exact stay fun d' h' => by rw [hd] at h'; cases h'; exact hc
    · refine c_ifF0 (et_is (et_c (ε1 := .d (nD i)) (ε2 := .d (nD r.length)) (ev_idx (by kts_caught) (by kts_caught) (idx_at rfl hi)) (ev_idx (by kts_caught) (by kts_caught) (idx_tup (f := fun r : List Deed => nD r.length) hr)) cmp_lt) (by rw [nlt, decide_eq_false hlt2])) ?_
      refine c_ifT (et_is (by kts_caughtN) rfl) ?_
      refine c_aug C n6 (by decide +kernel) rfl ev_int (go_nil (go_nil ?_))
      exact stay fun d' h' => absurd (List.getElem?_eq_some_iff.mp h').1 hlt2
  · intro hge
    have hge := of_decide_eq_false hge
    refine go_freeze 0 rfl ?_
    refine c_retD (ev_tup (ea_cons (by kts_caught) (ea_cons (by kts_caught) (ea_cons (c_tup C T (by decide +kernel) (by kts_caught) (ds := n.map nD) (t := false) rfl) ea_nil))) rfl (Nat.le_of_ble_eq_true rfl)) ?_
    exact hk run W n S fun p i r d h1 h2 h3 => hbl p i r d (by have := (List.getElem?_eq_some_iff.mp h1).1; omega) h1 h2 h3
theorem putA_map {κ κ' β β' : Type} [DecidableEq κ] [DecidableEq κ'] {f : κ → κ'} {g : β → β'} (hf : ∀ a b, f a = f b → a = b) {l : List (κ × β)} {k : κ} {v : β} :
    putA (l.map fun x => (f x.1, g x.2)) (f k) (g v) = (putA l k v).map fun x => (f x.1, g x.2) := by
  have e : ∀ x : κ, decide (f x = f k) = decide (x = k) := fun x => by
    by_cases h : x = k
    · subst h; simp
    · have : ¬ f x = f k := fun z => h (hf _ _ z)
      simp [h, this]
  have e1 : ((l.map fun x => (f x.1, g x.2)).any fun kv => decide (kv.1 = f k)) = l.any fun kv => decide (kv.1 = k) := by
    rw [List.any_map]
    congr 1
    funext x
    exact e x.1
  unfold putA
  rw [e1]
  split
  · rw [List.map_map, List.map_map]
    apply List.map_congr_left
    intro x _
    simp only [Function.comp_def]
    by_cases h : x.1 = k
    · simp [h]
    · have : ¬ f x.1 = f k := fun z => h (hf _ _ z)
      simp [h, this]
  · rw [List.map_append]; rfl
theorem getA_map {κ κ' β β' : Type} [DecidableEq κ] [DecidableEq κ'] {f : κ → κ'} {g : β → β'} (hf : ∀ a b, f a = f b → a = b) {l : List (κ × β)} {k : κ} :
    getA (l.map fun x => (f x.1, g x.2)) (f k) = (getA l k).map g := by
  unfold getA
  rw [List.find?_map, Option.map_map, Option.map_map]
  congr 1
  congr 1
  funext x
  simp only [Function.comp_def]
  by_cases h : x.1 = k
  · simp [h]
  · have : ¬ f x.1 = f k := fun z => h (hf _ _ z)
    simp [h, this]
theorem keyP_inj (a b : Nat × Nat) (h : keyP a = keyP b) : a = b := by
  unfold keyP at h
  simp only [List.cons.injEq, Sum.inl.injEq, and_true] at h
  exact Prod.ext (by omega) (by omega)
theorem putP {l : List ((Nat × Nat) × (Nat × Nat))} {m v : Nat × Nat} : putA (kdP l) (keyP m) (encPair v) = kdP (putA l m v) := putA_map keyP_inj
theorem putN {l : List ((Nat × Nat) × Nat)} {m : Nat × Nat} {v : Nat} : putA (kdN l) (keyP m) (nD v) = kdN (putA l m v) := putA_map keyP_inj
theorem getP {l : List ((Nat × Nat) × (Nat × Nat))} {m : Nat × Nat} : getA (kdP l) (keyP m) = (getA l m).map encPair := getA_map keyP_inj
theorem getN {l : List ((Nat × Nat) × Nat)} {m : Nat × Nat} : getA (kdN l) (keyP m) = (getA l m).map nD := getA_map keyP_inj
theorem putT {l : List (Nat × Nat)} {m : Nat × Nat} : putA (kdT l) (keyP m) (.bl true) = kdT (if m ∉ l then l ++ [m] else l) := by
  have e1 : ((kdT l).any fun kv => decide (kv.1 = keyP m)) = decide (m ∈ l) := by
    unfold kdT
    rw [List.any_map, Bool.eq_iff_iff, List.any_eq_true, decide_eq_true_eq]
    constructor
    · rintro ⟨x, hx, h⟩
      simp only [Function.comp_def, decide_eq_true_eq] at h
      rw [← keyP_inj _ _ h]; exact hx
    · exact fun h => ⟨m, h, by simp⟩
  unfold putA
  rw [e1]
  by_cases h : m ∈ l
  · rw [if_pos (decide_eq_true h), if_neg (fun z => z h)]
    unfold kdT
    rw [List.map_map]
    apply List.map_congr_left
    intro x _
    simp only [Function.comp_def]
    split <;> rfl
  · rw [if_neg (by simpa using h), if_pos h]
    unfold kdT
    rw [List.map_append]; rfl
/-- the story while it is made -/
def stFs (CN : Addr) (M : Nt) (h : List (List Deed)) (run : List Deed) : List (Str × E) := [("net", .d (encNet CN M)), ("rows", .d (encHist h)), ("run", .d (.tup (run.map encDeed))), ("whole", .d (.tup (h.map fun r : List Deed => nD r.length))), ("sent", .at 1), ("ended", .at 2), ("token", .at 3), ("lost", .at 4), ("clocks", .at 5)]
def muS (CN CS : Addr) (M : Nt) (h : List (List Deed)) (run : List Deed) (s : LS) (cl : List (List (List Nat))) : List MO := [.ins CS (stFs CN M h run), dicM (kdP s.sent), dicM (kdP s.ended), dicM (kdN s.token), dicM (kdT s.lost), .lol (cl.map fun r => r.map encClk)]
def rowEv (i : Nat) (r : List Deed) : List Ev3 := r.zipIdx.map fun x => (i, x.2, x.1)
theorem evs_take {h : List (List Deed)} {i : Nat} {r : List Deed} (hr : h[i]? = some r) : evs (h.take (i + 1)) = evs (h.take i) ++ rowEv i r := by
  unfold evs
  have hi : i < h.length := (List.getElem?_eq_some_iff.mp hr).1
  rw [List.take_add_one, hr, List.zipIdx_append, List.flatMap_append]
  congr 1
  simp only [Option.toList_some, List.zipIdx_cons, List.zipIdx_nil, List.flatMap_cons, List.flatMap_nil, List.append_nil, List.length_take, Nat.zero_add]
  rw [show min i h.length = i by omega]
  rfl
theorem rowEv_take {i j : Nat} {r : List Deed} {d : Deed} (hd : r[j]? = some d) : rowEv i (r.take (j + 1)) = rowEv i (r.take j) ++ [(i, j, d)] := by
  unfold rowEv
  have hj : j < r.length := (List.getElem?_eq_some_iff.mp hd).1
  rw [List.take_add_one, hd, List.zipIdx_append, List.map_append]
  simp only [Option.toList_some, List.zipIdx_cons, List.zipIdx_nil, List.map_cons, List.map_nil, List.length_take, Nat.zero_add]
  rw [show min j r.length = j by omega]
theorem evs_len : ∀ {h : List (List Deed)} {n : Nat}, (∀ r ∈ h, r.length ≤ 60) → ((h.zipIdx n).flatMap fun q => q.1.zipIdx.map fun x => (q.2, x.2, x.1)).length ≤ h.length * 60
  | [], _, _ => Nat.le_refl _
  | r :: h, n, hl => by
    have ih := evs_len (h := h) (n := n + 1) fun x hx => hl x (List.mem_cons_of_mem _ hx)
    have := hl r List.mem_cons_self
    rw [List.zipIdx_cons, List.flatMap_cons, List.length_append, List.length_map, List.length_zipIdx, List.length_cons]
    simp only
    omega
theorem evs_deeds {M : Nt} {h : List (List Deed)} (O : Owned M h) : ∀ e ∈ evs h, IsDeed M e.2.2 := by
  rintro ⟨p, i, d⟩ he
  obtain ⟨r, h1, h2⟩ := evs_mem.mp he
  exact (O.ok p r h1 d (List.mem_of_getElem? h2)).1
theorem kdP_len {l : List ((Nat × Nat) × (Nat × Nat))} : (kdP l).length = l.length := List.length_map _
theorem kdN_len {l : List ((Nat × Nat) × Nat)} : (kdN l).length = l.length := List.length_map _
theorem kdT_len {l : List (Nat × Nat)} : (kdT l).length = l.length := List.length_map _
abbrev muL (CN CS : Addr) (M : Nt) (h : List (List Deed)) (run : List Deed) (s : LS) (cl : List (List (List Nat))) : List MO := muS CN CS M h run s cl ++ [.lst (s.many.map nD)]
def PreLook (CN CS : Addr) (εs : List E) (mu : List MO) (kk : D → List MO → Prop) : Prop := ∃ M h run cl, HistOk M h ∧ εs = [.at 0] ∧ mu = muS CN CS M h run (ls0 M) cl ∧ ∀ gs, kk .non (muS CN CS M h run (look M (evs h)) cl ++ gs)
theorem w_look (T : Tx P w K mg base CN CS) : MtM P w K mg base CS "look_at_messages" 2 (PreLook CN CS) := by
  have g1 := w_message_of T
  refine fn_mm (N := ["self", "many", "_", "process", "row", "number", "deed", "message", "channel", "token"]) (ps := ["self"]) T.d_Story_look_at_messages (fun _ _ _ _ _ _ us hl => match us, hl with | [_], _ => rfl) ⟨rfl, rfl, rfl, by decide +kernel, rfl, by decide +kernel, by decide +kernel⟩ (fun ds mu kk h => by obtain ⟨_, _, _, _, _, rfl, _⟩ := h; rfl) ?_
  intro X C hX ds mu kk h
  obtain ⟨N, hN⟩ : ∃ N, (["self", "many", "_", "process", "row", "number", "deed", "message", "channel", "token"] : List Str) = N := ⟨_, rfl⟩
  rw [hN] at C
  have n0 : N[0]? = some ("self" : Str) := by rw [← hN] <;> rfl
  have n1 : N[1]? = some ("many" : Str) := by rw [← hN] <;> rfl
  have n2 : N[2]? = some ("_" : Str) := by rw [← hN] <;> rfl
  have n3 : N[3]? = some ("process" : Str) := by rw [← hN] <;> rfl
  have n4 : N[4]? = some ("row" : Str) := by rw [← hN] <;> rfl
  have n5 : N[5]? = some ("number" : Str) := by rw [← hN] <;> rfl
  have n6 : N[6]? = some ("deed" : Str) := by rw [← hN] <;> rfl
  have n7 : N[7]? = some ("message" : Str) := by rw [← hN] <;> rfl
  have n8 : N[8]? = some ("channel" : Str) := by rw [← hN] <;> rfl
  have n9 : N[9]? = some ("token" : Str) := by rw [← hN] <;> rfl
  obtain ⟨M, h, run, cl, H, rfl, rfl, hk⟩ := h
  have l3 := H.p3
  have lc := H.G.c4
  refine c_setCm C hN (T := .one 2) (own := [("_", 2)]) (fun _ => nD 0) n1 (by decide +kernel) (ei_tupM (xs := M.cs) (f := encChan) (by kts_caught)) trivial (by decide +kernel) (by decide +kernel) (fun X' C' => c_tg1 C' n2 (by decide +kernel)) (by omega) (fun x hx => ⟨_, rfl, fun X' C' => by top_name⟩) ?_
  refine c_for C (T := .two 3 4) (fun i e u => ∃ o2 o3 o4 o5 o6 o7 o8 o9, e = [some (.at 0), some (.at 6), o2, o3, o4, o5, o6, o7, o8, o9] ∧ u = muL CN CS M h run (look M (evs (h.take i))) cl)
    (c_enumM C T (by decide +kernel) (xs := h) (f := encR) (d := encHist h) (by kts_caught) rfl) (c_tg2 C n3 (by decide +kernel) n4 (by decide +kernel)) ⟨_, _, _, _, _, _, _, _, rfl, by rw [List.take_zero]; show _ = muS CN CS M h run (ls0 M) cl ++ [MO.lst ((ls0 M).many.map nD)]; unfold ls0; rw [List.map_map]; rfl⟩ (fun _ _ _ _ => trivial) ?_ ?_
  · rintro i item e u hi ⟨o2, o3, o4, o5, o6, o7, o8, o9, rfl, rfl⟩
    rw [List.getElem?_map] at hi
    cases hzz : h.zipIdx[i]? with
    | none => rw [hzz] at hi; cases hi
    | some q =>
      rw [hzz] at hi
      cases hi
      rw [List.getElem?_zipIdx] at hzz
      cases hy : h[i]? with
      | none => rw [hy] at hzz; cases hzz
      | some r =>
        rw [hy] at hzz
        cases hzz
        have hr60 := H.ln r (List.mem_of_getElem? hy)
        have hown := H.O.ok i r hy
        have hih : i < h.length := (List.getElem?_eq_some_iff.mp hy).1
        refine ⟨_, rfl, ?_⟩
        simp only [Nat.zero_add]
        refine c_for C (T := .two 5 6) (fun j e u => ∃ o2 o5 o6 o7 o8 o9, e = [some (.at 0), some (.at 6), o2, some (.d (nD i)), some (.d (encR r)), o5, o6, o7, o8, o9] ∧ u = muL CN CS M h run (look M (evs (h.take i) ++ rowEv i (r.take j))) cl)
          (c_enumM C T (by decide +kernel) (xs := r) (f := encDeed) (d := encR r) (by kts_caught) rfl) (c_tg2 C n5 (by decide +kernel) n6 (by decide +kernel)) ⟨_, _, _, _, _, _, rfl, by rw [List.take_zero]; show _ = muL CN CS M h run (look M (evs (h.take i) ++ [])) cl; rw [List.append_nil]⟩ (fun _ _ _ _ => trivial) ?_ ?_
        · rintro j item e u hj ⟨o2, o5, o6, o7, o8, o9, rfl, rfl⟩
          rw [List.getElem?_map] at hj
          cases hzj : r.zipIdx[j]? with
          | none => rw [hzj] at hj; cases hj
          | some q =>
            rw [hzj] at hj
            cases hj
            rw [List.getElem?_zipIdx] at hzj
            cases hd : r[j]? with
            | none => rw [hd] at hzj; cases hzj
            | some d =>
              rw [hd] at hzj
              cases hzj
              obtain ⟨hdd, hdo⟩ := hown d (List.mem_of_getElem? hd)
              refine ⟨_, rfl, ?_⟩
              simp only [Nat.zero_add]
              have hsn : look M (evs (h.take i) ++ rowEv i (r.take (j + 1))) = lookD M (look M (evs (h.take i) ++ rowEv i (r.take j))) (i, j, d) := by
                rw [rowEv_take hd, ← List.append_assoc, look_snoc]
              have hok : LSok M (evs (h.take i) ++ rowEv i (r.take j)) (look M (evs (h.take i) ++ rowEv i (r.take j))) := look_ok H.G (by
                intro e he
                have : e ∈ evs h := by
                  rcases List.mem_append.mp he with he | he
                  · obtain ⟨p, q, d'⟩ := e
                    obtain ⟨r', h1, h2⟩ := evs_mem.mp he
                    rw [List.getElem?_take] at h1
                    split at h1
                    · exact evs_mem.mpr ⟨r', h1, h2⟩
                    · cases h1
                  · obtain ⟨⟨d', q⟩, hx, rfl⟩ := List.mem_map.mp he
                    have := List.mem_zipIdx_iff_getElem?.mp hx
                    rw [List.getElem?_take] at this
                    split at this
                    · exact evs_mem.mpr ⟨r, hy, this⟩
                    · cases this
                exact evs_deeds H.O e this)
              have hln : (evs (h.take i) ++ rowEv i (r.take j)).length ≤ 300 := by
                have := evs_len (h := h.take i) (n := 0) fun x hx => H.ln x (List.mem_of_mem_take hx)
                rw [List.length_append]
                have e2 : (rowEv i (r.take j)).length ≤ 60 := by unfold rowEv; rw [List.length_map, List.length_zipIdx, List.length_take]; omega
                rw [List.length_take] at this
                have e3 : (evs (h.take i)).length ≤ min i h.length * 60 := this
                omega
              rw [hsn]
              generalize look M (evs (h.take i) ++ rowEv i (r.take j)) = s at hok
              obtain ⟨b1, b2, b3, b4⟩ := hok.ln
              cases d with
              | take rr k =>
                obtain ⟨⟨p0, s0, a0, s1⟩, c, t, hR, ha0⟩ := hdd
                simp only at ha0
                subst ha0
                have a1 : rMsg CN [encNet CN M, encDeed (.take rr k)] (encPair (c, k)) := .take hR rfl
                have hrem : remC M (.take rr k) = some (c, k) := by simp [remC, hR]
                refine c_set C n7 (by decide +kernel) (by kts_caught) ?_
                refine c_ifT (by top_reprB) ?_
                refine go_cons (go_putD (key := keyP (c, k)) (d := encPair (i, j)) C.room (by kts_caught) rfl (by top_name) (by top_name) (by rw [kdP_len]; omega) ?_)
                refine c_ifF0 (by top_reprB) (go_nil ?_)
                refine go_nil ⟨_, _, _, _, _, _, rfl, ?_⟩
                unfold lookD
                simp only [hrem, isLose, Bool.false_eq_true, false_and, if_false]
                rw [putP]
                rfl
              | lose c k =>
                have a1 : rMsg CN [encNet CN M, encDeed (.lose c k)] (encPair (c, k)) := .lose
                refine c_set C n7 (by decide +kernel) (by kts_caught) ?_
                refine c_ifT (by top_reprB) ?_
                refine go_cons (go_putD (key := keyP (c, k)) (d := encPair (i, j)) C.room (by kts_caught) rfl (by top_name) (by top_name) (by rw [kdP_len]; omega) ?_)
                refine c_ifT (by top_reprB) ?_
                refine go_cons (go_putD (key := keyP (c, k)) (d := .bl true) C.room (by kts_caught) rfl (by top_name) (by top_name) (by rw [kdT_len]; omega) (go_nil (go_nil ?_)))
                refine go_nil ⟨_, _, _, _, _, _, rfl, ?_⟩
                unfold lookD
                simp only [remC, isLose, true_and]
                rw [putP, putT]
                rfl
              | act rr =>
                obtain ⟨⟨p0, s0, a0, s1⟩, hR, ha0⟩ := hdd
                have a1 : rMsg CN [encNet CN M, encDeed (.act rr)] .non := .act
                refine c_set C n7 (by decide +kernel) (by kts_caught) ?_
                refine c_ifF (by top_reprB) ?_
                cases a0 with
                | take c t => exact absurd rfl (ha0 c t)
                | nop =>
                  have hs : sndC M (.act rr) = none := by simp [sndC, hR]
                  refine c_ifF0 (by top_reprB) (go_nil ?_)
                  refine go_nil ⟨_, _, _, _, _, _, rfl, ?_⟩
                  unfold lookD
                  simp only [remC, hs]
                | send c t =>
                  have hs : sndC M (.act rr) = some (c, t) := by simp [sndC, hR]
                  have hcl := snd_lt H.G (d := .act rr) ⟨_, hR, ha0⟩ hs
                  obtain ⟨k, hm⟩ : ∃ k, s.many[c]? = some k := ⟨_, hok.many c hcl⟩
                  have hkb := hok.many c hcl
                  have hml := hok.ml
                  refine c_ifT (by top_reprB) ?_
                  refine c_unp C (nt_cons C n2 (by decide +kernel) (nt_cons C n8 (by decide +kernel) (nt_cons C n9 (by decide +kernel) nt_nil))) (ds := [.str "send", nD c, nD t]) (by top_name) rfl ?_
                  refine go_cons (go_putD (key := keyP (c, k)) (d := encPair (i, j)) C.room (by kts_caught) rfl (ev_is (ev_tup (ea_cons (by kts_caught) (ea_cons (ev_idx (by kts_caught) (by kts_caught) (idx_at rfl hm)) ea_nil)) rfl (Nat.le_of_ble_eq_true rfl)) rfl) (by top_name) (by rw [kdP_len]; omega) ?_)
                  refine go_cons (go_putD (key := keyP (c, k)) (d := nD t) C.room (by kts_caught) rfl (ev_is (ev_tup (ea_cons (by kts_caught) (ea_cons (ev_idx (by kts_caught) (by kts_caught) (idx_at rfl hm)) ea_nil)) rfl (Nat.le_of_ble_eq_true rfl)) rfl) (by top_name) (by rw [kdN_len]; omega) ?_)
                  refine go_cons (go_augIx (y := (k : Int)) (z := (c : Int)) (z2 := 1) (by kts_caught) rfl (by kts_caught) (by omega) (by rw [List.length_map]; simp; omega) (by rw [List.getElem?_map, show ((c : Nat) : Int).toNat = c from rfl, hm]; rfl) (by kts_caught) (go_nil (go_nil ?_)))
                  refine go_nil ⟨_, _, _, _, _, _, rfl, ?_⟩
                  unfold lookD
                  simp only [remC, hs, hm, Option.getD_some]
                  rw [putP, putN]
                  unfold muL
                  simp only
                  rw [map_modify hm]
                  rfl
        · rintro e u ⟨o2, o5, o6, o7, o8, o9, rfl, rfl⟩
          refine go_nil ⟨_, _, _, _, _, _, _, _, rfl, ?_⟩
          rw [List.length_map, List.length_zipIdx, List.take_length, evs_take hy]
  · rintro e u ⟨o2, o3, o4, o5, o6, o7, o8, o9, rfl, rfl⟩
    refine go_nil ?_
    rw [List.length_map, List.length_zipIdx, List.take_length]
    exact hk _
section
variable {X : Cx} {env : List (Option E)} {mu : List MO} {P : Post} {s : Stmt} {rest : List Stmt} {e : Expr}
theorem go_join (J : List (Option E) → List MO → Prop) (h : GoS X s env mu { P with nx := J }) (h2 : ∀ e u, J e u → Go X rest e u P) : Go X (s :: rest) env mu P :=
  go_cons (fun F ps σ H K I E => h F ps σ H K I ⟨fun e u ps' σ' H' j pf S => E.nx e u ps' σ' H' (h2 e u j) pf S, E.rt, E.bk, E.ct⟩)
theorem idx_sub {α : Type} {f : α → D} {k p n : Nat} {dss : List (List D)} {xs : List α} {x : α} (hk : mu[k]? = some (.lol dss)) (hp : dss[p]? = some (xs.map f)) (h : xs[n]? = some x) : idxE mu (.sub k p) (.d (.int (n : Int))) = some (.d (f x)) := by
  simp only [idxE, seqE, hk, hp, Option.map_some, atI_map h]
theorem idx_subL {k p : Nat} {dss : List (List D)} {xs : List D} {x : D} (hk : mu[k]? = some (.lol dss)) (hp : dss[p]? = some xs) (h : xs.getLast? = some x) : idxE mu (.sub k p) (.d (.int (-1))) = some (.d x) := by
  simp only [idxE, seqE, hk, hp, Option.map_some, atI_last h]
theorem len_sub {k p : Nat} {dss : List (List D)} {xs : List D} (hk : mu[k]? = some (.lol dss)) (hp : dss[p]? = some xs) : lenE mu (.sub k p) = some xs.length := by
  simp only [lenE, seqE, hk, hp, Option.map_some]
theorem map_mod {α β : Type} {f : α → β} {g : α → α} {xs : List α} {c : Nat} {m : α} (h : xs[c]? = some m) : (xs.modify c g).map f = (xs.map f).set c (f (g m)) := by
  apply List.ext_getElem?
  intro i
  rw [List.getElem?_map, List.getElem?_modify, List.getElem?_set, List.getElem?_map]
  by_cases e : c = i
  · subst e
    obtain ⟨hl, _⟩ := List.getElem?_eq_some_iff.mp h
    rw [h]
    simp [hl]
  · simp [e]
end
def PreClk (CN CS : Addr) (εs : List E) (mu : List MO) (kk : D → List MO → Prop) : Prop := ∃ M h run s gs0, HistOk M h ∧ εs = [.at 0] ∧ mu = muS CN CS M h run s (cl0 M) ++ gs0 ∧
  (∀ (t : Nat) (d : Deed), run[t]? = some d → IsDeed M d ∧ ClkOk1 M s.sent (clks M s.sent (run.take t)) d) ∧ run.length ≤ 200 ∧ ∀ gs, kk .non (muS CN CS M h run s (clks M s.sent run) ++ gs)
theorem clk_shape {M : Nt} {sent : Sent} {run : List Deed} : (clks M sent run).length = M.ps.length ∧ (∀ (p : Nat) (r : List (List Nat)), (clks M sent run)[p]? = some r → r.length ≤ run.length) := by
  refine snoc_ind (P := fun run => (clks M sent run).length = M.ps.length ∧ (∀ (p : Nat) (r : List (List Nat)), (clks M sent run)[p]? = some r → r.length ≤ run.length)) ?_ ?_ run
  · refine ⟨by simp [clks, cl0], fun p r h => ?_⟩
    unfold clks cl0 at h
    simp only [List.foldl_nil, List.getElem?_map] at h
    cases e : M.ps[p]? with
    | none => rw [e] at h; cases h
    | some x => rw [e] at h; cases h; exact Nat.le_refl _
  · rintro l d ⟨h1, h2⟩
    rw [clks_snoc]
    unfold clkD
    refine ⟨by rw [List.length_modify]; exact h1, fun p r h => ?_⟩
    rw [List.getElem?_modify] at h
    rw [List.length_append, List.length_singleton]
    cases e : (clks M sent l)[p]? with
    | none => rw [e] at h; cases h
    | some r' =>
      rw [e] at h
      have := h2 p r' e
      simp only [Option.map_eq_map, Option.map_some, Option.some.injEq] at h
      split at h
      · rw [← h, List.length_append, List.length_singleton]; omega
      · rw [← h]; omega
theorem zip_maxD {a b : List Nat} : (a.zip b).map (fun q => nD (max q.1 q.2)) = (List.zipWith max a b).map nD := by
  rw [List.zip, List.map_zipWith, List.map_zipWith]
theorem zip_items {a b : List Nat} : ((a.map nD).zip (b.map nD)).map (fun q => Item.two (.d q.1) (.d q.2)) = (a.zip b).map fun q => Item.two (.d (nD q.1)) (.d (nD q.2)) := by
  rw [List.zip_map, List.map_map]; rfl
theorem ixN_nat {n p : Nat} (h : p < n) : ixN n (p : Int) = some p := by
  unfold ixN
  rw [if_pos (by omega), if_pos (by omega)]
  rfl
theorem seq_at {mu : List MO} {k : Nat} {ds : List D} (h : mu[k]? = some (.lst ds)) : seqE mu (.at k) = some (false, ds) := by simp only [seqE, h]
def msgD : Option (Nat × Nat) → D
  | some m => encPair m
  | none => .non
theorem rMsg_of {CN : Addr} {M : Nt} {d : Deed} (hd : IsDeed M d) : rMsg CN [encNet CN M, encDeed d] (msgD (remC M d)) := by
  cases d with
  | act r => exact .act
  | take r k =>
    obtain ⟨R, c, t, hR, ha⟩ := hd
    have : remC M (.take r k) = some (c, k) := by simp [remC, hR, ha]
    rw [this]
    exact .take hR ha
  | lose c k => exact .lose
section
variable {X : Cx} {n k kk m : Nat} {sc so : Scope} {N : List Str} {env : List (Option E)} {mu : List MO} {a b : Expr} {es : List Expr} {p2 p pos : Pos}
theorem c_zipLM {as bs : List Nat} (C : Ctx P w K mg base N so sc n X) (T : Tx P w K mg base CN CS) (hg : glB sc "zip" = true) (ha : Ev X a env mu (.at m)) (hk : mu[m]? = some (.lst (as.map nD))) (hb : Ev X b env mu (.d (encClk bs))) (n1 : NoStar a := by intro _ _; rfl) (n2 : NoStar b := by intro _ _; rfl) :
    EvI X (.Tuple es kk p2) (.Call (.Name "zip" p) [a, b] [] pos) env mu ((as.zip bs).map fun q => .two (.d (nD q.1)) (.d (nD q.2))) (fun mu' => mu'[m]? = some (.lst (as.map nD))) := by
  rw [← zip_items]
  exact ei_zipL (C.gl hg) (C.free T.b_zip) n1 n2 ha hk hb rfl
end
theorem w_make_clocks (T : Tx P w K mg base CN CS) : MtM P w K mg base CS "make_clocks" 5 (PreClk CN CS) := by
  have g1 := w_message_of T
  have g2 := w_owner T
  refine fn_mm (N := ["self", "deed", "process", "clock", "_", "message", "giver", "number", "one", "other"]) (ps := ["self"]) T.d_Story_make_clocks (fun _ _ _ _ _ _ us hl => match us, hl with | [_], _ => rfl) ⟨rfl, rfl, rfl, by decide +kernel, rfl, by decide +kernel, by decide +kernel⟩ (fun ds mu kk h => by obtain ⟨_, _, _, _, _, _, rfl, _⟩ := h; rfl) ?_
  intro X C hX ds mu kk h
  obtain ⟨N, hN⟩ : ∃ N, (["self", "deed", "process", "clock", "_", "message", "giver", "number", "one", "other"] : List Str) = N := ⟨_, rfl⟩
  rw [hN] at C
  have n0 : N[0]? = some ("self" : Str) := by rw [← hN] <;> rfl
  have n1 : N[1]? = some ("deed" : Str) := by rw [← hN] <;> rfl
  have n2 : N[2]? = some ("process" : Str) := by rw [← hN] <;> rfl
  have n3 : N[3]? = some ("clock" : Str) := by rw [← hN] <;> rfl
  have n4 : N[4]? = some ("_" : Str) := by rw [← hN] <;> rfl
  have n5 : N[5]? = some ("message" : Str) := by rw [← hN] <;> rfl
  have n6 : N[6]? = some ("giver" : Str) := by rw [← hN] <;> rfl
  have n7 : N[7]? = some ("number" : Str) := by rw [← hN] <;> rfl
  have n8 : N[8]? = some ("one" : Str) := by rw [← hN] <;> rfl
  have n9 : N[9]? = some ("other" : Str) := by rw [← hN] <;> rfl
  obtain ⟨M, h, run, s, gs0, H, rfl, rfl, hrun, hrl, hk⟩ := h
  have l3 := H.p3
  have lP := H.O.len
  refine c_for C (T := .one 1) (fun t e u => (∃ o1 o2 o3 o4 o5 o6 o7 o8 o9, e = [some (.at 0), o1, o2, o3, o4, o5, o6, o7, o8, o9]) ∧ ∃ gs, u = muS CN CS M h run s (clks M s.sent (run.take t)) ++ gs)
    (ei_tupM (xs := run) (f := encDeed) (by kts_caught)) (c_tg1 C n1 (by decide +kernel)) ⟨⟨_, _, _, _, _, _, _, _, _, rfl⟩, gs0, by rw [List.take_zero]; rfl⟩ (fun _ _ _ _ => trivial) ?_ ?_
  · rintro t item e u ht ⟨⟨o1, o2, o3, o4, o5, o6, o7, o8, o9, rfl⟩, gs, rfl⟩
    rw [List.getElem?_map] at ht
    cases hd : run[t]? with
    | none => rw [hd] at ht; cases ht
    | some d =>
      rw [hd] at ht
      cases ht
      refine ⟨_, rfl, ?_⟩
      obtain ⟨hdd, ⟨p, hpo, hp⟩, hrem⟩ := hrun t d hd
      have hsn : clks M s.sent (run.take (t + 1)) = clkD M s.sent (clks M s.sent (run.take t)) d := by
        rw [List.take_add_one, hd]; exact clks_snoc
      obtain ⟨sh1, sh2⟩ := clk_shape (M := M) (sent := s.sent) (run := run.take t)
      rw [hsn]
      generalize clks M s.sent (run.take t) = cl at hrem sh1 sh2
      obtain ⟨row, hrow⟩ := get_of sh1 hp
      have hrl2 := sh2 p row hrow
      rw [List.length_take] at hrl2
      have hrowD : (cl.map fun r => r.map encClk)[p]? = some (row.map encClk) := by rw [List.getElem?_map, hrow]; rfl
      have hplen : p < (cl.map fun r => r.map encClk).length := by rw [List.length_map, sh1]; exact hp
      have a2 : rOwn CN [encNet CN M, encDeed d] (nD p) := .mk hdd hpo
      have a1 := rMsg_of (CN := CN) hdd
      have hzD : (h.map fun _ : List Deed => nD 0) = (M.ps.map fun _ => 0).map nD := by
        apply List.ext_getElem?
        intro i
        by_cases hi : i < M.ps.length
        · simp [hi, lP]
        · simp [hi, lP]
      obtain ⟨hrem, hcln⟩ := hrem
      refine c_set C n2 (by decide +kernel) (by kts_caught) ?_
      refine c_setCm C hN (T := .one 4) (own := [("_", 4)]) (fun _ => nD 0) n3 (by decide +kernel) (ei_tupM (xs := h) (f := encR) (by kts_caught)) trivial (by decide +kernel) (by decide +kernel) (fun X' C' => c_tg1 C' n4 (by decide +kernel)) (by omega) (fun x hx => ⟨_, rfl, fun X' C' => by top_name⟩) ?_
      refine go_join (fun e u => ∃ gs k o4 o5 o6 o7 o8 o9, e = [some (.at 0), some (.d (encDeed d)), some (.d (nD p)), some (.at k), o4, o5, o6, o7, o8, o9] ∧ u = muS CN CS M h run s cl ++ gs ∧ 6 ≤ k ∧ u[k]? = some (.lst ((lastClk cl p (M.ps.map fun _ => 0)).map nD))) ?_ ?_
      · cases hl : row.getLast? with
        | none =>
          have hr0 : row = [] := List.getLast?_eq_none_iff.mp hl
          refine go_if (b := false) (et_is (et_c (c_len C T (by decide +kernel) (ev_idx (by kts_caught) (by kts_caught) (idx_lol rfl hplen)) (len_sub rfl hrowD)) (by kts_caught) cmp_gt) (by rw [hr0]; rfl)) (fun z => by cases z) (fun _ => go_nil ?_)
          refine ⟨gs ++ [.lst (h.map fun _ => nD 0)], (muS CN CS M h run s cl ++ gs).length, _, _, _, _, _, _, rfl, by rw [List.append_assoc], by rw [List.length_append]; show 6 ≤ 6 + gs.length; omega, ?_⟩
          rw [hzD]
          unfold lastClk
          rw [hrow, Option.getD_some, hl]
          exact List.getElem?_concat_length
        | some c =>
          have hr0 : 0 < row.length := by
            cases row with
            | nil => cases hl
            | cons x r => simp
          refine go_if (b := true) (et_is (et_c (c_len C T (by decide +kernel) (ev_idx (by kts_caught) (by kts_caught) (idx_lol rfl hplen)) (len_sub rfl hrowD)) (by kts_caught) cmp_gt) (decide_eq_true (by rw [List.length_map]; omega))) (fun _ => ?_) (fun z => by cases z)
          refine c_setN C n3 (by decide +kernel) (c_list C T (by decide +kernel) (ev_idx (ev_idx (by kts_caught) (by kts_caught) (idx_lol rfl hplen)) (ev_neg ev_int) (idx_subL rfl hrowD (x := encClk c) (by rw [List.getLast?_map, hl]; rfl))) (ds := c.map nD) (t := true) rfl) (go_nil ?_)
          refine ⟨gs ++ [.lst (h.map fun _ => nD 0)] ++ [.lst (c.map nD)], (muS CN CS M h run s cl ++ gs ++ [MO.lst (h.map fun _ => nD 0)]).length, _, _, _, _, _, _, rfl, by rw [List.append_assoc, List.append_assoc, List.append_assoc], by rw [List.length_append, List.length_append]; show 6 ≤ 6 + gs.length + 1; omega, ?_⟩
          unfold lastClk
          rw [hrow, Option.getD_some, hl]
          exact List.getElem?_concat_length
      · rintro e u ⟨gs, k, o4, o5, o6, o7, o8, o9, rfl, rfl, hk6, hku⟩
        have c0len : (lastClk cl p (M.ps.map fun _ => 0)).length = M.ps.length := by
          unfold lastClk
          rw [hrow, Option.getD_some]
          cases hl : row.getLast? with
          | none => simp
          | some c =>
            rw [List.getLast?_eq_getElem?] at hl
            exact hcln p _ c (by unfold ck; rw [hrow]; exact hl)
        generalize hc0 : lastClk cl p (M.ps.map fun _ => 0) = c0 at hku c0len
        refine c_set C n5 (by decide +kernel) (by kts_caught) ?_
        refine go_join (fun e u => (∃ gs k o4 o5 o6 o7 o8 o9, e = [some (.at 0), some (.d (encDeed d)), some (.d (nD p)), some (.at k), o4, o5, o6, o7, o8, o9] ∧ u = muS CN CS M h run s cl ++ gs ∧ 6 ≤ k ∧ u[k]? = some (.lst ((c1Of M s.sent cl d c0).map nD))) ∧ (c1Of M s.sent cl d c0).length = M.ps.length) ?_ ?_
        · cases hm : remC M d with
          | none =>
            rw [hm] at a1
            have e1 : c1Of M s.sent cl d c0 = c0 := by unfold c1Of; rw [hm]
            refine go_if (b := false) (et_is (et_c (ε1 := .d .non) (by top_name) (by kts_caught) cmp_notN) rfl) (fun z => by cases z) (fun _ => go_nil ?_)
            rw [e1]
            exact ⟨⟨gs, k, _, _, _, _, _, _, rfl, rfl, hk6, hku⟩, c0len⟩
          | some m =>
            rw [hm] at a1
            obtain ⟨g, j, c, hg, hck, hcl⟩ := hrem m hm
            obtain ⟨rg, hrg, hrj⟩ : ∃ rg, cl[g]? = some rg ∧ rg[j]? = some c := by
              unfold ck at hck
              cases e : cl[g]? with
              | none => rw [e] at hck; simp at hck
              | some rg => rw [e] at hck; exact ⟨rg, rfl, hck⟩
            have hrgD : (cl.map fun r => r.map encClk)[g]? = some (rg.map encClk) := by rw [List.getElem?_map, hrg]; rfl
            have hglen : g < (cl.map fun r => r.map encClk).length := (List.getElem?_eq_some_iff.mp hrgD).1
            have e1 : c1Of M s.sent cl d c0 = List.zipWith max c0 c := by
              unfold c1Of
              rw [hm]
              simp only [hg]
              unfold ck at hck
              rw [hck]
              rfl
            refine go_if (b := true) (et_is (et_c (ε1 := .d (encPair m)) (by top_name) (by kts_caught) cmp_notN) rfl) (fun _ => ?_) (fun z => by cases z)
            refine c_unp C (nt_cons C n6 (by decide +kernel) (nt_cons C n7 (by decide +kernel) nt_nil)) (ds := [nD g, nD j]) (ev_is (ev_getD (kds := kdP s.sent) (key := keyP m) (d := encPair (g, j)) C.room (by kts_caught) rfl (by top_name) (by rw [getP, hg]; rfl)) rfl) rfl ?_
            refine c_setCm C hN (T := .two 8 9) (own := [("one", 8), ("other", 9)]) (fun q => nD (max q.1 q.2)) n3 (by decide +kernel) (c_zipLM (as := c0) (bs := c) C T (by decide +kernel) (by kts_caught) hku (ev_idx (ev_idx (by kts_caught) (by kts_caught) (idx_lol rfl hglen)) (by kts_caught) (idx_sub (f := encClk) rfl hrgD hrj))) hku (by decide +kernel) (by decide +kernel) (fun X' C' => c_tg2 C' n8 (by decide +kernel) n9 (by decide +kernel)) (by rw [List.length_zip]; omega) (fun x hx => ⟨_, rfl, fun X' C' => ev_is (c_max C' T (by decide +kernel) (by kts_caught) (by kts_caught)) (by split <;> (congr 2; omega))⟩) (go_nil ?_)
            rw [e1]
            refine ⟨⟨gs ++ [.lst ((c0.zip c).map fun q => nD (max q.1 q.2))], (muS CN CS M h run s cl ++ gs).length, _, _, _, _, _, _, rfl, by rw [List.append_assoc], by rw [List.length_append]; show 6 ≤ 6 + gs.length; omega, ?_⟩, by rw [List.length_zipWith]; omega⟩
            rw [← zip_maxD]
            exact List.getElem?_concat_length
        · rintro e u ⟨⟨gs, k, o4, o5, o6, o7, o8, o9, rfl, rfl, hk6, hku⟩, c1len⟩
          have hnc : clkN M s.sent cl d = (c1Of M s.sent cl d c0).set p (row.length + 1) := by
            unfold clkN
            rw [hpo, Option.getD_some, hc0, hrow]
            rfl
          have hkl := (List.getElem?_eq_some_iff.mp hku).1
          generalize c1Of M s.sent cl d c0 = c1 at hku c1len hnc
          have e1 : ∀ v, (muS CN CS M h run s cl ++ gs).set k v = muS CN CS M h run s cl ++ gs.set (k - 6) v := fun v => List.set_append_right _ _ hk6
          have hk2 : ∀ v, (muS CN CS M h run s cl ++ gs.set (k - 6) v)[k]? = some v := fun v => by rw [← e1]; exact List.getElem?_set_self hkl
          refine go_cons (go_setIx (j := p) (d := nD (row.length + 1)) (by kts_caught) hku (by kts_caught) (by rw [List.length_map]; exact ixN_nat (by omega)) (ev_is (ev_add (c_len C T (by decide +kernel) (ev_idx (by kts_caught) (by kts_caught) (idx_lol rfl hplen)) (len_sub rfl hrowD)) ev_int) (by simp)) ?_)
          rw [e1]
          refine go_cons (go_appS (k := 5) (j := p) C.B (ev_idx (by kts_caught) (by kts_caught) (idx_lol rfl hplen)) rfl hrowD (by intro _ _; rfl) (c_tup C T (by decide +kernel) (by kts_caught) (seq_at (hk2 _))) (by rw [List.length_map]; omega) ?_)
          refine go_nil ⟨⟨_, _, _, _, _, _, _, _, _, rfl⟩, gs.set (k - 6) (.lst ((c1.map nD).set p (nD (row.length + 1)))), ?_⟩
          unfold clkD
          rw [hpo, Option.getD_some, hnc]
          unfold muS
          rw [map_mod hrow, List.map_append, List.map_singleton, encClk, List.map_set]
          rfl
  · rintro e u ⟨⟨o1, o2, o3, o4, o5, o6, o7, o8, o9, rfl⟩, gs, rfl⟩
    refine go_nil ?_
    rw [List.length_map, List.take_length]
    exact hk _
def PreStory (CN CS : Addr) (εs : List E) (mu : List MO) (kk : D → List MO → Prop) : Prop := ∃ M h run, HistOk M h ∧ εs = [.at 0, .d (encNet CN M), .d (encHist h), .d (.tup (run.map encDeed))] ∧ mu = [.ins CS []] ∧
  (∀ (t : Nat) (d : Deed), run[t]? = some d → IsDeed M d ∧ ClkOk1 M (look M (evs h)).sent (clks M (look M (evs h)).sent (run.take t)) d) ∧ run.length ≤ 200 ∧
  ∀ gs, kk .non (muS CN CS M h run (look M (evs h)) (clks M (look M (evs h)).sent run) ++ gs)
theorem w_Story (T : Tx P w K mg base CN CS) : MkM P w K mg base "Story" CS 6 (PreStory CN CS) := by
  have g1 := w_look T
  have g2 := w_make_clocks T
  refine fn_i (N := ["self", "net", "rows", "run", "row", "_"]) (ps := ["self", "net", "rows", "run"]) T.d_Story_init (fun _ _ _ _ _ _ us hl => match us, hl with | [_, _, _, _], _ => rfl) ⟨rfl, rfl, rfl, by decide +kernel, rfl, by decide +kernel, by decide +kernel⟩ (fun ds mu kk h => by obtain ⟨_, _, _, _, rfl, _⟩ := h; rfl) ?_
  intro X C hX ds mu kk h
  obtain ⟨N, hN⟩ : ∃ N, (["self", "net", "rows", "run", "row", "_"] : List Str) = N := ⟨_, rfl⟩
  rw [hN] at C
  have n0 : N[0]? = some ("self" : Str) := by rw [← hN] <;> rfl
  have n1 : N[1]? = some ("net" : Str) := by rw [← hN] <;> rfl
  have n2 : N[2]? = some ("rows" : Str) := by rw [← hN] <;> rfl
  have n3 : N[3]? = some ("run" : Str) := by rw [← hN] <;> rfl
  have n4 : N[4]? = some ("row" : Str) := by rw [← hN] <;> rfl
  have n5 : N[5]? = some ("_" : Str) := by rw [← hN] <;> rfl
  obtain ⟨M, h, run, H, rfl, rfl, hrun, hrl, hk⟩ := h
  have l3 := H.p3
  have lP := H.O.len
  have hcS : Cls X.K CS := by rw [C.K]; exact T.c_Story
  have hcl : (h.map fun _ : List Deed => ([] : List D)) = (cl0 M).map fun r => r.map encClk := by
    apply List.ext_getElem?
    intro i
    by_cases hi : i < M.ps.length
    · simp [hi, lP, cl0]
    · simp [hi, lP, cl0]
  refine go_cons (go_fld (by kts_caught) rfl hcS (by rw [C.K]; exact T.a_Story_net) (by decide) (by kts_caught) ?_)
  refine go_cons (go_fld (by kts_caught) rfl hcS (by rw [C.K]; exact T.a_Story_rows) (Nat.le_of_ble_eq_true rfl) (by kts_caught) ?_)
  refine go_cons (go_fld (by kts_caught) rfl hcS (by rw [C.K]; exact T.a_Story_run) (Nat.le_of_ble_eq_true rfl) (by kts_caught) ?_)
  refine go_cons (go_fld (by kts_caught) rfl hcS (by rw [C.K]; exact T.a_Story_whole) (Nat.le_of_ble_eq_true rfl) (c_tupN C T (by decide +kernel) (en_cm C hN (T := .one 4) (own := [("row", 4)]) (f := fun r => .one (.d (encR r))) (fun r => nD r.length) (xs := h) (ei_tupM (by top_name)) trivial (by decide +kernel) (by decide +kernel) (fun X' C' => c_tg1 C' n4 (by decide +kernel)) (by omega) (fun x hx => ⟨_, rfl, fun X' C' => ev_is (by kts_caught) (by simp)⟩))) ?_)
  refine go_cons (go_fldH ew_dict (by kts_caught) rfl hcS (by rw [C.K]; exact T.a_Story_sent) (Nat.le_of_ble_eq_true rfl) ?_)
  refine go_cons (go_fldH ew_dict (by kts_caught) rfl hcS (by rw [C.K]; exact T.a_Story_ended) (Nat.le_of_ble_eq_true rfl) ?_)
  refine go_cons (go_fldH ew_dict (by kts_caught) rfl hcS (by rw [C.K]; exact T.a_Story_token) (Nat.le_of_ble_eq_true rfl) ?_)
  refine go_cons (go_fldH ew_dict (by kts_caught) rfl hcS (by rw [C.K]; exact T.a_Story_lost) (Nat.le_of_ble_eq_true rfl) ?_)
  refine go_cons (go_fldH (m := .lol (h.map fun _ : List Deed => ([] : List D))) (enl_pe (fun _ : List Deed => ([] : List D)) (c_lcOk C hN (T := .one 5) (own := [("_", 5)]) (f := fun r => .one (.d (encR r))) (xs := h) (ei_tupM (by top_name)) trivial (by decide +kernel) (by decide +kernel) (fun X' C' => c_tg1 C' n5 (by decide +kernel)) (by omega)) (fun x hx => ⟨_, rfl, fun X' B' => en_lst ea_nil rfl (by decide)⟩)).new (by kts_caught) rfl hcS (by rw [C.K]; exact T.a_Story_clocks) (Nat.le_of_ble_eq_true rfl) ?_)
  rw [hcl]
  show Go X _ [some (.at 0), some (.d (encNet CN M)), some (.d (encHist h)), some (.d (.tup (run.map encDeed))), none, none] (muS CN CS M h run (ls0 M) (cl0 M)) _
  refine go_cons (go_meth0 (n := 2) (Pre := PreLook CN CS) (by rw [C.pr, C.w, C.K, C.mg, C.base]; exact g1) (C.rm (by decide)) hcS (by kts_caught) rfl rfl ⟨M, h, run, cl0 M, H, rfl, rfl, fun gs => ?_⟩)
  refine go_cons (go_meth0 (n := 5) (Pre := PreClk CN CS) (by rw [C.pr, C.w, C.K, C.mg, C.base]; exact g2) (C.rm (by decide)) hcS (by kts_caught) rfl rfl ⟨M, h, run, _, gs, H, rfl, rfl, hrun, hrl, fun gs' => go_nil (hk gs')⟩)
structure HistR (M : Nt) (h : List (List Deed)) : Prop where
  H : HistOk M h
  st : ∃ ds w, Steps M h ds w (whole h)
  sm : (whole h).sum ≤ 60
def stoOf (M : Nt) (h : List (List Deed)) (run : List Deed) : StL := ⟨h, run, (look M (evs h)).sent, (look M (evs h)).ended, (look M (evs h)).token, (look M (evs h)).lost, clks M (look M (evs h)).sent run⟩
theorem Steps.deeds {M : Nt} {rows : List (List Deed)} {ds : List Deed} {w : Wd} {n : List Nat} (S : Steps M rows ds w n) : ∀ d ∈ ds, IsDeed M d := by
  induction S with
  | nil => exact fun _ h => nomatch h
  | snoc S h1 h2 h3 hc ih =>
    intro d hd
    rcases List.mem_append.mp hd with hd | hd
    · exact ih d hd
    · rw [List.mem_singleton.mp hd]; exact hc.deed
theorem whole_D {h : List (List Deed)} : (whole h).map nD = h.map fun r : List Deed => nD r.length := by
  unfold whole; rw [List.map_map]; rfl
theorem cmp_neNM {X : Cx} {mu : List MO} {k : Nat} {xs ys : List Nat} (hr : Room k X.A) : CmpOk X .NotEq mu (.d (.tup (xs.map nD))) (.d (.tup (ys.map nD))) (!decide (xs = ys)) := by
  have e : ∀ l : List Nat, l.map nD = (l.map fun n : Nat => (n : Int)).map D.int := fun l => by rw [List.map_map]; rfl
  rw [e, e]
  refine (cmp_neT (n := xs.map fun n : Nat => (n : Int)) (m := ys.map fun n : Nat => (n : Int)) hr).is ?_
  congr 1
  rw [Bool.eq_iff_iff, decide_eq_true_eq, decide_eq_true_eq]
  constructor
  · intro h
    apply List.ext_getElem?
    intro i
    have := congrArg (fun l => l[i]?) h
    simp only [List.getElem?_map] at this
    cases e1 : xs[i]? <;> cases e2 : ys[i]? <;> rw [e1, e2] at this <;> simp at this <;> simp <;> omega
  · rintro rfl; rfl
theorem lend_story {CN CS : Addr} {M : Nt} {h : List (List Deed)} {run : List Deed} {gs : List MO} : lendR (muS CN CS M h run (look M (evs h)) (clks M (look M (evs h)).sent run) ++ gs) 9 (.at 0) = some (encSt CN CS M (stoOf M h run)) := by
  show some (D.obj CS _ [_, _, _, _, _, _, _, _, .lst (((clks M (look M (evs h)).sent run).map fun r => r.map encClk).map .lst)]) = some (D.obj CS _ [_, _, _, _, _, _, _, _, .lst ((clks M (look M (evs h)).sent run).map fun r => .lst (r.map encClk))])
  rw [List.map_map]
  rfl
def PreSt (CN CS : Addr) (ds : List D) (kk : D → Prop) : Prop := ∃ M h, HistR M h ∧ ds = [encNet CN M, encHist h] ∧ ∀ run w, Steps M h run w (whole h) → kk (encSt CN CS M (stoOf M h run))
theorem w_story_of {CE : Addr} (T : Tx P w K mg base CN CS) (TE : TxE P K mg CE) : Fn P w K mg base "story_of" 8 (PreSt CN CS) := by
  have g1 := w_made_tuples T
  have g2 := w_gone_on T TE
  have g3 := w_start T
  have g4 := w_Story T
  refine fn_p (N := ["net", "told", "rows", "row", "nothing", "_", "whole", "run", "numbers"]) (ps := ["net", "told"]) T.d_story_of (fun _ _ _ _ _ _ us hl => match us, hl with | [_, _], _ => rfl) ⟨rfl, rfl, rfl, by decide +kernel, rfl, by decide +kernel, by decide +kernel⟩ (fun ds kk h => by obtain ⟨_, _, _, rfl, _⟩ := h; rfl) ?_
  intro X C hX ds kk h
  obtain ⟨N, hN⟩ : ∃ N, (["net", "told", "rows", "row", "nothing", "_", "whole", "run", "numbers"] : List Str) = N := ⟨_, rfl⟩
  rw [hN] at C
  have n0 : N[0]? = some ("net" : Str) := by rw [← hN] <;> rfl
  have n1 : N[1]? = some ("told" : Str) := by rw [← hN] <;> rfl
  have n2 : N[2]? = some ("rows" : Str) := by rw [← hN] <;> rfl
  have n3 : N[3]? = some ("row" : Str) := by rw [← hN] <;> rfl
  have n4 : N[4]? = some ("nothing" : Str) := by rw [← hN] <;> rfl
  have n5 : N[5]? = some ("_" : Str) := by rw [← hN] <;> rfl
  have n6 : N[6]? = some ("whole" : Str) := by rw [← hN] <;> rfl
  have n7 : N[7]? = some ("run" : Str) := by rw [← hN] <;> rfl
  have n8 : N[8]? = some ("numbers" : Str) := by rw [← hN] <;> rfl
  obtain ⟨M, h, R, rfl, hk⟩ := h
  have H := R.H
  have l3 := H.p3
  have a1 : rMade CN [encNet CN M, encHist h] (encHist h) := ⟨M, h, H, rfl, rfl⟩
  have a3 : rStart CN [encNet CN M] (encWd (wd0 M)) := .mk H.G
  have hsum : (h.map fun r : List Deed => r.length).sum ≤ 60 := R.sm
  refine c_set C n2 (by decide +kernel) (by kts_caught) ?_
  refine c_ifF0 (et_W (ew_orF (by top_reprB) (ew_or1 (et_is (et_c (ε1 := .d (nD ((h.map fun r : List Deed => r.length).sum))) (ε2 := .d (.int 60)) (c_sumM C T (by decide +kernel) (en_cm C hN (T := .one 3) (own := [("row", 3)]) (f := fun r => .one (.d (encR r))) (fun r => nD r.length) (xs := h) (ei_tupM (by top_name)) trivial (by decide +kernel) (by decide +kernel) (fun X' C' => c_tg1 C' n3 (by decide +kernel)) (by omega) (fun x hx => ⟨_, rfl, fun X' C' => ev_is (by kts_caught) (by simp)⟩))) (by kts_caught) cmp_gt) (decide_eq_false (by omega)))))) ?_
  refine c_set C n4 (by decide +kernel) (c_tupN C T (by decide +kernel) (en_cm C hN (T := .one 5) (own := [("_", 5)]) (f := fun r => .one (.d (encR r))) (fun _ => nD 0) (xs := h) (ei_tupM (by top_name)) trivial (by decide +kernel) (by decide +kernel) (fun X' C' => c_tg1 C' n5 (by decide +kernel)) (by omega) (fun x hx => ⟨_, rfl, fun X' C' => by top_name⟩))) ?_
  refine c_set C n6 (by decide +kernel) (c_tupN C T (by decide +kernel) (en_cm C hN (T := .one 3) (own := [("row", 3)]) (f := fun r => .one (.d (encR r))) (fun r => nD r.length) (xs := h) (ei_tupM (by top_name)) trivial (by decide +kernel) (by decide +kernel) (fun X' C' => c_tg1 C' n3 (by decide +kernel)) (by omega) (fun x hx => ⟨_, rfl, fun X' C' => ev_is (by kts_caught) (by simp)⟩))) ?_
  refine c_unpP C (nt_cons C n7 (by decide +kernel) (nt_cons C n5 (by decide +kernel) (nt_cons C n8 (by decide +kernel) nt_nil))) (Q := fun d => ∃ run w, Steps M h run w (whole h) ∧ d = .tup [.lst (run.map encDeed), encWd w, .tup ((whole h).map nD)])
    (c_callP C g2 (by decide) (by decide +kernel) (εs := [.d (encNet CN M), .d (encHist h), .d (encWd (wd0 M)), .d (.tup (h.map fun _ => nD 0)), .d (.tup (h.map fun r : List Deed => nD r.length))]) (by k_caught0) rfl (fun k hq => ⟨M, h, H, rfl, fun run w n S hno => ?_⟩)) ?_
  · obtain ⟨ds0, w0, S0⟩ := R.st
    have := S0.whole H.G H.O S hno
    subst this
    exact hq _ ⟨run, w, S, rfl⟩
  rintro d ⟨run, W, S, rfl⟩
  refine ⟨_, rfl, rfl, ?_⟩
  refine c_ifF0 (et_is (et_c (ε1 := .d (.tup ((whole h).map nD))) (ε2 := .d (.tup ((whole h).map nD))) (by kts_caught) (ev_is (by kts_caught) (by rw [whole_D])) (cmp_neNM C.room)) (by simp)) ?_
  have hcl := S.clk H.G H.O (look_ok H.G (evs_deeds H.O))
  refine c_retP (Q := fun d => d = encSt CN CS M (stoOf M h run)) (evp_make (n := 6) (Pre := PreStory CN CS) (C := CS) (by rw [C.pr, C.w, C.K, C.mg, C.base]; exact g4) C.room (C.gl (by decide +kernel)) (εs := [.d (encNet CN M), .d (encHist h), .d (.tup (run.map encDeed))]) (ea_cons (by kts_caught) (ea_cons (by kts_caught) (ea_cons (c_tup C T (by decide +kernel) (by kts_caught) rfl) ea_nil))) rfl ?_) ?_
  · refine ⟨M, h, run, H, rfl, rfl, fun t d ht => ⟨S.deeds d (List.mem_of_getElem? ht), hcl.2 t d ht⟩, by rw [S.len]; have := R.sm; omega, fun gs => ⟨rfl, _, lend_story, rfl⟩⟩
  · rintro d rfl
    exact hk run W S
theorem w_need_story {CE : Addr} (T : Tx P w K mg base CN CS) (TE : TxE P K mg CE) : Fn P w K mg base "need_story" 9 (PreSt CN CS) := by
  have g1 := w_story_of T TE
  refine fn_p (N := ["net", "told", "story"]) (ps := ["net", "told"]) T.d_need_story (fun _ _ _ _ _ _ us hl => match us, hl with | [_, _], _ => rfl) ⟨rfl, rfl, rfl, by decide +kernel, rfl, by decide +kernel, by decide +kernel⟩ (fun ds kk h => by obtain ⟨_, _, _, rfl, _⟩ := h; rfl) ?_
  intro X C hX ds kk h
  obtain ⟨N, hN⟩ : ∃ N, (["net", "told", "story"] : List Str) = N := ⟨_, rfl⟩
  rw [hN] at C
  have n0 : N[0]? = some ("net" : Str) := by rw [← hN] <;> rfl
  have n1 : N[1]? = some ("told" : Str) := by rw [← hN] <;> rfl
  have n2 : N[2]? = some ("story" : Str) := by rw [← hN] <;> rfl
  obtain ⟨M, h, R, rfl, hk⟩ := h
  refine c_setP C n2 (by decide +kernel) (Q := fun d => ∃ run w, Steps M h run w (whole h) ∧ d = encSt CN CS M (stoOf M h run)) (c_callP C g1 (by decide) (by decide +kernel) (εs := [.d (encNet CN M), .d (encHist h)]) (by k_caught0) rfl (fun k hq => ⟨M, h, R, rfl, fun run w S => hq _ ⟨run, w, S, rfl⟩⟩)) ?_
  rintro d ⟨run, W, S, rfl⟩
  refine c_ifF0 (by top_reprB) ?_
  exact c_retD (by kts_caught) (hk run W S)
structure FailOk (h : List (List Deed)) (fs : List Nat) : Prop where
  nd : fs.Nodup
  lt : ∀ x ∈ fs, x < h.length
  ln : fs.length ≤ 50
def PreChecked (CN CS : Addr) (ds : List D) (kk : D → Prop) : Prop := ∃ M h pts fs, HistR M h ∧ PtsOk h pts ∧ FailOk h fs ∧ ds = [encNet CN M, encHist h, encPts pts, .lst (fs.map nD), .int 3] ∧ ∀ run w, Steps M h run w (whole h) → kk (encSt CN CS M (stoOf M h run))
theorem w_checked {CE : Addr} (T : Tx P w K mg base CN CS) (TE : TxE P K mg CE) : Fn P w K mg base "checked" 10 (PreChecked CN CS) := by
  have g1 := w_need_story T TE
  have g2 := w_are_checkpoints T
  have g3 := w_are_processes T
  refine fn_p (N := ["net", "told", "checkpoints", "failed", "at", "story"]) (ps := ["net", "told", "checkpoints", "failed", "at"]) T.d_checked (fun _ _ _ _ _ _ us hl => match us, hl with | [_, _, _, _, _], _ => rfl) ⟨rfl, rfl, rfl, by decide +kernel, rfl, by decide +kernel, by decide +kernel⟩ (fun ds kk h => by obtain ⟨_, _, _, _, _, _, _, rfl, _⟩ := h; rfl) ?_
  intro X C hX ds kk h
  obtain ⟨N, hN⟩ : ∃ N, (["net", "told", "checkpoints", "failed", "at", "story"] : List Str) = N := ⟨_, rfl⟩
  rw [hN] at C
  have n0 : N[0]? = some ("net" : Str) := by rw [← hN] <;> rfl
  have n1 : N[1]? = some ("told" : Str) := by rw [← hN] <;> rfl
  have n2 : N[2]? = some ("checkpoints" : Str) := by rw [← hN] <;> rfl
  have n3 : N[3]? = some ("failed" : Str) := by rw [← hN] <;> rfl
  have n4 : N[4]? = some ("at" : Str) := by rw [← hN] <;> rfl
  have n5 : N[5]? = some ("story" : Str) := by rw [← hN] <;> rfl
  obtain ⟨M, h, pts, fs, R, hp, hf, rfl, hk⟩ := h
  refine c_setP C n5 (by decide +kernel) (Q := fun d => ∃ run w, Steps M h run w (whole h) ∧ d = encSt CN CS M (stoOf M h run)) (c_callP C g1 (by decide) (by decide +kernel) (εs := [.d (encNet CN M), .d (encHist h)]) (by k_caught0) rfl (fun k hq => ⟨M, h, R, rfl, fun run w S => hq _ ⟨run, w, S, rfl⟩⟩)) ?_
  rintro d ⟨run, W, S, rfl⟩
  have a2 : rChk CN CS [encSt CN CS M (stoOf M h run), encPts pts] (.bl true) := ⟨M, stoOf M h run, pts, rfl, hp, rfl⟩
  have a3 : rPrs CN CS [encSt CN CS M (stoOf M h run), .lst (fs.map nD)] (.bl true) := ⟨M, stoOf M h run, fs, rfl, hf.nd, hf.lt, hf.ln, rfl⟩
  refine c_ifF0 (et_not (et_val (x := true) (by kts_caught))) ?_
  refine c_ifF0 (et_not (et_val (x := true) (by kts_caught))) ?_
  exact c_retD (by kts_caught) (hk run W S)
theorem sum_set_lt {l : List Nat} {p y v : Nat} (h : l[p]? = some y) (hv : v < y) : (l.set p v).sum < l.sum := by
  induction l generalizing p with
  | nil => simp at h
  | cons x l ih =>
    cases p with
    | zero => simp only [List.getElem?_cons_zero, Option.some.injEq] at h; subst h; simp; omega
    | succ p => rw [List.getElem?_cons_succ] at h; have := ih h; simp only [List.set_cons_succ, List.sum_cons]; omega
structure RowA (r : List Nat) (most : Nat) : Prop where
  hd : r[0]? = some 0
  up : r.Pairwise (· < ·)
  le : ∀ k ∈ r, k ≤ most
structure AlOk (h : List (List Deed)) (al : List (List Nat)) : Prop where
  len : al.length = h.length
  ok : ∀ (p : Nat) (a : List Nat) (r : List Deed), al[p]? = some a → h[p]? = some r → RowA a r.length
def AlC (al : List (List Nat)) (zs : List Nat) : Prop := ∀ p y : Nat, zs[p]? = some y → y ∈ al[p]?.getD []
structure IsMx (M : Nt) (h : List (List Deed)) (al : List (List Nat)) (ys : List Nat) : Prop where
  len : ys.length = h.length
  alw : AlC al ys
  cl : Closed M h ys
  mx : ∀ zs : List Nat, zs.length = h.length → AlC al zs → Closed M h zs → leL zs ys
def lastL (rws : List (List Nat)) : List Nat := rws.map fun r => r.getLast?.getD 0
structure GInv (M : Nt) (h : List (List Deed)) (al rws : List (List Nat)) : Prop where
  len : rws.length = h.length
  ok : ∀ (p : Nat) (r : List Nat), rws[p]? = some r → r ≠ [] ∧ ∃ s, al[p]? = some (r ++ s)
  ub : ∀ zs : List Nat, zs.length = h.length → AlC al zs → Closed M h zs → leL zs (lastL rws)
theorem lastL_get {rws : List (List Nat)} {p : Nat} {r : List Nat} (h : rws[p]? = some r) : (lastL rws)[p]? = some (r.getLast?.getD 0) := by
  unfold lastL; rw [List.getElem?_map, h]; rfl
theorem last_le {r : List Nat} (h : r.Pairwise (· < ·)) {k : Nat} (hk : k ∈ r) : k ≤ r.getLast?.getD 0 := by
  obtain ⟨i, hi, rfl⟩ := List.mem_iff_getElem.mp hk
  rw [List.getLast?_eq_getElem?, List.getElem?_eq_getElem (by omega), Option.getD_some]
  by_cases e : i = r.length - 1
  · subst e; exact Nat.le_refl _
  · exact Nat.le_of_lt (List.pairwise_iff_getElem.mp h i (r.length - 1) hi (by omega) (by omega))
theorem GInv.init {M : Nt} {h : List (List Deed)} {al : List (List Nat)} (A : AlOk h al) : GInv M h al al := by
  refine ⟨A.len, fun p r hr => ?_, fun zs hz ha _ q => ?_⟩
  · obtain ⟨x, hx⟩ := get_of A.len.symm (List.getElem?_eq_some_iff.mp hr).1
    have R := A.ok p r x hr hx
    refine ⟨fun e => ?_, [], by rw [List.append_nil]; exact hr⟩
    subst e
    have := R.hd
    cases this
  · cases e : zs[q]? with
    | none => exact Nat.zero_le _
    | some y =>
      have hq : q < h.length := by rw [← hz]; exact (List.getElem?_eq_some_iff.mp e).1
      obtain ⟨a, hal⟩ := get_of A.len hq
      obtain ⟨x, hx⟩ := get_of rfl hq
      have := ha q y e
      rw [hal, Option.getD_some] at this
      rw [lastL_get hal, Option.getD_some, Option.getD_some]
      exact last_le (A.ok q a x hal hx).up this
theorem GInv.pop {M : Nt} {h : List (List Deed)} {al rws : List (List Nat)} (A : AlOk h al) (I : GInv M h al rws) {p : Nat} {r : List Nat} (hr : rws[p]? = some r) (hy : 0 < r.getLast?.getD 0)
    (hne : ∀ zs : List Nat, zs.length = h.length → AlC al zs → Closed M h zs → zs[p]?.getD 0 ≠ r.getLast?.getD 0) :
    GInv M h al (rws.set p r.dropLast) ∧ r.dropLast ≠ [] ∧ lastL (rws.set p r.dropLast) = (lastL rws).set p (r.dropLast.getLast?.getD 0) ∧ r.dropLast.getLast?.getD 0 < r.getLast?.getD 0 := by
  have hp := (List.getElem?_eq_some_iff.mp hr).1
  obtain ⟨hr0, s, hal⟩ := I.ok p r hr
  obtain ⟨x, hx⟩ := get_of I.len.symm hp
  have R := A.ok p _ x hal hx
  have hup : r.Pairwise (· < ·) := (List.pairwise_append.mp R.up).1
  have hlast : r.getLast?.getD 0 = r.getLast hr0 := by rw [List.getLast?_eq_some_getLast hr0]; rfl
  have hdl : r = r.dropLast ++ [r.getLast hr0] := (List.dropLast_concat_getLast hr0).symm
  have hd0 : r.dropLast ≠ [] := fun e => by
    rw [e] at hdl
    have := R.hd
    rw [hdl] at this
    simp at this
    rw [hlast] at hy
    omega
  have hlt : r.dropLast.getLast?.getD 0 < r.getLast?.getD 0 := by
    rw [hlast, List.getLast?_eq_some_getLast hd0, Option.getD_some]
    rw [hdl] at hup
    exact (List.pairwise_append.mp hup).2.2 _ (List.getLast_mem hd0) _ (List.mem_singleton.mpr rfl)
  have hls : lastL (rws.set p r.dropLast) = (lastL rws).set p (r.dropLast.getLast?.getD 0) := by unfold lastL; rw [List.map_set]
  refine ⟨⟨by rw [List.length_set]; exact I.len, fun q r' hq => ?_, fun zs hz ha hc q => ?_⟩, hd0, hls, hlt⟩
  · by_cases e : p = q
    · subst e
      rw [List.getElem?_set_self hp] at hq
      cases hq
      refine ⟨hd0, r.getLast hr0 :: s, ?_⟩
      rw [hal]
      congr 1
      conv => lhs; rw [hdl]
      simp
    · rw [List.getElem?_set_ne e] at hq
      exact I.ok q r' hq
  · have hb := I.ub zs hz ha hc q
    rw [hls]
    by_cases e : p = q
    · subst e
      rw [List.getElem?_set_self (by unfold lastL; rw [List.length_map]; exact hp), Option.getD_some]
      rw [lastL_get hr, Option.getD_some] at hb
      obtain ⟨y, hy'⟩ := get_of hz (by rw [← I.len]; exact hp)
      have hn := hne zs hz ha hc
      have hm := ha p y hy'
      rw [hal, Option.getD_some] at hm
      rw [hy', Option.getD_some] at hb hn ⊢
      have hyl : y < r.getLast?.getD 0 := by omega
      rcases List.mem_append.mp hm with hm | hm
      · rw [hdl] at hm
        rcases List.mem_append.mp hm with hm | hm
        · have hup2 : r.dropLast.Pairwise (· < ·) := by rw [hdl] at hup; exact (List.pairwise_append.mp hup).1
          exact last_le hup2 hm
        · rw [List.mem_singleton] at hm
          rw [hlast] at hyl
          omega
      · have := (List.pairwise_append.mp R.up).2.2 _ (List.getLast_mem hr0) _ hm
        rw [hlast] at hyl
        omega
    · rw [List.getElem?_set_ne e]; exact hb
theorem within_iff {a b : List Nat} (h : a.length = b.length) : within a b = true ↔ leL a b := by
  unfold within
  rw [List.all_eq_true]
  constructor
  · intro hh q
    by_cases hq : q < a.length
    · have := hh (a[q], b[q]'(by omega)) (List.mem_of_getElem? (i := q) (List.getElem?_zip_eq_some.mpr ⟨List.getElem?_eq_getElem hq, List.getElem?_eq_getElem (by omega)⟩))
      rw [List.getElem?_eq_getElem hq, List.getElem?_eq_getElem (by omega)]
      simpa using this
    · rw [List.getElem?_eq_none (by omega)]; exact Nat.zero_le _
  · rintro hh ⟨x, y⟩ hx
    obtain ⟨q, hq⟩ := List.mem_iff_getElem?.mp hx
    obtain ⟨h1, h2⟩ := List.getElem?_zip_eq_some.mp hq
    have := hh q
    rw [h1, h2] at this
    exact decide_eq_true this
abbrev lolN (rws : List (List Nat)) : MO := .lol (rws.map fun r => r.map nD)
def PreGA (CN CS : Addr) (ds : List D) (kk : D → Prop) : Prop := ∃ M h run w al, HistR M h ∧ Steps M h run w (whole h) ∧ AlOk h al ∧ ds = [encSt CN CS M (stoOf M h run), encPts al] ∧ ∀ ys, IsMx M h al ys → kk (.tup (ys.map nD))
theorem lastL_D {al : List (List Nat)} : ((List.range (al.map fun r => r.map nD).length).map fun i => nD ((al[i]?.getD []).getLast?.getD 0)) = (lastL al).map nD := by
  unfold lastL
  apply List.ext_getElem?
  intro i
  by_cases hi : i < al.length
  · simp [hi]
  · simp [hi]
theorem w_greatest_allowed (T : Tx P w K mg base CN CS) : Fn P w K mg base "greatest_allowed" 3 (PreGA CN CS) := by
  have g1 := w_is_consistent T
  have g2 := w_is_within T
  refine fn_p (N := ["story", "allowed", "rows", "row", "found", "process"]) (ps := ["story", "allowed"]) T.d_greatest_allowed (fun _ _ _ _ _ _ us hl => match us, hl with | [_, _], _ => rfl) ⟨rfl, rfl, rfl, by decide +kernel, rfl, by decide +kernel, by decide +kernel⟩ (fun ds kk h => by obtain ⟨_, _, _, _, _, _, _, _, rfl, _⟩ := h; rfl) ?_
  intro X C hX ds kk h
  obtain ⟨N, hN⟩ : ∃ N, (["story", "allowed", "rows", "row", "found", "process"] : List Str) = N := ⟨_, rfl⟩
  rw [hN] at C
  have n0 : N[0]? = some ("story" : Str) := by rw [← hN] <;> rfl
  have n1 : N[1]? = some ("allowed" : Str) := by rw [← hN] <;> rfl
  have n2 : N[2]? = some ("rows" : Str) := by rw [← hN] <;> rfl
  have n3 : N[3]? = some ("row" : Str) := by rw [← hN] <;> rfl
  have n4 : N[4]? = some ("found" : Str) := by rw [← hN] <;> rfl
  have n5 : N[5]? = some ("process" : Str) := by rw [← hN] <;> rfl
  obtain ⟨M, h, run, w0, al, R, S, A, rfl, hk⟩ := h
  have H := R.H
  have l3 := H.p3
  have lP := H.O.len
  have hlo := look_ok H.G (evs_deeds H.O)
  obtain ⟨V, _⟩ := S.clk H.G H.O hlo
  have hwc := (S.inv H.G H.O).2.1
  obtain ⟨st, hst⟩ : ∃ st, stoOf M h run = st := ⟨_, rfl⟩
  have hclk : st.clocks = clks M (look M (evs h)).sent run := by rw [← hst]; rfl
  rw [← hclk] at V
  rw [hst]
  -- facts of a state
  have fdlen : ∀ {rws}, GInv M h al rws → (lastL rws).length = h.length := fun I => by unfold lastL; rw [List.length_map]; exact I.len
  have fdle : ∀ {rws}, GInv M h al rws → leL (lastL rws) (whole h) := fun {rws} I q => by
    cases e : rws[q]? with
    | none => unfold lastL; rw [List.getElem?_map, e]; exact Nat.zero_le _
    | some r =>
      obtain ⟨hr0, s, hal⟩ := I.ok q r e
      obtain ⟨x, hx⟩ := get_of I.len.symm (List.getElem?_eq_some_iff.mp e).1
      rw [lastL_get e, whole_get, hx]
      simp only [Option.getD_some]
      rw [List.getLast?_eq_some_getLast hr0, Option.getD_some]
      exact (A.ok q _ x hal hx).le _ (List.mem_append_left _ (List.getLast_mem hr0))
  have clkrow : ∀ p, p < h.length → ∃ rc x, st.clocks[p]? = some rc ∧ h[p]? = some x ∧ rc.length = x.length := fun p hp => by
    obtain ⟨rc, hrc⟩ := get_of V.len (show p < M.ps.length by omega)
    obtain ⟨x, hx⟩ := get_of rfl hp
    have := V.rl p
    rw [hrc, whole_get, hx] at this
    exact ⟨rc, x, hrc, hx, this⟩
  have cutok : ∀ {rws}, GInv M h al rws → CutOk st (lastL rws) := fun {rws} I => by
    refine ⟨by rw [fdlen I]; omega, fun p y hy => ?_⟩
    obtain ⟨rc, x, h1, h2, h3⟩ := clkrow p (by rw [← fdlen I]; exact (List.getElem?_eq_some_iff.mp hy).1)
    have := fdle I p
    rw [hy, whole_get, h2] at this
    refine ⟨rc, h1, by simpa [h3] using this, fun c hc => ?_⟩
    obtain ⟨j, hj⟩ := List.mem_iff_getElem?.mp hc
    have := V.cln p j c (by unfold ck; rw [h1]; exact hj)
    omega
  have cons_ok : ∀ {rws}, GInv M h al rws → (consOk st (lastL rws) ↔ ∀ p y : Nat, (lastL rws)[p]? = some y → 0 < y → ∀ c, ck st.clocks p (y - 1) = some c → leL c (lastL rws)) := fun {rws} I => by
    constructor
    · intro hh p y hy h0 c hc
      unfold ck at hc
      cases e : st.clocks[p]? with
      | none => rw [e] at hc; simp at hc
      | some rc =>
        rw [e] at hc
        exact (within_iff (by rw [V.cln p _ c (by unfold ck; rw [e]; exact hc), fdlen I, lP])).mp (hh p y hy h0 rc c e hc)
    · intro hh p y hy h0 rc c h1 h2
      have hc : ck st.clocks p (y - 1) = some c := by unfold ck; rw [h1]; exact h2
      exact (within_iff (by rw [V.cln p _ c hc, fdlen I, lP])).mpr (hh p y hy h0 c hc)
  refine c_setCL C hN (T := .one 3) (own := [("row", 3)]) (fun r : List Nat => r.map nD) n2 (by decide +kernel) (ei_lstM (xs := al) (f := fun r : List Nat => .lst (r.map nD)) (by kts_caught)) trivial (by decide +kernel) (by decide +kernel) (fun X' C' => c_tg1 C' n3 (by decide +kernel)) (by rw [A.len]; omega) (fun x hx => ⟨_, rfl, fun X' C' => c_list C' T (by decide +kernel) (by kts_caught) rfl⟩) ?_
  refine c_setCm C hN (T := .one 3) (own := [("row", 3)]) (xs := List.range (al.map fun r => r.map nD).length) (f := fun i => .one (.sub 0 i)) (fun i => nD ((al[i]?.getD []).getLast?.getD 0)) n4 (by decide +kernel) (ei_lol (by kts_caught) rfl) ⟨_, rfl, rfl⟩ (by decide +kernel) (by decide +kernel) (fun X' C' => c_tg1 C' n3 (by decide +kernel)) (by rw [List.length_range, List.length_map, A.len]; omega) (fun x hx => ?_) ?_
  · have hx := List.mem_range.mp hx
    rw [List.length_map] at hx
    obtain ⟨a, ha⟩ := get_of rfl hx
    obtain ⟨r, hr⟩ := get_of A.len.symm hx
    have Ra := A.ok x a r ha hr
    have ha0 : a ≠ [] := fun e => by subst e; have := Ra.hd; cases this
    refine ⟨_, rfl, fun X' C' => ev_idx (by kts_caught) (ev_neg ev_int) (idx_subL rfl (xs := a.map nD) (by rw [List.getElem?_map, ha]; rfl) ?_)⟩
    rw [List.getLast?_map, ha, Option.getD_some, List.getLast?_eq_some_getLast ha0]; rfl
  rw [lastL_D]
  refine c_while C (fun m e u => ∃ rws, GInv M h al rws ∧ (∃ o3 o5, e = [some (.d (encSt CN CS M st)), some (.d (encPts al)), some (.at 0), o3, some (.at 1), o5]) ∧ u = [lolN rws, .lst ((lastL rws).map nD)] ∧ m = (lastL rws).sum) ⟨_, al, GInv.init A, ⟨_, _, rfl⟩, rfl, rfl⟩ ?_
  rintro m e u ⟨rws, I, ⟨o3, o5, rfl⟩, rfl, rfl⟩
  have gX : MtD X.prog X.w X.K X.mg X.base CS "is_consistent" 2 (PreCons CN CS) := by rw [C.pr, C.w, C.K, C.mg, C.base]; exact g1
  have hcS : Cls X.K CS := by rw [C.K]; exact T.c_Story
  by_cases hc : consOk st (lastL rws)
  · refine ⟨false, et_not (x := true) (et_val (ev_methL gX (C.rm (by decide)) hcS (show Ev X _ _ _ (.d (encSt CN CS M st)) from by kts_caught) rfl (by k_caught0) rfl rfl (fun k hkk => ⟨M, st, lastL rws, true, rfl, cutok I, ⟨fun _ => hc, fun _ => rfl⟩, hkk⟩))), (fun z => by cases z), fun _ => ?_⟩
    refine c_retD (c_tup C T (by decide +kernel) (by kts_caught) rfl) (hk _ ⟨fdlen I, fun p y hy => ?_, (V.cons H.G H.O hlo hwc (fdle I)).mp ((cons_ok I).mp hc), I.ub⟩)
    have hp : p < rws.length := by have := (List.getElem?_eq_some_iff.mp hy).1; rw [fdlen I] at this; rw [I.len]; exact this
    obtain ⟨r, hr⟩ := get_of rfl hp
    obtain ⟨hr0, s, hal⟩ := I.ok p r hr
    rw [lastL_get hr, List.getLast?_eq_some_getLast hr0] at hy
    cases hy
    rw [hal]
    exact List.mem_append_left _ (List.getLast_mem hr0)
  · refine ⟨true, et_not (x := false) (et_val (ev_methL gX (C.rm (by decide)) hcS (show Ev X _ _ _ (.d (encSt CN CS M st)) from by kts_caught) rfl (by k_caught0) rfl rfl (fun k hkk => ⟨M, st, lastL rws, false, rfl, cutok I, ⟨fun z => (by cases z), fun z => absurd z hc⟩, hkk⟩))), fun _ => ?_, (fun z => by cases z)⟩
    refine c_for C (T := .two 5 3) (fun i e u => ∃ rws', GInv M h al rws' ∧ (∃ o3 o5, e = [some (.d (encSt CN CS M st)), some (.d (encPts al)), some (.at 0), o3, some (.at 1), o5]) ∧ u = [lolN rws', .lst ((lastL rws').map nD)] ∧
        ((lastL rws').sum < (lastL rws).sum ∨ (rws' = rws ∧ ∀ p y : Nat, p < i → (lastL rws)[p]? = some y → 0 < y → ∀ c, ck st.clocks p (y - 1) = some c → leL c (lastL rws))))
      (ei_enumL (C.gl (by decide +kernel)) (C.free T.b_enumerate) (by intro _ _; rfl) (by kts_caught) rfl) (c_tg2 C n5 (by decide +kernel) n3 (by decide +kernel)) ⟨rws, I, ⟨_, _, rfl⟩, rfl, .inr ⟨rfl, fun p y hp => absurd hp (Nat.not_lt_zero _)⟩⟩
      (fun i e u hw => by obtain ⟨rws', I', _, hu, _⟩ := hw; exact ⟨_, by rw [hu]; rfl, by rw [List.length_map, List.length_map, I'.len, I.len]⟩) ?_ ?_
    · rintro i item e u hi ⟨rws1, I1, ⟨o3, o5, rfl⟩, rfl, hpr1⟩
      rw [List.getElem?_map] at hi
      cases hri : (List.range (rws.map fun r => r.map nD).length)[i]? with
      | none => rw [hri] at hi; cases hi
      | some i' =>
        rw [hri] at hi
        cases hi
        obtain ⟨hil, hie⟩ := List.getElem?_eq_some_iff.mp hri
        rw [List.getElem_range] at hie
        subst hie
        rw [List.length_range, List.length_map, I.len] at hil
        refine ⟨_, rfl, ?_⟩
        refine c_while C (fun m2 e u => ∃ rws2, GInv M h al rws2 ∧ e = [some (.d (encSt CN CS M st)), some (.d (encPts al)), some (.at 0), some (.sub 0 i), some (.at 1), some (.d (nD i))] ∧ u = [lolN rws2, .lst ((lastL rws2).map nD)] ∧
          ((lastL rws2).sum < (lastL rws).sum ∨ (rws2 = rws ∧ ∀ p y : Nat, p < i → (lastL rws)[p]? = some y → 0 < y → ∀ c, ck st.clocks p (y - 1) = some c → leL c (lastL rws))) ∧ m2 = (lastL rws2).sum) ⟨_, rws1, I1, rfl, rfl, hpr1, rfl⟩ ?_
        rintro m2 e u ⟨rws2, I2, rfl, rfl, hpr2, rfl⟩
        obtain ⟨r, hr⟩ := get_of I2.len hil
        obtain ⟨hr0, s, hal⟩ := I2.ok i r hr
        have hfd := lastL_get hr
        obtain ⟨rc, x, hrc, hx, hrcl⟩ := clkrow i hil
        have hyl := fdle I2 i
        rw [hfd, whole_get, hx] at hyl
        simp only [Option.getD_some] at hyl
        obtain ⟨y, hy⟩ : ∃ y, r.getLast?.getD 0 = y := ⟨_, rfl⟩
        rw [hy] at hfd hyl
        by_cases h0 : 0 < y
        · obtain ⟨c, hcc⟩ := get_of hrcl (show y - 1 < x.length by omega)
          have hck : ck st.clocks i (y - 1) = some c := by unfold ck; rw [hrc]; exact hcc
          have hcl := V.cln i _ c hck
          have hcw : c.length = (lastL rws2).length := by rw [hcl, fdlen I2, lP]
          by_cases hwi : leL c (lastL rws2)
          · have a1 : rWithin [encClk c, .lst ((lastL rws2).map nD)] (.bl true) := ⟨_, _, true, false, c, lastL rws2, rfl, rfl, rfl, by omega, by rw [(within_iff hcw).mpr hwi]⟩
            refine ⟨false, et_W (ew_andT (et_is (et_c (ε1 := .d (nD y)) (ev_idx (by kts_caught) (by kts_caught) (idx_at rfl hfd)) (by kts_caught) cmp_gt) (decide_eq_true (by omega))) (ew_and1 (et_not (x := true) (et_val (c_callL C g2 (by decide) (by decide +kernel) (εs := [.d (encClk c), .at 1]) (ea_cons (ev_idx (ev_idx (by kts_caught) (by kts_caught) (idx_lst (f := fun r => D.lst (r.map encClk)) hrc)) (ev_is (ev_subI (ev_idx (by kts_caught) (by kts_caught) (idx_at (f := nD) rfl hfd)) ev_int) (by rw [show ((y : Int) - 1) = ((y - 1 : Nat) : Int) by omega])) (idx_lst (f := encClk) hcc)) (ea_cons (by kts_caught) ea_nil)) rfl a1 rfl))))), (fun z => by cases z), fun _ => go_nil ⟨rws2, I2, ⟨_, _, rfl⟩, rfl, ?_⟩⟩
            rcases hpr2 with hlt | ⟨rfl, hok⟩
            · exact .inl hlt
            · refine .inr ⟨rfl, fun p y' hp hy' h0' c' hc' => ?_⟩
              by_cases e : p = i
              · subst e
                rw [hfd] at hy'; cases hy'
                rw [hck] at hc'; cases hc'
                exact hwi
              · exact hok p y' (by omega) hy' h0' c' hc'
          · have a1 : rWithin [encClk c, .lst ((lastL rws2).map nD)] (.bl false) := ⟨_, _, true, false, c, lastL rws2, rfl, rfl, rfl, by omega, by
              have : within c (lastL rws2) = false := by
                cases e : within c (lastL rws2) with
                | false => rfl
                | true => exact absurd ((within_iff hcw).mp e) hwi
              rw [this]⟩
            obtain ⟨I3, hd0, hls, hlt⟩ := I2.pop A hr (by rw [hy]; exact h0) (fun zs hz ha hcz e => by
              rw [hy] at e
              have := V.min i (y - 1) c zs hck hcz (by omega)
              exact hwi (leL_trans this (I2.ub zs hz ha hcz)))
            have hj : (rws2.map fun r => r.map nD)[i]? = some (r.map nD) := by rw [List.getElem?_map, hr]; rfl
            have hset : (rws2.map fun r => r.map nD).set i (r.map nD).dropLast = (rws2.set i r.dropLast).map fun r => r.map nD := by rw [List.map_set, List.map_dropLast]
            have hj3 : ((rws2.set i r.dropLast).map fun r => r.map nD)[i]? = some (r.dropLast.map nD) := by rw [List.getElem?_map, List.getElem?_set_self (by rw [I2.len]; exact hil)]; rfl
            refine ⟨true, et_W (ew_andT (et_is (et_c (ε1 := .d (nD y)) (ev_idx (by kts_caught) (by kts_caught) (idx_at rfl hfd)) (by kts_caught) cmp_gt) (decide_eq_true (by omega))) (ew_and1 (et_not (x := false) (et_val (c_callL C g2 (by decide) (by decide +kernel) (εs := [.d (encClk c), .at 1]) (ea_cons (ev_idx (ev_idx (by kts_caught) (by kts_caught) (idx_lst (f := fun r => D.lst (r.map encClk)) hrc)) (ev_is (ev_subI (ev_idx (by kts_caught) (by kts_caught) (idx_at (f := nD) rfl hfd)) ev_int) (by rw [show ((y : Int) - 1) = ((y - 1 : Nat) : Int) by omega])) (idx_lst (f := encClk) hcc)) (ea_cons (by kts_caught) ea_nil)) rfl a1 rfl))))), fun _ => ?_, (fun z => by cases z)⟩
            refine go_cons (go_popS (k := 0) (j := i) (by kts_caught) rfl hj (by rw [ne_eq, List.map_eq_nil_iff]; exact hr0) ?_)
            rw [hset]
            refine go_cons (go_setIx (k := 1) (j := i) (d := nD (r.dropLast.getLast?.getD 0)) (by kts_caught) rfl (by kts_caught) (by rw [List.length_map]; exact ixN_nat (by rw [fdlen I2]; exact hil)) (ev_idx (by kts_caught) (ev_neg ev_int) (idx_subL rfl hj3 (by rw [List.getLast?_map, List.getLast?_eq_some_getLast hd0]; rfl))) ?_)
            have hsum : (lastL (rws2.set i r.dropLast)).sum < (lastL rws2).sum := by rw [hls]; exact sum_set_lt (lastL_get hr) hlt
            refine go_nil ⟨_, hsum, rws2.set i r.dropLast, I3, rfl, ?_, .inl ?_, rfl⟩
            · rw [hls, List.map_set (f := nD)]; rfl
            · rcases hpr2 with h' | ⟨rfl, _⟩
              · omega
              · exact hsum
        · refine ⟨false, et_W (ew_andF (et_is (et_c (ε1 := .d (nD y)) (ev_idx (by kts_caught) (by kts_caught) (idx_at rfl hfd)) (by kts_caught) cmp_gt) (decide_eq_false (by omega)))), (fun z => by cases z), fun _ => go_nil ⟨rws2, I2, ⟨_, _, rfl⟩, rfl, ?_⟩⟩
          rcases hpr2 with hlt | ⟨rfl, hok⟩
          · exact .inl hlt
          · refine .inr ⟨rfl, fun p y' hp hy' h0' c' hc' => ?_⟩
            by_cases e : p = i
            · subst e
              rw [hfd] at hy'; cases hy'
              omega
            · exact hok p y' (by omega) hy' h0' c' hc'
    · rintro e u ⟨rws', I', ⟨o3, o5, rfl⟩, rfl, hpr⟩
      refine go_nil ⟨_, ?_, rws', I', ⟨_, _, rfl⟩, rfl, rfl⟩
      rcases hpr with hlt | ⟨rfl, hok⟩
      · exact hlt
      · refine absurd ((cons_ok I).mpr fun p y hy h0 c hcc => hok p y ?_ hy h0 c hcc) hc
        rw [List.length_map, List.length_range, List.length_map, I.len, ← fdlen I]
        exact (List.getElem?_eq_some_iff.mp hy).1
theorem allow_row {h : List (List Deed)} {pts : List (List Nat)} {fs : List Nat} {p : Nat} {r : List Nat} {x : List Deed} (h1 : pts[p]? = some r) (h2 : h[p]? = some x) : (allowL h pts fs)[p]? = some (if p ∉ fs ∧ r.getLast? ≠ some x.length then r ++ [x.length] else r) := by
  rw [allow_get h1, h2]; rfl
theorem allow_mem {h : List (List Deed)} {pts : List (List Nat)} {fs : List Nat} (ok : PtsOk h pts) {p k : Nat} (hp : p < h.length) : k ∈ (allowL h pts fs)[p]?.getD [] ↔ k ∈ pts[p]?.getD [] ∨ (p ∉ fs ∧ k = (h[p]?.getD []).length) := by
  obtain ⟨x, hx⟩ := get_of rfl hp
  obtain ⟨r, hr⟩ := get_of ok.len hp
  rw [allow_row hr hx, hr, hx]
  simp only [Option.getD_some]
  by_cases hc : p ∉ fs ∧ r.getLast? ≠ some x.length
  · rw [if_pos hc, List.mem_append, List.mem_singleton]
    simp [hc.1]
  · rw [if_neg hc]
    constructor
    · exact .inl
    · rintro (h' | ⟨h1, rfl⟩)
      · exact h'
      · have : r.getLast? = some x.length := Classical.byContradiction fun z => hc ⟨h1, z⟩
        exact List.mem_of_getLast? this
theorem allow_ok {h : List (List Deed)} {pts : List (List Nat)} {fs : List Nat} (ok : PtsOk h pts) : AlOk h (allowL h pts fs) := by
  refine ⟨by unfold allowL; rw [List.length_map, List.length_zipIdx]; exact ok.len, fun p a x ha hx => ?_⟩
  have hp := (List.getElem?_eq_some_iff.mp hx).1
  obtain ⟨r, hr⟩ := get_of ok.len hp
  have R : RowOk r x.length := ok.ok (r, x) (List.mem_of_getElem? (i := p) (List.getElem?_zip_eq_some.mpr ⟨hr, hx⟩))
  rw [allow_row hr hx] at ha
  cases ha
  have hr0 : 0 < r.length := (List.getElem?_eq_some_iff.mp R.hd).1
  split
  · rename_i hc
    refine ⟨by rw [List.getElem?_append_left hr0]; exact R.hd, List.pairwise_append.mpr ⟨R.up, List.pairwise_singleton _ _, fun k hk z hz => ?_⟩, fun k hk => ?_⟩
    · rw [List.mem_singleton] at hz
      subst hz
      have h1 := R.le k hk
      have h2 := last_le R.up hk
      have hne : r ≠ [] := fun e => by subst e; simp at hr0
      have h3 := R.le _ (List.getLast_mem hne)
      rw [List.getLast?_eq_some_getLast hne, Option.getD_some] at h2
      have h4 : r.getLast hne ≠ x.length := fun e => hc.2 (by rw [List.getLast?_eq_some_getLast hne, e])
      omega
    · rcases List.mem_append.mp hk with hk | hk
      · exact R.le k hk
      · rw [List.mem_singleton.mp hk]; exact Nat.le_refl _
  · exact ⟨R.hd, R.up, R.le⟩
theorem mx_ga {M : Nt} {h : List (List Deed)} {pts : List (List Nat)} {fs : List Nat} (ok : PtsOk h pts) {ys : List Nat} (X : IsMx M h (allowL h pts fs) ys) : IsGA M h pts fs ys := by
  refine ⟨X.len, fun p y hy => ?_, X.cl, fun zs hz ha hc => X.mx zs hz (fun p y hy => ?_) hc⟩
  · exact (allow_mem ok (by rw [← X.len]; exact (List.getElem?_eq_some_iff.mp hy).1)).mp (X.alw p y hy)
  · exact (allow_mem ok (by rw [← hz]; exact (List.getElem?_eq_some_iff.mp hy).1)).mpr (ha p y hy)
theorem evp_tup2 {X : Cx} {env : List (Option E)} {mu : List MO} {a b : Expr} {d1 : D} {Q : D → Prop} {x1 : Nat} {pos : Pos} (ha : Ev X a env mu (.d d1)) (hb : EvP X b env mu Q) (n1 : NoStar a := by intro _ _; rfl) (n2 : NoStar b := by intro _ _; rfl) : EvP X (.Tuple [a, b] x1 pos) env mu (fun d => ∃ d2, Q d2 ∧ d = .tup [d1, d2]) := by
  intro F ps σ H K I k
  refine ⟨_, pe_tup (pa_cons pE (pa_cons pE pa_nil (n2 _ _)) (n1 _ _)), ha F ps σ H _ I fun v H1 e1 r1 => hb F ps σ H1 _ (I.mono e1) fun w d2 H2 q2 e2 r2 => ⟨by rw [sizeLine_eq]; show 2 ≤ 16777216; omega, fun p hp => ?_⟩⟩
  have I2 := (I.mono e1).mono e2
  exact k _ _ _ ⟨d2, q2, rfl⟩ ((e1.trans e2).trans (Ext.new hp)) (I2.repTup hp (.cons (Rep.mono (stab_mono e2) r1) (.cons r2 .nil)))
def PreLine (CN : Addr) (ds : List D) (kk : D → Prop) : Prop := ∃ M h pts fs, HistR M h ∧ PtsOk h pts ∧ FailOk h fs ∧ ds = [encNet CN M, encHist h, encPts pts, .lst (fs.map nD)] ∧ ∀ ys, IsGA M h pts fs ys → kk (.tup (ys.map nD))
theorem w_line {CE : Addr} (T : Tx P w K mg base CN CS) (TE : TxE P K mg CE) : Fn P w K mg base "line" 11 (PreLine CN) := by
  have g1 := w_checked T TE
  have g2 := w_allowed_of T
  have g3 := w_greatest_allowed T
  refine fn_p (N := ["net", "told", "checkpoints", "failed", "story"]) (ps := ["net", "told", "checkpoints", "failed"]) T.d_line (fun _ _ _ _ _ _ us hl => match us, hl with | [_, _, _, _], _ => rfl) ⟨rfl, rfl, rfl, by decide +kernel, rfl, by decide +kernel, by decide +kernel⟩ (fun ds kk h => by obtain ⟨_, _, _, _, _, _, _, rfl, _⟩ := h; rfl) ?_
  intro X C hX ds kk h
  obtain ⟨N, hN⟩ : ∃ N, (["net", "told", "checkpoints", "failed", "story"] : List Str) = N := ⟨_, rfl⟩
  rw [hN] at C
  have n0 : N[0]? = some ("net" : Str) := by rw [← hN] <;> rfl
  have n1 : N[1]? = some ("told" : Str) := by rw [← hN] <;> rfl
  have n2 : N[2]? = some ("checkpoints" : Str) := by rw [← hN] <;> rfl
  have n3 : N[3]? = some ("failed" : Str) := by rw [← hN] <;> rfl
  have n4 : N[4]? = some ("story" : Str) := by rw [← hN] <;> rfl
  obtain ⟨M, h, pts, fs, R, hp, hf, rfl, hk⟩ := h
  refine c_setP C n4 (by decide +kernel) (Q := fun d => ∃ run w, Steps M h run w (whole h) ∧ d = encSt CN CS M (stoOf M h run)) (c_callP C g1 (by decide) (by decide +kernel) (εs := [.d (encNet CN M), .d (encHist h), .d (encPts pts), .d (.lst (fs.map nD)), .d (.int 3)]) (by k_caught0) rfl (fun k hq => ⟨M, h, pts, fs, R, hp, hf, rfl, fun run w S => hq _ ⟨run, w, S, rfl⟩⟩)) ?_
  rintro d ⟨run, W, S, rfl⟩
  have a2 : rAllow CN CS [encSt CN CS M (stoOf M h run), encPts pts, .lst (fs.map nD)] (encPts (allowL h pts fs)) := ⟨M, stoOf M h run, pts, fs, rfl, hp, rfl⟩
  refine c_retP (Q := fun d => ∃ ys, IsGA M h pts fs ys ∧ d = .tup (ys.map nD)) (c_callP C g3 (by decide) (by decide +kernel) (εs := [.d (encSt CN CS M (stoOf M h run)), .d (encPts (allowL h pts fs))]) (by k_caught0) rfl (fun k hq => ⟨M, h, run, W, _, R, S, allow_ok hp, rfl, fun ys hys => hq _ ⟨ys, mx_ga hp hys, rfl⟩⟩)) ?_
  rintro d ⟨ys, hys, rfl⟩
  exact hk ys hys
def PreFloorOf (CN CS : Addr) (ds : List D) (kk : D → Prop) : Prop := ∃ M h pts, HistR M h ∧ PtsOk h pts ∧ ds = [encNet CN M, encHist h, encPts pts] ∧
  ∀ run w ys, Steps M h run w (whole h) → IsGA M h pts (List.range M.ps.length) ys → kk (.tup [encSt CN CS M (stoOf M h run), .tup (ys.map nD)])
theorem fail_all {M : Nt} {h : List (List Deed)} (R : HistR M h) : FailOk h (List.range M.ps.length) :=
  ⟨List.nodup_range, fun x hx => by rw [R.H.O.len]; exact List.mem_range.mp hx, by rw [List.length_range]; have := R.H.G.p3; omega⟩
theorem w_floor_of {CE : Addr} (T : Tx P w K mg base CN CS) (TE : TxE P K mg CE) : Fn P w K mg base "floor_of" 11 (PreFloorOf CN CS) := by
  have g1 := w_checked T TE
  have g2 := w_allowed_of T
  have g3 := w_greatest_allowed T
  refine fn_p (N := ["net", "told", "checkpoints", "failed", "story"]) (ps := ["net", "told", "checkpoints"]) T.d_floor_of (fun _ _ _ _ _ _ us hl => match us, hl with | [_, _, _], _ => rfl) ⟨rfl, rfl, rfl, by decide +kernel, rfl, by decide +kernel, by decide +kernel⟩ (fun ds kk h => by obtain ⟨_, _, _, _, _, rfl, _⟩ := h; rfl) ?_
  intro X C hX ds kk h
  obtain ⟨N, hN⟩ : ∃ N, (["net", "told", "checkpoints", "failed", "story"] : List Str) = N := ⟨_, rfl⟩
  rw [hN] at C
  have n0 : N[0]? = some ("net" : Str) := by rw [← hN] <;> rfl
  have n1 : N[1]? = some ("told" : Str) := by rw [← hN] <;> rfl
  have n2 : N[2]? = some ("checkpoints" : Str) := by rw [← hN] <;> rfl
  have n3 : N[3]? = some ("failed" : Str) := by rw [← hN] <;> rfl
  have n4 : N[4]? = some ("story" : Str) := by rw [← hN] <;> rfl
  obtain ⟨M, h, pts, R, hp, rfl, hk⟩ := h
  have l3 := R.H.G.p3
  refine c_set C n3 (by decide +kernel) (ev_is (ev_range1 (C.gl (by decide +kernel)) (C.free T.b_range) (by intro _ _; rfl) (by kts_caught)) (show _ = E.d (.rng 0 (M.ps.length : Int)) by simp)) ?_
  refine c_setP C n4 (by decide +kernel) (Q := fun d => ∃ run w, Steps M h run w (whole h) ∧ d = encSt CN CS M (stoOf M h run)) (c_callP C g1 (by decide) (by decide +kernel) (εs := [.d (encNet CN M), .d (encHist h), .d (encPts pts), .d (.lst ((List.range M.ps.length).map nD)), .d (.int 3)]) (ea_cons (by kts_caught) (ea_cons (by kts_caught) (ea_cons (by kts_caught) (ea_cons ((en_listR (n := M.ps.length) C.B.calm (C.gl (by decide +kernel)) (C.free T.b_list) (by intro _ _; rfl) (by kts_caught) (by omega)).ev) (ea_cons (by kts_caught) ea_nil))))) rfl (fun k hq => ⟨M, h, pts, _, R, hp, fail_all R, rfl, fun run w S => hq _ ⟨run, w, S, rfl⟩⟩)) ?_
  rintro d ⟨run, W, S, rfl⟩
  have a2 : rAllow CN CS [encSt CN CS M (stoOf M h run), encPts pts, .lst ((List.range M.ps.length).map nD)] (encPts (allowL h pts (List.range M.ps.length))) := ⟨M, stoOf M h run, pts, _, rfl, hp, rfl⟩
  refine c_retP (Q := fun d => ∃ d2, (∃ ys, IsGA M h pts (List.range M.ps.length) ys ∧ d2 = .tup (ys.map nD)) ∧ d = .tup [encSt CN CS M (stoOf M h run), d2]) (evp_tup2 (by kts_caught) (c_callP C g3 (by decide) (by decide +kernel) (εs := [.d (encSt CN CS M (stoOf M h run)), .d (encPts (allowL h pts (List.range M.ps.length)))]) (ea_cons (by kts_caught) (ea_cons (c_call C g2 (by decide) (by decide +kernel) (εs := [.d (encSt CN CS M (stoOf M h run)), .d (encPts pts), .d (.lst ((List.range M.ps.length).map nD))]) (ea_cons (by kts_caught) (ea_cons (by kts_caught) (ea_cons ((en_listR (n := M.ps.length) C.B.calm (C.gl (by decide +kernel)) (C.free T.b_list) (by intro _ _; rfl) (by kts_caught) (by omega)).ev) ea_nil))) rfl a2) ea_nil)) rfl (fun k hq => ⟨M, h, run, W, _, R, S, allow_ok hp, rfl, fun ys hys => hq _ ⟨ys, mx_ga hp hys, rfl⟩⟩))) ?_
  rintro d ⟨d2, ⟨ys, hys, rfl⟩, rfl⟩
  exact hk run W ys S hys
def PreFloor (CN : Addr) (ds : List D) (kk : D → Prop) : Prop := ∃ M h pts, HistR M h ∧ PtsOk h pts ∧ ds = [encNet CN M, encHist h, encPts pts] ∧ ∀ ys, IsGA M h pts (List.range M.ps.length) ys → kk (.tup (ys.map nD))
theorem evp_ix {X : Cx} {env : List (Option E)} {mu : List MO} {a b : Expr} {Q Q' : D → Prop} {i : Int} {pos : Pos} (ha : EvP X a env mu Q) (hb : Ev X b env mu (.d (.int i))) (h : ∀ d, Q d → ∃ ds d', d = .tup ds ∧ L2.atI ds i = some d' ∧ Q' d') (hp : PlainIx b := by exact fun _ _ => rfl) : EvP X (.Subscript a b pos) env mu Q' := by
  intro F ps σ H K I k
  refine ⟨_, pe_ix ix_seq pE pE hp, ha F ps σ H _ I fun v d H1 q1 e1 r1 => hb F ps σ H1 _ (I.mono e1) fun w H2 e2 r2 => ?_⟩
  have I2 := (I.mono e1).mono e2
  obtain ⟨ds, d', rfl, hi, q'⟩ := h d q1
  obtain ⟨p, us, rfl, g, q⟩ := seqE_rep I2 (ε := .d (.tup ds)) (Rep.mono (stab_mono e2) r1) rfl
  obtain ⟨z, h1, h2⟩ := q.atI hi
  obtain rfl := Rep.int_eq r2
  exact .inr (.inl ⟨p, us, i, z, rfl, rfl, seq_t g, h1, k z d' H2 q' (e1.trans e2) h2⟩)
theorem w_floor {CE : Addr} (T : Tx P w K mg base CN CS) (TE : TxE P K mg CE) : Fn P w K mg base "floor" 12 (PreFloor CN) := by
  have g1 := w_floor_of T TE
  refine fn_p (N := ["net", "told", "checkpoints"]) (ps := ["net", "told", "checkpoints"]) T.d_floor (fun _ _ _ _ _ _ us hl => match us, hl with | [_, _, _], _ => rfl) ⟨rfl, rfl, rfl, by decide +kernel, rfl, by decide +kernel, by decide +kernel⟩ (fun ds kk h => by obtain ⟨_, _, _, _, _, rfl, _⟩ := h; rfl) ?_
  intro X C hX ds kk h
  obtain ⟨N, hN⟩ : ∃ N, (["net", "told", "checkpoints"] : List Str) = N := ⟨_, rfl⟩
  rw [hN] at C
  have n0 : N[0]? = some ("net" : Str) := by rw [← hN] <;> rfl
  have n1 : N[1]? = some ("told" : Str) := by rw [← hN] <;> rfl
  have n2 : N[2]? = some ("checkpoints" : Str) := by rw [← hN] <;> rfl
  obtain ⟨M, h, pts, R, hp, rfl, hk⟩ := h
  refine c_retP (Q := fun d => ∃ ys, IsGA M h pts (List.range M.ps.length) ys ∧ d = .tup (ys.map nD)) (evp_ix (Q := fun d => ∃ d1 ys, IsGA M h pts (List.range M.ps.length) ys ∧ d = .tup [d1, .tup (ys.map nD)]) (c_callP C g1 (by decide) (by decide +kernel) (εs := [.d (encNet CN M), .d (encHist h), .d (encPts pts)]) (by k_caught0) rfl (fun k hq => ⟨M, h, pts, R, hp, rfl, fun run w ys S hys => hq _ ⟨_, ys, hys, rfl⟩⟩)) ev_int ?_) ?_
  · rintro d ⟨d1, ys, hys, rfl⟩
    exact ⟨_, _, rfl, rfl, ys, hys, rfl⟩
  · rintro d ⟨ys, hys, rfl⟩
    exact hk ys hys
def PreDrop (CN : Addr) (ds : List D) (kk : D → Prop) : Prop := ∃ M h pts, HistR M h ∧ PtsOk h pts ∧ ds = [encNet CN M, encHist h, encPts pts] ∧ ∀ ys, IsGA M h pts (List.range M.ps.length) ys → kk (.tup ((pts.zip ys).map fun q => .tup ((q.1.filter fun k => decide (k < q.2)).map nD)))
theorem w_droppable {CE : Addr} (T : Tx P w K mg base CN CS) (TE : TxE P K mg CE) : Fn P w K mg base "droppable" 12 (PreDrop CN) := by
  have g1 := w_floor_of T TE
  refine fn_p (N := ["net", "told", "checkpoints", "_", "cut", "one", "row", "number"]) (ps := ["net", "told", "checkpoints"]) T.d_droppable (fun _ _ _ _ _ _ us hl => match us, hl with | [_, _, _], _ => rfl) ⟨rfl, rfl, rfl, by decide +kernel, rfl, by decide +kernel, by decide +kernel⟩ (fun ds kk h => by obtain ⟨_, _, _, _, _, rfl, _⟩ := h; rfl) ?_
  intro X C hX ds kk h
  obtain ⟨N, hN⟩ : ∃ N, (["net", "told", "checkpoints", "_", "cut", "one", "row", "number"] : List Str) = N := ⟨_, rfl⟩
  rw [hN] at C
  have n0 : N[0]? = some ("net" : Str) := by rw [← hN] <;> rfl
  have n1 : N[1]? = some ("told" : Str) := by rw [← hN] <;> rfl
  have n2 : N[2]? = some ("checkpoints" : Str) := by rw [← hN] <;> rfl
  have n3 : N[3]? = some ("_" : Str) := by rw [← hN] <;> rfl
  have n4 : N[4]? = some ("cut" : Str) := by rw [← hN] <;> rfl
  have n5 : N[5]? = some ("one" : Str) := by rw [← hN] <;> rfl
  have n6 : N[6]? = some ("row" : Str) := by rw [← hN] <;> rfl
  have n7 : N[7]? = some ("number" : Str) := by rw [← hN] <;> rfl
  obtain ⟨M, h, pts, R, hp, rfl, hk⟩ := h
  have l3 := R.H.p3
  refine c_unpP C (nt_cons C n3 (by decide +kernel) (nt_cons C n4 (by decide +kernel) nt_nil)) (Q := fun d => ∃ d1 ys, IsGA M h pts (List.range M.ps.length) ys ∧ d = .tup [d1, .tup (ys.map nD)]) (c_callP C g1 (by decide) (by decide +kernel) (εs := [.d (encNet CN M), .d (encHist h), .d (encPts pts)]) (by k_caught0) rfl (fun k hq => ⟨M, h, pts, R, hp, rfl, fun run w ys S hys => hq _ ⟨_, ys, hys, rfl⟩⟩)) ?_
  rintro d ⟨d1, ys, hys, rfl⟩
  refine ⟨_, rfl, rfl, ?_⟩
  refine c_retD (c_tupN C T (by decide +kernel) (en_cm C hN (T := .two 6 7) (own := [("row", 6), ("number", 7)]) (f := fun q => .two (.d (.lst (q.1.map nD))) (.d (nD q.2))) (fun q => .tup ((q.1.filter fun k => decide (k < q.2)).map nD)) (xs := pts.zip ys) (c_zipM C T (by decide +kernel) (f := fun r : List Nat => .lst (r.map nD)) (g := nD) (d1 := encPts pts) (d2 := .tup (ys.map nD)) (by kts_caught) (by kts_caught) rfl rfl) trivial (by decide +kernel) (by decide +kernel) (fun X' C' => c_tg2 C' n6 (by decide +kernel) n7 (by decide +kernel)) (by rw [List.length_zip, hp.len]; omega) (fun x hx => ⟨_, rfl, fun X' C' => ?_⟩))) (hk ys hys)
  obtain ⟨p, hpx⟩ := List.mem_iff_getElem?.mp hx
  obtain ⟨hx1, hx2⟩ := List.getElem?_zip_eq_some.mp hpx
  obtain ⟨y, hy⟩ := get_of hp.len.symm (List.getElem?_eq_some_iff.mp hx1).1
  have Rr := (hp.ok (x.1, y) (List.mem_of_getElem? (i := p) (List.getElem?_zip_eq_some.mpr ⟨hx1, hy⟩))).ln
  simp only at Rr
  exact c_tupN C' T (by decide +kernel) (en_c C' hN (T := .one 5) (own := [("one", 5)]) (f := fun k => .one (.d (nD k))) (fun k => decide (k < x.2)) (fun k => nD k) (xs := x.1) (ei_lstM (by kts_caught)) trivial (by decide +kernel) (by decide +kernel) (fun X' C' => c_tg1 C' n5 (by decide +kernel)) (by omega) (fun k hk => ⟨_, rfl, fun X2 C2 => ⟨ets_one (et_is (et_c (ε1 := .d (nD k)) (ε2 := .d (nD x.2)) (by kts_caught) (by kts_caught) cmp_lt) (nlt _ _)), fun _ => by kts_caught⟩⟩))
theorem evs_sum : ∀ {h : List (List Deed)} {n : Nat}, ((h.zipIdx n).flatMap fun q => q.1.zipIdx.map fun x => (q.2, x.2, x.1)).length = (whole h).sum
  | [], _ => rfl
  | r :: h, n => by
    have ih := evs_sum (h := h) (n := n + 1)
    rw [List.zipIdx_cons, List.flatMap_cons, List.length_append, List.length_map, List.length_zipIdx, ih]
    unfold whole
    rw [List.map_cons, List.sum_cons]
def nsP (q : Nat × Nat) : List Int := [(q.1 : Int), (q.2 : Int)]
def keepL (st : LS) (low : List Nat) (m : Nat × Nat) : Prop := ∀ p i, getA st.ended m = some (p, i) → low[p]?.getD 0 ≤ i
abbrev lolP (rs : List (List (Nat × Nat))) : MO := .lol (rs.map fun r => r.map encPair)
def PreOpen (CN : Addr) (ds : List D) (kk : D → Prop) : Prop := ∃ M h pts, HistR M h ∧ PtsOk h pts ∧ ds = [encNet CN M, encHist h, encPts pts] ∧
  ∀ low (held : List (List (Nat × Nat))), IsGA M h pts (List.range M.ps.length) low → held.length = M.cs.length → (∀ c m, held[c]? = some m → OpenAt M h low c m) → kk (.tup (held.map encRow))
theorem getA_mem {κ β : Type} [DecidableEq κ] {l : List (κ × β)} {k : κ} {v : β} (h : getA l k = some v) : (k, v) ∈ l := by
  unfold getA at h
  cases e : l.find? (fun kv => decide (kv.1 = k)) with
  | none => rw [e] at h; cases h
  | some x =>
    rw [e] at h
    cases h
    have h1 := List.mem_of_find?_eq_some e
    have h2 := List.find?_some e
    have : x.1 = k := of_decide_eq_true h2
    rw [← this]
    exact h1
theorem getA_of {κ β : Type} [DecidableEq κ] {l : List (κ × β)} {k : κ} {v : β} (h : (k, v) ∈ l) : ∃ v', getA l k = some v' := by
  unfold getA
  cases e : l.find? (fun kv => decide (kv.1 = k)) with
  | none => rw [List.find?_eq_none] at e; exact absurd (e _ h) (by simp)
  | some x => exact ⟨x.2, rfl⟩
theorem evix_mono {X : Cx} {tg it : Expr} {env : List (Option E)} {mu : List MO} {G G' : List Item → Prop} {src : List MO → Prop} (h : ∀ items, G items → G' items) (hh : EvIX X tg it env mu G src) : EvIX X tg it env mu G' src :=
  fun F ps σ H R I k => hh F ps σ H R I fun items J H1 hG => k items J H1 (h items hG)
theorem w_open_messages {CE : Addr} (T : Tx P w K mg base CN CS) (TE : TxE P K mg CE) : Fn P w K mg base "open_messages" 12 (PreOpen CN) := by
  have g1 := w_floor_of T TE
  refine fn_p (N := ["net", "told", "checkpoints", "story", "cut", "rows", "_", "message", "end", "row"]) (ps := ["net", "told", "checkpoints"]) T.d_open_messages (fun _ _ _ _ _ _ us hl => match us, hl with | [_, _, _], _ => rfl) ⟨rfl, rfl, rfl, by decide +kernel, rfl, by decide +kernel, by decide +kernel⟩ (fun ds kk h => by obtain ⟨_, _, _, _, _, rfl, _⟩ := h; rfl) ?_
  intro X C hX ds kk h
  obtain ⟨N, hN⟩ : ∃ N, (["net", "told", "checkpoints", "story", "cut", "rows", "_", "message", "end", "row"] : List Str) = N := ⟨_, rfl⟩
  rw [hN] at C
  have n0 : N[0]? = some ("net" : Str) := by rw [← hN] <;> rfl
  have n1 : N[1]? = some ("told" : Str) := by rw [← hN] <;> rfl
  have n2 : N[2]? = some ("checkpoints" : Str) := by rw [← hN] <;> rfl
  have n3 : N[3]? = some ("story" : Str) := by rw [← hN] <;> rfl
  have n4 : N[4]? = some ("cut" : Str) := by rw [← hN] <;> rfl
  have n5 : N[5]? = some ("rows" : Str) := by rw [← hN] <;> rfl
  have n6 : N[6]? = some ("_" : Str) := by rw [← hN] <;> rfl
  have n7 : N[7]? = some ("message" : Str) := by rw [← hN] <;> rfl
  have n8 : N[8]? = some ("end" : Str) := by rw [← hN] <;> rfl
  have n9 : N[9]? = some ("row" : Str) := by rw [← hN] <;> rfl
  obtain ⟨M, h, pts, R, hp, rfl, hk⟩ := h
  have H := R.H
  have l3 := H.p3
  have lP := H.O.len
  have lc := H.G.c4
  have hlo := look_ok H.G (evs_deeds H.O)
  have hel : (evs h).length ≤ 60 := by have := R.sm; rw [show (evs h).length = (whole h).sum from evs_sum]; exact this
  obtain ⟨b1, b2, b3, b4⟩ := hlo.ln
  refine c_unpP C (nt_cons C n3 (by decide +kernel) (nt_cons C n4 (by decide +kernel) nt_nil)) (Q := fun d => ∃ run ys, IsGA M h pts (List.range M.ps.length) ys ∧ d = .tup [encSt CN CS M (stoOf M h run), .tup (ys.map nD)]) (c_callP C g1 (by decide) (by decide +kernel) (εs := [.d (encNet CN M), .d (encHist h), .d (encPts pts)]) (by k_caught0) rfl (fun k hq => ⟨M, h, pts, R, hp, rfl, fun run w ys S hys => hq _ ⟨run, ys, hys, rfl⟩⟩)) ?_
  rintro d ⟨run, low, hlow, rfl⟩
  refine ⟨_, rfl, rfl, ?_⟩
  have ht : ∀ c k v, ((c, k), v) ∈ (look M (evs h)).sent → k < (tk M h (whole h) c).length ∧ c < M.cs.length := fun c k v hm => by
    obtain ⟨v', hv'⟩ := getA_of hm
    have := hlo.sentNone H.G H.O hv'
    refine ⟨this, Classical.byContradiction fun hc => ?_⟩
    unfold tk at this
    rw [List.getElem?_eq_none (by omega)] at this
    simp at this
  refine c_setCL C hN (T := .one 6) (own := [("_", 6)]) (xs := M.cs) (fun _ => ([] : List D)) n5 (by decide +kernel) (ei_tupM (f := encChan) (by kts_caught)) trivial (by decide +kernel) (by decide +kernel) (fun X' C' => c_tg1 C' n6 (by decide +kernel)) (by omega) (fun x hx => ⟨_, rfl, fun X' C' => en_lst ea_nil rfl (by decide)⟩) ?_
  refine go_cons (go_forX (T := .one 7) (G := fun items => ∃ mss : List (List Int), mss.Perm ((look M (evs h)).sent.map fun x => nsP x.1) ∧ items = mss.map fun n => Item.one (.d (tI n)))
    (fun items i e u => ∃ rs o7 o8 o9, e = [some (.d (encNet CN M)), some (.d (encHist h)), some (.d (encPts pts)), some (.d (encSt CN CS M (stoOf M h run))), some (.d (.tup (low.map nD))), some (.at 0), none, o7, o8, o9] ∧ u = [lolP rs] ∧ rs.length = M.cs.length ∧ (∀ r ∈ rs, r.length ≤ i) ∧
      ∀ c k t, (∃ j, j < i ∧ items[j]? = some (.one (.d (tI (nsP (c, k)))))) → keepL (look M (evs h)) low (c, k) → getA (look M (evs h)).token (c, k) = some t → ∃ m, rs[c]? = some m ∧ (k, t) ∈ m) C.B ?_ (c_tg1 C n7 (by decide +kernel)) ?_ (fun _ _ _ _ _ => trivial) ?_ ?_)
  · -- what is walked
    refine evix_mono (fun items hG => ?_) (eix_lst (evp_sort (nss := (look M (evs h)).sent.map fun x => nsP x.1) (dd := 2) (B := 1000) (C.gl (by decide +kernel)) (C.free T.b_sorted) (by intro _ _; rfl) (evp_list_d (kds := kdP (look M (evs h)).sent) C.B.calm (C.gl (by decide +kernel)) (C.free T.b_list) (by intro _ _; rfl) (by kts_caught) rfl ?_) (by omega) ?_ ?_))
    · obtain ⟨ds, ⟨mss, h1, rfl⟩, rfl⟩ := hG
      exact ⟨mss, h1, by rw [List.map_map]; rfl⟩
    · unfold kdP
      rw [List.map_map, List.map_map]
      rfl
    · intro n hn
      obtain ⟨⟨⟨c, k⟩, v⟩, hm, rfl⟩ := List.mem_map.mp hn
      obtain ⟨q1, q2⟩ := ht c k v hm
      have := tk_len H (whole h) c
      refine ⟨rfl, fun m hm => ?_⟩
      simp only [nsP, List.mem_cons, List.not_mem_nil, or_false] at hm
      rcases hm with rfl | rfl
      · omega
      · omega
    · rw [List.length_map]; omega
  · rintro items ⟨mss, hperm, rfl⟩
    refine ⟨M.cs.map fun _ => [], none, none, none, rfl, by rw [lolP, List.map_map]; rfl, by rw [List.length_map], fun r hr => ?_, fun c k t hj => ?_⟩
    · obtain ⟨_, _, rfl⟩ := List.mem_map.mp hr
      exact Nat.le_refl _
    · obtain ⟨j, hj, _⟩ := hj
      omega
  · rintro items i item e u ⟨mss, hperm, rfl⟩ hi ⟨rs, o7, o8, o9, rfl, rfl, hlen, hbd, hinv⟩
    have hi0 := hi
    rw [List.getElem?_map] at hi
    cases hn : mss[i]? with
    | none => rw [hn] at hi; cases hi
    | some n =>
      rw [hn] at hi
      cases hi
      obtain ⟨⟨⟨c, k⟩, v⟩, hm, rfl⟩ := List.mem_map.mp (hperm.mem_iff.mp (List.mem_of_getElem? hn))
      obtain ⟨hk1, hc1⟩ := ht c k v hm
      have hil : i < 60 := by
        have := (List.getElem?_eq_some_iff.mp hn).1
        rw [hperm.length_eq, List.length_map] at this
        omega
      have htok : getA (look M (evs h)).token (c, k) = some ((tk M h (whole h) c)[k]'hk1) := by rw [hlo.tok H.G H.O hc1, List.getElem?_eq_getElem hk1]
      obtain ⟨t, ht'⟩ : ∃ t, (tk M h (whole h) c)[k]'hk1 = t := ⟨_, rfl⟩
      rw [ht'] at htok
      obtain ⟨m, hm2⟩ := get_of hlen hc1
      have hmb := hbd m (List.mem_of_getElem? hm2)
      refine ⟨_, rfl, ?_⟩
      refine c_set C n8 (by decide +kernel) (ε := .d (((getA (look M (evs h)).ended (c, k)).map encPair).getD .non)) (ev_is (ev_getD1 (kds := kdP (look M (evs h)).ended) (key := keyP (c, k)) C.B C.room (by kts_caught) rfl (by intro _ _; rfl) (by top_name)) (by rw [getP])) ?_
      obtain ⟨kb, hkb⟩ : ∃ kb : Bool, (kb = true ↔ keepL (look M (evs h)) low (c, k)) := by
        by_cases hh : keepL (look M (evs h)) low (c, k)
        · exact ⟨true, by simp [hh]⟩
        · exact ⟨false, by simp [hh]⟩
      refine go_cons (go_if (b := kb) ?_ (fun hb => ?_) (fun hb => ?_))
      · cases he : getA (look M (evs h)).ended (c, k) with
        | none =>
          have : kb = true := hkb.mpr fun p i0 hpi => by rw [he] at hpi; cases hpi
          subst this
          simp only [Option.map_none, Option.getD_none]
          exact et_W (ew_orT (by top_reprB))
        | some x =>
          obtain ⟨p, i0⟩ := x
          obtain ⟨r, d, hr, _⟩ := hlo.endAt he
          obtain ⟨y, hy⟩ := get_of hlow.len (List.getElem?_eq_some_iff.mp hr).1
          have : kb = decide (y ≤ i0) := by
            rw [Bool.eq_iff_iff, hkb, decide_eq_true_eq]
            constructor
            · intro hh
              have := hh p i0 he
              rw [hy] at this
              exact this
            · intro hh p' i' hpi
              rw [he] at hpi
              cases hpi
              rw [hy]
              exact hh
          subst this
          simp only [Option.map_some, Option.getD_some]
          exact et_W (ew_orF (by top_reprB) (ew_or1 (et_is (et_c (ε1 := .d (nD i0)) (ε2 := .d (nD y)) (by top_name) (ev_idx (ε2 := .d (nD p)) (by kts_caught) (by top_name) (idx_tup (f := nD) hy)) cmp_ge) (nle _ _))))
      · refine go_cons (go_appS (k := 0) (j := c) (d := encPair (k, t)) C.B (ev_idx (ε2 := .d (nD c)) (by kts_caught) (by top_name) (idx_lol rfl (by rw [List.length_map, hlen]; exact hc1))) rfl (by rw [List.getElem?_map, hm2]; rfl) (by intro _ _; rfl) (ev_is (ev_tup (ea_cons (ε := .d (nD k)) (by top_name) (ea_cons (ev_getD (kds := kdN (look M (evs h)).token) (key := keyP (c, k)) (d := nD t) C.room (by kts_caught) rfl (by top_name) (by rw [getN, htok]; rfl)) ea_nil)) rfl (Nat.le_of_ble_eq_true rfl)) rfl) (by rw [List.length_map]; omega) (go_nil (go_nil ?_)))
        refine ⟨rs.set c (m ++ [(k, t)]), _, _, _, rfl, ?_, by rw [List.length_set]; exact hlen, fun r hr => ?_, fun c' k' t' hj hkp htk => ?_⟩
        · unfold lolP
          rw [List.map_set, List.map_append]
          rfl
        · rcases List.mem_or_eq_of_mem_set hr with hr | rfl
          · have := hbd r hr; omega
          · rw [List.length_append, List.length_singleton]; omega
        · obtain ⟨j, hj, hje⟩ := hj
          by_cases e : j = i
          · subst e
            rw [hi0] at hje
            simp only [Option.some.injEq, Item.one.injEq, E.d.injEq, tI, D.tup.injEq, nsP, List.map_cons, List.map_nil, List.cons.injEq, D.int.injEq, and_true] at hje
            obtain ⟨e1, e2⟩ := hje
            have e1 : c = c' := by omega
            have e2 : k = k' := by omega
            subst e1 e2
            rw [htok] at htk
            cases htk
            exact ⟨_, List.getElem?_set_self (by rw [hlen]; exact hc1), List.mem_append_right _ (List.mem_singleton.mpr rfl)⟩
          · obtain ⟨m', h1, h2⟩ := hinv c' k' t' ⟨j, by omega, hje⟩ hkp htk
            by_cases ec : c = c'
            · subst ec
              rw [hm2] at h1; cases h1
              exact ⟨_, List.getElem?_set_self (by rw [hlen]; exact hc1), List.mem_append_left _ h2⟩
            · exact ⟨m', by rw [List.getElem?_set_ne ec]; exact h1, h2⟩
      · refine go_nil (go_nil ⟨rs, _, _, _, rfl, rfl, hlen, fun r hr => by have := hbd r hr; omega, fun c' k' t' hj hkp htk => ?_⟩)
        obtain ⟨j, hj, hje⟩ := hj
        by_cases e : j = i
        · subst e
          rw [hi0] at hje
          simp only [Option.some.injEq, Item.one.injEq, E.d.injEq, tI, D.tup.injEq, nsP, List.map_cons, List.map_nil, List.cons.injEq, D.int.injEq, and_true] at hje
          obtain ⟨e1, e2⟩ := hje
          have e1 : c = c' := by omega
          have e2 : k = k' := by omega
          subst e1 e2
          rw [hkb.mpr hkp] at hb
          cases hb
        · exact hinv c' k' t' ⟨j, by omega, hje⟩ hkp htk
  · rintro items e u ⟨mss, hperm, rfl⟩ ⟨rs, o7, o8, o9, rfl, rfl, hlen, hbd, hinv⟩
    refine c_retD (c_tupN C T (by decide +kernel) (en_cm C hN (T := .one 9) (own := [("row", 9)]) (xs := List.range (rs.map fun r => r.map encPair).length) (f := fun i => .one (.sub 0 i)) (fun i => encRow (rs[i]?.getD [])) (ei_lol (by kts_caught) rfl) ⟨_, rfl, rfl⟩ (by decide +kernel) (by decide +kernel) (fun X' C' => c_tg1 C' n9 (by decide +kernel)) (by rw [List.length_range, List.length_map]; omega) (fun x hx => ?_))) ?_
    · have hx := List.mem_range.mp hx
      rw [List.length_map] at hx
      obtain ⟨m, hm⟩ := get_of rfl hx
      refine ⟨_, rfl, fun X' C' => ev_is (c_tup C' T (by decide +kernel) (by kts_caught) (ds := m.map encPair) (t := false) ?_) (by rw [hm]; rfl)⟩
      show (match (some (lolP rs) : Option MO) with | some (.lol dss) => dss[x]?.map fun ds => (false, ds) | _ => none) = _
      simp only [List.getElem?_map, hm, Option.map_some]
    · have e1 : ((List.range (rs.map fun r => r.map encPair).length).map fun i => encRow (rs[i]?.getD [])) = rs.map encRow := by
        apply List.ext_getElem?
        intro i
        by_cases hi : i < rs.length
        · simp [hi]
        · simp [hi]
      rw [e1]
      refine hk low rs hlow hlen fun c m hm k t h1 h2 => ?_
      obtain ⟨hk1, _⟩ := List.getElem?_eq_some_iff.mp h1
      have hc1 : c < M.cs.length := by rw [← hlen]; exact (List.getElem?_eq_some_iff.mp hm).1
      obtain ⟨g, j, hg, hS, _⟩ := hlo.sentEx H.G H.O hk1
      have hmem : nsP (c, k) ∈ mss := hperm.mem_iff.mpr (List.mem_map.mpr ⟨_, getA_mem hg, rfl⟩)
      obtain ⟨q, hq⟩ := List.mem_iff_getElem?.mp hmem
      have hkp : keepL (look M (evs h)) low (c, k) := by
        intro p i0 hpi
        obtain ⟨r, d, hr, hd, hrm⟩ := hlo.endAt hpi
        refine Classical.byContradiction fun hlt => h2 ?_
        exact gn_mem H.G ((H.O.ok p r hr d (List.mem_of_getElem? hd)).2) hr hd hrm (by omega)
      obtain ⟨m', h3, h4⟩ := hinv c k t ⟨q, by rw [List.length_map]; exact (List.getElem?_eq_some_iff.mp hq).1, by rw [List.getElem?_map, hq]; rfl⟩ hkp (by rw [hlo.tok H.G H.O hc1]; exact h1)
      rw [hm] at h3; cases h3
      exact h4
def encRowI (row : List Int) : D := .lst (row.map D.int)
def rDraw (ds : List D) (e : D) : Prop := ∃ (row : List Int) (a lim : Nat), row ≠ [] ∧ 0 < lim ∧ ds = [encRowI row, nD a, nD lim] ∧ e = nD (draw row a lim)
theorem w_law_draw (T : Tx P w K mg base CN CS) : FnR P w K mg base "_law_draw" 1 rDraw := by
  refine fn_r (N := ["_law_row", "_law_at_here", "_law_limit", "_law_mixed"]) (ps := ["_law_row", "_law_at_here", "_law_limit"]) T.d_law_draw (fun _ _ _ _ _ _ us hl => match us, hl with | [_, _, _], _ => rfl) ⟨rfl, rfl, rfl, by decide +kernel, rfl, by decide +kernel, by decide +kernel⟩ (fun ds d h => by obtain ⟨_, _, _, _, _, rfl, _⟩ := h; rfl) ?_
  intro X C hX ds d kk h hk
  obtain ⟨N, hN⟩ : ∃ N, (["_law_row", "_law_at_here", "_law_limit", "_law_mixed"] : List Str) = N := ⟨_, rfl⟩
  rw [hN] at C
  have n0 : N[0]? = some ("_law_row" : Str) := by rw [← hN] <;> rfl
  have n1 : N[1]? = some ("_law_at_here" : Str) := by rw [← hN] <;> rfl
  have n2 : N[2]? = some ("_law_limit" : Str) := by rw [← hN] <;> rfl
  have n3 : N[3]? = some ("_law_mixed" : Str) := by rw [← hN] <;> rfl
  obtain ⟨row, a, lim, hr, hl, rfl, rfl⟩ := h
  have hl2 : (lim : Int) ≠ 0 := by omega
  have hlp : (0 : Int) < (lim : Int) := by omega
  have hr0 : 0 < row.length := List.length_pos_iff.mpr hr
  by_cases ha : a < row.length
  · obtain ⟨x, hx⟩ := get_of rfl ha
    refine c_ifT (et_is (et_c (ε1 := .d (nD a)) (ε2 := .d (nD row.length)) (by kts_caught) (ev_is (by kts_caught) (by simp)) cmp_lt) (by rw [nlt, decide_eq_true ha])) ?_
    refine c_retD (ev_is (ev_mod (i := x) (j := (lim : Int)) (c_int C T (by decide +kernel) (ev_idx (by kts_caught) (by kts_caught) (idx_lst (f := D.int) hx))) (by kts_caught) hlp) ?_) hk
    unfold draw
    rw [if_pos ha, hx, Option.getD_some]
    congr 2
    have := Int.emod_nonneg x hl2
    omega
  · obtain ⟨x, hx⟩ := get_of rfl (Nat.mod_lt a hr0)
    refine c_ifF0 (et_is (et_c (ε1 := .d (nD a)) (ε2 := .d (nD row.length)) (by kts_caught) (ev_is (by kts_caught) (by simp)) cmp_lt) (by rw [nlt, decide_eq_false ha])) ?_
    refine c_set C n3 (by decide +kernel) (ε := .d (.int ((x * 40692 + (a : Int) * 7919 + 3) % 2147483399))) (ev_mod (c_int C T (by decide +kernel) (ev_add (ev_add (ev_mul (ev_idx (ε2 := .d (nD (a % row.length))) (by kts_caught) (ev_is (ev_mod (i := (a : Int)) (j := (row.length : Int)) (c_int C T (by decide +kernel) (by kts_caught)) (ev_is (by kts_caught) (by simp)) (by omega)) (by rw [← Int.natCast_emod])) (idx_lst (f := D.int) hx)) ev_int (.inr (by omega))) (ev_mul (by kts_caught) ev_int (.inr (by omega)))) ev_int)) ev_int (by omega)) ?_
    refine c_retD (ev_is (ev_mod (i := (((x * 40692 + (a : Int) * 7919 + 3) % 2147483399) * 48271 + (a : Int)) % 2147483647) (j := (lim : Int)) (c_int C T (by decide +kernel) (ev_mod (c_int C T (by decide +kernel) (ev_add (ev_mul (by kts_caught) ev_int (.inr (by omega))) (by kts_caught))) ev_int (by omega))) (by kts_caught) hlp) ?_) hk
    unfold draw
    rw [if_neg ha, hx, Option.getD_some]
    congr 2
    have := Int.emod_nonneg ((((x * 40692 + (a : Int) * 7919 + 3) % 2147483399) * 48271 + (a : Int)) % 2147483647) hl2
    omega
def PreNum (εs : List E) (mu : List MO) (kk : D → List MO → Prop) : Prop := ∃ ns, εs = [.raw ns] ∧ mu = [] ∧ ∀ (row : List Int) mu', row ≠ [] → row.length ≤ 4000 → kk (encRowI row) mu'
theorem w_law_numbers (T : Tx P w K mg base CN CS) : FnM P w K mg base "_law_numbers" 1 PreNum := by
  refine fn_m (N := ["_law_script", "_law_row", "_law_cell", "_law_left", "_law_k", "_law_mixed"]) (ps := ["_law_script"]) T.d_law_numbers (fun _ _ _ _ _ _ us hl => match us, hl with | [_], _ => rfl) ⟨rfl, rfl, rfl, by decide +kernel, rfl, by decide +kernel, by decide +kernel⟩ (fun ds mu kk h => by obtain ⟨_, rfl, _⟩ := h; rfl) ?_
  intro X C hX ds mu kk h
  obtain ⟨N, hN⟩ : ∃ N, (["_law_script", "_law_row", "_law_cell", "_law_left", "_law_k", "_law_mixed"] : List Str) = N := ⟨_, rfl⟩
  rw [hN] at C
  have n0 : N[0]? = some ("_law_script" : Str) := by rw [← hN] <;> rfl
  have n1 : N[1]? = some ("_law_row" : Str) := by rw [← hN] <;> rfl
  have n2 : N[2]? = some ("_law_cell" : Str) := by rw [← hN] <;> rfl
  have n3 : N[3]? = some ("_law_left" : Str) := by rw [← hN] <;> rfl
  have n4 : N[4]? = some ("_law_k" : Str) := by rw [← hN] <;> rfl
  have n5 : N[5]? = some ("_law_mixed" : Str) := by rw [← hN] <;> rfl
  obtain ⟨ns, rfl, rfl, hk⟩ := h
  refine c_setN C n1 (by decide +kernel) (en_lst ea_nil rfl (by decide)) ?_
  refine c_for C (T := .one 2) (fun i e u => i ≤ 63 ∧ ∃ (row : List Int) (o2 o3 o4 o5 : Option E), e = [some (.raw ns), some (.at 0), o2, o3, o4, o5] ∧ u = [.lst (row.map D.int)] ∧ row.length ≤ 60 * i)
    (ei_lstM (xs := cutA ns none (some 63)) (f := D.int) ((en_slR (by kts_caught) eo_none (eo_some ev_int)).ev)) (c_tg1 C n2 (by decide +kernel)) ⟨Nat.zero_le _, [], none, none, none, none, rfl, rfl, Nat.zero_le _⟩ (fun _ _ _ _ => trivial) ?_ ?_
  · rintro i item e u hi ⟨hi63, row, o2, o3, o4, o5, rfl, rfl, hrl⟩
    rw [List.getElem?_map] at hi
    cases hx : (cutA ns none (some 63))[i]? with
    | none => rw [hx] at hi; cases hi
    | some x =>
      rw [hx] at hi
      cases hi
      have hi1 : i + 1 ≤ 63 := by
        have h1 := (List.getElem?_eq_some_iff.mp hx).1
        have h2 : (cutA ns none (some 63)).length ≤ 63 := by
          unfold cutA
          rw [List.length_take]
          have e1 : HT.sIx ns.length 0 none = 0 := rfl
          have e2 : HT.sIx ns.length ns.length (some 63) = min 63 ns.length := by
            unfold HT.sIx
            simp only
            split <;> omega
          rw [e1, e2]
          omega
        omega
      refine ⟨_, rfl, ?_⟩
      by_cases hb : (10 : Int) ^ 18 ≤ x
      · refine c_ifT (et_is (et_c (by kts_caught) (ev_pow (i := 10) (j := 18) ev_int ev_int ⟨by omega, by omega, by decide⟩) cmp_ge) (decide_eq_true hb)) ?_
        refine c_set C n3 (by decide +kernel) (by kts_caught) ?_
        refine c_for C (T := .one 4) (fun j e u => j ≤ 60 ∧ ∃ (row : List Int) (left : Int) (o4 : Option E), e = [some (.raw ns), some (.at 0), some (.d (.int x)), some (.d (.int left)), o4, o5] ∧ u = [.lst (row.map D.int)] ∧ row.length ≤ 60 * i + j)
          (c_range1 C T (by decide +kernel) (m := 60) ev_int (by omega)) (c_tg1 C n4 (by decide +kernel)) ⟨Nat.zero_le _, row, x, _, rfl, rfl, hrl⟩ (fun _ _ _ _ => trivial) ?_ ?_
        · rintro j item e u hj ⟨hj60, row, left, o4, rfl, rfl, hrl⟩
          rw [List.getElem?_map] at hj
          cases hjr : (List.range 60)[j]? with
          | none => rw [hjr] at hj; cases hj
          | some j' =>
            rw [hjr] at hj
            cases hj
            have hjl := (List.getElem?_eq_some_iff.mp hjr).1
            rw [List.length_range] at hjl
            refine ⟨_, rfl, ?_⟩
            by_cases h0 : left = 0
            · subst h0
              refine c_ifT (et_is (et_c (ε1 := .d (.int 0)) (ε2 := .d (.int 0)) (by kts_caught) (by kts_caught) cmp_eq) rfl) ?_
              exact go_cons (go_break (go_nil (go_nil ⟨hi1, row, _, _, _, _, rfl, rfl, by omega⟩)))
            · refine c_ifF0 (et_is (et_c (ε1 := .d (.int left)) (ε2 := .d (.int 0)) (by kts_caught) (by kts_caught) cmp_eq) (decide_eq_false h0)) ?_
              refine go_cons (go_app (d := .int (left % 997)) C.B (by kts_caught) rfl (by intro _ _; rfl) (ev_mod (c_int C T (by decide +kernel) (by kts_caught)) ev_int (by omega)) (by rw [List.length_map]; omega) ?_)
              refine c_set C n3 (by decide +kernel) (ε := .d (.int (left / 997))) (ev_fdiv (by kts_caught) ev_int ⟨by omega, by omega⟩) (go_nil ?_)
              refine ⟨hjl, row ++ [left % 997], left / 997, _, rfl, by rw [List.map_append]; rfl, by rw [List.length_append, List.length_singleton]; omega⟩
        · rintro e u ⟨hj60, row, left, o4, rfl, rfl, hrl⟩
          refine go_nil (go_nil ⟨hi1, row, _, _, _, _, rfl, rfl, ?_⟩)
          rw [List.length_map, List.length_range] at hrl
          omega
      · refine c_ifF (et_is (et_c (by kts_caught) (ev_pow (i := 10) (j := 18) ev_int ev_int ⟨by omega, by omega, by decide⟩) cmp_ge) (decide_eq_false hb)) ?_
        refine c_for C (T := .one 4) (fun j e u => j ≤ 4 ∧ ∃ (row : List Int) (o4 o5 : Option E), e = [some (.raw ns), some (.at 0), some (.d (.int x)), o3, o4, o5] ∧ u = [.lst (row.map D.int)] ∧ row.length ≤ 60 * i + j)
          (c_range1 C T (by decide +kernel) (m := 4) ev_int (by omega)) (c_tg1 C n4 (by decide +kernel)) ⟨Nat.zero_le _, row, _, _, rfl, rfl, hrl⟩ (fun _ _ _ _ => trivial) ?_ ?_
        · rintro j item e u hj ⟨hj60, row, o4, o5, rfl, rfl, hrl⟩
          rw [List.getElem?_map] at hj
          cases hjr : (List.range 4)[j]? with
          | none => rw [hjr] at hj; cases hj
          | some j' =>
            rw [hjr] at hj
            cases hj
            have hjl := (List.getElem?_eq_some_iff.mp hjr).1
            rw [List.length_range] at hjl
            refine ⟨_, rfl, ?_⟩
            refine c_set C n5 (by decide +kernel) (ε := .d (.int ((x * 48271 + (j' : Int) * 69621 + 11) % 2147483647))) (ev_mod (c_int C T (by decide +kernel) (ev_add (ev_add (ev_mul (by kts_caught) ev_int (.inr (by omega))) (ev_mul (by kts_caught) ev_int (.inr (by omega)))) ev_int)) ev_int (by omega)) ?_
            refine go_cons (go_app (d := .int ((((x * 48271 + (j' : Int) * 69621 + 11) % 2147483647) * 16807 + (j' : Int)) % 2147483629)) C.B (by kts_caught) rfl (by intro _ _; rfl) (ev_mod (c_int C T (by decide +kernel) (ev_add (ev_mul (by kts_caught) ev_int (.inr (by omega))) (by kts_caught))) ev_int (by omega)) (by rw [List.length_map]; omega) (go_nil ?_))
            exact ⟨hjl, row ++ [_], _, _, rfl, by rw [List.map_append]; rfl, by rw [List.length_append, List.length_singleton]; omega⟩
        · rintro e u ⟨hj60, row, o4, o5, rfl, rfl, hrl⟩
          refine go_nil (go_nil ⟨hi1, row, _, _, _, _, rfl, rfl, ?_⟩)
          rw [List.length_map, List.length_range] at hrl
          omega
  · rintro e u ⟨hi63, row, o2, o3, o4, o5, rfl, rfl, hrl⟩
    by_cases h0 : row = []
    · subst h0
      refine c_ifT (et_is (et_c (ε1 := .d (.int 0)) (ε2 := .d (.int 0)) (ev_is (by kts_caught) (by simp)) (by kts_caught) cmp_eq) rfl) ?_
      refine go_cons (go_app C.B (by kts_caught) rfl (by intro _ _; rfl) (by kts_caught) (by simp) (go_nil ?_))
      exact c_ret (ε := .at 0) (by kts_caught) rfl (hk [0] _ (by simp) (by simp))
    · refine c_ifF0 (et_is (et_c (ε1 := .d (nD row.length)) (ε2 := .d (.int 0)) (ev_is (by kts_caught) (by simp)) (by kts_caught) cmp_eq) (decide_eq_false (by have := List.length_pos_iff.mpr h0; omega))) ?_
      exact c_ret (ε := .at 0) (by kts_caught) rfl (hk row _ h0 (by omega))
theorem intD {x y : Int} (h : x = y) : E.d (D.int x) = E.d (D.int y) := by rw [h]
def kindsL : List Str := ["order", "loose", "order lossy", "loose lossy"]
def PreNetL (ds : List D) (kk : D → Prop) : Prop := ∃ row : List Int, row ≠ [] ∧ ds = [encRowI row, .int 0, .lst (kindsL.map D.str)] ∧ ∀ M, GoodN M → kk (encParts M)
structure RulesOk (sz : List Nat) (cs : List Chan) (rs : List Rule) : Prop where
  p : ∀ r ∈ rs, ∃ s, sz[r.p]? = some s ∧ r.s < s ∧ r.s' < s
  a : ∀ r ∈ rs, match r.a with
    | .nop => True
    | .send c t => t < 10 ∧ ∃ C, cs[c]? = some C ∧ C.g = r.p
    | .take c t => t < 10 ∧ ∃ C, cs[c]? = some C ∧ C.t = r.p
structure ChansOk (m : Nat) (cs : List Chan) : Prop where
  nm : cs.map (·.nm) = (["ca", "cb", "cc", "cd"] : List Str).take cs.length
  g : ∀ c ∈ cs, c.g < m ∧ c.t < m ∧ c.g ≠ c.t
theorem RulesOk.more {sz : List Nat} {cs : List Chan} {rs : List Rule} (h : RulesOk sz cs rs) {c : Chan} : RulesOk sz (cs ++ [c]) rs := by
  refine ⟨h.p, fun r hr => ?_⟩
  have := h.a r hr
  cases e : r.a with
  | nop => trivial
  | send c' t =>
    rw [e] at this
    obtain ⟨h1, C, h2, h3⟩ := this
    exact ⟨h1, C, by rw [List.getElem?_append_left (List.getElem?_eq_some_iff.mp h2).1]; exact h2, h3⟩
  | take c' t =>
    rw [e] at this
    obtain ⟨h1, C, h2, h3⟩ := this
    exact ⟨h1, C, by rw [List.getElem?_append_left (List.getElem?_eq_some_iff.mp h2).1]; exact h2, h3⟩
theorem RulesOk.snoc {sz : List Nat} {cs : List Chan} {rs : List Rule} (h : RulesOk sz cs rs) {r : Rule} (hp : ∃ s, sz[r.p]? = some s ∧ r.s < s ∧ r.s' < s) (ha : match r.a with
    | .nop => True
    | .send c t => t < 10 ∧ ∃ C, cs[c]? = some C ∧ C.g = r.p
    | .take c t => t < 10 ∧ ∃ C, cs[c]? = some C ∧ C.t = r.p) : RulesOk sz cs (rs ++ [r]) := by
  refine ⟨fun x hx => ?_, fun x hx => ?_⟩
  · rcases List.mem_append.mp hx with hx | hx
    · exact h.p x hx
    · rw [List.mem_singleton.mp hx]; exact hp
  · rcases List.mem_append.mp hx with hx | hx
    · exact h.a x hx
    · rw [List.mem_singleton.mp hx]; exact ha
theorem take_snoc {α : Type} {l : List α} {n : Nat} {x : α} (h : l[n]? = some x) : l.take n ++ [x] = l.take (n + 1) := by
  rw [List.take_add_one, h]; rfl
section
variable {P : Program} {w : World} {K : PySem.W.Frag} {mg : Str → Option Value} {base : Heap} {N : List Str} {so sc : Scope} {n : Nat} {X : Cx} {env : List (Option E)} {mu : List MO} {a b c : Expr} {pos p : Pos}
theorem c_draw (C : Ctx P w K mg base N so sc n X) (G : FnR P w K mg base "_law_draw" 1 rDraw) (hn : 1 ≤ n) {row : List Int} {i lim : Nat} (hr : row ≠ []) (hl : 0 < lim) (hg : glB sc "_law_draw" = true) (ha : Ev X a env mu (.d (encRowI row))) (hb : Ev X b env mu (.d (nD i))) (hc : Ev X c env mu (.d (nD lim)))
    (n1 : NoStar a := by intro _ _; rfl) (n2 : NoStar b := by intro _ _; rfl) (n3 : NoStar c := by intro _ _; rfl) (he : starEach (a :: [b, c]) X.env = (false, eval a X.env) :: starEach [b, c] X.env := by rfl) (hpl : (backTo pos (starEach [b, c] X.env)).any (·.1) = false := by rfl) :
    Ev X (.Call (.Name "_law_draw" p) [a, b, c] [] pos) env mu (.d (nD (draw row i lim))) :=
  c_call C G hn hg (ea_cons ha (ea_cons hb (ea_cons hc ea_nil n3) n2) n1) rfl ⟨row, i, lim, hr, hl, rfl, rfl⟩ he hpl
end
theorem kinds_at {k : Nat} (hk : k < 4) : ∃ lo ly, kindsL[k]? = some (kindS lo ly) := by
  match k, hk with
  | 0, _ => exact ⟨false, false, rfl⟩
  | 1, _ => exact ⟨true, false, rfl⟩
  | 2, _ => exact ⟨false, true, rfl⟩
  | 3, _ => exact ⟨true, true, rfl⟩
theorem w_law_net (T : Tx P w K mg base CN CS) : Fn P w K mg base "_law_net" 2 PreNetL := by
  have g1 := w_law_draw T
  refine fn_p (N := ["_law_row", "_law_at_here", "_law_kinds", "_law_many", "_law_sizes", "_law_p", "_law_channels", "_law_rules", "_law_c", "_law_giver", "_law_taker", "_law_j", "_law_spot", "_law_act"]) (ps := ["_law_row", "_law_at_here", "_law_kinds"]) T.d_law_net (fun _ _ _ _ _ _ us hl => match us, hl with | [_, _, _], _ => rfl) ⟨rfl, rfl, rfl, by decide +kernel, rfl, by decide +kernel, by decide +kernel⟩ (fun ds kk h => by obtain ⟨_, _, rfl, _⟩ := h; rfl) ?_
  intro X C hX ds kk h
  obtain ⟨N, hN⟩ : ∃ N, (["_law_row", "_law_at_here", "_law_kinds", "_law_many", "_law_sizes", "_law_p", "_law_channels", "_law_rules", "_law_c", "_law_giver", "_law_taker", "_law_j", "_law_spot", "_law_act"] : List Str) = N := ⟨_, rfl⟩
  rw [hN] at C
  have n0 : N[0]? = some ("_law_row" : Str) := by rw [← hN] <;> rfl
  have n1 : N[1]? = some ("_law_at_here" : Str) := by rw [← hN] <;> rfl
  have n2 : N[2]? = some ("_law_kinds" : Str) := by rw [← hN] <;> rfl
  have n3 : N[3]? = some ("_law_many" : Str) := by rw [← hN] <;> rfl
  have n4 : N[4]? = some ("_law_sizes" : Str) := by rw [← hN] <;> rfl
  have n5 : N[5]? = some ("_law_p" : Str) := by rw [← hN] <;> rfl
  have n6 : N[6]? = some ("_law_channels" : Str) := by rw [← hN] <;> rfl
  have n7 : N[7]? = some ("_law_rules" : Str) := by rw [← hN] <;> rfl
  have n8 : N[8]? = some ("_law_c" : Str) := by rw [← hN] <;> rfl
  have n9 : N[9]? = some ("_law_giver" : Str) := by rw [← hN] <;> rfl
  have n10 : N[10]? = some ("_law_taker" : Str) := by rw [← hN] <;> rfl
  have n11 : N[11]? = some ("_law_j" : Str) := by rw [← hN] <;> rfl
  have n12 : N[12]? = some ("_law_spot" : Str) := by rw [← hN] <;> rfl
  have n13 : N[13]? = some ("_law_act" : Str) := by rw [← hN] <;> rfl
  obtain ⟨row, hr, rfl, hk⟩ := h
  have hz : sizeLine = 16777216 := sizeLine_eq
  -- how many
  obtain ⟨m, hm⟩ : ∃ m, 2 + draw row 0 2 = m := ⟨_, rfl⟩
  have hm2 : m = 2 ∨ m = 3 := by have := draw_lt (row := row) (at_ := 0) (lim := 2) (by omega); omega
  refine c_set C n3 (by decide +kernel) (ε := .d (nD m)) (ev_is (ev_add ev_int (c_draw C g1 (by decide) (i := 0) (lim := 2) hr (by omega) (by decide +kernel) (by kts_caught) (by top_name) (by top_name))) (intD (by rw [← hm]; omega))) ?_
  refine c_setNc C n4 (by decide +kernel) (by decide +kernel) (en_cm C hN (T := .one 5) (own := [("_law_p", 5)]) (xs := List.range m) (f := fun n : Nat => .one (.d (.int (n : Int)))) (fun p => nD (2 + draw row (1 + p) 3)) (c_range1 C T (by decide +kernel) (by kts_caught) (by omega)) trivial (by decide +kernel) (by decide +kernel) (fun X' C' => c_tg1 C' n5 (by decide +kernel)) (by rw [List.length_range]; omega)
    (fun p hp => ⟨_, rfl, fun X' C' => ev_is (ev_add ev_int (c_draw C' g1 (by decide) (i := 1 + p) (lim := 3) hr (by omega) (by decide +kernel) (by kts_caught) (ev_is (ev_add (ev_add (by kts_caught) ev_int) (by kts_caught)) (intD (by omega))) (by top_name))) (intD (by omega))⟩)) ?_
  obtain ⟨sz, hsz⟩ : ∃ sz, ((List.range m).map fun p => 2 + draw row (1 + p) 3) = sz := ⟨_, rfl⟩
  have hszD : ((List.range m).map fun p => nD (2 + draw row (1 + p) 3)) = sz.map nD := by rw [← hsz, List.map_map]; rfl
  have hszl : sz.length = m := by rw [← hsz, List.length_map, List.length_range]
  have hszb : ∀ s ∈ sz, 2 ≤ s ∧ s ≤ 4 := by
    intro s hs
    rw [← hsz] at hs
    obtain ⟨p, _, rfl⟩ := List.mem_map.mp hs
    have := draw_lt (row := row) (at_ := 1 + p) (lim := 3) (by omega)
    omega
  rw [hszD]
  refine c_setN C n6 (by decide +kernel) (en_lst ea_nil rfl (by decide)) ?_
  refine c_setN C n7 (by decide +kernel) (en_lst ea_nil rfl (by decide)) ?_
  -- the channels
  obtain ⟨mc, hmc⟩ : ∃ mc, 1 + draw row 5 4 = mc := ⟨_, rfl⟩
  have hmc4 : 1 ≤ mc ∧ mc ≤ 4 := by have := draw_lt (row := row) (at_ := 5) (lim := 4) (by omega); omega
  refine c_for C (T := .one 8) (fun i e u => i ≤ mc ∧ ∃ (cs : List Chan) (rs : List Rule) (o5 o8 o9 o10 o11 o12 o13 : Option E), e = [some (.d (encRowI row)), some (.d (.int 0)), some (.d (.lst (kindsL.map D.str))), some (.d (nD m)), some (.at 0), o5, some (.at 1), some (.at 2), o8, o9, o10, o11, o12, o13] ∧
      u = [.lst (sz.map nD), .lst (cs.map encChan), .lst (rs.map encRule)] ∧ cs.length = i ∧ ChansOk m cs ∧ RulesOk sz cs rs ∧ rs.length ≤ 4 * i)
    (c_range1 C T (by decide +kernel) (m := mc) (ev_is (ev_add ev_int (c_draw C g1 (by decide) (i := 5) (lim := 4) hr (by omega) (by decide +kernel) (by kts_caught) (ev_is (ev_add (by kts_caught) ev_int) (intD (by omega))) (by top_name))) (intD (by rw [← hmc]; omega))) (by omega)) (c_tg1 C n8 (by decide +kernel))
    ⟨Nat.zero_le _, [], [], none, none, none, none, none, none, none, rfl, rfl, rfl, ⟨rfl, (fun _ h => nomatch h)⟩, ⟨(fun _ h => nomatch h), (fun _ h => nomatch h)⟩, Nat.zero_le _⟩ (fun _ _ _ _ => trivial) ?_ ?_
  · rintro i item e u hi ⟨him, cs, rs, o5, o8, o9, o10, o11, o12, o13, rfl, rfl, hcl, hco, hro, hrl⟩
    rw [List.getElem?_map] at hi
    cases hir : (List.range mc)[i]? with
    | none => rw [hir] at hi; cases hi
    | some i' =>
      rw [hir] at hi
      cases hi
      obtain ⟨hil, hie⟩ := List.getElem?_eq_some_iff.mp hir
      rw [List.getElem_range] at hie
      subst hie
      rw [List.length_range] at hil
      refine ⟨_, rfl, ?_⟩
      obtain ⟨gv, hgv⟩ : ∃ gv, draw row (6 + i) m = gv := ⟨_, rfl⟩
      have hgvm : gv < m := by rw [← hgv]; exact draw_lt (by omega)
      refine c_set C n9 (by decide +kernel) (ε := .d (nD gv)) (ev_is (c_draw C g1 (by decide) (i := 6 + i) (lim := m) hr (by omega) (by decide +kernel) (by kts_caught) (ev_is (ev_add (ev_add (by kts_caught) ev_int) (by kts_caught)) (intD (by omega))) (by kts_caught)) (by rw [hgv])) ?_
      obtain ⟨td, htd⟩ : ∃ td, draw row (7 + i) (m - 1) = td := ⟨_, rfl⟩
      have htdm : td < m - 1 := by rw [← htd]; exact draw_lt (by omega)
      obtain ⟨tk, htk⟩ : ∃ tk, (gv + 1 + td) % m = tk := ⟨_, rfl⟩
      have htkm : tk < m ∧ gv ≠ tk := by
        rcases hm2 with h2 | h2
        · subst h2; omega
        · subst h2; omega
      refine c_set C n10 (by decide +kernel) (ε := .d (nD tk)) (ev_is (ev_mod (i := ((gv + 1 + td : Nat) : Int)) (j := (m : Int)) (c_int C T (by decide +kernel) (ev_is (ev_add (ev_add (by kts_caught) ev_int) (c_draw C g1 (by decide) (i := 7 + i) (lim := m - 1) hr (by omega) (by decide +kernel) (by kts_caught) (ev_is (ev_add (ev_add (by kts_caught) ev_int) (by kts_caught)) (intD (by omega))) (ev_is (ev_subI (by kts_caught) ev_int) (intD (by omega))))) (intD (by rw [htd]; omega)))) (by kts_caught) (by omega)) (intD (by rw [← htk]; omega))) ?_
      obtain ⟨kd, hkd⟩ : ∃ kd, draw row (8 + i) 4 = kd := ⟨_, rfl⟩
      have hkdm : kd < 4 := by rw [← hkd]; exact draw_lt (by omega)
      obtain ⟨lo, ly, hkk⟩ := kinds_at hkdm
      obtain ⟨nm, hnm⟩ : ∃ nm, (["ca", "cb", "cc", "cd"] : List Str)[i]? = some nm := get_of rfl (show i < 4 by omega)
      have hnmE : ∀ {env : List (Option E)} {mu : List MO} {a b : Expr} {q r : Pos}, Ev X a env mu (.d (.str "c")) → Ev X b env mu (.d (.str "abcd")) → ∀ {z : Expr}, Ev X z env mu (.d (nD i)) → PlainIx z → Ev X (.BinOp a .Add (.Subscript b z q) r) env mu (.d (.str nm)) := by
        intro env mu a b q r ha hb z hz hp
        match i, show i < 4 by omega with
        | 0, _ => cases hnm; exact ev_is (ev_addS ha (ev_idx hb hz rfl hp) (by rw [sizeLine_eq]; decide)) (by rfl)
        | 1, _ => cases hnm; exact ev_is (ev_addS ha (ev_idx hb hz rfl hp) (by rw [sizeLine_eq]; decide)) (by rfl)
        | 2, _ => cases hnm; exact ev_is (ev_addS ha (ev_idx hb hz rfl hp) (by rw [sizeLine_eq]; decide)) (by rfl)
        | 3, _ => cases hnm; exact ev_is (ev_addS ha (ev_idx hb hz rfl hp) (by rw [sizeLine_eq]; decide)) (by rfl)
      obtain ⟨ch, hch⟩ : ∃ ch : Chan, (⟨nm, gv, tk, lo, ly⟩ : Chan) = ch := ⟨_, rfl⟩
      refine go_cons (go_app (d := encChan ch) C.B (by kts_caught) rfl (by intro _ _; rfl) (ev_is (ev_tup (ea_cons (hnmE ev_str ev_str (by kts_caught) (fun _ _ => rfl)) (ea_cons (by kts_caught) (ea_cons (by kts_caught) (ea_cons (ev_idx (by kts_caught) (c_draw C g1 (by decide) (i := 8 + i) (lim := 4) hr (by omega) (by decide +kernel) (by kts_caught) (ev_is (ev_add (ev_add (by kts_caught) ev_int) (by kts_caught)) (intD (by omega))) (by top_name)) (idx_lst (f := D.str) (by rw [hkd]; exact hkk))) ea_nil)))) rfl (Nat.le_of_ble_eq_true rfl)) (by rw [← hch]; rfl)) (by rw [List.length_map]; omega) ?_)
      have hcc : (cs ++ [ch])[i]? = some ch := by rw [← hcl]; exact List.getElem?_concat_length
      obtain ⟨sg, hsg⟩ := get_of hszl hgvm
      obtain ⟨st, hst⟩ := get_of hszl htkm.1
      have hsgb := hszb sg (List.mem_of_getElem? hsg)
      have hstb := hszb st (List.mem_of_getElem? hst)
      refine c_for C (T := .one 11) (fun j e u => j ≤ 2 ∧ ∃ (rs : List Rule) (o11 o12 o13 : Option E), e = [some (.d (encRowI row)), some (.d (.int 0)), some (.d (.lst (kindsL.map D.str))), some (.d (nD m)), some (.at 0), o5, some (.at 1), some (.at 2), some (.d (nD i)), some (.d (nD gv)), some (.d (nD tk)), o11, o12, o13] ∧
          u = [.lst (sz.map nD), .lst ((cs ++ [ch]).map encChan), .lst (rs.map encRule)] ∧ RulesOk sz (cs ++ [ch]) rs ∧ rs.length ≤ 4 * i + 2 * j)
        (c_range1 C T (by decide +kernel) (m := 2) ev_int (by omega)) (c_tg1 C n11 (by decide +kernel)) ⟨Nat.zero_le _, rs, _, _, _, rfl, by rw [List.map_append]; rfl, hro.more, hrl⟩ (fun _ _ _ _ => trivial) ?_ ?_
      · rintro j item e u hj ⟨hjm, rs, o11, o12, o13, rfl, rfl, hro, hrl⟩
        rw [List.getElem?_map] at hj
        cases hjr : (List.range 2)[j]? with
        | none => rw [hjr] at hj; cases hj
        | some j' =>
          rw [hjr] at hj
          cases hj
          obtain ⟨hjl, hje⟩ := List.getElem?_eq_some_iff.mp hjr
          rw [List.getElem_range] at hje
          subst hje
          rw [List.length_range] at hjl
          refine ⟨_, rfl, ?_⟩
          obtain ⟨sp, hsp⟩ : ∃ sp, 20 + 12 * i + 6 * j = sp := ⟨_, rfl⟩
          refine c_set C n12 (by decide +kernel) (ε := .d (nD sp)) (ev_is (ev_add (ev_add (ev_add (by kts_caught) ev_int) (ev_mul ev_int (by kts_caught) (.inl (by omega)))) (ev_mul ev_int (by kts_caught) (.inl (by omega)))) (intD (by rw [← hsp]; omega))) ?_
          refine c_set C n13 (by decide +kernel) (ε := .d (encAct (.send i (draw row sp 3)))) (ev_is (ev_tup (ea_cons ev_str (ea_cons (by kts_caught) (ea_cons (c_draw C g1 (by decide) (i := sp) (lim := 3) hr (by omega) (by decide +kernel) (by kts_caught) (by kts_caught) (by top_name)) ea_nil))) rfl (Nat.le_of_ble_eq_true rfl)) rfl) ?_
          refine go_cons (go_app (d := encRule ⟨gv, draw row (sp + 1) sg, .send i (draw row sp 3), draw row (sp + 2) sg⟩) C.B (by kts_caught) rfl (by intro _ _; rfl) (ev_is (ev_tup (ea_cons (by kts_caught) (ea_cons (c_draw C g1 (by decide) (i := sp + 1) (lim := sg) hr (by omega) (by decide +kernel) (by kts_caught) (ev_is (ev_add (by kts_caught) ev_int) (intD (by omega))) (ev_idx (by kts_caught) (by kts_caught) (idx_at (f := nD) rfl hsg))) (ea_cons (by kts_caught) (ea_cons (c_draw C g1 (by decide) (i := sp + 2) (lim := sg) hr (by omega) (by decide +kernel) (by kts_caught) (ev_is (ev_add (by kts_caught) ev_int) (intD (by omega))) (ev_idx (by kts_caught) (by kts_caught) (idx_at (f := nD) rfl hsg))) ea_nil)))) rfl (Nat.le_of_ble_eq_true rfl)) rfl) (by rw [List.length_map]; omega) ?_)
          refine c_set C n13 (by decide +kernel) (ε := .d (encAct (.take i (draw row (sp + 3) 3)))) (ev_is (ev_tup (ea_cons ev_str (ea_cons (by kts_caught) (ea_cons (c_draw C g1 (by decide) (i := sp + 3) (lim := 3) hr (by omega) (by decide +kernel) (by kts_caught) (ev_is (ev_add (by kts_caught) ev_int) (intD (by omega))) (by top_name)) ea_nil))) rfl (Nat.le_of_ble_eq_true rfl)) rfl) ?_
          refine go_cons (go_app (d := encRule ⟨tk, draw row (sp + 4) st, .take i (draw row (sp + 3) 3), draw row (sp + 5) st⟩) C.B (by kts_caught) rfl (by intro _ _; rfl) (ev_is (ev_tup (ea_cons (by kts_caught) (ea_cons (c_draw C g1 (by decide) (i := sp + 4) (lim := st) hr (by omega) (by decide +kernel) (by kts_caught) (ev_is (ev_add (by kts_caught) ev_int) (intD (by omega))) (ev_idx (by kts_caught) (by kts_caught) (idx_at (f := nD) rfl hst))) (ea_cons (by kts_caught) (ea_cons (c_draw C g1 (by decide) (i := sp + 5) (lim := st) hr (by omega) (by decide +kernel) (by kts_caught) (ev_is (ev_add (by kts_caught) ev_int) (intD (by omega))) (ev_idx (by kts_caught) (by kts_caught) (idx_at (f := nD) rfl hst))) ea_nil)))) rfl (Nat.le_of_ble_eq_true rfl)) rfl) (by rw [List.length_append, List.length_map, List.length_singleton]; omega) (go_nil ?_))
          have d3 : ∀ a, draw row a 3 < 10 := fun a => by have := draw_lt (row := row) (at_ := a) (lim := 3) (by omega); omega
          have hA : RulesOk sz (cs ++ [ch]) (rs ++ [⟨gv, draw row (sp + 1) sg, .send i (draw row sp 3), draw row (sp + 2) sg⟩]) := hro.snoc ⟨sg, hsg, draw_lt (by omega), draw_lt (by omega)⟩ ⟨d3 sp, ch, hcc, by rw [← hch]⟩
          have hB : RulesOk sz (cs ++ [ch]) (rs ++ [⟨gv, draw row (sp + 1) sg, .send i (draw row sp 3), draw row (sp + 2) sg⟩] ++ [⟨tk, draw row (sp + 4) st, .take i (draw row (sp + 3) 3), draw row (sp + 5) st⟩]) := hA.snoc ⟨st, hst, draw_lt (by omega), draw_lt (by omega)⟩ ⟨d3 (sp + 3), ch, hcc, by rw [← hch]⟩
          refine ⟨hjl, _, _, _, _, rfl, ?_, hB, by rw [List.length_append, List.length_append, List.length_singleton, List.length_singleton]; omega⟩
          rw [List.map_append (f := encRule), List.map_append (f := encRule)]
          rfl
      · rintro e u ⟨hjm, rs, o11, o12, o13, rfl, rfl, hro, hrl⟩
        rw [List.length_map, List.length_range] at hrl
        refine go_nil ⟨hil, cs ++ [ch], rs, _, _, _, _, _, _, _, rfl, rfl, by rw [List.length_append, hcl]; rfl, ⟨?_, fun c hc => ?_⟩, hro, by omega⟩
        · rw [List.map_append, hco.nm, List.length_append, hcl]
          show _ ++ [ch.nm] = _
          rw [← hch]
          exact take_snoc hnm
        · rcases List.mem_append.mp hc with hc | hc
          · exact hco.g c hc
          · rw [List.mem_singleton.mp hc, ← hch]
            exact ⟨hgvm, htkm⟩
  · rintro e u ⟨him, cs, rs, o5, o8, o9, o10, o11, o12, o13, rfl, rfl, hcl, hco, hro, hrl⟩
    rw [List.length_map, List.length_range] at hcl hrl
    refine c_for C (T := .one 5) (fun i e u => i ≤ m ∧ ∃ (rs : List Rule) (o5 : Option E), e = [some (.d (encRowI row)), some (.d (.int 0)), some (.d (.lst (kindsL.map D.str))), some (.d (nD m)), some (.at 0), o5, some (.at 1), some (.at 2), o8, o9, o10, o11, o12, o13] ∧
        u = [.lst (sz.map nD), .lst (cs.map encChan), .lst (rs.map encRule)] ∧ RulesOk sz cs rs ∧ rs.length ≤ 16 + i)
      (c_range1 C T (by decide +kernel) (m := m) (by kts_caught) (by omega)) (c_tg1 C n5 (by decide +kernel)) ⟨Nat.zero_le _, rs, _, rfl, rfl, hro, by omega⟩ (fun _ _ _ _ => trivial) ?_ ?_
    · rintro i item e u hi ⟨him, rs, o5, rfl, rfl, hro, hrl⟩
      rw [List.getElem?_map] at hi
      cases hir : (List.range m)[i]? with
      | none => rw [hir] at hi; cases hi
      | some i' =>
        rw [hir] at hi
        cases hi
        obtain ⟨hil, hie⟩ := List.getElem?_eq_some_iff.mp hir
        rw [List.getElem_range] at hie
        subst hie
        rw [List.length_range] at hil
        refine ⟨_, rfl, ?_⟩
        obtain ⟨sg, hsg⟩ := get_of hszl hil
        have hsgb := hszb sg (List.mem_of_getElem? hsg)
        refine go_cons (go_app (d := encRule ⟨i, draw row (14 + i) sg, .nop, draw row (15 + i) sg⟩) C.B (by kts_caught) rfl (by intro _ _; rfl) (ev_is (ev_tup (ea_cons (by kts_caught) (ea_cons (c_draw C g1 (by decide) (i := 14 + i) (lim := sg) hr (by omega) (by decide +kernel) (by kts_caught) (ev_is (ev_add (ev_add (by kts_caught) ev_int) (by kts_caught)) (intD (by omega))) (ev_idx (by kts_caught) (by kts_caught) (idx_at (f := nD) rfl hsg))) (ea_cons (by kts_caught) (ea_cons (c_draw C g1 (by decide) (i := 15 + i) (lim := sg) hr (by omega) (by decide +kernel) (by kts_caught) (ev_is (ev_add (ev_add (by kts_caught) ev_int) (by kts_caught)) (intD (by omega))) (ev_idx (by kts_caught) (by kts_caught) (idx_at (f := nD) rfl hsg))) ea_nil)))) rfl (Nat.le_of_ble_eq_true rfl)) rfl) (by rw [List.length_map]; omega) (go_nil ?_))
        have hA : RulesOk sz cs (rs ++ [⟨i, draw row (14 + i) sg, .nop, draw row (15 + i) sg⟩]) := hro.snoc ⟨sg, hsg, draw_lt (by omega), draw_lt (by omega)⟩ trivial
        exact ⟨hil, _, _, rfl, by rw [List.map_append]; rfl, hA, by rw [List.length_append, List.length_singleton]; omega⟩
    · rintro e u ⟨him, rs, o5, rfl, rfl, hro, hrl⟩
      rw [List.length_map, List.length_range] at hrl
      obtain ⟨ps, hps⟩ : ∃ ps : List (Str × Nat), ((List.range m).map fun p : Nat => ((((["p", "q", "r"] : List Str)[p]?.getD "" : Str), sz[p]?.getD 0) : Str × Nat)) = ps := ⟨_, rfl⟩
      have hpl : ps.length = m := by rw [← hps, List.length_map, List.length_range]
      have hpg : ∀ p, p < m → ps[p]? = some (((["p", "q", "r"] : List Str)[p]?.getD "" : Str), sz[p]?.getD 0) := fun p hp => by rw [← hps]; simp [hp]
      have hstr : ∀ {Y : Cx} {env : List (Option E)} {mu : List MO} {b : Expr} {q : Pos} {p : Nat}, p < 3 → Ev Y b env mu (.d (.str "pqr")) → ∀ {z : Expr}, Ev Y z env mu (.d (nD p)) → PlainIx z → Ev Y (.Subscript b z q) env mu (.d (.str ((["p", "q", "r"] : List Str)[p]?.getD ""))) := by
        intro Y env mu b q p hp hb z hz hpl
        match p, hp with
        | 0, _ => exact ev_idx hb hz rfl hpl
        | 1, _ => exact ev_idx hb hz rfl hpl
        | 2, _ => exact ev_idx hb hz rfl hpl
      refine go_freeze 1 rfl (go_freeze 2 rfl ?_)
      refine c_retD (d := encParts ⟨ps, cs, rs⟩) (ev_is (ev_tup (ea_cons (ε := .d (.lst (ps.map encProc))) (ev_is (EvN.ev (en_cm C hN (T := .one 5) (own := [("_law_p", 5)]) (xs := List.range m) (f := fun n : Nat => .one (.d (.int (n : Int)))) (fun p => encProc ((((["p", "q", "r"] : List Str)[p]?.getD "" : Str), sz[p]?.getD 0) : Str × Nat)) (c_range1 C T (by decide +kernel) (by kts_caught) (by omega)) trivial (by decide +kernel) (by decide +kernel) (fun X' C' => c_tg1 C' n5 (by decide +kernel)) (by rw [List.length_range]; omega)
        (fun p hp => ⟨_, rfl, fun X' C' => ?_⟩))) (by rw [← hps, List.map_map]; rfl)) (ea_cons (by kts_caught) (ea_cons (by kts_caught) ea_nil))) rfl (Nat.le_of_ble_eq_true rfl)) rfl) (hk ⟨ps, cs, rs⟩ ?_)
      · have hp := List.mem_range.mp hp
        obtain ⟨sg, hsg⟩ := get_of hszl hp
        exact ev_is (ev_tup (ea_cons (hstr (p := p) (by omega) ev_str (by kts_caught) (fun _ _ => rfl)) (ea_cons (ev_idx (by kts_caught) (by kts_caught) (idx_at (f := nD) rfl hsg)) ea_nil)) rfl (Nat.le_of_ble_eq_true rfl)) (by rw [hsg]; rfl)
      · refine ⟨by show 2 ≤ ps.length; omega, by show ps.length ≤ 3; omega, by show 1 ≤ cs.length; omega, by show cs.length ≤ 4; omega, by show rs.length ≤ 40; omega, ?_, hco.nm, fun q hq => ?_, fun c hc => by show _ < ps.length ∧ _ < ps.length ∧ _; rw [hpl]; exact hco.g c hc, fun r hr => ?_, hro.a⟩
        · show ps.map (·.1) = List.take ps.length _
          rw [hpl, ← hps, List.map_map]
          rcases hm2 with h2 | h2
          · rw [h2]; rfl
          · rw [h2]; rfl
        · obtain ⟨p, hp⟩ := List.mem_iff_getElem?.mp hq
          have hpm : p < m := by rw [← hpl]; exact (List.getElem?_eq_some_iff.mp hp).1
          rw [hpg p hpm] at hp
          obtain ⟨sg, hsg⟩ := get_of hszl hpm
          rw [hsg] at hp
          cases hp
          have := hszb sg (List.mem_of_getElem? hsg)
          simp only [Option.getD_some]
          omega
        · obtain ⟨s, h1, h2, h3⟩ := hro.p r hr
          refine ⟨_, hpg r.p (by rw [← hszl]; exact (List.getElem?_eq_some_iff.mp h1).1), ?_⟩
          rw [h1]
          exact ⟨h2, h3⟩
inductive rLStart : List D → D → Prop
  | mk {M : Nt} : GoodN M → rLStart [encParts M] (encWd (wd0 M))
theorem w_law_start (T : Tx P w K mg base CN CS) : FnR P w K mg base "_law_start" 1 rLStart := by
  refine fn_r (N := ["_law_parts", "_law_one"]) (ps := ["_law_parts"]) T.d_law_start (fun _ _ _ _ _ _ us hl => match us, hl with | [_], _ => rfl) ⟨rfl, rfl, rfl, by decide +kernel, rfl, by decide +kernel, by decide +kernel⟩ (fun ds d h => by cases h <;> rfl) ?_
  intro X C hX ds d kk h hk
  obtain ⟨N, hN⟩ : ∃ N, (["_law_parts", "_law_one"] : List Str) = N := ⟨_, rfl⟩
  rw [hN] at C
  have n0 : N[0]? = some ("_law_parts" : Str) := by rw [← hN] <;> rfl
  have n1 : N[1]? = some ("_law_one" : Str) := by rw [← hN] <;> rfl
  cases h with
  | @mk M G =>
    have := G.p3
    have := G.c4
    refine c_retD (ev_is (ev_tup (ea_cons (c_tupN C T (by decide +kernel) (en_cm C hN (T := .one 1) (own := [("_law_one", 1)]) (f := fun x => .one (.d (encProc x))) (fun _ => nD 0) (xs := M.ps) (ei_lstM (by top_name)) trivial (by decide +kernel) (by decide +kernel) (fun X' C' => c_tg1 C' n1 (by decide +kernel)) (by omega) (fun x hx => ⟨_, rfl, fun X' C' => by top_name⟩)))
      (ea_cons (c_tupN C T (by decide +kernel) (en_cm C hN (T := .one 1) (own := [("_law_one", 1)]) (f := fun x => .one (.d (encChan x))) (fun _ => nD 0) (xs := M.cs) (ei_lstM (by top_name)) trivial (by decide +kernel) (by decide +kernel) (fun X' C' => c_tg1 C' n1 (by decide +kernel)) (by omega) (fun x hx => ⟨_, rfl, fun X' C' => by top_name⟩)))
      (ea_cons (c_tupN C T (by decide +kernel) (en_cm C hN (T := .one 1) (own := [("_law_one", 1)]) (f := fun x => .one (.d (encChan x))) (fun _ => .tup []) (xs := M.cs) (ei_lstM (by top_name)) trivial (by decide +kernel) (by decide +kernel) (fun X' C' => c_tg1 C' n1 (by decide +kernel)) (by omega) (fun x hx => ⟨_, rfl, fun X' C' => by kts_caught⟩))) ea_nil))) rfl (Nat.le_of_ble_eq_true rfl)) ?_) hk
    unfold encWd wd0
    simp only [List.map_map]
    rfl
inductive rLLoose : List D → D → Prop
  | mk {M : Nt} {c : Nat} {C : Chan} : M.cs[c]? = some C → rLLoose [encParts M, nD c] (.bl C.loose)
theorem w_law_loose (T : Tx P w K mg base CN CS) : FnR P w K mg base "_law_loose" 1 rLLoose := by
  refine fn_r (N := ["_law_parts", "_law_c"]) (ps := ["_law_parts", "_law_c"]) T.d_law_loose (fun _ _ _ _ _ _ us hl => match us, hl with | [_, _], _ => rfl) ⟨rfl, rfl, rfl, by decide +kernel, rfl, by decide +kernel, by decide +kernel⟩ (fun ds d h => by cases h <;> rfl) ?_
  intro X C hX ds d kk h hk
  obtain ⟨N, hN⟩ : ∃ N, (["_law_parts", "_law_c"] : List Str) = N := ⟨_, rfl⟩
  rw [hN] at C
  have n0 : N[0]? = some ("_law_parts" : Str) := by rw [← hN] <;> rfl
  have n1 : N[1]? = some ("_law_c" : Str) := by rw [← hN] <;> rfl
  cases h with
  | @mk M c ch hc =>
    refine c_retD (ev_bls (ev_starts (y := kindS ch.loose ch.lossy) (z := "loose") (by intro _ _; rfl) (by top_name) ev_str) ?_) hk
    cases ch.loose <;> cases ch.lossy <;> decide +kernel
inductive rLOwner : List D → D → Prop
  | mk {M : Nt} {d : Deed} {p : Nat} : IsDeed M d → owner M d = some p → rLOwner [encParts M, encDeed d] (nD p)
theorem w_law_owner (T : Tx P w K mg base CN CS) : FnR P w K mg base "_law_owner" 1 rLOwner := by
  refine fn_r (N := ["_law_parts", "_law_deed"]) (ps := ["_law_parts", "_law_deed"]) T.d_law_owner (fun _ _ _ _ _ _ us hl => match us, hl with | [_, _], _ => rfl) ⟨rfl, rfl, rfl, by decide +kernel, rfl, by decide +kernel, by decide +kernel⟩ (fun ds d h => by cases h <;> rfl) ?_
  intro X C hX ds d kk h hk
  obtain ⟨N, hN⟩ : ∃ N, (["_law_parts", "_law_deed"] : List Str) = N := ⟨_, rfl⟩
  rw [hN] at C
  have n0 : N[0]? = some ("_law_parts" : Str) := by rw [← hN] <;> rfl
  have n1 : N[1]? = some ("_law_deed" : Str) := by rw [← hN] <;> rfl
  cases h with
  | @mk M d p hd hp =>
    cases d with
    | act r =>
      obtain ⟨R, hR, rfl⟩ := owner_act hp
      refine c_ifF0 (by top_reprB) ?_
      exact c_retD (by kts_caught) hk
    | take r k =>
      obtain ⟨R, hR, rfl⟩ := owner_act (r := r) hp
      refine c_ifF0 (by top_reprB) ?_
      exact c_retD (by kts_caught) hk
    | lose c k =>
      obtain ⟨R, hR, rfl⟩ := owner_lose hp
      refine c_ifT (by top_reprB) ?_
      exact c_retD (by kts_caught) hk
theorem w_law_set (T : Tx P w K mg base CN CS) : FnR P w K mg base "_law_set" 1 rWith := by
  refine fn_r (N := ["_law_values", "_law_at_here", "_law_value"]) (ps := ["_law_values", "_law_at_here", "_law_value"]) T.d_law_set (fun _ _ _ _ _ _ us hl => match us, hl with | [_, _, _], _ => rfl) ⟨rfl, rfl, rfl, by decide +kernel, rfl, by decide +kernel, by decide +kernel⟩ (fun ds d h => by cases h <;> rfl) ?_
  intro X C hX ds d kk h hk
  obtain ⟨N, hN⟩ : ∃ N, (["_law_values", "_law_at_here", "_law_value"] : List Str) = N := ⟨_, rfl⟩
  rw [hN] at C
  have n0 : N[0]? = some ("_law_values" : Str) := by rw [← hN] <;> rfl
  have n1 : N[1]? = some ("_law_at_here" : Str) := by rw [← hN] <;> rfl
  have n2 : N[2]? = some ("_law_value" : Str) := by rw [← hN] <;> rfl
  cases h with
  | @mk ds i d h1 h2 =>
    have hz : sizeLine = 16777216 := sizeLine_eq
    refine c_retD (ev_is (ev_catT (ε1 := .d (.tup (ds.take i ++ [d]))) (ε2 := .d (.tup (ds.drop (i + 1)))) (ev_catT (ε1 := .d (.tup (ds.take i))) (ε2 := .d (.tup [d])) (ev_is (ev_slT (by kts_caught) eo_none (eo_some (by kts_caught))) (by rw [cut_to (Nat.le_of_lt h1)])) (by kts_caught) (by rw [List.length_take, List.length_singleton]; omega)) (ev_is (ev_slT (by kts_caught) (eo_some (by kts_caught)) eo_none) (by rw [show ((i : Int) + 1) = ((i + 1 : Nat) : Int) from rfl, cut_from (by omega)])) (by rw [List.length_append, List.length_take, List.length_drop, List.length_singleton]; omega)) (by rw [set_cut h1])) hk
inductive rLBeh : List D → D → Prop
  | mk {M : Nt} {W : Wd} {d : Deed} : GoodN M → WdOk M W → IsDeed M d → rLBeh [encParts M, encWd W, encDeed d] (encWd (doD M W d))
theorem w_law_done (T : Tx P w K mg base CN CS) : FnR P w K mg base "_law_done" 2 rLBeh := by
  have g1 := w_law_set T
  refine fn_r (N := ["_law_parts", "_law_world", "_law_deed", "_law_states", "_law_sent", "_law_present", "_law_c", "_law_pair", "_law_p", "_law_state", "_law_act", "_law_then"]) (ps := ["_law_parts", "_law_world", "_law_deed"]) T.d_law_done (fun _ _ _ _ _ _ us hl => match us, hl with | [_, _, _], _ => rfl) ⟨rfl, rfl, rfl, by decide +kernel, rfl, by decide +kernel, by decide +kernel⟩ (fun ds d h => by cases h <;> rfl) ?_
  intro X C hX ds d kk h hk
  obtain ⟨N, hN⟩ : ∃ N, (["_law_parts", "_law_world", "_law_deed", "_law_states", "_law_sent", "_law_present", "_law_c", "_law_pair", "_law_p", "_law_state", "_law_act", "_law_then"] : List Str) = N := ⟨_, rfl⟩
  rw [hN] at C
  have n0 : N[0]? = some ("_law_parts" : Str) := by rw [← hN] <;> rfl
  have n1 : N[1]? = some ("_law_world" : Str) := by rw [← hN] <;> rfl
  have n2 : N[2]? = some ("_law_deed" : Str) := by rw [← hN] <;> rfl
  have n3 : N[3]? = some ("_law_states" : Str) := by rw [← hN] <;> rfl
  have n4 : N[4]? = some ("_law_sent" : Str) := by rw [← hN] <;> rfl
  have n5 : N[5]? = some ("_law_present" : Str) := by rw [← hN] <;> rfl
  have n6 : N[6]? = some ("_law_c" : Str) := by rw [← hN] <;> rfl
  have n7 : N[7]? = some ("_law_pair" : Str) := by rw [← hN] <;> rfl
  have n8 : N[8]? = some ("_law_p" : Str) := by rw [← hN] <;> rfl
  have n9 : N[9]? = some ("_law_state" : Str) := by rw [← hN] <;> rfl
  have n10 : N[10]? = some ("_law_act" : Str) := by rw [← hN] <;> rfl
  have n11 : N[11]? = some ("_law_then" : Str) := by rw [← hN] <;> rfl
  cases h with
  | @mk M W d G S hd =>
    have hz : sizeLine = 16777216 := sizeLine_eq
    have lp := S.sh.pres
    have lc := G.c4
    refine c_unp C (nt_cons C n3 (by decide +kernel) (nt_cons C n4 (by decide +kernel) (nt_cons C n5 (by decide +kernel) nt_nil))) (ds := [.tup (W.st.map nD), .tup (W.sent.map nD), .tup (W.pres.map encRow)]) (by top_name) rfl ?_
    have hdrop : ∀ {c k : Nat} {m : List (Nat × Nat)}, W.pres[c]? = some m → rWith [.tup (W.pres.map encRow), nD c, encRow (m.filter fun q => decide (q.1 ≠ k))] (.tup ((W.pres.modify c fun r => r.filter fun q => decide (q.1 ≠ k)).map encRow)) := by
      intro c k m hm
      have hl := (List.getElem?_eq_some_iff.mp hm).1
      rw [map_modify hm]
      exact .mk (by rw [List.length_map]; exact hl) (by rw [List.length_map]; omega)
    have hq : ∀ {k : Nat} (q : Nat × Nat), (!decide ((q.1 : Int) = (k : Int))) = decide (q.1 ≠ k) := by
      intro k q
      by_cases e : q.1 = k
      · simp [e]
      · have : ¬ (q.1 : Int) = (k : Int) := by omega
        simp [e, this]
    cases d with
    | lose c k =>
      obtain ⟨Ch, hC, hls⟩ := hd
      obtain ⟨m, hm⟩ := get_of S.sh.pres (List.getElem?_eq_some_iff.mp hC).1
      have hml := S.ms m (List.mem_of_getElem? hm)
      have a1 := hdrop (k := k) hm
      refine c_ifT (by top_reprB) ?_
      refine c_set C n6 (by decide +kernel) (by kts_caught) ?_
      refine c_retD (ev_is (ev_tup (ea_cons (by kts_caught) (ea_cons (by kts_caught) (ea_cons (c_call C g1 (by decide) (by decide +kernel) (εs := [.d (.tup (W.pres.map encRow)), .d (nD c), .d (encRow (m.filter fun q => decide (q.1 ≠ k)))]) (ea_cons (by kts_caught) (ea_cons (by kts_caught) (ea_cons (c_tupN C T (by decide +kernel) (en_c C hN (T := .one 7) (own := [("_law_pair", 7)]) (f := fun q => .one (.d (encPair q))) (fun q => decide (q.1 ≠ k)) (fun q => encPair q) (xs := m) (ei_tupM (ev_is (ev_idx (by kts_caught) (by kts_caught) (idx_tup (f := encRow) hm)) rfl)) trivial (by decide +kernel) (by decide +kernel) (fun X' C' => c_tg1 C' n7 (by decide +kernel)) (by omega) (fun q hq' => ⟨_, rfl, fun X' C' => ⟨ets_one (et_is (et_c (ε1 := .d (nD q.1)) (ε2 := .d (nD k)) (by top_name) (by top_name) cmp_ne) (hq q)), fun _ => by kts_caught⟩⟩))) ea_nil))) rfl a1) ea_nil))) rfl (Nat.le_of_ble_eq_true rfl)) rfl) hk
    | act r =>
      obtain ⟨⟨p, s, a, s'⟩, hR, ha⟩ := hd
      obtain ⟨q, hqq, _⟩ := G.rp _ (List.mem_of_getElem? hR)
      have hpl := (List.getElem?_eq_some_iff.mp hqq).1
      have l3 := G.p3
      have ls := S.sh.st
      have a1 : rWith [.tup (W.st.map nD), nD p, nD s'] (.tup ((W.st.map nD).set p (nD s'))) := .mk (by rw [List.length_map]; simp only at hpl; omega) (by rw [List.length_map]; omega)
      refine c_ifF0 (by top_reprB) ?_
      refine c_unp C (nt_cons C n8 (by decide +kernel) (nt_cons C n9 (by decide +kernel) (nt_cons C n10 (by decide +kernel) (nt_cons C n11 (by decide +kernel) nt_nil)))) (ds := [nD p, nD s, encAct a, nD s']) (by top_name) rfl ?_
      refine c_set C n3 (by decide +kernel) (by kts_caught) ?_
      cases a with
      | nop =>
        refine c_ifF0 (by top_reprB) ?_
        refine c_ifF0 (by top_reprB) ?_
        refine c_retD (ev_is (by kts_caught) ?_) hk
        rw [show doD M W (.act r) = { W with st := W.st.set p s' } by simp only [doD, hR] <;> rfl, encWd_st]
      | send c t =>
        obtain ⟨_, Ch, hC, _⟩ := G.ra _ (List.mem_of_getElem? hR)
        have hcl := (List.getElem?_eq_some_iff.mp hC).1
        obtain ⟨m, hm⟩ := get_of S.sh.pres hcl
        obtain ⟨k0, hk0⟩ := get_of S.sh.sent hcl
        have lse := S.sh.sent
        have lm := S.ms m (List.mem_of_getElem? hm)
        have a2 : rWith [.tup (W.pres.map encRow), nD c, encRow (m ++ [(k0, t)])] (.tup ((W.pres.map encRow).set c (encRow (m ++ [(k0, t)])))) := .mk (by rw [List.length_map]; omega) (by rw [List.length_map]; omega)
        have a3 : rWith [.tup (W.sent.map nD), nD c, nD (k0 + 1)] (.tup ((W.sent.map nD).set c (nD (k0 + 1)))) := .mk (by rw [List.length_map]; omega) (by rw [List.length_map]; omega)
        refine c_ifT (by top_reprB) ?_
        refine c_set C n6 (by decide +kernel) (by kts_caught) ?_
        refine c_retD (ev_is (ev_tup (ea_cons (by kts_caught) (ea_cons
          (c_call C g1 (by decide) (by decide +kernel) (εs := [.d (.tup (W.sent.map nD)), .d (nD c), .d (nD (k0 + 1))]) (ea_cons (by kts_caught) (ea_cons (by kts_caught) (ea_cons (ev_is (ev_add (ev_idx (by kts_caught) (by kts_caught) (idx_tup (f := nD) hk0)) ev_int) rfl) ea_nil))) rfl a3)
          (ea_cons (c_call C g1 (by decide) (by decide +kernel) (εs := [.d (.tup (W.pres.map encRow)), .d (nD c), .d (encRow (m ++ [(k0, t)]))]) (ea_cons (by kts_caught) (ea_cons (by kts_caught) (ea_cons (ev_is (ev_catT (ε1 := .d .non) (ε2 := .d .non) (xs := m.map encPair) (ys := [encPair (k0, t)]) (ev_is (ev_idx (by kts_caught) (by kts_caught) (idx_tup (f := encRow) hm)) rfl) (ev_is (ev_tup (ea_cons (ev_tup (ea_cons (ev_idx (by kts_caught) (by kts_caught) (idx_tup (f := nD) hk0)) (ea_cons (by kts_caught) ea_nil)) rfl (Nat.le_of_ble_eq_true rfl)) ea_nil) rfl (Nat.le_of_ble_eq_true rfl)) rfl) (by rw [List.length_map, List.length_singleton]; omega)) (by unfold encRow; rw [List.map_append]; rfl)) ea_nil))) rfl a2) ea_nil))) rfl (Nat.le_of_ble_eq_true rfl)) ?_) hk
        rw [show doD M W (.act r) = doSend { W with st := W.st.set p s' } c t by simp only [doD, hR] <;> rfl]
        unfold doSend encWd
        simp only
        rw [map_modify hk0, map_modify hm, hk0, List.map_set]
        rfl
      | take c t => exact absurd rfl (ha c t)
    | take r k =>
      obtain ⟨⟨p, s, a, s'⟩, c, t, hR, rfl⟩ := hd
      obtain ⟨q, hqq, _⟩ := G.rp _ (List.mem_of_getElem? hR)
      obtain ⟨_, Ch, hC, _⟩ := G.ra _ (List.mem_of_getElem? hR)
      obtain ⟨m, hm⟩ := get_of S.sh.pres (List.getElem?_eq_some_iff.mp hC).1
      have hml := S.ms m (List.mem_of_getElem? hm)
      have hpl := (List.getElem?_eq_some_iff.mp hqq).1
      have l3 := G.p3
      have ls := S.sh.st
      have a1 : rWith [.tup (W.st.map nD), nD p, nD s'] (.tup ((W.st.map nD).set p (nD s'))) := .mk (by rw [List.length_map]; simp only at hpl; omega) (by rw [List.length_map]; omega)
      have a2 := hdrop (k := k) hm
      refine c_ifF0 (by top_reprB) ?_
      refine c_unp C (nt_cons C n8 (by decide +kernel) (nt_cons C n9 (by decide +kernel) (nt_cons C n10 (by decide +kernel) (nt_cons C n11 (by decide +kernel) nt_nil)))) (ds := [nD p, nD s, encAct (.take c t), nD s']) (by top_name) rfl ?_
      refine c_set C n3 (by decide +kernel) (by kts_caught) ?_
      refine c_ifF0 (by top_reprB) ?_
      refine c_ifT (by top_reprB) ?_
      refine c_set C n6 (by decide +kernel) (by kts_caught) ?_
      refine c_retD (ev_is (ev_tup (ea_cons (by kts_caught) (ea_cons (by kts_caught) (ea_cons (c_call C g1 (by decide) (by decide +kernel) (εs := [.d (.tup (W.pres.map encRow)), .d (nD c), .d (encRow (m.filter fun q => decide (q.1 ≠ k)))]) (ea_cons (by kts_caught) (ea_cons (by kts_caught) (ea_cons (c_tupN C T (by decide +kernel) (en_c C hN (T := .one 7) (own := [("_law_pair", 7)]) (f := fun q => .one (.d (encPair q))) (fun q => decide (q.1 ≠ k)) (fun q => encPair q) (xs := m) (ei_tupM (ev_is (ev_idx (by kts_caught) (by kts_caught) (idx_tup (f := encRow) hm)) rfl)) trivial (by decide +kernel) (by decide +kernel) (fun X' C' => c_tg1 C' n7 (by decide +kernel)) (by omega) (fun q hq' => ⟨_, rfl, fun X' C' => ⟨ets_one (et_is (et_c (ε1 := .d (nD q.1)) (ε2 := .d (nD k)) (by top_name) (by top_name) cmp_ne) (hq q)), fun _ => by kts_caught⟩⟩))) ea_nil))) rfl a2) ea_nil))) rfl (Nat.le_of_ble_eq_true rfl)) ?_) hk
      rw [show doD M W (.take r k) = dropM { W with st := W.st.set p s' } c k by simp only [doD, hR] <;> rfl]
      unfold dropM encWd
      simp only
      rw [List.map_set]
theorem hist_snoc {M : Nt} {a : List Deed} {d : Deed} {p : Nat} {r : List Deed} (hp : owner M d = some p) (hr : (hist M a)[p]? = some r) : hist M (a ++ [d]) = (hist M a).set p (r ++ [d]) := by
  have hl : p < M.ps.length := by have := (List.getElem?_eq_some_iff.mp hr).1; unfold hist at this; simpa using this
  rw [hist_get hl] at hr
  cases hr
  apply List.ext_getElem?
  intro i
  by_cases hi : i < M.ps.length
  · rw [hist_get hi]
    by_cases e : p = i
    · subst e
      rw [List.getElem?_set_self (by unfold hist; simp [hi]), List.filter_append]
      simp [hp]
    · rw [List.getElem?_set_ne e, hist_get hi, List.filter_append]
      have : ¬ owner M d = some i := by rw [hp]; exact fun h => e (Option.some.inj h)
      simp [this]
  · rw [List.getElem?_eq_none (by unfold hist; simp; omega), List.getElem?_eq_none (by unfold hist; simp; omega)]
theorem hist_nil_D {M : Nt} : (hist M []).map encR = M.ps.map fun _ => D.tup [] := by
  unfold hist
  apply List.ext_getElem?
  intro i
  by_cases hi : i < M.ps.length
  · simp [hi]
  · simp [hi]
theorem hist_len {M : Nt} {a : List Deed} : ∀ r ∈ hist M a, r.length ≤ a.length := by
  intro r hr
  unfold hist at hr
  obtain ⟨p, _, rfl⟩ := List.mem_map.mp hr
  exact List.length_filter_le _ _
inductive rLHist : List D → D → Prop
  | mk {M : Nt} {ds : List Deed} : GoodN M → (∀ d ∈ ds, IsDeed M d) → ds.length ≤ 60 → rLHist [encParts M, .lst (ds.map encDeed)] (encHist (hist M ds))
theorem w_law_history (T : Tx P w K mg base CN CS) : FnR P w K mg base "_law_history" 2 rLHist := by
  have g1 := w_law_owner T
  refine fn_r (N := ["_law_parts", "_law_deeds", "_law_made", "_law_one", "_law_deed", "_law_p"]) (ps := ["_law_parts", "_law_deeds"]) T.d_law_history (fun _ _ _ _ _ _ us hl => match us, hl with | [_, _], _ => rfl) ⟨rfl, rfl, rfl, by decide +kernel, rfl, by decide +kernel, by decide +kernel⟩ (fun ds d h => by cases h <;> rfl) ?_
  intro X C hX ds d kk h hk
  obtain ⟨N, hN⟩ : ∃ N, (["_law_parts", "_law_deeds", "_law_made", "_law_one", "_law_deed", "_law_p"] : List Str) = N := ⟨_, rfl⟩
  rw [hN] at C
  have n0 : N[0]? = some ("_law_parts" : Str) := by rw [← hN] <;> rfl
  have n1 : N[1]? = some ("_law_deeds" : Str) := by rw [← hN] <;> rfl
  have n2 : N[2]? = some ("_law_made" : Str) := by rw [← hN] <;> rfl
  have n3 : N[3]? = some ("_law_one" : Str) := by rw [← hN] <;> rfl
  have n4 : N[4]? = some ("_law_deed" : Str) := by rw [← hN] <;> rfl
  have n5 : N[5]? = some ("_law_p" : Str) := by rw [← hN] <;> rfl
  cases h with
  | @mk M ds G hd hl =>
    have hz : sizeLine = 16777216 := sizeLine_eq
    have l3 := G.p3
    refine c_setCm C hN (T := .one 3) (own := [("_law_one", 3)]) (xs := M.ps) (f := fun x => .one (.d (encProc x))) (fun _ => D.tup []) n2 (by decide +kernel) (ei_lstM (by top_name)) trivial (by decide +kernel) (by decide +kernel) (fun X' C' => c_tg1 C' n3 (by decide +kernel)) (by omega) (fun x hx => ⟨_, rfl, fun X' C' => by kts_caught⟩) ?_
    rw [← hist_nil_D]
    refine c_for C (T := .one 4) (fun i e u => (∃ o4 o5, e = [some (.d (encParts M)), some (.d (.lst (ds.map encDeed))), some (.at 0), none, o4, o5]) ∧ u = [.lst ((hist M (ds.take i)).map encR)])
      (ei_lstM (xs := ds) (f := encDeed) (by kts_caught)) (c_tg1 C n4 (by decide +kernel)) ⟨⟨_, _, rfl⟩, rfl⟩ (fun _ _ _ _ => trivial) ?_ ?_
    · rintro i item e u hi ⟨⟨o4, o5, rfl⟩, rfl⟩
      rw [List.getElem?_map] at hi
      cases hx : ds[i]? with
      | none => rw [hx] at hi; cases hi
      | some d =>
        rw [hx] at hi
        cases hi
        refine ⟨_, rfl, ?_⟩
        have hdd := hd d (List.mem_of_getElem? hx)
        obtain ⟨p, hpo, hp⟩ := owner_some G hdd
        have a1 : rLOwner [encParts M, encDeed d] (nD p) := .mk hdd hpo
        have hr := hist_get (ds := ds.take i) hp
        generalize hrr : ((ds.take i).filter fun d => decide (owner M d = some p)) = r at hr
        have hrl := hist_len r (List.mem_of_getElem? hr)
        rw [List.length_take] at hrl
        have hhl : (hist M (ds.take i)).length = M.ps.length := by unfold hist; simp
        refine c_set C n5 (by decide +kernel) (by kts_caught) ?_
        have htup : ∀ {X' : Cx} {env : List (Option E)} {mu : List MO} {b : Expr} {q r : Pos}, Ctx P w K mg base N (defScope s_law_history) (defScope s_law_history) 1 X' → Ev X' b env mu (.d (encDeed d)) → NoStar b → Ev X' (.Call (.Name "tuple" q) [b] [] r) env mu (.d (encDeed d)) := by
          intro X' env mu b q r C' hb nb
          cases d <;> exact c_tup C' T (by decide +kernel) hb rfl nb
        refine go_cons (go_setIx (k := 0) (j := p) (d := encR (r ++ [d])) (by kts_caught) rfl (by kts_caught) (by rw [List.length_map]; exact ixN_nat (by rw [hhl]; exact hp)) (ev_is (ev_catT (ε1 := .d .non) (ε2 := .d .non) (xs := r.map encDeed) (ys := [encDeed d]) (ev_is (ev_idx (by kts_caught) (by kts_caught) (idx_at (f := encR) rfl hr)) rfl) (ev_is (ev_tup (ea_cons (htup C (by kts_caught) (fun _ _ => rfl)) ea_nil) rfl (Nat.le_of_ble_eq_true rfl)) rfl) (by rw [List.length_map, List.length_singleton]; omega)) (by rw [encR, List.map_append]; rfl)) (go_nil ?_))
        refine ⟨⟨_, _, rfl⟩, ?_⟩
        rw [List.take_add_one, hx]
        show _ = [MO.lst ((hist M (ds.take i ++ [d])).map encR)]
        rw [hist_snoc hpo hr, List.map_set]
        rfl
    · rintro e u ⟨⟨o4, o5, rfl⟩, rfl⟩
      rw [List.length_map, List.take_length]
      exact c_retD (c_tup C T (by decide +kernel) (by kts_caught) rfl) hk
def PreCan (ds : List D) (kk : D → Prop) : Prop := ∃ M W, GoodN M ∧ WdOk M W ∧ (∀ m ∈ W.pres, m.length ≤ 60) ∧ ds = [encParts M, encWd W] ∧ ∀ cs : List Deed, (∀ d ∈ cs, Can M W d) → cs.length ≤ 5000 → kk (.lst (cs.map encDeed))
theorem all_snoc {α : Type} {P : α → Prop} {l : List α} {x : α} (h : ∀ y ∈ l, P y) (hx : P x) : ∀ y ∈ l ++ [x], P y := by
  intro y hy
  rcases List.mem_append.mp hy with hy | hy
  · exact h y hy
  · rw [List.mem_singleton.mp hy]; exact hx
theorem openM_at {C : Chan} {m : List (Nat × Nat)} {j : Nat} {q : Nat × Nat} (h : m[j]? = some q) (hj : j = 0 ∨ C.loose = true) : q ∈ openM C m := by
  unfold openM
  by_cases hl : C.loose = true
  · rw [if_pos hl]; exact List.mem_of_getElem? h
  · rw [if_neg hl]
    rcases hj with rfl | hj
    · cases m with
      | nil => cases h
      | cons x m => cases h; simp
    · exact absurd hj hl
theorem w_law_can (T : Tx P w K mg base CN CS) : Fn P w K mg base "_law_can" 2 PreCan := by
  have g1 := w_law_loose T
  refine fn_p (N := ["_law_parts", "_law_world", "_law_made", "_law_r", "_law_p", "_law_state", "_law_act", "_law_then", "_law_held", "_law_j", "_law_c"]) (ps := ["_law_parts", "_law_world"]) T.d_law_can (fun _ _ _ _ _ _ us hl => match us, hl with | [_, _], _ => rfl) ⟨rfl, rfl, rfl, by decide +kernel, rfl, by decide +kernel, by decide +kernel⟩ (fun ds kk h => by obtain ⟨_, _, _, _, _, rfl, _⟩ := h; rfl) ?_
  intro X C hX ds kk h
  obtain ⟨N, hN⟩ : ∃ N, (["_law_parts", "_law_world", "_law_made", "_law_r", "_law_p", "_law_state", "_law_act", "_law_then", "_law_held", "_law_j", "_law_c"] : List Str) = N := ⟨_, rfl⟩
  rw [hN] at C
  have n0 : N[0]? = some ("_law_parts" : Str) := by rw [← hN] <;> rfl
  have n1 : N[1]? = some ("_law_world" : Str) := by rw [← hN] <;> rfl
  have n2 : N[2]? = some ("_law_made" : Str) := by rw [← hN] <;> rfl
  have n3 : N[3]? = some ("_law_r" : Str) := by rw [← hN] <;> rfl
  have n4 : N[4]? = some ("_law_p" : Str) := by rw [← hN] <;> rfl
  have n5 : N[5]? = some ("_law_state" : Str) := by rw [← hN] <;> rfl
  have n6 : N[6]? = some ("_law_act" : Str) := by rw [← hN] <;> rfl
  have n7 : N[7]? = some ("_law_then" : Str) := by rw [← hN] <;> rfl
  have n8 : N[8]? = some ("_law_held" : Str) := by rw [← hN] <;> rfl
  have n9 : N[9]? = some ("_law_j" : Str) := by rw [← hN] <;> rfl
  have n10 : N[10]? = some ("_law_c" : Str) := by rw [← hN] <;> rfl
  obtain ⟨M, W, G, S, S6, rfl, hk⟩ := h
  have lr := G.r0
  have lc := G.c4
  refine c_setN C n2 (by decide +kernel) (en_lst ea_nil rfl (by decide)) ?_
  refine c_for C (T := .one 3) (fun i e u => i ≤ M.rs.length ∧ ∃ (cs : List Deed) (o3 o4 o5 o6 o7 o8 o9 : Option E), e = [some (.d (encParts M)), some (.d (encWd W)), some (.at 0), o3, o4, o5, o6, o7, o8, o9, none] ∧ u = [.lst (cs.map encDeed)] ∧ (∀ d ∈ cs, Can M W d) ∧ cs.length ≤ 61 * i)
    (c_range1 C T (by decide +kernel) (m := M.rs.length) (ev_is (by kts_caught) (by simp)) (by omega)) (c_tg1 C n3 (by decide +kernel)) ⟨Nat.zero_le _, [], none, none, none, none, none, none, none, rfl, rfl, (fun _ h => nomatch h), Nat.zero_le _⟩ (fun _ _ _ _ => trivial) ?_ ?_
  · rintro i item e u hi ⟨him, cs, o3, o4, o5, o6, o7, o8, o9, rfl, rfl, hcs, hcl⟩
    rw [List.getElem?_map] at hi
    cases hir : (List.range M.rs.length)[i]? with
    | none => rw [hir] at hi; cases hi
    | some i' =>
      rw [hir] at hi
      cases hi
      obtain ⟨hil, hie⟩ := List.getElem?_eq_some_iff.mp hir
      rw [List.getElem_range] at hie
      subst hie
      rw [List.length_range] at hil
      refine ⟨_, rfl, ?_⟩
      obtain ⟨⟨p, s, a, s'⟩, hR⟩ := get_of rfl hil
      obtain ⟨q, hq, _⟩ := G.rp _ (List.mem_of_getElem? hR)
      obtain ⟨x, hx⟩ := get_of S.sh.st (List.getElem?_eq_some_iff.mp hq).1
      refine c_unp C (nt_cons C n4 (by decide +kernel) (nt_cons C n5 (by decide +kernel) (nt_cons C n6 (by decide +kernel) (nt_cons C n7 (by decide +kernel) nt_nil)))) (ds := [nD p, nD s, encAct a, nD s']) (ev_is (ev_idx (ev_idx (by kts_caught) (by kts_caught) (by tb_start)) (by kts_caught) (idx_lst (f := encRule) hR)) rfl) rfl ?_
      by_cases e : x = s
      · subst e
        refine c_ifF0 (et_is (et_c (ε1 := .d (nD x)) (ε2 := .d (nD x)) (ev_idx (ev_idx (by kts_caught) (by kts_caught) (by tb_start)) (by kts_caught) (idx_tup (f := nD) hx)) (by kts_caught) cmp_ne) (by simp)) ?_
        cases a with
        | nop =>
          refine c_ifT (by top_reprB) ?_
          refine go_cons (go_app (d := encDeed (.act i)) C.B (by kts_caught) rfl (by intro _ _; rfl) (by top_name) (by rw [List.length_map]; omega) ?_)
          exact go_cons (go_continue ⟨hil, cs ++ [.act i], _, _, _, _, _, _, _, rfl, by rw [List.map_append]; rfl, all_snoc hcs (show Can M W (.act i) from ⟨_, hR, (fun _ _ h => nomatch h), hx⟩), by rw [List.length_append, List.length_singleton]; omega⟩)
        | send c t =>
          refine c_ifT (by top_reprB) ?_
          refine go_cons (go_app (d := encDeed (.act i)) C.B (by kts_caught) rfl (by intro _ _; rfl) (by top_name) (by rw [List.length_map]; omega) ?_)
          exact go_cons (go_continue ⟨hil, cs ++ [.act i], _, _, _, _, _, _, _, rfl, by rw [List.map_append]; rfl, all_snoc hcs (show Can M W (.act i) from ⟨_, hR, (fun _ _ h => nomatch h), hx⟩), by rw [List.length_append, List.length_singleton]; omega⟩)
        | take c t =>
          obtain ⟨_, Ch, hC, _⟩ := G.ra _ (List.mem_of_getElem? hR)
          obtain ⟨m, hm⟩ := get_of S.sh.pres (List.getElem?_eq_some_iff.mp hC).1
          have hml := S6 m (List.mem_of_getElem? hm)
          have a1 : rLLoose [encParts M, nD c] (.bl Ch.loose) := .mk hC
          refine c_ifF0 (by top_reprB) ?_
          refine c_set C n8 (by decide +kernel) (ε := .d (encRow m)) (ev_idx (ε2 := .d (nD c)) (ev_idx (by kts_caught) (by kts_caught) (by tb_start)) (by top_name) (idx_tup (f := encRow) hm)) ?_
          refine c_for C (T := .one 9) (fun j e u => j ≤ m.length ∧ ∃ (cs : List Deed) (o9 : Option E), e = [some (.d (encParts M)), some (.d (encWd W)), some (.at 0), some (.d (nD i)), some (.d (nD p)), some (.d (nD x)), some (.d (encAct (.take c t))), some (.d (nD s')), some (.d (encRow m)), o9, none] ∧ u = [.lst (cs.map encDeed)] ∧ (∀ d ∈ cs, Can M W d) ∧ cs.length ≤ 61 * i + j)
            (c_range1 C T (by decide +kernel) (m := m.length) (ev_is (by kts_caught) (by simp)) (by omega)) (c_tg1 C n9 (by decide +kernel)) ⟨Nat.zero_le _, cs, _, rfl, rfl, hcs, hcl⟩ (fun _ _ _ _ => trivial) ?_ ?_
          · rintro j item e u hj ⟨hjm, cs, o9, rfl, rfl, hcs, hcl⟩
            rw [List.getElem?_map] at hj
            cases hjr : (List.range m.length)[j]? with
            | none => rw [hjr] at hj; cases hj
            | some j' =>
              rw [hjr] at hj
              cases hj
              obtain ⟨hjl, hje⟩ := List.getElem?_eq_some_iff.mp hjr
              rw [List.getElem_range] at hje
              subst hje
              rw [List.length_range] at hjl
              refine ⟨_, rfl, ?_⟩
              obtain ⟨⟨k, tk⟩, hkt⟩ := get_of rfl hjl
              obtain ⟨b, hb⟩ : ∃ b : Bool, (b = (decide (tk = t) && (decide (j = 0) || Ch.loose))) := ⟨_, rfl⟩
              refine go_cons (go_if (b := b) (et_is (et_W (ew_and (x := decide (tk = t)) (y := decide (j = 0) || Ch.loose) (et_is (et_c (ε1 := .d (nD tk)) (ε2 := .d (nD t)) (ev_idx (ε1 := .d (encPair (k, tk))) (ev_idx (by kts_caught) (by kts_caught) (idx_tup (f := encPair) hkt)) (by kts_caught) rfl) (by top_name) cmp_eq) (neq _ _)) (fun _ => ew_and1 (et_W (ew_or (x := decide (j = 0)) (y := Ch.loose) (et_is (et_c (ε1 := .d (nD j)) (ε2 := .d (.int 0)) (by kts_caught) (by kts_caught) cmp_eq) (by simp)) (fun _ => ew_or1 (et_val (c_call C g1 (by decide) (by decide +kernel) (εs := [.d (encParts M), .d (nD c)]) (ea_cons (by kts_caught) (ea_cons (by top_name) ea_nil)) rfl a1)))))))) hb.symm) (fun hbt => ?_) (fun hbf => go_nil (go_nil ⟨hjl, cs, _, rfl, rfl, hcs, by omega⟩)))
              rw [hbt] at hb
              have hb := hb.symm
              rw [Bool.and_eq_true, decide_eq_true_eq, Bool.or_eq_true, decide_eq_true_eq] at hb
              obtain ⟨h1, h2⟩ := hb
              subst h1
              refine go_cons (go_app (d := encDeed (.take i k)) C.B (by kts_caught) rfl (by intro _ _; rfl) (ev_is (ev_tup (ea_cons ev_str (ea_cons (by kts_caught) (ea_cons (ev_idx (ε1 := .d (encPair (k, tk))) (ε := .d (nD k)) (ev_idx (by kts_caught) (by kts_caught) (idx_tup (f := encPair) hkt)) (by kts_caught) rfl) ea_nil))) rfl (Nat.le_of_ble_eq_true rfl)) rfl) (by rw [List.length_map]; omega) (go_nil (go_nil ?_)))
              exact ⟨hjl, cs ++ [.take i k], _, rfl, by rw [List.map_append]; rfl, all_snoc hcs (show Can M W (.take i k) from ⟨_, c, tk, Ch, m, hR, rfl, hx, hC, hm, openM_at hkt h2⟩), by rw [List.length_append, List.length_singleton]; omega⟩
          · rintro e u ⟨hjm, cs, o9, rfl, rfl, hcs, hcl⟩
            rw [List.length_map, List.length_range] at hcl
            exact go_nil ⟨hil, cs, _, _, _, _, _, _, _, rfl, rfl, hcs, by omega⟩
      · refine c_ifT (et_is (et_c (ε1 := .d (nD x)) (ε2 := .d (nD s)) (ev_idx (ev_idx (by kts_caught) (by kts_caught) (by tb_start)) (by kts_caught) (idx_tup (f := nD) hx)) (by kts_caught) cmp_ne) (by simp; omega)) ?_
        exact go_cons (go_continue ⟨hil, cs, _, _, _, _, _, _, _, rfl, rfl, hcs, by omega⟩)
  · rintro e u ⟨him, cs, o3, o4, o5, o6, o7, o8, o9, rfl, rfl, hcs, hcl⟩
    rw [List.length_map, List.length_range] at hcl
    refine c_for C (T := .one 10) (fun i e u => i ≤ M.cs.length ∧ ∃ (cs : List Deed) (o9 o10 : Option E), e = [some (.d (encParts M)), some (.d (encWd W)), some (.at 0), o3, o4, o5, o6, o7, o8, o9, o10] ∧ u = [.lst (cs.map encDeed)] ∧ (∀ d ∈ cs, Can M W d) ∧ cs.length ≤ 61 * M.rs.length + 60 * i)
      (c_range1 C T (by decide +kernel) (m := M.cs.length) (ev_is (by kts_caught) (by simp)) (by omega)) (c_tg1 C n10 (by decide +kernel)) ⟨Nat.zero_le _, cs, _, _, rfl, rfl, hcs, hcl⟩ (fun _ _ _ _ => trivial) ?_ ?_
    · rintro i item e u hi ⟨him, cs, o9, o10, rfl, rfl, hcs, hcl⟩
      rw [List.getElem?_map] at hi
      cases hir : (List.range M.cs.length)[i]? with
      | none => rw [hir] at hi; cases hi
      | some i' =>
        rw [hir] at hi
        cases hi
        obtain ⟨hil, hie⟩ := List.getElem?_eq_some_iff.mp hir
        rw [List.getElem_range] at hie
        subst hie
        rw [List.length_range] at hil
        refine ⟨_, rfl, ?_⟩
        obtain ⟨Ch, hC⟩ := get_of rfl hil
        obtain ⟨m, hm⟩ := get_of S.sh.pres hil
        have hml := S6 m (List.mem_of_getElem? hm)
        have a1 : rLLoose [encParts M, nD i] (.bl Ch.loose) := .mk hC
        refine go_cons (go_if (b := Ch.lossy) (et_val (ev_bls (ev_ends (y := kindS Ch.loose Ch.lossy) (z := "lossy") (by intro _ _; rfl) (ev_idx (ε1 := .d (encChan Ch)) (ε := .d (.str (kindS Ch.loose Ch.lossy))) (ev_idx (ev_idx (by kts_caught) (by kts_caught) (by tb_start)) (by kts_caught) (idx_lst (f := encChan) hC)) (by kts_caught) rfl) ev_str) (by cases Ch.loose <;> cases Ch.lossy <;> decide +kernel))) (fun hly => ?_) (fun _ => go_nil (go_nil ⟨hil, cs, _, _, rfl, rfl, hcs, by omega⟩)))
        refine c_for C (T := .one 9) (fun j e u => j ≤ m.length ∧ ∃ (cs : List Deed) (o9 : Option E), e = [some (.d (encParts M)), some (.d (encWd W)), some (.at 0), o3, o4, o5, o6, o7, o8, o9, some (.d (nD i))] ∧ u = [.lst (cs.map encDeed)] ∧ (∀ d ∈ cs, Can M W d) ∧ cs.length ≤ 61 * M.rs.length + 60 * i + j)
          (c_range1 C T (by decide +kernel) (m := m.length) (ev_is (c_len C T (by decide +kernel) (ev_idx (ev_idx (by kts_caught) (by kts_caught) (by tb_start)) (by kts_caught) (idx_tup (f := encRow) hm)) rfl) (by simp)) (by omega)) (c_tg1 C n9 (by decide +kernel)) ⟨Nat.zero_le _, cs, _, rfl, rfl, hcs, hcl⟩ (fun _ _ _ _ => trivial) ?_ ?_
        · rintro j item e u hj ⟨hjm, cs, o9, rfl, rfl, hcs, hcl⟩
          rw [List.getElem?_map] at hj
          cases hjr : (List.range m.length)[j]? with
          | none => rw [hjr] at hj; cases hj
          | some j' =>
            rw [hjr] at hj
            cases hj
            obtain ⟨hjl, hje⟩ := List.getElem?_eq_some_iff.mp hjr
            rw [List.getElem_range] at hje
            subst hje
            rw [List.length_range] at hjl
            refine ⟨_, rfl, ?_⟩
            obtain ⟨⟨k, tk⟩, hkt⟩ := get_of rfl hjl
            refine go_cons (go_if (b := decide (j = 0) || Ch.loose) (et_W (ew_or (x := decide (j = 0)) (y := Ch.loose) (et_is (et_c (ε1 := .d (nD j)) (ε2 := .d (.int 0)) (by kts_caught) (by kts_caught) cmp_eq) (by simp)) (fun _ => ew_or1 (et_val (c_call C g1 (by decide) (by decide +kernel) (εs := [.d (encParts M), .d (nD i)]) (ea_cons (by kts_caught) (ea_cons (by kts_caught) ea_nil)) rfl a1))))) (fun hbt => ?_) (fun hbf => go_nil (go_nil ⟨hjl, cs, _, rfl, rfl, hcs, by omega⟩)))
            rw [Bool.or_eq_true, decide_eq_true_eq] at hbt
            refine go_cons (go_app (d := encDeed (.lose i k)) C.B (by kts_caught) rfl (by intro _ _; rfl) (ev_is (ev_tup (ea_cons ev_str (ea_cons (by kts_caught) (ea_cons (ev_idx (ε1 := .d (encPair (k, tk))) (ε := .d (nD k)) (ev_idx (ε1 := .d (encRow m)) (ev_idx (ev_idx (by kts_caught) (by kts_caught) (by tb_start)) (by kts_caught) (idx_tup (f := encRow) hm)) (by kts_caught) (idx_tup (f := encPair) hkt)) (by kts_caught) rfl) ea_nil))) rfl (Nat.le_of_ble_eq_true rfl)) rfl) (by rw [List.length_map]; omega) (go_nil (go_nil ?_)))
            exact ⟨hjl, cs ++ [.lose i k], _, rfl, by rw [List.map_append]; rfl, all_snoc hcs (show Can M W (.lose i k) from ⟨Ch, m, tk, hC, hly, hm, openM_at hkt hbt⟩), by rw [List.length_append, List.length_singleton]; omega⟩
        · rintro e u ⟨hjm, cs, o9, rfl, rfl, hcs, hcl⟩
          rw [List.length_map, List.length_range] at hcl
          exact go_nil (go_nil ⟨hil, cs, _, _, rfl, rfl, hcs, by omega⟩)
    · rintro e u ⟨him, cs, o9, o10, rfl, rfl, hcs, hcl⟩
      rw [List.length_map, List.length_range] at hcl
      exact c_ret (ε := .at 0) (by kts_caught) rfl (hk cs hcs (by omega))
def optD : Option Deed → D
  | some d => encDeed d
  | none => .non
def PrePick (ds : List D) (kk : D → Prop) : Prop := ∃ M W row a, GoodN M ∧ WdOk M W ∧ (∀ m ∈ W.pres, m.length ≤ 60) ∧ row ≠ [] ∧ ds = [encParts M, encWd W, encRowI row, nD a] ∧ ∀ r : Option Deed, (∀ d, r = some d → Can M W d) → kk (optD r)
theorem w_law_pick (T : Tx P w K mg base CN CS) : Fn P w K mg base "_law_pick" 3 PrePick := by
  have g1 := w_law_can T
  have g2 := w_law_draw T
  refine fn_p (N := ["_law_parts", "_law_world", "_law_row", "_law_at_here", "_law_can_here", "_law_good", "_law_deed"]) (ps := ["_law_parts", "_law_world", "_law_row", "_law_at_here"]) T.d_law_pick (fun _ _ _ _ _ _ us hl => match us, hl with | [_, _, _, _], _ => rfl) ⟨rfl, rfl, rfl, by decide +kernel, rfl, by decide +kernel, by decide +kernel⟩ (fun ds kk h => by obtain ⟨_, _, _, _, _, _, _, _, rfl, _⟩ := h; rfl) ?_
  intro X C hX ds kk h
  obtain ⟨N, hN⟩ : ∃ N, (["_law_parts", "_law_world", "_law_row", "_law_at_here", "_law_can_here", "_law_good", "_law_deed"] : List Str) = N := ⟨_, rfl⟩
  rw [hN] at C
  have n0 : N[0]? = some ("_law_parts" : Str) := by rw [← hN] <;> rfl
  have n1 : N[1]? = some ("_law_world" : Str) := by rw [← hN] <;> rfl
  have n2 : N[2]? = some ("_law_row" : Str) := by rw [← hN] <;> rfl
  have n3 : N[3]? = some ("_law_at_here" : Str) := by rw [← hN] <;> rfl
  have n4 : N[4]? = some ("_law_can_here" : Str) := by rw [← hN] <;> rfl
  have n5 : N[5]? = some ("_law_good" : Str) := by rw [← hN] <;> rfl
  have n6 : N[6]? = some ("_law_deed" : Str) := by rw [← hN] <;> rfl
  obtain ⟨M, W, row, a, G, S, S6, hr, rfl, hk⟩ := h
  refine c_setP C n4 (by decide +kernel) (Q := fun d => ∃ cs : List Deed, (∀ d ∈ cs, Can M W d) ∧ cs.length ≤ 5000 ∧ d = .lst (cs.map encDeed)) (c_callP C g1 (by decide) (by decide +kernel) (εs := [.d (encParts M), .d (encWd W)]) (by k_caught0) rfl (fun k hq => ⟨M, W, G, S, S6, rfl, fun cs h1 h2 => hq _ ⟨cs, h1, h2, rfl⟩⟩)) ?_
  rintro d ⟨cs, hcs, hcl, rfl⟩
  refine c_setC C hN (T := .one 6) (own := [("_law_deed", 6)]) (xs := cs) (f := fun x => .one (.d (encDeed x))) (fun x => !isLose x) (fun x => encDeed x) n5 (by decide +kernel) (ei_lstM (by kts_caught)) trivial (by decide +kernel) (by decide +kernel) (fun X' C' => c_tg1 C' n6 (by decide +kernel)) (by omega) (fun x hx => ⟨_, rfl, fun X' C' => ⟨ets_one ?_, fun _ => by kts_caught⟩⟩) ?_
  · cases x <;> exact et_is (by kts_caughtN) rfl
  obtain ⟨gd, hgd⟩ : ∃ gd, cs.filter (fun x => !isLose x) = gd := ⟨_, rfl⟩
  rw [hgd]
  have hgc : ∀ d ∈ gd, Can M W d := fun d h => hcs d (List.mem_filter.mp (by rw [hgd]; exact h)).1
  have hgl : gd.length ≤ 5000 := by rw [← hgd]; exact Nat.le_trans (List.length_filter_le _ _) hcl
  refine go_freeze 0 rfl ?_
  show Go X _ [some (.d (encParts M)), some (.d (encWd W)), some (.d (encRowI row)), some (.d (nD a)), some (.d (.lst (cs.map encDeed))), some (.d (.lst (gd.map encDeed))), none] [.gone] _
  refine go_join (fun e u => ∃ cs : List Deed, (∀ d ∈ cs, Can M W d) ∧ cs.length ≤ 5000 ∧ e = [some (.d (encParts M)), some (.d (encWd W)), some (.d (encRowI row)), some (.d (nD a)), some (.d (.lst (cs.map encDeed))), some (.d (.lst (gd.map encDeed))), none] ∧ u = [.gone])
    (go_if (b := decide (0 < gd.length) && decide (0 < draw row a 5)) (et_W (ew_and (x := decide (0 < gd.length)) (y := decide (0 < draw row a 5)) (et_is (et_c (ε1 := .d (nD gd.length)) (ε2 := .d (.int 0)) (ev_is (by kts_caught) (by simp)) (by kts_caught) cmp_gt) (by rw [show (0 : Int) = ((0 : Nat) : Int) from rfl, nlt])) (fun _ => ew_and1 (et_is (et_c (ε1 := .d (nD (draw row a 5))) (ε2 := .d (.int 0)) (c_draw C g2 (by decide) hr (by omega) (by decide +kernel) (by kts_caught) (by kts_caught) (by top_name)) (by kts_caught) cmp_gt) (by rw [show (0 : Int) = ((0 : Nat) : Int) from rfl, nlt])))))
      (fun _ => c_set C n4 (by decide +kernel) (by kts_caught) (go_nil ⟨gd, hgc, hgl, rfl, rfl⟩)) (fun _ => go_nil ⟨cs, hcs, hcl, rfl, rfl⟩)) ?_
  rintro e u ⟨cs, hcs, hcl, rfl, rfl⟩
  by_cases h0 : cs = []
  · subst h0
    refine c_ifT (et_is (et_c (ε1 := .d (.int 0)) (ε2 := .d (.int 0)) (ev_is (by kts_caught) (by simp)) (by kts_caught) cmp_eq) rfl) ?_
    exact c_retD (d := .non) ev_non (hk none (fun _ h => by cases h))
  · have hpos : 0 < cs.length := List.length_pos_iff.mpr h0
    refine c_ifF0 (et_is (et_c (ε1 := .d (nD cs.length)) (ε2 := .d (.int 0)) (ev_is (by kts_caught) (by simp)) (by kts_caught) cmp_eq) (decide_eq_false (by omega))) ?_
    obtain ⟨d, hd⟩ := get_of rfl (draw_lt (row := row) (at_ := a + 1) (lim := cs.length) hpos)
    exact c_retD (ev_idx (by kts_caught) (c_draw C g2 (by decide) (i := a + 1) (lim := cs.length) hr hpos (by decide +kernel) (by kts_caught) (ev_is (ev_add (by kts_caught) ev_int) (intD (by omega))) (ev_is (by kts_caught) (by simp))) (idx_lst (f := encDeed) hd)) (hk (some d) (fun _ h => by cases h; exact hcs d (List.mem_of_getElem? hd)))
theorem Run.ok {M : Nt} (G : GoodN M) {ds : List Deed} {w : Wd} (R : Run M ds w) (hl : ds.length ≤ 60) : HistOk M (hist M ds) ∧ w = atW M (hist M ds) (whole (hist M ds)) := by
  have H : HistOk M (hist M ds) := ⟨G, hist_owned R.deeds, fun r hr => Nat.le_trans (hist_len r hr) hl⟩
  exact ⟨H, ((R.steps G).inv G H.O).1⟩
theorem atW_pres60 {M : Nt} {h : List (List Deed)} (H : HistOk M h) (n : List Nat) : ∀ m ∈ (atW M h n).pres, m.length ≤ 60 := by
  intro m hm
  unfold atW at hm
  simp only at hm
  obtain ⟨c, _, rfl⟩ := List.mem_map.mp hm
  exact Nat.le_trans prL_len (tk_len H n c)
def PreRun (ds : List D) (kk : D → Prop) : Prop := ∃ M row a m, GoodN M ∧ row ≠ [] ∧ m ≤ 20 ∧ ds = [encParts M, encRowI row, nD a, nD m] ∧ ∀ ds w, Run M ds w → ds.length ≤ m → kk (.lst (ds.map encDeed))
theorem w_law_run (T : Tx P w K mg base CN CS) : Fn P w K mg base "_law_run" 4 PreRun := by
  have g1 := w_law_start T
  have g2 := w_law_pick T
  have g3 := w_law_done T
  refine fn_p (N := ["_law_parts", "_law_row", "_law_at_here", "_law_many", "_law_world", "_law_deeds", "_law_k", "_law_deed"]) (ps := ["_law_parts", "_law_row", "_law_at_here", "_law_many"]) T.d_law_run (fun _ _ _ _ _ _ us hl => match us, hl with | [_, _, _, _], _ => rfl) ⟨rfl, rfl, rfl, by decide +kernel, rfl, by decide +kernel, by decide +kernel⟩ (fun ds kk h => by obtain ⟨_, _, _, _, _, _, _, rfl, _⟩ := h; rfl) ?_
  intro X C hX ds kk h
  obtain ⟨N, hN⟩ : ∃ N, (["_law_parts", "_law_row", "_law_at_here", "_law_many", "_law_world", "_law_deeds", "_law_k", "_law_deed"] : List Str) = N := ⟨_, rfl⟩
  rw [hN] at C
  have n0 : N[0]? = some ("_law_parts" : Str) := by rw [← hN] <;> rfl
  have n1 : N[1]? = some ("_law_row" : Str) := by rw [← hN] <;> rfl
  have n2 : N[2]? = some ("_law_at_here" : Str) := by rw [← hN] <;> rfl
  have n3 : N[3]? = some ("_law_many" : Str) := by rw [← hN] <;> rfl
  have n4 : N[4]? = some ("_law_world" : Str) := by rw [← hN] <;> rfl
  have n5 : N[5]? = some ("_law_deeds" : Str) := by rw [← hN] <;> rfl
  have n6 : N[6]? = some ("_law_k" : Str) := by rw [← hN] <;> rfl
  have n7 : N[7]? = some ("_law_deed" : Str) := by rw [← hN] <;> rfl
  obtain ⟨M, row, a, m, G, hr, hm20, rfl, hk⟩ := h
  have a1 : rLStart [encParts M] (encWd (wd0 M)) := .mk G
  refine c_set C n4 (by decide +kernel) (by kts_caught) ?_
  refine c_setN C n5 (by decide +kernel) (en_lst ea_nil rfl (by decide)) ?_
  refine c_for C (T := .one 6) (fun i e u => i ≤ m ∧ ∃ (ds : List Deed) (W : Wd) (o6 o7 : Option E), e = [some (.d (encParts M)), some (.d (encRowI row)), some (.d (nD a)), some (.d (nD m)), some (.d (encWd W)), some (.at 0), o6, o7] ∧ u = [.lst (ds.map encDeed)] ∧ Run M ds W ∧ ds.length ≤ i)
    (c_range1 C T (by decide +kernel) (m := m) (by kts_caught) (by omega)) (c_tg1 C n6 (by decide +kernel)) ⟨Nat.zero_le _, [], wd0 M, none, none, rfl, rfl, .nil, Nat.zero_le _⟩ (fun _ _ _ _ => trivial) ?_ ?_
  · rintro i item e u hi ⟨him, ds, W, o6, o7, rfl, rfl, R, hdl⟩
    rw [List.getElem?_map] at hi
    cases hir : (List.range m)[i]? with
    | none => rw [hir] at hi; cases hi
    | some i' =>
      rw [hir] at hi
      cases hi
      obtain ⟨hil, hie⟩ := List.getElem?_eq_some_iff.mp hir
      rw [List.getElem_range] at hie
      subst hie
      rw [List.length_range] at hil
      refine ⟨_, rfl, ?_⟩
      obtain ⟨H, hW⟩ := R.ok G (by omega)
      have hWd : WdOk M W := by rw [hW]; exact wdOk_at H _
      have hW6 : ∀ m ∈ W.pres, m.length ≤ 60 := by rw [hW]; exact atW_pres60 H _
      refine c_setP C n7 (by decide +kernel) (Q := fun d => ∃ r : Option Deed, (∀ d, r = some d → Can M W d) ∧ d = optD r) (c_callP C g2 (by decide) (by decide +kernel) (εs := [.d (encParts M), .d (encWd W), .d (encRowI row), .d (nD (a + 2 * i))]) (ea_cons (by kts_caught) (ea_cons (by kts_caught) (ea_cons (by kts_caught) (ea_cons (ev_is (ev_add (by kts_caught) (ev_mul ev_int (by kts_caught) (.inl (by omega)))) (intD (by omega))) ea_nil)))) rfl (fun k hq => ⟨M, W, row, _, G, hWd, hW6, hr, rfl, fun r h => hq _ ⟨r, h, rfl⟩⟩)) ?_
      rintro d ⟨r, hrc, rfl⟩
      cases r with
      | none =>
        refine c_ifT (et_is (et_c (ε1 := .d .non) (by top_name) (by kts_caught) cmp_isN) rfl) ?_
        exact go_cons (go_break (c_ret (ε := .at 0) (by kts_caught) rfl (hk ds W R (by omega))))
      | some d =>
        have hc := hrc d rfl
        have a3 : rLBeh [encParts M, encWd W, encDeed d] (encWd (doD M W d)) := .mk G hWd hc.deed
        refine c_ifF0 (et_is (et_c (ε1 := .d (encDeed d)) (by top_name) (by kts_caught) cmp_isN) (isNon_deed d)) ?_
        refine go_cons (go_app (d := encDeed d) C.B (by kts_caught) rfl (by intro _ _; rfl) (by top_name) (by rw [List.length_map]; omega) ?_)
        refine c_set C n4 (by decide +kernel) (c_call C g3 (by decide) (by decide +kernel) (εs := [.d (encParts M), .d (encWd W), .d (encDeed d)]) (ea_cons (by kts_caught) (ea_cons (by kts_caught) (ea_cons (by top_name) ea_nil))) rfl a3) (go_nil ?_)
        exact ⟨hil, ds ++ [d], doD M W d, _, _, rfl, by rw [List.map_append]; rfl, R.snoc hc, by rw [List.length_append, List.length_singleton]; omega⟩
  · rintro e u ⟨him, ds, W, o6, o7, rfl, rfl, R, hdl⟩
    rw [List.length_map, List.length_range] at hdl
    exact c_ret (ε := .at 0) (by kts_caught) rfl (hk ds W R hdl)
def PrePts (ds : List D) (kk : D → Prop) : Prop := ∃ h row a, row ≠ [] ∧ h.length ≤ 3 ∧ (∀ r ∈ h, r.length ≤ 60) ∧ ds = [encHist h, encRowI row, nD a] ∧ ∀ pts, PtsOk h pts → kk (encPts pts)
theorem rowOk_of {len : Nat} {p : Nat → Bool} (hl : len ≤ 60) : RowOk (0 :: ((List.range len).filter p).map fun q => 1 + q) len := by
  refine ⟨rfl, List.pairwise_cons.mpr ⟨fun k hk => ?_, List.pairwise_map.mpr (List.Pairwise.imp (fun h => by omega) (List.pairwise_lt_range.filter p))⟩, fun k hk => ?_, ?_⟩
  · obtain ⟨q, _, rfl⟩ := List.mem_map.mp hk
    omega
  · rcases List.mem_cons.mp hk with rfl | hk
    · exact Nat.zero_le _
    · obtain ⟨q, hq, rfl⟩ := List.mem_map.mp hk
      have := List.mem_range.mp (List.mem_filter.mp hq).1
      omega
  · rw [List.length_cons, List.length_map]
    have := List.length_filter_le p (List.range len)
    rw [List.length_range] at this
    omega
theorem w_law_points (T : Tx P w K mg base CN CS) : Fn P w K mg base "_law_points" 2 PrePts := by
  have g1 := w_law_draw T
  refine fn_p (N := ["_law_told", "_law_row", "_law_at_here", "_law_made", "_law_p", "_law_k"]) (ps := ["_law_told", "_law_row", "_law_at_here"]) T.d_law_points (fun _ _ _ _ _ _ us hl => match us, hl with | [_, _, _], _ => rfl) ⟨rfl, rfl, rfl, by decide +kernel, rfl, by decide +kernel, by decide +kernel⟩ (fun ds kk h => by obtain ⟨_, _, _, _, _, _, rfl, _⟩ := h; rfl) ?_
  intro X C hX ds kk h
  obtain ⟨N, hN⟩ : ∃ N, (["_law_told", "_law_row", "_law_at_here", "_law_made", "_law_p", "_law_k"] : List Str) = N := ⟨_, rfl⟩
  rw [hN] at C
  have n0 : N[0]? = some ("_law_told" : Str) := by rw [← hN] <;> rfl
  have n1 : N[1]? = some ("_law_row" : Str) := by rw [← hN] <;> rfl
  have n2 : N[2]? = some ("_law_at_here" : Str) := by rw [← hN] <;> rfl
  have n3 : N[3]? = some ("_law_made" : Str) := by rw [← hN] <;> rfl
  have n4 : N[4]? = some ("_law_p" : Str) := by rw [← hN] <;> rfl
  have n5 : N[5]? = some ("_law_k" : Str) := by rw [← hN] <;> rfl
  obtain ⟨h, row, a, hr, hl3, hl60, rfl, hk⟩ := h
  have hz : sizeLine = 16777216 := sizeLine_eq
  refine c_setN C n3 (by decide +kernel) (en_lst ea_nil rfl (by decide)) ?_
  refine c_for C (T := .one 4) (fun i e u => i ≤ h.length ∧ ∃ (pts : List (List Nat)) (o4 : Option E), e = [some (.d (encHist h)), some (.d (encRowI row)), some (.d (nD a)), some (.at 0), o4, none] ∧ u = [.lst (pts.map fun r : List Nat => D.lst (r.map nD))] ∧ pts.length = i ∧ ∀ (p : Nat) (r : List Nat) (x : List Deed), pts[p]? = some r → h[p]? = some x → RowOk r x.length)
    (c_range1 C T (by decide +kernel) (m := h.length) (ev_is (by kts_caught) (by simp)) (by omega)) (c_tg1 C n4 (by decide +kernel)) ⟨Nat.zero_le _, [], none, rfl, rfl, rfl, (fun p r x h => by simp at h)⟩ (fun _ _ _ _ => trivial) ?_ ?_
  · rintro i item e u hi ⟨him, pts, o4, rfl, rfl, hpl, hok⟩
    rw [List.getElem?_map] at hi
    cases hir : (List.range h.length)[i]? with
    | none => rw [hir] at hi; cases hi
    | some i' =>
      rw [hir] at hi
      cases hi
      obtain ⟨hil, hie⟩ := List.getElem?_eq_some_iff.mp hir
      rw [List.getElem_range] at hie
      subst hie
      rw [List.length_range] at hil
      refine ⟨_, rfl, ?_⟩
      obtain ⟨x, hx⟩ := get_of rfl hil
      have hx60 := hl60 x (List.mem_of_getElem? hx)
      obtain ⟨pq, hpq⟩ : ∃ pq : Nat → Bool, pq = fun q => decide (draw row (a + 20 * i + (1 + q)) 3 = 0) := ⟨_, rfl⟩
      have hpqE : ∀ q, pq q = decide (draw row (a + 20 * i + (1 + q)) 3 = 0) := fun q => by rw [hpq]
      obtain ⟨ys, hys⟩ : ∃ ys : List Nat, (List.range (x.length + 1 - 1)).filter pq = ys := ⟨_, rfl⟩
      have hyl : ys.length ≤ 60 := by
        have := List.length_filter_le pq (List.range (x.length + 1 - 1))
        rw [List.length_range] at this
        rw [← hys]
        omega
      have hys2 : (List.range x.length).filter pq = ys := hys
      clear hpq
      refine go_cons (go_app (d := .lst ((0 :: ys.map fun q => 1 + q).map nD)) C.B (by kts_caught) rfl (by intro _ _; rfl) (ev_is (EvN.ev (ev_cat (ε1 := .d (.lst [nD 0])) (ε2 := .d (.lst (ys.map fun q => nD (1 + q)))) (xs := [nD 0]) (ys := ys.map fun q => nD (1 + q))
        (EvN.ev (en_lst (ds := [nD 0]) (ea_cons (by top_name) ea_nil) rfl (by decide)))
        (by rw [← hys]; exact (EvN.ev (en_c C hN (T := .one 5) (own := [("_law_k", 5)]) (xs := List.range (x.length + 1 - 1)) (f := fun q : Nat => .one (.d (.int ((1 + q : Nat) : Int)))) pq (fun q => nD (1 + q)) (c_range2 C T (by decide +kernel) (m := 1) (l := x.length + 1) (by top_name) (ev_is (ev_add (ev_is (c_len C T (by decide +kernel) (ev_idx (by kts_caught) (by kts_caught) (idx_tup (f := encR) hx)) rfl) (show _ = E.d (nD x.length) by simp)) ev_int) (intD (by omega))) (by omega) (by omega)) trivial (by decide +kernel) (by decide +kernel) (fun X' C' => c_tg1 C' n5 (by decide +kernel)) (by rw [List.length_range]; omega)
          (fun q hq => ⟨_, rfl, fun X' C' => ⟨ets_one (et_is (et_c (ε1 := .d (nD (draw row (a + 20 * i + (1 + q)) 3))) (ε2 := .d (.int 0)) (c_draw C' g1 (by decide) hr (by omega) (by decide +kernel) (by kts_caught) (ev_is (ev_add (ev_add (by kts_caught) (ev_mul ev_int (by kts_caught) (.inl (by omega)))) (by kts_caught)) (intD (by omega))) (by top_name)) (by kts_caught) cmp_eq) (by rw [hpqE, show (0 : Int) = ((0 : Nat) : Int) from rfl, neq])), fun _ => by kts_caught⟩⟩))))
        rfl rfl (by rw [hz, List.length_map]; simp only [List.length_singleton]; omega))) (by rw [List.map_cons, List.map_map]; rfl)) (by rw [List.length_map]; omega) (go_nil ?_))
      have hro : RowOk (0 :: ys.map fun q => 1 + q) x.length := by rw [← hys2]; exact rowOk_of hx60
      refine ⟨hil, pts ++ [0 :: ys.map fun q => 1 + q], _, rfl, by rw [List.map_append]; rfl, by rw [List.length_append, List.length_singleton, hpl], fun p r y hp hy => ?_⟩
      rw [get_snoc] at hp
      split at hp
      · rename_i e
        subst e
        rw [hpl] at hy
        rw [hx] at hy; cases hy
        cases hp
        exact hro
      · exact hok p r y hp hy
  · rintro e u ⟨him, pts, o4, rfl, rfl, hpl, hok⟩
    rw [List.length_map, List.length_range] at hpl
    refine c_ret (ε := .at 0) (by kts_caught) rfl (hk pts ⟨hpl, by omega, fun q hq => ?_⟩)
    obtain ⟨p, hp⟩ := List.mem_iff_getElem?.mp hq
    obtain ⟨h1, h2⟩ := List.getElem?_zip_eq_some.mp hp
    exact hok p _ _ h1 h2
theorem gn_ex {M : Nt} {rows : List (List Deed)} {ys : List Nat} {c k : Nat} (h : k ∈ gn M rows ys c) : ∃ (p i : Nat) (r : List Deed) (d : Deed), rows[p]? = some r ∧ r[i]? = some d ∧ i < ys[p]?.getD 0 ∧ remC M d = some (c, k) := by
  unfold gn at h
  cases hC : M.cs[c]? with
  | none => rw [hC] at h; cases h
  | some C =>
    rw [hC] at h
    simp only at h
    unfold gone at h
    rw [List.mem_filterMap] at h
    obtain ⟨d, hd, hk⟩ := h
    unfold px at hd
    obtain ⟨i, hi, hdi⟩ := List.mem_iff_getElem.mp hd
    rw [List.length_take] at hi
    rw [List.getElem_take] at hdi
    have hm : remC M d = some (c, k) := by
      cases e : remC M d with
      | none => rw [e] at hk; cases hk
      | some x =>
        obtain ⟨c', k'⟩ := x
        rw [e] at hk
        by_cases h : c' = c
        · subst h; rw [onC_some] at hk; cases hk; rfl
        · rw [onC_ne h] at hk; cases hk
    cases hr : rows[C.t]? with
    | none => simp [hr] at hi
    | some r =>
      simp only [hr, Option.getD_some] at hi hdi
      exact ⟨C.t, i, r, d, hr, by rw [← hdi]; exact List.getElem?_eq_getElem _, by omega, hm⟩
def flatN (h : List (List Deed)) (ys : List Nat) (i : Nat) : List Deed := (List.range i).flatMap (px h ys)
theorem flatN_succ {h : List (List Deed)} {ys : List Nat} {i : Nat} : flatN h ys (i + 1) = flatN h ys i ++ px h ys i := by
  unfold flatN
  rw [List.range_succ, List.flatMap_append]
  simp
theorem toks_flat {M : Nt} {h : List (List Deed)} (G : GoodN M) (O : Owned M h) {ys : List Nat} {c : Nat} {C : Chan} (hC : M.cs[c]? = some C) : ∀ i, toks M c (flatN h ys i) = if C.g < i then toks M c (px h ys C.g) else [] := by
  intro i
  induction i with
  | zero => rfl
  | succ i ih =>
    rw [flatN_succ, toks_app, ih]
    by_cases e : i = C.g
    · subst e
      rw [if_neg (Nat.lt_irrefl _), if_pos (Nat.lt_succ_self _), List.nil_append]
    · have hz : toks M c (px h ys i) = [] := by
        unfold toks
        rw [List.filterMap_eq_nil_iff]
        intro d hd
        unfold px at hd
        cases hr : h[i]? with
        | none => rw [hr] at hd; simp at hd
        | some r =>
          rw [hr] at hd
          have := snd_on_ne G O hC hr e d (List.mem_of_mem_take hd)
          simpa [sndOn] using this
      rw [hz, List.append_nil]
      by_cases h1 : C.g < i
      · rw [if_pos h1, if_pos (by omega)]
      · rw [if_neg h1, if_neg (by omega)]
theorem toks_all {M : Nt} {h : List (List Deed)} (G : GoodN M) (O : Owned M h) {ys : List Nat} {c : Nat} (hc : c < M.cs.length) : toks M c (flatN h ys h.length) = tk M h ys c := by
  have hC := List.getElem?_eq_getElem hc
  rw [toks_flat G O hC]
  unfold tk
  rw [hC]
  simp only
  rw [if_pos (by rw [O.len]; exact (G.cg _ (List.mem_of_getElem? hC)).1)]
def sentL (M : Nt) (l : List Deed) : List Nat := (List.range M.cs.length).map fun c => (toks M c l).length
theorem sentL_get {M : Nt} {l : List Deed} {c : Nat} (hc : c < M.cs.length) : (sentL M l)[c]? = some (toks M c l).length := by unfold sentL; simp [hc]
theorem sentL_no {M : Nt} {l : List Deed} {d : Deed} (h : sndC M d = none) : sentL M (l ++ [d]) = sentL M l := by
  unfold sentL
  refine map_range_ext fun c _ => ?_
  rw [toks_app, toks_one, h]
  simp [onC]
theorem sentL_yes {M : Nt} {l : List Deed} {d : Deed} {c t : Nat} (h : sndC M d = some (c, t)) : sentL M (l ++ [d]) = (sentL M l).set c ((toks M c l).length + 1) := by
  unfold sentL
  refine map_range_set (fun i _ hi => ?_) (fun _ => ?_)
  · rw [toks_app, toks_one, h, onC_ne (Ne.symm hi)]; simp
  · rw [toks_app, toks_one, h, onC_some]; simp
theorem px_get {h : List (List Deed)} {ys : List Nat} {p y : Nat} {r : List Deed} (h1 : h[p]? = some r) (h2 : ys[p]? = some y) : px h ys p = r.take y := by unfold px; rw [h1, h2]; rfl
def PreWrong (ds : List D) (kk : D → Prop) : Prop := ∃ M h ys, HistOk M h ∧ ys.length = h.length ∧ leL ys (whole h) ∧ ds = [encParts M, encHist h, .lst (ys.map nD)] ∧ (Closed M h ys → kk .non) ∧
  ∀ (p i : Nat) (r : List Deed) (d : Deed) (c k : Nat), h[p]? = some r → r[i]? = some d → i < ys[p]?.getD 0 → remC M d = some (c, k) → (tk M h ys c).length ≤ k → kk (encPair (p, i))
theorem w_law_wrong (T : Tx P w K mg base CN CS) : Fn P w K mg base "_law_wrong" 1 PreWrong := by
  refine fn_p (N := ["_law_parts", "_law_told", "_law_cut", "_law_sent", "_law_c", "_law_p", "_law_deed", "_law_at_here"]) (ps := ["_law_parts", "_law_told", "_law_cut"]) T.d_law_wrong (fun _ _ _ _ _ _ us hl => match us, hl with | [_, _, _], _ => rfl) ⟨rfl, rfl, rfl, by decide +kernel, rfl, by decide +kernel, by decide +kernel⟩ (fun ds kk h => by obtain ⟨_, _, _, _, _, _, rfl, _⟩ := h; rfl) ?_
  intro X C hX ds kk h
  obtain ⟨N, hN⟩ : ∃ N, (["_law_parts", "_law_told", "_law_cut", "_law_sent", "_law_c", "_law_p", "_law_deed", "_law_at_here"] : List Str) = N := ⟨_, rfl⟩
  rw [hN] at C
  have n0 : N[0]? = some ("_law_parts" : Str) := by rw [← hN] <;> rfl
  have n1 : N[1]? = some ("_law_told" : Str) := by rw [← hN] <;> rfl
  have n2 : N[2]? = some ("_law_cut" : Str) := by rw [← hN] <;> rfl
  have n3 : N[3]? = some ("_law_sent" : Str) := by rw [← hN] <;> rfl
  have n4 : N[4]? = some ("_law_c" : Str) := by rw [← hN] <;> rfl
  have n5 : N[5]? = some ("_law_p" : Str) := by rw [← hN] <;> rfl
  have n6 : N[6]? = some ("_law_deed" : Str) := by rw [← hN] <;> rfl
  have n7 : N[7]? = some ("_law_at_here" : Str) := by rw [← hN] <;> rfl
  obtain ⟨M, h, ys, H, hyl, hle, rfl, hcl, hwr⟩ := h
  have l3 := H.p3
  have lc := H.G.c4
  refine c_setCm C hN (T := .one 4) (own := [("_law_c", 4)]) (xs := M.cs) (f := fun x => .one (.d (encChan x))) (fun _ => nD 0) n3 (by decide +kernel) (ei_lstM (by top_name)) trivial (by decide +kernel) (by decide +kernel) (fun X' C' => c_tg1 C' n4 (by decide +kernel)) (by omega) (fun x hx => ⟨_, rfl, fun X' C' => by top_name⟩) ?_
  have hz : (M.cs.map fun _ => nD 0) = (sentL M []).map nD := by
    unfold sentL
    apply List.ext_getElem?
    intro i
    by_cases hi : i < M.cs.length
    · simp [hi, toks]
    · simp [hi]
  rw [hz]
  refine c_for C (T := .one 5) (fun i e u => (∃ o4 o5 o6, e = [some (.d (encParts M)), some (.d (encHist h)), some (.d (.lst (ys.map nD))), some (.at 0), o4, o5, o6, none]) ∧ u = [.lst ((sentL M (flatN h ys i)).map nD)])
    (c_range1 C T (by decide +kernel) (m := h.length) (ev_is (by kts_caught) (by simp)) (by omega)) (c_tg1 C n5 (by decide +kernel)) ⟨⟨_, _, _, rfl⟩, rfl⟩ (fun _ _ _ _ => trivial) ?_ ?_
  · rintro i item e u hi ⟨⟨o4, o5, o6, rfl⟩, rfl⟩
    rw [List.getElem?_map] at hi
    cases hir : (List.range h.length)[i]? with
    | none => rw [hir] at hi; cases hi
    | some i' =>
      rw [hir] at hi
      cases hi
      obtain ⟨hil, hie⟩ := List.getElem?_eq_some_iff.mp hir
      rw [List.getElem_range] at hie
      subst hie
      rw [List.length_range] at hil
      refine ⟨_, rfl, ?_⟩
      obtain ⟨r, hr⟩ := get_of rfl hil
      obtain ⟨y, hy⟩ := get_of hyl hil
      have hyr := hle i
      rw [hy, whole_get, hr] at hyr
      simp only [Option.getD_some] at hyr
      have hr60 := H.ln r (List.mem_of_getElem? hr)
      have hown := H.O.ok i r hr
      have hpx := px_get hr hy
      refine c_for C (T := .one 6) (fun j e u => (∃ o4 o6, e = [some (.d (encParts M)), some (.d (encHist h)), some (.d (.lst (ys.map nD))), some (.at 0), o4, some (.d (nD i)), o6, none]) ∧ u = [.lst ((sentL M (flatN h ys i ++ (r.take y).take j)).map nD)])
        (ei_tupM (xs := r.take y) (f := encDeed) (ev_is (ev_slT (ds := r.map encDeed) (ev_idx (by kts_caught) (by kts_caught) (idx_tup (f := encR) hr)) eo_none (eo_some (ev_idx (ε := .d (nD y)) (by kts_caught) (by kts_caught) (idx_lst (f := nD) hy)))) (by rw [cut_to (by rw [List.length_map]; exact hyr), List.map_take]))) (c_tg1 C n6 (by decide +kernel)) ⟨⟨_, _, rfl⟩, by rw [List.take_zero, List.append_nil]⟩ (fun _ _ _ _ => trivial) ?_ ?_
      · rintro j item e u hj ⟨⟨o4, o6, rfl⟩, rfl⟩
        rw [List.getElem?_map] at hj
        cases hd : (r.take y)[j]? with
        | none => rw [hd] at hj; cases hj
        | some d =>
          rw [hd] at hj
          cases hj
          refine ⟨_, rfl, ?_⟩
          obtain ⟨hdd, hdo⟩ := hown d (List.mem_of_mem_take (List.mem_of_getElem? hd))
          have htk : (r.take y).take (j + 1) = (r.take y).take j ++ [d] := by rw [List.take_add_one, hd]; rfl
          rw [htk, ← List.append_assoc]
          generalize flatN h ys i ++ (r.take y).take j = l
          cases d with
          | lose c k =>
            refine c_ifF0 (et_W (ew_andF (by top_reprB))) (go_nil ⟨⟨_, _, rfl⟩, ?_⟩)
            rw [sentL_no rfl]
          | take rr k =>
            refine c_ifF0 (et_W (ew_andF (by top_reprB))) (go_nil ⟨⟨_, _, rfl⟩, ?_⟩)
            rw [sentL_no rfl]
          | act rr =>
            obtain ⟨⟨p0, s0, a0, s1⟩, hR, ha0⟩ := hdd
            cases a0 with
            | take c t => exact absurd rfl (ha0 c t)
            | nop =>
              have hs : sndC M (.act rr) = none := by simp [sndC, hR]
              refine c_ifF0 (et_W (ew_andT (by top_reprB) (ew_and1 (by top_reprB)))) (go_nil ⟨⟨_, _, rfl⟩, ?_⟩)
              rw [sentL_no hs]
            | send c t =>
              have hs : sndC M (.act rr) = some (c, t) := by simp [sndC, hR]
              have hcl := snd_lt H.G (d := .act rr) ⟨_, hR, ha0⟩ hs
              refine c_ifT (et_W (ew_andT (by top_reprB) (ew_and1 (by top_reprB)))) ?_
              refine c_set C n4 (by decide +kernel) (ε := .d (nD c)) (by top_name) ?_
              refine go_cons (go_setIx (k := 0) (j := c) (d := nD ((toks M c l).length + 1)) (by kts_caught) rfl (by kts_caught) (by rw [List.length_map]; exact ixN_nat (by unfold sentL; simp; exact hcl)) (ev_is (ev_add (ev_idx (by kts_caught) (by kts_caught) (idx_at (f := nD) rfl (sentL_get hcl))) ev_int) rfl) (go_nil (go_nil ⟨⟨_, _, rfl⟩, ?_⟩)))
              rw [sentL_yes hs, List.map_set]
              rfl
      · rintro e u ⟨⟨o4, o6, rfl⟩, rfl⟩
        refine go_nil ⟨⟨_, _, _, rfl⟩, ?_⟩
        rw [List.length_map, List.take_length, flatN_succ, hpx]
  · rintro e u ⟨⟨o4, o5, o6, rfl⟩, rfl⟩
    rw [List.length_map, List.length_range]
    have htk : ∀ c, c < M.cs.length → (sentL M (flatN h ys h.length))[c]? = some (tk M h ys c).length := fun c hc => by rw [sentL_get hc, toks_all H.G H.O hc]
    refine c_for C (T := .one 5) (fun i e u => i ≤ h.length ∧ (∃ o4 o5 o6 o7, e = [some (.d (encParts M)), some (.d (encHist h)), some (.d (.lst (ys.map nD))), some (.at 0), o4, o5, o6, o7]) ∧ u = [.lst ((sentL M (flatN h ys h.length)).map nD)] ∧
        ∀ (p j : Nat) (r : List Deed) (d : Deed) (c k : Nat), p < i → h[p]? = some r → r[j]? = some d → j < ys[p]?.getD 0 → remC M d = some (c, k) → k < (tk M h ys c).length)
      (c_range1 C T (by decide +kernel) (m := h.length) (ev_is (by kts_caught) (by simp)) (by omega)) (c_tg1 C n5 (by decide +kernel)) ⟨Nat.zero_le _, ⟨_, _, _, _, rfl⟩, rfl, fun _ _ _ _ _ _ hp => absurd hp (Nat.not_lt_zero _)⟩ (fun _ _ _ _ => trivial) ?_ ?_
    · rintro i item e u hi ⟨him, ⟨o4, o5, o6, o7, rfl⟩, rfl, hinv⟩
      rw [List.getElem?_map] at hi
      cases hir : (List.range h.length)[i]? with
      | none => rw [hir] at hi; cases hi
      | some i' =>
        rw [hir] at hi
        cases hi
        obtain ⟨hil, hie⟩ := List.getElem?_eq_some_iff.mp hir
        rw [List.getElem_range] at hie
        subst hie
        rw [List.length_range] at hil
        refine ⟨_, rfl, ?_⟩
        obtain ⟨r, hr⟩ := get_of rfl hil
        obtain ⟨y, hy⟩ := get_of hyl hil
        have hyr := hle i
        rw [hy, whole_get, hr] at hyr
        simp only [Option.getD_some] at hyr
        have hr60 := H.ln r (List.mem_of_getElem? hr)
        have hown := H.O.ok i r hr
        refine c_for C (T := .one 7) (fun j e u => j ≤ y ∧ (∃ o4 o6 o7, e = [some (.d (encParts M)), some (.d (encHist h)), some (.d (.lst (ys.map nD))), some (.at 0), o4, some (.d (nD i)), o6, o7]) ∧ u = [.lst ((sentL M (flatN h ys h.length)).map nD)] ∧
            ∀ (j' : Nat) (d : Deed) (c k : Nat), j' < j → r[j']? = some d → remC M d = some (c, k) → k < (tk M h ys c).length)
          (c_range1 C T (by decide +kernel) (m := y) (ev_idx (by kts_caught) (by kts_caught) (idx_lst (f := nD) hy)) (by omega)) (c_tg1 C n7 (by decide +kernel)) ⟨Nat.zero_le _, ⟨_, _, _, rfl⟩, rfl, fun _ _ _ _ hp => absurd hp (Nat.not_lt_zero _)⟩ (fun _ _ _ _ => trivial) ?_ ?_
        · rintro j item e u hj ⟨hjm, ⟨o4, o6, o7, rfl⟩, rfl, hinv2⟩
          rw [List.getElem?_map] at hj
          cases hjr : (List.range y)[j]? with
          | none => rw [hjr] at hj; cases hj
          | some j' =>
            rw [hjr] at hj
            cases hj
            obtain ⟨hjl, hje⟩ := List.getElem?_eq_some_iff.mp hjr
            rw [List.getElem_range] at hje
            subst hje
            rw [List.length_range] at hjl
            refine ⟨_, rfl, ?_⟩
            obtain ⟨d, hd⟩ := get_of rfl (show j < r.length by omega)
            obtain ⟨hdd, hdo⟩ := hown d (List.mem_of_getElem? hd)
            have next : (∀ c k, remC M d = some (c, k) → k < (tk M h ys c).length) → ∀ (j' : Nat) (d : Deed) (c k : Nat), j' < j + 1 → r[j']? = some d → remC M d = some (c, k) → k < (tk M h ys c).length := fun hh j' d' c k hj' hd' hm => by
              by_cases e : j' = j
              · subst e
                rw [hd] at hd'; cases hd'
                exact hh c k hm
              · exact hinv2 j' d' c k (by omega) hd' hm
            refine c_set C n6 (by decide +kernel) (ε := .d (encDeed d)) (ev_idx (ε1 := .d (encR r)) (by kts_caught) (by kts_caught) (idx_tup (f := encDeed) hd)) ?_
            cases d with
            | act rr =>
              refine c_set C n4 (by decide +kernel) (ε := .d (nD rr)) (by top_name) ?_
              refine c_ifF0 (by top_reprB) ?_
              refine c_ifF0 (et_W (ew_andF (by top_reprB))) (go_nil ⟨hjl, ⟨_, _, _, rfl⟩, rfl, next fun c k hm => by cases hm⟩)
            | take rr k =>
              obtain ⟨⟨p0, s0, a0, s1⟩, c, t, hR, ha0⟩ := hdd
              simp only at ha0
              subst ha0
              have hrem : remC M (.take rr k) = some (c, k) := by simp [remC, hR]
              obtain ⟨Ch, hCh, _⟩ := rem_owner H.G hdo hrem
              have hcl := (List.getElem?_eq_some_iff.mp hCh).1
              refine c_set C n4 (by decide +kernel) (ε := .d (nD rr)) (by top_name) ?_
              refine c_ifT (by top_reprB) ?_
              refine c_set C n4 (by decide +kernel) (ε := .d (nD c)) (by top_name) (go_nil ?_)
              by_cases hk : (tk M h ys c).length ≤ k
              · refine c_ifT (et_W (ew_andT (by top_reprB) (ew_and1 (et_is (et_c (ε1 := .d (nD k)) (ε2 := .d (nD (tk M h ys c).length)) (by top_name) (ev_idx (by kts_caught) (by kts_caught) (idx_at (f := nD) rfl (htk c hcl))) cmp_ge) (decide_eq_true (by omega)))))) ?_
                exact c_retD (d := encPair (i, j)) (by top_name) (hwr i j r _ c k hr hd (by rw [hy]; exact hjl) hrem hk)
              · refine c_ifF0 (et_W (ew_andT (by top_reprB) (ew_and1 (et_is (et_c (ε1 := .d (nD k)) (ε2 := .d (nD (tk M h ys c).length)) (by top_name) (ev_idx (by kts_caught) (by kts_caught) (idx_at (f := nD) rfl (htk c hcl))) cmp_ge) (decide_eq_false (by omega)))))) (go_nil ⟨hjl, ⟨_, _, _, rfl⟩, rfl, next fun c' k' hm => ?_⟩)
                rw [hrem] at hm; cases hm
                omega
            | lose c k =>
              have hrem : remC M (.lose c k) = some (c, k) := rfl
              obtain ⟨Ch, hCh, _⟩ := rem_owner H.G hdo hrem
              have hcl := (List.getElem?_eq_some_iff.mp hCh).1
              refine c_set C n4 (by decide +kernel) (ε := .d (nD c)) (by top_name) ?_
              refine c_ifF0 (by top_reprB) ?_
              by_cases hk : (tk M h ys c).length ≤ k
              · refine c_ifT (et_W (ew_andT (by top_reprB) (ew_and1 (et_is (et_c (ε1 := .d (nD k)) (ε2 := .d (nD (tk M h ys c).length)) (by top_name) (ev_idx (by kts_caught) (by kts_caught) (idx_at (f := nD) rfl (htk c hcl))) cmp_ge) (decide_eq_true (by omega)))))) ?_
                exact c_retD (d := encPair (i, j)) (by top_name) (hwr i j r _ c k hr hd (by rw [hy]; exact hjl) hrem hk)
              · refine c_ifF0 (et_W (ew_andT (by top_reprB) (ew_and1 (et_is (et_c (ε1 := .d (nD k)) (ε2 := .d (nD (tk M h ys c).length)) (by top_name) (ev_idx (by kts_caught) (by kts_caught) (idx_at (f := nD) rfl (htk c hcl))) cmp_ge) (decide_eq_false (by omega)))))) (go_nil ⟨hjl, ⟨_, _, _, rfl⟩, rfl, next fun c' k' hm => ?_⟩)
                rw [hrem] at hm; cases hm
                omega
        · rintro e u ⟨hjm, ⟨o4, o6, o7, rfl⟩, rfl, hinv2⟩
          rw [List.length_map, List.length_range] at hinv2
          refine go_nil ⟨hil, ⟨_, _, _, _, rfl⟩, rfl, fun p j r' d c k hp hr' hd hj hm => ?_⟩
          by_cases e : p = i
          · subst e
            rw [hr] at hr'; cases hr'
            rw [hy] at hj
            exact hinv2 j d c k hj hd hm
          · exact hinv p j r' d c k (by omega) hr' hd hj hm
    · rintro e u ⟨him, ⟨o4, o5, o6, o7, rfl⟩, rfl, hinv⟩
      rw [List.length_map, List.length_range] at hinv
      refine c_retD (d := .non) ev_non (hcl fun c k hk => ?_)
      obtain ⟨p, j, r, d, h1, h2, h3, h4⟩ := gn_ex hk
      exact hinv p j r d c k (List.getElem?_eq_some_iff.mp h1).1 h1 h2 h3 h4
structure GL (M : Nt) (h : List (List Deed)) (pts : List (List Nat)) (fs ys : List Nat) : Prop where
  len : ys.length = h.length
  al : AllowedC h pts fs ys
  le : leL ys (whole h)
  ub : ∀ zs : List Nat, zs.length = h.length → AllowedC h pts fs zs → Closed M h zs → leL zs ys
def iniL (h : List (List Deed)) (pts : List (List Nat)) (fs : List Nat) : List Nat := (List.range h.length).map fun p => if p ∈ fs then (pts[p]?.getD []).getLast?.getD 0 else (h[p]?.getD []).length
theorem PtsOk.row {h : List (List Deed)} {pts : List (List Nat)} (ok : PtsOk h pts) {p : Nat} (hp : p < h.length) : ∃ a x, pts[p]? = some a ∧ h[p]? = some x ∧ RowOk a x.length := by
  obtain ⟨a, ha⟩ := get_of ok.len hp
  obtain ⟨x, hx⟩ := get_of rfl hp
  exact ⟨a, x, ha, hx, ok.ok (a, x) (List.mem_of_getElem? (i := p) (List.getElem?_zip_eq_some.mpr ⟨ha, hx⟩))⟩
theorem RowOk.ne {a : List Nat} {m : Nat} (R : RowOk a m) : a ≠ [] := fun e => by subst e; have := R.hd; cases this
theorem GL.init {M : Nt} {h : List (List Deed)} {pts : List (List Nat)} {fs : List Nat} (ok : PtsOk h pts) : GL M h pts fs (iniL h pts fs) := by
  have hg : ∀ p, p < h.length → (iniL h pts fs)[p]? = some (if p ∈ fs then (pts[p]?.getD []).getLast?.getD 0 else (h[p]?.getD []).length) := fun p hp => by unfold iniL; simp [hp]
  have hl : (iniL h pts fs).length = h.length := by unfold iniL; simp
  refine ⟨hl, fun p y hy => ?_, fun p => ?_, fun zs hz ha _ p => ?_⟩
  · have hp : p < h.length := by rw [← hl]; exact (List.getElem?_eq_some_iff.mp hy).1
    obtain ⟨a, x, h1, h2, R⟩ := ok.row hp
    rw [hg p hp] at hy
    cases hy
    by_cases hf : p ∈ fs
    · rw [if_pos hf, h1]
      simp only [Option.getD_some]
      rw [List.getLast?_eq_some_getLast R.ne]
      exact .inl (List.getLast_mem R.ne)
    · rw [if_neg hf]
      exact .inr ⟨hf, rfl⟩
  · rw [whole_get]
    by_cases hp : p < h.length
    · obtain ⟨a, x, h1, h2, R⟩ := ok.row hp
      rw [hg p hp, h1, h2]
      simp only [Option.getD_some]
      split
      · rw [List.getLast?_eq_some_getLast R.ne]
        exact R.le _ (List.getLast_mem R.ne)
      · exact Nat.le_refl _
    · rw [List.getElem?_eq_none (by omega)]
      exact Nat.zero_le _
  · by_cases hp : p < h.length
    · obtain ⟨a, x, h1, h2, R⟩ := ok.row hp
      obtain ⟨z, hz2⟩ := get_of hz hp
      rw [hg p hp, hz2, h1, h2]
      simp only [Option.getD_some]
      have := ha p z hz2
      rw [h1, h2] at this
      simp only [Option.getD_some] at this
      split
      · rename_i hf
        rcases this with h' | ⟨h', _⟩
        · exact last_le R.up h'
        · exact absurd hf h'
      · rcases this with h' | ⟨_, rfl⟩
        · exact R.le z h'
        · exact Nat.le_refl _
    · rw [List.getElem?_eq_none (by omega)]
      exact Nat.zero_le _
theorem GL.step {M : Nt} {h : List (List Deed)} {pts : List (List Nat)} {fs ys : List Nat} (H : HistOk M h) (ok : PtsOk h pts) (I : GL M h pts fs ys) {p i c k : Nat} {r : List Deed} {d : Deed} {a : List Nat}
    (hr : h[p]? = some r) (hd : r[i]? = some d) (hi : i < ys[p]?.getD 0) (hm : remC M d = some (c, k)) (hk : (tk M h ys c).length ≤ k) (ha : pts[p]? = some a) :
    (a.filter fun x => decide (x ≤ i)) ≠ [] ∧ (a.filter fun x => decide (x ≤ i)).getLast?.getD 0 ≤ i ∧ GL M h pts fs (ys.set p ((a.filter fun x => decide (x ≤ i)).getLast?.getD 0)) := by
  have hp := (List.getElem?_eq_some_iff.mp hr).1
  obtain ⟨a', x, h1, h2, R⟩ := ok.row hp
  rw [ha] at h1; cases h1
  rw [hr] at h2; cases h2
  have h0 : 0 ∈ a.filter fun x => decide (x ≤ i) := List.mem_filter.mpr ⟨List.mem_of_getElem? R.hd, by simp⟩
  have hne : (a.filter fun x => decide (x ≤ i)) ≠ [] := List.ne_nil_of_mem h0
  obtain ⟨v, hv⟩ : ∃ v, (a.filter fun x => decide (x ≤ i)).getLast?.getD 0 = v := ⟨_, rfl⟩
  have hvm : v ∈ a ∧ v ≤ i := by
    rw [List.getLast?_eq_some_getLast hne, Option.getD_some] at hv
    have := List.getLast_mem hne
    rw [hv, List.mem_filter, decide_eq_true_eq] at this
    exact this
  rw [hv]
  have hpy : p < ys.length := by rw [I.len]; exact hp
  have hg : ∀ q : Nat, (ys.set p v)[q]?.getD 0 = if q = p then v else ys[q]?.getD 0 := fun q => set_getD hpy
  refine ⟨hne, hvm.2, by rw [List.length_set]; exact I.len, fun q y hy => ?_, fun q => ?_, fun zs hz hal hc q => ?_⟩
  · by_cases e : p = q
    · subst e
      rw [List.getElem?_set_self hpy] at hy
      cases hy
      rw [ha]
      exact .inl hvm.1
    · rw [List.getElem?_set_ne e] at hy
      exact I.al q y hy
  · have := I.le q
    rw [hg]
    split
    · rename_i e
      subst e
      rw [whole_get, hr]
      have := (List.getElem?_eq_some_iff.mp hd).1
      simp only [Option.getD_some]
      omega
    · exact this
  · have hub := I.ub zs hz hal hc
    rw [hg]
    split
    · rename_i e
      subst e
      have hzi : zs[q]?.getD 0 ≤ i := Classical.byContradiction fun hlt => by
        have h3 := hc c k (gn_mem H.G (H.O.ok q r hr d (List.mem_of_getElem? hd)).2 hr hd hm (by omega))
        obtain ⟨s, hs⟩ := tk_le (M := M) (rows := h) hub c
        have := congrArg List.length hs
        rw [List.length_append] at this
        omega
      obtain ⟨z, hz2⟩ := get_of hz hp
      rw [hz2, Option.getD_some] at hzi ⊢
      rcases hal q z hz2 with h' | ⟨_, h'⟩
      · rw [ha, Option.getD_some] at h'
        rw [← hv]
        exact last_le (R.up.filter _) (List.mem_filter.mpr ⟨h', by simpa using hzi⟩)
      · rw [hr] at h'
        have := (List.getElem?_eq_some_iff.mp hd).1
        simp only [Option.getD_some] at h'
        omega
    · exact hub q
def PreLLine (ds : List D) (kk : D → Prop) : Prop := ∃ M h pts fs, HistOk M h ∧ (whole h).sum ≤ 60 ∧ PtsOk h pts ∧ ds = [encParts M, encHist h, encPts pts, .lst (fs.map nD)] ∧ ∀ ys, IsGA M h pts fs ys → kk (.tup (ys.map nD))
theorem w_law_line (T : Tx P w K mg base CN CS) : Fn P w K mg base "_law_line" 2 PreLLine := by
  have g1 := w_law_wrong T
  refine fn_p (N := ["_law_parts", "_law_told", "_law_points_here", "_law_failed", "_law_cut", "_law_p", "_law_turn", "_law_wrong_here", "_law_at_here", "_law_low", "_law_k"]) (ps := ["_law_parts", "_law_told", "_law_points_here", "_law_failed"]) T.d_law_line (fun _ _ _ _ _ _ us hl => match us, hl with | [_, _, _, _], _ => rfl) ⟨rfl, rfl, rfl, by decide +kernel, rfl, by decide +kernel, by decide +kernel⟩ (fun ds kk h => by obtain ⟨_, _, _, _, _, _, _, rfl, _⟩ := h; rfl) ?_
  intro X C hX ds kk h
  obtain ⟨N, hN⟩ : ∃ N, (["_law_parts", "_law_told", "_law_points_here", "_law_failed", "_law_cut", "_law_p", "_law_turn", "_law_wrong_here", "_law_at_here", "_law_low", "_law_k"] : List Str) = N := ⟨_, rfl⟩
  rw [hN] at C
  have n0 : N[0]? = some ("_law_parts" : Str) := by rw [← hN] <;> rfl
  have n1 : N[1]? = some ("_law_told" : Str) := by rw [← hN] <;> rfl
  have n2 : N[2]? = some ("_law_points_here" : Str) := by rw [← hN] <;> rfl
  have n3 : N[3]? = some ("_law_failed" : Str) := by rw [← hN] <;> rfl
  have n4 : N[4]? = some ("_law_cut" : Str) := by rw [← hN] <;> rfl
  have n5 : N[5]? = some ("_law_p" : Str) := by rw [← hN] <;> rfl
  have n6 : N[6]? = some ("_law_turn" : Str) := by rw [← hN] <;> rfl
  have n7 : N[7]? = some ("_law_wrong_here" : Str) := by rw [← hN] <;> rfl
  have n8 : N[8]? = some ("_law_at_here" : Str) := by rw [← hN] <;> rfl
  have n9 : N[9]? = some ("_law_low" : Str) := by rw [← hN] <;> rfl
  have n10 : N[10]? = some ("_law_k" : Str) := by rw [← hN] <;> rfl
  obtain ⟨M, h, pts, fs, H, hsm, ok, rfl, hk⟩ := h
  have l3 := H.p3
  have lpt := ok.len
  refine c_setN C n4 (by decide +kernel) (en_lst ea_nil rfl (by decide)) ?_
  refine c_for C (T := .one 5) (fun i e u => i ≤ h.length ∧ (∃ o5, e = [some (.d (encParts M)), some (.d (encHist h)), some (.d (encPts pts)), some (.d (.lst (fs.map nD))), some (.at 0), o5, none, none, none, none, none]) ∧ u = [.lst (((iniL h pts fs).take i).map nD)])
    (c_range1 C T (by decide +kernel) (m := h.length) (ev_is (by kts_caught) (by simp)) (by omega)) (c_tg1 C n5 (by decide +kernel)) ⟨Nat.zero_le _, ⟨_, rfl⟩, rfl⟩ (fun _ _ _ _ => trivial) ?_ ?_
  · rintro i item e u hi ⟨him, ⟨o5, rfl⟩, rfl⟩
    rw [List.getElem?_map] at hi
    cases hir : (List.range h.length)[i]? with
    | none => rw [hir] at hi; cases hi
    | some i' =>
      rw [hir] at hi
      cases hi
      obtain ⟨hil, hie⟩ := List.getElem?_eq_some_iff.mp hir
      rw [List.getElem_range] at hie
      subst hie
      rw [List.length_range] at hil
      refine ⟨_, rfl, ?_⟩
      obtain ⟨a, x, ha, hx, R⟩ := ok.row hil
      have hini : (iniL h pts fs)[i]? = some (if i ∈ fs then a.getLast?.getD 0 else x.length) := by unfold iniL; rw [List.getElem?_map, List.getElem?_range hil, Option.map_some, ha, hx]; rfl
      have htk : ((iniL h pts fs).take i).map nD ++ [nD (if i ∈ fs then a.getLast?.getD 0 else x.length)] = ((iniL h pts fs).take (i + 1)).map nD := by rw [List.take_add_one, hini, List.map_append]; rfl
      have hal : 0 < a.length := List.length_pos_iff.mpr R.ne
      have hln := R.ln
      have hll : a[a.length - 1]? = some (a.getLast?.getD 0) := by rw [← List.getLast?_eq_getElem?, List.getLast?_eq_some_getLast R.ne]; rfl
      refine go_cons (go_app (d := nD (if i ∈ fs then a.getLast?.getD 0 else x.length)) C.B (by kts_caught) rfl (by intro _ _; rfl) ?_ (by rw [List.length_map, List.length_take]; omega) (go_nil ⟨hil, ⟨_, rfl⟩, by rw [← htk]; rfl⟩))
      by_cases hf : i ∈ fs
      · rw [if_pos hf]
        exact ev_ifT (et_is (et_c (by kts_caught) (by kts_caught) (cmp_inIM (z := i) (f := fun x : Nat => x) (xs := fs) rfl)) (by rw [List.map_id']; exact decide_eq_true hf)) (ev_idx (ε1 := .d (.lst (a.map nD))) (ev_idx (by kts_caught) (by kts_caught) (idx_lst (f := fun r : List Nat => .lst (r.map nD)) ha)) (ev_is (ev_subI (ev_is (c_len C T (by decide +kernel) (ev_idx (by kts_caught) (by kts_caught) (idx_lst (f := fun r : List Nat => .lst (r.map nD)) ha)) rfl) (show _ = E.d (nD a.length) by simp)) ev_int) (show _ = E.d (nD (a.length - 1)) from intD (by omega))) (idx_lst (f := nD) hll))
      · rw [if_neg hf]
        exact ev_ifF (et_is (et_c (by kts_caught) (by kts_caught) (cmp_inIM (z := i) (f := fun x : Nat => x) (xs := fs) rfl)) (by rw [List.map_id']; exact decide_eq_false hf)) (ev_is (c_len C T (by decide +kernel) (ev_idx (by kts_caught) (by kts_caught) (idx_tup (f := encR) hx)) rfl) (by simp))
  · rintro e u ⟨him, ⟨o5, rfl⟩, rfl⟩
    rw [List.length_map, List.length_range, show (iniL h pts fs).take h.length = iniL h pts fs from List.take_of_length_le (by unfold iniL; simp)]
    have hI : GL M h pts fs (iniL h pts fs) := GL.init ok
    refine c_for C (T := .one 6) (fun i e u => ∃ ys gs, (∃ o5 o6 o7 o8 o9, e = [some (.d (encParts M)), some (.d (encHist h)), some (.d (encPts pts)), some (.d (.lst (fs.map nD))), some (.at 0), o5, o6, o7, o8, o9, none]) ∧ u = .lst (ys.map nD) :: gs ∧ GL M h pts fs ys ∧ i + ys.sum ≤ 60)
      (c_range1 C T (by decide +kernel) (m := 200) ev_int (by omega)) (c_tg1 C n6 (by decide +kernel)) ⟨_, [], ⟨_, _, _, _, _, rfl⟩, rfl, hI, by have := sum_le (a := iniL h pts fs) (b := whole h) (by rw [hI.len]; simp [whole]) hI.le; omega⟩ (fun _ _ _ _ => trivial) ?_ ?_
    · rintro i item e u hi ⟨ys, gs, ⟨o5, o6, o7, o8, o9, rfl⟩, rfl, I, hsum⟩
      rw [List.getElem?_map] at hi
      cases hir : (List.range 200)[i]? with
      | none => rw [hir] at hi; cases hi
      | some i' =>
        rw [hir] at hi
        cases hi
        refine ⟨_, rfl, ?_⟩
        refine c_setP C n7 (by decide +kernel) (Q := fun d => (d = .non ∧ Closed M h ys) ∨ ∃ (p i : Nat) (r : List Deed) (dd : Deed) (c k : Nat), h[p]? = some r ∧ r[i]? = some dd ∧ i < ys[p]?.getD 0 ∧ remC M dd = some (c, k) ∧ (tk M h ys c).length ≤ k ∧ d = encPair (p, i))
          (c_callPL C g1 (by decide) (by decide +kernel) (ds := [encParts M, encHist h, .lst (ys.map nD)]) (εs := [.d (encParts M), .d (encHist h), .at 0]) (by k_caught0) rfl (fun d hd => ?_) (fun k hq => ⟨M, h, ys, H, I.len, I.le, rfl, fun hc => hq _ (.inl ⟨rfl, hc⟩), fun p i r d c k' h1 h2 h3 h4 h5 => hq _ (.inr ⟨p, i, r, d, c, k', h1, h2, h3, h4, h5, rfl⟩)⟩)) ?_
        · rcases hd with ⟨rfl, _⟩ | ⟨p, i, _, _, _, _, _, _, _, _, _, rfl⟩ <;> rfl
        rintro d (⟨rfl, hcl⟩ | ⟨p, at_, r, dd, c, k, h1, h2, h3, h4, h5, rfl⟩)
        · refine c_ifT (et_is (et_c (ε1 := .d .non) (by top_name) (by kts_caught) cmp_isN) rfl) ?_
          refine go_cons (go_break ?_)
          exact c_retD (c_tup C T (by decide +kernel) (by kts_caught) rfl) (hk ys ⟨I.len, I.al, hcl, I.ub⟩)
        · refine c_ifF0 (et_is (et_c (ε1 := .d (encPair (p, at_))) (by top_name) (by kts_caught) cmp_isN) rfl) ?_
          refine c_unp C (nt_cons C n5 (by decide +kernel) (nt_cons C n8 (by decide +kernel) nt_nil)) (ds := [nD p, nD at_]) (by top_name) rfl ?_
          have hp := (List.getElem?_eq_some_iff.mp h1).1
          obtain ⟨a, x, ha, hx, R⟩ := ok.row hp
          obtain ⟨hne, hv1, I2⟩ := I.step H ok h1 h2 h3 h4 h5 ha
          obtain ⟨y, hy⟩ := get_of I.len hp
          rw [hy, Option.getD_some] at h3
          have hln := R.ln
          refine c_setC C hN (T := .one 10) (own := [("_law_k", 10)]) (xs := a) (f := fun k => .one (.d (nD k))) (fun k => decide (k ≤ at_)) (fun k => nD k) n9 (by decide +kernel) (ei_lstM (ev_idx (by kts_caught) (by kts_caught) (idx_lst (f := fun r : List Nat => .lst (r.map nD)) ha))) trivial (by decide +kernel) (by decide +kernel) (fun X' C' => c_tg1 C' n10 (by decide +kernel)) (by omega) (fun k hk => ⟨_, rfl, fun X' C' => ⟨ets_one (et_is (et_c (ε1 := .d (nD k)) (ε2 := .d (nD at_)) (by kts_caught) (by kts_caught) cmp_le) (nle _ _)), fun _ => by kts_caught⟩⟩) ?_
          obtain ⟨lo, hlo⟩ : ∃ lo, a.filter (fun x => decide (x ≤ at_)) = lo := ⟨_, rfl⟩
          rw [hlo] at hne hv1 I2
          rw [hlo]
          have hll : lo[lo.length - 1]? = some (lo.getLast?.getD 0) := by rw [← List.getLast?_eq_getElem?, List.getLast?_eq_some_getLast hne]; rfl
          have hlpos := List.length_pos_iff.mpr hne
          have hkk : ∀ {m : MO}, ((MO.lst (ys.map nD) :: gs) ++ [m])[(MO.lst (ys.map nD) :: gs).length]? = some m := List.getElem?_concat_length
          refine go_cons (go_setIx (k := 0) (j := p) (d := nD (lo.getLast?.getD 0)) (by kts_caught) rfl (by kts_caught) (by rw [List.length_map]; exact ixN_nat (by rw [I.len]; exact hp)) (ev_idx (by kts_caught) (ev_is (ev_subI (ev_is (c_len C T (by decide +kernel) (by kts_caught) (len_at hkk)) (show _ = E.d (nD lo.length) by simp)) ev_int) (show _ = E.d (nD (lo.length - 1)) from intD (by omega))) (idx_hd (f := nD) hkk hll)) (go_nil ?_))
          refine ⟨ys.set p (lo.getLast?.getD 0), gs ++ [.lst (lo.map nD)], ⟨_, _, _, _, _, rfl⟩, by rw [List.map_set]; rfl, I2, ?_⟩
          have := sum_set_lt hy (v := lo.getLast?.getD 0) (by omega)
          omega
    · rintro e u ⟨ys, gs, _, _, _, hsum⟩
      rw [List.length_map, List.length_range] at hsum
      omega
def ownP (M : Nt) (p : Nat) (d : Deed) : Bool := decide (owner M d = some p)
def stL (M : Nt) (l : List Deed) : List Nat := (List.range M.ps.length).map fun p => stOf M (l.filter (ownP M p))
def tokR (M : Nt) (l : List Deed) (c : Nat) : List D := (toks M c l).zipIdx.map fun q => encPair (q.2, q.1)
def tokL (M : Nt) (l : List Deed) : List (List D) := (List.range M.cs.length).map (tokR M l)
def gonL (M : Nt) (l : List Deed) : List (Nat × Nat) := l.filterMap (remC M)
theorem stL_no {M : Nt} {l : List Deed} {d : Deed} (h : stpC M d = none) : stL M (l ++ [d]) = stL M l := by
  unfold stL
  refine map_range_ext fun p _ => ?_
  rw [List.filter_append]
  cases e : ownP M p d with
  | false => rw [List.filter_cons_of_neg (by simp [e])]; simp
  | true => rw [List.filter_cons_of_pos (by simp [e]), List.filter_nil, stOf_snoc, h]; rfl
theorem stL_yes {M : Nt} {l : List Deed} {d : Deed} {p s : Nat} (ho : owner M d = some p) (h : stpC M d = some s) : stL M (l ++ [d]) = (stL M l).set p s := by
  unfold stL
  refine map_range_set (fun i _ hi => ?_) (fun _ => ?_)
  · rw [List.filter_append, List.filter_cons_of_neg (by unfold ownP; rw [ho]; simp [Ne.symm hi])]; simp
  · rw [List.filter_append, List.filter_cons_of_pos (by unfold ownP; rw [ho]; simp), List.filter_nil, stOf_snoc, h]; rfl
theorem tokL_no {M : Nt} {l : List Deed} {d : Deed} (h : sndC M d = none) : tokL M (l ++ [d]) = tokL M l := by
  unfold tokL
  refine map_range_ext fun c _ => ?_
  unfold tokR
  rw [toks_app, toks_one, h]
  simp [onC]
theorem tokL_yes {M : Nt} {l : List Deed} {d : Deed} {c t : Nat} (h : sndC M d = some (c, t)) : tokL M (l ++ [d]) = (tokL M l).set c (tokR M l c ++ [encPair ((toks M c l).length, t)]) := by
  unfold tokL
  refine map_range_set (fun i _ hi => ?_) (fun _ => ?_)
  · unfold tokR; rw [toks_app, toks_one, h, onC_ne (Ne.symm hi)]; simp
  · unfold tokR; rw [toks_app, toks_one, h, onC_some, List.zipIdx_append, List.map_append]; simp
theorem tokL_get {M : Nt} {l : List Deed} {c : Nat} (hc : c < M.cs.length) : (tokL M l)[c]? = some (tokR M l c) := by unfold tokL; rw [List.getElem?_map, List.getElem?_range hc]; rfl
theorem gonL_no {M : Nt} {l : List Deed} {d : Deed} (h : remC M d = none) : gonL M (l ++ [d]) = gonL M l := by unfold gonL; rw [List.filterMap_append]; simp [h]
theorem gonL_yes {M : Nt} {l : List Deed} {d : Deed} {q : Nat × Nat} (h : remC M d = some q) : gonL M (l ++ [d]) = gonL M l ++ [q] := by unfold gonL; rw [List.filterMap_append]; simp [h]
theorem filt_flat {M : Nt} {h : List (List Deed)} (O : Owned M h) {ys : List Nat} {p : Nat} : ∀ i, (flatN h ys i).filter (ownP M p) = if p < i then px h ys p else [] := by
  intro i
  induction i with
  | zero => rfl
  | succ i ih =>
    have own : ∀ d ∈ px h ys i, owner M d = some i := fun d hd => by
      unfold px at hd
      cases hr : h[i]? with
      | none => rw [hr] at hd; simp at hd
      | some r => rw [hr] at hd; exact (O.ok i r hr d (List.mem_of_mem_take hd)).2
    rw [flatN_succ, List.filter_append, ih]
    by_cases e : p = i
    · subst e
      rw [if_neg (Nat.lt_irrefl _), if_pos (Nat.lt_succ_self _), List.nil_append]
      exact List.filter_eq_self.mpr fun d hd => by unfold ownP; rw [own d hd]; simp
    · have hz : (px h ys i).filter (ownP M p) = [] := List.filter_eq_nil_iff.mpr fun d hd => by unfold ownP; rw [own d hd]; simp [Ne.symm e]
      rw [hz, List.append_nil]
      by_cases h1 : p < i
      · rw [if_pos h1, if_pos (by omega)]
      · rw [if_neg h1, if_neg (by omega)]
theorem stL_all {M : Nt} {h : List (List Deed)} (O : Owned M h) {ys : List Nat} : stL M (flatN h ys h.length) = (List.range M.ps.length).map fun p => stOf M (px h ys p) := by
  unfold stL
  refine map_range_ext fun p hp => ?_
  rw [filt_flat O, if_pos (by rw [O.len]; exact hp)]
theorem gonL_all {M : Nt} {h : List (List Deed)} (G : GoodN M) (O : Owned M h) {ys : List Nat} {c k : Nat} : (c, k) ∈ gonL M (flatN h ys h.length) ↔ k ∈ gn M h ys c := by
  unfold gonL
  rw [List.mem_filterMap]
  constructor
  · rintro ⟨d, hd, hm⟩
    unfold flatN at hd
    obtain ⟨p, hp, hd⟩ := List.mem_flatMap.mp hd
    unfold px at hd
    cases hr : h[p]? with
    | none => rw [hr] at hd; simp at hd
    | some r =>
      rw [hr, Option.getD_some] at hd
      obtain ⟨j, hj, hdj⟩ := List.mem_iff_getElem.mp hd
      rw [List.length_take] at hj
      rw [List.getElem_take] at hdj
      have hd2 : r[j]? = some d := by rw [← hdj]; exact List.getElem?_eq_getElem _
      exact gn_mem G (O.ok p r hr d (List.mem_of_getElem? hd2)).2 hr hd2 hm (by omega)
  · intro hk
    obtain ⟨p, j, r, d, h1, h2, h3, h4⟩ := gn_ex hk
    refine ⟨d, ?_, h4⟩
    unfold flatN
    refine List.mem_flatMap.mpr ⟨p, List.mem_range.mpr (List.getElem?_eq_some_iff.mp h1).1, ?_⟩
    unfold px
    rw [h1, Option.getD_some]
    have : (r.take (ys[p]?.getD 0))[j]? = some d := by rw [List.getElem?_take, if_pos h3]; exact h2
    exact List.mem_of_getElem? this
def muA (M : Nt) (l : List Deed) : List MO := [.lst ((stL M l).map nD), .lst ((sentL M l).map nD), .lol (tokL M l), .lst ((gonL M l).map encPair)]
def PreAt (ds : List D) (kk : D → Prop) : Prop := ∃ M h ys, HistOk M h ∧ (whole h).sum ≤ 60 ∧ ys.length = h.length ∧ leL ys (whole h) ∧ Closed M h ys ∧ ds = [encParts M, encHist h, .tup (ys.map nD)] ∧ kk (encWd (atW M h ys))
theorem flat_len {h : List (List Deed)} {ys : List Nat} : ∀ i, (flatN h ys i).length ≤ ((whole h).take i).sum := by
  intro i
  induction i with
  | zero => exact Nat.zero_le _
  | succ i ih =>
    rw [flatN_succ, List.length_append]
    by_cases hi : i < h.length
    · rw [List.take_add_one, show (whole h)[i]? = some h[i].length by unfold whole; simp [hi], Option.toList_some, List.sum_append]
      unfold px
      rw [List.getElem?_eq_getElem hi, Option.getD_some, List.length_take]
      simp only [List.sum_cons, List.sum_nil]
      omega
    · unfold px
      rw [show h[i]? = none from List.getElem?_eq_none (by omega)]
      have : ((whole h).take i).sum ≤ ((whole h).take (i + 1)).sum := by rw [List.take_add_one, List.sum_append]; omega
      simp
      omega
theorem w_law_at (T : Tx P w K mg base CN CS) : Fn P w K mg base "_law_at" 1 PreAt := by
  refine fn_p (N := ["_law_parts", "_law_told", "_law_cut", "_law_states", "_law_one", "_law_sent", "_law_tokens", "_law_gone", "_law_p", "_law_deed", "_law_act", "_law_present", "_law_c", "_law_pair"]) (ps := ["_law_parts", "_law_told", "_law_cut"]) T.d_law_at (fun _ _ _ _ _ _ us hl => match us, hl with | [_, _, _], _ => rfl) ⟨rfl, rfl, rfl, by decide +kernel, rfl, by decide +kernel, by decide +kernel⟩ (fun ds kk h => by obtain ⟨_, _, _, _, _, _, _, _, rfl, _⟩ := h; rfl) ?_
  intro X C hX ds kk h
  obtain ⟨N, hN⟩ : ∃ N, (["_law_parts", "_law_told", "_law_cut", "_law_states", "_law_one", "_law_sent", "_law_tokens", "_law_gone", "_law_p", "_law_deed", "_law_act", "_law_present", "_law_c", "_law_pair"] : List Str) = N := ⟨_, rfl⟩
  rw [hN] at C
  have n0 : N[0]? = some ("_law_parts" : Str) := by rw [← hN] <;> rfl
  have n1 : N[1]? = some ("_law_told" : Str) := by rw [← hN] <;> rfl
  have n2 : N[2]? = some ("_law_cut" : Str) := by rw [← hN] <;> rfl
  have n3 : N[3]? = some ("_law_states" : Str) := by rw [← hN] <;> rfl
  have n4 : N[4]? = some ("_law_one" : Str) := by rw [← hN] <;> rfl
  have n5 : N[5]? = some ("_law_sent" : Str) := by rw [← hN] <;> rfl
  have n6 : N[6]? = some ("_law_tokens" : Str) := by rw [← hN] <;> rfl
  have n7 : N[7]? = some ("_law_gone" : Str) := by rw [← hN] <;> rfl
  have n8 : N[8]? = some ("_law_p" : Str) := by rw [← hN] <;> rfl
  have n9 : N[9]? = some ("_law_deed" : Str) := by rw [← hN] <;> rfl
  have n10 : N[10]? = some ("_law_act" : Str) := by rw [← hN] <;> rfl
  have n11 : N[11]? = some ("_law_present" : Str) := by rw [← hN] <;> rfl
  have n12 : N[12]? = some ("_law_c" : Str) := by rw [← hN] <;> rfl
  have n13 : N[13]? = some ("_law_pair" : Str) := by rw [← hN] <;> rfl
  obtain ⟨M, h, ys, H, hsm, hyl, hle, hcl, rfl, hk⟩ := h
  have l3 := H.p3
  have lP := H.O.len
  have lc := H.G.c4
  have hfl : ∀ i, (flatN h ys i).length ≤ 60 := fun i => by
    have := flat_len (h := h) (ys := ys) i
    have h2 : ((whole h).take i).sum ≤ (whole h).sum := by
      conv => rhs; rw [← List.take_append_drop i (whole h)]
      rw [List.sum_append]; omega
    omega
  refine c_setCm C hN (T := .one 4) (own := [("_law_one", 4)]) (xs := M.ps) (f := fun x => .one (.d (encProc x))) (fun _ => nD 0) n3 (by decide +kernel) (ei_lstM (by top_name)) trivial (by decide +kernel) (by decide +kernel) (fun X' C' => c_tg1 C' n4 (by decide +kernel)) (by omega) (fun x hx => ⟨_, rfl, fun X' C' => by top_name⟩) ?_
  refine c_setNc C n5 (by decide +kernel) (by decide +kernel) (en_cm C hN (T := .one 4) (own := [("_law_one", 4)]) (xs := M.cs) (f := fun x => .one (.d (encChan x))) (fun _ => nD 0) (ei_lstM (by top_name)) trivial (by decide +kernel) (by decide +kernel) (fun X' C' => c_tg1 C' n4 (by decide +kernel)) (by omega) (fun x hx => ⟨_, rfl, fun X' C' => by top_name⟩)) ?_
  refine c_setCL C hN (T := .one 4) (own := [("_law_one", 4)]) (xs := M.cs) (f := fun x => .one (.d (encChan x))) (fun _ => ([] : List D)) n6 (by decide +kernel) (ei_lstM (by top_name)) trivial (by decide +kernel) (by decide +kernel) (fun X' C' => c_tg1 C' n4 (by decide +kernel)) (by omega) (fun x hx => ⟨_, rfl, fun X' C' => en_lst ea_nil rfl (by decide)⟩) ?_
  refine c_setN C n7 (by decide +kernel) (en_lst ea_nil rfl (by decide)) ?_
  refine c_for C (T := .one 8) (fun i e u => (∃ o8 o9 o10, e = [some (.d (encParts M)), some (.d (encHist h)), some (.d (.tup (ys.map nD))), some (.at 0), none, some (.at 1), some (.at 2), some (.at 3), o8, o9, o10, none, none, none]) ∧ u = muA M (flatN h ys i))
    (c_range1 C T (by decide +kernel) (m := h.length) (ev_is (by kts_caught) (by simp)) (by omega)) (c_tg1 C n8 (by decide +kernel)) ⟨⟨_, _, _, rfl⟩, ?_⟩ (fun _ _ _ _ => trivial) ?_ ?_
  · have z1 : (M.ps.map fun _ => nD 0) = (stL M []).map nD := by
      unfold stL
      apply List.ext_getElem?
      intro i
      by_cases hi : i < M.ps.length
      · simp [hi, stOf]
      · simp [hi]
    have z2 : (M.cs.map fun _ => nD 0) = (sentL M []).map nD := by
      unfold sentL
      apply List.ext_getElem?
      intro i
      by_cases hi : i < M.cs.length
      · simp [hi, toks]
      · simp [hi]
    have z3 : (M.cs.map fun _ => ([] : List D)) = tokL M [] := by
      unfold tokL
      apply List.ext_getElem?
      intro i
      by_cases hi : i < M.cs.length
      · simp [hi, tokR, toks]
      · simp [hi]
    rw [z1, z2, z3]
    rfl
  · rintro i item e u hi ⟨⟨o8, o9, o10, rfl⟩, rfl⟩
    rw [List.getElem?_map] at hi
    cases hir : (List.range h.length)[i]? with
    | none => rw [hir] at hi; cases hi
    | some i' =>
      rw [hir] at hi
      cases hi
      obtain ⟨hil, hie⟩ := List.getElem?_eq_some_iff.mp hir
      rw [List.getElem_range] at hie
      subst hie
      rw [List.length_range] at hil
      refine ⟨_, rfl, ?_⟩
      obtain ⟨r, hr⟩ := get_of rfl hil
      obtain ⟨y, hy⟩ := get_of hyl hil
      have hyr := hle i
      rw [hy, whole_get, hr] at hyr
      simp only [Option.getD_some] at hyr
      have hown := H.O.ok i r hr
      have hpx := px_get hr hy
      have hip : i < M.ps.length := by rw [← H.O.len]; exact hil
      have hfl2 := hfl (i + 1)
      rw [flatN_succ, hpx] at hfl2
      refine c_for C (T := .one 9) (fun j e u => (∃ o9 o10, e = [some (.d (encParts M)), some (.d (encHist h)), some (.d (.tup (ys.map nD))), some (.at 0), none, some (.at 1), some (.at 2), some (.at 3), some (.d (nD i)), o9, o10, none, none, none]) ∧ u = muA M (flatN h ys i ++ (r.take y).take j))
        (ei_tupM (xs := r.take y) (f := encDeed) (ev_is (ev_slT (ds := r.map encDeed) (ev_idx (by kts_caught) (by kts_caught) (idx_tup (f := encR) hr)) eo_none (eo_some (ev_idx (ε := .d (nD y)) (by kts_caught) (by kts_caught) (idx_tup (f := nD) hy)))) (by rw [cut_to (by rw [List.length_map]; exact hyr), List.map_take]))) (c_tg1 C n9 (by decide +kernel)) ⟨⟨_, _, rfl⟩, by rw [List.take_zero, List.append_nil]⟩ (fun _ _ _ _ => trivial) ?_ ?_
      · rintro j item e u hj ⟨⟨o9, o10, rfl⟩, rfl⟩
        rw [List.getElem?_map] at hj
        cases hd : (r.take y)[j]? with
        | none => rw [hd] at hj; cases hj
        | some d =>
          rw [hd] at hj
          cases hj
          refine ⟨_, rfl, ?_⟩
          obtain ⟨hdd, hdo⟩ := hown d (List.mem_of_mem_take (List.mem_of_getElem? hd))
          have htk : (r.take y).take (j + 1) = (r.take y).take j ++ [d] := by rw [List.take_add_one, hd]; rfl
          have hll : (flatN h ys i ++ (r.take y).take j).length ≤ 60 := by
            rw [List.length_append] at hfl2 ⊢
            have := List.length_take_le j (r.take y)
            rw [List.length_take (i := j)]
            omega
          rw [htk, ← List.append_assoc]
          generalize flatN h ys i ++ (r.take y).take j = l at hll
          have hgl : (gonL M l).length ≤ 60 := Nat.le_trans (List.length_filterMap_le _ _) hll
          have hsl : (stL M l).length = M.ps.length := by unfold stL; simp
          cases d with
          | lose c k =>
            refine c_ifT (by top_reprB) ?_
            refine go_cons (go_app (k := 3) (d := encPair (c, k)) C.B (by kts_caught) rfl (by intro _ _; rfl) (by top_name) (by rw [List.length_map]; omega) (go_cons (go_continue ⟨⟨_, _, rfl⟩, ?_⟩)))
            unfold muA
            rw [stL_no (d := .lose c k) rfl, sentL_no (d := .lose c k) rfl, tokL_no (d := .lose c k) rfl, gonL_yes (d := .lose c k) (q := (c, k)) rfl, List.map_append]
            rfl
          | take rr k =>
            obtain ⟨⟨p0, s0, a0, s1⟩, c, t, hR, ha0⟩ := hdd
            simp only at ha0
            subst ha0
            have e1 : stpC M (.take rr k) = some s1 := by simp [stpC, hR]
            have e2 : sndC M (.take rr k) = none := rfl
            have e3 : remC M (.take rr k) = some (c, k) := by simp [remC, hR]
            refine c_ifF0 (by top_reprB) ?_
            refine c_set C n10 (by decide +kernel) (ε := .d (encAct (.take c t))) (by top_name) ?_
            refine go_cons (go_setIx (k := 0) (j := i) (d := nD s1) (by kts_caught) rfl (by kts_caught) (by rw [List.length_map]; exact ixN_nat (by rw [hsl]; exact hip)) (by top_name) ?_)
            refine c_ifF (by top_reprB) ?_
            refine c_ifT (by top_reprB) ?_
            refine go_cons (go_app (k := 3) (d := encPair (c, k)) C.B (by kts_caught) rfl (by intro _ _; rfl) (by top_name) (by rw [List.length_map]; omega) (go_nil (go_nil (go_nil ⟨⟨_, _, rfl⟩, ?_⟩))))
            unfold muA
            rw [stL_yes hdo e1, sentL_no e2, tokL_no e2, gonL_yes e3, List.map_append, List.map_set]
            rfl
          | act rr =>
            obtain ⟨⟨p0, s0, a0, s1⟩, hR, ha0⟩ := hdd
            have e1 : stpC M (.act rr) = some s1 := by simp [stpC, hR]
            have e3 : remC M (.act rr) = none := rfl
            refine c_ifF0 (by top_reprB) ?_
            cases a0 with
            | take c t => exact absurd rfl (ha0 c t)
            | nop =>
              have e2 : sndC M (.act rr) = none := by simp [sndC, hR]
              refine c_set C n10 (by decide +kernel) (ε := .d (encAct .nop)) (by top_name) ?_
              refine go_cons (go_setIx (k := 0) (j := i) (d := nD s1) (by kts_caught) rfl (by kts_caught) (by rw [List.length_map]; exact ixN_nat (by rw [hsl]; exact hip)) (by top_name) ?_)
              refine c_ifF (by top_reprB) ?_
              refine c_ifF0 (by top_reprB) (go_nil (go_nil ⟨⟨_, _, rfl⟩, ?_⟩))
              unfold muA
              rw [stL_yes hdo e1, sentL_no e2, tokL_no e2, gonL_no e3, List.map_set]
              rfl
            | send c t =>
              have e2 : sndC M (.act rr) = some (c, t) := by simp [sndC, hR]
              have hcl2 := snd_lt H.G (d := .act rr) ⟨_, hR, ha0⟩ e2
              have htl : (toks M c l).length ≤ 60 := Nat.le_trans (by unfold toks; exact List.length_filterMap_le _ _) hll
              refine c_set C n10 (by decide +kernel) (ε := .d (encAct (.send c t))) (by top_name) ?_
              refine go_cons (go_setIx (k := 0) (j := i) (d := nD s1) (by kts_caught) rfl (by kts_caught) (by rw [List.length_map]; exact ixN_nat (by rw [hsl]; exact hip)) (by top_name) ?_)
              refine c_ifT (by top_reprB) ?_
              refine go_cons (go_appS (k := 2) (j := c) (d := encPair ((toks M c l).length, t)) C.B (ev_idx (ε2 := .d (nD c)) (by kts_caught) (by top_name) (idx_lol rfl (by unfold tokL; simp; exact hcl2))) rfl (tokL_get hcl2) (by intro _ _; rfl) (ev_is (ev_tup (ea_cons (ev_idx (ε2 := .d (nD c)) (by kts_caught) (by top_name) (idx_at (f := nD) rfl (sentL_get hcl2))) (ea_cons (ε := .d (nD t)) (by top_name) ea_nil)) rfl (Nat.le_of_ble_eq_true rfl)) rfl) (by unfold tokR; rw [List.length_map, List.length_zipIdx]; omega) ?_)
              refine go_cons (go_setIx (k := 1) (j := c) (d := nD ((toks M c l).length + 1)) (by kts_caught) rfl (by top_name) (by rw [List.length_map]; exact ixN_nat (by unfold sentL; simp; exact hcl2)) (ev_is (ev_add (ev_idx (ε2 := .d (nD c)) (by kts_caught) (by top_name) (idx_at (f := nD) rfl (sentL_get hcl2))) ev_int) rfl) (go_nil (go_nil ⟨⟨_, _, rfl⟩, ?_⟩)))
              unfold muA
              rw [stL_yes hdo e1, sentL_yes e2, tokL_yes e2, gonL_no e3, List.map_set, List.map_set]
              rfl
      · rintro e u ⟨⟨o9, o10, rfl⟩, rfl⟩
        refine go_nil ⟨⟨_, _, _, rfl⟩, ?_⟩
        rw [List.length_map, List.take_length, flatN_succ, hpx]
  · rintro e u ⟨⟨o8, o9, o10, rfl⟩, rfl⟩
    rw [List.length_map, List.length_range]
    have hl60 := hfl h.length
    have hga := @gonL_all M h H.G H.O ys
    have hta := @toks_all M h H.G H.O ys
    have hsa := @stL_all M h H.O ys
    generalize flatN h ys h.length = l at hl60 hga hta hsa
    have hgl : (gonL M l).length ≤ 60 := Nat.le_trans (List.length_filterMap_le _ _) hl60
    have hgc : ∀ q ∈ gonL M l, q.1 < M.cs.length := fun q hq => by
      have := hga.mp hq
      unfold gn at this
      refine Classical.byContradiction fun hc => ?_
      rw [List.getElem?_eq_none (by omega)] at this
      cases this
    refine c_ifF0 (et_is (et_c (ε1 := .d (nD ((gonL M l).filter fun q => decide ((toks M q.1 l).length ≤ q.2)).length)) (ε2 := .d (.int 0)) (ev_is (c_len C T (by decide +kernel) (EvN.ev (en_c C hN (T := .one 4) (own := [("_law_one", 4)]) (xs := gonL M l) (f := fun q => .one (.d (encPair q))) (fun q => decide ((toks M q.1 l).length ≤ q.2)) (fun q => encPair q) (ei_ownM (j := 3) (by kts_caught) rfl) rfl (by decide +kernel) (by decide +kernel) (fun X' C' => c_tg1 C' n4 (by decide +kernel)) (by omega) (fun q hq => ⟨_, rfl, fun X' C' => ⟨ets_one (et_is (et_c (ε1 := .d (nD q.2)) (ε2 := .d (nD (toks M q.1 l).length)) (by top_name) (ev_idx (ε2 := .d (nD q.1)) (by kts_caught) (by top_name) (idx_at (f := nD) rfl (sentL_get (hgc q hq)))) cmp_ge) (nle _ _)), fun _ => by kts_caught⟩⟩))) rfl) (by simp)) (by kts_caught) cmp_gt) ?_) ?_
    · have : ((gonL M l).filter fun q => decide ((toks M q.1 l).length ≤ q.2)) = [] := List.filter_eq_nil_iff.mpr fun q hq => by
        have h1 := hcl q.1 q.2 (hga.mp hq)
        rw [hta (hgc q hq)]
        simp
        omega
      rw [this]
      rfl
    refine c_setN C n11 (by decide +kernel) (en_lst ea_nil rfl (by decide)) ?_
    refine c_for C (T := .one 12) (fun i e u => (∃ o12, e = [some (.d (encParts M)), some (.d (encHist h)), some (.d (.tup (ys.map nD))), some (.at 0), none, some (.at 1), some (.at 2), some (.at 3), o8, o9, o10, some (.at 4), o12, none]) ∧ u = muA M l ++ [.lst ((List.range i).map fun c => encRow (prL (tk M h ys c) (gn M h ys c)))])
      (c_range1 C T (by decide +kernel) (m := M.cs.length) (ev_is (by kts_caught) (by simp)) (by omega)) (c_tg1 C n12 (by decide +kernel)) ⟨⟨_, rfl⟩, rfl⟩ (fun _ _ _ _ => trivial) ?_ ?_
    · rintro i item e u hi ⟨⟨o12, rfl⟩, rfl⟩
      rw [List.getElem?_map] at hi
      cases hir : (List.range M.cs.length)[i]? with
      | none => rw [hir] at hi; cases hi
      | some i' =>
        rw [hir] at hi
        cases hi
        obtain ⟨hil, hie⟩ := List.getElem?_eq_some_iff.mp hir
        rw [List.getElem_range] at hie
        subst hie
        rw [List.length_range] at hil
        refine ⟨_, rfl, ?_⟩
        have htl : (toks M i l).length ≤ 60 := Nat.le_trans (by unfold toks; exact List.length_filterMap_le _ _) hl60
        have hmem : ∀ q : Nat × Nat, (!decide ((i, q.2) ∈ gonL M l)) = decide (q.2 ∉ gn M h ys i) := fun q => by
          by_cases hh : q.2 ∈ gn M h ys i
          · simp [hh, hga.mpr hh]
          · have : ¬ (i, q.2) ∈ gonL M l := fun hx => hh (hga.mp hx)
            simp [hh, this]
        refine go_cons (go_app (k := 4) (d := .tup (((toks M i l).zipIdx.filter fun q => !decide ((i, q.2) ∈ gonL M l)).map fun q => encPair (q.2, q.1))) C.B (by kts_caught) rfl (by intro _ _; rfl) (c_tupN C T (by decide +kernel) (en_c C hN (T := .one 13) (own := [("_law_pair", 13)]) (xs := (toks M i l).zipIdx) (f := fun q => .one (.d (encPair (q.2, q.1)))) (fun q => !decide ((i, q.2) ∈ gonL M l)) (fun q => encPair (q.2, q.1)) (ei_subM (k := 2) (j := i) (dss := tokL M l) (f := fun q : Nat × Nat => encPair (q.2, q.1)) (ev_idx (ε2 := .d (nD i)) (by kts_caught) (by kts_caught) (idx_lol rfl (by unfold tokL; simp; exact hil))) rfl (tokL_get hil)) ⟨_, rfl, tokL_get hil⟩ (by decide +kernel) (by decide +kernel) (fun X' C' => c_tg1 C' n13 (by decide +kernel)) (by rw [List.length_zipIdx]; omega) (fun q hq => ⟨_, rfl, fun X' C' => ⟨ets_one (et_is (et_c (ε1 := .d (encPair (i, q.2))) (ε2 := .at 3) (by top_name) (by kts_caught) (cmp_notInPL (q := (i, q.2)) (xs := gonL M l) C'.room rfl)) rfl), fun _ => by kts_caught⟩⟩))) (by rw [List.length_map, List.length_range]; omega) (go_nil ⟨⟨_, rfl⟩, ?_⟩))
        rw [List.range_succ, List.map_append]
        have : D.tup (((toks M i l).zipIdx.filter fun q => !decide ((i, q.2) ∈ gonL M l)).map fun q => encPair (q.2, q.1)) = encRow (prL (tk M h ys i) (gn M h ys i)) := by
          unfold encRow prL
          rw [← hta hil, List.map_map, List.filter_congr (fun q _ => hmem q)]
          rfl
        rw [this]
        rfl
    · rintro e u ⟨⟨o12, rfl⟩, rfl⟩
      rw [List.length_map, List.length_range]
      refine c_retD (ev_is (ev_tup (ea_cons (ε := .d (.tup ((stL M l).map nD))) (c_tup C T (by decide +kernel) (by kts_caught) rfl) (ea_cons (ε := .d (.tup ((sentL M l).map nD))) (c_tup C T (by decide +kernel) (by kts_caught) rfl) (ea_cons (ε := .d (.tup ((List.range M.cs.length).map fun c => encRow (prL (tk M h ys c) (gn M h ys c))))) (c_tup C T (by decide +kernel) (by kts_caught) rfl) ea_nil))) rfl (Nat.le_of_ble_eq_true rfl)) ?_) hk
      have : sentL M l = (List.range M.cs.length).map fun c => (tk M h ys c).length := by
        unfold sentL
        exact map_range_ext fun c hc => by rw [hta hc]
      unfold encWd atW
      rw [hsa, this]
      simp only [List.map_map]
      rfl
inductive rSo1 : List D → D → Prop
  | mk {a : Nat} : rSo1 [nD a, nD a] (.bl true)
theorem w_law_so1 (T : Tx P w K mg base CN CS) : FnR P w K mg base "_law_so" 1 rSo1 := by
  refine fn_r (N := ["_law_found", "_law_meant", "_law_k"]) (ps := ["_law_found", "_law_meant"]) T.d_law_so (fun _ _ _ _ _ _ us hl => match us, hl with | [_, _], _ => rfl) ⟨rfl, rfl, rfl, by decide +kernel, rfl, by decide +kernel, by decide +kernel⟩ (fun ds d h => by cases h <;> rfl) ?_
  intro X C hX ds d kk h hk
  obtain ⟨N, hN⟩ : ∃ N, (["_law_found", "_law_meant", "_law_k"] : List Str) = N := ⟨_, rfl⟩
  rw [hN] at C
  have n0 : N[0]? = some ("_law_found" : Str) := by rw [← hN] <;> rfl
  have n1 : N[1]? = some ("_law_meant" : Str) := by rw [← hN] <;> rfl
  have n2 : N[2]? = some ("_law_k" : Str) := by rw [← hN] <;> rfl
  cases h with
  | @mk a =>
    refine c_ifF0 (by top_reprB) ?_
    refine c_ifF0 (by top_reprB) ?_
    refine c_ifT (by top_reprB) ?_
    exact c_retD (ev_andT (by top_strB) (ev_andT (by top_strB) (ev_and1 (ev_bls (ev_c (ε1 := .d (nD a)) (ε2 := .d (nD a)) (by kts_caught) (by kts_caught) cmp_eq rfl) (decide_eq_true rfl))))) hk
inductive rSo2 : List D → D → Prop
  | mk {xs : List Nat} : xs.length ≤ 1000 → rSo2 [.tup (xs.map nD), .tup (xs.map nD)] (.bl true)
theorem w_law_so2 (T : Tx P w K mg base CN CS) : FnR P w K mg base "_law_so" 2 rSo2 := by
  have g1 := w_law_so1 T
  refine fn_r (N := ["_law_found", "_law_meant", "_law_k"]) (ps := ["_law_found", "_law_meant"]) T.d_law_so (fun _ _ _ _ _ _ us hl => match us, hl with | [_, _], _ => rfl) ⟨rfl, rfl, rfl, by decide +kernel, rfl, by decide +kernel, by decide +kernel⟩ (fun ds d h => by cases h <;> rfl) ?_
  intro X C hX ds d kk h hk
  obtain ⟨N, hN⟩ : ∃ N, (["_law_found", "_law_meant", "_law_k"] : List Str) = N := ⟨_, rfl⟩
  rw [hN] at C
  have n0 : N[0]? = some ("_law_found" : Str) := by rw [← hN] <;> rfl
  have n1 : N[1]? = some ("_law_meant" : Str) := by rw [← hN] <;> rfl
  have n2 : N[2]? = some ("_law_k" : Str) := by rw [← hN] <;> rfl
  cases h with
  | @mk xs hl =>
    refine c_ifF0 (by top_reprB) ?_
    refine c_ifF0 (by top_reprB) ?_
    refine c_ifF0 (by top_reprB) ?_
    refine c_ifF0 (by top_reprB) ?_
    refine c_ifF0 (et_W (ew_orF (by top_reprB) (ew_orF (by top_reprB) (ew_or1 (et_is (et_c (ε1 := .d (nD xs.length)) (ε2 := .d (nD xs.length)) (ev_is (by kts_caught) (by simp)) (ev_is (by kts_caught) (by simp)) cmp_ne) (by simp)))))) ?_
    refine c_for C (T := .one 2) (fun i e u => (∃ o2, e = [some (.d (.tup (xs.map nD))), some (.d (.tup (xs.map nD))), o2]) ∧ u = [])
      (c_range1 C T (by decide +kernel) (m := xs.length) (ev_is (by kts_caught) (by simp)) (by omega)) (c_tg1 C n2 (by decide +kernel)) ⟨⟨_, rfl⟩, rfl⟩ (fun _ _ _ _ => trivial) ?_ ?_
    · rintro i item e u hi ⟨⟨o2, rfl⟩, rfl⟩
      rw [List.getElem?_map] at hi
      cases hir : (List.range xs.length)[i]? with
      | none => rw [hir] at hi; cases hi
      | some i' =>
        rw [hir] at hi
        cases hi
        obtain ⟨hil, hie⟩ := List.getElem?_eq_some_iff.mp hir
        rw [List.getElem_range] at hie
        subst hie
        rw [List.length_range] at hil
        obtain ⟨x, hx⟩ := get_of rfl hil
        have a1 : rSo1 [nD x, nD x] (.bl true) := .mk
        exact ⟨_, rfl, c_ifF0 (et_is (et_not (et_val (x := true) (c_call C g1 (by decide) (by decide +kernel) (εs := [.d (nD x), .d (nD x)]) (ea_cons (ev_idx (by kts_caught) (by kts_caught) (idx_tup (f := nD) hx)) (ea_cons (ev_idx (by kts_caught) (by kts_caught) (idx_tup (f := nD) hx)) ea_nil)) rfl a1))) rfl) (go_nil ⟨⟨_, rfl⟩, rfl⟩)⟩
    · rintro e u ⟨⟨o2, rfl⟩, rfl⟩
      exact c_retD (by kts_caught) hk
abbrev tupN (r : List Nat) : D := .tup (r.map nD)
inductive rSo3 : List D → D → Prop
  | mk {xs : List (List Nat)} : xs.length ≤ 1000 → (∀ r ∈ xs, r.length ≤ 1000) → rSo3 [.tup (xs.map tupN), .tup (xs.map tupN)] (.bl true)
theorem w_law_so3 (T : Tx P w K mg base CN CS) : FnR P w K mg base "_law_so" 3 rSo3 := by
  have g1 := w_law_so2 T
  refine fn_r (N := ["_law_found", "_law_meant", "_law_k"]) (ps := ["_law_found", "_law_meant"]) T.d_law_so (fun _ _ _ _ _ _ us hl => match us, hl with | [_, _], _ => rfl) ⟨rfl, rfl, rfl, by decide +kernel, rfl, by decide +kernel, by decide +kernel⟩ (fun ds d h => by cases h <;> rfl) ?_
  intro X C hX ds d kk h hk
  obtain ⟨N, hN⟩ : ∃ N, (["_law_found", "_law_meant", "_law_k"] : List Str) = N := ⟨_, rfl⟩
  rw [hN] at C
  have n0 : N[0]? = some ("_law_found" : Str) := by rw [← hN] <;> rfl
  have n1 : N[1]? = some ("_law_meant" : Str) := by rw [← hN] <;> rfl
  have n2 : N[2]? = some ("_law_k" : Str) := by rw [← hN] <;> rfl
  cases h with
  | @mk xs hl hr =>
    refine c_ifF0 (by top_reprB) ?_
    refine c_ifF0 (by top_reprB) ?_
    refine c_ifF0 (by top_reprB) ?_
    refine c_ifF0 (by top_reprB) ?_
    refine c_ifF0 (et_W (ew_orF (by top_reprB) (ew_orF (by top_reprB) (ew_or1 (et_is (et_c (ε1 := .d (nD xs.length)) (ε2 := .d (nD xs.length)) (ev_is (by kts_caught) (by simp)) (ev_is (by kts_caught) (by simp)) cmp_ne) (by simp)))))) ?_
    refine c_for C (T := .one 2) (fun i e u => (∃ o2, e = [some (.d (.tup (xs.map tupN))), some (.d (.tup (xs.map tupN))), o2]) ∧ u = [])
      (c_range1 C T (by decide +kernel) (m := xs.length) (ev_is (by kts_caught) (by simp)) (by omega)) (c_tg1 C n2 (by decide +kernel)) ⟨⟨_, rfl⟩, rfl⟩ (fun _ _ _ _ => trivial) ?_ ?_
    · rintro i item e u hi ⟨⟨o2, rfl⟩, rfl⟩
      rw [List.getElem?_map] at hi
      cases hir : (List.range xs.length)[i]? with
      | none => rw [hir] at hi; cases hi
      | some i' =>
        rw [hir] at hi
        cases hi
        obtain ⟨hil, hie⟩ := List.getElem?_eq_some_iff.mp hir
        rw [List.getElem_range] at hie
        subst hie
        rw [List.length_range] at hil
        obtain ⟨x, hx⟩ := get_of rfl hil
        have a1 : rSo2 [tupN x, tupN x] (.bl true) := .mk (hr x (List.mem_of_getElem? hx))
        exact ⟨_, rfl, c_ifF0 (et_is (et_not (et_val (x := true) (c_call C g1 (by decide) (by decide +kernel) (εs := [.d (tupN x), .d (tupN x)]) (ea_cons (ev_idx (by kts_caught) (by kts_caught) (idx_tup (f := tupN) hx)) (ea_cons (ev_idx (by kts_caught) (by kts_caught) (idx_tup (f := tupN) hx)) ea_nil)) rfl a1))) rfl) (go_nil ⟨⟨_, rfl⟩, rfl⟩)⟩
    · rintro e u ⟨⟨o2, rfl⟩, rfl⟩
      exact c_retD (by kts_caught) hk
theorem incr_len {m : Nat} : ∀ {l : List Nat} {b : Nat}, l.Pairwise (· < ·) → (∀ k ∈ l, b ≤ k ∧ k ≤ m) → l.length ≤ m + 1 - b
  | [], _, _, _ => Nat.zero_le _
  | a :: l, b, hp, hb => by
    obtain ⟨h1, h2⟩ := List.pairwise_cons.mp hp
    have ih := incr_len (b := a + 1) h2 fun k hk => ⟨h1 k hk, (hb k (List.mem_cons_of_mem _ hk)).2⟩
    have := hb a List.mem_cons_self
    rw [List.length_cons]
    omega
theorem Run.take {M : Nt} {ds : List Deed} {w : Wd} (R : Run M ds w) (n : Nat) : ∃ w', Run M (ds.take n) w' := by
  induction R with
  | nil => exact ⟨_, by rw [List.take_nil]; exact .nil⟩
  | @snoc ds w d R hc ih =>
    by_cases h : n ≤ ds.length
    · rw [List.take_append_of_le_length h]; exact ih
    · exact ⟨_, by rw [List.take_of_length_le (by rw [List.length_append, List.length_singleton]; omega)]; exact R.snoc hc⟩
theorem Run.histR {M : Nt} (G : GoodN M) {ds : List Deed} {w : Wd} (R : Run M ds w) (hl : ds.length ≤ 60) : HistR M (hist M ds) :=
  ⟨(R.ok G hl).1, ⟨ds, w, R.steps G⟩, by rw [← (R.steps G).len]; exact hl⟩
theorem HistR.whole {M : Nt} {h : List (List Deed)} (R : HistR M h) : Closed M h (whole h) := by
  obtain ⟨ds, w, S⟩ := R.st
  exact (S.inv R.H.G R.H.O).2.1
theorem PtsOk.ple {h : List (List Deed)} {pts : List (List Nat)} (ok : PtsOk h pts) : PtsLe h pts := fun p k hk => by
  cases ha : pts[p]? with
  | none => rw [ha] at hk; cases hk
  | some a =>
    have hp : p < h.length := by rw [← ok.len]; exact (List.getElem?_eq_some_iff.mp ha).1
    obtain ⟨a', x, h1, h2, R⟩ := ok.row hp
    rw [ha] at h1; cases h1
    rw [ha] at hk
    rw [h2]
    exact R.le k hk
theorem RowOk.mono {a : List Nat} {m n : Nat} (R : RowOk a m) (h : m ≤ n) : RowOk a n := ⟨R.hd, R.up, fun k hk => Nat.le_trans (R.le k hk) h, R.ln⟩
/-- the checkpoints behind the present ones -/
def newL (a : List Nat) (m1 m2 : Nat) (pr : Nat → Bool) : List Nat := (((List.range (m2 + 1 - (m1 + 1))).filter pr).map fun q => m1 + 1 + q).filter fun k => decide (a.getLast?.getD 0 < k)
theorem newL_mem {a : List Nat} {m1 m2 : Nat} {pr : Nat → Bool} : ∀ k ∈ newL a m1 m2 pr, m1 < k ∧ k ≤ m2 := by
  intro k hk
  unfold newL at hk
  obtain ⟨q, hq, rfl⟩ := List.mem_map.mp (List.mem_filter.mp hk).1
  have := List.mem_range.mp (List.mem_filter.mp hq).1
  omega
theorem newL_up {a : List Nat} {m1 m2 : Nat} {pr : Nat → Bool} : (newL a m1 m2 pr).Pairwise (· < ·) := by
  unfold newL
  exact (List.pairwise_map.mpr (List.Pairwise.imp (fun h => by omega) (List.pairwise_lt_range.filter pr))).filter _
theorem more_ok {a : List Nat} {m1 m2 : Nat} {pr : Nat → Bool} (R : RowOk a m1) (h : m1 ≤ m2) (h60 : m2 ≤ 60) : RowOk (a ++ newL a m1 m2 pr) m2 := by
  have up : (a ++ newL a m1 m2 pr).Pairwise (· < ·) := List.pairwise_append.mpr ⟨R.up, newL_up, fun k hk z hz => by
    have := R.le k hk
    have := newL_mem z hz
    omega⟩
  have le : ∀ k ∈ a ++ newL a m1 m2 pr, k ≤ m2 := fun k hk => by
    rcases List.mem_append.mp hk with hk | hk
    · exact Nat.le_trans (R.le k hk) h
    · exact (newL_mem k hk).2
  have hl : 0 < a.length := (List.getElem?_eq_some_iff.mp R.hd).1
  refine ⟨by rw [List.getElem?_append_left hl]; exact R.hd, up, le, ?_⟩
  have := incr_len (b := 0) up fun k hk => ⟨Nat.zero_le _, le k hk⟩
  omega
theorem left_ok {r : List Nat} {m : Nat} (q : Nat → Bool) (R : RowOk r m) (h60 : m ≤ 60) : RowOk (0 :: r.filter fun k => decide (0 < k) && q k) m := by
  have up : (0 :: r.filter fun k => decide (0 < k) && q k).Pairwise (· < ·) := List.pairwise_cons.mpr ⟨fun k hk => by
    have := (List.mem_filter.mp hk).2
    simp only [Bool.and_eq_true, decide_eq_true_eq] at this
    exact this.1, R.up.filter _⟩
  have le : ∀ k ∈ 0 :: r.filter fun k => decide (0 < k) && q k, k ≤ m := fun k hk => by
    rcases List.mem_cons.mp hk with rfl | hk
    · exact Nat.zero_le _
    · exact R.le k (List.mem_filter.mp hk).1
  refine ⟨rfl, up, le, ?_⟩
  have := incr_len (b := 0) up fun k hk => ⟨Nat.zero_le _, le k hk⟩
  omega
def goneR (a : List Nat) (y : Nat) : List Nat := a.filter fun k => decide (k < y)
def goneL (pts : List (List Nat)) (low : List Nat) : List (List Nat) := (List.range pts.length).map fun p => goneR (pts[p]?.getD []) (low[p]?.getD 0)
theorem drop_eq {pts : List (List Nat)} {low : List Nat} (hl : low.length = pts.length) : ((pts.zip low).map fun q => D.tup ((q.1.filter fun k => decide (k < q.2)).map nD)) = (goneL pts low).map tupN := by
  unfold goneL goneR
  apply List.ext_getElem?
  intro i
  by_cases hi : i < pts.length
  · obtain ⟨y, hy⟩ := get_of hl hi
    obtain ⟨a, ha⟩ := get_of rfl hi
    rw [List.getElem?_map, show (pts.zip low)[i]? = some (a, y) from List.getElem?_zip_eq_some.mpr ⟨ha, hy⟩, List.getElem?_map, List.getElem?_map, List.getElem?_range hi]
    simp only [Option.map_some, ha, hy, Option.getD_some]
  · rw [List.getElem?_eq_none (by rw [List.length_map, List.length_zip]; omega), List.getElem?_eq_none (by rw [List.length_map, List.length_map, List.length_range]; omega)]
structure MoreI (h2 : List (List Deed)) (pts : List (List Nat)) (low : List Nat) (i : Nat) (more left : List (List Nat)) : Prop where
  l1 : more.length = i
  l2 : left.length = i
  ok : ∀ (p : Nat) (r : List Nat) (x : List Deed), more[p]? = some r → h2[p]? = some x → RowOk r x.length
  sub : ∀ p, p < i → ∀ k ∈ pts[p]?.getD [], k ∈ more[p]?.getD []
  lf : ∀ p, p < i → left[p]? = some (0 :: (more[p]?.getD []).filter fun k => decide (0 < k) && !decide (k ∈ goneR (pts[p]?.getD []) (low[p]?.getD 0)))
theorem MoreI.nil {h2 : List (List Deed)} {pts : List (List Nat)} {low : List Nat} : MoreI h2 pts low 0 [] [] :=
  ⟨rfl, rfl, fun _ _ _ h => by simp at h, fun _ h => absurd h (Nat.not_lt_zero _), fun _ h => absurd h (Nat.not_lt_zero _)⟩
theorem MoreI.snoc {h2 : List (List Deed)} {pts : List (List Nat)} {low : List Nat} {i : Nat} {more left : List (List Nat)} (I : MoreI h2 pts low i more left) {a b : List Nat} {x : List Deed} {y : Nat} (ha : pts[i]? = some a) (hx : h2[i]? = some x) (hy : low[i]? = some y) (R : RowOk (a ++ b) x.length) :
    MoreI h2 pts low (i + 1) (more ++ [a ++ b]) (left ++ [0 :: (a ++ b).filter fun k => decide (0 < k) && !decide (k ∈ goneR a y)]) := by
  obtain ⟨l1, l2, ok, sub, lf⟩ := I
  subst l1
  have hm : ∀ p, p < more.length → (more ++ [a ++ b])[p]? = more[p]? := fun p hp => List.getElem?_append_left hp
  have hn : (more ++ [a ++ b])[more.length]? = some (a ++ b) := List.getElem?_concat_length
  refine ⟨by rw [List.length_append, List.length_singleton], by rw [List.length_append, List.length_singleton, l2], fun p r x' hr hx' => ?_, fun p hp k hk => ?_, fun p hp => ?_⟩
  · by_cases e : p < more.length
    · rw [hm p e] at hr; exact ok p r x' hr hx'
    · have : p = more.length := by have := (List.getElem?_eq_some_iff.mp hr).1; rw [List.length_append, List.length_singleton] at this; omega
      subst this
      rw [hn] at hr; cases hr
      rw [hx] at hx'; cases hx'
      exact R
  · by_cases e : p < more.length
    · rw [hm p e]; exact sub p e k hk
    · have : p = more.length := by omega
      subst this
      rw [hn, Option.getD_some]
      rw [ha, Option.getD_some] at hk
      exact List.mem_append_left _ hk
  · by_cases e : p < more.length
    · rw [hm p e, List.getElem?_append_left (by omega)]; exact lf p e
    · have : p = more.length := by omega
      subst this
      rw [hn, ha, hy, ← l2, List.getElem?_concat_length]
      rfl
theorem MoreI.pts {h2 : List (List Deed)} {pts : List (List Nat)} {low : List Nat} {more left : List (List Nat)} (I : MoreI h2 pts low h2.length more left) (h3 : h2.length ≤ 3) : PtsOk h2 more := by
  refine ⟨I.l1, by omega, fun q hq => ?_⟩
  obtain ⟨p, hp⟩ := List.mem_iff_getElem?.mp hq
  obtain ⟨e1, e2⟩ := List.getElem?_zip_eq_some.mp hp
  exact I.ok p _ _ e1 e2
theorem MoreI.lef {h2 : List (List Deed)} {pts : List (List Nat)} {low : List Nat} {more left : List (List Nat)} (I : MoreI h2 pts low h2.length more left) (h3 : h2.length ≤ 3) (h60 : ∀ r ∈ h2, r.length ≤ 60) : PtsOk h2 left := by
  refine ⟨I.l2, by omega, fun q hq => ?_⟩
  obtain ⟨p, hp⟩ := List.mem_iff_getElem?.mp hq
  obtain ⟨e1, e2⟩ := List.getElem?_zip_eq_some.mp hp
  have hpl := (List.getElem?_eq_some_iff.mp e2).1
  rw [I.lf p hpl] at e1
  obtain ⟨r, hr⟩ := get_of I.l1 hpl
  have R := I.ok p r _ hr e2
  rw [hr, Option.getD_some] at e1
  rw [← Option.some.inj e1]
  exact left_ok _ R (h60 _ (List.mem_of_getElem? e2))
/-- with what is left, the same line -/
theorem MoreI.same {M : Nt} {h1 h2 : List (List Deed)} {pts : List (List Nat)} {low cut fs : List Nat} {more left : List (List Nat)} (I : MoreI h2 pts low h2.length more left) (g : Goes h1 h2) (ok : PtsOk h1 pts) (h3 : h2.length ≤ 3) (hle : leL low cut) (hc : IsGA M h2 more fs cut) : IsGA M h2 left fs cut := by
  have out : ∀ (p : Nat), ¬ p < h2.length → more[p]? = none ∧ left[p]? = none := fun p hp => ⟨List.getElem?_eq_none (by rw [I.l1]; omega), List.getElem?_eq_none (by rw [I.l2]; omega)⟩
  refine left_same (fun p k hk => ?_) (fun p k hk hlo => ?_) hle hc
  · by_cases hp : p < h2.length
    · rw [I.lf p hp, Option.getD_some] at hk
      rcases List.mem_cons.mp hk with rfl | hk
      · obtain ⟨a, x, e1, e2, R⟩ := ok.row (p := p) (by rw [g.len]; exact hp)
        exact I.sub p hp 0 (by rw [e1]; exact List.mem_of_getElem? R.hd)
      · exact (List.mem_filter.mp hk).1
    · rw [(out p hp).2] at hk; cases hk
  · by_cases hp : p < h2.length
    · rw [I.lf p hp, Option.getD_some]
      by_cases h0 : k = 0
      · subst h0; exact List.mem_cons_self
      · refine List.mem_cons_of_mem _ (List.mem_filter.mpr ⟨hk, ?_⟩)
        have : ¬ k ∈ goneR (pts[p]?.getD []) (low[p]?.getD 0) := fun hg => by
          have := of_decide_eq_true (List.mem_filter.mp hg).2
          omega
        simp [this]
        omega
    · rw [(out p hp).1] at hk; cases hk
theorem lends4 {mu : List MO} {d1 d2 : D} {a b : Nat} {A B : List D} (h1 : mu[a]? = some (.lst A)) (h2 : mu[b]? = some (.lst B)) : lends mu [.d d1, .d d2, .at a, .at b] = some [d1, d2, .lst A, .lst B] := by
  have e1 : lend mu (.at a) = some (.lst A) := by simp only [lend, seqE, h1]
  have e2 : lend mu (.at b) = some (.lst B) := by simp only [lend, seqE, h2]
  simp only [lends, e1, e2]
  rfl
abbrev lstN (r : List Nat) : D := .lst (r.map nD)
theorem noLsts_nD : ∀ xs : List Nat, noLsts (xs.map nD) = true
  | [] => rfl
  | x :: xs => by rw [List.map_cons]; show (noLst (nD x) && noLsts (xs.map nD)) = true; rw [noLsts_nD xs]; rfl
theorem noLst_tupN (xs : List Nat) : noLst (.tup (xs.map nD)) = true := noLsts_nD xs
def PreLaw (εs : List E) (mu : List MO) (kk : D → List MO → Prop) : Prop := ∃ ns, εs = [.raw ns] ∧ mu = [] ∧ ∀ mu', kk (.bl true) mu'
/-- a def over handles, by its datum -/
theorem fn_mF {N : List Str} {n : Nat} {x qual : Str} {st : Stmt} {f : Addr} {fd : FuncData} {ps : List Str} {Pre : List E → List MO → (D → List MO → Prop) → Prop} (F : FnT K x qual st f fd) (S : FnScope N ps (defScope st)) (len : ∀ ds mu k, Pre ds mu k → ds.length = ps.length)
    (body : ∀ X, Ctx P w K mg base N (defScope st) (defScope st) n X → (∃ f cdv A outer s H Ex, X = Bx P w K mg base N qual st f cdv A outer s H Ex) → ∀ εs mu (kk : D → List MO → Prop), Pre εs mu kk →
      Go X (defBody st) (εs.map some ++ List.replicate (N.length - εs.length) none) mu { nx := fun _ mu' => kk .non mu', rt := kk }) :
    FnOk P w K mg base CX0 (n + 1) f fd ps (spM Pre) := by
  refine fn_okM F S len ?_
  rintro cdv A outer s H Ex X hX B hr ds mu kk h
  subst hX
  exact body _ (ctx_body B hr) ⟨f, cdv, A, outer, s, H, Ex, rfl⟩ ds mu kk h
theorem w_law {CE : Addr} (T : Tx P w K mg base CN CS) (TE : TxE P K mg CE) {f : Addr} {fd : FuncData} (F : FnT K "law" "law" s_law f fd) : FnOk P w K mg base CX0 13 f fd ["_law_script"] (spM PreLaw) := by
  have g1 := w_law_numbers T
  have g2 := w_law_net T
  have g3 := w_Net T
  have g4 := w_law_run T
  have g5 := w_law_draw T
  have g6 := w_law_history T
  have g7 := w_law_points T
  have g8 := w_law_line T
  have g9 := w_floor T TE
  have g10 := w_droppable T TE
  have g11 := w_law_so2 T
  have g12 := w_law_so3 T
  have g13 := w_open_messages T TE
  have g14 := w_law_at T
  have g15 := w_line T TE
  have hz : sizeLine = 16777216 := sizeLine_eq
  refine fn_mF (N := ["_law_script", "_law_row", "_law_parts", "_law_net_here", "_law_many", "_law_deeds", "_law_early", "_law_told", "_law_longer", "_law_points_here", "_law_low", "_law_gone", "_law_k", "_law_p", "_law_held", "_law_whole", "_law_one", "_law_more", "_law_left", "_law_new", "_law_code", "_law_failed", "_law_cut", "_law_present", "_law_c", "_law_pair"]) (ps := ["_law_script"]) F ⟨rfl, rfl, rfl, by decide +kernel, rfl, by decide +kernel, by decide +kernel⟩ (fun ds mu kk h => by obtain ⟨_, rfl, _⟩ := h; rfl) ?_
  intro X C hX ds mu kk h
  obtain ⟨N, hN⟩ : ∃ N, (["_law_script", "_law_row", "_law_parts", "_law_net_here", "_law_many", "_law_deeds", "_law_early", "_law_told", "_law_longer", "_law_points_here", "_law_low", "_law_gone", "_law_k", "_law_p", "_law_held", "_law_whole", "_law_one", "_law_more", "_law_left", "_law_new", "_law_code", "_law_failed", "_law_cut", "_law_present", "_law_c", "_law_pair"] : List Str) = N := ⟨_, rfl⟩
  rw [hN] at C
  have n0 : N[0]? = some ("_law_script" : Str) := by rw [← hN] <;> rfl
  have n1 : N[1]? = some ("_law_row" : Str) := by rw [← hN] <;> rfl
  have n2 : N[2]? = some ("_law_parts" : Str) := by rw [← hN] <;> rfl
  have n3 : N[3]? = some ("_law_net_here" : Str) := by rw [← hN] <;> rfl
  have n4 : N[4]? = some ("_law_many" : Str) := by rw [← hN] <;> rfl
  have n5 : N[5]? = some ("_law_deeds" : Str) := by rw [← hN] <;> rfl
  have n6 : N[6]? = some ("_law_early" : Str) := by rw [← hN] <;> rfl
  have n7 : N[7]? = some ("_law_told" : Str) := by rw [← hN] <;> rfl
  have n8 : N[8]? = some ("_law_longer" : Str) := by rw [← hN] <;> rfl
  have n9 : N[9]? = some ("_law_points_here" : Str) := by rw [← hN] <;> rfl
  have n10 : N[10]? = some ("_law_low" : Str) := by rw [← hN] <;> rfl
  have n11 : N[11]? = some ("_law_gone" : Str) := by rw [← hN] <;> rfl
  have n12 : N[12]? = some ("_law_k" : Str) := by rw [← hN] <;> rfl
  have n13 : N[13]? = some ("_law_p" : Str) := by rw [← hN] <;> rfl
  have n14 : N[14]? = some ("_law_held" : Str) := by rw [← hN] <;> rfl
  have n15 : N[15]? = some ("_law_whole" : Str) := by rw [← hN] <;> rfl
  have n16 : N[16]? = some ("_law_one" : Str) := by rw [← hN] <;> rfl
  have n17 : N[17]? = some ("_law_more" : Str) := by rw [← hN] <;> rfl
  have n18 : N[18]? = some ("_law_left" : Str) := by rw [← hN] <;> rfl
  have n19 : N[19]? = some ("_law_new" : Str) := by rw [← hN] <;> rfl
  have n20 : N[20]? = some ("_law_code" : Str) := by rw [← hN] <;> rfl
  have n21 : N[21]? = some ("_law_failed" : Str) := by rw [← hN] <;> rfl
  have n22 : N[22]? = some ("_law_cut" : Str) := by rw [← hN] <;> rfl
  have n23 : N[23]? = some ("_law_present" : Str) := by rw [← hN] <;> rfl
  have n24 : N[24]? = some ("_law_c" : Str) := by rw [← hN] <;> rfl
  have n25 : N[25]? = some ("_law_pair" : Str) := by rw [← hN] <;> rfl
  obtain ⟨ns, rfl, rfl, hk⟩ := h
  refine c_setP C n1 (by decide +kernel) (Q := fun d => ∃ row : List Int, row ≠ [] ∧ d = encRowI row) (evp_callM (k := 1) (Pre := PreNum) (by rw [C.pr, C.w, C.K, C.mg, C.base]; exact g1) (C.rm (by decide)) (C.gl (by decide +kernel)) (εs := [.raw ns]) (by k_caught0) rfl ⟨ns, rfl, rfl, fun row mu' h1 _ => ⟨row, h1, rfl⟩⟩) ?_
  rintro d ⟨row, hr, rfl⟩
  refine c_setP C n2 (by decide +kernel) (Q := fun d => ∃ M, GoodN M ∧ d = encParts M) (c_callP C g2 (by decide) (by decide +kernel) (εs := [.d (encRowI row), .d (.int 0), .d (.lst (kindsL.map D.str))]) (ea_cons (by kts_caught) (ea_cons ev_int (ea_cons (ev_is (EvN.ev (en_lst (ea_cons ev_str (ea_cons ev_str (ea_cons ev_str (ea_cons ev_str ea_nil)))) rfl (by decide))) rfl) ea_nil))) rfl (fun k hq => ⟨row, hr, rfl, fun M G => hq _ ⟨M, G, rfl⟩⟩)) ?_
  rintro d ⟨M, G, rfl⟩
  have l2 := G.p2
  have l3 := G.p3
  have lc := G.c4
  refine c_setP C n3 (by decide +kernel) (Q := fun d => d = encNet CN M) (evp_make (n := 6) (Pre := PreNet CN) (C := CN) (by rw [C.pr, C.w, C.K, C.mg, C.base]; exact g3) (C.rm (by decide)) (C.gl (by decide +kernel)) (εs := [.d (.lst (M.ps.map encProc)), .d (.lst (M.cs.map encChan)), .d (.lst (M.rs.map encRule))]) (ea_cons (by top_name) (ea_cons (by top_name) (ea_cons (by top_name) ea_nil))) rfl ⟨M, G, rfl, rfl, rfl, _, rfl, rfl⟩) ?_
  rintro d rfl
  refine c_set C n4 (by decide +kernel) (ε := .d (nD M.ps.length)) (ev_is (by kts_caught) (by simp)) ?_
  have d9 : draw row 99 9 < 9 := draw_lt (by omega)
  refine c_setP C n5 (by decide +kernel) (Q := fun d => ∃ (ds : List Deed) (W : Wd), Run M ds W ∧ ds.length ≤ 20 ∧ d = .lst (ds.map encDeed)) (c_callP C g4 (by decide) (by decide +kernel) (εs := [.d (encParts M), .d (encRowI row), .d (nD 100), .d (nD (12 + draw row 99 9))]) (ea_cons (by kts_caught) (ea_cons (by kts_caught) (ea_cons (by top_name) (ea_cons (ev_is (ev_add ev_int (c_draw C g5 (by decide) (i := 99) (lim := 9) hr (by omega) (by decide +kernel) (by kts_caught) (by top_name) (by top_name))) (intD (by omega))) ea_nil)))) rfl (fun k hq => ⟨M, row, 100, _, G, hr, by omega, rfl, fun ds W R hl => hq _ ⟨ds, W, R, by omega, rfl⟩⟩)) ?_
  rintro d ⟨ds, W, R, hdl, rfl⟩
  have hcut : cutA (ds.map encDeed) none (some (if (12 : Int) < (ds.length : Int) then 12 else (ds.length : Int))) = (ds.take 12).map encDeed := by
    split
    · rw [show (12 : Int) = ((12 : Nat) : Int) from rfl, cut_to (by rw [List.length_map]; omega), List.map_take]
    · rw [cut_to (by rw [List.length_map]; omega), List.take_of_length_le (by rw [List.length_map]; omega), List.take_of_length_le (by omega)]
  refine c_setN C n6 (by decide +kernel) (ds := (ds.take 12).map encDeed) (by rw [← hcut]; exact en_sl (ε := .d (.lst (ds.map encDeed))) (by kts_caught) rfl eo_none (eo_some (c_min C T (by decide +kernel) (v := (ds.length : Int)) (j := 12) (ev_is (by kts_caught) (by simp)) ev_int))) ?_
  refine go_freeze 0 rfl ?_
  show Go X _ [some (.raw ns), some (.d (encRowI row)), some (.d (encParts M)), some (.d (encNet CN M)), some (.d (nD M.ps.length)), some (.d (.lst (ds.map encDeed))), some (.d (.lst ((ds.take 12).map encDeed))), none, none, none, none, none, none, none, none, none, none, none, none, none, none, none, none, none, none, none] [.gone] _
  refine c_set C n7 (by decide +kernel) (ε := .d (encHist (hist M (ds.take 12)))) (c_call C g6 (by decide) (by decide +kernel) (εs := [.d (encParts M), .d (.lst ((ds.take 12).map encDeed))]) (by k_caught0) rfl (.mk G (fun d hd => R.deeds d (List.mem_of_mem_take hd)) (by rw [List.length_take]; omega))) ?_
  refine c_set C n8 (by decide +kernel) (ε := .d (encHist (hist M ds))) (c_call C g6 (by decide) (by decide +kernel) (εs := [.d (encParts M), .d (.lst (ds.map encDeed))]) (by k_caught0) rfl (.mk G R.deeds (by omega))) ?_
  obtain ⟨W1, R1⟩ := R.take 12
  have H1 : HistR M (hist M (ds.take 12)) := R1.histR G (by rw [List.length_take]; omega)
  have H2 : HistR M (hist M ds) := R.histR G (by omega)
  have g : Goes (hist M (ds.take 12)) (hist M ds) := by
    have := @hist_goes M (ds.take 12) (ds.drop 12)
    rwa [List.take_append_drop] at this
  generalize hist M (ds.take 12) = h1 at H1 g
  generalize hist M ds = h2 at H2 g
  have hl1 : h1.length = M.ps.length := H1.H.O.len
  have hl2 : h2.length = M.ps.length := H2.H.O.len
  refine c_setP C n9 (by decide +kernel) (Q := fun d => ∃ pts, PtsOk h1 pts ∧ d = encPts pts) (c_callP C g7 (by decide) (by decide +kernel) (εs := [.d (encHist h1), .d (encRowI row), .d (nD 150)]) (ea_cons (by kts_caught) (ea_cons (by kts_caught) (ea_cons (by top_name) ea_nil))) rfl (fun k hq => ⟨h1, row, 150, hr, H1.H.p3, H1.H.ln, rfl, fun pts h => hq _ ⟨pts, h, rfl⟩⟩)) ?_
  rintro d ⟨pts, ok, rfl⟩
  have lpt : pts.length = M.ps.length := by rw [ok.len, hl1]
  refine c_setP C n10 (by decide +kernel) (Q := fun d => ∃ low, IsGA M h1 pts (List.range M.ps.length) low ∧ d = .tup (low.map nD)) (c_callP C g8 (by decide) (by decide +kernel) (εs := [.d (encParts M), .d (encHist h1), .d (encPts pts), .d (.lst ((List.range M.ps.length).map nD))]) (ea_cons (by kts_caught) (ea_cons (by kts_caught) (ea_cons (by kts_caught) (ea_cons ((en_listRg (n := M.ps.length) C.B.calm (C.gl (by decide +kernel)) (C.free T.b_list) (C.gl (by decide +kernel)) (C.free T.b_range) (by intro _ _; rfl) (by kts_caught) (by omega)).ev) ea_nil)))) rfl (fun k hq => ⟨M, h1, pts, _, H1.H, H1.sm, ok, rfl, fun ys h => hq _ ⟨ys, h, rfl⟩⟩)) ?_
  rintro d ⟨low, hlow, rfl⟩
  have ll : low.length = pts.length := by rw [hlow.len, hl1, lpt]
  have hgl : ∀ {p : Nat} {a : List Nat} {y : Nat}, pts[p]? = some a → low[p]? = some y → (goneL pts low)[p]? = some (goneR a y) := fun {p a y} h1 h2 => by
    unfold goneL
    rw [List.getElem?_map, List.getElem?_range (List.getElem?_eq_some_iff.mp h1).1, Option.map_some, h1, h2]
    rfl
  refine c_set C n11 (by decide +kernel) (ε := .d (.tup ((goneL pts low).map tupN))) (ev_is (c_tupN C T (by decide +kernel) (en_cm C hN (T := .one 13) (own := [("_law_p", 13)]) (xs := List.range M.ps.length) (f := fun n : Nat => .one (.d (.int (n : Int)))) (fun p => tupN (goneR (pts[p]?.getD []) (low[p]?.getD 0))) (c_range1 C T (by decide +kernel) (m := M.ps.length) (by kts_caught) (by omega)) trivial (by decide +kernel) (by decide +kernel) (fun X' C' => c_tg1 C' n13 (by decide +kernel)) (by rw [List.length_range]; omega) (fun p hp => ⟨_, rfl, fun X' C' => ?_⟩))) ?_) ?_
  · have hp := List.mem_range.mp hp
    obtain ⟨a, ha⟩ := get_of lpt hp
    obtain ⟨y, hy⟩ := get_of ll (show p < pts.length by omega)
    obtain ⟨a', x, e1, e2, Ra⟩ := ok.row (p := p) (by omega)
    rw [ha] at e1; cases e1
    have haln := Ra.ln
    rw [ha, hy, Option.getD_some, Option.getD_some]
    exact c_tupN C' T (by decide +kernel) (en_c C' hN (T := .one 12) (own := [("_law_k", 12)]) (f := fun k => .one (.d (nD k))) (fun k => decide (k < y)) (fun k => nD k) (xs := a) (ei_lstM (ev_idx (by kts_caught) (by kts_caught) (idx_lst (f := lstN) ha))) trivial (by decide +kernel) (by decide +kernel) (fun X' C' => c_tg1 C' n12 (by decide +kernel)) (by omega) (fun k hk => ⟨_, rfl, fun X2 C2 => ⟨ets_one (et_is (et_c (ε1 := .d (nD k)) (ε2 := .d (nD y)) (by kts_caught) (ev_idx (by kts_caught) (by kts_caught) (idx_tup (f := nD) hy)) cmp_lt) (nlt _ _)), fun _ => by kts_caught⟩⟩))
  · unfold goneL
    rw [lpt, List.map_map]
    rfl
  have a3 : rSo2 [.tup (low.map nD), .tup (low.map nD)] (.bl true) := .mk (by omega)
  have a4 : rSo3 [.tup ((goneL pts low).map tupN), .tup ((goneL pts low).map tupN)] (.bl true) := .mk (by unfold goneL; rw [List.length_map, List.length_range]; omega) (fun r hr => by
    unfold goneL at hr
    obtain ⟨p, hp, rfl⟩ := List.mem_map.mp hr
    obtain ⟨a', x, e1, e2, Ra⟩ := ok.row (p := p) (by have := List.mem_range.mp hp; omega)
    rw [e1]
    exact Nat.le_trans (List.length_filter_le _ _) Ra.ln)
  refine c_ifF0 (et_W (ew_orF (et_is (et_not (et_val (x := true) (c_call C g11 (by decide) (by decide +kernel) (εs := [.d (.tup (low.map nD)), .d (.tup (low.map nD))]) (ea_cons (EvP.ev (c_callP C g9 (by decide) (by decide +kernel) (εs := [.d (encNet CN M), .d (encHist h1), .d (encPts pts)]) (by k_caught0) rfl (fun k hq => ⟨M, h1, pts, H1, ok, rfl, fun ys h => hq _ (by rw [h.uniq hlow])⟩))) (ea_cons (by kts_caught) ea_nil)) rfl a3))) rfl)
    (ew_or1 (et_is (et_not (et_val (x := true) (c_call C g12 (by decide) (by decide +kernel) (εs := [.d (.tup ((goneL pts low).map tupN)), .d (.tup ((goneL pts low).map tupN))]) (ea_cons (EvP.ev (c_callP C g10 (by decide) (by decide +kernel) (εs := [.d (encNet CN M), .d (encHist h1), .d (encPts pts)]) (by k_caught0) rfl (fun k hq => ⟨M, h1, pts, H1, ok, rfl, fun ys h => hq _ (by rw [h.uniq hlow, drop_eq ll])⟩))) (ea_cons (by kts_caught) ea_nil)) rfl a4))) rfl)))) ?_
  refine c_setP C n14 (by decide +kernel) (Q := fun d => ∃ held : List (List (Nat × Nat)), held.length = M.cs.length ∧ (∀ c m, held[c]? = some m → OpenAt M h1 low c m) ∧ d = .tup (held.map encRow)) (c_callP C g13 (by decide) (by decide +kernel) (εs := [.d (encNet CN M), .d (encHist h1), .d (encPts pts)]) (by k_caught0) rfl (fun k hq => ⟨M, h1, pts, H1, ok, rfl, fun low' held h e1 e2 => hq _ ⟨held, e1, by rw [hlow.uniq h]; exact e2, rfl⟩⟩)) ?_
  rintro d ⟨held, hhl, hop, rfl⟩
  refine c_set C n15 (by decide +kernel) (ε := .d (encWd (atW M h1 (whole h1)))) (EvP.ev (c_callP C g14 (by decide) (by decide +kernel) (εs := [.d (encParts M), .d (encHist h1), .d (.tup ((whole h1).map nD))]) (ea_cons (by kts_caught) (ea_cons (by kts_caught) (ea_cons (ev_is (c_tupN C T (by decide +kernel) (en_cm C hN (T := .one 16) (own := [("_law_one", 16)]) (f := fun r => .one (.d (encR r))) (fun r => nD r.length) (xs := h1) (ei_tupM (by top_name)) trivial (by decide +kernel) (by decide +kernel) (fun X' C' => c_tg1 C' n16 (by decide +kernel)) (by omega) (fun x hx => ⟨_, rfl, fun X' C' => ev_is (by kts_caught) (by simp)⟩))) (by rw [whole_D])) ea_nil))) rfl (fun k hq => ⟨M, h1, whole h1, H1.H, H1.sm, by unfold whole; simp, leL_refl _, H1.whole, rfl, hq _ rfl⟩))) ?_
  refine c_setN C n17 (by decide +kernel) (en_lst ea_nil rfl (by decide)) ?_
  refine c_setN C n18 (by decide +kernel) (en_lst ea_nil rfl (by decide)) ?_
  refine c_for C (T := .one 13) (fun i e u => i ≤ M.ps.length ∧ ∃ (more left : List (List Nat)) (gs : List MO) (o13 o19 : Option E), e = [some (.raw ns), some (.d (encRowI row)), some (.d (encParts M)), some (.d (encNet CN M)), some (.d (nD M.ps.length)), some (.d (.lst (ds.map encDeed))), some (.d (.lst ((ds.take 12).map encDeed))), some (.d (encHist h1)), some (.d (encHist h2)), some (.d (encPts pts)), some (.d (.tup (low.map nD))), some (.d (.tup ((goneL pts low).map tupN))), none, o13, some (.d (.tup (held.map encRow))), some (.d (encWd (atW M h1 (whole h1)))), none, some (.at 1), some (.at 2), o19, none, none, none, none, none, none] ∧ u = .gone :: .lst (more.map lstN) :: .lst (left.map lstN) :: gs ∧ MoreI h2 pts low i more left)
    (c_range1 C T (by decide +kernel) (m := M.ps.length) (by kts_caught) (by omega)) (c_tg1 C n13 (by decide +kernel)) ⟨Nat.zero_le _, [], [], [], none, none, rfl, rfl, .nil⟩ (fun _ _ _ _ => trivial) ?_ ?_
  · rintro i item e u hi ⟨him, more, left, gs, o13, o19, rfl, rfl, I⟩
    rw [List.getElem?_map] at hi
    cases hir : (List.range M.ps.length)[i]? with
    | none => rw [hir] at hi; cases hi
    | some i' =>
      rw [hir] at hi
      cases hi
      obtain ⟨hil, hie⟩ := List.getElem?_eq_some_iff.mp hir
      rw [List.getElem_range] at hie
      subst hie
      rw [List.length_range] at hil
      refine ⟨_, rfl, ?_⟩
      obtain ⟨a, ha⟩ := get_of lpt hil
      obtain ⟨y, hy⟩ := get_of ll (show i < pts.length by omega)
      obtain ⟨a', x1, e1, hx1, Ra⟩ := ok.row (p := i) (by omega)
      rw [ha] at e1; cases e1
      obtain ⟨s, hs⟩ := g.ex i x1 hx1
      obtain ⟨x2, hx2⟩ := get_of hl2 hil
      have h12 : x1.length ≤ x2.length := by rw [hx2] at hs; cases hs; rw [List.length_append]; omega
      have h60 : x2.length ≤ 60 := H2.H.ln x2 (List.mem_of_getElem? hx2)
      have haln : a.length ≤ 1000 := Ra.ln
      have hapos : 0 < a.length := (List.getElem?_eq_some_iff.mp Ra.hd).1
      have hll : a[a.length - 1]? = some (a.getLast?.getD 0) := by rw [← List.getLast?_eq_getElem?, List.getLast?_eq_some_getLast Ra.ne]; rfl
      obtain ⟨pq, hpq⟩ : ∃ pq : Nat → Bool, pq = fun q => decide (draw row (220 + 10 * i + (x1.length + 1 + q)) 2 = 0) := ⟨_, rfl⟩
      have hpqE : ∀ q, pq q = decide (draw row (220 + 10 * i + (x1.length + 1 + q)) 2 = 0) := fun q => by rw [hpq]
      clear hpq
      refine c_setC C hN (T := .one 12) (own := [("_law_k", 12)]) (xs := List.range (x2.length + 1 - (x1.length + 1))) (f := fun q : Nat => .one (.d (.int ((x1.length + 1 + q : Nat) : Int)))) pq (fun q => nD (x1.length + 1 + q)) n19 (by decide +kernel) (c_range2 C T (by decide +kernel) (m := x1.length + 1) (l := x2.length + 1) (ev_is (ev_add (ev_is (c_len C T (by decide +kernel) (ev_idx (by kts_caught) (by kts_caught) (idx_tup (f := encR) hx1)) rfl) (show _ = E.d (nD x1.length) by simp)) ev_int) (intD (by omega))) (ev_is (ev_add (ev_is (c_len C T (by decide +kernel) (ev_idx (by kts_caught) (by kts_caught) (idx_tup (f := encR) hx2)) rfl) (show _ = E.d (nD x2.length) by simp)) ev_int) (intD (by omega))) (by omega) (by omega)) trivial (by decide +kernel) (by decide +kernel) (fun X' C' => c_tg1 C' n12 (by decide +kernel)) (by rw [List.length_range]; omega)
        (fun q hq => ⟨_, rfl, fun X' C' => ⟨ets_one (et_is (et_c (ε1 := .d (nD (draw row (220 + 10 * i + (x1.length + 1 + q)) 2))) (ε2 := .d (.int 0)) (c_draw C' g5 (by decide) (i := 220 + 10 * i + (x1.length + 1 + q)) (lim := 2) hr (by omega) (by decide +kernel) (by kts_caught) (ev_is (ev_add (ev_add ev_int (ev_mul ev_int (by kts_caught) (.inl (by omega)))) (by kts_caught)) (intD (by omega))) (by top_name)) (by kts_caught) cmp_eq) (by rw [hpqE, show (0 : Int) = ((0 : Nat) : Int) from rfl, neq])), fun _ => by kts_caught⟩⟩) ?_
      obtain ⟨b1, hb1⟩ : ∃ b1, ((List.range (x2.length + 1 - (x1.length + 1))).filter pq).map (fun q => x1.length + 1 + q) = b1 := ⟨_, rfl⟩
      have hb2 : ((List.range (x2.length + 1 - (x1.length + 1))).filter pq).map (fun q => nD (x1.length + 1 + q)) = b1.map nD := by rw [← hb1, List.map_map]; rfl
      have hb3 : b1.length ≤ 100 := by
        rw [← hb1, List.length_map]
        have := List.length_filter_le pq (List.range (x2.length + 1 - (x1.length + 1)))
        rw [List.length_range] at this
        omega
      rw [hb2]
      have hj1 : ((.gone :: .lst (more.map lstN) :: .lst (left.map lstN) :: gs) ++ [MO.lst (b1.map nD)])[(.gone :: .lst (more.map lstN) :: .lst (left.map lstN) :: gs).length]? = some (.lst (b1.map nD)) := List.getElem?_concat_length
      refine c_setC C hN (T := .one 12) (own := [("_law_k", 12)]) (xs := b1) (f := fun k => .one (.d (nD k))) (fun k => decide (a.getLast?.getD 0 < k)) (fun k => nD k) n19 (by decide +kernel) (ei_ownM (j := (.gone :: .lst (more.map lstN) :: .lst (left.map lstN) :: gs).length) (by kts_caught) hj1) hj1 (by decide +kernel) (by decide +kernel) (fun X' C' => c_tg1 C' n12 (by decide +kernel)) (by omega)
        (fun k hk => ⟨_, rfl, fun X' C' => ⟨ets_one (et_is (et_c (ε1 := .d (nD k)) (ε2 := .d (nD (a.getLast?.getD 0))) (by kts_caught) (ev_idx (ev_idx (by kts_caught) (by kts_caught) (idx_lst (f := lstN) ha)) (ev_is (ev_subI (ev_is (c_len C' T (by decide +kernel) (ev_idx (by kts_caught) (by kts_caught) (idx_lst (f := lstN) ha)) rfl) (show _ = E.d (nD a.length) by simp)) ev_int) (show _ = E.d (nD (a.length - 1)) from intD (by omega))) (idx_lst (f := nD) hll)) cmp_gt) (nlt _ _)), fun _ => by kts_caught⟩⟩) ?_
      obtain ⟨n2, hn2⟩ : ∃ n2, newL a x1.length x2.length pq = n2 := ⟨_, rfl⟩
      have hn3 : b1.filter (fun k => decide (a.getLast?.getD 0 < k)) = n2 := by rw [← hn2, ← hb1]; rfl
      have hn4 : n2.length ≤ 100 := by rw [← hn3]; exact Nat.le_trans (List.length_filter_le _ _) hb3
      have hR : RowOk (a ++ n2) x2.length := by rw [← hn2]; exact more_ok Ra h12 h60
      rw [hn3]
      have hj : ((gs ++ [MO.lst (b1.map nD)]) ++ [MO.lst (n2.map nD)])[(gs ++ [MO.lst (b1.map nD)]).length]? = some (.lst (n2.map nD)) := List.getElem?_concat_length
      show Go X _ [some (.raw ns), some (.d (encRowI row)), some (.d (encParts M)), some (.d (encNet CN M)), some (.d (nD M.ps.length)), some (.d (.lst (ds.map encDeed))), some (.d (.lst ((ds.take 12).map encDeed))), some (.d (encHist h1)), some (.d (encHist h2)), some (.d (encPts pts)), some (.d (.tup (low.map nD))), some (.d (.tup ((goneL pts low).map tupN))), none, some (.d (nD i)), some (.d (.tup (held.map encRow))), some (.d (encWd (atW M h1 (whole h1)))), none, some (.at 1), some (.at 2), some (.at (List.length (gs ++ [MO.lst (b1.map nD)]) + 3)), none, none, none, none, none, none] (.gone :: .lst (more.map lstN) :: .lst (left.map lstN) :: ((gs ++ [MO.lst (b1.map nD)]) ++ [MO.lst (n2.map nD)])) _
      generalize (gs ++ [MO.lst (b1.map nD)]).length = t at hj
      generalize (gs ++ [MO.lst (b1.map nD)]) ++ [MO.lst (n2.map nD)] = gs' at hj
      refine go_cons (go_app (k := 1) (d := lstN (a ++ n2)) C.B (by kts_caught) rfl (by intro _ _; rfl) (ev_is (EvN.ev (ev_cat (ε1 := .d (lstN a)) (ε2 := .at (t + 3)) (xs := a.map nD) (ys := n2.map nD) (ev_idx (by kts_caught) (by kts_caught) (idx_lst (f := lstN) ha)) (by kts_caught) rfl (seq_at hj) (by rw [hz, List.length_map, List.length_map]; omega))) (by rw [← List.map_append])) (by rw [List.length_map, I.l1]; omega) ?_)
      have hgn := hgl ha hy
      refine go_cons (go_app (k := 2) (d := lstN (0 :: (a ++ n2).filter fun k => decide (0 < k) && !decide (k ∈ goneR a y))) C.B (by kts_caught) rfl (by intro _ _; rfl) (ev_is (EvN.ev (ev_cat (ε1 := .d (.lst [nD 0])) (ε2 := .d (.lst (((a ++ n2).filter fun k => decide (0 < k) && !decide (k ∈ goneR a y)).map fun k => nD k))) (xs := [nD 0]) (ys := ((a ++ n2).filter fun k => decide (0 < k) && !decide (k ∈ goneR a y)).map fun k => nD k)
        (EvN.ev (en_lst (ds := [nD 0]) (ea_cons (by top_name) ea_nil) rfl (by decide)))
        (EvN.ev (en_c C hN (T := .one 12) (own := [("_law_k", 12)]) (xs := a ++ n2) (f := fun k => .one (.d (nD k))) (fun k => decide (0 < k) && !decide (k ∈ goneR a y)) (fun k => nD k) (ei_lstM (ev_is (EvN.ev (ev_cat (ε1 := .d (lstN a)) (ε2 := .at (t + 3)) (xs := a.map nD) (ys := n2.map nD) (ev_idx (by kts_caught) (by kts_caught) (idx_lst (f := lstN) ha)) (by kts_caught) rfl (seq_at hj) (by rw [hz, List.length_map, List.length_map]; omega))) (by rw [← List.map_append]))) trivial (by decide +kernel) (by decide +kernel) (fun X' C' => c_tg1 C' n12 (by decide +kernel)) (by rw [List.length_append]; omega)
          (fun k hk => ⟨_, rfl, fun X' C' => ⟨ets_one (et_W (ew_and (x := decide (0 < k)) (y := !decide (k ∈ goneR a y)) (et_is (et_c (ε1 := .d (nD k)) (ε2 := .d (.int 0)) (by kts_caught) (by kts_caught) cmp_gt) (by rw [show (0 : Int) = ((0 : Nat) : Int) from rfl, nlt])) (fun _ => ew_and1 (et_is (et_c (ε1 := .d (nD k)) (ε2 := .d (tupN (goneR a y))) (by kts_caught) (ev_idx (by kts_caught) (by kts_caught) (idx_tup (f := tupN) hgn)) (cmp_notInIM (z := k) (f := fun x : Nat => x) (xs := goneR a y) rfl)) (by rw [List.map_id']))))), fun _ => by kts_caught⟩⟩)))
        rfl rfl (by
          rw [hz, List.length_map]
          have := List.length_filter_le (fun k => decide (0 < k) && !decide (k ∈ goneR a y)) (a ++ n2)
          rw [List.length_append] at this
          simp only [List.length_singleton]
          omega))) rfl) (by rw [List.length_map, I.l2]; omega) (go_nil ?_))
      exact ⟨hil, more ++ [a ++ n2], left ++ [0 :: (a ++ n2).filter fun k => decide (0 < k) && !decide (k ∈ goneR a y)], gs', _, _, rfl, by rw [List.map_append, List.map_append]; rfl, I.snoc ha hx2 hy hR⟩
  · rintro e u ⟨him, more, left, gs, o13, o19, rfl, rfl, I⟩
    rw [List.length_map, List.length_range, ← hl2] at I
    have h23 := H2.H.p3
    have PM := I.pts h23
    have PL := I.lef h23 H2.H.ln
    have lel : ∀ {fs cut : List Nat}, IsGA M h2 more fs cut → leL low cut := fun h => floor_le g ok.ple (fun p k hk => by
      by_cases hp : p < h2.length
      · exact I.sub p hp k hk
      · rw [show pts[p]? = none from List.getElem?_eq_none (by omega)] at hk; cases hk) (fun p hp => List.mem_range.mpr (by omega)) hlow h
    obtain ⟨b, hb⟩ := get_of (xs := [1, 2, 4, 8]) (i := M.ps.length) (n := 4) rfl (by omega)
    have hb8 : b ≤ 8 := by
      have := List.mem_of_getElem? hb
      simp only [List.mem_cons, List.not_mem_nil, or_false] at this
      omega
    refine c_for C (T := .one 20) (fun i e u => ∃ (gs : List MO) (o13 o19 o20 o21 o22 o23 o24 o25 : Option E), e = [some (.raw ns), some (.d (encRowI row)), some (.d (encParts M)), some (.d (encNet CN M)), some (.d (nD M.ps.length)), some (.d (.lst (ds.map encDeed))), some (.d (.lst ((ds.take 12).map encDeed))), some (.d (encHist h1)), some (.d (encHist h2)), some (.d (encPts pts)), some (.d (.tup (low.map nD))), some (.d (.tup ((goneL pts low).map tupN))), none, o13, some (.d (.tup (held.map encRow))), some (.d (encWd (atW M h1 (whole h1)))), none, some (.at 1), some (.at 2), o19, o20, o21, o22, o23, o24, o25] ∧ u = .gone :: .lst (more.map lstN) :: .lst (left.map lstN) :: gs)
      (c_range1 C T (by decide +kernel) (m := b) (ev_idx (ε1 := .d (.lst (([1, 2, 4, 8] : List Nat).map nD))) (ev_is (EvN.ev (en_lst (ea_cons ev_int (ea_cons ev_int (ea_cons ev_int (ea_cons ev_int ea_nil)))) rfl (by decide))) rfl) (by kts_caught) (idx_lst (f := nD) hb)) (by omega)) (c_tg1 C n20 (by decide +kernel)) ⟨gs, _, _, _, _, _, _, _, _, rfl, rfl⟩ (fun _ _ _ _ => trivial) ?_ ?_
    · rintro i item e u hi ⟨gs, o13, o19, o20, o21, o22, o23, o24, o25, rfl, rfl⟩
      rw [List.getElem?_map] at hi
      cases hir : (List.range b)[i]? with
      | none => rw [hir] at hi; cases hi
      | some i' =>
        rw [hir] at hi
        cases hi
        obtain ⟨hil, hie⟩ := List.getElem?_eq_some_iff.mp hir
        rw [List.getElem_range] at hie
        subst hie
        rw [List.length_range] at hil
        refine ⟨_, rfl, ?_⟩
        refine c_setC C hN (T := .one 13) (own := [("_law_p", 13)]) (xs := List.range M.ps.length) (f := fun n : Nat => .one (.d (.int (n : Int)))) (fun p => decide ((i : Int) / ((([1, 2, 4] : List Nat)[p]?.getD 1 : Nat) : Int) % 2 = 1)) (fun p => nD p) n21 (by decide +kernel) (c_range1 C T (by decide +kernel) (m := M.ps.length) (by kts_caught) (by omega)) trivial (by decide +kernel) (by decide +kernel) (fun X' C' => c_tg1 C' n13 (by decide +kernel)) (by rw [List.length_range]; omega) (fun p hp => ⟨_, rfl, fun X' C' => ?_⟩) ?_
        · have hp := List.mem_range.mp hp
          obtain ⟨wt, hw⟩ := get_of (xs := [1, 2, 4]) (i := p) (n := 3) rfl (by omega)
          have hw1 : 1 ≤ wt ∧ wt ≤ 4 := by
            have := List.mem_of_getElem? hw
            simp only [List.mem_cons, List.not_mem_nil, or_false] at this
            omega
          rw [hw, Option.getD_some]
          exact ⟨ets_one (et_is (et_c (ε1 := .d (.int ((i : Int) / (wt : Int) % 2))) (ε2 := .d (.int 1)) (ev_mod (c_int C' T (by decide +kernel) (ev_fdiv (j := (wt : Int)) (by kts_caught) (ev_idx (ε1 := .d (.lst (([1, 2, 4] : List Nat).map nD))) (ev_is (EvN.ev (en_lst (ea_cons ev_int (ea_cons ev_int (ea_cons ev_int ea_nil))) rfl (by decide))) rfl) (by kts_caught) (idx_lst (f := nD) hw)) ⟨by omega, by omega⟩)) ev_int (by omega)) (by kts_caught) cmp_eq) rfl), fun _ => by kts_caught⟩
        obtain ⟨fs, hfs⟩ : ∃ fs, (List.range M.ps.length).filter (fun p => decide ((i : Int) / ((([1, 2, 4] : List Nat)[p]?.getD 1 : Nat) : Int) % 2 = 1)) = fs := ⟨_, rfl⟩
        rw [hfs]
        have hF : FailOk h2 fs := by
          rw [← hfs]
          refine ⟨List.nodup_range.filter _, fun x hx => by rw [hl2]; exact List.mem_range.mp (List.mem_filter.mp hx).1, ?_⟩
          have := List.length_filter_le (fun p => decide ((i : Int) / ((([1, 2, 4] : List Nat)[p]?.getD 1 : Nat) : Int) % 2 = 1)) (List.range M.ps.length)
          rw [List.length_range] at this
          omega
        clear hfs
        have hj : (gs ++ [MO.lst (fs.map nD)])[gs.length]? = some (.lst (fs.map nD)) := List.getElem?_concat_length
        show Go X _ [some (.raw ns), some (.d (encRowI row)), some (.d (encParts M)), some (.d (encNet CN M)), some (.d (nD M.ps.length)), some (.d (.lst (ds.map encDeed))), some (.d (.lst ((ds.take 12).map encDeed))), some (.d (encHist h1)), some (.d (encHist h2)), some (.d (encPts pts)), some (.d (.tup (low.map nD))), some (.d (.tup ((goneL pts low).map tupN))), none, o13, some (.d (.tup (held.map encRow))), some (.d (encWd (atW M h1 (whole h1)))), none, some (.at 1), some (.at 2), o19, some (.d (nD i)), some (.at (gs.length + 3)), o22, o23, o24, o25] (.gone :: .lst (more.map lstN) :: .lst (left.map lstN) :: (gs ++ [MO.lst (fs.map nD)])) _
        generalize gs.length = t at hj
        generalize gs ++ [MO.lst (fs.map nD)] = gs' at hj
        refine c_setP C n22 (by decide +kernel) (Q := fun d => ∃ cut, IsGA M h2 more fs cut ∧ d = .tup (cut.map nD)) (c_callPL C g8 (by decide) (by decide +kernel) (ds := [encParts M, encHist h2, encPts more, .lst (fs.map nD)]) (εs := [.d (encParts M), .d (encHist h2), .at 1, .at (t + 3)]) (by k_caught0) (lends4 rfl hj) (fun d hd => by obtain ⟨_, _, rfl⟩ := hd; exact noLst_tupN _) (fun k hq => ⟨M, h2, more, fs, H2.H, H2.sm, PM, rfl, fun ys h => hq _ ⟨ys, h, rfl⟩⟩)) ?_
        rintro d ⟨cut, hcut2, rfl⟩
        have hle := lel hcut2
        have hlc : cut.length = M.ps.length := by rw [hcut2.len, hl2]
        have hcut3 := I.same g ok h23 hle hcut2
        have a5 : rSo2 [.tup (cut.map nD), .tup (cut.map nD)] (.bl true) := .mk (by omega)
        refine c_ifF0 (et_W (ew_orF (et_is (et_not (et_val (x := true) (c_call C g11 (by decide) (by decide +kernel) (εs := [.d (.tup (cut.map nD)), .d (.tup (cut.map nD))]) (ea_cons (EvP.ev (c_callPL C g15 (by decide) (by decide +kernel) (ds := [encNet CN M, encHist h2, encPts more, .lst (fs.map nD)]) (εs := [.d (encNet CN M), .d (encHist h2), .at 1, .at (t + 3)]) (by k_caught0) (lends4 rfl hj) (fun d hd => by rw [hd]; exact noLst_tupN _) (fun k hq => ⟨M, h2, more, fs, H2, PM, hF, rfl, fun ys h => hq _ (by rw [h.uniq hcut2])⟩))) (ea_cons (by kts_caught) ea_nil)) rfl a5))) rfl)
          (ew_or1 (et_is (et_not (et_val (x := true) (c_call C g11 (by decide) (by decide +kernel) (εs := [.d (.tup (cut.map nD)), .d (.tup (cut.map nD))]) (ea_cons (EvP.ev (c_callPL C g15 (by decide) (by decide +kernel) (ds := [encNet CN M, encHist h2, encPts left, .lst (fs.map nD)]) (εs := [.d (encNet CN M), .d (encHist h2), .at 2, .at (t + 3)]) (by k_caught0) (lends4 rfl hj) (fun d hd => by rw [hd]; exact noLst_tupN _) (fun k hq => ⟨M, h2, left, fs, H2, PL, hF, rfl, fun ys h => hq _ (by rw [h.uniq hcut3])⟩))) (ea_cons (by kts_caught) ea_nil)) rfl a5))) rfl)))) ?_
        refine c_ifF0 (et_is (et_c (ε1 := .d (nD ((List.range M.ps.length).filter fun p => decide (cut[p]?.getD 0 < low[p]?.getD 0)).length)) (ε2 := .d (.int 0)) (ev_is (c_len C T (by decide +kernel) (EvN.ev (en_c C hN (T := .one 13) (own := [("_law_p", 13)]) (xs := List.range M.ps.length) (f := fun n : Nat => .one (.d (.int (n : Int)))) (fun p => decide (cut[p]?.getD 0 < low[p]?.getD 0)) (fun p => nD p) (c_range1 C T (by decide +kernel) (m := M.ps.length) (by kts_caught) (by omega)) trivial (by decide +kernel) (by decide +kernel) (fun X' C' => c_tg1 C' n13 (by decide +kernel)) (by rw [List.length_range]; omega) (fun p hp => ⟨_, rfl, fun X' C' => ?_⟩))) rfl) (by simp)) (by kts_caught) cmp_gt) ?_) ?_
        · have hp := List.mem_range.mp hp
          obtain ⟨z, hz1⟩ := get_of hlc hp
          obtain ⟨y, hy⟩ := get_of ll (show p < pts.length by omega)
          rw [hz1, hy, Option.getD_some, Option.getD_some]
          exact ⟨ets_one (et_is (et_c (ε1 := .d (nD z)) (ε2 := .d (nD y)) (ev_idx (by kts_caught) (by kts_caught) (idx_tup (f := nD) hz1)) (ev_idx (by kts_caught) (by kts_caught) (idx_tup (f := nD) hy)) cmp_lt) (nlt _ _)), fun _ => by kts_caught⟩
        · rw [List.filter_eq_nil_iff.mpr fun p _ => by have := hle p; simp; omega]
          rfl
        refine c_set C n23 (by decide +kernel) (ε := .d (.tup ((atW M h2 cut).pres.map encRow))) (ev_idx (ε1 := .d (encWd (atW M h2 cut))) (EvP.ev (c_callP C g14 (by decide) (by decide +kernel) (εs := [.d (encParts M), .d (encHist h2), .d (.tup (cut.map nD))]) (by k_caught0) rfl (fun k hq => ⟨M, h2, cut, H2.H, H2.sm, hcut2.len, hcut2.le PM.ple, hcut2.cl, rfl, hq _ rfl⟩))) ev_int rfl) ?_
        refine c_for C (T := .one 24) (fun i' e u => ∃ (o24 o25 : Option E), e = [some (.raw ns), some (.d (encRowI row)), some (.d (encParts M)), some (.d (encNet CN M)), some (.d (nD M.ps.length)), some (.d (.lst (ds.map encDeed))), some (.d (.lst ((ds.take 12).map encDeed))), some (.d (encHist h1)), some (.d (encHist h2)), some (.d (encPts pts)), some (.d (.tup (low.map nD))), some (.d (.tup ((goneL pts low).map tupN))), none, o13, some (.d (.tup (held.map encRow))), some (.d (encWd (atW M h1 (whole h1)))), none, some (.at 1), some (.at 2), o19, some (.d (nD i)), some (.at (t + 3)), some (.d (.tup (cut.map nD))), some (.d (.tup ((atW M h2 cut).pres.map encRow))), o24, o25] ∧ u = .gone :: .lst (more.map lstN) :: .lst (left.map lstN) :: gs')
          (c_range1 C T (by decide +kernel) (m := M.cs.length) (ev_is (by kts_caught) (by simp)) (by omega)) (c_tg1 C n24 (by decide +kernel)) ⟨_, _, rfl, rfl⟩ (fun _ _ _ _ => trivial) ?_ ?_
        · rintro c item e u hi ⟨o24, o25, rfl, rfl⟩
          rw [List.getElem?_map] at hi
          cases hir : (List.range M.cs.length)[c]? with
          | none => rw [hir] at hi; cases hi
          | some c' =>
            rw [hir] at hi
            cases hi
            obtain ⟨hcl, hie⟩ := List.getElem?_eq_some_iff.mp hir
            rw [List.getElem_range] at hie
            subst hie
            rw [List.length_range] at hcl
            refine ⟨_, rfl, ?_⟩
            have hrow : (atW M h2 cut).pres[c]? = some (prL (tk M h2 cut c) (gn M h2 cut c)) := by unfold atW; rw [List.getElem?_map, List.getElem?_range hcl]; rfl
            have hsw : (atW M h1 (whole h1)).sent[c]? = some (tk M h1 (whole h1) c).length := by unfold atW; rw [List.getElem?_map, List.getElem?_range hcl]; rfl
            obtain ⟨m, hm⟩ := get_of hhl hcl
            refine c_for C (T := .one 25) (fun j e u => ∃ (o25 : Option E), e = [some (.raw ns), some (.d (encRowI row)), some (.d (encParts M)), some (.d (encNet CN M)), some (.d (nD M.ps.length)), some (.d (.lst (ds.map encDeed))), some (.d (.lst ((ds.take 12).map encDeed))), some (.d (encHist h1)), some (.d (encHist h2)), some (.d (encPts pts)), some (.d (.tup (low.map nD))), some (.d (.tup ((goneL pts low).map tupN))), none, o13, some (.d (.tup (held.map encRow))), some (.d (encWd (atW M h1 (whole h1)))), none, some (.at 1), some (.at 2), o19, some (.d (nD i)), some (.at (t + 3)), some (.d (.tup (cut.map nD))), some (.d (.tup ((atW M h2 cut).pres.map encRow))), some (.d (nD c)), o25] ∧ u = .gone :: .lst (more.map lstN) :: .lst (left.map lstN) :: gs')
              (ei_tupM (xs := prL (tk M h2 cut c) (gn M h2 cut c)) (f := encPair) (ev_idx (by kts_caught) (by kts_caught) (idx_tup (f := encRow) hrow))) (c_tg1 C n25 (by decide +kernel)) ⟨_, rfl, rfl⟩ (fun _ _ _ _ => trivial) ?_ ?_
            · rintro j item e u hj2 ⟨o25, rfl, rfl⟩
              rw [List.getElem?_map] at hj2
              cases hpr : (prL (tk M h2 cut c) (gn M h2 cut c))[j]? with
              | none => rw [hpr] at hj2; cases hj2
              | some q =>
                rw [hpr] at hj2
                cases hj2
                obtain ⟨k, tt⟩ := q
                refine ⟨_, rfl, ?_⟩
                have hin := List.mem_of_getElem? hpr
                by_cases hmm : (k, tt) ∈ m
                · exact c_ifF0 (et_W (ew_andF (et_is (et_c (ε1 := .d (encPair (k, tt))) (ε2 := .d (encRow m)) (by kts_caught) (ev_idx (by kts_caught) (by kts_caught) (idx_tup (f := encRow) hm)) (cmp_notInPM (q := (k, tt)) (xs := m) C.room rfl)) (by simp [hmm])))) (go_nil ⟨_, rfl, rfl⟩)
                · have hlt : ¬ k < (tk M h1 (whole h1) c).length := fun hk2 => hmm (held_ok g (hlow.le ok.ple) hle (hop c m hm) hin hk2)
                  exact c_ifF0 (et_W (ew_andT (et_is (et_c (ε1 := .d (encPair (k, tt))) (ε2 := .d (encRow m)) (by kts_caught) (ev_idx (by kts_caught) (by kts_caught) (idx_tup (f := encRow) hm)) (cmp_notInPM (q := (k, tt)) (xs := m) C.room rfl)) (by simp [hmm])) (ew_and1 (et_is (et_c (ε1 := .d (nD k)) (ε2 := .d (nD (tk M h1 (whole h1) c).length)) (by top_name) (ev_idx (ε1 := .d (.tup ((atW M h1 (whole h1)).sent.map nD))) (ev_idx (ε1 := .d (encWd (atW M h1 (whole h1)))) (by kts_caught) ev_int rfl) (by kts_caught) (idx_tup (f := nD) hsw)) cmp_lt) (decide_eq_false (by omega)))))) (go_nil ⟨_, rfl, rfl⟩)
            · rintro e u ⟨o25, rfl, rfl⟩
              exact go_nil ⟨_, _, rfl, rfl⟩
        · rintro e u ⟨o24, o25, rfl, rfl⟩
          exact go_nil ⟨gs', _, _, _, _, _, _, _, _, rfl, rfl⟩
    · rintro e u ⟨gs, o13, o19, o20, o21, o22, o23, o24, o25, rfl, rfl⟩
      exact c_retD ev_bl (hk _)
end Cw
set_option maxHeartbeats 4000000
namespace Cw
open PySem PySem.Spec PyProof.Rows L2
section
variable {w : World} {K : PySem.W.Frag} {h : Heap} {mg : Str → Option Value}
theorem txD {g x q : Str} {st : Stmt} (X : K.In h) (G : h.Ns mainGlobals mg) (c : ∃ fd, FunD K (dOf g x q st).name (dOf g x q st).qual (dOf g x q st).params (dOf g x q st).body (dOf g x q st).scope ((dOf g x q st).dvs K) ((dOf g x q st).kws K) (He.fAd K (dOf g x q st).at_) fd) (f : (He.Fa.glo g).ok K = true) : TxD K mg g x q st := by
  obtain ⟨fd, F⟩ := c
  exact ⟨He.ga K g, fd, F, He.glo_ok X G f⟩
theorem txI {g q : Str} {st : Stmt} (X : K.In h) (G : h.Ns mainGlobals mg) (c : ∃ fd, FunD K (mOf g "__init__" q st).name (mOf g "__init__" q st).qual (mOf g "__init__" q st).params (mOf g "__init__" q st).body (mOf g "__init__" q st).scope ((mOf g "__init__" q st).dvs K) ((mOf g "__init__" q st).kws K) (He.fAd K (mOf g "__init__" q st).at_) fd) (f : (He.Fa.glo g).ok K = true) (k : (He.Fa.mkr g).ok K = true) : TxI K mg g (He.ga K g) q st := by
  obtain ⟨fd, F⟩ := c
  exact ⟨He.ma K (He.ga K g) "__init__", fd, F, He.mkr_ok k, He.glo_ok X G f⟩
theorem txM {g m q : Str} {st : Stmt} (c : ∃ fd, FunD K (mOf g m q st).name (mOf g m q st).qual (mOf g m q st).params (mOf g m q st).body (mOf g m q st).scope ((mOf g m q st).dvs K) ((mOf g m q st).kws K) (He.fAd K (mOf g m q st).at_) fd) (k : (He.Fa.meth g m).ok K = true) : TxM K (He.ga K g) m m q st := by
  obtain ⟨fd, F⟩ := c
  exact ⟨He.ma K (He.ga K g) m, fd, F, He.meth_ok k⟩
theorem exB_parts (b : exB K = true) : exC K (He.ga K "BadStep") = true ∧ exF prg.main.file K (He.ga K "BadStep") (He.ma K (He.ga K "BadStep") "__init__") = true ∧ (He.Fa.glo "BadStep").ok K = true ∧ (He.Fa.glo "KINDS").ok K = true ∧ (He.Fa.glo "SORTS").ok K = true ∧ He.tupB K "KINDS" kinds4 = true ∧ He.valsB K (He.ga K "SORTS") sorts3 = true := by
  unfold exB at b
  simp only [Bool.and_eq_true] at b
  exact b
theorem txKinds (X : K.In h) (G : h.Ns mainGlobals mg) (b : exB K = true) : TxT K mg "KINDS" ["order", "loose", "order lossy", "loose lossy"] := by
  obtain ⟨_, _, _, b1, _, b2, _⟩ := exB_parts b
  refine ⟨He.ga K "KINDS", He.glo_ok X G b1, ?_⟩
  rcases He.tupB_ok b2 (fun _ => none) with (q | ⟨_, q⟩) | ⟨o, its, n, h1, h2, h3, h4, h5⟩
  · cases q
  · cases q
  · exact ⟨o, its, n, h1, h2, h3, h4, h5⟩
theorem key_of {e : DictEntry} {x : Str} {i : Int} (q : He.keyOf e = some (x, i)) : ∃ t, e.key = .str x t := by
  unfold He.keyOf at q
  split at q
  · rename_i y t hy
    simp only [Option.some.injEq, Prod.mk.injEq] at q
    exact ⟨t, by rw [hy, q.1]⟩
  · cases q
/-- what is no key -/
theorem no_key {a : Addr} {ks : List Str} {z : Str} (q : He.dicW K a = some (He.keysIn w.params ks)) (hz : z ∉ ks) : PySem.W.nsIn K a z = some none := by
  unfold He.dicW at q
  cases e : K.lookup a with
  | none => rw [e] at q; cases q
  | some o =>
    obtain ⟨oc, od, dt, osl⟩ := o
    rw [e] at q
    cases oc with
    | type c =>
      cases od with
      | none =>
        cases dt with
        | dict es n =>
          simp only at q
          split at q
          · have q2 : es.toList.map He.keyOf = He.keysIn w.params ks := Option.some.inj q
            have hk : ∀ d ∈ es.toList, ∃ x t, d.key = .str x t ∧ x ∈ ks := fun d hd => by
              have : He.keyOf d ∈ He.keysIn w.params ks := by rw [← q2]; exact List.mem_map.mpr ⟨d, hd, rfl⟩
              unfold He.keysIn at this
              obtain ⟨x, hx, hxe⟩ := List.mem_map.mp this
              obtain ⟨t, ht⟩ := key_of hxe.symm
              exact ⟨x, t, ht, hx⟩
            unfold PySem.W.nsIn
            rw [e]
            simp only
            have h1 : es.toList.find? (·.key.isStr z) = none := List.find?_eq_none.mpr fun d hd => by
              obtain ⟨x, t, h1, h2⟩ := hk d hd
              rw [h1]
              intro hxz
              have : x = z := by simpa [Value.isStr] using hxz
              exact hz (this ▸ h2)
            have h2 : es.toList.any (·.refKey) = false := List.any_eq_false.mpr fun d hd => by
              obtain ⟨x, t, h1, _⟩ := hk d hd
              unfold DictEntry.refKey
              rw [h1]
              simp
            rw [h1, h2]
            rfl
          · cases q
        | _ => cases q
      | some d => cases dt <;> cases q
    | _ => cases od <;> cases dt <;> cases q
theorem txSorts (X : K.In h) (G : h.Ns mainGlobals mg) (c : He.SaysT fa fn ts w K) (b : exB K = true) : TxS K w mg "SORTS" (fun z => if z = "act" then some 2 else if z = "take" then some 3 else if z = "lose" then some 3 else none) := by
  obtain ⟨_, _, _, _, b1, _, b3⟩ := exB_parts b
  have e : ts.map (fun t => He.dicW K (t.1 K)) = ts.map fun t => some (He.keysIn w.params t.2) := congrArg (fun z : He.AlT => z.2) c
  have hd : He.dicW K (He.ga K "SORTS") = some (He.keysIn w.params ["act", "take", "lose"]) := by
    have := congrArg (fun l => l[0]?) e
    simpa [ts] using this
  obtain ⟨es, n, hk⟩ := He.dicW_ok hd
  have val : ∀ (z : Str) (i : Int), (z, He.Dv.int i) ∈ sorts3 → ∃ t, PySem.W.nsIn K (He.ga K "SORTS") z = some (some (.int i t)) := fun z i hm => by
    obtain ⟨u, h1, h2⟩ := He.valsB_ok b3 hm
    obtain ⟨t, rfl⟩ := h2
    exact ⟨t, h1⟩
  refine ⟨_, es, n, He.glo_ok X G b1, hk, fun z => ⟨fun hz => no_key hd ?_, fun i hz => ?_⟩⟩
  · intro hm
    simp only [List.mem_cons, List.not_mem_nil, or_false] at hm
    rcases hm with rfl | rfl | rfl
    · exact absurd hz (by decide)
    · exact absurd hz (by decide)
    · exact absurd hz (by decide)
  · have hz : (if z = "act" then some 2 else if z = "take" then some 3 else if z = "lose" then some 3 else none : Option Int) = some i := hz
    by_cases h1 : z = "act"
    · rw [if_pos h1] at hz; cases hz; subst h1
      exact val "act" 2 (by unfold sorts3; exact List.mem_cons_self)
    · rw [if_neg h1] at hz
      by_cases h2 : z = "take"
      · rw [if_pos h2] at hz; cases hz; subst h2
        exact val "take" 3 (by unfold sorts3; exact List.mem_cons_of_mem _ List.mem_cons_self)
      · rw [if_neg h2] at hz
        by_cases h3 : z = "lose"
        · rw [if_pos h3] at hz; cases hz; subst h3
          exact val "lose" 3 (by unfold sorts3; exact List.mem_cons_of_mem _ (List.mem_cons_of_mem _ List.mem_cons_self))
        · rw [if_neg h3] at hz; cases hz
theorem txE_of (X : K.In h) (G : h.Ns mainGlobals mg) (c : SaysY w K) : TxE prg K mg (He.ga K "BadStep") := by
  obtain ⟨_, ci, b⟩ := c
  obtain ⟨b1, b2, b3, _⟩ := exB_parts b
  have hg := He.glo_ok X G b3
  unfold exC at b1
  simp only [Bool.and_eq_true, decide_eq_true_eq] at b1
  generalize He.ga K "BadStep" = C at b1 b2 ci hg
  obtain ⟨q1, q2, q3, q4, q5, q6, q7, q8, q9, q10, q11, q12, q13, q14, q15, q16⟩ := b1
  generalize He.ma K C "__init__" = fI at q3 q4 b2 ci
  unfold exF at b2
  unfold initO at ci
  cases e : K.lookup fI with
  | none => rw [e] at b2; cases b2
  | some o =>
    obtain ⟨oc, od, dt, osl⟩ := o
    rw [e] at b2 ci
    cases dt with
    | func fd =>
      obtain ⟨m1, m2, m3, m4, m5, m6, m7, m8, m9, m10, m11, m12, m13, m14, m15⟩ := fd
      have ci2 : (some (m1, m2, m3, m4, m5, m6, m7.map (·.1), m15) : InitT) = initV := ci
      unfold initV at ci2
      simp only [Option.some.injEq, Prod.mk.injEq] at ci2
      obtain ⟨h1, h2, h3, h4, h5, h6, h7, h8⟩ := ci2
      simp only at b2
      rcases m7 with _ | ⟨⟨y, cc⟩, _ | ⟨z, l⟩⟩
      · cases h7
      · cases m8 with
        | none =>
          cases m13 with
          | ref c =>
            simp only [List.map_cons, List.map_nil, List.cons.injEq, and_true] at h7
            subst h7
            simp only [Bool.and_eq_true] at b2
            obtain ⟨p1, p2, p3⟩ := b2
            subst h1 h2 h3 h4 h5 h6 h8
            refine ⟨⟨fI, cc, c, { q := q1, ov := q2, hi := He.eqO_ok q3, ti := q4, sa := He.eqO_ok q5, tk := He.eqO_ok q6, hd := q7, lk := ⟨oc, od, osl, _, _, _, _, _, e⟩, cd := p1, fl := ?_, cl := ?_, ci := Option.isSome_iff_exists.mp q8, mi := q9, tp := He.eqO_ok q10, sp := He.eqO_ok q11, sb := q12, bx := q13, ty := q14, kp := q15, top := by decide +kernel }⟩, hg, q16⟩
            · unfold fileB at p2
              split at p2
              · rename_i ccl cdd vs ccs hl
                split at p2
                · rename_i z tf hz
                  exact ⟨ccl, cdd, ccs, vs, z, tf, hl, hz, p2⟩
                · cases p2
              · cases p2
            · unfold cellB at p3
              split at p3
              · rename_i cl cld b' csl hl
                have : b' = C := of_decide_eq_true p3
                subst this
                exact ⟨cl, cld, csl, hl⟩
              · cases p3
          | _ => cases b2
        | _ => cases b2
      · simp at h7
    | _ => cases b2
theorem tx_of {base : Heap} (X : K.In h) (G : h.Ns mainGlobals mg) (c : SaysY w K) : Tx prg w K mg base (He.ga K "Net") (He.ga K "Story") :=
  have c2 : He.SaysD fa fn K := He.SaysT.d c.1
  have b := c.2.2
  {
    d_is_whole := txD X G (c2.def_ 0 (d := dOf "is_whole" "is_whole" "is_whole" s_is_whole) rfl) (c2.fact 0 (f := .glo "is_whole") rfl),
    d_is_below := txD X G (c2.def_ 1 (d := dOf "is_below" "is_below" "is_below" s_is_below) rfl) (c2.fact 1 (f := .glo "is_below") rfl),
    d_is_name := txD X G (c2.def_ 2 (d := dOf "is_name" "is_name" "is_name" s_is_name) rfl) (c2.fact 2 (f := .glo "is_name") rfl),
    d_is_process := txD X G (c2.def_ 3 (d := dOf "is_process" "is_process" "is_process" s_is_process) rfl) (c2.fact 3 (f := .glo "is_process") rfl),
    d_is_channel := txD X G (c2.def_ 4 (d := dOf "is_channel" "is_channel" "is_channel" s_is_channel) rfl) (c2.fact 4 (f := .glo "is_channel") rfl),
    d_is_act := txD X G (c2.def_ 5 (d := dOf "is_act" "is_act" "is_act" s_is_act) rfl) (c2.fact 5 (f := .glo "is_act") rfl),
    d_is_rule := txD X G (c2.def_ 6 (d := dOf "is_rule" "is_rule" "is_rule" s_is_rule) rfl) (c2.fact 6 (f := .glo "is_rule") rfl),
    d_frozen := txD X G (c2.def_ 7 (d := dOf "_frozen" "_frozen" "_frozen" s_frozen) rfl) (c2.fact 7 (f := .glo "_frozen") rfl),
    d_rows := txD X G (c2.def_ 8 (d := dOf "_rows" "_rows" "_rows" s_rows) rfl) (c2.fact 8 (f := .glo "_rows") rfl),
    d_Net_init := txI X G (c2.def_ 9 (d := mOf "Net" "__init__" "Net.__init__" s_Net_init) rfl) (c2.fact 78 (f := .glo "Net") rfl) (c2.fact 92 (f := .mkr "Net") rfl),
    d_start := txD X G (c2.def_ 10 (d := dOf "start" "start" "start" s_start) rfl) (c2.fact 9 (f := .glo "start") rfl),
    d_is_lossy := txD X G (c2.def_ 11 (d := dOf "is_lossy" "is_lossy" "is_lossy" s_is_lossy) rfl) (c2.fact 10 (f := .glo "is_lossy") rfl),
    d_is_ordered := txD X G (c2.def_ 12 (d := dOf "is_ordered" "is_ordered" "is_ordered" s_is_ordered) rfl) (c2.fact 11 (f := .glo "is_ordered") rfl),
    d_as_deed := txD X G (c2.def_ 13 (d := dOf "as_deed" "as_deed" "as_deed" s_as_deed) rfl) (c2.fact 12 (f := .glo "as_deed") rfl),
    d_owner_of := txD X G (c2.def_ 14 (d := dOf "owner_of" "owner_of" "owner_of" s_owner_of) rfl) (c2.fact 13 (f := .glo "owner_of") rfl),
    d_owner := txD X G (c2.def_ 15 (d := dOf "owner" "owner" "owner" s_owner) rfl) (c2.fact 14 (f := .glo "owner") rfl),
    d_open_messages_of := txD X G (c2.def_ 16 (d := dOf "open_messages_of" "open_messages_of" "open_messages_of" s_open_messages_of) rfl) (c2.fact 15 (f := .glo "open_messages_of") rfl),
    d_can_do := txD X G (c2.def_ 17 (d := dOf "can_do" "can_do" "can_do" s_can_do) rfl) (c2.fact 16 (f := .glo "can_do") rfl),
    d_with_part := txD X G (c2.def_ 18 (d := dOf "_with_part" "_with_part" "_with_part" s_with_part) rfl) (c2.fact 17 (f := .glo "_with_part") rfl),
    d_without_message := txD X G (c2.def_ 19 (d := dOf "_without_message" "_without_message" "_without_message" s_without_message) rfl) (c2.fact 18 (f := .glo "_without_message") rfl),
    d_behind_worlds := txD X G (c2.def_ 20 (d := dOf "behind_worlds" "behind" "behind" s_behind_worlds) rfl) (c2.fact 19 (f := .glo "behind_worlds") rfl),
    d_done := txD X G (c2.def_ 21 (d := dOf "done" "done" "done" s_done) rfl) (c2.fact 20 (f := .glo "done") rfl),
    d_is_integer := txD X G (c2.def_ 22 (d := dOf "is_integer" "is_integer" "is_integer" s_is_integer) rfl) (c2.fact 21 (f := .glo "is_integer") rfl),
    d_is_from_to := txD X G (c2.def_ 23 (d := dOf "is_from_to" "is_from_to" "is_from_to" s_is_from_to) rfl) (c2.fact 22 (f := .glo "is_from_to") rfl),
    d_is_sequence := txD X G (c2.def_ 24 (d := dOf "is_sequence" "is_sequence" "is_sequence" s_is_sequence) rfl) (c2.fact 23 (f := .glo "is_sequence") rfl),
    d_is_deed := txD X G (c2.def_ 25 (d := dOf "is_deed" "is_deed" "is_deed" s_is_deed) rfl) (c2.fact 24 (f := .glo "is_deed") rfl),
    d_made_tuples := txD X G (c2.def_ 26 (d := dOf "made_tuples" "made_tuples" "made_tuples" s_made_tuples) rfl) (c2.fact 25 (f := .glo "made_tuples") rfl),
    d_gone_on := txD X G (c2.def_ 27 (d := dOf "gone_on" "gone_on" "gone_on" s_gone_on) rfl) (c2.fact 26 (f := .glo "gone_on") rfl),
    d_behind_core_told := txD X G (c2.def_ 28 (d := dOf "behind_core_told" "behind" "behind" s_behind_core_told) rfl) (c2.fact 27 (f := .glo "behind_core_told") rfl),
    d_message_of := txD X G (c2.def_ 29 (d := dOf "message_of" "message_of" "message_of" s_message_of) rfl) (c2.fact 28 (f := .glo "message_of") rfl),
    d_Story_init := txI X G (c2.def_ 30 (d := mOf "Story" "__init__" "Story.__init__" s_Story_init) rfl) (c2.fact 79 (f := .glo "Story") rfl) (c2.fact 94 (f := .mkr "Story") rfl),
    d_Story_look_at_messages := txM (c2.def_ 31 (d := mOf "Story" "look_at_messages" "Story.look_at_messages" s_Story_look_at_messages) rfl) (c2.fact 107 (f := .meth "Story" "look_at_messages") rfl),
    d_Story_make_clocks := txM (c2.def_ 32 (d := mOf "Story" "make_clocks" "Story.make_clocks" s_Story_make_clocks) rfl) (c2.fact 108 (f := .meth "Story" "make_clocks") rfl),
    d_Story_is_consistent := txM (c2.def_ 33 (d := mOf "Story" "is_consistent" "Story.is_consistent" s_Story_is_consistent) rfl) (c2.fact 109 (f := .meth "Story" "is_consistent") rfl),
    d_is_within := txD X G (c2.def_ 34 (d := dOf "is_within" "is_within" "is_within" s_is_within) rfl) (c2.fact 29 (f := .glo "is_within") rfl),
    d_story_of := txD X G (c2.def_ 35 (d := dOf "story_of" "story_of" "story_of" s_story_of) rfl) (c2.fact 30 (f := .glo "story_of") rfl),
    d_need_story := txD X G (c2.def_ 36 (d := dOf "need_story" "need_story" "need_story" s_need_story) rfl) (c2.fact 31 (f := .glo "need_story") rfl),
    d_are_checkpoints := txD X G (c2.def_ 37 (d := dOf "are_checkpoints" "are_checkpoints" "are_checkpoints" s_are_checkpoints) rfl) (c2.fact 32 (f := .glo "are_checkpoints") rfl),
    d_are_processes := txD X G (c2.def_ 38 (d := dOf "are_processes" "are_processes" "are_processes" s_are_processes) rfl) (c2.fact 33 (f := .glo "are_processes") rfl),
    d_checked := txD X G (c2.def_ 39 (d := dOf "checked" "checked" "checked" s_checked) rfl) (c2.fact 34 (f := .glo "checked") rfl),
    d_allowed_of := txD X G (c2.def_ 40 (d := dOf "allowed_of" "allowed_of" "allowed_of" s_allowed_of) rfl) (c2.fact 35 (f := .glo "allowed_of") rfl),
    d_greatest_allowed := txD X G (c2.def_ 41 (d := dOf "greatest_allowed" "greatest_allowed" "greatest_allowed" s_greatest_allowed) rfl) (c2.fact 36 (f := .glo "greatest_allowed") rfl),
    d_line := txD X G (c2.def_ 42 (d := dOf "line" "line" "line" s_line) rfl) (c2.fact 37 (f := .glo "line") rfl),
    d_floor_of := txD X G (c2.def_ 43 (d := dOf "floor_of" "floor_of" "floor_of" s_floor_of) rfl) (c2.fact 38 (f := .glo "floor_of") rfl),
    d_floor := txD X G (c2.def_ 44 (d := dOf "floor" "floor" "floor" s_floor) rfl) (c2.fact 39 (f := .glo "floor") rfl),
    d_droppable := txD X G (c2.def_ 45 (d := dOf "droppable" "droppable" "droppable" s_droppable) rfl) (c2.fact 40 (f := .glo "droppable") rfl),
    d_open_messages := txD X G (c2.def_ 46 (d := dOf "open_messages" "open_messages" "open_messages" s_open_messages) rfl) (c2.fact 41 (f := .glo "open_messages") rfl),
    d_law_so := txD X G (c2.def_ 47 (d := dOf "_law_so" "_law_so" "_law_so" s_law_so) rfl) (c2.fact 42 (f := .glo "_law_so") rfl),
    d_law_numbers := txD X G (c2.def_ 48 (d := dOf "_law_numbers" "_law_numbers" "_law_numbers" s_law_numbers) rfl) (c2.fact 43 (f := .glo "_law_numbers") rfl),
    d_law_draw := txD X G (c2.def_ 49 (d := dOf "_law_draw" "_law_draw" "_law_draw" s_law_draw) rfl) (c2.fact 44 (f := .glo "_law_draw") rfl),
    d_law_net := txD X G (c2.def_ 50 (d := dOf "_law_net" "_law_net" "_law_net" s_law_net) rfl) (c2.fact 45 (f := .glo "_law_net") rfl),
    d_law_start := txD X G (c2.def_ 51 (d := dOf "_law_start" "_law_start" "_law_start" s_law_start) rfl) (c2.fact 46 (f := .glo "_law_start") rfl),
    d_law_loose := txD X G (c2.def_ 52 (d := dOf "_law_loose" "_law_loose" "_law_loose" s_law_loose) rfl) (c2.fact 47 (f := .glo "_law_loose") rfl),
    d_law_can := txD X G (c2.def_ 53 (d := dOf "_law_can" "_law_can" "_law_can" s_law_can) rfl) (c2.fact 48 (f := .glo "_law_can") rfl),
    d_law_owner := txD X G (c2.def_ 54 (d := dOf "_law_owner" "_law_owner" "_law_owner" s_law_owner) rfl) (c2.fact 49 (f := .glo "_law_owner") rfl),
    d_law_set := txD X G (c2.def_ 55 (d := dOf "_law_set" "_law_set" "_law_set" s_law_set) rfl) (c2.fact 50 (f := .glo "_law_set") rfl),
    d_law_done := txD X G (c2.def_ 56 (d := dOf "_law_done" "_law_done" "_law_done" s_law_done) rfl) (c2.fact 51 (f := .glo "_law_done") rfl),
    d_law_history := txD X G (c2.def_ 57 (d := dOf "_law_history" "_law_history" "_law_history" s_law_history) rfl) (c2.fact 52 (f := .glo "_law_history") rfl),
    d_law_at := txD X G (c2.def_ 58 (d := dOf "_law_at" "_law_at" "_law_at" s_law_at) rfl) (c2.fact 53 (f := .glo "_law_at") rfl),
    d_law_pick := txD X G (c2.def_ 59 (d := dOf "_law_pick" "_law_pick" "_law_pick" s_law_pick) rfl) (c2.fact 54 (f := .glo "_law_pick") rfl),
    d_law_run := txD X G (c2.def_ 60 (d := dOf "_law_run" "_law_run" "_law_run" s_law_run) rfl) (c2.fact 55 (f := .glo "_law_run") rfl),
    d_law_points := txD X G (c2.def_ 61 (d := dOf "_law_points" "_law_points" "_law_points" s_law_points) rfl) (c2.fact 56 (f := .glo "_law_points") rfl),
    d_law_line := txD X G (c2.def_ 62 (d := dOf "_law_line" "_law_line" "_law_line" s_law_line) rfl) (c2.fact 57 (f := .glo "_law_line") rfl),
    d_law_wrong := txD X G (c2.def_ 63 (d := dOf "_law_wrong" "_law_wrong" "_law_wrong" s_law_wrong) rfl) (c2.fact 58 (f := .glo "_law_wrong") rfl),
    d_law := txD X G (c2.def_ 64 (d := dOf "law" "law" "law" s_law) rfl) (c2.fact 59 (f := .glo "law") rfl),
    b_isinstance := He.free_ok X G (c2.fact 60 (f := .free "isinstance") rfl),
    b_len := He.free_ok X G (c2.fact 61 (f := .free "len") rfl),
    b_all := He.free_ok X G (c2.fact 62 (f := .free "all") rfl),
    b_any := He.free_ok X G (c2.fact 63 (f := .free "any") rfl),
    b_tuple := He.free_ok X G (c2.fact 64 (f := .free "tuple") rfl),
    b_list := He.free_ok X G (c2.fact 65 (f := .free "list") rfl),
    b_int := He.free_ok X G (c2.fact 66 (f := .free "int") rfl),
    b_bool := He.free_ok X G (c2.fact 67 (f := .free "bool") rfl),
    b_str := He.free_ok X G (c2.fact 68 (f := .free "str") rfl),
    b_enumerate := He.free_ok X G (c2.fact 69 (f := .free "enumerate") rfl),
    b_zip := He.free_ok X G (c2.fact 70 (f := .free "zip") rfl),
    b_range := He.free_ok X G (c2.fact 71 (f := .free "range") rfl),
    b_set := He.free_ok X G (c2.fact 72 (f := .free "set") rfl),
    b_sum := He.free_ok X G (c2.fact 73 (f := .free "sum") rfl),
    b_max := He.free_ok X G (c2.fact 74 (f := .free "max") rfl),
    b_min := He.free_ok X G (c2.fact 75 (f := .free "min") rfl),
    b_sorted := He.free_ok X G (c2.fact 76 (f := .free "sorted") rfl),
    b_super := He.free_ok X G (c2.fact 77 (f := .free "super") rfl),
    i_MOST_LETTERS := He.int_ok X G (c2.fact 81 (f := .int "MOST_LETTERS" 6) rfl),
    i_MOST_PROCESSES := He.int_ok X G (c2.fact 82 (f := .int "MOST_PROCESSES" 5) rfl),
    i_MOST_STATES := He.int_ok X G (c2.fact 83 (f := .int "MOST_STATES" 8) rfl),
    i_MOST_CHANNELS := He.int_ok X G (c2.fact 84 (f := .int "MOST_CHANNELS" 8) rfl),
    i_MOST_RULES := He.int_ok X G (c2.fact 85 (f := .int "MOST_RULES" 40) rfl),
    i_TOKENS := He.int_ok X G (c2.fact 86 (f := .int "TOKENS" 10) rfl),
    i_MOST_DEEDS := He.int_ok X G (c2.fact 87 (f := .int "MOST_DEEDS" 60) rfl),
    z_LETTERS := He.str_ok X G (c2.fact 88 (f := .str "LETTERS" "abcdefghijklmnopqrstuvwxyz") rfl),
    t_KINDS := txKinds X G b,
    t_SORTS := txSorts X G c.1 b,
    c_Net := He.cls_ok (c2.fact 91 (f := .cls "Net") rfl),
    c_Story := He.cls_ok (c2.fact 93 (f := .cls "Story") rfl),
    a_Net_processes := He.noat_ok (c2.fact 95 (f := .noat "Net" "processes") rfl),
    a_Net_channels := He.noat_ok (c2.fact 96 (f := .noat "Net" "channels") rfl),
    a_Net_rules := He.noat_ok (c2.fact 97 (f := .noat "Net" "rules") rfl),
    a_Story_net := He.noat_ok (c2.fact 98 (f := .noat "Story" "net") rfl),
    a_Story_rows := He.noat_ok (c2.fact 99 (f := .noat "Story" "rows") rfl),
    a_Story_run := He.noat_ok (c2.fact 100 (f := .noat "Story" "run") rfl),
    a_Story_whole := He.noat_ok (c2.fact 101 (f := .noat "Story" "whole") rfl),
    a_Story_sent := He.noat_ok (c2.fact 102 (f := .noat "Story" "sent") rfl),
    a_Story_ended := He.noat_ok (c2.fact 103 (f := .noat "Story" "ended") rfl),
    a_Story_token := He.noat_ok (c2.fact 104 (f := .noat "Story" "token") rfl),
    a_Story_lost := He.noat_ok (c2.fact 105 (f := .noat "Story" "lost") rfl),
    a_Story_clocks := He.noat_ok (c2.fact 106 (f := .noat "Story" "clocks") rfl) }
theorem raw_ok {H : Hp} {a : Addr} {ns : List Int} (nl : NoL K) (hO : Only H) (hS : SqL K H a (ns.map V.int)) : ∃ o, H a = some (.frz o (.lst (ns.map V.int))) := by
  rcases hS with (q | q) | ⟨o, its, n, h1, h2, _⟩
  · rcases hO a with z | ⟨o, xs, z⟩
    · rw [q] at z; cases z
    · rw [q] at z; cases z
  · exact q
  · have := nl a o h1
    unfold isL at this
    rw [h2] at this
    cases this
theorem law_pre {H : Hp} {a : Addr} {ns : List Int} {E : XK} (hS : ∃ o, H a = some (.frz o (.lst (ns.map V.int)))) : spM PreLaw [.ref a] H (fun v _ => v = .bl true) E := by
  obtain ⟨o, ho⟩ := hS
  have nL : ¬ Lv [] [] a := fun z => by
    obtain ⟨k, pa, o, h1, _⟩ := z
    simp at h1
  refine ⟨⟨H, fun _ => False⟩, [], [], [.raw ns], fun d _ => d = .bl true, start_sat (N := []) (S := H) (vs := []) (ds := []) (Nat.zero_le _) (fun _ z => z.elim) .nil, ⟨⟨a, o, rfl, by rw [stab_of (fun z => z) nL]; exact ho⟩, trivial⟩, ⟨ns, rfl, rfl, fun _ => rfl⟩, ?_⟩
  rintro v d ps' mu' H' rfl _ _ r
  exact Rep.bl_eq r
theorem facts {f : Addr} (X : K.In h) (G : h.Ns mainGlobals mg) (hfa : mg ("law" : Str) = some (.ref f)) (c : SaysY w K) :
    ∃ fd : FuncData, (∀ (s : Shared) (v : Value), BindsTo s fd ⟨[v], []⟩ [("_law_script", v)]) ∧ ∀ base : Heap, K.In base → base.Ns mainGlobals mg → FnOk prg w K mg base CX0 13 f fd ["_law_script"] (spM PreLaw) := by
  have c2 : He.SaysD fa fn K := He.SaysT.d c.1
  obtain ⟨fd, F⟩ := c2.def_ 64 (d := dOf "law" "law" "law" s_law) rfl
  have e := hfa.symm.trans (He.glo_ok X G (c2.fact 59 (f := .glo "law") rfl))
  cases e
  have b := FunD.bindsA (ps := ["_law_script"]) F fun _ _ _ _ _ _ us hl => match us, hl with | [_], _ => rfl
  exact ⟨fd, fun s v => b s [v] rfl, fun base _ _ => w_law (tx_of X G c) (txE_of X G c) F⟩
end
end Cw
set_option maxHeartbeats 0
open PySem PySem.W PySem.Calls PyProof.Rows
theorem PySem.Challenge.cw_cutweave_k48_whole_what_was_dropped_is_n_holds : PySem.Challenge.rw_cutweave_k48_whole_what_was_dropped_is_n.Holds := by
  w_on; o_law
  refine HandSHeadRun.head_any (r := OpenLaw.row PySem.Challenge.rw_cutweave_k48_whole_what_was_dropped_is_n) (q := view (OpenLaw.row PySem.Challenge.rw_cutweave_k48_whole_what_was_dropped_is_n).prog [85]) (H := Cw.hookY) (ob := Cw.ob) (M := 40000) (loose := Cw.nms) (d := HandSHeadRun.topDef (OpenLaw.row PySem.Challenge.rw_cutweave_k48_whole_what_was_dropped_is_n).prog 85) (kwd := []) Cw.ob_eq
    (by kernel_rfl) (fun s => by kernel_rfl) Cw.run (by kernel_rfl) (by kernel_rfl) (by kernel_rfl) (by rfl) (by first | assumption | decide +kernel) (by decide +kernel) ⟨rfl, rfl, rfl, rfl, rfl, by decide +kernel⟩ ?hw ?hc
  case hw => w_witness2
  case hc =>
    refine L2.walk_ofE (l := PySem.Challenge.rw_cutweave_k48_whole_what_was_dropped_is_n) (n := 63) (k := 13) (x := "_law_script") (CX := L2.CX0) rfl (by decide) (by kernel_rfl) ⟨rfl, by decide, by decide⟩ ?F (fun _ _ _ _ z => z)
    intro w mg fa h Y G hmg0
    obtain ⟨K, KX, nl, c⟩ := Y
    have hmg : mg ("law" : PySem.Str) = some (.ref fa) := by
      have e : (HandSHeadRun.topDef (OpenLaw.row PySem.Challenge.rw_cutweave_k48_whole_what_was_dropped_is_n).prog 85).name = ("law" : PySem.Str) := by kernel_rfl
      rw [← e]
      exact hmg0
    obtain ⟨fd, hb, hF⟩ := Cw.facts KX G hmg c
    exact ⟨K, fd, Cw.spM Cw.PreLaw, KX, hb, fun H a ns hl hO hS => Cw.law_pre (Cw.raw_ok nl hO hS), hF⟩
