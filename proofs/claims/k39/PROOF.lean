import PyProof.Rows.All
import Wide.All
import OpenK.AllK
import Wide.FinOn
import KE.KStateDown
import Lean
import HandS.ForMost
import HandS.WordsExc
import HandS.Defaults
import HandS.ExcInit
import HandS.ExcField
import HandS.Lambda
import HandS.EndTab
import HandS.Head0
import HandS.Head1
import HandS.Head2
import HandS.HeadEnd
import HandS.HeadHook1
import HandS.HeadHook2
import HandS.HeadHook3
import HandS.HeadHook4
import HandS.HeadWalk
import HandS.Evl
import HandS.SetKeys
import HandS.Style
import HandS.IsInst
import HandS.Zip
import HandS.Conv
import HandS.Wide
import KE.KDictSum
import HandS.SortKw
import HandS.TupSets
import KE.GoesEnum
import HandS.DictComp
import HandS.SortInts
import HandS.Exc
import HandS.ExcOwn
import PySem.Challenge.RW_ringclaims_k39_whole_lives_by_carrying
-- Hook
set_option Elab.async false
set_option linter.all false
set_option maxRecDepth 100000
set_option maxHeartbeats 0
namespace Rc
open PySem PySem.Spec PyProof.Rows L2
def top (i : Nat) : Stmt := PySem.Challenge.pw_ringclaims_k39_whole_lives_by_carrying.main.body.getD i (.Pass ⟨0, 0, 0, 0⟩)
/-! ### a Hook whose part of the heap is reached by paths: globals, classes' namespaces, their methods, code objects -/
def dvals (g : Addr → Option Obj) (a : Addr) : List Addr := match g a with
  | some ⟨_, _, .dict es _, _⟩ => es.toList.flatMap fun e => He.refV e.val
  | _ => []
def fcode (g : Addr → Option Obj) (a : Addr) : List Addr := match g a with
  | some ⟨_, _, .func fd, _⟩ => He.refV fd.code
  | _ => []
def clsns (g : Addr → Option Obj) (a : Addr) : List Addr := match g a with
  | some ⟨_, _, .cls cd, _⟩ => [cd.ns]
  | _ => []
def reach2 (g : Addr → Option Obj) (G N M : List Addr) : List Addr := mainGlobals :: (G ++ (N ++ (M ++ (G ++ M).flatMap (fcode g))))
def reach1 (g : Addr → Option Obj) (G N : List Addr) : List Addr := reach2 g G N (N.flatMap (dvals g))
def reach0 (g : Addr → Option Obj) (G : List Addr) : List Addr := reach1 g G (G.flatMap (clsns g))
def reach (g : Addr → Option Obj) : List Addr := reach0 g (dvals g mainGlobals)
section
variable (fa : List He.Fa) (fn : List He.DefD) (tf : List He.Defn) (ex : PySem.W.Frag → Bool)
def lookAt (g : Addr → Option Obj) (K : PySem.W.Frag) : He.AlX := (He.obsT fa fn [] K, ex K && He.tabsB g tf K)
def lookR (g : Addr → Option Obj) : He.AlX := lookAt fa fn tf ex g (He.frT g (reach g))
theorem lookR_says {w : World} {h : Heap} (e : lookR fa fn tf ex h.get? = He.valX fn [] w) : He.SaysX fa fn [] tf ex w h (He.frT h.get? (reach h.get?)) := by
  have a1 : He.obsT fa fn [] (He.frT h.get? (reach h.get?)) = He.valT fn [] w := congrArg (fun z : He.AlX => z.1) e
  have a2 : (ex (He.frT h.get? (reach h.get?)) && He.tabsB h.get? tf (He.frT h.get? (reach h.get?))) = true := congrArg (fun z : He.AlX => z.2) e
  obtain ⟨b1, b2⟩ := He.ba a2
  have each : ∀ p ∈ tf, PySem.W.codeHdIn (He.frT h.get? (reach h.get?)) (He.cT (He.frT h.get? (reach h.get?)) p).1 (He.cT (He.frT h.get? (reach h.get?)) p).2 = true ∧
      ∃ o, h.get? (He.cT (He.frT h.get? (reach h.get?)) p).2 = some o ∧ He.emptyTab o = true := fun p hp => by
    obtain ⟨c1, c2⟩ := He.ba (List.all_eq_true.mp b2 p hp)
    cases z : h.get? (He.cT (He.frT h.get? (reach h.get?)) p).2 with
    | none => rw [z] at c2; cases c2
    | some o => rw [z] at c2; exact ⟨c1, o, rfl, c2⟩
  refine ⟨a1, b1, fun p hp => (each p hp).1, fun p hp => ?_, fun p hp => ?_⟩
  · obtain ⟨_, o, z1, z2⟩ := each p hp
    exact He.frT_none z1 z2
  · obtain ⟨_, o, z1, z2⟩ := each p hp
    rw [z1, He.emptyTab_eq z2]
def hookR : PySem.W.Hook where
  α := He.AlX
  obs := fun s => lookR fa fn tf ex s.heap.get?
  val := fun w => He.valX fn [] w
  says := fun w h => ∃ K : PySem.W.Frag, K.In h ∧ He.SaysX fa fn [] tf ex w h K
  of := fun _ _ e => ⟨_, He.frT_in, lookR_says fa fn tf ex e⟩
  keeps := fun _ _ _ ⟨K, hK, c⟩ k => ⟨K, PySem.W.Frag.In.keeps hK k, ⟨c.t, c.more, c.hd, c.out, fun p hp => k _ _ (c.empty p hp)⟩⟩
theorem lookR_eq {g : Addr → Option Obj} {s : Shared} (h : ∀ a, g a = s.heap.get? a) : lookR fa fn tf ex g = (hookR fa fn tf ex).obs s := by
  have e : g = s.heap.get? := funext h
  rw [e] <;> rfl
end
/-! ### the error class Full, as the layer wants it -/
def oexB (K : PySem.W.Frag) (C : Addr) : Bool := match K.lookup C with
  | some ⟨.type c, _, .cls cd, sl⟩ => decide (c = "type") && (cd.mro.head? == some (.ref C) && (PySem.HandSPX.refsVE cd.mro.tail && (cd.hasDict && (!cd.hasDel && (decide ((sl.toList[4]?) = some (some (.builtin "ValueError.__new__"))) && decide (sl.size = 6))))))
  | _ => false
def exF (K : PySem.W.Frag) : Bool := oexB K (He.ga K "Full") && (PySem.W.keepIn K (.ref (He.ga K "Full")) && (decide (PySem.W.subIn K (.ref (He.ga K "Full")) (.type "BaseException") = some true) && (decide (PySem.W.typeIn K (.ref (He.ga K "Full")) = some (.type "type")) &&
  (He.eqO (PySem.W.findIn K (.ref (He.ga K "Full")) "__setattr__") (some (some (.builtin "object.__setattr__"))) && (xfB K (He.ga K "Full") && (decide (PySem.W.findIn K (.ref (He.ga K "Full")) "__init__" = some (some (.ref (He.ma K (He.ga K "Full") "__init__")))) &&
   decide (PySem.W.typeIn K (.ref (He.ma K (He.ga K "Full") "__init__")) = some (.type "function"))))))))
/-- the two tables of code objects are two; what isinstance asks of the class Standing -/
def exT (K : PySem.W.Frag) : Bool := decide ((He.cT K ("Engine", some "by_age")).2 ≠ (He.cT K ("_law_full", none)).2)
def exS (K : PySem.W.Frag) : Bool := decide (PySem.W.findIn K (.ref (He.ga K "Standing")) "__class__" = some (some (.builtin "object.__class__"))) && (decide (PySem.W.specialIn K (.builtin "object.__class__") "__get__" = some (some (.builtin "getset_descriptor.__get__"))) &&
  (decide (PySem.W.takesIn K (.builtin "object.__class__") = some true) && (decide (PySem.W.mroIn K (He.ga K "Standing") (.type "object") = some true) && decide (PySem.W.kitOne K (.ref (He.ga K "Standing")) (.ref (He.ga K "Standing")) = some true))))
def exB (K : PySem.W.Frag) : Bool := exF K && (exT K && exS K)
end Rc
-- Fns
set_option Elab.async false
set_option linter.all false
set_option maxRecDepth 100000
set_option maxHeartbeats 0
/-! ### the head: what the top has left, by names (printed by gen_head.py) -/
namespace RcHead
open PySem PySem.Spec PyProof.Rows L2 Rc
def dfn (p : Str × Option Str) (n q : Str) (s : Stmt) : He.DefD := ⟨p, n, q, defArgs s, defBody s, defScope s, [], []⟩
def fns : List He.DefD := [
  dfn ("is_integer", none) "is_integer" "is_integer" (top 14),
  dfn ("is_within", none) "is_within" "is_within" (top 15),
  dfn ("is_number", none) "is_number" "is_number" (top 16),
  dfn ("first_wrong", none) "first_wrong" "first_wrong" (top 34),
  dfn ("waited_for", none) "waited_for" "waited_for" (top 35),
  dfn ("first_in_ring", none) "first_in_ring" "first_in_ring" (top 36),
  dfn ("is_too_far", none) "is_too_far" "is_too_far" (top 37),
  dfn ("raw_standing", none) "raw_standing" "raw_standing" (top 39),
  dfn ("waits_of", none) "waits_of" "waits_of" (top 40),
  dfn ("loads_of", none) "loads_of" "loads_of" (top 41),
  dfn ("too_heavy", none) "too_heavy" "too_heavy" (top 42),
  dfn ("check_number", none) "check_number" "check_number" (top 49),
  dfn ("_law_hand", none) "_law_hand" "_law_hand" (top 52),
  dfn ("_law_draw", none) "_law_draw" "_law_draw" (top 53),
  dfn ("_law_pick", none) "_law_pick" "_law_pick" (top 54),
  dfn ("_law_same", none) "_law_same" "_law_same" (top 55),
  dfn ("_law_book", none) "_law_book" "_law_book" (top 56),
  dfn ("_law_first", none) "_law_first" "_law_first" (top 57),
  dfn ("_law_need", none) "_law_need" "_law_need" (top 58),
  dfn ("_law_items", none) "_law_items" "_law_items" (top 59),
  dfn ("_law_by_age", none) "_law_by_age" "_law_by_age" (top 60),
  dfn ("_law_heavy", none) "_law_heavy" "_law_heavy" (top 61),
  dfn ("_law_full", none) "_law_full" "_law_full" (top 62),
  dfn ("_law_tail", none) "_law_tail" "_law_tail" (top 63),
  dfn ("_law_put", none) "_law_put" "_law_put" (top 64),
  dfn ("_law_bring", none) "_law_bring" "_law_bring" (top 65),
  dfn ("_law_set", none) "_law_set" "_law_set" (top 66),
  dfn ("_law_undo", none) "_law_undo" "_law_undo" (top 67),
  dfn ("_law_carry", none) "_law_carry" "_law_carry" (top 68),
  dfn ("_law_holder", none) "_law_holder" "_law_holder" (top 69),
  dfn ("_law_first_full", none) "_law_first_full" "_law_first_full" (top 70),
  dfn ("_law_do_write", none) "_law_do_write" "_law_do_write" (top 71),
  dfn ("_law_do_end", none) "_law_do_end" "_law_do_end" (top 73),
  dfn ("_law_do_cut", none) "_law_do_cut" "_law_do_cut" (top 74),
  dfn ("_law_do_carry", none) "_law_do_carry" "_law_do_carry" (top 75),
  dfn ("_law_do", none) "_law_do" "_law_do" (top 77),
  dfn ("_law_call", none) "_law_call" "_law_call" (top 78),
  dfn ("_law_told", none) "_law_told" "_law_told" (top 79),
  dfn ("_law_shows", none) "_law_shows" "_law_shows" (top 80),
  dfn ("_law_begun", none) "_law_begun" "_law_begun" (top 81),
  dfn ("_law_rounds_right", none) "_law_rounds_right" "_law_rounds_right" (top 82),
  dfn ("law", none) "law" "law" (top 83),
  dfn ("LogRow", some "__init__") "__init__" "LogRow.__init__" (inClass (top 24) 0),
  dfn ("Member", some "__init__") "__init__" "Member.__init__" (inClass (top 25) 0),
  dfn ("Member", some "undoing") "undoing" "Member.undoing" (inClass (top 25) 1),
  dfn ("Member", some "begin") "begin" "Member.begin" (inClass (top 25) 2),
  dfn ("Member", some "age") "age" "Member.age" (inClass (top 25) 3),
  dfn ("Standing", some "__init__") "__init__" "Standing.__init__" (inClass (top 38) 0),
  dfn ("Engine", some "__init__") "__init__" "Engine.__init__" (inClass (top 50) 0),
  dfn ("Engine", some "check_up") "check_up" "Engine.check_up" (inClass (top 50) 1),
  dfn ("Engine", some "member") "member" "Engine.member" (inClass (top 50) 2),
  dfn ("Engine", some "check_page") "check_page" "Engine.check_page" (inClass (top 50) 3),
  dfn ("Engine", some "by_age") "by_age" "Engine.by_age" (inClass (top 50) 4),
  dfn ("Engine", some "head_place") "head_place" "Engine.head_place" (inClass (top 50) 5),
  dfn ("Engine", some "tail_place") "tail_place" "Engine.tail_place" (inClass (top 50) 6),
  dfn ("Engine", some "lead_home") "lead_home" "Engine.lead_home" (inClass (top 50) 7),
  dfn ("Engine", some "make_way") "make_way" "Engine.make_way" (inClass (top 50) 8),
  dfn ("Engine", some "put") "put" "Engine.put" (inClass (top 50) 10),
  dfn ("Engine", some "triples") "triples" "Engine.triples" (inClass (top 50) 11),
  dfn ("Engine", some "standing") "standing" "Engine.standing" (inClass (top 50) 12),
  dfn ("Engine", some "lot_for") "lot_for" "Engine.lot_for" (inClass (top 50) 13),
  dfn ("Engine", some "others") "others" "Engine.others" (inClass (top 50) 14),
  dfn ("Engine", some "lot_of") "lot_of" "Engine.lot_of" (inClass (top 50) 15),
  dfn ("Engine", some "ask") "ask" "Engine.ask" (inClass (top 50) 16),
  dfn ("Engine", some "open_deed") "open_deed" "Engine.open_deed" (inClass (top 50) 17),
  dfn ("Engine", some "holder") "holder" "Engine.holder" (inClass (top 50) 18),
  dfn ("Engine", some "check_write") "check_write" "Engine.check_write" (inClass (top 50) 19),
  dfn ("Engine", some "write") "write" "Engine.write" (inClass (top 50) 21),
  dfn ("Engine", some "undo_last") "undo_last" "Engine.undo_last" (inClass (top 50) 22),
  dfn ("Engine", some "end") "end" "Engine.end" (inClass (top 50) 24),
  dfn ("Engine", some "cut_off") "cut_off" "Engine.cut_off" (inClass (top 50) 25),
  dfn ("Engine", some "cut") "cut" "Engine.cut" (inClass (top 50) 26),
  dfn ("Engine", some "carry") "carry" "Engine.carry" (inClass (top 50) 27),
  dfn ("Engine", some "page_now") "page_now" "Engine.page_now" (inClass (top 50) 29),
  dfn ("Engine", some "page_home") "page_home" "Engine.page_home" (inClass (top 50) 30),
  dfn ("Engine", some "held_by") "held_by" "Engine.held_by" (inClass (top 50) 31),
  dfn ("Engine", some "open_deeds") "open_deeds" "Engine.open_deeds" (inClass (top 50) 32),
  dfn ("Engine", some "writes_of") "writes_of" "Engine.writes_of" (inClass (top 50) 33),
  dfn ("Engine", some "is_down") "is_down" "Engine.is_down" (inClass (top 50) 35),
  dfn ("Full", some "__init__") "__init__" "Full.__init__" (inClass (top 9) 0)]
def fas : List He.Fa := [
  .glo "is_integer", .glo "is_within", .glo "is_number", .glo "first_wrong", .glo "waited_for", .glo "first_in_ring",
  .glo "is_too_far", .glo "raw_standing", .glo "waits_of", .glo "loads_of", .glo "too_heavy", .glo "check_number",
  .glo "_law_hand", .glo "_law_draw", .glo "_law_pick", .glo "_law_same", .glo "_law_book", .glo "_law_first",
  .glo "_law_need", .glo "_law_items", .glo "_law_by_age", .glo "_law_heavy", .glo "_law_full", .glo "_law_tail",
  .glo "_law_put", .glo "_law_bring", .glo "_law_set", .glo "_law_undo", .glo "_law_carry", .glo "_law_holder",
  .glo "_law_first_full", .glo "_law_do_write", .glo "_law_do_end", .glo "_law_do_cut", .glo "_law_do_carry", .glo "_law_do",
  .glo "_law_call", .glo "_law_told", .glo "_law_shows", .glo "_law_begun", .glo "_law_rounds_right", .glo "law",
  .glo "LogRow", .glo "Member", .glo "Standing", .glo "Engine", .glo "Full", .glo "Held",
  .glo "RingError", .free "len", .free "sum", .free "sorted", .free "min", .free "max",
  .free "any", .free "all", .free "zip", .free "enumerate", .free "range", .free "isinstance",
  .free "tuple", .free "list", .free "int", .free "bool", .free "abs", .int "MOST_CELLS_standings" 1000000000000000000000000000000,
  .int "MOST_HEAD" 10000000000000000000000000000000000000000, .int "MOST_DEEDS_standings" 200, .int "MOST_PAGES" 64, .int "MOST_RING" 1000000, .int "MOST_CELLS_engine" 1000, .int "MOST_NUMBER" 1000000000000000000000000000000,
  .int "MOST_DEEDS_engine" 200, .str "WRITE" "write", .str "UNDO" "undo", .str "END" "end", .str "KEPT" "kept", .cls "LogRow",
  .mkr "LogRow", .noat "LogRow" "kind", .noat "LogRow" "deed", .noat "LogRow" "page", .noat "LogRow" "before", .noat "LogRow" "behind",
  .noat "LogRow" "undo", .noat "LogRow" "left", .noat "LogRow" "place", .noat "LogRow" "cells", .cls "Member", .mkr "Member",
  .noat "Member" "number", .noat "Member" "end_cells", .noat "Member" "left_rows", .meth "Member" "undoing", .meth "Member" "begin", .meth "Member" "age",
  .cls "Standing", .mkr "Standing", .noat "Standing" "cells", .noat "Standing" "head", .noat "Standing" "deeds", .cls "Engine",
  .mkr "Engine", .noat "Engine" "kept_cells", .noat "Engine" "kept_home", .noat "Engine" "kept_pool", .noat "Engine" "kept_dirty", .noat "Engine" "kept_rows",
  .noat "Engine" "kept_members", .noat "Engine" "kept_next", .noat "Engine" "kept_head", .noat "Engine" "kept_left", .noat "Engine" "kept_down", .meth "Engine" "check_up",
  .meth "Engine" "member", .meth "Engine" "check_page", .meth "Engine" "by_age", .meth "Engine" "head_place", .meth "Engine" "tail_place", .meth "Engine" "lead_home",
  .meth "Engine" "make_way", .meth "Engine" "put", .meth "Engine" "triples", .meth "Engine" "standing", .meth "Engine" "lot_for", .meth "Engine" "others",
  .meth "Engine" "lot_of", .meth "Engine" "ask", .meth "Engine" "open_deed", .meth "Engine" "holder", .meth "Engine" "check_write", .meth "Engine" "write",
  .meth "Engine" "undo_last", .meth "Engine" "end", .meth "Engine" "cut_off", .meth "Engine" "cut", .meth "Engine" "carry", .meth "Engine" "page_now",
  .meth "Engine" "page_home", .meth "Engine" "held_by", .meth "Engine" "open_deeds", .meth "Engine" "writes_of", .meth "Engine" "is_down", .noat "Full" "lot",
  .exm "Full" "Full" true, .keep "Standing", .keep "Full", .keep "Held", .keep "RingError"]
def tfs : List He.Defn := [("Engine", some "by_age"), ("_law_full", none)]
end RcHead
-- H1
set_option Elab.async false
set_option linter.all false
set_option maxRecDepth 100000
set_option maxHeartbeats 0
namespace RcRun
open PySem PySem.Spec PyProof.Rows L2 Rc RcHead
abbrev R : PySem.W.OpenRow := PySem.W.OpenLaw.row PySem.Challenge.rw_ringclaims_k39_whole_lives_by_carrying
def nm0 : List Str := ["_wall", "RingError", "BadStanding", "NoDeed", "TooMany", "NoNumber", "NoPage", "Held", "Full", "Fell", "IsDown", "IsUp", "is_integer", "is_within", "is_number", "is_triple", "is_lot", "WRITE", "UNDO", "END", "KEPT", "LogRow", "Member", "carried_rows", "reading", "MOST_CELLS_standings", "MOST_HEAD", "MOST_DEEDS_standings", "is_first_behind", "is_waits"]
def nm1 : List Str := ["first_wrong", "waited_for", "first_in_ring", "is_too_far", "Standing", "raw_standing", "waits_of", "loads_of", "too_heavy", "MOST_PAGES", "MOST_RING", "MOST_CELLS_engine", "MOST_NUMBER", "MOST_DEEDS_engine", "check_number", "Engine", "_law_hand", "_law_draw", "_law_pick", "_law_same", "_law_book", "_law_first", "_law_need", "_law_items", "_law_by_age", "_law_heavy", "_law_full", "_law_tail", "_law_put", "_law_bring"]
def nm2 : List Str := ["_law_set", "_law_undo", "_law_carry", "_law_holder", "_law_first_full", "_law_do_write", "_law_do_back", "_law_do_end", "_law_do_cut", "_law_do_carry", "_law_do_restart", "_law_do", "_law_call", "_law_told", "_law_shows", "_law_begun", "_law_rounds_right"]
def nms : List Str := nm0 ++ nm1 ++ nm2
abbrev hk : PySem.W.Hook := hookR fas fns tfs exB
def ob (s : PySem.W.SharedT) : He.AlX := lookR fas fns tfs exB (HandSHeadRun.getT s)
theorem ob_eq (s : PySem.W.SharedT) : ob s = hk.obs s.abs := lookR_eq fas fns tfs exB (HandSHeadRun.getT_eq s)
abbrev qv : Program := PySem.W.view R.prog [83]
theorem run (w : World) : HandSHeadRun.RunEq R qv hk ob 8000 nms w := by
  intro os
  kernel_rfl
end RcRun
-- Fin
set_option Elab.async false
set_option linter.all false
set_option maxRecDepth 100000
set_option maxHeartbeats 8000000
namespace Rc
open PySem PySem.W PySem.Calls PyProof.Rows
/-- what is left of the law behind its head -/
theorem holds_of (F : ∀ (w : World) (mg : Str → Option Value) (fa : Addr) (h : Heap) (K : PySem.W.Frag), K.In h → He.SaysX RcHead.fas RcHead.fns [] RcHead.tfs exB w h K → h.Ns mainGlobals mg → mg ("law" : Str) = some (.ref fa) → LamX.LawAtS PySem.Challenge.rw_ringclaims_k39_whole_lives_by_carrying w K L2.CX0 14 63 "_law_script" mg fa h) :
    PySem.Challenge.rw_ringclaims_k39_whole_lives_by_carrying.Holds := by
  w_on; o_law
  refine HandSHeadRun.head_any (r := RcRun.R) (q := RcRun.qv) (H := RcRun.hk) (ob := RcRun.ob) (M := 8000) (loose := RcRun.nms) (d := HandSHeadRun.topDef RcRun.R.prog 83) (kwd := []) RcRun.ob_eq
    (by kernel_rfl) (fun s => by kernel_rfl) RcRun.run (by kernel_rfl) (by kernel_rfl) (by kernel_rfl) (by rfl) (by first | assumption | decide +kernel) (by decide +kernel) ⟨rfl, rfl, rfl, rfl, rfl, by decide +kernel⟩ ?hw ?hc
  case hw => w_witness2
  case hc =>
    refine LamX.walk_ofTsE (l := PySem.Challenge.rw_ringclaims_k39_whole_lives_by_carrying) (n := 63) (k := 14) (x := "_law_script") (CX := fun _ => L2.CX0) rfl (by decide) (by kernel_rfl) ⟨rfl, by decide, by decide⟩ ?F (fun _ _ _ _ _ z => z)
    intro w mg fa h Y G hmg0
    obtain ⟨K, KX, c⟩ := Y
    have hmg : mg ("law" : PySem.Str) = some (.ref fa) := by
      have e : (HandSHeadRun.topDef RcRun.R.prog 83).name = ("law" : PySem.Str) := by kernel_rfl
      rw [← e]
      exact hmg0
    exact ⟨K, KX, F w mg fa h K KX c G hmg⟩
end Rc
-- A
set_option Elab.async false
set_option linter.all false
set_option maxRecDepth 100000
set_option maxHeartbeats 4000000
/-! RcA: data over the abstract heap, a region of cells that may change, and a small symbolic walk of readings over both. -/
namespace Rc
open PySem PySem.Spec PyProof.Rows L2

/-! ### data: values, and lists and tuples that change no more -/
inductive D where
  | v (x : V) | l (ds : List D) | t (ds : List D)
mutual
def Rp (H : Hp) (N : Addr → Prop) : D → V → Prop
  | .v x, y => y = x
  | .l ds, y => ∃ a xs, y = .ref a ∧ N a ∧ H a = some (.lst xs) ∧ RpL H N ds xs
  | .t ds, y => ∃ a xs, y = .ref a ∧ N a ∧ H a = some (.tup xs) ∧ RpL H N ds xs
def RpL (H : Hp) (N : Addr → Prop) : List D → List V → Prop
  | [], xs => xs = []
  | d :: ds, xs => ∃ x r, xs = x :: r ∧ Rp H N d x ∧ RpL H N ds r
end
/-- no table of code objects -/
def NT (o : HO) : Prop := ∀ ps, o ≠ .tbl ps
class NTC (o : HO) : Prop where
  nt : NT o
instance {xs : List V} : NTC (.lst xs) := ⟨fun ps z => by cases z⟩
instance {xs : List V} : NTC (.tup xs) := ⟨fun ps z => by cases z⟩
theorem nt_of {o : HO} [h : NTC o] : NT o := h.nt
theorem nt_code {c : Addr} {q : Str} : NT (LamX.CodeO c q) := LamX.codeO_ne
mutual
theorem Rp.mono {H H' : Hp} {N N' : Addr → Prop} (e : ∀ a o, N a → H a = some o → NT o → N' a ∧ H' a = some o) : ∀ {d : D} {y : V}, Rp H N d y → Rp H' N' d y
  | .v _, _, h => by
    unfold Rp at h ⊢
    exact h
  | .l ds, _, h => by
    unfold Rp at h ⊢
    obtain ⟨a, xs, e1, n, ha, r⟩ := h
    obtain ⟨n', ha'⟩ := e a _ n ha nt_of
    exact ⟨a, xs, e1, n', ha', RpL.mono e r⟩
  | .t ds, _, h => by
    unfold Rp at h ⊢
    obtain ⟨a, xs, e1, n, ha, r⟩ := h
    obtain ⟨n', ha'⟩ := e a _ n ha nt_of
    exact ⟨a, xs, e1, n', ha', RpL.mono e r⟩
theorem RpL.mono {H H' : Hp} {N N' : Addr → Prop} (e : ∀ a o, N a → H a = some o → NT o → N' a ∧ H' a = some o) : ∀ {ds : List D} {xs : List V}, RpL H N ds xs → RpL H' N' ds xs
  | [], _, h => by
    unfold RpL at h ⊢
    exact h
  | d :: ds, _, h => by
    unfold RpL at h ⊢
    obtain ⟨x, r, e1, h1, h2⟩ := h
    exact ⟨x, r, e1, Rp.mono e h1, RpL.mono e h2⟩
end
section
variable {H : Hp} {N : Addr → Prop} {x y : V} {ds es : List D} {xs ys : List V} {d : D}
theorem rp_v : Rp H N (.v x) y ↔ y = x := by unfold Rp; exact Iff.rfl
theorem rp_l : Rp H N (.l ds) y ↔ ∃ a xs, y = .ref a ∧ N a ∧ H a = some (.lst xs) ∧ RpL H N ds xs := by rw [Rp]
theorem rp_t : Rp H N (.t ds) y ↔ ∃ a xs, y = .ref a ∧ N a ∧ H a = some (.tup xs) ∧ RpL H N ds xs := by rw [Rp]
theorem rpl_nil : RpL H N [] xs ↔ xs = [] := by rw [RpL]
theorem rpl_cons : RpL H N (d :: ds) xs ↔ ∃ x r, xs = x :: r ∧ Rp H N d x ∧ RpL H N ds r := by rw [RpL]
theorem rpv : Rp H N (.v x) x := rp_v.mpr rfl
theorem RpL.nil : RpL H N [] [] := rpl_nil.mpr rfl
theorem RpL.cons (h : Rp H N d x) (r : RpL H N ds xs) : RpL H N (d :: ds) (x :: xs) := rpl_cons.mpr ⟨x, xs, rfl, h, r⟩
theorem RpL.len : ∀ {ds : List D} {xs : List V}, RpL H N ds xs → xs.length = ds.length
  | [], xs, h => by rw [rpl_nil.mp h]; rfl
  | d :: ds, xs, h => by
    obtain ⟨x, r, e, _, h2⟩ := rpl_cons.mp h
    rw [e, List.length_cons, List.length_cons, h2.len]
theorem RpL.get : ∀ {ds : List D} {xs : List V} {i : Nat} {d : D}, RpL H N ds xs → ds[i]? = some d → ∃ x, xs[i]? = some x ∧ Rp H N d x
  | [], _, _, _, _, e => by simp at e
  | d0 :: ds, xs, 0, d, h, e => by
    obtain ⟨x, r, e1, h1, h2⟩ := rpl_cons.mp h
    simp at e; subst e; subst e1
    exact ⟨x, rfl, h1⟩
  | d0 :: ds, xs, i + 1, d, h, e => by
    obtain ⟨x, r, e1, h1, h2⟩ := rpl_cons.mp h
    subst e1
    obtain ⟨y, e2, h3⟩ := h2.get (i := i) (d := d) (by simpa using e)
    exact ⟨y, by simpa using e2, h3⟩
theorem RpL.getV : ∀ {ds : List D} {xs : List V} {i : Nat} {x : V}, RpL H N ds xs → xs[i]? = some x → ∃ d, ds[i]? = some d ∧ Rp H N d x := fun {ds xs i x} h e => by
  have hi := (List.getElem?_eq_some_iff.mp e).1
  rw [h.len] at hi
  obtain ⟨y, e2, r⟩ := h.get (i := i) (d := ds[i]) (by simp [hi])
  rw [e] at e2; cases e2
  exact ⟨_, by simp [hi], r⟩
theorem RpL.app : ∀ {ds es : List D} {xs ys : List V}, RpL H N ds xs → RpL H N es ys → RpL H N (ds ++ es) (xs ++ ys)
  | [], es, xs, ys, h, g => by rw [rpl_nil.mp h]; exact g
  | d :: ds, es, xs, ys, h, g => by
    obtain ⟨x, r, e1, h1, h2⟩ := rpl_cons.mp h
    subst e1
    exact RpL.cons h1 (h2.app g)
theorem RpL.set : ∀ {ds : List D} {xs : List V} {i : Nat} {d : D} {x : V}, RpL H N ds xs → Rp H N d x → RpL H N (ds.set i d) (xs.set i x)
  | [], xs, i, d, x, h, g => by
    have e := rpl_nil.mp h
    subst e
    exact RpL.nil
  | d0 :: ds, xs, 0, d, x, h, g => by
    obtain ⟨y, r, e1, h1, h2⟩ := rpl_cons.mp h
    subst e1
    exact RpL.cons g h2
  | d0 :: ds, xs, i + 1, d, x, h, g => by
    obtain ⟨y, r, e1, h1, h2⟩ := rpl_cons.mp h
    subst e1
    exact RpL.cons h1 (h2.set g)
theorem RpL.drop : ∀ {ds : List D} {xs : List V} (n : Nat), RpL H N ds xs → RpL H N (ds.drop n) (xs.drop n)
  | ds, xs, 0, h => h
  | [], xs, n + 1, h => by rw [rpl_nil.mp h]; exact RpL.nil
  | d :: ds, xs, n + 1, h => by
    obtain ⟨y, r, e1, h1, h2⟩ := rpl_cons.mp h
    subst e1
    exact h2.drop n
theorem RpL.take : ∀ {ds : List D} {xs : List V} (n : Nat), RpL H N ds xs → RpL H N (ds.take n) (xs.take n)
  | ds, xs, 0, h => RpL.nil
  | [], xs, n + 1, h => by rw [rpl_nil.mp h]; exact RpL.nil
  | d :: ds, xs, n + 1, h => by
    obtain ⟨y, r, e1, h1, h2⟩ := rpl_cons.mp h
    subst e1
    exact RpL.cons h1 (h2.take n)
theorem RpL.rev {ds : List D} {xs : List V} (h : RpL H N ds xs) : RpL H N ds.reverse xs.reverse := by
  induction ds generalizing xs with
  | nil => rw [rpl_nil.mp h]; exact RpL.nil
  | cons d ds ih =>
    obtain ⟨y, r, e1, h1, h2⟩ := rpl_cons.mp h
    subst e1
    rw [List.reverse_cons, List.reverse_cons]
    exact (ih h2).app (RpL.cons h1 RpL.nil)
theorem RpL.dropLast {ds : List D} {xs : List V} (h : RpL H N ds xs) : RpL H N ds.dropLast xs.dropLast := by
  rw [List.dropLast_eq_take, List.dropLast_eq_take, h.len]
  exact h.take _
/-- plain values -/
theorem rpl_map {α : Type} (f : α → V) : ∀ (as : List α), RpL H N (as.map fun a => D.v (f a)) (as.map f)
  | [] => RpL.nil
  | a :: as => RpL.cons rpv (rpl_map f as)
theorem rpl_mapV {α : Type} {f : α → V} : ∀ {as : List α} {xs : List V}, RpL H N (as.map fun a => D.v (f a)) xs → xs = as.map f
  | [], xs, h => rpl_nil.mp h
  | a :: as, xs, h => by
    obtain ⟨y, r, e1, h1, h2⟩ := rpl_cons.mp h
    rw [e1, rp_v.mp h1, rpl_mapV h2]
    rfl
end
/-- keyed data -/
def RpK {κ : Type} (H : Hp) (N : Addr → Prop) : List (κ × D) → List (κ × V) → Prop
  | [], xs => xs = []
  | p :: r, xs => ∃ x q, xs = (p.1, x) :: q ∧ Rp H N p.2 x ∧ RpK H N r q
section
variable {κ : Type} {H H' : Hp} {N N' : Addr → Prop} {x : V} {d : D} {k : κ} {fs : List (κ × D)} {vs : List (κ × V)}
theorem RpK.mono (e : ∀ a o, N a → H a = some o → NT o → N' a ∧ H' a = some o) : ∀ {fs : List (κ × D)} {vs : List (κ × V)}, RpK H N fs vs → RpK H' N' fs vs
  | [], _, h => h
  | p :: r, _, ⟨x, q, e1, h1, h2⟩ => ⟨x, q, e1, h1.mono e, RpK.mono e h2⟩
theorem RpK.nil : RpK H N ([] : List (κ × D)) [] := rfl
theorem RpK.cons (h : Rp H N d x) (r : RpK H N fs vs) : RpK H N ((k, d) :: fs) ((k, x) :: vs) := ⟨x, vs, rfl, h, r⟩
theorem RpK.len : ∀ {fs : List (κ × D)} {vs : List (κ × V)}, RpK H N fs vs → vs.length = fs.length
  | [], _, h => by rw [show _ = [] from h]; rfl
  | p :: r, _, ⟨x, q, e1, h1, h2⟩ => by rw [e1, List.length_cons, List.length_cons, RpK.len h2]
theorem RpK.keys : ∀ {fs : List (κ × D)} {vs : List (κ × V)}, RpK H N fs vs → vs.map (·.1) = fs.map (·.1)
  | [], _, h => by rw [show _ = [] from h]; rfl
  | p :: r, _, ⟨x, q, e1, h1, h2⟩ => by rw [e1, List.map_cons, List.map_cons, RpK.keys h2]
theorem RpK.vals : ∀ {fs : List (κ × D)} {vs : List (κ × V)}, RpK H N fs vs → RpL H N (fs.map (·.2)) (vs.map (·.2))
  | [], _, h => by rw [show _ = [] from h]; exact RpL.nil
  | p :: r, _, ⟨x, q, e1, h1, h2⟩ => by rw [e1]; exact RpL.cons h1 (RpK.vals h2)
theorem RpK.get : ∀ {fs : List (κ × D)} {vs : List (κ × V)} {i : Nat} {p : κ × D}, RpK H N fs vs → fs[i]? = some p → ∃ x, vs[i]? = some (p.1, x) ∧ Rp H N p.2 x
  | [], _, _, _, _, e => by simp at e
  | p :: r, _, 0, p', ⟨x, q, e1, h1, h2⟩, e => by simp at e; subst e; subst e1; exact ⟨x, rfl, h1⟩
  | p :: r, _, i + 1, p', ⟨x, q, e1, h1, h2⟩, e => by
    subst e1
    obtain ⟨y, e2, h3⟩ := RpK.get h2 (i := i) (p := p') (by simpa using e)
    exact ⟨y, by simpa using e2, h3⟩
end
/-- a look at fields -/
def lkF (fs : List (Str × D)) (f : Str) : Option D := fs.lookup f
def ptF (f : Str) (d : D) : List (Str × D) → List (Str × D)
  | [] => [(f, d)]
  | (g, x) :: r => if g = f then (g, d) :: r else (g, x) :: ptF f d r
def lkK (kvs : List (Key × D)) (k : Key) : Option D := (kvs.find? fun kv => decide (kv.1 = k)).map (·.2)
def ptK (k : Key) (d : D) (kvs : List (Key × D)) : List (Key × D) :=
  if (kvs.any fun kv => decide (kv.1 = k)) = true then kvs.map (fun kv => if kv.1 = k then (kv.1, d) else kv) else kvs ++ [(k, d)]
def drK (kvs : List (Key × D)) (k : Key) : List (Key × D) := kvs.filter fun kv => decide (kv.1 ≠ k)
section
variable {H : Hp} {N : Addr → Prop} {x : V} {d : D}
theorem RpK.lkF : ∀ {fs : List (Str × D)} {vs : List (Str × V)} {f : Str}, RpK H N fs vs → Rc.lkF fs f = some d → ∃ x, vs.lookup f = some x ∧ Rp H N d x
  | [], _, _, _, e => by cases e
  | (g, d0) :: r, _, f, ⟨x, q, e1, h1, h2⟩, e => by
    subst e1
    have e' : (match f == g with | true => some d0 | false => r.lookup f) = some d := e
    show ∃ x', (match f == g with | true => some x | false => q.lookup f) = some x' ∧ Rp H N d x'
    cases c : f == g with
    | true => rw [c] at e'; cases e'; exact ⟨x, rfl, h1⟩
    | false => rw [c] at e'; exact RpK.lkF h2 (f := f) e'
theorem RpK.lkFn : ∀ {fs : List (Str × D)} {vs : List (Str × V)} {f : Str}, RpK H N fs vs → Rc.lkF fs f = none → vs.lookup f = none
  | [], _, _, h, _ => by rw [show _ = [] from h]; rfl
  | (g, d0) :: r, _, f, ⟨x, q, e1, h1, h2⟩, e => by
    subst e1
    have e' : (match f == g with | true => some d0 | false => r.lookup f) = none := e
    show (match f == g with | true => some x | false => q.lookup f) = none
    cases c : f == g with
    | true => rw [c] at e'; cases e'
    | false => rw [c] at e'; exact RpK.lkFn h2 (f := f) e'
theorem RpK.ptF : ∀ {fs : List (Str × D)} {vs : List (Str × V)} {f : Str}, RpK H N fs vs → Rp H N d x → RpK H N (Rc.ptF f d fs) (putF f x vs)
  | [], _, f, h, g => by rw [show _ = [] from h]; exact RpK.cons g RpK.nil
  | (g, d0) :: r, _, f, ⟨x0, q, e1, h1, h2⟩, h => by
    subst e1
    show RpK H N (if g = f then (g, d) :: r else (g, d0) :: Rc.ptF f d r) (if g = f then (g, x) :: q else (g, x0) :: putF f x q)
    by_cases c : g = f
    · rw [if_pos c, if_pos c]; exact RpK.cons h h2
    · rw [if_neg c, if_neg c]; exact RpK.cons h1 (RpK.ptF h2 h)
theorem RpK.lkK : ∀ {fs : List (Key × D)} {vs : List (Key × V)} {f : Key}, RpK H N fs vs → (∀ d, Rc.lkK fs f = some d → ∃ x, valV vs f = some x ∧ Rp H N d x) ∧ (Rc.lkK fs f = none → valV vs f = none)
  | [], _, _, h => by rw [show _ = [] from h]; exact ⟨fun d e => (by cases e), fun _ => rfl⟩
  | (g, d0) :: r, _, f, ⟨x, q, e1, h1, h2⟩ => by
    subst e1
    unfold Rc.lkK valV
    by_cases c : g = f
    · rw [List.find?_cons_of_pos (by simpa using c), List.find?_cons_of_pos (by simpa using c)]
      exact ⟨fun d e => ⟨x, rfl, by cases e; exact h1⟩, fun e => by cases e⟩
    · rw [List.find?_cons_of_neg (by simpa using c), List.find?_cons_of_neg (by simpa using c)]
      exact RpK.lkK h2
theorem RpK.any : ∀ {fs : List (Key × D)} {vs : List (Key × V)} {f : Key}, RpK H N fs vs → (vs.any fun kv => decide (kv.1 = f)) = (fs.any fun kv => decide (kv.1 = f))
  | [], _, _, h => by rw [show _ = [] from h]; rfl
  | p :: r, _, f, ⟨x, q, e1, h1, h2⟩ => by rw [e1, List.any_cons, List.any_cons, RpK.any h2]
theorem RpK.app {κ : Type} : ∀ {fs gs : List (κ × D)} {vs ws : List (κ × V)}, RpK H N fs vs → RpK H N gs ws → RpK H N (fs ++ gs) (vs ++ ws)
  | [], _, _, _, h, g => by rw [show _ = [] from h]; exact g
  | p :: r, _, _, _, ⟨x, q, e1, h1, h2⟩, g => by
    subst e1
    exact ⟨x, _, rfl, h1, RpK.app h2 g⟩
theorem RpK.ptK {fs : List (Key × D)} {vs : List (Key × V)} {f : Key} (h : RpK H N fs vs) (g : Rp H N d x) : RpK H N (Rc.ptK f d fs) (putK vs f x) := by
  unfold Rc.ptK putK
  rw [h.any]
  by_cases c : (fs.any fun kv => decide (kv.1 = f)) = true
  · rw [if_pos c, if_pos c]
    clear c
    induction fs generalizing vs with
    | nil => rw [show vs = [] from h]; exact RpK.nil
    | cons p r ih =>
      obtain ⟨x0, q, e1, h1, h2⟩ := h
      subst e1
      rw [List.map_cons, List.map_cons]
      by_cases c : p.1 = f
      · rw [if_pos c]
        show RpK H N _ ((if p.1 = f then (p.1, x) else (p.1, x0)) :: _)
        rw [if_pos c]
        exact RpK.cons g (ih h2)
      · rw [if_neg c]
        show RpK H N _ ((if p.1 = f then (p.1, x) else (p.1, x0)) :: _)
        rw [if_neg c]
        exact RpK.cons h1 (ih h2)
  · rw [if_neg c, if_neg c]
    exact h.app (RpK.cons g RpK.nil)
theorem RpK.drK {f : Key} : ∀ {fs : List (Key × D)} {vs : List (Key × V)}, RpK H N fs vs → RpK H N (Rc.drK fs f) (dropK vs f)
  | [], _, h => by rw [show _ = [] from h]; exact RpK.nil
  | p :: r, _, ⟨x, q, e1, h1, h2⟩ => by
    subst e1
    unfold Rc.drK dropK
    rw [List.filter_cons, List.filter_cons]
    by_cases c : p.1 = f
    · rw [if_neg (by simp [c]), if_neg (by simp [c])]
      exact RpK.drK h2
    · rw [if_pos (by simp [c]), if_pos (by simp [c])]
      exact RpK.cons h1 (RpK.drK h2)
end

/-! ### a region: cells that may change -/
inductive RC where
  | l (ds : List D)
  | i (C : Addr) (fs : List (Str × D))
  | k (kvs : List (Key × D))
  | fz (o : Obj) (kvs : List (Key × D))
abbrev Rg := List (Addr × RC)
def Out (R : Rg) (a : Addr) : Prop := ∀ p ∈ R, p.1 ≠ a
def Cell (H : Hp) (N : Addr → Prop) (a : Addr) : RC → Prop
  | .l ds => ∃ xs, H a = some (.lst xs) ∧ RpL H N ds xs
  | .i C fs => ∃ dx vs, H a = some (.ins C dx vs) ∧ RpK H N fs vs
  | .k kvs => ∃ vs, H a = some (.dK vs) ∧ RpK H N kvs vs
  | .fz o kvs => ∃ vs, H a = some (.frz o (.dK vs)) ∧ RpK H N kvs vs
/-- the tables of code objects that lambdas grow -/
class Tbl where
  TT : List (Addr × Str)
variable [Tbl]
structure Holds (H : Hp) (R : Rg) : Prop where
  nd : (R.map (·.1)).Nodup
  at_ : ∀ p ∈ R, Cell H (Out R) p.1 p.2
  tb : LamX.Tabs Tbl.TT H
/-- what lies out of the region stays, and stays out -/
def Tn (H : Hp) (R : Rg) (H' : Hp) (R' : Rg) : Prop := ∀ a o, Out R a → H a = some o → NT o → Out R' a ∧ H' a = some o
section
variable {H H' H1 H2 : Hp} {R R' R1 R2 : Rg} {a : Addr} {c : RC} {o : HO} {d : D} {x : V}
theorem Tn.refl : Tn H R H R := fun _ _ n h _ => ⟨n, h⟩
theorem Tn.trans (t : Tn H R H1 R1) (u : Tn H1 R1 H2 R2) : Tn H R H2 R2 := fun a o n h nt => by
  obtain ⟨n1, h1⟩ := t a o n h nt
  exact u a o n1 h1 nt
theorem Rp.tn (t : Tn H R H' R') (r : Rp H (Out R) d x) : Rp H' (Out R') d x := r.mono t
theorem RpL.tn {ds : List D} {xs : List V} (t : Tn H R H' R') (r : RpL H (Out R) ds xs) : RpL H' (Out R') ds xs := r.mono t
theorem out_perm (p : R.Perm R') : Out R = Out R' := by
  funext a
  exact propext ⟨fun h q hq => h q (p.mem_iff.mpr hq), fun h q hq => h q (p.mem_iff.mp hq)⟩
theorem Holds.perm (h : Holds H R) (p : R.Perm R') : Holds H R' := ⟨(p.map _).nodup_iff.mp h.nd, fun q hq => by
  rw [← out_perm p]
  exact h.at_ q (p.mem_iff.mpr hq), h.tb⟩
theorem Tn.of_perm (p : R.Perm R') : Tn H R H R' := fun a o n h nt => ⟨by rw [← out_perm p]; exact n, h⟩
theorem Cell.some (h : Cell H N a c) : ∃ o, H a = some o := by
  cases c with
  | l ds => obtain ⟨xs, e, _⟩ := h; exact ⟨_, e⟩
  | i C fs => obtain ⟨dx, vs, e, _⟩ := h; exact ⟨_, e⟩
  | k kvs => obtain ⟨vs, e, _⟩ := h; exact ⟨_, e⟩
  | fz o kvs => obtain ⟨vs, e, _⟩ := h; exact ⟨_, e⟩
theorem Holds.some (h : Holds H R) {p : Addr × RC} (hp : p ∈ R) : ∃ o, H p.1 = Option.some o := (h.at_ p hp).some
theorem Holds.out (h : Holds H R) (hn : H a = none) : Out R a := fun p hp e => by
  obtain ⟨o, ho⟩ := h.some hp
  rw [e, hn] at ho
  cases ho
theorem Holds.uniq (h : Holds H R) {c c' : RC} (m : (a, c) ∈ R) (m' : (a, c') ∈ R) : c = c' := by
  have nd := h.nd
  clear h
  induction R with
  | nil => cases m
  | cons p r ih =>
    rw [List.map_cons, List.nodup_cons] at nd
    rcases List.mem_cons.mp m with e | e
    · rcases List.mem_cons.mp m' with e' | e'
      · rw [← e] at e'; cases e'; rfl
      · exact absurd (List.mem_map.mpr ⟨_, e', by rw [← e]⟩) nd.1
    · rcases List.mem_cons.mp m' with e' | e'
      · exact absurd (List.mem_map.mpr ⟨_, e, by rw [← e']⟩) nd.1
      · exact ih e e' nd.2
/-- cells stay where the heap stays at them and at what is out -/
theorem Cell.mono {N N' : Addr → Prop} (e : ∀ b o, N b → H b = Option.some o → NT o → N' b ∧ H' b = Option.some o) (ha : ∀ o, H a = Option.some o → H' a = Option.some o) (h : Cell H N a c) : Cell H' N' a c := by
  cases c with
  | l ds => obtain ⟨xs, e1, r⟩ := h; exact ⟨xs, ha _ e1, r.mono e⟩
  | i C fs => obtain ⟨dx, vs, e1, r⟩ := h; exact ⟨dx, vs, ha _ e1, r.mono e⟩
  | k kvs => obtain ⟨vs, e1, r⟩ := h; exact ⟨vs, ha _ e1, r.mono e⟩
  | fz o kvs => obtain ⟨vs, e1, r⟩ := h; exact ⟨vs, ha _ e1, r.mono e⟩
/-- only growth -/
theorem Holds.ex (h : Holds H R) (e : ∀ a o, H a = Option.some o → H' a = Option.some o) : Holds H' R := ⟨h.nd, fun p hp => (h.at_ p hp).mono (fun b o n q _ => ⟨n, e b o q⟩) (e _), h.tb.ext e⟩
theorem Tn.ex (e : ∀ a o, H a = Option.some o → H' a = Option.some o) : Tn H R H' R := fun a o n h nt => ⟨n, e a o h⟩
theorem ex_new {p : Addr} {o : HO} (h : H p = none) : ∀ a u, H a = Option.some u → upd H p o a = Option.some u := fun a u e => by
  rw [upd_ne (ne_of_none e h)]
  exact e
/-- a cell is none of the tables, none of their code objects -/
theorem Cell.plain {N : Addr → Prop} (h : Cell H N a c) : ∃ o, H a = Option.some o ∧ (∀ ps, o ≠ .tbl ps) ∧ ∀ x q, o ≠ LamX.CodeO x q := by
  cases c with
  | l ds => obtain ⟨xs, e, _⟩ := h; exact ⟨_, e, (fun _ z => by cases z), (fun _ _ z => by unfold LamX.CodeO at z; cases z)⟩
  | i C fs => obtain ⟨dx, vs, e, _⟩ := h; exact ⟨_, e, (fun _ z => by cases z), (fun _ _ z => by unfold LamX.CodeO at z; cases z)⟩
  | k kvs => obtain ⟨vs, e, _⟩ := h; exact ⟨_, e, (fun _ z => by cases z), (fun _ _ z => by unfold LamX.CodeO at z; cases z)⟩
  | fz o kvs => obtain ⟨vs, e, _⟩ := h; exact ⟨_, e, (fun _ z => by cases z), (fun _ _ z => by unfold LamX.CodeO at z; cases z)⟩
theorem tabs_upd {T : List (Addr × Str)} {o : HO} (t : LamX.Tabs T H) (h : ∃ u, H a = Option.some u ∧ (∀ ps, u ≠ .tbl ps) ∧ ∀ x q, u ≠ LamX.CodeO x q) : LamX.Tabs T (upd H a o) := fun p hp => by
  obtain ⟨u, hu, n1, n2⟩ := h
  obtain ⟨ps, h1, h2, h3⟩ := t p hp
  refine ⟨ps, ?_, h2, fun pos cv hc => ?_⟩
  · rw [upd_ne (fun z => by rw [z, hu] at h1; exact n1 ps (Option.some.inj h1))]
    exact h1
  · obtain ⟨c, e1, e2⟩ := h3 pos cv hc
    refine ⟨c, e1, ?_⟩
    rw [upd_ne (fun z => by rw [z, hu] at e2; exact n2 _ _ (Option.some.inj e2))]
    exact e2
/-- a cell in the middle is written -/
theorem Holds.put {A B : Rg} {c' : RC} (h : Holds H (A ++ (a, c) :: B)) (o : HO) (hc : Cell (upd H a o) (Out (A ++ (a, c') :: B)) a c') : Holds (upd H a o) (A ++ (a, c') :: B) ∧ Tn H (A ++ (a, c) :: B) (upd H a o) (A ++ (a, c') :: B) := by
  have en : (A ++ (a, c') :: B).map (·.1) = (A ++ (a, c) :: B).map (·.1) := by simp
  have eo : Out (A ++ (a, c') :: B) = Out (A ++ (a, c) :: B) := by
    funext b
    refine propext ⟨fun g p hp => ?_, fun g p hp => ?_⟩
    · rcases List.mem_append.mp hp with q | q
      · exact g p (List.mem_append.mpr (.inl q))
      · rcases List.mem_cons.mp q with q | q
        · rw [q]; exact g (a, c') (List.mem_append.mpr (.inr List.mem_cons_self))
        · exact g p (List.mem_append.mpr (.inr (List.mem_cons_of_mem _ q)))
    · rcases List.mem_append.mp hp with q | q
      · exact g p (List.mem_append.mpr (.inl q))
      · rcases List.mem_cons.mp q with q | q
        · rw [q]; exact g (a, c) (List.mem_append.mpr (.inr List.mem_cons_self))
        · exact g p (List.mem_append.mpr (.inr (List.mem_cons_of_mem _ q)))
  have nd := h.nd
  have out : ∀ b, Out (A ++ (a, c) :: B) b → b ≠ a := fun b g e => g (a, c) (List.mem_append.mpr (.inr List.mem_cons_self)) e.symm
  have keep : ∀ b u, Out (A ++ (a, c) :: B) b → H b = Option.some u → NT u → Out (A ++ (a, c') :: B) b ∧ upd H a o b = Option.some u := fun b u n q _ => ⟨by rw [eo]; exact n, by rw [upd_ne (out b n)]; exact q⟩
  refine ⟨⟨by rw [en]; exact nd, fun p hp => ?_, tabs_upd h.tb (h.at_ (a, c) (List.mem_append.mpr (.inr List.mem_cons_self))).plain⟩, keep⟩
  have others : ∀ p, p ∈ A ∨ p ∈ B → p.1 ≠ a := fun p hp e => by
    rw [List.map_append, List.map_cons] at nd
    obtain ⟨n1, n2, n3⟩ := List.nodup_append.mp nd
    rcases hp with q | q
    · exact n3 _ (List.mem_map.mpr ⟨p, q, rfl⟩) _ List.mem_cons_self e
    · exact (List.nodup_cons.mp n2).1 (List.mem_map.mpr ⟨p, q, e⟩)
  have old : ∀ p, p ∈ A ∨ p ∈ B → Cell (upd H a o) (Out (A ++ (a, c') :: B)) p.1 p.2 := fun p hp => by
    have hm : p ∈ A ++ (a, c) :: B := hp.elim (fun q => List.mem_append.mpr (.inl q)) fun q => List.mem_append.mpr (.inr (List.mem_cons_of_mem _ q))
    exact (h.at_ p hm).mono keep fun u q => by rw [upd_ne (others p hp)]; exact q
  rcases List.mem_append.mp hp with q | q
  · exact old p (.inl q)
  · rcases List.mem_cons.mp q with q | q
    · rw [q]; exact hc
    · exact old p (.inr q)
/-- a new cell -/
theorem Holds.new (h : Holds H R) {o : HO} (hn : H a = none) (hc : Cell (upd H a o) (Out ((a, c) :: R)) a c) : Holds (upd H a o) ((a, c) :: R) ∧ Tn H R (upd H a o) ((a, c) :: R) := by
  have hout := h.out hn
  have keep : ∀ b u, Out R b → H b = Option.some u → NT u → Out ((a, c) :: R) b ∧ upd H a o b = Option.some u := fun b u n q _ => ⟨fun p hp => by
    rcases List.mem_cons.mp hp with e | e
    · rw [e]; exact (ne_of_none q hn).symm
    · exact n p e, ex_new hn b u q⟩
  refine ⟨⟨?_, fun p hp => ?_, h.tb.ext (ex_new hn)⟩, keep⟩
  · rw [List.map_cons, List.nodup_cons]
    exact ⟨fun m => by
      obtain ⟨p, hp, e⟩ := List.mem_map.mp m
      exact hout p hp e, h.nd⟩
  · rcases List.mem_cons.mp hp with e | e
    · rw [e]; exact hc
    · exact (h.at_ p e).mono keep fun u q => ex_new hn _ u q
end
end Rc
-- B
set_option Elab.async false
set_option linter.all false
set_option maxRecDepth 100000
set_option maxHeartbeats 4000000
namespace Rc
open PySem PySem.Spec PyProof.Rows L2
variable [Tbl]
/-! ### the slots by data -/
abbrev Ev := List (Option D)
def EnvR (H : Hp) (N : Addr → Prop) : Ev → L2.St → Prop
  | [], σ => σ = []
  | o :: g, σ => ∃ x r, σ = x :: r ∧ (∀ d, o = some d → ∃ v, x = some v ∧ Rp H N d v) ∧ EnvR H N g r
section
variable {H H' : Hp} {N N' : Addr → Prop} {R R' : Rg}
theorem EnvR.mono (e : ∀ a o, N a → H a = some o → NT o → N' a ∧ H' a = some o) : ∀ {g : Ev} {σ : L2.St}, EnvR H N g σ → EnvR H' N' g σ
  | [], _, h => h
  | o :: g, _, ⟨x, r, e1, h1, h2⟩ => ⟨x, r, e1, fun d hd => by
    obtain ⟨v, e2, h3⟩ := h1 d hd
    exact ⟨v, e2, h3.mono e⟩, EnvR.mono e h2⟩
theorem EnvR.tn {g : Ev} {σ : L2.St} (t : Tn H R H' R') (h : EnvR H (Out R) g σ) : EnvR H' (Out R') g σ := h.mono t
theorem EnvR.get : ∀ {g : Ev} {σ : L2.St} {i : Nat} {d : D}, EnvR H N g σ → g[i]? = some (some d) → ∃ v, σ[i]? = some (some v) ∧ Rp H N d v
  | [], _, _, _, _, e => by simp at e
  | o :: g, _, 0, d, ⟨x, r, e1, h1, h2⟩, e => by
    simp at e
    subst e1
    obtain ⟨v, e2, h3⟩ := h1 d e
    exact ⟨v, by rw [e2]; rfl, h3⟩
  | o :: g, _, i + 1, d, ⟨x, r, e1, h1, h2⟩, e => by
    subst e1
    obtain ⟨v, e2, h3⟩ := h2.get (i := i) (d := d) (by simpa using e)
    exact ⟨v, by simpa using e2, h3⟩
theorem EnvR.set : ∀ {g : Ev} {σ : L2.St} {i : Nat} {d : D} {v : V}, EnvR H N g σ → Rp H N d v → EnvR H N (g.set i (some d)) (σ.set i (some v))
  | [], _, i, d, v, h, r => by rw [show _ = [] from h]; exact rfl
  | o :: g, _, 0, d, v, ⟨x, r, e1, h1, h2⟩, hr => by
    subst e1
    exact ⟨some v, r, rfl, fun d' hd => by cases hd; exact ⟨v, rfl, hr⟩, h2⟩
  | o :: g, _, i + 1, d, v, ⟨x, r, e1, h1, h2⟩, hr => by
    subst e1
    exact ⟨x, _, rfl, h1, h2.set hr⟩
theorem EnvR.unset : ∀ {g : Ev} {σ : L2.St} {i : Nat}, EnvR H N g σ → EnvR H N (g.set i none) (σ.set i none)
  | [], _, i, h => by rw [show _ = [] from h]; exact rfl
  | o :: g, _, 0, ⟨x, r, e1, h1, h2⟩ => by
    subst e1
    exact ⟨none, r, rfl, fun d' hd => (by cases hd), h2⟩
  | o :: g, _, i + 1, ⟨x, r, e1, h1, h2⟩ => by
    subst e1
    exact ⟨x, _, rfl, h1, h2.unset⟩
def wipeE (g : Ev) : List Nat → Ev
  | [] => g
  | v :: vs => (wipeE g vs).set v none
theorem EnvR.wipe {g : Ev} {σ : L2.St} (h : EnvR H N g σ) : ∀ vs : List Nat, EnvR H N (wipeE g vs) (L2.wipe σ vs)
  | [] => h
  | v :: vs => (h.wipe vs).unset
end
/-! ### the judgements: from a state that the region holds -/
variable (H0 : Hp) (R0 : Rg)
def EM (te : TE) (g : Ev) (R : Rg) (F : D → Rg → Prop) : Prop := ∀ σ H, Tn H0 R0 H R → EnvR H (Out R) g σ → Holds H R → ∀ Q : VK, (∀ d R' v H', F d R' → Tn H R H' R' → Holds H' R' → Rp H' (Out R') d v → Q v H') → te σ H Q
def ET (tt : TT) (g : Ev) (R : Rg) (F : Bool → Rg → Prop) : Prop := ∀ σ H, Tn H0 R0 H R → EnvR H (Out R) g σ → Holds H R → ∀ Q : Bool → Hp → Prop, (∀ b R' H', F b R' → Tn H R H' R' → Holds H' R' → Q b H') → tt σ H Q
def EA (ta : TA) (g : Ev) (R : Rg) (F : List D → Rg → Prop) : Prop := ∀ σ H, Tn H0 R0 H R → EnvR H (Out R) g σ → Holds H R → ∀ Q : List V → Hp → Prop, (∀ ds R' vs H', F ds R' → Tn H R H' R' → Holds H' R' → RpL H' (Out R') ds vs → Q vs H') → ta σ H Q
def EO (to : TO) (g : Ev) (R : Rg) (F : Option Int → Rg → Prop) : Prop := ∀ σ H, Tn H0 R0 H R → EnvR H (Out R) g σ → Holds H R → ∀ Q : Option Int → Hp → Prop, (∀ o R' H', F o R' → Tn H R H' R' → Holds H' R' → Q o H') → to σ H Q
/-- by values -/
def RO (r : R2) (d1 d2 : D) (R : Rg) (F : D → Rg → Prop) : Prop := ∀ H x y, Tn H0 R0 H R → Holds H R → Rp H (Out R) d1 x → Rp H (Out R) d2 y → ∀ Q : VK, (∀ d R' v H', F d R' → Tn H R H' R' → Holds H' R' → Rp H' (Out R') d v → Q v H') → r x y H Q
def RA (r : List V → Hp → VK → Prop) (ds : List D) (R : Rg) (F : D → Rg → Prop) : Prop := ∀ H xs, Tn H0 R0 H R → Holds H R → RpL H (Out R) ds xs → ∀ Q : VK, (∀ d R' v H', F d R' → Tn H R H' R' → Holds H' R' → Rp H' (Out R') d v → Q v H') → r xs H Q
/-- a promise, E what is wished of an exception -/
def RS (sp : Sp) (E : XK) (ds : List D) (R : Rg) (F : D → Rg → Prop) : Prop := ∀ H xs, Tn H0 R0 H R → Holds H R → RpL H (Out R) ds xs → ∀ Q : VK, (∀ d R' v H', F d R' → Tn H R H' R' → Holds H' R' → Rp H' (Out R') d v → Q v H') → sp xs H Q E
structure Es where
  nx : Ev → Rg → Prop
  rt : D → Rg → Prop
  bk : Ev → Rg → Prop := fun _ _ => False
  ct : Ev → Rg → Prop := fun _ _ => False
structure EsOk (E : Es) (D : Ends) : Prop where
  nx : ∀ g R σ H, E.nx g R → Tn H0 R0 H R → Holds H R → EnvR H (Out R) g σ → D.nx σ H
  rt : ∀ d R v H, E.rt d R → Tn H0 R0 H R → Holds H R → Rp H (Out R) d v → D.rt v H
  bk : ∀ g R σ H, E.bk g R → Tn H0 R0 H R → Holds H R → EnvR H (Out R) g σ → D.bk σ H
  ct : ∀ g R σ H, E.ct g R → Tn H0 R0 H R → Holds H R → EnvR H (Out R) g σ → D.ct σ H
def SX (t : TS) (g : Ev) (R : Rg) (E : Es) : Prop := ∀ σ H D, Tn H0 R0 H R → EnvR H (Out R) g σ → Holds H R → EsOk H0 R0 E D → t D σ H
variable {H0 : Hp} {R0 : Rg} {K : PySem.W.Frag} {g : Ev} {R : Rg} {F : D → Rg → Prop} {G : Bool → Rg → Prop} {ta tb tc te : TE} {t u : TT} {d d1 d2 : D} {x y : V} {i j : Int} {r : R2} {tr : TA} {E : Es} {s s' : TS}
/-! ### expressions -/
theorem em_var {i : Nat} (h : g[i]? = some (some d)) (k : F d R) : EM H0 R0 (tVar i) g R F := fun σ H t e hH Q q => by
  obtain ⟨v, h1, h2⟩ := e.get h
  exact ⟨v, h1, q d R v H k Tn.refl hH h2⟩
theorem em_c (k : F (.v x) R) : EM H0 R0 (tC x) g R F := fun σ H t e hH Q q => q _ R x H k Tn.refl hH rpv
theorem em_op (h : EM H0 R0 ta g R fun d1 R1 => EM H0 R0 tb g R1 fun d2 R2 => RO H0 R0 r d1 d2 R2 F) : EM H0 R0 (tOp r ta tb) g R F := fun σ H t e hH Q q =>
  h σ H t e hH _ fun d1 R1 v1 H1 k1 t1 hH1 r1 => k1 σ H1 (t.trans t1) (e.tn t1) hH1 _ fun d2 R2 v2 H2 k2 t2 hH2 r2 =>
    k2 H2 v1 v2 ((t.trans t1).trans t2) hH2 (r1.tn t2) r2 Q fun d R' v H' k t3 hH3 r3 => q d R' v H' k ((t1.trans t2).trans t3) hH3 r3
theorem ro_I0 {f : Int → Int → V} (k : F (.v (f i j)) R) : RO H0 R0 (rI0 f) (.v (.int i)) (.v (.int j)) R F := fun H x y t hH r1 r2 Q q =>
  ⟨i, j, rp_v.mp r1, rp_v.mp r2, q _ R _ H k Tn.refl hH rpv⟩
theorem ro_I {C : Int → Int → Prop} {f : Int → Int → V} (c : C i j) (k : F (.v (f i j)) R) : RO H0 R0 (rI C f) (.v (.int i)) (.v (.int j)) R F := fun H x y t hH r1 r2 Q q =>
  ⟨i, j, rp_v.mp r1, rp_v.mp r2, c, q _ R _ H k Tn.refl hH rpv⟩
theorem ro_eq {x' y' : V} (c : scal x' y' = true) (k : F (.v (.bl (decide (x' = y')))) R) : RO H0 R0 rEq (.v x') (.v y') R F := fun H x y t hH r1 r2 Q q => by
  rw [rp_v.mp r1, rp_v.mp r2]
  exact ⟨c, q _ R _ H k Tn.refl hH rpv⟩
theorem ro_ne {x' y' : V} (c : scal x' y' = true) (k : F (.v (.bl (!decide (x' = y')))) R) : RO H0 R0 rNe (.v x') (.v y') R F := fun H x y t hH r1 r2 Q q => by
  rw [rp_v.mp r1, rp_v.mp r2]
  exact ⟨c, q _ R _ H k Tn.refl hH rpv⟩
def isNon : D → Bool
  | .v x => decide (x = .non)
  | _ => false
theorem isNon_of {H : Hp} {N : Addr → Prop} (h : Rp H N d x) : decide (x = .non) = isNon d := by
  cases d with
  | v y => rw [rp_v.mp h]; rfl
  | l ds =>
    obtain ⟨a, xs, e, _⟩ := rp_l.mp h
    rw [e]
    rfl
  | t ds =>
    obtain ⟨a, xs, e, _⟩ := rp_t.mp h
    rw [e]
    rfl
abbrev rIsN : R2 := fun x y H Q => y = .non ∧ Q (.bl (decide (x = .non))) H
abbrev rNotN : R2 := fun x y H Q => y = .non ∧ Q (.bl (!decide (x = .non))) H
theorem ro_isN (k : F (.v (.bl (isNon d))) R) : RO H0 R0 rIsN d (.v .non) R F := fun H x y t hH r1 r2 Q q => by
  refine ⟨rp_v.mp r2, ?_⟩
  rw [isNon_of r1]
  exact q _ R _ H k Tn.refl hH rpv
theorem ro_notN (k : F (.v (.bl (!isNon d))) R) : RO H0 R0 rNotN d (.v .non) R F := fun H x y t hH r1 r2 Q q => by
  refine ⟨rp_v.mp r2, ?_⟩
  rw [isNon_of r1]
  exact q _ R _ H k Tn.refl hH rpv
/-- a list: data, or a cell -/
inductive IsL (R : Rg) : D → List D → Prop
  | d {ds : List D} : IsL R (.l ds) ds
  | c {a : Addr} {ds : List D} (m : (a, RC.l ds) ∈ R) : IsL R (.v (.ref a)) ds
theorem IsL.get {H : Hp} {ds : List D} (h : IsL R d ds) (hH : Holds H R) (r : Rp H (Out R) d x) : ∃ a xs, x = .ref a ∧ H a = some (.lst xs) ∧ RpL H (Out R) ds xs := by
  cases h with
  | d =>
    obtain ⟨a, xs, e, _, h1, h2⟩ := rp_l.mp r
    exact ⟨a, xs, e, h1, h2⟩
  | c m =>
    obtain ⟨xs, h1, h2⟩ := hH.at_ _ m
    exact ⟨_, xs, rp_v.mp r, h1, h2⟩
/-- a sequence: a list or a tuple -/
inductive IsS (R : Rg) : D → List D → Prop
  | l {d : D} {ds : List D} (h : IsL R d ds) : IsS R d ds
  | t {ds : List D} : IsS R (.t ds) ds
theorem IsS.get {H : Hp} {ds : List D} (h : IsS R d ds) (hH : Holds H R) (r : Rp H (Out R) d x) : ∃ a xs, x = .ref a ∧ (SqL K H a xs ∨ SqT K H a xs) ∧ RpL H (Out R) ds xs := by
  cases h with
  | l h =>
    obtain ⟨a, xs, e, h1, h2⟩ := h.get hH r
    exact ⟨a, xs, e, .inl (SqL.of h1), h2⟩
  | t =>
    obtain ⟨a, xs, e, _, h1, h2⟩ := rp_t.mp r
    exact ⟨a, xs, e, .inr (SqT.of h1), h2⟩
theorem atI_D {α : Type} {H : Hp} {N : Addr → Prop} {ds : List D} {xs : List V} {n : Int} (r : RpL H N ds xs) (e : atI ds n = some d) : ∃ x, atI xs n = some x ∧ Rp H N d x := by
  unfold atI at e ⊢
  rw [r.len]
  cases c : ixN ds.length n with
  | none => rw [c] at e; cases e
  | some k =>
    rw [c] at e
    exact r.get e
theorem ro_ixL {ds : List D} {n : Int} (hl : IsL R d1 ds) (e : atI ds n = some d) (k : F d R) : RO H0 R0 (rIxL K) d1 (.v (.int n)) R F := fun H x y t hH r1 r2 Q q => by
  obtain ⟨a, xs, e1, h1, h2⟩ := hl.get hH r1
  obtain ⟨x', e2, h3⟩ := atI_D (α := Nat) h2 e
  exact ⟨a, xs, n, x', e1, rp_v.mp r2, SqL.of h1, e2, q _ R _ H k Tn.refl hH h3⟩
theorem ro_ixT {ds : List D} {n : Int} (e : atI ds n = some d) (k : F d R) : RO H0 R0 (rIxT K) (.t ds) (.v (.int n)) R F := fun H x y t hH r1 r2 Q q => by
  obtain ⟨a, xs, e1, _, h1, h2⟩ := rp_t.mp r1
  obtain ⟨x', e2, h3⟩ := atI_D (α := Nat) h2 e
  exact ⟨a, xs, n, x', e1, rp_v.mp r2, SqT.of h1, e2, q _ R _ H k Tn.refl hH h3⟩
/-- a new list as data, from another's items -/
theorem new_l {H : Hp} {ds : List D} {xs : List V} (t0 : Tn H0 R0 H R) (hH : Holds H R) (r : RpL H (Out R) ds xs) {p : Addr} (hp : H p = none) : Tn H R (upd H p (.lst xs)) R ∧ Holds (upd H p (.lst xs)) R ∧ Rp (upd H p (.lst xs)) (Out R) (.l ds) (.ref p) :=
  ⟨Tn.ex (ex_new hp), hH.ex (ex_new hp), rp_l.mpr ⟨p, xs, rfl, hH.out hp, upd_same, r.mono fun b o n q _ => ⟨n, ex_new hp b o q⟩⟩⟩
theorem new_t {H : Hp} {ds : List D} {xs : List V} (hH : Holds H R) (r : RpL H (Out R) ds xs) {p : Addr} (hp : H p = none) : Tn H R (upd H p (.tup xs)) R ∧ Holds (upd H p (.tup xs)) R ∧ Rp (upd H p (.tup xs)) (Out R) (.t ds) (.ref p) :=
  ⟨Tn.ex (ex_new hp), hH.ex (ex_new hp), rp_t.mpr ⟨p, xs, rfl, hH.out hp, upd_same, r.mono fun b o n q _ => ⟨n, ex_new hp b o q⟩⟩⟩
theorem ro_cat {ds es : List D} (h1 : IsL R d1 ds) (h2 : IsL R d2 es) (z : ds.length + es.length ≤ 100000) (k : F (.l (ds ++ es)) R) : RO H0 R0 rCat d1 d2 R F := fun H x y t hH r1 r2 Q q => by
  obtain ⟨a, xs, e1, g1, l1⟩ := h1.get hH r1
  obtain ⟨b, ys, e2, g2, l2⟩ := h2.get hH r2
  refine ⟨a, b, xs, ys, e1, e2, g1, g2, ?_, fun p hp => ?_⟩
  · rw [l1.len, l2.len]; exact Evl.sz_of z
  · obtain ⟨n1, n2, n3⟩ := new_l t hH (l1.app l2) hp
    exact q _ R _ _ k n1 n2 n3
/-! ### arguments, tuples, lists -/
theorem ea_nil {F : List D → Rg → Prop} (k : F [] R) : EA H0 R0 tNil g R F := fun σ H t e hH Q q => q [] R [] H k Tn.refl hH RpL.nil
theorem ea_cons {F : List D → Rg → Prop} (h : EM H0 R0 te g R fun d R1 => EA H0 R0 tr g R1 fun ds R2 => F (d :: ds) R2) : EA H0 R0 (tCons te tr) g R F := fun σ H t e hH Q q =>
  h σ H t e hH _ fun d R1 v H1 k1 t1 hH1 r1 => k1 σ H1 (t.trans t1) (e.tn t1) hH1 _ fun ds R2 vs H2 k2 t2 hH2 r2 => q (d :: ds) R2 (v :: vs) H2 k2 (t1.trans t2) hH2 (RpL.cons (r1.tn t2) r2)
theorem em_tup (h : EA H0 R0 tr g R fun ds R1 => ds.length ≤ 100000 ∧ F (.t ds) R1) : EM H0 R0 (tTup tr) g R F := fun σ H t e hH Q q =>
  h σ H t e hH _ fun ds R1 vs H1 k1 t1 hH1 r1 => ⟨by rw [r1.len]; exact Evl.sz_of k1.1, fun p hp => by
    obtain ⟨n1, n2, n3⟩ := new_t hH1 r1 hp
    exact q _ R1 _ _ k1.2 (t1.trans n1) n2 n3⟩
theorem em_lst (h : EA H0 R0 tr g R fun ds R1 => ds.length ≤ 100000 ∧ F (.l ds) R1) : EM H0 R0 (tLst tr) g R F := fun σ H t e hH Q q =>
  h σ H t e hH _ fun ds R1 vs H1 k1 t1 hH1 r1 => ⟨by rw [r1.len]; exact Evl.sz_of k1.1, fun p hp => by
    obtain ⟨n1, n2, n3⟩ := new_l (t.trans t1) hH1 r1 hp
    exact q _ R1 _ _ k1.2 (t1.trans n1) n2 n3⟩
/-- a list that is going to change: a new cell -/
theorem em_lstC (h : EA H0 R0 tr g R fun ds R1 => ds.length ≤ 100000 ∧ ∀ p, F (.v (.ref p)) ((p, .l ds) :: R1)) : EM H0 R0 (tLst tr) g R F := fun σ H t e hH Q q =>
  h σ H t e hH _ fun ds R1 vs H1 k1 t1 hH1 r1 => ⟨by rw [r1.len]; exact Evl.sz_of k1.1, fun p hp => by
    obtain ⟨n1, n2⟩ := hH1.new (c := .l ds) (o := .lst vs) hp ⟨vs, upd_same, r1.mono fun b o n q _ => ⟨fun p' hp' => by
      rcases List.mem_cons.mp hp' with e' | e'
      · rw [e']; exact (ne_of_none q hp).symm
      · exact n p' e', ex_new hp b o q⟩⟩
    exact q _ _ _ _ (k1.2 p) (t1.trans n2) n1 rpv⟩
/-- a cell that is to change no more becomes data -/
theorem thaw {H : Hp} {a : Addr} {ds : List D} (h : Holds H ((a, .l ds) :: R)) : Tn H ((a, .l ds) :: R) H R ∧ Holds H R ∧ Rp H (Out R) (.l ds) (.ref a) := by
  have nd := h.nd
  rw [List.map_cons, List.nodup_cons] at nd
  have keep : ∀ b o, Out ((a, RC.l ds) :: R) b → H b = some o → NT o → Out R b ∧ H b = some o := fun b o n q _ => ⟨fun p hp => n p (List.mem_cons_of_mem _ hp), q⟩
  obtain ⟨xs, h1, h2⟩ := h.at_ _ List.mem_cons_self
  exact ⟨keep, ⟨nd.2, fun p hp => (h.at_ p (List.mem_cons_of_mem _ hp)).mono keep fun o q => q, h.tb⟩, rp_l.mpr ⟨a, xs, rfl, fun p hp e => nd.1 (List.mem_map.mpr ⟨p, hp, e⟩), h1, h2.mono keep⟩⟩
/-- cells forgotten -/
theorem drop1 {H : Hp} {p : Addr × RC} (h : Holds H (p :: R)) : Tn H (p :: R) H R ∧ Holds H R := by
  have nd := h.nd
  rw [List.map_cons, List.nodup_cons] at nd
  have keep : ∀ b o, Out (p :: R) b → H b = some o → NT o → Out R b ∧ H b = some o := fun b o n q _ => ⟨fun p hp => n p (List.mem_cons_of_mem _ hp), q⟩
  exact ⟨keep, ⟨nd.2, fun p hp => (h.at_ p (List.mem_cons_of_mem _ hp)).mono keep fun o q => q, h.tb⟩⟩
/-! ### tests -/
theorem et_test (h : EM H0 R0 te g R fun d R1 => ∃ b, d = .v (.bl b) ∧ G b R1) : ET H0 R0 (tTest te) g R G := fun σ H t e hH Q q =>
  h σ H t e hH _ fun d R1 v H1 ⟨b, e1, k⟩ t1 hH1 r1 => ⟨b, by rw [e1] at r1; exact rp_v.mp r1, q b R1 H1 k t1 hH1⟩
theorem et_B (h : EM H0 R0 te g R fun d R1 => ∃ b, d = .v (.bl b) ∧ G b R1) : ET H0 R0 (tB te) g R G := fun σ H t e hH Q q =>
  h σ H t e hH _ fun d R1 v H1 ⟨b, e1, k⟩ t1 hH1 r1 => ⟨b, by rw [e1] at r1; exact rp_v.mp r1, q b R1 H1 k t1 hH1⟩
theorem et_and (h : ET H0 R0 t g R fun b R1 => (b = true → ET H0 R0 u g R1 G) ∧ (b = false → G false R1)) : ET H0 R0 (tAnd t u) g R G := fun σ H t0 e hH Q q =>
  h σ H t0 e hH _ fun b R1 H1 k t1 hH1 => by
    cases b with
    | true => exact iteT (k.1 rfl σ H1 (t0.trans t1) (e.tn t1) hH1 Q fun b R2 H2 k2 t2 hH2 => q b R2 H2 k2 (t1.trans t2) hH2)
    | false => exact iteF (q false R1 H1 (k.2 rfl) t1 hH1)
theorem et_or (h : ET H0 R0 t g R fun b R1 => (b = false → ET H0 R0 u g R1 G) ∧ (b = true → G true R1)) : ET H0 R0 (tOr t u) g R G := fun σ H t0 e hH Q q =>
  h σ H t0 e hH _ fun b R1 H1 k t1 hH1 => by
    cases b with
    | false => exact iteF (k.1 rfl σ H1 (t0.trans t1) (e.tn t1) hH1 Q fun b R2 H2 k2 t2 hH2 => q b R2 H2 k2 (t1.trans t2) hH2)
    | true => exact iteT (q true R1 H1 (k.2 rfl) t1 hH1)
theorem et_not (h : ET H0 R0 t g R fun b R1 => G (!b) R1) : ET H0 R0 (tNot t) g R G := fun σ H t0 e hH Q q => h σ H t0 e hH _ fun b R1 H1 k t1 hH1 => q (!b) R1 H1 k t1 hH1
theorem em_if (h : ET H0 R0 t g R fun b R1 => (b = true → EM H0 R0 ta g R1 F) ∧ (b = false → EM H0 R0 tb g R1 F)) : EM H0 R0 (tIf t ta tb) g R F := fun σ H t0 e hH Q q =>
  h σ H t0 e hH _ fun b R1 H1 k t1 hH1 => by
    cases b with
    | true => exact iteT (k.1 rfl σ H1 (t0.trans t1) (e.tn t1) hH1 Q fun d R2 v H2 k2 t2 hH2 r2 => q d R2 v H2 k2 (t1.trans t2) hH2 r2)
    | false => exact iteF (k.2 rfl σ H1 (t0.trans t1) (e.tn t1) hH1 Q fun d R2 v H2 k2 t2 hH2 r2 => q d R2 v H2 k2 (t1.trans t2) hH2 r2)
theorem em_andV (h : EM H0 R0 ta g R fun d R1 => ∃ b, d = .v (.bl b) ∧ (b = true → EM H0 R0 tb g R1 F) ∧ (b = false → F (.v (.bl false)) R1)) : EM H0 R0 (tAndV ta tb) g R F := fun σ H t0 e hH Q q =>
  h σ H t0 e hH _ fun d R1 v H1 ⟨b, e1, k1, k2⟩ t1 hH1 r1 => by
    rw [e1] at r1
    refine ⟨b, rp_v.mp r1, ?_⟩
    cases b with
    | true => exact iteT (k1 rfl σ H1 (t0.trans t1) (e.tn t1) hH1 Q fun d R2 v H2 k2 t2 hH2 r2 => q d R2 v H2 k2 (t1.trans t2) hH2 r2)
    | false => exact iteF (q _ R1 _ H1 (k2 rfl) t1 hH1 rpv)
theorem em_notV (h : EM H0 R0 ta g R fun d R1 => ∃ b, d = .v (.bl b) ∧ F (.v (.bl (!b))) R1) : EM H0 R0 (tNotV ta) g R F := fun σ H t0 e hH Q q =>
  h σ H t0 e hH _ fun d R1 v H1 ⟨b, e1, k⟩ t1 hH1 r1 => by
    rw [e1] at r1
    exact ⟨b, rp_v.mp r1, q _ R1 _ H1 k t1 hH1 rpv⟩
theorem em_chain {r r' : R2} (h : EM H0 R0 ta g R fun d1 R1 => EM H0 R0 tb g R1 fun d2 R2 => RO H0 R0 r d1 d2 R2 fun d3 R3 => ∃ b, d3 = .v (.bl b) ∧ (b = true → EM H0 R0 tc g R3 fun d4 R4 => RO H0 R0 r' d2 d4 R4 F) ∧ (b = false → F (.v (.bl false)) R3)) :
    EM H0 R0 (tChain r r' ta tb tc) g R F := fun σ H t0 e hH Q q =>
  h σ H t0 e hH _ fun d1 R1 v1 H1 k1 t1 hH1 r1 => k1 σ H1 (t0.trans t1) (e.tn t1) hH1 _ fun d2 R2 v2 H2 k2 t2 hH2 r2 =>
    k2 H2 v1 v2 ((t0.trans t1).trans t2) hH2 (r1.tn t2) r2 _ fun d3 R3 v3 H3 ⟨b, e3, k3, k4⟩ t3 hH3 r3 => by
      rw [e3] at r3
      refine ⟨b, rp_v.mp r3, ?_⟩
      have t13 := (t1.trans t2).trans t3
      cases b with
      | true => exact iteT (k3 rfl σ H3 (t0.trans t13) (e.tn t13) hH3 _ fun d4 R4 v4 H4 k5 t4 hH4 r4 =>
          k5 H4 v2 v4 (t0.trans (t13.trans t4)) hH4 (r2.tn (t3.trans t4)) r4 Q fun d R' v H' k t5 hH5 r5 => q d R' v H' k ((t13.trans t4).trans t5) hH5 r5)
      | false => exact iteF (q _ R3 _ H3 (k4 rfl) t13 hH3 rpv)
/-! ### statements -/
theorem sx_seq (h : SX H0 R0 s g R { E with nx := fun g' R' => SX H0 R0 s' g' R' E }) : SX H0 R0 (tSeq s s') g R E := fun σ H D t e hH k =>
  h σ H { D with nx := s' D } t e hH ⟨fun g' R' σ' H' kk t' hH' e' => kk σ' H' D t' e' hH' k, k.rt, k.bk, k.ct⟩
theorem sx_next (h : E.nx g R) : SX H0 R0 tNext g R E := fun σ H D t e hH k => k.nx g R σ H h t hH e
theorem sx_asg {i : Nat} (h : EM H0 R0 te g R fun d R' => E.nx (g.set i (some d)) R') : SX H0 R0 (tAsg te (gName i)) g R E := fun σ H D t e hH k =>
  h σ H t e hH _ fun d R' v H' kk t' hH' r => k.nx _ R' _ H' kk (t.trans t') hH' ((e.tn t').set r)
theorem sx_ret (h : EM H0 R0 te g R E.rt) : SX H0 R0 (tRet te) g R E := fun σ H D t e hH k =>
  h σ H t e hH _ fun d R' v H' kk t' hH' r => k.rt d R' v H' kk (t.trans t') hH' r
theorem sx_drop (h : EM H0 R0 te g R fun _ R' => E.nx g R') : SX H0 R0 (tDrop te) g R E := fun σ H D t e hH k =>
  h σ H t e hH _ fun d R' v H' kk t' hH' r => k.nx g R' σ H' kk (t.trans t') hH' (e.tn t')
theorem sx_if (h : ET H0 R0 t g R fun b R' => (b = true → SX H0 R0 s g R' E) ∧ (b = false → SX H0 R0 s' g R' E)) : SX H0 R0 (tIfS t s s') g R E := fun σ H D t0 e hH k =>
  h σ H t0 e hH _ fun b R1 H1 kk t1 hH1 => by
    cases b with
    | true => exact iteT (kk.1 rfl σ H1 D (t0.trans t1) (e.tn t1) hH1 k)
    | false => exact iteF (kk.2 rfl σ H1 D (t0.trans t1) (e.tn t1) hH1 k)
theorem sx_par {i j : Nat} (h : EA H0 R0 tr g R fun ds R' => ∃ d1 d2, ds = [d1, d2] ∧ E.nx ((g.set i (some d1)).set j (some d2)) R') : SX H0 R0 (tPar i j tr) g R E := fun σ H D t e hH k =>
  h σ H t e hH _ fun ds R' vs H' ⟨d1, d2, e1, kk⟩ t' hH' r => by
    subst e1
    obtain ⟨v1, r1, e2, h1, h2⟩ := rpl_cons.mp r
    obtain ⟨v2, r2, e3, h3, h4⟩ := rpl_cons.mp h2
    rw [rpl_nil.mp h4] at e3
    exact ⟨v1, v2, by rw [e2, e3], k.nx _ R' _ H' kk (t.trans t') hH' (((e.tn t').set h1).set h3)⟩
theorem SX.mono {E' : Es} (h : SX H0 R0 s g R E) (e : ∀ D, EsOk H0 R0 E' D → EsOk H0 R0 E D) : SX H0 R0 s g R E' := fun σ H D t en hH k => h σ H D t en hH (e D k)
/-- another view of the region -/
theorem sx_perm {R' : Rg} (p : R.Perm R') (h : SX H0 R0 s g R' E) : SX H0 R0 s g R E := fun σ H D t e hH k => h σ H D (t.trans (Tn.of_perm p)) (e.tn (Tn.of_perm p)) (hH.perm p) k
theorem em_perm {R' : Rg} (p : R.Perm R') (h : EM H0 R0 te g R' F) : EM H0 R0 te g R F := fun σ H t e hH Q q => h σ H (t.trans (Tn.of_perm p)) (e.tn (Tn.of_perm p)) (hH.perm p) Q fun d R2 v H2 k t2 hH2 r2 => q d R2 v H2 k ((Tn.of_perm p).trans t2) hH2 r2
theorem EM.mono {F' : D → Rg → Prop} (h : EM H0 R0 te g R F) (k : ∀ d R', F d R' → F' d R') : EM H0 R0 te g R F' := fun σ H t e hH Q q => h σ H t e hH Q fun d R' v H' z => q d R' v H' (k d R' z)
theorem ET.mono {G' : Bool → Rg → Prop} (h : ET H0 R0 t g R G) (k : ∀ d R', G d R' → G' d R') : ET H0 R0 t g R G' := fun σ H t e hH Q q => h σ H t e hH Q fun d R' H' z => q d R' H' (k d R' z)
end Rc
-- C
set_option Elab.async false
set_option linter.all false
set_option maxRecDepth 100000
set_option maxHeartbeats 4000000
namespace Rc
open PySem PySem.Spec PyProof.Rows L2
variable [Tbl]
/-! ### cells by place -/
theorem set_split {a : Addr} {c c' : RC} : ∀ {R : Rg} {n : Nat}, R[n]? = some (a, c) → ∃ A B, R = A ++ (a, c) :: B ∧ R.set n (a, c') = A ++ (a, c') :: B
  | [], n, m => by simp at m
  | p :: r, 0, m => by
    simp at m
    subst m
    exact ⟨[], r, rfl, rfl⟩
  | p :: r, n + 1, m => by
    obtain ⟨A, B, e1, e2⟩ := set_split (c' := c') (R := r) (n := n) (by simpa using m)
    exact ⟨p :: A, B, by rw [e1]; rfl, by rw [List.set_cons_succ, e2]; rfl⟩
theorem Holds.set {H : Hp} {R : Rg} {a : Addr} {c c' : RC} {n : Nat} (h : Holds H R) (m0 : R[n]? = Option.some (a, c)) (o : HO) (hc : ∀ N : Addr → Prop, N = Out R → (∀ d x, Rp H N d x → Rp (upd H a o) N d x) → Cell (upd H a o) N a c') : Holds (upd H a o) (R.set n (a, c')) ∧ Tn H R (upd H a o) (R.set n (a, c')) := by
  have m := List.mem_of_getElem? m0
  obtain ⟨A, B, e1, e2⟩ := set_split (c' := c') m0
  rw [e2]
  have eo : Out (A ++ (a, c') :: B) = Out R := by
    rw [e1]
    funext b
    refine propext ⟨fun g p hp => ?_, fun g p hp => ?_⟩
    · rcases List.mem_append.mp hp with q | q
      · exact g p (List.mem_append.mpr (.inl q))
      · rcases List.mem_cons.mp q with q | q
        · rw [q]; exact g (a, c') (List.mem_append.mpr (.inr List.mem_cons_self))
        · exact g p (List.mem_append.mpr (.inr (List.mem_cons_of_mem _ q)))
    · rcases List.mem_append.mp hp with q | q
      · exact g p (List.mem_append.mpr (.inl q))
      · rcases List.mem_cons.mp q with q | q
        · rw [q]; exact g (a, c) (List.mem_append.mpr (.inr List.mem_cons_self))
        · exact g p (List.mem_append.mpr (.inr (List.mem_cons_of_mem _ q)))
  have ho : ∀ b, Out R b → b ≠ a := fun b g e => g (a, c) m e.symm
  have hc' := hc (Out R) rfl fun d x r => r.mono fun b u n q _ => ⟨n, by rw [upd_ne (ho b n)]; exact q⟩
  subst e1
  exact h.put o (by rw [eo]; exact hc')
theorem lenP {κ : Type} : ∀ (kvs : List (κ × D)), kvs.length = kvs.length := fun _ => rfl
section
variable {H0 : Hp} {R0 : Rg} {K : PySem.W.Frag} {g : Ev} {R : Rg} {F : D → Rg → Prop} {G : Bool → Rg → Prop} {ta tb tc te : TE} {t u : TT} {d d1 d2 : D} {x y : V} {r : R2} {tr : TA} {E : Es} {s s' : TS} {a C : Addr} {f : Str}
theorem rpk_up {κ : Type} {H H' : Hp} {N : Addr → Prop} (mono : ∀ d x, Rp H N d x → Rp H' N d x) : ∀ {fs : List (κ × D)} {ws : List (κ × V)}, RpK H N fs ws → RpK H' N fs ws
  | [], _, z => z
  | p :: r, _, ⟨x, q, e1, z1, z2⟩ => ⟨x, q, e1, mono _ _ z1, rpk_up mono z2⟩
theorem rpl_up {H H' : Hp} {N : Addr → Prop} (mono : ∀ d x, Rp H N d x → Rp H' N d x) : ∀ {fs : List D} {ws : List V}, RpL H N fs ws → RpL H' N fs ws
  | [], _, z => by rw [rpl_nil.mp z]; exact RpL.nil
  | p :: r, _, z => by
    obtain ⟨x, q, e1, z1, z2⟩ := rpl_cons.mp z
    rw [e1]
    exact RpL.cons (mono _ _ z1) (rpl_up mono z2)
/-! ### fields -/
theorem em_fld (h : EM H0 R0 ta g R fun d R1 => ∃ a C fs d', d = .v (.ref a) ∧ (a, RC.i C fs) ∈ R1 ∧ Cls K C ∧ NoAttr K C f ∧ lkF fs f = some d' ∧ F d' R1) : EM H0 R0 (tFld K ta f) g R F := fun σ H t e hH Q q =>
  h σ H t e hH _ fun d R1 v H1 ⟨a, C, fs, d', e1, m, cl, na, lk, k⟩ t1 hH1 r1 => by
    rw [e1] at r1
    obtain ⟨dx, vs, h1, h2⟩ := hH1.at_ _ m
    obtain ⟨x', l, r2⟩ := h2.lkF lk
    exact ⟨a, C, dx, vs, x', rp_v.mp r1, h1, cl, na, l, q d' R1 x' H1 k t1 hH1 r2⟩
theorem sx_fld {tv : TE} (h : EM H0 R0 tv g R fun d R1 => EM H0 R0 ta g R1 fun d2 R2 => ∃ a C fs nn, d2 = .v (.ref a) ∧ R2[nn]? = some (a, RC.i C fs) ∧ Cls K C ∧ NoAttr K C f ∧ fs.length < 1000 ∧ E.nx g (R2.set nn (a, .i C (ptF f d fs)))) : SX H0 R0 (sFld K ta tv f) g R E := fun σ H D t e hH k =>
  h σ H t e hH _ fun d R1 v H1 k1 t1 hH1 r1 => k1 σ H1 (t.trans t1) (e.tn t1) hH1 _ fun d2 R2 v2 H2 ⟨a, C, fs, nn, e1, m, cl, na, z, kk⟩ t2 hH2 r2 => by
    rw [e1] at r2
    obtain ⟨dx, vs, h1, h2⟩ := hH2.at_ _ (List.mem_of_getElem? m)
    have r1' := r1.tn t2
    obtain ⟨n1, n2⟩ := hH2.set m (c' := .i C (ptF f d fs)) (.ins C dx (putF f v vs)) fun N eN mono => ⟨dx, _, upd_same, by
      rw [← eN] at h2 r1'
      exact rpk_up mono (h2.ptF (f := f) r1')⟩
    exact ⟨a, C, dx, vs, rp_v.mp r2, h1, cl, na, by rw [h2.len]; exact z, k.nx g _ σ _ kk (((t.trans t1).trans t2).trans n2) n1 (e.tn ((t1.trans t2).trans n2))⟩
/-- e.f op= value, ints -/
theorem sx_fldAug {tv : TE} {i j : Int} (h : EM H0 R0 ta g R fun d R1 => ∃ a C fs nn, d = .v (.ref a) ∧ R1[nn]? = some (a, RC.i C fs) ∧ Cls K C ∧ NoAttr K C f ∧ lkF fs f = some (.v (.int i)) ∧ fs.length < 1000 ∧
    EM H0 R0 tv g R1 fun d2 R2 => R2 = R1 ∧ d2 = .v (.int j) ∧ E.nx g (R1.set nn (a, .i C (ptF f (.v (.int (i + j))) fs)))) : SX H0 R0 (sFldAug K ta tv rAdd f) g R E := fun σ H D t e hH k =>
  h σ H t e hH _ fun d R1 v H1 ⟨a, C, fs, nn, e1, m, cl, na, lk, z, k1⟩ t1 hH1 r1 => by
    rw [e1] at r1
    obtain ⟨dx, vs, h1, h2⟩ := hH1.at_ _ (List.mem_of_getElem? m)
    obtain ⟨x', l, r2⟩ := h2.lkF lk
    rw [rp_v.mp r2] at l
    refine ⟨a, C, dx, vs, _, rp_v.mp r1, h1, cl, na, l, k1 σ H1 (t.trans t1) (e.tn t1) hH1 _ fun d2 R2 v2 H2 ⟨eR, e2, kk⟩ t2 hH2 r3 => ?_⟩
    subst eR
    rw [e2] at r3
    obtain ⟨dx2, vs2, g1, g2⟩ := hH2.at_ _ (List.mem_of_getElem? m)
    obtain ⟨n1, n2⟩ := hH2.set m (c' := .i C (ptF f (.v (.int (i + j))) fs)) (.ins C dx2 (putF f (.int (i + j)) vs2)) fun N eN mono => ⟨dx2, _, upd_same, by
      rw [← eN] at g2
      exact rpk_up mono (g2.ptF (f := f) rpv)⟩
    exact ⟨i, j, rfl, rp_v.mp r3, dx2, vs2, g1, by rw [g2.len]; exact z, k.nx g _ σ _ kk (((t.trans t1).trans t2).trans n2) n1 (e.tn ((t1.trans t2).trans n2))⟩
/-! ### dicts -/
/-- a dict that may be read: a cell, perhaps locked -/
inductive IsK (R : Rg) (a : Addr) (kvs : List (Key × D)) : Prop
  | k (m : (a, RC.k kvs) ∈ R) : IsK R a kvs
  | z (o : Obj) (m : (a, RC.fz o kvs) ∈ R) : IsK R a kvs
theorem IsK.get {H : Hp} {kvs : List (Key × D)} (h : IsK R a kvs) (hH : Holds H R) : ∃ vs, Rd H a (.dK vs) ∧ RpK H (Out R) kvs vs := by
  cases h with
  | k m => obtain ⟨vs, h1, h2⟩ := hH.at_ _ m; exact ⟨vs, .inl h1, h2⟩
  | z o m => obtain ⟨vs, h1, h2⟩ := hH.at_ _ m; exact ⟨vs, .inr ⟨o, h1⟩, h2⟩
def Key.D : Key → D := fun k => .v (kV k)
theorem em_dget {td ty : TE} (h : EM H0 R0 td g R fun d R1 => EM H0 R0 ty g R1 fun d2 R2 => ∃ a kvs k d', d = .v (.ref a) ∧ IsK R2 a kvs ∧ d2 = .v (kV k) ∧ lkK kvs k = some d' ∧ F d' R2) : EM H0 R0 (tDGet td ty) g R F := fun σ H t e hH Q q =>
  h σ H t e hH _ fun d R1 v H1 k1 t1 hH1 r1 => k1 σ H1 (t.trans t1) (e.tn t1) hH1 _ fun d2 R2 v2 H2 ⟨a, kvs, k, d', e1, m, e2, lk, kk⟩ t2 hH2 r2 => by
    obtain ⟨vs, h1, h2⟩ := m.get hH2
    obtain ⟨x', l, r3⟩ := h2.lkK.1 _ lk
    rw [e1] at r1
    rw [e2] at r2
    exact ⟨a, x', rp_v.mp r1, .inl ⟨vs, k, h1, rp_v.mp r2, l.symm⟩, q d' R2 x' H2 kk (t1.trans t2) hH2 r3⟩
theorem em_din {td ty : TE} (h : EM H0 R0 ty g R fun d2 R1 => EM H0 R0 td g R1 fun d R2 => ∃ a kvs k, d = .v (.ref a) ∧ IsK R2 a kvs ∧ d2 = .v (kV k) ∧ F (.v (.bl (lkK kvs k).isSome)) R2) : EM H0 R0 (tDIn ty td) g R F := fun σ H t e hH Q q =>
  h σ H t e hH _ fun d2 R1 v2 H1 k1 t1 hH1 r1 => k1 σ H1 (t.trans t1) (e.tn t1) hH1 _ fun d R2 v H2 ⟨a, kvs, k, e1, m, e2, kk⟩ t2 hH2 r2 => by
    obtain ⟨vs, h1, h2⟩ := m.get hH2
    rw [e2] at r1
    rw [e1] at r2
    have es : (valV vs k).isSome = (lkK kvs k).isSome := by
      cases c : lkK kvs k with
      | none => rw [h2.lkK.2 c]; rfl
      | some d' => obtain ⟨x', l, _⟩ := h2.lkK.1 _ c; rw [l]; rfl
    refine ⟨a, valV vs k, rp_v.mp r2, .inl ⟨vs, k, h1, rp_v.mp r1, rfl⟩, ?_⟩
    rw [es]
    exact q _ R2 _ H2 kk (t1.trans t2) hH2 rpv
theorem em_dnotIn {td ty : TE} (h : EM H0 R0 ty g R fun d2 R1 => EM H0 R0 td g R1 fun d R2 => ∃ a kvs k, d = .v (.ref a) ∧ IsK R2 a kvs ∧ d2 = .v (kV k) ∧ F (.v (.bl (!(lkK kvs k).isSome))) R2) : EM H0 R0 (tDNotIn ty td) g R F := fun σ H t e hH Q q =>
  h σ H t e hH _ fun d2 R1 v2 H1 k1 t1 hH1 r1 => k1 σ H1 (t.trans t1) (e.tn t1) hH1 _ fun d R2 v H2 ⟨a, kvs, k, e1, m, e2, kk⟩ t2 hH2 r2 => by
    obtain ⟨vs, h1, h2⟩ := m.get hH2
    rw [e2] at r1
    rw [e1] at r2
    have es : (valV vs k).isSome = (lkK kvs k).isSome := by
      cases c : lkK kvs k with
      | none => rw [h2.lkK.2 c]; rfl
      | some d' => obtain ⟨x', l, _⟩ := h2.lkK.1 _ c; rw [l]; rfl
    refine ⟨a, valV vs k, rp_v.mp r2, .inl ⟨vs, k, h1, rp_v.mp r1, rfl⟩, ?_⟩
    rw [es]
    exact q _ R2 _ H2 kk (t1.trans t2) hH2 rpv
/-- a dict that changes is written -/
theorem put_k {H : Hp} {kvs kvs' : List (Key × D)} {vs vs' : List (Key × V)} (hH : Holds H R) {nn : Nat} (m : R[nn]? = some (a, RC.k kvs)) (r : RpK H (Out R) kvs' vs') : Holds (upd H a (.dK vs')) (R.set nn (a, .k kvs')) ∧ Tn H R (upd H a (.dK vs')) (R.set nn (a, .k kvs')) :=
  hH.set m (.dK vs') fun N eN mono => ⟨vs', upd_same, by rw [← eN] at r; exact rpk_up mono r⟩
theorem sx_dput {td ty tv : TE} (h : EM H0 R0 tv g R fun dv R1 => EM H0 R0 td g R1 fun d R2 => EM H0 R0 ty g R2 fun d2 R3 => ∃ a kvs k nn, d = .v (.ref a) ∧ R3[nn]? = some (a, RC.k kvs) ∧ d2 = .v (kV k) ∧ kvs.length < 100000 ∧ E.nx g (R3.set nn (a, .k (ptK k dv kvs)))) : SX H0 R0 (sDPut td ty tv) g R E := fun σ H D t e hH k =>
  h σ H t e hH _ fun dv R1 v H1 k1 t1 hH1 r1 => k1 σ H1 (t.trans t1) (e.tn t1) hH1 _ fun d R2 v2 H2 k2 t2 hH2 r2 => k2 σ H2 ((t.trans t1).trans t2) (e.tn (t1.trans t2)) hH2 _ fun d2 R3 v3 H3 ⟨a, kvs, ky, nn, e1, m, e2, z, kk⟩ t3 hH3 r3 => by
    have r2' := r2.tn t3
    have r1' := r1.tn (t2.trans t3)
    rw [e1] at r2'
    rw [e2] at r3
    obtain ⟨vs, h1, h2⟩ := hH3.at_ _ (List.mem_of_getElem? m)
    obtain ⟨n1, n2⟩ := put_k (vs := vs) hH3 m (h2.ptK (f := ky) r1')
    rw [rp_v.mp r3]
    exact ⟨a, _, rp_v.mp r2', DPut.k h1 (by rw [h2.len]; exact Evl.sz_lt z), k.nx g _ σ _ kk (t.trans (((t1.trans t2).trans t3).trans n2)) n1 (e.tn (((t1.trans t2).trans t3).trans n2))⟩
theorem isD_of {H : Hp} {kvs : List (Key × D)} (m : IsK R a kvs) (hH : Holds H R) : IsD H a := by
  obtain ⟨vs, h1, _⟩ := m.get hH
  exact .inl ⟨vs, h1⟩
theorem em_dpop1 {td ty : TE} (h : EM H0 R0 td g R fun d R1 => ∃ a kvs nn, d = .v (.ref a) ∧ R1[nn]? = some (a, RC.k kvs) ∧ EM H0 R0 ty g R1 fun d2 R2 => R2 = R1 ∧ ∃ k d', d2 = .v (kV k) ∧ lkK kvs k = some d' ∧ F d' (R1.set nn (a, .k (drK kvs k)))) : EM H0 R0 (tDPop1 td ty) g R F := fun σ H t e hH Q q =>
  h σ H t e hH _ fun d R1 v H1 ⟨a, kvs, nn, e1, m, k1⟩ t1 hH1 r1 => by
    rw [e1] at r1
    refine ⟨a, rp_v.mp r1, isD_of (.k (List.mem_of_getElem? m)) hH1, k1 σ H1 (t.trans t1) (e.tn t1) hH1 _ fun d2 R2 v2 H2 ⟨eR, k, d', e2, lk, kk⟩ t2 hH2 r2 => ?_⟩
    subst eR
    rw [e2] at r2
    obtain ⟨vs, h1, h2⟩ := hH2.at_ _ (List.mem_of_getElem? m)
    obtain ⟨x', l, r3⟩ := h2.lkK.1 _ lk
    obtain ⟨n1, n2⟩ := put_k (vs := vs) hH2 m (h2.drK (f := k))
    exact ⟨vs, k, x', h1, rp_v.mp r2, l, q d' _ x' _ kk ((t1.trans t2).trans n2) n1 (r3.tn n2)⟩
theorem em_dpop2 {td ty tx : TE} (h : EM H0 R0 td g R fun d R1 => ∃ a kvs nn, d = .v (.ref a) ∧ R1[nn]? = some (a, RC.k kvs) ∧ EM H0 R0 ty g R1 fun d2 R2 => EM H0 R0 tx g R2 fun d3 R3 => R3 = R1 ∧ ∃ k d', d2 = .v (kV k) ∧ lkK kvs k = some d' ∧ F d' (R1.set nn (a, .k (drK kvs k)))) : EM H0 R0 (tDPop2 td ty tx) g R F := fun σ H t e hH Q q =>
  h σ H t e hH _ fun d R1 v H1 ⟨a, kvs, nn, e1, m, k1⟩ t1 hH1 r1 => by
    rw [e1] at r1
    refine ⟨a, rp_v.mp r1, isD_of (.k (List.mem_of_getElem? m)) hH1, k1 σ H1 (t.trans t1) (e.tn t1) hH1 _ fun d2 R2 v2 H2 k2 t2 hH2 r2 => k2 σ H2 ((t.trans t1).trans t2) (e.tn (t1.trans t2)) hH2 _ fun d3 R3 v3 H3 ⟨eR, k, d', e2, lk, kk⟩ t3 hH3 r3 => ?_⟩
    subst eR
    have r2' := r2.tn t3
    rw [e2] at r2'
    obtain ⟨vs, h1, h2⟩ := hH3.at_ _ (List.mem_of_getElem? m)
    obtain ⟨x', l, r3⟩ := h2.lkK.1 _ lk
    obtain ⟨n1, n2⟩ := put_k (vs := vs) hH3 m (h2.drK (f := k))
    exact ⟨vs, k, h1, rp_v.mp r2', fun v hv => by
      rw [l] at hv; cases hv
      exact q d' _ x' _ kk (((t1.trans t2).trans t3).trans n2) n1 (r3.tn n2), fun hv => by rw [l] at hv; cases hv⟩
theorem em_dsetd {td ty tx : TE} (h : EM H0 R0 td g R fun d R1 => ∃ a kvs nn, d = .v (.ref a) ∧ R1[nn]? = some (a, RC.k kvs) ∧ EM H0 R0 ty g R1 fun d2 R2 => EM H0 R0 tx g R2 fun d3 R3 => R3 = R1 ∧ ∃ k, d2 = .v (kV k) ∧ kvs.length < 100000 ∧ (∀ d', lkK kvs k = some d' → F d' R1) ∧ (lkK kvs k = none → F d3 (R1.set nn (a, .k (ptK k d3 kvs))))) : EM H0 R0 (tDSetd td ty tx) g R F := fun σ H t e hH Q q =>
  h σ H t e hH _ fun d R1 v H1 ⟨a, kvs, nn, e1, m, k1⟩ t1 hH1 r1 => by
    rw [e1] at r1
    refine ⟨a, rp_v.mp r1, isD_of (.k (List.mem_of_getElem? m)) hH1, k1 σ H1 (t.trans t1) (e.tn t1) hH1 _ fun d2 R2 v2 H2 k2 t2 hH2 r2 => k2 σ H2 ((t.trans t1).trans t2) (e.tn (t1.trans t2)) hH2 _ fun d3 R3 v3 H3 ⟨eR, k, e2, z, ky, kn⟩ t3 hH3 r3 => ?_⟩
    subst eR
    have r2' := r2.tn t3
    rw [e2] at r2'
    obtain ⟨vs, h1, h2⟩ := hH3.at_ _ (List.mem_of_getElem? m)
    have t13 := (t1.trans t2).trans t3
    refine ⟨vs, k, h1, rp_v.mp r2', by rw [h2.len]; exact Evl.sz_lt z, fun v hv => ?_, fun hv => ?_⟩
    · cases c : lkK kvs k with
      | none => rw [h2.lkK.2 c] at hv; cases hv
      | some d' =>
        obtain ⟨x', l, r4⟩ := h2.lkK.1 _ c
        rw [l] at hv; cases hv
        exact q d' _ _ H3 (ky d' c) t13 hH3 r4
    · cases c : lkK kvs k with
      | some d' => obtain ⟨x', l, _⟩ := h2.lkK.1 _ c; rw [l] at hv; cases hv
      | none =>
        obtain ⟨n1, n2⟩ := put_k (vs := vs) hH3 m (h2.ptK (f := k) r3)
        exact q d3 _ _ _ (kn c) (t13.trans n2) n1 (r3.tn n2)
theorem em_dnew (k : ∀ p, F (.v (.ref p)) ((p, .k []) :: R)) : EM H0 R0 tDNewK g R F := fun σ H t e hH Q q p hp => by
  obtain ⟨n1, n2⟩ := hH.new (c := .k []) (o := .dK []) hp ⟨[], upd_same, RpK.nil⟩
  exact q _ _ _ _ (k p) n2 n1 rpv
/-- a written dict: its pairs from the left, values that need nothing of the region -/
def EP2 (H0 : Hp) (R0 : Rg) (trs : List (TE × TE)) (g : Ev) (R : Rg) (P : List (D × D) → Rg → Prop) : Prop := match trs with
  | [] => P [] R
  | (a, b) :: r => EM H0 R0 a g R fun d R1 => EM H0 R0 b g R1 fun d2 R2 => EP2 H0 R0 r g R2 fun ps R3 => P ((d, d2) :: ps) R3
def RpP (H : Hp) (N : Addr → Prop) : List (D × D) → List (V × V) → Prop
  | [], ps => ps = []
  | p :: r, ps => ∃ x y q, ps = (x, y) :: q ∧ Rp H N p.1 x ∧ Rp H N p.2 y ∧ RpP H N r q
theorem ep_run : ∀ {trs : List (TE × TE)} {R : Rg} {P : List (D × D) → Rg → Prop}, EP2 H0 R0 trs g R P → ∀ σ H, Tn H0 R0 H R → EnvR H (Out R) g σ → Holds H R → ∀ Q : List (V × V) → Hp → Prop, (∀ ps R' vs H', P ps R' → Tn H R H' R' → Holds H' R' → RpP H' (Out R') ps vs → Q vs H') → tPairs trs σ H Q
  | [], R, P, h, σ, H, t, e, hH, Q, q => q [] R [] H h Tn.refl hH rfl
  | (a, b) :: r, R, P, h, σ, H, t, e, hH, Q, q => by
    have h' : EM H0 R0 a g R fun d R1 => EM H0 R0 b g R1 fun d2 R2 => EP2 H0 R0 r g R2 fun ps R3 => P ((d, d2) :: ps) R3 := h
    show a σ H fun x H1 => b σ H1 fun y H2 => tPairs r σ H2 fun ps H3 => Q ((x, y) :: ps) H3
    exact h' σ H t e hH _ fun d R1 v H1 k1 t1 hH1 r1 => k1 σ H1 (t.trans t1) (e.tn t1) hH1 _ fun d2 R2 v2 H2 k2 t2 hH2 r2 =>
      ep_run k2 σ H2 ((t.trans t1).trans t2) (e.tn (t1.trans t2)) hH2 _ fun ps R3 vs H3 k3 t3 hH3 r3 => q _ R3 _ H3 k3 ((t1.trans t2).trans t3) hH3 ⟨_, _, _, rfl, r1.tn (t2.trans t3), r2.tn t3, r3⟩
def mgK (kvs : List (Key × D)) (more : List (Key × D)) : List (Key × D) := more.foldl (fun acc kv => ptK kv.1 kv.2 acc) kvs
theorem mg_rel {H : Hp} {N : Addr → Prop} : ∀ {ps : List (Key × D)} {vs : List (Key × V)} {acc : List (Key × D)} {av : List (Key × V)}, RpK H N acc av → RpK H N ps vs → RpK H N (mgK acc ps) (mergeK av vs)
  | [], vs, acc, av, h, r => by rw [show vs = [] from r]; exact h
  | p :: ps, vs, acc, av, h, ⟨x, q, e1, r1, r2⟩ => by
    subst e1
    show RpK H N (mgK (ptK p.1 p.2 acc) ps) (mergeK (putK av p.1 x) q)
    exact mg_rel (h.ptK (f := p.1) r1) r2
theorem em_disp {trs : List (TE × TE)} (h : ∀ p, EP2 H0 R0 trs g ((p, RC.k []) :: R) fun ps R1 => ∃ kvs R2, R1 = (p, RC.k []) :: R2 ∧ ps = kvs.map (fun kv => (D.v (kV kv.1), kv.2)) ∧ kvs.length ≤ 15 ∧ F (.v (.ref p)) ((p, .k (mgK [] kvs)) :: R2)) : EM H0 R0 (tDisp trs) g R F := fun σ H t e hH Q q p hp => by
  obtain ⟨n1, n2⟩ := hH.new (c := .k []) (o := .dK []) hp ⟨[], upd_same, RpK.nil⟩
  refine ep_run (h p) σ _ (t.trans n2) (e.tn n2) n1 _ fun ps R' vs H' ⟨kvs, R2, eR, e1, z, k⟩ t1 hH1 r1 => ?_
  subst eR
  obtain ⟨w0, g1, g2⟩ := hH1.at_ _ List.mem_cons_self
  rw [show w0 = [] from g2] at g1
  have conv : ∀ {kvs : List (Key × D)} {vs : List (V × V)}, RpP H' (Out ((p, RC.k []) :: R2)) (kvs.map fun kv => (D.v (kV kv.1), kv.2)) vs → ∃ ws, vs = ws.map (fun kv : Key × V => (kV kv.1, kv.2)) ∧ RpK H' (Out ((p, RC.k []) :: R2)) kvs ws := by
    intro kvs
    induction kvs with
    | nil => intro vs r; exact ⟨[], r, RpK.nil⟩
    | cons c r ih =>
      rintro vs ⟨x, y, q, e1, z1, z2, z3⟩
      obtain ⟨ws, e2, z4⟩ := ih z3
      exact ⟨(c.1, y) :: ws, by rw [e1, rp_v.mp z1, e2]; rfl, RpK.cons z2 z4⟩
  rw [e1] at r1
  obtain ⟨ws, e2, z4⟩ := conv r1
  obtain ⟨m1, m2⟩ := put_k (nn := 0) (vs := []) hH1 rfl (mg_rel (av := []) RpK.nil z4)
  exact ⟨g1, ws, e2, by rw [z4.len]; exact z, q _ _ _ _ k ((n2.trans t1).trans m2) m1 rpv⟩
/-! ### calls of what is built in -/
theorem em_cb {rr : List V → Hp → VK → Prop} (h : EA H0 R0 tr g R fun ds R1 => RA H0 R0 rr ds R1 F) : EM H0 R0 (tCB rr tr) g R F := fun σ H t e hH Q q =>
  h σ H t e hH _ fun ds R1 vs H1 k1 t1 hH1 r1 => k1 H1 vs (t.trans t1) hH1 r1 Q fun d R' v H' k t2 hH2 r2 => q d R' v H' k (t1.trans t2) hH2 r2
theorem rpl1 {H : Hp} {N : Addr → Prop} {xs : List V} (h : RpL H N [d] xs) : ∃ x, xs = [x] ∧ Rp H N d x := by
  obtain ⟨x, r, e1, h1, h2⟩ := rpl_cons.mp h
  rw [rpl_nil.mp h2] at e1
  exact ⟨x, e1, h1⟩
theorem rpl2 {H : Hp} {N : Addr → Prop} {xs : List V} (h : RpL H N [d1, d2] xs) : ∃ x y, xs = [x, y] ∧ Rp H N d1 x ∧ Rp H N d2 y := by
  obtain ⟨x, r, e1, h1, h2⟩ := rpl_cons.mp h
  obtain ⟨y, e2, h3⟩ := rpl1 h2
  exact ⟨x, y, by rw [e1, e2], h1, h3⟩
abbrev rLenQ (K : PySem.W.Frag) : List V → Hp → VK → Prop := fun xs H Q => ∃ p ys, xs = [.ref p] ∧ (SqL K H p ys ∨ SqT K H p ys) ∧ Q (.int ys.length) H
theorem ra_len {ds : List D} (h : IsS R d ds) (k : F (.v (.int ds.length)) R) : RA H0 R0 (rLenQ K) [d] R F := fun H xs t hH r Q q => by
  obtain ⟨x, e1, r1⟩ := rpl1 r
  obtain ⟨a, ys, e2, h1, h2⟩ := h.get hH r1
  refine ⟨a, ys, by rw [e1, e2], h1, ?_⟩
  rw [h2.len]
  exact q _ R _ H k Tn.refl hH rpv
abbrev rLenK : List V → Hp → VK → Prop := fun xs H Q => ∃ a kvs, xs = [V.ref a] ∧ H a = some (.dK kvs) ∧ Q (.int kvs.length) H
theorem ra_lenK {kvs : List (Key × D)} (m : (a, RC.k kvs) ∈ R) (k : F (.v (.int kvs.length)) R) : RA H0 R0 rLenK [.v (.ref a)] R F := fun H xs t hH r Q q => by
  obtain ⟨x, e1, r1⟩ := rpl1 r
  obtain ⟨vs, h1, h2⟩ := hH.at_ _ m
  refine ⟨a, vs, by rw [e1, rp_v.mp r1], h1, ?_⟩
  rw [h2.len]
  exact q _ R _ H k Tn.refl hH rpv
theorem ra_sum {ns : List Int} (h : IsL R d (ns.map fun n => D.v (.int n))) (k : F (.v (.int ns.sum)) R) : RA H0 R0 (rSum K) [d] R F := fun H xs t hH r Q q => by
  obtain ⟨x, e1, r1⟩ := rpl1 r
  obtain ⟨a, ys, e2, h1, h2⟩ := h.get hH r1
  rw [rpl_mapV h2] at h1
  exact ⟨a, ns, by rw [e1, e2], SqL.of h1, q _ R _ H k Tn.refl hH rpv⟩
theorem ra_max {ns : List Int} (h : IsL R d (ns.map fun n => D.v (.int n))) (z : 0 < ns.length) (k : ∀ m, m ∈ ns → (∀ y, y ∈ ns → y ≤ m) → F (.v (.int m)) R) : RA H0 R0 (rMax K) [d] R F := fun H xs t hH r Q q => by
  obtain ⟨x, e1, r1⟩ := rpl1 r
  obtain ⟨a, ys, e2, h1, h2⟩ := h.get hH r1
  rw [rpl_mapV h2] at h1
  exact ⟨a, ns, by rw [e1, e2], SqL.of h1, z, fun m m1 m2 => q _ R _ H (k m m1 m2) Tn.refl hH rpv⟩
theorem ra_min {ns : List Int} (h : IsL R d (ns.map fun n => D.v (.int n))) (z : 0 < ns.length) (k : ∀ m, m ∈ ns → (∀ y, y ∈ ns → m ≤ y) → F (.v (.int m)) R) : RA H0 R0 (rMin K) [d] R F := fun H xs t hH r Q q => by
  obtain ⟨x, e1, r1⟩ := rpl1 r
  obtain ⟨a, ys, e2, h1, h2⟩ := h.get hH r1
  rw [rpl_mapV h2] at h1
  exact ⟨a, ns, by rw [e1, e2], SqL.of h1, z, fun m m1 m2 => q _ R _ H (k m m1 m2) Tn.refl hH rpv⟩
theorem ra_any {bs : List Bool} (h : IsL R d (bs.map fun n => D.v (.bl n))) (k : F (.v (.bl (bs.any id))) R) : RA H0 R0 (rAny K) [d] R F := fun H xs t hH r Q q => by
  obtain ⟨x, e1, r1⟩ := rpl1 r
  obtain ⟨a, ys, e2, h1, h2⟩ := h.get hH r1
  rw [rpl_mapV h2] at h1
  exact ⟨a, bs, by rw [e1, e2], SqL.of h1, q _ R _ H k Tn.refl hH rpv⟩
theorem ra_all {bs : List Bool} (h : IsL R d (bs.map fun n => D.v (.bl n))) (k : F (.v (.bl (bs.all id))) R) : RA H0 R0 (rAll K) [d] R F := fun H xs t hH r Q q => by
  obtain ⟨x, e1, r1⟩ := rpl1 r
  obtain ⟨a, ys, e2, h1, h2⟩ := h.get hH r1
  rw [rpl_mapV h2] at h1
  exact ⟨a, bs, by rw [e1, e2], SqL.of h1, q _ R _ H k Tn.refl hH rpv⟩
abbrev rListQ (K : PySem.W.Frag) : List V → Hp → VK → Prop := fun xs H Q => ∃ p ys, xs = [.ref p] ∧ (SqL K H p ys ∨ SqT K H p ys) ∧ ∀ l, H l = none → Q (.ref l) (upd H l (.lst ys))
theorem ra_list {ds : List D} (h : IsS R d ds) (k : F (.l ds) R) : RA H0 R0 (rListQ K) [d] R F := fun H xs t hH r Q q => by
  obtain ⟨x, e1, r1⟩ := rpl1 r
  obtain ⟨a, ys, e2, h1, h2⟩ := h.get hH r1
  refine ⟨a, ys, by rw [e1, e2], h1, fun l hl => ?_⟩
  obtain ⟨n1, n2, n3⟩ := new_l t hH h2 hl
  exact q _ R _ _ k n1 n2 n3
theorem ra_listC {ds : List D} (h : IsS R d ds) (k : ∀ p, F (.v (.ref p)) ((p, .l ds) :: R)) : RA H0 R0 (rListQ K) [d] R F := fun H xs t hH r Q q => by
  obtain ⟨x, e1, r1⟩ := rpl1 r
  obtain ⟨a, ys, e2, h1, h2⟩ := h.get hH r1
  refine ⟨a, ys, by rw [e1, e2], h1, fun l hl => ?_⟩
  obtain ⟨n1, n2⟩ := hH.new (c := .l ds) (o := .lst ys) hl ⟨ys, upd_same, h2.mono fun b o n q _ => ⟨fun p' hp' => by
      rcases List.mem_cons.mp hp' with e' | e'
      · rw [e']; exact (ne_of_none q hl).symm
      · exact n p' e', ex_new hl b o q⟩⟩
  exact q _ _ _ _ (k l) n2 n1 rpv
abbrev rTupQ (K : PySem.W.Frag) : List V → Hp → VK → Prop := fun xs H Q => ∃ p ys, xs = [.ref p] ∧ ((SqL K H p ys ∧ ∀ l, H l = none → Q (.ref l) (upd H l (.tup ys))) ∨ (SqT K H p ys ∧ Q (.ref p) H))
theorem ra_tupL {ds : List D} (h : IsL R d ds) (k : F (.t ds) R) : RA H0 R0 (rTupQ K) [d] R F := fun H xs t hH r Q q => by
  obtain ⟨x, e1, r1⟩ := rpl1 r
  obtain ⟨a, ys, e2, h1, h2⟩ := h.get hH r1
  refine ⟨a, ys, by rw [e1, e2], .inl ⟨SqL.of h1, fun l hl => ?_⟩⟩
  obtain ⟨n1, n2, n3⟩ := new_t hH h2 hl
  exact q _ R _ _ k n1 n2 n3
theorem ra_tupT {ds : List D} (k : F (.t ds) R) : RA H0 R0 (rTupQ K) [.t ds] R F := fun H xs t hH r Q q => by
  obtain ⟨x, e1, r1⟩ := rpl1 r
  obtain ⟨a, ys, e2, n, h1, h2⟩ := rp_t.mp r1
  exact ⟨a, ys, by rw [e1, e2], .inr ⟨SqT.of h1, by rw [← e2]; exact q _ R _ _ k Tn.refl hH r1⟩⟩
end
end Rc
-- D
set_option Elab.async false
set_option linter.all false
set_option maxRecDepth 100000
set_option maxHeartbeats 4000000
namespace Rc
open PySem PySem.Spec PyProof.Rows L2
variable [Tbl]
/-! ### targets, walks, loops, comprehensions -/
def GX (H0 : Hp) (R0 : Rg) (tg : TG) (js : List Nat) (d : D) (g : Ev) (R : Rg) (P : Ev → Rg → Prop) : Prop := ∀ σ H x, Tn H0 R0 H R → EnvR H (Out R) g σ → Holds H R → Rp H (Out R) d x → ∀ Q : L2.St → Hp → Prop,
  (∀ g' R' σ' H', P g' R' → Tn H R H' R' → Holds H' R' → EnvR H' (Out R') g' σ' → (∀ i, i ∉ js → σ'[i]? = σ[i]?) → σ'.length = σ.length → Q σ' H') → tg x σ H Q
def GXs (H0 : Hp) (R0 : Rg) (tg : TGs) (js : List Nat) (ds : List D) (g : Ev) (R : Rg) (P : Ev → Rg → Prop) : Prop := ∀ σ H xs, Tn H0 R0 H R → EnvR H (Out R) g σ → Holds H R → RpL H (Out R) ds xs → ∀ Q : L2.St → Hp → Prop,
  (∀ g' R' σ' H', P g' R' → Tn H R H' R' → Holds H' R' → EnvR H' (Out R') g' σ' → (∀ i, i ∉ js → σ'[i]? = σ[i]?) → σ'.length = σ.length → Q σ' H') → tg xs σ H Q
structure DIt (H1 : Hp) (R1 : Rg) (J : It) (n : Nat → Rg → D → Prop) (e : Nat → Rg → Prop) : Prop where
  go : ∀ i H R d, Tn H1 R1 H R → Holds H R → n i R d → J.go i H ∧ ∀ x H', J.yld i H x H' → Tn H R H' R ∧ Holds H' R ∧ Rp H' (Out R) d x ∧ ∀ a o, H a = some o → H' a = some o
  stop : ∀ i H R, Tn H1 R1 H R → Holds H R → e i R → J.stop i H
def EI (H0 : Hp) (R0 : Rg) (wi : TI) (g : Ev) (R : Rg) (P : (Nat → Rg → D → Prop) → (Nat → Rg → Prop) → Rg → Prop) : Prop := ∀ σ H, Tn H0 R0 H R → EnvR H (Out R) g σ → Holds H R → ∀ Rr : It → Hp → Prop,
  (∀ J n e R' H', P n e R' → DIt H' R' J n e → Tn H R H' R' → Holds H' R' → Rr J H') → wi σ H Rr
section
variable {H0 : Hp} {R0 : Rg} {K : PySem.W.Frag} {g : Ev} {R : Rg} {F : D → Rg → Prop} {G : Bool → Rg → Prop} {ta tb tc te : TE} {t u : TT} {d d1 d2 : D} {x y : V} {r : R2} {tr : TA} {E : Es} {s s' : TS} {a C : Addr} {f : Str}
  {P : Ev → Rg → Prop} {js : List Nat} {ds : List D} {PI : (Nat → Rg → D → Prop) → (Nat → Rg → Prop) → Rg → Prop}
theorem gx_name {i : Nat} (k : P (g.set i (some d)) R) (hj : i ∈ js := by decide) : GX H0 R0 (gName i) js d g R P := fun σ H x t e hH r Q q =>
  q _ R _ H k Tn.refl hH (e.set r) (fun j hj' => List.getElem?_set_ne fun z => hj' (by rw [← z]; exact hj)) (by simp)
theorem gxs_nil (k : P g R) : GXs H0 R0 gNil js [] g R P := fun σ H xs t e hH r Q q => ⟨rpl_nil.mp r, q _ R _ H k Tn.refl hH e (fun _ _ => rfl) rfl⟩
theorem gxs_cons {tg : TG} {tgs : TGs} (h : GX H0 R0 tg js d g R fun g1 R1 => GXs H0 R0 tgs js ds g1 R1 P) : GXs H0 R0 (gCons tg tgs) js (d :: ds) g R P := fun σ H xs t e hH r Q q => by
  obtain ⟨x, rr, e1, h1, h2⟩ := rpl_cons.mp r
  exact ⟨x, rr, e1, h σ H x t e hH h1 _ fun g1 R1 σ1 H1 k1 t1 hH1 e1 z1 l1 => k1 σ1 H1 rr (t.trans t1) e1 hH1 (h2.tn t1) Q fun g2 R2 σ2 H2 k2 t2 hH2 e2 z2 l2 =>
    q g2 R2 σ2 H2 k2 (t1.trans t2) hH2 e2 (fun i hi => (z2 i hi).trans (z1 i hi)) (l2.trans l1)⟩
theorem gx_tup {tgs : TGs} {n : Nat} (h : GXs H0 R0 tgs js ds g R P) (hn : ds.length = n := by rfl) : GX H0 R0 (gTup K n tgs) js (.t ds) g R P := fun σ H x t e hH r Q q => by
  obtain ⟨a, xs, e1, n1, h1, h2⟩ := rp_t.mp r
  exact ⟨a, xs, e1, SqT.of h1, h2.len.trans hn, h σ H xs t e hH h2 Q q⟩
/-! #### what is walked -/
theorem ei_listD {tl : TE} (h : EM H0 R0 tl g R fun d R1 => ∃ ds, d = .l ds ∧ PI (fun i _ d => ds[i]? = some d) (fun i _ => ds.length ≤ i) R1) : EI H0 R0 (iList K tl) g R PI := fun σ H t e hH Rr q =>
  h σ H t e hH _ fun d R1 v H1 ⟨ds, e1, k⟩ t1 hH1 r1 => by
    subst e1
    obtain ⟨a, xs, e2, n1, h1, h2⟩ := rp_l.mp r1
    refine ⟨a, e2, ⟨xs, SqL.of h1⟩, q _ _ _ R1 H1 k ⟨fun i H R d t hH hi => ?_, fun i H R t hH hi => ?_⟩ t1 hH1⟩
    · obtain ⟨x, e3, r3⟩ := (h2.tn t).get hi
      have hx := (t a _ n1 h1 nt_of).2
      exact ⟨⟨xs, x, SqL.of hx, e3⟩, fun y H' ⟨eH, hy⟩ => by
        subst eH
        have e4 := hy xs (SqL.of hx)
        rw [e3] at e4; cases e4
        exact ⟨Tn.refl, hH, r3, fun _ _ z => z⟩⟩
    · exact ⟨xs, SqL.of (t a _ n1 h1 nt_of).2, by rw [h2.len]; exact hi⟩
theorem ei_listC {tl : TE} (h : EM H0 R0 tl g R fun d R1 => ∃ a ds, d = .v (.ref a) ∧ (a, RC.l ds) ∈ R1 ∧ PI (fun i R d => ∃ ds, (a, RC.l ds) ∈ R ∧ ds[i]? = some d) (fun i R => ∃ ds, (a, RC.l ds) ∈ R ∧ ds.length ≤ i) R1) : EI H0 R0 (iList K tl) g R PI := fun σ H t e hH Rr q =>
  h σ H t e hH _ fun d R1 v H1 ⟨a, ds, e1, m, k⟩ t1 hH1 r1 => by
    rw [e1] at r1
    obtain ⟨xs, h1, h2⟩ := hH1.at_ _ m
    refine ⟨a, rp_v.mp r1, ⟨xs, SqL.of h1⟩, q _ _ _ R1 H1 k ⟨fun i H R d t hH ⟨ds, m, hi⟩ => ?_, fun i H R t hH ⟨ds, m, hi⟩ => ?_⟩ t1 hH1⟩
    · obtain ⟨xs, h1, h2⟩ := hH.at_ _ m
      obtain ⟨x, e3, r3⟩ := h2.get hi
      exact ⟨⟨xs, x, SqL.of h1, e3⟩, fun y H' ⟨eH, hy⟩ => by
        subst eH
        have e4 := hy xs (SqL.of h1)
        rw [e3] at e4; cases e4
        exact ⟨Tn.refl, hH, r3, fun _ _ z => z⟩⟩
    · obtain ⟨xs, h1, h2⟩ := hH.at_ _ m
      exact ⟨xs, SqL.of h1, by rw [h2.len]; exact hi⟩
theorem ei_tup {tl : TE} (h : EM H0 R0 tl g R fun d R1 => ∃ ds, d = .t ds ∧ PI (fun i _ d => ds[i]? = some d) (fun i _ => ds.length ≤ i) R1) : EI H0 R0 (iTup K tl) g R PI := fun σ H t e hH Rr q =>
  h σ H t e hH _ fun d R1 v H1 ⟨ds, e1, k⟩ t1 hH1 r1 => by
    subst e1
    obtain ⟨a, xs, e2, n1, h1, h2⟩ := rp_t.mp r1
    refine ⟨a, e2, ⟨xs, SqT.of h1⟩, q _ _ _ R1 H1 k ⟨fun i H R d t hH hi => ?_, fun i H R t hH hi => ?_⟩ t1 hH1⟩
    · obtain ⟨x, e3, r3⟩ := (h2.tn t).get hi
      have hx := (t a _ n1 h1 nt_of).2
      exact ⟨⟨xs, x, SqT.of hx, e3⟩, fun y H' ⟨eH, hy⟩ => by
        subst eH
        have e4 := hy xs (SqT.of hx)
        rw [e3] at e4; cases e4
        exact ⟨Tn.refl, hH, r3, fun _ _ z => z⟩⟩
    · exact ⟨xs, SqT.of (t a _ n1 h1 nt_of).2, by rw [h2.len]; exact hi⟩
/-- a new pair (i, x) -/
theorem new_pair {H : Hp} {ds : List D} {xs : List V} (hH : Holds H R) (r : RpL H (Out R) ds xs) {p : Addr} (hp : H p = none) : Tn H R (upd H p (.tup xs)) R ∧ Holds (upd H p (.tup xs)) R ∧ Rp (upd H p (.tup xs)) (Out R) (.t ds) (.ref p) ∧ ∀ a o, H a = some o → upd H p (.tup xs) a = some o := by
  obtain ⟨n1, n2, n3⟩ := new_t hH r hp
  exact ⟨n1, n2, n3, ex_new hp⟩
theorem ei_enumD {ti : TA} (h : EA H0 R0 ti g R fun es R1 => ∃ ds, es = [.l ds] ∧ PI (fun i _ d => ∃ d', ds[i]? = some d' ∧ d = .t [.v (.int (i : Nat)), d']) (fun i _ => ds.length ≤ i) R1) : EI H0 R0 (iEnum K ti) g R PI := fun σ H t e hH Rr q =>
  h σ H t e hH _ fun es R1 vs H1 ⟨ds, e1, k⟩ t1 hH1 r1 => by
    subst e1
    obtain ⟨v, ev, r1⟩ := rpl1 r1
    obtain ⟨a, xs, e2, n1, h1, h2⟩ := rp_l.mp r1
    refine ⟨a, xs, by rw [ev, e2], SqL.of h1, q _ _ _ R1 H1 k ⟨fun i H R d t hH ⟨d', hi, ed⟩ => ?_, fun i H R t hH hi => ?_⟩ t1 hH1⟩
    · obtain ⟨x, e3, r3⟩ := (h2.tn t).get hi
      have hx := (t a _ n1 h1 nt_of).2
      exact ⟨⟨xs, x, SqL.of hx, e3⟩, fun y H' ⟨T, x', ey, hT, eH, hy⟩ => by
        have e4 := hy xs (SqL.of hx)
        rw [e3] at e4; cases e4
        subst eH ey ed
        exact new_pair hH (RpL.cons rpv (RpL.cons r3 RpL.nil)) hT⟩
    · exact ⟨xs, SqL.of (t a _ n1 h1 nt_of).2, by rw [h2.len]; exact hi⟩
theorem ei_enumC {ti : TA} (h : EA H0 R0 ti g R fun es R1 => ∃ a ds, es = [.v (.ref a)] ∧ (a, RC.l ds) ∈ R1 ∧ PI (fun i R d => ∃ ds d', (a, RC.l ds) ∈ R ∧ ds[i]? = some d' ∧ d = .t [.v (.int (i : Nat)), d']) (fun i R => ∃ ds, (a, RC.l ds) ∈ R ∧ ds.length ≤ i) R1) : EI H0 R0 (iEnum K ti) g R PI := fun σ H t e hH Rr q =>
  h σ H t e hH _ fun es R1 vs H1 ⟨a, ds, e1, m, k⟩ t1 hH1 r1 => by
    subst e1
    obtain ⟨v, ev, r1⟩ := rpl1 r1
    obtain ⟨xs, h1, h2⟩ := hH1.at_ _ m
    refine ⟨a, xs, by rw [ev, rp_v.mp r1], SqL.of h1, q _ _ _ R1 H1 k ⟨fun i H R d t hH ⟨ds, d', m, hi, ed⟩ => ?_, fun i H R t hH ⟨ds, m, hi⟩ => ?_⟩ t1 hH1⟩
    · obtain ⟨xs, h1, h2⟩ := hH.at_ _ m
      obtain ⟨x, e3, r3⟩ := h2.get hi
      exact ⟨⟨xs, x, SqL.of h1, e3⟩, fun y H' ⟨T, x', ey, hT, eH, hy⟩ => by
        have e4 := hy xs (SqL.of h1)
        rw [e3] at e4; cases e4
        subst eH ey ed
        exact new_pair hH (RpL.cons rpv (RpL.cons r3 RpL.nil)) hT⟩
    · obtain ⟨xs, h1, h2⟩ := hH.at_ _ m
      exact ⟨xs, SqL.of h1, by rw [h2.len]; exact hi⟩
theorem ei_rng1 {ti : TA} (h : EA H0 R0 ti g R fun es R1 => ∃ j : Int, es = [.v (.int j)] ∧ -100000 ≤ j ∧ j ≤ 100000 ∧ PI (fun i _ d => i < j.toNat ∧ d = .v (.int (i : Nat))) (fun i _ => j.toNat ≤ i) R1) : EI H0 R0 (iRng1 ti) g R PI := fun σ H t e hH Rr q =>
  h σ H t e hH _ fun es R1 vs H1 ⟨j, e1, b1, b2, k⟩ t1 hH1 r1 => by
    subst e1
    obtain ⟨v, ev, r1⟩ := rpl1 r1
    refine ⟨j, by rw [ev, rp_v.mp r1], by omega, by omega, q _ _ _ R1 H1 k ⟨fun i H R d t hH ⟨hi, ed⟩ => ⟨hi, fun y H' ⟨eH, hy⟩ => ?_⟩, fun i H R t hH hi => hi⟩ t1 hH1⟩
    subst eH ed
    rw [hy, Int.zero_add]
    exact ⟨Tn.refl, hH, rpv, fun _ _ z => z⟩
/-- keyed plain values -/
abbrev vK (kvs : List (Key × V)) : List (Key × D) := kvs.map fun p => (p.1, D.v p.2)
theorem rpk_vK {H : Hp} {N : Addr → Prop} : ∀ {kvs ws : List (Key × V)}, RpK H N (vK kvs) ws → ws = kvs
  | [], ws, h => h
  | p :: r, ws, ⟨x, q, e1, h1, h2⟩ => by rw [e1, rp_v.mp h1, rpk_vK h2]
theorem fz_at {H : Hp} {a : Addr} {o : Obj} {kvs : List (Key × V)} (hH : Holds H R) (m : (a, RC.fz o (vK kvs)) ∈ R) : H a = some (.frz o (.dK kvs)) := by
  obtain ⟨ws, g1, g2⟩ := hH.at_ _ m
  rw [rpk_vK g2] at g1
  exact g1
theorem k_at {H : Hp} {a : Addr} {kvs : List (Key × V)} (hH : Holds H R) (m : (a, RC.k (vK kvs)) ∈ R) : H a = some (.dK kvs) := by
  obtain ⟨ws, g1, g2⟩ := hH.at_ _ m
  rw [rpk_vK g2] at g1
  exact g1
theorem ei_keys {td : TE} (h : EM H0 R0 td g R fun d R1 => ∃ a o kvs, d = .v (.ref a) ∧ (a, RC.fz o (vK kvs)) ∈ R1 ∧ PI (fun i R d => (a, RC.fz o (vK kvs)) ∈ R ∧ ∃ p, kvs[i]? = some p ∧ d = .v (kV p.1)) (fun i R => (a, RC.fz o (vK kvs)) ∈ R ∧ kvs.length ≤ i) R1) : EI H0 R0 (iKeys td) g R PI := fun σ H t e hH Rr q =>
  h σ H t e hH _ fun d R1 v H1 ⟨a, o, kvs, e1, m, k⟩ t1 hH1 r1 => by
    rw [e1] at r1
    refine ⟨a, o, rp_v.mp r1, .inl ⟨kvs, fz_at hH1 m, q _ _ _ R1 H1 k ⟨fun i H R d t hH ⟨m, p, hp, ed⟩ => ⟨⟨fz_at hH m, (List.getElem?_eq_some_iff.mp hp).1⟩, fun y H' ⟨eH, ky, vy, hy, ey⟩ => ?_⟩, fun i H R t hH ⟨m, hi⟩ => ⟨fz_at hH m, hi⟩⟩ t1 hH1⟩⟩
    rw [hp] at hy
    cases hy
    subst eH ey ed
    exact ⟨Tn.refl, hH, rpv, fun _ _ z => z⟩
theorem ei_vals {td : TE} (h : EM H0 R0 td g R fun d R1 => ∃ a o kvs, d = .v (.ref a) ∧ (a, RC.fz o (vK kvs)) ∈ R1 ∧ PI (fun i R d => (a, RC.fz o (vK kvs)) ∈ R ∧ ∃ p, kvs[i]? = some p ∧ d = .v p.2) (fun i R => (a, RC.fz o (vK kvs)) ∈ R ∧ kvs.length ≤ i) R1) : EI H0 R0 (iVals td) g R PI := fun σ H t e hH Rr q =>
  h σ H t e hH _ fun d R1 v H1 ⟨a, o, kvs, e1, m, k⟩ t1 hH1 r1 => by
    rw [e1] at r1
    refine ⟨a, o, kvs, rp_v.mp r1, fz_at hH1 m, q _ _ _ R1 H1 k ⟨fun i H R d t hH ⟨m, p, hp, ed⟩ => ⟨⟨fz_at hH m, (List.getElem?_eq_some_iff.mp hp).1⟩, fun y H' ⟨eH, ky, hy⟩ => ?_⟩, fun i H R t hH ⟨m, hi⟩ => ⟨fz_at hH m, hi⟩⟩ t1 hH1⟩
    rw [hp] at hy
    cases hy
    subst eH ed
    exact ⟨Tn.refl, hH, rpv, fun _ _ z => z⟩
theorem ei_zip {ti : TA} (h : EA H0 R0 ti g R fun es R1 => ∃ ds fs, (es = [.l ds, .l fs] ∨ es = [.t ds, .t fs]) ∧ ds.length = fs.length ∧ PI (fun i _ d => ∃ d1 d2, ds[i]? = some d1 ∧ fs[i]? = some d2 ∧ d = .t [d1, d2]) (fun i _ => ds.length ≤ i) R1) : EI H0 R0 (RZ.iZipA K ti) g R PI := fun σ H t e hH Rr q =>
  h σ H t e hH _ fun es R1 vs H1 ⟨ds, fs, e1, ln, k⟩ t1 hH1 r1 => by
    rcases e1 with e1 | e1
    · subst e1
      obtain ⟨v, v2, ev, r1, r2⟩ := rpl2 r1
      obtain ⟨a, xs, e2, n1, h1, h2⟩ := rp_l.mp r1
      obtain ⟨b, ys, e3, n2, h3, h4⟩ := rp_l.mp r2
      refine ⟨a, b, xs, ys, by rw [ev, e2, e3], .inl ⟨SqL.of h1, SqL.of h3, q _ _ _ R1 H1 k ⟨fun i H R d t hH ⟨d1, d2, i1, i2, ed⟩ => ?_, fun i H R t hH hi => ?_⟩ t1 hH1⟩⟩
      · obtain ⟨x1, g1, r3⟩ := (h2.tn t).get i1
        obtain ⟨x2, g2, r4⟩ := (h4.tn t).get i2
        have hx := (t a _ n1 h1 nt_of).2
        have hy := (t b _ n2 h3 nt_of).2
        refine ⟨⟨xs, ys, x1, x2, SqL.of hx, SqL.of hy, g1, g2⟩, fun y H' ⟨T, z1, z2, ey, hT, eH, hz1, hz2⟩ => ?_⟩
        have c1 := hz1 xs (SqL.of hx)
        have c2 := hz2 ys (SqL.of hy)
        rw [g1] at c1; cases c1
        rw [g2] at c2; cases c2
        subst eH ey ed
        exact new_pair hH (RpL.cons r3 (RpL.cons r4 RpL.nil)) hT
      · exact ⟨xs, ys, SqL.of (t a _ n1 h1 nt_of).2, SqL.of (t b _ n2 h3 nt_of).2, .inl (by rw [h2.len]; exact hi)⟩
    · subst e1
      obtain ⟨v, v2, ev, r1, r2⟩ := rpl2 r1
      obtain ⟨a, xs, e2, n1, h1, h2⟩ := rp_t.mp r1
      obtain ⟨b, ys, e3, n2, h3, h4⟩ := rp_t.mp r2
      refine ⟨a, b, xs, ys, by rw [ev, e2, e3], .inr ⟨SqT.of h1, SqT.of h3, q _ _ _ R1 H1 k ⟨fun i H R d t hH ⟨d1, d2, i1, i2, ed⟩ => ?_, fun i H R t hH hi => ?_⟩ t1 hH1⟩⟩
      · obtain ⟨x1, g1, r3⟩ := (h2.tn t).get i1
        obtain ⟨x2, g2, r4⟩ := (h4.tn t).get i2
        have hx := (t a _ n1 h1 nt_of).2
        have hy := (t b _ n2 h3 nt_of).2
        refine ⟨⟨xs, ys, x1, x2, SqT.of hx, SqT.of hy, g1, g2⟩, fun y H' ⟨T, z1, z2, ey, hT, eH, hz1, hz2⟩ => ?_⟩
        have c1 := hz1 xs (SqT.of hx)
        have c2 := hz2 ys (SqT.of hy)
        rw [g1] at c1; cases c1
        rw [g2] at c2; cases c2
        subst eH ey ed
        exact new_pair hH (RpL.cons r3 (RpL.cons r4 RpL.nil)) hT
      · exact ⟨xs, ys, SqT.of (t a _ n1 h1 nt_of).2, SqT.of (t b _ n2 h3 nt_of).2, .inl (by rw [h2.len]; exact hi)⟩
/-! #### a for -/
theorem sx_for {wi : TI} {tg : TG} {body : TS} (js : List Nat) (h : EI H0 R0 wi g R fun n e R1 => ∃ (I : Nat → Ev → Rg → Prop) (m : Nat), I 0 g R1 ∧ ∀ i g' R', I i g' R' → (e i R' ∧ E.nx g' R') ∨ (i < m ∧ ∃ d, n i R' d ∧ ∀ H1, GX H1 R1 tg js d g' R' fun g2 R2 => SX H1 R1 body g2 R2 { nx := I (i + 1), ct := I (i + 1), bk := E.nx, rt := E.rt })) :
    SX H0 R0 (tFor wi tg body) g R E := fun σ H D t e hH k => h σ H t e hH _ fun J n en R1 H1 ⟨I, m, i0, st⟩ di t1 hH1 => by
  have t01 := t.trans t1
  refine ⟨fun i μ σ' H' => μ = m - i ∧ ∃ g' R', I i g' R' ∧ Tn H1 R1 H' R' ∧ Holds H' R' ∧ EnvR H' (Out R') g' σ', ⟨m - 0, rfl, g, R1, i0, Tn.refl, hH1, e.tn t1⟩, ?_⟩
  rintro i μ σ' H' ⟨eμ, g', R', hi, t2, hH2, e2⟩
  rcases st i g' R' hi with ⟨he, hn⟩ | ⟨hlt, d, hd, go⟩
  · exact .inl ⟨di.stop i H' R' t2 hH2 he, k.nx g' R' σ' H' hn (t01.trans t2) hH2 e2⟩
  · obtain ⟨hgo, hy⟩ := di.go i H' R' d t2 hH2 hd
    refine .inr ⟨hgo, fun σ3 H3 => ∃ g3 R3, I (i + 1) g3 R3 ∧ Tn H1 R1 H3 R3 ∧ Holds H3 R3 ∧ EnvR H3 (Out R3) g3 σ3, fun σ3 H3 ⟨g3, R3, z⟩ => ⟨m - (i + 1), by omega, rfl, g3, R3, z⟩, fun x H3 hx => ?_⟩
    obtain ⟨t3, hH3, r3, _⟩ := hy x H3 hx
    refine go H1 σ' H3 x (t2.trans t3) (e2.tn t3) hH3 r3 _ fun g4 R4 σ4 H4 k4 t4 hH4 e4 _ _ => ?_
    exact k4 σ4 H4 _ ((t2.trans t3).trans t4) e4 hH4 ⟨fun g5 R5 σ5 H5 z1 z2 z3 z4 => ⟨g5, R5, z1, z2, z3, z4⟩, fun d5 R5 v5 H5 z1 z2 z3 z4 => k.rt d5 R5 v5 H5 z1 (t01.trans z2) z3 z4,
      fun g5 R5 σ5 H5 z1 z2 z3 z4 => k.nx g5 R5 σ5 H5 z1 (t01.trans z2) z3 z4, fun g5 R5 σ5 H5 z1 z2 z3 z4 => ⟨g5, R5, z1, z2, z3, z4⟩⟩
/-! #### a comprehension -/
theorem wipe_get (τ : L2.St) : ∀ (vs : List Nat) (i : Nat), (L2.wipe τ vs)[i]? = if i ∈ vs then (if i < τ.length then some none else none) else τ[i]?
  | [], i => by rw [if_neg (by simp)]; rfl
  | v :: vs, i => by
    show ((L2.wipe τ vs).set v none)[i]? = _
    by_cases c : v = i
    · subst c
      rw [if_pos (by simp)]
      by_cases l : v < τ.length
      · rw [if_pos l, List.getElem?_set_self (by rw [L2.wipe_length]; exact l)]
      · rw [if_neg l, List.getElem?_eq_none_iff.mpr (by rw [List.length_set, L2.wipe_length]; omega)]
    · rw [List.getElem?_set_ne c, wipe_get τ vs i]
      have c' : ¬ i = v := fun z => c z.symm
      simp [c']
theorem wipe_eq {σ σ2 : L2.St} {vs : List Nat} (h : ∀ i, i ∉ vs → σ2[i]? = (L2.wipe σ vs)[i]?) (l : σ2.length = (L2.wipe σ vs).length) : L2.wipe σ2 vs = L2.wipe σ vs := by
  refine List.ext_getElem? fun i => ?_
  rw [wipe_get, wipe_get]
  rw [L2.wipe_length] at l
  by_cases c : i ∈ vs
  · rw [if_pos c, if_pos c, l]
  · rw [if_neg c, if_neg c, h i c, wipe_get, if_neg c]
def outs (m : Nat) (out : Nat → Option D) : List D := (List.range m).filterMap out
theorem outs_succ_some {m : Nat} {out : Nat → Option D} {d : D} (h : out m = some d) : outs (m + 1) out = outs m out ++ [d] := by
  unfold outs
  rw [List.range_succ, List.filterMap_append]
  simp [h]
theorem outs_succ_none {m : Nat} {out : Nat → Option D} (h : out m = none) : outs (m + 1) out = outs m out := by
  unfold outs
  rw [List.range_succ, List.filterMap_append]
  simp [h]
theorem outs_len (m : Nat) (out : Nat → Option D) : (outs m out).length ≤ m := by
  have h := List.length_filterMap_le out (List.range m)
  rw [List.length_range] at h
  exact h
theorem em_lcC {wi : TI} {tg : TG} {tt : TT} {vs : List Nat} (h : EI H0 R0 wi g R fun n e R1 => ∃ (m : Nat) (out : Nat → Option D), m ≤ 100000 ∧ (∀ Rx, (∀ c ∈ R1, c ∈ Rx) → e m Rx) ∧
    (∀ i, i < m → ∀ Rx, (∀ c ∈ R1, c ∈ Rx) → ∃ d, n i Rx d ∧ ∀ H1, GX H1 R1 tg vs d (wipeE g vs) Rx fun g2 R2 => R2 = Rx ∧ ET H1 R1 tt g2 Rx fun b R3 => R3 = Rx ∧ (b = true → EM H1 R1 te g2 Rx fun d' R4 => R4 = Rx ∧ out i = some d') ∧ (b = false → out i = none)) ∧
    ∀ p, F (.v (.ref p)) ((p, .l (outs m out)) :: R1)) : EM H0 R0 (tLc wi tg tt te vs) g R F := fun σ H t e hH Q q => h σ H t e hH _ fun J n en R1 H1 ⟨m, out, hm, hen, st, kF⟩ di t1 hH1 => by
  intro Dl hD
  obtain ⟨hN, tN⟩ := hH1.new (c := .l []) (o := .lst []) hD ⟨[], upd_same, RpL.nil⟩
  have sub : ∀ (ds : List D) c, c ∈ R1 → c ∈ (Dl, RC.l ds) :: R1 := fun ds c hc => List.mem_cons_of_mem _ hc
  refine ⟨fun i μ H' => i ≤ m ∧ μ = m - i ∧ Tn H1 R1 H' ((Dl, RC.l (outs i out)) :: R1) ∧ Holds H' ((Dl, RC.l (outs i out)) :: R1), ⟨m - 0, Nat.zero_le _, rfl, tN, hN⟩, ?_⟩
  rintro i μ H' ⟨him, eμ, t2, hH2⟩
  have eW : EnvR H' (Out ((Dl, RC.l (outs i out)) :: R1)) (wipeE g vs) (L2.wipe σ vs) := ((e.tn t1).tn t2).wipe vs
  by_cases c : i = m
  · subst c
    refine .inl ⟨di.stop i H' _ t2 hH2 (hen _ (sub _)), ?_⟩
    exact q _ _ _ _ (kF Dl) (t1.trans t2) hH2 rpv
  · have hi : i < m := by omega
    obtain ⟨d, hd, go⟩ := st i hi _ (sub (outs i out))
    obtain ⟨hgo, hy⟩ := di.go i H' _ d t2 hH2 hd
    refine .inr ⟨hgo, fun H3 => Tn H1 R1 H3 ((Dl, RC.l (outs (i + 1) out)) :: R1) ∧ Holds H3 ((Dl, RC.l (outs (i + 1) out)) :: R1), fun H3 z => ⟨m - (i + 1), by omega, by omega, rfl, z⟩, fun x H3 hx => ?_⟩
    obtain ⟨t3, hH3, r3, _⟩ := hy x H3 hx
    refine go H1 _ H3 x (t2.trans t3) (eW.tn t3) hH3 r3 _ fun g4 R4 σ4 H4 ⟨eR, k4⟩ t4 hH4 e4 z4 l4 => ⟨wipe_eq z4 l4, ?_⟩
    subst eR
    refine k4 σ4 H4 ((t2.trans t3).trans t4) e4 hH4 _ fun b R5 H5 ⟨eR5, k5, k6⟩ t5 hH5 => ?_
    subst eR5
    have t25 := ((t2.trans t3).trans t4).trans t5
    cases b with
    | false =>
      refine iteF ?_
      rw [outs_succ_none (k6 rfl)]
      exact ⟨t25, hH5⟩
    | true =>
      refine iteT (k5 rfl σ4 H5 t25 (e4.tn t5) hH5 _ fun d' R6 v6 H6 ⟨eR6, eo⟩ t6 hH6 r6 => ?_)
      subst eR6
      obtain ⟨acc, g1, g2⟩ := hH6.at_ _ List.mem_cons_self
      refine ⟨acc, g1, by rw [g2.len]; exact Evl.sz_lt (by have := outs_len i out; omega), ?_⟩
      rw [outs_succ_some eo]
      obtain ⟨m1, m2⟩ := hH6.set (n := 0) rfl (c' := .l (outs i out ++ [d'])) (.lst (acc ++ [v6])) fun N eN mono => ⟨_, upd_same, by
        rw [← eN] at g2 r6
        exact rpl_up mono (g2.app (RpL.cons r6 RpL.nil))⟩
      exact ⟨(t25.trans t6).trans m2, m1⟩
/-- a new list that is to change no more -/
theorem em_thaw (h : EM H0 R0 te g R fun d R' => ∃ a ds R2, d = .v (.ref a) ∧ R' = (a, .l ds) :: R2 ∧ F (.l ds) R2) : EM H0 R0 te g R F := fun σ H t e hH Q q =>
  h σ H t e hH Q fun d R' v H' ⟨a, ds, R2, e1, e2, k⟩ t1 hH1 r1 => by
    subst e1 e2
    obtain ⟨k1, k2, k3⟩ := thaw hH1
    rw [rp_v.mp r1]
    exact q _ R2 _ _ k (t1.trans k1) k2 k3
theorem em_lc {wi : TI} {tg : TG} {tt : TT} {vs : List Nat} (h : EI H0 R0 wi g R fun n e R1 => ∃ (m : Nat) (out : Nat → Option D), m ≤ 100000 ∧ (∀ Rx, (∀ c ∈ R1, c ∈ Rx) → e m Rx) ∧
    (∀ i, i < m → ∀ Rx, (∀ c ∈ R1, c ∈ Rx) → ∃ d, n i Rx d ∧ ∀ H1, GX H1 R1 tg vs d (wipeE g vs) Rx fun g2 R2 => R2 = Rx ∧ ET H1 R1 tt g2 Rx fun b R3 => R3 = Rx ∧ (b = true → EM H1 R1 te g2 Rx fun d' R4 => R4 = Rx ∧ out i = some d') ∧ (b = false → out i = none)) ∧
    F (.l (outs m out)) R1) : EM H0 R0 (tLc wi tg tt te vs) g R F := em_thaw (em_lcC (by
  intro σ H t e hH Q q
  refine h σ H t e hH Q fun J n en R' H' hh di t1 hH1 => q J n en R' H' ?_ di t1 hH1
  obtain ⟨m, out, a1, a2, a3, a4⟩ := hh
  exact ⟨m, out, a1, a2, a3, fun p => ⟨p, _, _, rfl, rfl, a4⟩⟩))
/-- over a list that is data, by a function of its items -/
theorem outs_take {ds : List D} (f : D → Option D) : ∀ k, k ≤ ds.length → outs k (fun i => (ds[i]?).bind f) = (ds.take k).filterMap f
  | 0, _ => rfl
  | k + 1, h => by
    have hk : k < ds.length := by omega
    have ih := outs_take (ds := ds) f k (Nat.le_of_lt hk)
    rw [List.take_succ, List.filterMap_append, ← ih]
    cases c : (ds[k]?).bind f with
    | none =>
      rw [outs_succ_none (by exact c)]
      rw [List.getElem?_eq_getElem hk] at c ⊢
      have c' : f ds[k] = none := c
      simp [c']
    | some d =>
      rw [outs_succ_some (by exact c)]
      rw [List.getElem?_eq_getElem hk] at c ⊢
      have c' : f ds[k] = some d := c
      simp [c']
theorem outs_list {ds : List D} (f : D → Option D) : outs ds.length (fun i => (ds[i]?).bind f) = ds.filterMap f := by
  rw [outs_take f _ (Nat.le_refl _), List.take_length]
/-! #### calls -/
theorem em_call {sp : Sp} {Ex : XK} (h : EA H0 R0 tr g R fun ds R1 => RS H0 R0 sp Ex ds R1 F) : EM H0 R0 (tCall sp [] Ex tr) g R F := fun σ H t e hH Q q =>
  h σ H t e hH _ fun ds R1 vs H1 k1 t1 hH1 r1 => by
    rw [List.append_nil]
    exact k1 H1 vs (t.trans t1) hH1 r1 Q fun d R' v H' k t2 hH2 r2 => q d R' v H' k (t1.trans t2) hH2 r2
theorem em_meth {sp : Sp} {Ex : XK} {m : Str} (h : EM H0 R0 ta g R fun d R1 => ∃ a fs, d = .v (.ref a) ∧ (a, RC.i C fs) ∈ R1 ∧ lkF fs m = none ∧ EA H0 R0 tr g R1 fun ds R2 => RS H0 R0 sp Ex (.v (.ref a) :: ds) R2 F) : EM H0 R0 (tMeth C m sp [] Ex ta tr) g R F := fun σ H t e hH Q q =>
  h σ H t e hH _ fun d R1 v H1 ⟨a, fs, e1, m1, lk, k1⟩ t1 hH1 r1 => by
    rw [e1] at r1
    obtain ⟨dx, vs, h1, h2⟩ := hH1.at_ _ m1
    refine ⟨a, dx, vs, rp_v.mp r1, h1, h2.lkFn lk, k1 σ H1 (t.trans t1) (e.tn t1) hH1 _ fun ds R2 ws H2 k2 t2 hH2 r2 => ?_⟩
    rw [List.append_nil, rp_v.mp r1]
    exact k2 H2 _ (t.trans (t1.trans t2)) hH2 (RpL.cons rpv r2) Q fun d R' v H' k t3 hH3 r3 => q d R' v H' k ((t1.trans t2).trans t3) hH3 r3
theorem em_make {sp : Sp} {Ex : XK} (h : EA H0 R0 tr g R fun ds R1 => ∀ p, RS H0 R0 sp Ex (.v (.ref p) :: ds) ((p, RC.i C []) :: R1) fun d R2 => d = .v .non ∧ F (.v (.ref p)) R2) : EM H0 R0 (tMake C sp [] Ex tr) g R F := fun σ H t e hH Q q =>
  h σ H t e hH _ fun ds R1 vs H1 k1 t1 hH1 r1 => by
    intro p dx hp hdx ne
    rw [List.append_nil]
    have hN := hH1.ex (ex_new (o := .own p) hdx)
    have hp' : upd H1 dx (.own p) p = none := by rw [upd_ne ne.symm]; exact hp
    obtain ⟨n1, n2⟩ := hN.new (c := .i C []) (o := .ins C dx []) hp' ⟨dx, [], upd_same, RpK.nil⟩
    have t2 := (Tn.ex (R := R1) (ex_new (o := HO.own p) hdx)).trans n2
    exact k1 p _ _ (t.trans (t1.trans t2)) n1 (RpL.cons rpv (r1.tn t2)) _ fun d R' v H' ⟨ed, k⟩ t3 hH3 r3 => ⟨by rw [ed] at r3; exact rp_v.mp r3, q _ R' _ H' k ((t1.trans t2).trans t3) hH3 rpv⟩
/-- a promise by data and region: nothing is raised -/
def spM (G : List D → Rg → (D → Rg → Prop) → Prop) : Sp := fun vs H Q _ => ∃ ds R F, G ds R F ∧ Holds H R ∧ RpL H (Out R) ds vs ∧ ∀ d R' v H', F d R' → Tn H R H' R' → Holds H' R' → Rp H' (Out R') d v → Q v H'
theorem rs_M {G : List D → Rg → (D → Rg → Prop) → Prop} {Ex : XK} {R1 : Rg} (p : R.Perm R1) (h : G ds R1 F) : RS H0 R0 (spM G) Ex ds R F := fun H xs t hH r Q q =>
  ⟨ds, R1, F, h, hH.perm p, r.tn (Tn.of_perm p), fun d R' v H' k t1 hH1 r1 => q d R' v H' k ((Tn.of_perm p).trans t1) hH1 r1⟩
theorem rs_m {G : List D → Rg → (D → Rg → Prop) → Prop} {Ex : XK} (h : G ds R F) : RS H0 R0 (spM G) Ex ds R F := rs_M (List.Perm.refl _) h
/-- .. Full may be raised, with a lot -/
def spX (CF : Addr) (G : List D → Rg → (D → Rg → Prop) → (D → Rg → Prop) → Prop) : Sp := fun vs H Q Ex => ∃ ds R F W, G ds R F W ∧ Holds H R ∧ RpL H (Out R) ds vs ∧ (∀ d R' v H', F d R' → Tn H R H' R' → Holds H' R' → Rp H' (Out R') d v → Q v H') ∧
  ∀ d R' H' dd x, W d R' → Tn H R H' R' → Holds H' R' → H' dd = some (.xd [("lot", x)]) → Rp H' (Out R') d x → Ex (.ref CF) (some dd) H'
def XOk (H0 : Hp) (R0 : Rg) (CF : Addr) (Ex : XK) (W : D → Rg → Prop) : Prop := ∀ d R' H' dd x, W d R' → Tn H0 R0 H' R' → Holds H' R' → H' dd = some (.xd [("lot", x)]) → Rp H' (Out R') d x → Ex (.ref CF) (some dd) H'
theorem rs_X {CF : Addr} {G : List D → Rg → (D → Rg → Prop) → (D → Rg → Prop) → Prop} {W : D → Rg → Prop} {Ex : XK} {R1 : Rg} (p : R.Perm R1) (h : G ds R1 F W) (hx : XOk H0 R0 CF Ex W) : RS H0 R0 (spX CF G) Ex ds R F := fun H xs t hH r Q q =>
  ⟨ds, R1, F, W, h, hH.perm p, r.tn (Tn.of_perm p), fun d R' v H' k t1 hH1 r1 => q d R' v H' k ((Tn.of_perm p).trans t1) hH1 r1, fun d R' H' dd x w t1 hH1 e1 r1 => hx d R' H' dd x w (t.trans ((Tn.of_perm p).trans t1)) hH1 e1 r1⟩
/-! #### what is left: methods of lists, slices, and their like -/
theorem sx_append {to : TE} (h : EM H0 R0 to g R fun d R1 => ∃ a ds, d = .v (.ref a) ∧ (a, RC.l ds) ∈ R1 ∧ ds.length < 100000 ∧ EM H0 R0 te g R1 fun d' R2 => ∃ nn, R2[nn]? = some (a, RC.l ds) ∧ E.nx g (R2.set nn (a, .l (ds ++ [d'])))) : SX H0 R0 (tDrop (tBM K "list" rAppend to (tCons te tNil))) g R E := fun σ H D t e hH k =>
  h σ H t e hH _ fun d R1 v H1 ⟨a, ds, e1, m, z, k1⟩ t1 hH1 r1 => by
    rw [e1] at r1
    obtain ⟨xs, h1, h2⟩ := hH1.at_ _ m
    rw [rp_v.mp r1]
    refine ⟨.inl ⟨rfl, xs, SqL.of h1⟩, k1 σ H1 (t.trans t1) (e.tn t1) hH1 _ fun d' R2 v2 H2 ⟨nn, m2, kk⟩ t2 hH2 r2 => ?_⟩
    obtain ⟨ys, g1, g2⟩ := hH2.at_ _ (List.mem_of_getElem? m2)
    obtain ⟨m3, m4⟩ := hH2.set m2 (c' := .l (ds ++ [d'])) (.lst (ys ++ [v2])) fun N eN mono => ⟨_, upd_same, by
        rw [← eN] at g2 r2
        exact rpl_up mono (g2.app (RpL.cons r2 RpL.nil))⟩
    exact ⟨a, ys, v2, rfl, rfl, g1, by rw [g2.len]; exact Evl.sz_lt z, k.nx g _ σ _ kk (t.trans ((t1.trans t2).trans m4)) m3 (e.tn ((t1.trans t2).trans m4))⟩
theorem em_pop {to : TE} (h : EM H0 R0 to g R fun d R1 => ∃ a ds d' nn, d = .v (.ref a) ∧ R1[nn]? = some (a, RC.l ds) ∧ ds[ds.length - 1]? = some d' ∧ F d' (R1.set nn (a, .l ds.dropLast))) : EM H0 R0 (tBM0 K "list" rPop to) g R F := fun σ H t e hH Q q =>
  h σ H t e hH _ fun d R1 v H1 ⟨a, ds, d', nn, e1, m, z, k1⟩ t1 hH1 r1 => by
    rw [e1] at r1
    obtain ⟨xs, h1, h2⟩ := hH1.at_ _ (List.mem_of_getElem? m)
    rw [rp_v.mp r1]
    obtain ⟨x', e2, r2⟩ := h2.get z
    obtain ⟨m3, m4⟩ := hH1.set m (c' := .l ds.dropLast) (.lst xs.dropLast) fun N eN mono => ⟨_, upd_same, by
        rw [← eN] at h2
        exact rpl_up mono h2.dropLast⟩
    exact ⟨.inl ⟨rfl, xs, SqL.of h1⟩, a, xs, x', rfl, rfl, h1, by rw [h2.len]; exact e2, q d' _ x' _ k1 (t1.trans m4) m3 (r2.tn m4)⟩
/-- o[i] = e, o a list that changes -/
theorem sx_setL {to ti : TE} (h : EM H0 R0 te g R fun d' R1 => EM H0 R0 to g R1 fun d R2 => EM H0 R0 ti g R2 fun d2 R3 => ∃ a ds n j nn, d = .v (.ref a) ∧ R3[nn]? = some (a, RC.l ds) ∧ d2 = .v (.int n) ∧ ixN ds.length n = some j ∧ E.nx g (R3.set nn (a, .l (ds.set j d')))) : SX H0 R0 (tAsg te (gSub to ti rSetL)) g R E := fun σ H D t e hH k =>
  h σ H t e hH _ fun d' R1 v1 H1 k1 t1 hH1 r1 => k1 σ H1 (t.trans t1) (e.tn t1) hH1 _ fun d R2 v2 H2 k2 t2 hH2 r2 => k2 σ H2 (t.trans (t1.trans t2)) (e.tn (t1.trans t2)) hH2 _ fun d2 R3 v3 H3 ⟨a, ds, n, j, nn, e1, m, e2, ix, kk⟩ t3 hH3 r3 => by
    have r2' := r2.tn t3
    have r1' := r1.tn (t2.trans t3)
    rw [e1] at r2'
    rw [e2] at r3
    obtain ⟨xs, h1, h2⟩ := hH3.at_ _ (List.mem_of_getElem? m)
    obtain ⟨m3, m4⟩ := hH3.set m (c' := .l (ds.set j d')) (.lst (xs.set j v1)) fun N eN mono => ⟨_, upd_same, by
        rw [← eN] at h2 r1'
        exact rpl_up mono (h2.set r1')⟩
    have t13 := (t1.trans t2).trans t3
    exact ⟨a, xs, n, j, rp_v.mp r2', rp_v.mp r3, h1, by rw [h2.len]; exact ix, k.nx g _ σ _ kk (t.trans (t13.trans m4)) m3 (e.tn (t13.trans m4))⟩
theorem eo_none {P : Option Int → Rg → Prop} (k : P none R) : EO H0 R0 tNoPart g R P := fun σ H t e hH Q q => q none R H k Tn.refl hH
theorem eo_some {P : Option Int → Rg → Prop} (h : EM H0 R0 te g R fun d R1 => ∃ n, d = .v (.int n) ∧ P (some n) R1) : EO H0 R0 (tPart te) g R P := fun σ H t e hH Q q =>
  h σ H t e hH _ fun d R1 v H1 ⟨n, e1, k⟩ t1 hH1 r1 => ⟨n, by rw [e1] at r1; exact rp_v.mp r1, q (some n) R1 H1 k t1 hH1⟩
def cutD (ds : List D) (lo hi : Option Int) : List D := (ds.drop (HT.sIx ds.length 0 lo)).take (HT.sIx ds.length ds.length hi - HT.sIx ds.length 0 lo)
theorem cut_rel {H : Hp} {N : Addr → Prop} {xs : List V} {lo hi : Option Int} (h : RpL H N ds xs) : RpL H N (cutD ds lo hi) (cutV xs lo hi) := by
  unfold cutD cutV
  rw [h.len]
  exact (h.drop _).take _
theorem em_slL {tl th : TO} (h : EM H0 R0 te g R fun d R1 => EO H0 R0 tl g R1 fun lo R2 => EO H0 R0 th g R2 fun hi R3 => ∃ ds, IsL R3 d ds ∧ F (.l (cutD ds lo hi)) R3) : EM H0 R0 (tSl (rSlL K) te tl th) g R F := fun σ H t e hH Q q =>
  h σ H t e hH _ fun d R1 v H1 k1 t1 hH1 r1 => k1 σ H1 (t.trans t1) (e.tn t1) hH1 _ fun lo R2 H2 k2 t2 hH2 => k2 σ H2 (t.trans (t1.trans t2)) (e.tn (t1.trans t2)) hH2 _ fun hi R3 H3 ⟨ds, hl, kk⟩ t3 hH3 => by
    obtain ⟨a, xs, e1, h1, h2⟩ := hl.get hH3 (r1.tn (t2.trans t3))
    have t13 := (t1.trans t2).trans t3
    refine ⟨a, xs, e1, SqL.of h1, fun p hp => ?_⟩
    obtain ⟨n1, n2, n3⟩ := new_l (t.trans t13) hH3 (cut_rel (lo := lo) (hi := hi) h2) hp
    exact q _ R3 _ _ kk (t13.trans n1) n2 n3
theorem em_revL (h : EM H0 R0 te g R fun d R1 => ∃ ds, IsL R1 d ds ∧ F (.l ds.reverse) R1) : EM H0 R0 (tRevL K te) g R F := fun σ H t e hH Q q =>
  h σ H t e hH _ fun d R1 v H1 ⟨ds, hl, kk⟩ t1 hH1 r1 => by
    obtain ⟨a, xs, e1, h1, h2⟩ := hl.get hH1 r1
    refine ⟨a, xs, e1, SqL.of h1, fun p hp => ?_⟩
    obtain ⟨n1, n2, n3⟩ := new_l (t.trans t1) hH1 h2.rev hp
    exact q _ R1 _ _ kk (t1.trans n1) n2 n3
end
end Rc
-- S
set_option Elab.async false
set_option linter.all false
set_option maxRecDepth 100000
set_option maxHeartbeats 4000000
/-! RcS: sorted by a lambda's keys, sorted of a dict, list of a dict's values, enumerate of a tuple. -/
namespace Rc
open PySem PySem.Spec PyProof.Rows L2
/-- a permutation of what a map gives is a map of a permutation -/
theorem perm_idx {α β : Type} {f : α → β} {l m : List β} (h : l.Perm m) : ∀ is0 : List α, m = is0.map f → ∃ is : List α, is.Perm is0 ∧ l = is.map f := by
  induction h with
  | nil => intro is0 e; exact ⟨is0, List.Perm.refl _, e⟩
  | cons x _ ih =>
    intro is0 e
    cases is0 with
    | nil => cases e
    | cons i r =>
      obtain ⟨e1, e2⟩ := List.cons.inj e
      obtain ⟨is, p, e3⟩ := ih r e2
      exact ⟨i :: is, p.cons i, by rw [e1, e3]; rfl⟩
  | swap x y l =>
    intro is0 e
    cases is0 with
    | nil => cases e
    | cons i r =>
      obtain ⟨e1, e2⟩ := List.cons.inj e
      cases r with
      | nil => cases e2
      | cons j r2 =>
        obtain ⟨e3, e4⟩ := List.cons.inj e2
        exact ⟨j :: i :: r2, List.Perm.swap i j r2, by rw [e1, e3, e4]; rfl⟩
  | trans _ _ ih1 ih2 =>
    intro is0 e
    obtain ⟨is2, p2, e2⟩ := ih2 is0 e
    obtain ⟨is1, p1, e1⟩ := ih1 is2 e2
    exact ⟨is1, p1.trans p2, e1⟩
theorem zip_range (ks vs : List Value) (h : ks.length = vs.length) : ks.zip vs = (List.range vs.length).map fun i => (ks.getD i Value.none, vs.getD i Value.none) := by
  refine List.ext_getElem (by simp [h]) fun i h1 h2 => ?_
  have hi : i < vs.length := by simpa using h2
  simp [List.getD_eq_getElem?_getD, List.getElem?_eq_getElem (show i < ks.length by omega), List.getElem?_eq_getElem hi]
section
variable {X : Cx} {pins : List (Addr × Obj)} {σ : L2.St} {E : Value → Shared → Prop} {A' : Around}
theorem reFp {H H' : Hp} {b : Addr} (f : FpOk X pins H b) (h : H' b = none) : FpOk X pins H' b := ⟨h, f.2⟩
theorem Inv.upd_own {H : Hp} {s : Shared} {b : Addr} {f : Obj → Obj} (I : Inv X pins σ H s) (fp : FpOk X pins H b) : Inv X pins σ H { s with heap := s.heap.update b f } :=
  I.turned (t' := s.toks) (fun c o hc e => by rw [Heap.get?_update_ne _ _ _ _ hc]; exact e) fp.1 fp.2.1 fp.2.2.2.1 fp.2.2.2.2.1 fp.2.2.2.2.2
/-- the sort by keys: P tells of the keys so far -/
theorem key_sort {a : Addr} {n : Nat} {vs : List Value} {f : Value} {P : Nat → List V → Hp → Prop} {lti : Nat → Nat → Bool} {R : PySem.Fin → Shared → Prop} {H : Hp} {s : Shared}
    (I : Inv X pins σ H s) (ho : s.heap.get? a = some (seqObj "list" vs.toArray n)) (fa : FpOk X pins H a) (hz : vs.length < 64) (p0 : P 0 [] H)
    (turn : ∀ (i : Nat) (v : Value) (ys : List V) (s' : Shared) (H' : Hp), vs[i]? = some v → Inv X pins σ H' s' → P i ys H' → ys.length = i → wpAny (model X.prog X.w) A' (call f [v]) (fun k s'' => ∃ (H'' : Hp) (y : V), Inv X pins σ H'' s'' ∧ RelV y k ∧ P (i + 1) (ys ++ [y]) H'' ∧ ∀ b o, s'.heap.get? b = some o → FpOk X pins H' b → s''.heap.get? b = some o ∧ H'' b = none) (fun _ _ => False) s')
    (hS : ∀ (s' : Shared) (H' : Hp) (ys : List V) (ks : List Value) (e : Nat), Inv X pins σ H' s' → P vs.length ys H' → Vals ys ks → ks.length = vs.length → s'.heap.get? a = some (seqObj "list" #[] e) → ∃ ltv : Value → Value → Bool, SrtO.Swo ltv ∧ (2 ≤ vs.length → SrtO.SortableO X.prog X.w A' s' a ks ltv) ∧ ∀ i j, i < vs.length → j < vs.length → ltv (ks.getD i Value.none) (ks.getD j Value.none) = lti i j)
    (h : ∀ (s' : Shared) (H' : Hp) (ys : List V) (ks : List Value) (is : List Nat) (n' : Nat), Inv X pins σ H' s' → P vs.length ys H' → Vals ys ks → ks.length = vs.length → is.Perm (List.range vs.length) → is.Pairwise (fun i j => lti j i = false) →
      s'.heap.get? a = some (seqObj "list" (is.map fun i => vs.getD i Value.none).toArray n') → H' a = none → R (.done (.ret .none)) s') :
    wpAny (model X.prog X.w) A' (ksk_tree a f false) R E s := by
  have ha : a < s.heap.objs.size := Heap.lt_size ho
  obtain ⟨e1, ho1⟩ : ∃ e1, (s.heap.update a (Obj.mapSeq fun _ => (#[] : Array Value))).get? a = some (seqObj "list" #[] e1) := ⟨_, get?_update_seq ho fun _ => #[]⟩
  have I1 : Inv X pins σ H { s with heap := s.heap.update a (Obj.mapSeq fun _ => (#[] : Array Value)) } := Inv.upd_own I fa
  have I2 : Inv X pins σ H { s with heap := (s.heap.update a (Obj.mapSeq fun _ => (#[] : Array Value))).push (seqObj "tuple" vs.toArray 0) } := I1.kept (t' := s.toks) fun b o e => Heap.get?_push_of_some _ e
  have I3 : Inv X pins σ H { s with heap := ((s.heap.update a (Obj.mapSeq fun _ => (#[] : Array Value))).push (seqObj "tuple" vs.toArray 0)).push (seqObj "list" #[] 0) } := I2.kept (t' := s.toks) fun b o e => Heap.get?_push_of_some _ e
  have fk := I2.fpOk (b := ((s.heap.update a (Obj.mapSeq fun _ => (#[] : Array Value))).push (seqObj "tuple" vs.toArray 0)).objs.size) (Nat.le_refl _) (I2.hok.fresh (Nat.le_refl _))
  have hkn : ((s.heap.update a (Obj.mapSeq fun _ => (#[] : Array Value))).push (seqObj "tuple" vs.toArray 0)).objs.size ≠ a := by
    rw [size_push', Heap.size_update]
    exact Nat.ne_of_gt (Nat.lt_succ_of_lt ha)
  unfold ksk_tree
  refine wpAny_bind (listItems_at ho rfl ?_)
  refine wpAny_bind (listUpdate_at ho rfl ?_ (by rw [List.size_toArray, sizeLine_eq]; omega) (Nat.zero_le _))
  refine wpAny_bind (seqEpoch_at ho1 rfl ?_)
  refine wpAny_bind (wpAny_newTuple ?_ (by show vs.length ≤ _; rw [sizeLine_eq]; omega))
  refine wpAny_bind (wpAny_newList ?_ (Nat.zero_le _))
  refine wpAny_holding ?_
  have hk3 : (((s.heap.update a (Obj.mapSeq fun _ => (#[] : Array Value))).push (seqObj "tuple" vs.toArray 0)).push (seqObj "list" #[] 0)).get? ((s.heap.update a (Obj.mapSeq fun _ => (#[] : Array Value))).push (seqObj "tuple" vs.toArray 0)).objs.size = some (seqObj "list" #[] 0) := Heap.get?_push_size _ rfl
  have ha3 : (((s.heap.update a (Obj.mapSeq fun _ => (#[] : Array Value))).push (seqObj "tuple" vs.toArray 0)).push (seqObj "list" #[] 0)).get? a = some (seqObj "list" #[] e1) := Heap.get?_push_of_some _ (Heap.get?_push_of_some _ ho1)
  show wpAny _ _ (ksk_rest a f false vs.toArray e1 (.ref ((s.heap.update a (Obj.mapSeq fun _ => (#[] : Array Value))).push (seqObj "tuple" vs.toArray 0)).objs.size)) R E { s with heap := ((s.heap.update a (Obj.mapSeq fun _ => (#[] : Array Value))).push (seqObj "tuple" vs.toArray 0)).push (seqObj "list" #[] 0) }
  generalize ((s.heap.update a (Obj.mapSeq fun _ => (#[] : Array Value))).push (seqObj "tuple" vs.toArray 0)).objs.size = kS at *
  generalize ((s.heap.update a (Obj.mapSeq fun _ => (#[] : Array Value))).push (seqObj "tuple" vs.toArray 0)).push (seqObj "list" #[] 0) = h3 at *
  unfold ksk_rest
  refine wpAny_bind (wpAny_rule ?_)
  first
    | rw [List.forIn_toArray]
    | (rw [← Array.forIn_toList]; simp only [List.toList_toArray])
  refine wpAny_bind (ksk_fold (fun i s' => ∃ (H' : Hp) (ys : List V) (kA : Array Value) (e : Nat), Inv X pins σ H' s' ∧ P i ys H' ∧ Vals ys kA.toList ∧ ys.length = i ∧ H' a = none ∧ H' kS = none ∧ s'.heap.get? a = some (seqObj "list" #[] e1) ∧ s'.heap.get? kS = some (seqObj "list" kA e)) vs 0 _
    ⟨H, [], #[], 0, I3, p0, .nil, rfl, fa.1, fk.1, ha3, hk3⟩ ?step ?done)
  case step =>
    rintro j x s' hx ⟨H', ys, kA, e, J, hP, rv, hl, na, nk, qa, qk⟩
    simp only [Nat.zero_add] at hP hl ⊢
    have hj : j < vs.length := (List.getElem?_eq_some_iff.mp hx).1
    refine wpAny_bind (wpAny_attempt (wpAny_mono (turn j x ys s' H' hx J hP hl) (fun v s'' he => ?_) fun _ _ hF => hF.elim))
    obtain ⟨H2, y, J2, ry, hP2, kp⟩ := he
    obtain ⟨qa2, na2⟩ := kp a _ qa (reFp fa na)
    obtain ⟨qk2, nk2⟩ := kp kS _ qk (reFp fk nk)
    have hsz : kA.size = j := by
      have e1 := rv.length
      have e2 : kA.toList.length = kA.size := Array.length_toList
      omega
    try dsimp only
    obtain ⟨c2, hc2⟩ : ∃ c2, (s''.heap.update kS (Obj.mapSeq (·.push v))).get? kS = some (seqObj "list" (kA.push v) c2) := ⟨_, get?_update_seq qk2 (·.push v)⟩
    refine wpAny_bind (listUpdate_at qk2 rfl ?_ (by rw [sizeLine_eq]; omega) (Nat.le_trans (Nat.le_of_eq (Array.size_push ..)) (by rw [sizeLine_eq]; omega)))
    have ek : (kA.push v).toList = kA.toList ++ [v] := by simp
    refine wpAny_pure ⟨rfl, H2, ys ++ [y], kA.push v, c2, Inv.upd_own J2 (reFp fk nk2), hP2, by rw [ek]; exact rv.append (.cons ry .nil), by simp [hl], na2, nk2, ?_, hc2⟩
    show (s''.heap.update kS (Obj.mapSeq (·.push v))).get? a = _
    rw [Heap.get?_update_ne _ _ _ _ hkn.symm]
    exact qa2
  case done =>
    rintro s' ⟨H', ys, kA, e, J, hP, rv, hl, na, nk, qa, qk⟩
    have hP' : P vs.length ys H' := by
      have e0 : 0 + vs.length = vs.length := Nat.zero_add _
      rw [e0] at hP
      exact hP
    have hlen : kA.toList.length = vs.length := by
      have e2 := rv.length
      rw [← e2]
      omega
    have hsz : kA.size = vs.length := by rw [← hlen, Array.length_toList]
    try dsimp only
    refine wpAny_bind (listItems_at qk rfl ?_)
    obtain ⟨ltv, O, hS2, hlt⟩ := hS s' H' ys kA.toList e1 J hP' rv hlen qa
    have fin : ∀ st' : SortSt, SrtO.Srtd (SrtO.lt2 ltv) (arrOf st').toList → (arrOf st').toList.Perm (kA.zip vs.toArray).toList → failedOf st' = none → wpAny (model X.prog X.w) A' (ksk_tail a false e1 (.ref kS) st') R E s' := by
      intro st' hs hp hf
      have ez : (kA.zip vs.toArray).toList = kA.toList.zip vs := by rw [Array.toList_zip]
      rw [ez, zip_range _ _ hlen] at hp
      obtain ⟨is, ip, ie⟩ := perm_idx hp _ rfl
      have hout : (arrOf st').map (·.2) = (is.map fun i => vs.getD i Value.none).toArray := by
        apply Array.ext'
        rw [Array.toList_map, ie, List.map_map]
        rfl
      have hord : is.Pairwise (fun i j => lti j i = false) := by
        rw [ie] at hs
        refine (List.Pairwise.and_mem.mp (List.pairwise_map.mp hs)).imp fun {i j} ⟨hi, hj, z⟩ => ?_
        rw [← hlt j i (List.mem_range.mp (ip.mem_iff.mp hj)) (List.mem_range.mp (ip.mem_iff.mp hi))]
        exact z
      have J1 : Inv X pins σ H' { s' with heap := s'.heap.update kS (Obj.mapSeq fun _ => (#[] : Array Value)) } := Inv.upd_own J (reFp fk nk)
      have qa1 : (s'.heap.update kS (Obj.mapSeq fun _ => (#[] : Array Value))).get? a = some (seqObj "list" #[] e1) := by rw [Heap.get?_update_ne _ _ _ _ hkn.symm]; exact qa
      unfold ksk_tail
      try dsimp only
      refine wpAny_bind (listUpdate_at qk rfl ?_ (by rw [hsz, sizeLine_eq]; omega) (Nat.zero_le _))
      refine wpAny_bind (wpAny_letGo ?_)
      refine wpAny_bind (seqEpoch_at qa1 rfl ?_)
      have hsz2 : ((arrOf st').map (·.2)).size = vs.length := by
        rw [hout, List.size_toArray, List.length_map, ip.length_eq, List.length_range]
      obtain ⟨c2, hc2⟩ : ∃ c2, ((s'.heap.update kS (Obj.mapSeq fun _ => (#[] : Array Value))).update a (Obj.mapSeq fun _ => (arrOf st').map (·.2))).get? a = some (seqObj "list" ((arrOf st').map (·.2)) c2) := ⟨_, get?_update_seq qa1 fun _ => (arrOf st').map (·.2)⟩
      refine wpAny_bind (listUpdate_at qa1 rfl ?_ (Nat.zero_le _) (by rw [if_neg Bool.false_ne_true, hsz2, sizeLine_eq]; omega))
      rw [hf]
      simp only [bne_self_eq_false, Bool.false_eq_true, if_false]
      refine wpAny_pure (h _ H' ys kA.toList is c2 (Inv.upd_own J1 (reFp fa na)) hP' rv hlen ip hord ?_ na)
      rw [← hout]
      exact hc2
    unfold ksk_end
    try dsimp only
    rw [if_neg Bool.false_ne_true]
    by_cases h2 : vs.toArray.size < 2
    · rw [if_pos h2, if_pos h2]
      refine wpAny_bind (wpAny_pure ?_)
      rw [StateT.run_pure]
      refine wpAny_bind (wpAny_pure ?_)
      try dsimp only
      rw [if_neg Bool.false_ne_true]
      refine fin (SortSt.mk' general' (kA.zip vs.toArray) #[] 7 none) ?_ (List.Perm.refl _) rfl
      show SrtO.Srtd (SrtO.lt2 ltv) (kA.zip vs.toArray).toList
      have hl2 : (kA.zip vs.toArray).toList.length < 2 := by
        rw [Array.length_toList, Array.size_zip, hsz, List.size_toArray, Nat.min_self]
        simpa using h2
      match (kA.zip vs.toArray).toList, hl2 with
      | [], _ => exact List.Pairwise.nil
      | [v], _ => exact List.pairwise_singleton _ _
      | _ :: _ :: l, h => exact absurd h (by rw [List.length_cons, List.length_cons]; omega)
    · rw [if_neg h2, if_neg h2]
      rw [List.size_toArray] at h2
      obtain ⟨κ, hkind, hT⟩ := hS2 (by omega) s'.heap fun b o _ q => q
      have eK : kA = kA.toList.toArray := by simp
      have hk' := hkind
      rw [← eK] at hk'
      refine wpAny_bind (hk' _ _ ?_)
      rw [if_neg Bool.false_ne_true]
      have hall : SrtO.AllL (fun p : Keyed => p.1 ∈ kA.toList) (kA.zip vs.toArray).toList := fun p hm => by
        rw [Array.toList_zip] at hm
        exact (List.of_mem_zip hm).1
      refine wpAny_bind (wpAny_mono (SrtO.wpS_sortO (st0 := SortSt.mk' κ (kA.zip vs.toArray) #[] 7 none)
        (Q := fun _ st' => SrtO.Srtd (SrtO.lt2 ltv) (arrOf st').toList ∧ (arrOf st').toList.Perm (kA.zip vs.toArray).toList ∧ failedOf st' = none) (SrtO.swo2 O) hT rfl hall rfl rfl fun st' a1 a2 a3 => ⟨a1, a2.perm, a3⟩) ?_ fun _ _ e => e)
      rintro ⟨⟨⟩, st'⟩ s2 ⟨rfl, b1, b2, b3⟩
      try dsimp only
      exact fin st' b1 b2 b3
end
end Rc
-- S2
set_option Elab.async false
set_option linter.all false
set_option maxRecDepth 100000
set_option maxHeartbeats 4000000
namespace Rc
open PySem PySem.Spec PyProof.Rows L2
/-! ### the view of a dict's values -/
def viewV (v d : Addr) : HO := .ext fun h => h.IsValuesView v d
theorem viewV_ok {P : Program} {w : World} {H : Hp} {h : Heap} {v d : Addr} (x : h.IsValuesView v d) : ObjOk P w H h v (viewV v d) :=
  ⟨x, (let ⟨o, ho, _⟩ := x; ⟨o, ho⟩), fun h1 h2 ⟨o, ho, hc, hd⟩ st => ⟨o, st o ho, hc, hd⟩⟩
theorem viewV_at {P : Program} {w : World} {H : Hp} {h : Heap} {v d : Addr} (ok : HOk P w H h) (e : H v = some (viewV v d)) : h.IsValuesView v d := by
  have x : ObjOk P w H h v (.ext fun h => h.IsValuesView v d) := ok v _ e
  exact x.1
def tVals (te : TE) : TE := fun σ H Q => te σ H fun x H1 => ∃ d kvs, x = .ref d ∧ Rd H1 d (.dK kvs) ∧ ∀ p, H1 p = none → Q (.ref p) (upd H1 p (viewV p d))
theorem pe_vals {X : Cx} {e : Expr} {te : TE} {apos cpos : Pos} (he : PE X e te) (hbase : attributeBase e "values" X.env (eval e X.env) = eval e X.env := by rfl) (hline : (apos.endLine == cpos.line) = true := by rfl) :
    PE X (.Call (.Attribute e "values" apos) [] [] cpos) (tVals te) := by
  refine ⟨fun pins s σ H Q I h => ?_⟩
  refine wpAny_Call_method (T := "dict") (id := "dict.values") hbase rfl hline PySem.F.plainAttrs_dict PySem.F.slot_dict_values PySem.F.type_dict_values (thn (he.run pins s σ H _ I h) fun u s1 ⟨x, H1, I1, rx, d, kvs, ex, hd, q⟩ => ?_)
  subst ex
  obtain rfl : u = Value.ref d := rx
  obtain ⟨z, hs, vs, kv, hm⟩ := dk_rd I1.hok hd
  obtain ⟨ep, hat⟩ := hm.dictAt
  refine ⟨hm.typeIs, hm.mapOf.noDict, ?_⟩
  have hv : (s1.heap.push { cls := .type "dict_values", data := .fields #[.ref d] }).IsValuesView s1.heap.objs.size d := ⟨_, Heap.get?_push_size _ rfl, rfl, rfl⟩
  have I2 : Inv X pins σ (upd H1 s1.heap.objs.size (viewV s1.heap.objs.size d)) { s1 with heap := s1.heap.push { cls := .type "dict_values", data := .fields #[.ref d] } } :=
    I1.laid (t' := s1.toks) (fun b ob q => Heap.get?_push_of_some _ q) (Nat.le_refl _) (viewV_ok hv)
  have fin : EP X pins σ Q (.ref s1.heap.objs.size) { s1 with heap := s1.heap.push { cls := .type "dict_values", data := .fields #[.ref d] } } := ⟨.ref _, _, I2, rfl, q _ (I1.hok.fresh (Nat.le_refl _))⟩
  show wpAny _ _ (callWith cpos (.builtin "dict.values") [.ref d] [] []) _ X.xe s1
  exact method_meetsIn PySem.F.slot_dict_values PySem.F.entry_dict_values rfl (PySem.evalArgs_none ⟨rfl, hm.typeIs, PySem.F.args_dict_values_1 _, _, meets_dict_values (mixKind X.prog X.w) d hs, ⟨vs, hm⟩, fin⟩)
/-! ### what can be collected -/
def CollV (K : PySem.W.Frag) (x : V) (H : Hp) (xs : List V) : Prop :=
  (∃ a, x = .ref a ∧ SqL K H a xs) ∨ (∃ v d kvs, x = .ref v ∧ H v = some (viewV v d) ∧ Rd H d (.dK kvs) ∧ xs = kvs.map (·.2)) ∨ ∃ d kvs, x = .ref d ∧ Rd H d (.dK kvs) ∧ xs = kvs.map fun p => kV p.1
theorem kv_vals : ∀ {kvs : List (Key × V)} {vs : List (Key × Value)}, KV kvs vs → Vals (kvs.map (·.2)) (vs.map (·.2))
  | _, _, .nil => .nil
  | _, _, .cons r t => .cons r.2 (kv_vals t)
theorem kv_keys : ∀ {kvs : List (Key × V)} {vs : List (Key × Value)}, KV kvs vs → vs.map (fun p => kV p.1) = kvs.map (fun p => kV p.1)
  | _, _, .nil => rfl
  | _, _, .cons r t => by rw [List.map_cons, List.map_cons, kv_keys t, r.1]
theorem of_items {α : Type} {f : α → Value} : ∀ {vs : List Value} {ks : List α}, vs.length = ks.length → (∀ (j : Nat) (v : Value), vs[j]? = some v → ∃ k, ks[j]? = some k ∧ v = f k) → vs = ks.map f
  | [], [], _, _ => rfl
  | v :: vs, k :: ks, hl, h => by
    obtain ⟨k', e1, e2⟩ := h 0 v rfl
    cases e1
    have ih := of_items (f := f) (vs := vs) (ks := ks) (by simpa using hl) fun j u hu => by simpa using h (j + 1) u (by simpa using hu)
    rw [List.map_cons, e2, ← ih]
  | [], _ :: _, hl, _ => by simp at hl
  | _ :: _, [], hl, _ => by simp at hl
theorem coll_run {X : Cx} {pins : List (Addr × Obj)} {σ : L2.St} {A : Around} {E : Value → Shared → Prop} {H : Hp} {s : Shared} {x : V} {u : Value} {xs : List V} {R : List Value → Shared → Prop} (hh : A.handled = none) (I : Inv X pins σ H s) (rx : RelV x u) (c : CollV X.K x H xs) (hz : xs.length < 64)
    (h : ∀ vs s', Inv X pins σ H s' → Vals xs vs → R vs s') : wpAny (model X.prog X.w) A (collect u) R E s := by
  rcases c with ⟨a, ex, hs⟩ | ⟨v, d, kvs, ex, hv, hd, exs⟩ | ⟨d, kvs, ex, hd, exs⟩
  · subst ex
    obtain rfl : u = Value.ref a := rx
    obtain ⟨its, rv, hl, hz'⟩ := I.list hs
    refine collect_list hl.isList (h its _ (I.kept (t' := s.toks) fun b o e => ?_) rv) (by rw [← rv.length]; exact hz')
    have hlt : b < s.heap.objs.size := Heap.lt_size e
    rw [Heap.get?_update_ne _ _ _ _ (Nat.ne_of_lt hlt)]
    exact Heap.get?_push_of_some _ e
  · subst ex exs
    obtain rfl : u = Value.ref v := rx
    obtain ⟨z, lo, vs, rel, dd⟩ := dk_rd I.hok hd
    obtain ⟨ep, hat⟩ := dd.dictAt
    have hl : vs.length = kvs.length := (Paired.length rel).symm
    refine PySem.W.kdu_collect (PySem.W.kdl_values (knd := mixKind X.prog X.w) (kvs := vs) (ep := ep)) hh ⟨viewV_at I.hok hv, hat⟩ (by rw [hl]; exact z) fun h' tk acc hk hacc => ?_
    have ea : acc.toList = vs.map (·.2) := by
      refine of_items (f := fun p : Key × Value => p.2) (by rw [Array.length_toList]; exact hacc.1) fun j v e => ?_
      obtain ⟨k, e1⟩ := hacc.2 j v (by rw [← Array.getElem?_toList]; exact e)
      exact ⟨(k, v), e1, rfl⟩
    rw [ea]
    exact h _ _ (I.kept hk) (kv_vals rel)
  · subst ex exs
    obtain rfl : u = Value.ref d := rx
    obtain ⟨z, lo, vs, rel, dd⟩ := dk_rd I.hok hd
    obtain ⟨ep, hat⟩ := dd.dictAt
    have hl : vs.length = kvs.length := (Paired.length rel).symm
    refine PySem.W.kdu_collect (PySem.W.kdl_dict (knd := mixKind X.prog X.w) (kvs := vs) (ep := ep) lo) hh hat (by rw [hl]; exact z) fun h' tk acc hk hacc => ?_
    have hv : Vals (vs.map fun p => kV p.1) acc.toList := keys_at (by rw [Array.length_toList]; exact hacc.1) fun j v e => by
      obtain ⟨k, x, e1, e2⟩ := hacc.2 j v (by rw [← Array.getElem?_toList]; exact e)
      exact ⟨k, x, e1, e2⟩
    rw [kv_keys rel] at hv
    exact h _ _ (I.kept hk) hv
/-! ### a lambda of one parameter, called -/
theorem lam_run {P : Program} {w : World} {K : PySem.W.Frag} {mg : Str → Option Value} {base : Heap} {f c' : Addr} {N ps : List Str} {q : Str} {params : Arguments} {body : Expr} {scope : Scope} {pm ctv : Value} {k : Nat} (S : FnScope N ps scope)
    {A : Around} {outer : List Env} {s : Shared} {H : Hp} {us : List Value} {vs : List V} {Q : VK} (hr : Room (k + 1) A) (e0 : Env0 P w K mg base A outer s H) (hf : s.heap.get? f = some (PySem.W.kla_obj "<lambda>" q params body scope [] pm c' ctv))
    (hc : ∃ (oc : Obj) (vs : Array Value) (t : Tok), s.heap.get? c' = some oc ∧ oc.data = .fields vs ∧ vs[1]? = some (.str q t)) (hb : bindArgs (PySem.W.kla_fn "<lambda>" q params body scope [] pm (.ref c') ctv) ⟨us, []⟩ = pure (ps.zip us)) (r : Vals vs us) (hl : vs.length = ps.length)
    (hbody : Room k (A.deeper (envOfC q scope s.heap.objs.size f (.ref c'))) → ∃ t, PE (cxOf CX0 P w K mg base N q scope f (.ref c') A outer s H E0) body t ∧ t (L2.start N vs) H Q) : codeAny (model P w) A (.call (.ref f) ⟨us, []⟩) (CR CX0 outer P w H s Q E0) s := by
  have lim : s.heap.NoLimit := e0.mod.nolimit.keeps fun b o e => (e0.bs b o e).1
  obtain ⟨oc, cv, t, hoc, hdc, hvc⟩ := hc
  have hkind : ∀ y ∈ ps.zip us, scope.names.lookup y.1 = some .local ∨ (scope.names.lookup y.1 = some .cell ∧ ((cellsFrom (s.heap.objs.size + 1) scope.names []).lookup y.1).isSome = true) := fun ⟨n, v⟩ hy => by
    rcases S.par n (List.of_mem_zip hy).1 with q | q
    · exact .inl q
    · exact .inr ⟨q, PySem.W.cellsFrom_some _ _ _ (.inl q)⟩
  refine PySem.W.kla_callFunE hr.depth hf rfl S.co S.gen rfl ⟨c', oc, cv, t, rfl, hoc, hdc, hvc⟩ ?_
  rw [hb]
  refine wpAny_pure (wpAny_newFunctionEnv_cells S.kind hkind fun env he s1 x => ?_)
  subst he
  refine ⟨lim.keeps x.toInCall.keep, PySem.W.kla_codeExpr ?_⟩
  obtain ⟨tb, ht, hq⟩ := hbody (hr.deeper _)
  have J : Inv (cxOf CX0 P w K mg base N q scope f (.ref c') A outer s H E0) [] (L2.start N vs) H s1 := inv_start S hr.hd e0 hl r x
  refine wpAny_mono (ht.run [] s1 (L2.start N vs) H Q J hq) (fun v s' hs => ?_) fun e s' hs => hs
  obtain ⟨w', H', J', rv, z⟩ := hs
  exact ⟨w', H', J'.os, J'.bare, J'.base, J'.hok, rv, z⟩
/-! ### keys -/
/-- a key of the kind b: an int, or a pair of ints -/
def KeyIs (b : Bool) (z : Int × Int) (y : V) (H : Hp) : Prop := match b with
  | false => y = .int z.1
  | true => ∃ t, y = .ref t ∧ H t = some (.tup [.int z.1, .int z.2])
def kLt (b : Bool) (z u : Int × Int) : Bool := match b with
  | false => decide (z.1 < u.1)
  | true => SrtO.lexB z u
def kOf (H : Hp) (v : Value) : Int × Int := match v with
  | .ref t => (match H t with
    | some (.tup [.int a, .int b]) => (a, b)
    | _ => (0, 0))
  | _ => (0, 0)
theorem keys_sortable {X : Cx} {pins : List (Addr × Obj)} {σ : L2.St} {A' : Around} {H : Hp} {s : Shared} {a : Addr} {b : Bool} {ys : List V} {ks : List Value} {n e : Nat} {kz : Nat → Int × Int} (I : Inv X pins σ H s) (hl : ks.length = n) (r : Vals ys ks) (hk : ∀ i y, ys[i]? = some y → KeyIs b (kz i) y H) (ha : s.heap.get? a = some (seqObj "list" #[] e)) :
    ∃ ltv : Value → Value → Bool, SrtO.Swo ltv ∧ (2 ≤ n → SrtO.SortableO X.prog X.w A' s a ks ltv) ∧ ∀ i j, i < n → j < n → ltv (ks.getD i Value.none) (ks.getD j Value.none) = kLt b (kz i) (kz j) := by
  have hy : ys.length = n := by rw [r.length]; exact hl
  cases b with
  | false =>
    have ey : ys = (List.range n).map fun i => V.int (kz i).1 := by
      refine List.ext_getElem? fun i => ?_
      by_cases hi : i < n
      · rw [List.getElem?_eq_getElem (by omega)]
        have e1 : ys[i]'(by omega) = V.int (kz i).1 := hk i _ (List.getElem?_eq_getElem (by omega))
        rw [e1]
        simp [hi]
      · rw [List.getElem?_eq_none (by omega), List.getElem?_eq_none (by simp; omega)]
    have hI : IntsAre ks ((List.range n).map fun i => (kz i).1) := by
      have r2 := r
      rw [ey] at r2
      have e2 : ((List.range n).map fun i => V.int (kz i).1) = ((List.range n).map fun i => (kz i).1).map V.int := by rw [List.map_map]; rfl
      rw [e2] at r2
      exact r2.ints
    refine ⟨SrtO.ltIv, SrtO.swo_int, fun h2 => SrtO.ints_sortable hI (by omega), fun i j hi hj => ?_⟩
    have at_ : ∀ i, i < n → ∃ t, ks.getD i Value.none = Value.int (kz i).1 t := fun i hi => by
      obtain ⟨u, e3, e4⟩ := r.get (List.getElem?_eq_getElem (show i < ys.length by omega))
      have e1 : ys[i]'(by omega) = V.int (kz i).1 := hk i _ (List.getElem?_eq_getElem (by omega))
      rw [e1] at e4
      obtain ⟨t, et⟩ := e4
      exact ⟨t, by rw [List.getD_eq_getElem?_getD, e3, et]; rfl⟩
    obtain ⟨t, e1⟩ := at_ i hi
    obtain ⟨t', e2⟩ := at_ j hj
    rw [e1, e2]
    rfl
  | true =>
    have at_ : ∀ i, i < n → kOf H (ks.getD i Value.none) = kz i ∧ Srt.IsPair s.heap (ks.getD i Value.none) (kz i).1 (kz i).2 := fun i hi => by
      obtain ⟨u, e3, e4⟩ := r.get (List.getElem?_eq_getElem (show i < ys.length by omega))
      obtain ⟨t, e1, ht⟩ := hk i _ (List.getElem?_eq_getElem (show i < ys.length by omega))
      rw [e1] at e4
      obtain rfl : u = Value.ref t := e4
      have e5 : ks.getD i Value.none = Value.ref t := by rw [List.getD_eq_getElem?_getD, e3]; rfl
      rw [e5]
      refine ⟨by
        show (match H t with | some (.tup [.int a, .int b]) => (a, b) | _ => ((0 : Int), (0 : Int))) = kz i
        rw [ht], ?_⟩
      obtain ⟨_, its2, r2, o, ho, hc, m, hd⟩ := I.hok _ _ ht
      obtain ⟨u1, u2, rfl, ri, rj⟩ := vals2 r2
      obtain ⟨t1, rfl⟩ := ri
      obtain ⟨t2, rfl⟩ := rj
      exact ⟨t, o, t1, t2, m, rfl, ho, hc, hd⟩
    refine ⟨fun v u => SrtO.lexB (kOf H v) (kOf H u), SrtO.swo_lex _, fun h2 => SrtO.pairs_sortableO (by omega) (fun v hv => ?_) fun o e => ?_, fun i j hi hj => ?_⟩
    · obtain ⟨i, hi, ei⟩ := List.mem_iff_getElem.mp hv
      have z := at_ i (by omega)
      have e5 : ks.getD i Value.none = v := by rw [List.getD_eq_getElem?_getD, List.getElem?_eq_getElem hi, ei]; rfl
      rw [e5] at z
      rw [z.1]
      exact z.2
    · rw [ha] at e
      cases e
      exact fun z => by
        injection z with z3
        exact absurd z3 (by decide)
    · show SrtO.lexB _ _ = _
      rw [(at_ i hi).1, (at_ j hj).1]
      rfl
end Rc
-- S3
set_option Elab.async false
set_option linter.all false
set_option maxRecDepth 100000
set_option maxHeartbeats 4000000
namespace Rc
open PySem PySem.Spec PyProof.Rows L2
/-- an object of ours is tracked from now on -/
theorem track {X : Cx} {pins : List (Addr × Obj)} {σ : L2.St} {H : Hp} {s : Shared} {a : Addr} {o : HO} (I : Inv X pins σ H s) (fp : FpOk X pins H a) (new : ObjOk X.prog X.w (upd H a o) s.heap a o) : Inv X pins σ (upd H a o) s := by
  have nm : ∀ b u, H b = some u → b ≠ a := fun b u e z => by rw [z, fp.1] at e; cases e
  have up : ∀ b u, H b = some u → upd H a o b = some u := fun b u e => by rw [upd_ne (nm b u e)]; exact e
  exact I.step (h' := s.heap) (g' := s.gens) (t' := s.toks) (d' := s.drawn) (ch := [a]) (fun b hb => by
      have e : b = a := by simpa using hb
      rw [e]
      exact ⟨fp.2.2.2.1, fp.2.1, fp.2.2.2.2.1, fp.2.2.2.2.2⟩) (fun b u _ _ _ e _ => e) (fun b u _ _ _ e _ => ⟨u.slots, e⟩)
    (fun b u hb e n => by rw [upd_ne (fun z => hb (by simp [z]))]; exact n) (fun b u _ e => ⟨u, e⟩) (fun b xs e => up b _ e) (fun b ob u e => up b _ e) (fun b ps e => ⟨#[], by rw [up b _ e]; simp⟩) (fun m hm => hm) (fun b u e => by
      by_cases hb : b = a
      · rw [hb] at e ⊢
        rw [upd_same] at e
        cases e
        exact new
      · rw [upd_ne hb] at e
        exact (I.hok b u e).stay (fun c v _ q => q) (fun c q => up c _ q) fun c xs q => up c _ q) I.bare
theorem coll_ext {K : PySem.W.Frag} {x : V} {H H' : Hp} {xs : List V} (e : LamX.ExtN H H') (c : CollV K x H xs) : CollV K x H' xs := by
  have rd : ∀ {a : Addr} {u : HO}, NT u → Rd H a u → Rd H' a u := fun {a u} n r => by
    rcases r with r | ⟨o, r⟩
    · exact .inl (e _ _ r n)
    · exact .inr ⟨o, e _ _ r (fun ps z => by cases z)⟩
  rcases c with ⟨a, ex, hs⟩ | ⟨v, d, kvs, ex, hv, hd, exs⟩ | ⟨d, kvs, ex, hd, exs⟩
  · refine .inl ⟨a, ex, ?_⟩
    rcases hs with hs | hs
    · exact .inl (rd nt_of hs)
    · exact .inr hs
  · exact .inr (.inl ⟨v, d, kvs, ex, e _ _ hv (fun ps z => by unfold viewV at z; cases z), rd (fun ps z => by cases z) hd, exs⟩)
  · exact .inr (.inr ⟨d, kvs, ex, rd (fun ps z => by cases z) hd, exs⟩)
/-- sorted(e, key=lambda a: body): keys of the kind b -/
def SortE (K : PySem.W.Frag) (T : List (Addr × Str)) (q : Str) (b : Bool) (N : List Str) (tb : TE) (x : V) (H1 : Hp) (Q : VK) : Prop := ∃ (xs : List V) (kz : Nat → Int × Int), CollV K x H1 xs ∧ xs.length < 64 ∧ LamX.Tabs T H1 ∧
  ∀ H2 c', LamX.ExtN H1 H2 → LamX.Tabs T H2 → H2 c' = some (LamX.CodeO c' q) → ∃ W : Nat → List V → Hp → Prop, W 0 [] H2 ∧ (∀ i ys H', W i ys H' → H' c' = some (LamX.CodeO c' q) ∧ ∀ j y, ys[j]? = some y → KeyIs b (kz j) y H') ∧
    (∀ i y ys H', xs[i]? = some y → W i ys H' → tb (L2.start N [y]) H' fun k H'' => W (i + 1) (ys ++ [k]) H'') ∧
    ∀ (is : List Nat) p ys H4, W xs.length ys H4 → H4 p = none → is.Perm (List.range xs.length) → is.Pairwise (fun i j => kLt b (kz j) (kz i) = false) → Q (.ref p) (upd H4 p (.lst (is.map fun i => xs.getD i .non)))
def tSortK (K : PySem.W.Frag) (T : List (Addr × Str)) (q : Str) (b : Bool) (ta : TA) (N : List Str) (tb : TE) : TE := fun σ H Q => ta σ H fun vs H1 => ∃ x, vs = [x] ∧ SortE K T q b N tb x H1 Q
section
variable {X : Cx} {T : List (Addr × Str)} {c P : Addr} {e : Expr} {ta : TA} {tb : TE} {params : Arguments} {body : Expr} {scope : Scope} {p pos lpos kpos : Pos} {N : List Str} {a1 : Str} {k : Nat} {b : Bool}
theorem pe_sortK (hc : X.calm = true) (hg : Gl X "sorted") (hm : X.mg "sorted" = none) (ha : PA X [e] ta) (TB : LamX.TabB X.base X.mg c P) (hcode : X.env.code = .ref c) (hmT : (P, X.env.qual ++ "<lambda>") ∈ T) (hu : ∀ p ∈ T, p.1 = P → p.2 = X.env.qual ++ "<lambda>") (hr : Room (k + 3) X.A)
    (hdef : defaultsOf params X.env = ([], [])) (hfree : ∀ y ∈ scope.names, y.2 = .free → ∃ c, X.env.cells.lookup y.1 = some c) (hcl : cloFrom X.env.cells scope.names [] = []) (S : FnScope N [a1] scope)
    (hbind : ∀ (q : Str) (pm cv ctv : Value) (us : List Value), us.length = 1 → bindArgs (PySem.W.kla_fn "<lambda>" q params body scope [] pm cv ctv) ⟨us, []⟩ = pure ([a1].zip us))
    (hbody : ∀ (A : Around) (outer : List Env) (s : Shared) (H : Hp) (f c' : Addr), Room k (A.deeper (envOfC (X.env.qual ++ "<lambda>") scope s.heap.objs.size f (.ref c'))) → PE (cxOf CX0 X.prog X.w X.K X.mg X.base N (X.env.qual ++ "<lambda>") scope f (.ref c') A outer s H E0) body tb)
    (hs1 : backTo pos (starEach (e :: []) X.env) = (false, eval e X.env) :: backTo pos (starEach [] X.env) := by rfl) (hpl : (backTo pos (starEach (e :: []) X.env)).any (·.1) = false := by rfl) :
    PE X (.Call (.Name "sorted" p) [e] [⟨some "key", .Lambda params body scope lpos, kpos⟩] pos) (tSortK X.K T (X.env.qual ++ "<lambda>") b ta N tb) := by
  refine ⟨fun pins s σ H Q I h => ?_⟩
  refine wpAny_Call_Name_kw (ld_blt I hg hm (by decide +kernel : bootBuiltins "sorted" = some (.builtin "sorted")) ?_ (by decide) (by decide))
  refine PyProof.Rows.callWith_kw (thn (ha.run pos pins s σ H _ I h) fun us s1 hh => ?_) hs1 hpl
  obtain ⟨vs, H1, I1, r1, x, ev, xs, kz, hcoll, h64, hT, q⟩ := hh
  subst ev
  obtain ⟨u, eu, rx⟩ := vals1 r1
  subst eu
  -- the lambda is made
  show wpAny _ _ (evalAll [do let v ← eval (.Lambda params body scope lpos) X.env; standAt pos; pure v]) _ _ s1
  refine wpAny_evalAll_cons (wpAny_bind (LamX.lam_make2 I1 TB hcode hmT hu hT hdef hfree fun f c' pm ctv H2 s2 I2 eN T2 hf hfn hfr hco => wpAny_bind (wpAny_standAt (wpAny_pure ?_))))
  refine wpAny_evalAll_nil ?_
  rw [hcl] at hf
  obtain ⟨W, w0, wk, wt, wq⟩ := q H2 c' eN T2 hco
  have hcoll2 := coll_ext eN hcoll
  have hcalm := I2.ok.hd hc
  -- the lambda's object is pinned
  have fL : f ≠ X.env.locals := fun z => by
    obtain ⟨m, ⟨o, es, ep, ho, hd, _⟩, _⟩ := I2.loc
    rw [← z, hf] at ho
    cases ho
    cases hd
  have fF : f ∉ X.fs := fun z => hfr (by
    rcases I2.ok.stk with e | ⟨e, hfm⟩
    · rw [e]; exact z
    · rw [e]
      unfold frs
      rw [List.filterMap_cons, hfm]
      exact List.mem_cons_of_mem _ z)
  have J : Inv X (pins ++ [(f, PySem.W.kla_obj "<lambda>" (X.env.qual ++ "<lambda>") params body scope [] pm c' ctv)]) σ H2 s2 := I2.pins_of fun p hp => by
    rcases List.mem_append.mp hp with hp | hp
    · exact I2.pin p (List.mem_append_right _ hp)
    · rw [List.mem_singleton.mp hp]
      exact ⟨hf, hfn, fL, fF, fun v z => by cases z⟩
  show wpAny _ _ (call (.builtin "sorted") [u] [(Str.ofString "key", .ref f)]) _ _ s2
  refine call_function_entry_kw kind_sorted plain_sorted entry_sorted (ksk_s1 _ _) ?_
  unfold Builtin.«sorted»
  refine wpAny_bind (m := checkCount "sorted" 1 1 _) (wpAny_pure ?_)
  refine wpAny_bind (coll_run (A := X.A.in1) hcalm J rx hcoll2 h64 fun vs s3 J3 rv => ?_)
  have hvl : vs.length = xs.length := rv.length.symm
  refine wpAny_bind (wpAny_newList ?_ (by rw [sizeLine_eq]; omega))
  have J4 : Inv X (pins ++ [(f, PySem.W.kla_obj "<lambda>" (X.env.qual ++ "<lambda>") params body scope [] pm c' ctv)]) σ H2 { s3 with heap := s3.heap.push (seqObj "list" vs.toArray 0) } := J3.kept (t' := s3.toks) fun b o e => Heap.get?_push_of_some _ e
  have fa := J3.fpOk (b := s3.heap.objs.size) (Nat.le_refl _) (J3.hok.fresh (Nat.le_refl _))
  have hoL : (s3.heap.push (seqObj "list" vs.toArray 0)).get? s3.heap.objs.size = some (seqObj "list" vs.toArray 0) := Heap.get?_push_size _ rfl
  show wpAny _ _ _ _ _ { s3 with heap := s3.heap.push (seqObj "list" vs.toArray 0) }
  generalize s3.heap.objs.size = a at *
  generalize s3.heap.push (seqObj "list" vs.toArray 0) = h4 at *
  refine wpAny_bind (wpAny_holding (wpAny_call_entry_kw slot_list_sort ⟨_, hoL, rfl⟩ entry_list_sort ?body (ksk_l1 _ _)))
  show wpAny (model X.prog X.w) X.A.in1.in1 (Builtin.«list.sort» ⟨[.ref a], [(Str.ofString "key", .ref f)]⟩) _ _ _
  rw [ksk_t1]
  refine key_sort (s := { s3 with heap := h4 }) (P := W) (lti := fun i j => kLt b (kz i) (kz j)) J4 hoL fa (by omega) w0 (fun i v ys s' H' hi J' hW hl => ?_) (fun s' H' ys ks e J' hW r hl ha => ?_) fun s' H' ys ks is n' J' hW r hl ip ho ha hn => ⟨_, rfl, ?_⟩
  · -- a key
    obtain ⟨hco', _⟩ := wk i ys H' hW
    obtain ⟨hf', hfn', _⟩ := J'.pin (f, _) (List.mem_append_right _ (List.mem_append_right _ (List.mem_singleton.mpr rfl)))
    obtain ⟨y, hy, ry⟩ : ∃ y, xs[i]? = some y ∧ RelV y v := by
      have hlt : i < xs.length := by rw [← hvl]; exact (List.getElem?_eq_some_iff.mp hi).1
      obtain ⟨u', e1, e2⟩ := rv.get (List.getElem?_eq_getElem hlt)
      rw [hi] at e1
      cases e1
      exact ⟨_, List.getElem?_eq_getElem hlt, e2⟩
    have hread := wt i y ys H' hy hW
    obtain ⟨⟨oc, cv, t, h1, h2, h3⟩, _, _⟩ := J'.hok c' _ hco'
    refine wpAny_call (codeAny_mono (lam_run (A := X.A.in1.in1) (us := [v]) (vs := [y]) (Q := fun k H'' => W (i + 1) (ys ++ [k]) H'') S (hr.in1.in1) J'.env0.in1.in1 hf' ⟨oc, cv, t, h1, h2, h3⟩ (hbind _ _ _ _ [v] rfl) (.cons ry .nil) rfl fun hr2 => ⟨tb, hbody _ _ _ _ _ _ hr2, hread⟩) fun rr s'' hq => ?_)
    cases rr with
    | error e => exact hq.elim
    | ok fl =>
      cases fl with
      | ret k =>
        obtain ⟨kv, H'', os, bare, un, hok, rk, hW2⟩ := hq
        have J2 : EP X (pins ++ [(f, PySem.W.kla_obj "<lambda>" (X.env.qual ++ "<lambda>") params body scope [] pm c' ctv)]) σ (fun k' H3 => k' = kv ∧ H3 = H'') k s'' := J'.after ⟨kv, H'', os, bare, un, hok, rk, rfl, rfl⟩
        obtain ⟨kv2, H3, J3', rk2, e1, e2⟩ := J2
        subst e1 e2
        refine ⟨_, _, J3', rk2, hW2, fun b' o' e' fp => ?_⟩
        have nfr : b' ∉ frs X.stack := fun z => by
          rcases List.mem_cons.mp (J'.stkSub b' z) with e | e
          · exact fp.2.1 e
          · exact fp.2.2.1 e
        exact ⟨un.keep b' o' e' fp.1 nfr (by simp), un.free b' o' e' fp.1 (by simp)⟩
      | next => exact hq.elim
      | brk => exact hq.elim
      | cont => exact hq.elim
  · -- they are told apart
    have hk := (wk _ ys H' hW).2
    exact keys_sortable J' hl r hk ha
  · -- the end
    rw [hvl] at ip hW
    have hlen : (is.map fun i => xs.getD i V.non).length ≤ sizeLine := by
      rw [List.length_map, ip.length_eq, List.length_range, sizeLine_eq]
      omega
    have rel : Vals (is.map fun i => xs.getD i V.non) (is.map fun i => vs.getD i Value.none) := by
      have each : ∀ i, i < xs.length → RelV (xs.getD i V.non) (vs.getD i Value.none) := fun i hi => by
        obtain ⟨u', e1, e2⟩ := rv.get (List.getElem?_eq_getElem hi)
        rw [List.getD_eq_getElem?_getD, List.getD_eq_getElem?_getD, e1, List.getElem?_eq_getElem hi]
        exact e2
      have all : ∀ i ∈ is, i < xs.length := fun i hi => List.mem_range.mp (ip.mem_iff.mp hi)
      clear ip ho ha hlen
      induction is with
      | nil => exact .nil
      | cons i r ih => exact .cons (each i (all i List.mem_cons_self)) (ih fun j hj => all j (List.mem_cons_of_mem _ hj))
    have J5 := track J' (reFp fa hn) (o := .lst (is.map fun i => xs.getD i V.non)) ⟨hlen, _, n', rel, ha⟩
    have ho' : is.Pairwise (fun i j => kLt b (kz j) (kz i) = false) := ho
    exact wpAny_pure ⟨_, rfl, .ref a, _, J5.unpinned, rfl, wq is a ys H' hW hn ip ho'⟩
end
end Rc
-- P
set_option Elab.async false
set_option linter.all false
set_option maxRecDepth 100000
set_option maxHeartbeats 4000000
/-! RcP: words that the hand layer lacks: names of constants, list of a dict's values, enumerate over a tuple, attributes as targets. -/
namespace Rc
open PySem PySem.Spec PyProof.Rows L2
section
variable {X : Cx} {x : Str} {pos : Pos}
theorem pe_int_g {i : Int} (hg : Gl X x) (hm : ∃ t, X.mg x = some (.int i t)) (hd : (x == ("__debug__" : Str)) = false := by decide) : PE X (.Name x pos) (tC (.int i)) :=
  let ⟨t, h⟩ := hm; pe_glob hg h ⟨t, rfl⟩ hd
theorem pe_str_g {z : Str} (hg : Gl X x) (hm : ∃ t, X.mg x = some (.str z t)) (hd : (x == ("__debug__" : Str)) = false := by decide) : PE X (.Name x pos) (tC (.str z)) :=
  let ⟨t, h⟩ := hm; pe_glob hg h ⟨t, rfl⟩ hd
theorem pe_ty {T : String} (hg : Gl X x) (hm : X.mg x = none) (hv : bootBuiltins x = some (.type T) := by decide +kernel) (hn : x ≠ "__name__" := by decide) (hd : (x == ("__debug__" : Str)) = false := by decide) : PE X (.Name x pos) (tC (.ty T)) :=
  pe_bltn hg hm hv rfl hn hd
theorem kv_get {κ : Type} : ∀ {kvs : List (κ × V)} {vs : List (κ × Value)} {j : Nat} {p : κ × V}, KV kvs vs → kvs[j]? = some p → ∃ q, vs[j]? = some q ∧ RelV p.2 q.2
  | _, _, _, _, .nil, e => by simp at e
  | _, _, 0, _, .cons h _, e => by simp at e; subst e; exact ⟨_, rfl, h.2⟩
  | _, _, j + 1, _, .cons _ r, e => by
    obtain ⟨q, e1, e2⟩ := kv_get r (j := j) (by simpa using e)
    exact ⟨q, by simpa using e1, e2⟩
/-- list of a dict's values -/
def rListV : List V → Hp → VK → Prop := fun xs H Q => ∃ v d kvs, xs = [.ref v] ∧ H v = some (viewV v d) ∧ Rd H d (.dK kvs) ∧ ∀ p, H p = none → Q (.ref p) (upd H p (.lst (kvs.map (·.2))))
theorem call_listV (hc : X.calm = true) : CallR X (.type "list") rListV := by
  rintro pins s σ H xs us Q I r ⟨v, d, kvs, rfl, hv, hd, q⟩
  obtain ⟨u, rfl, rx⟩ := vals1 r
  obtain rfl : u = Value.ref v := rx
  obtain ⟨z, lo, vs, rk, hm⟩ := dk_rd I.hok hd
  obtain ⟨ep, hat⟩ := hm.dictAt
  have hl : kvs.length = vs.length := Paired.length rk
  refine PySem.W.kdl_call (PySem.W.kdl_values (knd := mixKind X.prog X.w) (kvs := vs) (ep := ep)) (I.ok.hd hc) ⟨viewV_at I.hok hv, hat⟩ (by rw [← hl]; exact z) fun h' tk acc c' keep hS hacc => ?_
  have el : acc.toList.length = acc.size := by simp
  have rel : Vals (kvs.map (·.2)) acc.toList := vals_of_at (by rw [List.length_map, el, hacc.1, hl]) fun j y w h1 h2 => by
    obtain ⟨k, hk⟩ := hacc.2 j w (by rw [← Array.getElem?_toList]; exact h2)
    rw [List.getElem?_map] at h1
    cases e : kvs[j]? with
    | none => rw [e] at h1; cases h1
    | some kv =>
      rw [e] at h1
      cases h1
      obtain ⟨q2, e2, e3⟩ := kv_get rk e
      rw [hk] at e2
      cases e2
      exact e3
  exact ⟨.ref s.heap.objs.size, _, I.laid (o := .lst (kvs.map (·.2))) keep (Nat.le_refl _) (show ObjOk X.prog X.w _ _ _ (.lst (kvs.map (·.2))) from ⟨by rw [List.length_map]; exact z, acc.toList, c', rel, by rw [Array.toArray_toList]; exact hS⟩), rfl, q _ (I.hok.fresh (Nat.le_refl _))⟩
abbrev rSortDI : List V → Hp → VK → Prop := fun xs H Q => ∃ (a : Addr) (kvs : List (Key × V)) (ks : List Int), xs = [.ref a] ∧ Rd H a (.dK kvs) ∧ kvs.map (·.1) = ks.map Sum.inl ∧ ks.length < 64 ∧ ∀ (ys : List Int) (p : Addr), ys.Perm ks → ys.Pairwise (· ≤ ·) → H p = none → Q (.ref p) (upd H p (.lst (ys.map V.int)))
theorem sortDI (hc : X.calm = true) : CallR X (.builtin "sorted") rSortDI := call_sortedDI hc
/-! ### an attribute as a target -/
def gFld (K : PySem.W.Frag) (to : TE) (f : Str) : TG := fun v σ H Q => to σ H fun x H1 => ∃ a C dx fs, x = .ref a ∧ H1 a = some (.ins C dx fs) ∧ Cls K C ∧ NoAttr K C f ∧ fs.length < 1000 ∧ Q σ (upd H1 a (.ins C dx (putF f v fs)))
theorem pg_fld {o : Expr} {f : Str} {to : TE} (ho : PE X o to)
    (hq : ∀ v, assign (.Attribute o f pos) X.env v = (do
      let ow ← holding [v] (eval o X.env)
      standAt pos.atName
      holding [v, ow] (setAttr ow f v)
      release [v, ow] []) := by intro _; rfl) : PG X (.Attribute o f pos) (gFld X.K to f) := by
  refine ⟨fun pins s σ H v u Q I r h => ?_⟩
  rw [hq]
  refine wpAny_bind (wpAny_holding (thn (ho.run pins s σ H _ I h) fun ow s1 ⟨x, H1, I1, rx, a, C, dx, fs, ex, ea, c, n, l, q⟩ => ?_))
  subst ex
  obtain rfl : ow = Value.ref a := rx
  refine wpAny_bind (wpAny_standAt (wpAny_bind (wpAny_holding (setattr_ok I1 ea c n l r fun s3 I3 => ?_))))
  exact wpAny_release ⟨σ, _, I3, q⟩
/-! ### enumerate over a tuple -/
def Itp (K : PySem.W.Frag) (a : Addr) : It :=
  ⟨fun i H => ∃ xs x, SqT K H a xs ∧ xs[i]? = some x, fun i H v H' => ∃ T x, v = .ref T ∧ H T = none ∧ H' = upd H T (.tup [.int (i : Nat), x]) ∧ ∀ xs, SqT K H a xs → xs[i]? = some x, fun i H => ∃ xs, SqT K H a xs ∧ xs.length = i⟩
end
theorem new_enumT (l : Addr) (items : Array Value) :
    Meets (Builtin.«enumerate.__new__» ⟨[.type "enumerate", .ref l], []⟩) (fun _ R s => s.heap.IsTuple l items ∧
      R (.ok (.ret (.ref (s.heap.push { cls := .type "tuple_iterator", data := .fields #[.ref l, .int 0 0] }).objs.size))) { s with heap := (s.heap.push { cls := .type "tuple_iterator", data := .fields #[.ref l, .int 0 0] }).push { cls := .type "enumerate", data := .fields #[.none, .bool false, .ref s.heap.objs.size, rawInt 0, .none, .none] } }) :=
  .of_wp fun prog w A R s ⟨hT, hR⟩ => by
    obtain ⟨hp, gs, dr, tk, os⟩ := s
    have hS := sub_enumerate
    have hI : ∀ {A' : Around} {E' : Value → Shared → Prop} {Q' : Value → Shared → Prop}, Q' (.ref hp.objs.size) ⟨hp.push { cls := .type "tuple_iterator", data := .fields #[.ref l, .int 0 0] }, gs, dr, tk, os⟩ → wpAny (model prog w) A' (pyIter (.ref l)) Q' E' ⟨hp, gs, dr, tk, os⟩ := fun q => wpAny_pyIter_tuple hT q
    wp_walk using hI
    refine wpAny_stack_any fun stk => wpAny_pure ?_
    split
    · rename_i cc _ _ _ _ _
      cases (cc == Value.type "enumerate") <;> (wp_walk using hI) <;> exact ⟨_, rfl, hR⟩
    · wp_walk using hI
      exact ⟨_, rfl, hR⟩
theorem call_enumT {prog : Program} {w : World} {A : Around} {E : Value → Shared → Prop} {s : Shared} {l : Addr} {items : Array Value} {Q : Value → Shared → Prop} (hT : s.heap.IsTuple l items)
    (h : ∀ h', IsEnum h' (s.heap.objs.size + 1) s.heap.objs.size 0 .none → h'.IsTupleIter s.heap.objs.size l 0 → (∀ b o, s.heap.get? b = some o → h'.get? b = some o) → Q (.ref (s.heap.objs.size + 1)) { s with heap := h' }) :
    wpAny (model prog w) A (call (.type "enumerate") [.ref l]) Q E s := by
  refine callType_new PySem.F.called_enumerate (by decide) (PySem.F.typeCall_enumerate_1 _) (PySem.F.newCall_enumerate_1 _) (fun ob => PySem.F.args_object_init_2 ob _) PySem.F.entry_enumerate_new (new_enumT l items) ⟨hT, ?_⟩
  have sz : (s.heap.push { cls := .type "tuple_iterator", data := .fields #[.ref l, .int 0 0] }).objs.size = s.heap.objs.size + 1 := Heap.size_push ..
  show _ ∧ _
  rw [sz]
  have en : IsEnum ((s.heap.push { cls := .type "tuple_iterator", data := .fields #[.ref l, .int 0 0] }).push { cls := .type "enumerate", data := .fields #[.none, .bool false, .ref s.heap.objs.size, rawInt 0, .none, .none] }) (s.heap.objs.size + 1) s.heap.objs.size 0 .none := by
    have z := Heap.get?_push_size (s.heap.push { cls := .type "tuple_iterator", data := .fields #[.ref l, .int 0 0] }) (o := { cls := .type "enumerate", data := .fields #[.none, .bool false, .ref s.heap.objs.size, rawInt 0, .none, .none] }) rfl
    rw [sz] at z
    exact z
  exact ⟨⟨_, en, rfl⟩, h _ en ⟨_, Heap.get?_push_of_some _ (Heap.get?_push_size _ rfl), rfl, rfl⟩ fun b o x => Heap.get?_push_of_some _ (Heap.get?_push_of_some _ x)⟩
theorem turn_enumT {P : Program} {w : World} {K : PySem.W.Frag} {elts : List Expr} {kk : Nat} {tpos : Pos} (a e it : Addr) :
    Turn P w K (.Tuple elts kk tpos) (Itp K a) [e, it] e (fun i h => (∃ old, IsEnum h e it ((i : Nat) : Int) old) ∧ h.IsTupleIter it a i ∧ e ≠ it) where
  mem := List.mem_cons_self
  obj := fun i h st b hb => by
    obtain ⟨⟨old, he⟩, ⟨o, ho, _, hd⟩, _⟩ := st
    rcases List.mem_cons.mp hb with z | z
    · subst z; exact ⟨_, he, fun v q => nomatch q⟩
    · exact ⟨o, by rw [List.mem_singleton.mp z]; exact ho, fun v q => by rw [hd] at q; cases q⟩
  keep := fun i h h' st k => let ⟨⟨old, he⟩, hi, hne⟩ := st; ⟨⟨old, k e List.mem_cons_self _ he⟩, hi.at fun o q => k it (List.mem_cons_of_mem _ List.mem_cons_self) o q, hne⟩
  item := by
    rintro X rfl rfl rfl hc i pins s σ H E I hf ⟨⟨old, he⟩, hit, hne⟩ ⟨xs, x, hq, hx⟩
    obtain ⟨its, rv, isT', _⟩ := I.tuple hq
    have isT : s.heap.IsTuple a its.toArray := isT'
    obtain ⟨u, hu, ru⟩ := rv.get hx
    have ei : i < its.toArray.size := by
      have := (List.getElem?_eq_some_iff.mp hu).1
      simpa using this
    have ne1 : it ≠ a := fun z => by
      obtain ⟨o, ho, c1, _⟩ := hit
      obtain ⟨o2, h2, c2, _⟩ := isT
      rw [z, h2] at ho
      cases ho
      rw [c2] at c1
      injection c1 with c1
      exact absurd c1 (by decide)
    have ne2 : e ≠ a := fun z => by
      obtain ⟨o2, h2, c2, _⟩ := isT
      unfold IsEnum at he
      rw [z, h2] at he
      cases he
      injection c2 with c2
      exact absurd c2 (by decide)
    refine wpAny_pyNext_enum_itemD (Draws.tuple (A := X.A.in1) (I.ok.hd hc) it a ne1.symm its.toArray) he ⟨hit, isT⟩ ei hne (by simp [hne, ne2]) fun x' h' tk hx' ho st hT hsz hk => ?_
    have ex : x' = u := by
      have z : its[i]? = some x' := by simpa using hx'
      rw [hu] at z
      exact (Option.some.inj z).symm
    subst ex
    have hel : e < s.heap.objs.size := Heap.lt_size he
    have hil : it < s.heap.objs.size := by obtain ⟨_, q, _⟩ := hit; exact Heap.lt_size q
    refine ⟨_, rfl, wpAny_letOwnedTupleGo_enum (s := { s with heap := h', toks := tk + 1 }) ho fun h2 he2 sb => ?_⟩
    have at2 : h2.get? s.heap.objs.size = some { cls := .type "tuple", data := .seq #[.int i tk, x'] } := (sb.2 _ (Nat.ne_of_gt hel)).trans hT
    have nw : ObjOk X.prog X.w (upd H s.heap.objs.size (.tup [.int (i : Nat), x])) h2 s.heap.objs.size (.tup [.int (i : Nat), x]) :=
      ⟨(by decide : 2 ≤ sizeLine), [.int i tk, x'], .cons ⟨_, rfl⟩ (.cons ru .nil), _, at2, rfl, _, rfl⟩
    have I1 : Inv X pins σ (upd H s.heap.objs.size (.tup [.int (i : Nat), x])) { s with heap := h2, toks := tk + 1 } :=
      I.turnedNew (ch := [e, it]) (fun b ob hb q => (sb.2 b (fun z => hb (by rw [z]; exact List.mem_cons_self))).trans (hk b ob (fun z => hb (by rw [z]; exact List.mem_cons_self)) (fun z => hb (by rw [z]; exact List.mem_cons_of_mem _ List.mem_cons_self)) q)) hf (Nat.le_refl _) nw
    refine ⟨.ref s.heap.objs.size, _, I1, rfl, ⟨_, x, rfl, I.hok.fresh (Nat.le_refl _), rfl, fun ys hy => by rw [I.tuple_inj hy hq]; exact hx⟩, ⟨⟨x', ?_⟩, st.1.at fun o q => (sb.2 it (Ne.symm hne)).trans q, hne⟩, fun b hb => ?_⟩
    · have e1 : ((i + 1 : Nat) : Int) = (i : Int) + 1 := by omega
      rw [e1]
      exact he2
    · have hb' : b < s.heap.objs.size := by
        rcases List.mem_cons.mp hb with z | z
        · rw [z]; exact hel
        · rw [List.mem_singleton.mp z]; exact hil
      rw [upd_ne (Nat.ne_of_lt hb')]
      exact (hf b hb).1
  done := by
    rintro X rfl rfl rfl hc i pins s σ H E I hf ⟨⟨old, he⟩, hit, hne⟩ ⟨xs, hq, hx⟩
    obtain ⟨its, rv, isT', _⟩ := I.tuple hq
    have isT : s.heap.IsTuple a its.toArray := isT'
    obtain ⟨f0, f1, f2, f3, f4, f5⟩ := hf it (List.mem_cons_of_mem _ List.mem_cons_self)
    have ne1 : it ≠ a := fun z => by
      obtain ⟨o, ho, c1, _⟩ := hit
      obtain ⟨o2, h2, c2, _⟩ := isT
      rw [z, h2] at ho
      cases ho
      rw [c2] at c1
      injection c1 with c1
      exact absurd c1 (by decide)
    have en : its.toArray.size = i := by
      rw [List.size_toArray, ← rv.length]
      exact hx
    exact wpAny_pyNext_enum_endD (Draws.tuple (A := X.A.in1) (I.ok.hd hc) it a ne1.symm its.toArray) he ⟨by rw [en]; exact hit, isT⟩ fun h' eb => ⟨rfl, I.turned (t' := s.toks) (fun b o hb q => eb b o hb q) f0 f1 f3 f4 f5⟩
  self := fun A i s Q E st h => let ⟨⟨_, he⟩, _⟩ := st; wpAny_pyIter_enum he h
def iEnumT (K : PySem.W.Frag) (ta : TA) : TI := fun σ H R => ta σ H fun vs H1 => ∃ a xs, vs = [.ref a] ∧ SqT K H1 a xs ∧ R (Itp K a) H1
theorem pi_enumT {X : Cx} {e : Expr} {ta : TA} {p pos tpos : Pos} {elts : List Expr} {kk : Nat} (hg : Gl X "enumerate") (hm : X.mg "enumerate" = none) (ha : PA X [e] ta) (hs : starEach [e] X.env = [(false, eval e X.env)] := by rfl) : PI X (.Tuple elts kk tpos) (.Call (.Name "enumerate" p) [e] [] pos) (iEnumT X.K ta) := by
  refine ⟨fun pins s σ H R I h => Call_ (ld_blt I hg hm boot_enumerate (PyProof.Rows.callWith_type1 (thn (ha.run pos pins s σ H _ I h) fun us s1 ⟨vs, H1, I1, r1, a, xs, ex, hq, q⟩ => ?_) hs rfl))⟩
  subst ex
  obtain ⟨u, rfl, ru⟩ := vals1 r1
  obtain rfl : u = Value.ref a := ru
  obtain ⟨its, rv, isT', _⟩ := I1.tuple hq
  have isT : s1.heap.IsTuple a its.toArray := isT'
  refine call_enumT isT fun h' he hit hk => wpAny_pyIter_enum he ?_
  refine ⟨s1.heap.objs.size + 1, [s1.heap.objs.size + 1, s1.heap.objs.size], _, _, H1, rfl, I1.kept (t' := s1.toks) hk, turn_enumT a (s1.heap.objs.size + 1) s1.heap.objs.size, ⟨⟨.none, he⟩, hit, Nat.succ_ne_self _⟩, fun b hb => ?_, q⟩
  have hle : s1.heap.objs.size ≤ b := by
    rcases List.mem_cons.mp hb with z | z
    · rw [z]; exact Nat.le_add_right _ _
    · rw [List.mem_singleton.mp z]; exact Nat.le_refl _
  exact I1.fpOk hle (I1.hok.fresh hle)
/-! ### the same rules, the written part named -/
section
variable {X : Cx} {K : PySem.W.Frag} {pos : Pos}
theorem fldK {e : Expr} {f : Str} {ta : TE} (hK : X.K = K) (he : PE X e ta) (hb : attributeBase e f X.env (eval e X.env) = eval e X.env) : PE X (.Attribute e f pos) (tFld K ta f) := hK ▸ pe_fld he hb
theorem sfldK {o value : Expr} {f : Str} {ta tv : TE} {pos' : Pos} (hK : X.K = K) (ha : PE X o ta) (hv : PE X value tv) (hs : swapsWith value (some (.Attribute o f pos')) pos.line X.env = pure false) : PS X (.Assign [.Attribute o f pos'] value pos) (sFld K ta tv f) := hK ▸ ps_fld ha hv hs
theorem sfldaugK {o value : Expr} {f : Str} {ta tv : TE} {tpos : Pos} {op : Operator} {rd : V → V → Hp → VK → Prop} (hK : X.K = K) (ha : PE X o ta) (hv : PE X value tv) (hop : InOp X op rd) : PS X (.AugAssign (.Attribute o f tpos) op value pos) (sFldAug K ta tv rd f) := hK ▸ ps_fldaug ha hv hop
theorem gfldK {o : Expr} {f : Str} {ta : TE} (hK : X.K = K) (ho : PE X o ta)
    (hq : ∀ v, assign (.Attribute o f pos) X.env v = (do
      let ow ← holding [v] (eval o X.env)
      standAt pos.atName
      holding [v, ow] (setAttr ow f v)
      release [v, ow] []) := by intro _; rfl) : PG X (.Attribute o f pos) (gFld K ta f) := hK ▸ pg_fld ho hq
theorem ixlK (hK : X.K = K) : IxR X (rIxL K) := hK ▸ ix_list
theorem ixtK (hK : X.K = K) : IxR X (rIxT K) := hK ▸ ix_tup
theorem sllK (hK : X.K = K) : SlR X (rSlL K) := hK ▸ sl_list
theorem sltK (hK : X.K = K) : SlR X (rSlT K) := hK ▸ sl_tup
theorem lenK (hK : X.K = K) : CallR X (.builtin "len") (rLenQ K) := hK ▸ call_len_seq
theorem listK (hK : X.K = K) : CallR X (.type "list") (rListQ K) := hK ▸ call_list_of
theorem tupK (hK : X.K = K) : CallR X (.type "tuple") (rTupQ K) := hK ▸ call_tuple_of
theorem sumK (hK : X.K = K) (hc : X.calm = true) : CallR X (.builtin "sum") (rSum K) := hK ▸ cr_sum hc
theorem minK (hK : X.K = K) (hc : X.calm = true) : CallR X (.builtin "min") (rMin K) := hK ▸ cr_min hc
theorem maxK (hK : X.K = K) (hc : X.calm = true) : CallR X (.builtin "max") (rMax K) := hK ▸ cr_max hc
theorem anyK (hK : X.K = K) (hc : X.calm = true) : CallR X (.builtin "any") (rAny K) := hK ▸ cr_any hc
theorem allK (hK : X.K = K) (hc : X.calm = true) : CallR X (.builtin "all") (rAll K) := hK ▸ cr_all hc
theorem isiK (hK : X.K = K) : CallR X (.builtin "isinstance") (rIsi K) := hK ▸ call_isi
theorem isiTK (hK : X.K = K) : CallR X (.builtin "isinstance") (rIsiT K) := hK ▸ call_isiT
theorem sortIK (hK : X.K = K) : CallR X (.builtin "sorted") (rSortedI K) := hK ▸ cr_sortedI
theorem sortTK (hK : X.K = K) : CallR X (.builtin "sorted") (rSortU K 3 (2 ^ 60)) := hK ▸ cr_sortT (by decide)
theorem eqDK (hK : X.K = K) (hu : X.A.units + 64 < cLine) : OpR X (compareOp .Eq) (rEqD K) := hK ▸ op_eqD hu
theorem neDK (hK : X.K = K) (hu : X.A.units + 64 < cLine) : OpR X (compareOp .NotEq) (rNeD K) := hK ▸ op_neD hu
theorem revK {e : Expr} {te : TE} {k : Nat} {p1 p2 p3 : Pos} (hK : X.K = K) (he : PE X e te) : PE X (.Subscript e (.Slice none none (some (.UnaryOp .USub (.Constant (.int 1) k p1) p2)) p3) pos) (tRevL K te) := hK ▸ pe_revL he
theorem gtupK {es : List Expr} {k : Nat} {t : TGs} {n : Nat} (hK : X.K = K) (hc : X.calm = true) (h : PGs X es t) (hn : (assignEach es X.env).length = n := by rfl) (hst : (assignEach es X.env).findIdx? (·.1) = none := by rfl) : PG X (.Tuple es k pos) (gTup K n t) := hK ▸ pg_tup hc h hn hst
theorem ilistK {tg l : Expr} {tl : TE} (hK : X.K = K) (hl : PE X l tl) : PI X tg l (iList K tl) := hK ▸ pi_list hl
theorem itupK {tg l : Expr} {tl : TE} (hK : X.K = K) (hl : PE X l tl) : PI X tg l (iTup K tl) := hK ▸ pi_tup hl
theorem ienumK {e : Expr} {ta : TA} {p tpos : Pos} {elts : List Expr} {kk : Nat} (hK : X.K = K) (hg : Gl X "enumerate") (hm : X.mg "enumerate" = none) (ha : PA X [e] ta) (hs : starEach [e] X.env = [(false, eval e X.env)] := by rfl) : PI X (.Tuple elts kk tpos) (.Call (.Name "enumerate" p) [e] [] pos) (iEnum K ta) := hK ▸ pi_enum hg hm ha hs
theorem ienumTK {e : Expr} {ta : TA} {p tpos : Pos} {elts : List Expr} {kk : Nat} (hK : X.K = K) (hg : Gl X "enumerate") (hm : X.mg "enumerate" = none) (ha : PA X [e] ta) (hs : starEach [e] X.env = [(false, eval e X.env)] := by rfl) : PI X (.Tuple elts kk tpos) (.Call (.Name "enumerate" p) [e] [] pos) (iEnumT K ta) := hK ▸ pi_enumT hg hm ha hs
theorem izipK {e e2 : Expr} {ta : TA} {p tpos : Pos} {elts : List Expr} {kk : Nat} (hK : X.K = K) (hg : Gl X "zip") (hm : X.mg "zip" = none) (ha : PA X [e, e2] ta) (hs : starEach [e, e2] X.env = (false, eval e X.env) :: starEach [e2] X.env := by rfl) (hpl : (backTo pos (starEach [e2] X.env)).any (·.1) = false := by rfl) :
    PI X (.Tuple elts kk tpos) (.Call (.Name "zip" p) [e, e2] [] pos) (RZ.iZipA K ta) := hK ▸ RZ.pi_zipA hg hm ha hs hpl
theorem appK {o e : Expr} {to te : TE} {apos cpos : Pos} (hK : X.K = K) (ho : PE X o to) (he : PE X e te) (hs : starEach (e :: []) X.env = (false, eval e X.env) :: starEach [] X.env := by rfl) (hbase : attributeBase o "append" X.env (eval o X.env) = eval o X.env := by rfl)
    (hfew : ((backTo cpos (starEach (e :: []) X.env)).all (fun x => !x.1) && (backToKw cpos (keywordEach [] X.env)).all (fun x => x.1.isSome) && decide ((e :: []).length + ([] : List Keyword).length + (if ([] : List Keyword).isEmpty then 0 else 1) < 30)) = true := by rfl) (hline : (apos.endLine == cpos.line) = true := by rfl) :
    PE X (.Call (.Attribute o "append" apos) [e] [] cpos) (tBM K "list" rAppend to (tCons te tNil)) := hK ▸ pe_bm PySem.F.plainAttrs_list PySem.F.slot_list_append PySem.F.type_list_append mt_append ho (pa_cons he pa_nil hs) hbase hfew hline hs
theorem popK {o : Expr} {to : TE} {apos cpos : Pos} (hK : X.K = K) (ho : PE X o to) (hbase : attributeBase o "pop" X.env (eval o X.env) = eval o X.env := by rfl) (hline : (apos.endLine == cpos.line) = true := by rfl) : PE X (.Call (.Attribute o "pop" apos) [] [] cpos) (tBM0 K "list" rPop to) := hK ▸ pe_bm0 PySem.F.plainAttrs_list PySem.F.slot_list_pop PySem.F.type_list_pop mt_pop ho hbase hline
end
section
variable {X : Cx} {kx vx tg iter : Expr} {scope : Scope} {pos spos py : Pos} {y : Str}
theorem swd_true {gs : List Comprehension} {l : Nat} {env : Env} (hk : env.scope.kind = .function) (hy : env.scope.names.lookup y = some .local) (hl : (py.line == pos.line) = true)
    (ha : (scope.names.any fun (n, k) => n == y && (k == .local || k == .cell)) = false) : swapsWith (.DictComp kx vx gs scope pos) (some (.Name y py)) l env = pure true := by
  have k1 : env.kindOf y = some .local := hy
  have k2 : env.blockKind = .function := by
    unfold Env.blockKind
    rw [hk]
    rfl
  unfold swapsWith
  simp only [k2, k1, ha, Expr.pos, hl]
  rfl
/-- name = {k: v for ..} on one line -/
theorem ps_setDc {i : Nat} {own : List (Str × Nat)} {wi : TI} {g : TG} {tt : TT} {tk tv : TE} (hc : X.calm = true) (hN : X.N.Nodup) (hy : X.N[i]? = some y) (hl : X.env.scope.names.lookup y = some .local) (hw : swapsWith (.DictComp kx vx [⟨tg, iter, [], 0⟩] scope pos) (some (.Name y py)) spos.line X.env = pure true)
    (hi : PI X tg iter wi) (ok : BlkOk X.N X.env.scope scope own) (hg : ∀ (s : Shared) (H : Hp) (C : Addr) (cl : List (Str × Addr)) (fp : List Addr), PG (X.blk s H scope (compEnvC scope cl C X.env) fp) tg g)
    (ht : ∀ (s : Shared) (H : Hp) (C : Addr) (cl : List (Str × Addr)) (fp : List Addr), PTs (X.blk s H scope (compEnvC scope cl C X.env) fp) [] tt) (hk : ∀ (s : Shared) (H : Hp) (C : Addr) (cl : List (Str × Addr)) (fp : List Addr), PE (X.blk s H scope (compEnvC scope cl C X.env) fp) kx tk)
    (hv : ∀ (s : Shared) (H : Hp) (C : Addr) (cl : List (Str × Addr)) (fp : List Addr), PE (X.blk s H scope (compEnvC scope cl C X.env) fp) vx tv) (hs : ∀ x, foldedSetIterable iter X.env x = pure x := by intro _; rfl) :
    PS X (.Assign [.Name y py] (.DictComp kx vx [⟨tg, iter, [], 0⟩] scope pos) spos) (tAsg (tDc wi g tt tk tv (own.map (·.2))) (gName i)) := by
  refine ⟨fun pins s σ H D I h0 => ?_⟩
  rw [exec_Assign_Name_used _ _ _ _ hw]
  refine wpAny_bind (wpAny_standAt (wpAny_bind ?_))
  show wpAny _ X.A (do let _ ← comprehension (.DictComp kx vx [⟨tg, iter, [], 0⟩] scope pos) scope X.env (firstIterPos [⟨tg, iter, [], 0⟩] pos) newDict false (eval iter X.env) (some (assign (.Name y py) X.env))) _ _ s
  have h1 : tDc wi g tt tk tv (own.map (·.2)) σ H (fun x H1 => gName i x σ H1 D.nx) := h0
  refine wpAny_bind (thn (dc_core (Qf := fun _ s' => SP X pins D .next s') hc hN I hi ok hg ht hk hv hs h1 fun L C s' m H' I' q hn f => ?_) fun _ s' hq => wpAny_pure (wpAny_pure hq))
  show wpAny _ _ (assign (.Name y py) X.env (.ref L)) _ _ _
  refine wpAny_assign_Name (store_ok2 (v := V.ref L) I' hN hy (.inl hl) rfl (fun s2 I2 ⟨a, sb, ha⟩ => ?_) (.inr hl))
  have hCa : C ≠ a := by
    rcases ha with z | z
    · rw [z]; exact f.2.1
    · exact fun e => f.2.2.2.2.1 y a z e.symm
  exact ⟨m, hn.sameBut sb hCa, fun h3 sb3 => ⟨_, H', I2.turned (t' := s2.toks) (fun b o hb e => (sb3.2 b hb).trans e) f.1 f.2.1 f.2.2.2.1 f.2.2.2.2.1 f.2.2.2.2.2, q⟩⟩
end
end Rc
-- W
set_option Elab.async false
set_option linter.all false
set_option maxRecDepth 100000
set_option maxHeartbeats 4000000
/-! RcW: what the head tells of the program, by names. -/
namespace Rc
open PySem PySem.Spec PyProof.Rows L2 RcHead
noncomputable def fdO (K : PySem.W.Frag) (a : Addr) : FuncData := match K.lookup a with
  | some ⟨_, _, .func fd, _⟩ => fd
  | _ => Classical.choice ⟨PySem.W.fnOf "" "" (defArgs (top 14)) [] (defScope (top 14)) .none .none .none .none none .none .none⟩
structure Wd [Tbl] (w : World) (K : PySem.W.Frag) (mg : Str → Option Value) (base : Heap) : Prop where
  kin : K.In base
  ns : base.Ns mainGlobals mg
  t : He.SaysT fas fns [] w K
  more : exB K = true
  tb : ∀ p ∈ tfs, LamX.TabB base mg (He.cT K p).1 (He.cT K p).2
  tt : Tbl.TT = [((He.cT K ("Engine", some "by_age")).2, (Str.ofString "Engine.by_age.<locals>." ++ Str.ofString "<lambda>")), ((He.cT K ("_law_full", none)).2, (Str.ofString "_law_full.<locals>." ++ Str.ofString "<lambda>"))]
section
variable [Tbl] {w : World} {K : PySem.W.Frag} {mg : Str → Option Value} {base : Heap} (W : Wd w K mg base)
include W
theorem Wd.F (i : Nat) {d : He.DefD} (e : fns[i]? = some d := by rfl) : FunD K d.name d.qual d.params d.body d.scope (d.dvs K) (d.kws K) (He.fAd K d.at_) (fdO K (He.fAd K d.at_)) := by
  obtain ⟨fd, F⟩ := W.t.d.def_ i e
  obtain ⟨oc, od, dV, kV, doc, pm, an, cdv, ct, osl, e1, e2, e3⟩ := F.ex
  have z : fdO K (He.fAd K d.at_) = fd := by
    unfold fdO
    rw [e2]
  rw [z]
  exact F
theorem Wd.kp (i : Nat) {d : He.DefD} (e : fns[i]? = some d := by rfl) : PySem.W.keepIn K (.ref (He.fAd K d.at_)) = true := (W.F i e).kp
theorem Wd.glo (i : Nat) {x : Str} (e : fas[i]? = some (.glo x) := by rfl) : mg x = some (.ref (He.ga K x)) := He.glo_ok W.kin W.ns (W.t.d.fact i e)
theorem Wd.free (i : Nat) {x : Str} (e : fas[i]? = some (.free x) := by rfl) : mg x = none := He.free_ok W.kin W.ns (W.t.d.fact i e)
theorem Wd.int (i : Nat) {x : Str} {n : Int} (e : fas[i]? = some (.int x n) := by rfl) : ∃ t, mg x = some (.int n t) := He.int_ok W.kin W.ns (W.t.d.fact i e)
theorem Wd.str (i : Nat) {x z : Str} (e : fas[i]? = some (.str x z) := by rfl) : ∃ t, mg x = some (.str z t) := He.str_ok W.kin W.ns (W.t.d.fact i e)
theorem Wd.cls (i : Nat) {x : Str} (e : fas[i]? = some (.cls x) := by rfl) : Cls K (He.ga K x) := He.cls_ok (W.t.d.fact i e)
theorem Wd.noat (i : Nat) {x f : Str} (e : fas[i]? = some (.noat x f) := by rfl) : NoAttr K (He.ga K x) f := He.noat_ok (W.t.d.fact i e)
theorem Wd.meth (i : Nat) {x m : Str} (e : fas[i]? = some (.meth x m) := by rfl) : Meth K (He.ga K x) m (He.ma K (He.ga K x) m) := He.meth_ok (W.t.d.fact i e)
theorem Wd.mkr (i : Nat) {x : Str} (e : fas[i]? = some (.mkr x) := by rfl) : Mk K (He.ga K x) (He.ma K (He.ga K x) "__init__") := He.mkr_ok (W.t.d.fact i e)
end
/-- a def whose code object is told (it makes a lambda) -/
theorem okC {P : Program} {w : World} {K : PySem.W.Frag} {mg : Str → Option Value} {base : Heap} {CX : CXT} {x qual : Str} {params : Arguments} {body : List Stmt} {scope : Scope} {dvs : List V} {kws : List (Str × V)} {p : Str × Option Str} {fd : FuncData} {N ps : List Str} {k : Nat} {sp : Sp}
    (F : FunD K x qual params body scope dvs kws (He.fAd K p) fd) (S : FnScope N ps scope) (len : ∀ vs H Q E, sp vs H Q E → vs.length = ps.length)
    (hb : ∀ (A : Around) (outer : List Env) (s : Shared) (H : Hp) (vs : List V) (Q : VK) (E : XK), Room k (A.deeper (envOfC qual scope s.heap.objs.size (He.fAd K p) (.ref (He.codeOf K p)))) → sp vs H Q E →
      ∃ t, PSs (cxOf CX P w K mg base N qual scope (He.fAd K p) (.ref (He.codeOf K p)) A outer s H E) body t ∧ t { nx := fun _ H' => Q .non H', rt := Q } (L2.start N vs) H) : FnOk P w K mg base CX (k + 1) (He.fAd K p) fd ps sp := by
  obtain ⟨oc, od, dV, kV, doc, pm, an, cdv, ct, osl, rfl, lk, hcd, _, _⟩ := F.ex
  obtain ⟨c, rfl⟩ := He.codeIn_ref hcd
  have e := He.codeOf_eq lk rfl
  rw [e] at hb
  exact fn_of lk hcd S len fun A outer s H vs Q E hr hsp => hb A outer s H vs Q E hr hsp
end Rc
-- E
set_option Elab.async false
set_option linter.all false
set_option maxRecDepth 100000
set_option maxHeartbeats 4000000
/-! RcE: a def's entry; what else is read off. -/
namespace Rc
open PySem PySem.Spec PyProof.Rows L2
variable [Tbl]
/-! ### entry -/
theorem envR_args {H : Hp} {N : Addr → Prop} : ∀ {ds : List D} {vs : List V} (k : Nat), RpL H N ds vs → EnvR H N (ds.map some ++ List.replicate k none) (vs.map some ++ List.replicate k none)
  | [], vs, 0, h => by rw [rpl_nil.mp h]; exact rfl
  | [], vs, k + 1, h => by
    have e := rpl_nil.mp h
    subst e
    exact ⟨none, List.replicate k none, rfl, fun d z => (by cases z), envR_args (ds := []) (vs := []) k RpL.nil⟩
  | d :: ds, vs, k, h => by
    obtain ⟨x, r, e1, h1, h2⟩ := rpl_cons.mp h
    subst e1
    exact ⟨some x, _, rfl, fun d' z => by cases z; exact ⟨x, rfl, h1⟩, envR_args k h2⟩
def envOf (N : List Str) (ds : List D) : Ev := ds.map some ++ List.replicate (N.length - ds.length) none
theorem envR_start {H : Hp} {R : Rg} {N : List Str} {ds : List D} {vs : List V} (h : RpL H (Out R) ds vs) : EnvR H (Out R) (envOf N ds) (L2.start N vs) := by
  unfold envOf L2.start
  rw [h.len]
  exact envR_args _ h
abbrev Gm := List D → Rg → (D → Rg → Prop) → Prop
abbrev Gx := List D → Rg → (D → Rg → Prop) → (D → Rg → Prop) → Prop
theorem entryM {G : Gm} {t : TS} {N : List Str} {vs : List V} {H : Hp} {Q : VK} {Ex : XK} (h : spM G vs H Q Ex) (k : ∀ ds R F, G ds R F → SX H R t (envOf N ds) R { nx := fun _ R' => F (.v .non) R', rt := F }) :
    t { nx := fun _ H' => Q .non H', rt := Q } (L2.start N vs) H := by
  obtain ⟨ds, R, F, hG, hH, hr, q⟩ := h
  exact k ds R F hG _ H { nx := fun _ H' => Q .non H', rt := Q } Tn.refl (envR_start hr) hH ⟨fun g R' σ' H' z t1 h1 _ => q _ R' _ H' z t1 h1 rpv, fun d R' v H' z t1 h1 r1 => q d R' v H' z t1 h1 r1, fun _ _ _ _ z => z.elim, fun _ _ _ _ z => z.elim⟩
theorem entryX {CF : Addr} {G : Gx} {t : TS} {N : List Str} {vs : List V} {H : Hp} {Q : VK} {Ex : XK} (h : spX CF G vs H Q Ex) (k : ∀ ds R F W, G ds R F W → XOk H R CF Ex W → SX H R t (envOf N ds) R { nx := fun _ R' => F (.v .non) R', rt := F }) :
    t { nx := fun _ H' => Q .non H', rt := Q } (L2.start N vs) H := by
  obtain ⟨ds, R, F, W, hG, hH, hr, q, hx⟩ := h
  exact k ds R F W hG (fun d R' H' dd x w t1 h1 e1 r1 => hx d R' H' dd x w t1 h1 e1 r1) _ H { nx := fun _ H' => Q .non H', rt := Q } Tn.refl (envR_start hr) hH ⟨fun g R' σ' H' z t1 h1 _ => q _ R' _ H' z t1 h1 rpv, fun d R' v H' z t1 h1 r1 => q d R' v H' z t1 h1 r1, fun _ _ _ _ z => z.elim, fun _ _ _ _ z => z.elim⟩
theorem lenM {G : Gm} {n : Nat} (h : ∀ ds R F, G ds R F → ds.length = n) (vs : List V) (H : Hp) (Q : VK) (Ex : XK) (z : spM G vs H Q Ex) : vs.length = n := by
  obtain ⟨ds, R, F, hG, hH, hr, q⟩ := z
  rw [hr.len]
  exact h ds R F hG
theorem lenX {CF : Addr} {G : Gx} {n : Nat} (h : ∀ ds R F W, G ds R F W → ds.length = n) (vs : List V) (H : Hp) (Q : VK) (Ex : XK) (z : spX CF G vs H Q Ex) : vs.length = n := by
  obtain ⟨ds, R, F, W, hG, hH, hr, q, hx⟩ := z
  rw [hr.len]
  exact h ds R F W hG
section
variable {H0 : Hp} {R0 : Rg} {K : PySem.W.Frag} {g : Ev} {R : Rg} {F : D → Rg → Prop} {G : Bool → Rg → Prop} {ta tb tc te tl : TE} {t u : TT} {d d1 d2 : D} {x y : V} {r : R2} {tr : TA} {E : Es} {s s' : TS} {a C : Addr} {f : Str} {i j : Int}
/-! ### what nodup tells -/
theorem sx_nd (h : (R.map (·.1)).Nodup → SX H0 R0 s g R E) : SX H0 R0 s g R E := fun σ H D t e hH k => h hH.nd σ H D t e hH k
theorem em_nd (h : (R.map (·.1)).Nodup → EM H0 R0 te g R F) : EM H0 R0 te g R F := fun σ H t e hH Q q => h hH.nd σ H t e hH Q q
theorem mem_set_ne {α : Type} {c b x : α} : ∀ {R : List α} {n : Nat}, c ∈ R → R[n]? = some b → c ≠ b → c ∈ R.set n x
  | [], _, m, _, _ => by cases m
  | p :: r, 0, m, e, ne => by
    simp at e
    subst e
    rcases List.mem_cons.mp m with z | z
    · exact absurd z ne
    · exact List.mem_cons_of_mem _ z
  | p :: r, n + 1, m, e, ne => by
    rcases List.mem_cons.mp m with z | z
    · rw [z]; exact List.mem_cons_self
    · exact List.mem_cons_of_mem _ (mem_set_ne z (by simpa using e) ne)
/-! ### expressions -/
theorem em_un {ri : V → Hp → VK → Prop} (h : EM H0 R0 ta g R fun d R1 => ∀ H x, Tn H0 R0 H R1 → Holds H R1 → Rp H (Out R1) d x → ∀ Q : VK, (∀ d' R' v H', F d' R' → Tn H R1 H' R' → Holds H' R' → Rp H' (Out R') d' v → Q v H') → ri x H Q) : EM H0 R0 (tUn ri ta) g R F := fun σ H t e hH Q q =>
  h σ H t e hH _ fun d R1 v H1 k1 t1 hH1 r1 => k1 H1 v (t.trans t1) hH1 r1 Q fun d R' v H' k t2 hH2 r2 => q d R' v H' k (t1.trans t2) hH2 r2
theorem em_neg (h : EM H0 R0 ta g R fun d R1 => ∃ i : Int, d = .v (.int i) ∧ F (.v (.int (-i))) R1) : EM H0 R0 (tUn (rU fun i => .int (-i)) ta) g R F := fun σ H t e hH Q q =>
  h σ H t e hH _ fun d R1 v H1 ⟨i, e1, k⟩ t1 hH1 r1 => ⟨i, by rw [e1] at r1; exact rp_v.mp r1, q _ R1 _ H1 k t1 hH1 rpv⟩
theorem em_orV (h : EM H0 R0 ta g R fun d R1 => ∃ b, d = .v (.bl b) ∧ (b = false → EM H0 R0 tb g R1 F) ∧ (b = true → F (.v (.bl true)) R1)) : EM H0 R0 (tOrV ta tb) g R F := fun σ H t0 e hH Q q =>
  h σ H t0 e hH _ fun d R1 v H1 ⟨b, e1, k1, k2⟩ t1 hH1 r1 => by
    rw [e1] at r1
    refine ⟨b, rp_v.mp r1, ?_⟩
    cases b with
    | false => exact iteF (k1 rfl σ H1 (t0.trans t1) (e.tn t1) hH1 Q fun d R2 v H2 k2 t2 hH2 r2 => q d R2 v H2 k2 (t1.trans t2) hH2 r2)
    | true => exact iteT (q _ R1 _ H1 (k2 rfl) t1 hH1 rpv)
theorem et_yes (k : G true R) : ET H0 R0 tYes g R G := fun σ H t e hH Q q => q true R H k Tn.refl hH
theorem em_slT {tl th : TO} (h : EM H0 R0 te g R fun d R1 => EO H0 R0 tl g R1 fun lo R2 => EO H0 R0 th g R2 fun hi R3 => ∃ ds, d = .t ds ∧ ¬ (HT.sIx ds.length 0 lo = 0 ∧ HT.sIx ds.length ds.length hi = ds.length) ∧ F (.t (cutD ds lo hi)) R3) : EM H0 R0 (tSl (rSlT K) te tl th) g R F := fun σ H t e hH Q q =>
  h σ H t e hH _ fun d R1 v H1 k1 t1 hH1 r1 => k1 σ H1 (t.trans t1) (e.tn t1) hH1 _ fun lo R2 H2 k2 t2 hH2 => k2 σ H2 (t.trans (t1.trans t2)) (e.tn (t1.trans t2)) hH2 _ fun hi R3 H3 ⟨ds, e0, nf, kk⟩ t3 hH3 => by
    subst e0
    have r3 := r1.tn (t2.trans t3)
    obtain ⟨a, xs, e1, n1, h1, h2⟩ := rp_t.mp r3
    have t13 := (t1.trans t2).trans t3
    refine ⟨a, xs, e1, SqT.of h1, by rw [h2.len]; exact nf, fun p hp => ?_⟩
    obtain ⟨m1, m2, m3⟩ := new_t hH3 (cut_rel (lo := lo) (hi := hi) h2) hp
    exact q _ R3 _ _ kk (t13.trans m1) m2 m3
theorem ro_rep {ds : List D} {n : Int} (h1 : IsL R d1 ds) (z : ds.length * n.toNat ≤ 100000) (b1 : -100000 ≤ n) (b2 : n ≤ 100000) (k : ∀ p, F (.v (.ref p)) ((p, .l (List.replicate n.toNat ds).flatten) :: R)) : RO H0 R0 rRep d1 (.v (.int n)) R F := fun H x y t hH r1 r2 Q q => by
  obtain ⟨a, xs, e1, g1, l1⟩ := h1.get hH r1
  refine ⟨a, n, xs, e1, rp_v.mp r2, g1, by omega, by omega, by rw [l1.len]; exact Evl.sz_of z, fun p hp => ?_⟩
  have rr : ∀ k, RpL H (Out R) (List.replicate k ds).flatten (List.replicate k xs).flatten := fun k => by
    induction k with
    | zero => exact RpL.nil
    | succ k ih => rw [List.replicate_succ, List.replicate_succ, List.flatten_cons, List.flatten_cons]; exact l1.app ih
  obtain ⟨n1, n2⟩ := hH.new (c := .l (List.replicate n.toNat ds).flatten) (o := .lst (List.replicate n.toNat xs).flatten) hp ⟨_, upd_same, (rr n.toNat).mono fun b o n q _ => ⟨fun p' hp' => by
      rcases List.mem_cons.mp hp' with e' | e'
      · rw [e']; exact (ne_of_none q hp).symm
      · exact n p' e', ex_new hp b o q⟩⟩
  exact q _ _ _ _ (k p) n2 n1 rpv
/-! ### a lock on a dict -/
theorem em_lock {n : Nat} {kvs : List (Key × V)} (m : R[n]? = some (a, RC.k (vK kvs))) (h : ∀ o, EM H0 R0 te g (R.set n (a, .fz o (vK kvs))) fun d R' => ∃ n', R'[n']? = some (a, RC.fz o (vK kvs)) ∧ F d (R'.set n' (a, .k (vK kvs)))) : EM H0 R0 (tLockE te) g R F := fun σ H t e hH Q q => by
  have h1 := k_at hH (List.mem_of_getElem? m)
  obtain ⟨ws, g1, g2⟩ := hH.at_ _ (List.mem_of_getElem? m)
  refine ⟨a, _, h1, True.intro, fun od => ?_⟩
  obtain ⟨m1, m2⟩ := hH.set m (c' := .fz od (vK kvs)) (.frz od (.dK kvs)) fun N eN mono => ⟨kvs, upd_same, by rw [rpk_vK g2, ← eN] at g2; exact rpk_up mono g2⟩
  refine h od σ _ (t.trans m2) (e.tn m2) m1 _ fun d R' v H' ⟨n', m', k⟩ t2 hH2 r2 => ⟨fz_at hH2 (List.mem_of_getElem? m'), ?_⟩
  obtain ⟨ws2, g3, g4⟩ := hH2.at_ _ (List.mem_of_getElem? m')
  obtain ⟨m3, m4⟩ := hH2.set m' (c' := .k (vK kvs)) (.dK kvs) fun N eN mono => ⟨kvs, upd_same, by rw [rpk_vK g4, ← eN] at g4; exact rpk_up mono g4⟩
  exact q d _ v _ k ((m2.trans t2).trans m4) m3 (r2.tn m4)
theorem sx_lock {n : Nat} {kvs : List (Key × V)} (m : R[n]? = some (a, RC.k (vK kvs))) (h : ∀ o, SX H0 R0 s g (R.set n (a, .fz o (vK kvs))) { nx := fun g' R' => ∃ n', R'[n']? = some (a, RC.fz o (vK kvs)) ∧ E.nx g' (R'.set n' (a, .k (vK kvs))), rt := fun d R' => ∃ n', R'[n']? = some (a, RC.fz o (vK kvs)) ∧ E.rt d (R'.set n' (a, .k (vK kvs))) }) : SX H0 R0 (tLock s) g R E := fun σ H D t e hH k => by
  have h1 := k_at hH (List.mem_of_getElem? m)
  obtain ⟨ws, g1, g2⟩ := hH.at_ _ (List.mem_of_getElem? m)
  refine ⟨a, _, h1, True.intro, fun od => ?_⟩
  obtain ⟨m1, m2⟩ := hH.set m (c' := .fz od (vK kvs)) (.frz od (.dK kvs)) fun N eN mono => ⟨kvs, upd_same, by rw [rpk_vK g2, ← eN] at g2; exact rpk_up mono g2⟩
  have back : ∀ {H' : Hp} {R' : Rg} {n' : Nat}, R'[n']? = some (a, RC.fz od (vK kvs)) → Holds H' R' → H' a = some (.frz od (.dK kvs)) ∧ Holds (upd H' a (.dK kvs)) (R'.set n' (a, .k (vK kvs))) ∧ Tn H' R' (upd H' a (.dK kvs)) (R'.set n' (a, .k (vK kvs))) := fun {H' R' n'} m' hH2 => by
    obtain ⟨ws2, g3, g4⟩ := hH2.at_ _ (List.mem_of_getElem? m')
    exact ⟨fz_at hH2 (List.mem_of_getElem? m'), hH2.set m' (c' := .k (vK kvs)) (.dK kvs) fun N eN mono => ⟨kvs, upd_same, by rw [rpk_vK g4, ← eN] at g4; exact rpk_up mono g4⟩⟩
  refine h od σ _ _ (t.trans m2) (e.tn m2) m1 ⟨fun g' R' σ' H' ⟨n', m', kk⟩ t2 hH2 e2 => ?_, fun d R' v H' ⟨n', m', kk⟩ t2 hH2 r2 => ?_, fun _ _ _ _ z => z.elim, fun _ _ _ _ z => z.elim⟩
  · obtain ⟨b1, b2, b3⟩ := back m' hH2
    exact ⟨b1, k.nx g' _ σ' _ kk (t2.trans b3) b2 (e2.tn b3)⟩
  · obtain ⟨b1, b2, b3⟩ := back m' hH2
    exact ⟨b1, k.rt d _ v _ kk (t2.trans b3) b2 (r2.tn b3)⟩
/-! ### statements -/
theorem sx_never (h : False) : SX H0 R0 tNever g R E := h.elim
theorem sx_asgG {tg : TG} {js : List Nat} (h : EM H0 R0 te g R fun d R1 => GX H0 R0 tg js d g R1 E.nx) : SX H0 R0 (tAsg te tg) g R E := fun σ H D t e hH k =>
  h σ H t e hH _ fun d R1 v H1 k1 t1 hH1 r1 => k1 σ H1 v (t.trans t1) (e.tn t1) hH1 r1 _ fun g' R' σ' H' kk t2 hH2 e2 _ _ => k.nx g' R' σ' H' kk ((t.trans t1).trans t2) hH2 e2
theorem sx_aug {m : Nat} (l : g[m]? = some (some (.v (.int i)))) (h : EM H0 R0 te g R fun d R1 => ∃ j : Int, d = .v (.int j) ∧ E.nx (g.set m (some (.v (.int (i + j))))) R1) : SX H0 R0 (tAug m te (ipI fun i j => i + j)) g R E := fun σ H D t e hH k => by
  obtain ⟨v, h1, h2⟩ := e.get l
  rw [rp_v.mp h2] at h1
  exact ⟨_, h1, h σ H t e hH _ fun d R1 v H1 ⟨j, e1, kk⟩ t1 hH1 r1 => ⟨i, j, rfl, by rw [e1] at r1; exact rp_v.mp r1, k.nx _ R1 _ H1 kk (t.trans t1) hH1 ((e.tn t1).set rpv)⟩⟩
theorem sx_while (I : Nat → Ev → Rg → Prop) (m0 : Nat) (i0 : I m0 g R) (st : ∀ m g' R', I m g' R' → ET H0 R0 t g' R' fun b R1 => (b = true → SX H0 R0 s g' R1 { nx := fun g2 R2 => ∃ m', m' < m ∧ I m' g2 R2, ct := fun g2 R2 => ∃ m', m' < m ∧ I m' g2 R2, bk := E.nx, rt := E.rt }) ∧ (b = false → E.nx g' R1)) : SX H0 R0 (tWhile t s) g R E := fun σ H D t0 e hH k => by
  refine ⟨fun m σ' H' => ∃ g' R', I m g' R' ∧ Tn H0 R0 H' R' ∧ Holds H' R' ∧ EnvR H' (Out R') g' σ', ⟨m0, g, R, i0, t0, hH, e⟩, ?_⟩
  rintro m σ' H' ⟨g', R', hi, t1, hH1, e1⟩
  refine st m g' R' hi σ' H' t1 e1 hH1 _ fun b R1 H1 ⟨k1, k2⟩ t2 hH2 => ?_
  cases b with
  | false => exact iteF (k.nx g' R1 σ' H1 (k2 rfl) (t1.trans t2) hH2 (e1.tn t2))
  | true =>
    have back : ∀ g2 R2 σ2 H2, (∃ m', m' < m ∧ I m' g2 R2) → Tn H0 R0 H2 R2 → Holds H2 R2 → EnvR H2 (Out R2) g2 σ2 → ∃ m', m' < m ∧ ∃ g' R', I m' g' R' ∧ Tn H0 R0 H2 R' ∧ Holds H2 R' ∧ EnvR H2 (Out R') g' σ2 := fun g2 R2 σ2 H2 ⟨m', lt, z⟩ z1 z2 z3 => ⟨m', lt, g2, R2, z, z1, z2, z3⟩
    exact iteT ⟨_, fun σ3 H3 z => z, k1 rfl σ' H1 _ (t1.trans t2) (e1.tn t2) hH2 ⟨fun g2 R2 σ2 H2 z z1 z2 z3 => back g2 R2 σ2 H2 z z1 z2 z3, fun d R2 v H2 z z1 z2 z3 => k.rt d R2 v H2 z z1 z2 z3, fun g2 R2 σ2 H2 z z1 z2 z3 => k.nx g2 R2 σ2 H2 z z1 z2 z3, fun g2 R2 σ2 H2 z z1 z2 z3 => back g2 R2 σ2 H2 z z1 z2 z3⟩⟩
/-! ### isinstance -/
inductive TyD (R : Rg) : D → String → Prop where
  | non : TyD R (.v .non) "NoneType"
  | bl (b : Bool) : TyD R (.v (.bl b)) "bool"
  | int (i : Int) : TyD R (.v (.int i)) "int"
  | str (x : Str) : TyD R (.v (.str x)) "str"
  | l (ds : List D) : TyD R (.l ds) "list"
  | t (ds : List D) : TyD R (.t ds) "tuple"
  | c {a : Addr} {ds : List D} (m : (a, RC.l ds) ∈ R) : TyD R (.v (.ref a)) "list"
theorem TyD.get {H : Hp} {T : String} (h : TyD R d T) (hH : Holds H R) (r : Rp H (Out R) d x) : TyX K H x (.type T) := by
  cases h with
  | non => rw [rp_v.mp r]; exact .base .non
  | bl b => rw [rp_v.mp r]; exact .base (.bl b)
  | int i => rw [rp_v.mp r]; exact .base (.int i)
  | str z => rw [rp_v.mp r]; exact .base (.str z)
  | l ds => obtain ⟨a, xs, e, _, h1, _⟩ := rp_l.mp r; rw [e]; exact .base (.lst h1)
  | t ds => obtain ⟨a, xs, e, _, h1, _⟩ := rp_t.mp r; rw [e]; exact .base (.tup h1)
  | c m => obtain ⟨xs, h1, _⟩ := hH.at_ _ m; rw [rp_v.mp r]; exact .base (.lst h1)
theorem ra_isi {T T' : String} {b : Bool} (h : TyD R d T) (e : PySem.W.kitOne K (.type T) (.type T') = some b) (k : F (.v (.bl b)) R) : RA H0 R0 (rIsi K) [d, .v (.ty T')] R F := fun H xs t hH r Q q => by
  obtain ⟨x, y, e1, r1, r2⟩ := rpl2 r
  exact ⟨x, .ty T', _, _, b, by rw [e1, rp_v.mp r2], .ty T', h.get hH r1, e, q _ R _ H k Tn.refl hH rpv⟩
theorem ra_isiT {T A B : String} {b : Bool} (h : TyD R d T) (e : PySem.W.kitAny K (.type T) [.type A, .type B] = some b) (k : F (.v (.bl b)) R) : RA H0 R0 (rIsiT K) [d, .t [.v (.ty A), .v (.ty B)]] R F := fun H xs t hH r Q q => by
  obtain ⟨x, y, e1, r1, r2⟩ := rpl2 r
  obtain ⟨p, cs, e2, _, h1, h2⟩ := rp_t.mp r2
  obtain ⟨c1, c2, e3, r3, r4⟩ := rpl2 h2
  refine ⟨x, p, cs, _, [.type A, .type B], b, by rw [e1, e2], h1, ?_, h.get hH r1, e, q _ R _ H k Tn.refl hH rpv⟩
  rw [e3, rp_v.mp r3, rp_v.mp r4]
  exact .cons (.ty A) (.cons (.ty B) .nil)
end
end Rc
-- T
set_option Elab.async false
set_option linter.all false
set_option maxRecDepth 100000
set_option maxHeartbeats 4000000
/-! RcT: a try of several clauses, of which only the first is ever taken. -/
namespace Rc
open PySem PySem.Spec PyProof.Rows L2
def wOne (K : PySem.W.Frag) (c : Value) (i : Nat) (ts : Addr → Value → Option Addr → TS) (D : Ends) : WX := fun cls d τ J =>
  PySem.W.exmOne K cls c = some true ∧ ∀ a, J a = none → ts a cls d ⟨fun u G => D.nx (u.set i none) G, D.rt, fun u G => D.bk (u.set i none) G, fun u G => D.ct (u.set i none) G⟩ (τ.set i (some (.ref a))) J
section
variable {X : Cx} {x n : Str} {c : Value} {i : Nat} {body suite : List Stmt} {b₀ : Stmt} {np pos pos' : Pos} {tb : WX → TS} {ts : Addr → Value → Option Addr → TS} {more : List ExceptHandler}
theorem ps_try_one (stk : X.stack = X.env :: X.outer) (frm : X.env.frame = some X.env.locals) (nd : X.N.Nodup) (at_ : X.N[i]? = some n) (knd : X.env.kindOf n = some .local) (nms : Names X x c)
    (bod : ∀ (W : WX) (pn : List (Addr × Obj)) (xe : Value → Shared → Prop), Takes (X.tr pn xe) W → PassesOwn (model X.prog X.w) X.A X.env xe → PSs (X.tr pn xe) body (tb W))
    (sui : ∀ (a : Addr) (oe : Obj) (cls : Value) (d : Option Addr) (pn : List (Addr × Obj)), Zc cls d oe → (∃ vs, oe.data = .fields vs) → PSs (X.suite a ((a, oe) :: pn)) (b₀ :: suite) (ts a cls d)) :
    PS X (.Try body (.ExceptHandler (some (.Name x np)) (some n) (b₀ :: suite) pos' :: more) [] [] pos) (fun D σ H => tb (wOne X.K c i ts D) D σ H) := ⟨fun pins s σ H D I rd => by
  have fine := I.ok
  have fr2 : X.A.frames = some (X.env :: X.outer) := fine.frames.trans (congrArg some stk)
  refine wpAny_Try_except (wpAny_mono ((bod (wOne X.K c i ts D) (X.pn ++ pins) (fun e r => wpAny (model X.prog X.w) X.A (noteFrame e X.env) (fun _ r2 => wpAny (model X.prog X.w) X.A (setFlight e none) (fun _ r3 =>
    wpAny (model X.prog X.w) X.A (handleBy e X.env (.ExceptHandler (some (.Name x np)) (some n) (b₀ :: suite) pos' :: more)) (SP X pins D) X.xe r3) X.xe r2) X.xe r) (fun u r up => ?cat1) PassesOwn.looking).run [] s σ H D (I.toTry _) rd) (fun f r sp => ?fine) fun e r q => q)
  case fine =>
    cases f with
    | ret u => obtain ⟨v, σ1, H1, J, rel, q⟩ := sp; exact ⟨v, σ1, H1, J.ofTry fine, rel, q⟩
    | next => obtain ⟨σ1, H1, J, q⟩ := sp; exact wpAny_execs_nil ⟨σ1, H1, J.ofTry fine, q⟩
    | brk => obtain ⟨σ1, H1, J, q⟩ := sp; exact ⟨σ1, H1, J.ofTry fine, q⟩
    | cont => obtain ⟨σ1, H1, J, q⟩ := sp; exact ⟨σ1, H1, J.ofTry fine, q⟩
  obtain ⟨a, B, sI, pi2, σ1, H1, cls, d, rfl, J0, nb, grow, sk, free, os, ag, yes, go⟩ := up
  have J : Inv X pins σ1 H1 sI := J0.ofTry fine
  have sk2 : Sky B (X.env :: X.outer) a (Zc cls d) X.env.locals r.heap := stk ▸ sk
  refine (show wpAny (model X.prog X.w) X.A (noteFrame (.ref a) X.env) _ _ _ from Sky.land Zc.steady fr2 frm sk2 fun h3 fl3 up3 => ?_)
  have J3 : Inv X pins σ1 H1 { r with heap := h3 } := J.landed nb fl3.1 (grow.trans up3) os ag
  obtain ⟨o3, w3, at3, z3, dat3⟩ := fl3.there
  have nfr : a ∉ frs (X.env :: X.outer) := fun hm => by
    obtain ⟨_, o', e', hnf⟩ := fl3.2.2.1.mem hm
    rw [at3] at e'
    cases e'
    exact hnf _ dat3
  have nL : a ≠ X.env.locals := fun z => nfr (List.mem_filterMap.mpr ⟨X.env, List.mem_cons_self, frm.trans (congrArg some z.symm)⟩)
  have nF : a ∉ X.fs := fun hm => by
    obtain ⟨v, hv, q⟩ := List.mem_filterMap.mp hm
    exact nfr (List.mem_filterMap.mpr ⟨v, List.mem_cons_of_mem _ hv, q⟩)
  have S3 := J3.suite at3 dat3 free nL nF
  have looks : PySem.W.Looks (model X.prog X.w) h3 (typeOf (.ref a)) cls := fun A Q E t k q => wpAny_typeOf_ref (k _ _ at3) (by rw [z3.1]; exact q)
  have named : ∀ {Q E : Value → Shared → Prop}, Q c { r with heap := h3 } → wpAny (model X.prog X.w) (X.A.mark (some (.ref a))) (eval (.Name x np) X.env) Q E { r with heap := h3 } := fun {Q E} q => by
    obtain ⟨hg, hd, hm | ⟨hm, hv, hn⟩⟩ := nms
    · exact ld_glob (X := X.suite a ((a, o3) :: (X.pn ++ pins))) S3 hg hm q hd
    · exact ld_blt (X := X.suite a ((a, o3) :: (X.pn ++ pins))) S3 hg hm hv q hn hd
  refine wpAny_handleBy_cons (codeAny_handlers_test (named ((PySem.W.exm_one (M := model X.prog X.w) J3.kIn looks yes).here ?_))) (by intro q; cases q)
  refine codeAny_handlers_suite_as (HandSPX.lands_againZ fl3 fun h4 fl4 up4 => ?_)
  have J4 : Inv X pins σ1 H1 { r with heap := h4 } := J.landed nb fl4.1 ((grow.trans up3).trans up4) os ag
  obtain ⟨o4, w4, at4, z4, dat4⟩ := fl4.there
  refine store_ok (X := X.suite a ((a, o4) :: (X.pn ++ pins))) (v := .ref a) (J4.suite at4 dat4 free nL nF) nd at_ (.inl knd) rfl (fun s5 S5 => ?_) (.inr knd)
  refine wpAny_mono ((sui a o4 cls d (X.pn ++ pins) z4 ⟨_, dat4⟩).run [] s5 _ H1 _ S5 (go a free)) (fun f s6 sp => ?_) (fun _ _ z => z.elim)
  have bye : ∀ {σ6 : L2.St} {H6 : Hp} {Q : Shared → Prop}, Inv (X.suite a ((a, o4) :: (X.pn ++ pins))) [] σ6 H6 s6 → (∀ s7, Inv X pins (σ6.set i none) H6 s7 → Q s7) →
      wpAny (model X.prog X.w) X.A (do bindName X.env n .none; unbindBehindTheSuite X.env n pos') (fun _ s7 => Q s7) X.xe s6 := fun {σ6 H6 Q} S6 hq => gone_ok (S6.unsuite fine) nd at_ knd hq
  cases f with
  | ret u => obtain ⟨v6, σ6, H6, S6, r6, q6⟩ := sp; exact bye S6 fun s7 J7 => ⟨_, _, _, J7, r6, q6⟩
  | next => obtain ⟨σ6, H6, S6, q6⟩ := sp; exact bye S6 fun s7 J7 => ⟨_, _, J7, q6⟩
  | brk => obtain ⟨σ6, H6, S6, q6⟩ := sp; exact bye S6 fun s7 J7 => ⟨_, _, J7, q6⟩
  | cont => obtain ⟨σ6, H6, S6, q6⟩ := sp; exact bye S6 fun s7 J7 => ⟨_, _, J7, q6⟩⟩
end
end Rc
-- L
set_option Elab.async false
set_option linter.all false
set_option maxRecDepth 100000
set_option maxHeartbeats 4000000
/-! RcL: comprehensions by their items. -/
namespace Rc
open PySem PySem.Spec PyProof.Rows L2
variable [Tbl]
section
variable {H0 : Hp} {R0 : Rg} {K : PySem.W.Frag} {g : Ev} {R : Rg} {F : D → Rg → Prop} {G : Bool → Rg → Prop} {ta tb tc te tl td : TE} {tt : TT} {tg : TG} {vs : List Nat} {d d1 d2 : D} {x y : V} {r : R2} {tr : TA} {E : Es} {s s' : TS} {a C : Addr} {f : Str}
/-- a turn of a comprehension: the item d in the region Rx, which is no smaller than R1; what it gives -/
abbrev Trn (H1 : Hp) (R1 : Rg) (tg : TG) (tt : TT) (te : TE) (vs : List Nat) (g : Ev) (Rx : Rg) (d : D) (o : Option D) : Prop :=
  GX H1 R1 tg vs d (wipeE g vs) Rx fun g2 R2 => R2 = Rx ∧ ET H1 R1 tt g2 Rx fun b R3 => R3 = Rx ∧ (b = true → EM H1 R1 te g2 Rx fun d' R4 => R4 = Rx ∧ o = some d') ∧ (b = false → o = none)
theorem atI_0 {d : D} {ds : List D} : atI (d :: ds) 0 = some d := by
  unfold atI ixN
  simp
theorem outs_map {α : Type} (xs : List α) (f : α → Option D) : outs xs.length (fun i => (xs[i]?).bind f) = xs.filterMap f := by
  unfold outs
  induction xs with
  | nil => rfl
  | cons x r ih =>
    rw [List.length_cons, List.range_succ_eq_map, List.filterMap_cons]
    have e : ((x :: r)[0]?).bind f = f x := rfl
    rw [e, List.filterMap_map]
    have e2 : ((fun i => ((x :: r)[i]?).bind f) ∘ Nat.succ) = fun i => (r[i]?).bind f := by
      funext i
      show ((x :: r)[i + 1]?).bind f = _
      rw [List.getElem?_cons_succ]
    rw [e2, ih, List.filterMap_cons]
theorem ei_listI (h : EM H0 R0 tl g R fun d R1 => ∃ ds, IsL R1 d ds ∧ PIx (fun i R d' => IsL R d ds ∧ ds[i]? = some d') (fun i R => IsL R d ds ∧ ds.length ≤ i) R1) : EI H0 R0 (iList K tl) g R PIx := fun σ H t e hH Rr q =>
  h σ H t e hH _ fun d R1 v H1 ⟨ds, hl, k⟩ t1 hH1 r1 => by
    obtain ⟨a, xs, e2, h1, h2⟩ := hl.get hH1 r1
    refine ⟨a, e2, ⟨xs, SqL.of h1⟩, q _ _ _ R1 H1 k ⟨fun i H R d' t hH ⟨hl', hi⟩ => ?_, fun i H R t hH ⟨hl', hi⟩ => ?_⟩ t1 hH1⟩
    · obtain ⟨a', xs', e3, h3, h4⟩ := hl'.get hH (r1.tn t)
      rw [e2] at e3
      cases e3
      obtain ⟨x, e4, r4⟩ := h4.get hi
      exact ⟨⟨xs', x, SqL.of h3, e4⟩, fun y H' ⟨eH, hy⟩ => by
        subst eH
        have e5 := hy xs' (SqL.of h3)
        rw [e4] at e5; cases e5
        exact ⟨Tn.refl, hH, r4, fun _ _ z => z⟩⟩
    · obtain ⟨a', xs', e3, h3, h4⟩ := hl'.get hH (r1.tn t)
      rw [e2] at e3
      cases e3
      exact ⟨xs', SqL.of h3, by rw [h4.len]; exact hi⟩
theorem IsL.sub {R R' : Rg} {ds : List D} (h : IsL R d ds) (s : ∀ c ∈ R, c ∈ R') : IsL R' d ds := by
  cases h with
  | d => exact .d
  | c m => exact .c (s _ m)
/-- over a list -/
theorem em_lcI (h : EM H0 R0 tl g R fun d R1 => ∃ (α : Type) (xs : List α) (en : α → D) (f : α → Option D), IsL R1 d (xs.map en) ∧ xs.length ≤ 100000 ∧ (∀ x ∈ xs, ∀ H1 Rx, (∀ c ∈ R1, c ∈ Rx) → Trn H1 R1 tg tt te vs g Rx (en x) (f x)) ∧ F (.l (xs.filterMap f)) R1) : EM H0 R0 (tLc (iList K tl) tg tt te vs) g R F :=
  em_lc (ei_listI fun σ H t e hH Q q => h σ H t e hH Q fun d R' v H' ⟨α, xs, en, f, hl, hz, st, k⟩ t1 hH1 r1 => q d R' v H' ⟨_, hl, xs.length, fun i => (xs[i]?).bind f, hz, fun Rx s => ⟨hl.sub s, by rw [List.length_map]; exact Nat.le_refl _⟩, fun i hi Rx s => ⟨en xs[i], ⟨hl.sub s, by rw [List.getElem?_map, List.getElem?_eq_getElem hi]; rfl⟩, fun H1 => by
    have z := st xs[i] (List.getElem_mem hi) H1 Rx s
    have e1 : (xs[i]?).bind f = f xs[i] := by rw [List.getElem?_eq_getElem hi]; rfl
    rw [← e1] at z
    exact z⟩, by rw [outs_map]; exact k⟩ t1 hH1 r1)
/-- .. the new list a cell -/
theorem em_lcIC (h : EM H0 R0 tl g R fun d R1 => ∃ (α : Type) (xs : List α) (en : α → D) (f : α → Option D), IsL R1 d (xs.map en) ∧ xs.length ≤ 100000 ∧ (∀ x ∈ xs, ∀ H1 Rx, (∀ c ∈ R1, c ∈ Rx) → Trn H1 R1 tg tt te vs g Rx (en x) (f x)) ∧ ∀ p, F (.v (.ref p)) ((p, .l (xs.filterMap f)) :: R1)) : EM H0 R0 (tLc (iList K tl) tg tt te vs) g R F :=
  em_lcC (ei_listI fun σ H t e hH Q q => h σ H t e hH Q fun d R' v H' ⟨α, xs, en, f, hl, hz, st, k⟩ t1 hH1 r1 => q d R' v H' ⟨_, hl, xs.length, fun i => (xs[i]?).bind f, hz, fun Rx s => ⟨hl.sub s, by rw [List.length_map]; exact Nat.le_refl _⟩, fun i hi Rx s => ⟨en xs[i], ⟨hl.sub s, by rw [List.getElem?_map, List.getElem?_eq_getElem hi]; rfl⟩, fun H1 => by
    have z := st xs[i] (List.getElem_mem hi) H1 Rx s
    have e1 : (xs[i]?).bind f = f xs[i] := by rw [List.getElem?_eq_getElem hi]; rfl
    rw [← e1] at z
    exact z⟩, by rw [outs_map]; exact k⟩ t1 hH1 r1)
/-- over a tuple -/
theorem em_lcT (h : EM H0 R0 tl g R fun d R1 => ∃ (α : Type) (xs : List α) (en : α → D) (f : α → Option D), d = .t (xs.map en) ∧ xs.length ≤ 100000 ∧ (∀ x ∈ xs, ∀ H1 Rx, (∀ c ∈ R1, c ∈ Rx) → Trn H1 R1 tg tt te vs g Rx (en x) (f x)) ∧ F (.l (xs.filterMap f)) R1) : EM H0 R0 (tLc (iTup K tl) tg tt te vs) g R F :=
  em_lc (ei_tup fun σ H t e hH Q q => h σ H t e hH Q fun d R' v H' ⟨α, xs, en, f, hl, hz, st, k⟩ t1 hH1 r1 => q d R' v H' ⟨_, hl, xs.length, fun i => (xs[i]?).bind f, hz, fun Rx s => (show (xs.map en).length ≤ xs.length by rw [List.length_map]; exact Nat.le_refl _), fun i hi Rx s => ⟨en xs[i], (show (xs.map en)[i]? = some (en xs[i]) by rw [List.getElem?_map, List.getElem?_eq_getElem hi]; rfl), fun H1 => by
    have z := st xs[i] (List.getElem_mem hi) H1 Rx s
    have e1 : (xs[i]?).bind f = f xs[i] := by rw [List.getElem?_eq_getElem hi]; rfl
    rw [← e1] at z
    exact z⟩, by rw [outs_map]; exact k⟩ t1 hH1 r1)
/-- zip of two lists (two tuples) -/
theorem em_lcZ {ti : TA} (h : EA H0 R0 ti g R fun es R1 => ∃ (ds fs : List D) (f : D × D → Option D), (es = [.l ds, .l fs] ∨ es = [.t ds, .t fs]) ∧ ds.length = fs.length ∧ ds.length ≤ 100000 ∧ (∀ x ∈ ds.zip fs, ∀ H1 Rx, (∀ c ∈ R1, c ∈ Rx) → Trn H1 R1 tg tt te vs g Rx (.t [x.1, x.2]) (f x)) ∧ F (.l ((ds.zip fs).filterMap f)) R1) : EM H0 R0 (tLc (RZ.iZipA K ti) tg tt te vs) g R F :=
  em_lc (ei_zip fun σ H t e hH Q q => h σ H t e hH Q fun es R' v H' ⟨ds, fs, f, hl, le, hz, st, k⟩ t1 hH1 r1 => q es R' v H' ⟨ds, fs, hl, le, (ds.zip fs).length, fun i => ((ds.zip fs)[i]?).bind f, by rw [List.length_zip, ← le, Nat.min_self]; exact hz, fun Rx s => (show ds.length ≤ (ds.zip fs).length by rw [List.length_zip, ← le, Nat.min_self]; exact Nat.le_refl _), fun i hi Rx s => by
    have h1 : i < ds.length := by rw [List.length_zip, ← le, Nat.min_self] at hi; exact hi
    have h2 : i < fs.length := by rw [← le]; exact h1
    have e0 : (ds.zip fs)[i] = (ds[i], fs[i]) := List.getElem_zip
    refine ⟨.t [ds[i], fs[i]], ⟨ds[i], fs[i], List.getElem?_eq_getElem h1, List.getElem?_eq_getElem h2, rfl⟩, fun H1 => ?_⟩
    have z := st (ds.zip fs)[i] (List.getElem_mem hi) H1 Rx s
    have e1 : ((ds.zip fs)[i]?).bind f = f (ds.zip fs)[i] := by rw [List.getElem?_eq_getElem hi]; rfl
    rw [← e1, e0] at z
    exact z, by rw [outs_map]; exact k⟩ t1 hH1 r1)
/-- name = a comprehension over a dict that is locked -/
theorem sx_lockAsg {i : Nat} (h : EM H0 R0 (tLockE te) g R fun d R' => E.nx (g.set i (some d)) R') : SX H0 R0 (tLock (tAsg te (gName i))) g R E := fun σ H D t e hH k =>
  h σ H t e hH (fun v H' => D.nx (σ.set i (some v)) H') fun d R' v H' kk t' hH' r => k.nx _ R' _ H' kk (t.trans t') hH' ((e.tn t').set r)
theorem set_set_self {α : Type} {x y : α} : ∀ {l : List α} {n : Nat}, l[n]? = some y → (l.set n x).set n y = l
  | [], n, e => by simp at e
  | p :: r, 0, e => by simp at e; subst e; rfl
  | p :: r, n + 1, e => by rw [List.set_cons_succ, List.set_cons_succ, set_set_self (by simpa using e)]
theorem getElem?_set_it {α : Type} {x y : α} {l : List α} {n : Nat} (e : l[n]? = some y) : (l.set n x)[n]? = some x := List.getElem?_set_self (List.getElem?_eq_some_iff.mp e).1
/-- over a dict's values, the dict locked -/
theorem em_lockV {α : Type} {n : Nat} {xs : List α} {en : α → Key × V} (m : R[n]? = some (a, RC.k (vK (xs.map en)))) (f : α → Option D) (hz : xs.length ≤ 100000) (hd : ∀ o, EM H0 R0 td g (R.set n (a, .fz o (vK (xs.map en)))) fun d R1 => R1 = R.set n (a, .fz o (vK (xs.map en))) ∧ d = .v (.ref a))
    (st : ∀ o, ∀ x ∈ xs, ∀ H1 Rx, (∀ c ∈ R.set n (a, .fz o (vK (xs.map en))), c ∈ Rx) → Trn H1 (R.set n (a, .fz o (vK (xs.map en)))) tg tt te vs g Rx (.v (en x).2) (f x)) (k : F (.l (xs.filterMap f)) R) : EM H0 R0 (tLockE (tLc (iVals td) tg tt te vs)) g R F := by
  refine em_lock m fun o => em_lc (ei_vals fun σ H t e hH Q q => hd o σ H t e hH Q fun d R' v H' ⟨eR, ed⟩ t1 hH1 r1 => ?_)
  subst eR
  refine q d _ v H' ⟨a, o, xs.map en, ed, List.mem_of_getElem? (getElem?_set_it m), xs.length, fun i => (xs[i]?).bind f, hz, fun Rx s => ⟨s _ (List.mem_of_getElem? (getElem?_set_it m)), by rw [List.length_map]; exact Nat.le_refl _⟩, fun i hi Rx s => ⟨.v (en xs[i]).2, ⟨s _ (List.mem_of_getElem? (getElem?_set_it m)), en xs[i], by rw [List.getElem?_map, List.getElem?_eq_getElem hi]; rfl, rfl⟩, fun H1 => ?_⟩, n, getElem?_set_it m, ?_⟩ t1 hH1 r1
  · have z := st o xs[i] (List.getElem_mem hi) H1 Rx s
    have e1 : (xs[i]?).bind f = f xs[i] := by rw [List.getElem?_eq_getElem hi]; rfl
    rw [← e1] at z
    exact z
  · rw [outs_map, set_set_self m]
    exact k
/-- over a dict's keys, the dict locked -/
theorem em_lockK {α : Type} {n : Nat} {xs : List α} {en : α → Key × V} (m : R[n]? = some (a, RC.k (vK (xs.map en)))) (f : α → Option D) (hz : xs.length ≤ 100000) (hd : ∀ o, EM H0 R0 td g (R.set n (a, .fz o (vK (xs.map en)))) fun d R1 => R1 = R.set n (a, .fz o (vK (xs.map en))) ∧ d = .v (.ref a))
    (st : ∀ o, ∀ x ∈ xs, ∀ H1 Rx, (∀ c ∈ R.set n (a, .fz o (vK (xs.map en))), c ∈ Rx) → Trn H1 (R.set n (a, .fz o (vK (xs.map en)))) tg tt te vs g Rx (.v (kV (en x).1)) (f x)) (k : F (.l (xs.filterMap f)) R) : EM H0 R0 (tLockE (tLc (iKeys td) tg tt te vs)) g R F := by
  refine em_lock m fun o => em_lc (ei_keys fun σ H t e hH Q q => hd o σ H t e hH Q fun d R' v H' ⟨eR, ed⟩ t1 hH1 r1 => ?_)
  subst eR
  refine q d _ v H' ⟨a, o, xs.map en, ed, List.mem_of_getElem? (getElem?_set_it m), xs.length, fun i => (xs[i]?).bind f, hz, fun Rx s => ⟨s _ (List.mem_of_getElem? (getElem?_set_it m)), by rw [List.length_map]; exact Nat.le_refl _⟩, fun i hi Rx s => ⟨.v (kV (en xs[i]).1), ⟨s _ (List.mem_of_getElem? (getElem?_set_it m)), en xs[i], by rw [List.getElem?_map, List.getElem?_eq_getElem hi]; rfl, rfl⟩, fun H1 => ?_⟩, n, getElem?_set_it m, ?_⟩ t1 hH1 r1
  · have z := st o xs[i] (List.getElem_mem hi) H1 Rx s
    have e1 : (xs[i]?).bind f = f xs[i] := by rw [List.getElem?_eq_getElem hi]; rfl
    rw [← e1] at z
    exact z
  · rw [outs_map, set_set_self m]
    exact k
/-- what comes behind takes another order, and less -/
theorem sub_of {H : Hp} {R' R2 X : Rg} (p : R'.Perm (X ++ R2)) (h : Holds H R') : Holds H R2 ∧ Tn H R' H R2 := by
  have h1 := h.perm p
  have go : ∀ X : Rg, Holds H (X ++ R2) → Holds H R2 ∧ Tn H (X ++ R2) H R2 := by
    intro X
    induction X with
    | nil => exact fun h => ⟨h, Tn.refl⟩
    | cons c r ih =>
      intro h
      obtain ⟨t1, h2⟩ := drop1 (R := r ++ R2) h
      obtain ⟨h3, t2⟩ := ih h2
      exact ⟨h3, t1.trans t2⟩
  obtain ⟨h2, t2⟩ := go X h1
  exact ⟨h2, (Tn.of_perm p).trans t2⟩
theorem sx_post (h : SX H0 R0 s g R { nx := fun g' R' => ∃ R2 X, R'.Perm (X ++ R2) ∧ E.nx g' R2, rt := fun d R' => ∃ R2 X, R'.Perm (X ++ R2) ∧ E.rt d R2, bk := E.bk, ct := E.ct }) : SX H0 R0 s g R E := h.mono fun D k => ⟨fun g' R' σ H ⟨R2, X, p, z⟩ t hH e => by
    obtain ⟨h2, t2⟩ := sub_of p hH
    exact k.nx g' R2 σ H z (t.trans t2) h2 (e.tn t2), fun d R' v H ⟨R2, X, p, z⟩ t hH r => by
    obtain ⟨h2, t2⟩ := sub_of p hH
    exact k.rt d R2 v H z (t.trans t2) h2 (r.tn t2), k.bk, k.ct⟩
/-- a view of less -/
theorem sx_sub {R2 X : Rg} (p : R.Perm (X ++ R2)) (h : SX H0 R0 s g R2 E) : SX H0 R0 s g R E := fun σ H D t e hH k => by
  obtain ⟨h2, t2⟩ := sub_of p hH
  exact h σ H D (t.trans t2) (e.tn t2) h2 k
/-- {k: v for ..}, its keys all new -/
theorem em_dcC {wi : TI} {tk tv : TE} (h : EI H0 R0 wi g R fun n e R1 => ∃ (m : Nat) (kv : Nat → Key × D), m ≤ 90000 ∧ (∀ i, i < m → (((List.range i).map kv).any fun q => decide (q.1 = (kv i).1)) = false) ∧ (∀ Rx, (∀ c ∈ R1, c ∈ Rx) → e m Rx) ∧
    (∀ i, i < m → ∀ Rx, (∀ c ∈ R1, c ∈ Rx) → ∃ d, n i Rx d ∧ ∀ H1, GX H1 R1 tg vs d (wipeE g vs) Rx fun g2 R2 => R2 = Rx ∧ ET H1 R1 tt g2 Rx fun b R3 => R3 = Rx ∧ b = true ∧ EM H1 R1 tk g2 Rx fun d1 R4 => R4 = Rx ∧ d1 = .v (kV (kv i).1) ∧ EM H1 R1 tv g2 Rx fun d2 R5 => R5 = Rx ∧ d2 = (kv i).2) ∧
    ∀ p, F (.v (.ref p)) ((p, .k ((List.range m).map kv)) :: R1)) : EM H0 R0 (tDc wi tg tt tk tv vs) g R F := fun σ H t e hH Q q => h σ H t e hH _ fun J n en R1 H1 ⟨m, kv, hm, hnew, hen, st, kF⟩ di t1 hH1 => by
  intro Dl hD
  obtain ⟨hN, tN⟩ := hH1.new (c := .k []) (o := .dK []) hD ⟨[], upd_same, RpK.nil⟩
  have sub : ∀ (ds : List (Key × D)) c, c ∈ R1 → c ∈ (Dl, RC.k ds) :: R1 := fun ds c hc => List.mem_cons_of_mem _ hc
  refine ⟨fun i μ H' => i ≤ m ∧ μ = m - i ∧ Tn H1 R1 H' ((Dl, RC.k ((List.range i).map kv)) :: R1) ∧ Holds H' ((Dl, RC.k ((List.range i).map kv)) :: R1), ⟨m - 0, Nat.zero_le _, rfl, tN, hN⟩, ?_⟩
  rintro i μ H' ⟨him, eμ, t2, hH2⟩
  have eW : EnvR H' (Out ((Dl, RC.k ((List.range i).map kv)) :: R1)) (wipeE g vs) (L2.wipe σ vs) := ((e.tn t1).tn t2).wipe vs
  by_cases c : i = m
  · subst c
    exact .inl ⟨di.stop i H' _ t2 hH2 (hen _ (sub _)), q _ _ _ _ (kF Dl) (t1.trans t2) hH2 rpv⟩
  · have hi : i < m := by omega
    obtain ⟨d, hd, go⟩ := st i hi _ (sub ((List.range i).map kv))
    obtain ⟨hgo, hy⟩ := di.go i H' _ d t2 hH2 hd
    refine .inr ⟨hgo, fun H3 => Tn H1 R1 H3 ((Dl, RC.k ((List.range (i + 1)).map kv)) :: R1) ∧ Holds H3 ((Dl, RC.k ((List.range (i + 1)).map kv)) :: R1), fun H3 z => ⟨m - (i + 1), by omega, by omega, rfl, z⟩, fun x H3 hx => ?_⟩
    obtain ⟨t3, hH3, r3, _⟩ := hy x H3 hx
    refine go H1 _ H3 x (t2.trans t3) (eW.tn t3) hH3 r3 _ fun g4 R4 σ4 H4 ⟨eR, k4⟩ t4 hH4 e4 z4 l4 => ⟨wipe_eq z4 l4, ?_⟩
    subst eR
    refine k4 σ4 H4 ((t2.trans t3).trans t4) e4 hH4 _ fun b R5 H5 ⟨eR5, eb, k5⟩ t5 hH5 => ?_
    subst eR5
    have t25 := ((t2.trans t3).trans t4).trans t5
    rw [eb]
    refine iteT (k5 σ4 H5 t25 (e4.tn t5) hH5 _ fun d1 R6 v1 H6 ⟨eR6, ed1, k6⟩ t6 hH6 r6 => ?_)
    subst eR6
    refine k6 σ4 H6 (t25.trans t6) (e4.tn (t5.trans t6)) hH6 _ fun d2 R7 v2 H7 ⟨eR7, ed2⟩ t7 hH7 r7 => ?_
    subst eR7
    rw [ed1] at r6
    obtain ⟨ws, g1, g2⟩ := hH7.at_ _ List.mem_cons_self
    have es : ptK (kv i).1 (kv i).2 ((List.range i).map kv) = (List.range (i + 1)).map kv := by
      unfold ptK
      rw [hnew i hi, List.range_succ, List.map_append]
      simp
    rw [ed2] at r7
    obtain ⟨m1, m2⟩ := put_k (nn := 0) (vs := ws) hH7 rfl (g2.ptK (f := (kv i).1) r7)
    rw [es] at m1 m2
    refine ⟨ws, (kv i).1, rp_v.mp r6, g1, by rw [g2.len, List.length_map, List.length_range]; exact Evl.sz_lt (by omega), ((t25.trans t6).trans t7).trans m2, m1⟩
/-- list(range(n)), n from 0 -/
theorem em_lstRg (h : EM H0 R0 ta g R fun d R1 => ∃ n : Int, d = .v (.int n) ∧ 0 ≤ n ∧ n ≤ 100000 ∧ F (.l ((List.range n.toNat).map fun i => D.v (.int (i : Nat)))) R1) : EM H0 R0 (tLstRg (tRg1 ta)) g R F := fun σ H t e hH Q q =>
  h σ H t e hH _ fun d R1 v H1 ⟨n, e1, b1, b2, k⟩ t1 hH1 r1 => by
    rw [e1] at r1
    refine ⟨n, rp_v.mp r1, RgOk.of_le (by omega) (by omega) (by omega) (by omega), fun p hp => ?_⟩
    have rr : RpL H1 (Out R1) ((List.range n.toNat).map fun i => D.v (.int (i : Nat))) (rgV 0 n) := by
      have e2 : rgV 0 n = (List.range n.toNat).map fun i => V.int (i : Nat) := by
        unfold rgV
        rw [Int.sub_zero]
        refine List.map_congr_left fun i _ => ?_
        rw [Int.zero_add]
      rw [e2]
      exact rpl_map (fun i : Nat => V.int (i : Int)) _
    obtain ⟨n1, n2, n3⟩ := new_l (t.trans t1) hH1 rr hp
    exact q _ R1 _ _ k (t1.trans n1) n2 n3
theorem gx_tupR {ds : List D} {js : List Nat} {Pp : Ev → Rg → Prop} {tgs : TGs} {n : Nat} (hn : ds.length = n) (h : GXs H0 R0 tgs js ds g R Pp) : GX H0 R0 (gTup K n tgs) js (.t ds) g R Pp := gx_tup h hn
/-- an attribute as a target -/
theorem gx_fld {to : TE} {js : List Nat} {Pp : Ev → Rg → Prop} (h : EM H0 R0 to g R fun d2 R2 => ∃ a C fs nn, d2 = .v (.ref a) ∧ R2[nn]? = some (a, RC.i C fs) ∧ Cls K C ∧ NoAttr K C f ∧ fs.length < 1000 ∧ Pp g (R2.set nn (a, .i C (ptF f d fs)))) : GX H0 R0 (gFld K to f) js d g R Pp := fun σ H x t e hH r Q q =>
  h σ H t e hH _ fun d2 R2 v2 H2 ⟨a, C, fs, nn, e1, m, cl, na, z, kk⟩ t2 hH2 r2 => by
    rw [e1] at r2
    obtain ⟨dx, vs, h1, h2⟩ := hH2.at_ _ (List.mem_of_getElem? m)
    have r1' := r.tn t2
    obtain ⟨n1, n2⟩ := hH2.set m (c' := .i C (ptF f d fs)) (.ins C dx (putF f x vs)) fun N eN mono => ⟨dx, _, upd_same, by
      rw [← eN] at h2 r1'
      exact rpk_up mono (h2.ptF (f := f) r1')⟩
    exact ⟨a, C, dx, vs, rp_v.mp r2, h1, cl, na, by rw [h2.len]; exact z, q g _ σ _ kk (t2.trans n2) n1 (e.tn (t2.trans n2)) (fun _ _ => rfl) rfl⟩
/-! #### sorted triples -/
def triD (t : Int × Int × Int) : D := .t [.v (.int t.1), .v (.int t.2.1), .v (.int t.2.2)]
theorem rpl_perm {α : Type} (f : α → D) {H : Hp} {N : Addr → Prop} {xs ys : List V} (h : ys.Perm xs) : ∀ ts : List α, RpL H N (ts.map f) xs → ∃ ts' : List α, ts'.Perm ts ∧ RpL H N (ts'.map f) ys := by
  induction h with
  | nil =>
    intro ts r
    exact ⟨ts, List.Perm.refl _, r⟩
  | cons x _ ih =>
    intro ts r
    cases ts with
    | nil => exact absurd (rpl_nil.mp r) (by simp)
    | cons t ts =>
      obtain ⟨y, q, e, h1, h2⟩ := rpl_cons.mp r
      cases e
      obtain ⟨ts', p, r'⟩ := ih ts h2
      exact ⟨t :: ts', p.cons t, RpL.cons h1 r'⟩
  | swap x y l =>
    intro ts r
    cases ts with
    | nil => exact absurd (rpl_nil.mp r) (by simp)
    | cons t ts =>
      cases ts with
      | nil =>
        obtain ⟨z, q, e, h1, h2⟩ := rpl_cons.mp r
        cases e
        exact absurd (rpl_nil.mp h2) (by simp)
      | cons t2 ts =>
        obtain ⟨z, q, e, h1, h2⟩ := rpl_cons.mp r
        cases e
        obtain ⟨z2, q2, e2, h3, h4⟩ := rpl_cons.mp h2
        cases e2
        exact ⟨t2 :: t :: ts, List.Perm.swap _ _ _, RpL.cons h3 (RpL.cons h1 h4)⟩
  | trans _ _ ih1 ih2 =>
    intro ts r
    obtain ⟨ts1, p1, r1⟩ := ih2 ts r
    obtain ⟨ts2, p2, r2⟩ := ih1 ts1 r1
    exact ⟨ts2, p2.trans p1, r2⟩
theorem code3 {B x y z x' y' z' : Int} (h : TS.code B [x, y, z] ≤ TS.code B [x', y', z']) (b : TS.Bd B [x, y, z]) (b' : TS.Bd B [x', y', z']) : x ≤ x' := by
  have c1 : ∀ a b c : Int, TS.code B [a, b, c] = a * B ^ 2 + (b * B ^ 1 + (c * B ^ 0 + 0)) := fun a b c => rfl
  rw [c1, c1] at h
  have e0 : B ^ 0 = 1 := Int.pow_zero B
  have e1 : B ^ 1 = B := by rw [Int.pow_succ, e0, Int.one_mul]
  have e2 : B ^ 2 = B * B := by rw [Int.pow_succ, e1]
  rw [e0, e1, e2] at h
  have d1 := b y (by simp)
  have d2 := b z (by simp)
  have d3 := b' y' (by simp)
  have d4 := b' z' (by simp)
  refine Int.not_lt.mp fun hlt => ?_
  have m1 : (x' + 1) * (B * B) ≤ x * (B * B) := Int.mul_le_mul_of_nonneg_right (by omega) (Int.mul_nonneg (by omega) (by omega))
  have m2 : (y' + 1) * B ≤ B * B := Int.mul_le_mul_of_nonneg_right (by omega) (by omega)
  have m3 : 0 ≤ y * B := Int.mul_nonneg d1.1 (by omega)
  rw [Int.add_mul, Int.one_mul] at m1 m2
  omega
theorem tri_rp {H : Hp} {t : Int × Int × Int} (hH : Holds H R) (r : Rp H (Out R) (triD t) x) : TupI K H x [t.1, t.2.1, t.2.2] := by
  obtain ⟨a, xs, e, _, h1, h2⟩ := rp_t.mp r
  refine ⟨a, e, SqT.of ?_⟩
  have := rpl_mapV (f := fun n : Int => V.int n) (as := [t.1, t.2.1, t.2.2]) h2
  rw [← this]
  exact h1
theorem ra_sortT {ts : List (Int × Int × Int)} (hl : IsL R d (ts.map triD)) (hz : ts.length < 64) (hb : ∀ t ∈ ts, TS.Bd (2 ^ 60) [t.1, t.2.1, t.2.2]) (k : ∀ ys : List (Int × Int × Int), ys.Perm ts → ys.Pairwise (fun x y => x.1 ≤ y.1) → F (.l (ys.map triD)) R) : RA H0 R0 (rSortU K 3 (2 ^ 60)) [d] R F := fun H xs t hH r Q q => by
  obtain ⟨x, e1, r1⟩ := rpl1 r
  obtain ⟨a, ws, e2, h1, h2⟩ := hl.get hH r1
  refine ⟨a, ws, by rw [e1, e2], SqL.of h1, by rw [h2.len, List.length_map]; exact hz, fun y hy => ?_, fun ys p hp hs hn => ?_⟩
  · obtain ⟨i, hi, ei⟩ := List.mem_iff_getElem.mp hy
    obtain ⟨dd, ed, rd⟩ := h2.getV (i := i) (x := y) (by rw [List.getElem?_eq_getElem hi, ei])
    rw [List.getElem?_map] at ed
    cases c : ts[i]? with
    | none => rw [c] at ed; cases ed
    | some tt =>
      rw [c] at ed
      cases ed
      exact ⟨_, tri_rp hH rd, rfl, hb tt (List.mem_of_getElem? c)⟩
  · obtain ⟨ts', pp, r2⟩ := rpl_perm triD hp ts h2
    obtain ⟨n1, n2, n3⟩ := new_l t hH r2 hn
    refine q _ R _ _ (k ts' pp ?_) n1 n2 n3
    rw [List.pairwise_iff_getElem]
    intro i j hi hj hij
    have hi' : (ts'.map triD)[i]? = some (triD ts'[i]) := by rw [List.getElem?_map, List.getElem?_eq_getElem hi]; rfl
    have hj' : (ts'.map triD)[j]? = some (triD ts'[j]) := by rw [List.getElem?_map, List.getElem?_eq_getElem hj]; rfl
    obtain ⟨vi, gi, ri⟩ := r2.get hi'
    obtain ⟨vj, gj, rj⟩ := r2.get hj'
    obtain ⟨li, ei⟩ := List.getElem?_eq_some_iff.mp gi
    obtain ⟨lj, ej⟩ := List.getElem?_eq_some_iff.mp gj
    have := (List.pairwise_iff_getElem.mp hs) i j li lj hij _ _ (by rw [ei]; exact tri_rp hH ri) (by rw [ej]; exact tri_rp hH rj)
    exact code3 this (hb _ (pp.mem_iff.mp (List.getElem_mem hi))) (hb _ (pp.mem_iff.mp (List.getElem_mem hj)))
/-! #### enumerate over a tuple -/
theorem ei_enumT {ti : TA} {PI : (Nat → Rg → D → Prop) → (Nat → Rg → Prop) → Rg → Prop} (h : EA H0 R0 ti g R fun es R1 => ∃ ds, es = [.t ds] ∧ PI (fun i _ d => ∃ d', ds[i]? = some d' ∧ d = .t [.v (.int (i : Nat)), d']) (fun i _ => ds.length = i) R1) : EI H0 R0 (iEnumT K ti) g R PI := fun σ H t e hH Rr q =>
  h σ H t e hH _ fun es R1 vs H1 ⟨ds, e1, k⟩ t1 hH1 r1 => by
    subst e1
    obtain ⟨v, ev, r1⟩ := rpl1 r1
    obtain ⟨a, xs, e2, n1, h1, h2⟩ := rp_t.mp r1
    refine ⟨a, xs, by rw [ev, e2], SqT.of h1, q _ _ _ R1 H1 k ⟨fun i H R d t hH ⟨d', hi, ed⟩ => ?_, fun i H R t hH hi => ?_⟩ t1 hH1⟩
    · obtain ⟨x, e3, r3⟩ := (h2.tn t).get hi
      have hx := (t a _ n1 h1 nt_of).2
      exact ⟨⟨xs, x, SqT.of hx, e3⟩, fun y H' ⟨T, x', ey, hT, eH, hy⟩ => by
        have e4 := hy xs (SqT.of hx)
        rw [e3] at e4; cases e4
        subst eH ey ed
        exact new_pair hH (RpL.cons rpv (RpL.cons r3 RpL.nil)) hT⟩
    · exact ⟨xs, SqT.of (t a _ n1 h1 nt_of).2, by rw [h2.len]; exact hi⟩
theorem em_lcET {ti : TA} (h : EA H0 R0 ti g R fun es R1 => ∃ (ds : List D) (f : Nat → D → Option D), es = [.t ds] ∧ ds.length ≤ 100000 ∧ (∀ i x, ds[i]? = some x → ∀ H1 Rx, (∀ c ∈ R1, c ∈ Rx) → Trn H1 R1 tg tt te vs g Rx (.t [.v (.int (i : Nat)), x]) (f i x)) ∧ F (.l (outs ds.length fun i => (ds[i]?).bind (f i))) R1) : EM H0 R0 (tLc (iEnumT K ti) tg tt te vs) g R F :=
  em_lc (ei_enumT fun σ H t e hH Q q => h σ H t e hH Q fun es R' v H' ⟨ds, f, hl, hz, st, k⟩ t1 hH1 r1 => q es R' v H' ⟨ds, hl, ds.length, fun i => (ds[i]?).bind (f i), hz, fun Rx s => rfl, fun i hi Rx s => ⟨.t [.v (.int (i : Nat)), ds[i]], ⟨ds[i], List.getElem?_eq_getElem hi, rfl⟩, fun H1 => by
    have z := st i ds[i] (List.getElem?_eq_getElem hi) H1 Rx s
    have e1 : (ds[i]?).bind (f i) = f i ds[i] := by rw [List.getElem?_eq_getElem hi]; rfl
    rw [← e1] at z
    exact z⟩, k⟩ t1 hH1 r1)
/-- sorted of a dict whose keys are ints -/
theorem ra_sortDI {kvs : List (Key × V)} {ks : List Int} (m : (a, RC.k (vK kvs)) ∈ R) (hk : kvs.map (·.1) = ks.map Sum.inl) (hz : ks.length < 64) (k : ∀ ys : List Int, ys.Perm ks → ys.Pairwise (· ≤ ·) → F (.l (ys.map fun n => D.v (.int n))) R) : RA H0 R0 rSortDI [.v (.ref a)] R F := fun H xs t hH r Q q => by
  obtain ⟨x, e1, r1⟩ := rpl1 r
  refine ⟨a, kvs, ks, by rw [e1, rp_v.mp r1], .inl (k_at hH m), hk, hz, fun ys p hp hs hn => ?_⟩
  obtain ⟨n1, n2, n3⟩ := new_l t hH (rpl_map (fun n : Int => V.int n) ys) hn
  exact q _ R _ _ (k ys hp hs) n1 n2 n3
/-- d.values() -/
theorem ra_listV {td : TE} (h : EM H0 R0 td g R fun d R1 => ∃ (a : Addr) (kvs : List (Key × V)), d = .v (.ref a) ∧ (a, RC.k (vK kvs)) ∈ R1 ∧ F (.l (kvs.map fun p => .v p.2)) R1) : EM H0 R0 (tCB rListV (tCons (tVals td) tNil)) g R F := fun σ H t e hH Q q => by
  show td σ H _
  refine h σ H t e hH _ fun d R1 v H1 ⟨a, kvs, e1, m, k⟩ t1 hH1 r1 => ?_
  rw [e1] at r1
  have hd := k_at hH1 m
  refine ⟨a, kvs, rp_v.mp r1, .inl hd, fun p hp => ?_⟩
  show rListV [.ref p] (upd H1 p (viewV p a)) Q
  refine ⟨p, a, kvs, rfl, upd_same, .inl ((upd_ne (ne_of_none hd hp)).trans hd), fun l hl => ?_⟩
  have hN := hH1.ex (ex_new (o := viewV p a) hp)
  have rr : RpL (upd H1 p (viewV p a)) (Out R1) (kvs.map fun p => D.v p.2) (kvs.map (·.2)) := rpl_map (fun p : Key × V => p.2) kvs
  have t2 := (Tn.ex (R := R1) (ex_new (o := viewV p a) hp))
  obtain ⟨n1, n2, n3⟩ := new_l (t.trans (t1.trans t2)) hN rr hl
  exact q _ R1 _ _ k ((t1.trans t2).trans n1) n2 n3
end
end Rc
-- G1
set_option Elab.async false
set_option linter.all false
set_option maxRecDepth 100000
set_option maxHeartbeats 4000000
namespace Rc
open PySem PySem.Spec PyProof.Rows L2 RcHead
local macro_rules | `(tactic| walk_at "rc mem") => `(tactic| first | assumption | exact List.mem_cons_self | ((with_reducible (refine List.mem_cons_of_mem _ ?_)); walk_at "rc mem"))
local macro_rules | `(tactic| walk_at "rc end") => `(tactic| fail)
local macro_rules | `(tactic| walk_at "rc lst") => `(tactic| with_reducible refine em_lst ?_)
local macro_rules | `(tactic| walk_at "rc call") => `(tactic| fail)
local macro_rules | `(tactic| walk_at "rc step") => `(tactic| first
  | ((with_reducible (apply em_var)); rfl)
  | with_reducible refine em_c ?_
  | with_reducible refine em_op ?_
  | with_reducible refine ro_I0 ?_
  | ((with_reducible (refine ro_eq ?_ ?_)); rfl)
  | ((with_reducible (refine ro_ne ?_ ?_)); rfl)
  | with_reducible refine ro_isN ?_
  | with_reducible refine ro_notN ?_
  | with_reducible refine ea_nil ?_
  | with_reducible refine ea_cons ?_
  | with_reducible refine em_call ?_
  | walk_at "rc call"
  | (with_reducible refine em_fld ?_)
  | (refine ⟨_, _, _, _, rfl, (by walk_at "rc mem"), (by assumption), (by assumption), (by rfl), ?_⟩)
  | with_reducible refine ra_listV ?_
  | with_reducible refine em_cb ?_
  | with_reducible refine em_tup ?_
  | walk_at "rc lst"
  | with_reducible refine em_if ?_
  | with_reducible refine em_andV ?_
  | with_reducible refine em_orV ?_
  | with_reducible refine em_notV ?_
  | with_reducible refine em_chain ?_
  | with_reducible refine et_test ?_
  | with_reducible refine et_B ?_
  | with_reducible refine et_and ?_
  | with_reducible refine et_or ?_
  | with_reducible refine et_not ?_
  | with_reducible refine et_yes ?_
  | with_reducible refine sx_seq ?_
  | with_reducible refine sx_next ?_
  | with_reducible refine sx_asg ?_
  | with_reducible refine sx_ret ?_
  | with_reducible refine sx_append ?_
  | with_reducible refine sx_drop ?_
  | with_reducible refine sx_if ?_
  | (refine ⟨_, rfl, ?_⟩)
  | (refine ⟨fun _ => ?_, fun z => Bool.noConfusion z⟩)
  | (refine ⟨fun z => Bool.noConfusion z, fun _ => ?_⟩)
  | with_reducible refine em_make ?_
  | with_reducible refine em_meth ?_
  | (refine ⟨_, _, rfl, (by walk_at "rc mem"), rfl, ?_⟩)
  | with_reducible refine em_neg ?_
  | with_reducible refine sx_fld ?_
  | (refine ⟨_, _, _, 0, rfl, rfl, (by assumption), (by assumption), (of_decide_eq_true rfl), ?_⟩)
  | ((with_reducible (apply ra_len)); (first | exact .l .d | exact .t | exact .l (.c (by walk_at "rc mem"))))
  | ((with_reducible (apply ra_lenK)); (walk_at "rc mem"))
  | ((with_reducible (apply ro_ixL)); (first | exact .d | exact .c (by walk_at "rc mem")); (first | rfl | exact atI_0))
  | ((with_reducible (apply ro_ixT)); rfl)
  | (with_reducible (refine gx_name ?_ (by decide)))
  | ((with_reducible (apply gx_tupR)); rfl)
  | with_reducible refine gxs_cons ?_
  | with_reducible refine gxs_nil ?_
  | (exact ⟨rfl, rfl⟩)
  | (refine ⟨rfl, ?_⟩)
  | with_reducible refine em_dget ?_
  | with_reducible refine sx_lockAsg ?_
  | with_reducible refine em_din ?_
  | with_reducible refine em_dnotIn ?_
  | ((with_reducible (apply sx_aug)); rfl)
  | with_reducible refine sx_setL ?_
  | with_reducible refine sx_dput ?_
  | with_reducible refine gx_fld ?_
  | (with_reducible (apply sx_fldAug))
  | ((with_reducible (apply sx_rz)); assumption)
  | (refine ⟨(by simp only [List.length_cons, List.length_nil]; omega), ?_⟩))
section
variable [Tbl] {P : Program} {w : World} {K : PySem.W.Frag} {mg : Str → Option Value} {base : Heap}
theorem sc_is_integer : FnScope ["thing"] ["thing"] (defScope (top 14)) := ⟨rfl, rfl, rfl, by decide +kernel, rfl, by decide +kernel, by decide +kernel⟩
theorem kp_is_integer (W : Wd w K mg base) : PySem.W.keepIn K (.ref (He.fAd K ("is_integer", none))) = true := W.kp 0
theorem b_is_integer (W : Wd w K mg base) : Binds K (fdO K (He.fAd K ("is_integer", none))) ["thing"] [] := (W.F 0).bindsN fun _ _ _ _ _ _ us hl => match us, hl with | [_], _ => rfl
def gm_is_integer [Tbl] : Gm := fun ds R F => ∃ i : Int, ds = [.v (.int i)] ∧ F (.v (.bl true)) R
abbrev sp_is_integer [Tbl] : Sp := spM (gm_is_integer)
theorem c_is_integer [Tbl] {H0 : Hp} {R0 R : Rg} {Ex : XK} {F : D → Rg → Prop} {i : Int} (k : F (.v (.bl true)) R) : RS H0 R0 sp_is_integer Ex [.v (.int i)] R F := rs_m ⟨i, rfl, k⟩
theorem ok_is_integer (W : Wd w K mg base) : FnOk P w K mg base CX0 1 (He.fAd K ("is_integer", none)) (fdO K (He.fAd K ("is_integer", none))) ["thing"] (sp_is_integer) := by
  refine (W.F 0).ok sc_is_integer ?_ (fun cdv A outer s H vs Q E hr h => ?_)
  · exact lenM fun ds R F h => by obtain ⟨i, rfl, hF⟩ := h; rfl
  have hu64 := hr.units
  have hu := Nat.lt_of_le_of_lt (Nat.add_le_add_left (show 1 ≤ 64 by decide) _) hu64
  refine ⟨_, PSs.nox (pss_one (ps_ret (pe_and (pe_callB (isiK (K := K) rfl) rfl (W.free 59) (by decide +kernel) (pa_cons (pv 0) (pa_cons (pe_ty (T := "int") rfl (W.free 62)) pa_nil))) (pe_one (pe_not (pe_callB (isiK (K := K) rfl) rfl (W.free 59) (by decide +kernel) (pa_cons (pv 0) (pa_cons (pe_ty (T := "bool") rfl (W.free 63)) pa_nil)))))))), entryM h ?_⟩
  clear h hu hu64 hr
  rintro ds R F ⟨i, rfl, hF⟩
  repeat walk_at "rc step"
  refine ra_isi (b := true) (.int i) (L2.kit_ty (by decide +kernel)) ?_
  repeat walk_at "rc step"
  refine ra_isi (b := false) (.int i) (L2.kit_ty (by decide +kernel)) ?_
  repeat walk_at "rc step"
  exact hF
local macro_rules | `(tactic| walk_at "rc call") => `(tactic| with_reducible refine c_is_integer ?_)
theorem sc_is_within : FnScope ["thing", "least", "most"] ["thing", "least", "most"] (defScope (top 15)) := ⟨rfl, rfl, rfl, by decide +kernel, rfl, by decide +kernel, by decide +kernel⟩
theorem kp_is_within (W : Wd w K mg base) : PySem.W.keepIn K (.ref (He.fAd K ("is_within", none))) = true := W.kp 1
theorem b_is_within (W : Wd w K mg base) : Binds K (fdO K (He.fAd K ("is_within", none))) ["thing", "least", "most"] [] := (W.F 1).bindsN fun _ _ _ _ _ _ us hl => match us, hl with | [_, _, _], _ => rfl
def gm_is_within [Tbl] : Gm := fun ds R F => ∃ i l m : Int, ds = [.v (.int i), .v (.int l), .v (.int m)] ∧ F (.v (.bl (decide (l ≤ i) && decide (i ≤ m)))) R
abbrev sp_is_within [Tbl] : Sp := spM (gm_is_within)
theorem c_is_within [Tbl] {H0 : Hp} {R0 R : Rg} {Ex : XK} {F : D → Rg → Prop} {i l m : Int} (k : F (.v (.bl (decide (l ≤ i) && decide (i ≤ m)))) R) : RS H0 R0 sp_is_within Ex [.v (.int i), .v (.int l), .v (.int m)] R F := rs_m ⟨i, l, m, rfl, k⟩
theorem ok_is_within (W : Wd w K mg base) : FnOk P w K mg base CX0 2 (He.fAd K ("is_within", none)) (fdO K (He.fAd K ("is_within", none))) ["thing", "least", "most"] (sp_is_within) := by
  refine (W.F 1).ok sc_is_within ?_ (fun cdv A outer s H vs Q E hr h => ?_)
  · exact lenM fun ds R F h => by obtain ⟨i, l, m, rfl, hF⟩ := h; rfl
  have hu64 := hr.units
  have hu := Nat.lt_of_le_of_lt (Nat.add_le_add_left (show 1 ≤ 64 by decide) _) hu64
  refine ⟨_, PSs.nox (pss_one (ps_ret (pe_and (pe_call (ok_is_integer (K := K) W) (hr.mono (by decide)) rfl (W.glo 0) (kp_is_integer W) (b_is_integer W) .nil pass0 (pa_cons (pv 0) pa_nil)) (pe_one (pe_chain op_le op_le (pv 1) (pv 0) (pv 2)))))), entryM h ?_⟩
  clear h hu hu64 hr
  rintro ds R F ⟨i, l, m, rfl, hF⟩
  repeat walk_at "rc step"
  refine ⟨fun hb => ?_, fun hb => ?_⟩
  · repeat walk_at "rc step"
    rw [hb] at hF
    exact hF
  · rw [hb] at hF
    exact hF
local macro_rules | `(tactic| walk_at "rc call") => `(tactic| with_reducible refine c_is_within ?_)
theorem sc_is_number : FnScope ["thing", "most"] ["thing", "most"] (defScope (top 16)) := ⟨rfl, rfl, rfl, by decide +kernel, rfl, by decide +kernel, by decide +kernel⟩
theorem kp_is_number (W : Wd w K mg base) : PySem.W.keepIn K (.ref (He.fAd K ("is_number", none))) = true := W.kp 2
theorem b_is_number (W : Wd w K mg base) : Binds K (fdO K (He.fAd K ("is_number", none))) ["thing", "most"] [] := (W.F 2).bindsN fun _ _ _ _ _ _ us hl => match us, hl with | [_, _], _ => rfl
def gm_is_number [Tbl] : Gm := fun ds R F => ∃ i m : Int, ds = [.v (.int i), .v (.int m)] ∧ F (.v (.bl (decide (0 ≤ i) && decide (i ≤ m)))) R
abbrev sp_is_number [Tbl] : Sp := spM (gm_is_number)
theorem c_is_number [Tbl] {H0 : Hp} {R0 R : Rg} {Ex : XK} {F : D → Rg → Prop} {i m : Int} (k : F (.v (.bl (decide (0 ≤ i) && decide (i ≤ m)))) R) : RS H0 R0 sp_is_number Ex [.v (.int i), .v (.int m)] R F := rs_m ⟨i, m, rfl, k⟩
theorem ok_is_number (W : Wd w K mg base) : FnOk P w K mg base CX0 3 (He.fAd K ("is_number", none)) (fdO K (He.fAd K ("is_number", none))) ["thing", "most"] (sp_is_number) := by
  refine (W.F 2).ok sc_is_number ?_ (fun cdv A outer s H vs Q E hr h => ?_)
  · exact lenM fun ds R F h => by obtain ⟨i, m, rfl, hF⟩ := h; rfl
  have hu64 := hr.units
  have hu := Nat.lt_of_le_of_lt (Nat.add_le_add_left (show 1 ≤ 64 by decide) _) hu64
  refine ⟨_, PSs.nox (pss_one (ps_ret (pe_call (ok_is_within (K := K) W) (hr.mono (by decide)) rfl (W.glo 1) (kp_is_within W) (b_is_within W) .nil pass0 (pa_cons (pv 0) (pa_cons pe_int (pa_cons (pv 1) pa_nil)))))), entryM h ?_⟩
  clear h hu hu64 hr
  rintro ds R F ⟨i, m, rfl, hF⟩
  repeat walk_at "rc step"
  exact hF
theorem sc_check_number : FnScope ["thing", "least", "most"] ["thing", "least", "most"] (defScope (top 49)) := ⟨rfl, rfl, rfl, by decide +kernel, rfl, by decide +kernel, by decide +kernel⟩
theorem kp_check_number (W : Wd w K mg base) : PySem.W.keepIn K (.ref (He.fAd K ("check_number", none))) = true := W.kp 11
theorem b_check_number (W : Wd w K mg base) : Binds K (fdO K (He.fAd K ("check_number", none))) ["thing", "least", "most"] [] := (W.F 11).bindsN fun _ _ _ _ _ _ us hl => match us, hl with | [_, _, _], _ => rfl
def gm_check_number [Tbl] : Gm := fun ds R F => ∃ i l m : Int, ds = [.v (.int i), .v (.int l), .v (.int m)] ∧ (l ≤ i ∧ i ≤ m) ∧ F (.v .non) R
abbrev sp_check_number [Tbl] : Sp := spM (gm_check_number)
theorem c_check_number [Tbl] {H0 : Hp} {R0 R : Rg} {Ex : XK} {F : D → Rg → Prop} {i l m : Int} (h : l ≤ i ∧ i ≤ m) (k : F (.v .non) R) : RS H0 R0 sp_check_number Ex [.v (.int i), .v (.int l), .v (.int m)] R F := rs_m ⟨i, l, m, rfl, h, k⟩
theorem ok_check_number (W : Wd w K mg base) : FnOk P w K mg base CX0 3 (He.fAd K ("check_number", none)) (fdO K (He.fAd K ("check_number", none))) ["thing", "least", "most"] (sp_check_number) := by
  refine (W.F 11).ok sc_check_number ?_ (fun cdv A outer s H vs Q E hr h => ?_)
  · exact lenM fun ds R F h => by obtain ⟨i, l, m, rfl, ⟨h1, h2⟩, hF⟩ := h; rfl
  have hu64 := hr.units
  have hu := Nat.lt_of_le_of_lt (Nat.add_le_add_left (show 1 ≤ 64 by decide) _) hu64
  refine ⟨_, PSs.nox (pss_one (ps_if (pt_not (pt_val (pe_call (ok_is_within (K := K) W) (hr.mono (by decide)) rfl (W.glo 1) (kp_is_within W) (b_is_within W) .nil pass0 (pa_cons (pv 0) (pa_cons (pv 1) (pa_cons (pv 2) pa_nil))))))
    pss_never
    pss_nil)), entryM h ?_⟩
  clear h hu hu64 hr
  rintro ds R F ⟨i, l, m, rfl, ⟨h1, h2⟩, hF⟩
  repeat walk_at "rc step"
  have e : (decide (l ≤ i) && decide (i ≤ m)) = true := by simp [h1, h2]
  rw [e]
  repeat walk_at "rc step"
  exact hF
/-! ### rows and members -/
structure Rw where
  kind : Str
  deed : Int
  page : Int
  before : Int
  behind : Int
  undo : Int
  left : Int
  place : Int
  cells : Int
def rwFs (r : Rw) : List (Str × D) := [("kind", .v (.str r.kind)), ("deed", .v (.int r.deed)), ("page", .v (.int r.page)), ("before", .v (.int r.before)), ("behind", .v (.int r.behind)), ("undo", .v (.int r.undo)), ("left", .v (.int r.left)), ("place", .v (.int r.place)), ("cells", .v (.int r.cells))]
structure Mb where
  no : Int
  ends : Int
  a : Addr
  left : List (Addr × Rw)
def refsD (as : List (Addr × Rw)) : List D := as.map fun p => .v (.ref p.1)
def mbFs (b : Mb) : List (Str × D) := [("number", .v (.int b.no)), ("end_cells", .v (.int b.ends)), ("left_rows", .l (refsD b.left))]
theorem sc_LogRow_init : FnScope ["self", "kind", "deed", "page", "before", "behind", "undo", "left"] ["self", "kind", "deed", "page", "before", "behind", "undo", "left"] (defScope (inClass (top 24) 0)) := ⟨rfl, rfl, rfl, by decide +kernel, rfl, by decide +kernel, by decide +kernel⟩
theorem kp_LogRow_init (W : Wd w K mg base) : PySem.W.keepIn K (.ref (He.fAd K ("LogRow", some "__init__"))) = true := W.kp 42
theorem b_LogRow_init (W : Wd w K mg base) : Binds K (fdO K (He.fAd K ("LogRow", some "__init__"))) ["self", "kind", "deed", "page", "before", "behind", "undo", "left"] [] := (W.F 42).bindsN fun _ _ _ _ _ _ us hl => match us, hl with | [_, _, _, _, _, _, _, _], _ => rfl
def gm_LogRow_init [Tbl] (K : PySem.W.Frag) : Gm := fun ds R F => ∃ (p : Addr) (Rr : Rg) (kd : Str) (d pg be af un le : Int), ds = [.v (.ref p), .v (.str kd), .v (.int d), .v (.int pg), .v (.int be), .v (.int af), .v (.int un), .v (.int le)] ∧ R = (p, .i (He.ga K "LogRow") []) :: Rr ∧
  F (.v .non) ((p, .i (He.ga K "LogRow") (rwFs ⟨kd, d, pg, be, af, un, le, 0, 0⟩)) :: Rr)
abbrev sp_LogRow_init [Tbl] (K : PySem.W.Frag) : Sp := spM (gm_LogRow_init K)
theorem c_LogRow_init [Tbl] {K : PySem.W.Frag} {H0 : Hp} {R0 R : Rg} {Ex : XK} {F : D → Rg → Prop} {p : Addr} {kd : Str} {d pg be af un le : Int} (k : F (.v .non) ((p, .i (He.ga K "LogRow") (rwFs ⟨kd, d, pg, be, af, un, le, 0, 0⟩)) :: R)) : RS H0 R0 (sp_LogRow_init K) Ex [.v (.ref p), .v (.str kd), .v (.int d), .v (.int pg), .v (.int be), .v (.int af), .v (.int un), .v (.int le)] ((p, .i (He.ga K "LogRow") []) :: R) F := rs_m ⟨p, R, kd, d, pg, be, af, un, le, rfl, rfl, k⟩
theorem ok_LogRow_init (W : Wd w K mg base) : FnOk P w K mg base CX0 1 (He.fAd K ("LogRow", some "__init__")) (fdO K (He.fAd K ("LogRow", some "__init__"))) ["self", "kind", "deed", "page", "before", "behind", "undo", "left"] (sp_LogRow_init K) := by
  refine (W.F 42).ok sc_LogRow_init ?_ (fun cdv A outer s H vs Q E hr h => ?_)
  · exact lenM fun ds R F h => by obtain ⟨p, Rr, kd, d, pg, be, af, un, le, rfl, rfl, hF⟩ := h; rfl
  have hu64 := hr.units
  have hu := Nat.lt_of_le_of_lt (Nat.add_le_add_left (show 1 ≤ 64 by decide) _) hu64
  refine ⟨_, PSs.nox (pss_cons (sfldK (K := K) rfl (pv 0) (pv 1) rfl)
    (pss_cons (sfldK (K := K) rfl (pv 0) (pv 2) rfl)
    (pss_cons (sfldK (K := K) rfl (pv 0) (pv 3) rfl)
    (pss_cons (sfldK (K := K) rfl (pv 0) (pv 4) rfl)
    (pss_cons (sfldK (K := K) rfl (pv 0) (pv 5) rfl)
    (pss_cons (sfldK (K := K) rfl (pv 0) (pv 6) rfl)
    (pss_cons (sfldK (K := K) rfl (pv 0) (pv 7) rfl)
    (pss_cons (sfldK (K := K) rfl (pv 0) pe_int rfl)
    (pss_one (sfldK (K := K) rfl (pv 0) pe_int rfl)))))))))), entryM h ?_⟩
  clear h hu hu64 hr
  rintro ds R F ⟨p, Rr, kd, d, pg, be, af, un, le, rfl, rfl, hF⟩
  have cl_LogRow : Cls K (He.ga K "LogRow") := W.cls 77
  have cl_Standing : Cls K (He.ga K "Standing") := W.cls 96
  have na_LogRow_kind : NoAttr K (He.ga K "LogRow") "kind" := W.noat 79
  have na_LogRow_deed : NoAttr K (He.ga K "LogRow") "deed" := W.noat 80
  have na_LogRow_page : NoAttr K (He.ga K "LogRow") "page" := W.noat 81
  have na_LogRow_before : NoAttr K (He.ga K "LogRow") "before" := W.noat 82
  have na_LogRow_behind : NoAttr K (He.ga K "LogRow") "behind" := W.noat 83
  have na_LogRow_undo : NoAttr K (He.ga K "LogRow") "undo" := W.noat 84
  have na_LogRow_left : NoAttr K (He.ga K "LogRow") "left" := W.noat 85
  have na_LogRow_place : NoAttr K (He.ga K "LogRow") "place" := W.noat 86
  have na_LogRow_cells : NoAttr K (He.ga K "LogRow") "cells" := W.noat 87
  have na_Standing_cells : NoAttr K (He.ga K "Standing") "cells" := W.noat 98
  repeat walk_at "rc step"
  exact hF
theorem sc_Member_init : FnScope ["self", "number", "end_cells"] ["self", "number", "end_cells"] (defScope (inClass (top 25) 0)) := ⟨rfl, rfl, rfl, by decide +kernel, rfl, by decide +kernel, by decide +kernel⟩
theorem kp_Member_init (W : Wd w K mg base) : PySem.W.keepIn K (.ref (He.fAd K ("Member", some "__init__"))) = true := W.kp 43
theorem b_Member_init (W : Wd w K mg base) : Binds K (fdO K (He.fAd K ("Member", some "__init__"))) ["self", "number", "end_cells"] [] := (W.F 43).bindsN fun _ _ _ _ _ _ us hl => match us, hl with | [_, _, _], _ => rfl
def gm_Member_init [Tbl] (K : PySem.W.Frag) : Gm := fun ds R F => ∃ (p : Addr) (Rr : Rg) (n e : Int), ds = [.v (.ref p), .v (.int n), .v (.int e)] ∧ R = (p, .i (He.ga K "Member") []) :: Rr ∧
  F (.v .non) ((p, .i (He.ga K "Member") (mbFs ⟨n, e, p, []⟩)) :: Rr)
abbrev sp_Member_init [Tbl] (K : PySem.W.Frag) : Sp := spM (gm_Member_init K)
theorem c_Member_init [Tbl] {K : PySem.W.Frag} {H0 : Hp} {R0 R : Rg} {Ex : XK} {F : D → Rg → Prop} {p : Addr} {n e : Int} (k : F (.v .non) ((p, .i (He.ga K "Member") (mbFs ⟨n, e, p, []⟩)) :: R)) : RS H0 R0 (sp_Member_init K) Ex [.v (.ref p), .v (.int n), .v (.int e)] ((p, .i (He.ga K "Member") []) :: R) F := rs_m ⟨p, R, n, e, rfl, rfl, k⟩
theorem ok_Member_init (W : Wd w K mg base) : FnOk P w K mg base CX0 1 (He.fAd K ("Member", some "__init__")) (fdO K (He.fAd K ("Member", some "__init__"))) ["self", "number", "end_cells"] (sp_Member_init K) := by
  refine (W.F 43).ok sc_Member_init ?_ (fun cdv A outer s H vs Q E hr h => ?_)
  · exact lenM fun ds R F h => by obtain ⟨p, Rr, n, e, rfl, rfl, hF⟩ := h; rfl
  have hu64 := hr.units
  have hu := Nat.lt_of_le_of_lt (Nat.add_le_add_left (show 1 ≤ 64 by decide) _) hu64
  refine ⟨_, PSs.nox (pss_cons (sfldK (K := K) rfl (pv 0) (pv 1) rfl)
    (pss_cons (sfldK (K := K) rfl (pv 0) (pv 2) rfl)
    (pss_one (sfldK (K := K) rfl (pv 0) (pe_lst pa_nil) rfl)))), entryM h ?_⟩
  clear h hu hu64 hr
  rintro ds R F ⟨p, Rr, n, e, rfl, rfl, hF⟩
  have cl_Member : Cls K (He.ga K "Member") := W.cls 88
  have na_Member_number : NoAttr K (He.ga K "Member") "number" := W.noat 90
  have na_Member_end_cells : NoAttr K (He.ga K "Member") "end_cells" := W.noat 91
  have na_Member_left_rows : NoAttr K (He.ga K "Member") "left_rows" := W.noat 92
  repeat walk_at "rc step"
  exact hF
end
end Rc
-- G2
set_option Elab.async false
set_option linter.all false
set_option maxRecDepth 100000
set_option maxHeartbeats 4000000
namespace Rc
open PySem PySem.Spec PyProof.Rows L2 RcHead
local macro_rules | `(tactic| walk_at "rc mem") => `(tactic| first | assumption | exact List.mem_cons_self | ((with_reducible (refine List.mem_cons_of_mem _ ?_)); walk_at "rc mem"))
local macro_rules | `(tactic| walk_at "rc end") => `(tactic| fail)
local macro_rules | `(tactic| walk_at "rc lst") => `(tactic| with_reducible refine em_lst ?_)
local macro_rules | `(tactic| walk_at "rc call") => `(tactic| fail)
local macro_rules | `(tactic| walk_at "rc step") => `(tactic| first
  | ((with_reducible (apply em_var)); rfl)
  | with_reducible refine em_c ?_
  | with_reducible refine em_op ?_
  | with_reducible refine ro_I0 ?_
  | ((with_reducible (refine ro_eq ?_ ?_)); rfl)
  | ((with_reducible (refine ro_ne ?_ ?_)); rfl)
  | with_reducible refine ro_isN ?_
  | with_reducible refine ro_notN ?_
  | with_reducible refine ea_nil ?_
  | with_reducible refine ea_cons ?_
  | with_reducible refine em_call ?_
  | walk_at "rc call"
  | (with_reducible refine em_fld ?_)
  | (refine ⟨_, _, _, _, rfl, (by walk_at "rc mem"), (by assumption), (by assumption), (by rfl), ?_⟩)
  | with_reducible refine ra_listV ?_
  | with_reducible refine em_cb ?_
  | with_reducible refine em_tup ?_
  | walk_at "rc lst"
  | with_reducible refine em_if ?_
  | with_reducible refine em_andV ?_
  | with_reducible refine em_orV ?_
  | with_reducible refine em_notV ?_
  | with_reducible refine em_chain ?_
  | with_reducible refine et_test ?_
  | with_reducible refine et_B ?_
  | with_reducible refine et_and ?_
  | with_reducible refine et_or ?_
  | with_reducible refine et_not ?_
  | with_reducible refine et_yes ?_
  | with_reducible refine sx_seq ?_
  | with_reducible refine sx_next ?_
  | with_reducible refine sx_asg ?_
  | with_reducible refine sx_ret ?_
  | with_reducible refine sx_append ?_
  | with_reducible refine sx_drop ?_
  | with_reducible refine sx_if ?_
  | (refine ⟨_, rfl, ?_⟩)
  | (refine ⟨fun _ => ?_, fun z => Bool.noConfusion z⟩)
  | (refine ⟨fun z => Bool.noConfusion z, fun _ => ?_⟩)
  | with_reducible refine em_make ?_
  | with_reducible refine em_meth ?_
  | (refine ⟨_, _, rfl, (by walk_at "rc mem"), rfl, ?_⟩)
  | with_reducible refine em_neg ?_
  | with_reducible refine sx_fld ?_
  | (refine ⟨_, _, _, 0, rfl, rfl, (by assumption), (by assumption), (of_decide_eq_true rfl), ?_⟩)
  | ((with_reducible (apply ra_len)); (first | exact .l .d | exact .t | exact .l (.c (by walk_at "rc mem"))))
  | ((with_reducible (apply ra_lenK)); (walk_at "rc mem"))
  | ((with_reducible (apply ro_ixL)); (first | exact .d | exact .c (by walk_at "rc mem")); (first | rfl | exact atI_0))
  | ((with_reducible (apply ro_ixT)); rfl)
  | (with_reducible (refine gx_name ?_ (by decide)))
  | ((with_reducible (apply gx_tupR)); rfl)
  | with_reducible refine gxs_cons ?_
  | with_reducible refine gxs_nil ?_
  | (exact ⟨rfl, rfl⟩)
  | (refine ⟨rfl, ?_⟩)
  | with_reducible refine em_dget ?_
  | with_reducible refine sx_lockAsg ?_
  | with_reducible refine em_din ?_
  | with_reducible refine em_dnotIn ?_
  | ((with_reducible (apply sx_aug)); rfl)
  | with_reducible refine sx_setL ?_
  | with_reducible refine sx_dput ?_
  | with_reducible refine gx_fld ?_
  | (with_reducible (apply sx_fldAug))
  | ((with_reducible (apply sx_rz)); assumption)
  | (refine ⟨(by simp only [List.length_cons, List.length_nil]; omega), ?_⟩))
section
variable [Tbl] {P : Program} {w : World} {K : PySem.W.Frag} {mg : Str → Option Value} {base : Heap}
local macro_rules | `(tactic| walk_at "rc call") => `(tactic| with_reducible refine c_is_within ?_)
def RowsIn (K : PySem.W.Frag) (l : List (Addr × Rw)) (R : Rg) : Prop := ∀ p ∈ l, (p.1, RC.i (He.ga K "LogRow") (rwFs p.2)) ∈ R
structure MbIn (K : PySem.W.Frag) (b : Mb) (R : Rg) : Prop where
  c : (b.a, RC.i (He.ga K "Member") (mbFs b)) ∈ R
  r : RowsIn K b.left R
  z : b.left.length ≤ 1000
def und (b : Mb) : Int := (b.left.map fun p => p.2.undo).sum
def begV (b : Mb) : V := match b.left with
  | [] => .non
  | p :: _ => .int p.2.place
theorem fm_some {α β : Type} (g : α → β) : ∀ l : List α, (l.filterMap fun a => some (g a)) = l.map g
  | [] => rfl
  | a :: l => by rw [List.filterMap_cons, List.map_cons, fm_some g l]
theorem fm_if {α β : Type} (p : α → Bool) (g : α → β) : ∀ l : List α, (l.filterMap fun a => if p a = true then none else some (g a)) = (l.filter fun a => !p a).map g
  | [] => rfl
  | a :: l => by
    rw [List.filterMap_cons, List.filter_cons, fm_if p g l]
    cases c : p a <;> simp
structure En where
  cells : Int
  head : Int
  nxt : Int
  homeA : Addr
  poolA : Addr
  dirtyA : Addr
  rowsA : Addr
  memA : Addr
def enFs (E : En) : List (Str × D) := [("kept_cells", .v (.int E.cells)), ("kept_home", .v (.ref E.homeA)), ("kept_pool", .v (.ref E.poolA)), ("kept_dirty", .v (.ref E.dirtyA)), ("kept_rows", .v (.ref E.rowsA)), ("kept_members", .v (.ref E.memA)), ("kept_next", .v (.int E.nxt)), ("kept_head", .v (.int E.head)), ("kept_left", .v .non), ("kept_down", .v (.bl false))]
def memK (ms : List Mb) : List (Key × V) := ms.map fun b => (.inl b.no, .ref b.a)
theorem lk_mem {ms : List Mb} {b : Mb} (m : b ∈ ms) (nd : (ms.map (·.no)).Nodup) : lkK (vK (memK ms)) (.inl b.no) = some (.v (.ref b.a)) := by
  induction ms with
  | nil => cases m
  | cons c r ih =>
    rw [List.map_cons, List.nodup_cons] at nd
    rcases List.mem_cons.mp m with e | e
    · subst e
      unfold lkK vK memK
      rw [List.map_cons, List.map_cons, List.find?_cons_of_pos (by simp)]
      rfl
    · have ne : c.no ≠ b.no := fun z => nd.1 (List.mem_map.mpr ⟨b, e, z.symm⟩)
      have h := ih e nd.2
      unfold lkK vK memK at h ⊢
      rw [List.map_cons, List.map_cons, List.find?_cons_of_neg (by simpa using ne)]
      exact h
theorem sc_Member_undoing : FnScope ["self", "row"] ["self"] (defScope (inClass (top 25) 1)) := ⟨rfl, rfl, rfl, by decide +kernel, rfl, by decide +kernel, by decide +kernel⟩
theorem kp_Member_undoing (W : Wd w K mg base) : PySem.W.keepIn K (.ref (He.fAd K ("Member", some "undoing"))) = true := W.kp 44
theorem b_Member_undoing (W : Wd w K mg base) : Binds K (fdO K (He.fAd K ("Member", some "undoing"))) ["self"] [] := (W.F 44).bindsN fun _ _ _ _ _ _ us hl => match us, hl with | [_], _ => rfl
def gm_Member_undoing [Tbl] (K : PySem.W.Frag) : Gm := fun ds R F => ∃ b : Mb, ds = [.v (.ref b.a)] ∧ MbIn K b R ∧ F (.v (.int (und b))) R
abbrev sp_Member_undoing [Tbl] (K : PySem.W.Frag) : Sp := spM (gm_Member_undoing K)
theorem c_Member_undoing [Tbl] {K : PySem.W.Frag} {H0 : Hp} {R0 R : Rg} {Ex : XK} {F : D → Rg → Prop} {b : Mb} (h : MbIn K b R) (k : F (.v (.int (und b))) R) : RS H0 R0 (sp_Member_undoing K) Ex [.v (.ref b.a)] R F := rs_m ⟨b, rfl, h, k⟩
theorem ok_Member_undoing (W : Wd w K mg base) : FnOk P w K mg base CX0 1 (He.fAd K ("Member", some "undoing")) (fdO K (He.fAd K ("Member", some "undoing"))) ["self"] (sp_Member_undoing K) := by
  refine (W.F 44).ok sc_Member_undoing ?_ (fun cdv A outer s H vs Q E hr h => ?_)
  · exact lenM fun ds R F h => by obtain ⟨b, rfl, ⟨hc, hr, hz⟩, hF⟩ := h; rfl
  have hu64 := hr.units
  have hu := Nat.lt_of_le_of_lt (Nat.add_le_add_left (show 1 ≤ 64 by decide) _) hu64
  refine ⟨_, PSs.nox (pss_one (ps_ret (pe_callB (sumK (K := K) rfl rfl) rfl (W.free 50) (by decide +kernel) (pa_cons (pe_lc (own := [("row", 1)]) (g := (gName 1)) rfl sc_Member_undoing.nd (ilistK (K := K) rfl (fldK (K := K) rfl (pv 0) rfl)) (blkOk_by (show blkC ["self", "row"] (defScope (inClass (top 25) 1)) _ [("row", 1)] = true by decide +kernel)) (fun _ _ _ _ _ => (pg_name (i := 1) sc_Member_undoing.nd rfl (.inl rfl))) (fun _ _ _ _ _ => pts_nil) (fun _ _ _ _ _ => (fldK (K := K) rfl (pv 1) rfl))) pa_nil)))), entryM h ?_⟩
  clear h hu hu64 hr
  rintro ds R F ⟨b, rfl, ⟨hc, hr, hz⟩, hF⟩
  have cl_LogRow : Cls K (He.ga K "LogRow") := W.cls 77
  have cl_Member : Cls K (He.ga K "Member") := W.cls 88
  have na_LogRow_undo : NoAttr K (He.ga K "LogRow") "undo" := W.noat 84
  have na_Member_left_rows : NoAttr K (He.ga K "Member") "left_rows" := W.noat 92
  repeat walk_at "rc step"
  refine em_lcI ?_
  repeat walk_at "rc step"
  refine ⟨_, b.left, fun p => .v (.ref p.1), fun p => some (.v (.int p.2.undo)), .d, Nat.le_trans hz (by decide), fun p hp H1 Rx hs => ?_, ?_⟩
  · have hm := hs _ (hr p hp)
    repeat walk_at "rc step"
  · repeat walk_at "rc step"
    refine ra_sum (ns := b.left.map fun p : Addr × Rw => p.2.undo) ?_ ?_
    · rw [fm_some, List.map_map]
      exact .d
    · exact hF
theorem sc_Member_begin : FnScope ["self"] ["self"] (defScope (inClass (top 25) 2)) := ⟨rfl, rfl, rfl, by decide +kernel, rfl, by decide +kernel, by decide +kernel⟩
theorem kp_Member_begin (W : Wd w K mg base) : PySem.W.keepIn K (.ref (He.fAd K ("Member", some "begin"))) = true := W.kp 45
theorem b_Member_begin (W : Wd w K mg base) : Binds K (fdO K (He.fAd K ("Member", some "begin"))) ["self"] [] := (W.F 45).bindsN fun _ _ _ _ _ _ us hl => match us, hl with | [_], _ => rfl
def gm_Member_begin [Tbl] (K : PySem.W.Frag) : Gm := fun ds R F => ∃ b : Mb, ds = [.v (.ref b.a)] ∧ MbIn K b R ∧ F (.v (begV b)) R
abbrev sp_Member_begin [Tbl] (K : PySem.W.Frag) : Sp := spM (gm_Member_begin K)
theorem c_Member_begin [Tbl] {K : PySem.W.Frag} {H0 : Hp} {R0 R : Rg} {Ex : XK} {F : D → Rg → Prop} {b : Mb} (h : MbIn K b R) (k : F (.v (begV b)) R) : RS H0 R0 (sp_Member_begin K) Ex [.v (.ref b.a)] R F := rs_m ⟨b, rfl, h, k⟩
theorem ok_Member_begin (W : Wd w K mg base) : FnOk P w K mg base CX0 1 (He.fAd K ("Member", some "begin")) (fdO K (He.fAd K ("Member", some "begin"))) ["self"] (sp_Member_begin K) := by
  refine (W.F 45).ok sc_Member_begin ?_ (fun cdv A outer s H vs Q E hr h => ?_)
  · exact lenM fun ds R F h => by obtain ⟨b, rfl, ⟨hc, hr, hz⟩, hF⟩ := h; rfl
  have hu64 := hr.units
  have hu := Nat.lt_of_le_of_lt (Nat.add_le_add_left (show 1 ≤ 64 by decide) _) hu64
  refine ⟨_, PSs.nox (pss_one (ps_ret (pe_ifExp (pt_cmpR op_gt (pe_callB (lenK (K := K) rfl) rfl (W.free 49) (by decide +kernel) (pa_cons (fldK (K := K) rfl (pv 0) rfl) pa_nil)) pe_int (nomark _)) (fldK (K := K) rfl (pe_ix (ixlK (K := K) rfl) (fldK (K := K) rfl (pv 0) rfl) pe_int (fun _ _ => rfl)) rfl) pe_non))), entryM h ?_⟩
  clear h hu hu64 hr
  rintro ds R F ⟨b, rfl, ⟨hc, hr, hz⟩, hF⟩
  have cl_LogRow : Cls K (He.ga K "LogRow") := W.cls 77
  have cl_Member : Cls K (He.ga K "Member") := W.cls 88
  have na_LogRow_place : NoAttr K (He.ga K "LogRow") "place" := W.noat 86
  have na_Member_left_rows : NoAttr K (He.ga K "Member") "left_rows" := W.noat 92
  obtain ⟨no, ends, a, left⟩ := b
  cases left with
  | nil =>
    repeat walk_at "rc step"
    exact hF
  | cons p l =>
    have hm := hr p List.mem_cons_self
    repeat walk_at "rc step"
    refine ⟨fun hb => ?_, fun hb => ?_⟩
    · repeat walk_at "rc step"
      exact hF
    · exact absurd hb (by simp [refsD])
theorem sc_Engine_check_up : FnScope ["self"] ["self"] (defScope (inClass (top 50) 1)) := ⟨rfl, rfl, rfl, by decide +kernel, rfl, by decide +kernel, by decide +kernel⟩
theorem kp_Engine_check_up (W : Wd w K mg base) : PySem.W.keepIn K (.ref (He.fAd K ("Engine", some "check_up"))) = true := W.kp 49
theorem b_Engine_check_up (W : Wd w K mg base) : Binds K (fdO K (He.fAd K ("Engine", some "check_up"))) ["self"] [] := (W.F 49).bindsN fun _ _ _ _ _ _ us hl => match us, hl with | [_], _ => rfl
def gm_Engine_check_up [Tbl] (K : PySem.W.Frag) : Gm := fun ds R F => ∃ (e : Addr) (E : En), ds = [.v (.ref e)] ∧ (e, RC.i (He.ga K "Engine") (enFs E)) ∈ R ∧ F (.v .non) R
abbrev sp_Engine_check_up [Tbl] (K : PySem.W.Frag) : Sp := spM (gm_Engine_check_up K)
theorem c_Engine_check_up [Tbl] {K : PySem.W.Frag} {H0 : Hp} {R0 R : Rg} {Ex : XK} {F : D → Rg → Prop} {e : Addr} {E : En} (h : (e, RC.i (He.ga K "Engine") (enFs E)) ∈ R) (k : F (.v .non) R) : RS H0 R0 (sp_Engine_check_up K) Ex [.v (.ref e)] R F := rs_m ⟨e, E, rfl, h, k⟩
theorem ok_Engine_check_up (W : Wd w K mg base) : FnOk P w K mg base CX0 1 (He.fAd K ("Engine", some "check_up")) (fdO K (He.fAd K ("Engine", some "check_up"))) ["self"] (sp_Engine_check_up K) := by
  refine (W.F 49).ok sc_Engine_check_up ?_ (fun cdv A outer s H vs Q E hr h => ?_)
  · exact lenM fun ds R F h => by obtain ⟨e, E, rfl, hE, hF⟩ := h; rfl
  have hu64 := hr.units
  have hu := Nat.lt_of_le_of_lt (Nat.add_le_add_left (show 1 ≤ 64 by decide) _) hu64
  refine ⟨_, PSs.nox (pss_one (ps_if (pt_val (fldK (K := K) rfl (pv 0) rfl))
    pss_never
    pss_nil)), entryM h ?_⟩
  clear h hu hu64 hr
  rintro ds R F ⟨e, E, rfl, hE, hF⟩
  have cl_Engine : Cls K (He.ga K "Engine") := W.cls 101
  have na_Engine_kept_down : NoAttr K (He.ga K "Engine") "kept_down" := W.noat 112
  repeat walk_at "rc step"
  exact hF
theorem sc_Engine_head_place : FnScope ["self"] ["self"] (defScope (inClass (top 50) 5)) := ⟨rfl, rfl, rfl, by decide +kernel, rfl, by decide +kernel, by decide +kernel⟩
theorem kp_Engine_head_place (W : Wd w K mg base) : PySem.W.keepIn K (.ref (He.fAd K ("Engine", some "head_place"))) = true := W.kp 53
theorem b_Engine_head_place (W : Wd w K mg base) : Binds K (fdO K (He.fAd K ("Engine", some "head_place"))) ["self"] [] := (W.F 53).bindsN fun _ _ _ _ _ _ us hl => match us, hl with | [_], _ => rfl
def gm_Engine_head_place [Tbl] (K : PySem.W.Frag) : Gm := fun ds R F => ∃ (e : Addr) (E : En), ds = [.v (.ref e)] ∧ (e, RC.i (He.ga K "Engine") (enFs E)) ∈ R ∧ F (.v (.int E.head)) R
abbrev sp_Engine_head_place [Tbl] (K : PySem.W.Frag) : Sp := spM (gm_Engine_head_place K)
theorem c_Engine_head_place [Tbl] {K : PySem.W.Frag} {H0 : Hp} {R0 R : Rg} {Ex : XK} {F : D → Rg → Prop} {e : Addr} {E : En} (h : (e, RC.i (He.ga K "Engine") (enFs E)) ∈ R) (k : F (.v (.int E.head)) R) : RS H0 R0 (sp_Engine_head_place K) Ex [.v (.ref e)] R F := rs_m ⟨e, E, rfl, h, k⟩
theorem ok_Engine_head_place (W : Wd w K mg base) : FnOk P w K mg base CX0 1 (He.fAd K ("Engine", some "head_place")) (fdO K (He.fAd K ("Engine", some "head_place"))) ["self"] (sp_Engine_head_place K) := by
  refine (W.F 53).ok sc_Engine_head_place ?_ (fun cdv A outer s H vs Q E hr h => ?_)
  · exact lenM fun ds R F h => by obtain ⟨e, E, rfl, hE, hF⟩ := h; rfl
  have hu64 := hr.units
  have hu := Nat.lt_of_le_of_lt (Nat.add_le_add_left (show 1 ≤ 64 by decide) _) hu64
  refine ⟨_, PSs.nox (pss_one (ps_ret (fldK (K := K) rfl (pv 0) rfl))), entryM h ?_⟩
  clear h hu hu64 hr
  rintro ds R F ⟨e, E, rfl, hE, hF⟩
  have cl_Engine : Cls K (He.ga K "Engine") := W.cls 101
  have na_Engine_kept_head : NoAttr K (He.ga K "Engine") "kept_head" := W.noat 110
  repeat walk_at "rc step"
  exact hF
theorem sc_Engine_is_down : FnScope ["self"] ["self"] (defScope (inClass (top 50) 35)) := ⟨rfl, rfl, rfl, by decide +kernel, rfl, by decide +kernel, by decide +kernel⟩
theorem kp_Engine_is_down (W : Wd w K mg base) : PySem.W.keepIn K (.ref (He.fAd K ("Engine", some "is_down"))) = true := W.kp 78
theorem b_Engine_is_down (W : Wd w K mg base) : Binds K (fdO K (He.fAd K ("Engine", some "is_down"))) ["self"] [] := (W.F 78).bindsN fun _ _ _ _ _ _ us hl => match us, hl with | [_], _ => rfl
def gm_Engine_is_down [Tbl] (K : PySem.W.Frag) : Gm := fun ds R F => ∃ (e : Addr) (E : En), ds = [.v (.ref e)] ∧ (e, RC.i (He.ga K "Engine") (enFs E)) ∈ R ∧ F (.v (.bl false)) R
abbrev sp_Engine_is_down [Tbl] (K : PySem.W.Frag) : Sp := spM (gm_Engine_is_down K)
theorem c_Engine_is_down [Tbl] {K : PySem.W.Frag} {H0 : Hp} {R0 R : Rg} {Ex : XK} {F : D → Rg → Prop} {e : Addr} {E : En} (h : (e, RC.i (He.ga K "Engine") (enFs E)) ∈ R) (k : F (.v (.bl false)) R) : RS H0 R0 (sp_Engine_is_down K) Ex [.v (.ref e)] R F := rs_m ⟨e, E, rfl, h, k⟩
theorem ok_Engine_is_down (W : Wd w K mg base) : FnOk P w K mg base CX0 1 (He.fAd K ("Engine", some "is_down")) (fdO K (He.fAd K ("Engine", some "is_down"))) ["self"] (sp_Engine_is_down K) := by
  refine (W.F 78).ok sc_Engine_is_down ?_ (fun cdv A outer s H vs Q E hr h => ?_)
  · exact lenM fun ds R F h => by obtain ⟨e, E, rfl, hE, hF⟩ := h; rfl
  have hu64 := hr.units
  have hu := Nat.lt_of_le_of_lt (Nat.add_le_add_left (show 1 ≤ 64 by decide) _) hu64
  refine ⟨_, PSs.nox (pss_one (ps_ret (fldK (K := K) rfl (pv 0) rfl))), entryM h ?_⟩
  clear h hu hu64 hr
  rintro ds R F ⟨e, E, rfl, hE, hF⟩
  have cl_Engine : Cls K (He.ga K "Engine") := W.cls 101
  have na_Engine_kept_down : NoAttr K (He.ga K "Engine") "kept_down" := W.noat 112
  repeat walk_at "rc step"
  exact hF
local macro_rules | `(tactic| walk_at "rc call") => `(tactic| ((with_reducible (apply c_Engine_check_up)); (walk_at "rc mem")))
theorem nd_srt {ms : List Mb} (h : ms.Pairwise fun a b => a.no < b.no) : (ms.map (·.no)).Nodup := by
  unfold List.Nodup
  rw [List.pairwise_map]
  exact h.imp fun {a b} z => by omega
structure MsIn (K : PySem.W.Frag) (E : En) (ms : List Mb) (R : Rg) : Prop where
  k : (E.memA, RC.k (vK (memK ms))) ∈ R
  b : ∀ b ∈ ms, MbIn K b R
  srt : ms.Pairwise fun a b => a.no < b.no
  lt : ∀ b ∈ ms, 0 ≤ b.no ∧ b.no ≤ E.nxt - 1
  z : ms.length ≤ 60
theorem sc_Engine_member : FnScope ["self", "deed"] ["self", "deed"] (defScope (inClass (top 50) 2)) := ⟨rfl, rfl, rfl, by decide +kernel, rfl, by decide +kernel, by decide +kernel⟩
theorem kp_Engine_member (W : Wd w K mg base) : PySem.W.keepIn K (.ref (He.fAd K ("Engine", some "member"))) = true := W.kp 50
theorem b_Engine_member (W : Wd w K mg base) : Binds K (fdO K (He.fAd K ("Engine", some "member"))) ["self", "deed"] [] := (W.F 50).bindsN fun _ _ _ _ _ _ us hl => match us, hl with | [_, _], _ => rfl
def gm_Engine_member [Tbl] (K : PySem.W.Frag) : Gm := fun ds R F => ∃ (e : Addr) (E : En) (ms : List Mb) (b : Mb), ds = [.v (.ref e), .v (.int b.no)] ∧ (e, RC.i (He.ga K "Engine") (enFs E)) ∈ R ∧ MsIn K E ms R ∧ b ∈ ms ∧ F (.v (.ref b.a)) R
abbrev sp_Engine_member [Tbl] (K : PySem.W.Frag) : Sp := spM (gm_Engine_member K)
theorem c_Engine_member [Tbl] {K : PySem.W.Frag} {H0 : Hp} {R0 R : Rg} {Ex : XK} {F : D → Rg → Prop} {e : Addr} {E : En} {ms : List Mb} {b : Mb} (h1 : (e, RC.i (He.ga K "Engine") (enFs E)) ∈ R) (h2 : MsIn K E ms R) (m : b ∈ ms) (k : F (.v (.ref b.a)) R) : RS H0 R0 (sp_Engine_member K) Ex [.v (.ref e), .v (.int b.no)] R F := rs_m ⟨e, E, ms, b, rfl, h1, h2, m, k⟩
theorem ok_Engine_member (W : Wd w K mg base) : FnOk P w K mg base CX0 3 (He.fAd K ("Engine", some "member")) (fdO K (He.fAd K ("Engine", some "member"))) ["self", "deed"] (sp_Engine_member K) := by
  refine (W.F 50).ok sc_Engine_member ?_ (fun cdv A outer s H vs Q E hr h => ?_)
  · exact lenM fun ds R F h => by obtain ⟨e, E, ms, b, rfl, hE, ⟨hk, hb, srt, lt, z⟩, hm, hF⟩ := h; rfl
  have hu64 := hr.units
  have hu := Nat.lt_of_le_of_lt (Nat.add_le_add_left (show 1 ≤ 64 by decide) _) hu64
  refine ⟨_, PSs.nox (pss_cons (ps_expr (pe_meth0 (pv 0) (W.cls 101) (W.meth 113) (ok_Engine_check_up (K := K) W) (hr.mono (by decide)) (b_Engine_check_up W) .nil pass0))
    (pss_cons (ps_if (PW.pt (pw_or (pt_not (pt_val (pe_call (ok_is_within (K := K) W) (hr.mono (by decide)) rfl (W.glo 1) (kp_is_within W) (b_is_within W) .nil pass0 (pa_cons (pv 1) (pa_cons pe_int (pa_cons (pe_op op_sub (fldK (K := K) rfl (pv 0) rfl) pe_int) pa_nil)))))) (pw_or1 (pt_cmp (pc_dnotin hu (pv 1) (fldK (K := K) rfl (pv 0) rfl))))))
    pss_never
    pss_nil)
    (pss_one (ps_ret (pe_dget hu (fldK (K := K) rfl (pv 0) rfl) (pv 1) (fun _ _ => rfl)))))), entryM h ?_⟩
  clear h hu hu64 hr
  rintro ds R F ⟨e, E, ms, b, rfl, hE, ⟨hk, hb, srt, lt, z⟩, hm, hF⟩
  have cl_Engine : Cls K (He.ga K "Engine") := W.cls 101
  have na_Engine_kept_members : NoAttr K (He.ga K "Engine") "kept_members" := W.noat 108
  have na_Engine_kept_next : NoAttr K (He.ga K "Engine") "kept_next" := W.noat 109
  have lk := lk_mem hm (nd_srt srt)
  have en : (decide (0 ≤ b.no) && decide (b.no ≤ E.nxt - 1)) = true := by simp [lt b hm]
  repeat walk_at "rc step"
  rw [en]
  repeat walk_at "rc step"
  refine ⟨E.memA, _, .inl b.no, rfl, .k hk, rfl, ?_⟩
  rw [lk]
  repeat walk_at "rc step"
  exact ⟨E.memA, _, .inl b.no, _, rfl, .k hk, rfl, lk, hF⟩
local macro_rules | `(tactic| walk_at "rc call") => `(tactic| first | ((with_reducible (apply c_Member_undoing)); assumption) | ((with_reducible (apply c_Member_begin)); assumption))
theorem MbIn.sub {K : PySem.W.Frag} {b : Mb} {R R' : Rg} (h : MbIn K b R) (s : ∀ c ∈ R, c ∈ R') : MbIn K b R' := ⟨s _ h.c, fun p hp => s _ (h.r p hp), h.z⟩
theorem len_pos {b : Mb} : (decide (0 < ((refsD b.left).length : Int))) = !b.left.isEmpty := by
  obtain ⟨no, ends, a, left⟩ := b
  cases left <;> simp [refsD]
theorem sc_Member_age : FnScope ["self"] ["self"] (defScope (inClass (top 25) 3)) := ⟨rfl, rfl, rfl, by decide +kernel, rfl, by decide +kernel, by decide +kernel⟩
theorem kp_Member_age (W : Wd w K mg base) : PySem.W.keepIn K (.ref (He.fAd K ("Member", some "age"))) = true := W.kp 46
theorem b_Member_age (W : Wd w K mg base) : Binds K (fdO K (He.fAd K ("Member", some "age"))) ["self"] [] := (W.F 46).bindsN fun _ _ _ _ _ _ us hl => match us, hl with | [_], _ => rfl
def gm_Member_age [Tbl] (K : PySem.W.Frag) : Gm := fun ds R F => ∃ b : Mb, ds = [.v (.ref b.a)] ∧ MbIn K b R ∧ F (.t (if b.left.isEmpty then [.v (.int 1), .v (.int b.no)] else [.v (.int 0), .v (begV b)])) R
abbrev sp_Member_age [Tbl] (K : PySem.W.Frag) : Sp := spM (gm_Member_age K)
theorem c_Member_age [Tbl] {K : PySem.W.Frag} {H0 : Hp} {R0 R : Rg} {Ex : XK} {F : D → Rg → Prop} {b : Mb} (h : MbIn K b R) (k : F (.t (if b.left.isEmpty then [.v (.int 1), .v (.int b.no)] else [.v (.int 0), .v (begV b)])) R) : RS H0 R0 (sp_Member_age K) Ex [.v (.ref b.a)] R F := rs_m ⟨b, rfl, h, k⟩
theorem ok_Member_age (W : Wd w K mg base) : FnOk P w K mg base CX0 2 (He.fAd K ("Member", some "age")) (fdO K (He.fAd K ("Member", some "age"))) ["self"] (sp_Member_age K) := by
  refine (W.F 46).ok sc_Member_age ?_ (fun cdv A outer s H vs Q E hr h => ?_)
  · exact lenM fun ds R F h => by obtain ⟨b, rfl, hb, hF⟩ := h; rfl
  have hu64 := hr.units
  have hu := Nat.lt_of_le_of_lt (Nat.add_le_add_left (show 1 ≤ 64 by decide) _) hu64
  refine ⟨_, PSs.nox (pss_one (ps_ret (pe_ifExp (pt_cmpR op_gt (pe_callB (lenK (K := K) rfl) rfl (W.free 49) (by decide +kernel) (pa_cons (fldK (K := K) rfl (pv 0) rfl) pa_nil)) pe_int (nomark _)) (pe_tup (pa_cons pe_int (pa_cons (pe_meth0 (pv 0) (W.cls 88) (W.meth 94) (ok_Member_begin (K := K) W) (hr.mono (by decide)) (b_Member_begin W) .nil pass0) pa_nil))) (pe_tup (pa_cons pe_int (pa_cons (fldK (K := K) rfl (pv 0) rfl) pa_nil)))))), entryM h ?_⟩
  clear h hu hu64 hr
  rintro ds R F ⟨b, rfl, hb, hF⟩
  have cl_Member : Cls K (He.ga K "Member") := W.cls 88
  have na_Member_number : NoAttr K (He.ga K "Member") "number" := W.noat 90
  have na_Member_left_rows : NoAttr K (He.ga K "Member") "left_rows" := W.noat 92
  have hc := hb.c
  repeat walk_at "rc step"
  rw [len_pos]
  refine ⟨fun h => ?_, fun h => ?_⟩
  · have e : b.left.isEmpty = false := by simpa using h
    rw [e] at hF
    repeat walk_at "rc step"
    exact hF
  · have e : b.left.isEmpty = true := by simpa using h
    rw [e] at hF
    repeat walk_at "rc step"
    exact hF
theorem sc_Engine_others : FnScope ["self", "asker", "members", "member"] ["self", "asker"] (defScope (inClass (top 50) 14)) := ⟨rfl, rfl, rfl, by decide +kernel, rfl, by decide +kernel, by decide +kernel⟩
theorem kp_Engine_others (W : Wd w K mg base) : PySem.W.keepIn K (.ref (He.fAd K ("Engine", some "others"))) = true := W.kp 61
theorem b_Engine_others (W : Wd w K mg base) : Binds K (fdO K (He.fAd K ("Engine", some "others"))) ["self", "asker"] [] := (W.F 61).bindsN fun _ _ _ _ _ _ us hl => match us, hl with | [_, _], _ => rfl
def gm_Engine_others [Tbl] (K : PySem.W.Frag) : Gm := fun ds R F => ∃ (e : Addr) (E : En) (ms : List Mb) (a : Mb), ds = [.v (.ref e), .v (.ref a.a)] ∧ (e, RC.i (He.ga K "Engine") (enFs E)) ∈ R ∧ MsIn K E ms R ∧ MbIn K a R ∧
  F (.l ((ms.filter fun b => !b.left.isEmpty && decide (b.no ≠ a.no)).map fun b => .t [.v (begV b), .v (.int (und b)), .v (.int b.no)])) R
abbrev sp_Engine_others [Tbl] (K : PySem.W.Frag) : Sp := spM (gm_Engine_others K)
theorem c_Engine_others [Tbl] {K : PySem.W.Frag} {H0 : Hp} {R0 R : Rg} {Ex : XK} {F : D → Rg → Prop} {e : Addr} {E : En} {ms : List Mb} {a : Mb} (h1 : (e, RC.i (He.ga K "Engine") (enFs E)) ∈ R) (h2 : MsIn K E ms R) (h3 : MbIn K a R) (k : F (.l ((ms.filter fun b => !b.left.isEmpty && decide (b.no ≠ a.no)).map fun b => .t [.v (begV b), .v (.int (und b)), .v (.int b.no)])) R) : RS H0 R0 (sp_Engine_others K) Ex [.v (.ref e), .v (.ref a.a)] R F := rs_m ⟨e, E, ms, a, rfl, h1, h2, h3, k⟩
theorem ok_Engine_others (W : Wd w K mg base) : FnOk P w K mg base CX0 2 (He.fAd K ("Engine", some "others")) (fdO K (He.fAd K ("Engine", some "others"))) ["self", "asker"] (sp_Engine_others K) := by
  refine (W.F 61).ok sc_Engine_others ?_ (fun cdv A outer s H vs Q E hr h => ?_)
  · exact lenM fun ds R F h => by obtain ⟨e, E, ms, a, rfl, hE, hms, ha, hF⟩ := h; rfl
  have hu64 := hr.units
  have hu := Nat.lt_of_le_of_lt (Nat.add_le_add_left (show 1 ≤ 64 by decide) _) hu64
  refine ⟨_, PSs.nox (pss_cons (ps_lock (ps_setLc (i := 2) (own := [("member", 3)]) (g := (gName 3)) rfl sc_Engine_others.nd rfl rfl (sw_true rfl rfl rfl (by decide +kernel)) (pi_values (fldK (K := K) rfl (pv 0) rfl)) (blkOk_by (show blkC ["self", "asker", "members", "member"] (defScope (inClass (top 50) 14)) _ [("member", 3)] = true by decide +kernel)) (fun _ _ _ _ _ => (pg_name (i := 3) sc_Engine_others.nd rfl (.inl rfl))) (fun _ _ _ _ _ => (pts_one (pt_cmpR op_ne (fldK (K := K) rfl (pv 3) rfl) (fldK (K := K) rfl (pv 1) rfl) (nomark _)))) (fun _ _ _ _ _ => (pv 3))))
    (pss_one (ps_ret (pe_lc (own := [("member", 3)]) (g := (gName 3)) rfl sc_Engine_others.nd (ilistK (K := K) rfl (pv 2)) (blkOk_by (show blkC ["self", "asker", "members", "member"] (defScope (inClass (top 50) 14)) _ [("member", 3)] = true by decide +kernel)) (fun _ _ _ _ _ => (pg_name (i := 3) sc_Engine_others.nd rfl (.inl rfl))) (fun _ _ _ _ _ => (pts_one (pt_cmpR op_gt (pe_callB (lenK (K := K) rfl) rfl (W.free 49) (by decide +kernel) (pa_cons (fldK (K := K) rfl (pv 3) rfl) pa_nil)) pe_int (nomark _)))) (fun _ _ _ _ _ => (pe_tup (pa_cons (pe_meth0 (pv 3) (W.cls 88) (W.meth 94) (ok_Member_begin (K := K) W) (hr.mono (by decide)) (b_Member_begin W) .nil pass0) (pa_cons (pe_meth0 (pv 3) (W.cls 88) (W.meth 93) (ok_Member_undoing (K := K) W) (hr.mono (by decide)) (b_Member_undoing W) .nil pass0) (pa_cons (fldK (K := K) rfl (pv 3) rfl) pa_nil))))))))), entryM h ?_⟩
  clear h hu hu64 hr
  rintro ds R F ⟨e, E, ms, a, rfl, hE, hms, ha, hF⟩
  have cl_Engine : Cls K (He.ga K "Engine") := W.cls 101
  have cl_Member : Cls K (He.ga K "Member") := W.cls 88
  have na_Member_number : NoAttr K (He.ga K "Member") "number" := W.noat 90
  have na_Engine_kept_members : NoAttr K (He.ga K "Engine") "kept_members" := W.noat 108
  have na_Member_left_rows : NoAttr K (He.ga K "Member") "left_rows" := W.noat 92
  have hk := hms.k
  have hac := ha.c
  obtain ⟨n, hn⟩ := List.mem_iff_getElem?.mp hk
  have hE' : ∀ o, (e, RC.i (He.ga K "Engine") (enFs E)) ∈ R.set n (E.memA, .fz o (vK (memK ms))) := fun o => mem_set_ne hE hn (by simp)
  repeat walk_at "rc step"
  refine em_lockV hn (fun b => if b.no = a.no then none else some (.v (.ref b.a))) (Nat.le_trans hms.z (by decide)) (fun o => ?_) (fun o b hb H1 Rx hs => ?_) ?_
  · have := hE' o
    repeat walk_at "rc step"
  · have hbm : MbIn K b R := hms.b b hb
    have h1 : (b.a, RC.i (He.ga K "Member") (mbFs b)) ∈ Rx := hs _ (mem_set_ne hbm.c hn (by simp))
    have h2 : (a.a, RC.i (He.ga K "Member") (mbFs a)) ∈ Rx := hs _ (mem_set_ne hac hn (by simp))
    repeat walk_at "rc step"
    refine ⟨fun h => ?_, fun h => ?_⟩
    · have ne : b.no ≠ a.no := by simpa using h
      rw [if_neg ne]
      repeat walk_at "rc step"
    · have e : b.no = a.no := by simpa using h
      rw [if_pos e]
  repeat walk_at "rc step"
  refine em_lcI ?_
  repeat walk_at "rc step"
  refine ⟨_, ms.filter fun b => decide (b.no ≠ a.no), fun b => .v (.ref b.a), fun b => if b.left.isEmpty then none else some (.t [.v (begV b), .v (.int (und b)), .v (.int b.no)]), ?_, ?_, fun b hb H1 Rx hs => ?_, ?_⟩
  · have e : ((ms.filterMap fun b => if b.no = a.no then none else some (D.v (.ref b.a))) : List D) = (ms.filter fun b => decide (b.no ≠ a.no)).map fun b => .v (.ref b.a) := by
      clear hms hF hk hn hE'
      induction ms with
      | nil => rfl
      | cons b r ih =>
        by_cases c : b.no = a.no
        · simp [c, ih]
        · simp [c, ih]
    rw [e]
    exact .d
  · exact Nat.le_trans (List.length_filter_le _ _) (Nat.le_trans hms.z (by decide))
  · have hb0 := (hms.b b (List.mem_filter.mp hb).1).sub hs
    have hbc := hb0.c
    repeat walk_at "rc step"
    rw [len_pos]
    refine ⟨fun h => ?_, fun h => ?_⟩
    · have e : b.left.isEmpty = false := by simpa using h
      repeat walk_at "rc step"
      simp [e]
    · have e : b.left.isEmpty = true := by simpa using h
      simp [e]
  · rw [fm_if fun b : Mb => b.left.isEmpty, List.filter_filter]
    exact hF
end
end Rc
-- G3
set_option Elab.async false
set_option linter.all false
set_option maxRecDepth 100000
set_option maxHeartbeats 4000000
namespace Rc
open PySem PySem.Spec PyProof.Rows L2 RcHead
local macro_rules | `(tactic| walk_at "rc mem") => `(tactic| first | assumption | exact List.mem_cons_self | ((with_reducible (refine List.mem_cons_of_mem _ ?_)); walk_at "rc mem"))
local macro_rules | `(tactic| walk_at "rc end") => `(tactic| fail)
local macro_rules | `(tactic| walk_at "rc lst") => `(tactic| with_reducible refine em_lst ?_)
local macro_rules | `(tactic| walk_at "rc call") => `(tactic| fail)
local macro_rules | `(tactic| walk_at "rc step") => `(tactic| first
  | ((with_reducible (apply em_var)); rfl)
  | with_reducible refine em_c ?_
  | with_reducible refine em_op ?_
  | with_reducible refine ro_I0 ?_
  | ((with_reducible (refine ro_eq ?_ ?_)); rfl)
  | ((with_reducible (refine ro_ne ?_ ?_)); rfl)
  | with_reducible refine ro_isN ?_
  | with_reducible refine ro_notN ?_
  | with_reducible refine ea_nil ?_
  | with_reducible refine ea_cons ?_
  | with_reducible refine em_call ?_
  | walk_at "rc call"
  | (with_reducible refine em_fld ?_)
  | (refine ⟨_, _, _, _, rfl, (by walk_at "rc mem"), (by assumption), (by assumption), (by rfl), ?_⟩)
  | with_reducible refine ra_listV ?_
  | with_reducible refine em_cb ?_
  | with_reducible refine em_tup ?_
  | walk_at "rc lst"
  | with_reducible refine em_if ?_
  | with_reducible refine em_andV ?_
  | with_reducible refine em_orV ?_
  | with_reducible refine em_notV ?_
  | with_reducible refine em_chain ?_
  | with_reducible refine et_test ?_
  | with_reducible refine et_B ?_
  | with_reducible refine et_and ?_
  | with_reducible refine et_or ?_
  | with_reducible refine et_not ?_
  | with_reducible refine et_yes ?_
  | with_reducible refine sx_seq ?_
  | with_reducible refine sx_next ?_
  | with_reducible refine sx_asg ?_
  | with_reducible refine sx_ret ?_
  | with_reducible refine sx_append ?_
  | with_reducible refine sx_drop ?_
  | with_reducible refine sx_if ?_
  | (refine ⟨_, rfl, ?_⟩)
  | (refine ⟨fun _ => ?_, fun z => Bool.noConfusion z⟩)
  | (refine ⟨fun z => Bool.noConfusion z, fun _ => ?_⟩)
  | with_reducible refine em_make ?_
  | with_reducible refine em_meth ?_
  | (refine ⟨_, _, rfl, (by walk_at "rc mem"), rfl, ?_⟩)
  | with_reducible refine em_neg ?_
  | with_reducible refine sx_fld ?_
  | (refine ⟨_, _, _, 0, rfl, rfl, (by assumption), (by assumption), (of_decide_eq_true rfl), ?_⟩)
  | ((with_reducible (apply ra_len)); (first | exact .l .d | exact .t | exact .l (.c (by walk_at "rc mem"))))
  | ((with_reducible (apply ra_lenK)); (walk_at "rc mem"))
  | ((with_reducible (apply ro_ixL)); (first | exact .d | exact .c (by walk_at "rc mem")); (first | rfl | exact atI_0))
  | ((with_reducible (apply ro_ixT)); rfl)
  | (with_reducible (refine gx_name ?_ (by decide)))
  | ((with_reducible (apply gx_tupR)); rfl)
  | with_reducible refine gxs_cons ?_
  | with_reducible refine gxs_nil ?_
  | (exact ⟨rfl, rfl⟩)
  | (refine ⟨rfl, ?_⟩)
  | with_reducible refine em_dget ?_
  | with_reducible refine sx_lockAsg ?_
  | with_reducible refine em_din ?_
  | with_reducible refine em_dnotIn ?_
  | ((with_reducible (apply sx_aug)); rfl)
  | with_reducible refine sx_setL ?_
  | with_reducible refine sx_dput ?_
  | with_reducible refine gx_fld ?_
  | (with_reducible (apply sx_fldAug))
  | ((with_reducible (apply sx_rz)); assumption)
  | (refine ⟨(by simp only [List.length_cons, List.length_nil]; omega), ?_⟩))
section
variable [Tbl] {P : Program} {w : World} {K : PySem.W.Frag} {mg : Str → Option Value} {base : Heap}
local macro_rules | `(tactic| walk_at "rc call") => `(tactic| first | with_reducible refine c_is_within ?_ | ((with_reducible (apply c_Engine_check_up)); (walk_at "rc mem")) | ((with_reducible (apply c_Member_undoing)); assumption) | ((with_reducible (apply c_Member_begin)); assumption))
/-! ### the engine's parts that change -/
def intsF (n : Nat) (f : Nat → Int) : List D := (List.range n).map fun i => .v (.int (f i))
section
variable {n p : Nat} {f : Nat → Int} {x : Int}
theorem len_F : (intsF n f).length = n := by simp [intsF]
theorem atI_F (h : p < n) : atI (intsF n f) (p : Int) = some (.v (.int (f p))) := by
  unfold atI ixN
  simp [intsF, h]
theorem ixN_F (h : p < n) : ixN (intsF n f).length (p : Int) = some p := by
  unfold ixN
  simp [len_F, h]
theorem set_F (h : p < n) : (intsF n f).set p (.v (.int x)) = intsF n (fun i => if i = p then x else f i) := by
  refine List.ext_getElem? fun i => ?_
  unfold intsF
  rw [List.getElem?_set]
  by_cases c : p = i
  · subst c
    simp [h]
  · rw [if_neg c]
    by_cases l : i < n
    · simp [l, Ne.symm c]
    · simp [l]
end
def dirK (dd : List (Int × Int)) : List (Key × V) := dd.map fun p => (.inl p.1, .int p.2)
theorem lk_dir {dd : List (Int × Int)} {p v : Int} (m : (p, v) ∈ dd) (nd : (dd.map (·.1)).Nodup) : lkK (vK (dirK dd)) (.inl p) = some (.v (.int v)) := by
  induction dd with
  | nil => cases m
  | cons c r ih =>
    rw [List.map_cons, List.nodup_cons] at nd
    rcases List.mem_cons.mp m with e | e
    · subst e
      unfold lkK vK dirK
      rw [List.map_cons, List.map_cons, List.find?_cons_of_pos (by simp)]
      rfl
    · have ne : c.1 ≠ p := fun z => nd.1 (List.mem_map.mpr ⟨_, e, z.symm⟩)
      have h := ih e nd.2
      unfold lkK vK dirK at h ⊢
      rw [List.map_cons, List.map_cons, List.find?_cons_of_neg (by simpa using ne)]
      exact h
theorem lk_dirN {dd : List (Int × Int)} {p : Int} (m : ∀ v, (p, v) ∉ dd) : lkK (vK (dirK dd)) (.inl p) = none := by
  induction dd with
  | nil => rfl
  | cons c r ih =>
    have ne : c.1 ≠ p := fun z => m c.2 (by rw [← z]; exact List.mem_cons_self)
    have h := ih fun v z => m v (List.mem_cons_of_mem _ z)
    unfold lkK vK dirK at h ⊢
    rw [List.map_cons, List.map_cons, List.find?_cons_of_neg (by simpa using ne)]
    exact h
theorem dr_dir {dd : List (Int × Int)} {p : Int} : drK (vK (dirK dd)) (.inl p) = vK (dirK (dd.filter fun q => decide (q.1 ≠ p))) := by
  induction dd with
  | nil => rfl
  | cons c r ih =>
    unfold drK vK dirK at ih ⊢
    rw [List.map_cons, List.map_cons, List.filter_cons, List.filter_cons, ih]
    by_cases e : c.1 = p
    · simp [e]
    · simp [e]
theorem pt_dirN {dd : List (Int × Int)} {p v : Int} (m : ∀ v, (p, v) ∉ dd) : ptK (.inl p) (.v (.int v)) (vK (dirK dd)) = vK (dirK (dd ++ [(p, v)])) := by
  have e : ((vK (dirK dd)).any fun kv => decide (kv.1 = .inl p)) = false := by
    rw [List.any_eq_false]
    intro kv h
    unfold vK dirK at h
    rw [List.map_map] at h
    obtain ⟨q, hq, e⟩ := List.mem_map.mp h
    rw [← e]
    simp
    intro z
    exact m q.2 (by rw [← z]; exact hq)
  unfold ptK
  rw [e]
  unfold vK dirK
  simp
def begI (b : Mb) : Int := match b.left with
  | [] => 0
  | p :: _ => p.2.place
theorem begV_ne {b : Mb} (h : b.left.isEmpty = false) : begV b = .int (begI b) := by
  obtain ⟨no, ends, a, left⟩ := b
  cases left with
  | nil => cases h
  | cons p l => rfl
def begs (ms : List Mb) : List Int := (ms.filter fun b => !b.left.isEmpty).map begI
theorem sc_Engine_tail_place : FnScope ["self", "begins", "member"] ["self"] (defScope (inClass (top 50) 6)) := ⟨rfl, rfl, rfl, by decide +kernel, rfl, by decide +kernel, by decide +kernel⟩
theorem kp_Engine_tail_place (W : Wd w K mg base) : PySem.W.keepIn K (.ref (He.fAd K ("Engine", some "tail_place"))) = true := W.kp 54
theorem b_Engine_tail_place (W : Wd w K mg base) : Binds K (fdO K (He.fAd K ("Engine", some "tail_place"))) ["self"] [] := (W.F 54).bindsN fun _ _ _ _ _ _ us hl => match us, hl with | [_], _ => rfl
def gm_Engine_tail_place [Tbl] (K : PySem.W.Frag) : Gm := fun ds R F => ∃ (e : Addr) (E : En) (ms : List Mb) (dd : List (Int × Int)), ds = [.v (.ref e)] ∧ (e, RC.i (He.ga K "Engine") (enFs E)) ∈ R ∧ MsIn K E ms R ∧ (E.dirtyA, RC.k (vK (dirK dd))) ∈ R ∧ dd.length ≤ 100 ∧
  ∀ m, m ∈ begs ms ++ dd.map (·.2) ++ [E.head] → (∀ y, y ∈ begs ms ++ dd.map (·.2) ++ [E.head] → m ≤ y) → F (.v (.int m)) R
abbrev sp_Engine_tail_place [Tbl] (K : PySem.W.Frag) : Sp := spM (gm_Engine_tail_place K)
theorem c_Engine_tail_place [Tbl] {K : PySem.W.Frag} {H0 : Hp} {R0 R : Rg} {Ex : XK} {F : D → Rg → Prop} {e : Addr} {E : En} {ms : List Mb} {dd : List (Int × Int)} (h1 : (e, RC.i (He.ga K "Engine") (enFs E)) ∈ R) (h2 : MsIn K E ms R) (h3 : (E.dirtyA, RC.k (vK (dirK dd))) ∈ R) (h4 : dd.length ≤ 100) (k : ∀ m, m ∈ begs ms ++ dd.map (·.2) ++ [E.head] → (∀ y, y ∈ begs ms ++ dd.map (·.2) ++ [E.head] → m ≤ y) → F (.v (.int m)) R) : RS H0 R0 (sp_Engine_tail_place K) Ex [.v (.ref e)] R F := rs_m ⟨e, E, ms, dd, rfl, h1, h2, h3, h4, k⟩
theorem ok_Engine_tail_place (W : Wd w K mg base) : FnOk P w K mg base CX0 2 (He.fAd K ("Engine", some "tail_place")) (fdO K (He.fAd K ("Engine", some "tail_place"))) ["self"] (sp_Engine_tail_place K) := by
  refine (W.F 54).ok sc_Engine_tail_place ?_ (fun cdv A outer s H vs Q E hr h => ?_)
  · exact lenM fun ds R F h => by obtain ⟨e, E, ms, dd, rfl, hE, hms, hd, hz, hF⟩ := h; rfl
  have hu64 := hr.units
  have hu := Nat.lt_of_le_of_lt (Nat.add_le_add_left (show 1 ≤ 64 by decide) _) hu64
  refine ⟨_, PSs.nox (pss_cons (ps_lock (ps_setLc (i := 1) (own := [("member", 2)]) (g := (gName 2)) rfl sc_Engine_tail_place.nd rfl rfl (sw_true rfl rfl rfl (by decide +kernel)) (pi_values (fldK (K := K) rfl (pv 0) rfl)) (blkOk_by (show blkC ["self", "begins", "member"] (defScope (inClass (top 50) 6)) _ [("member", 2)] = true by decide +kernel)) (fun _ _ _ _ _ => (pg_name (i := 2) sc_Engine_tail_place.nd rfl (.inl rfl))) (fun _ _ _ _ _ => (pts_one (pt_cmpR op_gt (pe_callB (lenK (K := K) rfl) rfl (W.free 49) (by decide +kernel) (pa_cons (fldK (K := K) rfl (pv 2) rfl) pa_nil)) pe_int (nomark _)))) (fun _ _ _ _ _ => (pe_meth0 (pv 2) (W.cls 88) (W.meth 94) (ok_Member_begin (K := K) W) (hr.mono (by decide)) (b_Member_begin W) .nil pass0))))
    (pss_one (ps_ret (pe_callB (minK (K := K) rfl rfl) rfl (W.free 52) (by decide +kernel) (pa_cons (pe_op op_cat (pe_op op_cat (pv 1) (pe_callTy (call_listV rfl) rfl (W.free 61) (by decide +kernel) (pa_cons (pe_vals (fldK (K := K) rfl (pv 0) rfl)) pa_nil))) (pe_lst (pa_cons (fldK (K := K) rfl (pv 0) rfl) pa_nil))) pa_nil))))), entryM h ?_⟩
  clear h hu hu64 hr
  rintro ds R F ⟨e, E, ms, dd, rfl, hE, hms, hd, hz, hF⟩
  have cl_Engine : Cls K (He.ga K "Engine") := W.cls 101
  have cl_Member : Cls K (He.ga K "Member") := W.cls 88
  have na_Engine_kept_head : NoAttr K (He.ga K "Engine") "kept_head" := W.noat 110
  have na_Engine_kept_members : NoAttr K (He.ga K "Engine") "kept_members" := W.noat 108
  have na_Member_left_rows : NoAttr K (He.ga K "Member") "left_rows" := W.noat 92
  have na_Engine_kept_dirty : NoAttr K (He.ga K "Engine") "kept_dirty" := W.noat 106
  have hk := hms.k
  obtain ⟨n, hn⟩ := List.mem_iff_getElem?.mp hk
  have hE' : ∀ o, (e, RC.i (He.ga K "Engine") (enFs E)) ∈ R.set n (E.memA, .fz o (vK (memK ms))) := fun o => mem_set_ne hE hn (by simp)
  repeat walk_at "rc step"
  refine em_lockV hn (fun b => if b.left.isEmpty = true then none else some (.v (.int (begI b)))) (Nat.le_trans hms.z (by decide)) (fun o => ?_) (fun o b hb H1 Rx hs => ?_) ?_
  · have := hE' o
    repeat walk_at "rc step"
  · have hbm : MbIn K b R := hms.b b hb
    have h1 : MbIn K b Rx := ⟨hs _ (mem_set_ne hbm.c hn (by simp)), fun p hp => hs _ (mem_set_ne (hbm.r p hp) hn (by simp)), hbm.z⟩
    have h2 := h1.c
    repeat walk_at "rc step"
    rw [len_pos]
    refine ⟨fun h => ?_, fun h => ?_⟩
    · have e : b.left.isEmpty = false := by simpa using h
      repeat walk_at "rc step"
      simp [e, begV_ne e]
    · have e : b.left.isEmpty = true := by simpa using h
      simp [e]
  repeat walk_at "rc step"
  refine ⟨_, _, rfl, hd, ?_⟩
  have hfl : (begs ms).length ≤ 60 := by
    unfold begs
    rw [List.length_map]
    exact Nat.le_trans (List.length_filter_le _ _) hms.z
  have ef : (ms.filterMap fun b => if b.left.isEmpty = true then none else some (D.v (.int (begI b)))) = (begs ms).map fun n => D.v (.int n) := by
    rw [fm_if (fun b : Mb => b.left.isEmpty) (fun b => D.v (.int (begI b)))]
    unfold begs
    rw [List.map_map]
    rfl
  have ed : ((dirK dd).map fun p => D.v p.2) = (dd.map (·.2)).map fun n => D.v (.int n) := by
    unfold dirK
    rw [List.map_map, List.map_map]
    rfl
  rw [ef, ed]
  refine ro_cat .d .d ?_ ?_
  · rw [List.length_map, List.length_map, List.length_map]
    omega
  repeat walk_at "rc step"
  refine ro_cat .d .d ?_ ?_
  · simp
    omega
  repeat walk_at "rc step"
  refine ra_min (ns := begs ms ++ dd.map (·.2) ++ [E.head]) ?_ ?_ ?_
  · rw [List.map_append, List.map_append]
    exact .d
  · simp
    omega
  · exact hF
def rsD (rs : List Addr) : List D := rs.map fun a => .v (.ref a)
def core (K : PySem.W.Frag) (e : Addr) (E : En) (n : Nat) (home pool : Nat → Int) (dd : List (Int × Int)) (rs : List Addr) (rest : Rg) : Rg :=
  (E.rowsA, .l (rsD rs)) :: (e, .i (He.ga K "Engine") (enFs E)) :: (E.homeA, .l (intsF n home)) :: (E.poolA, .l (intsF n pool)) :: (E.dirtyA, .k (vK (dirK dd))) :: rest
def RsIn (K : PySem.W.Frag) (rs : List Addr) (R : Rg) : Prop := ∀ a ∈ rs, ∃ r : Rw, (a, RC.i (He.ga K "LogRow") (rwFs r)) ∈ R
theorem MsIn.sub {K : PySem.W.Frag} {E : En} {ms : List Mb} {R R' : Rg} (h : MsIn K E ms R) (s : ∀ c ∈ R, c ∈ R') : MsIn K E ms R' := ⟨s _ h.k, fun b hb => (h.b b hb).sub s, h.srt, h.lt, h.z⟩
theorem sub5 {R : Rg} {c1 c2 c3 c4 c5 : Addr × RC} : ∀ c ∈ R, c ∈ c1 :: c2 :: c3 :: c4 :: c5 :: R := fun c h => List.mem_cons_of_mem _ (List.mem_cons_of_mem _ (List.mem_cons_of_mem _ (List.mem_cons_of_mem _ (List.mem_cons_of_mem _ h))))
theorem sc_Engine_lead_home : FnScope ["self", "page", "tail", "row"] ["self", "page"] (defScope (inClass (top 50) 7)) := ⟨rfl, rfl, rfl, by decide +kernel, rfl, by decide +kernel, by decide +kernel⟩
theorem kp_Engine_lead_home (W : Wd w K mg base) : PySem.W.keepIn K (.ref (He.fAd K ("Engine", some "lead_home"))) = true := W.kp 55
theorem b_Engine_lead_home (W : Wd w K mg base) : Binds K (fdO K (He.fAd K ("Engine", some "lead_home"))) ["self", "page"] [] := (W.F 55).bindsN fun _ _ _ _ _ _ us hl => match us, hl with | [_, _], _ => rfl
def gm_Engine_lead_home [Tbl] (K : PySem.W.Frag) : Gm := fun ds R F => ∃ (e : Addr) (E : En) (n : Nat) (home pool : Nat → Int) (dd : List (Int × Int)) (rs : List Addr) (rest : Rg) (ms : List Mb) (p : Nat) (v : Int), ds = [.v (.ref e), .v (.int p)] ∧ R = core K e E n home pool dd rs rest ∧
  (MsIn K E ms rest ∧ RsIn K rs rest ∧ rs.length ≤ 90000 ∧ p < n ∧ ((p : Int), v) ∈ dd ∧ (dd.map (·.1)).Nodup ∧ dd.length ≤ 100) ∧
  ∀ A rs', (∀ a ∈ rs', a ∈ rs) → rs'.length ≤ rs.length → F (.v .non) (core K e { E with rowsA := A } n (fun i => if i = p then pool p else home i) pool (dd.filter fun q => decide (q.1 ≠ p)) rs' rest)
abbrev sp_Engine_lead_home [Tbl] (K : PySem.W.Frag) : Sp := spM (gm_Engine_lead_home K)
theorem c_Engine_lead_home [Tbl] {K : PySem.W.Frag} {H0 : Hp} {R0 : Rg} {Ex : XK} {F : D → Rg → Prop} {e : Addr} {E : En} {n : Nat} {home pool : Nat → Int} {dd : List (Int × Int)} {rs : List Addr} {rest : Rg} {ms : List Mb} {p : Nat} {v : Int} (h1 : MsIn K E ms rest) (h2 : RsIn K rs rest) (h3 : rs.length ≤ 90000) (h4 : p < n) (h5 : ((p : Int), v) ∈ dd) (h6 : (dd.map (·.1)).Nodup) (h7 : dd.length ≤ 100)
  (k : ∀ A rs', (∀ a ∈ rs', a ∈ rs) → rs'.length ≤ rs.length → F (.v .non) (core K e { E with rowsA := A } n (fun i => if i = p then pool p else home i) pool (dd.filter fun q => decide (q.1 ≠ p)) rs' rest)) : RS H0 R0 (sp_Engine_lead_home K) Ex [.v (.ref e), .v (.int p)] (core K e E n home pool dd rs rest) F := rs_m ⟨e, E, n, home, pool, dd, rs, rest, ms, p, v, rfl, rfl, ⟨h1, h2, h3, h4, h5, h6, h7⟩, k⟩
theorem ok_Engine_lead_home (W : Wd w K mg base) : FnOk P w K mg base CX0 3 (He.fAd K ("Engine", some "lead_home")) (fdO K (He.fAd K ("Engine", some "lead_home"))) ["self", "page"] (sp_Engine_lead_home K) := by
  refine (W.F 55).ok sc_Engine_lead_home ?_ (fun cdv A outer s H vs Q E hr h => ?_)
  · exact lenM fun ds R F h => by obtain ⟨e, E, n, home, pool, dd, rs, rest, ms, p, v, rfl, rfl, ⟨hms, hrs, hz, hp, hv, nd, hd⟩, hF⟩ := h; rfl
  have hu64 := hr.units
  have hu := Nat.lt_of_le_of_lt (Nat.add_le_add_left (show 1 ≤ 64 by decide) _) hu64
  refine ⟨_, PSs.nox (pss_cons (ps_asg (pe_ix (ixlK (K := K) rfl) (fldK (K := K) rfl (pv 0) rfl) (pv 1) (fun _ _ => rfl)) (pg_sub (fldK (K := K) rfl (pv 0) rfl) (pv 1) set_list))
    (pss_cons (ps_expr (pe_dpop2 (fldK (K := K) rfl (pv 0) rfl) (pv 1) pe_non ⟨rfl, rfl, rfl, rfl⟩))
    (pss_cons (ps_set (i := 2) sc_Engine_lead_home.nd rfl (.inr rfl) (pe_meth0 (pv 0) (W.cls 101) (W.meth 118) (ok_Engine_tail_place (K := K) W) (hr.mono (by decide)) (b_Engine_tail_place W) .nil pass0))
    (pss_one (sfldK (K := K) rfl (pv 0) (pe_lc (own := [("row", 3)]) (g := (gName 3)) rfl sc_Engine_lead_home.nd (ilistK (K := K) rfl (fldK (K := K) rfl (pv 0) rfl)) (blkOk_by (show blkC ["self", "page", "tail", "row"] (defScope (inClass (top 50) 7)) _ [("row", 3)] = true by decide +kernel)) (fun _ _ _ _ _ => (pg_name (i := 3) sc_Engine_lead_home.nd rfl (.inl rfl))) (fun _ _ _ _ _ => (pts_one (pt_cmpR op_ge (fldK (K := K) rfl (pv 3) rfl) (pv 2) (nomark _)))) (fun _ _ _ _ _ => (pv 3))) rfl))))), entryM h ?_⟩
  clear h hu hu64 hr
  rintro ds R F ⟨e, E, n, home, pool, dd, rs, rest, ms, p, v, rfl, rfl, ⟨hms, hrs, hz, hp, hv, nd, hd⟩, hF⟩
  have cl_Engine : Cls K (He.ga K "Engine") := W.cls 101
  have cl_LogRow : Cls K (He.ga K "LogRow") := W.cls 77
  have na_Engine_kept_rows : NoAttr K (He.ga K "Engine") "kept_rows" := W.noat 107
  have na_Engine_kept_home : NoAttr K (He.ga K "Engine") "kept_home" := W.noat 104
  have na_Engine_kept_pool : NoAttr K (He.ga K "Engine") "kept_pool" := W.noat 105
  have na_Engine_kept_dirty : NoAttr K (He.ga K "Engine") "kept_dirty" := W.noat 106
  have na_LogRow_place : NoAttr K (He.ga K "LogRow") "place" := W.noat 86
  refine sx_post ?_
  have lk := lk_dir hv nd
  unfold core
  repeat walk_at "rc step"
  refine ro_ixL (.c (by walk_at "rc mem")) (atI_F hp) ?_
  repeat walk_at "rc step"
  refine ⟨_, _, _, p, 2, rfl, rfl, rfl, ixN_F hp, ?_⟩
  rw [set_F hp]
  simp only [List.set_cons_succ, List.set_cons_zero]
  repeat walk_at "rc step"
  refine em_dpop2 ?_
  repeat walk_at "rc step"
  refine ⟨_, _, 4, rfl, rfl, ?_⟩
  repeat walk_at "rc step"
  refine ⟨.inl p, _, rfl, lk, ?_⟩
  rw [dr_dir]
  simp only [List.set_cons_succ, List.set_cons_zero]
  repeat walk_at "rc step"
  refine c_Engine_tail_place (E := E) (ms := ms) (dd := dd.filter fun q => decide (q.1 ≠ p)) (by walk_at "rc mem") (hms.sub sub5) (by walk_at "rc mem") (Nat.le_trans (List.length_filter_le _ _) hd) fun m _ _ => ?_
  repeat walk_at "rc step"
  refine em_lcIC ?_
  repeat walk_at "rc step"
  haveI : Nonempty Rw := ⟨⟨"", 0, 0, 0, 0, 0, 0, 0, 0⟩⟩
  obtain ⟨rf, hrf⟩ : ∃ rf : Addr → Rw, ∀ a ∈ rs, (a, RC.i (He.ga K "LogRow") (rwFs (rf a))) ∈ rest := ⟨fun a => Classical.epsilon fun r => (a, RC.i (He.ga K "LogRow") (rwFs r)) ∈ rest, fun a ha => Classical.epsilon_spec (hrs a ha)⟩
  refine ⟨_, rs, fun a => .v (.ref a), fun a => if (!decide (m ≤ (rf a).place)) = true then none else some (.v (.ref a)), .c (by walk_at "rc mem"), Nat.le_trans hz (by decide), fun a ha H1 Rx hs => ?_, fun A => ?_⟩
  · have h2 := hs _ (sub5 _ (hrf a ha))
    repeat walk_at "rc step"
    refine ⟨fun h => ?_, fun h => ?_⟩
    · repeat walk_at "rc step"
      simp [of_decide_eq_true h]
    · simp [of_decide_eq_false h]
  repeat walk_at "rc step"
  refine ⟨_, _, _, 2, rfl, rfl, by assumption, by assumption, of_decide_eq_true rfl, ?_⟩
  rw [fm_if (fun a => !decide (m ≤ (rf a).place)) (fun a => D.v (.ref a))]
  refine ⟨_, [(E.rowsA, .l (rsD rs))], .swap _ _ _, ?_⟩
  exact hF A (rs.filter fun a => !!decide (m ≤ (rf a).place)) (fun a h => (List.mem_filter.mp h).1) (List.length_filter_le _ _)
/-! ### what a walk over the dirty pages leaves -/
def brO (w : Int) : Option Int → Option Int
  | some v => if v < w then none else some v
  | none => none
def brH (w : Int) (bd : Nat → Option Int) (pool home : Nat → Int) (k : Nat) : Int := match bd k with
  | some v => if v < w then pool k else home k
  | none => home k
structure DOk (n : Nat) (dd : List (Int × Int)) (bd : Nat → Option Int) : Prop where
  nd : (dd.map (·.1)).Nodup
  at_ : ∀ p v, (p, v) ∈ dd ↔ ∃ i : Nat, i < n ∧ p = i ∧ bd i = some v
  out : ∀ i, n ≤ i → bd i = none
theorem len_le : ∀ (n : Nat) (l : List Int), l.Nodup → (∀ x ∈ l, ∃ i : Nat, i < n ∧ x = i) → l.length ≤ n
  | 0, l, _, h => by
    cases l with
    | nil => exact Nat.le_refl _
    | cons x r => obtain ⟨i, hi, _⟩ := h x List.mem_cons_self; omega
  | n + 1, l, nd, h => by
    by_cases c : (n : Int) ∈ l
    · have h1 := len_le n (l.erase n) (nd.erase _) fun x hx => by
        have hx' := (nd.mem_erase_iff).mp hx
        obtain ⟨i, hi, e⟩ := h x hx'.2
        refine ⟨i, ?_, e⟩
        have : i ≠ n := fun z => hx'.1 (by rw [e, z])
        omega
      have h2 := List.length_erase_of_mem c
      omega
    · have h1 := len_le n l nd fun x hx => by
        obtain ⟨i, hi, e⟩ := h x hx
        refine ⟨i, ?_, e⟩
        have : i ≠ n := fun z => c (by rw [← z, ← e]; exact hx)
        omega
      omega
theorem DOk.len {n : Nat} {dd : List (Int × Int)} {bd : Nat → Option Int} (h : DOk n dd bd) : dd.length ≤ n := by
  have := len_le n (dd.map (·.1)) h.nd fun x hx => by
    obtain ⟨q, hq, e⟩ := List.mem_map.mp hx
    obtain ⟨i, hi, e2, _⟩ := (h.at_ q.1 q.2).mp hq
    exact ⟨i, hi, by rw [← e, e2]⟩
  rw [List.length_map] at this
  exact this
theorem DOk.del {n : Nat} {dd : List (Int × Int)} {bd : Nat → Option Int} (h : DOk n dd bd) (p : Nat) : DOk n (dd.filter fun q => decide (q.1 ≠ p)) (fun k => if k = p then none else bd k) where
  nd := by
    have e : (dd.filter fun q : Int × Int => decide (q.1 ≠ (p : Int))).map (·.1) = (dd.map (·.1)).filter fun x : Int => decide (x ≠ (p : Int)) := by rw [List.filter_map]; rfl
    rw [e]
    exact h.nd.filter _
  at_ := fun q v => by
    rw [List.mem_filter, h.at_]
    constructor
    · rintro ⟨⟨i, hi, e, hb⟩, ne⟩
      have ne' : q ≠ p := by simpa using ne
      have : i ≠ p := fun z => ne' (by rw [e, z])
      exact ⟨i, hi, e, by rw [if_neg this]; exact hb⟩
    · rintro ⟨i, hi, e, hb⟩
      by_cases c : i = p
      · rw [if_pos c] at hb; cases hb
      · rw [if_neg c] at hb
        refine ⟨⟨i, hi, e, hb⟩, ?_⟩
        simp
        rw [e]
        omega
  out := fun i hi => by
    by_cases c : i = p
    · rw [if_pos c]
    · rw [if_neg c]; exact h.out i hi
theorem sc_Engine_make_way : FnScope ["self", "cells", "page"] ["self", "cells"] (defScope (inClass (top 50) 8)) := ⟨rfl, rfl, rfl, by decide +kernel, rfl, by decide +kernel, by decide +kernel⟩
theorem kp_Engine_make_way (W : Wd w K mg base) : PySem.W.keepIn K (.ref (He.fAd K ("Engine", some "make_way"))) = true := W.kp 56
theorem b_Engine_make_way (W : Wd w K mg base) : Binds K (fdO K (He.fAd K ("Engine", some "make_way"))) ["self", "cells"] [] := (W.F 56).bindsN fun _ _ _ _ _ _ us hl => match us, hl with | [_, _], _ => rfl
def gm_Engine_make_way [Tbl] (K : PySem.W.Frag) : Gm := fun ds R F => ∃ (e : Addr) (E : En) (n : Nat) (home pool : Nat → Int) (dd : List (Int × Int)) (rs : List Addr) (rest : Rg) (ms : List Mb) (c : Int) (bd : Nat → Option Int), ds = [.v (.ref e), .v (.int c)] ∧ R = core K e E n home pool dd rs rest ∧
  (MsIn K E ms rest ∧ RsIn K rs rest ∧ rs.length ≤ 90000 ∧ DOk n dd bd ∧ n ≤ 60) ∧
  ∀ A rs' dd', (∀ a ∈ rs', a ∈ rs) → rs'.length ≤ rs.length → DOk n dd' (fun k => brO (E.head + c - E.cells) (bd k)) → F (.v .non) (core K e { E with rowsA := A } n (brH (E.head + c - E.cells) bd pool home) pool dd' rs' rest)
abbrev sp_Engine_make_way [Tbl] (K : PySem.W.Frag) : Sp := spM (gm_Engine_make_way K)
theorem c_Engine_make_way [Tbl] {K : PySem.W.Frag} {H0 : Hp} {R0 : Rg} {Ex : XK} {F : D → Rg → Prop} {e : Addr} {E : En} {n : Nat} {home pool : Nat → Int} {dd : List (Int × Int)} {rs : List Addr} {rest : Rg} {ms : List Mb} {c : Int} {bd : Nat → Option Int} (h1 : MsIn K E ms rest) (h2 : RsIn K rs rest) (h3 : rs.length ≤ 90000) (h4 : DOk n dd bd) (h5 : n ≤ 60)
  (k : ∀ A rs' dd', (∀ a ∈ rs', a ∈ rs) → rs'.length ≤ rs.length → DOk n dd' (fun k => brO (E.head + c - E.cells) (bd k)) → F (.v .non) (core K e { E with rowsA := A } n (brH (E.head + c - E.cells) bd pool home) pool dd' rs' rest)) : RS H0 R0 (sp_Engine_make_way K) Ex [.v (.ref e), .v (.int c)] (core K e E n home pool dd rs rest) F := rs_m ⟨e, E, n, home, pool, dd, rs, rest, ms, c, bd, rfl, rfl, ⟨h1, h2, h3, h4, h5⟩, k⟩
theorem ok_Engine_make_way (W : Wd w K mg base) : FnOk P w K mg base CX0 4 (He.fAd K ("Engine", some "make_way")) (fdO K (He.fAd K ("Engine", some "make_way"))) ["self", "cells"] (sp_Engine_make_way K) := by
  refine (W.F 56).ok sc_Engine_make_way ?_ (fun cdv A outer s H vs Q E hr h => ?_)
  · exact lenM fun ds R F h => by obtain ⟨e, E, n, home, pool, dd, rs, rest, ms, c, bd, rfl, rfl, ⟨hms, hrs, hz, hd, hn⟩, hF⟩ := h; rfl
  have hu64 := hr.units
  have hu := Nat.lt_of_le_of_lt (Nat.add_le_add_left (show 1 ≤ 64 by decide) _) hu64
  refine ⟨_, PSs.nox (pss_one (ps_for PassesOwn.never rfl (ilistK (K := K) rfl (pe_callB (sortDI rfl) rfl (W.free 51) (by decide +kernel) (pa_cons (fldK (K := K) rfl (pv 0) rfl) pa_nil))) (pg_name (i := 2) sc_Engine_make_way.nd rfl (.inl rfl))
    (pss_one (ps_if (pt_cmpR op_lt (pe_dget hu (fldK (K := K) rfl (pv 0) rfl) (pv 2) (fun _ _ => rfl)) (pe_op op_sub (pe_op op_add (fldK (K := K) rfl (pv 0) rfl) (pv 1)) (fldK (K := K) rfl (pv 0) rfl)) (nomark _))
    (pss_one (ps_expr (pe_meth (pv 0) (W.cls 101) (W.meth 119) (ok_Engine_lead_home (K := K) W) (hr.mono (by decide)) (b_Engine_lead_home W) .nil pass0 (pa_cons (pv 2) pa_nil))))
    pss_nil)))), entryM h ?_⟩
  clear h hu hu64 hr
  rintro ds R F ⟨e, E, n, home, pool, dd, rs, rest, ms, c, bd, rfl, rfl, ⟨hms, hrs, hz, hd, hn⟩, hF⟩
  have cl_Engine : Cls K (He.ga K "Engine") := W.cls 101
  have na_Engine_kept_dirty : NoAttr K (He.ga K "Engine") "kept_dirty" := W.noat 106
  have na_Engine_kept_cells : NoAttr K (He.ga K "Engine") "kept_cells" := W.noat 103
  have na_Engine_kept_head : NoAttr K (He.ga K "Engine") "kept_head" := W.noat 110
  refine sx_for [2] ?_
  refine ei_listD ?_
  unfold core
  repeat walk_at "rc step"
  refine ra_sortDI (kvs := dirK dd) (ks := dd.map (·.1)) (by walk_at "rc mem") (by unfold dirK; rw [List.map_map, List.map_map]; rfl) (by have := hd.len; rw [List.length_map]; omega) fun ys hp hs => ?_
  have ynd : ys.Nodup := hp.symm.nodup hd.nd
  have yin : ∀ x, x ∈ ys ↔ ∃ i : Nat, i < n ∧ x = i ∧ ∃ v, bd i = some v := fun x => by
    rw [hp.mem_iff, List.mem_map]
    constructor
    · rintro ⟨q, hq, e⟩
      obtain ⟨i, hi, e2, hb⟩ := (hd.at_ q.1 q.2).mp hq
      exact ⟨i, hi, by rw [← e, e2], _, hb⟩
    · rintro ⟨i, hi, e, v, hb⟩
      exact ⟨(x, v), (hd.at_ x v).mpr ⟨i, hi, e, hb⟩, rfl⟩
  refine ⟨_, rfl, fun i g' R' => ∃ A rs' dd' o, g' = [some (.v (.ref e)), some (.v (.int c)), o] ∧ i ≤ ys.length ∧ (∀ a ∈ rs', a ∈ rs) ∧ rs'.length ≤ rs.length ∧ DOk n dd' (fun k => if (k : Int) ∈ ys.take i then brO (E.head + c - E.cells) (bd k) else bd k) ∧
    R' = core K e { E with rowsA := A } n (fun k => if (k : Int) ∈ ys.take i then brH (E.head + c - E.cells) bd pool home k else home k) pool dd' rs' rest, ys.length, ⟨E.rowsA, rs, dd, none, rfl, Nat.zero_le _, fun _ h => h, Nat.le_refl _, ?_, ?_⟩, ?_⟩
  · simpa using hd
  · simp [core]
  rintro i g' R' ⟨A, rs', dd', o, rfl, hi, hsub, hle, hd', rfl⟩
  by_cases hlt : i < ys.length
  · refine .inr ⟨hlt, .v (.int ys[i]), by simp [hlt], fun H1 => ?_⟩
    obtain ⟨k, hk, ek, v, hv⟩ := (yin ys[i]).mp (List.getElem_mem hlt)
    have nin : (k : Int) ∉ ys.take i := fun z => by
      rw [← ek] at z
      obtain ⟨j, hj, e⟩ := List.mem_take_iff_getElem.mp z
      exact (List.pairwise_iff_getElem.mp ynd) j i (by omega) hlt (by omega) e
    have tk : ∀ q : Nat, (q : Int) ∈ ys.take (i + 1) ↔ (q : Int) ∈ ys.take i ∨ q = k := fun q => by
      rw [List.take_add_one, List.getElem?_eq_getElem hlt, List.mem_append, ek]
      simp only [Option.toList_some, List.mem_singleton]
      exact or_congr Iff.rfl (by omega)
    have inD : ((k : Int), v) ∈ dd' := (hd'.at_ _ _).mpr ⟨k, hk, rfl, by rw [if_neg nin]; exact hv⟩
    have lk := lk_dir inD hd'.nd
    rw [ek]
    have mE : (e, RC.i (He.ga K "Engine") (enFs { E with rowsA := A })) ∈ core K e { E with rowsA := A } n (fun k => if (k : Int) ∈ ys.take i then brH (E.head + c - E.cells) bd pool home k else home k) pool dd' rs' rest := by unfold core; walk_at "rc mem"
    repeat walk_at "rc step"
    refine ⟨E.dirtyA, _, .inl (k : Int), _, rfl, .k (by unfold core; walk_at "rc mem"), rfl, lk, ?_⟩
    repeat walk_at "rc step"
    refine ⟨fun h => ?_, fun h => ?_⟩
    · have hw : v < E.head + c - E.cells := of_decide_eq_true h
      have b1 : brO (E.head + c - E.cells) (bd k) = none := by rw [hv]; exact if_pos hw
      have b2 : brH (E.head + c - E.cells) bd pool home k = pool k := by unfold brH; rw [hv]; exact if_pos hw
      have eD : (fun q : Nat => if q = k then none else if (q : Int) ∈ ys.take i then brO (E.head + c - E.cells) (bd q) else bd q) = fun q : Nat => if (q : Int) ∈ ys.take (i + 1) then brO (E.head + c - E.cells) (bd q) else bd q := by
        funext q
        by_cases z : q = k
        · subst z
          rw [if_pos rfl, if_pos ((tk q).mpr (.inr rfl)), b1]
        · rw [if_neg z]
          by_cases z2 : (q : Int) ∈ ys.take i
          · rw [if_pos z2, if_pos ((tk q).mpr (.inl z2))]
          · rw [if_neg z2, if_neg fun z3 => ((tk q).mp z3).elim z2 z]
      have eH : (fun q : Nat => if q = k then pool k else if (q : Int) ∈ ys.take i then brH (E.head + c - E.cells) bd pool home q else home q) = fun q : Nat => if (q : Int) ∈ ys.take (i + 1) then brH (E.head + c - E.cells) bd pool home q else home q := by
        funext q
        by_cases z : q = k
        · subst z
          rw [if_pos rfl, if_pos ((tk q).mpr (.inr rfl)), b2]
        · rw [if_neg z]
          by_cases z2 : (q : Int) ∈ ys.take i
          · rw [if_pos z2, if_pos ((tk q).mpr (.inl z2))]
          · rw [if_neg z2, if_neg fun z3 => ((tk q).mp z3).elim z2 z]
      repeat walk_at "rc step"
      refine c_Engine_lead_home (E := { E with rowsA := A }) (ms := ms) (v := v) ⟨hms.k, hms.b, hms.srt, hms.lt, hms.z⟩ (fun a ha => hrs a (hsub a ha)) (by omega) hk inD hd'.nd (by have := hd'.len; omega) fun A2 rs2 hsub2 hle2 => ?_
      refine ⟨A2, rs2, dd'.filter fun q => decide (q.1 ≠ (k : Int)), _, rfl, hlt, fun a ha => hsub a (hsub2 a ha), Nat.le_trans hle2 hle, ?_, ?_⟩
      · rw [← eD]
        exact hd'.del k
      · rw [← eH]
    · have hw : ¬ v < E.head + c - E.cells := of_decide_eq_false h
      have b1 : brO (E.head + c - E.cells) (bd k) = bd k := by rw [hv]; exact if_neg hw
      have b2 : brH (E.head + c - E.cells) bd pool home k = home k := by unfold brH; rw [hv]; exact if_neg hw
      have eD : (fun q : Nat => if (q : Int) ∈ ys.take i then brO (E.head + c - E.cells) (bd q) else bd q) = fun q : Nat => if (q : Int) ∈ ys.take (i + 1) then brO (E.head + c - E.cells) (bd q) else bd q := by
        funext q
        by_cases z : q = k
        · subst z
          rw [if_neg nin, if_pos ((tk q).mpr (.inr rfl)), b1]
        · by_cases z2 : (q : Int) ∈ ys.take i
          · rw [if_pos z2, if_pos ((tk q).mpr (.inl z2))]
          · rw [if_neg z2, if_neg fun z3 => ((tk q).mp z3).elim z2 z]
      have eH : (fun q : Nat => if (q : Int) ∈ ys.take i then brH (E.head + c - E.cells) bd pool home q else home q) = fun q : Nat => if (q : Int) ∈ ys.take (i + 1) then brH (E.head + c - E.cells) bd pool home q else home q := by
        funext q
        by_cases z : q = k
        · subst z
          rw [if_neg nin, if_pos ((tk q).mpr (.inr rfl)), b2]
        · by_cases z2 : (q : Int) ∈ ys.take i
          · rw [if_pos z2, if_pos ((tk q).mpr (.inl z2))]
          · rw [if_neg z2, if_neg fun z3 => ((tk q).mp z3).elim z2 z]
      repeat walk_at "rc step"
      refine ⟨A, rs', dd', _, rfl, hlt, hsub, hle, ?_, ?_⟩
      · rw [← eD]
        exact hd'
      · rw [← eH]
  · refine .inl ⟨by simp; omega, ?_⟩
    have ei : i = ys.length := by omega
    subst ei
    have nn : ∀ q : Nat, (q : Int) ∉ ys.take ys.length → bd q = none := fun q z => by
      rw [List.take_length] at z
      by_cases hq : q < n
      · cases hb : bd q with
        | none => rfl
        | some v => exact absurd ((yin q).mpr ⟨q, hq, rfl, v, hb⟩) z
      · exact hd.out q (by omega)
    have eD : (fun q : Nat => if (q : Int) ∈ ys.take ys.length then brO (E.head + c - E.cells) (bd q) else bd q) = fun q => brO (E.head + c - E.cells) (bd q) := by
      funext q
      by_cases z : (q : Int) ∈ ys.take ys.length
      · rw [if_pos z]
      · rw [if_neg z, nn q z]; rfl
    have eH : (fun q : Nat => if (q : Int) ∈ ys.take ys.length then brH (E.head + c - E.cells) bd pool home q else home q) = brH (E.head + c - E.cells) bd pool home := by
      funext q
      by_cases z : (q : Int) ∈ ys.take ys.length
      · rw [if_pos z]
      · rw [if_neg z]; unfold brH; rw [nn q z]
    rw [eD] at hd'
    rw [eH]
    exact hF A rs' dd' hsub hle hd'
end
end Rc
-- G4
set_option Elab.async false
set_option linter.all false
set_option maxRecDepth 100000
set_option maxHeartbeats 4000000
namespace Rc
open PySem PySem.Spec PyProof.Rows L2 RcHead
local macro_rules | `(tactic| walk_at "rc mem") => `(tactic| first | assumption | exact List.mem_cons_self | ((with_reducible (refine List.mem_cons_of_mem _ ?_)); walk_at "rc mem"))
local macro_rules | `(tactic| walk_at "rc end") => `(tactic| fail)
local macro_rules | `(tactic| walk_at "rc lst") => `(tactic| with_reducible refine em_lst ?_)
local macro_rules | `(tactic| walk_at "rc call") => `(tactic| fail)
local macro_rules | `(tactic| walk_at "rc step") => `(tactic| first
  | ((with_reducible (apply em_var)); rfl)
  | with_reducible refine em_c ?_
  | with_reducible refine em_op ?_
  | with_reducible refine ro_I0 ?_
  | ((with_reducible (refine ro_eq ?_ ?_)); rfl)
  | ((with_reducible (refine ro_ne ?_ ?_)); rfl)
  | with_reducible refine ro_isN ?_
  | with_reducible refine ro_notN ?_
  | with_reducible refine ea_nil ?_
  | with_reducible refine ea_cons ?_
  | with_reducible refine em_call ?_
  | walk_at "rc call"
  | (with_reducible refine em_fld ?_)
  | (refine ⟨_, _, _, _, rfl, (by walk_at "rc mem"), (by assumption), (by assumption), (by rfl), ?_⟩)
  | with_reducible refine ra_listV ?_
  | with_reducible refine em_cb ?_
  | with_reducible refine em_tup ?_
  | walk_at "rc lst"
  | with_reducible refine em_if ?_
  | with_reducible refine em_andV ?_
  | with_reducible refine em_orV ?_
  | with_reducible refine em_notV ?_
  | with_reducible refine em_chain ?_
  | with_reducible refine et_test ?_
  | with_reducible refine et_B ?_
  | with_reducible refine et_and ?_
  | with_reducible refine et_or ?_
  | with_reducible refine et_not ?_
  | with_reducible refine et_yes ?_
  | with_reducible refine sx_seq ?_
  | with_reducible refine sx_next ?_
  | with_reducible refine sx_asg ?_
  | with_reducible refine sx_ret ?_
  | with_reducible refine sx_append ?_
  | with_reducible refine sx_drop ?_
  | with_reducible refine sx_if ?_
  | (refine ⟨_, rfl, ?_⟩)
  | (refine ⟨fun _ => ?_, fun z => Bool.noConfusion z⟩)
  | (refine ⟨fun z => Bool.noConfusion z, fun _ => ?_⟩)
  | with_reducible refine em_make ?_
  | with_reducible refine em_meth ?_
  | (refine ⟨_, _, rfl, (by walk_at "rc mem"), rfl, ?_⟩)
  | with_reducible refine em_neg ?_
  | with_reducible refine sx_fld ?_
  | (refine ⟨_, _, _, 0, rfl, rfl, (by assumption), (by assumption), (of_decide_eq_true rfl), ?_⟩)
  | ((with_reducible (apply ra_len)); (first | exact .l .d | exact .t | exact .l (.c (by walk_at "rc mem"))))
  | ((with_reducible (apply ra_lenK)); (walk_at "rc mem"))
  | ((with_reducible (apply ro_ixL)); (first | exact .d | exact .c (by walk_at "rc mem")); (first | rfl | exact atI_0))
  | ((with_reducible (apply ro_ixT)); rfl)
  | (with_reducible (refine gx_name ?_ (by decide)))
  | ((with_reducible (apply gx_tupR)); rfl)
  | with_reducible refine gxs_cons ?_
  | with_reducible refine gxs_nil ?_
  | (exact ⟨rfl, rfl⟩)
  | (refine ⟨rfl, ?_⟩)
  | with_reducible refine em_dget ?_
  | with_reducible refine sx_lockAsg ?_
  | with_reducible refine em_din ?_
  | with_reducible refine em_dnotIn ?_
  | ((with_reducible (apply sx_aug)); rfl)
  | with_reducible refine sx_setL ?_
  | with_reducible refine sx_dput ?_
  | with_reducible refine gx_fld ?_
  | (with_reducible (apply sx_fldAug))
  | ((with_reducible (apply sx_rz)); assumption)
  | (refine ⟨(by simp only [List.length_cons, List.length_nil]; omega), ?_⟩))
section
variable [Tbl] {P : Program} {w : World} {K : PySem.W.Frag} {mg : Str → Option Value} {base : Heap}
local macro_rules | `(tactic| walk_at "rc call") => `(tactic| first | with_reducible refine c_is_within ?_ | ((with_reducible (apply c_Engine_check_up)); (walk_at "rc mem")) | ((with_reducible (apply c_Member_undoing)); assumption) | ((with_reducible (apply c_Member_begin)); assumption))
def wrB (k : Str) : Bool := decide (V.str k = .str "write") || decide (V.str k = .str "undo")
def plP (wr : Bool) (p : Nat) (x : Int) (pool : Nat → Int) (i : Nat) : Int := if wr = true ∧ i = p then x else pool i
def plD (wr : Bool) (p : Nat) (h : Int) (bd : Nat → Option Int) (i : Nat) : Option Int := if wr = true ∧ i = p then (match bd i with
  | some v => some v
  | none => some h) else bd i
theorem plP_f (p : Nat) (x : Int) (pool : Nat → Int) : plP false p x pool = pool := by
  funext i
  simp [plP]
theorem plD_f (p : Nat) (h : Int) (bd : Nat → Option Int) : plD false p h bd = bd := by
  funext i
  simp [plD]
theorem DOk.put {n : Nat} {dd : List (Int × Int)} {bd : Nat → Option Int} (h : DOk n dd bd) {p : Nat} (hp : p < n) (x : Int) (hb : bd p = none) : (∀ v, ((p : Int), v) ∉ dd) ∧ DOk n (dd ++ [((p : Int), x)]) (plD true p x bd) := by
  have nin : ∀ v, ((p : Int), v) ∉ dd := fun v z => by
    obtain ⟨i, hi, e, hv⟩ := (h.at_ _ _).mp z
    have : i = p := by omega
    rw [this, hb] at hv
    cases hv
  refine ⟨nin, ?_, fun q v => ?_, fun i hi => ?_⟩
  · rw [List.map_append, List.nodup_append]
    refine ⟨h.nd, by simp, fun a ha b hb' e => ?_⟩
    obtain ⟨q, hq, eq⟩ := List.mem_map.mp ha
    have : b = p := by simpa using hb'
    exact nin q.2 (by rw [← this, ← e, ← eq]; exact hq)
  · rw [List.mem_append, h.at_]
    unfold plD
    constructor
    · rintro (⟨i, hi, e, hv⟩ | z)
      · have : i ≠ p := fun z => by rw [z, hb] at hv; cases hv
        exact ⟨i, hi, e, by rw [if_neg (by simp [this])]; exact hv⟩
      · have e := List.mem_singleton.mp z
        cases e
        exact ⟨p, hp, rfl, by rw [if_pos ⟨rfl, rfl⟩, hb]⟩
    · rintro ⟨i, hi, e, hv⟩
      by_cases c : i = p
      · subst c
        rw [if_pos ⟨rfl, rfl⟩, hb] at hv
        cases hv
        exact .inr (by rw [e]; exact List.mem_singleton.mpr rfl)
      · rw [if_neg (by simp [c])] at hv
        exact .inl ⟨i, hi, e, hv⟩
  · unfold plD
    have : i ≠ p := by omega
    rw [if_neg (by simp [this])]
    exact h.out i hi
theorem DOk.same {n : Nat} {dd : List (Int × Int)} {bd : Nat → Option Int} (h : DOk n dd bd) {p : Nat} (x v : Int) (hb : bd p = some v) : DOk n dd (plD true p x bd) := by
  have e : plD true p x bd = bd := by
    funext i
    unfold plD
    by_cases c : i = p
    · subst c
      rw [if_pos ⟨rfl, rfl⟩, hb]
    · rw [if_neg (by simp [c])]
  rw [e]
  exact h
theorem sc_Engine_put : FnScope ["self", "row", "cells"] ["self", "row", "cells"] (defScope (inClass (top 50) 10)) := ⟨rfl, rfl, rfl, by decide +kernel, rfl, by decide +kernel, by decide +kernel⟩
theorem kp_Engine_put (W : Wd w K mg base) : PySem.W.keepIn K (.ref (He.fAd K ("Engine", some "put"))) = true := W.kp 57
theorem b_Engine_put (W : Wd w K mg base) : Binds K (fdO K (He.fAd K ("Engine", some "put"))) ["self", "row", "cells"] [] := (W.F 57).bindsN fun _ _ _ _ _ _ us hl => match us, hl with | [_, _, _], _ => rfl
def gm_Engine_put [Tbl] (K : PySem.W.Frag) : Gm := fun ds R F => ∃ (e : Addr) (E : En) (n : Nat) (home pool : Nat → Int) (dd : List (Int × Int)) (rs : List Addr) (rest : Rg) (ms : List Mb) (c : Int) (bd : Nat → Option Int) (a : Addr) (r : Rw) (p : Nat), ds = [.v (.ref e), .v (.ref a), .v (.int c)] ∧ R = core K e E n home pool dd rs ((a, .i (He.ga K "LogRow") (rwFs r)) :: rest) ∧
  (MsIn K E ms rest ∧ RsIn K rs rest ∧ rs.length ≤ 80000 ∧ DOk n dd bd ∧ n ≤ 60 ∧ r.page = p ∧ p < n) ∧
  ∀ A rs' dd', RsIn K rs' ((a, .i (He.ga K "LogRow") (rwFs { r with place := E.head, cells := c })) :: rest) → rs'.length ≤ rs.length + 1 → DOk n dd' (plD (wrB r.kind) p E.head fun k => brO (E.head + c - E.cells) (bd k)) → F (.v .non) (core K e { E with rowsA := A, head := E.head + c } n (brH (E.head + c - E.cells) bd pool home) (plP (wrB r.kind) p r.behind pool) dd' rs' ((a, .i (He.ga K "LogRow") (rwFs { r with place := E.head, cells := c })) :: rest))
abbrev sp_Engine_put [Tbl] (K : PySem.W.Frag) : Sp := spM (gm_Engine_put K)
theorem c_Engine_put [Tbl] {K : PySem.W.Frag} {H0 : Hp} {R0 : Rg} {Ex : XK} {F : D → Rg → Prop} {e : Addr} {E : En} {n : Nat} {home pool : Nat → Int} {dd : List (Int × Int)} {rs : List Addr} {rest : Rg} {ms : List Mb} {c : Int} {bd : Nat → Option Int} {a : Addr} {r : Rw} {p : Nat} (h1 : MsIn K E ms rest) (h2 : RsIn K rs rest) (h3 : rs.length ≤ 80000) (h4 : DOk n dd bd) (h5 : n ≤ 60) (h6 : r.page = p) (h7 : p < n)
  (k : ∀ A rs' dd', RsIn K rs' ((a, .i (He.ga K "LogRow") (rwFs { r with place := E.head, cells := c })) :: rest) → rs'.length ≤ rs.length + 1 → DOk n dd' (plD (wrB r.kind) p E.head fun k => brO (E.head + c - E.cells) (bd k)) → F (.v .non) (core K e { E with rowsA := A, head := E.head + c } n (brH (E.head + c - E.cells) bd pool home) (plP (wrB r.kind) p r.behind pool) dd' rs' ((a, .i (He.ga K "LogRow") (rwFs { r with place := E.head, cells := c })) :: rest))) : RS H0 R0 (sp_Engine_put K) Ex [.v (.ref e), .v (.ref a), .v (.int c)] (core K e E n home pool dd rs ((a, .i (He.ga K "LogRow") (rwFs r)) :: rest)) F := rs_m ⟨e, E, n, home, pool, dd, rs, rest, ms, c, bd, a, r, p, rfl, rfl, ⟨h1, h2, h3, h4, h5, h6, h7⟩, k⟩
theorem ok_Engine_put (W : Wd w K mg base) : FnOk P w K mg base CX0 5 (He.fAd K ("Engine", some "put")) (fdO K (He.fAd K ("Engine", some "put"))) ["self", "row", "cells"] (sp_Engine_put K) := by
  refine (W.F 57).ok sc_Engine_put ?_ (fun cdv A outer s H vs Q E hr h => ?_)
  · exact lenM fun ds R F h => by obtain ⟨e, E, n, home, pool, dd, rs, rest, ms, c, bd, a, r, p, rfl, rfl, ⟨hms, hrs, hz, hd, hn, hpg, hp⟩, hF⟩ := h; rfl
  have hu64 := hr.units
  have hu := Nat.lt_of_le_of_lt (Nat.add_le_add_left (show 1 ≤ 64 by decide) _) hu64
  refine ⟨_, PSs.nox (pss_cons (ps_expr (pe_meth (pv 0) (W.cls 101) (W.meth 120) (ok_Engine_make_way (K := K) W) (hr.mono (by decide)) (b_Engine_make_way W) .nil pass0 (pa_cons (pv 2) pa_nil)))
    (pss_cons (ps_if (PW.pt (pw_and (pt_cmpR op_notN (fldK (K := K) rfl (pv 0) rfl) pe_non (nomark _)) (pw_and1 (pt_cmpR op_lt (fldK (K := K) rfl (pv 0) rfl) (pv 2) (nomark _)))))
    pss_never
    pss_nil)
    (pss_cons (ps_if (pt_cmpR op_notN (fldK (K := K) rfl (pv 0) rfl) pe_non (nomark _))
    pss_never
    pss_nil)
    (pss_cons (ps_asg (pe_tup (pa_cons (fldK (K := K) rfl (pv 0) rfl) (pa_cons (pv 2) pa_nil))) (gtupK (K := K) (n := 2) rfl rfl (pgs_cons (gfldK (K := K) rfl (pv 1)) (pgs_cons (gfldK (K := K) rfl (pv 1)) pgs_nil))))
    (pss_cons (sfldaugK (K := K) rfl (pv 0) (pv 2) in_add)
    (pss_cons (ps_expr (appK (K := K) rfl (fldK (K := K) rfl (pv 0) rfl) (pv 1)))
    (pss_one (ps_if (PW.pt (pw_or (pt_cmpR op_eq (fldK (K := K) rfl (pv 1) rfl) (pe_str_g rfl (W.str 73)) (nomark _)) (pw_or1 (pt_cmpR op_eq (fldK (K := K) rfl (pv 1) rfl) (pe_str_g rfl (W.str 74)) (nomark _)))))
    (pss_cons (ps_asg (fldK (K := K) rfl (pv 1) rfl) (pg_sub (fldK (K := K) rfl (pv 0) rfl) (fldK (K := K) rfl (pv 1) rfl) set_list))
    (pss_one (ps_expr (pe_dsetd (fldK (K := K) rfl (pv 0) rfl) (fldK (K := K) rfl (pv 1) rfl) (fldK (K := K) rfl (pv 1) rfl) ⟨rfl, rfl, rfl, rfl⟩))))
    pss_nil)))))))), entryM h ?_⟩
  clear h hu hu64 hr
  rintro ds R F ⟨e, E, n, home, pool, dd, rs, rest, ms, c, bd, a, r, p, rfl, rfl, ⟨hms, hrs, hz, hd, hn, hpg, hp⟩, hF⟩
  have cl_Engine : Cls K (He.ga K "Engine") := W.cls 101
  have cl_LogRow : Cls K (He.ga K "LogRow") := W.cls 77
  have cl_Standing : Cls K (He.ga K "Standing") := W.cls 96
  have na_Engine_kept_head : NoAttr K (He.ga K "Engine") "kept_head" := W.noat 110
  have na_Engine_kept_left : NoAttr K (He.ga K "Engine") "kept_left" := W.noat 111
  have na_LogRow_place : NoAttr K (He.ga K "LogRow") "place" := W.noat 86
  have na_LogRow_cells : NoAttr K (He.ga K "LogRow") "cells" := W.noat 87
  have na_Standing_cells : NoAttr K (He.ga K "Standing") "cells" := W.noat 98
  have na_LogRow_behind : NoAttr K (He.ga K "LogRow") "behind" := W.noat 83
  have na_Engine_kept_rows : NoAttr K (He.ga K "Engine") "kept_rows" := W.noat 107
  have na_LogRow_kind : NoAttr K (He.ga K "LogRow") "kind" := W.noat 79
  have na_Engine_kept_pool : NoAttr K (He.ga K "Engine") "kept_pool" := W.noat 105
  have na_LogRow_page : NoAttr K (He.ga K "LogRow") "page" := W.noat 81
  have na_Engine_kept_dirty : NoAttr K (He.ga K "Engine") "kept_dirty" := W.noat 106
  have mE : (e, RC.i (He.ga K "Engine") (enFs E)) ∈ core K e E n home pool dd rs ((a, .i (He.ga K "LogRow") (rwFs r)) :: rest) := by unfold core; walk_at "rc mem"
  repeat walk_at "rc step"
  refine c_Engine_make_way (ms := ms) (bd := bd) (hms.sub fun c h => List.mem_cons_of_mem _ h) (fun a ha => let ⟨r, h⟩ := hrs a ha; ⟨r, List.mem_cons_of_mem _ h⟩) (Nat.le_trans hz (by decide)) hd hn fun A rs' dd' hsub hle hd' => ?_
  clear mE
  unfold core
  repeat walk_at "rc step"
  refine sx_asgG (js := []) ?_
  repeat walk_at "rc step"
  refine ⟨_, _, _, 5, rfl, rfl, by assumption, by assumption, of_decide_eq_true rfl, ?_⟩
  repeat walk_at "rc step"
  refine ⟨_, _, _, 5, rfl, rfl, by assumption, by assumption, of_decide_eq_true rfl, ?_⟩
  simp only [List.set_cons_succ, List.set_cons_zero]
  repeat walk_at "rc step"
  refine ⟨_, _, _, 1, rfl, rfl, by assumption, by assumption, rfl, of_decide_eq_true rfl, ?_⟩
  simp only [List.set_cons_succ, List.set_cons_zero]
  repeat walk_at "rc step"
  refine ⟨_, _, rfl, by walk_at "rc mem", by unfold rsD; rw [List.length_map]; omega, ?_⟩
  repeat walk_at "rc step"
  refine ⟨0, rfl, ?_⟩
  simp only [List.set_cons_succ, List.set_cons_zero]
  have hrs2 : RsIn K (rs' ++ [a]) ((a, .i (He.ga K "LogRow") (rwFs { r with place := E.head, cells := c })) :: rest) := fun b hb => by
    rcases List.mem_append.mp hb with z | z
    · obtain ⟨r2, h2⟩ := hrs b (hsub b z)
      exact ⟨r2, List.mem_cons_of_mem _ h2⟩
    · rw [List.mem_singleton.mp z]
      exact ⟨_, List.mem_cons_self⟩
  have hlen : (rs' ++ [a]).length ≤ rs.length + 1 := by rw [List.length_append]; exact Nat.add_le_add_right hle 1
  have ers : rsD rs' ++ [D.v (.ref a)] = rsD (rs' ++ [a]) := by simp [rsD]
  rw [ers]
  have ek : wrB r.kind = (decide (V.str r.kind = .str "write") || decide (V.str r.kind = .str "undo")) := rfl
  have yes : wrB r.kind = true → SX H (core K e E n home pool dd rs ((a, .i (He.ga K "LogRow") (rwFs r)) :: rest)) (tSeq (tAsg (tFld K (tVar 1) "behind") (gSub (tFld K (tVar 0) "kept_pool") (tFld K (tVar 1) "page") rSetL)) (tDrop (tDSetd (tFld K (tVar 0) "kept_dirty") (tFld K (tVar 1) "page") (tFld K (tVar 1) "place")))) [some (.v (.ref e)), some (.v (.ref a)), some (.v (.int c))]
      ((A, .l (rsD (rs' ++ [a]))) :: (e, .i (He.ga K "Engine") (enFs { E with rowsA := A, head := E.head + c })) :: (E.homeA, .l (intsF n (brH (E.head + c - E.cells) bd pool home))) :: (E.poolA, .l (intsF n pool)) :: (E.dirtyA, .k (vK (dirK dd'))) :: (a, .i (He.ga K "LogRow") (rwFs { r with place := E.head, cells := c })) :: rest) { nx := fun _ R' => F (.v .non) R', rt := F } := fun hw => by
    rw [hw] at hF
    repeat walk_at "rc step"
    refine ⟨_, _, _, p, 3, rfl, rfl, by rw [hpg], ixN_F hp, ?_⟩
    rw [set_F hp]
    simp only [List.set_cons_succ, List.set_cons_zero]
    repeat walk_at "rc step"
    refine em_dsetd ?_
    repeat walk_at "rc step"
    refine ⟨_, _, 4, rfl, rfl, ?_⟩
    repeat walk_at "rc step"
    have hlenD : (vK (dirK dd')).length < 100000 := by
      have := hd'.len
      simp [dirK]
      omega
    have eP : (fun i => if i = p then r.behind else pool i) = plP true p r.behind pool := by
      funext i
      simp [plP]
    refine ⟨.inl (p : Int), by rw [hpg]; rfl, hlenD, fun d' hl => ?_, fun hl => ?_⟩
    · cases hb : brO (E.head + c - E.cells) (bd p) with
      | none =>
        obtain ⟨nin, _⟩ := hd'.put hp E.head hb
        rw [lk_dirN nin] at hl
        cases hl
      | some v =>
        have := hF A (rs' ++ [a]) dd' hrs2 hlen (hd'.same E.head v hb)
        rw [eP]
        exact this
    · cases hb : brO (E.head + c - E.cells) (bd p) with
      | some v =>
        have := lk_dir ((hd'.at_ p v).mpr ⟨p, hp, rfl, hb⟩) hd'.nd
        rw [this] at hl
        cases hl
      | none =>
        obtain ⟨nin, hp2⟩ := hd'.put hp E.head hb
        rw [pt_dirN nin, eP]
        simp only [List.set_cons_succ, List.set_cons_zero]
        exact hF A (rs' ++ [a]) _ hrs2 hlen hp2
  repeat walk_at "rc step"
  refine ⟨fun h1 => ?_, fun h1 => ?_⟩
  · repeat walk_at "rc step"
    refine ⟨fun h2 => ?_, fun h2 => ?_⟩
    · exact yes (by rw [ek, h1, h2]; rfl)
    · have hw : wrB r.kind = false := by rw [ek, h1, h2]; rfl
      rw [hw, plP_f, plD_f] at hF
      repeat walk_at "rc step"
      exact hF A (rs' ++ [a]) dd' hrs2 hlen hd'
  · exact ⟨fun _ => yes (by rw [ek, h1]; rfl), fun z => Bool.noConfusion z⟩
end
end Rc
-- G5
set_option Elab.async false
set_option linter.all false
set_option maxRecDepth 100000
set_option maxHeartbeats 4000000
namespace Rc
open PySem PySem.Spec PyProof.Rows L2 RcHead
local macro_rules | `(tactic| walk_at "rc mem") => `(tactic| first | assumption | exact List.mem_cons_self | ((with_reducible (refine List.mem_cons_of_mem _ ?_)); walk_at "rc mem"))
local macro_rules | `(tactic| walk_at "rc end") => `(tactic| fail)
local macro_rules | `(tactic| walk_at "rc lst") => `(tactic| with_reducible refine em_lst ?_)
local macro_rules | `(tactic| walk_at "rc call") => `(tactic| fail)
local macro_rules | `(tactic| walk_at "rc step") => `(tactic| first
  | ((with_reducible (apply em_var)); rfl)
  | with_reducible refine em_c ?_
  | with_reducible refine em_op ?_
  | with_reducible refine ro_I0 ?_
  | ((with_reducible (refine ro_eq ?_ ?_)); rfl)
  | ((with_reducible (refine ro_ne ?_ ?_)); rfl)
  | with_reducible refine ro_isN ?_
  | with_reducible refine ro_notN ?_
  | with_reducible refine ea_nil ?_
  | with_reducible refine ea_cons ?_
  | with_reducible refine em_call ?_
  | walk_at "rc call"
  | (with_reducible refine em_fld ?_)
  | (refine ⟨_, _, _, _, rfl, (by walk_at "rc mem"), (by assumption), (by assumption), (by rfl), ?_⟩)
  | with_reducible refine ra_listV ?_
  | with_reducible refine em_cb ?_
  | with_reducible refine em_tup ?_
  | walk_at "rc lst"
  | with_reducible refine em_if ?_
  | with_reducible refine em_andV ?_
  | with_reducible refine em_orV ?_
  | with_reducible refine em_notV ?_
  | with_reducible refine em_chain ?_
  | with_reducible refine et_test ?_
  | with_reducible refine et_B ?_
  | with_reducible refine et_and ?_
  | with_reducible refine et_or ?_
  | with_reducible refine et_not ?_
  | with_reducible refine et_yes ?_
  | with_reducible refine sx_seq ?_
  | with_reducible refine sx_next ?_
  | with_reducible refine sx_asg ?_
  | with_reducible refine sx_ret ?_
  | with_reducible refine sx_append ?_
  | with_reducible refine sx_drop ?_
  | with_reducible refine sx_if ?_
  | (refine ⟨_, rfl, ?_⟩)
  | (refine ⟨fun _ => ?_, fun z => Bool.noConfusion z⟩)
  | (refine ⟨fun z => Bool.noConfusion z, fun _ => ?_⟩)
  | with_reducible refine em_make ?_
  | with_reducible refine em_meth ?_
  | (refine ⟨_, _, rfl, (by walk_at "rc mem"), rfl, ?_⟩)
  | with_reducible refine em_neg ?_
  | with_reducible refine sx_fld ?_
  | (refine ⟨_, _, _, 0, rfl, rfl, (by assumption), (by assumption), (of_decide_eq_true rfl), ?_⟩)
  | ((with_reducible (apply ra_len)); (first | exact .l .d | exact .t | exact .l (.c (by walk_at "rc mem"))))
  | ((with_reducible (apply ra_lenK)); (walk_at "rc mem"))
  | ((with_reducible (apply ro_ixL)); (first | exact .d | exact .c (by walk_at "rc mem")); (first | rfl | exact atI_0))
  | ((with_reducible (apply ro_ixT)); rfl)
  | (with_reducible (refine gx_name ?_ (by decide)))
  | ((with_reducible (apply gx_tupR)); rfl)
  | with_reducible refine gxs_cons ?_
  | with_reducible refine gxs_nil ?_
  | (exact ⟨rfl, rfl⟩)
  | (refine ⟨rfl, ?_⟩)
  | with_reducible refine em_dget ?_
  | with_reducible refine sx_lockAsg ?_
  | with_reducible refine em_din ?_
  | with_reducible refine em_dnotIn ?_
  | ((with_reducible (apply sx_aug)); rfl)
  | with_reducible refine sx_setL ?_
  | with_reducible refine sx_dput ?_
  | with_reducible refine gx_fld ?_
  | (with_reducible (apply sx_fldAug))
  | ((with_reducible (apply sx_rz)); assumption)
  | (refine ⟨(by simp only [List.length_cons, List.length_nil]; omega), ?_⟩))
section
variable [Tbl] {P : Program} {w : World} {K : PySem.W.Frag} {mg : Str → Option Value} {base : Heap}
local macro_rules | `(tactic| walk_at "rc call") => `(tactic| first | with_reducible refine c_is_within ?_ | with_reducible refine c_is_number ?_)
def stFs (c h : Int) (ds : List D) : List (Str × D) := [("cells", .v (.int c)), ("head", .v (.int h)), ("deeds", .t ds)]
abbrev trD (t : Int × Int) : D := .t [.v (.int t.1), .v (.int t.2), .t []]
theorem sc_is_too_far : FnScope ["cells", "head", "deeds"] ["cells", "head", "deeds"] (defScope (top 37)) := ⟨rfl, rfl, rfl, by decide +kernel, rfl, by decide +kernel, by decide +kernel⟩
theorem kp_is_too_far (W : Wd w K mg base) : PySem.W.keepIn K (.ref (He.fAd K ("is_too_far", none))) = true := W.kp 6
theorem b_is_too_far (W : Wd w K mg base) : Binds K (fdO K (He.fAd K ("is_too_far", none))) ["cells", "head", "deeds"] [] := (W.F 6).bindsN fun _ _ _ _ _ _ us hl => match us, hl with | [_, _, _], _ => rfl
def gm_is_too_far [Tbl] : Gm := fun ds R F => ∃ c h : Int, ds = [.v (.int c), .v (.int h), .t []] ∧ F (.v (.bl false)) R
abbrev sp_is_too_far [Tbl] : Sp := spM (gm_is_too_far)
theorem c_is_too_far [Tbl] {H0 : Hp} {R0 R : Rg} {Ex : XK} {F : D → Rg → Prop} {c h : Int} (k : F (.v (.bl false)) R) : RS H0 R0 sp_is_too_far Ex [.v (.int c), .v (.int h), .t []] R F := rs_m ⟨c, h, rfl, k⟩
theorem ok_is_too_far (W : Wd w K mg base) : FnOk P w K mg base CX0 1 (He.fAd K ("is_too_far", none)) (fdO K (He.fAd K ("is_too_far", none))) ["cells", "head", "deeds"] (sp_is_too_far) := by
  refine (W.F 6).ok sc_is_too_far ?_ (fun cdv A outer s H vs Q E hr h => ?_)
  · exact lenM fun ds R F h => by obtain ⟨c, h, rfl, hF⟩ := h; rfl
  have hu64 := hr.units
  have hu := Nat.lt_of_le_of_lt (Nat.add_le_add_left (show 1 ≤ 64 by decide) _) hu64
  refine ⟨_, PSs.nox (pss_one (ps_ret (pe_and (pe_cmpR op_gt (pe_callB (lenK (K := K) rfl) rfl (W.free 49) (by decide +kernel) (pa_cons (pv 2) pa_nil)) pe_int (nomark _)) (pe_and (pe_cmpR op_notN (pe_ix (ixtK (K := K) rfl) (pe_ix (ixtK (K := K) rfl) (pv 2) pe_int (fun _ _ => rfl)) pe_int (fun _ _ => rfl)) pe_non (nomark _)) (pe_one (pe_cmpR op_gt (pe_op op_sub (pv 1) (pe_ix (ixtK (K := K) rfl) (pe_ix (ixtK (K := K) rfl) (pv 2) pe_int (fun _ _ => rfl)) pe_int (fun _ _ => rfl))) (pv 0) (nomark _))))))), entryM h ?_⟩
  clear h hu hu64 hr
  rintro ds R F ⟨c, h, rfl, hF⟩
  repeat walk_at "rc step"
  exact hF
theorem sc_first_wrong : FnScope ["head", "deeds", "last", "deed", "thing"] ["head", "deeds"] (defScope (top 34)) := ⟨rfl, rfl, rfl, by decide +kernel, rfl, by decide +kernel, by decide +kernel⟩
theorem kp_first_wrong (W : Wd w K mg base) : PySem.W.keepIn K (.ref (He.fAd K ("first_wrong", none))) = true := W.kp 3
theorem b_first_wrong (W : Wd w K mg base) : Binds K (fdO K (He.fAd K ("first_wrong", none))) ["head", "deeds"] [] := (W.F 3).bindsN fun _ _ _ _ _ _ us hl => match us, hl with | [_, _], _ => rfl
def gm_first_wrong [Tbl] : Gm := fun ds R F => ∃ h : Int, ds = [.v (.int h), .t []] ∧ F (.v .non) R
abbrev sp_first_wrong [Tbl] : Sp := spM (gm_first_wrong)
theorem c_first_wrong [Tbl] {H0 : Hp} {R0 R : Rg} {Ex : XK} {F : D → Rg → Prop} {h : Int} (k : F (.v .non) R) : RS H0 R0 sp_first_wrong Ex [.v (.int h), .t []] R F := rs_m ⟨h, rfl, k⟩
theorem ok_first_wrong (W : Wd w K mg base) : FnOk P w K mg base CX0 4 (He.fAd K ("first_wrong", none)) (fdO K (He.fAd K ("first_wrong", none))) ["head", "deeds"] (sp_first_wrong) := by
  refine (W.F 3).ok sc_first_wrong ?_ (fun cdv A outer s H vs Q E hr h => ?_)
  · exact lenM fun ds R F h => by obtain ⟨h, rfl, hF⟩ := h; rfl
  have hu64 := hr.units
  have hu := Nat.lt_of_le_of_lt (Nat.add_le_add_left (show 1 ≤ 64 by decide) _) hu64
  refine ⟨_, PSs.nox (pss_cons (ps_set (i := 2) sc_first_wrong.nd rfl (.inl rfl) (pe_un un_neg pe_int))
    (pss_cons (ps_for PassesOwn.never rfl (ienumTK (K := K) rfl rfl (W.free 57) (pa_cons (pv 1) pa_nil)) (gtupK (K := K) (n := 2) rfl rfl (pgs_cons (pg_name (i := 3) sc_first_wrong.nd rfl (.inl rfl)) (pgs_cons (pg_name (i := 4) sc_first_wrong.nd rfl (.inl rfl)) pgs_nil)))
    pss_never)
    (pss_one (ps_ret pe_non)))), entryM h ?_⟩
  clear h hu hu64 hr
  rintro ds R F ⟨h, rfl, hF⟩
  repeat walk_at "rc step"
  refine sx_for [3, 4] (ei_enumT ?_)
  repeat walk_at "rc step"
  refine ⟨fun i g' R' => i = 0 ∧ R' = R, 0, ⟨rfl, rfl⟩, fun i g' R' e => .inl ⟨e.1.symm, ?_⟩⟩
  rw [e.2]
  repeat walk_at "rc step"
  exact hF
theorem sc_waited_for : FnScope ["waits", "lot", "found", "waiting", "other", "deed"] ["waits", "lot"] (defScope (top 35)) := ⟨rfl, rfl, rfl, by decide +kernel, rfl, by decide +kernel, by decide +kernel⟩
theorem kp_waited_for (W : Wd w K mg base) : PySem.W.keepIn K (.ref (He.fAd K ("waited_for", none))) = true := W.kp 4
theorem b_waited_for (W : Wd w K mg base) : Binds K (fdO K (He.fAd K ("waited_for", none))) ["waits", "lot"] [] := (W.F 4).bindsN fun _ _ _ _ _ _ us hl => match us, hl with | [_, _], _ => rfl
def gm_waited_for [Tbl] : Gm := fun ds R F => ∃ (n i : Nat), ds = [.l (List.replicate n (.t [])), .t [.v (.int i)]] ∧ i < n ∧ F (.t [.v (.int i)]) R
abbrev sp_waited_for [Tbl] : Sp := spM (gm_waited_for)
theorem c_waited_for [Tbl] {H0 : Hp} {R0 R : Rg} {Ex : XK} {F : D → Rg → Prop} {n i : Nat} (h : i < n) (k : F (.t [.v (.int i)]) R) : RS H0 R0 sp_waited_for Ex [.l (List.replicate n (.t [])), .t [.v (.int i)]] R F := rs_m ⟨n, i, rfl, h, k⟩
theorem ok_waited_for (W : Wd w K mg base) : FnOk P w K mg base CX0 1 (He.fAd K ("waited_for", none)) (fdO K (He.fAd K ("waited_for", none))) ["waits", "lot"] (sp_waited_for) := by
  refine (W.F 4).ok sc_waited_for ?_ (fun cdv A outer s H vs Q E hr h => ?_)
  · exact lenM fun ds R F h => by obtain ⟨n, i, rfl, hi, hF⟩ := h; rfl
  have hu64 := hr.units
  have hu := Nat.lt_of_le_of_lt (Nat.add_le_add_left (show 1 ≤ 64 by decide) _) hu64
  refine ⟨_, PSs.nox (pss_cons (ps_setDc (i := 2) (own := [("deed", 5)]) (g := (gName 5)) rfl sc_waited_for.nd rfl rfl (swd_true rfl rfl rfl (by decide +kernel)) (itupK (K := K) rfl (pv 1)) (blkOk_by (show blkC ["waits", "lot", "found", "waiting", "other", "deed"] (defScope (top 35)) _ [("deed", 5)] = true by decide +kernel)) (fun _ _ _ _ _ => (pg_name (i := 5) sc_waited_for.nd rfl (.inl rfl))) (fun _ _ _ _ _ => pts_nil) (fun _ _ _ _ _ => (pv 5)) (fun _ _ _ _ _ => pe_bl))
    (pss_cons (ps_set (i := 3) sc_waited_for.nd rfl (.inl rfl) (pe_callTy (listK (K := K) rfl) rfl (W.free 61) (by decide +kernel) (pa_cons (pv 1) pa_nil)))
    (pss_cons (ps_while PassesOwn.never (pt_cmpR op_gt (pe_callB (lenK (K := K) rfl) rfl (W.free 49) (by decide +kernel) (pa_cons (pv 3) pa_nil)) pe_int (nomark _))
    (pss_one (ps_for PassesOwn.never rfl (itupK (K := K) rfl (pe_ix (ixlK (K := K) rfl) (pv 0) (popK (K := K) rfl (pv 3)) (fun _ _ => rfl))) (pg_name (i := 4) sc_waited_for.nd rfl (.inl rfl))
    (pss_one (ps_if (pt_cmp (pc_dnotin hu (pv 4) (pv 2)))
    (pss_cons (ps_dput hu (pv 2) (pv 4) pe_bl rfl)
    (pss_one (ps_expr (appK (K := K) rfl (pv 3) (pv 4)))))
    pss_nil)))))
    (pss_one (ps_ret (pe_callTy (tupK (K := K) rfl) rfl (W.free 60) (by decide +kernel) (pa_cons (pe_callB (sortDI rfl) rfl (W.free 51) (by decide +kernel) (pa_cons (pv 2) pa_nil)) pa_nil))))))), entryM h ?_⟩
  clear h hu hu64 hr
  rintro ds R F ⟨n, i, rfl, hi, hF⟩
  refine sx_post ?_
  repeat walk_at "rc step"
  refine em_dcC (ei_tup ?_)
  repeat walk_at "rc step"
  refine ⟨1, fun _ => (.inl (i : Int), .v (.bl true)), by decide, fun j hj => ?_, fun Rx s => Nat.le_refl _, fun j hj Rx s => ⟨.v (.int i), ?_, fun H1 => ?_⟩, fun p => ?_⟩
  · have : j = 0 := by omega
    subst this
    rfl
  · have : j = 0 := by omega
    subst this
    rfl
  · repeat walk_at "rc step"
  repeat walk_at "rc step"
  refine ra_listC .t fun q => ?_
  repeat walk_at "rc step"
  refine sx_while (fun m g' R' => (m = 1 ∧ g' = [some (.l (List.replicate n (.t []))), some (.t [.v (.int i)]), some (.v (.ref p)), some (.v (.ref q)), none, none] ∧ R' = (q, .l [.v (.int i)]) :: (p, .k [(.inl (i : Int), .v (.bl true))]) :: R) ∨ (m = 0 ∧ g' = [some (.l (List.replicate n (.t []))), some (.t [.v (.int i)]), some (.v (.ref p)), some (.v (.ref q)), none, none] ∧ R' = (q, .l []) :: (p, .k [(.inl (i : Int), .v (.bl true))]) :: R)) 1 (.inl ⟨rfl, rfl, rfl⟩) fun m g' R' hI => ?_
  rcases hI with ⟨rfl, rfl, rfl⟩ | ⟨rfl, rfl, rfl⟩
  · repeat walk_at "rc step"
    refine sx_for [4] (ei_tup ?_)
    repeat walk_at "rc step"
    refine em_pop ?_
    repeat walk_at "rc step"
    refine ⟨_, _, .v (.int i), 0, rfl, rfl, rfl, ?_⟩
    refine ro_ixL .d (d := .t []) ?_ ?_
    · unfold atI ixN
      simp [hi]
    refine ⟨_, rfl, fun j g' R' => g' = [some (.l (List.replicate n (.t []))), some (.t [.v (.int i)]), some (.v (.ref p)), some (.v (.ref q)), none, none] ∧ R' = (q, .l []) :: (p, .k [(.inl (i : Int), .v (.bl true))]) :: R, 0, ⟨rfl, rfl⟩, fun j g' R' e => .inl ⟨Nat.zero_le _, 0, by decide, .inr ⟨rfl, e.1, e.2⟩⟩⟩
  · repeat walk_at "rc step"
    refine ra_sortDI (kvs := [(.inl (i : Int), .bl true)]) (ks := [(i : Int)]) (by walk_at "rc mem") rfl (by simp) fun ys hp _ => ?_
    have e : ys = [(i : Int)] := List.perm_singleton.mp hp
    subst e
    repeat walk_at "rc step"
    refine ra_tupL .d ?_
    exact ⟨R, [_, _], List.Perm.refl _, hF⟩
theorem sc_first_in_ring : FnScope ["waits", "deed", "some"] ["waits"] (defScope (top 36)) := ⟨rfl, rfl, rfl, by decide +kernel, rfl, by decide +kernel, by decide +kernel⟩
theorem kp_first_in_ring (W : Wd w K mg base) : PySem.W.keepIn K (.ref (He.fAd K ("first_in_ring", none))) = true := W.kp 5
theorem b_first_in_ring (W : Wd w K mg base) : Binds K (fdO K (He.fAd K ("first_in_ring", none))) ["waits"] [] := (W.F 5).bindsN fun _ _ _ _ _ _ us hl => match us, hl with | [_], _ => rfl
def gm_first_in_ring [Tbl] : Gm := fun ds R F => ds = [.l []] ∧ F (.v .non) R
abbrev sp_first_in_ring [Tbl] : Sp := spM (gm_first_in_ring)
theorem c_first_in_ring [Tbl] {H0 : Hp} {R0 R : Rg} {Ex : XK} {F : D → Rg → Prop} (k : F (.v .non) R) : RS H0 R0 sp_first_in_ring Ex [.l []] R F := rs_m ⟨rfl, k⟩
theorem ok_first_in_ring (W : Wd w K mg base) : FnOk P w K mg base CX0 2 (He.fAd K ("first_in_ring", none)) (fdO K (He.fAd K ("first_in_ring", none))) ["waits"] (sp_first_in_ring) := by
  refine (W.F 5).ok sc_first_in_ring ?_ (fun cdv A outer s H vs Q E hr h => ?_)
  · exact lenM fun ds R F h => by obtain ⟨rfl, hF⟩ := h; rfl
  have hu64 := hr.units
  have hu := Nat.lt_of_le_of_lt (Nat.add_le_add_left (show 1 ≤ 64 by decide) _) hu64
  refine ⟨_, PSs.nox (pss_cons (ps_for PassesOwn.never rfl (ienumK (K := K) rfl rfl (W.free 57) (pa_cons (pv 0) pa_nil)) (gtupK (K := K) (n := 2) rfl rfl (pgs_cons (pg_name (i := 1) sc_first_in_ring.nd rfl (.inl rfl)) (pgs_cons (pg_name (i := 2) sc_first_in_ring.nd rfl (.inl rfl)) pgs_nil)))
    (pss_one (ps_if (pt_cmpR op_in_seq (pv 1) (pe_call (ok_waited_for (K := K) W) (hr.mono (by decide)) rfl (W.glo 4) (kp_waited_for W) (b_waited_for W) .nil pass0 (pa_cons (pv 0) (pa_cons (pv 2) pa_nil))) rfl)
    (pss_one (ps_ret (pv 1)))
    pss_nil)))
    (pss_one (ps_ret pe_non))), entryM h ?_⟩
  clear h hu hu64 hr
  rintro ds R F ⟨rfl, hF⟩
  repeat walk_at "rc step"
  refine sx_for [1, 2] (ei_enumD ?_)
  repeat walk_at "rc step"
  refine ⟨fun i g' R' => i = 0 ∧ R' = R, 0, ⟨rfl, rfl⟩, fun i g' R' e => .inl ⟨Nat.zero_le _, ?_⟩⟩
  rw [e.2]
  repeat walk_at "rc step"
  exact hF
local macro_rules | `(tactic| walk_at "rc call") => `(tactic| first | with_reducible refine c_is_within ?_ | with_reducible refine c_is_number ?_ | with_reducible refine c_first_wrong ?_ | with_reducible refine c_first_in_ring ?_ | with_reducible refine c_is_too_far ?_)
theorem sc_Standing_init : FnScope ["self", "cells", "head", "deeds", "wrong", "first", "need", "waits"] ["self", "cells", "head", "deeds"] (defScope (inClass (top 38) 0)) := ⟨rfl, rfl, rfl, by decide +kernel, rfl, by decide +kernel, by decide +kernel⟩
theorem kp_Standing_init (W : Wd w K mg base) : PySem.W.keepIn K (.ref (He.fAd K ("Standing", some "__init__"))) = true := W.kp 47
theorem b_Standing_init (W : Wd w K mg base) : Binds K (fdO K (He.fAd K ("Standing", some "__init__"))) ["self", "cells", "head", "deeds"] [] := (W.F 47).bindsN fun _ _ _ _ _ _ us hl => match us, hl with | [_, _, _, _], _ => rfl
def gm_Standing_init [Tbl] (K : PySem.W.Frag) : Gm := fun ds R F => ∃ (p : Addr) (Rr : Rg), ds = [.v (.ref p), .v (.int 1), .v (.int 0), .t []] ∧ R = (p, .i (He.ga K "Standing") []) :: Rr ∧ F (.v .non) ((p, .i (He.ga K "Standing") (stFs 1 0 [])) :: Rr)
abbrev sp_Standing_init [Tbl] (K : PySem.W.Frag) : Sp := spM (gm_Standing_init K)
theorem c_Standing_init [Tbl] {K : PySem.W.Frag} {H0 : Hp} {R0 R : Rg} {Ex : XK} {F : D → Rg → Prop} {p : Addr} (k : F (.v .non) ((p, .i (He.ga K "Standing") (stFs 1 0 [])) :: R)) : RS H0 R0 (sp_Standing_init K) Ex [.v (.ref p), .v (.int 1), .v (.int 0), .t []] ((p, .i (He.ga K "Standing") []) :: R) F := rs_m ⟨p, R, rfl, rfl, k⟩
theorem ok_Standing_init (W : Wd w K mg base) : FnOk P w K mg base CX0 5 (He.fAd K ("Standing", some "__init__")) (fdO K (He.fAd K ("Standing", some "__init__"))) ["self", "cells", "head", "deeds"] (sp_Standing_init K) := by
  refine (W.F 47).ok sc_Standing_init ?_ (fun cdv A outer s H vs Q E hr h => ?_)
  · exact lenM fun ds R F h => by obtain ⟨p, Rr, rfl, rfl, hF⟩ := h; rfl
  have hu64 := hr.units
  have hu := Nat.lt_of_le_of_lt (Nat.add_le_add_left (show 1 ≤ 64 by decide) _) hu64
  refine ⟨_, PSs.nox (pss_cons (ps_if (pt_not (pt_val (pe_call (ok_is_within (K := K) W) (hr.mono (by decide)) rfl (W.glo 1) (kp_is_within W) (b_is_within W) .nil pass0 (pa_cons (pv 1) (pa_cons pe_int (pa_cons (pe_int_g rfl (W.int 65)) pa_nil))))))
    pss_never
    pss_nil)
    (pss_cons (ps_if (pt_not (pt_val (pe_call (ok_is_number (K := K) W) (hr.mono (by decide)) rfl (W.glo 2) (kp_is_number W) (b_is_number W) .nil pass0 (pa_cons (pv 2) (pa_cons (pe_int_g rfl (W.int 66)) pa_nil)))))
    pss_never
    pss_nil)
    (pss_cons (ps_if (PW.pt (pw_or (pt_not (pt_val (pe_callB (isiK (K := K) rfl) rfl (W.free 59) (by decide +kernel) (pa_cons (pv 3) (pa_cons (pe_ty (T := "tuple") rfl (W.free 60)) pa_nil))))) (pw_or1 (pt_cmpR op_gt (pe_callB (lenK (K := K) rfl) rfl (W.free 49) (by decide +kernel) (pa_cons (pv 3) pa_nil)) (pe_int_g rfl (W.int 67)) (nomark _)))))
    pss_never
    pss_nil)
    (pss_cons (ps_set (i := 4) sc_Standing_init.nd rfl (.inl rfl) (pe_call (ok_first_wrong (K := K) W) (hr.mono (by decide)) rfl (W.glo 3) (kp_first_wrong W) (b_first_wrong W) .nil pass0 (pa_cons (pv 2) (pa_cons (pv 3) pa_nil))))
    (pss_cons (ps_if (pt_cmpR op_notN (pv 4) pe_non (nomark _))
    pss_never
    pss_nil)
    (pss_cons (ps_if (pt_val (pe_call (ok_is_too_far (K := K) W) (hr.mono (by decide)) rfl (W.glo 6) (kp_is_too_far W) (b_is_too_far W) .nil pass0 (pa_cons (pv 1) (pa_cons (pv 2) (pa_cons (pv 3) pa_nil)))))
    pss_never
    pss_nil)
    (pss_cons (ps_set (i := 4) sc_Standing_init.nd rfl (.inl rfl) (pe_call (ok_first_in_ring (K := K) W) (hr.mono (by decide)) rfl (W.glo 5) (kp_first_in_ring W) (b_first_in_ring W) .nil pass0 (pa_cons (pe_lc (own := [("first", 5), ("need", 6), ("waits", 7)]) (g := (gTup K 3 (gCons (gName 5) (gCons (gName 6) (gCons (gName 7) gNil))))) rfl sc_Standing_init.nd (itupK (K := K) rfl (pv 3)) (blkOk_by (show blkC ["self", "cells", "head", "deeds", "wrong", "first", "need", "waits"] (defScope (inClass (top 38) 0)) _ [("first", 5), ("need", 6), ("waits", 7)] = true by decide +kernel)) (fun _ _ _ _ _ => (gtupK (K := K) (n := 3) rfl rfl (pgs_cons (pg_name (i := 5) sc_Standing_init.nd rfl (.inl rfl)) (pgs_cons (pg_name (i := 6) sc_Standing_init.nd rfl (.inl rfl)) (pgs_cons (pg_name (i := 7) sc_Standing_init.nd rfl (.inl rfl)) pgs_nil))))) (fun _ _ _ _ _ => pts_nil) (fun _ _ _ _ _ => (pv 7))) pa_nil)))
    (pss_cons (ps_if (pt_cmpR op_notN (pv 4) pe_non (nomark _))
    pss_never
    pss_nil)
    (pss_cons (sfldK (K := K) rfl (pv 0) (pv 1) rfl)
    (pss_cons (sfldK (K := K) rfl (pv 0) (pv 2) rfl)
    (pss_one (sfldK (K := K) rfl (pv 0) (pv 3) rfl)))))))))))), entryM h ?_⟩
  clear h hu hu64 hr
  rintro ds R F ⟨p, Rr, rfl, rfl, hF⟩
  have cl_LogRow : Cls K (He.ga K "LogRow") := W.cls 77
  have cl_Standing : Cls K (He.ga K "Standing") := W.cls 96
  have na_LogRow_cells : NoAttr K (He.ga K "LogRow") "cells" := W.noat 87
  have na_Standing_cells : NoAttr K (He.ga K "Standing") "cells" := W.noat 98
  have na_Standing_head : NoAttr K (He.ga K "Standing") "head" := W.noat 99
  have na_Standing_deeds : NoAttr K (He.ga K "Standing") "deeds" := W.noat 100
  repeat walk_at "rc step"
  refine ra_isi (b := true) (.t []) (L2.kit_ty (by decide +kernel)) ?_
  repeat walk_at "rc step"
  refine em_lcT ?_
  repeat walk_at "rc step"
  refine ⟨Nat, [], fun _ => .t [], fun _ => none, rfl, Nat.zero_le _, fun x hx => absurd hx (by simp), ?_⟩
  repeat walk_at "rc step"
  refine c_first_in_ring ?_
  repeat walk_at "rc step"
  exact hF
local macro_rules | `(tactic| walk_at "rc call") => `(tactic| first | with_reducible refine c_Standing_init ?_)
theorem sc_raw_standing : FnScope ["cells", "head", "deeds", "found"] ["cells", "head", "deeds"] (defScope (top 39)) := ⟨rfl, rfl, rfl, by decide +kernel, rfl, by decide +kernel, by decide +kernel⟩
theorem kp_raw_standing (W : Wd w K mg base) : PySem.W.keepIn K (.ref (He.fAd K ("raw_standing", none))) = true := W.kp 7
theorem b_raw_standing (W : Wd w K mg base) : Binds K (fdO K (He.fAd K ("raw_standing", none))) ["cells", "head", "deeds"] [] := (W.F 7).bindsN fun _ _ _ _ _ _ us hl => match us, hl with | [_, _, _], _ => rfl
def gm_raw_standing [Tbl] (K : PySem.W.Frag) : Gm := fun ds R F => ∃ (c h : Int) (ts : List D), ds = [.v (.int c), .v (.int h), .t ts] ∧ ∀ p, F (.v (.ref p)) ((p, .i (He.ga K "Standing") (stFs c h ts)) :: R)
abbrev sp_raw_standing [Tbl] (K : PySem.W.Frag) : Sp := spM (gm_raw_standing K)
theorem c_raw_standing [Tbl] {K : PySem.W.Frag} {H0 : Hp} {R0 R : Rg} {Ex : XK} {F : D → Rg → Prop} {c h : Int} {ts : List D} (k : ∀ p, F (.v (.ref p)) ((p, .i (He.ga K "Standing") (stFs c h ts)) :: R)) : RS H0 R0 (sp_raw_standing K) Ex [.v (.int c), .v (.int h), .t ts] R F := rs_m ⟨c, h, ts, rfl, k⟩
theorem ok_raw_standing (W : Wd w K mg base) : FnOk P w K mg base CX0 7 (He.fAd K ("raw_standing", none)) (fdO K (He.fAd K ("raw_standing", none))) ["cells", "head", "deeds"] (sp_raw_standing K) := by
  refine (W.F 7).ok sc_raw_standing ?_ (fun cdv A outer s H vs Q E hr h => ?_)
  · exact lenM fun ds R F h => by obtain ⟨c, h, ts, rfl, hF⟩ := h; rfl
  have hu64 := hr.units
  have hu := Nat.lt_of_le_of_lt (Nat.add_le_add_left (show 1 ≤ 64 by decide) _) hu64
  refine ⟨_, PSs.nox (pss_cons (ps_set (i := 3) sc_raw_standing.nd rfl (.inl rfl) (pe_make (W.mkr 97) (ok_Standing_init (K := K) W) (hr.mono (by decide)) rfl (W.glo 44) (b_Standing_init W) .nil pass0 (pa_cons pe_int (pa_cons pe_int (pa_cons (pe_tup pa_nil) pa_nil)))))
    (pss_cons (sfldK (K := K) rfl (pv 3) (pv 0) rfl)
    (pss_cons (sfldK (K := K) rfl (pv 3) (pv 1) rfl)
    (pss_cons (sfldK (K := K) rfl (pv 3) (pe_callTy (tupK (K := K) rfl) rfl (W.free 60) (by decide +kernel) (pa_cons (pv 2) pa_nil)) rfl)
    (pss_one (ps_ret (pv 3))))))), entryM h ?_⟩
  clear h hu hu64 hr
  rintro ds R F ⟨c, h, ts, rfl, hF⟩
  have cl_LogRow : Cls K (He.ga K "LogRow") := W.cls 77
  have cl_Standing : Cls K (He.ga K "Standing") := W.cls 96
  have na_LogRow_cells : NoAttr K (He.ga K "LogRow") "cells" := W.noat 87
  have na_Standing_cells : NoAttr K (He.ga K "Standing") "cells" := W.noat 98
  have na_Standing_head : NoAttr K (He.ga K "Standing") "head" := W.noat 99
  have na_Standing_deeds : NoAttr K (He.ga K "Standing") "deeds" := W.noat 100
  repeat walk_at "rc step"
  intro p
  repeat walk_at "rc step"
  refine ra_tupT ?_
  repeat walk_at "rc step"
  exact hF p
theorem sc_waits_of : FnScope ["standing", "first", "need", "waits"] ["standing"] (defScope (top 40)) := ⟨rfl, rfl, rfl, by decide +kernel, rfl, by decide +kernel, by decide +kernel⟩
theorem kp_waits_of (W : Wd w K mg base) : PySem.W.keepIn K (.ref (He.fAd K ("waits_of", none))) = true := W.kp 8
theorem b_waits_of (W : Wd w K mg base) : Binds K (fdO K (He.fAd K ("waits_of", none))) ["standing"] [] := (W.F 8).bindsN fun _ _ _ _ _ _ us hl => match us, hl with | [_], _ => rfl
def gm_waits_of [Tbl] (K : PySem.W.Frag) : Gm := fun ds R F => ∃ (p : Addr) (c h : Int) (ts : List (Int × Int)), ds = [.v (.ref p)] ∧ (p, RC.i (He.ga K "Standing") (stFs c h (ts.map trD))) ∈ R ∧ ts.length ≤ 100 ∧ F (.l (List.replicate ts.length (.t []))) R
abbrev sp_waits_of [Tbl] (K : PySem.W.Frag) : Sp := spM (gm_waits_of K)
theorem c_waits_of [Tbl] {K : PySem.W.Frag} {H0 : Hp} {R0 R : Rg} {Ex : XK} {F : D → Rg → Prop} {p : Addr} {c h : Int} {ts : List (Int × Int)} (h1 : (p, RC.i (He.ga K "Standing") (stFs c h (ts.map trD))) ∈ R) (h2 : ts.length ≤ 100) (k : F (.l (List.replicate ts.length (.t []))) R) : RS H0 R0 (sp_waits_of K) Ex [.v (.ref p)] R F := rs_m ⟨p, c, h, ts, rfl, h1, h2, k⟩
theorem ok_waits_of (W : Wd w K mg base) : FnOk P w K mg base CX0 1 (He.fAd K ("waits_of", none)) (fdO K (He.fAd K ("waits_of", none))) ["standing"] (sp_waits_of K) := by
  refine (W.F 8).ok sc_waits_of ?_ (fun cdv A outer s H vs Q E hr h => ?_)
  · exact lenM fun ds R F h => by obtain ⟨p, c, h, ts, rfl, hp, hz, hF⟩ := h; rfl
  have hu64 := hr.units
  have hu := Nat.lt_of_le_of_lt (Nat.add_le_add_left (show 1 ≤ 64 by decide) _) hu64
  refine ⟨_, PSs.nox (pss_one (ps_ret (pe_lc (own := [("first", 1), ("need", 2), ("waits", 3)]) (g := (gTup K 3 (gCons (gName 1) (gCons (gName 2) (gCons (gName 3) gNil))))) rfl sc_waits_of.nd (itupK (K := K) rfl (fldK (K := K) rfl (pv 0) rfl)) (blkOk_by (show blkC ["standing", "first", "need", "waits"] (defScope (top 40)) _ [("first", 1), ("need", 2), ("waits", 3)] = true by decide +kernel)) (fun _ _ _ _ _ => (gtupK (K := K) (n := 3) rfl rfl (pgs_cons (pg_name (i := 1) sc_waits_of.nd rfl (.inl rfl)) (pgs_cons (pg_name (i := 2) sc_waits_of.nd rfl (.inl rfl)) (pgs_cons (pg_name (i := 3) sc_waits_of.nd rfl (.inl rfl)) pgs_nil))))) (fun _ _ _ _ _ => pts_nil) (fun _ _ _ _ _ => (pv 3))))), entryM h ?_⟩
  clear h hu hu64 hr
  rintro ds R F ⟨p, c, h, ts, rfl, hp, hz, hF⟩
  have cl_Standing : Cls K (He.ga K "Standing") := W.cls 96
  have na_Standing_deeds : NoAttr K (He.ga K "Standing") "deeds" := W.noat 100
  repeat walk_at "rc step"
  refine em_lcT ?_
  repeat walk_at "rc step"
  refine ⟨_, ts, trD, fun _ => some (.t []), rfl, Nat.le_trans hz (by decide), fun x hx H1 Rx hs => ?_, ?_⟩
  · repeat walk_at "rc step"
  · rw [fm_some, List.map_const']
    exact hF
local macro_rules | `(tactic| walk_at "rc call") => `(tactic| first | ((with_reducible (apply c_waits_of)); (walk_at "rc mem"); assumption))
def ldAt (h : Int) (ts : List (Int × Int)) (i : Nat) : Int := h - (ts.getD i (0, 0)).1 + ((ts.take (i + 1)).map (·.2)).sum
def knK (i : Nat) : List (Key × V) := (List.range i).map fun (j : Nat) => (.inl (j : Int), .bl true)
theorem kn_nin {i : Nat} : ((vK (knK i)).any fun kv => decide (kv.1 = .inl (i : Int))) = false := by
  rw [List.any_eq_false]
  intro q hq
  unfold vK knK at hq
  rw [List.map_map] at hq
  obtain ⟨j, hj, e⟩ := List.mem_map.mp hq
  rw [← e]
  have := List.mem_range.mp hj
  simp
  omega
theorem lk_kn {i : Nat} : lkK (vK (knK i)) (.inl (i : Int)) = none := by
  unfold lkK
  have e : (vK (knK i)).find? (fun kv => decide (kv.1 = .inl (i : Int))) = none := by
    rw [List.find?_eq_none]
    intro q hq
    have := (List.any_eq_false.mp kn_nin) q hq
    simpa using this
  rw [e]
  rfl
theorem pt_kn {i : Nat} : ptK (.inl (i : Int)) (.v (.bl true)) (vK (knK i)) = vK (knK (i + 1)) := by
  unfold ptK
  rw [kn_nin]
  unfold knK
  rw [List.range_succ]
  simp
local macro_rules | `(tactic| walk_at "rc lst") => `(tactic| with_reducible refine em_lstC ?_)
theorem sc_loads_of : FnScope ["standing", "waits", "known", "total", "found", "deed", "first", "need", "some", "other"] ["standing"] (defScope (top 41)) := ⟨rfl, rfl, rfl, by decide +kernel, rfl, by decide +kernel, by decide +kernel⟩
theorem kp_loads_of (W : Wd w K mg base) : PySem.W.keepIn K (.ref (He.fAd K ("loads_of", none))) = true := W.kp 9
theorem b_loads_of (W : Wd w K mg base) : Binds K (fdO K (He.fAd K ("loads_of", none))) ["standing"] [] := (W.F 9).bindsN fun _ _ _ _ _ _ us hl => match us, hl with | [_], _ => rfl
def gm_loads_of [Tbl] (K : PySem.W.Frag) : Gm := fun ds R F => ∃ (p : Addr) (c h : Int) (ts : List (Int × Int)), ds = [.v (.ref p)] ∧ (p, RC.i (He.ga K "Standing") (stFs c h (ts.map trD))) ∈ R ∧ ts.length ≤ 100 ∧ F (.t ((List.range ts.length).map fun i => .v (.int (ldAt h ts i)))) R
abbrev sp_loads_of [Tbl] (K : PySem.W.Frag) : Sp := spM (gm_loads_of K)
theorem c_loads_of [Tbl] {K : PySem.W.Frag} {H0 : Hp} {R0 R : Rg} {Ex : XK} {F : D → Rg → Prop} {p : Addr} {c h : Int} {ts : List (Int × Int)} (h1 : (p, RC.i (He.ga K "Standing") (stFs c h (ts.map trD))) ∈ R) (h2 : ts.length ≤ 100) (k : F (.t ((List.range ts.length).map fun i => .v (.int (ldAt h ts i)))) R) : RS H0 R0 (sp_loads_of K) Ex [.v (.ref p)] R F := rs_m ⟨p, c, h, ts, rfl, h1, h2, k⟩
theorem ok_loads_of (W : Wd w K mg base) : FnOk P w K mg base CX0 2 (He.fAd K ("loads_of", none)) (fdO K (He.fAd K ("loads_of", none))) ["standing"] (sp_loads_of K) := by
  refine (W.F 9).ok sc_loads_of ?_ (fun cdv A outer s H vs Q E hr h => ?_)
  · exact lenM fun ds R F h => by obtain ⟨p, c, h, ts, rfl, hp, hz, hF⟩ := h; rfl
  have hu64 := hr.units
  have hu := Nat.lt_of_le_of_lt (Nat.add_le_add_left (show 1 ≤ 64 by decide) _) hu64
  refine ⟨_, PSs.nox (pss_cons (ps_set (i := 1) sc_loads_of.nd rfl (.inl rfl) (pe_call (ok_waits_of (K := K) W) (hr.mono (by decide)) rfl (W.glo 8) (kp_waits_of W) (b_waits_of W) .nil pass0 (pa_cons (pv 0) pa_nil)))
    (pss_cons (ps_set (i := 2) sc_loads_of.nd rfl (.inl rfl) pe_dnewK)
    (pss_cons (ps_set (i := 3) sc_loads_of.nd rfl (.inl rfl) pe_int)
    (pss_cons (ps_set (i := 4) sc_loads_of.nd rfl (.inl rfl) (pe_lst pa_nil))
    (pss_cons (ps_for PassesOwn.never rfl (ienumTK (K := K) rfl rfl (W.free 57) (pa_cons (fldK (K := K) rfl (pv 0) rfl) pa_nil)) (gtupK (K := K) (n := 2) rfl rfl (pgs_cons (pg_name (i := 5) sc_loads_of.nd rfl (.inl rfl)) (pgs_cons (gtupK (K := K) (n := 3) rfl rfl (pgs_cons (pg_name (i := 6) sc_loads_of.nd rfl (.inl rfl)) (pgs_cons (pg_name (i := 7) sc_loads_of.nd rfl (.inl rfl)) (pgs_cons (pg_name (i := 8) sc_loads_of.nd rfl (.inl rfl)) pgs_nil)))) pgs_nil)))
    (pss_one (ps_if (pt_cmpR op_isN (pv 6) pe_non (nomark _))
    (pss_one (ps_expr (appK (K := K) rfl (pv 4) (pv 7))))
    (pss_cons (ps_for PassesOwn.never rfl (itupK (K := K) rfl (pe_call (ok_waited_for (K := K) W) (hr.mono (by decide)) rfl (W.glo 4) (kp_waited_for W) (b_waited_for W) .nil pass0 (pa_cons (pv 1) (pa_cons (pe_tup (pa_cons (pv 5) pa_nil)) pa_nil)))) (pg_name (i := 9) sc_loads_of.nd rfl (.inl rfl))
    (pss_one (ps_if (pt_cmp (pc_dnotin hu (pv 9) (pv 2)))
    (pss_cons (ps_dput hu (pv 2) (pv 9) pe_bl rfl)
    (pss_one (ps_aug (i := 3) sc_loads_of.nd rfl (.inl rfl) (pe_ix (ixtK (K := K) rfl) (pe_ix (ixtK (K := K) rfl) (fldK (K := K) rfl (pv 0) rfl) (pv 9) (fun _ _ => rfl)) pe_int (fun _ _ => rfl)) ip_add)))
    pss_nil)))
    (pss_one (ps_expr (appK (K := K) rfl (pv 4) (pe_op op_add (pe_op op_sub (fldK (K := K) rfl (pv 0) rfl) (pv 6)) (pv 3)))))))))
    (pss_one (ps_ret (pe_callTy (tupK (K := K) rfl) rfl (W.free 60) (by decide +kernel) (pa_cons (pv 4) pa_nil))))))))), entryM h ?_⟩
  clear h hu hu64 hr
  rintro ds R F ⟨p, c, h, ts, rfl, hp, hz, hF⟩
  have cl_Standing : Cls K (He.ga K "Standing") := W.cls 96
  have na_Standing_deeds : NoAttr K (He.ga K "Standing") "deeds" := W.noat 100
  have na_Standing_head : NoAttr K (He.ga K "Standing") "head" := W.noat 99
  refine sx_post ?_
  repeat walk_at "rc step"
  refine em_dnew fun kn => ?_
  repeat walk_at "rc step"
  intro fo
  repeat walk_at "rc step"
  have hp2 : ∀ {x y : Addr × RC}, (p, RC.i (He.ga K "Standing") (stFs c h (ts.map trD))) ∈ x :: y :: R := fun {x y} => List.mem_cons_of_mem _ (List.mem_cons_of_mem _ hp)
  refine sx_for [5, 6, 7, 8] (ei_enumT ?_)
  repeat walk_at "rc step"
  refine ⟨fun i g' R' => i ≤ ts.length ∧ (∃ o5 o6 o7 o8 o9, g' = [some (.v (.ref p)), some (.l (List.replicate ts.length (.t []))), some (.v (.ref kn)), some (.v (.int (((ts.take i).map (·.2)).sum))), some (.v (.ref fo)), o5, o6, o7, o8, o9]) ∧ R' = (fo, .l ((List.range i).map fun j => .v (.int (ldAt h ts j)))) :: (kn, .k (vK (knK i))) :: R, ts.length, ⟨Nat.zero_le _, ⟨none, none, none, none, none, rfl⟩, rfl⟩, ?_⟩
  rintro i g' R' ⟨hi, ⟨o5, o6, o7, o8, o9, rfl⟩, rfl⟩
  by_cases hlt : i < ts.length
  · refine .inr ⟨hlt, _, ⟨trD ts[i], by rw [List.getElem?_map, List.getElem?_eq_getElem hlt]; rfl, rfl⟩, fun H1 => ?_⟩
    repeat walk_at "rc step"
    refine sx_for [9] (ei_tup ?_)
    repeat walk_at "rc step"
    refine c_waited_for hlt ?_
    have tk : ((ts.take (i + 1)).map (·.2)).sum = ((ts.take i).map (·.2)).sum + ts[i].2 := by
      rw [List.take_add_one, List.getElem?_eq_getElem hlt, List.map_append, List.sum_append]
      simp
    refine ⟨_, rfl, fun j g' R' => (j = 0 ∧ (∃ o9, g' = [some (.v (.ref p)), some (.l (List.replicate ts.length (.t []))), some (.v (.ref kn)), some (.v (.int (((ts.take i).map (·.2)).sum))), some (.v (.ref fo)), some (.v (.int (i : Nat))), some (.v (.int ts[i].1)), some (.v (.int ts[i].2)), some (.t []), o9]) ∧ R' = (fo, .l ((List.range i).map fun j => .v (.int (ldAt h ts j)))) :: (kn, .k (vK (knK i))) :: R) ∨
      (j = 1 ∧ (∃ o9, g' = [some (.v (.ref p)), some (.l (List.replicate ts.length (.t []))), some (.v (.ref kn)), some (.v (.int (((ts.take (i + 1)).map (·.2)).sum))), some (.v (.ref fo)), some (.v (.int (i : Nat))), some (.v (.int ts[i].1)), some (.v (.int ts[i].2)), some (.t []), o9]) ∧ R' = (fo, .l ((List.range i).map fun j => .v (.int (ldAt h ts j)))) :: (kn, .k (vK (knK (i + 1)))) :: R), 1, .inl ⟨rfl, ⟨o9, rfl⟩, rfl⟩, ?_⟩
    rintro j g' R' (⟨rfl, ⟨o9, rfl⟩, rfl⟩ | ⟨rfl, ⟨o9, rfl⟩, rfl⟩)
    · refine .inr ⟨Nat.zero_lt_one, _, rfl, fun H1 => ?_⟩
      repeat walk_at "rc step"
      refine ⟨kn, _, .inl (i : Int), rfl, .k (by walk_at "rc mem"), rfl, ?_⟩
      rw [lk_kn]
      repeat walk_at "rc step"
      refine ⟨kn, _, .inl (i : Int), 1, rfl, rfl, rfl, by simp [knK]; omega, ?_⟩
      rw [pt_kn]
      simp only [List.set_cons_succ, List.set_cons_zero]
      repeat walk_at "rc step"
      refine ro_ixT (d := trD ts[i]) ?_ ?_
      · unfold atI ixN
        simp [hlt]
      repeat walk_at "rc step"
      refine .inr ⟨by first | exact rfl | trivial, ?_, rfl⟩
      rw [tk]
      exact ⟨_, rfl⟩
    · refine .inl ⟨Nat.le_refl _, ?_⟩
      repeat walk_at "rc step"
      refine ⟨fo, _, rfl, by walk_at "rc mem", by simp; omega, ?_⟩
      repeat walk_at "rc step"
      refine ⟨0, rfl, ?_⟩
      refine ⟨hlt, ⟨_, _, _, _, _, rfl⟩, ?_⟩
      rw [List.range_succ, List.map_append]
      have el : ldAt h ts i = h - ts[i].1 + ((ts.take (i + 1)).map (·.2)).sum := by
        unfold ldAt
        rw [List.getD_eq_getElem?_getD, List.getElem?_eq_getElem hlt]
        rfl
      show _ = (fo, RC.l (_ ++ [D.v (.int (ldAt h ts i))])) :: _
      rw [el]
      rfl
  · refine .inl ⟨by rw [List.length_map]; omega, ?_⟩
    have ei : i = ts.length := by omega
    subst ei
    repeat walk_at "rc step"
    refine ra_tupL (.c (by walk_at "rc mem")) ?_
    exact ⟨R, [_, _], List.Perm.refl _, hF⟩
local macro_rules | `(tactic| walk_at "rc call") => `(tactic| first | ((with_reducible (apply c_loads_of)); (walk_at "rc mem"); assumption))
theorem fm_congr {α β : Type} {f g : α → Option β} : ∀ {l : List α}, (∀ a ∈ l, f a = g a) → l.filterMap f = l.filterMap g
  | [], _ => rfl
  | a :: l, h => by rw [List.filterMap_cons, List.filterMap_cons, h a List.mem_cons_self, fm_congr fun b hb => h b (List.mem_cons_of_mem _ hb)]
theorem outs_filter {n : Nat} {p : Nat → Bool} {f : Nat → D} : (outs n fun i => if p i = true then some (f i) else none) = ((List.range n).filter p).map f := by
  unfold outs
  induction (List.range n) with
  | nil => rfl
  | cons a l ih =>
    rw [List.filterMap_cons, List.filter_cons, ih]
    cases c : p a <;> simp
theorem sc_too_heavy : FnScope ["standing", "deed", "load"] ["standing"] (defScope (top 42)) := ⟨rfl, rfl, rfl, by decide +kernel, rfl, by decide +kernel, by decide +kernel⟩
theorem kp_too_heavy (W : Wd w K mg base) : PySem.W.keepIn K (.ref (He.fAd K ("too_heavy", none))) = true := W.kp 10
theorem b_too_heavy (W : Wd w K mg base) : Binds K (fdO K (He.fAd K ("too_heavy", none))) ["standing"] [] := (W.F 10).bindsN fun _ _ _ _ _ _ us hl => match us, hl with | [_], _ => rfl
def gm_too_heavy [Tbl] (K : PySem.W.Frag) : Gm := fun ds R F => ∃ (p : Addr) (c h : Int) (ts : List (Int × Int)), ds = [.v (.ref p)] ∧ (p, RC.i (He.ga K "Standing") (stFs c h (ts.map trD))) ∈ R ∧ ts.length ≤ 100 ∧ F (.l (((List.range ts.length).filter fun i => decide (c < ldAt h ts i)).map fun i => .v (.int (i : Nat)))) R
abbrev sp_too_heavy [Tbl] (K : PySem.W.Frag) : Sp := spM (gm_too_heavy K)
theorem c_too_heavy [Tbl] {K : PySem.W.Frag} {H0 : Hp} {R0 R : Rg} {Ex : XK} {F : D → Rg → Prop} {p : Addr} {c h : Int} {ts : List (Int × Int)} (h1 : (p, RC.i (He.ga K "Standing") (stFs c h (ts.map trD))) ∈ R) (h2 : ts.length ≤ 100) (k : F (.l (((List.range ts.length).filter fun i => decide (c < ldAt h ts i)).map fun i => .v (.int (i : Nat)))) R) : RS H0 R0 (sp_too_heavy K) Ex [.v (.ref p)] R F := rs_m ⟨p, c, h, ts, rfl, h1, h2, k⟩
theorem ok_too_heavy (W : Wd w K mg base) : FnOk P w K mg base CX0 3 (He.fAd K ("too_heavy", none)) (fdO K (He.fAd K ("too_heavy", none))) ["standing"] (sp_too_heavy K) := by
  refine (W.F 10).ok sc_too_heavy ?_ (fun cdv A outer s H vs Q E hr h => ?_)
  · exact lenM fun ds R F h => by obtain ⟨p, c, h, ts, rfl, hp, hz, hF⟩ := h; rfl
  have hu64 := hr.units
  have hu := Nat.lt_of_le_of_lt (Nat.add_le_add_left (show 1 ≤ 64 by decide) _) hu64
  refine ⟨_, PSs.nox (pss_one (ps_ret (pe_lc (own := [("deed", 1), ("load", 2)]) (g := (gTup K 2 (gCons (gName 1) (gCons (gName 2) gNil)))) rfl sc_too_heavy.nd (ienumTK (K := K) rfl rfl (W.free 57) (pa_cons (pe_call (ok_loads_of (K := K) W) (hr.mono (by decide)) rfl (W.glo 9) (kp_loads_of W) (b_loads_of W) .nil pass0 (pa_cons (pv 0) pa_nil)) pa_nil)) (blkOk_by (show blkC ["standing", "deed", "load"] (defScope (top 42)) _ [("deed", 1), ("load", 2)] = true by decide +kernel)) (fun _ _ _ _ _ => (gtupK (K := K) (n := 2) rfl rfl (pgs_cons (pg_name (i := 1) sc_too_heavy.nd rfl (.inl rfl)) (pgs_cons (pg_name (i := 2) sc_too_heavy.nd rfl (.inl rfl)) pgs_nil)))) (fun _ _ _ _ _ => (pts_one (pt_cmpR op_gt (pv 2) (fldK (K := K) rfl (pv 0) rfl) (nomark _)))) (fun _ _ _ _ _ => (pv 1))))), entryM h ?_⟩
  clear h hu hu64 hr
  rintro ds R F ⟨p, c, h, ts, rfl, hp, hz, hF⟩
  have cl_LogRow : Cls K (He.ga K "LogRow") := W.cls 77
  have cl_Standing : Cls K (He.ga K "Standing") := W.cls 96
  have na_LogRow_cells : NoAttr K (He.ga K "LogRow") "cells" := W.noat 87
  have na_Standing_cells : NoAttr K (He.ga K "Standing") "cells" := W.noat 98
  repeat walk_at "rc step"
  refine em_lcET ?_
  repeat walk_at "rc step"
  refine ⟨_, fun i x => if decide (c < ldAt h ts i) = true then some (.v (.int (i : Nat))) else none, rfl, by rw [List.length_map, List.length_range]; omega, fun i x hx H1 Rx hs => ?_, ?_⟩
  · have hp' := hs _ hp
    rw [List.getElem?_map] at hx
    have hi : i < ts.length := by
      refine Nat.not_le.mp fun z => ?_
      rw [List.getElem?_eq_none_iff.mpr (by rw [List.length_range]; exact z)] at hx
      cases hx
    rw [List.getElem?_range hi] at hx
    cases hx
    repeat walk_at "rc step"
    refine ⟨fun hb => ?_, fun hb => ?_⟩
    · repeat walk_at "rc step"
      exact if_pos hb
    · exact if_neg (by rw [hb]; decide)
  · have e : (outs ((List.range ts.length).map fun i => D.v (.int (ldAt h ts i))).length fun i => (((List.range ts.length).map fun i => D.v (.int (ldAt h ts i)))[i]?).bind ((fun i (x : D) => if decide (c < ldAt h ts i) = true then some (D.v (.int (i : Nat))) else none) i)) = outs ts.length fun i => if decide (c < ldAt h ts i) = true then some (D.v (.int (i : Nat))) else none := by
      rw [List.length_map, List.length_range]
      unfold outs
      refine fm_congr fun i hi => ?_
      rw [List.getElem?_map, List.getElem?_range (List.mem_range.mp hi)]
      rfl
    rw [e, outs_filter]
    exact hF
end
end Rc
-- G6
set_option Elab.async false
set_option linter.all false
set_option maxRecDepth 100000
set_option maxHeartbeats 4000000
namespace Rc
open PySem PySem.Spec PyProof.Rows L2 RcHead
local macro_rules | `(tactic| walk_at "rc mem") => `(tactic| first | assumption | exact List.mem_cons_self | ((with_reducible (refine List.mem_cons_of_mem _ ?_)); walk_at "rc mem"))
local macro_rules | `(tactic| walk_at "rc end") => `(tactic| fail)
local macro_rules | `(tactic| walk_at "rc lst") => `(tactic| with_reducible refine em_lst ?_)
local macro_rules | `(tactic| walk_at "rc call") => `(tactic| fail)
local macro_rules | `(tactic| walk_at "rc step") => `(tactic| first
  | ((with_reducible (apply em_var)); rfl)
  | with_reducible refine em_c ?_
  | with_reducible refine em_op ?_
  | with_reducible refine ro_I0 ?_
  | ((with_reducible (refine ro_eq ?_ ?_)); rfl)
  | ((with_reducible (refine ro_ne ?_ ?_)); rfl)
  | with_reducible refine ro_isN ?_
  | with_reducible refine ro_notN ?_
  | with_reducible refine ea_nil ?_
  | with_reducible refine ea_cons ?_
  | with_reducible refine em_call ?_
  | walk_at "rc call"
  | (with_reducible refine em_fld ?_)
  | (refine ⟨_, _, _, _, rfl, (by walk_at "rc mem"), (by assumption), (by assumption), (by rfl), ?_⟩)
  | with_reducible refine ra_listV ?_
  | with_reducible refine em_cb ?_
  | with_reducible refine em_tup ?_
  | walk_at "rc lst"
  | with_reducible refine em_if ?_
  | with_reducible refine em_andV ?_
  | with_reducible refine em_orV ?_
  | with_reducible refine em_notV ?_
  | with_reducible refine em_chain ?_
  | with_reducible refine et_test ?_
  | with_reducible refine et_B ?_
  | with_reducible refine et_and ?_
  | with_reducible refine et_or ?_
  | with_reducible refine et_not ?_
  | with_reducible refine et_yes ?_
  | with_reducible refine sx_seq ?_
  | with_reducible refine sx_next ?_
  | with_reducible refine sx_asg ?_
  | with_reducible refine sx_ret ?_
  | with_reducible refine sx_append ?_
  | with_reducible refine sx_drop ?_
  | with_reducible refine sx_if ?_
  | (refine ⟨_, rfl, ?_⟩)
  | (refine ⟨fun _ => ?_, fun z => Bool.noConfusion z⟩)
  | (refine ⟨fun z => Bool.noConfusion z, fun _ => ?_⟩)
  | with_reducible refine em_make ?_
  | with_reducible refine em_meth ?_
  | (refine ⟨_, _, rfl, (by walk_at "rc mem"), rfl, ?_⟩)
  | with_reducible refine em_neg ?_
  | with_reducible refine sx_fld ?_
  | (refine ⟨_, _, _, 0, rfl, rfl, (by assumption), (by assumption), (of_decide_eq_true rfl), ?_⟩)
  | ((with_reducible (apply ra_len)); (first | exact .l .d | exact .t | exact .l (.c (by walk_at "rc mem"))))
  | ((with_reducible (apply ra_lenK)); (walk_at "rc mem"))
  | ((with_reducible (apply ro_ixL)); (first | exact .d | exact .c (by walk_at "rc mem")); (first | rfl | exact atI_0))
  | ((with_reducible (apply ro_ixT)); rfl)
  | (with_reducible (refine gx_name ?_ (by decide)))
  | ((with_reducible (apply gx_tupR)); rfl)
  | with_reducible refine gxs_cons ?_
  | with_reducible refine gxs_nil ?_
  | (exact ⟨rfl, rfl⟩)
  | (refine ⟨rfl, ?_⟩)
  | with_reducible refine em_dget ?_
  | with_reducible refine sx_lockAsg ?_
  | with_reducible refine em_din ?_
  | with_reducible refine em_dnotIn ?_
  | ((with_reducible (apply sx_aug)); rfl)
  | with_reducible refine sx_setL ?_
  | with_reducible refine sx_dput ?_
  | with_reducible refine gx_fld ?_
  | (with_reducible (apply sx_fldAug))
  | ((with_reducible (apply sx_rz)); assumption)
  | (refine ⟨(by simp only [List.length_cons, List.length_nil]; omega), ?_⟩))
section
variable [Tbl] {P : Program} {w : World} {K : PySem.W.Frag} {mg : Str → Option Value} {base : Heap}
local macro_rules | `(tactic| walk_at "rc call") => `(tactic| first | with_reducible refine c_is_within ?_ | ((with_reducible (apply c_Engine_check_up)); (walk_at "rc mem")) | ((with_reducible (apply c_Member_undoing)); assumption) | ((with_reducible (apply c_Member_begin)); assumption))
theorem cut_take {ds : List D} {n : Nat} : cutD ds none (some (n : Int)) = ds.take n := by
  unfold cutD
  rw [HT.sIx_nat]
  show ((ds.drop 0).take (min n ds.length - 0)) = _
  rw [List.drop_zero, Nat.sub_zero, Nat.min_def]
  split
  · rfl
  · rw [List.take_of_length_le (Nat.le_refl _), List.take_of_length_le (by omega)]
theorem atI_last {ds : List D} {d : D} : atI (ds ++ [d]) (-1) = some d := by
  unfold atI ixN
  have e : (-1 + ((ds ++ [d]).length : Int)).toNat = ds.length := by simp; omega
  rw [if_neg (by decide), if_pos (by simp; omega), e]
  simp
def hvL (c h : Int) (ts : List (Int × Int)) : List Nat := (List.range ts.length).filter fun i => decide (c < ldAt h ts i)
def hvN (c h : Int) (ts : List (Int × Int)) : Nat := match (hvL c h ts).getLast? with
  | some i => i + 1
  | none => 0
def two (t : Int × Int × Int) : Int × Int := (t.1, t.2.1)
theorem sc_Engine_lot_of : FnScope ["self", "cells", "deeds", "found", "triples", "wrong", "first", "need", "number"] ["self", "cells", "deeds"] (defScope (inClass (top 50) 15)) := ⟨rfl, rfl, rfl, by decide +kernel, rfl, by decide +kernel, by decide +kernel⟩
theorem kp_Engine_lot_of (W : Wd w K mg base) : PySem.W.keepIn K (.ref (He.fAd K ("Engine", some "lot_of"))) = true := W.kp 62
theorem b_Engine_lot_of (W : Wd w K mg base) : Binds K (fdO K (He.fAd K ("Engine", some "lot_of"))) ["self", "cells", "deeds"] [] := (W.F 62).bindsN fun _ _ _ _ _ _ us hl => match us, hl with | [_, _, _], _ => rfl
def gm_Engine_lot_of [Tbl] (K : PySem.W.Frag) : Gm := fun ds R F => ∃ (e : Addr) (E : En) (c : Int) (d : D) (ts : List (Int × Int × Int)), ds = [.v (.ref e), .v (.int c), d] ∧ (e, RC.i (He.ga K "Engine") (enFs E)) ∈ R ∧ IsL R d (ts.map triD) ∧ (ts.length < 64 ∧ ∀ t ∈ ts, TS.Bd (2 ^ 60) [t.1, t.2.1, t.2.2]) ∧
  ∀ ys : List (Int × Int × Int), ys.Perm ts → ys.Pairwise (fun x y => x.1 ≤ y.1) → F (.t ((ys.take (hvN E.cells (E.head + c) (ys.map two))).map fun t => .v (.int t.2.2))) R
abbrev sp_Engine_lot_of [Tbl] (K : PySem.W.Frag) : Sp := spM (gm_Engine_lot_of K)
theorem c_Engine_lot_of [Tbl] {K : PySem.W.Frag} {H0 : Hp} {R0 R : Rg} {Ex : XK} {F : D → Rg → Prop} {e : Addr} {E : En} {c : Int} {d : D} {ts : List (Int × Int × Int)} (h1 : (e, RC.i (He.ga K "Engine") (enFs E)) ∈ R) (h2 : IsL R d (ts.map triD)) (h3 : ts.length < 64 ∧ ∀ t ∈ ts, TS.Bd (2 ^ 60) [t.1, t.2.1, t.2.2]) (k : ∀ ys : List (Int × Int × Int), ys.Perm ts → ys.Pairwise (fun x y => x.1 ≤ y.1) → F (.t ((ys.take (hvN E.cells (E.head + c) (ys.map two))).map fun t => .v (.int t.2.2))) R) : RS H0 R0 (sp_Engine_lot_of K) Ex [.v (.ref e), .v (.int c), d] R F := rs_m ⟨e, E, c, d, ts, rfl, h1, h2, h3, k⟩
theorem ok_Engine_lot_of (W : Wd w K mg base) : FnOk P w K mg base CX0 8 (He.fAd K ("Engine", some "lot_of")) (fdO K (He.fAd K ("Engine", some "lot_of"))) ["self", "cells", "deeds"] (sp_Engine_lot_of K) := by
  refine (W.F 62).ok sc_Engine_lot_of ?_ (fun cdv A outer s H vs Q E hr h => ?_)
  · exact lenM fun ds R F h => by obtain ⟨e, E, c, d, ts, rfl, hE, hl, ⟨hz, hb⟩, hF⟩ := h; rfl
  have hu64 := hr.units
  have hu := Nat.lt_of_le_of_lt (Nat.add_le_add_left (show 1 ≤ 64 by decide) _) hu64
  refine ⟨_, PSs.nox (pss_cons (ps_set (i := 3) sc_Engine_lot_of.nd rfl (.inl rfl) (pe_callB (sortTK (K := K) rfl) rfl (W.free 51) (by decide +kernel) (pa_cons (pv 2) pa_nil)))
    (pss_cons (ps_setLc (i := 4) (own := [("first", 6), ("need", 7), ("number", 8)]) (g := (gTup K 3 (gCons (gName 6) (gCons (gName 7) (gCons (gName 8) gNil))))) rfl sc_Engine_lot_of.nd rfl rfl (sw_true rfl rfl rfl (by decide +kernel)) (ilistK (K := K) rfl (pv 3)) (blkOk_by (show blkC ["self", "cells", "deeds", "found", "triples", "wrong", "first", "need", "number"] (defScope (inClass (top 50) 15)) _ [("first", 6), ("need", 7), ("number", 8)] = true by decide +kernel)) (fun _ _ _ _ _ => (gtupK (K := K) (n := 3) rfl rfl (pgs_cons (pg_name (i := 6) sc_Engine_lot_of.nd rfl (.inl rfl)) (pgs_cons (pg_name (i := 7) sc_Engine_lot_of.nd rfl (.inl rfl)) (pgs_cons (pg_name (i := 8) sc_Engine_lot_of.nd rfl (.inl rfl)) pgs_nil))))) (fun _ _ _ _ _ => pts_nil) (fun _ _ _ _ _ => (pe_tup (pa_cons (pv 6) (pa_cons (pv 7) (pa_cons (pe_tup pa_nil) pa_nil))))))
    (pss_cons (ps_set (i := 5) sc_Engine_lot_of.nd rfl (.inl rfl) (pe_call (ok_too_heavy (K := K) W) (hr.mono (by decide)) rfl (W.glo 10) (kp_too_heavy W) (b_too_heavy W) .nil pass0 (pa_cons (pe_call (ok_raw_standing (K := K) W) (hr.mono (by decide)) rfl (W.glo 7) (kp_raw_standing W) (b_raw_standing W) .nil pass0 (pa_cons (fldK (K := K) rfl (pv 0) rfl) (pa_cons (pe_op op_add (fldK (K := K) rfl (pv 0) rfl) (pv 1)) (pa_cons (pe_callTy (tupK (K := K) rfl) rfl (W.free 60) (by decide +kernel) (pa_cons (pv 4) pa_nil)) pa_nil)))) pa_nil)))
    (pss_one (ps_ret (pe_ifExp (pt_cmpR op_gt (pe_callB (lenK (K := K) rfl) rfl (W.free 49) (by decide +kernel) (pa_cons (pv 5) pa_nil)) pe_int (nomark _)) (pe_callTy (tupK (K := K) rfl) rfl (W.free 60) (by decide +kernel) (pa_cons (pe_lc (own := [("first", 6), ("need", 7), ("number", 8)]) (g := (gTup K 3 (gCons (gName 6) (gCons (gName 7) (gCons (gName 8) gNil))))) rfl sc_Engine_lot_of.nd (ilistK (K := K) rfl (pe_slice (sllK (K := K) rfl) (pv 3) po_none (po_some (pe_op op_add (pe_ix (ixlK (K := K) rfl) (pv 5) (pe_un un_neg pe_int) (fun _ _ => rfl)) pe_int)))) (blkOk_by (show blkC ["self", "cells", "deeds", "found", "triples", "wrong", "first", "need", "number"] (defScope (inClass (top 50) 15)) _ [("first", 6), ("need", 7), ("number", 8)] = true by decide +kernel)) (fun _ _ _ _ _ => (gtupK (K := K) (n := 3) rfl rfl (pgs_cons (pg_name (i := 6) sc_Engine_lot_of.nd rfl (.inl rfl)) (pgs_cons (pg_name (i := 7) sc_Engine_lot_of.nd rfl (.inl rfl)) (pgs_cons (pg_name (i := 8) sc_Engine_lot_of.nd rfl (.inl rfl)) pgs_nil))))) (fun _ _ _ _ _ => pts_nil) (fun _ _ _ _ _ => (pv 8))) pa_nil)) (pe_tup pa_nil))))))), entryM h ?_⟩
  clear h hu hu64 hr
  rintro ds R F ⟨e, E, c, d, ts, rfl, hE, hl, ⟨hz, hb⟩, hF⟩
  have cl_Engine : Cls K (He.ga K "Engine") := W.cls 101
  have na_Engine_kept_cells : NoAttr K (He.ga K "Engine") "kept_cells" := W.noat 103
  have na_Engine_kept_head : NoAttr K (He.ga K "Engine") "kept_head" := W.noat 110
  refine sx_post ?_
  repeat walk_at "rc step"
  refine ra_sortT hl hz hb fun ys hp hs => ?_
  have hlen : ys.length < 64 := by rw [hp.length_eq]; exact hz
  repeat walk_at "rc step"
  refine em_lcI ?_
  repeat walk_at "rc step"
  refine ⟨_, ys, triD, fun t => some (trD (two t)), .d, by omega, fun t ht H1 Rx hs => ?_, ?_⟩
  · unfold triD
    repeat walk_at "rc step"
  repeat walk_at "rc step"
  refine ra_tupL .d ?_
  repeat walk_at "rc step"
  refine c_raw_standing fun p => ?_
  repeat walk_at "rc step"
  have et : (ys.filterMap fun t => some (trD (two t))) = (ys.map two).map trD := by rw [fm_some, List.map_map]; rfl
  rw [et]
  refine c_too_heavy (by walk_at "rc mem") (by rw [List.length_map]; omega) ?_
  have hE2 : (e, RC.i (He.ga K "Engine") (enFs E)) ∈ (p, RC.i (He.ga K "Standing") (stFs E.cells (E.head + c) ((ys.map two).map trD))) :: R := List.mem_cons_of_mem _ hE
  have hf := hF ys hp hs
  unfold hvN at hf
  have hL : (List.range (ys.map two).length).filter (fun i => decide (E.cells < ldAt (E.head + c) (ys.map two) i)) = hvL E.cells (E.head + c) (ys.map two) := rfl
  rw [hL]
  rcases List.eq_nil_or_concat (hvL E.cells (E.head + c) (ys.map two)) with e0 | ⟨l, i, e0⟩
  · rw [e0] at hf ⊢
    repeat walk_at "rc step"
    exact ⟨R, [_], List.Perm.refl _, hf⟩
  · rw [e0] at hf ⊢
    rw [List.concat_eq_append] at hf ⊢
    rw [List.getLast?_append] at hf
    repeat walk_at "rc step"
    refine ⟨fun _ => ?_, fun z => ?_⟩
    · repeat walk_at "rc step"
      refine em_lcI ?_
      refine em_slL ?_
      repeat walk_at "rc step"
      refine eo_none ?_
      refine eo_some ?_
      repeat walk_at "rc step"
      refine ro_ixL .d (d := .v (.int (i : Nat))) ?_ ?_
      · rw [List.map_append]
        exact atI_last
      repeat walk_at "rc step"
      refine ⟨_, .d, ?_⟩
      have ec : cutD (ys.map triD) none (some ((i : Int) + 1)) = (ys.take (i + 1)).map triD := by
        have : ((i : Int) + 1) = ((i + 1 : Nat) : Int) := by omega
        rw [this, cut_take, List.map_take]
      rw [ec]
      refine ⟨_, ys.take (i + 1), triD, fun t => some (.v (.int t.2.2)), .d, ?_, fun t ht H1 Rx hs => ?_, ?_⟩
      · rw [List.length_take]; omega
      · unfold triD
        repeat walk_at "rc step"
      repeat walk_at "rc step"
      refine ra_tupL .d ?_
      rw [fm_some]
      exact ⟨R, [_], List.Perm.refl _, hf⟩
    · have z' := of_decide_eq_false z
      simp at z'
end
end Rc
-- G7
set_option Elab.async false
set_option linter.all false
set_option maxRecDepth 100000
set_option maxHeartbeats 4000000
namespace Rc
open PySem PySem.Spec PyProof.Rows L2 RcHead
local macro_rules | `(tactic| walk_at "rc mem") => `(tactic| first | assumption | exact List.mem_cons_self | ((with_reducible (refine List.mem_cons_of_mem _ ?_)); walk_at "rc mem"))
local macro_rules | `(tactic| walk_at "rc end") => `(tactic| fail)
local macro_rules | `(tactic| walk_at "rc lst") => `(tactic| with_reducible refine em_lst ?_)
local macro_rules | `(tactic| walk_at "rc call") => `(tactic| fail)
local macro_rules | `(tactic| walk_at "rc step") => `(tactic| first
  | ((with_reducible (apply em_var)); rfl)
  | with_reducible refine em_c ?_
  | with_reducible refine em_op ?_
  | with_reducible refine ro_I0 ?_
  | ((with_reducible (refine ro_eq ?_ ?_)); rfl)
  | ((with_reducible (refine ro_ne ?_ ?_)); rfl)
  | with_reducible refine ro_isN ?_
  | with_reducible refine ro_notN ?_
  | with_reducible refine ea_nil ?_
  | with_reducible refine ea_cons ?_
  | with_reducible refine em_call ?_
  | walk_at "rc call"
  | (with_reducible refine em_fld ?_)
  | (refine ⟨_, _, _, _, rfl, (by walk_at "rc mem"), (by assumption), (by assumption), (by rfl), ?_⟩)
  | with_reducible refine ra_listV ?_
  | with_reducible refine em_cb ?_
  | with_reducible refine em_tup ?_
  | walk_at "rc lst"
  | with_reducible refine em_if ?_
  | with_reducible refine em_andV ?_
  | with_reducible refine em_orV ?_
  | with_reducible refine em_notV ?_
  | with_reducible refine em_chain ?_
  | with_reducible refine et_test ?_
  | with_reducible refine et_B ?_
  | with_reducible refine et_and ?_
  | with_reducible refine et_or ?_
  | with_reducible refine et_not ?_
  | with_reducible refine et_yes ?_
  | with_reducible refine sx_seq ?_
  | with_reducible refine sx_next ?_
  | with_reducible refine sx_asg ?_
  | with_reducible refine sx_ret ?_
  | with_reducible refine sx_append ?_
  | with_reducible refine sx_drop ?_
  | with_reducible refine sx_if ?_
  | (refine ⟨_, rfl, ?_⟩)
  | (refine ⟨fun _ => ?_, fun z => Bool.noConfusion z⟩)
  | (refine ⟨fun z => Bool.noConfusion z, fun _ => ?_⟩)
  | with_reducible refine em_make ?_
  | with_reducible refine em_meth ?_
  | (refine ⟨_, _, rfl, (by walk_at "rc mem"), rfl, ?_⟩)
  | with_reducible refine em_neg ?_
  | with_reducible refine sx_fld ?_
  | (refine ⟨_, _, _, 0, rfl, rfl, (by assumption), (by assumption), (of_decide_eq_true rfl), ?_⟩)
  | ((with_reducible (apply ra_len)); (first | exact .l .d | exact .t | exact .l (.c (by walk_at "rc mem"))))
  | ((with_reducible (apply ra_lenK)); (walk_at "rc mem"))
  | ((with_reducible (apply ro_ixL)); (first | exact .d | exact .c (by walk_at "rc mem")); (first | rfl | exact atI_0))
  | ((with_reducible (apply ro_ixT)); rfl)
  | (with_reducible (refine gx_name ?_ (by decide)))
  | ((with_reducible (apply gx_tupR)); rfl)
  | with_reducible refine gxs_cons ?_
  | with_reducible refine gxs_nil ?_
  | (exact ⟨rfl, rfl⟩)
  | (refine ⟨rfl, ?_⟩)
  | with_reducible refine em_dget ?_
  | with_reducible refine sx_lockAsg ?_
  | with_reducible refine em_din ?_
  | with_reducible refine em_dnotIn ?_
  | ((with_reducible (apply sx_aug)); rfl)
  | with_reducible refine sx_setL ?_
  | with_reducible refine sx_dput ?_
  | with_reducible refine gx_fld ?_
  | (with_reducible (apply sx_fldAug))
  | ((with_reducible (apply sx_rz)); assumption)
  | (refine ⟨(by simp only [List.length_cons, List.length_nil]; omega), ?_⟩))
section
variable [Tbl] {P : Program} {w : World} {K : PySem.W.Frag} {mg : Str → Option Value} {base : Heap}
local macro_rules | `(tactic| walk_at "rc call") => `(tactic| first | with_reducible refine c_is_within ?_ | ((with_reducible (apply c_Engine_check_up)); (walk_at "rc mem")) | ((with_reducible (apply c_Member_undoing)); assumption) | ((with_reducible (apply c_Member_begin)); assumption))
theorem sort_eq {ks ys : List Int} (p : ys.Perm ks) (h : ys.Pairwise (· ≤ ·)) (s : ks.Pairwise (· < ·)) : ys = ks :=
  List.Perm.eq_of_pairwise (le := fun a b : Int => decide (a ≤ b)) (by intros; simp_all; omega) (h.imp fun {a b} z => by simpa using z) (s.imp fun {a b} z => by simp; omega) p
def hasP (pg : Int) (b : Mb) : Bool := b.left.any fun p => decide (p.2.page = pg)
def holdV (ms : List Mb) (pg : Int) : V := match ms.find? (hasP pg) with
  | some b => .int b.no
  | none => .non
theorem any_id {α : Type} {p : α → Bool} : ∀ l : List α, (l.map p).any id = l.any p
  | [] => rfl
  | a :: l => by rw [List.map_cons, List.any_cons, List.any_cons, any_id l]; rfl
theorem sc_Engine_check_page : FnScope ["self", "page"] ["self", "page"] (defScope (inClass (top 50) 3)) := ⟨rfl, rfl, rfl, by decide +kernel, rfl, by decide +kernel, by decide +kernel⟩
theorem kp_Engine_check_page (W : Wd w K mg base) : PySem.W.keepIn K (.ref (He.fAd K ("Engine", some "check_page"))) = true := W.kp 51
theorem b_Engine_check_page (W : Wd w K mg base) : Binds K (fdO K (He.fAd K ("Engine", some "check_page"))) ["self", "page"] [] := (W.F 51).bindsN fun _ _ _ _ _ _ us hl => match us, hl with | [_, _], _ => rfl
def gm_Engine_check_page [Tbl] (K : PySem.W.Frag) : Gm := fun ds R F => ∃ (e : Addr) (E : En) (n p : Nat) (home : Nat → Int), ds = [.v (.ref e), .v (.int p)] ∧ (e, RC.i (He.ga K "Engine") (enFs E)) ∈ R ∧ (E.homeA, RC.l (intsF n home)) ∈ R ∧ p < n ∧ F (.v .non) R
abbrev sp_Engine_check_page [Tbl] (K : PySem.W.Frag) : Sp := spM (gm_Engine_check_page K)
theorem c_Engine_check_page [Tbl] {K : PySem.W.Frag} {H0 : Hp} {R0 R : Rg} {Ex : XK} {F : D → Rg → Prop} {e : Addr} {E : En} {n p : Nat} {home : Nat → Int} (h1 : (e, RC.i (He.ga K "Engine") (enFs E)) ∈ R) (h2 : (E.homeA, RC.l (intsF n home)) ∈ R) (h3 : p < n) (k : F (.v .non) R) : RS H0 R0 (sp_Engine_check_page K) Ex [.v (.ref e), .v (.int p)] R F := rs_m ⟨e, E, n, p, home, rfl, h1, h2, h3, k⟩
theorem ok_Engine_check_page (W : Wd w K mg base) : FnOk P w K mg base CX0 3 (He.fAd K ("Engine", some "check_page")) (fdO K (He.fAd K ("Engine", some "check_page"))) ["self", "page"] (sp_Engine_check_page K) := by
  refine (W.F 51).ok sc_Engine_check_page ?_ (fun cdv A outer s H vs Q E hr h => ?_)
  · exact lenM fun ds R F h => by obtain ⟨e, E, n, p, home, rfl, hE, hh, hp, hF⟩ := h; rfl
  have hu64 := hr.units
  have hu := Nat.lt_of_le_of_lt (Nat.add_le_add_left (show 1 ≤ 64 by decide) _) hu64
  refine ⟨_, PSs.nox (pss_one (ps_if (pt_not (pt_val (pe_call (ok_is_within (K := K) W) (hr.mono (by decide)) rfl (W.glo 1) (kp_is_within W) (b_is_within W) .nil pass0 (pa_cons (pv 1) (pa_cons pe_int (pa_cons (pe_op op_sub (pe_callB (lenK (K := K) rfl) rfl (W.free 49) (by decide +kernel) (pa_cons (fldK (K := K) rfl (pv 0) rfl) pa_nil)) pe_int) pa_nil))))))
    pss_never
    pss_nil)), entryM h ?_⟩
  clear h hu hu64 hr
  rintro ds R F ⟨e, E, n, p, home, rfl, hE, hh, hp, hF⟩
  have cl_Engine : Cls K (He.ga K "Engine") := W.cls 101
  have na_Engine_kept_home : NoAttr K (He.ga K "Engine") "kept_home" := W.noat 104
  have en : (decide (0 ≤ (p : Int)) && decide ((p : Int) ≤ ((intsF n home).length : Int) - 1)) = true := by
    rw [len_F]
    simp
    omega
  repeat walk_at "rc step"
  rw [en]
  repeat walk_at "rc step"
  exact hF
local macro_rules | `(tactic| walk_at "rc call") => `(tactic| first | with_reducible refine c_is_within ?_ | ((with_reducible (apply c_Engine_check_up)); (walk_at "rc mem")) | ((with_reducible (apply c_Engine_check_page)); (walk_at "rc mem"); assumption; assumption))
theorem sc_Engine_page_now : FnScope ["self", "page"] ["self", "page"] (defScope (inClass (top 50) 29)) := ⟨rfl, rfl, rfl, by decide +kernel, rfl, by decide +kernel, by decide +kernel⟩
theorem kp_Engine_page_now (W : Wd w K mg base) : PySem.W.keepIn K (.ref (He.fAd K ("Engine", some "page_now"))) = true := W.kp 73
theorem b_Engine_page_now (W : Wd w K mg base) : Binds K (fdO K (He.fAd K ("Engine", some "page_now"))) ["self", "page"] [] := (W.F 73).bindsN fun _ _ _ _ _ _ us hl => match us, hl with | [_, _], _ => rfl
def gm_Engine_page_now [Tbl] (K : PySem.W.Frag) : Gm := fun ds R F => ∃ (e : Addr) (E : En) (n p : Nat) (home pool : Nat → Int), ds = [.v (.ref e), .v (.int p)] ∧ (e, RC.i (He.ga K "Engine") (enFs E)) ∈ R ∧ (E.homeA, RC.l (intsF n home)) ∈ R ∧ (E.poolA, RC.l (intsF n pool)) ∈ R ∧ p < n ∧ F (.v (.int (pool p))) R
abbrev sp_Engine_page_now [Tbl] (K : PySem.W.Frag) : Sp := spM (gm_Engine_page_now K)
theorem c_Engine_page_now [Tbl] {K : PySem.W.Frag} {H0 : Hp} {R0 R : Rg} {Ex : XK} {F : D → Rg → Prop} {e : Addr} {E : En} {n p : Nat} {home pool : Nat → Int} (h1 : (e, RC.i (He.ga K "Engine") (enFs E)) ∈ R) (h2 : (E.homeA, RC.l (intsF n home)) ∈ R) (h3 : (E.poolA, RC.l (intsF n pool)) ∈ R) (h4 : p < n) (k : F (.v (.int (pool p))) R) : RS H0 R0 (sp_Engine_page_now K) Ex [.v (.ref e), .v (.int p)] R F := rs_m ⟨e, E, n, p, home, pool, rfl, h1, h2, h3, h4, k⟩
theorem ok_Engine_page_now (W : Wd w K mg base) : FnOk P w K mg base CX0 4 (He.fAd K ("Engine", some "page_now")) (fdO K (He.fAd K ("Engine", some "page_now"))) ["self", "page"] (sp_Engine_page_now K) := by
  refine (W.F 73).ok sc_Engine_page_now ?_ (fun cdv A outer s H vs Q E hr h => ?_)
  · exact lenM fun ds R F h => by obtain ⟨e, E, n, p, home, pool, rfl, hE, hh, hq, hp, hF⟩ := h; rfl
  have hu64 := hr.units
  have hu := Nat.lt_of_le_of_lt (Nat.add_le_add_left (show 1 ≤ 64 by decide) _) hu64
  refine ⟨_, PSs.nox (pss_cons (ps_expr (pe_meth0 (pv 0) (W.cls 101) (W.meth 113) (ok_Engine_check_up (K := K) W) (hr.mono (by decide)) (b_Engine_check_up W) .nil pass0))
    (pss_cons (ps_expr (pe_meth (pv 0) (W.cls 101) (W.meth 115) (ok_Engine_check_page (K := K) W) (hr.mono (by decide)) (b_Engine_check_page W) .nil pass0 (pa_cons (pv 1) pa_nil)))
    (pss_one (ps_ret (pe_ix (ixlK (K := K) rfl) (fldK (K := K) rfl (pv 0) rfl) (pv 1) (fun _ _ => rfl)))))), entryM h ?_⟩
  clear h hu hu64 hr
  rintro ds R F ⟨e, E, n, p, home, pool, rfl, hE, hh, hq, hp, hF⟩
  have cl_Engine : Cls K (He.ga K "Engine") := W.cls 101
  have na_Engine_kept_pool : NoAttr K (He.ga K "Engine") "kept_pool" := W.noat 105
  repeat walk_at "rc step"
  exact ro_ixL (.c hq) (atI_F hp) hF
theorem sc_Engine_page_home : FnScope ["self", "page"] ["self", "page"] (defScope (inClass (top 50) 30)) := ⟨rfl, rfl, rfl, by decide +kernel, rfl, by decide +kernel, by decide +kernel⟩
theorem kp_Engine_page_home (W : Wd w K mg base) : PySem.W.keepIn K (.ref (He.fAd K ("Engine", some "page_home"))) = true := W.kp 74
theorem b_Engine_page_home (W : Wd w K mg base) : Binds K (fdO K (He.fAd K ("Engine", some "page_home"))) ["self", "page"] [] := (W.F 74).bindsN fun _ _ _ _ _ _ us hl => match us, hl with | [_, _], _ => rfl
def gm_Engine_page_home [Tbl] (K : PySem.W.Frag) : Gm := fun ds R F => ∃ (e : Addr) (E : En) (n p : Nat) (home pool : Nat → Int), ds = [.v (.ref e), .v (.int p)] ∧ (e, RC.i (He.ga K "Engine") (enFs E)) ∈ R ∧ (E.homeA, RC.l (intsF n home)) ∈ R ∧ (E.homeA, RC.l (intsF n pool)) ∈ R ∧ p < n ∧ F (.v (.int (pool p))) R
abbrev sp_Engine_page_home [Tbl] (K : PySem.W.Frag) : Sp := spM (gm_Engine_page_home K)
theorem c_Engine_page_home [Tbl] {K : PySem.W.Frag} {H0 : Hp} {R0 R : Rg} {Ex : XK} {F : D → Rg → Prop} {e : Addr} {E : En} {n p : Nat} {home pool : Nat → Int} (h1 : (e, RC.i (He.ga K "Engine") (enFs E)) ∈ R) (h2 : (E.homeA, RC.l (intsF n home)) ∈ R) (h3 : (E.homeA, RC.l (intsF n pool)) ∈ R) (h4 : p < n) (k : F (.v (.int (pool p))) R) : RS H0 R0 (sp_Engine_page_home K) Ex [.v (.ref e), .v (.int p)] R F := rs_m ⟨e, E, n, p, home, pool, rfl, h1, h2, h3, h4, k⟩
theorem ok_Engine_page_home (W : Wd w K mg base) : FnOk P w K mg base CX0 4 (He.fAd K ("Engine", some "page_home")) (fdO K (He.fAd K ("Engine", some "page_home"))) ["self", "page"] (sp_Engine_page_home K) := by
  refine (W.F 74).ok sc_Engine_page_home ?_ (fun cdv A outer s H vs Q E hr h => ?_)
  · exact lenM fun ds R F h => by obtain ⟨e, E, n, p, home, pool, rfl, hE, hh, hq, hp, hF⟩ := h; rfl
  have hu64 := hr.units
  have hu := Nat.lt_of_le_of_lt (Nat.add_le_add_left (show 1 ≤ 64 by decide) _) hu64
  refine ⟨_, PSs.nox (pss_cons (ps_expr (pe_meth (pv 0) (W.cls 101) (W.meth 115) (ok_Engine_check_page (K := K) W) (hr.mono (by decide)) (b_Engine_check_page W) .nil pass0 (pa_cons (pv 1) pa_nil)))
    (pss_one (ps_ret (pe_ix (ixlK (K := K) rfl) (fldK (K := K) rfl (pv 0) rfl) (pv 1) (fun _ _ => rfl))))), entryM h ?_⟩
  clear h hu hu64 hr
  rintro ds R F ⟨e, E, n, p, home, pool, rfl, hE, hh, hq, hp, hF⟩
  have cl_Engine : Cls K (He.ga K "Engine") := W.cls 101
  have na_Engine_kept_home : NoAttr K (He.ga K "Engine") "kept_home" := W.noat 104
  repeat walk_at "rc step"
  exact ro_ixL (.c hq) (atI_F hp) hF
theorem sc_Engine_holder : FnScope ["self", "page", "number", "row"] ["self", "page"] (defScope (inClass (top 50) 18)) := ⟨rfl, rfl, rfl, by decide +kernel, rfl, by decide +kernel, by decide +kernel⟩
theorem kp_Engine_holder (W : Wd w K mg base) : PySem.W.keepIn K (.ref (He.fAd K ("Engine", some "holder"))) = true := W.kp 65
theorem b_Engine_holder (W : Wd w K mg base) : Binds K (fdO K (He.fAd K ("Engine", some "holder"))) ["self", "page"] [] := (W.F 65).bindsN fun _ _ _ _ _ _ us hl => match us, hl with | [_, _], _ => rfl
def gm_Engine_holder [Tbl] (K : PySem.W.Frag) : Gm := fun ds R F => ∃ (e : Addr) (E : En) (ms : List Mb) (pg : Int), ds = [.v (.ref e), .v (.int pg)] ∧ (e, RC.i (He.ga K "Engine") (enFs E)) ∈ R ∧ MsIn K E ms R ∧ F (.v (holdV ms pg)) R
abbrev sp_Engine_holder [Tbl] (K : PySem.W.Frag) : Sp := spM (gm_Engine_holder K)
theorem c_Engine_holder [Tbl] {K : PySem.W.Frag} {H0 : Hp} {R0 R : Rg} {Ex : XK} {F : D → Rg → Prop} {e : Addr} {E : En} {ms : List Mb} {pg : Int} (h1 : (e, RC.i (He.ga K "Engine") (enFs E)) ∈ R) (h2 : MsIn K E ms R) (k : F (.v (holdV ms pg)) R) : RS H0 R0 (sp_Engine_holder K) Ex [.v (.ref e), .v (.int pg)] R F := rs_m ⟨e, E, ms, pg, rfl, h1, h2, k⟩
theorem ok_Engine_holder (W : Wd w K mg base) : FnOk P w K mg base CX0 1 (He.fAd K ("Engine", some "holder")) (fdO K (He.fAd K ("Engine", some "holder"))) ["self", "page"] (sp_Engine_holder K) := by
  refine (W.F 65).ok sc_Engine_holder ?_ (fun cdv A outer s H vs Q E hr h => ?_)
  · exact lenM fun ds R F h => by obtain ⟨e, E, ms, pg, rfl, hE, hms, hF⟩ := h; rfl
  have hu64 := hr.units
  have hu := Nat.lt_of_le_of_lt (Nat.add_le_add_left (show 1 ≤ 64 by decide) _) hu64
  refine ⟨_, PSs.nox (pss_cons (ps_for PassesOwn.never rfl (ilistK (K := K) rfl (pe_callB (sortDI rfl) rfl (W.free 51) (by decide +kernel) (pa_cons (fldK (K := K) rfl (pv 0) rfl) pa_nil))) (pg_name (i := 2) sc_Engine_holder.nd rfl (.inl rfl))
    (pss_one (ps_if (pt_val (pe_callB (anyK (K := K) rfl rfl) rfl (W.free 54) (by decide +kernel) (pa_cons (pe_lc (own := [("row", 3)]) (g := (gName 3)) rfl sc_Engine_holder.nd (ilistK (K := K) rfl (fldK (K := K) rfl (pe_dget hu (fldK (K := K) rfl (pv 0) rfl) (pv 2) (fun _ _ => rfl)) rfl)) (blkOk_by (show blkC ["self", "page", "number", "row"] (defScope (inClass (top 50) 18)) _ [("row", 3)] = true by decide +kernel)) (fun _ _ _ _ _ => (pg_name (i := 3) sc_Engine_holder.nd rfl (.inl rfl))) (fun _ _ _ _ _ => pts_nil) (fun _ _ _ _ _ => (pe_cmpR op_eq (fldK (K := K) rfl (pv 3) rfl) (pv 1) (nomark _)))) pa_nil)))
    (pss_one (ps_ret (pv 2)))
    pss_nil)))
    (pss_one (ps_ret pe_non))), entryM h ?_⟩
  clear h hu hu64 hr
  rintro ds R F ⟨e, E, ms, pg, rfl, hE, hms, hF⟩
  have cl_Engine : Cls K (He.ga K "Engine") := W.cls 101
  have cl_LogRow : Cls K (He.ga K "LogRow") := W.cls 77
  have cl_Member : Cls K (He.ga K "Member") := W.cls 88
  have na_Engine_kept_members : NoAttr K (He.ga K "Engine") "kept_members" := W.noat 108
  have na_LogRow_page : NoAttr K (He.ga K "LogRow") "page" := W.noat 81
  have na_Member_left_rows : NoAttr K (He.ga K "Member") "left_rows" := W.noat 92
  have hk := hms.k
  refine sx_seq (sx_for [2] ?_)
  refine ei_listD ?_
  repeat walk_at "rc step"
  refine ra_sortDI (kvs := memK ms) (ks := ms.map (·.no)) hk (by unfold memK; rw [List.map_map, List.map_map]; rfl) (by rw [List.length_map]; exact Nat.lt_of_le_of_lt hms.z (by decide)) fun ys hp hs => ?_
  have ey := sort_eq hp hs (by rw [List.pairwise_map]; exact hms.srt)
  subst ey
  refine ⟨_, rfl, fun i g' R' => i ≤ ms.length ∧ (∃ o, g' = [some (.v (.ref e)), some (.v (.int pg)), o, none]) ∧ R' = R ∧ ∀ b ∈ ms.take i, hasP pg b = false, ms.length, ⟨Nat.zero_le _, ⟨none, rfl⟩, rfl, fun b hb => absurd hb (by simp)⟩, ?_⟩
  rintro i g' R' ⟨hi, ⟨o, rfl⟩, rfl, hno⟩
  by_cases hlt : i < ms.length
  · refine .inr ⟨hlt, .v (.int ms[i].no), by simp [hlt], fun H1 => ?_⟩
    have hb := hms.b ms[i] (List.getElem_mem hlt)
    have hbc := hb.c
    have lk := lk_mem (List.getElem_mem hlt) (nd_srt hms.srt)
    repeat walk_at "rc step"
    refine em_lcI ?_
    repeat walk_at "rc step"
    refine ⟨E.memA, _, .inl ms[i].no, _, rfl, .k hk, rfl, lk, ?_⟩
    repeat walk_at "rc step"
    refine ⟨_, ms[i].left, fun p => .v (.ref p.1), fun p => some (.v (.bl (decide (V.int p.2.page = .int pg)))), .d, Nat.le_trans hb.z (by decide), fun p hp H1 Rx hs => ?_, ?_⟩
    · have hm := hs _ (hb.r p hp)
      repeat walk_at "rc step"
    repeat walk_at "rc step"
    refine ra_any (bs := ms[i].left.map fun p : Addr × Rw => decide (V.int p.2.page = .int pg)) ?_ ?_
    · rw [fm_some, List.map_map]
      exact .d
    have e : (ms[i].left.map fun p : Addr × Rw => decide (V.int p.2.page = .int pg)).any id = hasP pg ms[i] := by
      rw [any_id]
      unfold hasP
      congr 1
      funext p
      simp
    rw [e]
    have et : ∀ b ∈ ms.take i, (hasP pg b) = false := hno
    repeat walk_at "rc step"
    refine ⟨fun h => ?_, fun h => ?_⟩
    · repeat walk_at "rc step"
      have ef : ms.find? (hasP pg) = some ms[i] := by
        rw [List.find?_eq_some_iff_getElem]
        refine ⟨h, i, hlt, rfl, fun j hj => ?_⟩
        have h2 : hasP pg ms[j] = false := hno ms[j] (List.mem_take_iff_getElem.mpr ⟨j, by omega, rfl⟩)
        rw [h2]
        rfl
      unfold holdV at hF
      rw [ef] at hF
      exact hF
    · repeat walk_at "rc step"
      refine ⟨hlt, ⟨_, rfl⟩, rfl, fun b hb => ?_⟩
      rw [List.take_add_one, List.getElem?_eq_getElem hlt] at hb
      rcases List.mem_append.mp hb with z | z
      · exact hno b z
      · have ez : b = ms[i] := by simpa using z
        rw [ez]
        exact h
  · refine .inl ⟨by simp; omega, ?_⟩
    repeat walk_at "rc step"
    have ef : ms.find? (hasP pg) = none := by
      rw [List.find?_eq_none]
      intro b hb
      have h2 : hasP pg b = false := hno b (by rw [List.take_of_length_le (by omega)]; exact hb)
      rw [h2]
      decide
    unfold holdV at hF
    rw [ef] at hF
    exact hF
local macro_rules | `(tactic| walk_at "rc call") => `(tactic| first | with_reducible refine c_is_within ?_ | ((with_reducible (apply c_Engine_check_up)); (walk_at "rc mem")) | ((with_reducible (apply c_Engine_check_page)); (walk_at "rc mem"); assumption; assumption) | ((with_reducible (apply c_Engine_holder)); (walk_at "rc mem"); assumption))
theorem sc_Engine_held_by : FnScope ["self", "page"] ["self", "page"] (defScope (inClass (top 50) 31)) := ⟨rfl, rfl, rfl, by decide +kernel, rfl, by decide +kernel, by decide +kernel⟩
theorem kp_Engine_held_by (W : Wd w K mg base) : PySem.W.keepIn K (.ref (He.fAd K ("Engine", some "held_by"))) = true := W.kp 75
theorem b_Engine_held_by (W : Wd w K mg base) : Binds K (fdO K (He.fAd K ("Engine", some "held_by"))) ["self", "page"] [] := (W.F 75).bindsN fun _ _ _ _ _ _ us hl => match us, hl with | [_, _], _ => rfl
def gm_Engine_held_by [Tbl] (K : PySem.W.Frag) : Gm := fun ds R F => ∃ (e : Addr) (E : En) (n p : Nat) (home : Nat → Int) (ms : List Mb), ds = [.v (.ref e), .v (.int p)] ∧ (e, RC.i (He.ga K "Engine") (enFs E)) ∈ R ∧ (E.homeA, RC.l (intsF n home)) ∈ R ∧ p < n ∧ MsIn K E ms R ∧ F (.v (holdV ms p)) R
abbrev sp_Engine_held_by [Tbl] (K : PySem.W.Frag) : Sp := spM (gm_Engine_held_by K)
theorem c_Engine_held_by [Tbl] {K : PySem.W.Frag} {H0 : Hp} {R0 R : Rg} {Ex : XK} {F : D → Rg → Prop} {e : Addr} {E : En} {n p : Nat} {home : Nat → Int} {ms : List Mb} (h1 : (e, RC.i (He.ga K "Engine") (enFs E)) ∈ R) (h2 : (E.homeA, RC.l (intsF n home)) ∈ R) (h3 : p < n) (h4 : MsIn K E ms R) (k : F (.v (holdV ms p)) R) : RS H0 R0 (sp_Engine_held_by K) Ex [.v (.ref e), .v (.int p)] R F := rs_m ⟨e, E, n, p, home, ms, rfl, h1, h2, h3, h4, k⟩
theorem ok_Engine_held_by (W : Wd w K mg base) : FnOk P w K mg base CX0 4 (He.fAd K ("Engine", some "held_by")) (fdO K (He.fAd K ("Engine", some "held_by"))) ["self", "page"] (sp_Engine_held_by K) := by
  refine (W.F 75).ok sc_Engine_held_by ?_ (fun cdv A outer s H vs Q E hr h => ?_)
  · exact lenM fun ds R F h => by obtain ⟨e, E, n, p, home, ms, rfl, hE, hh, hp, hms, hF⟩ := h; rfl
  have hu64 := hr.units
  have hu := Nat.lt_of_le_of_lt (Nat.add_le_add_left (show 1 ≤ 64 by decide) _) hu64
  refine ⟨_, PSs.nox (pss_cons (ps_expr (pe_meth0 (pv 0) (W.cls 101) (W.meth 113) (ok_Engine_check_up (K := K) W) (hr.mono (by decide)) (b_Engine_check_up W) .nil pass0))
    (pss_cons (ps_expr (pe_meth (pv 0) (W.cls 101) (W.meth 115) (ok_Engine_check_page (K := K) W) (hr.mono (by decide)) (b_Engine_check_page W) .nil pass0 (pa_cons (pv 1) pa_nil)))
    (pss_one (ps_ret (pe_meth (pv 0) (W.cls 101) (W.meth 129) (ok_Engine_holder (K := K) W) (hr.mono (by decide)) (b_Engine_holder W) .nil pass0 (pa_cons (pv 1) pa_nil)))))), entryM h ?_⟩
  clear h hu hu64 hr
  rintro ds R F ⟨e, E, n, p, home, ms, rfl, hE, hh, hp, hms, hF⟩
  repeat walk_at "rc step"
  exact hF
theorem sc_Engine_writes_of : FnScope ["self", "deed", "row"] ["self", "deed"] (defScope (inClass (top 50) 33)) := ⟨rfl, rfl, rfl, by decide +kernel, rfl, by decide +kernel, by decide +kernel⟩
theorem kp_Engine_writes_of (W : Wd w K mg base) : PySem.W.keepIn K (.ref (He.fAd K ("Engine", some "writes_of"))) = true := W.kp 77
theorem b_Engine_writes_of (W : Wd w K mg base) : Binds K (fdO K (He.fAd K ("Engine", some "writes_of"))) ["self", "deed"] [] := (W.F 77).bindsN fun _ _ _ _ _ _ us hl => match us, hl with | [_, _], _ => rfl
def gm_Engine_writes_of [Tbl] (K : PySem.W.Frag) : Gm := fun ds R F => ∃ (e : Addr) (E : En) (ms : List Mb) (b : Mb), ds = [.v (.ref e), .v (.int b.no)] ∧ (e, RC.i (He.ga K "Engine") (enFs E)) ∈ R ∧ MsIn K E ms R ∧ b ∈ ms ∧ F (.l (b.left.map fun p => .t [.v (.int p.2.page), .v (.int p.2.before), .v (.int p.2.behind)])) R
abbrev sp_Engine_writes_of [Tbl] (K : PySem.W.Frag) : Sp := spM (gm_Engine_writes_of K)
theorem c_Engine_writes_of [Tbl] {K : PySem.W.Frag} {H0 : Hp} {R0 R : Rg} {Ex : XK} {F : D → Rg → Prop} {e : Addr} {E : En} {ms : List Mb} {b : Mb} (h1 : (e, RC.i (He.ga K "Engine") (enFs E)) ∈ R) (h2 : MsIn K E ms R) (h3 : b ∈ ms) (k : F (.l (b.left.map fun p => .t [.v (.int p.2.page), .v (.int p.2.before), .v (.int p.2.behind)])) R) : RS H0 R0 (sp_Engine_writes_of K) Ex [.v (.ref e), .v (.int b.no)] R F := rs_m ⟨e, E, ms, b, rfl, h1, h2, h3, k⟩
theorem ok_Engine_writes_of (W : Wd w K mg base) : FnOk P w K mg base CX0 4 (He.fAd K ("Engine", some "writes_of")) (fdO K (He.fAd K ("Engine", some "writes_of"))) ["self", "deed"] (sp_Engine_writes_of K) := by
  refine (W.F 77).ok sc_Engine_writes_of ?_ (fun cdv A outer s H vs Q E hr h => ?_)
  · exact lenM fun ds R F h => by obtain ⟨e, E, ms, b, rfl, hE, hms, hb, hF⟩ := h; rfl
  have hu64 := hr.units
  have hu := Nat.lt_of_le_of_lt (Nat.add_le_add_left (show 1 ≤ 64 by decide) _) hu64
  refine ⟨_, PSs.nox (pss_one (ps_ret (pe_lc (own := [("row", 2)]) (g := (gName 2)) rfl sc_Engine_writes_of.nd (ilistK (K := K) rfl (fldK (K := K) rfl (pe_meth (pv 0) (W.cls 101) (W.meth 114) (ok_Engine_member (K := K) W) (hr.mono (by decide)) (b_Engine_member W) .nil pass0 (pa_cons (pv 1) pa_nil)) rfl)) (blkOk_by (show blkC ["self", "deed", "row"] (defScope (inClass (top 50) 33)) _ [("row", 2)] = true by decide +kernel)) (fun _ _ _ _ _ => (pg_name (i := 2) sc_Engine_writes_of.nd rfl (.inl rfl))) (fun _ _ _ _ _ => pts_nil) (fun _ _ _ _ _ => (pe_tup (pa_cons (fldK (K := K) rfl (pv 2) rfl) (pa_cons (fldK (K := K) rfl (pv 2) rfl) (pa_cons (fldK (K := K) rfl (pv 2) rfl) pa_nil)))))))), entryM h ?_⟩
  clear h hu hu64 hr
  rintro ds R F ⟨e, E, ms, b, rfl, hE, hms, hb, hF⟩
  have cl_LogRow : Cls K (He.ga K "LogRow") := W.cls 77
  have cl_Member : Cls K (He.ga K "Member") := W.cls 88
  have na_LogRow_page : NoAttr K (He.ga K "LogRow") "page" := W.noat 81
  have na_LogRow_before : NoAttr K (He.ga K "LogRow") "before" := W.noat 82
  have na_LogRow_behind : NoAttr K (He.ga K "LogRow") "behind" := W.noat 83
  have na_Member_left_rows : NoAttr K (He.ga K "Member") "left_rows" := W.noat 92
  have hbm := hms.b b hb
  have hbc := hbm.c
  refine sx_ret (em_lcI ?_)
  repeat walk_at "rc step"
  refine c_Engine_member hE hms hb ?_
  repeat walk_at "rc step"
  refine ⟨_, b.left, fun p => .v (.ref p.1), fun p => some (.t [.v (.int p.2.page), .v (.int p.2.before), .v (.int p.2.behind)]), .d, Nat.le_trans hbm.z (by decide), fun p hp H1 Rx hs => ?_, ?_⟩
  · have hm := hs _ (hbm.r p hp)
    repeat walk_at "rc step"
  · rw [fm_some]
    exact hF
end
end Rc
-- G8
set_option Elab.async false
set_option linter.all false
set_option maxRecDepth 100000
set_option maxHeartbeats 4000000
namespace Rc
open PySem PySem.Spec PyProof.Rows L2 RcHead
local macro_rules | `(tactic| walk_at "rc mem") => `(tactic| first | assumption | exact List.mem_cons_self | ((with_reducible (refine List.mem_cons_of_mem _ ?_)); walk_at "rc mem"))
local macro_rules | `(tactic| walk_at "rc end") => `(tactic| fail)
local macro_rules | `(tactic| walk_at "rc lst") => `(tactic| with_reducible refine em_lst ?_)
local macro_rules | `(tactic| walk_at "rc call") => `(tactic| fail)
local macro_rules | `(tactic| walk_at "rc step") => `(tactic| first
  | ((with_reducible (apply em_var)); rfl)
  | with_reducible refine em_c ?_
  | with_reducible refine em_op ?_
  | with_reducible refine ro_I0 ?_
  | ((with_reducible (refine ro_eq ?_ ?_)); rfl)
  | ((with_reducible (refine ro_ne ?_ ?_)); rfl)
  | with_reducible refine ro_isN ?_
  | with_reducible refine ro_notN ?_
  | with_reducible refine ea_nil ?_
  | with_reducible refine ea_cons ?_
  | with_reducible refine em_call ?_
  | walk_at "rc call"
  | (with_reducible refine em_fld ?_)
  | (refine ⟨_, _, _, _, rfl, (by walk_at "rc mem"), (by assumption), (by assumption), (by rfl), ?_⟩)
  | with_reducible refine ra_listV ?_
  | with_reducible refine em_cb ?_
  | with_reducible refine em_tup ?_
  | walk_at "rc lst"
  | with_reducible refine em_if ?_
  | with_reducible refine em_andV ?_
  | with_reducible refine em_orV ?_
  | with_reducible refine em_notV ?_
  | with_reducible refine em_chain ?_
  | with_reducible refine et_test ?_
  | with_reducible refine et_B ?_
  | with_reducible refine et_and ?_
  | with_reducible refine et_or ?_
  | with_reducible refine et_not ?_
  | with_reducible refine et_yes ?_
  | with_reducible refine sx_seq ?_
  | with_reducible refine sx_next ?_
  | with_reducible refine sx_asg ?_
  | with_reducible refine sx_ret ?_
  | with_reducible refine sx_append ?_
  | with_reducible refine sx_drop ?_
  | with_reducible refine sx_if ?_
  | (refine ⟨_, rfl, ?_⟩)
  | (refine ⟨fun _ => ?_, fun z => Bool.noConfusion z⟩)
  | (refine ⟨fun z => Bool.noConfusion z, fun _ => ?_⟩)
  | with_reducible refine em_make ?_
  | with_reducible refine em_meth ?_
  | (refine ⟨_, _, rfl, (by walk_at "rc mem"), rfl, ?_⟩)
  | with_reducible refine em_neg ?_
  | with_reducible refine sx_fld ?_
  | (refine ⟨_, _, _, 0, rfl, rfl, (by assumption), (by assumption), (of_decide_eq_true rfl), ?_⟩)
  | ((with_reducible (apply ra_len)); (first | exact .l .d | exact .t | exact .l (.c (by walk_at "rc mem"))))
  | ((with_reducible (apply ra_lenK)); (walk_at "rc mem"))
  | ((with_reducible (apply ro_ixL)); (first | exact .d | exact .c (by walk_at "rc mem")); (first | rfl | exact atI_0))
  | ((with_reducible (apply ro_ixT)); rfl)
  | (with_reducible (refine gx_name ?_ (by decide)))
  | ((with_reducible (apply gx_tupR)); rfl)
  | with_reducible refine gxs_cons ?_
  | with_reducible refine gxs_nil ?_
  | (exact ⟨rfl, rfl⟩)
  | (refine ⟨rfl, ?_⟩)
  | with_reducible refine em_dget ?_
  | with_reducible refine sx_lockAsg ?_
  | with_reducible refine em_din ?_
  | with_reducible refine em_dnotIn ?_
  | ((with_reducible (apply sx_aug)); rfl)
  | with_reducible refine sx_setL ?_
  | with_reducible refine sx_dput ?_
  | with_reducible refine gx_fld ?_
  | (with_reducible (apply sx_fldAug))
  | ((with_reducible (apply sx_rz)); assumption)
  | (refine ⟨(by simp only [List.length_cons, List.length_nil]; omega), ?_⟩))
section
variable [Tbl] {P : Program} {w : World} {K : PySem.W.Frag} {mg : Str → Option Value} {base : Heap}
local macro_rules | `(tactic| walk_at "rc call") => `(tactic| first | with_reducible refine c_is_within ?_ | ((with_reducible (apply c_Engine_check_up)); (walk_at "rc mem")) | ((with_reducible (apply c_Member_undoing)); assumption) | ((with_reducible (apply c_Member_begin)); assumption))
theorem rs_perm [Tbl] {H0 : Hp} {R0 R R1 : Rg} {sp : Sp} {Ex : XK} {ds : List D} {F : D → Rg → Prop} (p : R.Perm R1) (h : RS H0 R0 sp Ex ds R1 F) : RS H0 R0 sp Ex ds R F := fun H xs t hH r Q q =>
  h H xs (t.trans (Tn.of_perm p)) (hH.perm p) (r.tn (Tn.of_perm p)) Q fun d R' v H' k t2 h2 r2 => q d R' v H' k ((Tn.of_perm p).trans t2) h2 r2
def oth (ms : List Mb) (a : Mb) : List (Int × Int × Int) := (ms.filter fun b => !b.left.isEmpty && decide (b.no ≠ a.no)).map fun b => (begI b, und b, b.no)
theorem oth_D (ms : List Mb) (a : Mb) : ((ms.filter fun b => !b.left.isEmpty && decide (b.no ≠ a.no)).map fun b => D.t [.v (begV b), .v (.int (und b)), .v (.int b.no)]) = (oth ms a).map triD := by
  unfold oth
  rw [List.map_map]
  refine List.map_congr_left fun b hb => ?_
  have h := (List.mem_filter.mp hb).2
  have h2 : b.left.isEmpty = false := by
    cases c : b.left.isEmpty
    · rfl
    · rw [c] at h; cases h
  rw [begV_ne h2]
  rfl
theorem cut_all {ds : List D} : cutD ds (some (0 : Int)) none = ds := by
  have := @HT.sIx_nat ds.length 0 0
  unfold cutD
  show ((ds.drop (HT.sIx ds.length 0 (some ((0 : Nat) : Int)))).take (ds.length - HT.sIx ds.length 0 (some ((0 : Nat) : Int)))) = ds
  rw [HT.sIx_nat, Nat.zero_min, List.drop_zero, Nat.sub_zero, List.take_of_length_le (Nat.le_refl _)]
theorem sc_Engine_lot_for : FnScope ["self", "asker", "cells", "need", "others", "many", "first", "undoing", "number"] ["self", "asker", "cells", "need"] (defScope (inClass (top 50) 13)) := ⟨rfl, rfl, rfl, by decide +kernel, rfl, by decide +kernel, by decide +kernel⟩
theorem kp_Engine_lot_for (W : Wd w K mg base) : PySem.W.keepIn K (.ref (He.fAd K ("Engine", some "lot_for"))) = true := W.kp 60
theorem b_Engine_lot_for (W : Wd w K mg base) : Binds K (fdO K (He.fAd K ("Engine", some "lot_for"))) ["self", "asker", "cells", "need"] [] := (W.F 60).bindsN fun _ _ _ _ _ _ us hl => match us, hl with | [_, _, _, _], _ => rfl
def gm_Engine_lot_for [Tbl] (K : PySem.W.Frag) : Gm := fun ds R F => ∃ (e : Addr) (E : En) (ms : List Mb) (a : Mb) (c need : Int), ds = [.v (.ref e), .v (.ref a.a), .v (.int c), .v (.int need)] ∧ (e, RC.i (He.ga K "Engine") (enFs E)) ∈ R ∧ MsIn K E ms R ∧ MbIn K a R ∧ (∀ b ∈ ms, TS.Bd (2 ^ 60) [begI b, und b, b.no]) ∧
  ((a.left.isEmpty = false ∧ TS.Bd (2 ^ 60) [begI a, need, a.no] ∧ ∀ ys : List (Int × Int × Int), ys.Perm (oth ms a ++ [(begI a, need, a.no)]) → ys.Pairwise (fun x y => x.1 ≤ y.1) → F (.t ((ys.take (hvN E.cells (E.head + c) (ys.map two))).map fun t => .v (.int t.2.2))) R) ∨
   (a.left.isEmpty = true ∧ c + need ≤ E.cells ∧ (∀ ys : List (Int × Int × Int), ys.Perm (oth ms a) → ys.Pairwise (fun x y => x.1 ≤ y.1) → hvN E.cells (E.head + c) (ys.map two) = 0 ∧ c + need + (ys.map fun t => t.2.1).sum ≤ E.cells) ∧ F (.t []) R))
abbrev sp_Engine_lot_for [Tbl] (K : PySem.W.Frag) : Sp := spM (gm_Engine_lot_for K)
theorem c_Engine_lot_for [Tbl] {K : PySem.W.Frag} {H0 : Hp} {R0 R : Rg} {Ex : XK} {F : D → Rg → Prop} {e : Addr} {E : En} {ms : List Mb} {a : Mb} {c need : Int} (h1 : (e, RC.i (He.ga K "Engine") (enFs E)) ∈ R) (h2 : MsIn K E ms R) (h3 : MbIn K a R) (h4 : ∀ b ∈ ms, TS.Bd (2 ^ 60) [begI b, und b, b.no]) (k : (a.left.isEmpty = false ∧ TS.Bd (2 ^ 60) [begI a, need, a.no] ∧ ∀ ys : List (Int × Int × Int), ys.Perm (oth ms a ++ [(begI a, need, a.no)]) → ys.Pairwise (fun x y => x.1 ≤ y.1) → F (.t ((ys.take (hvN E.cells (E.head + c) (ys.map two))).map fun t => .v (.int t.2.2))) R) ∨ (a.left.isEmpty = true ∧ c + need ≤ E.cells ∧ (∀ ys : List (Int × Int × Int), ys.Perm (oth ms a) → ys.Pairwise (fun x y => x.1 ≤ y.1) → hvN E.cells (E.head + c) (ys.map two) = 0 ∧ c + need + (ys.map fun t => t.2.1).sum ≤ E.cells) ∧ F (.t []) R)) : RS H0 R0 (sp_Engine_lot_for K) Ex [.v (.ref e), .v (.ref a.a), .v (.int c), .v (.int need)] R F := rs_m ⟨e, E, ms, a, c, need, rfl, h1, h2, h3, h4, k⟩
theorem ok_Engine_lot_for (W : Wd w K mg base) : FnOk P w K mg base CX0 9 (He.fAd K ("Engine", some "lot_for")) (fdO K (He.fAd K ("Engine", some "lot_for"))) ["self", "asker", "cells", "need"] (sp_Engine_lot_for K) := by
  refine (W.F 60).ok sc_Engine_lot_for ?_ (fun cdv A outer s H vs Q E hr h => ?_)
  · exact lenM fun ds R F h => by obtain ⟨e, E, ms, a, c, need, rfl, hE, hms, ha, hbd, hor⟩ := h; rfl
  have hu64 := hr.units
  have hu := Nat.lt_of_le_of_lt (Nat.add_le_add_left (show 1 ≤ 64 by decide) _) hu64
  refine ⟨_, PSs.nox (pss_cons (ps_set (i := 4) sc_Engine_lot_for.nd rfl (.inl rfl) (pe_callB (sortTK (K := K) rfl) rfl (W.free 51) (by decide +kernel) (pa_cons (pe_meth (pv 0) (W.cls 101) (W.meth 125) (ok_Engine_others (K := K) W) (hr.mono (by decide)) (b_Engine_others W) .nil pass0 (pa_cons (pv 1) pa_nil)) pa_nil)))
    (pss_cons (ps_if (pt_cmpR op_gt (pe_callB (lenK (K := K) rfl) rfl (W.free 49) (by decide +kernel) (pa_cons (fldK (K := K) rfl (pv 1) rfl) pa_nil)) pe_int (nomark _))
    (pss_one (ps_ret (pe_meth (pv 0) (W.cls 101) (W.meth 126) (ok_Engine_lot_of (K := K) W) (hr.mono (by decide)) (b_Engine_lot_of W) .nil pass0 (pa_cons (pv 2) (pa_cons (pe_op op_cat (pv 4) (pe_lst (pa_cons (pe_tup (pa_cons (pe_meth0 (pv 1) (W.cls 88) (W.meth 94) (ok_Member_begin (K := K) W) (hr.mono (by decide)) (b_Member_begin W) .nil pass0) (pa_cons (pv 3) (pa_cons (fldK (K := K) rfl (pv 1) rfl) pa_nil)))) pa_nil))) pa_nil)))))
    pss_nil)
    (pss_cons (ps_if (pt_cmpR op_gt (pe_op op_add (pv 2) (pv 3)) (fldK (K := K) rfl (pv 0) rfl) (nomark _))
    (pss_one (ps_ret (pe_callTy (tupK (K := K) rfl) rfl (W.free 60) (by decide +kernel) (pa_cons (pe_op op_cat (pe_lc (own := [("first", 6), ("undoing", 7), ("number", 8)]) (g := (gTup K 3 (gCons (gName 6) (gCons (gName 7) (gCons (gName 8) gNil))))) rfl sc_Engine_lot_for.nd (ilistK (K := K) rfl (pv 4)) (blkOk_by (show blkC ["self", "asker", "cells", "need", "others", "many", "first", "undoing", "number"] (defScope (inClass (top 50) 13)) _ [("first", 6), ("undoing", 7), ("number", 8)] = true by decide +kernel)) (fun _ _ _ _ _ => (gtupK (K := K) (n := 3) rfl rfl (pgs_cons (pg_name (i := 6) sc_Engine_lot_for.nd rfl (.inl rfl)) (pgs_cons (pg_name (i := 7) sc_Engine_lot_for.nd rfl (.inl rfl)) (pgs_cons (pg_name (i := 8) sc_Engine_lot_for.nd rfl (.inl rfl)) pgs_nil))))) (fun _ _ _ _ _ => pts_nil) (fun _ _ _ _ _ => (pv 8))) (pe_lst (pa_cons (fldK (K := K) rfl (pv 1) rfl) pa_nil))) pa_nil))))
    pss_nil)
    (pss_cons (ps_set (i := 5) sc_Engine_lot_for.nd rfl (.inl rfl) (pe_callB (lenK (K := K) rfl) rfl (W.free 49) (by decide +kernel) (pa_cons (pe_meth (pv 0) (W.cls 101) (W.meth 126) (ok_Engine_lot_of (K := K) W) (hr.mono (by decide)) (b_Engine_lot_of W) .nil pass0 (pa_cons (pv 2) (pa_cons (pv 4) pa_nil))) pa_nil)))
    (pss_cons (ps_while PassesOwn.never (pt_cmpR op_gt (pe_op op_add (pe_op op_add (pv 2) (pv 3)) (pe_callB (sumK (K := K) rfl rfl) rfl (W.free 50) (by decide +kernel) (pa_cons (pe_lc (own := [("first", 6), ("undoing", 7), ("number", 8)]) (g := (gTup K 3 (gCons (gName 6) (gCons (gName 7) (gCons (gName 8) gNil))))) rfl sc_Engine_lot_for.nd (ilistK (K := K) rfl (pe_slice (sllK (K := K) rfl) (pv 4) (po_some (pv 5)) po_none)) (blkOk_by (show blkC ["self", "asker", "cells", "need", "others", "many", "first", "undoing", "number"] (defScope (inClass (top 50) 13)) _ [("first", 6), ("undoing", 7), ("number", 8)] = true by decide +kernel)) (fun _ _ _ _ _ => (gtupK (K := K) (n := 3) rfl rfl (pgs_cons (pg_name (i := 6) sc_Engine_lot_for.nd rfl (.inl rfl)) (pgs_cons (pg_name (i := 7) sc_Engine_lot_for.nd rfl (.inl rfl)) (pgs_cons (pg_name (i := 8) sc_Engine_lot_for.nd rfl (.inl rfl)) pgs_nil))))) (fun _ _ _ _ _ => pts_nil) (fun _ _ _ _ _ => (pv 7))) pa_nil))) (fldK (K := K) rfl (pv 0) rfl) (nomark _))
    (pss_one (ps_aug (i := 5) sc_Engine_lot_for.nd rfl (.inl rfl) pe_int ip_add)))
    (pss_one (ps_ret (pe_callTy (tupK (K := K) rfl) rfl (W.free 60) (by decide +kernel) (pa_cons (pe_lc (own := [("first", 6), ("undoing", 7), ("number", 8)]) (g := (gTup K 3 (gCons (gName 6) (gCons (gName 7) (gCons (gName 8) gNil))))) rfl sc_Engine_lot_for.nd (ilistK (K := K) rfl (pe_slice (sllK (K := K) rfl) (pv 4) po_none (po_some (pv 5)))) (blkOk_by (show blkC ["self", "asker", "cells", "need", "others", "many", "first", "undoing", "number"] (defScope (inClass (top 50) 13)) _ [("first", 6), ("undoing", 7), ("number", 8)] = true by decide +kernel)) (fun _ _ _ _ _ => (gtupK (K := K) (n := 3) rfl rfl (pgs_cons (pg_name (i := 6) sc_Engine_lot_for.nd rfl (.inl rfl)) (pgs_cons (pg_name (i := 7) sc_Engine_lot_for.nd rfl (.inl rfl)) (pgs_cons (pg_name (i := 8) sc_Engine_lot_for.nd rfl (.inl rfl)) pgs_nil))))) (fun _ _ _ _ _ => pts_nil) (fun _ _ _ _ _ => (pv 8))) pa_nil))))))))), entryM h ?_⟩
  clear h hu hu64 hr
  rintro ds R F ⟨e, E, ms, a, c, need, rfl, hE, hms, ha, hbd, hor⟩
  have cl_Engine : Cls K (He.ga K "Engine") := W.cls 101
  have cl_Member : Cls K (He.ga K "Member") := W.cls 88
  have na_Engine_kept_cells : NoAttr K (He.ga K "Engine") "kept_cells" := W.noat 103
  have na_Member_left_rows : NoAttr K (He.ga K "Member") "left_rows" := W.noat 92
  have na_Member_number : NoAttr K (He.ga K "Member") "number" := W.noat 90
  have hac := ha.c
  have hz : (oth ms a).length ≤ 60 := by
    unfold oth
    rw [List.length_map]
    exact Nat.le_trans (List.length_filter_le _ _) hms.z
  have hob : ∀ t ∈ oth ms a, TS.Bd (2 ^ 60) [t.1, t.2.1, t.2.2] := fun t ht => by
    obtain ⟨b, hb, e⟩ := List.mem_map.mp ht
    rw [← e]
    exact hbd b (List.mem_filter.mp hb).1
  repeat walk_at "rc step"
  refine c_Engine_others hE hms ha ?_
  rw [oth_D]
  repeat walk_at "rc step"
  refine ra_sortT .d (by omega) hob fun ys0 hp0 hs0 => ?_
  have hl0 : ys0.length ≤ 60 := by rw [hp0.length_eq]; exact hz
  repeat walk_at "rc step"
  rw [len_pos]
  rcases hor with ⟨ne, hab, hF⟩ | ⟨ie, hfit, hall, hF⟩
  · rw [ne]
    repeat walk_at "rc step"
    rw [begV_ne ne]
    refine ro_cat .d .d (by rw [List.length_map]; simp; omega) ?_
    repeat walk_at "rc step"
    have e1 : ys0.map triD ++ [triD (begI a, need, a.no)] = (ys0 ++ [(begI a, need, a.no)]).map triD := by simp
    show RS _ _ _ _ [_, _, .l (ys0.map triD ++ [triD (begI a, need, a.no)])] _ _
    rw [e1]
    have pp : (ys0 ++ [(begI a, need, a.no)]).Perm (oth ms a ++ [(begI a, need, a.no)]) := hp0.append_right _
    refine c_Engine_lot_of hE .d ⟨by simp; omega, fun t ht => ?_⟩ fun ys hp hs => hF ys (hp.trans pp) hs
    rcases List.mem_append.mp (pp.mem_iff.mp ht) with z | z
    · exact hob t z
    · rw [List.mem_singleton.mp z]; exact hab
  · rw [ie]
    obtain ⟨h0, hsum⟩ := hall ys0 hp0 hs0
    repeat walk_at "rc step"
    refine ⟨fun h => ?_, fun _ => ?_⟩
    · have := of_decide_eq_true h
      omega
    repeat walk_at "rc step"
    refine c_Engine_lot_of hE .d ⟨by omega, fun t ht => hob t (hp0.mem_iff.mp ht)⟩ fun ys hp hs => ?_
    rw [(hall ys (hp.trans hp0) hs).1]
    repeat walk_at "rc step"
    refine sx_while (fun m g' R' => g' = [some (.v (.ref e)), some (.v (.ref a.a)), some (.v (.int c)), some (.v (.int need)), some (.l (ys0.map triD)), some (.v (.int 0)), none, none, none] ∧ R' = R) 0 ⟨rfl, rfl⟩ fun m g' R' hI => ?_
    obtain ⟨rfl, rfl⟩ := hI
    repeat walk_at "rc step"
    refine em_lcI (em_slL ?_)
    repeat walk_at "rc step"
    refine eo_some ?_
    repeat walk_at "rc step"
    refine eo_none ?_
    refine ⟨_, .d, ?_⟩
    rw [cut_all]
    refine ⟨_, ys0, triD, fun t => some (.v (.int t.2.1)), .d, by omega, fun t ht H1 Rx hs => ?_, ?_⟩
    · unfold triD
      repeat walk_at "rc step"
    repeat walk_at "rc step"
    refine ra_sum (ns := ys0.map fun t => t.2.1) ?_ ?_
    · rw [fm_some, List.map_map]
      exact .d
    repeat walk_at "rc step"
    refine ⟨fun h => ?_, fun _ => ?_⟩
    · have := of_decide_eq_true h
      omega
    repeat walk_at "rc step"
    refine em_lcI (em_slL ?_)
    repeat walk_at "rc step"
    refine eo_none ?_
    refine eo_some ?_
    repeat walk_at "rc step"
    refine ⟨_, .d, ?_⟩
    have ec : cutD (ys0.map triD) none (some (0 : Int)) = [] := cut_take (n := 0)
    rw [ec]
    refine ⟨Nat, [], fun _ => .t [], fun _ => none, .d, Nat.zero_le _, fun x hx => absurd hx (by simp), ?_⟩
    repeat walk_at "rc step"
    exact ra_tupL .d hF
end
end Rc
-- X
set_option Elab.async false
set_option linter.all false
set_option maxRecDepth 100000
set_option maxHeartbeats 4000000
/-! RcX: the error Full, raised with its lot. -/
namespace Rc
open PySem PySem.Spec PyProof.Rows L2 RcHead
theorem oex_of {K : PySem.W.Frag} {C : Addr} (h : oexB K C = true) : ∃ nm q N bs bm sn sub ab col dd k0 k1 k2 k3 k5, K.lookup C = some (excClassObj nm q C N bs bm true sn sub ab col dd k0 k1 k2 k3 k5 "ValueError.__new__") ∧ PySem.HandSPX.refsVE bm = true := by
  unfold oexB at h
  split at h
  case h_2 => cases h
  case h_1 c dd cd sl e =>
    obtain ⟨h1, h⟩ := He.ba h
    obtain ⟨h2, h⟩ := He.ba h
    obtain ⟨h3, h⟩ := He.ba h
    obtain ⟨h4, h⟩ := He.ba h
    obtain ⟨h5, h⟩ := He.ba h
    obtain ⟨h6, h7⟩ := He.ba h
    have e1 : c = "type" := of_decide_eq_true h1
    have e6 := of_decide_eq_true h6
    have e7 := of_decide_eq_true h7
    obtain ⟨nm, bs, mro, ns, q, hd, sn, sub, ab, col, hdl⟩ := cd
    cases mro with
    | nil => cases h2
    | cons m r =>
      have em : m = .ref C := by simpa using h2
      have ehd : hd = true := h4
      have edl : hdl = false := by simpa using h5
      obtain ⟨l⟩ := sl
      have e7' : l.length = 6 := by simpa using e7
      match l, e7', e6 with
      | [k0, k1, k2, k3, k4, k5], _, e6 =>
        have e4 : k4 = some (.builtin "ValueError.__new__") := by simpa using e6
        subst e1 em ehd edl e4
        exact ⟨nm, q, ns, bs, r, sn, sub, ab, col, dd, k0, k1, k2, k3, k5, e, h3⟩
section
variable [Tbl] {w : World} {K : PySem.W.Frag} {mg : Str → Option Value} {base : Heap}
theorem Wd.full (W : Wd w K mg base) : OexC K (He.ga K "Full") ∧ XfC K (He.ga K "Full") ∧ PySem.W.findIn K (.ref (He.ga K "Full")) "__init__" = some (some (.ref (He.ma K (He.ga K "Full") "__init__"))) ∧ PySem.W.typeIn K (.ref (He.ma K (He.ga K "Full") "__init__")) = some (.type "function") := by
  have h := (He.ba W.more).1
  unfold exF at h
  obtain ⟨h1, h⟩ := He.ba h
  obtain ⟨h2, h⟩ := He.ba h
  obtain ⟨h3, h⟩ := He.ba h
  obtain ⟨h4, h⟩ := He.ba h
  obtain ⟨h5, h⟩ := He.ba h
  obtain ⟨h6, h⟩ := He.ba h
  obtain ⟨h7, h8⟩ := He.ba h
  exact ⟨⟨oex_of h1, He.eqO_ok h5, of_decide_eq_true h3, of_decide_eq_true h4, h2⟩, xfB_ok h6, of_decide_eq_true h7, of_decide_eq_true h8⟩
theorem Wd.two (W : Wd w K mg base) : (He.cT K ("Engine", some "by_age")).2 ≠ (He.cT K ("_law_full", none)).2 := of_decide_eq_true (He.ba (He.ba W.more).2).1
theorem Wd.std (W : Wd w K mg base) : PySem.W.findIn K (.ref (He.ga K "Standing")) "__class__" = some (some (.builtin "object.__class__")) ∧ PySem.W.specialIn K (.builtin "object.__class__") "__get__" = some (some (.builtin "getset_descriptor.__get__")) ∧
    PySem.W.takesIn K (.builtin "object.__class__") = some true ∧ PySem.W.mroIn K (He.ga K "Standing") (.type "object") = some true ∧ PySem.W.kitOne K (.ref (He.ga K "Standing")) (.ref (He.ga K "Standing")) = some true := by
  have h := (He.ba (He.ba W.more).2).2
  unfold exS at h
  obtain ⟨h1, h⟩ := He.ba h
  obtain ⟨h2, h⟩ := He.ba h
  obtain ⟨h3, h⟩ := He.ba h
  obtain ⟨h4, h5⟩ := He.ba h
  exact ⟨of_decide_eq_true h1, of_decide_eq_true h2, of_decide_eq_true h3, of_decide_eq_true h4, of_decide_eq_true h5⟩
end
/-- Full.__init__ -/
def spFull (C : Addr) : Sp := fun vs H Q _ => ∃ a v, vs = [.ref a, v] ∧ H a = some (exo a C none) ∧ ∀ dx, H dx = none → dx ≠ a → Q .non (upd (upd H dx (exd dx [("lot", v)])) a (exo a C (some dx)))
def tRz (C : Addr) (ta : TA) (E : XK) : TS := fun _ σ H => tMkO C (spFull C) [] ta σ H fun cls d H' => E cls d H'
theorem sx_rz [Tbl] {H0 : Hp} {R0 R : Rg} {C : Addr} {te : TE} {E : XK} {g : Ev} {Es0 : Es} {W : D → Rg → Prop} (hx : XOk H0 R0 C E W) (h : EM H0 R0 te g R W) : SX H0 R0 (tRz C (tCons te tNil) E) g R Es0 := fun σ H D t e hH k =>
  h σ H t e hH _ fun d R1 v H1 kw t1 hH1 r1 => ⟨show [v].length ≤ 1000 from (by decide : 1 ≤ 1000), fun a ha => ⟨a, v, rfl, upd_same, fun dx hdx hne => ⟨rfl, dx, [("lot", v)], upd_same, (upd_ne hne).trans upd_same, by
    have z : upd H1 a (exo a C none) dx = H1 dx := upd_ne hne
    rw [← z]; exact hdx, by
    have z : H1 dx = none := by
      have z : upd H1 a (exo a C none) dx = H1 dx := upd_ne hne
      rw [← z]; exact hdx
    have ex : ∀ b o, H1 b = some o → upd (del (upd (upd (upd H1 a (exo a C none)) dx (exd dx [("lot", v)])) a (exo a C (some dx))) a) dx (.xd [("lot", v)]) b = some o := fun b o hb => by
      have n1 : b ≠ dx := fun q => by rw [q, z] at hb; cases hb
      have n2 : b ≠ a := fun q => by rw [q, ha] at hb; cases hb
      rw [upd_ne n1, del_ne n2, upd_ne n2, upd_ne n1, upd_ne n2]
      exact hb
    exact hx d R1 _ dx v kw ((t.trans t1).trans (Tn.ex ex)) (hH1.ex ex) upd_same (r1.mono fun b o n q _ => ⟨n, ex b o q⟩)⟩⟩⟩
section
variable [Tbl] {P : Program} {w : World} {K : PySem.W.Frag} {mg : Str → Option Value} {base : Heap}
theorem sc_Full_init : FnScope ["self", "lot"] ["self", "lot"] (defScope (inClass (top 9) 0)) := ⟨rfl, rfl, rfl, by decide +kernel, rfl, by decide +kernel, by decide +kernel⟩
theorem b_Full_init (W : Wd w K mg base) : Binds K (fdO K (He.fAd K ("Full", some "__init__"))) ["self", "lot"] [] := (W.F 79).bindsN fun _ _ _ _ _ _ us hl => match us, hl with | [_, _], _ => rfl
theorem ok_Full_init (W : Wd w K mg base) : FnOk P w K mg base CX0 1 (He.fAd K ("Full", some "__init__")) (fdO K (He.fAd K ("Full", some "__init__"))) ["self", "lot"] (spFull (He.ga K "Full")) := by
  refine (W.F 79).ok sc_Full_init ?_ (fun cdv A outer s H vs Q E hr h => ?_)
  · rintro vs H Q E ⟨a, v, rfl, _⟩
    rfl
  refine ⟨_, PSs.nox (pss_one (ps_ost (pv 0) (pv 1))), ?_⟩
  obtain ⟨a, v, rfl, ha, hq⟩ := h
  exact ⟨v, rfl, .ref a, rfl, a, He.ga K "Full", rfl, W.full.1, W.noat 143, .inl ⟨ha, fun dx h1 h2 => hq dx h1 h2⟩⟩
theorem ps_rz (W : Wd w K mg base) {X : Cx} {E : XK} {e : Expr} {te : TE} {p pos pos2 : Pos} (hP : X.prog = P) (hw : X.w = w) (hK : X.K = K) (hM : X.mg = mg) (hB : X.base = base) (hc : X.calm = true) (tk : Takes X (fun cls d _ H => E cls d H)) (hr : Room 2 X.A) (hg : Gl X "Full") (he : PE X e te)
    (h1 : starEach (e :: []) X.env = (false, eval e X.env) :: starEach [] X.env := by rfl) (h2 : (backTo pos (starEach [] X.env)).any (·.1) = false := by rfl) : PS X (.Raise (some (.Call (.Name "Full" p) [e] [] pos)) none pos2) (tRz (He.ga K "Full") (tCons te tNil) E) := by
  subst hP hw hK hM hB
  exact ps_raise hc tk (pmk_oex W.full.1 W.full.2.2.1 W.full.2.2.2 (ok_Full_init W) hr (b_Full_init W) .nil pass0 hg (W.glo 46) (pa_cons he pa_nil h1) (by decide) h1 h2)
end
end Rc
-- G9
set_option Elab.async false
set_option linter.all false
set_option maxRecDepth 100000
set_option maxHeartbeats 4000000
namespace Rc
open PySem PySem.Spec PyProof.Rows L2 RcHead
local macro_rules | `(tactic| walk_at "rc mem") => `(tactic| first | assumption | exact List.mem_cons_self | ((with_reducible (refine List.mem_cons_of_mem _ ?_)); walk_at "rc mem"))
local macro_rules | `(tactic| walk_at "rc end") => `(tactic| fail)
local macro_rules | `(tactic| walk_at "rc lst") => `(tactic| with_reducible refine em_lst ?_)
local macro_rules | `(tactic| walk_at "rc call") => `(tactic| fail)
local macro_rules | `(tactic| walk_at "rc step") => `(tactic| first
  | ((with_reducible (apply em_var)); rfl)
  | with_reducible refine em_c ?_
  | with_reducible refine em_op ?_
  | with_reducible refine ro_I0 ?_
  | ((with_reducible (refine ro_eq ?_ ?_)); rfl)
  | ((with_reducible (refine ro_ne ?_ ?_)); rfl)
  | with_reducible refine ro_isN ?_
  | with_reducible refine ro_notN ?_
  | with_reducible refine ea_nil ?_
  | with_reducible refine ea_cons ?_
  | with_reducible refine em_call ?_
  | walk_at "rc call"
  | (with_reducible refine em_fld ?_)
  | (refine ⟨_, _, _, _, rfl, (by walk_at "rc mem"), (by assumption), (by assumption), (by rfl), ?_⟩)
  | with_reducible refine ra_listV ?_
  | with_reducible refine em_cb ?_
  | with_reducible refine em_tup ?_
  | walk_at "rc lst"
  | with_reducible refine em_if ?_
  | with_reducible refine em_andV ?_
  | with_reducible refine em_orV ?_
  | with_reducible refine em_notV ?_
  | with_reducible refine em_chain ?_
  | with_reducible refine et_test ?_
  | with_reducible refine et_B ?_
  | with_reducible refine et_and ?_
  | with_reducible refine et_or ?_
  | with_reducible refine et_not ?_
  | with_reducible refine et_yes ?_
  | with_reducible refine sx_seq ?_
  | with_reducible refine sx_next ?_
  | with_reducible refine sx_asg ?_
  | with_reducible refine sx_ret ?_
  | with_reducible refine sx_append ?_
  | with_reducible refine sx_drop ?_
  | with_reducible refine sx_if ?_
  | (refine ⟨_, rfl, ?_⟩)
  | (refine ⟨fun _ => ?_, fun z => Bool.noConfusion z⟩)
  | (refine ⟨fun z => Bool.noConfusion z, fun _ => ?_⟩)
  | with_reducible refine em_make ?_
  | with_reducible refine em_meth ?_
  | (refine ⟨_, _, rfl, (by walk_at "rc mem"), rfl, ?_⟩)
  | with_reducible refine em_neg ?_
  | with_reducible refine sx_fld ?_
  | (refine ⟨_, _, _, 0, rfl, rfl, (by assumption), (by assumption), (of_decide_eq_true rfl), ?_⟩)
  | ((with_reducible (apply ra_len)); (first | exact .l .d | exact .t | exact .l (.c (by walk_at "rc mem"))))
  | ((with_reducible (apply ra_lenK)); (walk_at "rc mem"))
  | ((with_reducible (apply ro_ixL)); (first | exact .d | exact .c (by walk_at "rc mem")); (first | rfl | exact atI_0))
  | ((with_reducible (apply ro_ixT)); rfl)
  | (with_reducible (refine gx_name ?_ (by decide)))
  | ((with_reducible (apply gx_tupR)); rfl)
  | with_reducible refine gxs_cons ?_
  | with_reducible refine gxs_nil ?_
  | (exact ⟨rfl, rfl⟩)
  | (refine ⟨rfl, ?_⟩)
  | with_reducible refine em_dget ?_
  | with_reducible refine sx_lockAsg ?_
  | with_reducible refine em_din ?_
  | with_reducible refine em_dnotIn ?_
  | ((with_reducible (apply sx_aug)); rfl)
  | with_reducible refine sx_setL ?_
  | with_reducible refine sx_dput ?_
  | with_reducible refine gx_fld ?_
  | (with_reducible (apply sx_fldAug))
  | ((with_reducible (apply sx_rz)); assumption)
  | (refine ⟨(by simp only [List.length_cons, List.length_nil]; omega), ?_⟩))
section
variable [Tbl] {P : Program} {w : World} {K : PySem.W.Frag} {mg : Str → Option Value} {base : Heap}
local macro_rules | `(tactic| walk_at "rc call") => `(tactic| first | with_reducible refine c_is_within ?_ | ((with_reducible (apply c_Engine_check_up)); (walk_at "rc mem")) | ((with_reducible (apply c_Member_undoing)); assumption) | ((with_reducible (apply c_Member_begin)); assumption))
theorem sc_Engine_ask : FnScope ["self", "lot"] ["self", "lot"] (defScope (inClass (top 50) 16)) := ⟨rfl, rfl, rfl, by decide +kernel, rfl, by decide +kernel, by decide +kernel⟩
theorem kp_Engine_ask (W : Wd w K mg base) : PySem.W.keepIn K (.ref (He.fAd K ("Engine", some "ask"))) = true := W.kp 63
theorem b_Engine_ask (W : Wd w K mg base) : Binds K (fdO K (He.fAd K ("Engine", some "ask"))) ["self", "lot"] [] := (W.F 63).bindsN fun _ _ _ _ _ _ us hl => match us, hl with | [_, _], _ => rfl
def gm_Engine_ask [Tbl] (K : PySem.W.Frag) : Gx := fun ds R F Wx => ∃ (e : Addr) (l : List D), ds = [.v (.ref e), .t l] ∧ K = K ∧ (l = [] → F (.v .non) R) ∧ (l ≠ [] → Wx (.t l) R)
abbrev sp_Engine_ask [Tbl] (K : PySem.W.Frag) : Sp := spX (He.ga K "Full") (gm_Engine_ask K)
theorem c_Engine_ask [Tbl] {K : PySem.W.Frag} {H0 : Hp} {R0 R : Rg} {Ex : XK} {F : D → Rg → Prop} {Wx : D → Rg → Prop} (hx : XOk H0 R0 (He.ga K "Full") Ex Wx) {e : Addr} {l : List D} (k1 : l = [] → F (.v .non) R) (k2 : l ≠ [] → Wx (.t l) R) : RS H0 R0 (sp_Engine_ask K) Ex [.v (.ref e), .t l] R F := rs_X (List.Perm.refl _) ⟨e, l, rfl, rfl, k1, k2⟩ hx
theorem ok_Engine_ask (W : Wd w K mg base) : FnOk P w K mg base (L2.CX P w) 3 (He.fAd K ("Engine", some "ask")) (fdO K (He.fAd K ("Engine", some "ask"))) ["self", "lot"] (sp_Engine_ask K) := by
  refine (W.F 63).ok sc_Engine_ask ?_ (fun cdv A outer s H vs Q E hr h => ?_)
  · exact lenX fun ds R F Wx h => by obtain ⟨e, l, rfl, _, hF, hW⟩ := h; rfl
  have hu64 := hr.units
  have hu := Nat.lt_of_le_of_lt (Nat.add_le_add_left (show 1 ≤ 64 by decide) _) hu64
  refine ⟨_, (pss_one (ps_if (pt_cmpR op_gt (pe_callB (lenK (K := K) rfl) rfl (W.free 49) (by decide +kernel) (pa_cons (pv 1) pa_nil)) pe_int (nomark _))
    (pss_one (ps_rz W rfl rfl rfl rfl rfl rfl (takes_of rfl rfl rfl rfl) (hr.mono (by decide)) rfl (pv 1)))
    pss_nil)), entryX h ?_⟩
  clear h hu hu64 hr
  rintro ds R F Wx ⟨e, l, rfl, _, hF, hW⟩ hx
  cases l with
  | nil =>
    repeat walk_at "rc step"
    exact hF rfl
  | cons x r =>
    repeat walk_at "rc step"
    refine ⟨fun _ => ?_, fun z => ?_⟩
    · refine sx_rz hx ?_
      repeat walk_at "rc step"
      exact hW (by simp)
    · have z' := of_decide_eq_false z
      exact absurd z' (by simp)
theorem core_perm {K : PySem.W.Frag} {e : Addr} {E : En} {n : Nat} {home pool : Nat → Int} {dd : List (Int × Int)} {rs : List Addr} {rest : Rg} (X : Rg) : (X ++ core K e E n home pool dd rs rest).Perm (core K e E n home pool dd rs (X ++ rest)) := by
  have h : ∀ (five : Rg), (X ++ (five ++ rest)).Perm (five ++ (X ++ rest)) := fun five => by
    rw [← List.append_assoc, ← List.append_assoc]
    exact List.perm_append_comm.append_right _
  exact h [_, _, _, _, _]
local macro_rules | `(tactic| walk_at "rc lst") => `(tactic| with_reducible refine em_lstC ?_)
theorem sc_Engine_carry : FnScope ["self", "deed", "member", "cells", "rows", "left", "row"] ["self", "deed"] (defScope (inClass (top 50) 27)) := ⟨rfl, rfl, rfl, by decide +kernel, rfl, by decide +kernel, by decide +kernel⟩
theorem kp_Engine_carry (W : Wd w K mg base) : PySem.W.keepIn K (.ref (He.fAd K ("Engine", some "carry"))) = true := W.kp 72
theorem b_Engine_carry (W : Wd w K mg base) : Binds K (fdO K (He.fAd K ("Engine", some "carry"))) ["self", "deed"] [] := (W.F 72).bindsN fun _ _ _ _ _ _ us hl => match us, hl with | [_, _], _ => rfl
def gm_Engine_carry [Tbl] (K : PySem.W.Frag) : Gx := fun ds R F Wx => ∃ (e : Addr) (E : En) (n : Nat) (home pool : Nat → Int) (dd : List (Int × Int)) (rs : List Addr) (rest : Rg) (ms : List Mb) (bd : Nat → Option Int) (no ends : Int) (ba ra : Addr) (r : Rw) (p : Nat), ds = [.v (.ref e), .v (.int no)] ∧ R = core K e E n home pool dd rs ((ba, .i (He.ga K "Member") (mbFs ⟨no, ends, ba, [(ra, r)]⟩)) :: rest) ∧
  (MsIn K E ms ((ba, .i (He.ga K "Member") (mbFs ⟨no, ends, ba, [(ra, r)]⟩)) :: rest) ∧ (⟨no, ends, ba, [(ra, r)]⟩ : Mb) ∈ ms ∧ RsIn K rs ((ba, .i (He.ga K "Member") (mbFs ⟨no, ends, ba, [(ra, r)]⟩)) :: rest) ∧ rs.length ≤ 80000 ∧ DOk n dd bd ∧ n ≤ 60 ∧ r.page = p ∧ p < n ∧ 0 < r.undo ∧ (∀ b ∈ ms, TS.Bd (2 ^ 60) [begI b, und b, b.no])) ∧
  (∀ ys : List (Int × Int × Int), ys.Perm (oth ms ⟨no, ends, ba, [(ra, r)]⟩ ++ [(r.place, r.undo, no)]) → ys.Pairwise (fun x y => x.1 ≤ y.1) →
    (hvN E.cells (E.head + r.undo) (ys.map two) = 0 → ∀ A rs' dd' a2, RsIn K rs' ((a2, .i (He.ga K "LogRow") (rwFs ⟨"kept", no, r.page, r.before, r.behind, r.undo, 0, E.head, r.undo⟩)) :: (ba, .i (He.ga K "Member") (mbFs ⟨no, ends, ba, [(ra, r)]⟩)) :: rest) → rs'.length ≤ rs.length + 1 → DOk n dd' (fun k => brO (E.head + r.undo - E.cells) (bd k)) →
      F (.v .non) (core K e { E with rowsA := A, head := E.head + r.undo } n (brH (E.head + r.undo - E.cells) bd pool home) pool dd' rs' ((a2, .i (He.ga K "LogRow") (rwFs ⟨"kept", no, r.page, r.before, r.behind, r.undo, 0, E.head, r.undo⟩)) :: (ba, .i (He.ga K "Member") (mbFs ⟨no, ends, ba, [(a2, ⟨"kept", no, r.page, r.before, r.behind, r.undo, 0, E.head, r.undo⟩)]⟩)) :: rest))) ∧
    (hvN E.cells (E.head + r.undo) (ys.map two) ≠ 0 → Wx (.t ((ys.take (hvN E.cells (E.head + r.undo) (ys.map two))).map fun t => .v (.int t.2.2))) R))
abbrev sp_Engine_carry [Tbl] (K : PySem.W.Frag) : Sp := spX (He.ga K "Full") (gm_Engine_carry K)
theorem ok_Engine_carry (W : Wd w K mg base) : FnOk P w K mg base (L2.CX P w) 10 (He.fAd K ("Engine", some "carry")) (fdO K (He.fAd K ("Engine", some "carry"))) ["self", "deed"] (sp_Engine_carry K) := by
  refine (W.F 72).ok sc_Engine_carry ?_ (fun cdv A outer s H vs Q E hr h => ?_)
  · exact lenX fun ds R F Wx h => by obtain ⟨e, E, n, home, pool, dd, rs, rest, ms, bd, no, ends, ba, ra, r, p, rfl, rfl, ⟨hms, hm, hrs, hz, hd, hn, hpg, hp, hu0, hbd⟩, hF⟩ := h; rfl
  have hu64 := hr.units
  have hu := Nat.lt_of_le_of_lt (Nat.add_le_add_left (show 1 ≤ 64 by decide) _) hu64
  refine ⟨_, (pss_cons (ps_set (i := 2) sc_Engine_carry.nd rfl (.inl rfl) (pe_meth (pv 0) (W.cls 101) (W.meth 114) (ok_Engine_member (K := K) W) (hr.mono (by decide)) (b_Engine_member W) .nil pass0 (pa_cons (pv 1) pa_nil)))
    (pss_cons (ps_set (i := 3) sc_Engine_carry.nd rfl (.inl rfl) (pe_meth0 (pv 2) (W.cls 88) (W.meth 93) (ok_Member_undoing (K := K) W) (hr.mono (by decide)) (b_Member_undoing W) .nil pass0))
    (pss_cons (ps_if (pt_cmpR op_gt (pv 3) pe_int (nomark _))
    (pss_one (ps_expr (pe_meth (pv 0) (W.cls 101) (W.meth 127) (ok_Engine_ask (K := K) W) (hr.mono (by decide)) (b_Engine_ask W) .nil (passes_call (takes_of rfl rfl rfl rfl) fun _ _ _ _ z => z) (pa_cons (pe_meth (pv 0) (W.cls 101) (W.meth 124) (ok_Engine_lot_for (K := K) W) (hr.mono (by decide)) (b_Engine_lot_for W) .nil pass0 (pa_cons (pv 2) (pa_cons (pv 3) (pa_cons (pv 3) pa_nil)))) pa_nil))))
    pss_nil)
    (pss_cons (ps_set (i := 4) sc_Engine_carry.nd rfl (.inl rfl) (pe_lst pa_nil))
    (pss_cons (ps_for (passes_of rfl) rfl (ienumK (K := K) rfl rfl (W.free 57) (pa_cons (revK (K := K) rfl (fldK (K := K) rfl (pv 2) rfl)) pa_nil)) (gtupK (K := K) (n := 2) rfl rfl (pgs_cons (pg_name (i := 5) sc_Engine_carry.nd rfl (.inl rfl)) (pgs_cons (pg_name (i := 6) sc_Engine_carry.nd rfl (.inl rfl)) pgs_nil)))
    (pss_one (ps_expr (appK (K := K) rfl (pv 4) (pe_make (W.mkr 78) (ok_LogRow_init (K := K) W) (hr.mono (by decide)) rfl (W.glo 42) (b_LogRow_init W) .nil pass0 (pa_cons (pe_str_g rfl (W.str 76)) (pa_cons (pv 1) (pa_cons (fldK (K := K) rfl (pv 6) rfl) (pa_cons (fldK (K := K) rfl (pv 6) rfl) (pa_cons (fldK (K := K) rfl (pv 6) rfl) (pa_cons (fldK (K := K) rfl (pv 6) rfl) (pa_cons (pv 5) pa_nil))))))))))))
    (pss_cons (ps_for (passes_of rfl) rfl (ilistK (K := K) rfl (revK (K := K) rfl (pv 4))) (pg_name (i := 6) sc_Engine_carry.nd rfl (.inl rfl))
    (pss_one (ps_expr (pe_meth (pv 0) (W.cls 101) (W.meth 121) (ok_Engine_put (K := K) W) (hr.mono (by decide)) (b_Engine_put W) .nil pass0 (pa_cons (pv 6) (pa_cons (fldK (K := K) rfl (pv 6) rfl) pa_nil))))))
    (pss_one (sfldK (K := K) rfl (pv 2) (revK (K := K) rfl (pv 4)) rfl)))))))), entryX h ?_⟩
  clear h hu hu64 hr
  rintro ds R F Wx ⟨e, E, n, home, pool, dd, rs, rest, ms, bd, no, ends, ba, ra, r, p, rfl, rfl, ⟨hms, hm, hrs, hz, hd, hn, hpg, hp, hu0, hbd⟩, hF⟩ hx
  have cl_LogRow : Cls K (He.ga K "LogRow") := W.cls 77
  have cl_Member : Cls K (He.ga K "Member") := W.cls 88
  have na_Member_left_rows : NoAttr K (He.ga K "Member") "left_rows" := W.noat 92
  have na_LogRow_undo : NoAttr K (He.ga K "LogRow") "undo" := W.noat 84
  have na_LogRow_page : NoAttr K (He.ga K "LogRow") "page" := W.noat 81
  have na_LogRow_before : NoAttr K (He.ga K "LogRow") "before" := W.noat 82
  have na_LogRow_behind : NoAttr K (He.ga K "LogRow") "behind" := W.noat 83
  have hms5 : MsIn K E ms (core K e E n home pool dd rs ((ba, .i (He.ga K "Member") (mbFs ⟨no, ends, ba, [(ra, r)]⟩)) :: rest)) := hms.sub sub5
  have hmb := hms5.b _ hm
  have hmc : (ba, RC.i (He.ga K "Member") (mbFs ⟨no, ends, ba, [(ra, r)]⟩)) ∈ core K e E n home pool dd rs ((ba, .i (He.ga K "Member") (mbFs ⟨no, ends, ba, [(ra, r)]⟩)) :: rest) := hmb.c
  have hE : (e, RC.i (He.ga K "Engine") (enFs E)) ∈ core K e E n home pool dd rs ((ba, .i (He.ga K "Member") (mbFs ⟨no, ends, ba, [(ra, r)]⟩)) :: rest) := by unfold core; walk_at "rc mem"
  have eu : und ⟨no, ends, ba, [(ra, r)]⟩ = r.undo := by simp [und]
  repeat walk_at "rc step"
  refine c_Engine_member (b := ⟨no, ends, ba, [(ra, r)]⟩) hE hms5 hm ?_
  repeat walk_at "rc step"
  rw [eu]
  refine ⟨fun _ => ?_, fun z => absurd (of_decide_eq_false z) (by simpa using hu0)⟩
  repeat walk_at "rc step"
  refine c_Engine_lot_for hE hms5 hmb hbd (.inl ⟨rfl, by have := hbd _ hm; rw [eu] at this; exact this, fun ys hpp hss => ?_⟩)
  have hlp : 0 < ys.length := by rw [hpp.length_eq]; simp
  obtain ⟨h1, h2⟩ := hF ys hpp hss
  clear hF
  repeat walk_at "rc step"
  refine c_Engine_ask hx (fun el => ?_) (fun nl => ?_)
  case refine_2 =>
    refine h2 fun z => nl ?_
    have z' : hvN E.cells (E.head + r.undo) (ys.map two) = 0 := z
    show (ys.take (hvN E.cells (E.head + r.undo) (ys.map two))).map _ = []
    rw [z']
    rfl
  have hv0 : hvN E.cells (E.head + r.undo) (ys.map two) = 0 := by
    have el' : (ys.take (hvN E.cells (E.head + r.undo) (ys.map two))).map (fun t => D.v (.int t.2.2)) = [] := el
    cases c : hvN E.cells (E.head + r.undo) (ys.map two) with
    | zero => rfl
    | succ k =>
      rw [c] at el'
      cases ys with
      | nil => simp at hlp
      | cons y l => rw [List.take_succ_cons, List.map_cons] at el'; cases el'
  have hF := h1 hv0
  clear h1 h2
  refine sx_post ?_
  repeat walk_at "rc step"
  intro rw0
  repeat walk_at "rc step"
  have hmb2 : ∀ {x : Addr × RC}, MbIn K ⟨no, ends, ba, [(ra, r)]⟩ (x :: core K e E n home pool dd rs ((ba, .i (He.ga K "Member") (mbFs ⟨no, ends, ba, [(ra, r)]⟩)) :: rest)) := fun {x} => hmb.sub fun c h => List.mem_cons_of_mem _ h
  have hmc2 := fun (x : Addr × RC) => (hmb2 (x := x)).c
  have hmr2 := fun (x : Addr × RC) => (hmb2 (x := x)).r (ra, r) List.mem_cons_self
  refine sx_for [5, 6] (ei_enumD ?_)
  repeat walk_at "rc step"
  refine em_revL ?_
  have hmc3 := hmc2 (rw0, .l [])
  repeat walk_at "rc step"
  refine ⟨_, .d, ?_⟩
  repeat walk_at "rc step"
  have hmr3 := hmr2 (rw0, .l [])
  have hE3 : (e, RC.i (He.ga K "Engine") (enFs E)) ∈ (rw0, RC.l []) :: core K e E n home pool dd rs ((ba, .i (He.ga K "Member") (mbFs ⟨no, ends, ba, [(ra, r)]⟩)) :: rest) := List.mem_cons_of_mem _ hE
  refine ⟨fun i g' R' => (i = 0 ∧ (∃ o5 o6, g' = [some (.v (.ref e)), some (.v (.int no)), some (.v (.ref ba)), some (.v (.int r.undo)), some (.v (.ref rw0)), o5, o6]) ∧ R' = (rw0, .l []) :: core K e E n home pool dd rs ((ba, .i (He.ga K "Member") (mbFs ⟨no, ends, ba, [(ra, r)]⟩)) :: rest)) ∨
    (i = 1 ∧ ∃ a2, (∃ o5 o6, g' = [some (.v (.ref e)), some (.v (.int no)), some (.v (.ref ba)), some (.v (.int r.undo)), some (.v (.ref rw0)), o5, o6]) ∧ R' = (a2, .i (He.ga K "LogRow") (rwFs ⟨"kept", no, r.page, r.before, r.behind, r.undo, 0, 0, 0⟩)) :: (rw0, .l [.v (.ref a2)]) :: core K e E n home pool dd rs ((ba, .i (He.ga K "Member") (mbFs ⟨no, ends, ba, [(ra, r)]⟩)) :: rest)), 1, .inl ⟨rfl, ⟨none, none, rfl⟩, rfl⟩, ?_⟩
  rintro i g' R' (⟨rfl, ⟨o5, o6, rfl⟩, rfl⟩ | ⟨rfl, a2, ⟨o5, o6, rfl⟩, rfl⟩)
  · refine .inr ⟨Nat.zero_lt_one, .t [.v (.int (0 : Nat)), .v (.ref ra)], ⟨.v (.ref ra), rfl, rfl⟩, fun H1 => ?_⟩
    repeat walk_at "rc step"
    refine ⟨_, _, rfl, by walk_at "rc mem", by decide, ?_⟩
    repeat walk_at "rc step"
    intro a2
    refine c_LogRow_init ?_
    repeat walk_at "rc step"
    refine ⟨1, rfl, .inr ⟨rfl, a2, ⟨_, _, rfl⟩, rfl⟩⟩
  · refine .inl ⟨Nat.le_refl _, ?_⟩
    repeat walk_at "rc step"
    refine sx_for [6] (ei_listD (em_revL ?_))
    repeat walk_at "rc step"
    refine ⟨[.v (.ref a2)], .c (by walk_at "rc mem"), ?_⟩
    have hE4 : (e, RC.i (He.ga K "Engine") (enFs E)) ∈ (a2, RC.i (He.ga K "LogRow") (rwFs ⟨"kept", no, r.page, r.before, r.behind, r.undo, 0, 0, 0⟩)) :: (rw0, RC.l [.v (.ref a2)]) :: core K e E n home pool dd rs ((ba, .i (He.ga K "Member") (mbFs ⟨no, ends, ba, [(ra, r)]⟩)) :: rest) := List.mem_cons_of_mem _ (List.mem_cons_of_mem _ hE)
    refine ⟨_, rfl, fun i g' R' => (i = 0 ∧ (∃ o5 o6, g' = [some (.v (.ref e)), some (.v (.int no)), some (.v (.ref ba)), some (.v (.int r.undo)), some (.v (.ref rw0)), o5, o6]) ∧ R' = (a2, .i (He.ga K "LogRow") (rwFs ⟨"kept", no, r.page, r.before, r.behind, r.undo, 0, 0, 0⟩)) :: (rw0, .l [.v (.ref a2)]) :: core K e E n home pool dd rs ((ba, .i (He.ga K "Member") (mbFs ⟨no, ends, ba, [(ra, r)]⟩)) :: rest)) ∨
      (i = 1 ∧ ∃ A rs' dd', (∃ o5 o6, g' = [some (.v (.ref e)), some (.v (.int no)), some (.v (.ref ba)), some (.v (.int r.undo)), some (.v (.ref rw0)), o5, o6]) ∧ (RsIn K rs' ((a2, .i (He.ga K "LogRow") (rwFs ⟨"kept", no, r.page, r.before, r.behind, r.undo, 0, E.head, r.undo⟩)) :: (rw0, .l [.v (.ref a2)]) :: (ba, .i (He.ga K "Member") (mbFs ⟨no, ends, ba, [(ra, r)]⟩)) :: rest)) ∧ rs'.length ≤ rs.length + 1 ∧ DOk n dd' (fun k => brO (E.head + r.undo - E.cells) (bd k)) ∧
        R' = core K e { E with rowsA := A, head := E.head + r.undo } n (brH (E.head + r.undo - E.cells) bd pool home) pool dd' rs' ((a2, .i (He.ga K "LogRow") (rwFs ⟨"kept", no, r.page, r.before, r.behind, r.undo, 0, E.head, r.undo⟩)) :: (rw0, .l [.v (.ref a2)]) :: (ba, .i (He.ga K "Member") (mbFs ⟨no, ends, ba, [(ra, r)]⟩)) :: rest)), 1, .inl ⟨rfl, ⟨_, _, rfl⟩, rfl⟩, ?_⟩
    rintro i g' R' (⟨rfl, ⟨o5, o6, rfl⟩, rfl⟩ | ⟨rfl, A, rs', dd', ⟨o5, o6, rfl⟩, hr2, hl2, hd2, rfl⟩)
    · refine .inr ⟨Nat.zero_lt_one, .v (.ref a2), rfl, fun H1 => ?_⟩
      repeat walk_at "rc step"
      refine rs_perm (core_perm [_, _]) (c_Engine_put (ms := ms) (bd := bd) (p := p) (hms.sub fun c h => List.mem_cons_of_mem _ h) (fun a ha => let ⟨r2, h⟩ := hrs a ha; ⟨r2, List.mem_cons_of_mem _ h⟩) hz hd hn hpg hp fun A rs' dd' hr2 hl2 hd2 => ?_)
      have ew : wrB "kept" = false := by decide
      have ew2 : (⟨"kept", no, r.page, r.before, r.behind, r.undo, 0, 0, 0⟩ : Rw).kind = "kept" := rfl
      rw [ew2, ew, plD_f] at hd2
      rw [ew2, ew, plP_f]
      exact .inr ⟨rfl, A, rs', dd', ⟨_, _, rfl⟩, hr2, hl2, hd2, rfl⟩
    · refine .inl ⟨Nat.le_refl _, ?_⟩
      unfold core
      refine sx_fld ?_
      refine em_revL ?_
      repeat walk_at "rc step"
      refine ⟨[.v (.ref a2)], .c (by walk_at "rc mem"), ?_⟩
      repeat walk_at "rc step"
      refine ⟨_, _, _, 7, rfl, rfl, by assumption, by assumption, of_decide_eq_true rfl, ?_⟩
      simp only [List.set_cons_succ, List.set_cons_zero]
      refine ⟨_, [(rw0, .l [.v (.ref a2)])], List.perm_middle (l₁ := [_, _, _, _, _, _]), ?_⟩
      refine hF A rs' dd' a2 (fun x hx => ?_) hl2 hd2
      obtain ⟨r2, h2⟩ := hr2 x hx
      refine ⟨r2, ?_⟩
      rcases List.mem_cons.mp h2 with z | z
      · rw [z]; exact List.mem_cons_self
      · rcases List.mem_cons.mp z with z | z
        · cases z
        · exact List.mem_cons_of_mem _ z
end
end Rc
-- G10
set_option Elab.async false
set_option linter.all false
set_option maxRecDepth 100000
set_option maxHeartbeats 4000000
namespace Rc
open PySem PySem.Spec PyProof.Rows L2 RcHead
local macro_rules | `(tactic| walk_at "rc mem") => `(tactic| first | assumption | exact List.mem_cons_self | ((with_reducible (refine List.mem_cons_of_mem _ ?_)); walk_at "rc mem"))
local macro_rules | `(tactic| walk_at "rc end") => `(tactic| fail)
local macro_rules | `(tactic| walk_at "rc lst") => `(tactic| with_reducible refine em_lst ?_)
local macro_rules | `(tactic| walk_at "rc call") => `(tactic| fail)
local macro_rules | `(tactic| walk_at "rc step") => `(tactic| first
  | ((with_reducible (apply em_var)); rfl)
  | with_reducible refine em_c ?_
  | with_reducible refine em_op ?_
  | with_reducible refine ro_I0 ?_
  | ((with_reducible (refine ro_eq ?_ ?_)); rfl)
  | ((with_reducible (refine ro_ne ?_ ?_)); rfl)
  | with_reducible refine ro_isN ?_
  | with_reducible refine ro_notN ?_
  | with_reducible refine ea_nil ?_
  | with_reducible refine ea_cons ?_
  | with_reducible refine em_call ?_
  | walk_at "rc call"
  | (with_reducible refine em_fld ?_)
  | (refine ⟨_, _, _, _, rfl, (by walk_at "rc mem"), (by assumption), (by assumption), (by rfl), ?_⟩)
  | with_reducible refine ra_listV ?_
  | with_reducible refine em_cb ?_
  | with_reducible refine em_tup ?_
  | walk_at "rc lst"
  | with_reducible refine em_if ?_
  | with_reducible refine em_andV ?_
  | with_reducible refine em_orV ?_
  | with_reducible refine em_notV ?_
  | with_reducible refine em_chain ?_
  | with_reducible refine et_test ?_
  | with_reducible refine et_B ?_
  | with_reducible refine et_and ?_
  | with_reducible refine et_or ?_
  | with_reducible refine et_not ?_
  | with_reducible refine et_yes ?_
  | with_reducible refine sx_seq ?_
  | with_reducible refine sx_next ?_
  | with_reducible refine sx_asg ?_
  | with_reducible refine sx_ret ?_
  | with_reducible refine sx_append ?_
  | with_reducible refine sx_drop ?_
  | with_reducible refine sx_if ?_
  | (refine ⟨_, rfl, ?_⟩)
  | (refine ⟨fun _ => ?_, fun z => Bool.noConfusion z⟩)
  | (refine ⟨fun z => Bool.noConfusion z, fun _ => ?_⟩)
  | with_reducible refine em_make ?_
  | with_reducible refine em_meth ?_
  | (refine ⟨_, _, rfl, (by walk_at "rc mem"), rfl, ?_⟩)
  | with_reducible refine em_neg ?_
  | with_reducible refine sx_fld ?_
  | (refine ⟨_, _, _, 0, rfl, rfl, (by assumption), (by assumption), (of_decide_eq_true rfl), ?_⟩)
  | ((with_reducible (apply ra_len)); (first | exact .l .d | exact .t | exact .l (.c (by walk_at "rc mem"))))
  | ((with_reducible (apply ra_lenK)); (walk_at "rc mem"))
  | ((with_reducible (apply ro_ixL)); (first | exact .d | exact .c (by walk_at "rc mem")); (first | rfl | exact atI_0))
  | ((with_reducible (apply ro_ixT)); rfl)
  | (with_reducible (refine gx_name ?_ (by decide)))
  | ((with_reducible (apply gx_tupR)); rfl)
  | with_reducible refine gxs_cons ?_
  | with_reducible refine gxs_nil ?_
  | (exact ⟨rfl, rfl⟩)
  | (refine ⟨rfl, ?_⟩)
  | with_reducible refine em_dget ?_
  | with_reducible refine sx_lockAsg ?_
  | with_reducible refine em_din ?_
  | with_reducible refine em_dnotIn ?_
  | ((with_reducible (apply sx_aug)); rfl)
  | with_reducible refine sx_setL ?_
  | with_reducible refine sx_dput ?_
  | with_reducible refine gx_fld ?_
  | (with_reducible (apply sx_fldAug))
  | ((with_reducible (apply sx_rz)); assumption)
  | (refine ⟨(by simp only [List.length_cons, List.length_nil]; omega), ?_⟩))
section
variable [Tbl] {P : Program} {w : World} {K : PySem.W.Frag} {mg : Str → Option Value} {base : Heap}
local macro_rules | `(tactic| walk_at "rc call") => `(tactic| first | with_reducible refine c_is_within ?_ | ((with_reducible (apply c_Engine_check_up)); (walk_at "rc mem")) | ((with_reducible (apply c_Member_undoing)); assumption) | ((with_reducible (apply c_Member_begin)); assumption))
theorem dr_mem {ms : List Mb} {no : Int} : drK (vK (memK ms)) (.inl no) = vK (memK (ms.filter fun b => decide (b.no ≠ no))) := by
  induction ms with
  | nil => rfl
  | cons c r ih =>
    unfold drK vK memK at ih ⊢
    rw [List.map_cons, List.map_cons, List.filter_cons, List.filter_cons, ih]
    by_cases e : c.no = no
    · simp [e]
    · simp [e]
theorem sc_Engine_end : FnScope ["self", "deed", "member"] ["self", "deed"] (defScope (inClass (top 50) 24)) := ⟨rfl, rfl, rfl, by decide +kernel, rfl, by decide +kernel, by decide +kernel⟩
theorem kp_Engine_end (W : Wd w K mg base) : PySem.W.keepIn K (.ref (He.fAd K ("Engine", some "end"))) = true := W.kp 69
theorem b_Engine_end (W : Wd w K mg base) : Binds K (fdO K (He.fAd K ("Engine", some "end"))) ["self", "deed"] [] := (W.F 69).bindsN fun _ _ _ _ _ _ us hl => match us, hl with | [_, _], _ => rfl
def gm_Engine_end [Tbl] (K : PySem.W.Frag) : Gx := fun ds R F Wx => ∃ (e : Addr) (E : En) (n : Nat) (home pool : Nat → Int) (dd : List (Int × Int)) (rs : List Addr) (rest : Rg) (ms : List Mb) (bd : Nat → Option Int) (b : Mb), ds = [.v (.ref e), .v (.int b.no)] ∧ R = core K e E n home pool dd rs ((E.memA, .k (vK (memK ms))) :: rest) ∧
  (MsIn K E ms ((E.memA, .k (vK (memK ms))) :: rest) ∧ b ∈ ms ∧ RsIn K rs rest ∧ rs.length ≤ 80000 ∧ DOk n dd bd ∧ n ≤ 60 ∧ 0 < n ∧ (∀ b ∈ ms, TS.Bd (2 ^ 60) [begI b, und b, b.no])) ∧
  ((b.left.isEmpty = true ∧ F (.v .non) (core K e E n home pool dd rs ((E.memA, .k (vK (memK (ms.filter fun c => decide (c.no ≠ b.no))))) :: rest))) ∨
   (b.left.isEmpty = false ∧ ∀ ys : List (Int × Int × Int), ys.Perm (oth ms b ++ [(begI b, und b, b.no)]) → ys.Pairwise (fun x y => x.1 ≤ y.1) →
    (hvN E.cells (E.head + b.ends) (ys.map two) = 0 → ∀ A rs' dd' a2 row, RsIn K rs' ((a2, .i (He.ga K "LogRow") (rwFs row)) :: (E.memA, .k (vK (memK ms))) :: rest) → rs'.length ≤ rs.length + 1 → DOk n dd' (fun k => brO (E.head + b.ends - E.cells) (bd k)) →
      F (.v .non) (core K e { E with rowsA := A, head := E.head + b.ends } n (brH (E.head + b.ends - E.cells) bd pool home) pool dd' rs' ((a2, .i (He.ga K "LogRow") (rwFs row)) :: (E.memA, .k (vK (memK (ms.filter fun c => decide (c.no ≠ b.no))))) :: rest))) ∧
    (hvN E.cells (E.head + b.ends) (ys.map two) ≠ 0 → Wx (.t ((ys.take (hvN E.cells (E.head + b.ends) (ys.map two))).map fun t => .v (.int t.2.2))) R)))
abbrev sp_Engine_end [Tbl] (K : PySem.W.Frag) : Sp := spX (He.ga K "Full") (gm_Engine_end K)
theorem ok_Engine_end (W : Wd w K mg base) : FnOk P w K mg base (L2.CX P w) 10 (He.fAd K ("Engine", some "end")) (fdO K (He.fAd K ("Engine", some "end"))) ["self", "deed"] (sp_Engine_end K) := by
  refine (W.F 69).ok sc_Engine_end ?_ (fun cdv A outer s H vs Q E hr h => ?_)
  · exact lenX fun ds R F Wx h => by obtain ⟨e, E, n, home, pool, dd, rs, rest, ms, bd, b, rfl, rfl, ⟨hms, hm, hrs, hz, hd, hn, hn0, hbd⟩, hF⟩ := h; rfl
  have hu64 := hr.units
  have hu := Nat.lt_of_le_of_lt (Nat.add_le_add_left (show 1 ≤ 64 by decide) _) hu64
  refine ⟨_, (pss_cons (ps_set (i := 2) sc_Engine_end.nd rfl (.inl rfl) (pe_meth (pv 0) (W.cls 101) (W.meth 114) (ok_Engine_member (K := K) W) (hr.mono (by decide)) (b_Engine_member W) .nil pass0 (pa_cons (pv 1) pa_nil)))
    (pss_cons (ps_if (pt_cmpR op_gt (pe_callB (lenK (K := K) rfl) rfl (W.free 49) (by decide +kernel) (pa_cons (fldK (K := K) rfl (pv 2) rfl) pa_nil)) pe_int (nomark _))
    (pss_cons (ps_expr (pe_meth (pv 0) (W.cls 101) (W.meth 127) (ok_Engine_ask (K := K) W) (hr.mono (by decide)) (b_Engine_ask W) .nil (passes_call (takes_of rfl rfl rfl rfl) fun _ _ _ _ z => z) (pa_cons (pe_meth (pv 0) (W.cls 101) (W.meth 124) (ok_Engine_lot_for (K := K) W) (hr.mono (by decide)) (b_Engine_lot_for W) .nil pass0 (pa_cons (pv 2) (pa_cons (fldK (K := K) rfl (pv 2) rfl) (pa_cons (pe_meth0 (pv 2) (W.cls 88) (W.meth 93) (ok_Member_undoing (K := K) W) (hr.mono (by decide)) (b_Member_undoing W) .nil pass0) pa_nil)))) pa_nil)))
    (pss_one (ps_expr (pe_meth (pv 0) (W.cls 101) (W.meth 121) (ok_Engine_put (K := K) W) (hr.mono (by decide)) (b_Engine_put W) .nil pass0 (pa_cons (pe_make (W.mkr 78) (ok_LogRow_init (K := K) W) (hr.mono (by decide)) rfl (W.glo 42) (b_LogRow_init W) .nil pass0 (pa_cons (pe_str_g rfl (W.str 75)) (pa_cons (pv 1) (pa_cons pe_int (pa_cons pe_int (pa_cons pe_int (pa_cons pe_int (pa_cons pe_int pa_nil)))))))) (pa_cons (fldK (K := K) rfl (pv 2) rfl) pa_nil))))))
    pss_nil)
    (pss_one (ps_expr (pe_dpop1 (fldK (K := K) rfl (pv 0) rfl) (pv 1) ⟨rfl, rfl, rfl, rfl⟩))))), entryX h ?_⟩
  clear h hu hu64 hr
  rintro ds R F Wx ⟨e, E, n, home, pool, dd, rs, rest, ms, bd, b, rfl, rfl, ⟨hms, hm, hrs, hz, hd, hn, hn0, hbd⟩, hF⟩ hx
  have cl_Engine : Cls K (He.ga K "Engine") := W.cls 101
  have cl_Member : Cls K (He.ga K "Member") := W.cls 88
  have na_Member_left_rows : NoAttr K (He.ga K "Member") "left_rows" := W.noat 92
  have na_Member_end_cells : NoAttr K (He.ga K "Member") "end_cells" := W.noat 91
  have na_Engine_kept_members : NoAttr K (He.ga K "Engine") "kept_members" := W.noat 108
  have hms5 : MsIn K E ms (core K e E n home pool dd rs ((E.memA, .k (vK (memK ms))) :: rest)) := hms.sub sub5
  have hmb := hms5.b _ hm
  have hmc := hmb.c
  have lk := lk_mem hm (nd_srt hms.srt)
  have hE : (e, RC.i (He.ga K "Engine") (enFs E)) ∈ core K e E n home pool dd rs ((E.memA, .k (vK (memK ms))) :: rest) := by unfold core; walk_at "rc mem"
  repeat walk_at "rc step"
  refine c_Engine_member hE hms5 hm ?_
  repeat walk_at "rc step"
  rw [len_pos]
  rcases hF with ⟨ie, hF⟩ | ⟨ne, hF⟩
  · rw [ie]
    repeat walk_at "rc step"
    refine em_dpop1 ?_
    repeat walk_at "rc step"
    refine ⟨_, _, 5, rfl, rfl, ?_⟩
    repeat walk_at "rc step"
    refine ⟨.inl b.no, _, rfl, lk, ?_⟩
    rw [dr_mem]
    exact hF
  · rw [ne]
    repeat walk_at "rc step"
    refine c_Engine_lot_for hE hms5 hmb hbd (.inl ⟨ne, hbd _ hm, fun ys hpp hss => ?_⟩)
    have hlp : 0 < ys.length := by rw [hpp.length_eq]; simp
    obtain ⟨h1, h2⟩ := hF ys hpp hss
    clear hF
    repeat walk_at "rc step"
    refine c_Engine_ask hx (fun el => ?_) (fun nl => ?_)
    case refine_2 =>
      refine h2 fun z => nl ?_
      have z' : hvN E.cells (E.head + b.ends) (ys.map two) = 0 := z
      show (ys.take (hvN E.cells (E.head + b.ends) (ys.map two))).map _ = []
      rw [z']
      rfl
    have hv0 : hvN E.cells (E.head + b.ends) (ys.map two) = 0 := by
      have el' : (ys.take (hvN E.cells (E.head + b.ends) (ys.map two))).map (fun t => D.v (.int t.2.2)) = [] := el
      cases c : hvN E.cells (E.head + b.ends) (ys.map two) with
      | zero => rfl
      | succ k =>
        rw [c] at el'
        cases ys with
        | nil => simp at hlp
        | cons y l => rw [List.take_succ_cons, List.map_cons] at el'; cases el'
    have hF := h1 hv0
    clear h1 h2
    repeat walk_at "rc step"
    intro a2
    refine c_LogRow_init ?_
    have hmc2 : ∀ {x : Addr × RC}, (b.a, RC.i (He.ga K "Member") (mbFs b)) ∈ x :: core K e E n home pool dd rs ((E.memA, .k (vK (memK ms))) :: rest) := List.mem_cons_of_mem _ hmc
    have hmc3 := @hmc2 (a2, .i (He.ga K "LogRow") (rwFs ⟨"end", b.no, 0, 0, 0, 0, 0, 0, 0⟩))
    repeat walk_at "rc step"
    refine rs_perm (core_perm [_]) (c_Engine_put (ms := ms) (bd := bd) (p := 0) hms (fun a ha => let ⟨r2, h⟩ := hrs a ha; ⟨r2, List.mem_cons_of_mem _ h⟩) hz hd hn rfl hn0 fun A rs' dd' hr2 hl2 hd2 => ?_)
    have ew : wrB "end" = false := by decide
    have ew2 : (⟨"end", b.no, 0, 0, 0, 0, 0, 0, 0⟩ : Rw).kind = "end" := rfl
    rw [ew2, ew, plD_f] at hd2
    rw [ew2, ew, plP_f]
    unfold core
    repeat walk_at "rc step"
    refine em_dpop1 ?_
    repeat walk_at "rc step"
    refine ⟨_, _, 6, rfl, rfl, ?_⟩
    repeat walk_at "rc step"
    refine ⟨.inl b.no, _, rfl, lk, ?_⟩
    rw [dr_mem]
    exact hF A rs' dd' a2 _ hr2 hl2 hd2
theorem sc_Engine_undo_last : FnScope ["self", "member", "last"] ["self", "member"] (defScope (inClass (top 50) 22)) := ⟨rfl, rfl, rfl, by decide +kernel, rfl, by decide +kernel, by decide +kernel⟩
theorem kp_Engine_undo_last (W : Wd w K mg base) : PySem.W.keepIn K (.ref (He.fAd K ("Engine", some "undo_last"))) = true := W.kp 68
theorem b_Engine_undo_last (W : Wd w K mg base) : Binds K (fdO K (He.fAd K ("Engine", some "undo_last"))) ["self", "member"] [] := (W.F 68).bindsN fun _ _ _ _ _ _ us hl => match us, hl with | [_, _], _ => rfl
def gm_Engine_undo_last [Tbl] (K : PySem.W.Frag) : Gm := fun ds R F => ∃ (e : Addr) (E : En) (n : Nat) (home pool : Nat → Int) (dd : List (Int × Int)) (rs : List Addr) (rest : Rg) (ms : List Mb) (bd : Nat → Option Int) (no ends : Int) (ba ra : Addr) (r : Rw) (p : Nat), ds = [.v (.ref e), .v (.ref ba)] ∧ R = core K e E n home pool dd rs ((ba, .i (He.ga K "Member") (mbFs ⟨no, ends, ba, [(ra, r)]⟩)) :: rest) ∧
  (MsIn K E ms ((ba, .i (He.ga K "Member") (mbFs ⟨no, ends, ba, [(ra, r)]⟩)) :: rest) ∧ (⟨no, ends, ba, [(ra, r)]⟩ : Mb) ∈ ms ∧ RsIn K rs rest ∧ rs.length ≤ 80000 ∧ DOk n dd bd ∧ n ≤ 60 ∧ r.page = p ∧ p < n) ∧
  (∀ A rs' dd' a2 row, RsIn K rs' ((a2, .i (He.ga K "LogRow") (rwFs row)) :: rest) → rs'.length ≤ rs.length + 1 → DOk n dd' (plD true p E.head fun k => brO (E.head + r.undo - E.cells) (bd k)) →
      F (.v .non) (core K e { E with rowsA := A, head := E.head + r.undo } n (brH (E.head + r.undo - E.cells) bd pool home) (plP true p r.before pool) dd' rs' ((a2, .i (He.ga K "LogRow") (rwFs row)) :: (ba, .i (He.ga K "Member") (mbFs ⟨no, ends, ba, []⟩)) :: rest)))
abbrev sp_Engine_undo_last [Tbl] (K : PySem.W.Frag) : Sp := spM (gm_Engine_undo_last K)
theorem ok_Engine_undo_last (W : Wd w K mg base) : FnOk P w K mg base CX0 6 (He.fAd K ("Engine", some "undo_last")) (fdO K (He.fAd K ("Engine", some "undo_last"))) ["self", "member"] (sp_Engine_undo_last K) := by
  refine (W.F 68).ok sc_Engine_undo_last ?_ (fun cdv A outer s H vs Q E hr h => ?_)
  · exact lenM fun ds R F h => by obtain ⟨e, E, n, home, pool, dd, rs, rest, ms, bd, no, ends, ba, ra, r, p, rfl, rfl, ⟨hms, hm, hrs, hz, hd, hn, hpg, hp⟩, hF⟩ := h; rfl
  have hu64 := hr.units
  have hu := Nat.lt_of_le_of_lt (Nat.add_le_add_left (show 1 ≤ 64 by decide) _) hu64
  refine ⟨_, PSs.nox (pss_cons (ps_set (i := 2) sc_Engine_undo_last.nd rfl (.inl rfl) (pe_ix (ixlK (K := K) rfl) (fldK (K := K) rfl (pv 1) rfl) (pe_un un_neg pe_int) (fun _ _ => rfl)))
    (pss_cons (ps_expr (pe_meth (pv 0) (W.cls 101) (W.meth 121) (ok_Engine_put (K := K) W) (hr.mono (by decide)) (b_Engine_put W) .nil pass0 (pa_cons (pe_make (W.mkr 78) (ok_LogRow_init (K := K) W) (hr.mono (by decide)) rfl (W.glo 42) (b_LogRow_init W) .nil pass0 (pa_cons (pe_str_g rfl (W.str 74)) (pa_cons (fldK (K := K) rfl (pv 1) rfl) (pa_cons (fldK (K := K) rfl (pv 2) rfl) (pa_cons (fldK (K := K) rfl (pv 2) rfl) (pa_cons (fldK (K := K) rfl (pv 2) rfl) (pa_cons pe_int (pa_cons pe_int pa_nil)))))))) (pa_cons (fldK (K := K) rfl (pv 2) rfl) pa_nil))))
    (pss_one (sfldK (K := K) rfl (pv 1) (pe_slice (sllK (K := K) rfl) (fldK (K := K) rfl (pv 1) rfl) po_none (po_some (pe_un un_neg pe_int))) rfl)))), entryM h ?_⟩
  clear h hu hu64 hr
  rintro ds R F ⟨e, E, n, home, pool, dd, rs, rest, ms, bd, no, ends, ba, ra, r, p, rfl, rfl, ⟨hms, hm, hrs, hz, hd, hn, hpg, hp⟩, hF⟩
  have cl_LogRow : Cls K (He.ga K "LogRow") := W.cls 77
  have cl_Member : Cls K (He.ga K "Member") := W.cls 88
  have na_Member_left_rows : NoAttr K (He.ga K "Member") "left_rows" := W.noat 92
  have na_LogRow_undo : NoAttr K (He.ga K "LogRow") "undo" := W.noat 84
  have na_Member_number : NoAttr K (He.ga K "Member") "number" := W.noat 90
  have na_LogRow_page : NoAttr K (He.ga K "LogRow") "page" := W.noat 81
  have na_LogRow_behind : NoAttr K (He.ga K "LogRow") "behind" := W.noat 83
  have na_LogRow_before : NoAttr K (He.ga K "LogRow") "before" := W.noat 82
  have hms5 : MsIn K E ms (core K e E n home pool dd rs ((ba, .i (He.ga K "Member") (mbFs ⟨no, ends, ba, [(ra, r)]⟩)) :: rest)) := hms.sub sub5
  have hmb := hms5.b _ hm
  have hmc : (ba, RC.i (He.ga K "Member") (mbFs ⟨no, ends, ba, [(ra, r)]⟩)) ∈ core K e E n home pool dd rs ((ba, .i (He.ga K "Member") (mbFs ⟨no, ends, ba, [(ra, r)]⟩)) :: rest) := hmb.c
  have hmr : (ra, RC.i (He.ga K "LogRow") (rwFs r)) ∈ core K e E n home pool dd rs ((ba, .i (He.ga K "Member") (mbFs ⟨no, ends, ba, [(ra, r)]⟩)) :: rest) := hmb.r (ra, r) List.mem_cons_self
  have hE : (e, RC.i (He.ga K "Engine") (enFs E)) ∈ core K e E n home pool dd rs ((ba, .i (He.ga K "Member") (mbFs ⟨no, ends, ba, [(ra, r)]⟩)) :: rest) := by unfold core; walk_at "rc mem"
  repeat walk_at "rc step"
  intro a2
  refine c_LogRow_init ?_
  have hmr2 : ∀ {x : Addr × RC}, (ra, RC.i (He.ga K "LogRow") (rwFs r)) ∈ x :: core K e E n home pool dd rs ((ba, .i (He.ga K "Member") (mbFs ⟨no, ends, ba, [(ra, r)]⟩)) :: rest) := List.mem_cons_of_mem _ hmr
  have hmr3 := @hmr2 (a2, .i (He.ga K "LogRow") (rwFs ⟨"undo", no, r.page, r.behind, r.before, 0, 0, 0, 0⟩))
  repeat walk_at "rc step"
  refine rs_perm (core_perm [_]) (c_Engine_put (ms := ms) (bd := bd) (p := p) hms (fun a ha => let ⟨r2, h⟩ := hrs a ha; ⟨r2, List.mem_cons_of_mem _ h⟩) hz hd hn hpg hp fun A rs' dd' hr2 hl2 hd2 => ?_)
  have ew : wrB "undo" = true := by decide
  have ew2 : (⟨"undo", no, r.page, r.behind, r.before, 0, 0, 0, 0⟩ : Rw).kind = "undo" := rfl
  rw [ew2, ew] at hd2
  rw [ew2, ew]
  clear hms5 hmb hmc hmr hE hmr2 hmr3
  unfold core
  repeat walk_at "rc step"
  refine em_slL ?_
  repeat walk_at "rc step"
  refine eo_none ?_
  refine eo_some ?_
  repeat walk_at "rc step"
  refine ⟨_, .d, ?_⟩
  repeat walk_at "rc step"
  refine ⟨_, _, _, 6, rfl, rfl, by assumption, by assumption, of_decide_eq_true rfl, ?_⟩
  simp only [List.set_cons_succ, List.set_cons_zero]
  refine hF A rs' dd' a2 _ (fun x hx => ?_) hl2 hd2
  obtain ⟨r2, h2⟩ := hr2 x hx
  refine ⟨r2, ?_⟩
  rcases List.mem_cons.mp h2 with z | z
  · rw [z]; exact List.mem_cons_self
  · rcases List.mem_cons.mp z with z | z
    · injection z with _ z2
      injection z2 with _ z3
      have h9 : (9 : Nat) = 3 := congrArg List.length z3
      omega
    · exact List.mem_cons_of_mem _ z
def undF (b : Mb) : Int := match b.left with
  | [] => 0
  | p :: _ => p.2.undo
theorem sc_Engine_cut_off : FnScope ["self", "member"] ["self", "member"] (defScope (inClass (top 50) 25)) := ⟨rfl, rfl, rfl, by decide +kernel, rfl, by decide +kernel, by decide +kernel⟩
theorem kp_Engine_cut_off (W : Wd w K mg base) : PySem.W.keepIn K (.ref (He.fAd K ("Engine", some "cut_off"))) = true := W.kp 70
theorem b_Engine_cut_off (W : Wd w K mg base) : Binds K (fdO K (He.fAd K ("Engine", some "cut_off"))) ["self", "member"] [] := (W.F 70).bindsN fun _ _ _ _ _ _ us hl => match us, hl with | [_, _], _ => rfl
def gm_Engine_cut_off [Tbl] (K : PySem.W.Frag) : Gm := fun ds R F => ∃ (e : Addr) (E : En) (n : Nat) (home pool : Nat → Int) (dd : List (Int × Int)) (rs : List Addr) (rest : Rg) (ms : List Mb) (bd : Nat → Option Int) (b : Mb), ds = [.v (.ref e), .v (.ref b.a)] ∧ R = core K e E n home pool dd rs ((b.a, .i (He.ga K "Member") (mbFs b)) :: (E.memA, .k (vK (memK ms))) :: rest) ∧
  (MsIn K E ms ((b.a, .i (He.ga K "Member") (mbFs b)) :: (E.memA, .k (vK (memK ms))) :: rest) ∧ b ∈ ms ∧ RsIn K rs rest ∧ rs.length ≤ 80000 ∧ DOk n dd bd ∧ n ≤ 60) ∧
  ((b.left = [] ∧ F (.v .non) (core K e E n home pool dd rs ((b.a, .i (He.ga K "Member") (mbFs b)) :: (E.memA, .k (vK (memK (ms.filter fun c => decide (c.no ≠ b.no))))) :: rest))) ∨
   (∃ ra r p, b.left = [(ra, r)] ∧ r.page = ((p : Nat) : Int) ∧ p < n ∧ ∀ A rs' dd' a2 row, RsIn K rs' ((a2, .i (He.ga K "LogRow") (rwFs row)) :: rest) → rs'.length ≤ rs.length + 1 → DOk n dd' (plD true p E.head fun k => brO (E.head + r.undo - E.cells) (bd k)) →
      F (.v .non) (core K e { E with rowsA := A, head := E.head + r.undo } n (brH (E.head + r.undo - E.cells) bd pool home) (plP true p r.before pool) dd' rs' ((a2, .i (He.ga K "LogRow") (rwFs row)) :: (b.a, .i (He.ga K "Member") (mbFs ⟨b.no, b.ends, b.a, []⟩)) :: (E.memA, .k (vK (memK (ms.filter fun c => decide (c.no ≠ b.no))))) :: rest))))
abbrev sp_Engine_cut_off [Tbl] (K : PySem.W.Frag) : Sp := spM (gm_Engine_cut_off K)
theorem ok_Engine_cut_off (W : Wd w K mg base) : FnOk P w K mg base CX0 7 (He.fAd K ("Engine", some "cut_off")) (fdO K (He.fAd K ("Engine", some "cut_off"))) ["self", "member"] (sp_Engine_cut_off K) := by
  refine (W.F 70).ok sc_Engine_cut_off ?_ (fun cdv A outer s H vs Q E hr h => ?_)
  · exact lenM fun ds R F h => by obtain ⟨e, E, n, home, pool, dd, rs, rest, ms, bd, b, rfl, rfl, ⟨hms, hm, hrs, hz, hd, hn⟩, hF⟩ := h; rfl
  have hu64 := hr.units
  have hu := Nat.lt_of_le_of_lt (Nat.add_le_add_left (show 1 ≤ 64 by decide) _) hu64
  refine ⟨_, PSs.nox (pss_cons (ps_while PassesOwn.never (pt_cmpR op_gt (pe_callB (lenK (K := K) rfl) rfl (W.free 49) (by decide +kernel) (pa_cons (fldK (K := K) rfl (pv 1) rfl) pa_nil)) pe_int (nomark _))
    (pss_one (ps_expr (pe_meth (pv 0) (W.cls 101) (W.meth 132) (ok_Engine_undo_last (K := K) W) (hr.mono (by decide)) (b_Engine_undo_last W) .nil pass0 (pa_cons (pv 1) pa_nil)))))
    (pss_one (ps_expr (pe_dpop1 (fldK (K := K) rfl (pv 0) rfl) (fldK (K := K) rfl (pv 1) rfl) ⟨rfl, rfl, rfl, rfl⟩)))), entryM h ?_⟩
  clear h hu hu64 hr
  rintro ds R F ⟨e, E, n, home, pool, dd, rs, rest, ms, bd, b, rfl, rfl, ⟨hms, hm, hrs, hz, hd, hn⟩, hF⟩
  have cl_Engine : Cls K (He.ga K "Engine") := W.cls 101
  have cl_Member : Cls K (He.ga K "Member") := W.cls 88
  have na_Member_number : NoAttr K (He.ga K "Member") "number" := W.noat 90
  have na_Member_left_rows : NoAttr K (He.ga K "Member") "left_rows" := W.noat 92
  have na_Engine_kept_members : NoAttr K (He.ga K "Engine") "kept_members" := W.noat 108
  have lk := lk_mem hm (nd_srt hms.srt)
  rcases hF with ⟨el, hF⟩ | ⟨ra, r, p, el, hpg, hp, hF⟩
  · obtain ⟨no, ends, ba, left⟩ := b
    have el' : left = [] := el
    subst el'
    refine sx_seq (sx_while (fun m g' R' => g' = [some (.v (.ref e)), some (.v (.ref ba))] ∧ R' = core K e E n home pool dd rs ((ba, .i (He.ga K "Member") (mbFs ⟨no, ends, ba, []⟩)) :: (E.memA, .k (vK (memK ms))) :: rest)) 0 ⟨rfl, rfl⟩ fun m g' R' hI => ?_)
    obtain ⟨rfl, rfl⟩ := hI
    unfold core
    repeat walk_at "rc step"
    refine em_dpop1 ?_
    repeat walk_at "rc step"
    refine ⟨_, _, 6, rfl, rfl, ?_⟩
    repeat walk_at "rc step"
    refine ⟨.inl no, _, rfl, lk, ?_⟩
    rw [dr_mem]
    exact hF
  · obtain ⟨no, ends, ba, left⟩ := b
    have el' : left = [(ra, r)] := el
    subst el'
    refine sx_seq (sx_while (fun m g' R' => g' = [some (.v (.ref e)), some (.v (.ref ba))] ∧ ((m = 1 ∧ R' = core K e E n home pool dd rs ((ba, .i (He.ga K "Member") (mbFs ⟨no, ends, ba, [(ra, r)]⟩)) :: (E.memA, .k (vK (memK ms))) :: rest)) ∨
      (m = 0 ∧ ∃ A rs' dd' a2 row, RsIn K rs' ((a2, .i (He.ga K "LogRow") (rwFs row)) :: (E.memA, .k (vK (memK ms))) :: rest) ∧ rs'.length ≤ rs.length + 1 ∧ DOk n dd' (plD true p E.head fun k => brO (E.head + r.undo - E.cells) (bd k)) ∧
        R' = core K e { E with rowsA := A, head := E.head + r.undo } n (brH (E.head + r.undo - E.cells) bd pool home) (plP true p r.before pool) dd' rs' ((a2, .i (He.ga K "LogRow") (rwFs row)) :: (ba, .i (He.ga K "Member") (mbFs ⟨no, ends, ba, []⟩)) :: (E.memA, .k (vK (memK ms))) :: rest)))) 1 ⟨rfl, .inl ⟨rfl, rfl⟩⟩ fun m g' R' hI => ?_)
    obtain ⟨rfl, ⟨rfl, rfl⟩ | ⟨rfl, A, rs', dd', a2, row, hr2, hl2, hd2, rfl⟩⟩ := hI
    · have hmc : (ba, RC.i (He.ga K "Member") (mbFs ⟨no, ends, ba, [(ra, r)]⟩)) ∈ core K e E n home pool dd rs ((ba, .i (He.ga K "Member") (mbFs ⟨no, ends, ba, [(ra, r)]⟩)) :: (E.memA, .k (vK (memK ms))) :: rest) := by unfold core; walk_at "rc mem"
      have hE : (e, RC.i (He.ga K "Engine") (enFs E)) ∈ core K e E n home pool dd rs ((ba, .i (He.ga K "Member") (mbFs ⟨no, ends, ba, [(ra, r)]⟩)) :: (E.memA, .k (vK (memK ms))) :: rest) := by unfold core; walk_at "rc mem"
      repeat walk_at "rc step"
      refine rs_m ⟨e, E, n, home, pool, dd, rs, (E.memA, .k (vK (memK ms))) :: rest, ms, bd, no, ends, ba, ra, r, p, rfl, rfl, ⟨hms, hm, fun a ha => let ⟨r2, h⟩ := hrs a ha; ⟨r2, List.mem_cons_of_mem _ h⟩, hz, hd, hn, hpg, hp⟩, fun A rs' dd' a2 row hr2 hl2 hd2 => ⟨0, by decide, rfl, .inr ⟨rfl, A, rs', dd', a2, row, hr2, hl2, hd2, rfl⟩⟩⟩
    · unfold core
      repeat walk_at "rc step"
      refine em_dpop1 ?_
      repeat walk_at "rc step"
      refine ⟨_, _, 7, rfl, rfl, ?_⟩
      repeat walk_at "rc step"
      refine ⟨.inl no, _, rfl, lk, ?_⟩
      rw [dr_mem]
      refine hF A rs' dd' a2 row (fun x hx => ?_) hl2 hd2
      obtain ⟨r2, h2⟩ := hr2 x hx
      refine ⟨r2, ?_⟩
      rcases List.mem_cons.mp h2 with z | z
      · rw [z]; exact List.mem_cons_self
      · rcases List.mem_cons.mp z with z | z
        · cases z
        · exact List.mem_cons_of_mem _ z
end
end Rc
-- G11
set_option Elab.async false
set_option linter.all false
set_option maxRecDepth 100000
set_option maxHeartbeats 4000000
namespace Rc
open PySem PySem.Spec PyProof.Rows L2 RcHead
local macro_rules | `(tactic| walk_at "rc mem") => `(tactic| first | assumption | exact List.mem_cons_self | ((with_reducible (refine List.mem_cons_of_mem _ ?_)); walk_at "rc mem"))
local macro_rules | `(tactic| walk_at "rc end") => `(tactic| fail)
local macro_rules | `(tactic| walk_at "rc lst") => `(tactic| with_reducible refine em_lst ?_)
local macro_rules | `(tactic| walk_at "rc call") => `(tactic| fail)
local macro_rules | `(tactic| walk_at "rc step") => `(tactic| first
  | ((with_reducible (apply em_var)); rfl)
  | with_reducible refine em_c ?_
  | with_reducible refine em_op ?_
  | with_reducible refine ro_I0 ?_
  | ((with_reducible (refine ro_eq ?_ ?_)); rfl)
  | ((with_reducible (refine ro_ne ?_ ?_)); rfl)
  | with_reducible refine ro_isN ?_
  | with_reducible refine ro_notN ?_
  | with_reducible refine ea_nil ?_
  | with_reducible refine ea_cons ?_
  | with_reducible refine em_call ?_
  | walk_at "rc call"
  | (with_reducible refine em_fld ?_)
  | (refine ⟨_, _, _, _, rfl, (by walk_at "rc mem"), (by assumption), (by assumption), (by rfl), ?_⟩)
  | with_reducible refine ra_listV ?_
  | with_reducible refine em_cb ?_
  | with_reducible refine em_tup ?_
  | walk_at "rc lst"
  | with_reducible refine em_if ?_
  | with_reducible refine em_andV ?_
  | with_reducible refine em_orV ?_
  | with_reducible refine em_notV ?_
  | with_reducible refine em_chain ?_
  | with_reducible refine et_test ?_
  | with_reducible refine et_B ?_
  | with_reducible refine et_and ?_
  | with_reducible refine et_or ?_
  | with_reducible refine et_not ?_
  | with_reducible refine et_yes ?_
  | with_reducible refine sx_seq ?_
  | with_reducible refine sx_next ?_
  | with_reducible refine sx_asg ?_
  | with_reducible refine sx_ret ?_
  | with_reducible refine sx_append ?_
  | with_reducible refine sx_drop ?_
  | with_reducible refine sx_if ?_
  | (refine ⟨_, rfl, ?_⟩)
  | (refine ⟨fun _ => ?_, fun z => Bool.noConfusion z⟩)
  | (refine ⟨fun z => Bool.noConfusion z, fun _ => ?_⟩)
  | with_reducible refine em_make ?_
  | with_reducible refine em_meth ?_
  | (refine ⟨_, _, rfl, (by walk_at "rc mem"), rfl, ?_⟩)
  | with_reducible refine em_neg ?_
  | with_reducible refine sx_fld ?_
  | (refine ⟨_, _, _, 0, rfl, rfl, (by assumption), (by assumption), (of_decide_eq_true rfl), ?_⟩)
  | ((with_reducible (apply ra_len)); (first | exact .l .d | exact .t | exact .l (.c (by walk_at "rc mem"))))
  | ((with_reducible (apply ra_lenK)); (walk_at "rc mem"))
  | ((with_reducible (apply ro_ixL)); (first | exact .d | exact .c (by walk_at "rc mem")); (first | rfl | exact atI_0))
  | ((with_reducible (apply ro_ixT)); rfl)
  | (with_reducible (refine gx_name ?_ (by decide)))
  | ((with_reducible (apply gx_tupR)); rfl)
  | with_reducible refine gxs_cons ?_
  | with_reducible refine gxs_nil ?_
  | (exact ⟨rfl, rfl⟩)
  | (refine ⟨rfl, ?_⟩)
  | with_reducible refine em_dget ?_
  | with_reducible refine sx_lockAsg ?_
  | with_reducible refine em_din ?_
  | with_reducible refine em_dnotIn ?_
  | ((with_reducible (apply sx_aug)); rfl)
  | with_reducible refine sx_setL ?_
  | with_reducible refine sx_dput ?_
  | with_reducible refine gx_fld ?_
  | (with_reducible (apply sx_fldAug))
  | ((with_reducible (apply sx_rz)); assumption)
  | (refine ⟨(by simp only [List.length_cons, List.length_nil]; omega), ?_⟩))
section
variable [Tbl] {P : Program} {w : World} {K : PySem.W.Frag} {mg : Str → Option Value} {base : Heap}
local macro_rules | `(tactic| walk_at "rc call") => `(tactic| first | with_reducible refine c_is_within ?_ | ((with_reducible (apply c_Engine_check_up)); (walk_at "rc mem")) | ((with_reducible (apply c_Member_undoing)); assumption) | ((with_reducible (apply c_Member_begin)); assumption))
theorem sc_Engine_cut : FnScope ["self", "deed", "member"] ["self", "deed"] (defScope (inClass (top 50) 26)) := ⟨rfl, rfl, rfl, by decide +kernel, rfl, by decide +kernel, by decide +kernel⟩
theorem kp_Engine_cut (W : Wd w K mg base) : PySem.W.keepIn K (.ref (He.fAd K ("Engine", some "cut"))) = true := W.kp 71
theorem b_Engine_cut (W : Wd w K mg base) : Binds K (fdO K (He.fAd K ("Engine", some "cut"))) ["self", "deed"] [] := (W.F 71).bindsN fun _ _ _ _ _ _ us hl => match us, hl with | [_, _], _ => rfl
def gm_Engine_cut [Tbl] (K : PySem.W.Frag) : Gx := fun ds R F Wx => ∃ (e : Addr) (E : En) (n : Nat) (home pool : Nat → Int) (dd : List (Int × Int)) (rs : List Addr) (rest : Rg) (ms : List Mb) (bd : Nat → Option Int) (b : Mb), ds = [.v (.ref e), .v (.int b.no)] ∧ R = core K e E n home pool dd rs ((b.a, .i (He.ga K "Member") (mbFs b)) :: (E.memA, .k (vK (memK ms))) :: rest) ∧
  (MsIn K E ms ((b.a, .i (He.ga K "Member") (mbFs b)) :: (E.memA, .k (vK (memK ms))) :: rest) ∧ b ∈ ms ∧ RsIn K rs rest ∧ rs.length ≤ 80000 ∧ DOk n dd bd ∧ n ≤ 60 ∧ (∀ b ∈ ms, TS.Bd (2 ^ 60) [begI b, und b, b.no])) ∧
  ∀ ys : List (Int × Int × Int), ys.Perm (oth ms b) → ys.Pairwise (fun x y => x.1 ≤ y.1) →
  (((ys.take (hvN E.cells (E.head + und b) (ys.map two))) ≠ [] → Wx (.t ((ys.take (hvN E.cells (E.head + und b) (ys.map two))).map fun t => .v (.int t.2.2))) R) ∧
  ((ys.take (hvN E.cells (E.head + und b) (ys.map two))) = [] →
  ((b.left = [] ∧ F (.v .non) (core K e E n home pool dd rs ((b.a, .i (He.ga K "Member") (mbFs b)) :: (E.memA, .k (vK (memK (ms.filter fun c => decide (c.no ≠ b.no))))) :: rest))) ∨
   (∃ ra r p, b.left = [(ra, r)] ∧ r.page = ((p : Nat) : Int) ∧ p < n ∧ ∀ A rs' dd' a2 row, RsIn K rs' ((a2, .i (He.ga K "LogRow") (rwFs row)) :: rest) → rs'.length ≤ rs.length + 1 → DOk n dd' (plD true p E.head fun k => brO (E.head + r.undo - E.cells) (bd k)) →
      F (.v .non) (core K e { E with rowsA := A, head := E.head + r.undo } n (brH (E.head + r.undo - E.cells) bd pool home) (plP true p r.before pool) dd' rs' ((a2, .i (He.ga K "LogRow") (rwFs row)) :: (b.a, .i (He.ga K "Member") (mbFs ⟨b.no, b.ends, b.a, []⟩)) :: (E.memA, .k (vK (memK (ms.filter fun c => decide (c.no ≠ b.no))))) :: rest))))))
abbrev sp_Engine_cut [Tbl] (K : PySem.W.Frag) : Sp := spX (He.ga K "Full") (gm_Engine_cut K)
theorem ok_Engine_cut (W : Wd w K mg base) : FnOk P w K mg base (L2.CX P w) 9 (He.fAd K ("Engine", some "cut")) (fdO K (He.fAd K ("Engine", some "cut"))) ["self", "deed"] (sp_Engine_cut K) := by
  refine (W.F 71).ok sc_Engine_cut ?_ (fun cdv A outer s H vs Q E hr h => ?_)
  · exact lenX fun ds R F Wx h => by obtain ⟨e, E, n, home, pool, dd, rs, rest, ms, bd, b, rfl, rfl, ⟨hms, hm, hrs, hz, hd, hn, hbd⟩, hF⟩ := h; rfl
  have hu64 := hr.units
  have hu := Nat.lt_of_le_of_lt (Nat.add_le_add_left (show 1 ≤ 64 by decide) _) hu64
  refine ⟨_, (pss_cons (ps_set (i := 2) sc_Engine_cut.nd rfl (.inl rfl) (pe_meth (pv 0) (W.cls 101) (W.meth 114) (ok_Engine_member (K := K) W) (hr.mono (by decide)) (b_Engine_member W) .nil pass0 (pa_cons (pv 1) pa_nil)))
    (pss_cons (ps_expr (pe_meth (pv 0) (W.cls 101) (W.meth 127) (ok_Engine_ask (K := K) W) (hr.mono (by decide)) (b_Engine_ask W) .nil (passes_call (takes_of rfl rfl rfl rfl) fun _ _ _ _ z => z) (pa_cons (pe_meth (pv 0) (W.cls 101) (W.meth 126) (ok_Engine_lot_of (K := K) W) (hr.mono (by decide)) (b_Engine_lot_of W) .nil pass0 (pa_cons (pe_meth0 (pv 2) (W.cls 88) (W.meth 93) (ok_Member_undoing (K := K) W) (hr.mono (by decide)) (b_Member_undoing W) .nil pass0) (pa_cons (pe_meth (pv 0) (W.cls 101) (W.meth 125) (ok_Engine_others (K := K) W) (hr.mono (by decide)) (b_Engine_others W) .nil pass0 (pa_cons (pv 2) pa_nil)) pa_nil))) pa_nil)))
    (pss_one (ps_expr (pe_meth (pv 0) (W.cls 101) (W.meth 134) (ok_Engine_cut_off (K := K) W) (hr.mono (by decide)) (b_Engine_cut_off W) .nil pass0 (pa_cons (pv 2) pa_nil)))))), entryX h ?_⟩
  clear h hu hu64 hr
  rintro ds R F Wx ⟨e, E, n, home, pool, dd, rs, rest, ms, bd, b, rfl, rfl, ⟨hms, hm, hrs, hz, hd, hn, hbd⟩, hF⟩ hx
  have hms5 : MsIn K E ms (core K e E n home pool dd rs ((b.a, .i (He.ga K "Member") (mbFs b)) :: (E.memA, .k (vK (memK ms))) :: rest)) := hms.sub sub5
  have hmb := hms5.b _ hm
  have hmc := hmb.c
  have hE : (e, RC.i (He.ga K "Engine") (enFs E)) ∈ core K e E n home pool dd rs ((b.a, .i (He.ga K "Member") (mbFs b)) :: (E.memA, .k (vK (memK ms))) :: rest) := by unfold core; walk_at "rc mem"
  have hz2 : (oth ms b).length ≤ 60 := by
    unfold oth
    rw [List.length_map]
    exact Nat.le_trans (List.length_filter_le _ _) hms.z
  have hob : ∀ t ∈ oth ms b, TS.Bd (2 ^ 60) [t.1, t.2.1, t.2.2] := fun t ht => by
    obtain ⟨b, hb, e⟩ := List.mem_map.mp ht
    rw [← e]
    exact hbd b (List.mem_filter.mp hb).1
  repeat walk_at "rc step"
  refine c_Engine_member hE hms5 hm ?_
  repeat walk_at "rc step"
  refine c_Engine_others hE hms5 hmb ?_
  rw [oth_D]
  repeat walk_at "rc step"
  refine c_Engine_lot_of hE .d ⟨by omega, hob⟩ fun ys hpp hss => ?_
  obtain ⟨h1, h2⟩ := hF ys hpp hss
  clear hF
  repeat walk_at "rc step"
  refine c_Engine_ask hx (fun el => ?_) (fun nl => ?_)
  case refine_2 => exact h1 fun z => nl (by rw [z]; rfl)
  have hF := h2 (List.map_eq_nil_iff.mp el)
  clear h1 h2
  repeat walk_at "rc step"
  exact rs_m ⟨e, E, n, home, pool, dd, rs, rest, ms, bd, b, rfl, rfl, ⟨hms, hm, hrs, hz, hd, hn⟩, hF⟩
theorem sc_Engine_open_deed : FnScope ["self", "end", "number"] ["self", "end"] (defScope (inClass (top 50) 17)) := ⟨rfl, rfl, rfl, by decide +kernel, rfl, by decide +kernel, by decide +kernel⟩
theorem kp_Engine_open_deed (W : Wd w K mg base) : PySem.W.keepIn K (.ref (He.fAd K ("Engine", some "open_deed"))) = true := W.kp 64
theorem b_Engine_open_deed (W : Wd w K mg base) : Binds K (fdO K (He.fAd K ("Engine", some "open_deed"))) ["self", "end"] [] := (W.F 64).bindsN fun _ _ _ _ _ _ us hl => match us, hl with | [_, _], _ => rfl
def gm_Engine_open_deed [Tbl] (K : PySem.W.Frag) : Gm := fun ds R F => ∃ (e : Addr) (E : En) (rest : Rg) (ms : List Mb) (x : Int), ds = [.v (.ref e), .v (.int x)] ∧ R = (e, .i (He.ga K "Engine") (enFs E)) :: (E.memA, .k (vK (memK ms))) :: rest ∧ (1 ≤ x ∧ x ≤ 1000 ∧ ms.length ≤ 60 ∧ ∀ b ∈ ms, b.no < E.nxt) ∧
  ∀ a, F (.v (.int E.nxt)) ((a, .i (He.ga K "Member") (mbFs ⟨E.nxt, x, a, []⟩)) :: (e, .i (He.ga K "Engine") (enFs { E with nxt := E.nxt + 1 })) :: (E.memA, .k (vK (memK (ms ++ [⟨E.nxt, x, a, []⟩])))) :: rest)
abbrev sp_Engine_open_deed [Tbl] (K : PySem.W.Frag) : Sp := spM (gm_Engine_open_deed K)
theorem ok_Engine_open_deed (W : Wd w K mg base) : FnOk P w K mg base CX0 4 (He.fAd K ("Engine", some "open_deed")) (fdO K (He.fAd K ("Engine", some "open_deed"))) ["self", "end"] (sp_Engine_open_deed K) := by
  refine (W.F 64).ok sc_Engine_open_deed ?_ (fun cdv A outer s H vs Q E hr h => ?_)
  · exact lenM fun ds R F h => by obtain ⟨e, E, rest, ms, x, rfl, rfl, ⟨hx1, hx2, hz, hlt⟩, hF⟩ := h; rfl
  have hu64 := hr.units
  have hu := Nat.lt_of_le_of_lt (Nat.add_le_add_left (show 1 ≤ 64 by decide) _) hu64
  refine ⟨_, PSs.nox (pss_cons (ps_expr (pe_meth0 (pv 0) (W.cls 101) (W.meth 113) (ok_Engine_check_up (K := K) W) (hr.mono (by decide)) (b_Engine_check_up W) .nil pass0))
    (pss_cons (ps_expr (pe_call (ok_check_number (K := K) W) (hr.mono (by decide)) rfl (W.glo 11) (kp_check_number W) (b_check_number W) .nil pass0 (pa_cons (pv 1) (pa_cons pe_int (pa_cons (pe_int_g rfl (W.int 70)) pa_nil)))))
    (pss_cons (ps_if (pt_cmpR op_ge (pe_callB call_lenD rfl (W.free 49) (by decide +kernel) (pa_cons (fldK (K := K) rfl (pv 0) rfl) pa_nil)) (pe_int_g rfl (W.int 72)) (nomark _))
    pss_never
    pss_nil)
    (pss_cons (ps_set (i := 2) sc_Engine_open_deed.nd rfl (.inl rfl) (fldK (K := K) rfl (pv 0) rfl))
    (pss_cons (ps_dput hu (fldK (K := K) rfl (pv 0) rfl) (pv 2) (pe_make (W.mkr 89) (ok_Member_init (K := K) W) (hr.mono (by decide)) rfl (W.glo 43) (b_Member_init W) .nil pass0 (pa_cons (pv 2) (pa_cons (pv 1) pa_nil))) rfl)
    (pss_cons (sfldaugK (K := K) rfl (pv 0) pe_int in_add)
    (pss_one (ps_ret (pv 2))))))))), entryM h ?_⟩
  clear h hu hu64 hr
  rintro ds R F ⟨e, E, rest, ms, x, rfl, rfl, ⟨hx1, hx2, hz, hlt⟩, hF⟩
  have cl_Engine : Cls K (He.ga K "Engine") := W.cls 101
  have na_Engine_kept_next : NoAttr K (He.ga K "Engine") "kept_next" := W.noat 109
  have na_Engine_kept_members : NoAttr K (He.ga K "Engine") "kept_members" := W.noat 108
  repeat walk_at "rc step"
  refine c_check_number ⟨hx1, hx2⟩ ?_
  repeat walk_at "rc step"
  have e1 : decide ((200 : Int) ≤ ((vK (memK ms)).length : Int)) = false := by
    simp [memK]
    omega
  rw [e1]
  repeat walk_at "rc step"
  intro a
  refine c_Member_init ?_
  repeat walk_at "rc step"
  have e2 : ptK (.inl E.nxt) (.v (.ref a)) (vK (memK ms)) = vK (memK (ms ++ [⟨E.nxt, x, a, []⟩])) := by
    have e : ((vK (memK ms)).any fun kv => decide (kv.1 = .inl E.nxt)) = false := by
      rw [List.any_eq_false]
      intro q hq
      unfold vK memK at hq
      rw [List.map_map] at hq
      obtain ⟨b, hb, e⟩ := List.mem_map.mp hq
      rw [← e]
      have := hlt b hb
      simp
      omega
    unfold ptK
    rw [e]
    simp [memK]
  refine ⟨E.memA, _, .inl E.nxt, 2, rfl, rfl, rfl, by simp [memK]; omega, ?_⟩
  rw [e2]
  simp only [List.set_cons_succ, List.set_cons_zero]
  repeat walk_at "rc step"
  refine ⟨_, _, _, 1, rfl, rfl, by assumption, by assumption, rfl, of_decide_eq_true rfl, ?_⟩
  simp only [List.set_cons_succ, List.set_cons_zero]
  repeat walk_at "rc step"
  exact hF a
theorem sc_Engine_check_write : FnScope ["self", "deed", "page", "number", "cells", "undo", "member", "holder"] ["self", "deed", "page", "number", "cells", "undo"] (defScope (inClass (top 50) 19)) := ⟨rfl, rfl, rfl, by decide +kernel, rfl, by decide +kernel, by decide +kernel⟩
theorem kp_Engine_check_write (W : Wd w K mg base) : PySem.W.keepIn K (.ref (He.fAd K ("Engine", some "check_write"))) = true := W.kp 66
theorem b_Engine_check_write (W : Wd w K mg base) : Binds K (fdO K (He.fAd K ("Engine", some "check_write"))) ["self", "deed", "page", "number", "cells", "undo"] [] := (W.F 66).bindsN fun _ _ _ _ _ _ us hl => match us, hl with | [_, _, _, _, _, _], _ => rfl
def gm_Engine_check_write [Tbl] (K : PySem.W.Frag) : Gm := fun ds R F => ∃ (e : Addr) (E : En) (n p : Nat) (home : Nat → Int) (ms : List Mb) (b : Mb) (x c u : Int), ds = [.v (.ref e), .v (.int b.no), .v (.int p), .v (.int x), .v (.int c), .v (.int u)] ∧ (e, RC.i (He.ga K "Engine") (enFs E)) ∈ R ∧ (E.homeA, RC.l (intsF n home)) ∈ R ∧ p < n ∧ MsIn K E ms R ∧ b ∈ ms ∧ (0 ≤ x ∧ x ≤ 1000000000000000000000000000000) ∧ (1 ≤ c ∧ c ≤ 1000) ∧ (1 ≤ u ∧ u ≤ 1000) ∧ holdV ms p = .non ∧ F (.v (.ref b.a)) R
abbrev sp_Engine_check_write [Tbl] (K : PySem.W.Frag) : Sp := spM (gm_Engine_check_write K)
theorem c_Engine_check_write [Tbl] {K : PySem.W.Frag} {H0 : Hp} {R0 R : Rg} {Ex : XK} {F : D → Rg → Prop} {e : Addr} {E : En} {n p : Nat} {home : Nat → Int} {ms : List Mb} {b : Mb} {x c u : Int} (h1 : (e, RC.i (He.ga K "Engine") (enFs E)) ∈ R) (h2 : (E.homeA, RC.l (intsF n home)) ∈ R) (h3 : p < n) (h4 : MsIn K E ms R) (h5 : b ∈ ms) (h6 : 0 ≤ x ∧ x ≤ 1000000000000000000000000000000) (h7 : 1 ≤ c ∧ c ≤ 1000) (h8 : 1 ≤ u ∧ u ≤ 1000) (h9 : holdV ms p = .non) (k : F (.v (.ref b.a)) R) : RS H0 R0 (sp_Engine_check_write K) Ex [.v (.ref e), .v (.int b.no), .v (.int p), .v (.int x), .v (.int c), .v (.int u)] R F := rs_m ⟨e, E, n, p, home, ms, b, x, c, u, rfl, h1, h2, h3, h4, h5, h6, h7, h8, h9, k⟩
theorem ok_Engine_check_write (W : Wd w K mg base) : FnOk P w K mg base CX0 4 (He.fAd K ("Engine", some "check_write")) (fdO K (He.fAd K ("Engine", some "check_write"))) ["self", "deed", "page", "number", "cells", "undo"] (sp_Engine_check_write K) := by
  refine (W.F 66).ok sc_Engine_check_write ?_ (fun cdv A outer s H vs Q E hr h => ?_)
  · exact lenM fun ds R F h => by obtain ⟨e, E, n, p, home, ms, b, x, c, u, rfl, hE, hh, hp, hms, hb, hx1, hc1, hu1, hv, hF⟩ := h; rfl
  have hu64 := hr.units
  have hu := Nat.lt_of_le_of_lt (Nat.add_le_add_left (show 1 ≤ 64 by decide) _) hu64
  refine ⟨_, PSs.nox (pss_cons (ps_set (i := 6) sc_Engine_check_write.nd rfl (.inl rfl) (pe_meth (pv 0) (W.cls 101) (W.meth 114) (ok_Engine_member (K := K) W) (hr.mono (by decide)) (b_Engine_member W) .nil pass0 (pa_cons (pv 1) pa_nil)))
    (pss_cons (ps_expr (pe_meth (pv 0) (W.cls 101) (W.meth 115) (ok_Engine_check_page (K := K) W) (hr.mono (by decide)) (b_Engine_check_page W) .nil pass0 (pa_cons (pv 2) pa_nil)))
    (pss_cons (ps_expr (pe_call (ok_check_number (K := K) W) (hr.mono (by decide)) rfl (W.glo 11) (kp_check_number W) (b_check_number W) .nil pass0 (pa_cons (pv 3) (pa_cons pe_int (pa_cons (pe_int_g rfl (W.int 71)) pa_nil)))))
    (pss_cons (ps_expr (pe_call (ok_check_number (K := K) W) (hr.mono (by decide)) rfl (W.glo 11) (kp_check_number W) (b_check_number W) .nil pass0 (pa_cons (pv 4) (pa_cons pe_int (pa_cons (pe_int_g rfl (W.int 70)) pa_nil)))))
    (pss_cons (ps_expr (pe_call (ok_check_number (K := K) W) (hr.mono (by decide)) rfl (W.glo 11) (kp_check_number W) (b_check_number W) .nil pass0 (pa_cons (pv 5) (pa_cons pe_int (pa_cons (pe_int_g rfl (W.int 70)) pa_nil)))))
    (pss_cons (ps_set (i := 7) sc_Engine_check_write.nd rfl (.inl rfl) (pe_meth (pv 0) (W.cls 101) (W.meth 129) (ok_Engine_holder (K := K) W) (hr.mono (by decide)) (b_Engine_holder W) .nil pass0 (pa_cons (pv 2) pa_nil)))
    (pss_cons (ps_if (PW.pt (pw_and (pt_cmpR op_notN (pv 7) pe_non (nomark _)) (pw_and1 (pt_cmpR op_ne (pv 7) (pv 1) (nomark _)))))
    pss_never
    pss_nil)
    (pss_one (ps_ret (pv 6)))))))))), entryM h ?_⟩
  clear h hu hu64 hr
  rintro ds R F ⟨e, E, n, p, home, ms, b, x, c, u, rfl, hE, hh, hp, hms, hb, hx1, hc1, hu1, hv, hF⟩
  repeat walk_at "rc step"
  refine c_Engine_member hE hms hb ?_
  repeat walk_at "rc step"
  refine c_Engine_check_page hE hh hp ?_
  repeat walk_at "rc step"
  refine c_check_number hx1 ?_
  repeat walk_at "rc step"
  refine c_check_number hc1 ?_
  repeat walk_at "rc step"
  refine c_check_number hu1 ?_
  repeat walk_at "rc step"
  refine c_Engine_holder hE hms ?_
  rw [hv]
  repeat walk_at "rc step"
  exact hF
end
end Rc
-- G12
set_option Elab.async false
set_option linter.all false
set_option maxRecDepth 100000
set_option maxHeartbeats 4000000
namespace Rc
open PySem PySem.Spec PyProof.Rows L2 RcHead
local macro_rules | `(tactic| walk_at "rc mem") => `(tactic| first | assumption | exact List.mem_cons_self | ((with_reducible (refine List.mem_cons_of_mem _ ?_)); walk_at "rc mem"))
local macro_rules | `(tactic| walk_at "rc end") => `(tactic| fail)
local macro_rules | `(tactic| walk_at "rc lst") => `(tactic| with_reducible refine em_lst ?_)
local macro_rules | `(tactic| walk_at "rc call") => `(tactic| fail)
local macro_rules | `(tactic| walk_at "rc step") => `(tactic| first
  | ((with_reducible (apply em_var)); rfl)
  | with_reducible refine em_c ?_
  | with_reducible refine em_op ?_
  | with_reducible refine ro_I0 ?_
  | ((with_reducible (refine ro_eq ?_ ?_)); rfl)
  | ((with_reducible (refine ro_ne ?_ ?_)); rfl)
  | with_reducible refine ro_isN ?_
  | with_reducible refine ro_notN ?_
  | with_reducible refine ea_nil ?_
  | with_reducible refine ea_cons ?_
  | with_reducible refine em_call ?_
  | walk_at "rc call"
  | (with_reducible refine em_fld ?_)
  | (refine ⟨_, _, _, _, rfl, (by walk_at "rc mem"), (by assumption), (by assumption), (by rfl), ?_⟩)
  | with_reducible refine ra_listV ?_
  | with_reducible refine em_cb ?_
  | with_reducible refine em_tup ?_
  | walk_at "rc lst"
  | with_reducible refine em_if ?_
  | with_reducible refine em_andV ?_
  | with_reducible refine em_orV ?_
  | with_reducible refine em_notV ?_
  | with_reducible refine em_chain ?_
  | with_reducible refine et_test ?_
  | with_reducible refine et_B ?_
  | with_reducible refine et_and ?_
  | with_reducible refine et_or ?_
  | with_reducible refine et_not ?_
  | with_reducible refine et_yes ?_
  | with_reducible refine sx_seq ?_
  | with_reducible refine sx_next ?_
  | with_reducible refine sx_asg ?_
  | with_reducible refine sx_ret ?_
  | with_reducible refine sx_append ?_
  | with_reducible refine sx_drop ?_
  | with_reducible refine sx_if ?_
  | (refine ⟨_, rfl, ?_⟩)
  | (refine ⟨fun _ => ?_, fun z => Bool.noConfusion z⟩)
  | (refine ⟨fun z => Bool.noConfusion z, fun _ => ?_⟩)
  | with_reducible refine em_make ?_
  | with_reducible refine em_meth ?_
  | (refine ⟨_, _, rfl, (by walk_at "rc mem"), rfl, ?_⟩)
  | with_reducible refine em_neg ?_
  | with_reducible refine sx_fld ?_
  | (refine ⟨_, _, _, 0, rfl, rfl, (by assumption), (by assumption), (of_decide_eq_true rfl), ?_⟩)
  | ((with_reducible (apply ra_len)); (first | exact .l .d | exact .t | exact .l (.c (by walk_at "rc mem"))))
  | ((with_reducible (apply ra_lenK)); (walk_at "rc mem"))
  | ((with_reducible (apply ro_ixL)); (first | exact .d | exact .c (by walk_at "rc mem")); (first | rfl | exact atI_0))
  | ((with_reducible (apply ro_ixT)); rfl)
  | (with_reducible (refine gx_name ?_ (by decide)))
  | ((with_reducible (apply gx_tupR)); rfl)
  | with_reducible refine gxs_cons ?_
  | with_reducible refine gxs_nil ?_
  | (exact ⟨rfl, rfl⟩)
  | (refine ⟨rfl, ?_⟩)
  | with_reducible refine em_dget ?_
  | with_reducible refine sx_lockAsg ?_
  | with_reducible refine em_din ?_
  | with_reducible refine em_dnotIn ?_
  | ((with_reducible (apply sx_aug)); rfl)
  | with_reducible refine sx_setL ?_
  | with_reducible refine sx_dput ?_
  | with_reducible refine gx_fld ?_
  | (with_reducible (apply sx_fldAug))
  | ((with_reducible (apply sx_rz)); assumption)
  | (refine ⟨(by simp only [List.length_cons, List.length_nil]; omega), ?_⟩))
section
variable [Tbl] {P : Program} {w : World} {K : PySem.W.Frag} {mg : Str → Option Value} {base : Heap}
local macro_rules | `(tactic| walk_at "rc call") => `(tactic| first | with_reducible refine c_is_within ?_ | ((with_reducible (apply c_Engine_check_up)); (walk_at "rc mem")) | ((with_reducible (apply c_Member_undoing)); assumption) | ((with_reducible (apply c_Member_begin)); assumption))
theorem sc_Engine_write : FnScope ["self", "deed", "page", "number", "cells", "undo", "member", "row"] ["self", "deed", "page", "number", "cells", "undo"] (defScope (inClass (top 50) 21)) := ⟨rfl, rfl, rfl, by decide +kernel, rfl, by decide +kernel, by decide +kernel⟩
theorem kp_Engine_write (W : Wd w K mg base) : PySem.W.keepIn K (.ref (He.fAd K ("Engine", some "write"))) = true := W.kp 67
theorem b_Engine_write (W : Wd w K mg base) : Binds K (fdO K (He.fAd K ("Engine", some "write"))) ["self", "deed", "page", "number", "cells", "undo"] [] := (W.F 67).bindsN fun _ _ _ _ _ _ us hl => match us, hl with | [_, _, _, _, _, _], _ => rfl
def gm_Engine_write [Tbl] (K : PySem.W.Frag) : Gx := fun ds R F Wx => ∃ (e : Addr) (E : En) (n : Nat) (home pool : Nat → Int) (dd : List (Int × Int)) (rs : List Addr) (rest : Rg) (ms : List Mb) (bd : Nat → Option Int) (no ends : Int) (ba : Addr) (p : Nat) (x c u : Int), ds = [.v (.ref e), .v (.int no), .v (.int p), .v (.int x), .v (.int c), .v (.int u)] ∧ R = core K e E n home pool dd rs ((ba, .i (He.ga K "Member") (mbFs ⟨no, ends, ba, []⟩)) :: rest) ∧
  (MsIn K E ms ((ba, .i (He.ga K "Member") (mbFs ⟨no, ends, ba, []⟩)) :: rest) ∧ (⟨no, ends, ba, []⟩ : Mb) ∈ ms ∧ RsIn K rs rest ∧ rs.length ≤ 80000 ∧ DOk n dd bd ∧ n ≤ 60 ∧ p < n ∧ (∀ b ∈ ms, TS.Bd (2 ^ 60) [begI b, und b, b.no]) ∧ (0 ≤ x ∧ x ≤ 1000000000000000000000000000000) ∧ (1 ≤ c ∧ c ≤ 1000) ∧ (1 ≤ u ∧ u ≤ 1000) ∧ holdV ms p = .non ∧ c + u ≤ E.cells ∧
   (∀ ys : List (Int × Int × Int), ys.Perm (oth ms ⟨no, ends, ba, []⟩) → ys.Pairwise (fun x y => x.1 ≤ y.1) → hvN E.cells (E.head + c) (ys.map two) = 0 ∧ c + u + (ys.map fun t => t.2.1).sum ≤ E.cells)) ∧ (True ∨ Wx (.t []) R) ∧
  (∀ A rs' dd' a2, RsIn K rs' ((a2, .i (He.ga K "LogRow") (rwFs ⟨"write", no, p, pool p, x, u, 0, E.head, c⟩)) :: rest) → rs'.length ≤ rs.length + 1 → DOk n dd' (plD true p E.head fun k => brO (E.head + c - E.cells) (bd k)) →
      F (.v .non) (core K e { E with rowsA := A, head := E.head + c } n (brH (E.head + c - E.cells) bd pool home) (plP true p x pool) dd' rs' ((a2, .i (He.ga K "LogRow") (rwFs ⟨"write", no, p, pool p, x, u, 0, E.head, c⟩)) :: (ba, .i (He.ga K "Member") (mbFs ⟨no, ends, ba, [(a2, ⟨"write", no, p, pool p, x, u, 0, E.head, c⟩)]⟩)) :: rest)))
abbrev sp_Engine_write [Tbl] (K : PySem.W.Frag) : Sp := spX (He.ga K "Full") (gm_Engine_write K)
theorem ok_Engine_write (W : Wd w K mg base) : FnOk P w K mg base (L2.CX P w) 10 (He.fAd K ("Engine", some "write")) (fdO K (He.fAd K ("Engine", some "write"))) ["self", "deed", "page", "number", "cells", "undo"] (sp_Engine_write K) := by
  refine (W.F 67).ok sc_Engine_write ?_ (fun cdv A outer s H vs Q E hr h => ?_)
  · exact lenX fun ds R F Wx h => by obtain ⟨e, E, n, home, pool, dd, rs, rest, ms, bd, no, ends, ba, p, x, c, u, rfl, rfl, ⟨hms, hm, hrs, hz, hd, hn, hp, hbd, hx1, hc1, hu1, hv, hfit, hall⟩, _, hF⟩ := h; rfl
  have hu64 := hr.units
  have hu := Nat.lt_of_le_of_lt (Nat.add_le_add_left (show 1 ≤ 64 by decide) _) hu64
  refine ⟨_, (pss_cons (ps_set (i := 6) sc_Engine_write.nd rfl (.inl rfl) (pe_meth (pv 0) (W.cls 101) (W.meth 130) (ok_Engine_check_write (K := K) W) (hr.mono (by decide)) (b_Engine_check_write W) .nil pass0 (pa_cons (pv 1) (pa_cons (pv 2) (pa_cons (pv 3) (pa_cons (pv 4) (pa_cons (pv 5) pa_nil)))))))
    (pss_cons (ps_expr (pe_meth (pv 0) (W.cls 101) (W.meth 127) (ok_Engine_ask (K := K) W) (hr.mono (by decide)) (b_Engine_ask W) .nil (passes_call (takes_of rfl rfl rfl rfl) fun _ _ _ _ z => z) (pa_cons (pe_meth (pv 0) (W.cls 101) (W.meth 124) (ok_Engine_lot_for (K := K) W) (hr.mono (by decide)) (b_Engine_lot_for W) .nil pass0 (pa_cons (pv 6) (pa_cons (pv 4) (pa_cons (pe_op op_add (pe_meth0 (pv 6) (W.cls 88) (W.meth 93) (ok_Member_undoing (K := K) W) (hr.mono (by decide)) (b_Member_undoing W) .nil pass0) (pv 5)) pa_nil)))) pa_nil)))
    (pss_cons (ps_set (i := 7) sc_Engine_write.nd rfl (.inl rfl) (pe_make (W.mkr 78) (ok_LogRow_init (K := K) W) (hr.mono (by decide)) rfl (W.glo 42) (b_LogRow_init W) .nil pass0 (pa_cons (pe_str_g rfl (W.str 73)) (pa_cons (pv 1) (pa_cons (pv 2) (pa_cons (pe_ix (ixlK (K := K) rfl) (fldK (K := K) rfl (pv 0) rfl) (pv 2) (fun _ _ => rfl)) (pa_cons (pv 3) (pa_cons (pv 5) (pa_cons pe_int pa_nil)))))))))
    (pss_cons (ps_expr (pe_meth (pv 0) (W.cls 101) (W.meth 121) (ok_Engine_put (K := K) W) (hr.mono (by decide)) (b_Engine_put W) .nil pass0 (pa_cons (pv 7) (pa_cons (pv 4) pa_nil))))
    (pss_one (sfldK (K := K) rfl (pv 6) (pe_op op_cat (fldK (K := K) rfl (pv 6) rfl) (pe_lst (pa_cons (pv 7) pa_nil))) rfl)))))), entryX h ?_⟩
  clear h hu hu64 hr
  rintro ds R F Wx ⟨e, E, n, home, pool, dd, rs, rest, ms, bd, no, ends, ba, p, x, c, u, rfl, rfl, ⟨hms, hm, hrs, hz, hd, hn, hp, hbd, hx1, hc1, hu1, hv, hfit, hall⟩, _, hF⟩ hx
  have cl_Engine : Cls K (He.ga K "Engine") := W.cls 101
  have cl_Member : Cls K (He.ga K "Member") := W.cls 88
  have na_Member_left_rows : NoAttr K (He.ga K "Member") "left_rows" := W.noat 92
  have na_Engine_kept_pool : NoAttr K (He.ga K "Engine") "kept_pool" := W.noat 105
  have hms5 : MsIn K E ms (core K e E n home pool dd rs ((ba, .i (He.ga K "Member") (mbFs ⟨no, ends, ba, []⟩)) :: rest)) := hms.sub sub5
  have hmb := hms5.b _ hm
  have hmc : (ba, RC.i (He.ga K "Member") (mbFs ⟨no, ends, ba, []⟩)) ∈ core K e E n home pool dd rs ((ba, .i (He.ga K "Member") (mbFs ⟨no, ends, ba, []⟩)) :: rest) := hmb.c
  have hE : (e, RC.i (He.ga K "Engine") (enFs E)) ∈ core K e E n home pool dd rs ((ba, .i (He.ga K "Member") (mbFs ⟨no, ends, ba, []⟩)) :: rest) := by unfold core; walk_at "rc mem"
  have hh : (E.homeA, RC.l (intsF n home)) ∈ core K e E n home pool dd rs ((ba, .i (He.ga K "Member") (mbFs ⟨no, ends, ba, []⟩)) :: rest) := by unfold core; walk_at "rc mem"
  have hq : (E.poolA, RC.l (intsF n pool)) ∈ core K e E n home pool dd rs ((ba, .i (He.ga K "Member") (mbFs ⟨no, ends, ba, []⟩)) :: rest) := by unfold core; walk_at "rc mem"
  have eu : und ⟨no, ends, ba, []⟩ = 0 := rfl
  repeat walk_at "rc step"
  refine c_Engine_check_write (b := ⟨no, ends, ba, []⟩) hE hh hp hms5 hm hx1 hc1 hu1 hv ?_
  repeat walk_at "rc step"
  rw [eu]
  refine c_Engine_lot_for hE hms5 hmb hbd (.inr ⟨rfl, by omega, fun ys h1 h2 => by have := hall ys h1 h2; exact ⟨this.1, by omega⟩, ?_⟩)
  repeat walk_at "rc step"
  refine c_Engine_ask hx (fun _ => ?_) (fun z => absurd rfl z)
  repeat walk_at "rc step"
  refine ro_ixL (.c hq) (atI_F hp) ?_
  repeat walk_at "rc step"
  intro a2
  refine c_LogRow_init ?_
  repeat walk_at "rc step"
  refine rs_perm (core_perm [_]) (c_Engine_put (ms := ms) (bd := bd) (p := p) hms (fun a ha => let ⟨r2, h⟩ := hrs a ha; ⟨r2, List.mem_cons_of_mem _ h⟩) hz hd hn rfl hp fun A rs' dd' hr2 hl2 hd2 => ?_)
  have ew : wrB "write" = true := by decide
  have ew2 : (⟨"write", no, p, pool p, x, u, 0, 0, 0⟩ : Rw).kind = "write" := rfl
  rw [ew2, ew] at hd2
  rw [ew2, ew]
  clear hms5 hmb hmc hE hh hq
  unfold core
  refine sx_fld ?_
  repeat walk_at "rc step"
  refine ro_cat .d .d (show 0 + 1 ≤ 100000 by decide) ?_
  repeat walk_at "rc step"
  refine ⟨_, _, _, 6, rfl, rfl, by assumption, by assumption, of_decide_eq_true rfl, ?_⟩
  simp only [List.set_cons_succ, List.set_cons_zero]
  refine hF A rs' dd' a2 (fun x hx => ?_) hl2 hd2
  obtain ⟨r2, h2⟩ := hr2 x hx
  refine ⟨r2, ?_⟩
  rcases List.mem_cons.mp h2 with z | z
  · rw [z]; exact List.mem_cons_self
  · rcases List.mem_cons.mp z with z | z
    · injection z with _ z2
      injection z2 with _ z3
      have h9 : (9 : Nat) = 3 := congrArg List.length z3
      omega
    · exact List.mem_cons_of_mem _ z
local macro_rules | `(tactic| walk_at "rc lst") => `(tactic| with_reducible refine em_lst ?_)
theorem rep_F {n : Nat} : (List.replicate n [D.v (.int 0)]).flatten = intsF n fun _ => 0 := by
  unfold intsF
  rw [List.map_const', List.length_range]
  induction n with
  | zero => rfl
  | succ n ih => rw [List.replicate_succ, List.replicate_succ, List.flatten_cons, ih]; rfl
theorem perm6 {α : Type} {a b c d e f : α} {R : List α} : (a :: b :: c :: d :: e :: f :: R).Perm ([] ++ b :: f :: e :: d :: c :: a :: R) :=
  (List.Perm.swap b a _).trans (((List.reverse_perm [a, c, d, e, f]).symm.append_right R).cons b)
theorem sc_Engine_init : FnScope ["self", "pages", "cells"] ["self", "pages", "cells"] (defScope (inClass (top 50) 0)) := ⟨rfl, rfl, rfl, by decide +kernel, rfl, by decide +kernel, by decide +kernel⟩
theorem kp_Engine_init (W : Wd w K mg base) : PySem.W.keepIn K (.ref (He.fAd K ("Engine", some "__init__"))) = true := W.kp 48
theorem b_Engine_init (W : Wd w K mg base) : Binds K (fdO K (He.fAd K ("Engine", some "__init__"))) ["self", "pages", "cells"] [] := (W.F 48).bindsN fun _ _ _ _ _ _ us hl => match us, hl with | [_, _, _], _ => rfl
def gm_Engine_init [Tbl] (K : PySem.W.Frag) : Gm := fun ds R F => ∃ (p : Addr) (Rr : Rg) (n : Nat) (c : Int), ds = [.v (.ref p), .v (.int n), .v (.int c)] ∧ R = (p, .i (He.ga K "Engine") []) :: Rr ∧ (1 ≤ n ∧ n ≤ 60 ∧ 1 ≤ c ∧ c ≤ 1000000) ∧
  ∀ hA pA dA rA mA, F (.v .non) (core K p ⟨c, 0, 0, hA, pA, dA, rA, mA⟩ n (fun _ => 0) (fun _ => 0) [] [] ((mA, .k (vK (memK []))) :: Rr))
abbrev sp_Engine_init [Tbl] (K : PySem.W.Frag) : Sp := spM (gm_Engine_init K)
theorem ok_Engine_init (W : Wd w K mg base) : FnOk P w K mg base CX0 4 (He.fAd K ("Engine", some "__init__")) (fdO K (He.fAd K ("Engine", some "__init__"))) ["self", "pages", "cells"] (sp_Engine_init K) := by
  refine (W.F 48).ok sc_Engine_init ?_ (fun cdv A outer s H vs Q E hr h => ?_)
  · exact lenM fun ds R F h => by obtain ⟨p, Rr, n, c, rfl, rfl, ⟨hn1, hn2, hc1, hc2⟩, hF⟩ := h; rfl
  have hu64 := hr.units
  have hu := Nat.lt_of_le_of_lt (Nat.add_le_add_left (show 1 ≤ 64 by decide) _) hu64
  refine ⟨_, PSs.nox (pss_cons (ps_expr (pe_call (ok_check_number (K := K) W) (hr.mono (by decide)) rfl (W.glo 11) (kp_check_number W) (b_check_number W) .nil pass0 (pa_cons (pv 1) (pa_cons pe_int (pa_cons (pe_int_g rfl (W.int 68)) pa_nil)))))
    (pss_cons (ps_expr (pe_call (ok_check_number (K := K) W) (hr.mono (by decide)) rfl (W.glo 11) (kp_check_number W) (b_check_number W) .nil pass0 (pa_cons (pv 2) (pa_cons pe_int (pa_cons (pe_int_g rfl (W.int 69)) pa_nil)))))
    (pss_cons (sfldK (K := K) rfl (pv 0) (pv 2) rfl)
    (pss_cons (sfldK (K := K) rfl (pv 0) (pe_op op_rep (pe_lst (pa_cons pe_int pa_nil)) (pv 1)) rfl)
    (pss_cons (sfldK (K := K) rfl (pv 0) (pe_op op_rep (pe_lst (pa_cons pe_int pa_nil)) (pv 1)) rfl)
    (pss_cons (sfldK (K := K) rfl (pv 0) pe_dnewK rfl)
    (pss_cons (sfldK (K := K) rfl (pv 0) (pe_lst pa_nil) rfl)
    (pss_cons (sfldK (K := K) rfl (pv 0) pe_dnewK rfl)
    (pss_cons (sfldK (K := K) rfl (pv 0) pe_int rfl)
    (pss_cons (sfldK (K := K) rfl (pv 0) pe_int rfl)
    (pss_cons (sfldK (K := K) rfl (pv 0) pe_non rfl)
    (pss_one (sfldK (K := K) rfl (pv 0) pe_bl rfl))))))))))))), entryM h ?_⟩
  clear h hu hu64 hr
  rintro ds R F ⟨p, Rr, n, c, rfl, rfl, ⟨hn1, hn2, hc1, hc2⟩, hF⟩
  have cl_Engine : Cls K (He.ga K "Engine") := W.cls 101
  have na_Engine_kept_cells : NoAttr K (He.ga K "Engine") "kept_cells" := W.noat 103
  have na_Engine_kept_home : NoAttr K (He.ga K "Engine") "kept_home" := W.noat 104
  have na_Engine_kept_pool : NoAttr K (He.ga K "Engine") "kept_pool" := W.noat 105
  have na_Engine_kept_dirty : NoAttr K (He.ga K "Engine") "kept_dirty" := W.noat 106
  have na_Engine_kept_rows : NoAttr K (He.ga K "Engine") "kept_rows" := W.noat 107
  have na_Engine_kept_members : NoAttr K (He.ga K "Engine") "kept_members" := W.noat 108
  have na_Engine_kept_next : NoAttr K (He.ga K "Engine") "kept_next" := W.noat 109
  have na_Engine_kept_head : NoAttr K (He.ga K "Engine") "kept_head" := W.noat 110
  have na_Engine_kept_left : NoAttr K (He.ga K "Engine") "kept_left" := W.noat 111
  have na_Engine_kept_down : NoAttr K (He.ga K "Engine") "kept_down" := W.noat 112
  refine sx_post ?_
  repeat walk_at "rc step"
  refine c_check_number ⟨by omega, by omega⟩ ?_
  repeat walk_at "rc step"
  refine c_check_number ⟨by omega, by omega⟩ ?_
  repeat walk_at "rc step"
  refine ro_rep .d (by simp; omega) (by omega) (by omega) fun hA => ?_
  rw [Int.toNat_natCast, rep_F]
  repeat walk_at "rc step"
  refine ⟨_, _, _, 1, rfl, rfl, by assumption, by assumption, of_decide_eq_true rfl, ?_⟩
  simp only [List.set_cons_succ, List.set_cons_zero]
  repeat walk_at "rc step"
  refine ro_rep .d (by simp; omega) (by omega) (by omega) fun pA => ?_
  rw [Int.toNat_natCast, rep_F]
  repeat walk_at "rc step"
  refine ⟨_, _, _, 2, rfl, rfl, by assumption, by assumption, of_decide_eq_true rfl, ?_⟩
  simp only [List.set_cons_succ, List.set_cons_zero]
  repeat walk_at "rc step"
  refine em_dnew fun dA => ?_
  repeat walk_at "rc step"
  refine ⟨_, _, _, 3, rfl, rfl, by assumption, by assumption, of_decide_eq_true rfl, ?_⟩
  simp only [List.set_cons_succ, List.set_cons_zero]
  refine sx_seq (sx_fld (em_lstC (ea_nil ⟨Nat.zero_le _, fun rA => ?_⟩)))
  repeat walk_at "rc step"
  refine ⟨_, _, _, 4, rfl, rfl, by assumption, by assumption, of_decide_eq_true rfl, ?_⟩
  simp only [List.set_cons_succ, List.set_cons_zero]
  repeat walk_at "rc step"
  refine em_dnew fun mA => ?_
  repeat walk_at "rc step"
  refine ⟨_, _, _, 5, rfl, rfl, by assumption, by assumption, of_decide_eq_true rfl, ?_⟩
  simp only [List.set_cons_succ, List.set_cons_zero]
  repeat walk_at "rc step"
  refine ⟨_, _, _, 5, rfl, rfl, by assumption, by assumption, of_decide_eq_true rfl, ?_⟩
  simp only [List.set_cons_succ, List.set_cons_zero]
  repeat walk_at "rc step"
  refine ⟨_, _, _, 5, rfl, rfl, by assumption, by assumption, of_decide_eq_true rfl, ?_⟩
  simp only [List.set_cons_succ, List.set_cons_zero]
  repeat walk_at "rc step"
  refine ⟨_, _, _, 5, rfl, rfl, by assumption, by assumption, of_decide_eq_true rfl, ?_⟩
  simp only [List.set_cons_succ, List.set_cons_zero]
  repeat walk_at "rc step"
  refine ⟨_, _, _, 5, rfl, rfl, by assumption, by assumption, of_decide_eq_true rfl, ?_⟩
  simp only [List.set_cons_succ, List.set_cons_zero]
  refine ⟨_, [], perm6, ?_⟩
  exact hF hA pA dA rA mA
end
end Rc
-- G13
set_option Elab.async false
set_option linter.all false
set_option maxRecDepth 100000
set_option maxHeartbeats 4000000
namespace Rc
open PySem PySem.Spec PyProof.Rows L2 RcHead
local macro_rules | `(tactic| walk_at "rc mem") => `(tactic| first | assumption | exact List.mem_cons_self | ((with_reducible (refine List.mem_cons_of_mem _ ?_)); walk_at "rc mem"))
local macro_rules | `(tactic| walk_at "rc end") => `(tactic| fail)
local macro_rules | `(tactic| walk_at "rc lst") => `(tactic| with_reducible refine em_lst ?_)
local macro_rules | `(tactic| walk_at "rc call") => `(tactic| fail)
local macro_rules | `(tactic| walk_at "rc step") => `(tactic| first
  | ((with_reducible (apply em_var)); rfl)
  | with_reducible refine em_c ?_
  | with_reducible refine em_op ?_
  | with_reducible refine ro_I0 ?_
  | ((with_reducible (refine ro_eq ?_ ?_)); rfl)
  | ((with_reducible (refine ro_ne ?_ ?_)); rfl)
  | with_reducible refine ro_isN ?_
  | with_reducible refine ro_notN ?_
  | with_reducible refine ea_nil ?_
  | with_reducible refine ea_cons ?_
  | with_reducible refine em_call ?_
  | walk_at "rc call"
  | (with_reducible refine em_fld ?_)
  | (refine ⟨_, _, _, _, rfl, (by walk_at "rc mem"), (by assumption), (by assumption), (by rfl), ?_⟩)
  | with_reducible refine ra_listV ?_
  | with_reducible refine em_cb ?_
  | with_reducible refine em_tup ?_
  | walk_at "rc lst"
  | with_reducible refine em_if ?_
  | with_reducible refine em_andV ?_
  | with_reducible refine em_orV ?_
  | with_reducible refine em_notV ?_
  | with_reducible refine em_chain ?_
  | with_reducible refine et_test ?_
  | with_reducible refine et_B ?_
  | with_reducible refine et_and ?_
  | with_reducible refine et_or ?_
  | with_reducible refine et_not ?_
  | with_reducible refine et_yes ?_
  | with_reducible refine sx_seq ?_
  | with_reducible refine sx_next ?_
  | with_reducible refine sx_asg ?_
  | with_reducible refine sx_ret ?_
  | with_reducible refine sx_append ?_
  | with_reducible refine sx_drop ?_
  | with_reducible refine sx_if ?_
  | (refine ⟨_, rfl, ?_⟩)
  | (refine ⟨fun _ => ?_, fun z => Bool.noConfusion z⟩)
  | (refine ⟨fun z => Bool.noConfusion z, fun _ => ?_⟩)
  | with_reducible refine em_make ?_
  | with_reducible refine em_meth ?_
  | (refine ⟨_, _, rfl, (by walk_at "rc mem"), rfl, ?_⟩)
  | with_reducible refine em_neg ?_
  | with_reducible refine sx_fld ?_
  | (refine ⟨_, _, _, 0, rfl, rfl, (by assumption), (by assumption), (of_decide_eq_true rfl), ?_⟩)
  | ((with_reducible (apply ra_len)); (first | exact .l .d | exact .t | exact .l (.c (by walk_at "rc mem"))))
  | ((with_reducible (apply ra_lenK)); (walk_at "rc mem"))
  | ((with_reducible (apply ro_ixL)); (first | exact .d | exact .c (by walk_at "rc mem")); (first | rfl | exact atI_0))
  | ((with_reducible (apply ro_ixT)); rfl)
  | (with_reducible (refine gx_name ?_ (by decide)))
  | ((with_reducible (apply gx_tupR)); rfl)
  | with_reducible refine gxs_cons ?_
  | with_reducible refine gxs_nil ?_
  | (exact ⟨rfl, rfl⟩)
  | (refine ⟨rfl, ?_⟩)
  | with_reducible refine em_dget ?_
  | with_reducible refine sx_lockAsg ?_
  | with_reducible refine em_din ?_
  | with_reducible refine em_dnotIn ?_
  | ((with_reducible (apply sx_aug)); rfl)
  | with_reducible refine sx_setL ?_
  | with_reducible refine sx_dput ?_
  | with_reducible refine gx_fld ?_
  | (with_reducible (apply sx_fldAug))
  | ((with_reducible (apply sx_rz)); assumption)
  | (refine ⟨(by simp only [List.length_cons, List.length_nil]; omega), ?_⟩))
section
variable [Tbl] {P : Program} {w : World} {K : PySem.W.Frag} {mg : Str → Option Value} {base : Heap}
/-! ### the law's book -/
structure Wt where
  place : Int
  page : Int
  before : Int
  after : Int
  undo : Int
abbrev wtD (w : Wt) : D := .t [.v (.int w.place), .v (.int w.page), .v (.int w.before), .v (.int w.after), .v (.int w.undo)]
structure Dd where
  no : Int
  ends : Int
  a : Addr
  w : Addr
  wr : List Wt
def ddFs (d : Dd) : List (Key × D) := [(.inr "end", .v (.int d.ends)), (.inr "writes", .v (.ref d.w))]
structure Bk where
  cells : Int
  head : Int
  nxt : Int
  homeA : Addr
  dirtyA : Addr
  poolA : Addr
  deedsA : Addr
def bkFs (B : Bk) : List (Key × D) := [(.inr "cells", .v (.int B.cells)), (.inr "head", .v (.int B.head)), (.inr "home", .v (.ref B.homeA)), (.inr "dirty", .v (.ref B.dirtyA)), (.inr "pool", .v (.ref B.poolA)), (.inr "deeds", .v (.ref B.deedsA)), (.inr "next", .v (.int B.nxt)), (.inr "left", .v .non), (.inr "down", .v (.bl false))]
def ddK (ds : List Dd) : List (Key × V) := ds.map fun d => (.inl d.no, .ref d.a)
structure DdIn (d : Dd) (R : Rg) : Prop where
  c : (d.a, RC.k (ddFs d)) ∈ R
  w : (d.w, RC.l (d.wr.map wtD)) ∈ R
  z : d.wr.length ≤ 1000
structure DsIn (B : Bk) (ds : List Dd) (R : Rg) : Prop where
  k : IsK R B.deedsA (vK (ddK ds))
  d : ∀ d ∈ ds, DdIn d R
  srt : ds.Pairwise fun a b => a.no < b.no
  z : ds.length ≤ 60
theorem lk_dd {ds : List Dd} {b : Dd} (m : b ∈ ds) (srt : ds.Pairwise fun a b => a.no < b.no) : lkK (vK (ddK ds)) (.inl b.no) = some (.v (.ref b.a)) := by
  induction ds with
  | nil => cases m
  | cons c r ih =>
    obtain ⟨h1, h2⟩ := List.pairwise_cons.mp srt
    rcases List.mem_cons.mp m with e | e
    · subst e
      unfold lkK vK ddK
      rw [List.map_cons, List.map_cons, List.find?_cons_of_pos (by simp)]
      rfl
    · have ne : c.no ≠ b.no := by have := h1 b e; omega
      have h := ih e h2
      unfold lkK vK ddK at h ⊢
      rw [List.map_cons, List.map_cons, List.find?_cons_of_neg (by simpa using ne)]
      exact h
def fstV (d : Dd) : V := match d.wr with
  | [] => .non
  | w :: _ => .int w.place
def needI (d : Dd) : Int := (d.wr.map fun w => w.undo).sum
local macro_rules | `(tactic| walk_at "rc get") => `(tactic| first
  | (refine ⟨_, _, .inr _, _, rfl, .k (by assumption), rfl, rfl, ?_⟩)
  | (refine ⟨_, _, .inl _, _, rfl, (by assumption), rfl, (by assumption), ?_⟩))
theorem lenw_pos {d : Dd} : (decide (0 < ((d.wr.map wtD).length : Int))) = !d.wr.isEmpty := by
  obtain ⟨no, ends, a, w, wr⟩ := d
  cases wr <;> simp
theorem sc_l_first : FnScope ["_law_book_here", "_law_deed", "_law_writes"] ["_law_book_here", "_law_deed"] (defScope (top 57)) := ⟨rfl, rfl, rfl, by decide +kernel, rfl, by decide +kernel, by decide +kernel⟩
theorem kp_l_first (W : Wd w K mg base) : PySem.W.keepIn K (.ref (He.fAd K ("_law_first", none))) = true := W.kp 17
theorem b_l_first (W : Wd w K mg base) : Binds K (fdO K (He.fAd K ("_law_first", none))) ["_law_book_here", "_law_deed"] [] := (W.F 17).bindsN fun _ _ _ _ _ _ us hl => match us, hl with | [_, _], _ => rfl
def gm_l_first [Tbl] : Gm := fun ds R F => ∃ (bk : Addr) (B : Bk) (dl : List Dd) (d : Dd), ds = [.v (.ref bk), .v (.int d.no)] ∧ (bk, RC.k (bkFs B)) ∈ R ∧ DsIn B dl R ∧ d ∈ dl ∧ F (.v (fstV d)) R
abbrev sp_l_first [Tbl] : Sp := spM (gm_l_first)
theorem c_l_first [Tbl] {H0 : Hp} {R0 R : Rg} {Ex : XK} {F : D → Rg → Prop} {bk : Addr} {B : Bk} {dl : List Dd} {d : Dd} (h1 : (bk, RC.k (bkFs B)) ∈ R) (h2 : DsIn B dl R) (h3 : d ∈ dl) (k : F (.v (fstV d)) R) : RS H0 R0 sp_l_first Ex [.v (.ref bk), .v (.int d.no)] R F := rs_m ⟨bk, B, dl, d, rfl, h1, h2, h3, k⟩
theorem ok_l_first (W : Wd w K mg base) : FnOk P w K mg base CX0 1 (He.fAd K ("_law_first", none)) (fdO K (He.fAd K ("_law_first", none))) ["_law_book_here", "_law_deed"] (sp_l_first) := by
  refine (W.F 17).ok sc_l_first ?_ (fun cdv A outer s H vs Q E hr h => ?_)
  · exact lenM fun ds R F h => by obtain ⟨bk, B, dl, d, rfl, hB, hds, hm, hF⟩ := h; rfl
  have hu64 := hr.units
  have hu := Nat.lt_of_le_of_lt (Nat.add_le_add_left (show 1 ≤ 64 by decide) _) hu64
  refine ⟨_, PSs.nox (pss_cons (ps_set (i := 2) sc_l_first.nd rfl (.inl rfl) (pe_dget hu (pe_dget hu (pe_dget hu (pv 0) pe_str (fun _ _ => rfl)) (pv 1) (fun _ _ => rfl)) pe_str (fun _ _ => rfl)))
    (pss_one (ps_ret (pe_ifExp (pt_cmpR op_gt (pe_callB (lenK (K := K) rfl) rfl (W.free 49) (by decide +kernel) (pa_cons (pv 2) pa_nil)) pe_int (nomark _)) (pe_ix (ixtK (K := K) rfl) (pe_ix (ixlK (K := K) rfl) (pv 2) pe_int (fun _ _ => rfl)) pe_int (fun _ _ => rfl)) pe_non)))), entryM h ?_⟩
  clear h hu hu64 hr
  rintro ds R F ⟨bk, B, dl, d, rfl, hB, hds, hm, hF⟩
  have hk := hds.k
  have lk := lk_dd hm hds.srt
  have hc := (hds.d d hm).c
  have hw := (hds.d d hm).w
  repeat walk_at "rc step"
  walk_at "rc get"
  repeat walk_at "rc step"
  walk_at "rc get"
  repeat walk_at "rc step"
  walk_at "rc get"
  repeat walk_at "rc step"
  rw [lenw_pos]
  obtain ⟨no, ends, a, w, wr⟩ := d
  cases wr with
  | nil =>
    repeat walk_at "rc step"
    exact hF
  | cons x r =>
    repeat walk_at "rc step"
    exact hF
theorem sc_l_need : FnScope ["_law_book_here", "_law_deed", "_law_write"] ["_law_book_here", "_law_deed"] (defScope (top 58)) := ⟨rfl, rfl, rfl, by decide +kernel, rfl, by decide +kernel, by decide +kernel⟩
theorem kp_l_need (W : Wd w K mg base) : PySem.W.keepIn K (.ref (He.fAd K ("_law_need", none))) = true := W.kp 18
theorem b_l_need (W : Wd w K mg base) : Binds K (fdO K (He.fAd K ("_law_need", none))) ["_law_book_here", "_law_deed"] [] := (W.F 18).bindsN fun _ _ _ _ _ _ us hl => match us, hl with | [_, _], _ => rfl
def gm_l_need [Tbl] : Gm := fun ds R F => ∃ (bk : Addr) (B : Bk) (dl : List Dd) (d : Dd), ds = [.v (.ref bk), .v (.int d.no)] ∧ (bk, RC.k (bkFs B)) ∈ R ∧ DsIn B dl R ∧ d ∈ dl ∧ F (.v (.int (needI d))) R
abbrev sp_l_need [Tbl] : Sp := spM (gm_l_need)
theorem c_l_need [Tbl] {H0 : Hp} {R0 R : Rg} {Ex : XK} {F : D → Rg → Prop} {bk : Addr} {B : Bk} {dl : List Dd} {d : Dd} (h1 : (bk, RC.k (bkFs B)) ∈ R) (h2 : DsIn B dl R) (h3 : d ∈ dl) (k : F (.v (.int (needI d))) R) : RS H0 R0 sp_l_need Ex [.v (.ref bk), .v (.int d.no)] R F := rs_m ⟨bk, B, dl, d, rfl, h1, h2, h3, k⟩
theorem ok_l_need (W : Wd w K mg base) : FnOk P w K mg base CX0 1 (He.fAd K ("_law_need", none)) (fdO K (He.fAd K ("_law_need", none))) ["_law_book_here", "_law_deed"] (sp_l_need) := by
  refine (W.F 18).ok sc_l_need ?_ (fun cdv A outer s H vs Q E hr h => ?_)
  · exact lenM fun ds R F h => by obtain ⟨bk, B, dl, d, rfl, hB, hds, hm, hF⟩ := h; rfl
  have hu64 := hr.units
  have hu := Nat.lt_of_le_of_lt (Nat.add_le_add_left (show 1 ≤ 64 by decide) _) hu64
  refine ⟨_, PSs.nox (pss_one (ps_ret (pe_callB (sumK (K := K) rfl rfl) rfl (W.free 50) (by decide +kernel) (pa_cons (pe_lc (own := [("_law_write", 2)]) (g := (gName 2)) rfl sc_l_need.nd (ilistK (K := K) rfl (pe_dget hu (pe_dget hu (pe_dget hu (pv 0) pe_str (fun _ _ => rfl)) (pv 1) (fun _ _ => rfl)) pe_str (fun _ _ => rfl))) (blkOk_by (show blkC ["_law_book_here", "_law_deed", "_law_write"] (defScope (top 58)) _ [("_law_write", 2)] = true by decide +kernel)) (fun _ _ _ _ _ => (pg_name (i := 2) sc_l_need.nd rfl (.inl rfl))) (fun _ _ _ _ _ => pts_nil) (fun _ _ _ _ _ => (pe_ix (ixtK (K := K) rfl) (pv 2) pe_int (fun _ _ => rfl)))) pa_nil)))), entryM h ?_⟩
  clear h hu hu64 hr
  rintro ds R F ⟨bk, B, dl, d, rfl, hB, hds, hm, hF⟩
  have hk := hds.k
  have lk := lk_dd hm hds.srt
  have hc := (hds.d d hm).c
  have hw := (hds.d d hm).w
  refine sx_ret (em_cb (ea_cons (em_lcI ?_)))
  repeat walk_at "rc step"
  walk_at "rc get"
  repeat walk_at "rc step"
  walk_at "rc get"
  repeat walk_at "rc step"
  walk_at "rc get"
  refine ⟨_, d.wr, wtD, fun w => some (.v (.int w.undo)), .c hw, Nat.le_trans (hds.d d hm).z (by decide), fun x hx H1 Rx hs => ?_, ?_⟩
  · repeat walk_at "rc step"
  repeat walk_at "rc step"
  refine ra_sum (ns := d.wr.map fun w : Wt => w.undo) ?_ ?_
  · rw [fm_some, List.map_map]
    exact .d
  · exact hF
def optV : Option Int → V
  | some i => .int i
  | none => .non
abbrev itD (t : Int × Option Int × Int) : D := .t [.v (.int t.1), .v (optV t.2.1), .v (.int t.2.2)]
def frs (its : List (Int × Option Int × Int)) : List (Int × Int × Int) := its.filterMap fun t => t.2.1.map fun f => (f, t.1, t.2.2)
def unf (t : Int × Int × Int) : Int × Option Int × Int := (t.2.1, some t.1, t.2.2)
theorem frs_D : ∀ its : List (Int × Option Int × Int), (its.filterMap fun t => t.2.1.map fun f => triD (f, t.1, t.2.2)) = (frs its).map triD
  | [] => rfl
  | (a, none, c) :: l => by
    have := frs_D l
    unfold frs at this ⊢
    rw [List.filterMap_cons, List.filterMap_cons]
    exact this
  | (a, some f, c) :: l => by
    have := frs_D l
    unfold frs at this ⊢
    rw [List.filterMap_cons, List.filterMap_cons]
    exact congrArg _ this
theorem fm_none : ∀ its : List (Int × Option Int × Int), (its.filterMap fun t => if t.2.1.isNone = true then some (itD t) else none) = (its.filter fun t => t.2.1.isNone).map itD
  | [] => rfl
  | t :: l => by
    rw [List.filterMap_cons, List.filter_cons, fm_none l]
    cases c : t.2.1.isNone <;> simp
theorem sc_l_by_age : FnScope ["_law_items_here", "_law_some", "_law_deed", "_law_first_here", "_law_need_here", "_law_item"] ["_law_items_here"] (defScope (top 60)) := ⟨rfl, rfl, rfl, by decide +kernel, rfl, by decide +kernel, by decide +kernel⟩
theorem kp_l_by_age (W : Wd w K mg base) : PySem.W.keepIn K (.ref (He.fAd K ("_law_by_age", none))) = true := W.kp 20
theorem b_l_by_age (W : Wd w K mg base) : Binds K (fdO K (He.fAd K ("_law_by_age", none))) ["_law_items_here"] [] := (W.F 20).bindsN fun _ _ _ _ _ _ us hl => match us, hl with | [_], _ => rfl
def gm_l_by_age [Tbl] : Gm := fun ds R F => ∃ (d : D) (its : List (Int × Option Int × Int)), ds = [d] ∧ IsL R d (its.map itD) ∧ its.length ≤ 60 ∧ (∀ t ∈ frs its, TS.Bd (2 ^ 60) [t.1, t.2.1, t.2.2]) ∧
  ∀ ys : List (Int × Int × Int), ys.Perm (frs its) → ys.Pairwise (fun x y => x.1 ≤ y.1) → F (.l ((ys.map unf ++ its.filter fun t => t.2.1.isNone).map itD)) R
abbrev sp_l_by_age [Tbl] : Sp := spM (gm_l_by_age)
theorem c_l_by_age [Tbl] {H0 : Hp} {R0 R : Rg} {Ex : XK} {F : D → Rg → Prop} {d : D} {its : List (Int × Option Int × Int)} (h1 : IsL R d (its.map itD)) (h2 : its.length ≤ 60) (h3 : ∀ t ∈ frs its, TS.Bd (2 ^ 60) [t.1, t.2.1, t.2.2]) (k : ∀ ys : List (Int × Int × Int), ys.Perm (frs its) → ys.Pairwise (fun x y => x.1 ≤ y.1) → F (.l ((ys.map unf ++ its.filter fun t => t.2.1.isNone).map itD)) R) : RS H0 R0 sp_l_by_age Ex [d] R F := rs_m ⟨d, its, rfl, h1, h2, h3, k⟩
theorem ok_l_by_age (W : Wd w K mg base) : FnOk P w K mg base CX0 1 (He.fAd K ("_law_by_age", none)) (fdO K (He.fAd K ("_law_by_age", none))) ["_law_items_here"] (sp_l_by_age) := by
  refine (W.F 20).ok sc_l_by_age ?_ (fun cdv A outer s H vs Q E hr h => ?_)
  · exact lenM fun ds R F h => by obtain ⟨d, its, rfl, hl, hz, hb, hF⟩ := h; rfl
  have hu64 := hr.units
  have hu := Nat.lt_of_le_of_lt (Nat.add_le_add_left (show 1 ≤ 64 by decide) _) hu64
  refine ⟨_, PSs.nox (pss_cons (ps_set (i := 1) sc_l_by_age.nd rfl (.inl rfl) (pe_callB (sortTK (K := K) rfl) rfl (W.free 51) (by decide +kernel) (pa_cons (pe_lc (own := [("_law_deed", 2), ("_law_first_here", 3), ("_law_need_here", 4)]) (g := (gTup K 3 (gCons (gName 2) (gCons (gName 3) (gCons (gName 4) gNil))))) rfl sc_l_by_age.nd (ilistK (K := K) rfl (pv 0)) (blkOk_by (show blkC ["_law_items_here", "_law_some", "_law_deed", "_law_first_here", "_law_need_here", "_law_item"] (defScope (top 60)) _ [("_law_deed", 2), ("_law_first_here", 3), ("_law_need_here", 4)] = true by decide +kernel)) (fun _ _ _ _ _ => (gtupK (K := K) (n := 3) rfl rfl (pgs_cons (pg_name (i := 2) sc_l_by_age.nd rfl (.inl rfl)) (pgs_cons (pg_name (i := 3) sc_l_by_age.nd rfl (.inl rfl)) (pgs_cons (pg_name (i := 4) sc_l_by_age.nd rfl (.inl rfl)) pgs_nil))))) (fun _ _ _ _ _ => (pts_one (pt_cmpR op_notN (pv 3) pe_non (nomark _)))) (fun _ _ _ _ _ => (pe_tup (pa_cons (pv 3) (pa_cons (pv 2) (pa_cons (pv 4) pa_nil)))))) pa_nil)))
    (pss_one (ps_ret (pe_op op_cat (pe_lc (own := [("_law_first_here", 3), ("_law_deed", 2), ("_law_need_here", 4)]) (g := (gTup K 3 (gCons (gName 3) (gCons (gName 2) (gCons (gName 4) gNil))))) rfl sc_l_by_age.nd (ilistK (K := K) rfl (pv 1)) (blkOk_by (show blkC ["_law_items_here", "_law_some", "_law_deed", "_law_first_here", "_law_need_here", "_law_item"] (defScope (top 60)) _ [("_law_first_here", 3), ("_law_deed", 2), ("_law_need_here", 4)] = true by decide +kernel)) (fun _ _ _ _ _ => (gtupK (K := K) (n := 3) rfl rfl (pgs_cons (pg_name (i := 3) sc_l_by_age.nd rfl (.inl rfl)) (pgs_cons (pg_name (i := 2) sc_l_by_age.nd rfl (.inl rfl)) (pgs_cons (pg_name (i := 4) sc_l_by_age.nd rfl (.inl rfl)) pgs_nil))))) (fun _ _ _ _ _ => pts_nil) (fun _ _ _ _ _ => (pe_tup (pa_cons (pv 2) (pa_cons (pv 3) (pa_cons (pv 4) pa_nil)))))) (pe_lc (own := [("_law_item", 5)]) (g := (gName 5)) rfl sc_l_by_age.nd (ilistK (K := K) rfl (pv 0)) (blkOk_by (show blkC ["_law_items_here", "_law_some", "_law_deed", "_law_first_here", "_law_need_here", "_law_item"] (defScope (top 60)) _ [("_law_item", 5)] = true by decide +kernel)) (fun _ _ _ _ _ => (pg_name (i := 5) sc_l_by_age.nd rfl (.inl rfl))) (fun _ _ _ _ _ => (pts_one (pt_cmpR op_isN (pe_ix (ixtK (K := K) rfl) (pv 5) pe_int (fun _ _ => rfl)) pe_non (nomark _)))) (fun _ _ _ _ _ => (pv 5))))))), entryM h ?_⟩
  clear h hu hu64 hr
  rintro ds R F ⟨d, its, rfl, hl, hz, hb, hF⟩
  refine sx_seq (sx_asg (em_cb (ea_cons (em_lcI ?_))))
  repeat walk_at "rc step"
  refine ⟨_, its, itD, fun t => t.2.1.map fun f => triD (f, t.1, t.2.2), hl, Nat.le_trans hz (by decide), fun t ht H1 Rx hs => ?_, ?_⟩
  · obtain ⟨a, o, c⟩ := t
    cases o with
    | none =>
      repeat walk_at "rc step"
      rfl
    | some f => repeat walk_at "rc step"
  rw [frs_D]
  repeat walk_at "rc step"
  have hlen : (frs its).length ≤ 60 := Nat.le_trans (List.length_filterMap_le _ _) hz
  refine ra_sortT .d (by omega) hb fun ys hp hs => ?_
  have hl2 : ys.length ≤ 60 := by rw [hp.length_eq]; exact hlen
  refine sx_ret (em_op (em_lcI ?_))
  repeat walk_at "rc step"
  refine ⟨_, ys, triD, fun t => some (itD (unf t)), .d, by omega, fun t ht H1 Rx hs => ?_, ?_⟩
  · unfold triD
    repeat walk_at "rc step"
  refine em_lcI ?_
  repeat walk_at "rc step"
  refine ⟨_, its, itD, fun t => if t.2.1.isNone = true then some (itD t) else none, hl, Nat.le_trans hz (by decide), fun t ht H1 Rx hs => ?_, ?_⟩
  · obtain ⟨a, o, c⟩ := t
    cases o with
    | none => repeat walk_at "rc step"
    | some f =>
      repeat walk_at "rc step"
      rfl
  rw [fm_none, fm_some]
  refine ro_cat .d .d ?_ ?_
  · rw [List.length_map, List.length_map]
    have := List.length_filter_le (fun t : Int × Option Int × Int => t.2.1.isNone) its
    omega
  have := hF ys hp hs
  rw [List.map_append, List.map_map] at this
  exact this
local macro_rules | `(tactic| walk_at "rc get") => `(tactic| first
  | (refine ⟨_, _, .inr _, _, rfl, .k (by assumption), rfl, rfl, ?_⟩)
  | (refine ⟨_, _, .inl _, _, rfl, (by assumption), rfl, (by assumption), ?_⟩))
local macro_rules | `(tactic| walk_at "rc call") => `(tactic| first | ((with_reducible (apply c_l_first)); assumption; assumption; assumption) | ((with_reducible (apply c_l_need)); assumption; assumption; assumption))
def optF (d : Dd) : Option Int := match d.wr with
  | [] => none
  | w :: _ => some w.place
theorem optF_V (d : Dd) : optV (optF d) = fstV d := by
  obtain ⟨no, ends, a, w, wr⟩ := d
  cases wr <;> rfl
def itsOf (dl : List Dd) : List (Int × Option Int × Int) := dl.map fun d => (d.no, optF d, needI d)
theorem sc_l_items : FnScope ["_law_book_here", "_law_some", "_law_deed"] ["_law_book_here"] (defScope (top 59)) := ⟨rfl, rfl, rfl, by decide +kernel, rfl, by decide +kernel, by decide +kernel⟩
theorem kp_l_items (W : Wd w K mg base) : PySem.W.keepIn K (.ref (He.fAd K ("_law_items", none))) = true := W.kp 19
theorem b_l_items (W : Wd w K mg base) : Binds K (fdO K (He.fAd K ("_law_items", none))) ["_law_book_here"] [] := (W.F 19).bindsN fun _ _ _ _ _ _ us hl => match us, hl with | [_], _ => rfl
def gm_l_items [Tbl] : Gm := fun ds R F => ∃ (bk : Addr) (B : Bk) (dl : List Dd), ds = [.v (.ref bk)] ∧ (bk, RC.k (bkFs B)) ∈ R ∧ (B.deedsA, RC.k (vK (ddK dl))) ∈ R ∧ DsIn B dl R ∧ (∀ t ∈ frs (itsOf dl), TS.Bd (2 ^ 60) [t.1, t.2.1, t.2.2]) ∧
  ∀ ys : List (Int × Int × Int), ys.Perm (frs (itsOf dl)) → ys.Pairwise (fun x y => x.1 ≤ y.1) → F (.l ((ys.map unf ++ (itsOf dl).filter fun t => t.2.1.isNone).map itD)) R
abbrev sp_l_items [Tbl] : Sp := spM (gm_l_items)
theorem c_l_items [Tbl] {H0 : Hp} {R0 R : Rg} {Ex : XK} {F : D → Rg → Prop} {bk : Addr} {B : Bk} {dl : List Dd} (h1 : (bk, RC.k (bkFs B)) ∈ R) (h2 : (B.deedsA, RC.k (vK (ddK dl))) ∈ R) (h3 : DsIn B dl R) (h4 : ∀ t ∈ frs (itsOf dl), TS.Bd (2 ^ 60) [t.1, t.2.1, t.2.2]) (k : ∀ ys : List (Int × Int × Int), ys.Perm (frs (itsOf dl)) → ys.Pairwise (fun x y => x.1 ≤ y.1) → F (.l ((ys.map unf ++ (itsOf dl).filter fun t => t.2.1.isNone).map itD)) R) : RS H0 R0 sp_l_items Ex [.v (.ref bk)] R F := rs_m ⟨bk, B, dl, rfl, h1, h2, h3, h4, k⟩
theorem ok_l_items (W : Wd w K mg base) : FnOk P w K mg base CX0 2 (He.fAd K ("_law_items", none)) (fdO K (He.fAd K ("_law_items", none))) ["_law_book_here"] (sp_l_items) := by
  refine (W.F 19).ok sc_l_items ?_ (fun cdv A outer s H vs Q E hr h => ?_)
  · exact lenM fun ds R F h => by obtain ⟨bk, B, dl, rfl, hB, hk, hds, hb, hF⟩ := h; rfl
  have hu64 := hr.units
  have hu := Nat.lt_of_le_of_lt (Nat.add_le_add_left (show 1 ≤ 64 by decide) _) hu64
  refine ⟨_, PSs.nox (pss_cons (ps_setLc (i := 1) (own := [("_law_deed", 2)]) (g := (gName 2)) rfl sc_l_items.nd rfl rfl (sw_true rfl rfl rfl (by decide +kernel)) (ilistK (K := K) rfl (pe_callB (sortDI rfl) rfl (W.free 51) (by decide +kernel) (pa_cons (pe_dget hu (pv 0) pe_str (fun _ _ => rfl)) pa_nil))) (blkOk_by (show blkC ["_law_book_here", "_law_some", "_law_deed"] (defScope (top 59)) _ [("_law_deed", 2)] = true by decide +kernel)) (fun _ _ _ _ _ => (pg_name (i := 2) sc_l_items.nd rfl (.inl rfl))) (fun _ _ _ _ _ => pts_nil) (fun _ _ _ _ _ => (pe_tup (pa_cons (pv 2) (pa_cons (pe_call (ok_l_first (K := K) W) (hr.mono (by decide)) rfl (W.glo 17) (kp_l_first W) (b_l_first W) .nil pass0 (pa_cons (pv 0) (pa_cons (pv 2) pa_nil))) (pa_cons (pe_call (ok_l_need (K := K) W) (hr.mono (by decide)) rfl (W.glo 18) (kp_l_need W) (b_l_need W) .nil pass0 (pa_cons (pv 0) (pa_cons (pv 2) pa_nil))) pa_nil))))))
    (pss_one (ps_ret (pe_call (ok_l_by_age (K := K) W) (hr.mono (by decide)) rfl (W.glo 20) (kp_l_by_age W) (b_l_by_age W) .nil pass0 (pa_cons (pv 1) pa_nil))))), entryM h ?_⟩
  clear h hu hu64 hr
  rintro ds R F ⟨bk, B, dl, rfl, hB, hk, hds, hb, hF⟩
  refine sx_seq (sx_asg (em_lcI ?_))
  repeat walk_at "rc step"
  walk_at "rc get"
  repeat walk_at "rc step"
  refine ra_sortDI (kvs := ddK dl) (ks := dl.map (·.no)) hk (by unfold ddK; rw [List.map_map, List.map_map]; rfl) (by rw [List.length_map]; exact Nat.lt_of_le_of_lt hds.z (by decide)) fun ys hp hs => ?_
  have ey := sort_eq hp hs (by rw [List.pairwise_map]; exact hds.srt)
  subst ey
  refine ⟨_, dl, fun d => .v (.int d.no), fun d => some (itD (d.no, optF d, needI d)), by rw [List.map_map]; exact .d, Nat.le_trans hds.z (by decide), fun d hd H1 Rx hs => ?_, ?_⟩
  · have hB' := hs _ hB
    have hds' : DsIn B dl Rx := ⟨by
      cases hds.k with
      | k m => exact .k (hs _ m)
      | z o m => exact .z o (hs _ m), fun d hd => ⟨hs _ (hds.d d hd).c, hs _ (hds.d d hd).w, (hds.d d hd).z⟩, hds.srt, hds.z⟩
    repeat walk_at "rc step"
    rw [← optF_V]
    repeat walk_at "rc step"
  rw [fm_some]
  repeat walk_at "rc step"
  have e : (dl.map fun d => itD (d.no, optF d, needI d)) = (itsOf dl).map itD := by unfold itsOf; rw [List.map_map]; rfl
  rw [e]
  exact c_l_by_age .d (by unfold itsOf; rw [List.length_map]; exact hds.z) hb hF
end
end Rc
-- G14
set_option Elab.async false
set_option linter.all false
set_option maxRecDepth 100000
set_option maxHeartbeats 4000000
namespace Rc
open PySem PySem.Spec PyProof.Rows L2 RcHead
local macro_rules | `(tactic| walk_at "rc mem") => `(tactic| first | assumption | exact List.mem_cons_self | ((with_reducible (refine List.mem_cons_of_mem _ ?_)); walk_at "rc mem"))
local macro_rules | `(tactic| walk_at "rc end") => `(tactic| fail)
local macro_rules | `(tactic| walk_at "rc lst") => `(tactic| with_reducible refine em_lst ?_)
local macro_rules | `(tactic| walk_at "rc call") => `(tactic| fail)
local macro_rules | `(tactic| walk_at "rc step") => `(tactic| first
  | ((with_reducible (apply em_var)); rfl)
  | with_reducible refine em_c ?_
  | with_reducible refine em_op ?_
  | with_reducible refine ro_I0 ?_
  | ((with_reducible (refine ro_eq ?_ ?_)); rfl)
  | ((with_reducible (refine ro_ne ?_ ?_)); rfl)
  | with_reducible refine ro_isN ?_
  | with_reducible refine ro_notN ?_
  | with_reducible refine ea_nil ?_
  | with_reducible refine ea_cons ?_
  | with_reducible refine em_call ?_
  | walk_at "rc call"
  | (with_reducible refine em_fld ?_)
  | (refine ⟨_, _, _, _, rfl, (by walk_at "rc mem"), (by assumption), (by assumption), (by rfl), ?_⟩)
  | with_reducible refine ra_listV ?_
  | with_reducible refine em_cb ?_
  | with_reducible refine em_tup ?_
  | walk_at "rc lst"
  | with_reducible refine em_if ?_
  | with_reducible refine em_andV ?_
  | with_reducible refine em_orV ?_
  | with_reducible refine em_notV ?_
  | with_reducible refine em_chain ?_
  | with_reducible refine et_test ?_
  | with_reducible refine et_B ?_
  | with_reducible refine et_and ?_
  | with_reducible refine et_or ?_
  | with_reducible refine et_not ?_
  | with_reducible refine et_yes ?_
  | with_reducible refine sx_seq ?_
  | with_reducible refine sx_next ?_
  | with_reducible refine sx_asg ?_
  | with_reducible refine sx_ret ?_
  | with_reducible refine sx_append ?_
  | with_reducible refine sx_drop ?_
  | with_reducible refine sx_if ?_
  | (refine ⟨_, rfl, ?_⟩)
  | (refine ⟨fun _ => ?_, fun z => Bool.noConfusion z⟩)
  | (refine ⟨fun z => Bool.noConfusion z, fun _ => ?_⟩)
  | with_reducible refine em_make ?_
  | with_reducible refine em_meth ?_
  | (refine ⟨_, _, rfl, (by walk_at "rc mem"), rfl, ?_⟩)
  | with_reducible refine em_neg ?_
  | with_reducible refine sx_fld ?_
  | (refine ⟨_, _, _, 0, rfl, rfl, (by assumption), (by assumption), (of_decide_eq_true rfl), ?_⟩)
  | ((with_reducible (apply ra_len)); (first | exact .l .d | exact .t | exact .l (.c (by walk_at "rc mem"))))
  | ((with_reducible (apply ra_lenK)); (walk_at "rc mem"))
  | ((with_reducible (apply ro_ixL)); (first | exact .d | exact .c (by walk_at "rc mem")); (first | rfl | exact atI_0))
  | ((with_reducible (apply ro_ixT)); rfl)
  | (with_reducible (refine gx_name ?_ (by decide)))
  | ((with_reducible (apply gx_tupR)); rfl)
  | with_reducible refine gxs_cons ?_
  | with_reducible refine gxs_nil ?_
  | (exact ⟨rfl, rfl⟩)
  | (refine ⟨rfl, ?_⟩)
  | with_reducible refine em_dget ?_
  | with_reducible refine sx_lockAsg ?_
  | with_reducible refine em_din ?_
  | with_reducible refine em_dnotIn ?_
  | ((with_reducible (apply sx_aug)); rfl)
  | with_reducible refine sx_setL ?_
  | with_reducible refine sx_dput ?_
  | with_reducible refine gx_fld ?_
  | (with_reducible (apply sx_fldAug))
  | ((with_reducible (apply sx_rz)); assumption)
  | (refine ⟨(by simp only [List.length_cons, List.length_nil]; omega), ?_⟩))
section
variable [Tbl] {P : Program} {w : World} {K : PySem.W.Frag} {mg : Str → Option Value} {base : Heap}
local macro_rules | `(tactic| walk_at "rc get") => `(tactic| first
  | (refine ⟨_, _, .inr _, _, rfl, .k (by walk_at "rc mem"), rfl, rfl, ?_⟩)
  | (refine ⟨_, _, .inl _, _, rfl, (by assumption), rfl, (by assumption), ?_⟩))
def ldB (h : Int) (its : List (Int × Option Int × Int)) (i : Nat) : Int := match (its.getD i (0, none, 0)).2.1 with
  | none => (its.getD i (0, none, 0)).2.2
  | some f => h - f + ((its.take (i + 1)).map fun t => t.2.2).sum
def hvB (c h : Int) (its : List (Int × Option Int × Int)) : Nat → Nat
  | 0 => 0
  | k + 1 => if c < ldB h its k then k + 1 else hvB c h its k
theorem hvB_le (c h : Int) (its : List (Int × Option Int × Int)) : ∀ k, hvB c h its k ≤ k
  | 0 => Nat.le_refl _
  | k + 1 => by
    unfold hvB
    split
    · exact Nat.le_refl _
    · exact Nat.le_succ_of_le (hvB_le c h its k)
theorem sc_l_heavy : FnScope ["_law_book_here", "_law_items_here", "_law_cells", "_law_total", "_law_many", "_law_at", "_law_deed", "_law_first_here", "_law_need_here", "_law_load", "_law_item"] ["_law_book_here", "_law_items_here", "_law_cells"] (defScope (top 61)) := ⟨rfl, rfl, rfl, by decide +kernel, rfl, by decide +kernel, by decide +kernel⟩
theorem kp_l_heavy (W : Wd w K mg base) : PySem.W.keepIn K (.ref (He.fAd K ("_law_heavy", none))) = true := W.kp 21
theorem b_l_heavy (W : Wd w K mg base) : Binds K (fdO K (He.fAd K ("_law_heavy", none))) ["_law_book_here", "_law_items_here", "_law_cells"] [] := (W.F 21).bindsN fun _ _ _ _ _ _ us hl => match us, hl with | [_, _, _], _ => rfl
def gm_l_heavy [Tbl] : Gm := fun ds R F => ∃ (bk : Addr) (B : Bk) (its : List (Int × Option Int × Int)) (c : Int), ds = [.v (.ref bk), .l (its.map itD), .v (.int c)] ∧ (bk, RC.k (bkFs B)) ∈ R ∧ its.length ≤ 100 ∧
  F (if hvB B.cells (B.head + c) its its.length = 0 then .v .non else .t ((its.take (hvB B.cells (B.head + c) its its.length)).map fun t => .v (.int t.1))) R
abbrev sp_l_heavy [Tbl] : Sp := spM (gm_l_heavy)
theorem c_l_heavy [Tbl] {H0 : Hp} {R0 R : Rg} {Ex : XK} {F : D → Rg → Prop} {bk : Addr} {B : Bk} {its : List (Int × Option Int × Int)} {c : Int} (h1 : (bk, RC.k (bkFs B)) ∈ R) (h2 : its.length ≤ 100) (k : F (if hvB B.cells (B.head + c) its its.length = 0 then .v .non else .t ((its.take (hvB B.cells (B.head + c) its its.length)).map fun t => .v (.int t.1))) R) : RS H0 R0 sp_l_heavy Ex [.v (.ref bk), .l (its.map itD), .v (.int c)] R F := rs_m ⟨bk, B, its, c, rfl, h1, h2, k⟩
theorem ok_l_heavy (W : Wd w K mg base) : FnOk P w K mg base CX0 1 (He.fAd K ("_law_heavy", none)) (fdO K (He.fAd K ("_law_heavy", none))) ["_law_book_here", "_law_items_here", "_law_cells"] (sp_l_heavy) := by
  refine (W.F 21).ok sc_l_heavy ?_ (fun cdv A outer s H vs Q E hr h => ?_)
  · exact lenM fun ds R F h => by obtain ⟨bk, B, its, c, rfl, hB, hz, hF⟩ := h; rfl
  have hu64 := hr.units
  have hu := Nat.lt_of_le_of_lt (Nat.add_le_add_left (show 1 ≤ 64 by decide) _) hu64
  refine ⟨_, PSs.nox (pss_cons (ps_asg (pe_tup (pa_cons pe_int (pa_cons pe_int pa_nil))) (gtupK (K := K) (n := 2) rfl rfl (pgs_cons (pg_name (i := 3) sc_l_heavy.nd rfl (.inl rfl)) (pgs_cons (pg_name (i := 4) sc_l_heavy.nd rfl (.inl rfl)) pgs_nil))))
    (pss_cons (ps_for PassesOwn.never rfl (ienumK (K := K) rfl rfl (W.free 57) (pa_cons (pv 1) pa_nil)) (gtupK (K := K) (n := 2) rfl rfl (pgs_cons (pg_name (i := 5) sc_l_heavy.nd rfl (.inl rfl)) (pgs_cons (gtupK (K := K) (n := 3) rfl rfl (pgs_cons (pg_name (i := 6) sc_l_heavy.nd rfl (.inl rfl)) (pgs_cons (pg_name (i := 7) sc_l_heavy.nd rfl (.inl rfl)) (pgs_cons (pg_name (i := 8) sc_l_heavy.nd rfl (.inl rfl)) pgs_nil)))) pgs_nil)))
    (pss_cons (ps_set (i := 3) sc_l_heavy.nd rfl (.inl rfl) (pe_op op_add (pv 3) (pv 8)))
    (pss_cons (ps_set (i := 9) sc_l_heavy.nd rfl (.inl rfl) (pe_ifExp (pt_cmpR op_isN (pv 7) pe_non (nomark _)) (pv 8) (pe_op op_add (pe_op op_sub (pe_op op_add (pe_dget hu (pv 0) pe_str (fun _ _ => rfl)) (pv 2)) (pv 7)) (pv 3))))
    (pss_one (ps_if (pt_cmpR op_gt (pv 9) (pe_dget hu (pv 0) pe_str (fun _ _ => rfl)) (nomark _))
    (pss_one (ps_set (i := 4) sc_l_heavy.nd rfl (.inl rfl) (pe_op op_add (pv 5) pe_int)))
    pss_nil)))))
    (pss_one (ps_ret (pe_ifExp (pt_cmpR op_gt (pv 4) pe_int (nomark _)) (pe_callTy (tupK (K := K) rfl) rfl (W.free 60) (by decide +kernel) (pa_cons (pe_lc (own := [("_law_item", 10)]) (g := (gName 10)) rfl sc_l_heavy.nd (ilistK (K := K) rfl (pe_slice (sllK (K := K) rfl) (pv 1) po_none (po_some (pv 4)))) (blkOk_by (show blkC ["_law_book_here", "_law_items_here", "_law_cells", "_law_total", "_law_many", "_law_at", "_law_deed", "_law_first_here", "_law_need_here", "_law_load", "_law_item"] (defScope (top 61)) _ [("_law_item", 10)] = true by decide +kernel)) (fun _ _ _ _ _ => (pg_name (i := 10) sc_l_heavy.nd rfl (.inl rfl))) (fun _ _ _ _ _ => pts_nil) (fun _ _ _ _ _ => (pe_ix (ixtK (K := K) rfl) (pv 10) pe_int (fun _ _ => rfl)))) pa_nil)) pe_non))))), entryM h ?_⟩
  clear h hu hu64 hr
  rintro ds R F ⟨bk, B, its, c, rfl, hB, hz, hF⟩
  refine sx_seq (sx_asgG (js := [3, 4]) ?_)
  repeat walk_at "rc step"
  refine sx_for [5, 6, 7, 8] (ei_enumD ?_)
  repeat walk_at "rc step"
  refine ⟨fun i g' R' => i ≤ its.length ∧ (∃ o5 o6 o7 o8 o9 o10, g' = [some (.v (.ref bk)), some (.l (its.map itD)), some (.v (.int c)), some (.v (.int ((its.take i).map fun t => t.2.2).sum)), some (.v (.int ((hvB B.cells (B.head + c) its i : Nat) : Int))), o5, o6, o7, o8, o9, o10]) ∧ R' = R, its.length, ⟨Nat.zero_le _, ⟨none, none, none, none, none, none, rfl⟩, rfl⟩, ?_⟩
  rintro i g' R' ⟨hi, ⟨o5, o6, o7, o8, o9, o10, rfl⟩, rfl⟩
  by_cases hlt : i < its.length
  · refine .inr ⟨hlt, _, ⟨itD its[i], by rw [List.getElem?_map, List.getElem?_eq_getElem hlt]; rfl, rfl⟩, fun H1 => ?_⟩
    have tk : ((its.take (i + 1)).map fun t => t.2.2).sum = ((its.take i).map fun t => t.2.2).sum + its[i].2.2 := by
      rw [List.take_add_one, List.getElem?_eq_getElem hlt, List.map_append, List.sum_append]
      simp
    have gd : its.getD i (0, none, 0) = its[i] := by rw [List.getD_eq_getElem?_getD, List.getElem?_eq_getElem hlt]; rfl
    have key : ∀ (load : Int) (E1 : Es), load = ldB (B.head + c) its i → (∀ g' R'', (i + 1 ≤ its.length ∧ (∃ o5 o6 o7 o8 o9 o10, g' = [some (.v (.ref bk)), some (.l (its.map itD)), some (.v (.int c)), some (.v (.int ((its.take (i + 1)).map fun t => t.2.2).sum)), some (.v (.int ((hvB B.cells (B.head + c) its (i + 1) : Nat) : Int))), o5, o6, o7, o8, o9, o10]) ∧ R'' = R') → E1.nx g' R'') → SX H1 R' (tIfS (tTest (tOp (rI0 fun i j => V.bl (decide (j < i))) (tVar 9) (tDGet (tVar 0) (tC (.str "cells"))))) (tAsg (tOp (rI0 fun i j => V.int (i + j)) (tVar 5) (tC (.int 1))) (gName 4)) tNext)
        [some (.v (.ref bk)), some (.l (its.map itD)), some (.v (.int c)), some (.v (.int (((its.take i).map fun t => t.2.2).sum + its[i].2.2))), some (.v (.int ((hvB B.cells (B.head + c) its i : Nat) : Int))), some (.v (.int (i : Nat))), some (.v (.int its[i].1)), some (.v (optV its[i].2.1)), some (.v (.int its[i].2.2)), some (.v (.int load)), o10] R'
        E1 := fun load E1 hl hE1 => by
      repeat walk_at "rc step"
      walk_at "rc get"
      repeat walk_at "rc step"
      refine ⟨fun h => ?_, fun h => ?_⟩
      · have h' : B.cells < ldB (B.head + c) its i := by rw [← hl]; exact of_decide_eq_true h
        repeat walk_at "rc step"
        refine hE1 _ _ ⟨hlt, ?_, rfl⟩
        rw [tk]
        have e : hvB B.cells (B.head + c) its (i + 1) = i + 1 := if_pos h'
        rw [e]
        exact ⟨_, _, _, _, _, _, rfl⟩
      · have h' : ¬ B.cells < ldB (B.head + c) its i := by rw [← hl]; exact of_decide_eq_false h
        repeat walk_at "rc step"
        refine hE1 _ _ ⟨hlt, ?_, rfl⟩
        rw [tk]
        have e : hvB B.cells (B.head + c) its (i + 1) = hvB B.cells (B.head + c) its i := if_neg h'
        rw [e]
        exact ⟨_, _, _, _, _, _, rfl⟩
    generalize (tIfS (tTest (tOp (rI0 fun i j => V.bl (decide (j < i))) (tVar 9) (tDGet (tVar 0) (tC (.str "cells"))))) (tAsg (tOp (rI0 fun i j => V.int (i + j)) (tVar 5) (tC (.int 1))) (gName 4)) tNext) = T at key ⊢
    repeat walk_at "rc step"
    cases ho : its[i].2.1 with
    | none =>
      repeat walk_at "rc step"
      have kk := fun E1 => key its[i].2.2 E1 (by unfold ldB; rw [gd, ho])
      rw [ho] at kk
      refine kk _ ?_
      exact fun g' R'' z => z
    | some f =>
      repeat walk_at "rc step"
      walk_at "rc get"
      repeat walk_at "rc step"
      refine ro_I0 (j := f) ?_
      repeat walk_at "rc step"
      have kk := fun E1 => key (B.head + c - f + (((its.take i).map fun t => t.2.2).sum + its[i].2.2)) E1 (by unfold ldB; rw [gd, ho, tk])
      rw [ho] at kk
      refine kk _ ?_
      exact fun g' R'' z => z
  · refine .inl ⟨by rw [List.length_map]; omega, ?_⟩
    have ei : i = its.length := by omega
    subst ei
    repeat walk_at "rc step"
    by_cases h0 : hvB B.cells (B.head + c) its its.length = 0
    · rw [if_pos h0] at hF
      rw [h0]
      repeat walk_at "rc step"
      exact hF
    · rw [if_neg h0] at hF
      refine ⟨fun _ => ?_, fun h => ?_⟩
      · refine em_cb (ea_cons (em_lcI (em_slL ?_)))
        repeat walk_at "rc step"
        refine eo_none ?_
        refine eo_some ?_
        repeat walk_at "rc step"
        refine ⟨_, .d, ?_⟩
        rw [cut_take, ← List.map_take]
        refine ⟨_, its.take (hvB B.cells (B.head + c) its its.length), itD, fun t => some (.v (.int t.1)), .d, by rw [List.length_take]; omega, fun t ht H1 Rx hs => ?_, ?_⟩
        · repeat walk_at "rc step"
        repeat walk_at "rc step"
        rw [fm_some]
        exact ra_tupL .d hF
      · have := of_decide_eq_false h
        omega
end
end Rc
-- G15
set_option Elab.async false
set_option linter.all false
set_option maxRecDepth 100000
set_option maxHeartbeats 4000000
namespace Rc
open PySem PySem.Spec PyProof.Rows L2 RcHead
local macro_rules | `(tactic| walk_at "rc mem") => `(tactic| first | assumption | exact List.mem_cons_self | ((with_reducible (refine List.mem_cons_of_mem _ ?_)); walk_at "rc mem"))
local macro_rules | `(tactic| walk_at "rc end") => `(tactic| fail)
local macro_rules | `(tactic| walk_at "rc lst") => `(tactic| with_reducible refine em_lst ?_)
local macro_rules | `(tactic| walk_at "rc call") => `(tactic| fail)
local macro_rules | `(tactic| walk_at "rc step") => `(tactic| first
  | ((with_reducible (apply em_var)); rfl)
  | with_reducible refine em_c ?_
  | with_reducible refine em_op ?_
  | with_reducible refine ro_I0 ?_
  | ((with_reducible (refine ro_eq ?_ ?_)); rfl)
  | ((with_reducible (refine ro_ne ?_ ?_)); rfl)
  | with_reducible refine ro_isN ?_
  | with_reducible refine ro_notN ?_
  | with_reducible refine ea_nil ?_
  | with_reducible refine ea_cons ?_
  | with_reducible refine em_call ?_
  | walk_at "rc call"
  | (with_reducible refine em_fld ?_)
  | (refine ⟨_, _, _, _, rfl, (by walk_at "rc mem"), (by assumption), (by assumption), (by rfl), ?_⟩)
  | with_reducible refine ra_listV ?_
  | with_reducible refine em_cb ?_
  | with_reducible refine em_tup ?_
  | walk_at "rc lst"
  | with_reducible refine em_if ?_
  | with_reducible refine em_andV ?_
  | with_reducible refine em_orV ?_
  | with_reducible refine em_notV ?_
  | with_reducible refine em_chain ?_
  | with_reducible refine et_test ?_
  | with_reducible refine et_B ?_
  | with_reducible refine et_and ?_
  | with_reducible refine et_or ?_
  | with_reducible refine et_not ?_
  | with_reducible refine et_yes ?_
  | with_reducible refine sx_seq ?_
  | with_reducible refine sx_next ?_
  | with_reducible refine sx_asg ?_
  | with_reducible refine sx_ret ?_
  | with_reducible refine sx_append ?_
  | with_reducible refine sx_drop ?_
  | with_reducible refine sx_if ?_
  | (refine ⟨_, rfl, ?_⟩)
  | (refine ⟨fun _ => ?_, fun z => Bool.noConfusion z⟩)
  | (refine ⟨fun z => Bool.noConfusion z, fun _ => ?_⟩)
  | with_reducible refine em_make ?_
  | with_reducible refine em_meth ?_
  | (refine ⟨_, _, rfl, (by walk_at "rc mem"), rfl, ?_⟩)
  | with_reducible refine em_neg ?_
  | with_reducible refine sx_fld ?_
  | (refine ⟨_, _, _, 0, rfl, rfl, (by assumption), (by assumption), (of_decide_eq_true rfl), ?_⟩)
  | ((with_reducible (apply ra_len)); (first | exact .l .d | exact .t | exact .l (.c (by walk_at "rc mem"))))
  | ((with_reducible (apply ra_lenK)); (walk_at "rc mem"))
  | ((with_reducible (apply ro_ixL)); (first | exact .d | exact .c (by walk_at "rc mem")); (first | rfl | exact atI_0))
  | ((with_reducible (apply ro_ixT)); rfl)
  | (with_reducible (refine gx_name ?_ (by decide)))
  | ((with_reducible (apply gx_tupR)); rfl)
  | with_reducible refine gxs_cons ?_
  | with_reducible refine gxs_nil ?_
  | (exact ⟨rfl, rfl⟩)
  | (refine ⟨rfl, ?_⟩)
  | with_reducible refine em_dget ?_
  | with_reducible refine sx_lockAsg ?_
  | with_reducible refine em_din ?_
  | with_reducible refine em_dnotIn ?_
  | ((with_reducible (apply sx_aug)); rfl)
  | with_reducible refine sx_setL ?_
  | with_reducible refine sx_dput ?_
  | with_reducible refine gx_fld ?_
  | (with_reducible (apply sx_fldAug))
  | ((with_reducible (apply sx_rz)); assumption)
  | (refine ⟨(by simp only [List.length_cons, List.length_nil]; omega), ?_⟩))
section
variable [Tbl] {P : Program} {w : World} {K : PySem.W.Frag} {mg : Str → Option Value} {base : Heap}
local macro_rules | `(tactic| walk_at "rc get") => `(tactic| first
  | (refine ⟨_, _, .inr _, _, rfl, .k (by walk_at "rc mem"), rfl, rfl, ?_⟩)
  | (refine ⟨_, _, .inl _, _, rfl, (by assumption), rfl, (by assumption), ?_⟩))
def optL (n : Nat) (bd : Nat → Option Int) : List D := (List.range n).map fun i => .v (optV (bd i))
section
variable {n p : Nat} {bd : Nat → Option Int}
theorem len_O : (optL n bd).length = n := by simp [optL]
theorem atI_O (h : p < n) : atI (optL n bd) (p : Int) = some (.v (optV (bd p))) := by
  unfold atI ixN
  simp [optL, h]
theorem ixN_O (h : p < n) : ixN (optL n bd).length (p : Int) = some p := by
  unfold ixN
  simp [len_O, h]
theorem set_O {o : Option Int} (h : p < n) : (optL n bd).set p (.v (optV o)) = optL n (fun i => if i = p then o else bd i) := by
  refine List.ext_getElem? fun i => ?_
  unfold optL
  rw [List.getElem?_set]
  by_cases c : p = i
  · subst c
    simp [h]
  · rw [if_neg c]
    by_cases l : i < n
    · simp [l, Ne.symm c]
    · simp [l]
end
def bcore (bk : Addr) (B : Bk) (n : Nat) (home pool : Nat → Int) (bd : Nat → Option Int) (rest : Rg) : Rg :=
  (bk, .k (bkFs B)) :: (B.homeA, .l (intsF n home)) :: (B.dirtyA, .l (optL n bd)) :: (B.poolA, .l (intsF n pool)) :: rest
theorem sub4 {R : Rg} {c1 c2 c3 c4 : Addr × RC} : ∀ c ∈ R, c ∈ c1 :: c2 :: c3 :: c4 :: R := fun c h => List.mem_cons_of_mem _ (List.mem_cons_of_mem _ (List.mem_cons_of_mem _ (List.mem_cons_of_mem _ h)))
theorem DsIn.sub {B : Bk} {dl : List Dd} {R R' : Rg} (h : DsIn B dl R) (s : ∀ c ∈ R, c ∈ R') : DsIn B dl R' := ⟨by
  cases h.k with
  | k m => exact .k (s _ m)
  | z o m => exact .z o (s _ m), fun d hd => ⟨s _ (h.d d hd).c, s _ (h.d d hd).w, (h.d d hd).z⟩, h.srt, h.z⟩
def tlL (dl : List Dd) (n : Nat) (bd : Nat → Option Int) : List (Option Int) := dl.map optF ++ (List.range n).map bd
theorem sc_l_bring : FnScope ["_law_book_here", "_law_page"] ["_law_book_here", "_law_page"] (defScope (top 65)) := ⟨rfl, rfl, rfl, by decide +kernel, rfl, by decide +kernel, by decide +kernel⟩
theorem kp_l_bring (W : Wd w K mg base) : PySem.W.keepIn K (.ref (He.fAd K ("_law_bring", none))) = true := W.kp 25
theorem b_l_bring (W : Wd w K mg base) : Binds K (fdO K (He.fAd K ("_law_bring", none))) ["_law_book_here", "_law_page"] [] := (W.F 25).bindsN fun _ _ _ _ _ _ us hl => match us, hl with | [_, _], _ => rfl
def gm_l_bring [Tbl] : Gm := fun ds R F => ∃ (bk : Addr) (B : Bk) (n : Nat) (home pool : Nat → Int) (bd : Nat → Option Int) (rest : Rg) (p : Nat), ds = [.v (.ref bk), .v (.int p)] ∧ R = bcore bk B n home pool bd rest ∧ p < n ∧
  F (.v .non) (bcore bk B n (fun i => if i = p then pool p else home i) pool (fun i => if i = p then none else bd i) rest)
abbrev sp_l_bring [Tbl] : Sp := spM (gm_l_bring)
theorem c_l_bring [Tbl] {H0 : Hp} {R0 : Rg} {Ex : XK} {F : D → Rg → Prop} {bk : Addr} {B : Bk} {n : Nat} {home pool : Nat → Int} {bd : Nat → Option Int} {rest : Rg} {p : Nat} (h : p < n) (k : F (.v .non) (bcore bk B n (fun i => if i = p then pool p else home i) pool (fun i => if i = p then none else bd i) rest)) : RS H0 R0 sp_l_bring Ex [.v (.ref bk), .v (.int p)] (bcore bk B n home pool bd rest) F := rs_m ⟨bk, B, n, home, pool, bd, rest, p, rfl, rfl, h, k⟩
theorem ok_l_bring (W : Wd w K mg base) : FnOk P w K mg base CX0 1 (He.fAd K ("_law_bring", none)) (fdO K (He.fAd K ("_law_bring", none))) ["_law_book_here", "_law_page"] (sp_l_bring) := by
  refine (W.F 25).ok sc_l_bring ?_ (fun cdv A outer s H vs Q E hr h => ?_)
  · exact lenM fun ds R F h => by obtain ⟨bk, B, n, home, pool, bd, rest, p, rfl, rfl, hp, hF⟩ := h; rfl
  have hu64 := hr.units
  have hu := Nat.lt_of_le_of_lt (Nat.add_le_add_left (show 1 ≤ 64 by decide) _) hu64
  refine ⟨_, PSs.nox (pss_cons (ps_asg (pe_ix (ixlK (K := K) rfl) (pe_dget hu (pv 0) pe_str (fun _ _ => rfl)) (pv 1) (fun _ _ => rfl)) (pg_sub (pe_dget hu (pv 0) pe_str (fun _ _ => rfl)) (pv 1) set_list))
    (pss_one (ps_asg pe_non (pg_sub (pe_dget hu (pv 0) pe_str (fun _ _ => rfl)) (pv 1) set_list)))), entryM h ?_⟩
  clear h hu hu64 hr
  rintro ds R F ⟨bk, B, n, home, pool, bd, rest, p, rfl, rfl, hp, hF⟩
  unfold bcore
  repeat walk_at "rc step"
  walk_at "rc get"
  repeat walk_at "rc step"
  refine ro_ixL (.c (by walk_at "rc mem")) (atI_F hp) ?_
  repeat walk_at "rc step"
  walk_at "rc get"
  repeat walk_at "rc step"
  refine ⟨_, _, _, p, 1, rfl, rfl, rfl, ixN_F hp, ?_⟩
  rw [set_F hp]
  simp only [List.set_cons_succ, List.set_cons_zero]
  repeat walk_at "rc step"
  walk_at "rc get"
  repeat walk_at "rc step"
  refine ⟨_, _, _, p, 2, rfl, rfl, rfl, ixN_O hp, ?_⟩
  have e := set_O (o := none) (bd := bd) hp
  rw [show (D.v V.non) = D.v (optV none) from rfl, e]
  simp only [List.set_cons_succ, List.set_cons_zero]
  exact hF
theorem sc_l_set : FnScope ["_law_book_here", "_law_page", "_law_number", "_law_place"] ["_law_book_here", "_law_page", "_law_number", "_law_place"] (defScope (top 66)) := ⟨rfl, rfl, rfl, by decide +kernel, rfl, by decide +kernel, by decide +kernel⟩
theorem kp_l_set (W : Wd w K mg base) : PySem.W.keepIn K (.ref (He.fAd K ("_law_set", none))) = true := W.kp 26
theorem b_l_set (W : Wd w K mg base) : Binds K (fdO K (He.fAd K ("_law_set", none))) ["_law_book_here", "_law_page", "_law_number", "_law_place"] [] := (W.F 26).bindsN fun _ _ _ _ _ _ us hl => match us, hl with | [_, _, _, _], _ => rfl
def gm_l_set [Tbl] : Gm := fun ds R F => ∃ (bk : Addr) (B : Bk) (n : Nat) (home pool : Nat → Int) (bd : Nat → Option Int) (rest : Rg) (p : Nat) (x pl : Int), ds = [.v (.ref bk), .v (.int p), .v (.int x), .v (.int pl)] ∧ R = bcore bk B n home pool bd rest ∧ p < n ∧
  F (.v .non) (bcore bk B n home (plP true p x pool) (plD true p pl bd) rest)
abbrev sp_l_set [Tbl] : Sp := spM (gm_l_set)
theorem c_l_set [Tbl] {H0 : Hp} {R0 : Rg} {Ex : XK} {F : D → Rg → Prop} {bk : Addr} {B : Bk} {n : Nat} {home pool : Nat → Int} {bd : Nat → Option Int} {rest : Rg} {p : Nat} {x pl : Int} (h : p < n) (k : F (.v .non) (bcore bk B n home (plP true p x pool) (plD true p pl bd) rest)) : RS H0 R0 sp_l_set Ex [.v (.ref bk), .v (.int p), .v (.int x), .v (.int pl)] (bcore bk B n home pool bd rest) F := rs_m ⟨bk, B, n, home, pool, bd, rest, p, x, pl, rfl, rfl, h, k⟩
theorem ok_l_set (W : Wd w K mg base) : FnOk P w K mg base CX0 1 (He.fAd K ("_law_set", none)) (fdO K (He.fAd K ("_law_set", none))) ["_law_book_here", "_law_page", "_law_number", "_law_place"] (sp_l_set) := by
  refine (W.F 26).ok sc_l_set ?_ (fun cdv A outer s H vs Q E hr h => ?_)
  · exact lenM fun ds R F h => by obtain ⟨bk, B, n, home, pool, bd, rest, p, x, pl, rfl, rfl, hp, hF⟩ := h; rfl
  have hu64 := hr.units
  have hu := Nat.lt_of_le_of_lt (Nat.add_le_add_left (show 1 ≤ 64 by decide) _) hu64
  refine ⟨_, PSs.nox (pss_cons (ps_asg (pv 2) (pg_sub (pe_dget hu (pv 0) pe_str (fun _ _ => rfl)) (pv 1) set_list))
    (pss_one (ps_if (pt_cmpR op_isN (pe_ix (ixlK (K := K) rfl) (pe_dget hu (pv 0) pe_str (fun _ _ => rfl)) (pv 1) (fun _ _ => rfl)) pe_non (nomark _))
    (pss_one (ps_asg (pv 3) (pg_sub (pe_dget hu (pv 0) pe_str (fun _ _ => rfl)) (pv 1) set_list)))
    pss_nil))), entryM h ?_⟩
  clear h hu hu64 hr
  rintro ds R F ⟨bk, B, n, home, pool, bd, rest, p, x, pl, rfl, rfl, hp, hF⟩
  unfold bcore
  repeat walk_at "rc step"
  walk_at "rc get"
  repeat walk_at "rc step"
  refine ⟨_, _, _, p, 3, rfl, rfl, rfl, ixN_F hp, ?_⟩
  rw [set_F hp]
  simp only [List.set_cons_succ, List.set_cons_zero]
  have eP : (fun i => if i = p then x else pool i) = plP true p x pool := by
    funext i
    simp [plP]
  rw [eP]
  repeat walk_at "rc step"
  walk_at "rc get"
  repeat walk_at "rc step"
  refine ro_ixL (.c (by walk_at "rc mem")) (atI_O hp) ?_
  cases hb : bd p with
  | some v =>
    have eD : plD true p pl bd = bd := by
      funext i
      unfold plD
      by_cases c : i = p
      · subst c
        rw [if_pos ⟨rfl, rfl⟩, hb]
      · rw [if_neg (by simp [c])]
    rw [eD] at hF
    repeat walk_at "rc step"
    exact hF
  | none =>
    have eD : (fun i => if i = p then some pl else bd i) = plD true p pl bd := by
      funext i
      unfold plD
      by_cases c : i = p
      · subst c
        rw [if_pos rfl, if_pos ⟨rfl, rfl⟩, hb]
      · rw [if_neg c, if_neg (by simp [c])]
    repeat walk_at "rc step"
    walk_at "rc get"
    repeat walk_at "rc step"
    refine ⟨_, _, _, p, 2, rfl, rfl, rfl, ixN_O hp, ?_⟩
    have e := set_O (o := some pl) (bd := bd) hp
    rw [show (D.v (V.int pl)) = D.v (optV (some pl)) from rfl, e, eD]
    simp only [List.set_cons_succ, List.set_cons_zero]
    exact hF
local macro_rules | `(tactic| walk_at "rc call") => `(tactic| first | ((with_reducible (apply c_l_first)); assumption; assumption; assumption) | ((with_reducible (apply c_l_need)); assumption; assumption; assumption))
theorem sc_l_tail : FnScope ["_law_book_here", "_law_firsts", "_law_deed", "_law_first_here"] ["_law_book_here"] (defScope (top 63)) := ⟨rfl, rfl, rfl, by decide +kernel, rfl, by decide +kernel, by decide +kernel⟩
theorem kp_l_tail (W : Wd w K mg base) : PySem.W.keepIn K (.ref (He.fAd K ("_law_tail", none))) = true := W.kp 23
theorem b_l_tail (W : Wd w K mg base) : Binds K (fdO K (He.fAd K ("_law_tail", none))) ["_law_book_here"] [] := (W.F 23).bindsN fun _ _ _ _ _ _ us hl => match us, hl with | [_], _ => rfl
def gm_l_tail [Tbl] : Gm := fun ds R F => ∃ (bk : Addr) (B : Bk) (dl : List Dd) (n : Nat) (bd : Nat → Option Int), ds = [.v (.ref bk)] ∧ (bk, RC.k (bkFs B)) ∈ R ∧ (B.deedsA, RC.k (vK (ddK dl))) ∈ R ∧ DsIn B dl R ∧ (B.dirtyA, RC.l (optL n bd)) ∈ R ∧ n ≤ 60 ∧
  ∀ m, m ∈ (tlL dl n bd).filterMap id ++ [B.head] → (∀ y, y ∈ (tlL dl n bd).filterMap id ++ [B.head] → m ≤ y) → F (.v (.int m)) R
abbrev sp_l_tail [Tbl] : Sp := spM (gm_l_tail)
theorem c_l_tail [Tbl] {H0 : Hp} {R0 R : Rg} {Ex : XK} {F : D → Rg → Prop} {bk : Addr} {B : Bk} {dl : List Dd} {n : Nat} {bd : Nat → Option Int} (h1 : (bk, RC.k (bkFs B)) ∈ R) (h2 : (B.deedsA, RC.k (vK (ddK dl))) ∈ R) (h3 : DsIn B dl R) (h4 : (B.dirtyA, RC.l (optL n bd)) ∈ R) (h5 : n ≤ 60) (k : ∀ m, m ∈ (tlL dl n bd).filterMap id ++ [B.head] → (∀ y, y ∈ (tlL dl n bd).filterMap id ++ [B.head] → m ≤ y) → F (.v (.int m)) R) : RS H0 R0 sp_l_tail Ex [.v (.ref bk)] R F := rs_m ⟨bk, B, dl, n, bd, rfl, h1, h2, h3, h4, h5, k⟩
theorem ok_l_tail (W : Wd w K mg base) : FnOk P w K mg base CX0 2 (He.fAd K ("_law_tail", none)) (fdO K (He.fAd K ("_law_tail", none))) ["_law_book_here"] (sp_l_tail) := by
  refine (W.F 23).ok sc_l_tail ?_ (fun cdv A outer s H vs Q E hr h => ?_)
  · exact lenM fun ds R F h => by obtain ⟨bk, B, dl, n, bd, rfl, hB, hk, hds, hd, hz, hF⟩ := h; rfl
  have hu64 := hr.units
  have hu := Nat.lt_of_le_of_lt (Nat.add_le_add_left (show 1 ≤ 64 by decide) _) hu64
  refine ⟨_, PSs.nox (pss_cons (ps_set (i := 1) sc_l_tail.nd rfl (.inl rfl) (pe_op op_cat (pe_lock (pe_lc (own := [("_law_deed", 2)]) (g := (gName 2)) rfl sc_l_tail.nd (pi_keys (pe_dget hu (pv 0) pe_str (fun _ _ => rfl))) (blkOk_by (show blkC ["_law_book_here", "_law_firsts", "_law_deed", "_law_first_here"] (defScope (top 63)) _ [("_law_deed", 2)] = true by decide +kernel)) (fun _ _ _ _ _ => (pg_name (i := 2) sc_l_tail.nd rfl (.inl rfl))) (fun _ _ _ _ _ => pts_nil) (fun _ _ _ _ _ => (pe_call (ok_l_first (K := K) W) (hr.mono (by decide)) rfl (W.glo 17) (kp_l_first W) (b_l_first W) .nil pass0 (pa_cons (pv 0) (pa_cons (pv 2) pa_nil)))))) (pe_dget hu (pv 0) pe_str (fun _ _ => rfl))))
    (pss_one (ps_ret (pe_callB (minK (K := K) rfl rfl) rfl (W.free 52) (by decide +kernel) (pa_cons (pe_op op_cat (pe_lc (own := [("_law_first_here", 3)]) (g := (gName 3)) rfl sc_l_tail.nd (ilistK (K := K) rfl (pv 1)) (blkOk_by (show blkC ["_law_book_here", "_law_firsts", "_law_deed", "_law_first_here"] (defScope (top 63)) _ [("_law_first_here", 3)] = true by decide +kernel)) (fun _ _ _ _ _ => (pg_name (i := 3) sc_l_tail.nd rfl (.inl rfl))) (fun _ _ _ _ _ => (pts_one (pt_cmpR op_notN (pv 3) pe_non (nomark _)))) (fun _ _ _ _ _ => (pv 3))) (pe_lst (pa_cons (pe_dget hu (pv 0) pe_str (fun _ _ => rfl)) pa_nil))) pa_nil))))), entryM h ?_⟩
  clear h hu hu64 hr
  rintro ds R F ⟨bk, B, dl, n, bd, rfl, hB, hk, hds, hd, hz, hF⟩
  obtain ⟨nn, hn⟩ := List.mem_iff_getElem?.mp hk
  have hneB : ((bk, RC.k (bkFs B)) : Addr × RC) ≠ (B.deedsA, RC.k (vK (ddK dl))) := fun z => by
    injection z with _ z2
    injection z2 with z3
    cases dl with
    | nil => exact absurd z3 (by simp [bkFs, ddK])
    | cons x r => injection z3 with z4 _; injection z4 with z5 _; cases z5
  have hneD : ∀ d : Dd, ((d.a, RC.k (ddFs d)) : Addr × RC) ≠ (B.deedsA, RC.k (vK (ddK dl))) := fun d z => by
    injection z with _ z2
    injection z2 with z3
    cases dl with
    | nil => exact absurd z3 (by simp [ddFs, ddK])
    | cons x r => injection z3 with z4 _; injection z4 with z5 _; cases z5
  have hz2 : dl.length ≤ 60 := hds.z
  refine sx_seq (sx_asg (em_op ?_))
  refine em_lockK hn (fun d => some (.v (optV (optF d)))) (Nat.le_trans hds.z (by decide)) (fun o => ?_) (fun o d hd' H1 Rx hs => ?_) ?_
  · have hB2 : (bk, RC.k (bkFs B)) ∈ R.set nn (B.deedsA, .fz o (vK (ddK dl))) := mem_set_ne hB hn hneB
    repeat walk_at "rc step"
    walk_at "rc get"
    exact ⟨rfl, rfl⟩
  · have hB2 : (bk, RC.k (bkFs B)) ∈ Rx := hs _ (mem_set_ne hB hn hneB)
    have hds2 : DsIn B dl Rx := ⟨.z o (hs _ (List.mem_of_getElem? (getElem?_set_it hn))), fun d hd => ⟨hs _ (mem_set_ne (hds.d d hd).c hn (hneD d)), hs _ (mem_set_ne (hds.d d hd).w hn (by simp)), (hds.d d hd).z⟩, hds.srt, hds.z⟩
    repeat walk_at "rc step"
    rw [optF_V]
    exact c_l_first hB2 hds2 hd' ⟨rfl, rfl⟩
  rw [fm_some]
  repeat walk_at "rc step"
  walk_at "rc get"
  refine ro_cat .d (.c hd) (by rw [List.length_map, len_O]; omega) ?_
  have e1 : (dl.map fun d => D.v (optV (optF d))) ++ optL n bd = (tlL dl n bd).map fun o => .v (optV o) := by
    unfold tlL optL
    rw [List.map_append, List.map_map, List.map_map]
    rfl
  rw [e1]
  refine sx_ret (em_cb (ea_cons (em_op (em_lcI ?_))))
  repeat walk_at "rc step"
  have hl : (tlL dl n bd).length ≤ 120 := by
    unfold tlL
    rw [List.length_append, List.length_map, List.length_map, List.length_range]
    omega
  refine ⟨_, tlL dl n bd, fun o => .v (optV o), fun o => o.map fun x => .v (.int x), .d, by omega, fun o ho H1 Rx hs => ?_, ?_⟩
  · cases o with
    | none =>
      repeat walk_at "rc step"
      rfl
    | some v => repeat walk_at "rc step"
  have e2 : ((tlL dl n bd).filterMap fun o => o.map fun x => D.v (.int x)) = ((tlL dl n bd).filterMap id).map fun x => D.v (.int x) := by
    rw [List.map_filterMap]
    rfl
  rw [e2]
  repeat walk_at "rc step"
  walk_at "rc get"
  repeat walk_at "rc step"
  refine ro_cat .d .d ?_ ?_
  · rw [List.length_map]
    have := List.length_filterMap_le id (tlL dl n bd)
    simp
    omega
  repeat walk_at "rc step"
  refine ra_min (ns := (tlL dl n bd).filterMap id ++ [B.head]) ?_ ?_ hF
  · rw [List.map_append]
    exact .d
  · rw [List.length_append]
    simp
end
end Rc
-- G16
set_option Elab.async false
set_option linter.all false
set_option maxRecDepth 100000
set_option maxHeartbeats 4000000
namespace Rc
open PySem PySem.Spec PyProof.Rows L2 RcHead
local macro_rules | `(tactic| walk_at "rc mem") => `(tactic| first | assumption | exact List.mem_cons_self | ((with_reducible (refine List.mem_cons_of_mem _ ?_)); walk_at "rc mem"))
local macro_rules | `(tactic| walk_at "rc end") => `(tactic| fail)
local macro_rules | `(tactic| walk_at "rc lst") => `(tactic| with_reducible refine em_lst ?_)
local macro_rules | `(tactic| walk_at "rc call") => `(tactic| fail)
local macro_rules | `(tactic| walk_at "rc step") => `(tactic| first
  | ((with_reducible (apply em_var)); rfl)
  | with_reducible refine em_c ?_
  | with_reducible refine em_op ?_
  | with_reducible refine ro_I0 ?_
  | ((with_reducible (refine ro_eq ?_ ?_)); rfl)
  | ((with_reducible (refine ro_ne ?_ ?_)); rfl)
  | with_reducible refine ro_isN ?_
  | with_reducible refine ro_notN ?_
  | with_reducible refine ea_nil ?_
  | with_reducible refine ea_cons ?_
  | with_reducible refine em_call ?_
  | walk_at "rc call"
  | (with_reducible refine em_fld ?_)
  | (refine ⟨_, _, _, _, rfl, (by walk_at "rc mem"), (by assumption), (by assumption), (by rfl), ?_⟩)
  | with_reducible refine ra_listV ?_
  | with_reducible refine em_cb ?_
  | with_reducible refine em_tup ?_
  | walk_at "rc lst"
  | with_reducible refine em_if ?_
  | with_reducible refine em_andV ?_
  | with_reducible refine em_orV ?_
  | with_reducible refine em_notV ?_
  | with_reducible refine em_chain ?_
  | with_reducible refine et_test ?_
  | with_reducible refine et_B ?_
  | with_reducible refine et_and ?_
  | with_reducible refine et_or ?_
  | with_reducible refine et_not ?_
  | with_reducible refine et_yes ?_
  | with_reducible refine sx_seq ?_
  | with_reducible refine sx_next ?_
  | with_reducible refine sx_asg ?_
  | with_reducible refine sx_ret ?_
  | with_reducible refine sx_append ?_
  | with_reducible refine sx_drop ?_
  | with_reducible refine sx_if ?_
  | (refine ⟨_, rfl, ?_⟩)
  | (refine ⟨fun _ => ?_, fun z => Bool.noConfusion z⟩)
  | (refine ⟨fun z => Bool.noConfusion z, fun _ => ?_⟩)
  | with_reducible refine em_make ?_
  | with_reducible refine em_meth ?_
  | (refine ⟨_, _, rfl, (by walk_at "rc mem"), rfl, ?_⟩)
  | with_reducible refine em_neg ?_
  | with_reducible refine sx_fld ?_
  | (refine ⟨_, _, _, 0, rfl, rfl, (by assumption), (by assumption), (of_decide_eq_true rfl), ?_⟩)
  | ((with_reducible (apply ra_len)); (first | exact .l .d | exact .t | exact .l (.c (by walk_at "rc mem"))))
  | ((with_reducible (apply ra_lenK)); (walk_at "rc mem"))
  | ((with_reducible (apply ro_ixL)); (first | exact .d | exact .c (by walk_at "rc mem")); (first | rfl | exact atI_0))
  | ((with_reducible (apply ro_ixT)); rfl)
  | (with_reducible (refine gx_name ?_ (by decide)))
  | ((with_reducible (apply gx_tupR)); rfl)
  | with_reducible refine gxs_cons ?_
  | with_reducible refine gxs_nil ?_
  | (exact ⟨rfl, rfl⟩)
  | (refine ⟨rfl, ?_⟩)
  | with_reducible refine em_dget ?_
  | with_reducible refine sx_lockAsg ?_
  | with_reducible refine em_din ?_
  | with_reducible refine em_dnotIn ?_
  | ((with_reducible (apply sx_aug)); rfl)
  | with_reducible refine sx_setL ?_
  | with_reducible refine sx_dput ?_
  | with_reducible refine gx_fld ?_
  | (with_reducible (apply sx_fldAug))
  | ((with_reducible (apply sx_rz)); assumption)
  | (refine ⟨(by simp only [List.length_cons, List.length_nil]; omega), ?_⟩))
section
variable [Tbl] {P : Program} {w : World} {K : PySem.W.Frag} {mg : Str → Option Value} {base : Heap}
local macro_rules | `(tactic| walk_at "rc get") => `(tactic| first
  | (refine ⟨_, _, .inr _, _, rfl, .k (by walk_at "rc mem"), rfl, rfl, ?_⟩)
  | (refine ⟨_, _, .inl _, _, rfl, (by assumption), rfl, (by assumption), ?_⟩))
theorem bk_head {B : Bk} {x : Int} : ptK (.inr "head") (.v (.int x)) (bkFs B) = bkFs { B with head := x } := rfl
theorem sc_l_put : FnScope ["_law_book_here", "_law_cells", "_law_wished", "_law_page", "_law_first_here"] ["_law_book_here", "_law_cells"] (defScope (top 64)) := ⟨rfl, rfl, rfl, by decide +kernel, rfl, by decide +kernel, by decide +kernel⟩
theorem kp_l_put (W : Wd w K mg base) : PySem.W.keepIn K (.ref (He.fAd K ("_law_put", none))) = true := W.kp 24
theorem b_l_put (W : Wd w K mg base) : Binds K (fdO K (He.fAd K ("_law_put", none))) ["_law_book_here", "_law_cells"] [] := (W.F 24).bindsN fun _ _ _ _ _ _ us hl => match us, hl with | [_, _], _ => rfl
def gm_l_put [Tbl] : Gm := fun ds R F => ∃ (bk : Addr) (B : Bk) (n : Nat) (home pool : Nat → Int) (bd : Nat → Option Int) (rest : Rg) (dl : List Dd) (c : Int), ds = [.v (.ref bk), .v (.int c)] ∧ R = bcore bk B n home pool bd rest ∧ ((B.deedsA, RC.k (vK (ddK dl))) ∈ rest ∧ DsIn B dl rest ∧ n ≤ 60 ∧ (∀ k, n ≤ k → bd k = none)) ∧
  F (.v (.bl true)) (bcore bk { B with head := B.head + c } n (brH (B.head + c - B.cells) bd pool home) pool (fun k => brO (B.head + c - B.cells) (bd k)) rest)
abbrev sp_l_put [Tbl] : Sp := spM (gm_l_put)
theorem c_l_put [Tbl] {H0 : Hp} {R0 : Rg} {Ex : XK} {F : D → Rg → Prop} {bk : Addr} {B : Bk} {n : Nat} {home pool : Nat → Int} {bd : Nat → Option Int} {rest : Rg} {dl : List Dd} {c : Int} (h1 : (B.deedsA, RC.k (vK (ddK dl))) ∈ rest) (h2 : DsIn B dl rest) (h3 : n ≤ 60) (h4 : ∀ k, n ≤ k → bd k = none) (k : F (.v (.bl true)) (bcore bk { B with head := B.head + c } n (brH (B.head + c - B.cells) bd pool home) pool (fun k => brO (B.head + c - B.cells) (bd k)) rest)) : RS H0 R0 sp_l_put Ex [.v (.ref bk), .v (.int c)] (bcore bk B n home pool bd rest) F := rs_m ⟨bk, B, n, home, pool, bd, rest, dl, c, rfl, rfl, ⟨h1, h2, h3, h4⟩, k⟩
theorem ok_l_put (W : Wd w K mg base) : FnOk P w K mg base CX0 3 (He.fAd K ("_law_put", none)) (fdO K (He.fAd K ("_law_put", none))) ["_law_book_here", "_law_cells"] (sp_l_put) := by
  refine (W.F 24).ok sc_l_put ?_ (fun cdv A outer s H vs Q E hr h => ?_)
  · exact lenM fun ds R F h => by obtain ⟨bk, B, n, home, pool, bd, rest, dl, c, rfl, rfl, ⟨hk, hds, hz, hout⟩, hF⟩ := h; rfl
  have hu64 := hr.units
  have hu := Nat.lt_of_le_of_lt (Nat.add_le_add_left (show 1 ≤ 64 by decide) _) hu64
  refine ⟨_, PSs.nox (pss_cons (ps_set (i := 2) sc_l_put.nd rfl (.inl rfl) (pe_op op_sub (pe_op op_add (pe_dget hu (pv 0) pe_str (fun _ _ => rfl)) (pv 1)) (pe_dget hu (pv 0) pe_str (fun _ _ => rfl))))
    (pss_cons (ps_if (pt_cmpR op_lt (pe_call (ok_l_tail (K := K) W) (hr.mono (by decide)) rfl (W.glo 23) (kp_l_tail W) (b_l_tail W) .nil pass0 (pa_cons (pv 0) pa_nil)) (pv 2) (nomark _))
    (pss_one (ps_for PassesOwn.never rfl (ienumK (K := K) rfl rfl (W.free 57) (pa_cons (pe_dget hu (pv 0) pe_str (fun _ _ => rfl)) pa_nil)) (gtupK (K := K) (n := 2) rfl rfl (pgs_cons (pg_name (i := 3) sc_l_put.nd rfl (.inl rfl)) (pgs_cons (pg_name (i := 4) sc_l_put.nd rfl (.inl rfl)) pgs_nil)))
    (pss_one (ps_if (PW.pt (pw_and (pt_cmpR op_notN (pv 4) pe_non (nomark _)) (pw_and1 (pt_cmpR op_lt (pv 4) (pv 2) (nomark _)))))
    (pss_one (ps_expr (pe_call (ok_l_bring (K := K) W) (hr.mono (by decide)) rfl (W.glo 25) (kp_l_bring W) (b_l_bring W) .nil pass0 (pa_cons (pv 0) (pa_cons (pv 3) pa_nil)))))
    pss_nil))))
    pss_nil)
    (pss_cons (ps_if (PW.pt (pw_and (pt_cmpR op_notN (pe_dget hu (pv 0) pe_str (fun _ _ => rfl)) pe_non (nomark _)) (pw_and1 (pt_cmpR op_lt (pe_dget hu (pv 0) pe_str (fun _ _ => rfl)) (pv 1) (nomark _)))))
    pss_never
    pss_nil)
    (pss_cons (ps_if (pt_cmpR op_notN (pe_dget hu (pv 0) pe_str (fun _ _ => rfl)) pe_non (nomark _))
    pss_never
    pss_nil)
    (pss_cons (ps_dput hu (pv 0) pe_str (pe_op op_add (pe_dget hu (pv 0) pe_str (fun _ _ => rfl)) (pv 1)) rfl)
    (pss_one (ps_ret pe_bl))))))), entryM h ?_⟩
  clear h hu hu64 hr
  rintro ds R F ⟨bk, B, n, home, pool, bd, rest, dl, c, rfl, rfl, ⟨hk, hds, hz, hout⟩, hF⟩
  have hk4 : (B.deedsA, RC.k (vK (ddK dl))) ∈ bcore bk B n home pool bd rest := sub4 _ hk
  have hds4 : DsIn B dl (bcore bk B n home pool bd rest) := hds.sub sub4
  have hB : (bk, RC.k (bkFs B)) ∈ bcore bk B n home pool bd rest := by unfold bcore; walk_at "rc mem"
  have hD : (B.dirtyA, RC.l (optL n bd)) ∈ bcore bk B n home pool bd rest := by unfold bcore; walk_at "rc mem"
  have tailE : ∀ (E1 : Es) (o2 o3 o4 : Option D), E1.rt = F → SX H (bcore bk B n home pool bd rest) (tSeq (tIfS (tAnd (tTest (tOp (fun x y H Q => y = V.non ∧ Q (.bl (!decide (x = V.non))) H) (tDGet (tVar 0) (tC (.str "left"))) (tC .non))) (tTest (tOp (rI0 fun i j => V.bl (decide (i < j))) (tDGet (tVar 0) (tC (.str "left"))) (tVar 1)))) tNever tNext)
      (tSeq (tIfS (tTest (tOp (fun x y H Q => y = V.non ∧ Q (.bl (!decide (x = V.non))) H) (tDGet (tVar 0) (tC (.str "left"))) (tC .non))) tNever tNext)
      (tSeq (sDPut (tVar 0) (tC (.str "head")) (tOp (rI0 fun i j => V.int (i + j)) (tDGet (tVar 0) (tC (.str "head"))) (tVar 1))) (tRet (tC (.bl true)))))) [some (.v (.ref bk)), some (.v (.int c)), o2, o3, o4] (bcore bk B n (brH (B.head + c - B.cells) bd pool home) pool (fun k => brO (B.head + c - B.cells) (bd k)) rest) E1 := fun E1 o2 o3 o4 hr => by
    unfold bcore
    repeat walk_at "rc step"
    walk_at "rc get"
    repeat walk_at "rc step"
    walk_at "rc get"
    repeat walk_at "rc step"
    walk_at "rc get"
    repeat walk_at "rc step"
    refine ⟨_, _, .inr "head", 0, rfl, rfl, rfl, (by decide : 9 < 100000), ?_⟩
    rw [bk_head]
    simp only [List.set_cons_succ, List.set_cons_zero]
    repeat walk_at "rc step"
    rw [hr]
    exact hF
  generalize (tSeq (tIfS (tAnd (tTest (tOp (fun x y H Q => y = V.non ∧ Q (.bl (!decide (x = V.non))) H) (tDGet (tVar 0) (tC (.str "left"))) (tC .non))) (tTest (tOp (rI0 fun i j => V.bl (decide (i < j))) (tDGet (tVar 0) (tC (.str "left"))) (tVar 1)))) tNever tNext)
      (tSeq (tIfS (tTest (tOp (fun x y H Q => y = V.non ∧ Q (.bl (!decide (x = V.non))) H) (tDGet (tVar 0) (tC (.str "left"))) (tC .non))) tNever tNext)
      (tSeq (sDPut (tVar 0) (tC (.str "head")) (tOp (rI0 fun i j => V.int (i + j)) (tDGet (tVar 0) (tC (.str "head"))) (tVar 1))) (tRet (tC (.bl true)))))) = T at tailE ⊢
  repeat walk_at "rc step"
  walk_at "rc get"
  repeat walk_at "rc step"
  walk_at "rc get"
  repeat walk_at "rc step"
  refine c_l_tail hB hk4 hds4 hD hz fun m hm hmin => ?_
  repeat walk_at "rc step"
  refine ⟨fun hlt => ?_, fun hge => ?_⟩
  · refine sx_for [3, 4] (ei_enumC ?_)
    repeat walk_at "rc step"
    walk_at "rc get"
    repeat walk_at "rc step"
    refine ⟨_, _, rfl, hD, ?_⟩
    refine ⟨fun i g' R' => i ≤ n ∧ (∃ o3 o4, g' = [some (.v (.ref bk)), some (.v (.int c)), some (.v (.int (B.head + c - B.cells))), o3, o4]) ∧ R' = bcore bk B n (fun k => if k < i then brH (B.head + c - B.cells) bd pool home k else home k) pool (fun k => if k < i then brO (B.head + c - B.cells) (bd k) else bd k) rest, n, ⟨Nat.zero_le _, ⟨none, none, rfl⟩, by simp⟩, ?_⟩
    rintro i g' R' ⟨hi, ⟨o3, o4, rfl⟩, rfl⟩
    by_cases hin : i < n
    · refine .inr ⟨hin, _, ⟨optL n (fun k => if k < i then brO (B.head + c - B.cells) (bd k) else bd k), .v (optV (bd i)), by unfold bcore; walk_at "rc mem", by unfold optL; rw [List.getElem?_map, List.getElem?_range hin]; simp, rfl⟩, fun H1 => ?_⟩
      have stay : brO (B.head + c - B.cells) (bd i) = bd i → brH (B.head + c - B.cells) bd pool home i = home i → bcore bk B n (fun k => if k < i then brH (B.head + c - B.cells) bd pool home k else home k) pool (fun k => if k < i then brO (B.head + c - B.cells) (bd k) else bd k) rest = bcore bk B n (fun k => if k < i + 1 then brH (B.head + c - B.cells) bd pool home k else home k) pool (fun k => if k < i + 1 then brO (B.head + c - B.cells) (bd k) else bd k) rest := fun b1 b2 => by
        have e1 : (fun k => if k < i then brH (B.head + c - B.cells) bd pool home k else home k) = fun k => if k < i + 1 then brH (B.head + c - B.cells) bd pool home k else home k := by
          funext k
          by_cases z : k = i
          · subst z
            rw [if_neg (by omega), if_pos (by omega), b2]
          · by_cases z2 : k < i
            · rw [if_pos z2, if_pos (by omega)]
            · rw [if_neg z2, if_neg (by omega)]
        have e2 : (fun k => if k < i then brO (B.head + c - B.cells) (bd k) else bd k) = fun k => if k < i + 1 then brO (B.head + c - B.cells) (bd k) else bd k := by
          funext k
          by_cases z : k = i
          · subst z
            rw [if_neg (by omega), if_pos (by omega), b1]
          · by_cases z2 : k < i
            · rw [if_pos z2, if_pos (by omega)]
            · rw [if_neg z2, if_neg (by omega)]
        rw [e1, e2]
      cases hb : bd i with
      | none =>
        repeat walk_at "rc step"
        exact ⟨hin, ⟨_, _, rfl⟩, stay (by rw [hb]; rfl) (by unfold brH; rw [hb])⟩
      | some v =>
        repeat walk_at "rc step"
        refine ro_I0 (i := v) ?_
        repeat walk_at "rc step"
        refine ⟨fun h => ?_, fun h => ?_⟩
        · have hv : v < B.head + c - B.cells := of_decide_eq_true h
          repeat walk_at "rc step"
          refine c_l_bring hin ?_
          refine ⟨hin, ⟨_, _, rfl⟩, ?_⟩
          have e1 : (fun q => if q = i then pool i else if q < i then brH (B.head + c - B.cells) bd pool home q else home q) = fun k => if k < i + 1 then brH (B.head + c - B.cells) bd pool home k else home k := by
            funext k
            by_cases z : k = i
            · subst z
              have b2 : brH (B.head + c - B.cells) bd pool home k = pool k := by unfold brH; rw [hb]; exact if_pos hv
              rw [if_pos rfl, if_pos (by omega), b2]
            · rw [if_neg z]
              by_cases z2 : k < i
              · rw [if_pos z2, if_pos (by omega)]
              · rw [if_neg z2, if_neg (by omega)]
          have e2 : (fun q => if q = i then none else if q < i then brO (B.head + c - B.cells) (bd q) else bd q) = fun k => if k < i + 1 then brO (B.head + c - B.cells) (bd k) else bd k := by
            funext k
            by_cases z : k = i
            · subst z
              have b1 : brO (B.head + c - B.cells) (bd k) = none := by rw [hb]; exact if_pos hv
              rw [if_pos rfl, if_pos (by omega), b1]
            · rw [if_neg z]
              by_cases z2 : k < i
              · rw [if_pos z2, if_pos (by omega)]
              · rw [if_neg z2, if_neg (by omega)]
          rw [← e1, ← e2]
        · have hv : ¬ v < B.head + c - B.cells := of_decide_eq_false h
          repeat walk_at "rc step"
          exact ⟨hin, ⟨_, _, rfl⟩, stay (by rw [hb]; exact if_neg hv) (by unfold brH; rw [hb]; exact if_neg hv)⟩
    · refine .inl ⟨⟨_, by unfold bcore; walk_at "rc mem", by rw [len_O]; omega⟩, ?_⟩
      have ei : i = n := by omega
      subst ei
      have e1 : (fun k => if k < i then brH (B.head + c - B.cells) bd pool home k else home k) = brH (B.head + c - B.cells) bd pool home := by
        funext k
        by_cases z : k < i
        · rw [if_pos z]
        · rw [if_neg z]; unfold brH; rw [hout k (by omega)]
      have e2 : (fun k => if k < i then brO (B.head + c - B.cells) (bd k) else bd k) = fun k => brO (B.head + c - B.cells) (bd k) := by
        funext k
        by_cases z : k < i
        · rw [if_pos z]
        · rw [if_neg z, hout k (by omega)]; rfl
      rw [e1, e2]
      exact tailE _ _ _ _ rfl
  · have hge' : ¬ m < B.head + c - B.cells := of_decide_eq_false hge
    have dv : ∀ k v, bd k = some v → ¬ v < B.head + c - B.cells := fun k v hb z => by
      have hk' : k < n := Nat.not_le.mp fun z => by rw [hout k z] at hb; cases hb
      have : m ≤ v := hmin v (List.mem_append.mpr (.inl (List.mem_filterMap.mpr ⟨some v, List.mem_append.mpr (.inr (List.mem_map.mpr ⟨k, List.mem_range.mpr hk', hb⟩)), rfl⟩)))
      omega
    have e1 : brH (B.head + c - B.cells) bd pool home = home := by
      funext k
      unfold brH
      cases hb : bd k with
      | none => rfl
      | some v => exact if_neg (dv k v hb)
    have e2 : (fun k => brO (B.head + c - B.cells) (bd k)) = bd := by
      funext k
      cases hb : bd k with
      | none => rfl
      | some v => exact if_neg (dv k v hb)
    repeat walk_at "rc step"
    have t := fun E1 => tailE E1 (some (.v (.int (B.head + c - B.cells)))) none none
    rw [e1, e2] at t
    exact t _ rfl
end
end Rc
-- G17
set_option Elab.async false
set_option linter.all false
set_option maxRecDepth 100000
set_option maxHeartbeats 4000000
namespace Rc
open PySem PySem.Spec PyProof.Rows L2 RcHead
local macro_rules | `(tactic| walk_at "rc mem") => `(tactic| first | assumption | exact List.mem_cons_self | ((with_reducible (refine List.mem_cons_of_mem _ ?_)); walk_at "rc mem"))
local macro_rules | `(tactic| walk_at "rc end") => `(tactic| fail)
local macro_rules | `(tactic| walk_at "rc lst") => `(tactic| with_reducible refine em_lst ?_)
local macro_rules | `(tactic| walk_at "rc call") => `(tactic| fail)
local macro_rules | `(tactic| walk_at "rc step") => `(tactic| first
  | ((with_reducible (apply em_var)); rfl)
  | with_reducible refine em_c ?_
  | with_reducible refine em_op ?_
  | with_reducible refine ro_I0 ?_
  | ((with_reducible (refine ro_eq ?_ ?_)); rfl)
  | ((with_reducible (refine ro_ne ?_ ?_)); rfl)
  | with_reducible refine ro_isN ?_
  | with_reducible refine ro_notN ?_
  | with_reducible refine ea_nil ?_
  | with_reducible refine ea_cons ?_
  | with_reducible refine em_call ?_
  | walk_at "rc call"
  | (with_reducible refine em_fld ?_)
  | (refine ⟨_, _, _, _, rfl, (by walk_at "rc mem"), (by assumption), (by assumption), (by rfl), ?_⟩)
  | with_reducible refine ra_listV ?_
  | with_reducible refine em_cb ?_
  | with_reducible refine em_tup ?_
  | walk_at "rc lst"
  | with_reducible refine em_if ?_
  | with_reducible refine em_andV ?_
  | with_reducible refine em_orV ?_
  | with_reducible refine em_notV ?_
  | with_reducible refine em_chain ?_
  | with_reducible refine et_test ?_
  | with_reducible refine et_B ?_
  | with_reducible refine et_and ?_
  | with_reducible refine et_or ?_
  | with_reducible refine et_not ?_
  | with_reducible refine et_yes ?_
  | with_reducible refine sx_seq ?_
  | with_reducible refine sx_next ?_
  | with_reducible refine sx_asg ?_
  | with_reducible refine sx_ret ?_
  | with_reducible refine sx_append ?_
  | with_reducible refine sx_drop ?_
  | with_reducible refine sx_if ?_
  | (refine ⟨_, rfl, ?_⟩)
  | (refine ⟨fun _ => ?_, fun z => Bool.noConfusion z⟩)
  | (refine ⟨fun z => Bool.noConfusion z, fun _ => ?_⟩)
  | with_reducible refine em_make ?_
  | with_reducible refine em_meth ?_
  | (refine ⟨_, _, rfl, (by walk_at "rc mem"), rfl, ?_⟩)
  | with_reducible refine em_neg ?_
  | with_reducible refine sx_fld ?_
  | (refine ⟨_, _, _, 0, rfl, rfl, (by assumption), (by assumption), (of_decide_eq_true rfl), ?_⟩)
  | ((with_reducible (apply ra_len)); (first | exact .l .d | exact .t | exact .l (.c (by walk_at "rc mem"))))
  | ((with_reducible (apply ra_lenK)); (walk_at "rc mem"))
  | ((with_reducible (apply ro_ixL)); (first | exact .d | exact .c (by walk_at "rc mem")); (first | rfl | exact atI_0))
  | ((with_reducible (apply ro_ixT)); rfl)
  | (with_reducible (refine gx_name ?_ (by decide)))
  | ((with_reducible (apply gx_tupR)); rfl)
  | with_reducible refine gxs_cons ?_
  | with_reducible refine gxs_nil ?_
  | (exact ⟨rfl, rfl⟩)
  | (refine ⟨rfl, ?_⟩)
  | with_reducible refine em_dget ?_
  | with_reducible refine sx_lockAsg ?_
  | with_reducible refine em_din ?_
  | with_reducible refine em_dnotIn ?_
  | ((with_reducible (apply sx_aug)); rfl)
  | with_reducible refine sx_setL ?_
  | with_reducible refine sx_dput ?_
  | with_reducible refine gx_fld ?_
  | (with_reducible (apply sx_fldAug))
  | ((with_reducible (apply sx_rz)); assumption)
  | (refine ⟨(by simp only [List.length_cons, List.length_nil]; omega), ?_⟩))
section
variable [Tbl] {P : Program} {w : World} {K : PySem.W.Frag} {mg : Str → Option Value} {base : Heap}
local macro_rules | `(tactic| walk_at "rc get") => `(tactic| first
  | (refine ⟨_, _, .inr _, _, rfl, .k (by walk_at "rc mem"), rfl, rfl, ?_⟩)
  | (refine ⟨_, _, .inl _, _, rfl, (by assumption), rfl, (by assumption), ?_⟩)
  | (refine ⟨_, _, .inl _, _, rfl, .k (by walk_at "rc mem"), rfl, (by assumption), ?_⟩))
theorem bcore_perm {bk : Addr} {B : Bk} {n : Nat} {home pool : Nat → Int} {bd : Nat → Option Int} {rest : Rg} (X : Rg) : (X ++ bcore bk B n home pool bd rest).Perm (bcore bk B n home pool bd (X ++ rest)) := by
  have h : ∀ (four : Rg), (X ++ (four ++ rest)).Perm (four ++ (X ++ rest)) := fun four => by
    rw [← List.append_assoc, ← List.append_assoc]
    exact List.perm_append_comm.append_right _
  exact h [_, _, _, _]
def hasW (pg : Int) (d : Dd) : Bool := d.wr.any fun w => decide (w.page = pg)
def holdW (dl : List Dd) (pg : Int) : V := match dl.find? (hasW pg) with
  | some d => .int d.no
  | none => .non
theorem sc_l_holder : FnScope ["_law_book_here", "_law_page", "_law_deed", "_law_write"] ["_law_book_here", "_law_page"] (defScope (top 69)) := ⟨rfl, rfl, rfl, by decide +kernel, rfl, by decide +kernel, by decide +kernel⟩
theorem kp_l_holder (W : Wd w K mg base) : PySem.W.keepIn K (.ref (He.fAd K ("_law_holder", none))) = true := W.kp 29
theorem b_l_holder (W : Wd w K mg base) : Binds K (fdO K (He.fAd K ("_law_holder", none))) ["_law_book_here", "_law_page"] [] := (W.F 29).bindsN fun _ _ _ _ _ _ us hl => match us, hl with | [_, _], _ => rfl
def gm_l_holder [Tbl] : Gm := fun ds R F => ∃ (bk : Addr) (B : Bk) (dl : List Dd) (pg : Int), ds = [.v (.ref bk), .v (.int pg)] ∧ (bk, RC.k (bkFs B)) ∈ R ∧ (B.deedsA, RC.k (vK (ddK dl))) ∈ R ∧ DsIn B dl R ∧ F (.v (holdW dl pg)) R
abbrev sp_l_holder [Tbl] : Sp := spM (gm_l_holder)
theorem c_l_holder [Tbl] {H0 : Hp} {R0 R : Rg} {Ex : XK} {F : D → Rg → Prop} {bk : Addr} {B : Bk} {dl : List Dd} {pg : Int} (h1 : (bk, RC.k (bkFs B)) ∈ R) (h2 : (B.deedsA, RC.k (vK (ddK dl))) ∈ R) (h3 : DsIn B dl R) (k : F (.v (holdW dl pg)) R) : RS H0 R0 sp_l_holder Ex [.v (.ref bk), .v (.int pg)] R F := rs_m ⟨bk, B, dl, pg, rfl, h1, h2, h3, k⟩
theorem ok_l_holder (W : Wd w K mg base) : FnOk P w K mg base CX0 1 (He.fAd K ("_law_holder", none)) (fdO K (He.fAd K ("_law_holder", none))) ["_law_book_here", "_law_page"] (sp_l_holder) := by
  refine (W.F 29).ok sc_l_holder ?_ (fun cdv A outer s H vs Q E hr h => ?_)
  · exact lenM fun ds R F h => by obtain ⟨bk, B, dl, pg, rfl, hB, hk, hds, hF⟩ := h; rfl
  have hu64 := hr.units
  have hu := Nat.lt_of_le_of_lt (Nat.add_le_add_left (show 1 ≤ 64 by decide) _) hu64
  refine ⟨_, PSs.nox (pss_cons (ps_for PassesOwn.never rfl (ilistK (K := K) rfl (pe_callB (sortDI rfl) rfl (W.free 51) (by decide +kernel) (pa_cons (pe_dget hu (pv 0) pe_str (fun _ _ => rfl)) pa_nil))) (pg_name (i := 2) sc_l_holder.nd rfl (.inl rfl))
    (pss_one (ps_if (pt_val (pe_callB (anyK (K := K) rfl rfl) rfl (W.free 54) (by decide +kernel) (pa_cons (pe_lc (own := [("_law_write", 3)]) (g := (gName 3)) rfl sc_l_holder.nd (ilistK (K := K) rfl (pe_dget hu (pe_dget hu (pe_dget hu (pv 0) pe_str (fun _ _ => rfl)) (pv 2) (fun _ _ => rfl)) pe_str (fun _ _ => rfl))) (blkOk_by (show blkC ["_law_book_here", "_law_page", "_law_deed", "_law_write"] (defScope (top 69)) _ [("_law_write", 3)] = true by decide +kernel)) (fun _ _ _ _ _ => (pg_name (i := 3) sc_l_holder.nd rfl (.inl rfl))) (fun _ _ _ _ _ => pts_nil) (fun _ _ _ _ _ => (pe_cmpR op_eq (pe_ix (ixtK (K := K) rfl) (pv 3) pe_int (fun _ _ => rfl)) (pv 1) (nomark _)))) pa_nil)))
    (pss_one (ps_ret (pv 2)))
    pss_nil)))
    (pss_one (ps_ret pe_non))), entryM h ?_⟩
  clear h hu hu64 hr
  rintro ds R F ⟨bk, B, dl, pg, rfl, hB, hk, hds, hF⟩
  refine sx_seq (sx_for [2] ?_)
  refine ei_listD ?_
  repeat walk_at "rc step"
  walk_at "rc get"
  repeat walk_at "rc step"
  refine ra_sortDI (kvs := ddK dl) (ks := dl.map (·.no)) hk (by unfold ddK; rw [List.map_map, List.map_map]; rfl) (by rw [List.length_map]; exact Nat.lt_of_le_of_lt hds.z (by decide)) fun ys hp hs => ?_
  have ey := sort_eq hp hs (by rw [List.pairwise_map]; exact hds.srt)
  subst ey
  refine ⟨_, rfl, fun i g' R' => i ≤ dl.length ∧ (∃ o, g' = [some (.v (.ref bk)), some (.v (.int pg)), o, none]) ∧ R' = R ∧ ∀ b ∈ dl.take i, hasW pg b = false, dl.length, ⟨Nat.zero_le _, ⟨none, rfl⟩, rfl, fun b hb => absurd hb (by simp)⟩, ?_⟩
  rintro i g' R' ⟨hi, ⟨o, rfl⟩, rfl, hno⟩
  by_cases hlt : i < dl.length
  · refine .inr ⟨hlt, .v (.int dl[i].no), by simp [hlt], fun H1 => ?_⟩
    have hd := hds.d dl[i] (List.getElem_mem hlt)
    have hdc := hd.c
    have hdw := hd.w
    have lk := lk_dd (List.getElem_mem hlt) hds.srt
    refine gx_name ?_ (by decide)
    refine sx_if (et_B (em_cb (ea_cons (em_lcI ?_))))
    repeat walk_at "rc step"
    walk_at "rc get"
    repeat walk_at "rc step"
    walk_at "rc get"
    repeat walk_at "rc step"
    walk_at "rc get"
    refine ⟨_, dl[i].wr, wtD, fun w => some (.v (.bl (decide (V.int w.page = .int pg)))), .c hdw, Nat.le_trans hd.z (by decide), fun w hw H1 Rx hs => ?_, ?_⟩
    · repeat walk_at "rc step"
    repeat walk_at "rc step"
    refine ra_any (bs := dl[i].wr.map fun w : Wt => decide (V.int w.page = .int pg)) ?_ ?_
    · rw [fm_some, List.map_map]
      exact .d
    have e : (dl[i].wr.map fun w : Wt => decide (V.int w.page = .int pg)).any id = hasW pg dl[i] := by
      rw [any_id]
      unfold hasW
      congr 1
      funext w
      simp
    rw [e]
    repeat walk_at "rc step"
    refine ⟨fun h => ?_, fun h => ?_⟩
    · repeat walk_at "rc step"
      have ef : dl.find? (hasW pg) = some dl[i] := by
        rw [List.find?_eq_some_iff_getElem]
        refine ⟨h, i, hlt, rfl, fun j hj => ?_⟩
        have h2 : hasW pg dl[j] = false := hno dl[j] (List.mem_take_iff_getElem.mpr ⟨j, by omega, rfl⟩)
        rw [h2]
        rfl
      unfold holdW at hF
      rw [ef] at hF
      exact hF
    · repeat walk_at "rc step"
      refine ⟨hlt, ⟨_, rfl⟩, rfl, fun b hb => ?_⟩
      rw [List.take_add_one, List.getElem?_eq_getElem hlt] at hb
      rcases List.mem_append.mp hb with z | z
      · exact hno b z
      · have ez : b = dl[i] := by simpa using z
        rw [ez]
        exact h
  · refine .inl ⟨by simp; omega, ?_⟩
    repeat walk_at "rc step"
    have ef : dl.find? (hasW pg) = none := by
      rw [List.find?_eq_none]
      intro b hb
      have h2 : hasW pg b = false := hno b (by rw [List.take_of_length_le (by omega)]; exact hb)
      rw [h2]
      decide
    unfold holdW at hF
    rw [ef] at hF
    exact hF
theorem em_dispP [Tbl] {H0 : Hp} {R0 R : Rg} {g : Ev} {F : D → Rg → Prop} {trs : List (TE × TE)} (h : ∀ p, EP2 H0 R0 trs g ((p, RC.k []) :: R) fun ps R1 => ∃ kvs R2, R1.Perm ((p, RC.k []) :: R2) ∧ ps = kvs.map (fun kv => (D.v (kV kv.1), kv.2)) ∧ kvs.length ≤ 15 ∧ F (.v (.ref p)) ((p, .k (mgK [] kvs)) :: R2)) : EM H0 R0 (tDisp trs) g R F := fun σ H t e hH Q q p hp => by
  obtain ⟨n1, n2⟩ := hH.new (c := .k []) (o := .dK []) hp ⟨[], upd_same, RpK.nil⟩
  refine ep_run (h p) σ _ (t.trans n2) (e.tn n2) n1 _ fun ps R' vs H' ⟨kvs, R2, eR, e1, z, k⟩ t1 hH1 r1 => ?_
  have hH2 := hH1.perm eR
  have tP := Tn.of_perm (H := H') eR
  obtain ⟨w0, g1, g2⟩ := hH2.at_ _ List.mem_cons_self
  rw [show w0 = [] from g2] at g1
  have up : ∀ {ps : List (D × D)} {vs : List (V × V)}, RpP H' (Out R') ps vs → RpP H' (Out ((p, RC.k []) :: R2)) ps vs := by
    intro ps
    induction ps with
    | nil => intro vs r; exact r
    | cons c r ih =>
      rintro vs ⟨x, y, q, e1, z1, z2, z3⟩
      exact ⟨x, y, q, e1, z1.tn tP, z2.tn tP, ih z3⟩
  have conv : ∀ {kvs : List (Key × D)} {vs : List (V × V)}, RpP H' (Out ((p, RC.k []) :: R2)) (kvs.map fun kv => (D.v (kV kv.1), kv.2)) vs → ∃ ws, vs = ws.map (fun kv : Key × V => (kV kv.1, kv.2)) ∧ RpK H' (Out ((p, RC.k []) :: R2)) kvs ws := by
    intro kvs
    induction kvs with
    | nil => intro vs r; exact ⟨[], r, RpK.nil⟩
    | cons c r ih =>
      rintro vs ⟨x, y, q, e1, z1, z2, z3⟩
      obtain ⟨ws, e2, z4⟩ := ih z3
      exact ⟨(c.1, y) :: ws, by rw [e1, rp_v.mp z1, e2]; rfl, RpK.cons z2 z4⟩
  rw [e1] at r1
  obtain ⟨ws, e2, z4⟩ := conv (up r1)
  obtain ⟨m1, m2⟩ := put_k (nn := 0) (vs := []) hH2 rfl (mg_rel (av := []) RpK.nil z4)
  exact ⟨g1, ws, e2, by rw [z4.len]; exact z, q _ _ _ _ k (((n2.trans t1).trans tP).trans m2) m1 rpv⟩
theorem rep_O {n : Nat} : (List.replicate n [D.v .non]).flatten = optL n fun _ => none := by
  unfold optL
  rw [List.map_const', List.length_range]
  induction n with
  | zero => rfl
  | succ n ih => rw [List.replicate_succ, List.replicate_succ, List.flatten_cons, ih]; rfl
theorem permB {α : Type} {a b c d e : α} {R : List α} : (a :: b :: c :: d :: e :: R).Perm (e :: d :: c :: b :: a :: R) := (List.reverse_perm [a, b, c, d, e]).symm.append_right R
theorem sc_l_book : FnScope ["_law_pages", "_law_cells"] ["_law_pages", "_law_cells"] (defScope (top 56)) := ⟨rfl, rfl, rfl, by decide +kernel, rfl, by decide +kernel, by decide +kernel⟩
theorem kp_l_book (W : Wd w K mg base) : PySem.W.keepIn K (.ref (He.fAd K ("_law_book", none))) = true := W.kp 16
theorem b_l_book (W : Wd w K mg base) : Binds K (fdO K (He.fAd K ("_law_book", none))) ["_law_pages", "_law_cells"] [] := (W.F 16).bindsN fun _ _ _ _ _ _ us hl => match us, hl with | [_, _], _ => rfl
def gm_l_book [Tbl] : Gm := fun ds R F => ∃ (n : Nat) (c : Int), ds = [.v (.int n), .v (.int c)] ∧ n ≤ 60 ∧ ∀ bk hA dA pA ddA, F (.v (.ref bk)) (bcore bk ⟨c, 0, 0, hA, dA, pA, ddA⟩ n (fun _ => 0) (fun _ => 0) (fun _ => none) ((ddA, .k (vK (ddK []))) :: R))
abbrev sp_l_book [Tbl] : Sp := spM (gm_l_book)
theorem c_l_book [Tbl] {H0 : Hp} {R0 R : Rg} {Ex : XK} {F : D → Rg → Prop} {n : Nat} {c : Int} (h : n ≤ 60) (k : ∀ bk hA dA pA ddA, F (.v (.ref bk)) (bcore bk ⟨c, 0, 0, hA, dA, pA, ddA⟩ n (fun _ => 0) (fun _ => 0) (fun _ => none) ((ddA, .k (vK (ddK []))) :: R))) : RS H0 R0 sp_l_book Ex [.v (.int n), .v (.int c)] R F := rs_m ⟨n, c, rfl, h, k⟩
theorem ok_l_book (W : Wd w K mg base) : FnOk P w K mg base CX0 1 (He.fAd K ("_law_book", none)) (fdO K (He.fAd K ("_law_book", none))) ["_law_pages", "_law_cells"] (sp_l_book) := by
  refine (W.F 16).ok sc_l_book ?_ (fun cdv A outer s H vs Q E hr h => ?_)
  · exact lenM fun ds R F h => by obtain ⟨n, c, rfl, hn, hF⟩ := h; rfl
  have hu64 := hr.units
  have hu := Nat.lt_of_le_of_lt (Nat.add_le_add_left (show 1 ≤ 64 by decide) _) hu64
  refine ⟨_, PSs.nox (pss_one (ps_ret (pe_disp (pps_cons pe_str (pv 1) (pps_cons pe_str pe_int (pps_cons pe_str (pe_op op_rep (pe_lst (pa_cons pe_int pa_nil)) (pv 0)) (pps_cons pe_str (pe_op op_rep (pe_lst (pa_cons pe_non pa_nil)) (pv 0)) (pps_cons pe_str (pe_op op_rep (pe_lst (pa_cons pe_int pa_nil)) (pv 0)) (pps_cons pe_str pe_dnewK (pps_cons pe_str pe_int (pps_cons pe_str pe_non (pps_cons pe_str pe_bl pps_nil))))))))) rfl rfl (by simp) (by decide)))), entryM h ?_⟩
  clear h hu hu64 hr
  rintro ds R F ⟨n, c, rfl, hn, hF⟩
  refine sx_post ?_
  repeat walk_at "rc step"
  refine em_dispP fun bk => ?_
  refine em_c (em_var rfl ?_)
  refine em_c (em_c ?_)
  refine em_c (em_op (em_lst (ea_cons (em_c (ea_nil ⟨show 1 ≤ 100000 by decide, ?_⟩)))))
  refine em_var rfl (ro_rep .d (by simp; omega) (by omega) (by omega) fun hA => ?_)
  rw [Int.toNat_natCast, rep_F]
  refine em_c (em_op (em_lst (ea_cons (em_c (ea_nil ⟨show 1 ≤ 100000 by decide, ?_⟩)))))
  refine em_var rfl (ro_rep .d (by simp; omega) (by omega) (by omega) fun dA => ?_)
  rw [Int.toNat_natCast, rep_O]
  refine em_c (em_op (em_lst (ea_cons (em_c (ea_nil ⟨show 1 ≤ 100000 by decide, ?_⟩)))))
  refine em_var rfl (ro_rep .d (by simp; omega) (by omega) (by omega) fun pA => ?_)
  rw [Int.toNat_natCast, rep_F]
  refine em_c (em_dnew fun ddA => ?_)
  refine em_c (em_c ?_)
  refine em_c (em_c ?_)
  refine em_c (em_c ?_)
  refine ⟨bkFs ⟨c, 0, 0, hA, dA, pA, ddA⟩, (hA, .l (intsF n fun _ => 0)) :: (dA, .l (optL n fun _ => none)) :: (pA, .l (intsF n fun _ => 0)) :: (ddA, .k []) :: R, permB, rfl, (by decide : 9 ≤ 15), ?_⟩
  exact ⟨_, [], List.Perm.refl _, hF bk hA dA pA ddA⟩
end
end Rc
-- G18
set_option Elab.async false
set_option linter.all false
set_option maxRecDepth 100000
set_option maxHeartbeats 4000000
namespace Rc
open PySem PySem.Spec PyProof.Rows L2 RcHead
local macro_rules | `(tactic| walk_at "rc mem") => `(tactic| first | assumption | exact List.mem_cons_self | ((with_reducible (refine List.mem_cons_of_mem _ ?_)); walk_at "rc mem"))
local macro_rules | `(tactic| walk_at "rc end") => `(tactic| fail)
local macro_rules | `(tactic| walk_at "rc lst") => `(tactic| with_reducible refine em_lst ?_)
local macro_rules | `(tactic| walk_at "rc call") => `(tactic| fail)
local macro_rules | `(tactic| walk_at "rc step") => `(tactic| first
  | ((with_reducible (apply em_var)); rfl)
  | with_reducible refine em_c ?_
  | with_reducible refine em_op ?_
  | with_reducible refine ro_I0 ?_
  | ((with_reducible (refine ro_eq ?_ ?_)); rfl)
  | ((with_reducible (refine ro_ne ?_ ?_)); rfl)
  | with_reducible refine ro_isN ?_
  | with_reducible refine ro_notN ?_
  | with_reducible refine ea_nil ?_
  | with_reducible refine ea_cons ?_
  | with_reducible refine em_call ?_
  | walk_at "rc call"
  | (with_reducible refine em_fld ?_)
  | (refine ⟨_, _, _, _, rfl, (by walk_at "rc mem"), (by assumption), (by assumption), (by rfl), ?_⟩)
  | with_reducible refine ra_listV ?_
  | with_reducible refine em_cb ?_
  | with_reducible refine em_tup ?_
  | walk_at "rc lst"
  | with_reducible refine em_if ?_
  | with_reducible refine em_andV ?_
  | with_reducible refine em_orV ?_
  | with_reducible refine em_notV ?_
  | with_reducible refine em_chain ?_
  | with_reducible refine et_test ?_
  | with_reducible refine et_B ?_
  | with_reducible refine et_and ?_
  | with_reducible refine et_or ?_
  | with_reducible refine et_not ?_
  | with_reducible refine et_yes ?_
  | with_reducible refine sx_seq ?_
  | with_reducible refine sx_next ?_
  | with_reducible refine sx_asg ?_
  | with_reducible refine sx_ret ?_
  | with_reducible refine sx_append ?_
  | with_reducible refine sx_drop ?_
  | with_reducible refine sx_if ?_
  | (refine ⟨_, rfl, ?_⟩)
  | (refine ⟨fun _ => ?_, fun z => Bool.noConfusion z⟩)
  | (refine ⟨fun z => Bool.noConfusion z, fun _ => ?_⟩)
  | with_reducible refine em_make ?_
  | with_reducible refine em_meth ?_
  | (refine ⟨_, _, rfl, (by walk_at "rc mem"), rfl, ?_⟩)
  | with_reducible refine em_neg ?_
  | with_reducible refine sx_fld ?_
  | (refine ⟨_, _, _, 0, rfl, rfl, (by assumption), (by assumption), (of_decide_eq_true rfl), ?_⟩)
  | ((with_reducible (apply ra_len)); (first | exact .l .d | exact .t | exact .l (.c (by walk_at "rc mem"))))
  | ((with_reducible (apply ra_lenK)); (walk_at "rc mem"))
  | ((with_reducible (apply ro_ixL)); (first | exact .d | exact .c (by walk_at "rc mem")); (first | rfl | exact atI_0))
  | ((with_reducible (apply ro_ixT)); rfl)
  | (with_reducible (refine gx_name ?_ (by decide)))
  | ((with_reducible (apply gx_tupR)); rfl)
  | with_reducible refine gxs_cons ?_
  | with_reducible refine gxs_nil ?_
  | (exact ⟨rfl, rfl⟩)
  | (refine ⟨rfl, ?_⟩)
  | with_reducible refine em_dget ?_
  | with_reducible refine sx_lockAsg ?_
  | with_reducible refine em_din ?_
  | with_reducible refine em_dnotIn ?_
  | ((with_reducible (apply sx_aug)); rfl)
  | with_reducible refine sx_setL ?_
  | with_reducible refine sx_dput ?_
  | with_reducible refine gx_fld ?_
  | (with_reducible (apply sx_fldAug))
  | ((with_reducible (apply sx_rz)); assumption)
  | (refine ⟨(by simp only [List.length_cons, List.length_nil]; omega), ?_⟩))
section
variable [Tbl] {P : Program} {w : World} {K : PySem.W.Frag} {mg : Str → Option Value} {base : Heap}
local macro_rules | `(tactic| walk_at "rc get") => `(tactic| first
  | (refine ⟨_, _, .inr _, _, rfl, .k (by walk_at "rc mem"), rfl, rfl, ?_⟩)
  | (refine ⟨_, _, .inl _, _, rfl, (by assumption), rfl, (by assumption), ?_⟩)
  | (refine ⟨_, _, .inl _, _, rfl, .k (by walk_at "rc mem"), rfl, (by assumption), ?_⟩))
theorem dd_writes {d : Dd} {x : Addr} : ptK (.inr "writes") (.v (.ref x)) (ddFs d) = [(.inr "end", .v (.int d.ends)), (.inr "writes", .v (.ref x))] := rfl
theorem sc_l_carry : FnScope ["_law_book_here", "_law_deed", "_law_found", "_law_place", "_law_page", "_law_before", "_law_after", "_law_undo_here"] ["_law_book_here", "_law_deed"] (defScope (top 68)) := ⟨rfl, rfl, rfl, by decide +kernel, rfl, by decide +kernel, by decide +kernel⟩
theorem kp_l_carry (W : Wd w K mg base) : PySem.W.keepIn K (.ref (He.fAd K ("_law_carry", none))) = true := W.kp 28
theorem b_l_carry (W : Wd w K mg base) : Binds K (fdO K (He.fAd K ("_law_carry", none))) ["_law_book_here", "_law_deed"] [] := (W.F 28).bindsN fun _ _ _ _ _ _ us hl => match us, hl with | [_, _], _ => rfl
def gm_l_carry [Tbl] : Gm := fun ds R F => ∃ (bk : Addr) (B : Bk) (n : Nat) (home pool : Nat → Int) (bd : Nat → Option Int) (rest : Rg) (dl : List Dd) (no ends : Int) (da wA : Addr) (w : Wt), ds = [.v (.ref bk), .v (.int no)] ∧ R = bcore bk B n home pool bd ((da, .k (ddFs ⟨no, ends, da, wA, [w]⟩)) :: rest) ∧
  ((B.deedsA, RC.k (vK (ddK dl))) ∈ rest ∧ DsIn B dl ((da, .k (ddFs ⟨no, ends, da, wA, [w]⟩)) :: rest) ∧ (⟨no, ends, da, wA, [w]⟩ : Dd) ∈ dl ∧ (wA, RC.l [wtD w]) ∈ rest ∧ n ≤ 60 ∧ (∀ k, n ≤ k → bd k = none)) ∧
  ∀ fo, F (.v (.bl true)) (bcore bk { B with head := B.head + w.undo } n (brH (B.head + w.undo - B.cells) bd pool home) pool (fun k => brO (B.head + w.undo - B.cells) (bd k)) ((fo, .l [wtD { w with place := B.head }]) :: (da, .k (ddFs ⟨no, ends, da, fo, [{ w with place := B.head }]⟩)) :: rest))
abbrev sp_l_carry [Tbl] : Sp := spM (gm_l_carry)
theorem c_l_carry [Tbl] {H0 : Hp} {R0 : Rg} {Ex : XK} {F : D → Rg → Prop} {bk : Addr} {B : Bk} {n : Nat} {home pool : Nat → Int} {bd : Nat → Option Int} {rest : Rg} {dl : List Dd} {no ends : Int} {da wA : Addr} {w : Wt} (h1 : (B.deedsA, RC.k (vK (ddK dl))) ∈ rest) (h2 : DsIn B dl ((da, .k (ddFs ⟨no, ends, da, wA, [w]⟩)) :: rest)) (h3 : (⟨no, ends, da, wA, [w]⟩ : Dd) ∈ dl) (h4 : (wA, RC.l [wtD w]) ∈ rest) (h5 : n ≤ 60) (h6 : ∀ k, n ≤ k → bd k = none)
  (k : ∀ fo, F (.v (.bl true)) (bcore bk { B with head := B.head + w.undo } n (brH (B.head + w.undo - B.cells) bd pool home) pool (fun k => brO (B.head + w.undo - B.cells) (bd k)) ((fo, .l [wtD { w with place := B.head }]) :: (da, .k (ddFs ⟨no, ends, da, fo, [{ w with place := B.head }]⟩)) :: rest))) : RS H0 R0 sp_l_carry Ex [.v (.ref bk), .v (.int no)] (bcore bk B n home pool bd ((da, .k (ddFs ⟨no, ends, da, wA, [w]⟩)) :: rest)) F := rs_m ⟨bk, B, n, home, pool, bd, rest, dl, no, ends, da, wA, w, rfl, rfl, ⟨h1, h2, h3, h4, h5, h6⟩, k⟩
theorem ok_l_carry (W : Wd w K mg base) : FnOk P w K mg base CX0 4 (He.fAd K ("_law_carry", none)) (fdO K (He.fAd K ("_law_carry", none))) ["_law_book_here", "_law_deed"] (sp_l_carry) := by
  refine (W.F 28).ok sc_l_carry ?_ (fun cdv A outer s H vs Q E hr h => ?_)
  · exact lenM fun ds R F h => by obtain ⟨bk, B, n, home, pool, bd, rest, dl, no, ends, da, wA, w, rfl, rfl, ⟨hk, hds, hm, hw, hn, hout⟩, hF⟩ := h; rfl
  have hu64 := hr.units
  have hu := Nat.lt_of_le_of_lt (Nat.add_le_add_left (show 1 ≤ 64 by decide) _) hu64
  refine ⟨_, PSs.nox (pss_cons (ps_set (i := 2) sc_l_carry.nd rfl (.inl rfl) (pe_lst pa_nil))
    (pss_cons (ps_for PassesOwn.never rfl (ilistK (K := K) rfl (pe_dget hu (pe_dget hu (pe_dget hu (pv 0) pe_str (fun _ _ => rfl)) (pv 1) (fun _ _ => rfl)) pe_str (fun _ _ => rfl))) (gtupK (K := K) (n := 5) rfl rfl (pgs_cons (pg_name (i := 3) sc_l_carry.nd rfl (.inl rfl)) (pgs_cons (pg_name (i := 4) sc_l_carry.nd rfl (.inl rfl)) (pgs_cons (pg_name (i := 5) sc_l_carry.nd rfl (.inl rfl)) (pgs_cons (pg_name (i := 6) sc_l_carry.nd rfl (.inl rfl)) (pgs_cons (pg_name (i := 7) sc_l_carry.nd rfl (.inl rfl)) pgs_nil))))))
    (pss_cons (ps_expr (appK (K := K) rfl (pv 2) (pe_tup (pa_cons (pe_dget hu (pv 0) pe_str (fun _ _ => rfl)) (pa_cons (pv 4) (pa_cons (pv 5) (pa_cons (pv 6) (pa_cons (pv 7) pa_nil))))))))
    (pss_one (ps_if (pt_not (pt_val (pe_call (ok_l_put (K := K) W) (hr.mono (by decide)) rfl (W.glo 24) (kp_l_put W) (b_l_put W) .nil pass0 (pa_cons (pv 0) (pa_cons (pv 7) pa_nil)))))
    (pss_one (ps_ret pe_bl))
    pss_nil))))
    (pss_cons (ps_dput hu (pe_dget hu (pe_dget hu (pv 0) pe_str (fun _ _ => rfl)) (pv 1) (fun _ _ => rfl)) pe_str (pv 2) rfl)
    (pss_one (ps_ret pe_bl))))), entryM h ?_⟩
  clear h hu hu64 hr
  rintro ds R F ⟨bk, B, n, home, pool, bd, rest, dl, no, ends, da, wA, w, rfl, rfl, ⟨hk, hds, hm, hw, hn, hout⟩, hF⟩
  have lk := lk_dd hm hds.srt
  refine sx_seq (sx_asg (em_lstC (ea_nil ⟨Nat.zero_le _, fun fo => ?_⟩)))
  refine sx_seq (sx_for [3, 4, 5, 6, 7] (ei_listI ?_))
  have m1 : ∀ {x y z u v : Addr × RC}, (B.deedsA, RC.k (vK (ddK dl))) ∈ x :: y :: z :: u :: v :: (da, RC.k (ddFs ⟨no, ends, da, wA, [w]⟩)) :: rest := fun {x y z u v} => sub5 _ (List.mem_cons_of_mem _ hk)
  have m2 : ∀ {x y z u v : Addr × RC}, (wA, RC.l [wtD w]) ∈ x :: y :: z :: u :: v :: (da, RC.k (ddFs ⟨no, ends, da, wA, [w]⟩)) :: rest := fun {x y z u v} => sub5 _ (List.mem_cons_of_mem _ hw)
  have k1 : IsK ((fo, RC.l []) :: bcore bk B n home pool bd ((da, .k (ddFs ⟨no, ends, da, wA, [w]⟩)) :: rest)) B.deedsA (vK (ddK dl)) := .k m1
  repeat walk_at "rc step"
  refine ⟨_, _, .inr _, _, rfl, .k (by unfold bcore; walk_at "rc mem"), rfl, rfl, ?_⟩
  repeat walk_at "rc step"
  refine ⟨_, _, .inl no, _, rfl, k1, rfl, lk, ?_⟩
  repeat walk_at "rc step"
  refine ⟨_, _, .inr _, _, rfl, .k (by unfold bcore; walk_at "rc mem"), rfl, rfl, ?_⟩
  refine ⟨[wtD w], .c m2, ?_⟩
  refine ⟨fun i g' R' => (i = 0 ∧ (∃ o3 o4 o5 o6 o7, g' = [some (.v (.ref bk)), some (.v (.int no)), some (.v (.ref fo)), o3, o4, o5, o6, o7]) ∧ R' = (fo, .l []) :: bcore bk B n home pool bd ((da, .k (ddFs ⟨no, ends, da, wA, [w]⟩)) :: rest)) ∨
    (i = 1 ∧ (∃ o3 o4 o5 o6 o7, g' = [some (.v (.ref bk)), some (.v (.int no)), some (.v (.ref fo)), o3, o4, o5, o6, o7]) ∧ R' = bcore bk { B with head := B.head + w.undo } n (brH (B.head + w.undo - B.cells) bd pool home) pool (fun k => brO (B.head + w.undo - B.cells) (bd k)) ((fo, .l [wtD { w with place := B.head }]) :: (da, .k (ddFs ⟨no, ends, da, wA, [w]⟩)) :: rest)), 1, .inl ⟨rfl, ⟨none, none, none, none, none, rfl⟩, rfl⟩, ?_⟩
  rintro i g' R' (⟨rfl, ⟨o3, o4, o5, o6, o7, rfl⟩, rfl⟩ | ⟨rfl, ⟨o3, o4, o5, o6, o7, rfl⟩, rfl⟩)
  · refine .inr ⟨Nat.zero_lt_one, wtD w, ⟨.c m2, rfl⟩, fun H1 => ?_⟩
    repeat walk_at "rc step"
    refine ⟨_, _, rfl, List.mem_cons_self, (by decide : 0 < 100000), ?_⟩
    repeat walk_at "rc step"
    refine ⟨_, _, .inr _, _, rfl, .k (by unfold bcore; walk_at "rc mem"), rfl, rfl, ?_⟩
    repeat walk_at "rc step"
    refine ⟨0, rfl, ?_⟩
    simp only [List.set_cons_succ, List.set_cons_zero]
    repeat walk_at "rc step"
    refine rs_perm (bcore_perm [_]) (c_l_put (dl := dl) (List.mem_cons_of_mem _ (List.mem_cons_of_mem _ hk)) (hds.sub fun c h => List.mem_cons_of_mem _ h) hn hout ?_)
    repeat walk_at "rc step"
    exact .inr ⟨by first | exact rfl | trivial, ⟨_, _, _, _, _, rfl⟩, rfl⟩
  · have m3 : (B.deedsA, RC.k (vK (ddK dl))) ∈ bcore bk { B with head := B.head + w.undo } n (brH (B.head + w.undo - B.cells) bd pool home) pool (fun k => brO (B.head + w.undo - B.cells) (bd k)) ((fo, .l [wtD { w with place := B.head }]) :: (da, .k (ddFs ⟨no, ends, da, wA, [w]⟩)) :: rest) := sub4 _ (List.mem_cons_of_mem _ (List.mem_cons_of_mem _ hk))
    have m4 : (wA, RC.l [wtD w]) ∈ bcore bk { B with head := B.head + w.undo } n (brH (B.head + w.undo - B.cells) bd pool home) pool (fun k => brO (B.head + w.undo - B.cells) (bd k)) ((fo, .l [wtD { w with place := B.head }]) :: (da, .k (ddFs ⟨no, ends, da, wA, [w]⟩)) :: rest) := sub4 _ (List.mem_cons_of_mem _ (List.mem_cons_of_mem _ hw))
    refine .inl ⟨⟨.c m4, Nat.le_refl _⟩, ?_⟩
    repeat walk_at "rc step"
    refine ⟨_, _, .inr _, _, rfl, .k (by unfold bcore; walk_at "rc mem"), rfl, rfl, ?_⟩
    repeat walk_at "rc step"
    refine ⟨B.deedsA, _, .inl no, _, rfl, .k m3, rfl, lk, ?_⟩
    repeat walk_at "rc step"
    refine ⟨_, _, .inr "writes", 5, rfl, rfl, rfl, (by decide : 2 < 100000), ?_⟩
    rw [dd_writes]
    repeat walk_at "rc step"
    exact hF fo
end
end Rc
-- G19
set_option Elab.async false
set_option linter.all false
set_option maxRecDepth 100000
set_option maxHeartbeats 4000000
namespace Rc
open PySem PySem.Spec PyProof.Rows L2 RcHead
local macro_rules | `(tactic| walk_at "rc mem") => `(tactic| first | assumption | exact List.mem_cons_self | ((with_reducible (refine List.mem_cons_of_mem _ ?_)); walk_at "rc mem"))
local macro_rules | `(tactic| walk_at "rc end") => `(tactic| fail)
local macro_rules | `(tactic| walk_at "rc lst") => `(tactic| with_reducible refine em_lst ?_)
local macro_rules | `(tactic| walk_at "rc call") => `(tactic| fail)
local macro_rules | `(tactic| walk_at "rc step") => `(tactic| first
  | ((with_reducible (apply em_var)); rfl)
  | with_reducible refine em_c ?_
  | with_reducible refine em_op ?_
  | with_reducible refine ro_I0 ?_
  | ((with_reducible (refine ro_eq ?_ ?_)); rfl)
  | ((with_reducible (refine ro_ne ?_ ?_)); rfl)
  | with_reducible refine ro_isN ?_
  | with_reducible refine ro_notN ?_
  | with_reducible refine ea_nil ?_
  | with_reducible refine ea_cons ?_
  | with_reducible refine em_call ?_
  | walk_at "rc call"
  | (with_reducible refine em_fld ?_)
  | (refine ⟨_, _, _, _, rfl, (by walk_at "rc mem"), (by assumption), (by assumption), (by rfl), ?_⟩)
  | with_reducible refine ra_listV ?_
  | with_reducible refine em_cb ?_
  | with_reducible refine em_tup ?_
  | walk_at "rc lst"
  | with_reducible refine em_if ?_
  | with_reducible refine em_andV ?_
  | with_reducible refine em_orV ?_
  | with_reducible refine em_notV ?_
  | with_reducible refine em_chain ?_
  | with_reducible refine et_test ?_
  | with_reducible refine et_B ?_
  | with_reducible refine et_and ?_
  | with_reducible refine et_or ?_
  | with_reducible refine et_not ?_
  | with_reducible refine et_yes ?_
  | with_reducible refine sx_seq ?_
  | with_reducible refine sx_next ?_
  | with_reducible refine sx_asg ?_
  | with_reducible refine sx_ret ?_
  | with_reducible refine sx_append ?_
  | with_reducible refine sx_drop ?_
  | with_reducible refine sx_if ?_
  | (refine ⟨_, rfl, ?_⟩)
  | (refine ⟨fun _ => ?_, fun z => Bool.noConfusion z⟩)
  | (refine ⟨fun z => Bool.noConfusion z, fun _ => ?_⟩)
  | with_reducible refine em_make ?_
  | with_reducible refine em_meth ?_
  | (refine ⟨_, _, rfl, (by walk_at "rc mem"), rfl, ?_⟩)
  | with_reducible refine em_neg ?_
  | with_reducible refine sx_fld ?_
  | (refine ⟨_, _, _, 0, rfl, rfl, (by assumption), (by assumption), (of_decide_eq_true rfl), ?_⟩)
  | ((with_reducible (apply ra_len)); (first | exact .l .d | exact .t | exact .l (.c (by walk_at "rc mem"))))
  | ((with_reducible (apply ra_lenK)); (walk_at "rc mem"))
  | ((with_reducible (apply ro_ixL)); (first | exact .d | exact .c (by walk_at "rc mem")); (first | rfl | exact atI_0))
  | ((with_reducible (apply ro_ixT)); rfl)
  | (with_reducible (refine gx_name ?_ (by decide)))
  | ((with_reducible (apply gx_tupR)); rfl)
  | with_reducible refine gxs_cons ?_
  | with_reducible refine gxs_nil ?_
  | (exact ⟨rfl, rfl⟩)
  | (refine ⟨rfl, ?_⟩)
  | with_reducible refine em_dget ?_
  | with_reducible refine sx_lockAsg ?_
  | with_reducible refine em_din ?_
  | with_reducible refine em_dnotIn ?_
  | ((with_reducible (apply sx_aug)); rfl)
  | with_reducible refine sx_setL ?_
  | with_reducible refine sx_dput ?_
  | with_reducible refine gx_fld ?_
  | (with_reducible (apply sx_fldAug))
  | ((with_reducible (apply sx_rz)); assumption)
  | (refine ⟨(by simp only [List.length_cons, List.length_nil]; omega), ?_⟩))
section
variable [Tbl] {P : Program} {w : World} {K : PySem.W.Frag} {mg : Str → Option Value} {base : Heap}
theorem atI_one {d : D} : atI [d] (-1) = some d := atI_last (ds := [])
theorem sc_l_undo : FnScope ["_law_book_here", "_law_deed", "_law_many", "_law_writes", "_law_turn", "_law_place"] ["_law_book_here", "_law_deed", "_law_many"] (defScope (top 67)) := ⟨rfl, rfl, rfl, by decide +kernel, rfl, by decide +kernel, by decide +kernel⟩
theorem kp_l_undo (W : Wd w K mg base) : PySem.W.keepIn K (.ref (He.fAd K ("_law_undo", none))) = true := W.kp 27
theorem b_l_undo (W : Wd w K mg base) : Binds K (fdO K (He.fAd K ("_law_undo", none))) ["_law_book_here", "_law_deed", "_law_many"] [] := (W.F 27).bindsN fun _ _ _ _ _ _ us hl => match us, hl with | [_, _, _], _ => rfl
def gm_l_undo [Tbl] : Gm := fun ds R F => ∃ (bk : Addr) (B : Bk) (n : Nat) (home pool : Nat → Int) (bd : Nat → Option Int) (rest : Rg) (dl : List Dd) (d : Dd), ds = [.v (.ref bk), .v (.int d.no), .v (.int (d.wr.length : Int))] ∧ R = bcore bk B n home pool bd ((d.w, .l (d.wr.map wtD)) :: rest) ∧
  ((B.deedsA, RC.k (vK (ddK dl))) ∈ rest ∧ DsIn B dl ((d.w, .l (d.wr.map wtD)) :: rest) ∧ d ∈ dl ∧ (d.a, RC.k (ddFs d)) ∈ rest ∧ n ≤ 60 ∧ (∀ k, n ≤ k → bd k = none)) ∧
  ((d.wr = [] ∧ F (.v (.bl true)) R) ∨ (∃ (w : Wt) (p : Nat), d.wr = [w] ∧ w.page = p ∧ p < n ∧
   F (.v (.bl true)) (bcore bk { B with head := B.head + w.undo } n (brH (B.head + w.undo - B.cells) bd pool home) (plP true p w.before pool) (plD true p B.head fun k => brO (B.head + w.undo - B.cells) (bd k)) ((d.w, .l []) :: rest))))
abbrev sp_l_undo [Tbl] : Sp := spM (gm_l_undo)
theorem ok_l_undo (W : Wd w K mg base) : FnOk P w K mg base CX0 4 (He.fAd K ("_law_undo", none)) (fdO K (He.fAd K ("_law_undo", none))) ["_law_book_here", "_law_deed", "_law_many"] (sp_l_undo) := by
  refine (W.F 27).ok sc_l_undo ?_ (fun cdv A outer s H vs Q E hr h => ?_)
  · exact lenM fun ds R F h => by obtain ⟨bk, B, n, home, pool, bd, rest, dl, d, rfl, rfl, ⟨hk, hds, hm, hdc, hn, hout⟩, hF⟩ := h; rfl
  have hu64 := hr.units
  have hu := Nat.lt_of_le_of_lt (Nat.add_le_add_left (show 1 ≤ 64 by decide) _) hu64
  refine ⟨_, PSs.nox (pss_cons (ps_set (i := 3) sc_l_undo.nd rfl (.inl rfl) (pe_dget hu (pe_dget hu (pe_dget hu (pv 0) pe_str (fun _ _ => rfl)) (pv 1) (fun _ _ => rfl)) pe_str (fun _ _ => rfl)))
    (pss_cons (ps_for PassesOwn.never rfl (pi_range1 rfl (W.free 58) (pa_cons (pv 2) pa_nil)) (pg_name (i := 4) sc_l_undo.nd rfl (.inl rfl))
    (pss_cons (ps_set (i := 5) sc_l_undo.nd rfl (.inl rfl) (pe_dget hu (pv 0) pe_str (fun _ _ => rfl)))
    (pss_cons (ps_if (pt_not (pt_val (pe_call (ok_l_put (K := K) W) (hr.mono (by decide)) rfl (W.glo 24) (kp_l_put W) (b_l_put W) .nil pass0 (pa_cons (pv 0) (pa_cons (pe_ix (ixtK (K := K) rfl) (pe_ix (ixlK (K := K) rfl) (pv 3) (pe_un un_neg pe_int) (fun _ _ => rfl)) pe_int (fun _ _ => rfl)) pa_nil)))))
    (pss_one (ps_ret pe_bl))
    pss_nil)
    (pss_cons (ps_expr (pe_call (ok_l_set (K := K) W) (hr.mono (by decide)) rfl (W.glo 26) (kp_l_set W) (b_l_set W) .nil pass0 (pa_cons (pv 0) (pa_cons (pe_ix (ixtK (K := K) rfl) (pe_ix (ixlK (K := K) rfl) (pv 3) (pe_un un_neg pe_int) (fun _ _ => rfl)) pe_int (fun _ _ => rfl)) (pa_cons (pe_ix (ixtK (K := K) rfl) (pe_ix (ixlK (K := K) rfl) (pv 3) (pe_un un_neg pe_int) (fun _ _ => rfl)) pe_int (fun _ _ => rfl)) (pa_cons (pv 5) pa_nil))))))
    (pss_one (ps_expr (popK (K := K) rfl (pv 3))))))))
    (pss_one (ps_ret pe_bl)))), entryM h ?_⟩
  clear h hu hu64 hr
  rintro ds R F ⟨bk, B, n, home, pool, bd, rest, dl, d, rfl, rfl, ⟨hk, hds, hm, hdc, hn, hout⟩, hF⟩
  have lk := lk_dd hm hds.srt
  have k1 : IsK (bcore bk B n home pool bd ((d.w, .l (d.wr.map wtD)) :: rest)) B.deedsA (vK (ddK dl)) := .k (sub4 _ (List.mem_cons_of_mem _ hk))
  have k2 : (d.a, RC.k (ddFs d)) ∈ bcore bk B n home pool bd ((d.w, .l (d.wr.map wtD)) :: rest) := sub4 _ (List.mem_cons_of_mem _ hdc)
  repeat walk_at "rc step"
  refine ⟨_, _, .inr _, _, rfl, .k (by unfold bcore; walk_at "rc mem"), rfl, rfl, ?_⟩
  repeat walk_at "rc step"
  refine ⟨_, _, .inl d.no, _, rfl, k1, rfl, lk, ?_⟩
  repeat walk_at "rc step"
  refine ⟨_, _, .inr _, _, rfl, .k k2, rfl, rfl, ?_⟩
  repeat walk_at "rc step"
  have hlen := (hds.d d hm).z
  refine sx_for [4] (ei_rng1 ?_)
  repeat walk_at "rc step"
  refine ⟨by omega, by omega, ?_⟩
  rcases hF with ⟨e0, hF⟩ | ⟨w, p, e1, hpg, hp, hF⟩
  · refine ⟨fun i g' R' => i = 0 ∧ R' = bcore bk B n home pool bd ((d.w, .l (d.wr.map wtD)) :: rest), 0, ⟨rfl, rfl⟩, ?_⟩
    rintro i g' R' ⟨rfl, rfl⟩
    refine .inl ⟨by rw [e0]; exact Nat.le_refl _, ?_⟩
    repeat walk_at "rc step"
    exact hF
  · obtain ⟨no, ends, da, wA, wr⟩ := d
    have e1' : wr = [w] := e1
    subst e1'
    refine ⟨fun i g' R' => (i = 0 ∧ (∃ o4 o5, g' = [some (.v (.ref bk)), some (.v (.int no)), some (.v (.int 1)), some (.v (.ref wA)), o4, o5]) ∧ R' = bcore bk B n home pool bd ((wA, .l [wtD w]) :: rest)) ∨
      (i = 1 ∧ R' = bcore bk { B with head := B.head + w.undo } n (brH (B.head + w.undo - B.cells) bd pool home) (plP true p w.before pool) (plD true p B.head fun k => brO (B.head + w.undo - B.cells) (bd k)) ((wA, .l []) :: rest)), 1, .inl ⟨rfl, ⟨none, none, rfl⟩, rfl⟩, ?_⟩
    rintro i g' R' (⟨rfl, ⟨o4, o5, rfl⟩, rfl⟩ | ⟨rfl, rfl⟩)
    · refine .inr ⟨Nat.zero_lt_one, _, ⟨(by decide : 0 < 1), rfl⟩, fun H1 => ?_⟩
      repeat walk_at "rc step"
      refine ⟨_, _, .inr _, _, rfl, .k (by unfold bcore; walk_at "rc mem"), rfl, rfl, ?_⟩
      repeat walk_at "rc step"
      refine ro_ixL (.c (by unfold bcore; walk_at "rc mem")) atI_one ?_
      repeat walk_at "rc step"
      refine c_l_put (dl := dl) (List.mem_cons_of_mem _ hk) hds hn hout ?_
      repeat walk_at "rc step"
      refine ro_ixL (.c (by unfold bcore; walk_at "rc mem")) atI_one ?_
      repeat walk_at "rc step"
      refine ro_ixL (.c (by unfold bcore; walk_at "rc mem")) atI_one ?_
      repeat walk_at "rc step"
      rw [hpg]
      refine c_l_set hp ?_
      unfold bcore
      repeat walk_at "rc step"
      refine em_pop ?_
      repeat walk_at "rc step"
      refine ⟨_, _, _, 4, rfl, rfl, rfl, ?_⟩
      exact .inr ⟨by first | exact rfl | trivial, rfl⟩
    · refine .inl ⟨Nat.le_refl _, ?_⟩
      repeat walk_at "rc step"
      exact hF
end
end Rc
-- K
set_option Elab.async false
set_option linter.all false
set_option maxRecDepth 100000
set_option maxHeartbeats 4000000
/-! RcK: sorted by a lambda's keys, over the region. -/
namespace Rc
open PySem PySem.Spec PyProof.Rows L2
def kD (b : Bool) (z : Int × Int) : D := match b with
  | false => .v (.int z.1)
  | true => .t [.v (.int z.1), .v (.int z.2)]
section
variable [Tbl] {K : PySem.W.Frag} {H0 H1 : Hp} {R0 R R1 : Rg} {b : Bool} {N : List Str} {tb : TE} {q : Str} {x : V} {xs : List V} {es : List D} {kf : D → Int × Int}
theorem kD_key {H : Hp} {Nn : Addr → Prop} {z : Int × Int} {y : V} (r : Rp H Nn (kD b z) y) : KeyIs b z y H := by
  cases b with
  | false => exact rp_v.mp r
  | true =>
    obtain ⟨t, ws, e, _, h1, h2⟩ := rp_t.mp r
    have := rpl_mapV (f := fun n : Int => V.int n) (as := [z.1, z.2]) h2
    rw [this] at h1
    exact ⟨t, e, h1⟩
theorem perm_getD {d0 : D} {is : List Nat} (p : is.Perm (List.range es.length)) : (is.map fun i => es.getD i d0).Perm es := by
  have h := p.map fun i => es.getD i d0
  have e : ((List.range es.length).map fun i => es.getD i d0) = es := by
    refine List.ext_getElem (by simp) fun i h1 h2 => ?_
    simp [List.getD_eq_getElem?_getD, List.getElem?_eq_getElem h2]
  rw [e] at h
  exact h
theorem sortE_core (hH : Holds H1 R1) (hc : CollV K x H1 xs) (r : RpL H1 (Out R1) es xs) (hz : es.length < 64) (hk : ∀ x ∈ es, ∀ H0, EM H0 R1 tb (envOf N [x]) R1 fun k R2 => R2 = R1 ∧ k = kD b (kf x)) {Q : VK}
    (hQ : ∀ ys v H', ys.Perm es → ys.Pairwise (fun x y => kLt b (kf y) (kf x) = false) → Tn H1 R1 H' R1 → Holds H' R1 → Rp H' (Out R1) (.l ys) v → Q v H') : SortE K Tbl.TT q b N tb x H1 Q := by
  refine ⟨xs, fun i => kf (es.getD i (.v .non)), hc, by rw [r.len]; exact hz, hH.tb, fun H2 c' eN T2 hco => ?_⟩
  have t12 : Tn H1 R1 H2 R1 := fun a o n e nt => ⟨n, eN a o e nt⟩
  have hH2 : Holds H2 R1 := ⟨hH.nd, fun p hp => (hH.at_ p hp).mono t12 fun o e => by
    obtain ⟨u, hu, n1, _⟩ := (hH.at_ p hp).plain
    rw [hu] at e
    cases e
    exact eN _ _ hu n1, T2⟩
  have co : Out R1 c' := fun p hp e => by
    obtain ⟨u, hu, _, n2⟩ := (hH2.at_ p hp).plain
    rw [e, hco] at hu
    exact n2 _ _ (Option.some.inj hu).symm
  refine ⟨fun i ys H' => Tn H2 R1 H' R1 ∧ Holds H' R1 ∧ RpL H' (Out R1) ((es.take i).map fun x => kD b (kf x)) ys, ⟨Tn.refl, hH2, RpL.nil⟩, fun i ys H' ⟨t, hH', rk⟩ => ⟨(t c' _ co hco nt_code).2, fun j y hy => ?_⟩, fun i y ys H' hy ⟨t, hH', rk⟩ => ?_, fun is p ys H4 ⟨t, hH4, rk⟩ hn hp hs => ?_⟩
  · obtain ⟨dd, ed, rd⟩ := rk.getV hy
    rw [List.getElem?_map] at ed
    cases c : (es.take i)[j]? with
    | none => rw [c] at ed; cases ed
    | some z =>
      rw [c] at ed
      cases ed
      have e2 : es.getD j (.v .non) = z := by
        rw [List.getElem?_take] at c
        split at c
        · rw [List.getD_eq_getElem?_getD, c]; rfl
        · cases c
      show KeyIs b (kf (es.getD j (.v .non))) y H'
      rw [e2]
      exact kD_key rd
  · obtain ⟨z, ez, rz⟩ := (r.tn (t12.trans t)).getV hy
    refine hk z (List.mem_of_getElem? ez) H' (L2.start N [y]) H' Tn.refl (envR_start (RpL.cons rz RpL.nil)) hH' _ fun d R2 v H'' ⟨eR, ed⟩ t2 hH'' rv => ?_
    subst eR ed
    refine ⟨t.trans t2, hH'', ?_⟩
    rw [List.take_add_one, ez, List.map_append]
    exact (rk.tn t2).app (RpL.cons rv RpL.nil)
  · have hl : xs.length = es.length := r.len
    rw [hl] at hp
    have all : ∀ i ∈ is, i < es.length := fun i hi => List.mem_range.mp (hp.mem_iff.mp hi)
    have r4 := r.tn (t12.trans t)
    have rr : RpL H4 (Out R1) (is.map fun i => es.getD i (.v .non)) (is.map fun i => xs.getD i .non) := by
      clear hp hs
      induction is with
      | nil => exact RpL.nil
      | cons i l ih =>
        refine RpL.cons ?_ (ih fun j hj => all j (List.mem_cons_of_mem _ hj))
        have hi := all i List.mem_cons_self
        obtain ⟨v, e1, r1⟩ := r4.get (i := i) (d := es[i]) (List.getElem?_eq_getElem hi)
        show Rp H4 (Out R1) (es.getD i (.v .non)) (xs.getD i .non)
        rw [List.getD_eq_getElem?_getD, List.getD_eq_getElem?_getD, e1, List.getElem?_eq_getElem hi]
        exact r1
    obtain ⟨n1, n2, n3⟩ := new_l ((t12.trans t)) hH4 rr hn
    exact hQ _ _ _ (perm_getD hp) (by rw [List.pairwise_map]; exact hs) ((t12.trans t).trans n1) n2 n3
/-- of a list -/
theorem em_sortK {ta : TA} {g : Ev} {F : D → Rg → Prop} (h : EA H0 R0 ta g R fun ds R1 => ∃ (d : D) (es : List D) (kf : D → Int × Int), ds = [d] ∧ IsL R1 d es ∧ es.length < 64 ∧ (∀ x ∈ es, ∀ H1, EM H1 R1 tb (envOf N [x]) R1 fun k R2 => R2 = R1 ∧ k = kD b (kf x)) ∧ ∀ ys : List D, ys.Perm es → ys.Pairwise (fun x y => kLt b (kf y) (kf x) = false) → F (.l ys) R1) : EM H0 R0 (tSortK K Tbl.TT q b ta N tb) g R F := fun σ H t e hH Q qq =>
  h σ H t e hH _ fun ds R1 vs H1 ⟨d, es, kf, e1, hl, hz, hk, kF⟩ t1 hH1 r1 => by
    subst e1
    obtain ⟨v, ev, r1⟩ := rpl1 r1
    obtain ⟨a, xs, e2, h1, h2⟩ := hl.get hH1 r1
    exact ⟨v, ev, sortE_core hH1 (.inl ⟨a, e2, SqL.of h1⟩) h2 hz hk fun ys v H' p s t2 hH2 r2 => qq _ R1 v H' (kF ys p s) (t1.trans t2) hH2 r2⟩
/-- of a dict's values -/
theorem em_sortKV {td : TE} {g : Ev} {F : D → Rg → Prop} (h : EM H0 R0 td g R fun d R1 => ∃ (a : Addr) (kvs : List (Key × V)) (kf : D → Int × Int), d = .v (.ref a) ∧ (a, RC.k (vK kvs)) ∈ R1 ∧ kvs.length < 64 ∧ (∀ x ∈ kvs.map (fun p => D.v p.2), ∀ H1, EM H1 R1 tb (envOf N [x]) R1 fun k R2 => R2 = R1 ∧ k = kD b (kf x)) ∧ ∀ ys : List D, ys.Perm (kvs.map fun p => D.v p.2) → ys.Pairwise (fun x y => kLt b (kf y) (kf x) = false) → F (.l ys) R1) : EM H0 R0 (tSortK K Tbl.TT q b (tCons (tVals td) tNil) N tb) g R F := fun σ H t e hH Q qq => by
  show td σ H _
  refine h σ H t e hH _ fun d R1 v H1 ⟨a, kvs, kf, e1, m, hz, hk, kF⟩ t1 hH1 r1 => ?_
  rw [e1] at r1
  have hd := k_at hH1 m
  refine ⟨a, kvs, rp_v.mp r1, .inl hd, fun p hp => ?_⟩
  show ∃ x, [V.ref p] = [x] ∧ SortE K Tbl.TT q b N tb x (upd H1 p (viewV p a)) Q
  have hN := hH1.ex (ex_new (o := viewV p a) hp)
  have t2 : Tn H1 R1 (upd H1 p (viewV p a)) R1 := Tn.ex (ex_new (o := viewV p a) hp)
  refine ⟨_, rfl, sortE_core (es := kvs.map fun p => D.v p.2) (xs := kvs.map (·.2)) hN (.inr (.inl ⟨p, a, kvs, rfl, upd_same, .inl ((upd_ne (ne_of_none hd hp)).trans hd), rfl⟩)) (rpl_map (fun p : Key × V => p.2) kvs) (by rw [List.length_map]; exact hz) hk fun ys v H' pp s t3 hH3 r3 => qq _ R1 v H' (kF ys pp s) ((t1.trans t2).trans t3) hH3 r3⟩
end
end Rc
-- J
set_option Elab.async false
set_option linter.all false
set_option maxRecDepth 100000
set_option maxHeartbeats 4000000
/-! RcJ: the plain state of a ring, what is due. -/
namespace Rc
open PySem PySem.Spec PyProof.Rows L2
structure Pd where
  no : Int
  w : Option Wt
def trs (l : List Pd) : List (Int × Int × Int) := l.filterMap fun d => d.w.map fun w => (w.place, w.undo, d.no)
def srt (ts : List (Int × Int × Int)) : List (Int × Int × Int) := ts.mergeSort fun a b => decide (a.1 ≤ b.1)
theorem srt_perm (ts : List (Int × Int × Int)) : (srt ts).Perm ts := List.mergeSort_perm _ _
theorem srt_pw (ts : List (Int × Int × Int)) : (srt ts).Pairwise fun x y => x.1 ≤ y.1 :=
  (List.pairwise_mergeSort (le := fun a b : Int × Int × Int => decide (a.1 ≤ b.1)) (by intro a b c h1 h2; simp at *; omega) (by intro a b; simp; omega) ts).imp fun h => by simpa using h
theorem srt_uniq {ts ys : List (Int × Int × Int)} (p : ys.Perm ts) (h : ys.Pairwise fun x y => x.1 ≤ y.1) (nd : (ts.map (·.1)).Nodup) : ys = srt ts := by
  have p2 : ys.Perm (srt ts) := p.trans (srt_perm ts).symm
  have nd2 : (ys.map (·.1)).Nodup := (p.map (·.1)).symm.nodup nd
  refine List.Perm.eq_of_pairwise (le := fun a b : Int × Int × Int => decide (a.1 ≤ b.1)) (fun a b ha hb h1 h2 => ?_) (h.imp fun {a b} z => by simpa using z) ((srt_pw ts).imp fun {a b} z => by simpa using z) p2
  have e : a.1 = b.1 := by simp at h1 h2; omega
  have hb' := (p2.mem_iff).mpr hb
  obtain ⟨i, hi, ei⟩ := List.mem_iff_getElem.mp ha
  obtain ⟨j, hj, ej⟩ := List.mem_iff_getElem.mp hb'
  have : i = j := by
    have h3 := (List.pairwise_iff_getElem.mp nd2)
    rcases Nat.lt_trichotomy i j with l | l | l
    · have h4 := h3 i j (by simpa using hi) (by simpa using hj) l
      rw [List.getElem_map, List.getElem_map, ei, ej] at h4
      exact absurd e h4
    · exact l
    · have h4 := h3 j i (by simpa using hj) (by simpa using hi) l
      rw [List.getElem_map, List.getElem_map, ei, ej] at h4
      exact absurd e.symm h4
  subst this
  rw [← ei, ← ej]
/-! ### the two ways to find the youngest of too great a load -/
theorem hvK_succ (p : Nat → Bool) (k : Nat) : (match ((List.range (k + 1)).filter p).getLast? with | some i => i + 1 | none => 0) = if p k = true then k + 1 else (match ((List.range k).filter p).getLast? with | some i => i + 1 | none => 0) := by
  rw [List.range_succ, List.filter_append]
  by_cases c : p k = true
  · rw [if_pos c]
    have e : [k].filter p = [k] := by simp [c]
    rw [e, List.getLast?_append]
    rfl
  · rw [if_neg c]
    have e : [k].filter p = [] := by simp [c]
    rw [e, List.append_nil]
theorem hvB_hvK {c h : Int} {its : List (Int × Option Int × Int)} {p : Nat → Bool} : ∀ k, (∀ i, i < k → decide (c < ldB h its i) = p i) → hvB c h its k = (match ((List.range k).filter p).getLast? with | some i => i + 1 | none => 0)
  | 0, _ => rfl
  | k + 1, e => by
    rw [hvK_succ]
    show (if c < ldB h its k then k + 1 else hvB c h its k) = _
    rw [hvB_hvK k fun i hi => e i (by omega), ← e k (by omega)]
    by_cases z : c < ldB h its k
    · simp [z]
    · simp [z]
theorem hvB_more {c h : Int} {its : List (Int × Option Int × Int)} {m : Nat} : ∀ k, (∀ i, m ≤ i → i < m + k → ¬ c < ldB h its i) → hvB c h its (m + k) = hvB c h its m
  | 0, _ => rfl
  | k + 1, e => by
    show (if c < ldB h its (m + k) then m + k + 1 else hvB c h its (m + k)) = _
    rw [if_neg (e (m + k) (by omega) (by omega)), hvB_more k fun i h1 h2 => e i h1 (by omega)]
def sw (t : Int × Int × Int) : Int × Int × Int := (t.1, t.2.2, t.2.1)
theorem sw_sw (ts : List (Int × Int × Int)) : (ts.map sw).map sw = ts := by
  rw [List.map_map]
  exact List.map_id' ts
theorem hvN_le (c h : Int) (ts : List (Int × Int)) : hvN c h ts ≤ ts.length := by
  unfold hvN
  cases e : (hvL c h ts).getLast? with
  | none => exact Nat.zero_le _
  | some i =>
    have m := List.mem_of_getLast? e
    unfold hvL at m
    exact List.mem_range.mp (List.mem_filter.mp m).1
/-- the book's way over its list by age is the engine's way -/
theorem hv_same {c h : Int} {ys : List (Int × Int × Int)} {zs : List (Int × Option Int × Int)} (hz : ∀ z ∈ zs, z.2.1 = none ∧ z.2.2 ≤ c) : hvB c h (ys.map unf ++ zs) (ys.map unf ++ zs).length = hvN c h ((ys.map sw).map two) := by
  have l1 : (ys.map unf).length = ys.length := List.length_map ..
  rw [List.length_append, l1, hvB_more]
  · unfold hvN hvL
    rw [List.length_map, List.length_map]
    refine hvB_hvK _ fun i hi => ?_
    have g1 : (ys.map unf ++ zs).getD i (0, none, 0) = unf ys[i] := by
      rw [List.getD_eq_getElem?_getD, List.getElem?_append_left (by rw [l1]; exact hi), List.getElem?_map, List.getElem?_eq_getElem hi]; rfl
    have g2 : ((ys.map sw).map two).getD i (0, 0) = two (sw ys[i]) := by
      rw [List.getD_eq_getElem?_getD, List.getElem?_map, List.getElem?_map, List.getElem?_eq_getElem hi]; rfl
    have t1 : (ys.map unf ++ zs).take (i + 1) = (ys.take (i + 1)).map unf := by
      rw [List.take_append_of_le_length (by rw [l1]; omega), List.map_take]
    unfold ldB ldAt
    rw [g1, g2, t1, ← List.map_take, ← List.map_take, List.map_map, List.map_map, List.map_map]
    rfl
  · intro i h1 h2 hlt
    unfold ldB at hlt
    have hi : i - ys.length < zs.length := by omega
    have g1 : (ys.map unf ++ zs).getD i (0, none, 0) = zs[i - ys.length] := by
      rw [List.getD_eq_getElem?_getD, List.getElem?_append_right (by rw [l1]; exact h1), l1, List.getElem?_eq_getElem hi]; rfl
    obtain ⟨z1, z2⟩ := hz _ (List.getElem_mem hi)
    rw [g1, z1] at hlt
    simp at hlt
    omega
/-- what the heavy ones are told as -/
def heavyD (k : Nat) (zs : List (Int × Int × Int)) : D := if k = 0 then .v .non else .t ((zs.take k).map fun t => .v (.int t.2.2))
theorem heavy_same {k : Nat} {ys : List (Int × Int × Int)} {zs : List (Int × Option Int × Int)} (hk : k ≤ ys.length) : (if k = 0 then D.v .non else .t (((ys.map unf ++ zs).take k).map fun t => .v (.int t.1))) = heavyD k (ys.map sw) := by
  unfold heavyD
  by_cases c : k = 0
  · rw [if_pos c, if_pos c]
  · rw [if_neg c, if_neg c, List.take_append_of_le_length (by rw [List.length_map]; exact hk), ← List.map_take, ← List.map_take, List.map_map, List.map_map]
    rfl
end Rc
-- G20
set_option Elab.async false
set_option linter.all false
set_option maxRecDepth 100000
set_option maxHeartbeats 4000000
namespace Rc
open PySem PySem.Spec PyProof.Rows L2 RcHead
local macro_rules | `(tactic| walk_at "rc mem") => `(tactic| first | assumption | exact List.mem_cons_self | ((with_reducible (refine List.mem_cons_of_mem _ ?_)); walk_at "rc mem"))
local macro_rules | `(tactic| walk_at "rc end") => `(tactic| fail)
local macro_rules | `(tactic| walk_at "rc lst") => `(tactic| with_reducible refine em_lst ?_)
local macro_rules | `(tactic| walk_at "rc call") => `(tactic| fail)
local macro_rules | `(tactic| walk_at "rc step") => `(tactic| first
  | ((with_reducible (apply em_var)); rfl)
  | with_reducible refine em_c ?_
  | with_reducible refine em_op ?_
  | with_reducible refine ro_I0 ?_
  | ((with_reducible (refine ro_eq ?_ ?_)); rfl)
  | ((with_reducible (refine ro_ne ?_ ?_)); rfl)
  | with_reducible refine ro_isN ?_
  | with_reducible refine ro_notN ?_
  | with_reducible refine ea_nil ?_
  | with_reducible refine ea_cons ?_
  | with_reducible refine em_call ?_
  | walk_at "rc call"
  | (with_reducible refine em_fld ?_)
  | (refine ⟨_, _, _, _, rfl, (by walk_at "rc mem"), (by assumption), (by assumption), (by rfl), ?_⟩)
  | with_reducible refine ra_listV ?_
  | with_reducible refine em_cb ?_
  | with_reducible refine em_tup ?_
  | walk_at "rc lst"
  | with_reducible refine em_if ?_
  | with_reducible refine em_andV ?_
  | with_reducible refine em_orV ?_
  | with_reducible refine em_notV ?_
  | with_reducible refine em_chain ?_
  | with_reducible refine et_test ?_
  | with_reducible refine et_B ?_
  | with_reducible refine et_and ?_
  | with_reducible refine et_or ?_
  | with_reducible refine et_not ?_
  | with_reducible refine et_yes ?_
  | with_reducible refine sx_seq ?_
  | with_reducible refine sx_next ?_
  | with_reducible refine sx_asg ?_
  | with_reducible refine sx_ret ?_
  | with_reducible refine sx_append ?_
  | with_reducible refine sx_drop ?_
  | with_reducible refine sx_if ?_
  | (refine ⟨_, rfl, ?_⟩)
  | (refine ⟨fun _ => ?_, fun z => Bool.noConfusion z⟩)
  | (refine ⟨fun z => Bool.noConfusion z, fun _ => ?_⟩)
  | with_reducible refine em_make ?_
  | with_reducible refine em_meth ?_
  | (refine ⟨_, _, rfl, (by walk_at "rc mem"), rfl, ?_⟩)
  | with_reducible refine em_neg ?_
  | with_reducible refine sx_fld ?_
  | (refine ⟨_, _, _, 0, rfl, rfl, (by assumption), (by assumption), (of_decide_eq_true rfl), ?_⟩)
  | ((with_reducible (apply ra_len)); (first | exact .l .d | exact .t | exact .l (.c (by walk_at "rc mem"))))
  | ((with_reducible (apply ra_lenK)); (walk_at "rc mem"))
  | ((with_reducible (apply ro_ixL)); (first | exact .d | exact .c (by walk_at "rc mem")); (first | rfl | exact atI_0))
  | ((with_reducible (apply ro_ixT)); rfl)
  | (with_reducible (refine gx_name ?_ (by decide)))
  | ((with_reducible (apply gx_tupR)); rfl)
  | with_reducible refine gxs_cons ?_
  | with_reducible refine gxs_nil ?_
  | (exact ⟨rfl, rfl⟩)
  | (refine ⟨rfl, ?_⟩)
  | with_reducible refine em_dget ?_
  | with_reducible refine sx_lockAsg ?_
  | with_reducible refine em_din ?_
  | with_reducible refine em_dnotIn ?_
  | ((with_reducible (apply sx_aug)); rfl)
  | with_reducible refine sx_setL ?_
  | with_reducible refine sx_dput ?_
  | with_reducible refine gx_fld ?_
  | (with_reducible (apply sx_fldAug))
  | ((with_reducible (apply sx_rz)); assumption)
  | (refine ⟨(by simp only [List.length_cons, List.length_nil]; omega), ?_⟩))
local macro_rules | `(tactic| walk_at "rc perm") => `(tactic| (refine Mu.of ?_; simp only [Mu.app, Mu.cons, Mu.nil, Mu.nil_add, Mu.add_nil, List.append_eq]; ac_rfl))
section
variable [Tbl] {P : Program} {w : World} {K : PySem.W.Frag} {mg : Str → Option Value} {base : Heap}
local macro_rules | `(tactic| walk_at "rc call") => `(tactic| fail)
def ddP (d : Dd) : Pd := ⟨d.no, d.wr.head?⟩
theorem its_part : ∀ its : List (Int × Option Int × Int), ((frs its).map unf ++ its.filter fun t => t.2.1.isNone).Perm its
  | [] => List.Perm.refl _
  | (a, none, c) :: l => by
    show ((frs l).map unf ++ (a, none, c) :: l.filter fun t => t.2.1.isNone).Perm _
    exact List.perm_middle.trans ((its_part l).cons _)
  | (a, some f, c) :: l => by
    show ((a, some f, c) :: ((frs l).map unf ++ l.filter fun t => t.2.1.isNone)).Perm _
    exact (its_part l).cons _
theorem dd_frs {d : Dd} (h : d.wr.length ≤ 1) : (optF d).map (fun f => (f, d.no, needI d)) = (d.wr.head?.map fun w => (w.place, w.undo, d.no)).map sw := by
  obtain ⟨no, ends, a, wA, wr⟩ := d
  match wr, h with
  | [], _ => rfl
  | [w], _ =>
    show some (w.place, no, (List.sum [w.undo] : Int)) = some (w.place, no, w.undo)
    simp
theorem frs_its : ∀ {dl : List Dd}, (∀ d ∈ dl, d.wr.length ≤ 1) → frs (itsOf dl) = (trs (dl.map ddP)).map sw
  | [], _ => rfl
  | d :: l, h => by
    have ih := frs_its (dl := l) fun d hd => h d (List.mem_cons_of_mem _ hd)
    have e := dd_frs (h d List.mem_cons_self)
    unfold frs itsOf trs at ih ⊢
    rw [List.map_cons, List.map_cons, List.filterMap_cons, List.filterMap_cons]
    obtain ⟨no, ends, a, wA, wr⟩ := d
    match wr, e with
    | [], _ => exact ih
    | w :: l', e =>
      have e' : (w.place, no, needI ⟨no, ends, a, wA, w :: l'⟩) = (w.place, no, w.undo) := Option.some.inj e
      exact (congrArg (fun x => x :: List.filterMap (fun t : Int × Option Int × Int => Option.map (fun f => (f, t.1, t.2.2)) t.2.1) (List.map (fun d => (d.no, optF d, needI d)) l)) e').trans (congrArg (List.cons _) ih)
theorem its_filter {dl : List Dd} {no : Int} : (itsOf dl).filter (fun t => !decide (t.1 = no)) = itsOf (dl.filter fun d => decide (d.no ≠ no)) := by
  unfold itsOf
  rw [List.filter_map]
  congr 1
  refine List.filter_congr fun d _ => ?_
  simp
theorem its_none {dl : List Dd} {t : Int × Option Int × Int} (m : t ∈ itsOf dl) (h : t.2.1.isNone = true) : t.2.1 = none ∧ t.2.2 = 0 := by
  obtain ⟨d, _, rfl⟩ := List.mem_map.mp m
  obtain ⟨no, ends, a, wA, wr⟩ := d
  cases wr with
  | nil => exact ⟨rfl, rfl⟩
  | cons w l => cases h
theorem frs_perm {a b : List (Int × Option Int × Int)} (p : a.Perm b) : (frs a).Perm (frs b) := p.filterMap _
theorem fm_ite {α : Type} {p : α → Bool} {g : α → D} : ∀ l : List α, (l.filterMap fun t => if p t = true then some (g t) else none) = (l.filter p).map g
  | [] => rfl
  | a :: l => by
    rw [List.filterMap_cons, List.filter_cons, fm_ite l]
    cases p a <;> rfl
def kfI : D → Int × Int
  | .t (.v (.int i) :: _) => (i, 0)
  | _ => (0, 0)
theorem sl_l_full : FnScope ["_law_item"] ["_law_item"] (match defBody (top 62) with
  | [_, _, .Return (some (.Call _ [_, .Call _ [.Call _ _ [⟨_, .Lambda _ _ sc _, _⟩] _] _ _, _] _ _)) _] => sc
  | _ => defScope (top 62)) := ⟨rfl, rfl, rfl, by decide +kernel, rfl, by decide +kernel, by decide +kernel⟩
theorem sc_l_full : FnScope ["_law_book_here", "_law_asker", "_law_cells", "_law_first_here", "_law_need_here", "_law_others", "_law_mine", "_law_item"] ["_law_book_here", "_law_asker", "_law_cells", "_law_first_here", "_law_need_here"] (defScope (top 62)) := ⟨rfl, rfl, rfl, by decide +kernel, rfl, by decide +kernel, by decide +kernel⟩
theorem kp_l_full (W : Wd w K mg base) : PySem.W.keepIn K (.ref (He.fAd K ("_law_full", none))) = true := W.kp 22
theorem b_l_full (W : Wd w K mg base) : Binds K (fdO K (He.fAd K ("_law_full", none))) ["_law_book_here", "_law_asker", "_law_cells", "_law_first_here", "_law_need_here"] [] := (W.F 22).bindsN fun _ _ _ _ _ _ us hl => match us, hl with | [_, _, _, _, _], _ => rfl
def gm_l_full [Tbl] : Gm := fun ds R F => ∃ (bk : Addr) (B : Bk) (dl : List Dd) (no c : Int) (mine : Option (Int × Int)), ds = [.v (.ref bk), .v (.int no), .v (.int c), .v (optV (mine.map (·.1))), .v (optV (mine.map (·.2)))] ∧ (bk, RC.k (bkFs B)) ∈ R ∧ (B.deedsA, RC.k (vK (ddK dl))) ∈ R ∧ DsIn B dl R ∧ dl.length ≤ 50 ∧ 0 ≤ B.cells ∧ (∀ d ∈ dl, d.wr.length ≤ 1) ∧
  (∀ t ∈ frs (itsOf dl), TS.Bd (2 ^ 60) [t.1, t.2.1, t.2.2]) ∧ (∀ m, mine = some m → TS.Bd (2 ^ 60) [m.1, no, m.2]) ∧
  ∀ zs : List (Int × Int × Int), zs.Perm (trs ((dl.filter fun d => decide (d.no ≠ no)).map ddP) ++ (mine.map fun m => (m.1, m.2, no)).toList) → zs.Pairwise (fun x y => x.1 ≤ y.1) → F (heavyD (hvN B.cells (B.head + c) (zs.map two)) zs) R
abbrev sp_l_full [Tbl] : Sp := spM (gm_l_full)
theorem c_l_full [Tbl] {H0 : Hp} {R0 R : Rg} {Ex : XK} {F : D → Rg → Prop} {bk : Addr} {B : Bk} {dl : List Dd} {no c : Int} {mine : Option (Int × Int)} {d1 d2 : D} (e1 : d1 = .v (optV (mine.map (·.1)))) (e2 : d2 = .v (optV (mine.map (·.2)))) (h1 : (bk, RC.k (bkFs B)) ∈ R) (h2 : (B.deedsA, RC.k (vK (ddK dl))) ∈ R) (h3 : DsIn B dl R) (h4 : dl.length ≤ 50) (h5 : 0 ≤ B.cells) (h6 : ∀ d ∈ dl, d.wr.length ≤ 1) (h7 : ∀ t ∈ frs (itsOf dl), TS.Bd (2 ^ 60) [t.1, t.2.1, t.2.2]) (h8 : ∀ m, mine = some m → TS.Bd (2 ^ 60) [m.1, no, m.2])
  (k : ∀ zs : List (Int × Int × Int), zs.Perm (trs ((dl.filter fun d => decide (d.no ≠ no)).map ddP) ++ (mine.map fun m => (m.1, m.2, no)).toList) → zs.Pairwise (fun x y => x.1 ≤ y.1) → F (heavyD (hvN B.cells (B.head + c) (zs.map two)) zs) R) : RS H0 R0 sp_l_full Ex [.v (.ref bk), .v (.int no), .v (.int c), d1, d2] R F := rs_m ⟨bk, B, dl, no, c, mine, by rw [e1, e2], h1, h2, h3, h4, h5, h6, h7, h8, k⟩
theorem ok_l_full (W : Wd w K mg base) : FnOk P w K mg base CX0 6 (He.fAd K ("_law_full", none)) (fdO K (He.fAd K ("_law_full", none))) ["_law_book_here", "_law_asker", "_law_cells", "_law_first_here", "_law_need_here"] (sp_l_full) := by
  refine okC (p := ("_law_full", none)) (W.F 22) sc_l_full ?_ (fun A outer s H vs Q E hr h => ?_)
  · exact lenM fun ds R F h => by obtain ⟨bk, B, dl, no, c, mine, rfl, hB, hk, hds, hdl, hcz, hw1, hb, hbm, hF⟩ := h; rfl
  have hu64 := hr.units
  have hu := Nat.lt_of_le_of_lt (Nat.add_le_add_left (show 1 ≤ 64 by decide) _) hu64
  have TB := W.tb ("_law_full", none) (List.mem_cons_of_mem _ List.mem_cons_self)
  have HM : ((He.cT K ("_law_full", none)).2, Str.ofString "_law_full.<locals>." ++ Str.ofString "<lambda>") ∈ Tbl.TT := by rw [W.tt]; exact List.mem_cons_of_mem _ List.mem_cons_self
  have HU : ∀ p ∈ Tbl.TT, p.1 = (He.cT K ("_law_full", none)).2 → p.2 = Str.ofString "_law_full.<locals>." ++ Str.ofString "<lambda>" := by
    rw [W.tt]
    intro p hp e
    rcases List.mem_cons.mp hp with z | z
    · rw [z] at e; exact absurd e W.two
    · rw [List.mem_singleton.mp z]
  refine ⟨_, PSs.nox (pss_cons (ps_setLc (i := 5) (own := [("_law_item", 7)]) (g := (gName 7)) rfl sc_l_full.nd rfl rfl (sw_true rfl rfl rfl (by decide +kernel)) (ilistK (K := K) rfl (pe_call (ok_l_items (K := K) W) (hr.mono (by decide)) rfl (W.glo 19) (kp_l_items W) (b_l_items W) .nil pass0 (pa_cons (pv 0) pa_nil))) (blkOk_by (show blkC ["_law_book_here", "_law_asker", "_law_cells", "_law_first_here", "_law_need_here", "_law_others", "_law_mine", "_law_item"] (defScope (top 62)) _ [("_law_item", 7)] = true by decide +kernel)) (fun _ _ _ _ _ => (pg_name (i := 7) sc_l_full.nd rfl (.inl rfl))) (fun _ _ _ _ _ => (pts_one (pt_cmpR op_ne (pe_ix (ixtK (K := K) rfl) (pv 7) pe_int (fun _ _ => rfl)) (pv 1) (nomark _)))) (fun _ _ _ _ _ => (pv 7)))
    (pss_cons (ps_set (i := 6) sc_l_full.nd rfl (.inl rfl) (pe_ifExp (pt_cmpR op_notN (pv 4) pe_non (nomark _)) (pe_lst (pa_cons (pe_tup (pa_cons (pv 1) (pa_cons (pv 3) (pa_cons (pv 4) pa_nil)))) pa_nil)) (pe_lst pa_nil)))
    (pss_one (ps_ret (pe_call (ok_l_heavy (K := K) W) (hr.mono (by decide)) rfl (W.glo 21) (kp_l_heavy W) (b_l_heavy W) .nil pass0 (pa_cons (pv 0) (pa_cons (pe_call (ok_l_by_age (K := K) W) (hr.mono (by decide)) rfl (W.glo 20) (kp_l_by_age W) (b_l_by_age W) .nil pass0 (pa_cons (pe_sortK (k := 1) (b := false) (N := ["_law_item"]) (a1 := "_law_item") rfl rfl (W.free 51) (pa_cons (pe_op op_cat (pv 5) (pv 6)) pa_nil) TB rfl HM HU (hr.mono (show 4 ≤ 5 by decide)) rfl (fun y hy e => absurd e (by rw [List.mem_singleton.mp hy]; decide)) rfl sl_l_full (fun _ _ _ _ us hl => match us, hl with | [_], _ => rfl) (fun _ _ _ _ _ _ hr => (pe_ix (ixtK (K := K) rfl) (pv 0) pe_int (fun _ _ => rfl)))) pa_nil)) (pa_cons (pv 2) pa_nil)))))))), entryM h ?_⟩
  clear h hu hu64 hr
  rintro ds R F ⟨bk, B, dl, no, c, mine, rfl, hB, hk, hds, hdl, hcz, hw1, hb, hbm, hF⟩
  refine sx_seq (sx_asg (em_lcI ?_))
  repeat walk_at "rc step"
  refine c_l_items hB hk hds hb fun ys hp hs => ?_
  have pall : (ys.map unf ++ (itsOf dl).filter fun t => t.2.1.isNone).Perm (itsOf dl) := ((hp.map unf).append_right _).trans (its_part _)
  have lall := pall.length_eq
  have lits : (itsOf dl).length = dl.length := List.length_map ..
  refine ⟨_, ys.map unf ++ (itsOf dl).filter (fun t => t.2.1.isNone), itD, fun t => if (!decide (t.1 = no)) = true then some (itD t) else none, .d, by omega, fun t ht H1 Rx hs' => ?_, ?_⟩
  · repeat walk_at "rc step"
    have ev : decide (V.int t.1 = V.int no) = decide (t.1 = no) := by simp
    rw [ev]
    refine ⟨fun h => ?_, fun h => ?_⟩
    · repeat walk_at "rc step"
      exact if_pos h
    · exact if_neg (by rw [h]; decide)
  rw [fm_ite]
  have poth := pall.filter (fun t => !decide (t.1 = no))
  rw [its_filter] at poth
  have loth := poth.length_eq
  have lfil : (itsOf (dl.filter fun d => decide (d.no ≠ no))).length ≤ dl.length := by
    unfold itsOf
    rw [List.length_map]
    exact List.length_filter_le _ _
  generalize (ys.map unf ++ (itsOf dl).filter fun t => t.2.1.isNone).filter (fun t => !decide (t.1 = no)) = oth at *
  refine sx_seq (sx_asg (EM.mono (F := fun d R' => R' = R ∧ d = .l ((mine.map fun m => (no, some m.1, m.2)).toList.map itD)) ?_ ?_))
  · cases mine with
    | none =>
      repeat walk_at "rc step"
    | some m =>
      repeat walk_at "rc step"
  rintro d R' ⟨rfl, rfl⟩
  obtain ⟨ml, eml⟩ : ∃ ml, ml = (mine.map fun m => (no, some m.1, m.2)).toList := ⟨_, rfl⟩
  rw [← eml]
  have lml : ml.length ≤ 1 := by rw [eml]; cases mine <;> simp
  repeat walk_at "rc step"
  refine em_sortK ?_
  repeat walk_at "rc step"
  refine ro_cat .d .d (by rw [List.length_map, List.length_map]; omega) ?_
  repeat walk_at "rc step"
  refine ⟨_, (oth ++ ml).map itD, kfI, rfl, by rw [List.map_append]; exact .d, by rw [List.length_map, List.length_append]; omega, fun x hx H1 => ?_, fun ys1 hp1 _ => ?_⟩
  · obtain ⟨t, _, rfl⟩ := List.mem_map.mp hx
    repeat walk_at "rc step"
  obtain ⟨its2, pits, rfl⟩ := perm_idx hp1 _ rfl
  repeat walk_at "rc step"
  have pfr : (frs its2).Perm ((trs ((dl.filter fun d => decide (d.no ≠ no)).map ddP)).map sw ++ (mine.map fun m => (m.1, no, m.2)).toList) := by
    refine (frs_perm pits).trans ?_
    have e1 : frs (oth ++ ml) = frs oth ++ frs ml := List.filterMap_append
    rw [e1]
    have e2 : frs ml = (mine.map fun m => (m.1, no, m.2)).toList := by
      rw [eml]
      cases mine <;> rfl
    rw [e2]
    refine List.Perm.append_right _ ((frs_perm poth).trans ?_)
    rw [frs_its fun d hd => hw1 d (List.mem_filter.mp hd).1]
  have bd2 : ∀ t ∈ frs its2, TS.Bd (2 ^ 60) [t.1, t.2.1, t.2.2] := fun t ht => by
    rcases List.mem_append.mp ((pfr.mem_iff).mp ht) with z | z
    · rw [← frs_its fun d hd => hw1 d (List.mem_filter.mp hd).1] at z
      refine hb t ?_
      rw [← its_filter] at z
      obtain ⟨u, hu, eu⟩ := List.mem_filterMap.mp z
      exact List.mem_filterMap.mpr ⟨u, (List.mem_filter.mp hu).1, eu⟩
    · cases mine with
      | none => cases z
      | some m =>
        rw [List.mem_singleton.mp z]
        exact hbm m rfl
  have l2 : its2.length ≤ 60 := by
    have := pits.length_eq
    rw [List.length_append] at this
    omega
  refine c_l_by_age .d l2 bd2 fun ys2 hp2 hs2 => ?_
  repeat walk_at "rc step"
  have ly : ys2.length ≤ its2.length := by
    rw [hp2.length_eq]
    exact List.length_filterMap_le _ _
  refine c_l_heavy hB (by
    have e5 := (its_part its2).length_eq
    rw [List.length_append, List.length_map] at e5 ⊢
    rw [hp2.length_eq]
    omega) ?_
  have hz : ∀ z ∈ its2.filter (fun t => t.2.1.isNone), z.2.1 = none ∧ z.2.2 ≤ B.cells := fun z hz => by
    obtain ⟨z1, z2⟩ := List.mem_filter.mp hz
    rcases List.mem_append.mp ((pits.mem_iff).mp z1) with q | q
    · have q' := (poth.mem_iff).mp q
      obtain ⟨a1, a2⟩ := its_none q' z2
      exact ⟨a1, by omega⟩
    · rw [eml] at q
      cases mine with
      | none => cases q
      | some m =>
        rw [List.mem_singleton.mp q] at z2
        cases z2
  rw [hv_same hz, heavy_same (by have := hvN_le B.cells (B.head + c) ((ys2.map sw).map two); rw [List.length_map, List.length_map] at this; exact this)]
  refine hF _ ?_ ?_
  · have p3 := (hp2.trans pfr).map sw
    rw [List.map_append, sw_sw] at p3
    have e4 : ((mine.map fun m => (m.1, no, m.2)).toList).map sw = (mine.map fun m => (m.1, m.2, no)).toList := by cases mine <;> rfl
    rw [e4] at p3
    exact p3
  · rw [List.pairwise_map]
    exact hs2
end
end Rc
-- V
set_option Elab.async false
set_option linter.all false
set_option maxRecDepth 100000
set_option maxHeartbeats 4000000
/-! RcV: the plain state; how a region holds an engine, a book in such a state. -/
namespace Rc
open PySem PySem.Spec PyProof.Rows L2
variable [Tbl]
structure Ps where
  c : Int
  head : Int
  n : Nat
  home : Nat → Int
  pool : Nat → Int
  bd : Nat → Option Int
  dl : List Pd
  nxt : Int
structure PsOk (s : Ps) (t : Nat) : Prop where
  n60 : s.n ≤ 60
  n1 : 0 < s.n
  out : ∀ k, s.n ≤ k → s.bd k = none
  srt : s.dl.Pairwise fun a b => a.no < b.no
  z : s.dl.length ≤ 50
  no : ∀ d ∈ s.dl, 0 ≤ d.no ∧ d.no < s.nxt
  w : ∀ d ∈ s.dl, ∀ w, d.w = some w → w.page = d.no ∧ d.no < s.n ∧ 0 ≤ w.place ∧ w.place < s.head ∧ 1 ≤ w.undo ∧ w.undo ≤ 1000
  nd : ((trs s.dl).map (·.1)).Nodup
  c0 : 1 ≤ s.c ∧ s.c ≤ 1000000
  h0 : 0 ≤ s.head ∧ s.head ≤ 1000 * t
  nx : 0 ≤ s.nxt ∧ s.nxt ≤ 100
  t : t ≤ 60000
def undP (d : Pd) : Int := match d.w with
  | some w => w.undo
  | none => 0
def itP (d : Pd) : Int × Option Int × Int := (d.no, d.w.map (·.place), undP d)
def itemsP (s : Ps) : List (Int × Option Int × Int) := ((srt (trs s.dl)).map fun t => (t.2.2, some t.1, t.2.1)) ++ (s.dl.map itP).filter fun t => t.2.1.isNone
def holdP (l : List Pd) (pg : Int) : V := match l.find? fun d => d.w.any fun w => decide (w.page = pg) with
  | some d => .int d.no
  | none => .non
theorem trs_mem {l : List Pd} {t : Int × Int × Int} (h : t ∈ trs l) : ∃ d ∈ l, ∃ w, d.w = some w ∧ t = (w.place, w.undo, d.no) := by
  obtain ⟨d, hd, e⟩ := List.mem_filterMap.mp h
  cases c : d.w with
  | none => rw [c] at e; cases e
  | some w => rw [c] at e; cases e; exact ⟨d, hd, w, c, rfl⟩
theorem trs_len (l : List Pd) : (trs l).length ≤ l.length := List.length_filterMap_le _ _
section
variable {s : Ps} {t : Nat}
theorem PsOk.hb (ok : PsOk s t) : s.head < 2 ^ 60 := by
  have h1 := ok.h0.2
  have h2 := ok.t
  omega
theorem PsOk.bdw (ok : PsOk s t) {d : Pd} {w : Wt} (hd : d ∈ s.dl) (hw : d.w = some w) : TS.Bd (2 ^ 60) [w.place, w.undo, d.no] := by
  obtain ⟨_, _, a1, a2, a3, a4⟩ := ok.w d hd w hw
  have b := ok.hb
  have c := ok.no d hd
  have e := ok.nx
  intro x hx
  simp at hx
  rcases hx with rfl | rfl | rfl
  · constructor <;> omega
  · constructor <;> omega
  · constructor <;> omega
end
/-! ### the book -/
def dcells (d : Dd) : Rg := [(d.a, .k (ddFs d)), (d.w, .l (d.wr.map wtD))]
def BkL (bk : Addr) (s : Ps) (B : Bk) (ds : List Dd) (jk : Rg) : Rg := bcore bk B s.n s.home s.pool s.bd ((B.deedsA, .k (vK (ddK ds))) :: (ds.flatMap dcells ++ jk))
structure BkV (s : Ps) (B : Bk) (ds : List Dd) : Prop where
  c : B.cells = s.c
  h : B.head = s.head
  nx : B.nxt = s.nxt
  dl : ds.map ddP = s.dl
  one : ∀ d ∈ ds, d.ends = 1 ∧ d.wr.length ≤ 1
def NoRow (X : Rg) : Prop := ∀ c ∈ X, ∀ C r, c.2 ≠ .i C (rwFs r)
def BkAt (bk : Addr) (s : Ps) (R X : Rg) : Prop := ∃ B ds jk, R.Perm (BkL bk s B ds jk ++ X) ∧ BkV s B ds ∧ NoRow jk
structure BkF0 (bk : Addr) (s : Ps) (R : Rg) (B : Bk) (ds : List Dd) : Prop where
  b : (bk, RC.k (bkFs B)) ∈ R
  k : (B.deedsA, RC.k (vK (ddK ds))) ∈ R
  d : DsIn B ds R
  v : BkV s B ds
  home : (B.homeA, RC.l (intsF s.n s.home)) ∈ R
  pool : (B.poolA, RC.l (intsF s.n s.pool)) ∈ R
  dirty : (B.dirtyA, RC.l (optL s.n s.bd)) ∈ R
def BkF (bk : Addr) (s : Ps) (R : Rg) : Prop := ∃ B ds, BkF0 bk s R B ds
theorem BkF0.sub {bk : Addr} {s : Ps} {R R' : Rg} {B : Bk} {ds : List Dd} (h : BkF0 bk s R B ds) (z : ∀ c ∈ R, c ∈ R') : BkF0 bk s R' B ds := ⟨z _ h.b, z _ h.k, h.d.sub z, h.v, z _ h.home, z _ h.pool, z _ h.dirty⟩
theorem BkF.sub {bk : Addr} {s : Ps} {R R' : Rg} (h : BkF bk s R) (z : ∀ c ∈ R, c ∈ R') : BkF bk s R' := let ⟨B, ds, h⟩ := h; ⟨B, ds, h.sub z⟩
section
variable {bk : Addr} {s : Ps} {t : Nat} {B : Bk} {ds : List Dd} {jk X R : Rg}
theorem BkV.mem (v : BkV s B ds) {d : Pd} (h : d ∈ s.dl) : ∃ d' ∈ ds, ddP d' = d := by
  rw [← v.dl] at h
  exact List.mem_map.mp h
theorem BkV.z (v : BkV s B ds) (ok : PsOk s t) : ds.length ≤ 50 := by
  have := ok.z
  rw [← v.dl, List.length_map] at this
  exact this
theorem BkV.srt (v : BkV s B ds) (ok : PsOk s t) : ds.Pairwise fun a b => a.no < b.no := by
  have := ok.srt
  rw [← v.dl, List.pairwise_map] at this
  exact this
theorem DsIn.of (v : BkV s B ds) (ok : PsOk s t) (h1 : (B.deedsA, RC.k (vK (ddK ds))) ∈ R) (h2 : ∀ d ∈ ds, ∀ c ∈ dcells d, c ∈ R) : DsIn B ds R :=
  ⟨.k h1, fun d hd => ⟨h2 d hd _ List.mem_cons_self, h2 d hd _ (List.mem_cons_of_mem _ List.mem_cons_self), Nat.le_trans (v.one d hd).2 (by decide)⟩, v.srt ok, Nat.le_trans (v.z ok) (by decide)⟩
theorem BkF0.of (ok : PsOk s t) (p : R.Perm (BkL bk s B ds jk ++ X)) (v : BkV s B ds) : BkF0 bk s R B ds := by
  have m : ∀ c, c ∈ BkL bk s B ds jk → c ∈ R := fun c h => p.mem_iff.mpr (List.mem_append_left _ h)
  have m1 : ∀ d ∈ ds, ∀ c ∈ dcells d, c ∈ R := fun d hd c hc => m c (sub4 _ (List.mem_cons_of_mem _ (List.mem_append_left _ (List.mem_flatMap.mpr ⟨d, hd, hc⟩))))
  have mk := m _ (sub4 _ List.mem_cons_self)
  refine ⟨m _ ?_, mk, DsIn.of v ok mk m1, v, m _ ?_, m _ ?_, m _ ?_⟩ <;> simp [BkL, bcore]
theorem BkAt.f (h : BkAt bk s R X) (ok : PsOk s t) : BkF bk s R := let ⟨B, ds, jk, p, v, _⟩ := h; ⟨B, ds, .of ok p v⟩
theorem its_P (v : BkV s B ds) : itsOf ds = s.dl.map itP := by
  rw [← v.dl, List.map_map]
  unfold itsOf
  refine List.map_congr_left fun d hd => ?_
  have h := (v.one d hd).2
  obtain ⟨no, ends, a, wA, wr⟩ := d
  match wr, h with
  | [], _ => rfl
  | [w], _ =>
    show (no, some w.place, (List.sum [w.undo] : Int)) = (no, some w.place, w.undo)
    simp
theorem frs_P (v : BkV s B ds) : frs (itsOf ds) = (trs s.dl).map sw := by rw [frs_its fun d hd => (v.one d hd).2, v.dl]
theorem bd_P (v : BkV s B ds) (ok : PsOk s t) : ∀ t ∈ frs (itsOf ds), TS.Bd (2 ^ 60) [t.1, t.2.1, t.2.2] := fun x hx => by
  rw [frs_P v] at hx
  obtain ⟨y, hy, rfl⟩ := List.mem_map.mp hx
  obtain ⟨d, hd, w, hw, rfl⟩ := trs_mem hy
  have := ok.bdw hd hw
  intro z hz
  refine this z ?_
  simp [sw] at hz ⊢
  rcases hz with h | h | h
  · exact .inl h
  · exact .inr (.inr h)
  · exact .inr (.inl h)
theorem sw_srt {ts ys : List (Int × Int × Int)} (p : ys.Perm (ts.map sw)) (h : ys.Pairwise fun x y => x.1 ≤ y.1) (nd : (ts.map (·.1)).Nodup) : ys = (srt ts).map sw := by
  have e : ys.map sw = srt ts := srt_uniq (by have := p.map sw; rw [sw_sw] at this; exact this) (by rw [List.pairwise_map]; exact h) nd
  rw [← e, sw_sw]
end
section
variable {H0 : Hp} {R0 R X : Rg} {Ex : XK} {F : D → Rg → Prop} {bk : Addr} {s : Ps} {t : Nat}
theorem f_items (h : BkF bk s R) (ok : PsOk s t) (k : F (.l ((itemsP s).map itD)) R) : RS H0 R0 sp_l_items Ex [.v (.ref bk)] R F := by
  obtain ⟨B, ds, h⟩ := h
  refine c_l_items h.b h.k h.d (bd_P h.v ok) fun ys hp hs => ?_
  rw [frs_P h.v] at hp
  rw [sw_srt hp hs ok.nd, its_P h.v, List.map_map]
  exact k
theorem f_full (h : BkF bk s R) (ok : PsOk s t) {no c : Int} {mine : Option (Int × Int)} {d1 d2 : D} (e1 : d1 = .v (optV (mine.map (·.1)))) (e2 : d2 = .v (optV (mine.map (·.2)))) (hm : ∀ m, mine = some m → TS.Bd (2 ^ 60) [m.1, no, m.2]) {L : List (Int × Int × Int)}
    (eL : L.Perm (trs (s.dl.filter fun d => decide (d.no ≠ no)) ++ (mine.map fun m => (m.1, m.2, no)).toList)) (nd : (L.map (·.1)).Nodup) (k : F (heavyD (hvN s.c (s.head + c) ((srt L).map two)) (srt L)) R) : RS H0 R0 sp_l_full Ex [.v (.ref bk), .v (.int no), .v (.int c), d1, d2] R F := by
  obtain ⟨B, ds, h⟩ := h
  refine c_l_full e1 e2 h.b h.k h.d (h.v.z ok) (by rw [h.v.c]; have := ok.c0; omega) (fun d hd => (h.v.one d hd).2) (bd_P h.v ok) hm fun zs hp hs => ?_
  have e3 : (ds.filter fun d => decide (d.no ≠ no)).map ddP = s.dl.filter fun d => decide (d.no ≠ no) := by
    rw [← h.v.dl, List.filter_map]
    rfl
  rw [e3] at hp
  have e4 := srt_uniq (hp.trans eL.symm) hs nd
  rw [e4, h.v.c, h.v.h]
  exact k
theorem f_first (h : BkF bk s R) {d : Pd} (hd : d ∈ s.dl) (k : F (.v (optV (d.w.map (·.place)))) R) : RS H0 R0 sp_l_first Ex [.v (.ref bk), .v (.int d.no)] R F := by
  obtain ⟨B, ds, h⟩ := h
  obtain ⟨d', hd', rfl⟩ := h.v.mem hd
  refine c_l_first (d := d') h.b h.d hd' ?_
  have e : fstV d' = optV ((ddP d').w.map (·.place)) := by
    obtain ⟨no, ends, a, wA, wr⟩ := d'
    cases wr <;> rfl
  rw [e]
  exact k
theorem f_need (h : BkF bk s R) {d : Pd} (hd : d ∈ s.dl) (k : F (.v (.int (undP d))) R) : RS H0 R0 sp_l_need Ex [.v (.ref bk), .v (.int d.no)] R F := by
  obtain ⟨B, ds, h⟩ := h
  obtain ⟨d', hd', rfl⟩ := h.v.mem hd
  refine c_l_need (d := d') h.b h.d hd' ?_
  have e : needI d' = undP (ddP d') := by
    have h1 := (h.v.one d' hd').2
    obtain ⟨no, ends, a, wA, wr⟩ := d'
    match wr, h1 with
    | [], _ => rfl
    | [w], _ =>
      show (List.sum [w.undo] : Int) = w.undo
      simp
  rw [e]
  exact k
theorem f_holder (h : BkF bk s R) {pg : Int} (k : F (.v (holdP s.dl pg)) R) : RS H0 R0 sp_l_holder Ex [.v (.ref bk), .v (.int pg)] R F := by
  obtain ⟨B, ds, h⟩ := h
  refine c_l_holder h.b h.k h.d ?_
  have e : holdW ds pg = holdP s.dl pg := by
    unfold holdW holdP
    have hh : ∀ d ∈ ds, hasW pg d = (ddP d).w.any fun w => decide (w.page = pg) := fun d hd => by
      have h1 := (h.v.one d hd).2
      obtain ⟨no, ends, a, wA, wr⟩ := d
      match wr, h1 with
      | [], _ => rfl
      | [w], _ =>
        show ([w].any fun w => decide (w.page = pg)) = decide (w.page = pg)
        simp
    rw [← h.v.dl, List.find?_map]
    have e2 : ds.find? (hasW pg) = ds.find? ((fun d => d.w.any fun w => decide (w.page = pg)) ∘ ddP) := by
      generalize ds = l at hh
      induction l with
      | nil => rfl
      | cons a l ih =>
        rw [List.find?_cons, List.find?_cons, ih fun d hd => hh d (List.mem_cons_of_mem _ hd), hh a List.mem_cons_self]
        rfl
    rw [e2]
    cases ds.find? ((fun d => d.w.any fun w => decide (w.page = pg)) ∘ ddP) <;> rfl
  rw [e]
  exact k
end
end Rc
-- M
set_option Elab.async false
set_option linter.all false
set_option maxRecDepth 100000
set_option maxHeartbeats 4000000
/-! RcM: lists up to their order, so that ac_rfl may decide. -/
namespace Rc
def Mu (α : Type) : Type := Quotient (List.isSetoid α)
def Mu.mk {α : Type} (l : List α) : Mu α := Quotient.mk (List.isSetoid α) l
def Mu.add {α : Type} (a b : Mu α) : Mu α := Quotient.liftOn₂ a b (fun l m => Mu.mk (l ++ m)) fun _ _ _ _ p q => Quotient.sound (List.Perm.append p q)
theorem Mu.of {α : Type} {l m : List α} (h : Mu.mk l = Mu.mk m) : l.Perm m := Quotient.exact h
theorem Mu.app {α : Type} (l m : List α) : Mu.mk (l ++ m) = (Mu.mk l).add (Mu.mk m) := rfl
def Mu.one {α : Type} (a : α) : Mu α := Mu.mk [a]
def Mu.zero (α : Type) : Mu α := Mu.mk []
theorem Mu.cons {α : Type} (a : α) (m : List α) : Mu.mk (a :: m) = (Mu.one a).add (Mu.mk m) := rfl
theorem Mu.nil {α : Type} : Mu.mk ([] : List α) = Mu.zero α := rfl
theorem Mu.nil_add {α : Type} (a : Mu α) : (Mu.zero α).add a = a := by
  refine Quotient.inductionOn a fun l => ?_
  rfl
theorem Mu.comm {α : Type} (a b : Mu α) : a.add b = b.add a := by
  refine Quotient.inductionOn₂ a b fun l m => ?_
  exact Quotient.sound List.perm_append_comm
theorem Mu.assoc {α : Type} (a b c : Mu α) : (a.add b).add c = a.add (b.add c) := by
  refine Quotient.inductionOn₃ a b c fun l m n => ?_
  exact congrArg Mu.mk (List.append_assoc l m n)
theorem Mu.add_nil {α : Type} (a : Mu α) : a.add (Mu.zero α) = a := by rw [Mu.comm, Mu.nil_add]
instance {α : Type} : Std.Commutative (Mu.add (α := α)) := ⟨Mu.comm⟩
instance {α : Type} : Std.Associative (Mu.add (α := α)) := ⟨Mu.assoc⟩
local macro_rules | `(tactic| walk_at "rc perm") => `(tactic| (refine Mu.of ?_; simp only [Mu.app, Mu.cons, Mu.nil, Mu.nil_add, Mu.add_nil]; ac_rfl))
example {α : Type} (a b c : α) (l m n : List α) : (a :: (l ++ b :: m) ++ c :: n).Perm (n ++ (b :: a :: m) ++ [c] ++ l) := by walk_at "rc perm"
end Rc
-- U
set_option Elab.async false
set_option linter.all false
set_option maxRecDepth 100000
set_option maxHeartbeats 4000000
/-! RcU: how a region holds an engine in a plain state; what its ways do to it. -/
namespace Rc
open PySem PySem.Spec PyProof.Rows L2 RcHead
variable [Tbl]
local macro_rules | `(tactic| walk_at "rc perm") => `(tactic| (refine Mu.of ?_; simp only [Mu.app, Mu.cons, Mu.nil, Mu.nil_add, Mu.add_nil, List.append_eq]; ac_rfl))
def setW (l : List Pd) (no : Int) (x : Option Wt) : List Pd := l.map fun d => if d.no = no then ⟨no, x⟩ else d
def delW (l : List Pd) (no : Int) : List Pd := l.filter fun d => decide (d.no ≠ no)
def rowS (s : Ps) (c : Int) : Ps := { s with head := s.head + c, home := brH (s.head + c - s.c) s.bd s.pool s.home, bd := fun k => brO (s.head + c - s.c) (s.bd k) }
def carryS (s : Ps) (no : Int) (w : Wt) : Ps := { rowS s w.undo with dl := setW s.dl no (some { w with place := s.head }) }
def dropS (s : Ps) (no : Int) : Ps := { s with dl := delW s.dl no }
def endS (s : Ps) (no : Int) : Ps := { rowS s 1 with dl := delW s.dl no }
def undoS (s : Ps) (no : Int) (w : Wt) : Ps := { rowS s w.undo with pool := plP true w.page.toNat w.before s.pool, bd := plD true w.page.toNat s.head (rowS s w.undo).bd, dl := delW s.dl no }
def writeS (s : Ps) (no x c u : Int) : Ps := { rowS s c with pool := plP true no.toNat x s.pool, bd := plD true no.toNat s.head (rowS s c).bd, dl := setW s.dl no (some ⟨s.head, no, s.pool no.toNat, x, u⟩) }
def openS (s : Ps) : Ps := { s with dl := s.dl ++ [⟨s.nxt, none⟩], nxt := s.nxt + 1 }
def hvk (s : Ps) (c : Int) (L : List (Int × Int × Int)) : Nat := hvN s.c (s.head + c) ((srt L).map two)
def lotD (k : Nat) (L : List (Int × Int × Int)) : D := .t (((srt L).take k).map fun t => .v (.int t.2.2))
/-! ### lists with one deed in the middle -/
theorem setW_split {α : Type} {f : α → Pd} {m1 m2 : List α} {b b' : α} {x : Option Wt} (h : ∀ a, a ∈ m1 ∨ a ∈ m2 → (f a).no ≠ (f b).no) (e : f b' = ⟨(f b).no, x⟩) : (m1 ++ b' :: m2).map f = setW ((m1 ++ b :: m2).map f) (f b).no x := by
  unfold setW
  rw [List.map_map, List.map_append, List.map_append, List.map_cons, List.map_cons]
  congr 1
  · refine List.map_congr_left fun a ha => ?_
    show f a = if (f a).no = (f b).no then _ else f a
    rw [if_neg (h a (.inl ha))]
  · congr 1
    · show f b' = if (f b).no = (f b).no then _ else f b
      rw [if_pos rfl, e]
    · refine List.map_congr_left fun a ha => ?_
      show f a = if (f a).no = (f b).no then _ else f a
      rw [if_neg (h a (.inr ha))]
theorem delW_split {α : Type} {f : α → Pd} {m1 m2 : List α} {b : α} (h : ∀ a, a ∈ m1 ∨ a ∈ m2 → (f a).no ≠ (f b).no) : (m1 ++ m2).map f = delW ((m1 ++ b :: m2).map f) (f b).no := by
  unfold delW
  rw [List.filter_map, List.filter_append, List.filter_cons_of_neg (by simp)]
  congr 1
  rw [← List.filter_append]
  refine (List.filter_eq_self.mpr fun a ha => ?_).symm
  have := h a (List.mem_append.mp ha)
  simpa using this
theorem split_no {α : Type} {g : α → Int} {m1 m2 : List α} {b : α} (s : (m1 ++ b :: m2).Pairwise fun x y => g x < g y) : ∀ a, a ∈ m1 ∨ a ∈ m2 → g a ≠ g b := by
  obtain ⟨_, h2, h3⟩ := List.pairwise_append.mp s
  intro a ha
  rcases ha with ha | ha
  · have := h3 a ha b List.mem_cons_self
    omega
  · have := (List.pairwise_cons.mp h2).1 a ha
    omega
/-! ### the engine -/
def mcells (K : PySem.W.Frag) (b : Mb) : Rg := (b.a, .i (He.ga K "Member") (mbFs b)) :: b.left.map fun p => (p.1, RC.i (He.ga K "LogRow") (rwFs p.2))
def EnL (K : PySem.W.Frag) (e : Addr) (s : Ps) (E : En) (ms : List Mb) (dd : List (Int × Int)) (rs : List Addr) (jk : Rg) : Rg := core K e E s.n s.home s.pool dd rs ((E.memA, .k (vK (memK ms))) :: (ms.flatMap (mcells K) ++ jk))
def rwW (r : Rw) : Wt := ⟨r.place, r.page, r.before, r.behind, r.undo⟩
def mbP (b : Mb) : Pd := ⟨b.no, b.left.head?.map fun p => rwW p.2⟩
structure EnV0 (s : Ps) (E : En) (ms : List Mb) (dd : List (Int × Int)) : Prop where
  c : E.cells = s.c
  h : E.head = s.head
  nx : E.nxt = s.nxt
  dl : ms.map mbP = s.dl
  one : ∀ b ∈ ms, b.ends = 1 ∧ b.left.length ≤ 1
  dd : DOk s.n dd s.bd
def EnAt (K : PySem.W.Frag) (e : Addr) (s : Ps) (t : Nat) (R X : Rg) : Prop := ∃ E ms dd rs jk, R.Perm (EnL K e s E ms dd rs jk ++ X) ∧ EnV0 s E ms dd ∧ RsIn K rs (ms.flatMap (mcells K) ++ jk) ∧ rs.length ≤ t
structure EnF0 (K : PySem.W.Frag) (e : Addr) (s : Ps) (R : Rg) (E : En) (ms : List Mb) (dd : List (Int × Int)) : Prop where
  e : (e, RC.i (He.ga K "Engine") (enFs E)) ∈ R
  m : MsIn K E ms R
  v : EnV0 s E ms dd
  home : (E.homeA, RC.l (intsF s.n s.home)) ∈ R
  pool : (E.poolA, RC.l (intsF s.n s.pool)) ∈ R
  dirty : (E.dirtyA, RC.k (vK (dirK dd))) ∈ R
def EnF (K : PySem.W.Frag) (e : Addr) (s : Ps) (R : Rg) : Prop := ∃ E ms dd, EnF0 K e s R E ms dd
theorem EnF0.sub {K : PySem.W.Frag} {e : Addr} {s : Ps} {R R' : Rg} {E : En} {ms : List Mb} {dd : List (Int × Int)} (h : EnF0 K e s R E ms dd) (z : ∀ c ∈ R, c ∈ R') : EnF0 K e s R' E ms dd := ⟨z _ h.e, h.m.sub z, h.v, z _ h.home, z _ h.pool, z _ h.dirty⟩
theorem EnF.sub {K : PySem.W.Frag} {e : Addr} {s : Ps} {R R' : Rg} (h : EnF K e s R) (z : ∀ c ∈ R, c ∈ R') : EnF K e s R' := let ⟨E, ms, dd, h⟩ := h; ⟨E, ms, dd, h.sub z⟩
section
variable {K : PySem.W.Frag} {e : Addr} {s : Ps} {t : Nat} {E : En} {ms : List Mb} {dd : List (Int × Int)} {rs : List Addr} {jk X R : Rg}
theorem core_congr {n : Nat} {home pool : Nat → Int} {r1 r2 : Rg} (p : r1.Perm r2) : (core K e E n home pool dd rs r1).Perm (core K e E n home pool dd rs r2) := ((((p.cons _).cons _).cons _).cons _).cons _
theorem EnV0.mem (v : EnV0 s E ms dd) {d : Pd} (h : d ∈ s.dl) : ∃ b ∈ ms, mbP b = d := by
  rw [← v.dl] at h
  exact List.mem_map.mp h
theorem EnV0.z (v : EnV0 s E ms dd) (ok : PsOk s t) : ms.length ≤ 50 := by
  have := ok.z
  rw [← v.dl, List.length_map] at this
  exact this
theorem EnV0.srt (v : EnV0 s E ms dd) (ok : PsOk s t) : ms.Pairwise fun a b => a.no < b.no := by
  have := ok.srt
  rw [← v.dl, List.pairwise_map] at this
  exact this
theorem MsIn.of (v : EnV0 s E ms dd) (ok : PsOk s t) (h1 : (E.memA, RC.k (vK (memK ms))) ∈ R) (h2 : ∀ b ∈ ms, ∀ c ∈ mcells K b, c ∈ R) : MsIn K E ms R :=
  ⟨h1, fun b hb => ⟨h2 b hb _ List.mem_cons_self, fun p hp => h2 b hb _ (List.mem_cons_of_mem _ (List.mem_map.mpr ⟨p, hp, rfl⟩)), Nat.le_trans (v.one b hb).2 (by decide)⟩, v.srt ok, fun b hb => by
    have := ok.no (mbP b) (by rw [← v.dl]; exact List.mem_map.mpr ⟨b, hb, rfl⟩)
    have e : (mbP b).no = b.no := rfl
    have := v.nx
    omega, Nat.le_trans (v.z ok) (by decide)⟩
theorem MsIn.of2 (v : EnV0 s E ms dd) (ok : PsOk s t) {L : Rg} (h : ∀ c ∈ (E.memA, RC.k (vK (memK ms))) :: ms.flatMap (mcells K), c ∈ L) : MsIn K E ms L := .of v ok (h _ List.mem_cons_self) fun b hb c hc => h c (List.mem_cons_of_mem _ (List.mem_flatMap.mpr ⟨b, hb, hc⟩))
theorem EnF0.of (ok : PsOk s t) (p : R.Perm (EnL K e s E ms dd rs jk ++ X)) (v : EnV0 s E ms dd) : EnF0 K e s R E ms dd := by
  have m : ∀ c, c ∈ EnL K e s E ms dd rs jk → c ∈ R := fun c h => p.mem_iff.mpr (List.mem_append_left _ h)
  refine ⟨m _ ?_, .of2 v ok fun c hc => m c (sub5 _ ?_), v, m _ ?_, m _ ?_, m _ ?_⟩
  case refine_2 =>
    rcases List.mem_cons.mp hc with z | z
    · rw [z]; exact List.mem_cons_self
    · exact List.mem_cons_of_mem _ (List.mem_append_left _ z)
  all_goals simp [EnL, core]
theorem EnAt.f (h : EnAt K e s t R X) (ok : PsOk s t) : EnF K e s R := let ⟨E, ms, dd, rs, jk, p, v, _⟩ := h; ⟨E, ms, dd, .of ok p v⟩
theorem beg_P {b : Mb} {w : Wt} (h : (mbP b).w = some w) (one : b.left.length ≤ 1) : b.left.isEmpty = false ∧ begI b = w.place ∧ und b = w.undo ∧ ∃ ra r, b.left = [(ra, r)] ∧ w = rwW r := by
  obtain ⟨no, ends, a, left⟩ := b
  match left, one, h with
  | [(ra, r)], _, h =>
    cases h
    refine ⟨rfl, rfl, ?_, ra, r, rfl, rfl⟩
    show (List.sum [r.undo] : Int) = r.undo
    simp
theorem beg_N {b : Mb} (h : (mbP b).w = none) : b.left = [] ∧ begI b = 0 ∧ und b = 0 := by
  obtain ⟨no, ends, a, left⟩ := b
  match left, h with
  | [], _ => exact ⟨rfl, rfl, rfl⟩
theorem bd_M (v : EnV0 s E ms dd) (ok : PsOk s t) : ∀ b ∈ ms, TS.Bd (2 ^ 60) [begI b, und b, b.no] := fun b hb => by
  have hd : mbP b ∈ s.dl := by rw [← v.dl]; exact List.mem_map.mpr ⟨b, hb, rfl⟩
  cases c : (mbP b).w with
  | some w =>
    obtain ⟨_, e1, e2, _⟩ := beg_P c (v.one b hb).2
    rw [e1, e2]
    exact ok.bdw hd c
  | none =>
    obtain ⟨_, e1, e2⟩ := beg_N c
    rw [e1, e2]
    have := ok.no _ hd
    have e : (mbP b).no = b.no := rfl
    have := ok.nx
    intro x hx
    simp at hx
    rcases hx with rfl | rfl <;> constructor <;> omega
theorem oth_P (v : EnV0 s E ms dd) (a : Mb) : oth ms a = trs (delW s.dl a.no) := by
  rw [← v.dl]
  unfold oth trs delW
  rw [List.filter_map, List.filterMap_map]
  have one := v.one
  clear v
  induction ms with
  | nil => rfl
  | cons b l ih =>
    have ih' := ih fun x hx => one x (List.mem_cons_of_mem _ hx)
    have hp : ((fun d : Pd => decide (d.no ≠ a.no)) ∘ mbP) b = decide (b.no ≠ a.no) := rfl
    rw [List.filter_cons, List.filter_cons, hp]
    by_cases c : b.no = a.no
    · rw [if_neg (by simp [c]), if_neg (by simp [c])]
      exact ih'
    · cases cw : (mbP b).w with
      | none =>
        obtain ⟨e0, _, _⟩ := beg_N cw
        rw [if_neg (by simp [e0]), if_pos (by simp [c]), List.filterMap_cons]
        have : ((fun d : Pd => d.w.map fun w => (w.place, w.undo, d.no)) ∘ mbP) b = none := by
          show (mbP b).w.map _ = none
          rw [cw]; rfl
        rw [this]
        exact ih'
      | some w =>
        obtain ⟨e0, e1, e2, _⟩ := beg_P cw (one b List.mem_cons_self).2
        rw [if_pos (by simp [e0, c]), if_pos (by simp [c]), List.map_cons, List.filterMap_cons]
        have : ((fun d : Pd => d.w.map fun w => (w.place, w.undo, d.no)) ∘ mbP) b = some (begI b, und b, b.no) := by
          show (mbP b).w.map _ = _
          rw [cw, e1, e2]; rfl
        rw [this]
        exact congrArg _ ih'
theorem trs_del {l : List Pd} {d : Pd} {w : Wt} (hs : l.Pairwise fun a b => a.no < b.no) (hd : d ∈ l) (hw : d.w = some w) : (trs (delW l d.no) ++ [(w.place, w.undo, d.no)]).Perm (trs l) := by
  obtain ⟨l1, l2, rfl⟩ := List.append_of_mem hd
  have e := delW_split (f := fun x : Pd => x) (m1 := l1) (m2 := l2) (b := d) (split_no (g := fun x : Pd => x.no) hs)
  rw [List.map_id', List.map_id'] at e
  rw [← e]
  unfold trs
  rw [List.filterMap_append, List.filterMap_append, List.filterMap_cons, hw]
  show (_ ++ [(w.place, w.undo, d.no)]).Perm (_ ++ (w.place, w.undo, d.no) :: _)
  walk_at "rc perm"
theorem trs_sub {l : List Pd} {no : Int} (h : ((trs l).map (·.1)).Nodup) : ((trs (delW l no)).map (·.1)).Nodup := by
  refine List.Nodup.sublist ?_ h
  exact List.Sublist.map _ (List.Sublist.filterMap _ List.filter_sublist)
theorem RsIn.keep {L L' : Rg} (h : RsIn K rs L) (k : ∀ c ∈ L, (∃ C r, c.2 = .i C (rwFs r)) → c ∈ L') : RsIn K rs L' := fun a ha => by
  obtain ⟨r, hr⟩ := h a ha
  exact ⟨r, k _ hr ⟨_, r, rfl⟩⟩
theorem no_mb {a C : Addr} {b : Mb} (h : ∃ D r, ((a, RC.i C (mbFs b)) : Addr × RC).2 = .i D (rwFs r)) : False := by
  obtain ⟨D, r, e⟩ := h
  injection e with e1 e2
  simp [mbFs, rwFs] at e2
theorem no_k {a : Addr} {kvs : List (Key × D)} (h : ∃ D r, ((a, RC.k kvs) : Addr × RC).2 = .i D (rwFs r)) : False := by
  obtain ⟨D, r, e⟩ := h
  cases e
end
end Rc
-- U2
set_option Elab.async false
set_option linter.all false
set_option maxRecDepth 100000
set_option maxHeartbeats 4000000
namespace Rc
open PySem PySem.Spec PyProof.Rows L2 RcHead
variable [Tbl]
local macro_rules | `(tactic| walk_at "rc perm") => `(tactic| (refine Mu.of ?_; simp only [Mu.app, Mu.cons, Mu.nil, Mu.nil_add, Mu.add_nil, List.append_eq]; ac_rfl))
local macro_rules | `(tactic| walk_at "rc cells") => `(tactic| (simp only [List.flatMap_append, List.flatMap_cons, mcells, dcells, List.map_cons, List.map_nil, List.cons_append, List.nil_append]; walk_at "rc perm"))
theorem core_app {K : PySem.W.Frag} {e : Addr} {E : En} {n : Nat} {home pool : Nat → Int} {dd : List (Int × Int)} {rs : List Addr} {r X : Rg} : core K e E n home pool dd rs r ++ X = core K e E n home pool dd rs (r ++ X) := rfl
theorem mem_q {α : Type} {a : α} {l j X : List α} : ∀ c ∈ a :: l, c ∈ (a :: (l ++ j)) ++ X := fun c h => by
  rcases List.mem_cons.mp h with z | z
  · rw [z]; exact List.mem_cons_self
  · exact List.mem_append_left _ (List.mem_cons_of_mem _ (List.mem_append_left _ z))
theorem mem_q2 {α : Type} {a : α} {l X : List α} : ∀ c ∈ l, c ∈ (a :: l) ++ X := fun c h => List.mem_append_left _ (List.mem_cons_of_mem _ h)
theorem EnAt.mk {K : PySem.W.Frag} {e : Addr} {s : Ps} {t : Nat} {X : Rg} {E : En} {ms : List Mb} {dd : List (Int × Int)} {rs : List Addr} {jk : Rg} {home pool : Nat → Int} {rest : Rg} (eh : home = s.home) (ep : pool = s.pool) (p : rest.Perm (((E.memA, RC.k (vK (memK ms))) :: (ms.flatMap (mcells K) ++ jk)) ++ X))
    (v : EnV0 s E ms dd) (hr : RsIn K rs (ms.flatMap (mcells K) ++ jk)) (hz : rs.length ≤ t) : EnAt K e s t (core K e E s.n home pool dd rs rest) X := by
  subst eh ep
  exact ⟨E, ms, dd, rs, jk, core_congr p, v, hr, hz⟩
section
variable {K : PySem.W.Frag} {H0 : Hp} {R0 R X : Rg} {Ex : XK} {F Wx : D → Rg → Prop} {e : Addr} {s : Ps} {t : Nat}
theorem e_carry (h : EnAt K e s t R X) (nX : NoRow X) (ok : PsOk s t) {d : Pd} {w : Wt} (hd : d ∈ s.dl) (hw : d.w = some w) (hx : XOk H0 R0 (He.ga K "Full") Ex Wx)
    (k1 : hvk s w.undo (trs s.dl) = 0 → ∀ R', EnAt K e (carryS s d.no w) (t + 1) R' X → F (.v .non) R')
    (k2 : hvk s w.undo (trs s.dl) ≠ 0 → ∀ R', EnAt K e s t R' X → Wx (lotD (hvk s w.undo (trs s.dl)) (trs s.dl)) R') : RS H0 R0 (sp_Engine_carry K) Ex [.v (.ref e), .v (.int d.no)] R F := by
  obtain ⟨E, ms, dd, rs, jk, p, v, hrs, hrz⟩ := h
  have hwp := ok.w d hd w hw
  have ptrs := trs_del ok.srt hd hw
  obtain ⟨b, hb, rfl⟩ := v.mem hd
  obtain ⟨_, eb, eu, ra, r, el, ew⟩ := beg_P hw (v.one b hb).2
  subst ew
  obtain ⟨no, ends, ba, left⟩ := b
  have el' : left = [(ra, r)] := el
  subst el'
  have e1 : ends = 1 := (v.one _ hb).1
  subst e1
  have bdm := bd_M v ok
  have othp := oth_P v ⟨no, 1, ba, [(ra, r)]⟩
  have vsrt := v.srt ok
  obtain ⟨m1, m2, rfl⟩ := List.append_of_mem hb
  have hno := split_no (g := fun b : Mb => b.no) vsrt
  have q : (((E.memA, RC.k (vK (memK (m1 ++ ⟨no, 1, ba, [(ra, r)]⟩ :: m2)))) :: ((m1 ++ ⟨no, 1, ba, [(ra, r)]⟩ :: m2).flatMap (mcells K) ++ jk)) ++ X).Perm ((ba, .i (He.ga K "Member") (mbFs ⟨no, 1, ba, [(ra, r)]⟩)) :: ((ra, .i (He.ga K "LogRow") (rwFs r)) :: (E.memA, .k (vK (memK (m1 ++ ⟨no, 1, ba, [(ra, r)]⟩ :: m2)))) :: ((m1 ++ m2).flatMap (mcells K) ++ jk ++ X))) := by
    walk_at "rc cells"
  have p1 := p.trans (core_congr q)
  obtain ⟨hpg, hpn, hpl, _, hu1, hu2⟩ := hwp
  have hno0 := (ok.no _ hd).1
  have hpg' : r.page = ((no.toNat : Nat) : Int) := by
    have : r.page = no := hpg
    have : 0 ≤ no := hno0
    omega
  have hpn' : no.toNat < s.n := by
    have : no < s.n := hpn
    have : 0 ≤ no := hno0
    omega
  have ht := ok.t
  refine rs_X p1 ⟨e, E, s.n, s.home, s.pool, dd, rs, _, _, s.bd, no, 1, ba, ra, r, no.toNat, rfl, rfl, ⟨.of2 v ok fun c hc => q.mem_iff.mp (mem_q c hc), hb, hrs.keep fun c hc _ => q.mem_iff.mp (mem_q2 c hc), by omega, v.dd, ok.n60, hpg', hpn', by
    have : 1 ≤ r.undo := hu1
    omega, bdm⟩, fun ys hp hs => ?_⟩ hx
  have hp2 : ys.Perm (trs s.dl) := by
    refine hp.trans ?_
    rw [othp]
    exact ptrs
  have ey := srt_uniq hp2 hs ok.nd
  have hk : hvN E.cells (E.head + r.undo) (ys.map two) = hvk s (rwW r).undo (trs s.dl) := by rw [ey, v.c, v.h]; rfl
  refine ⟨fun h0 A rs' dd' a2 hrs' hz' hd' => ?_, fun h0 => ?_⟩
  · refine k1 (by rw [← hk]; exact h0) _ (EnAt.mk (s := carryS s no (rwW r)) (E := { E with rowsA := A, head := E.head + r.undo }) (ms := m1 ++ ⟨no, 1, ba, [(a2, ⟨"kept", no, r.page, r.before, r.behind, r.undo, 0, E.head, r.undo⟩)]⟩ :: m2) (jk := (ra, .i (He.ga K "LogRow") (rwFs r)) :: jk) ?_ rfl ?_ ⟨v.c, ?_, v.nx, ?_, ?_, ?_⟩ ?_ ?_)
    · rw [v.c, v.h]; rfl
    · have em : memK (m1 ++ ⟨no, 1, ba, [(a2, ⟨"kept", no, r.page, r.before, r.behind, r.undo, 0, E.head, r.undo⟩)]⟩ :: m2) = memK (m1 ++ ⟨no, 1, ba, [(ra, r)]⟩ :: m2) := by
        unfold memK
        simp
      rw [em]
      walk_at "rc cells"
    · show E.head + r.undo = s.head + r.undo
      rw [v.h]
    · show _ = setW s.dl no _
      rw [← v.dl]
      refine setW_split (f := mbP) (b := ⟨no, 1, ba, [(ra, r)]⟩) (fun a ha => hno a ha) ?_
      show _ = Pd.mk no _
      unfold mbP
      simp [rwW, v.h]
    · intro x hx
      rcases List.mem_append.mp hx with z | z
      · exact v.one x (List.mem_append_left _ z)
      · rcases List.mem_cons.mp z with z | z
        · rw [z]; exact ⟨rfl, Nat.le_refl _⟩
        · exact v.one x (List.mem_append_right _ (List.mem_cons_of_mem _ z))
    · have := hd'
      rw [v.c, v.h] at this
      exact this
    · refine hrs'.keep fun c hc hex => ?_
      have q' : ((m1 ++ ⟨no, 1, ba, [(a2, ⟨"kept", no, r.page, r.before, r.behind, r.undo, 0, E.head, r.undo⟩)]⟩ :: m2).flatMap (mcells K) ++ ((ra, .i (He.ga K "LogRow") (rwFs r)) :: jk)).Perm ((ba, .i (He.ga K "Member") (mbFs ⟨no, 1, ba, [(a2, ⟨"kept", no, r.page, r.before, r.behind, r.undo, 0, E.head, r.undo⟩)]⟩)) :: (a2, .i (He.ga K "LogRow") (rwFs ⟨"kept", no, r.page, r.before, r.behind, r.undo, 0, E.head, r.undo⟩)) :: (ra, .i (He.ga K "LogRow") (rwFs r)) :: ((m1 ++ m2).flatMap (mcells K) ++ jk)) := by walk_at "rc cells"
      refine q'.mem_iff.mpr ?_
      simp only [List.mem_cons] at hc
      rcases hc with rfl | rfl | rfl | rfl | hc
      · simp
      · exact (no_mb hex).elim
      · simp
      · exact (no_k hex).elim
      · rcases List.mem_append.mp hc with z | z
        · simp only [List.mem_cons]
          exact .inr (.inr (.inr z))
        · obtain ⟨C, r', e'⟩ := hex
          exact (nX c z C r' e').elim
    · omega
  · have := k2 (by rw [← hk]; exact h0) _ ⟨E, _, dd, rs, jk, (core_congr q).symm, v, hrs, hrz⟩
    rw [hk, ey]
    exact this
end
end Rc
-- U3
set_option Elab.async false
set_option linter.all false
set_option maxRecDepth 100000
set_option maxHeartbeats 4000000
namespace Rc
open PySem PySem.Spec PyProof.Rows L2 RcHead
variable [Tbl]
local macro_rules | `(tactic| walk_at "rc perm") => `(tactic| (refine Mu.of ?_; simp only [Mu.app, Mu.cons, Mu.nil, Mu.nil_add, Mu.add_nil, List.append_eq]; ac_rfl))
local macro_rules | `(tactic| walk_at "rc cells") => `(tactic| (simp only [List.flatMap_append, List.flatMap_cons, mcells, dcells, List.map_cons, List.map_nil, List.cons_append, List.nil_append]; walk_at "rc perm"))
theorem EnAt.perm {K : PySem.W.Frag} {e : Addr} {s : Ps} {t : Nat} {R R' X : Rg} (p : R.Perm R') (h : EnAt K e s t R' X) : EnAt K e s t R X := let ⟨E, ms, dd, rs, jk, q, z⟩ := h; ⟨E, ms, dd, rs, jk, p.trans q, z⟩
theorem BkAt.perm {bk : Addr} {s : Ps} {R R' X : Rg} (p : R.Perm R') (h : BkAt bk s R' X) : BkAt bk s R X := let ⟨B, ds, jk, q, z⟩ := h; ⟨B, ds, jk, p.trans q, z⟩
theorem filter_split {m1 m2 : List Mb} {b : Mb} (h : ∀ a, a ∈ m1 ∨ a ∈ m2 → a.no ≠ b.no) : (m1 ++ b :: m2).filter (fun c => decide (c.no ≠ b.no)) = m1 ++ m2 := by
  rw [List.filter_append, List.filter_cons_of_neg (by simp), ← List.filter_append]
  exact List.filter_eq_self.mpr fun a ha => by simpa using h a (List.mem_append.mp ha)
theorem hold_P {s : Ps} {E : En} {ms : List Mb} {dd : List (Int × Int)} (v : EnV0 s E ms dd) (pg : Int) : holdV ms pg = holdP s.dl pg := by
  unfold holdV holdP
  have hh : ∀ b ∈ ms, hasP pg b = (mbP b).w.any fun w => decide (w.page = pg) := fun b hb => by
    have h1 := (v.one b hb).2
    obtain ⟨no, ends, a, left⟩ := b
    match left, h1 with
    | [], _ => rfl
    | [(ra, r)], _ =>
      show ([(ra, r)].any fun p => decide (p.2.page = pg)) = decide (r.page = pg)
      simp
  rw [← v.dl, List.find?_map]
  have e2 : ms.find? (hasP pg) = ms.find? ((fun d => d.w.any fun w => decide (w.page = pg)) ∘ mbP) := by
    clear v
    induction ms with
    | nil => rfl
    | cons a l ih =>
      rw [List.find?_cons, List.find?_cons, ih fun d hd => hh d (List.mem_cons_of_mem _ hd), hh a List.mem_cons_self]
      rfl
  rw [e2]
  cases ms.find? ((fun d => d.w.any fun w => decide (w.page = pg)) ∘ mbP) <;> rfl
section
variable {K : PySem.W.Frag} {H0 : Hp} {R0 R X : Rg} {Ex : XK} {F Wx : D → Rg → Prop} {e : Addr} {s : Ps} {t : Nat}
theorem e_end (h : EnAt K e s t R X) (nX : NoRow X) (ok : PsOk s t) {d : Pd} (hd : d ∈ s.dl) (hx : XOk H0 R0 (He.ga K "Full") Ex Wx)
    (k0 : d.w = none → ∀ R', EnAt K e (dropS s d.no) t R' X → F (.v .non) R')
    (k1 : d.w ≠ none → hvk s 1 (trs s.dl) = 0 → ∀ R', EnAt K e (endS s d.no) (t + 1) R' X → F (.v .non) R')
    (k2 : d.w ≠ none → hvk s 1 (trs s.dl) ≠ 0 → ∀ R', EnAt K e s t R' X → Wx (lotD (hvk s 1 (trs s.dl)) (trs s.dl)) R') : RS H0 R0 (sp_Engine_end K) Ex [.v (.ref e), .v (.int d.no)] R F := by
  obtain ⟨E, ms, dd, rs, jk, p, v, hrs, hrz⟩ := h
  have ptrs := fun w => trs_del (d := d) (w := w) ok.srt hd
  obtain ⟨b, hb, rfl⟩ := v.mem hd
  have e1 : b.ends = 1 := (v.one _ hb).1
  have bdm := bd_M v ok
  have othp := oth_P v b
  have vsrt := v.srt ok
  obtain ⟨m1, m2, rfl⟩ := List.append_of_mem hb
  have hno := split_no (g := fun b : Mb => b.no) vsrt
  have ef := filter_split hno
  have p1 : R.Perm (core K e E s.n s.home s.pool dd rs ((E.memA, RC.k (vK (memK (m1 ++ b :: m2)))) :: ((m1 ++ b :: m2).flatMap (mcells K) ++ jk ++ X))) := p
  have ht := ok.t
  have hdl : (m1 ++ m2).map mbP = delW s.dl (mbP b).no := by
    rw [← v.dl]
    exact delW_split (f := mbP) hno
  refine rs_X p1 ⟨e, E, s.n, s.home, s.pool, dd, rs, _, _, s.bd, b, rfl, rfl, ⟨.of2 v ok fun c hc => mem_q c hc, hb, hrs.keep fun c hc _ => List.mem_append_left _ hc, by omega, v.dd, ok.n60, ok.n1, bdm⟩, ?_⟩ hx
  cases cw : (mbP b).w with
  | none =>
    obtain ⟨el, _⟩ := beg_N cw
    refine .inl ⟨by rw [el]; rfl, k0 cw _ (EnAt.mk (s := dropS s (mbP b).no) (E := E) (ms := m1 ++ m2) (jk := mcells K b ++ jk) rfl rfl ?_ ⟨v.c, v.h, v.nx, hdl, ?_, v.dd⟩ ?_ hrz)⟩
    · rw [ef]
      walk_at "rc cells"
    · intro x hx
      refine v.one x ?_
      rcases List.mem_append.mp hx with z | z
      · exact List.mem_append_left _ z
      · exact List.mem_append_right _ (List.mem_cons_of_mem _ z)
    · refine hrs.keep fun c hc _ => ?_
      have q' : ((m1 ++ b :: m2).flatMap (mcells K) ++ jk).Perm ((m1 ++ m2).flatMap (mcells K) ++ (mcells K b ++ jk)) := by
        walk_at "rc cells"
      exact q'.mem_iff.mp hc
  | some w =>
    obtain ⟨el, eb, eu, _⟩ := beg_P cw (v.one b hb).2
    have cw' : (mbP b).w ≠ none := by rw [cw]; exact fun z => by cases z
    refine .inr ⟨el, fun ys hp hs => ?_⟩
    have hp2 : ys.Perm (trs s.dl) := by
      refine hp.trans ?_
      rw [othp, eb, eu]
      exact ptrs w cw
    have ey := srt_uniq hp2 hs ok.nd
    have hk : hvN E.cells (E.head + b.ends) (ys.map two) = hvk s 1 (trs s.dl) := by rw [ey, v.c, v.h, e1]; rfl
    refine ⟨fun h0 A rs' dd' a2 row hrs' hz' hd' => ?_, fun h0 => ?_⟩
    · refine k1 cw' (by rw [← hk]; exact h0) _ (EnAt.mk (s := endS s (mbP b).no) (E := { E with rowsA := A, head := E.head + b.ends }) (ms := m1 ++ m2) (jk := (a2, .i (He.ga K "LogRow") (rwFs row)) :: (mcells K b ++ jk)) ?_ rfl ?_ ⟨v.c, ?_, v.nx, hdl, ?_, ?_⟩ ?_ ?_)
      · rw [v.c, v.h, e1]; rfl
      · rw [ef]
        walk_at "rc cells"
      · show E.head + b.ends = s.head + 1
        rw [v.h, e1]
      · intro x hx
        refine v.one x ?_
        rcases List.mem_append.mp hx with z | z
        · exact List.mem_append_left _ z
        · exact List.mem_append_right _ (List.mem_cons_of_mem _ z)
      · have := hd'
        rw [v.c, v.h, e1] at this
        exact this
      · refine hrs'.keep fun c hc hex => ?_
        have q' : ((m1 ++ m2).flatMap (mcells K) ++ ((a2, .i (He.ga K "LogRow") (rwFs row)) :: (mcells K b ++ jk))).Perm ((a2, .i (He.ga K "LogRow") (rwFs row)) :: ((m1 ++ b :: m2).flatMap (mcells K) ++ jk)) := by walk_at "rc cells"
        refine q'.mem_iff.mpr ?_
        simp only [List.mem_cons] at hc
        rcases hc with rfl | rfl | hc
        · exact List.mem_cons_self
        · exact (no_k hex).elim
        · rcases List.mem_append.mp hc with z | z
          · exact List.mem_cons_of_mem _ z
          · obtain ⟨C, r', e'⟩ := hex
            exact (nX c z C r' e').elim
      · omega
    · have := k2 cw' (by rw [← hk]; exact h0) _ ⟨E, _, dd, rs, jk, List.Perm.refl _, v, hrs, hrz⟩
      rw [hk, ey]
      exact this
theorem e_cut (h : EnAt K e s t R X) (nX : NoRow X) (ok : PsOk s t) {d : Pd} (hd : d ∈ s.dl) (hx : XOk H0 R0 (He.ga K "Full") Ex Wx)
    (k0 : hvk s (undP d) (trs (delW s.dl d.no)) = 0 → d.w = none → ∀ R', EnAt K e (dropS s d.no) t R' X → F (.v .non) R')
    (k1 : hvk s (undP d) (trs (delW s.dl d.no)) = 0 → ∀ w, d.w = some w → ∀ R', EnAt K e (undoS s d.no w) (t + 1) R' X → F (.v .non) R')
    (k2 : hvk s (undP d) (trs (delW s.dl d.no)) ≠ 0 → ∀ R', EnAt K e s t R' X → Wx (lotD (hvk s (undP d) (trs (delW s.dl d.no))) (trs (delW s.dl d.no))) R') : RS H0 R0 (sp_Engine_cut K) Ex [.v (.ref e), .v (.int d.no)] R F := by
  obtain ⟨E, ms, dd, rs, jk, p, v, hrs, hrz⟩ := h
  have hwp := ok.w d hd
  have hno0 := (ok.no d hd).1
  obtain ⟨b, hb, rfl⟩ := v.mem hd
  have bdm := bd_M v ok
  have othp := oth_P v b
  have vsrt := v.srt ok
  obtain ⟨m1, m2, rfl⟩ := List.append_of_mem hb
  have hno := split_no (g := fun b : Mb => b.no) vsrt
  have ef := filter_split hno
  have q : (((E.memA, RC.k (vK (memK (m1 ++ b :: m2)))) :: ((m1 ++ b :: m2).flatMap (mcells K) ++ jk)) ++ X).Perm ((b.a, .i (He.ga K "Member") (mbFs b)) :: (E.memA, RC.k (vK (memK (m1 ++ b :: m2)))) :: ((b.left.map fun p => (p.1, RC.i (He.ga K "LogRow") (rwFs p.2))) ++ ((m1 ++ m2).flatMap (mcells K) ++ jk ++ X))) := by
    walk_at "rc cells"
  have p1 := p.trans (core_congr q)
  have ht := ok.t
  have hdl : (m1 ++ m2).map mbP = delW s.dl (mbP b).no := by
    rw [← v.dl]
    exact delW_split (f := mbP) hno
  have hun : und b = undP (mbP b) := by
    unfold undP
    cases cw : (mbP b).w with
    | none => exact (beg_N cw).2.2
    | some w => exact (beg_P cw (v.one b hb).2).2.2.1
  refine rs_X p1 ⟨e, E, s.n, s.home, s.pool, dd, rs, _, _, s.bd, b, rfl, rfl, ⟨.of2 v ok fun c hc => q.mem_iff.mp (mem_q c hc), hb, hrs.keep fun c hc hex => ?_, by omega, v.dd, ok.n60, bdm⟩, fun ys hp hs => ?_⟩ hx
  · have q2 : ((m1 ++ b :: m2).flatMap (mcells K) ++ jk).Perm ((b.a, .i (He.ga K "Member") (mbFs b)) :: ((b.left.map fun p => (p.1, RC.i (He.ga K "LogRow") (rwFs p.2))) ++ ((m1 ++ m2).flatMap (mcells K) ++ jk))) := by
      walk_at "rc cells"
    rcases List.mem_cons.mp (q2.mem_iff.mp hc) with rfl | z
    · exact (no_mb hex).elim
    · rcases List.mem_append.mp z with z | z
      · exact List.mem_append_left _ z
      · exact List.mem_append_right _ (List.mem_append_left _ z)
  rw [othp] at hp
  have ey := srt_uniq hp hs (trs_sub ok.nd)
  have hk : hvN E.cells (E.head + und b) (ys.map two) = hvk s (undP (mbP b)) (trs (delW s.dl (mbP b).no)) := by rw [ey, v.c, v.h, hun]; rfl
  have hle := hvN_le E.cells (E.head + und b) (ys.map two)
  rw [List.length_map] at hle
  refine ⟨fun h0 => ?_, fun h0 => ?_⟩
  · have hk0 : hvk s (undP (mbP b)) (trs (delW s.dl (mbP b).no)) ≠ 0 := fun z => h0 (by rw [hk, z]; rfl)
    have := k2 hk0 _ ⟨E, _, dd, rs, jk, (core_congr q).symm, v, hrs, hrz⟩
    rw [hk, ey]
    exact this
  · have hk0 : hvk s (undP (mbP b)) (trs (delW s.dl (mbP b).no)) = 0 := by
      rw [← hk]
      rcases List.take_eq_nil_iff.mp h0 with z | z
      · exact z
      · rw [z] at hle ⊢
        exact Nat.le_zero.mp hle
    cases cw : (mbP b).w with
    | none =>
      obtain ⟨el, _⟩ := beg_N cw
      refine .inl ⟨el, k0 hk0 cw _ (EnAt.mk (s := dropS s (mbP b).no) (E := E) (ms := m1 ++ m2) (jk := mcells K b ++ jk) rfl rfl ?_ ⟨v.c, v.h, v.nx, hdl, ?_, v.dd⟩ ?_ hrz)⟩
      · rw [ef]
        walk_at "rc cells"
      · intro x hx
        refine v.one x ?_
        rcases List.mem_append.mp hx with z | z
        · exact List.mem_append_left _ z
        · exact List.mem_append_right _ (List.mem_cons_of_mem _ z)
      · refine hrs.keep fun c hc _ => ?_
        have q' : ((m1 ++ b :: m2).flatMap (mcells K) ++ jk).Perm ((m1 ++ m2).flatMap (mcells K) ++ (mcells K b ++ jk)) := by
          walk_at "rc cells"
        exact q'.mem_iff.mp hc
    | some w =>
      obtain ⟨_, eb, eu, ra, r, el, ew⟩ := beg_P cw (v.one b hb).2
      obtain ⟨hpg, hpn, _⟩ := hwp w cw
      have hnn : (mbP b).no = b.no := rfl
      have hpg' : w.page.toNat < s.n ∧ r.page = ((w.page.toNat : Nat) : Int) := by
        have : w.page = r.page := by rw [ew]; rfl
        omega
      refine .inr ⟨ra, r, w.page.toNat, el, hpg'.2, hpg'.1, fun A rs' dd' a2 row hrs' hz' hd' => ?_⟩
      have eun : r.undo = w.undo := by rw [ew]; rfl
      have ebe : r.before = w.before := by rw [ew]; rfl
      refine k1 hk0 w cw _ (EnAt.mk (s := undoS s (mbP b).no w) (E := { E with rowsA := A, head := E.head + r.undo }) (ms := m1 ++ m2) (jk := (a2, .i (He.ga K "LogRow") (rwFs row)) :: (b.a, .i (He.ga K "Member") (mbFs ⟨b.no, b.ends, b.a, []⟩)) :: ((b.left.map fun p => (p.1, RC.i (He.ga K "LogRow") (rwFs p.2))) ++ jk)) ?_ ?_ ?_ ⟨v.c, ?_, v.nx, hdl, ?_, ?_⟩ ?_ ?_)
      · rw [v.c, v.h, eun]; rfl
      · rw [ebe]; rfl
      · rw [ef]
        walk_at "rc cells"
      · show E.head + r.undo = s.head + w.undo
        rw [v.h, eun]
      · intro x hx
        refine v.one x ?_
        rcases List.mem_append.mp hx with z | z
        · exact List.mem_append_left _ z
        · exact List.mem_append_right _ (List.mem_cons_of_mem _ z)
      · have := hd'
        rw [v.c, v.h, eun] at this
        exact this
      · refine hrs'.keep fun c hc hex => ?_
        rcases List.mem_cons.mp hc with rfl | hc
        · exact List.mem_append_right _ List.mem_cons_self
        rcases List.mem_append.mp hc with z | z
        · exact List.mem_append_right _ (List.mem_cons_of_mem _ (List.mem_cons_of_mem _ (List.mem_append_left _ z)))
        rcases List.mem_append.mp z with z | z
        · rcases List.mem_append.mp z with z | z
          · exact List.mem_append_left _ z
          · exact List.mem_append_right _ (List.mem_cons_of_mem _ (List.mem_cons_of_mem _ (List.mem_append_right _ z)))
        · obtain ⟨C, r', e'⟩ := hex
          exact (nX c z C r' e').elim
      · omega
theorem e_write (h : EnAt K e s t R X) (nX : NoRow X) (ok : PsOk s t) {no x c u : Int} (hd : (⟨no, none⟩ : Pd) ∈ s.dl) (hn : no < s.n) (hx : XOk H0 R0 (He.ga K "Full") Ex Wx) (b1 : 0 ≤ x ∧ x ≤ 1000000000000000000000000000000) (b2 : 1 ≤ c ∧ c ≤ 1000) (b3 : 1 ≤ u ∧ u ≤ 1000) (hh : holdP s.dl no = .non)
    (acc : c + u ≤ s.c ∧ hvk s c (trs (delW s.dl no)) = 0 ∧ c + u + ((srt (trs (delW s.dl no))).map fun t => t.2.1).sum ≤ s.c)
    (k1 : ∀ R', EnAt K e (writeS s no x c u) (t + 1) R' X → F (.v .non) R') : RS H0 R0 (sp_Engine_write K) Ex [.v (.ref e), .v (.int no), .v (.int no), .v (.int x), .v (.int c), .v (.int u)] R F := by
  obtain ⟨E, ms, dd, rs, jk, p, v, hrs, hrz⟩ := h
  have hno0 := (ok.no _ hd).1
  obtain ⟨b, hb, eb⟩ := v.mem hd
  have bdm := bd_M v ok
  have hol := hold_P v no
  obtain ⟨no', ends, ba, left⟩ := b
  have en : no' = no := congrArg Pd.no eb
  subst en
  have e1 : ends = 1 := (v.one _ hb).1
  subst e1
  have el : left = [] := (beg_N (b := ⟨no', 1, ba, left⟩) (congrArg Pd.w eb)).1
  subst el
  have othp := oth_P v ⟨no', 1, ba, []⟩
  have vsrt := v.srt ok
  obtain ⟨m1, m2, rfl⟩ := List.append_of_mem hb
  have hno := split_no (g := fun b : Mb => b.no) vsrt
  have q : (((E.memA, RC.k (vK (memK (m1 ++ ⟨no', 1, ba, []⟩ :: m2)))) :: ((m1 ++ ⟨no', 1, ba, []⟩ :: m2).flatMap (mcells K) ++ jk)) ++ X).Perm ((ba, .i (He.ga K "Member") (mbFs ⟨no', 1, ba, []⟩)) :: ((E.memA, RC.k (vK (memK (m1 ++ ⟨no', 1, ba, []⟩ :: m2)))) :: ((m1 ++ m2).flatMap (mcells K) ++ jk ++ X))) := by
    walk_at "rc cells"
  have p1 := p.trans (core_congr q)
  have ht := ok.t
  have epn : ((no'.toNat : Nat) : Int) = no' := Int.toNat_of_nonneg hno0
  refine rs_X p1 ⟨e, E, s.n, s.home, s.pool, dd, rs, _, m1 ++ ⟨no', 1, ba, []⟩ :: m2, s.bd, no', 1, ba, no'.toNat, x, c, u, by rw [epn], rfl, ⟨.of2 v ok fun c hc => q.mem_iff.mp (mem_q c hc), hb, hrs.keep fun c hc hex => ?_, by omega, v.dd, ok.n60, by omega, bdm, b1, b2, b3, by rw [epn, hol]; exact hh, by rw [v.c]; exact acc.1, fun ys hp hs => ?_⟩, .inl trivial, fun A rs' dd' a2 hrs' hz' hd' => ?_⟩ hx
  · have q2 : ((m1 ++ ⟨no', 1, ba, []⟩ :: m2).flatMap (mcells K) ++ jk).Perm ((ba, .i (He.ga K "Member") (mbFs ⟨no', 1, ba, []⟩)) :: ((m1 ++ m2).flatMap (mcells K) ++ jk)) := by
      walk_at "rc cells"
    rcases List.mem_cons.mp (q2.mem_iff.mp hc) with rfl | z
    · exact (no_mb hex).elim
    · exact List.mem_cons_of_mem _ (List.mem_append_left _ z)
  · rw [othp] at hp
    have ey := srt_uniq hp hs (trs_sub ok.nd)
    rw [ey, v.c, v.h]
    exact acc.2
  · refine k1 _ (EnAt.mk (s := writeS s no' x c u) (E := { E with rowsA := A, head := E.head + c }) (ms := m1 ++ ⟨no', 1, ba, [(a2, ⟨"write", no', (no'.toNat : Nat), s.pool no'.toNat, x, u, 0, E.head, c⟩)]⟩ :: m2) (jk := jk) ?_ rfl ?_ ⟨v.c, ?_, v.nx, ?_, ?_, ?_⟩ ?_ ?_)
    · rw [v.c, v.h]; rfl
    · have em : memK (m1 ++ ⟨no', 1, ba, [(a2, ⟨"write", no', (no'.toNat : Nat), s.pool no'.toNat, x, u, 0, E.head, c⟩)]⟩ :: m2) = memK (m1 ++ ⟨no', 1, ba, []⟩ :: m2) := by
        unfold memK
        simp
      rw [em]
      walk_at "rc cells"
    · show E.head + c = s.head + c
      rw [v.h]
    · show _ = setW s.dl no' _
      rw [← v.dl]
      refine setW_split (f := mbP) (b := ⟨no', 1, ba, []⟩) (fun a ha => hno a ha) ?_
      show _ = Pd.mk no' _
      unfold mbP
      simp [rwW, v.h, epn]
    · intro x hx
      rcases List.mem_append.mp hx with z | z
      · exact v.one x (List.mem_append_left _ z)
      · rcases List.mem_cons.mp z with z | z
        · rw [z]; exact ⟨rfl, Nat.le_refl _⟩
        · exact v.one x (List.mem_append_right _ (List.mem_cons_of_mem _ z))
    · have := hd'
      rw [v.c, v.h] at this
      exact this
    · refine hrs'.keep fun c' hc hex => ?_
      have q' : ((m1 ++ ⟨no', 1, ba, [(a2, ⟨"write", no', (no'.toNat : Nat), s.pool no'.toNat, x, u, 0, E.head, c⟩)]⟩ :: m2).flatMap (mcells K) ++ jk).Perm ((a2, .i (He.ga K "LogRow") (rwFs ⟨"write", no', (no'.toNat : Nat), s.pool no'.toNat, x, u, 0, E.head, c⟩)) :: (ba, .i (He.ga K "Member") (mbFs ⟨no', 1, ba, [(a2, ⟨"write", no', (no'.toNat : Nat), s.pool no'.toNat, x, u, 0, E.head, c⟩)]⟩)) :: ((m1 ++ m2).flatMap (mcells K) ++ jk)) := by walk_at "rc cells"
      refine q'.mem_iff.mpr ?_
      rcases List.mem_cons.mp hc with rfl | hc
      · exact List.mem_cons_self
      rcases List.mem_cons.mp hc with rfl | hc
      · exact (no_k hex).elim
      rcases List.mem_append.mp hc with z | z
      · exact List.mem_cons_of_mem _ (List.mem_cons_of_mem _ z)
      · obtain ⟨C, r', e'⟩ := hex
        exact (nX c' z C r' e').elim
    · omega
theorem e_open (h : EnAt K e s t R X) (ok : PsOk s t) (k1 : ∀ R', EnAt K e (openS s) t R' X → F (.v (.int s.nxt)) R') : RS H0 R0 (sp_Engine_open_deed K) Ex [.v (.ref e), .v (.int 1)] R F := by
  obtain ⟨E, ms, dd, rs, jk, p, v, hrs, hrz⟩ := h
  have p1 : R.Perm ((e, .i (He.ga K "Engine") (enFs E)) :: (E.memA, .k (vK (memK ms))) :: ((E.rowsA, .l (rsD rs)) :: (E.homeA, .l (intsF s.n s.home)) :: (E.poolA, .l (intsF s.n s.pool)) :: (E.dirtyA, .k (vK (dirK dd))) :: (ms.flatMap (mcells K) ++ jk ++ X))) := by
    refine p.trans ?_
    unfold EnL core
    simp only [List.cons_append]
    walk_at "rc perm"
  have hz := v.z ok
  refine rs_M (G := gm_Engine_open_deed K) p1 ⟨e, E, _, ms, 1, rfl, rfl, ⟨by decide, by decide, by omega, fun b hb => ?_⟩, fun a => ?_⟩
  · have := ok.no (mbP b) (by rw [← v.dl]; exact List.mem_map.mpr ⟨b, hb, rfl⟩)
    have e : (mbP b).no = b.no := rfl
    rw [v.nx]
    omega
  · rw [v.nx]
    refine k1 _ (EnAt.perm ?_ (EnAt.mk (s := openS s) (E := { E with nxt := s.nxt + 1 }) (ms := ms ++ [(⟨s.nxt, 1, a, []⟩ : Mb)]) (rs := rs) (dd := dd) (jk := jk) (rest := (E.memA, .k (vK (memK (ms ++ [(⟨s.nxt, 1, a, []⟩ : Mb)])))) :: ((ms ++ [(⟨s.nxt, 1, a, []⟩ : Mb)]).flatMap (mcells K) ++ jk) ++ X) rfl rfl (List.Perm.refl _) ⟨v.c, v.h, rfl, ?_, ?_, v.dd⟩ ?_ hrz))
    · unfold core
      simp only [List.flatMap_append, List.flatMap_cons, List.flatMap_nil, mcells, List.map_nil, List.cons_append, List.nil_append]
      walk_at "rc perm"
    · show _ = s.dl ++ _
      rw [List.map_append, v.dl]
      rfl
    · intro x hx
      rcases List.mem_append.mp hx with z | z
      · exact v.one x z
      · rw [List.mem_singleton.mp z]; exact ⟨rfl, Nat.zero_le _⟩
    · refine hrs.keep fun c hc _ => ?_
      rw [List.flatMap_append]
      rcases List.mem_append.mp hc with z | z
      · exact List.mem_append_left _ (List.mem_append_left _ z)
      · exact List.mem_append_right _ z
end
end Rc
-- G21
set_option Elab.async false
set_option linter.all false
set_option maxRecDepth 100000
set_option maxHeartbeats 4000000
namespace Rc
open PySem PySem.Spec PyProof.Rows L2 RcHead
local macro_rules | `(tactic| walk_at "rc mem") => `(tactic| first | assumption | exact List.mem_cons_self | ((with_reducible (refine List.mem_cons_of_mem _ ?_)); walk_at "rc mem"))
local macro_rules | `(tactic| walk_at "rc end") => `(tactic| fail)
local macro_rules | `(tactic| walk_at "rc lst") => `(tactic| with_reducible refine em_lst ?_)
local macro_rules | `(tactic| walk_at "rc call") => `(tactic| fail)
local macro_rules | `(tactic| walk_at "rc step") => `(tactic| first
  | ((with_reducible (apply em_var)); rfl)
  | with_reducible refine em_c ?_
  | with_reducible refine em_op ?_
  | with_reducible refine ro_I0 ?_
  | ((with_reducible (refine ro_eq ?_ ?_)); rfl)
  | ((with_reducible (refine ro_ne ?_ ?_)); rfl)
  | with_reducible refine ro_isN ?_
  | with_reducible refine ro_notN ?_
  | with_reducible refine ea_nil ?_
  | with_reducible refine ea_cons ?_
  | with_reducible refine em_call ?_
  | walk_at "rc call"
  | (with_reducible refine em_fld ?_)
  | (refine ⟨_, _, _, _, rfl, (by walk_at "rc mem"), (by assumption), (by assumption), (by rfl), ?_⟩)
  | with_reducible refine ra_listV ?_
  | with_reducible refine em_cb ?_
  | with_reducible refine em_tup ?_
  | walk_at "rc lst"
  | with_reducible refine em_if ?_
  | with_reducible refine em_andV ?_
  | with_reducible refine em_orV ?_
  | with_reducible refine em_notV ?_
  | with_reducible refine em_chain ?_
  | with_reducible refine et_test ?_
  | with_reducible refine et_B ?_
  | with_reducible refine et_and ?_
  | with_reducible refine et_or ?_
  | with_reducible refine et_not ?_
  | with_reducible refine et_yes ?_
  | with_reducible refine sx_seq ?_
  | with_reducible refine sx_next ?_
  | with_reducible refine sx_asg ?_
  | with_reducible refine sx_ret ?_
  | with_reducible refine sx_append ?_
  | with_reducible refine sx_drop ?_
  | with_reducible refine sx_if ?_
  | (refine ⟨_, rfl, ?_⟩)
  | (refine ⟨fun _ => ?_, fun z => Bool.noConfusion z⟩)
  | (refine ⟨fun z => Bool.noConfusion z, fun _ => ?_⟩)
  | with_reducible refine em_make ?_
  | with_reducible refine em_meth ?_
  | (refine ⟨_, _, rfl, (by walk_at "rc mem"), rfl, ?_⟩)
  | with_reducible refine em_neg ?_
  | with_reducible refine sx_fld ?_
  | (refine ⟨_, _, _, 0, rfl, rfl, (by assumption), (by assumption), (of_decide_eq_true rfl), ?_⟩)
  | ((with_reducible (apply ra_len)); (first | exact .l .d | exact .t | exact .l (.c (by walk_at "rc mem"))))
  | ((with_reducible (apply ra_lenK)); (walk_at "rc mem"))
  | ((with_reducible (apply ro_ixL)); (first | exact .d | exact .c (by walk_at "rc mem")); (first | rfl | exact atI_0))
  | ((with_reducible (apply ro_ixT)); rfl)
  | (with_reducible (refine gx_name ?_ (by decide)))
  | ((with_reducible (apply gx_tupR)); rfl)
  | with_reducible refine gxs_cons ?_
  | with_reducible refine gxs_nil ?_
  | (exact ⟨rfl, rfl⟩)
  | (refine ⟨rfl, ?_⟩)
  | with_reducible refine em_dget ?_
  | with_reducible refine sx_lockAsg ?_
  | with_reducible refine em_din ?_
  | with_reducible refine em_dnotIn ?_
  | ((with_reducible (apply sx_aug)); rfl)
  | with_reducible refine sx_setL ?_
  | with_reducible refine sx_dput ?_
  | with_reducible refine gx_fld ?_
  | (with_reducible (apply sx_fldAug))
  | ((with_reducible (apply sx_rz)); assumption)
  | (refine ⟨(by simp only [List.length_cons, List.length_nil]; omega), ?_⟩))
local macro_rules | `(tactic| walk_at "rc perm") => `(tactic| (refine Mu.of ?_; simp only [Mu.app, Mu.cons, Mu.nil, Mu.nil_add, Mu.add_nil, List.append_eq]; ac_rfl))
section
variable [Tbl] {P : Program} {w : World} {K : PySem.W.Frag} {mg : Str → Option Value} {base : Heap}
theorem inj_nd {α β : Type} {f : α → β} {l : List α} {a b : α} (nd : (l.map f).Nodup) (ha : a ∈ l) (hb : b ∈ l) (e : f a = f b) : a = b := by
  obtain ⟨i, hi, ei⟩ := List.mem_iff_getElem.mp ha
  obtain ⟨j, hj, ej⟩ := List.mem_iff_getElem.mp hb
  have h3 := List.pairwise_iff_getElem.mp nd
  rcases Nat.lt_trichotomy i j with z | z | z
  · have h4 := h3 i j (by simpa using hi) (by simpa using hj) z
    rw [List.getElem_map, List.getElem_map, ei, ej] at h4
    exact absurd e h4
  · subst z
    rw [← ei, ← ej]
  · have h4 := h3 j i (by simpa using hj) (by simpa using hi) z
    rw [List.getElem_map, List.getElem_map, ei, ej] at h4
    exact absurd e.symm h4
def hasM (b : Mb) : Bool := !b.left.isEmpty
def triM (b : Mb) : Int × Int × Int := (begI b, und b, b.no)
def keyM (b : Mb) : Int × Int := if b.left.isEmpty then (1, b.no) else (0, begI b)
def srtM (l : List Mb) : List Mb := l.mergeSort fun a b => decide (begI a ≤ begI b)
def agedM (ms : List Mb) : List Mb := srtM (ms.filter hasM) ++ ms.filter fun b => b.left.isEmpty
section
variable {s : Ps} {t : Nat} {E : En} {ms : List Mb} {dd : List (Int × Int)}
theorem trs_M (v : EnV0 s E ms dd) : trs s.dl = (ms.filter hasM).map triM := by
  rw [← v.dl]
  have one := v.one
  clear v
  unfold trs
  rw [List.filterMap_map]
  induction ms with
  | nil => rfl
  | cons b l ih =>
    have ih' := ih fun x hx => one x (List.mem_cons_of_mem _ hx)
    rw [List.filterMap_cons, List.filter_cons]
    cases cw : (mbP b).w with
    | none =>
      obtain ⟨e0, _, _⟩ := beg_N cw
      rw [if_neg (by simp [e0, hasM])]
      have : ((fun d : Pd => d.w.map fun w => (w.place, w.undo, d.no)) ∘ mbP) b = none := by
        show (mbP b).w.map _ = none
        rw [cw]; rfl
      rw [this]
      exact ih'
    | some w =>
      obtain ⟨e0, e1, e2, _⟩ := beg_P cw (one b List.mem_cons_self).2
      rw [if_pos (by simp [e0, hasM]), List.map_cons]
      have : ((fun d : Pd => d.w.map fun w => (w.place, w.undo, d.no)) ∘ mbP) b = some (triM b) := by
        show (mbP b).w.map _ = _
        unfold triM
        rw [cw, e1, e2]; rfl
      rw [this]
      exact congrArg _ ih'
theorem srtM_perm (l : List Mb) : (srtM l).Perm l := List.mergeSort_perm _ _
theorem srtM_pw (l : List Mb) : (srtM l).Pairwise fun a b => begI a ≤ begI b :=
  (List.pairwise_mergeSort (le := fun a b : Mb => decide (begI a ≤ begI b)) (by intro a b c h1 h2; simp at *; omega) (by intro a b; simp; omega) l).imp fun h => by simpa using h
theorem agedM_perm (ms : List Mb) : (agedM ms).Perm ms := by
  have h := List.filter_append_perm hasM ms
  refine List.Perm.trans (List.Perm.append (srtM_perm _) ?_) h
  have e : (ms.filter fun b => b.left.isEmpty) = ms.filter fun x => !hasM x := by
    refine List.filter_congr fun b _ => ?_
    simp [hasM]
  rw [e]
theorem agedM_pw (hs : ms.Pairwise fun a b => a.no < b.no) : (agedM ms).Pairwise fun x y => SrtO.lexB (keyM y) (keyM x) = false := by
  have no : ∀ {p q : Int × Int}, ¬ (p.1 < q.1 ∨ (p.1 = q.1 ∧ p.2 < q.2)) → SrtO.lexB p q = false := fun {p q} h => by
    cases c : SrtO.lexB p q with
    | false => rfl
    | true => exact absurd (SrtO.lexB_iff.mp c) h
  have hh : ∀ a ∈ srtM (ms.filter hasM), keyM a = (0, begI a) := fun a ha => by
    have := (List.mem_filter.mp ((srtM_perm _).mem_iff.mp ha)).2
    unfold keyM
    rw [if_neg (by simpa [hasM] using this)]
  have hn : ∀ a ∈ ms.filter (fun b => b.left.isEmpty), keyM a = (1, a.no) := fun a ha => by
    have := (List.mem_filter.mp ha).2
    unfold keyM
    rw [if_pos this]
  refine List.pairwise_append.mpr ⟨?_, ?_, fun a ha b hb => ?_⟩
  · refine (srtM_pw _).imp_of_mem fun {a b} ha hb h => ?_
    rw [hh a ha, hh b hb]
    exact no (by simp; omega)
  · refine (hs.filter _).imp_of_mem fun {a b} ha hb h => ?_
    rw [hn a ha, hn b hb]
    exact no (by simp; omega)
  · rw [hh a ha, hn b hb]
    exact no (by simp)
theorem keyM_inj (v : EnV0 s E ms dd) (ok : PsOk s t) {a b : Mb} (ha : a ∈ ms) (hb : b ∈ ms) (e : keyM a = keyM b) : a = b := by
  unfold keyM at e
  by_cases ca : a.left.isEmpty = true
  · by_cases cb : b.left.isEmpty = true
    · rw [if_pos ca, if_pos cb] at e
      have e2 : a.no = b.no := congrArg Prod.snd e
      exact inj_nd (f := fun b : Mb => b.no) (nd_srt (v.srt ok)) ha hb e2
    · rw [if_pos ca, if_neg cb] at e
      exact absurd (congrArg Prod.fst e) (by simp)
  · by_cases cb : b.left.isEmpty = true
    · rw [if_neg ca, if_pos cb] at e
      exact absurd (congrArg Prod.fst e) (by simp)
    · rw [if_neg ca, if_neg cb] at e
      have e2 : begI a = begI b := congrArg Prod.snd e
      have nd := ok.nd
      rw [trs_M v, List.map_map] at nd
      exact inj_nd (f := ((fun x : Int × Int × Int => x.1) ∘ triM)) nd (List.mem_filter.mpr ⟨ha, by simp [hasM]; simpa using ca⟩) (List.mem_filter.mpr ⟨hb, by simp [hasM]; simpa using cb⟩) e2
theorem agedM_uniq (v : EnV0 s E ms dd) (ok : PsOk s t) {ys : List Mb} (p : ys.Perm ms) (h : ys.Pairwise fun x y => SrtO.lexB (keyM y) (keyM x) = false) : ys = agedM ms := by
  refine List.Perm.eq_of_pairwise (le := fun a b : Mb => !SrtO.lexB (keyM b) (keyM a)) (fun a b ha hb h1 h2 => ?_) (h.imp fun {a b} z => by simpa using z) ((agedM_pw (v.srt ok)).imp fun {a b} z => by simpa using z) (p.trans (agedM_perm ms).symm)
  refine keyM_inj v ok (p.mem_iff.mp ha) ((agedM_perm ms).mem_iff.mp hb) ?_
  have n1 : ¬ SrtO.lexB (keyM b) (keyM a) = true := by simpa using h1
  have n2 : ¬ SrtO.lexB (keyM a) (keyM b) = true := by simpa using h2
  rw [SrtO.lexB_iff] at n1 n2
  refine Prod.ext ?_ ?_ <;> omega
theorem itP_has {b : Mb} (one : b.left.length ≤ 1) (h : hasM b = true) : itP (mbP b) = (b.no, some (begI b), und b) := by
  cases cw : (mbP b).w with
  | none =>
    obtain ⟨e0, _⟩ := beg_N cw
    simp [hasM, e0] at h
  | some w =>
    obtain ⟨_, e1, e2, _⟩ := beg_P cw one
    unfold itP undP
    rw [cw, e1, e2]
    rfl
theorem aged_items (v : EnV0 s E ms dd) (ok : PsOk s t) : (agedM ms).map (fun b => itP (mbP b)) = itemsP s := by
  unfold agedM itemsP
  rw [List.map_append]
  congr 1
  · have e : (srtM (ms.filter hasM)).map triM = srt (trs s.dl) := by
      refine srt_uniq (by rw [trs_M v]; exact (srtM_perm _).map triM) (by rw [List.pairwise_map]; exact srtM_pw _) ok.nd
    rw [← e, List.map_map]
    refine List.map_congr_left fun b hb => ?_
    obtain ⟨h1, h2⟩ := List.mem_filter.mp ((srtM_perm _).mem_iff.mp hb)
    rw [itP_has (v.one b h1).2 h2]
    rfl
  · rw [← v.dl, List.map_map, List.filter_map]
    have e3 : (ms.filter fun b => b.left.isEmpty) = ms.filter ((fun t : Int × Option Int × Int => t.2.1.isNone) ∘ (itP ∘ mbP)) := by
      refine List.filter_congr fun b hb => ?_
      cases cw : (mbP b).w with
      | none =>
        obtain ⟨e0, _⟩ := beg_N cw
        show b.left.isEmpty = ((mbP b).w.map _).isNone
        rw [cw, e0]; rfl
      | some w =>
        obtain ⟨e0, _⟩ := beg_P cw (v.one b hb).2
        show b.left.isEmpty = ((mbP b).w.map _).isNone
        rw [cw, e0]; rfl
    rw [e3]
    rfl
theorem begV_it {b : Mb} (one : b.left.length ≤ 1) : begV b = optV (itP (mbP b)).2.1 ∧ und b = (itP (mbP b)).2.2 := by
  cases cw : (mbP b).w with
  | none =>
    obtain ⟨e0, _, e2⟩ := beg_N cw
    unfold itP undP begV
    rw [cw, e2, e0]
    exact ⟨rfl, rfl⟩
  | some w =>
    obtain ⟨e0, e1, e2, _⟩ := beg_P cw one
    unfold itP undP
    rw [begV_ne e0, cw, e1, e2]
    exact ⟨rfl, rfl⟩
end
abbrev tri3 (t : Int × Option Int × Int) : D := .t [.v (optV t.2.1), .v (.int t.2.2), .t []]
def kfM (ms : List Mb) : D → Int × Int
  | .v (.ref a) => (match ms.find? fun b => decide (b.a = a) with
    | some b => keyM b
    | none => (0, 0))
  | _ => (0, 0)
theorem kfM_at {ms : List Mb} {b : Mb} (hb : b ∈ ms) (h : ∀ c ∈ ms, c.a = b.a → c = b) : kfM ms (.v (.ref b.a)) = keyM b := by
  unfold kfM
  have : ms.find? (fun c => decide (c.a = b.a)) = some b := by
    cases c : ms.find? fun c => decide (c.a = b.a) with
    | none =>
      have := (List.find?_eq_none.mp c) b hb
      simp at this
    | some x =>
      have h1 := List.find?_some c
      have h2 := List.mem_of_find?_eq_some c
      rw [h x h2 (by simpa using h1)]
  show (match ms.find? (fun c => decide (c.a = b.a)) with | some b => keyM b | none => (0, 0)) = _
  rw [this]
theorem sl_Engine_by_age : FnScope ["member"] ["member"] (match defBody (inClass (top 50) 4) with
  | [.Return (some (.Call _ _ [⟨_, .Lambda _ _ sc _, _⟩] _)) _] => sc
  | _ => defScope (top 62)) := ⟨rfl, rfl, rfl, by decide +kernel, rfl, by decide +kernel, by decide +kernel⟩
theorem uniq_nd {R : Rg} {a : Addr} {c c' : RC} (nd : (R.map (·.1)).Nodup) (m : (a, c) ∈ R) (m' : (a, c') ∈ R) : c = c' := congrArg Prod.snd (inj_nd nd m m' rfl)
theorem em_same [Tbl] {H0 : Hp} {R0 R : Rg} {te : TE} {g : Ev} {F : D → Rg → Prop} (h : (R.map (·.1)).Nodup → EM H0 R0 te g R F) : EM H0 R0 te g R F := em_nd h
theorem sc_Engine_by_age : FnScope ["self"] ["self"] (defScope (inClass (top 50) 4)) := ⟨rfl, rfl, rfl, by decide +kernel, rfl, by decide +kernel, by decide +kernel⟩
theorem kp_Engine_by_age (W : Wd w K mg base) : PySem.W.keepIn K (.ref (He.fAd K ("Engine", some "by_age"))) = true := W.kp 52
theorem b_Engine_by_age (W : Wd w K mg base) : Binds K (fdO K (He.fAd K ("Engine", some "by_age"))) ["self"] [] := (W.F 52).bindsN fun _ _ _ _ _ _ us hl => match us, hl with | [_], _ => rfl
def gm_Engine_by_age [Tbl] (K : PySem.W.Frag) : Gm := fun ds R F => ∃ (e : Addr) (s : Ps) (t : Nat) (E : En) (ms : List Mb) (dd : List (Int × Int)), ds = [.v (.ref e)] ∧ EnF0 K e s R E ms dd ∧ PsOk s t ∧ F (.l ((agedM ms).map fun b => .v (.ref b.a))) R
abbrev sp_Engine_by_age [Tbl] (K : PySem.W.Frag) : Sp := spM (gm_Engine_by_age K)
theorem c_Engine_by_age [Tbl] {K : PySem.W.Frag} {H0 : Hp} {R0 R : Rg} {Ex : XK} {F : D → Rg → Prop} {e : Addr} {s : Ps} {t : Nat} {E : En} {ms : List Mb} {dd : List (Int × Int)} (h : EnF0 K e s R E ms dd) (ok : PsOk s t) (k : F (.l ((agedM ms).map fun b => .v (.ref b.a))) R) : RS H0 R0 (sp_Engine_by_age K) Ex [.v (.ref e)] R F := rs_m ⟨e, s, t, E, ms, dd, rfl, h, ok, k⟩
theorem ok_Engine_by_age (W : Wd w K mg base) : FnOk P w K mg base CX0 6 (He.fAd K ("Engine", some "by_age")) (fdO K (He.fAd K ("Engine", some "by_age"))) ["self"] (sp_Engine_by_age K) := by
  refine okC (p := ("Engine", some "by_age")) (W.F 52) sc_Engine_by_age ?_ (fun A outer s H vs Q E hr h => ?_)
  · exact lenM fun ds R F h => by obtain ⟨e, s, t, E, ms, dd, rfl, hE, ok, hF⟩ := h; rfl
  have hu64 := hr.units
  have hu := Nat.lt_of_le_of_lt (Nat.add_le_add_left (show 1 ≤ 64 by decide) _) hu64
  have TB := W.tb ("Engine", some "by_age") List.mem_cons_self
  have HM : ((He.cT K ("Engine", some "by_age")).2, Str.ofString "Engine.by_age.<locals>." ++ Str.ofString "<lambda>") ∈ Tbl.TT := by rw [W.tt]; exact List.mem_cons_self
  have HU : ∀ p ∈ Tbl.TT, p.1 = (He.cT K ("Engine", some "by_age")).2 → p.2 = Str.ofString "Engine.by_age.<locals>." ++ Str.ofString "<lambda>" := by
    rw [W.tt]
    intro p hp e
    rcases List.mem_cons.mp hp with z | z
    · rw [z]
    · rw [List.mem_singleton.mp z] at e; exact absurd e.symm W.two
  refine ⟨_, PSs.nox (pss_one (ps_ret (pe_sortK (k := 2) (b := true) (N := ["member"]) (a1 := "member") rfl rfl (W.free 51) (pa_cons (pe_vals (fldK (K := K) rfl (pv 0) rfl)) pa_nil) TB rfl HM HU (hr.mono (show 5 ≤ 5 by decide)) rfl (fun y hy e => absurd e (by rw [List.mem_singleton.mp hy]; decide)) rfl sl_Engine_by_age (fun _ _ _ _ us hl => match us, hl with | [_], _ => rfl) (fun _ _ _ _ _ _ hr => (pe_meth0 (pv 0) (W.cls 88) (W.meth 95) (ok_Member_age (K := K) W) (hr.mono (by decide)) (b_Member_age W) .nil pass0))))), entryM h ?_⟩
  clear h hu hu64 hr
  rintro ds R F ⟨e, s, t, E, ms, dd, rfl, hE, ok, hF⟩
  have cl_Engine : Cls K (He.ga K "Engine") := W.cls 101
  have na_Engine_kept_members : NoAttr K (He.ga K "Engine") "kept_members" := W.noat 108
  have h1 := hE.e
  refine sx_ret (em_nd fun nd => em_sortKV ?_)
  repeat walk_at "rc step"
  have ad : ∀ b ∈ ms, ∀ c ∈ ms, c.a = b.a → c = b := fun b hb c hc ea => by
    have m1 := (hE.m.b b hb).c
    have m2 := (hE.m.b c hc).c
    rw [ea] at m2
    have e1 := uniq_nd nd m1 m2
    injection e1 with _ e2
    have e3 : b.no = c.no := by
      simp [mbFs] at e2
      exact e2.1
    exact inj_nd (f := fun b : Mb => b.no) (nd_srt (hE.v.srt ok)) hc hb e3.symm
  have em : (memK ms).map (fun p => D.v p.2) = ms.map fun b => D.v (.ref b.a) := by
    unfold memK
    rw [List.map_map]
    rfl
  refine ⟨E.memA, memK ms, kfM ms, rfl, hE.m.k, by unfold memK; rw [List.length_map]; exact Nat.lt_of_le_of_lt (hE.v.z ok) (by decide), fun x hx H1 => ?_, fun ys p hs => ?_⟩
  · rw [em] at hx
    obtain ⟨b, hb, rfl⟩ := List.mem_map.mp hx
    rw [kfM_at hb (ad b hb)]
    have hbm := hE.m.b b hb
    have h2 := hbm.c
    repeat walk_at "rc step"
    refine c_Member_age hbm ?_
    refine ⟨rfl, ?_⟩
    unfold keyM
    cases c : b.left.isEmpty with
    | true => rfl
    | false => rw [begV_ne c]; rfl
  · rw [em] at p
    obtain ⟨bs, pb, rfl⟩ := perm_idx p _ rfl
    have hb2 : bs = agedM ms := by
      refine agedM_uniq hE.v ok pb ?_
      rw [List.pairwise_map] at hs
      refine hs.imp_of_mem fun {x y} hx hy z => ?_
      rw [kfM_at (pb.mem_iff.mp hx) (ad x (pb.mem_iff.mp hx)), kfM_at (pb.mem_iff.mp hy) (ad y (pb.mem_iff.mp hy))] at z
      exact z
    rw [hb2]
    exact hF
local macro_rules | `(tactic| walk_at "rc call") => `(tactic| first | ((with_reducible (apply c_Engine_check_up)); (walk_at "rc mem")))
theorem sc_Engine_open_deeds : FnScope ["self", "member"] ["self"] (defScope (inClass (top 50) 32)) := ⟨rfl, rfl, rfl, by decide +kernel, rfl, by decide +kernel, by decide +kernel⟩
theorem kp_Engine_open_deeds (W : Wd w K mg base) : PySem.W.keepIn K (.ref (He.fAd K ("Engine", some "open_deeds"))) = true := W.kp 76
theorem b_Engine_open_deeds (W : Wd w K mg base) : Binds K (fdO K (He.fAd K ("Engine", some "open_deeds"))) ["self"] [] := (W.F 76).bindsN fun _ _ _ _ _ _ us hl => match us, hl with | [_], _ => rfl
def gm_Engine_open_deeds [Tbl] (K : PySem.W.Frag) : Gm := fun ds R F => ∃ (e : Addr) (s : Ps) (t : Nat), ds = [.v (.ref e)] ∧ EnF K e s R ∧ PsOk s t ∧ F (.l ((itemsP s).map fun t => .v (.int t.1))) R
abbrev sp_Engine_open_deeds [Tbl] (K : PySem.W.Frag) : Sp := spM (gm_Engine_open_deeds K)
theorem c_Engine_open_deeds [Tbl] {K : PySem.W.Frag} {H0 : Hp} {R0 R : Rg} {Ex : XK} {F : D → Rg → Prop} {e : Addr} {s : Ps} {t : Nat} (h : EnF K e s R) (ok : PsOk s t) (k : F (.l ((itemsP s).map fun t => .v (.int t.1))) R) : RS H0 R0 (sp_Engine_open_deeds K) Ex [.v (.ref e)] R F := rs_m ⟨e, s, t, rfl, h, ok, k⟩
theorem ok_Engine_open_deeds (W : Wd w K mg base) : FnOk P w K mg base CX0 7 (He.fAd K ("Engine", some "open_deeds")) (fdO K (He.fAd K ("Engine", some "open_deeds"))) ["self"] (sp_Engine_open_deeds K) := by
  refine (W.F 76).ok sc_Engine_open_deeds ?_ (fun cdv A outer s H vs Q E hr h => ?_)
  · exact lenM fun ds R F h => by obtain ⟨e, s, t, rfl, ⟨E, ms, dd, hE⟩, ok, hF⟩ := h; rfl
  have hu64 := hr.units
  have hu := Nat.lt_of_le_of_lt (Nat.add_le_add_left (show 1 ≤ 64 by decide) _) hu64
  refine ⟨_, PSs.nox (pss_cons (ps_expr (pe_meth0 (pv 0) (W.cls 101) (W.meth 113) (ok_Engine_check_up (K := K) W) (hr.mono (by decide)) (b_Engine_check_up W) .nil pass0))
    (pss_one (ps_ret (pe_lc (own := [("member", 1)]) (g := (gName 1)) rfl sc_Engine_open_deeds.nd (ilistK (K := K) rfl (pe_meth0 (pv 0) (W.cls 101) (W.meth 116) (ok_Engine_by_age (K := K) W) (hr.mono (by decide)) (b_Engine_by_age W) .nil pass0)) (blkOk_by (show blkC ["self", "member"] (defScope (inClass (top 50) 32)) _ [("member", 1)] = true by decide +kernel)) (fun _ _ _ _ _ => (pg_name (i := 1) sc_Engine_open_deeds.nd rfl (.inl rfl))) (fun _ _ _ _ _ => pts_nil) (fun _ _ _ _ _ => (fldK (K := K) rfl (pv 1) rfl)))))), entryM h ?_⟩
  clear h hu hu64 hr
  rintro ds R F ⟨e, s, t, rfl, ⟨E, ms, dd, hE⟩, ok, hF⟩
  have cl_Member : Cls K (He.ga K "Member") := W.cls 88
  have na_Member_number : NoAttr K (He.ga K "Member") "number" := W.noat 90
  have h1 := hE.e
  repeat walk_at "rc step"
  refine em_lcI ?_
  repeat walk_at "rc step"
  refine c_Engine_by_age hE ok ?_
  refine ⟨_, agedM ms, fun b => .v (.ref b.a), fun b => some (.v (.int b.no)), .d, ?_, fun b hb H1 Rx hs => ?_, ?_⟩
  · rw [(agedM_perm ms).length_eq]
    exact Nat.le_trans (hE.v.z ok) (by decide)
  · have h2 := hs _ (hE.m.b b ((agedM_perm ms).mem_iff.mp hb)).c
    repeat walk_at "rc step"
  rw [fm_some]
  have e : (agedM ms).map (fun b => D.v (.int b.no)) = (itemsP s).map fun t => .v (.int t.1) := by
    rw [← aged_items hE.v ok, List.map_map]
    rfl
  rw [e]
  exact hF
local macro_rules | `(tactic| walk_at "rc call") => `(tactic| first | ((with_reducible (apply c_Engine_check_up)); (walk_at "rc mem")) | ((with_reducible (apply c_Member_undoing)); assumption) | ((with_reducible (apply c_Member_begin)); assumption))
theorem sc_Engine_triples : FnScope ["self", "member"] ["self"] (defScope (inClass (top 50) 11)) := ⟨rfl, rfl, rfl, by decide +kernel, rfl, by decide +kernel, by decide +kernel⟩
theorem kp_Engine_triples (W : Wd w K mg base) : PySem.W.keepIn K (.ref (He.fAd K ("Engine", some "triples"))) = true := W.kp 58
theorem b_Engine_triples (W : Wd w K mg base) : Binds K (fdO K (He.fAd K ("Engine", some "triples"))) ["self"] [] := (W.F 58).bindsN fun _ _ _ _ _ _ us hl => match us, hl with | [_], _ => rfl
def gm_Engine_triples [Tbl] (K : PySem.W.Frag) : Gm := fun ds R F => ∃ (e : Addr) (s : Ps) (t : Nat), ds = [.v (.ref e)] ∧ EnF K e s R ∧ PsOk s t ∧ F (.l ((itemsP s).map tri3)) R
abbrev sp_Engine_triples [Tbl] (K : PySem.W.Frag) : Sp := spM (gm_Engine_triples K)
theorem c_Engine_triples [Tbl] {K : PySem.W.Frag} {H0 : Hp} {R0 R : Rg} {Ex : XK} {F : D → Rg → Prop} {e : Addr} {s : Ps} {t : Nat} (h : EnF K e s R) (ok : PsOk s t) (k : F (.l ((itemsP s).map tri3)) R) : RS H0 R0 (sp_Engine_triples K) Ex [.v (.ref e)] R F := rs_m ⟨e, s, t, rfl, h, ok, k⟩
theorem ok_Engine_triples (W : Wd w K mg base) : FnOk P w K mg base CX0 7 (He.fAd K ("Engine", some "triples")) (fdO K (He.fAd K ("Engine", some "triples"))) ["self"] (sp_Engine_triples K) := by
  refine (W.F 58).ok sc_Engine_triples ?_ (fun cdv A outer s H vs Q E hr h => ?_)
  · exact lenM fun ds R F h => by obtain ⟨e, s, t, rfl, ⟨E, ms, dd, hE⟩, ok, hF⟩ := h; rfl
  have hu64 := hr.units
  have hu := Nat.lt_of_le_of_lt (Nat.add_le_add_left (show 1 ≤ 64 by decide) _) hu64
  refine ⟨_, PSs.nox (pss_one (ps_ret (pe_lc (own := [("member", 1)]) (g := (gName 1)) rfl sc_Engine_triples.nd (ilistK (K := K) rfl (pe_meth0 (pv 0) (W.cls 101) (W.meth 116) (ok_Engine_by_age (K := K) W) (hr.mono (by decide)) (b_Engine_by_age W) .nil pass0)) (blkOk_by (show blkC ["self", "member"] (defScope (inClass (top 50) 11)) _ [("member", 1)] = true by decide +kernel)) (fun _ _ _ _ _ => (pg_name (i := 1) sc_Engine_triples.nd rfl (.inl rfl))) (fun _ _ _ _ _ => pts_nil) (fun _ _ _ _ _ => (pe_tup (pa_cons (pe_meth0 (pv 1) (W.cls 88) (W.meth 94) (ok_Member_begin (K := K) W) (hr.mono (by decide)) (b_Member_begin W) .nil pass0) (pa_cons (pe_meth0 (pv 1) (W.cls 88) (W.meth 93) (ok_Member_undoing (K := K) W) (hr.mono (by decide)) (b_Member_undoing W) .nil pass0) (pa_cons (pe_tup pa_nil) pa_nil)))))))), entryM h ?_⟩
  clear h hu hu64 hr
  rintro ds R F ⟨e, s, t, rfl, ⟨E, ms, dd, hE⟩, ok, hF⟩
  have h1 := hE.e
  refine sx_ret (em_lcI ?_)
  repeat walk_at "rc step"
  refine c_Engine_by_age hE ok ?_
  refine ⟨_, agedM ms, fun b => .v (.ref b.a), fun b => some (tri3 (itP (mbP b))), .d, ?_, fun b hb H1 Rx hs => ?_, ?_⟩
  · rw [(agedM_perm ms).length_eq]
    exact Nat.le_trans (hE.v.z ok) (by decide)
  · have hb' := (agedM_perm ms).mem_iff.mp hb
    have hbm : MbIn K b Rx := (hE.m.b b hb').sub hs
    have h2 := hbm.c
    obtain ⟨e1, e2⟩ := begV_it (hE.v.one b hb').2
    repeat walk_at "rc step"
    rw [e1, e2]
  rw [fm_some]
  have e : (agedM ms).map (fun b => tri3 (itP (mbP b))) = (itemsP s).map tri3 := by
    rw [← aged_items hE.v ok, List.map_map]
    rfl
  rw [e]
  exact hF
local macro_rules | `(tactic| walk_at "rc call") => `(tactic| first | ((with_reducible (apply c_Engine_check_up)); (walk_at "rc mem")))
theorem sc_Engine_standing : FnScope ["self"] ["self"] (defScope (inClass (top 50) 12)) := ⟨rfl, rfl, rfl, by decide +kernel, rfl, by decide +kernel, by decide +kernel⟩
theorem kp_Engine_standing (W : Wd w K mg base) : PySem.W.keepIn K (.ref (He.fAd K ("Engine", some "standing"))) = true := W.kp 59
theorem b_Engine_standing (W : Wd w K mg base) : Binds K (fdO K (He.fAd K ("Engine", some "standing"))) ["self"] [] := (W.F 59).bindsN fun _ _ _ _ _ _ us hl => match us, hl with | [_], _ => rfl
def gm_Engine_standing [Tbl] (K : PySem.W.Frag) : Gm := fun ds R F => ∃ (e : Addr) (s : Ps) (t : Nat), ds = [.v (.ref e)] ∧ EnF K e s R ∧ PsOk s t ∧ ∀ p, F (.v (.ref p)) ((p, .i (He.ga K "Standing") (stFs s.c s.head ((itemsP s).map tri3))) :: R)
abbrev sp_Engine_standing [Tbl] (K : PySem.W.Frag) : Sp := spM (gm_Engine_standing K)
theorem c_Engine_standing [Tbl] {K : PySem.W.Frag} {H0 : Hp} {R0 R : Rg} {Ex : XK} {F : D → Rg → Prop} {e : Addr} {s : Ps} {t : Nat} (h : EnF K e s R) (ok : PsOk s t) (k : ∀ p, F (.v (.ref p)) ((p, .i (He.ga K "Standing") (stFs s.c s.head ((itemsP s).map tri3))) :: R)) : RS H0 R0 (sp_Engine_standing K) Ex [.v (.ref e)] R F := rs_m ⟨e, s, t, rfl, h, ok, k⟩
theorem ok_Engine_standing (W : Wd w K mg base) : FnOk P w K mg base CX0 8 (He.fAd K ("Engine", some "standing")) (fdO K (He.fAd K ("Engine", some "standing"))) ["self"] (sp_Engine_standing K) := by
  refine (W.F 59).ok sc_Engine_standing ?_ (fun cdv A outer s H vs Q E hr h => ?_)
  · exact lenM fun ds R F h => by obtain ⟨e, s, t, rfl, hE, ok, hF⟩ := h; rfl
  have hu64 := hr.units
  have hu := Nat.lt_of_le_of_lt (Nat.add_le_add_left (show 1 ≤ 64 by decide) _) hu64
  refine ⟨_, PSs.nox (pss_cons (ps_expr (pe_meth0 (pv 0) (W.cls 101) (W.meth 113) (ok_Engine_check_up (K := K) W) (hr.mono (by decide)) (b_Engine_check_up W) .nil pass0))
    (pss_one (ps_ret (pe_call (ok_raw_standing (K := K) W) (hr.mono (by decide)) rfl (W.glo 7) (kp_raw_standing W) (b_raw_standing W) .nil pass0 (pa_cons (fldK (K := K) rfl (pv 0) rfl) (pa_cons (fldK (K := K) rfl (pv 0) rfl) (pa_cons (pe_callTy (tupK (K := K) rfl) rfl (W.free 60) (by decide +kernel) (pa_cons (pe_meth0 (pv 0) (W.cls 101) (W.meth 122) (ok_Engine_triples (K := K) W) (hr.mono (by decide)) (b_Engine_triples W) .nil pass0) pa_nil)) pa_nil))))))), entryM h ?_⟩
  clear h hu hu64 hr
  rintro ds R F ⟨e, s, t, rfl, hE, ok, hF⟩
  have cl_Engine : Cls K (He.ga K "Engine") := W.cls 101
  have na_Engine_kept_cells : NoAttr K (He.ga K "Engine") "kept_cells" := W.noat 103
  have na_Engine_kept_head : NoAttr K (He.ga K "Engine") "kept_head" := W.noat 110
  obtain ⟨E, ms, dd, hE0⟩ := id hE
  have h1 := hE0.e
  repeat walk_at "rc step"
  refine c_Engine_triples hE ok ?_
  repeat walk_at "rc step"
  refine ra_tupL .d ?_
  repeat walk_at "rc step"
  rw [hE0.v.c, hE0.v.h]
  exact c_raw_standing hF
end
end Rc
-- Q
set_option Elab.async false
set_option linter.all false
set_option maxRecDepth 100000
set_option maxHeartbeats 4000000
/-! RcQ: what the book's ways do to a book in a plain state. -/
namespace Rc
open PySem PySem.Spec PyProof.Rows L2 RcHead
variable [Tbl]
local macro_rules | `(tactic| walk_at "rc perm") => `(tactic| (refine Mu.of ?_; simp only [Mu.app, Mu.cons, Mu.nil, Mu.nil_add, Mu.add_nil, List.append_eq]; ac_rfl))
local macro_rules | `(tactic| walk_at "rc cells") => `(tactic| (simp only [List.flatMap_append, List.flatMap_cons, mcells, dcells, List.map_cons, List.map_nil, List.cons_append, List.nil_append]; walk_at "rc perm"))
theorem bcore_congr {bk : Addr} {B : Bk} {n : Nat} {home pool : Nat → Int} {bd : Nat → Option Int} {r1 r2 : Rg} (p : r1.Perm r2) : (bcore bk B n home pool bd r1).Perm (bcore bk B n home pool bd r2) := (((p.cons _).cons _).cons _).cons _
theorem BkAt.mk {bk : Addr} {s : Ps} {X : Rg} {B : Bk} {ds : List Dd} {jk : Rg} {home pool : Nat → Int} {bd : Nat → Option Int} {rest : Rg} (eh : home = s.home) (ep : pool = s.pool) (ed : bd = s.bd) (p : rest.Perm (((B.deedsA, RC.k (vK (ddK ds))) :: (ds.flatMap dcells ++ jk)) ++ X)) (v : BkV s B ds) (hj : NoRow jk) : BkAt bk s (bcore bk B s.n home pool bd rest) X := by
  subst eh ep ed
  exact ⟨B, ds, jk, bcore_congr p, v, hj⟩
theorem no_l {a : Addr} {l : List D} {jk : Rg} (h : NoRow jk) : NoRow ((a, .l l) :: jk) := fun c hc C r e => by
  rcases List.mem_cons.mp hc with rfl | z
  · cases e
  · exact h c z C r e
theorem no_k2 {a : Addr} {l : List (Key × D)} {jk : Rg} (h : NoRow jk) : NoRow ((a, .k l) :: jk) := fun c hc C r e => by
  rcases List.mem_cons.mp hc with rfl | z
  · cases e
  · exact h c z C r e
theorem no_app {A B : Rg} (h : NoRow A) (g : NoRow B) : NoRow (A ++ B) := fun c hc C r e => (List.mem_append.mp hc).elim (fun z => h c z C r e) fun z => g c z C r e
theorem no_dd {ds : List Dd} : NoRow (ds.flatMap dcells) := fun c hc C r e => by
  obtain ⟨d, _, hd⟩ := List.mem_flatMap.mp hc
  simp [dcells] at hd
  rcases hd with rfl | rfl <;> cases e
theorem no_bk {bk : Addr} {s : Ps} {B : Bk} {ds : List Dd} {jk : Rg} (h : NoRow jk) : NoRow (BkL bk s B ds jk) := by
  unfold BkL bcore
  exact no_k2 (no_l (no_l (no_l (no_k2 (no_app no_dd h)))))
section
variable {H0 : Hp} {R0 R X : Rg} {Ex : XK} {F : D → Rg → Prop} {bk : Addr} {s : Ps} {t : Nat}
theorem b_carry (h : BkAt bk s R X) (ok : PsOk s t) {d : Pd} {w : Wt} (hd : d ∈ s.dl) (hw : d.w = some w) (k : ∀ R', BkAt bk (carryS s d.no w) R' X → F (.v (.bl true)) R') : RS H0 R0 sp_l_carry Ex [.v (.ref bk), .v (.int d.no)] R F := by
  obtain ⟨B, ds, jk, p, v, hj⟩ := h
  obtain ⟨b, hb, rfl⟩ := v.mem hd
  obtain ⟨no, ends, da, wA, wr⟩ := b
  have e1 : ends = 1 := (v.one _ hb).1
  subst e1
  have ew : wr = [w] := by
    have h1 := (v.one _ hb).2
    match wr, hw, h1 with
    | [x], hw, _ =>
      have : some x = some w := hw
      rw [Option.some.inj this]
  subst ew
  have vsrt := v.srt ok
  obtain ⟨m1, m2, rfl⟩ := List.append_of_mem hb
  have hno := split_no (g := fun b : Dd => b.no) vsrt
  have q : (((B.deedsA, RC.k (vK (ddK (m1 ++ ⟨no, 1, da, wA, [w]⟩ :: m2)))) :: ((m1 ++ ⟨no, 1, da, wA, [w]⟩ :: m2).flatMap dcells ++ jk)) ++ X).Perm ((da, .k (ddFs ⟨no, 1, da, wA, [w]⟩)) :: ((B.deedsA, RC.k (vK (ddK (m1 ++ ⟨no, 1, da, wA, [w]⟩ :: m2)))) :: (wA, .l [wtD w]) :: ((m1 ++ m2).flatMap dcells ++ jk ++ X))) := by
    walk_at "rc cells"
  have p1 := p.trans (bcore_congr q)
  refine rs_M p1 ⟨bk, B, s.n, s.home, s.pool, s.bd, _, _, no, 1, da, wA, w, rfl, rfl, ⟨List.mem_cons_self, DsIn.of v ok (List.mem_cons_of_mem _ List.mem_cons_self) fun d hd c hc => q.mem_iff.mp (mem_q2 _ (List.mem_append_left _ (List.mem_flatMap.mpr ⟨d, hd, hc⟩))), hb, List.mem_cons_of_mem _ List.mem_cons_self, ok.n60, ok.out⟩, fun fo => ?_⟩
  refine k _ (BkAt.mk (s := carryS s no w) (B := { B with head := B.head + w.undo }) (ds := m1 ++ ⟨no, 1, da, fo, [{ w with place := B.head }]⟩ :: m2) (jk := (wA, .l [wtD w]) :: jk) ?_ rfl ?_ ?_ ⟨v.c, ?_, v.nx, ?_, ?_⟩ (no_l hj))
  · rw [v.c, v.h]; rfl
  · rw [v.c, v.h]; rfl
  · have em : ddK (m1 ++ ⟨no, 1, da, fo, [{ w with place := B.head }]⟩ :: m2) = ddK (m1 ++ ⟨no, 1, da, wA, [w]⟩ :: m2) := by
      unfold ddK
      simp
    rw [em]
    walk_at "rc cells"
  · show B.head + w.undo = s.head + w.undo
    rw [v.h]
  · show _ = setW s.dl no _
    rw [← v.dl]
    refine setW_split (f := ddP) (b := ⟨no, 1, da, wA, [w]⟩) (fun a ha => hno a ha) ?_
    show _ = Pd.mk no _
    unfold ddP
    simp [v.h]
  · intro x hx
    rcases List.mem_append.mp hx with z | z
    · exact v.one x (List.mem_append_left _ z)
    · rcases List.mem_cons.mp z with z | z
      · rw [z]; exact ⟨rfl, Nat.le_refl _⟩
      · exact v.one x (List.mem_append_right _ (List.mem_cons_of_mem _ z))
theorem b_put (h : BkAt bk s R X) (ok : PsOk s t) {c : Int} (k : ∀ R', BkAt bk (rowS s c) R' X → F (.v (.bl true)) R') : RS H0 R0 sp_l_put Ex [.v (.ref bk), .v (.int c)] R F := by
  obtain ⟨B, ds, jk, p, v, hj⟩ := h
  have p1 : R.Perm (bcore bk B s.n s.home s.pool s.bd (((B.deedsA, RC.k (vK (ddK ds))) :: (ds.flatMap dcells ++ jk)) ++ X)) := p
  refine rs_M p1 ⟨bk, B, s.n, s.home, s.pool, s.bd, _, ds, c, rfl, rfl, ⟨List.mem_cons_self, DsIn.of v ok List.mem_cons_self fun d hd c hc => mem_q2 _ (List.mem_append_left _ (List.mem_flatMap.mpr ⟨d, hd, hc⟩)), ok.n60, ok.out⟩, ?_⟩
  refine k _ (BkAt.mk (s := rowS s c) (B := { B with head := B.head + c }) (ds := ds) (jk := jk) ?_ rfl ?_ (List.Perm.refl _) ⟨v.c, ?_, v.nx, v.dl, v.one⟩ hj)
  · rw [v.c, v.h]; rfl
  · rw [v.c, v.h]; rfl
  · show B.head + c = s.head + c
    rw [v.h]
theorem b_set (h : BkAt bk s R X) {p : Nat} {x pl : Int} (hp : p < s.n) (k : ∀ R', BkAt bk { s with pool := plP true p x s.pool, bd := plD true p pl s.bd } R' X → F (.v .non) R') : RS H0 R0 sp_l_set Ex [.v (.ref bk), .v (.int p), .v (.int x), .v (.int pl)] R F := by
  obtain ⟨B, ds, jk, q, v, hj⟩ := h
  have p1 : R.Perm (bcore bk B s.n s.home s.pool s.bd (((B.deedsA, RC.k (vK (ddK ds))) :: (ds.flatMap dcells ++ jk)) ++ X)) := q
  refine rs_M p1 ⟨bk, B, s.n, s.home, s.pool, s.bd, _, p, x, pl, rfl, rfl, hp, ?_⟩
  exact k _ (BkAt.mk (s := { s with pool := plP true p x s.pool, bd := plD true p pl s.bd }) (B := B) (ds := ds) (jk := jk) rfl rfl rfl (List.Perm.refl _) ⟨v.c, v.h, v.nx, v.dl, v.one⟩ hj)
/-- the writes of a deed are undone, none of them left -/
def backS (s : Ps) (no : Int) (w : Wt) : Ps := { undoS s no w with dl := setW s.dl no none }
theorem b_undo (h : BkAt bk s R X) (ok : PsOk s t) {d : Pd} (hd : d ∈ s.dl) {m : Int} (em : m = if d.w.isSome then 1 else 0) (k0 : d.w = none → ∀ R', BkAt bk s R' X → F (.v (.bl true)) R') (k1 : ∀ w, d.w = some w → ∀ R', BkAt bk (backS s d.no w) R' X → F (.v (.bl true)) R') : RS H0 R0 sp_l_undo Ex [.v (.ref bk), .v (.int d.no), .v (.int m)] R F := by
  obtain ⟨B, ds, jk, p, v, hj⟩ := h
  have hwp := ok.w d hd
  have hno0 := (ok.no d hd).1
  obtain ⟨b, hb, rfl⟩ := v.mem hd
  obtain ⟨no, ends, da, wA, wr⟩ := b
  have e1 : ends = 1 := (v.one _ hb).1
  subst e1
  have l1 := (v.one _ hb).2
  have vsrt := v.srt ok
  obtain ⟨m1, m2, rfl⟩ := List.append_of_mem hb
  have hno := split_no (g := fun b : Dd => b.no) vsrt
  have q : (((B.deedsA, RC.k (vK (ddK (m1 ++ ⟨no, 1, da, wA, wr⟩ :: m2)))) :: ((m1 ++ ⟨no, 1, da, wA, wr⟩ :: m2).flatMap dcells ++ jk)) ++ X).Perm ((wA, .l (wr.map wtD)) :: ((B.deedsA, RC.k (vK (ddK (m1 ++ ⟨no, 1, da, wA, wr⟩ :: m2)))) :: (da, .k (ddFs ⟨no, 1, da, wA, wr⟩)) :: ((m1 ++ m2).flatMap dcells ++ jk ++ X))) := by
    walk_at "rc cells"
  have p1 := p.trans (bcore_congr q)
  have el : m = (wr.length : Int) := by
    rw [em]
    match wr, l1 with
    | [], _ => rfl
    | [x], _ => rfl
  subst el
  refine rs_M p1 ⟨bk, B, s.n, s.home, s.pool, s.bd, _, _, ⟨no, 1, da, wA, wr⟩, rfl, rfl, ⟨List.mem_cons_self, DsIn.of v ok (List.mem_cons_of_mem _ List.mem_cons_self) fun d hd c hc => q.mem_iff.mp (mem_q2 _ (List.mem_append_left _ (List.mem_flatMap.mpr ⟨d, hd, hc⟩))), hb, List.mem_cons_of_mem _ List.mem_cons_self, ok.n60, ok.out⟩, ?_⟩
  match wr, l1 with
  | [], _ => exact .inl ⟨rfl, k0 rfl _ ⟨B, _, jk, (bcore_congr q).symm, v, hj⟩⟩
  | [w], _ =>
    obtain ⟨hpg, hpn, _⟩ := hwp w rfl
    have hnn : (ddP ⟨no, 1, da, wA, [w]⟩).no = no := rfl
    refine .inr ⟨w, w.page.toNat, rfl, by omega, by omega, ?_⟩
    refine k1 w rfl _ (BkAt.mk (s := backS s no w) (B := { B with head := B.head + w.undo }) (ds := m1 ++ ⟨no, 1, da, wA, []⟩ :: m2) (jk := jk) ?_ rfl ?_ ?_ ⟨v.c, ?_, v.nx, ?_, ?_⟩ hj)
    · rw [v.c, v.h]; rfl
    · rw [v.c, v.h]; rfl
    · have em : ddK (m1 ++ ⟨no, 1, da, wA, []⟩ :: m2) = ddK (m1 ++ ⟨no, 1, da, wA, [w]⟩ :: m2) := by
        unfold ddK
        simp
      rw [em]
      have e3 : ddFs ⟨no, 1, da, wA, []⟩ = ddFs ⟨no, 1, da, wA, [w]⟩ := rfl
      simp only [List.flatMap_append, List.flatMap_cons, dcells, List.map_nil, List.cons_append, List.nil_append]
      rw [e3]
      walk_at "rc perm"
    · show B.head + w.undo = s.head + w.undo
      rw [v.h]
    · show _ = setW s.dl no _
      rw [← v.dl]
      refine setW_split (f := ddP) (b := ⟨no, 1, da, wA, [w]⟩) (fun a ha => hno a ha) ?_
      rfl
    · intro x hx
      rcases List.mem_append.mp hx with z | z
      · exact v.one x (List.mem_append_left _ z)
      · rcases List.mem_cons.mp z with z | z
        · rw [z]; exact ⟨rfl, Nat.zero_le _⟩
        · exact v.one x (List.mem_append_right _ (List.mem_cons_of_mem _ z))
end
end Rc
-- Q2
set_option Elab.async false
set_option linter.all false
set_option maxRecDepth 100000
set_option maxHeartbeats 4000000
namespace Rc
open PySem PySem.Spec PyProof.Rows L2 RcHead
variable [Tbl]
local macro_rules | `(tactic| walk_at "rc perm") => `(tactic| (refine Mu.of ?_; simp only [Mu.app, Mu.cons, Mu.nil, Mu.nil_add, Mu.add_nil, List.append_eq]; ac_rfl))
local macro_rules | `(tactic| walk_at "rc cells") => `(tactic| (simp only [List.flatMap_append, List.flatMap_cons, mcells, dcells, List.map_cons, List.map_nil, List.cons_append, List.nil_append]; walk_at "rc perm"))
abbrev toldD (x : V) : D := .t [.v (.str "told"), .v x]
abbrev fullD (l : D) : D := .t [.v (.str "full"), l]
abbrev lotT (k : Nat) (L : List (Int × Int × Int)) : D := .t (((srt L).take k).map fun t => .v (.int t.2.2))
theorem lot_T (k : Nat) (L : List (Int × Int × Int)) : lotD k L = lotT k L := rfl
theorem heavy_0 {k : Nat} {zs : List (Int × Int × Int)} (h : k = 0) : heavyD k zs = .v .non := if_pos h
theorem heavy_n {k : Nat} {L : List (Int × Int × Int)} (h : ¬ k = 0) : heavyD k (srt L) = lotT k L := if_neg h
theorem dr_dd {ds : List Dd} {no : Int} : drK (vK (ddK ds)) (.inl no) = vK (ddK (ds.filter fun b => decide (b.no ≠ no))) := by
  induction ds with
  | nil => rfl
  | cons c r ih =>
    unfold drK vK ddK at ih ⊢
    rw [List.map_cons, List.map_cons, List.filter_cons, List.filter_cons, ih]
    by_cases e : c.no = no
    · simp [e]
    · simp [e]
theorem filter_splitD {m1 m2 : List Dd} {b : Dd} (h : ∀ a, a ∈ m1 ∨ a ∈ m2 → a.no ≠ b.no) : (m1 ++ b :: m2).filter (fun c => decide (c.no ≠ b.no)) = m1 ++ m2 := by
  rw [List.filter_append, List.filter_cons_of_neg (by simp), ← List.filter_append]
  exact List.filter_eq_self.mpr fun a ha => by simpa using h a (List.mem_append.mp ha)
section
variable {H0 : Hp} {R0 R X : Rg} {Ex : XK} {F : D → Rg → Prop} {bk : Addr} {s : Ps} {t : Nat} {g : Ev} {E : Es}
theorem em_popD (h : BkAt bk s R X) (ok : s.dl.Pairwise fun a b => a.no < b.no) {d : Pd} (hd : d ∈ s.dl) (l1 : g[0]? = some (some (.v (.ref bk)))) (l2 : g[1]? = some (some (.v (.int d.no)))) (k : ∀ R' x, BkAt bk (dropS s d.no) R' X → F x R') :
    EM H0 R0 (tDPop1 (tDGet (tVar 0) (tC (.str "deeds"))) (tVar 1)) g R F := by
  obtain ⟨B, ds, jk, p, v, hj⟩ := h
  have vsrt : ds.Pairwise fun a b => a.no < b.no := by
    have := ok
    rw [← v.dl, List.pairwise_map] at this
    exact this
  obtain ⟨b, hb, rfl⟩ := v.mem hd
  have p1 : R.Perm (bcore bk B s.n s.home s.pool s.bd ((B.deedsA, RC.k (vK (ddK ds))) :: (ds.flatMap dcells ++ jk ++ X))) := p
  refine em_perm p1 (em_dpop1 (em_dget (em_var l1 (em_c ⟨bk, bkFs B, .inr "deeds", _, rfl, .k (by unfold bcore; simp), rfl, rfl, ⟨B.deedsA, vK (ddK ds), 4, rfl, rfl, em_var l2 ⟨rfl, .inl b.no, _, rfl, lk_dd hb vsrt, ?_⟩⟩⟩))))
  rw [dr_dd]
  refine k _ _ ?_
  obtain ⟨m1, m2, rfl⟩ := List.append_of_mem hb
  have hno := split_no (g := fun b : Dd => b.no) vsrt
  rw [filter_splitD hno]
  refine BkAt.mk (s := dropS s (ddP b).no) (B := B) (ds := m1 ++ m2) (jk := dcells b ++ jk) rfl rfl rfl ?_ ⟨v.c, v.h, v.nx, ?_, fun x hx => v.one x ?_⟩ (no_app (fun c hc C r e => ?_) hj)
  · rw [List.set_cons_zero]
    walk_at "rc cells"
  · show _ = delW s.dl _
    rw [← v.dl]
    exact delW_split (f := ddP) hno
  · rcases List.mem_append.mp hx with z | z
    · exact List.mem_append_left _ z
    · exact List.mem_append_right _ (List.mem_cons_of_mem _ z)
  · simp [dcells] at hc
    rcases hc with rfl | rfl <;> cases e
theorem f_fullOwn (h : BkF bk s R) (ok : PsOk s t) {d : Pd} {w : Wt} (hd : d ∈ s.dl) (hw : d.w = some w) {c : Int} {d1 d2 : D} (e1 : d1 = .v (.int w.place)) (e2 : d2 = .v (.int w.undo)) (k0 : hvk s c (trs s.dl) = 0 → F (.v .non) R) (k1 : hvk s c (trs s.dl) ≠ 0 → F (lotT (hvk s c (trs s.dl)) (trs s.dl)) R) :
    RS H0 R0 sp_l_full Ex [.v (.ref bk), .v (.int d.no), .v (.int c), d1, d2] R F := by
  refine f_full h ok (mine := some (w.place, w.undo)) e1 e2 (fun m hm => ?_) (trs_del ok.srt hd hw).symm ok.nd ?_
  · cases hm
    have := ok.bdw hd hw
    intro x hx
    refine this x ?_
    simp at hx ⊢
    rcases hx with h | h | h
    · exact .inl h
    · exact .inr (.inr h)
    · exact .inr (.inl h)
  · show F (heavyD (hvk s c (trs s.dl)) (srt (trs s.dl))) R
    by_cases z : hvk s c (trs s.dl) = 0
    · rw [heavy_0 z]; exact k0 z
    · rw [heavy_n z]; exact k1 z
theorem f_fullCut (h : BkF bk s R) (ok : PsOk s t) {no c : Int} (k0 : hvk s c (trs (delW s.dl no)) = 0 → F (.v .non) R) (k1 : hvk s c (trs (delW s.dl no)) ≠ 0 → F (lotT (hvk s c (trs (delW s.dl no))) (trs (delW s.dl no))) R) :
    RS H0 R0 sp_l_full Ex [.v (.ref bk), .v (.int no), .v (.int c), .v .non, .v .non] R F := by
  refine f_full h ok (mine := none) (L := trs (delW s.dl no)) rfl rfl (fun m hm => by cases hm) ?_ (trs_sub ok.nd) ?_
  · show (trs (delW s.dl no)).Perm (trs (delW s.dl no) ++ [])
    rw [List.append_nil]
  · show F (heavyD (hvk s c (trs (delW s.dl no))) (srt (trs (delW s.dl no)))) R
    by_cases z : hvk s c (trs (delW s.dl no)) = 0
    · rw [heavy_0 z]; exact k0 z
    · rw [heavy_n z]; exact k1 z
/-- the triples behind a first write -/
def newL (s : Ps) (no u : Int) : List (Int × Int × Int) := trs (delW s.dl no) ++ [(s.head, u, no)]
theorem newL_nd (ok : PsOk s t) (no u : Int) : ((newL s no u).map (·.1)).Nodup := by
  unfold newL
  rw [List.map_append]
  refine List.nodup_append.mpr ⟨trs_sub ok.nd, by simp, fun a ha b hb => ?_⟩
  have eb : b = s.head := by simpa using hb
  obtain ⟨x, hx, rfl⟩ := List.mem_map.mp ha
  obtain ⟨d, hd, w, hw, rfl⟩ := trs_mem hx
  have := ok.w d (List.mem_filter.mp hd).1 w hw
  show w.place ≠ b
  omega
theorem f_fullNew (h : BkF bk s R) (ok : PsOk s t) {no c u : Int} (hno : 0 ≤ no ∧ no ≤ 1000) (hu : 1 ≤ u ∧ u ≤ 1000) (k0 : hvk s c (newL s no u) = 0 → F (.v .non) R) (k1 : hvk s c (newL s no u) ≠ 0 → F (lotT (hvk s c (newL s no u)) (newL s no u)) R) :
    RS H0 R0 sp_l_full Ex [.v (.ref bk), .v (.int no), .v (.int c), .v (.int s.head), .v (.int u)] R F := by
  refine f_full h ok (mine := some (s.head, u)) (L := newL s no u) rfl rfl (fun m hm => ?_) (List.Perm.refl _) (newL_nd ok no u) ?_
  · cases hm
    have b := ok.hb
    have b2 := ok.h0
    intro x hx
    simp at hx
    rcases hx with rfl | rfl | rfl <;> constructor <;> omega
  · show F (heavyD (hvk s c (newL s no u)) (srt (newL s no u))) R
    by_cases z : hvk s c (newL s no u) = 0
    · rw [heavy_0 z]; exact k0 z
    · rw [heavy_n z]; exact k1 z
/-- where a deed's parts stand -/
theorem f_deed (h : BkF bk s R) {d : Pd} (hd : d ∈ s.dl) : ∃ B ds d', BkF0 bk s R B ds ∧ d' ∈ ds ∧ ddP d' = d ∧ d'.ends = 1 ∧ d'.wr.length ≤ 1 ∧ lkK (vK (ddK ds)) (.inl d'.no) = some (.v (.ref d'.a)) ∧ DdIn d' R := by
  obtain ⟨B, ds, h⟩ := h
  obtain ⟨d', hd', e⟩ := h.v.mem hd
  exact ⟨B, ds, d', h, hd', e, (h.v.one _ hd').1, (h.v.one _ hd').2, lk_dd hd' h.d.srt, h.d.d _ hd'⟩
end
end Rc
-- G22
set_option Elab.async false
set_option linter.all false
set_option maxRecDepth 100000
set_option maxHeartbeats 4000000
namespace Rc
open PySem PySem.Spec PyProof.Rows L2 RcHead
local macro_rules | `(tactic| walk_at "rc mem") => `(tactic| first | assumption | exact List.mem_cons_self | ((with_reducible (refine List.mem_cons_of_mem _ ?_)); walk_at "rc mem"))
local macro_rules | `(tactic| walk_at "rc end") => `(tactic| fail)
local macro_rules | `(tactic| walk_at "rc lst") => `(tactic| with_reducible refine em_lst ?_)
local macro_rules | `(tactic| walk_at "rc call") => `(tactic| fail)
local macro_rules | `(tactic| walk_at "rc step") => `(tactic| first
  | ((with_reducible (apply em_var)); rfl)
  | with_reducible refine em_c ?_
  | with_reducible refine em_op ?_
  | with_reducible refine ro_I0 ?_
  | ((with_reducible (refine ro_eq ?_ ?_)); rfl)
  | ((with_reducible (refine ro_ne ?_ ?_)); rfl)
  | with_reducible refine ro_isN ?_
  | with_reducible refine ro_notN ?_
  | with_reducible refine ea_nil ?_
  | with_reducible refine ea_cons ?_
  | with_reducible refine em_call ?_
  | walk_at "rc call"
  | (with_reducible refine em_fld ?_)
  | (refine ⟨_, _, _, _, rfl, (by walk_at "rc mem"), (by assumption), (by assumption), (by rfl), ?_⟩)
  | with_reducible refine ra_listV ?_
  | with_reducible refine em_cb ?_
  | with_reducible refine em_tup ?_
  | walk_at "rc lst"
  | with_reducible refine em_if ?_
  | with_reducible refine em_andV ?_
  | with_reducible refine em_orV ?_
  | with_reducible refine em_notV ?_
  | with_reducible refine em_chain ?_
  | with_reducible refine et_test ?_
  | with_reducible refine et_B ?_
  | with_reducible refine et_and ?_
  | with_reducible refine et_or ?_
  | with_reducible refine et_not ?_
  | with_reducible refine et_yes ?_
  | with_reducible refine sx_seq ?_
  | with_reducible refine sx_next ?_
  | with_reducible refine sx_asg ?_
  | with_reducible refine sx_ret ?_
  | with_reducible refine sx_append ?_
  | with_reducible refine sx_drop ?_
  | with_reducible refine sx_if ?_
  | (refine ⟨_, rfl, ?_⟩)
  | (refine ⟨fun _ => ?_, fun z => Bool.noConfusion z⟩)
  | (refine ⟨fun z => Bool.noConfusion z, fun _ => ?_⟩)
  | with_reducible refine em_make ?_
  | with_reducible refine em_meth ?_
  | (refine ⟨_, _, rfl, (by walk_at "rc mem"), rfl, ?_⟩)
  | with_reducible refine em_neg ?_
  | with_reducible refine sx_fld ?_
  | (refine ⟨_, _, _, 0, rfl, rfl, (by assumption), (by assumption), (of_decide_eq_true rfl), ?_⟩)
  | ((with_reducible (apply ra_len)); (first | exact .l .d | exact .t | exact .l (.c (by walk_at "rc mem"))))
  | ((with_reducible (apply ra_lenK)); (walk_at "rc mem"))
  | ((with_reducible (apply ro_ixL)); (first | exact .d | exact .c (by walk_at "rc mem")); (first | rfl | exact atI_0))
  | ((with_reducible (apply ro_ixT)); rfl)
  | (with_reducible (refine gx_name ?_ (by decide)))
  | ((with_reducible (apply gx_tupR)); rfl)
  | with_reducible refine gxs_cons ?_
  | with_reducible refine gxs_nil ?_
  | (exact ⟨rfl, rfl⟩)
  | (refine ⟨rfl, ?_⟩)
  | with_reducible refine em_dget ?_
  | with_reducible refine sx_lockAsg ?_
  | with_reducible refine em_din ?_
  | with_reducible refine em_dnotIn ?_
  | ((with_reducible (apply sx_aug)); rfl)
  | with_reducible refine sx_setL ?_
  | with_reducible refine sx_dput ?_
  | with_reducible refine gx_fld ?_
  | (with_reducible (apply sx_fldAug))
  | ((with_reducible (apply sx_rz)); assumption)
  | (refine ⟨(by simp only [List.length_cons, List.length_nil]; omega), ?_⟩))
local macro_rules | `(tactic| walk_at "rc perm") => `(tactic| (refine Mu.of ?_; simp only [Mu.app, Mu.cons, Mu.nil, Mu.nil_add, Mu.add_nil, List.append_eq]; ac_rfl))
section
variable [Tbl] {P : Program} {w : World} {K : PySem.W.Frag} {mg : Str → Option Value} {base : Heap}
local macro_rules | `(tactic| walk_at "rc call") => `(tactic| fail)
theorem setW_srt {l : List Pd} {no : Int} {x : Option Wt} (h : l.Pairwise fun a b => a.no < b.no) : (setW l no x).Pairwise fun a b => a.no < b.no := by
  unfold setW
  rw [List.pairwise_map]
  refine h.imp fun {a b} z => ?_
  have e : ∀ d : Pd, (if d.no = no then (⟨no, x⟩ : Pd) else d).no = d.no := fun d => by
    by_cases c : d.no = no
    · rw [if_pos c]; exact c.symm
    · rw [if_neg c]
  rw [e, e]
  exact z
theorem setW_in {l : List Pd} {d : Pd} {x : Option Wt} (h : d ∈ l) : (⟨d.no, x⟩ : Pd) ∈ setW l d.no x := List.mem_map.mpr ⟨d, h, if_pos rfl⟩
theorem del_set {l : List Pd} {no : Int} {x : Option Wt} : delW (setW l no x) no = delW l no := by
  unfold delW setW
  induction l with
  | nil => rfl
  | cons d l ih =>
    rw [List.map_cons, List.filter_cons, List.filter_cons, ih]
    by_cases c : d.no = no
    · rw [if_pos c]
      simp [c]
    · rw [if_neg c]
theorem sc_l_do_carry : FnScope ["_law_book_here", "_law_deed", "_law_need_here", "_law_lot"] ["_law_book_here", "_law_deed"] (defScope (top 75)) := ⟨rfl, rfl, rfl, by decide +kernel, rfl, by decide +kernel, by decide +kernel⟩
theorem kp_l_do_carry (W : Wd w K mg base) : PySem.W.keepIn K (.ref (He.fAd K ("_law_do_carry", none))) = true := W.kp 34
theorem b_l_do_carry (W : Wd w K mg base) : Binds K (fdO K (He.fAd K ("_law_do_carry", none))) ["_law_book_here", "_law_deed"] [] := (W.F 34).bindsN fun _ _ _ _ _ _ us hl => match us, hl with | [_, _], _ => rfl
def gm_l_do_carry [Tbl] : Gm := fun ds R F => ∃ (bk : Addr) (s : Ps) (t : Nat) (d : Pd) (w : Wt) (X : Rg), ds = [.v (.ref bk), .v (.int d.no)] ∧ BkAt bk s R X ∧ PsOk s t ∧ d ∈ s.dl ∧ d.w = some w ∧
  (hvk s w.undo (trs s.dl) = 0 → ∀ R', BkAt bk (carryS s d.no w) R' X → F (toldD .non) R') ∧ (hvk s w.undo (trs s.dl) ≠ 0 → F (fullD (lotT (hvk s w.undo (trs s.dl)) (trs s.dl))) R)
abbrev sp_l_do_carry [Tbl] : Sp := spM (gm_l_do_carry)
theorem c_l_do_carry [Tbl] {H0 : Hp} {R0 R X : Rg} {Ex : XK} {F : D → Rg → Prop} {bk : Addr} {s : Ps} {t : Nat} {d : Pd} {w : Wt} (h1 : BkAt bk s R X) (h2 : PsOk s t) (h3 : d ∈ s.dl) (h4 : d.w = some w) (k1 : hvk s w.undo (trs s.dl) = 0 → ∀ R', BkAt bk (carryS s d.no w) R' X → F (toldD .non) R') (k2 : hvk s w.undo (trs s.dl) ≠ 0 → F (fullD (lotT (hvk s w.undo (trs s.dl)) (trs s.dl))) R) : RS H0 R0 sp_l_do_carry Ex [.v (.ref bk), .v (.int d.no)] R F := rs_m ⟨bk, s, t, d, w, X, rfl, h1, h2, h3, h4, k1, k2⟩
theorem ok_l_do_carry (W : Wd w K mg base) : FnOk P w K mg base CX0 7 (He.fAd K ("_law_do_carry", none)) (fdO K (He.fAd K ("_law_do_carry", none))) ["_law_book_here", "_law_deed"] (sp_l_do_carry) := by
  refine (W.F 34).ok sc_l_do_carry ?_ (fun cdv A outer s H vs Q E hr h => ?_)
  · exact lenM fun ds R F h => by obtain ⟨bk, s, t, d, w, X, rfl, hB, ok, hd, hw, hF1, hF2⟩ := h; rfl
  have hu64 := hr.units
  have hu := Nat.lt_of_le_of_lt (Nat.add_le_add_left (show 1 ≤ 64 by decide) _) hu64
  refine ⟨_, PSs.nox (pss_cons (ps_set (i := 2) sc_l_do_carry.nd rfl (.inl rfl) (pe_call (ok_l_need (K := K) W) (hr.mono (by decide)) rfl (W.glo 18) (kp_l_need W) (b_l_need W) .nil pass0 (pa_cons (pv 0) (pa_cons (pv 1) pa_nil))))
    (pss_cons (ps_set (i := 3) sc_l_do_carry.nd rfl (.inl rfl) (pe_call (ok_l_full (K := K) W) (hr.mono (by decide)) rfl (W.glo 22) (kp_l_full W) (b_l_full W) .nil pass0 (pa_cons (pv 0) (pa_cons (pv 1) (pa_cons (pv 2) (pa_cons (pe_call (ok_l_first (K := K) W) (hr.mono (by decide)) rfl (W.glo 17) (kp_l_first W) (b_l_first W) .nil pass0 (pa_cons (pv 0) (pa_cons (pv 1) pa_nil))) (pa_cons (pv 2) pa_nil)))))))
    (pss_cons (ps_if (pt_cmpR op_notN (pv 3) pe_non (nomark _))
    (pss_one (ps_ret (pe_tup (pa_cons pe_str (pa_cons (pv 3) pa_nil)))))
    pss_nil)
    (pss_one (ps_ret (pe_ifExp (pt_val (pe_call (ok_l_carry (K := K) W) (hr.mono (by decide)) rfl (W.glo 28) (kp_l_carry W) (b_l_carry W) .nil pass0 (pa_cons (pv 0) (pa_cons (pv 1) pa_nil)))) (pe_tup (pa_cons pe_str (pa_cons pe_non pa_nil))) (pe_tup (pa_cons pe_str pa_nil)))))))), entryM h ?_⟩
  clear h hu hu64 hr
  rintro ds R F ⟨bk, s, t, d, w, X, rfl, hB, ok, hd, hw, hF1, hF2⟩
  have hf := hB.f ok
  have eu : undP d = w.undo := by unfold undP; rw [hw]
  repeat walk_at "rc step"
  refine f_need hf hd ?_
  rw [eu]
  repeat walk_at "rc step"
  refine f_first hf hd ?_
  rw [hw]
  repeat walk_at "rc step"
  refine f_fullOwn hf ok hd hw rfl rfl (fun h0 => ?_) (fun h0 => ?_)
  · repeat walk_at "rc step"
    refine b_carry hB ok hd hw fun R' h' => ?_
    repeat walk_at "rc step"
    exact hF1 h0 R' h'
  · repeat walk_at "rc step"
    exact hF2 h0
theorem sc_l_do_end : FnScope ["_law_book_here", "_law_deed", "_law_cells", "_law_lot"] ["_law_book_here", "_law_deed"] (defScope (top 73)) := ⟨rfl, rfl, rfl, by decide +kernel, rfl, by decide +kernel, by decide +kernel⟩
theorem kp_l_do_end (W : Wd w K mg base) : PySem.W.keepIn K (.ref (He.fAd K ("_law_do_end", none))) = true := W.kp 32
theorem b_l_do_end (W : Wd w K mg base) : Binds K (fdO K (He.fAd K ("_law_do_end", none))) ["_law_book_here", "_law_deed"] [] := (W.F 32).bindsN fun _ _ _ _ _ _ us hl => match us, hl with | [_, _], _ => rfl
def gm_l_do_end [Tbl] : Gm := fun ds R F => ∃ (bk : Addr) (s : Ps) (t : Nat) (d : Pd) (X : Rg), ds = [.v (.ref bk), .v (.int d.no)] ∧ BkAt bk s R X ∧ PsOk s t ∧ d ∈ s.dl ∧
  (d.w = none → ∀ R', BkAt bk (dropS s d.no) R' X → F (toldD .non) R') ∧ (d.w ≠ none → hvk s 1 (trs s.dl) = 0 → ∀ R', BkAt bk (endS s d.no) R' X → F (toldD .non) R') ∧ (d.w ≠ none → hvk s 1 (trs s.dl) ≠ 0 → F (fullD (lotT (hvk s 1 (trs s.dl)) (trs s.dl))) R)
abbrev sp_l_do_end [Tbl] : Sp := spM (gm_l_do_end)
theorem c_l_do_end [Tbl] {H0 : Hp} {R0 R X : Rg} {Ex : XK} {F : D → Rg → Prop} {bk : Addr} {s : Ps} {t : Nat} {d : Pd} (h1 : BkAt bk s R X) (h2 : PsOk s t) (h3 : d ∈ s.dl) (k0 : d.w = none → ∀ R', BkAt bk (dropS s d.no) R' X → F (toldD .non) R') (k1 : d.w ≠ none → hvk s 1 (trs s.dl) = 0 → ∀ R', BkAt bk (endS s d.no) R' X → F (toldD .non) R') (k2 : d.w ≠ none → hvk s 1 (trs s.dl) ≠ 0 → F (fullD (lotT (hvk s 1 (trs s.dl)) (trs s.dl))) R) : RS H0 R0 sp_l_do_end Ex [.v (.ref bk), .v (.int d.no)] R F := rs_m ⟨bk, s, t, d, X, rfl, h1, h2, h3, k0, k1, k2⟩
theorem ok_l_do_end (W : Wd w K mg base) : FnOk P w K mg base CX0 7 (He.fAd K ("_law_do_end", none)) (fdO K (He.fAd K ("_law_do_end", none))) ["_law_book_here", "_law_deed"] (sp_l_do_end) := by
  refine (W.F 32).ok sc_l_do_end ?_ (fun cdv A outer s H vs Q E hr h => ?_)
  · exact lenM fun ds R F h => by obtain ⟨bk, s, t, d, X, rfl, hB, ok, hd, hF0, hF1, hF2⟩ := h; rfl
  have hu64 := hr.units
  have hu := Nat.lt_of_le_of_lt (Nat.add_le_add_left (show 1 ≤ 64 by decide) _) hu64
  refine ⟨_, PSs.nox (pss_cons (ps_if (pt_cmpR op_gt (pe_callB (lenK (K := K) rfl) rfl (W.free 49) (by decide +kernel) (pa_cons (pe_dget hu (pe_dget hu (pe_dget hu (pv 0) pe_str (fun _ _ => rfl)) (pv 1) (fun _ _ => rfl)) pe_str (fun _ _ => rfl)) pa_nil)) pe_int (nomark _))
    (pss_cons (ps_set (i := 2) sc_l_do_end.nd rfl (.inl rfl) (pe_dget hu (pe_dget hu (pe_dget hu (pv 0) pe_str (fun _ _ => rfl)) (pv 1) (fun _ _ => rfl)) pe_str (fun _ _ => rfl)))
    (pss_cons (ps_set (i := 3) sc_l_do_end.nd rfl (.inl rfl) (pe_call (ok_l_full (K := K) W) (hr.mono (by decide)) rfl (W.glo 22) (kp_l_full W) (b_l_full W) .nil pass0 (pa_cons (pv 0) (pa_cons (pv 1) (pa_cons (pv 2) (pa_cons (pe_call (ok_l_first (K := K) W) (hr.mono (by decide)) rfl (W.glo 17) (kp_l_first W) (b_l_first W) .nil pass0 (pa_cons (pv 0) (pa_cons (pv 1) pa_nil))) (pa_cons (pe_call (ok_l_need (K := K) W) (hr.mono (by decide)) rfl (W.glo 18) (kp_l_need W) (b_l_need W) .nil pass0 (pa_cons (pv 0) (pa_cons (pv 1) pa_nil))) pa_nil)))))))
    (pss_cons (ps_if (pt_cmpR op_notN (pv 3) pe_non (nomark _))
    (pss_one (ps_ret (pe_tup (pa_cons pe_str (pa_cons (pv 3) pa_nil)))))
    pss_nil)
    (pss_one (ps_if (pt_not (pt_val (pe_call (ok_l_put (K := K) W) (hr.mono (by decide)) rfl (W.glo 24) (kp_l_put W) (b_l_put W) .nil pass0 (pa_cons (pv 0) (pa_cons (pv 2) pa_nil)))))
    pss_never
    pss_nil)))))
    pss_nil)
    (pss_cons (ps_expr (pe_dpop1 (pe_dget hu (pv 0) pe_str (fun _ _ => rfl)) (pv 1) ⟨rfl, rfl, rfl, rfl⟩))
    (pss_one (ps_ret (pe_tup (pa_cons pe_str (pa_cons pe_non pa_nil))))))), entryM h ?_⟩
  clear h hu hu64 hr
  rintro ds R F ⟨bk, s, t, d, X, rfl, hB, ok, hd, hF0, hF1, hF2⟩
  have hf := hB.f ok
  obtain ⟨B, dl, d', hf0, hd', ed, e1, hl, lk, hdd⟩ := f_deed hf hd
  have hdw := hdd.w
  subst ed
  refine sx_seq ?_
  repeat walk_at "rc step"
  refine ⟨_, _, .inr _, _, rfl, .k hf0.b, rfl, rfl, ?_⟩
  repeat walk_at "rc step"
  refine ⟨_, _, .inl _, _, rfl, .k hf0.k, rfl, lk, ?_⟩
  repeat walk_at "rc step"
  refine ⟨_, _, .inr _, _, rfl, .k hdd.c, rfl, rfl, ?_⟩
  repeat walk_at "rc step"
  rw [lenw_pos]
  cases cw : (ddP d').w with
  | none =>
    have ee : d'.wr.isEmpty = true := by
      obtain ⟨no, ends, a, wA, wr⟩ := d'
      cases wr with
      | nil => rfl
      | cons x l => cases cw
    rw [ee]
    repeat walk_at "rc step"
    refine em_popD hB ok.srt hd rfl rfl fun R' x h' => ?_
    repeat walk_at "rc step"
    exact hF0 cw R' h'
  | some w =>
    have ee : d'.wr.isEmpty = false := by
      obtain ⟨no, ends, a, wA, wr⟩ := d'
      cases wr with
      | nil => cases cw
      | cons x l => rfl
    have cw' : (ddP d').w ≠ none := by rw [cw]; exact fun z => by cases z
    have eu : undP (ddP d') = w.undo := by unfold undP; rw [cw]
    rw [ee]
    repeat walk_at "rc step"
    refine ⟨_, _, .inr _, _, rfl, .k hf0.b, rfl, rfl, ?_⟩
    repeat walk_at "rc step"
    refine ⟨_, _, .inl _, _, rfl, .k hf0.k, rfl, lk, ?_⟩
    repeat walk_at "rc step"
    refine ⟨_, _, .inr _, _, rfl, .k hdd.c, rfl, rfl, ?_⟩
    rw [e1]
    repeat walk_at "rc step"
    refine f_first hf hd ?_
    rw [cw]
    repeat walk_at "rc step"
    refine f_need hf hd ?_
    rw [eu]
    repeat walk_at "rc step"
    refine f_fullOwn hf ok hd cw rfl rfl (fun h0 => ?_) (fun h0 => ?_)
    · repeat walk_at "rc step"
      refine b_put hB ok fun R' h' => ?_
      repeat walk_at "rc step"
      refine em_popD h' ok.srt hd rfl rfl fun R' x h' => ?_
      repeat walk_at "rc step"
      exact hF1 cw' h0 R' h'
    · repeat walk_at "rc step"
      exact hF2 cw' h0
theorem sc_l_do_cut : FnScope ["_law_book_here", "_law_deed", "_law_lot"] ["_law_book_here", "_law_deed"] (defScope (top 74)) := ⟨rfl, rfl, rfl, by decide +kernel, rfl, by decide +kernel, by decide +kernel⟩
theorem kp_l_do_cut (W : Wd w K mg base) : PySem.W.keepIn K (.ref (He.fAd K ("_law_do_cut", none))) = true := W.kp 33
theorem b_l_do_cut (W : Wd w K mg base) : Binds K (fdO K (He.fAd K ("_law_do_cut", none))) ["_law_book_here", "_law_deed"] [] := (W.F 33).bindsN fun _ _ _ _ _ _ us hl => match us, hl with | [_, _], _ => rfl
def gm_l_do_cut [Tbl] : Gm := fun ds R F => ∃ (bk : Addr) (s : Ps) (t : Nat) (d : Pd) (X : Rg), ds = [.v (.ref bk), .v (.int d.no)] ∧ BkAt bk s R X ∧ PsOk s t ∧ d ∈ s.dl ∧
  (hvk s (undP d) (trs (delW s.dl d.no)) = 0 → d.w = none → ∀ R', BkAt bk (dropS s d.no) R' X → F (toldD .non) R') ∧ (hvk s (undP d) (trs (delW s.dl d.no)) = 0 → ∀ w, d.w = some w → ∀ R', BkAt bk (undoS s d.no w) R' X → F (toldD .non) R') ∧ (hvk s (undP d) (trs (delW s.dl d.no)) ≠ 0 → F (fullD (lotT (hvk s (undP d) (trs (delW s.dl d.no))) (trs (delW s.dl d.no)))) R)
abbrev sp_l_do_cut [Tbl] : Sp := spM (gm_l_do_cut)
theorem c_l_do_cut [Tbl] {H0 : Hp} {R0 R X : Rg} {Ex : XK} {F : D → Rg → Prop} {bk : Addr} {s : Ps} {t : Nat} {d : Pd} (h1 : BkAt bk s R X) (h2 : PsOk s t) (h3 : d ∈ s.dl) (k0 : hvk s (undP d) (trs (delW s.dl d.no)) = 0 → d.w = none → ∀ R', BkAt bk (dropS s d.no) R' X → F (toldD .non) R') (k1 : hvk s (undP d) (trs (delW s.dl d.no)) = 0 → ∀ w, d.w = some w → ∀ R', BkAt bk (undoS s d.no w) R' X → F (toldD .non) R') (k2 : hvk s (undP d) (trs (delW s.dl d.no)) ≠ 0 → F (fullD (lotT (hvk s (undP d) (trs (delW s.dl d.no))) (trs (delW s.dl d.no)))) R) : RS H0 R0 sp_l_do_cut Ex [.v (.ref bk), .v (.int d.no)] R F := rs_m ⟨bk, s, t, d, X, rfl, h1, h2, h3, k0, k1, k2⟩
theorem ok_l_do_cut (W : Wd w K mg base) : FnOk P w K mg base CX0 7 (He.fAd K ("_law_do_cut", none)) (fdO K (He.fAd K ("_law_do_cut", none))) ["_law_book_here", "_law_deed"] (sp_l_do_cut) := by
  refine (W.F 33).ok sc_l_do_cut ?_ (fun cdv A outer s H vs Q E hr h => ?_)
  · exact lenM fun ds R F h => by obtain ⟨bk, s, t, d, X, rfl, hB, ok, hd, hF0, hF1, hF2⟩ := h; rfl
  have hu64 := hr.units
  have hu := Nat.lt_of_le_of_lt (Nat.add_le_add_left (show 1 ≤ 64 by decide) _) hu64
  refine ⟨_, PSs.nox (pss_cons (ps_set (i := 2) sc_l_do_cut.nd rfl (.inl rfl) (pe_call (ok_l_full (K := K) W) (hr.mono (by decide)) rfl (W.glo 22) (kp_l_full W) (b_l_full W) .nil pass0 (pa_cons (pv 0) (pa_cons (pv 1) (pa_cons (pe_call (ok_l_need (K := K) W) (hr.mono (by decide)) rfl (W.glo 18) (kp_l_need W) (b_l_need W) .nil pass0 (pa_cons (pv 0) (pa_cons (pv 1) pa_nil))) (pa_cons pe_non (pa_cons pe_non pa_nil)))))))
    (pss_cons (ps_if (pt_cmpR op_notN (pv 2) pe_non (nomark _))
    (pss_one (ps_ret (pe_tup (pa_cons pe_str (pa_cons (pv 2) pa_nil)))))
    pss_nil)
    (pss_cons (ps_if (pt_not (pt_val (pe_call (ok_l_undo (K := K) W) (hr.mono (by decide)) rfl (W.glo 27) (kp_l_undo W) (b_l_undo W) .nil pass0 (pa_cons (pv 0) (pa_cons (pv 1) (pa_cons (pe_callB (lenK (K := K) rfl) rfl (W.free 49) (by decide +kernel) (pa_cons (pe_dget hu (pe_dget hu (pe_dget hu (pv 0) pe_str (fun _ _ => rfl)) (pv 1) (fun _ _ => rfl)) pe_str (fun _ _ => rfl)) pa_nil)) pa_nil))))))
    pss_never
    pss_nil)
    (pss_cons (ps_expr (pe_dpop1 (pe_dget hu (pv 0) pe_str (fun _ _ => rfl)) (pv 1) ⟨rfl, rfl, rfl, rfl⟩))
    (pss_one (ps_ret (pe_tup (pa_cons pe_str (pa_cons pe_non pa_nil))))))))), entryM h ?_⟩
  clear h hu hu64 hr
  rintro ds R F ⟨bk, s, t, d, X, rfl, hB, ok, hd, hF0, hF1, hF2⟩
  have hf := hB.f ok
  obtain ⟨B, dl, d', hf0, hd', ed, e1, hl, lk, hdd⟩ := f_deed hf hd
  have hdw := hdd.w
  subst ed
  repeat walk_at "rc step"
  refine f_need hf hd ?_
  repeat walk_at "rc step"
  refine f_fullCut hf ok (fun h0 => ?_) (fun h0 => ?_)
  · repeat walk_at "rc step"
    refine ⟨_, _, .inr _, _, rfl, .k hf0.b, rfl, rfl, ?_⟩
    repeat walk_at "rc step"
    refine ⟨_, _, .inl _, _, rfl, .k hf0.k, rfl, lk, ?_⟩
    repeat walk_at "rc step"
    refine ⟨_, _, .inr _, _, rfl, .k hdd.c, rfl, rfl, ?_⟩
    repeat walk_at "rc step"
    refine b_undo hB ok hd ?_ (fun cw R' h' => ?_) (fun w cw R' h' => ?_)
    · obtain ⟨no, ends, a, wA, wr⟩ := d'
      match wr, hl with
      | [], _ => rfl
      | [x], _ => rfl
    · repeat walk_at "rc step"
      refine em_popD h' ok.srt hd rfl rfl fun R' x h' => ?_
      repeat walk_at "rc step"
      exact hF0 h0 cw R' h'
    · repeat walk_at "rc step"
      have hs2 : (backS s (ddP d').no w).dl.Pairwise fun a b => a.no < b.no := setW_srt ok.srt
      have hd2 : (⟨(ddP d').no, none⟩ : Pd) ∈ (backS s (ddP d').no w).dl := setW_in hd
      refine em_popD h' hs2 hd2 rfl rfl fun R' x h' => ?_
      repeat walk_at "rc step"
      refine hF1 h0 w cw R' ?_
      have e5 : dropS (backS s (ddP d').no w) (ddP d').no = undoS s (ddP d').no w := by
        unfold dropS backS undoS
        simp only [del_set]
      rw [← e5]
      exact h'
  · repeat walk_at "rc step"
    exact hF2 h0
end
end Rc
-- G23
set_option Elab.async false
set_option linter.all false
set_option maxRecDepth 100000
set_option maxHeartbeats 4000000
namespace Rc
open PySem PySem.Spec PyProof.Rows L2 RcHead
local macro_rules | `(tactic| walk_at "rc mem") => `(tactic| first | assumption | exact List.mem_cons_self | ((with_reducible (refine List.mem_cons_of_mem _ ?_)); walk_at "rc mem"))
local macro_rules | `(tactic| walk_at "rc end") => `(tactic| fail)
local macro_rules | `(tactic| walk_at "rc lst") => `(tactic| with_reducible refine em_lst ?_)
local macro_rules | `(tactic| walk_at "rc call") => `(tactic| fail)
local macro_rules | `(tactic| walk_at "rc step") => `(tactic| first
  | ((with_reducible (apply em_var)); rfl)
  | with_reducible refine em_c ?_
  | with_reducible refine em_op ?_
  | with_reducible refine ro_I0 ?_
  | ((with_reducible (refine ro_eq ?_ ?_)); rfl)
  | ((with_reducible (refine ro_ne ?_ ?_)); rfl)
  | with_reducible refine ro_isN ?_
  | with_reducible refine ro_notN ?_
  | with_reducible refine ea_nil ?_
  | with_reducible refine ea_cons ?_
  | with_reducible refine em_call ?_
  | walk_at "rc call"
  | (with_reducible refine em_fld ?_)
  | (refine ⟨_, _, _, _, rfl, (by walk_at "rc mem"), (by assumption), (by assumption), (by rfl), ?_⟩)
  | with_reducible refine ra_listV ?_
  | with_reducible refine em_cb ?_
  | with_reducible refine em_tup ?_
  | walk_at "rc lst"
  | with_reducible refine em_if ?_
  | with_reducible refine em_andV ?_
  | with_reducible refine em_orV ?_
  | with_reducible refine em_notV ?_
  | with_reducible refine em_chain ?_
  | with_reducible refine et_test ?_
  | with_reducible refine et_B ?_
  | with_reducible refine et_and ?_
  | with_reducible refine et_or ?_
  | with_reducible refine et_not ?_
  | with_reducible refine et_yes ?_
  | with_reducible refine sx_seq ?_
  | with_reducible refine sx_next ?_
  | with_reducible refine sx_asg ?_
  | with_reducible refine sx_ret ?_
  | with_reducible refine sx_append ?_
  | with_reducible refine sx_drop ?_
  | with_reducible refine sx_if ?_
  | (refine ⟨_, rfl, ?_⟩)
  | (refine ⟨fun _ => ?_, fun z => Bool.noConfusion z⟩)
  | (refine ⟨fun z => Bool.noConfusion z, fun _ => ?_⟩)
  | with_reducible refine em_make ?_
  | with_reducible refine em_meth ?_
  | (refine ⟨_, _, rfl, (by walk_at "rc mem"), rfl, ?_⟩)
  | with_reducible refine em_neg ?_
  | with_reducible refine sx_fld ?_
  | (refine ⟨_, _, _, 0, rfl, rfl, (by assumption), (by assumption), (of_decide_eq_true rfl), ?_⟩)
  | ((with_reducible (apply ra_len)); (first | exact .l .d | exact .t | exact .l (.c (by walk_at "rc mem"))))
  | ((with_reducible (apply ra_lenK)); (walk_at "rc mem"))
  | ((with_reducible (apply ro_ixL)); (first | exact .d | exact .c (by walk_at "rc mem")); (first | rfl | exact atI_0))
  | ((with_reducible (apply ro_ixT)); rfl)
  | (with_reducible (refine gx_name ?_ (by decide)))
  | ((with_reducible (apply gx_tupR)); rfl)
  | with_reducible refine gxs_cons ?_
  | with_reducible refine gxs_nil ?_
  | (exact ⟨rfl, rfl⟩)
  | (refine ⟨rfl, ?_⟩)
  | with_reducible refine em_dget ?_
  | with_reducible refine sx_lockAsg ?_
  | with_reducible refine em_din ?_
  | with_reducible refine em_dnotIn ?_
  | ((with_reducible (apply sx_aug)); rfl)
  | with_reducible refine sx_setL ?_
  | with_reducible refine sx_dput ?_
  | with_reducible refine gx_fld ?_
  | (with_reducible (apply sx_fldAug))
  | ((with_reducible (apply sx_rz)); assumption)
  | (refine ⟨(by simp only [List.length_cons, List.length_nil]; omega), ?_⟩))
local macro_rules | `(tactic| walk_at "rc perm") => `(tactic| (refine Mu.of ?_; simp only [Mu.app, Mu.cons, Mu.nil, Mu.nil_add, Mu.add_nil, List.append_eq]; ac_rfl))
section
variable [Tbl] {P : Program} {w : World} {K : PySem.W.Frag} {mg : Str → Option Value} {base : Heap}
local macro_rules | `(tactic| walk_at "rc call") => `(tactic| fail)
theorem cut_map {α : Type} {f : α → D} {l : List α} {lo hi : Option Int} : ∃ l', cutD (l.map f) lo hi = List.map f l' ∧ l'.length ≤ l.length := by
  refine ⟨(l.drop (HT.sIx (l.map f).length 0 lo)).take (HT.sIx (l.map f).length (l.map f).length hi - HT.sIx (l.map f).length 0 lo), ?_, ?_⟩
  · unfold cutD
    rw [← List.map_drop, ← List.map_take]
  · rw [List.length_take, List.length_drop]
    omega
theorem sc_l_first_full : FnScope ["_law_book_here", "_law_asker", "_law_cells", "_law_undo_here", "_law_items_here", "_law_heavy_here", "_law_many", "_law_names", "_law_item"] ["_law_book_here", "_law_asker", "_law_cells", "_law_undo_here"] (defScope (top 70)) := ⟨rfl, rfl, rfl, by decide +kernel, rfl, by decide +kernel, by decide +kernel⟩
theorem kp_l_first_full (W : Wd w K mg base) : PySem.W.keepIn K (.ref (He.fAd K ("_law_first_full", none))) = true := W.kp 30
theorem b_l_first_full (W : Wd w K mg base) : Binds K (fdO K (He.fAd K ("_law_first_full", none))) ["_law_book_here", "_law_asker", "_law_cells", "_law_undo_here"] [] := (W.F 30).bindsN fun _ _ _ _ _ _ us hl => match us, hl with | [_, _, _, _], _ => rfl
def gm_l_first_full [Tbl] : Gm := fun ds R F => ∃ (bk : Addr) (s : Ps) (t : Nat) (no c u : Int), ds = [.v (.ref bk), .v (.int no), .v (.int c), .v (.int u)] ∧ BkF bk s R ∧ PsOk s t ∧ (0 ≤ no ∧ no ≤ 1000) ∧ (1 ≤ u ∧ u ≤ 1000) ∧ (hvk s c (newL s no u) = 0 → F (.v .non) R) ∧ (hvk s c (newL s no u) ≠ 0 → ∀ l, F (.t l) R)
abbrev sp_l_first_full [Tbl] : Sp := spM (gm_l_first_full)
theorem c_l_first_full [Tbl] {H0 : Hp} {R0 R : Rg} {Ex : XK} {F : D → Rg → Prop} {bk : Addr} {s : Ps} {t : Nat} {no c u : Int} (h1 : BkF bk s R) (h2 : PsOk s t) (h3 : 0 ≤ no ∧ no ≤ 1000) (h4 : 1 ≤ u ∧ u ≤ 1000) (k1 : hvk s c (newL s no u) = 0 → F (.v .non) R) (k2 : hvk s c (newL s no u) ≠ 0 → ∀ l, F (.t l) R) : RS H0 R0 sp_l_first_full Ex [.v (.ref bk), .v (.int no), .v (.int c), .v (.int u)] R F := rs_m ⟨bk, s, t, no, c, u, rfl, h1, h2, h3, h4, k1, k2⟩
theorem ok_l_first_full (W : Wd w K mg base) : FnOk P w K mg base CX0 7 (He.fAd K ("_law_first_full", none)) (fdO K (He.fAd K ("_law_first_full", none))) ["_law_book_here", "_law_asker", "_law_cells", "_law_undo_here"] (sp_l_first_full) := by
  refine (W.F 30).ok sc_l_first_full ?_ (fun cdv A outer s H vs Q E hr h => ?_)
  · exact lenM fun ds R F h => by obtain ⟨bk, s, t, no, c, u, rfl, hf, ok, hno, hu, hF1, hF2⟩ := h; rfl
  have hu64 := hr.units
  have hu := Nat.lt_of_le_of_lt (Nat.add_le_add_left (show 1 ≤ 64 by decide) _) hu64
  refine ⟨_, PSs.nox (pss_cons (ps_if (pt_cmpR op_isN (pe_call (ok_l_full (K := K) W) (hr.mono (by decide)) rfl (W.glo 22) (kp_l_full W) (b_l_full W) .nil pass0 (pa_cons (pv 0) (pa_cons (pv 1) (pa_cons (pv 2) (pa_cons (pe_dget hu (pv 0) pe_str (fun _ _ => rfl)) (pa_cons (pv 3) pa_nil)))))) pe_non (nomark _))
    (pss_one (ps_ret pe_non))
    pss_nil)
    (pss_cons (ps_setLc (i := 4) (own := [("_law_item", 8)]) (g := (gName 8)) rfl sc_l_first_full.nd rfl rfl (sw_true rfl rfl rfl (by decide +kernel)) (ilistK (K := K) rfl (pe_call (ok_l_items (K := K) W) (hr.mono (by decide)) rfl (W.glo 19) (kp_l_items W) (b_l_items W) .nil pass0 (pa_cons (pv 0) pa_nil))) (blkOk_by (show blkC ["_law_book_here", "_law_asker", "_law_cells", "_law_undo_here", "_law_items_here", "_law_heavy_here", "_law_many", "_law_names", "_law_item"] (defScope (top 70)) _ [("_law_item", 8)] = true by decide +kernel)) (fun _ _ _ _ _ => (pg_name (i := 8) sc_l_first_full.nd rfl (.inl rfl))) (fun _ _ _ _ _ => (pts_one (pt_cmpR op_notN (pe_ix (ixtK (K := K) rfl) (pv 8) pe_int (fun _ _ => rfl)) pe_non (nomark _)))) (fun _ _ _ _ _ => (pv 8)))
    (pss_cons (ps_set (i := 5) sc_l_first_full.nd rfl (.inl rfl) (pe_call (ok_l_heavy (K := K) W) (hr.mono (by decide)) rfl (W.glo 21) (kp_l_heavy W) (b_l_heavy W) .nil pass0 (pa_cons (pv 0) (pa_cons (pv 4) (pa_cons (pv 2) pa_nil)))))
    (pss_cons (ps_set (i := 6) sc_l_first_full.nd rfl (.inl rfl) (pe_ifExp (pt_cmpR op_isN (pv 5) pe_non (nomark _)) pe_int (pe_callB (lenK (K := K) rfl) rfl (W.free 49) (by decide +kernel) (pa_cons (pv 5) pa_nil))))
    (pss_cons (ps_while PassesOwn.never (PW.pt (pw_and (pt_cmpR op_le (pv 6) (pe_callB (lenK (K := K) rfl) rfl (W.free 49) (by decide +kernel) (pa_cons (pv 4) pa_nil)) (nomark _)) (pw_and1 (pt_cmpR op_gt (pe_op op_add (pe_op op_add (pv 2) (pv 3)) (pe_callB (sumK (K := K) rfl rfl) rfl (W.free 50) (by decide +kernel) (pa_cons (pe_lc (own := [("_law_item", 8)]) (g := (gName 8)) rfl sc_l_first_full.nd (ilistK (K := K) rfl (pe_slice (sllK (K := K) rfl) (pv 4) (po_some (pv 6)) po_none)) (blkOk_by (show blkC ["_law_book_here", "_law_asker", "_law_cells", "_law_undo_here", "_law_items_here", "_law_heavy_here", "_law_many", "_law_names", "_law_item"] (defScope (top 70)) _ [("_law_item", 8)] = true by decide +kernel)) (fun _ _ _ _ _ => (pg_name (i := 8) sc_l_first_full.nd rfl (.inl rfl))) (fun _ _ _ _ _ => pts_nil) (fun _ _ _ _ _ => (pe_ix (ixtK (K := K) rfl) (pv 8) pe_int (fun _ _ => rfl)))) pa_nil))) (pe_dget hu (pv 0) pe_str (fun _ _ => rfl)) (nomark _)))))
    (pss_one (ps_set (i := 6) sc_l_first_full.nd rfl (.inl rfl) (pe_op op_add (pv 6) pe_int))))
    (pss_cons (ps_set (i := 7) sc_l_first_full.nd rfl (.inl rfl) (pe_op op_cat (pe_lc (own := [("_law_item", 8)]) (g := (gName 8)) rfl sc_l_first_full.nd (ilistK (K := K) rfl (pv 4)) (blkOk_by (show blkC ["_law_book_here", "_law_asker", "_law_cells", "_law_undo_here", "_law_items_here", "_law_heavy_here", "_law_many", "_law_names", "_law_item"] (defScope (top 70)) _ [("_law_item", 8)] = true by decide +kernel)) (fun _ _ _ _ _ => (pg_name (i := 8) sc_l_first_full.nd rfl (.inl rfl))) (fun _ _ _ _ _ => pts_nil) (fun _ _ _ _ _ => (pe_ix (ixtK (K := K) rfl) (pv 8) pe_int (fun _ _ => rfl)))) (pe_lst (pa_cons (pv 1) pa_nil))))
    (pss_one (ps_ret (pe_callTy (tupK (K := K) rfl) rfl (W.free 60) (by decide +kernel) (pa_cons (pe_slice (sllK (K := K) rfl) (pv 7) po_none (po_some (pv 6))) pa_nil)))))))))), entryM h ?_⟩
  clear h hu hu64 hr
  rintro ds R F ⟨bk, s, t, no, c, u, rfl, hf, ok, hno, hu, hF1, hF2⟩
  obtain ⟨B, dl, hf0⟩ := id hf
  repeat walk_at "rc step"
  refine ⟨_, _, .inr _, _, rfl, .k hf0.b, rfl, rfl, ?_⟩
  rw [hf0.v.h]
  repeat walk_at "rc step"
  refine f_fullNew hf ok hno hu (fun h0 => ?_) (fun h0 => ?_)
  · repeat walk_at "rc step"
    exact hF1 h0
  repeat walk_at "rc step"
  refine em_lcI ?_
  repeat walk_at "rc step"
  refine f_items hf ok ?_
  have hlen : (itemsP s).length ≤ 100 := by
    unfold itemsP
    rw [List.length_append, List.length_map, (srt_perm _).length_eq]
    have := trs_len s.dl
    have := List.length_filter_le (fun t : Int × Option Int × Int => t.2.1.isNone) (s.dl.map itP)
    rw [List.length_map] at this
    have := ok.z
    omega
  refine ⟨_, itemsP s, itD, fun t => if (!isNon (.v (optV t.2.1))) = true then some (itD t) else none, .d, by omega, fun x hx H1 Rx hs => ?_, ?_⟩
  · repeat walk_at "rc step"
    refine ⟨fun h => ?_, fun h => ?_⟩
    · repeat walk_at "rc step"
      exact if_pos h
    · exact if_neg (by rw [h]; decide)
  rw [fm_ite]
  have hl2 : ((itemsP s).filter fun t => !isNon (.v (optV t.2.1))).length ≤ 100 := Nat.le_trans (List.length_filter_le _ _) hlen
  generalize ((itemsP s).filter fun t => !isNon (.v (optV t.2.1))) = its at *
  repeat walk_at "rc step"
  refine c_l_heavy hf0.b hl2 ?_
  refine sx_seq (sx_asg (EM.mono (F := fun d R' => R' = R ∧ ∃ k : Nat, d = .v (.int (k : Int))) ?_ ?_))
  · by_cases c0 : hvB B.cells (B.head + c) its its.length = 0
    · rw [if_pos c0]
      repeat walk_at "rc step"
      exact ⟨0, rfl⟩
    · rw [if_neg c0]
      repeat walk_at "rc step"
      exact ⟨_, rfl⟩
  rintro d R' ⟨rfl, k, rfl⟩
  generalize (if hvB B.cells (B.head + c) its its.length = 0 then D.v .non else D.t ((its.take (hvB B.cells (B.head + c) its its.length)).map fun t => .v (.int t.1))) = hv at *
  refine sx_seq (sx_while (fun m g' R'' => R'' = R' ∧ ∃ (k : Nat) (o8 : Option D), m = its.length + 1 - k ∧ g' = [some (.v (.ref bk)), some (.v (.int no)), some (.v (.int c)), some (.v (.int u)), some (.l (its.map itD)), some hv, some (.v (.int (k : Int))), none, o8]) (its.length + 1 - k) ⟨rfl, k, none, rfl, rfl⟩ ?_)
  rintro m g' R'' ⟨rfl, k, o8, rfl, rfl⟩
  refine ET.mono (G := fun b R1 => R1 = R'' ∧ (b = true → k ≤ its.length)) ?_ ?_
  · repeat walk_at "rc step"
    rw [List.length_map]
    refine ⟨fun h => ?_, fun h => ?_⟩
    · have hk : k ≤ its.length := by
        have := of_decide_eq_true h
        omega
      repeat walk_at "rc step"
      refine em_lcI (em_slL ?_)
      repeat walk_at "rc step"
      refine eo_some ?_
      repeat walk_at "rc step"
      refine eo_none ?_
      refine ⟨_, .d, ?_⟩
      obtain ⟨l', el', hl'⟩ := cut_map (f := itD) (l := its) (lo := some (k : Int)) (hi := none)
      rw [el']
      refine ⟨_, l', itD, fun t => some (.v (.int t.2.2)), .d, by omega, fun x hx H1 Rx hs => ?_, ?_⟩
      · repeat walk_at "rc step"
      rw [fm_some]
      repeat walk_at "rc step"
      refine ra_sum (ns := l'.map fun t => t.2.2) (by rw [List.map_map]; exact .d) ?_
      repeat walk_at "rc step"
      refine ⟨_, _, .inr _, _, rfl, .k hf0.b, rfl, rfl, ?_⟩
      repeat walk_at "rc step"
      exact fun _ => hk
    · exact ⟨rfl, fun z => Bool.noConfusion z⟩
  rintro b R1 ⟨rfl, hk⟩
  refine ⟨fun h => ?_, fun h => ?_⟩
  · repeat walk_at "rc step"
    have := hk h
    exact ⟨its.length + 1 - (k + 1), by omega, rfl, k + 1, o8, rfl, rfl⟩
  · repeat walk_at "rc step"
    refine em_lcI ?_
    repeat walk_at "rc step"
    refine ⟨_, its, itD, fun t => some (.v (.int t.1)), .d, by omega, fun x hx H1 Rx hs => ?_, ?_⟩
    · repeat walk_at "rc step"
    rw [fm_some]
    repeat walk_at "rc step"
    refine ro_cat .d .d (by simp; omega) ?_
    repeat walk_at "rc step"
    refine em_slL ?_
    repeat walk_at "rc step"
    refine eo_none ?_
    refine eo_some ?_
    repeat walk_at "rc step"
    refine ⟨_, .d, ?_⟩
    repeat walk_at "rc step"
    refine ra_tupL .d ?_
    exact hF2 h0 _
end
end Rc
-- G24
set_option Elab.async false
set_option linter.all false
set_option maxRecDepth 100000
set_option maxHeartbeats 4000000
namespace Rc
open PySem PySem.Spec PyProof.Rows L2 RcHead
local macro_rules | `(tactic| walk_at "rc mem") => `(tactic| first | assumption | exact List.mem_cons_self | ((with_reducible (refine List.mem_cons_of_mem _ ?_)); walk_at "rc mem"))
local macro_rules | `(tactic| walk_at "rc end") => `(tactic| fail)
local macro_rules | `(tactic| walk_at "rc lst") => `(tactic| with_reducible refine em_lst ?_)
local macro_rules | `(tactic| walk_at "rc call") => `(tactic| fail)
local macro_rules | `(tactic| walk_at "rc step") => `(tactic| first
  | ((with_reducible (apply em_var)); rfl)
  | with_reducible refine em_c ?_
  | with_reducible refine em_op ?_
  | with_reducible refine ro_I0 ?_
  | ((with_reducible (refine ro_eq ?_ ?_)); rfl)
  | ((with_reducible (refine ro_ne ?_ ?_)); rfl)
  | with_reducible refine ro_isN ?_
  | with_reducible refine ro_notN ?_
  | with_reducible refine ea_nil ?_
  | with_reducible refine ea_cons ?_
  | with_reducible refine em_call ?_
  | walk_at "rc call"
  | (with_reducible refine em_fld ?_)
  | (refine ⟨_, _, _, _, rfl, (by walk_at "rc mem"), (by assumption), (by assumption), (by rfl), ?_⟩)
  | with_reducible refine ra_listV ?_
  | with_reducible refine em_cb ?_
  | with_reducible refine em_tup ?_
  | walk_at "rc lst"
  | with_reducible refine em_if ?_
  | with_reducible refine em_andV ?_
  | with_reducible refine em_orV ?_
  | with_reducible refine em_notV ?_
  | with_reducible refine em_chain ?_
  | with_reducible refine et_test ?_
  | with_reducible refine et_B ?_
  | with_reducible refine et_and ?_
  | with_reducible refine et_or ?_
  | with_reducible refine et_not ?_
  | with_reducible refine et_yes ?_
  | with_reducible refine sx_seq ?_
  | with_reducible refine sx_next ?_
  | with_reducible refine sx_asg ?_
  | with_reducible refine sx_ret ?_
  | with_reducible refine sx_append ?_
  | with_reducible refine sx_drop ?_
  | with_reducible refine sx_if ?_
  | (refine ⟨_, rfl, ?_⟩)
  | (refine ⟨fun _ => ?_, fun z => Bool.noConfusion z⟩)
  | (refine ⟨fun z => Bool.noConfusion z, fun _ => ?_⟩)
  | with_reducible refine em_make ?_
  | with_reducible refine em_meth ?_
  | (refine ⟨_, _, rfl, (by walk_at "rc mem"), rfl, ?_⟩)
  | with_reducible refine em_neg ?_
  | with_reducible refine sx_fld ?_
  | (refine ⟨_, _, _, 0, rfl, rfl, (by assumption), (by assumption), (of_decide_eq_true rfl), ?_⟩)
  | ((with_reducible (apply ra_len)); (first | exact .l .d | exact .t | exact .l (.c (by walk_at "rc mem"))))
  | ((with_reducible (apply ra_lenK)); (walk_at "rc mem"))
  | ((with_reducible (apply ro_ixL)); (first | exact .d | exact .c (by walk_at "rc mem")); (first | rfl | exact atI_0))
  | ((with_reducible (apply ro_ixT)); rfl)
  | (with_reducible (refine gx_name ?_ (by decide)))
  | ((with_reducible (apply gx_tupR)); rfl)
  | with_reducible refine gxs_cons ?_
  | with_reducible refine gxs_nil ?_
  | (exact ⟨rfl, rfl⟩)
  | (refine ⟨rfl, ?_⟩)
  | with_reducible refine em_dget ?_
  | with_reducible refine sx_lockAsg ?_
  | with_reducible refine em_din ?_
  | with_reducible refine em_dnotIn ?_
  | ((with_reducible (apply sx_aug)); rfl)
  | with_reducible refine sx_setL ?_
  | with_reducible refine sx_dput ?_
  | with_reducible refine gx_fld ?_
  | (with_reducible (apply sx_fldAug))
  | ((with_reducible (apply sx_rz)); assumption)
  | (refine ⟨(by simp only [List.length_cons, List.length_nil]; omega), ?_⟩))
local macro_rules | `(tactic| walk_at "rc perm") => `(tactic| (refine Mu.of ?_; simp only [Mu.app, Mu.cons, Mu.nil, Mu.nil_add, Mu.add_nil, List.append_eq]; ac_rfl))
section
variable [Tbl] {P : Program} {w : World} {K : PySem.W.Frag} {mg : Str → Option Value} {base : Heap}
local macro_rules | `(tactic| walk_at "rc call") => `(tactic| fail)
theorem row_ok {s : Ps} {t : Nat} {c : Int} (ok : PsOk s t) (h : 0 ≤ c ∧ c ≤ 1000) (ht : t + 1 ≤ 60000) : PsOk (rowS s c) (t + 1) where
  n60 := ok.n60
  n1 := ok.n1
  out := fun k hk => by
    show brO _ (s.bd k) = none
    rw [ok.out k hk]
    rfl
  srt := ok.srt
  z := ok.z
  no := ok.no
  w := fun d hd w hw => by
    have := ok.w d hd w hw
    refine ⟨this.1, this.2.1, this.2.2.1, ?_, this.2.2.2.2⟩
    show w.place < s.head + c
    have := this.2.2.2.1
    omega
  nd := ok.nd
  c0 := ok.c0
  h0 := by
    have := ok.h0
    show 0 ≤ s.head + c ∧ s.head + c ≤ 1000 * ((t + 1 : Nat) : Int)
    omega
  nx := ok.nx
  t := ht
theorem set_permR {R rest : Rg} {a : Addr} {c c' : RC} {n : Nat} (e : R[n]? = some (a, c)) (p : R.Perm ((a, c) :: rest)) : (R.set n (a, c')).Perm ((a, c') :: rest) := by
  obtain ⟨A, B, e1, e2⟩ := set_split (c' := c') e
  rw [e2]
  rw [e1] at p
  have p2 := (List.perm_middle.symm.trans p).cons_inv
  exact List.perm_middle.trans (p2.cons _)
/-- a write more stands in the book -/
theorem bk_append [Tbl] {bk : Addr} {s : Ps} {R X : Rg} {B : Bk} {ds : List Dd} {jk : Rg} (p : R.Perm (BkL bk s B ds jk ++ X)) (v : BkV s B ds) (hj : NoRow jk) (srt : ds.Pairwise fun a b => a.no < b.no) {b : Dd} (hb : b ∈ ds) (e0 : b.wr = []) {w : Wt} {n : Nat} (e : R[n]? = some (b.w, .l (b.wr.map wtD))) :
    BkAt bk { s with dl := setW s.dl b.no (some w) } (R.set n (b.w, .l ((b.wr.map wtD) ++ [wtD w]))) X := by
  obtain ⟨no, ends, a, wA, wr⟩ := b
  have e0' : wr = [] := e0
  subst e0'
  obtain ⟨m1, m2, rfl⟩ := List.append_of_mem hb
  have hno := split_no (g := fun b : Dd => b.no) srt
  have q : (BkL bk s B (m1 ++ ⟨no, ends, a, wA, []⟩ :: m2) jk ++ X).Perm ((wA, .l []) :: bcore bk B s.n s.home s.pool s.bd ((B.deedsA, RC.k (vK (ddK (m1 ++ ⟨no, ends, a, wA, []⟩ :: m2)))) :: (a, .k (ddFs ⟨no, ends, a, wA, []⟩)) :: ((m1 ++ m2).flatMap dcells ++ jk ++ X))) := by
    unfold BkL bcore
    simp only [List.flatMap_append, List.flatMap_cons, dcells, List.map_nil, List.cons_append, List.nil_append]
    walk_at "rc perm"
  refine BkAt.perm (set_permR (c' := .l [wtD w]) e (p.trans q)) ?_
  refine ⟨B, m1 ++ ⟨no, ends, a, wA, [w]⟩ :: m2, jk, ?_, ⟨v.c, v.h, v.nx, ?_, fun x hx => ?_⟩, hj⟩
  · have em : ddK (m1 ++ ⟨no, ends, a, wA, [w]⟩ :: m2) = ddK (m1 ++ ⟨no, ends, a, wA, []⟩ :: m2) := by
      unfold ddK
      simp
    have ef : ddFs ⟨no, ends, a, wA, [w]⟩ = ddFs ⟨no, ends, a, wA, []⟩ := rfl
    unfold BkL bcore
    rw [em]
    simp only [List.flatMap_append, List.flatMap_cons, dcells, List.map_cons, List.map_nil, List.cons_append, List.nil_append, ef]
    walk_at "rc perm"
  · show _ = setW s.dl no _
    rw [← v.dl]
    exact setW_split (f := ddP) (b := ⟨no, ends, a, wA, []⟩) (fun a ha => hno a ha) rfl
  · rcases List.mem_append.mp hx with z | z
    · exact v.one x (List.mem_append_left _ z)
    · rcases List.mem_cons.mp z with z | z
      · rw [z]
        exact ⟨(v.one _ hb).1, Nat.le_refl _⟩
      · exact v.one x (List.mem_append_right _ (List.mem_cons_of_mem _ z))
theorem b_set2 [Tbl] {H0 : Hp} {R0 R X : Rg} {Ex : XK} {F : D → Rg → Prop} {bk : Addr} {s : Ps} (h : BkAt bk s R X) {q : Int} {p : Nat} {x pl : Int} (e : q = p) (hp : p < s.n) (k : ∀ R', BkAt bk { s with pool := plP true p x s.pool, bd := plD true p pl s.bd } R' X → F (.v .non) R') : RS H0 R0 sp_l_set Ex [.v (.ref bk), .v (.int q), .v (.int x), .v (.int pl)] R F := by
  subst e
  exact b_set h hp k
theorem sc_l_do_write : FnScope ["_law_book_here", "_law_deed", "_law_page", "_law_number", "_law_cells", "_law_undo_here", "_law_holder_here", "_law_first_here", "_law_place", "_law_lot"] ["_law_book_here", "_law_deed", "_law_page", "_law_number", "_law_cells", "_law_undo_here"] (defScope (top 71)) := ⟨rfl, rfl, rfl, by decide +kernel, rfl, by decide +kernel, by decide +kernel⟩
theorem kp_l_do_write (W : Wd w K mg base) : PySem.W.keepIn K (.ref (He.fAd K ("_law_do_write", none))) = true := W.kp 31
theorem b_l_do_write (W : Wd w K mg base) : Binds K (fdO K (He.fAd K ("_law_do_write", none))) ["_law_book_here", "_law_deed", "_law_page", "_law_number", "_law_cells", "_law_undo_here"] [] := (W.F 31).bindsN fun _ _ _ _ _ _ us hl => match us, hl with | [_, _, _, _, _, _], _ => rfl
def gm_l_do_write [Tbl] : Gm := fun ds R F => ∃ (bk : Addr) (s : Ps) (t : Nat) (no x c u : Int) (X : Rg), ds = [.v (.ref bk), .v (.int no), .v (.int no), .v (.int x), .v (.int c), .v (.int u)] ∧ BkAt bk s R X ∧ PsOk s t ∧ t + 1 ≤ 60000 ∧ (⟨no, none⟩ : Pd) ∈ s.dl ∧ no < s.n ∧ holdP s.dl no = .non ∧ (1 ≤ c ∧ c ≤ 1000) ∧ (1 ≤ u ∧ u ≤ 1000) ∧
  (hvk s c (newL s no u) = 0 → ∀ R', BkAt bk (writeS s no x c u) R' X → F (toldD .non) R') ∧ (hvk s c (newL s no u) ≠ 0 → ∀ l, F (fullD (.t l)) R)
abbrev sp_l_do_write [Tbl] : Sp := spM (gm_l_do_write)
theorem c_l_do_write [Tbl] {H0 : Hp} {R0 R X : Rg} {Ex : XK} {F : D → Rg → Prop} {bk : Addr} {s : Ps} {t : Nat} {no x c u : Int} (h1 : BkAt bk s R X) (h2 : PsOk s t) (h3 : t + 1 ≤ 60000) (h4 : (⟨no, none⟩ : Pd) ∈ s.dl) (h5 : no < s.n) (h6 : holdP s.dl no = .non) (h7 : 1 ≤ c ∧ c ≤ 1000) (h8 : 1 ≤ u ∧ u ≤ 1000) (k1 : hvk s c (newL s no u) = 0 → ∀ R', BkAt bk (writeS s no x c u) R' X → F (toldD .non) R') (k2 : hvk s c (newL s no u) ≠ 0 → ∀ l, F (fullD (.t l)) R) : RS H0 R0 sp_l_do_write Ex [.v (.ref bk), .v (.int no), .v (.int no), .v (.int x), .v (.int c), .v (.int u)] R F := rs_m ⟨bk, s, t, no, x, c, u, X, rfl, h1, h2, h3, h4, h5, h6, h7, h8, k1, k2⟩
theorem ok_l_do_write (W : Wd w K mg base) : FnOk P w K mg base CX0 8 (He.fAd K ("_law_do_write", none)) (fdO K (He.fAd K ("_law_do_write", none))) ["_law_book_here", "_law_deed", "_law_page", "_law_number", "_law_cells", "_law_undo_here"] (sp_l_do_write) := by
  refine (W.F 31).ok sc_l_do_write ?_ (fun cdv A outer s H vs Q E hr h => ?_)
  · exact lenM fun ds R F h => by obtain ⟨bk, s, t, no, x, c, u, X, rfl, hB, ok, ht, hd, hn, hh, hc, hu, hF1, hF2⟩ := h; rfl
  have hu64 := hr.units
  have hu := Nat.lt_of_le_of_lt (Nat.add_le_add_left (show 1 ≤ 64 by decide) _) hu64
  refine ⟨_, PSs.nox (pss_cons (ps_set (i := 6) sc_l_do_write.nd rfl (.inl rfl) (pe_call (ok_l_holder (K := K) W) (hr.mono (by decide)) rfl (W.glo 29) (kp_l_holder W) (b_l_holder W) .nil pass0 (pa_cons (pv 0) (pa_cons (pv 2) pa_nil))))
    (pss_cons (ps_if (PW.pt (pw_and (pt_cmpR op_notN (pv 6) pe_non (nomark _)) (pw_and1 (pt_cmpR op_ne (pv 6) (pv 1) (nomark _)))))
    pss_never
    pss_nil)
    (pss_cons (ps_par (i := 7) (j := 8) rfl sc_l_do_write.nd rfl rfl (by decide) rfl rfl (pa_cons (pe_call (ok_l_first (K := K) W) (hr.mono (by decide)) rfl (W.glo 17) (kp_l_first W) (b_l_first W) .nil pass0 (pa_cons (pv 0) (pa_cons (pv 1) pa_nil))) (pa_cons (pe_dget hu (pv 0) pe_str (fun _ _ => rfl)) pa_nil)) rfl)
    (pss_cons (ps_if (pt_cmpR op_isN (pv 7) pe_non (nomark _))
    (pss_one (ps_set (i := 9) sc_l_do_write.nd rfl (.inl rfl) (pe_call (ok_l_first_full (K := K) W) (hr.mono (by decide)) rfl (W.glo 30) (kp_l_first_full W) (b_l_first_full W) .nil pass0 (pa_cons (pv 0) (pa_cons (pv 1) (pa_cons (pv 4) (pa_cons (pv 5) pa_nil)))))))
    (pss_one (ps_set (i := 9) sc_l_do_write.nd rfl (.inl rfl) (pe_call (ok_l_full (K := K) W) (hr.mono (by decide)) rfl (W.glo 22) (kp_l_full W) (b_l_full W) .nil pass0 (pa_cons (pv 0) (pa_cons (pv 1) (pa_cons (pv 4) (pa_cons (pv 7) (pa_cons (pe_op op_add (pe_call (ok_l_need (K := K) W) (hr.mono (by decide)) rfl (W.glo 18) (kp_l_need W) (b_l_need W) .nil pass0 (pa_cons (pv 0) (pa_cons (pv 1) pa_nil))) (pv 5)) pa_nil)))))))))
    (pss_cons (ps_if (pt_cmpR op_notN (pv 9) pe_non (nomark _))
    (pss_one (ps_ret (pe_tup (pa_cons pe_str (pa_cons (pv 9) pa_nil)))))
    pss_nil)
    (pss_cons (ps_if (pt_not (pt_val (pe_call (ok_l_put (K := K) W) (hr.mono (by decide)) rfl (W.glo 24) (kp_l_put W) (b_l_put W) .nil pass0 (pa_cons (pv 0) (pa_cons (pv 4) pa_nil)))))
    pss_never
    pss_nil)
    (pss_cons (ps_expr (appK (K := K) rfl (pe_dget hu (pe_dget hu (pe_dget hu (pv 0) pe_str (fun _ _ => rfl)) (pv 1) (fun _ _ => rfl)) pe_str (fun _ _ => rfl)) (pe_tup (pa_cons (pv 8) (pa_cons (pv 2) (pa_cons (pe_ix (ixlK (K := K) rfl) (pe_dget hu (pv 0) pe_str (fun _ _ => rfl)) (pv 2) (fun _ _ => rfl)) (pa_cons (pv 3) (pa_cons (pv 5) pa_nil))))))))
    (pss_cons (ps_expr (pe_call (ok_l_set (K := K) W) (hr.mono (by decide)) rfl (W.glo 26) (kp_l_set W) (b_l_set W) .nil pass0 (pa_cons (pv 0) (pa_cons (pv 2) (pa_cons (pv 3) (pa_cons (pv 8) pa_nil))))))
    (pss_one (ps_ret (pe_tup (pa_cons pe_str (pa_cons pe_non pa_nil))))))))))))), entryM h ?_⟩
  clear h hu hu64 hr
  rintro ds R F ⟨bk, s, t, no, x, c, u, X, rfl, hB, ok, ht, hd, hn, hh, hc, hu, hF1, hF2⟩
  have hf := hB.f ok
  have hno0 : 0 ≤ no ∧ no < s.nxt := ok.no _ hd
  have hnx := ok.nx
  obtain ⟨B, dl, hf0⟩ := id hf
  repeat walk_at "rc step"
  refine f_holder hf ?_
  rw [hh]
  repeat walk_at "rc step"
  refine sx_par ?_
  repeat walk_at "rc step"
  refine f_first hf hd ?_
  repeat walk_at "rc step"
  refine ⟨_, _, .inr _, _, rfl, .k hf0.b, rfl, rfl, ?_⟩
  rw [hf0.v.h]
  repeat walk_at "rc step"
  refine ⟨_, _, rfl, ?_⟩
  repeat walk_at "rc step"
  refine c_l_first_full hf ok ⟨hno0.1, by omega⟩ hu (fun h0 => ?_) (fun h0 l => ?_)
  · repeat walk_at "rc step"
    refine b_put hB ok fun R1 h1 => ?_
    have ok1 := row_ok ok ⟨by omega, hc.2⟩ ht
    obtain ⟨B1, dl1, jk1, p1, v1, hj1⟩ := id h1
    have hf1 := BkF0.of ok1 p1 v1
    obtain ⟨b, hb, eb⟩ := v1.mem (d := ⟨no, none⟩) hd
    have en : b.no = no := congrArg Pd.no eb
    have ew : b.wr = [] := by
      have e2 : b.wr.head? = none := congrArg Pd.w eb
      simpa using e2
    have lk := lk_dd hb hf1.d.srt
    have hdd := hf1.d.d b hb
    have hdw := hdd.w
    rw [en] at lk
    repeat walk_at "rc step"
    refine ⟨_, _, .inr _, _, rfl, .k hf1.b, rfl, rfl, ?_⟩
    repeat walk_at "rc step"
    refine ⟨_, _, .inl no, _, rfl, .k hf1.k, rfl, lk, ?_⟩
    repeat walk_at "rc step"
    refine ⟨_, _, .inr _, _, rfl, .k hdd.c, rfl, rfl, ?_⟩
    refine ⟨_, _, rfl, hdw, by rw [ew]; decide, ?_⟩
    repeat walk_at "rc step"
    refine ⟨_, _, .inr _, _, rfl, .k hf1.b, rfl, rfl, ?_⟩
    repeat walk_at "rc step"
    have hpn : no.toNat < s.n := by omega
    have epn : ((no.toNat : Nat) : Int) = no := Int.toNat_of_nonneg hno0.1
    refine ro_ixL (.c hf1.pool) (by have := atI_F (f := s.pool) hpn; rw [epn] at this; exact this) ?_
    repeat walk_at "rc step"
    obtain ⟨nn, hnn⟩ := List.mem_iff_getElem?.mp hdw
    refine ⟨nn, hnn, ?_⟩
    have h2 := bk_append p1 v1 hj1 hf1.d.srt hb ew (w := ⟨s.head, no, s.pool no.toNat, x, u⟩) hnn
    rw [en] at h2
    repeat walk_at "rc step"
    refine b_set2 (p := no.toNat) h2 epn.symm hpn fun R2 h3 => ?_
    repeat walk_at "rc step"
    exact hF1 h0 R2 h3
  · repeat walk_at "rc step"
    exact hF2 h0 l
end
end Rc
-- G25
set_option Elab.async false
set_option linter.all false
set_option maxRecDepth 100000
set_option maxHeartbeats 4000000
namespace Rc
open PySem PySem.Spec PyProof.Rows L2 RcHead
local macro_rules | `(tactic| walk_at "rc mem") => `(tactic| first | assumption | exact List.mem_cons_self | ((with_reducible (refine List.mem_cons_of_mem _ ?_)); walk_at "rc mem"))
local macro_rules | `(tactic| walk_at "rc end") => `(tactic| fail)
local macro_rules | `(tactic| walk_at "rc lst") => `(tactic| with_reducible refine em_lst ?_)
local macro_rules | `(tactic| walk_at "rc call") => `(tactic| fail)
local macro_rules | `(tactic| walk_at "rc step") => `(tactic| first
  | ((with_reducible (apply em_var)); rfl)
  | with_reducible refine em_c ?_
  | with_reducible refine em_op ?_
  | with_reducible refine ro_I0 ?_
  | ((with_reducible (refine ro_eq ?_ ?_)); rfl)
  | ((with_reducible (refine ro_ne ?_ ?_)); rfl)
  | with_reducible refine ro_isN ?_
  | with_reducible refine ro_notN ?_
  | with_reducible refine ea_nil ?_
  | with_reducible refine ea_cons ?_
  | with_reducible refine em_call ?_
  | walk_at "rc call"
  | (with_reducible refine em_fld ?_)
  | (refine ⟨_, _, _, _, rfl, (by walk_at "rc mem"), (by assumption), (by assumption), (by rfl), ?_⟩)
  | with_reducible refine ra_listV ?_
  | with_reducible refine em_cb ?_
  | with_reducible refine em_tup ?_
  | walk_at "rc lst"
  | with_reducible refine em_if ?_
  | with_reducible refine em_andV ?_
  | with_reducible refine em_orV ?_
  | with_reducible refine em_notV ?_
  | with_reducible refine em_chain ?_
  | with_reducible refine et_test ?_
  | with_reducible refine et_B ?_
  | with_reducible refine et_and ?_
  | with_reducible refine et_or ?_
  | with_reducible refine et_not ?_
  | with_reducible refine et_yes ?_
  | with_reducible refine sx_seq ?_
  | with_reducible refine sx_next ?_
  | with_reducible refine sx_asg ?_
  | with_reducible refine sx_ret ?_
  | with_reducible refine sx_append ?_
  | with_reducible refine sx_drop ?_
  | with_reducible refine sx_if ?_
  | (refine ⟨_, rfl, ?_⟩)
  | (refine ⟨fun _ => ?_, fun z => Bool.noConfusion z⟩)
  | (refine ⟨fun z => Bool.noConfusion z, fun _ => ?_⟩)
  | with_reducible refine em_make ?_
  | with_reducible refine em_meth ?_
  | (refine ⟨_, _, rfl, (by walk_at "rc mem"), rfl, ?_⟩)
  | with_reducible refine em_neg ?_
  | with_reducible refine sx_fld ?_
  | (refine ⟨_, _, _, 0, rfl, rfl, (by assumption), (by assumption), (of_decide_eq_true rfl), ?_⟩)
  | ((with_reducible (apply ra_len)); (first | exact .l .d | exact .t | exact .l (.c (by walk_at "rc mem"))))
  | ((with_reducible (apply ra_lenK)); (walk_at "rc mem"))
  | ((with_reducible (apply ro_ixL)); (first | exact .d | exact .c (by walk_at "rc mem")); (first | rfl | exact atI_0))
  | ((with_reducible (apply ro_ixT)); rfl)
  | (with_reducible (refine gx_name ?_ (by decide)))
  | ((with_reducible (apply gx_tupR)); rfl)
  | with_reducible refine gxs_cons ?_
  | with_reducible refine gxs_nil ?_
  | (exact ⟨rfl, rfl⟩)
  | (refine ⟨rfl, ?_⟩)
  | with_reducible refine em_dget ?_
  | with_reducible refine sx_lockAsg ?_
  | with_reducible refine em_din ?_
  | with_reducible refine em_dnotIn ?_
  | ((with_reducible (apply sx_aug)); rfl)
  | with_reducible refine sx_setL ?_
  | with_reducible refine sx_dput ?_
  | with_reducible refine gx_fld ?_
  | (with_reducible (apply sx_fldAug))
  | ((with_reducible (apply sx_rz)); assumption)
  | (refine ⟨(by simp only [List.length_cons, List.length_nil]; omega), ?_⟩))
local macro_rules | `(tactic| walk_at "rc perm") => `(tactic| (refine Mu.of ?_; simp only [Mu.app, Mu.cons, Mu.nil, Mu.nil_add, Mu.add_nil, List.append_eq]; ac_rfl))
section
variable [Tbl] {P : Program} {w : World} {K : PySem.W.Frag} {mg : Str → Option Value} {base : Heap}
theorem wd_open_trip : decide (V.str "open" = V.str "trip") = false := by decide
theorem wd_open_restart : decide (V.str "open" = V.str "restart") = false := by decide
theorem wd_open_open : decide (V.str "open" = V.str "open") = true := by decide
theorem wd_open_home : decide (V.str "open" = V.str "home") = false := by decide
theorem wd_open_write : decide (V.str "open" = V.str "write") = false := by decide
theorem wd_open_back : decide (V.str "open" = V.str "back") = false := by decide
theorem wd_open_end : decide (V.str "open" = V.str "end") = false := by decide
theorem wd_open_cut : decide (V.str "open" = V.str "cut") = false := by decide
theorem wd_open_carry : decide (V.str "open" = V.str "carry") = false := by decide
theorem wd_write_trip : decide (V.str "write" = V.str "trip") = false := by decide
theorem wd_write_restart : decide (V.str "write" = V.str "restart") = false := by decide
theorem wd_write_open : decide (V.str "write" = V.str "open") = false := by decide
theorem wd_write_home : decide (V.str "write" = V.str "home") = false := by decide
theorem wd_write_write : decide (V.str "write" = V.str "write") = true := by decide
theorem wd_write_back : decide (V.str "write" = V.str "back") = false := by decide
theorem wd_write_end : decide (V.str "write" = V.str "end") = false := by decide
theorem wd_write_cut : decide (V.str "write" = V.str "cut") = false := by decide
theorem wd_write_carry : decide (V.str "write" = V.str "carry") = false := by decide
theorem wd_end_trip : decide (V.str "end" = V.str "trip") = false := by decide
theorem wd_end_restart : decide (V.str "end" = V.str "restart") = false := by decide
theorem wd_end_open : decide (V.str "end" = V.str "open") = false := by decide
theorem wd_end_home : decide (V.str "end" = V.str "home") = false := by decide
theorem wd_end_write : decide (V.str "end" = V.str "write") = false := by decide
theorem wd_end_back : decide (V.str "end" = V.str "back") = false := by decide
theorem wd_end_end : decide (V.str "end" = V.str "end") = true := by decide
theorem wd_end_cut : decide (V.str "end" = V.str "cut") = false := by decide
theorem wd_end_carry : decide (V.str "end" = V.str "carry") = false := by decide
theorem wd_cut_trip : decide (V.str "cut" = V.str "trip") = false := by decide
theorem wd_cut_restart : decide (V.str "cut" = V.str "restart") = false := by decide
theorem wd_cut_open : decide (V.str "cut" = V.str "open") = false := by decide
theorem wd_cut_home : decide (V.str "cut" = V.str "home") = false := by decide
theorem wd_cut_write : decide (V.str "cut" = V.str "write") = false := by decide
theorem wd_cut_back : decide (V.str "cut" = V.str "back") = false := by decide
theorem wd_cut_end : decide (V.str "cut" = V.str "end") = false := by decide
theorem wd_cut_cut : decide (V.str "cut" = V.str "cut") = true := by decide
theorem wd_cut_carry : decide (V.str "cut" = V.str "carry") = false := by decide
theorem wd_carry_trip : decide (V.str "carry" = V.str "trip") = false := by decide
theorem wd_carry_restart : decide (V.str "carry" = V.str "restart") = false := by decide
theorem wd_carry_open : decide (V.str "carry" = V.str "open") = false := by decide
theorem wd_carry_home : decide (V.str "carry" = V.str "home") = false := by decide
theorem wd_carry_write : decide (V.str "carry" = V.str "write") = false := by decide
theorem wd_carry_back : decide (V.str "carry" = V.str "back") = false := by decide
theorem wd_carry_end : decide (V.str "carry" = V.str "end") = false := by decide
theorem wd_carry_cut : decide (V.str "carry" = V.str "cut") = false := by decide
theorem wd_carry_carry : decide (V.str "carry" = V.str "carry") = true := by decide
local macro_rules | `(tactic| walk_at "rc call") => `(tactic| simp only [wd_open_trip, wd_open_restart, wd_open_open, wd_open_home, wd_open_write, wd_open_back, wd_open_end, wd_open_cut, wd_open_carry, wd_write_trip, wd_write_restart, wd_write_open, wd_write_home, wd_write_write, wd_write_back, wd_write_end, wd_write_cut, wd_write_carry, wd_end_trip, wd_end_restart, wd_end_open, wd_end_home, wd_end_write, wd_end_back, wd_end_end, wd_end_cut, wd_end_carry, wd_cut_trip, wd_cut_restart, wd_cut_open, wd_cut_home, wd_cut_write, wd_cut_back, wd_cut_end, wd_cut_cut, wd_cut_carry, wd_carry_trip, wd_carry_restart, wd_carry_open, wd_carry_home, wd_carry_write, wd_carry_back, wd_carry_end, wd_carry_cut, wd_carry_carry])
inductive Act where
  | op
  | wr (no x c u : Int)
  | en (d : Pd)
  | ct (d : Pd)
  | cy (d : Pd) (w : Wt)
def actD : Act → D
  | .op => .t [.v (.str "open"), .v (.int 1)]
  | .wr no x c u => .t [.v (.str "write"), .v (.int no), .v (.int no), .v (.int x), .v (.int c), .v (.int u)]
  | .en d => .t [.v (.str "end"), .v (.int d.no)]
  | .ct d => .t [.v (.str "cut"), .v (.int d.no)]
  | .cy d w => .t [.v (.str "carry"), .v (.int d.no)]
def ActOk (s : Ps) : Act → Prop
  | .op => s.dl.length ≤ 40
  | .wr no x c u => (⟨no, none⟩ : Pd) ∈ s.dl ∧ no < s.n ∧ holdP s.dl no = .non ∧ (1 ≤ c ∧ c ≤ 1000) ∧ (1 ≤ u ∧ u ≤ 1000) ∧ (0 ≤ x ∧ x ≤ 1000000000000000000000000000000)
  | .en d => d ∈ s.dl
  | .ct d => d ∈ s.dl
  | .cy d w => d ∈ s.dl ∧ d.w = some w
def wayK (s : Ps) : Act → Nat
  | .op => 0
  | .wr no x c u => hvk s c (newL s no u)
  | .en d => (match d.w with
    | none => 0
    | some _ => hvk s 1 (trs s.dl))
  | .ct d => hvk s (undP d) (trs (delW s.dl d.no))
  | .cy d w => hvk s w.undo (trs s.dl)
def wayL (s : Ps) : Act → List (Int × Int × Int)
  | .ct d => trs (delW s.dl d.no)
  | _ => trs s.dl
def wayV (s : Ps) : Act → V
  | .op => .int s.nxt
  | _ => .non
def wayS (s : Ps) : Act → Ps
  | .op => openS s
  | .wr no x c u => writeS s no x c u
  | .en d => (match d.w with
    | none => dropS s d.no
    | some _ => endS s d.no)
  | .ct d => (match d.w with
    | none => dropS s d.no
    | some w => undoS s d.no w)
  | .cy d w => carryS s d.no w
def isWr : Act → Bool
  | .wr _ _ _ _ => true
  | _ => false
def lotsL (s : Ps) (A : Act) : List D := ((srt (wayL s A)).take (wayK s A)).map fun t => .v (.int t.2.2)
theorem way_en0 {s : Ps} {d : Pd} (h : d.w = none) : wayK s (.en d) = 0 ∧ wayS s (.en d) = dropS s d.no := by
  obtain ⟨no, w⟩ := d
  cases h
  exact ⟨rfl, rfl⟩
theorem way_en1 {s : Ps} {d : Pd} (h : d.w ≠ none) : wayK s (.en d) = hvk s 1 (trs s.dl) ∧ wayS s (.en d) = endS s d.no := by
  obtain ⟨no, w⟩ := d
  cases w with
  | none => exact absurd rfl h
  | some w => exact ⟨rfl, rfl⟩
theorem way_ct0 {s : Ps} {d : Pd} (h : d.w = none) : wayS s (.ct d) = dropS s d.no := by
  obtain ⟨no, w⟩ := d
  cases h
  rfl
theorem way_ct1 {s : Ps} {d : Pd} {w : Wt} (h : d.w = some w) : wayS s (.ct d) = undoS s d.no w := by
  obtain ⟨no, w⟩ := d
  cases h
  rfl
theorem pt_dd {ds : List Dd} {no : Int} {d : Dd} (e : d.no = no) (h : ∀ b ∈ ds, b.no < no) : ptK (.inl no) (.v (.ref d.a)) (vK (ddK ds)) = vK (ddK (ds ++ [d])) := by
  have e1 : ((vK (ddK ds)).any fun kv => decide (kv.1 = .inl no)) = false := by
    rw [List.any_eq_false]
    intro q hq
    unfold vK ddK at hq
    rw [List.map_map] at hq
    obtain ⟨b, hb, e2⟩ := List.mem_map.mp hq
    rw [← e2]
    have := h b hb
    simp
    omega
  unfold ptK
  rw [e1]
  simp [ddK, e]
theorem bk_next {B : Bk} {x : Int} : ptK (.inr "next") (.v (.int x)) (bkFs B) = bkFs { B with nxt := x } := rfl
theorem sc_l_do : FnScope ["_law_book_here", "_law_action", "_law_word"] ["_law_book_here", "_law_action"] (defScope (top 77)) := ⟨rfl, rfl, rfl, by decide +kernel, rfl, by decide +kernel, by decide +kernel⟩
theorem kp_l_do (W : Wd w K mg base) : PySem.W.keepIn K (.ref (He.fAd K ("_law_do", none))) = true := W.kp 35
theorem b_l_do (W : Wd w K mg base) : Binds K (fdO K (He.fAd K ("_law_do", none))) ["_law_book_here", "_law_action"] [] := (W.F 35).bindsN fun _ _ _ _ _ _ us hl => match us, hl with | [_, _], _ => rfl
def gm_l_do [Tbl] : Gm := fun ds R F => ∃ (bk : Addr) (s : Ps) (t : Nat) (A : Act) (X : Rg), ds = [.v (.ref bk), actD A] ∧ BkAt bk s R X ∧ PsOk s t ∧ t + 1 ≤ 60000 ∧ ActOk s A ∧ (wayK s A = 0 → ∀ R', BkAt bk (wayS s A) R' X → F (toldD (wayV s A)) R') ∧ (wayK s A ≠ 0 → ∀ l, (isWr A = false → l = lotsL s A) → F (fullD (.t l)) R)
abbrev sp_l_do [Tbl] : Sp := spM (gm_l_do)
theorem c_l_do [Tbl] {H0 : Hp} {R0 R X : Rg} {Ex : XK} {F : D → Rg → Prop} {bk : Addr} {s : Ps} {t : Nat} {A : Act} (h1 : BkAt bk s R X) (h2 : PsOk s t) (h3 : t + 1 ≤ 60000) (h4 : ActOk s A) (k1 : wayK s A = 0 → ∀ R', BkAt bk (wayS s A) R' X → F (toldD (wayV s A)) R') (k2 : wayK s A ≠ 0 → ∀ l, (isWr A = false → l = lotsL s A) → F (fullD (.t l)) R) : RS H0 R0 sp_l_do Ex [.v (.ref bk), actD A] R F := rs_m ⟨bk, s, t, A, X, rfl, h1, h2, h3, h4, k1, k2⟩
theorem ok_l_do (W : Wd w K mg base) : FnOk P w K mg base CX0 9 (He.fAd K ("_law_do", none)) (fdO K (He.fAd K ("_law_do", none))) ["_law_book_here", "_law_action"] (sp_l_do) := by
  refine (W.F 35).ok sc_l_do ?_ (fun cdv A outer s H vs Q E hr h => ?_)
  · exact lenM fun ds R F h => by obtain ⟨bk, s, t, A, X, rfl, hB, ok, ht, hA, hF1, hF2⟩ := h; rfl
  have hu64 := hr.units
  have hu := Nat.lt_of_le_of_lt (Nat.add_le_add_left (show 1 ≤ 64 by decide) _) hu64
  refine ⟨_, PSs.nox (pss_cons (ps_set (i := 2) sc_l_do.nd rfl (.inl rfl) (pe_ix (ixtK (K := K) rfl) (pv 1) pe_int (fun _ _ => rfl)))
    (pss_cons (ps_if (pt_cmpR op_eq (pv 2) pe_str (nomark _))
    pss_never
    pss_nil)
    (pss_cons (ps_if (pt_cmpR op_eq (pv 2) pe_str (nomark _))
    pss_never
    pss_nil)
    (pss_cons (ps_if (pt_val (pe_dget hu (pv 0) pe_str (fun _ _ => rfl)))
    pss_never
    pss_nil)
    (pss_cons (ps_if (pt_cmpR op_eq (pv 2) pe_str (nomark _))
    (pss_cons (ps_dput hu (pe_dget hu (pv 0) pe_str (fun _ _ => rfl)) (pe_dget hu (pv 0) pe_str (fun _ _ => rfl)) (pe_disp (pps_cons pe_str (pe_ix (ixtK (K := K) rfl) (pv 1) pe_int (fun _ _ => rfl)) (pps_cons pe_str (pe_lst pa_nil) pps_nil)) rfl rfl (by simp) (by decide)) rfl)
    (pss_cons (ps_dput hu (pv 0) pe_str (pe_op op_add (pe_dget hu (pv 0) pe_str (fun _ _ => rfl)) pe_int) rfl)
    (pss_one (ps_ret (pe_tup (pa_cons pe_str (pa_cons (pe_op op_sub (pe_dget hu (pv 0) pe_str (fun _ _ => rfl)) pe_int) pa_nil)))))))
    pss_nil)
    (pss_cons (ps_if (pt_cmpR op_eq (pv 2) pe_str (nomark _))
    pss_never
    pss_nil)
    (pss_cons (ps_if (pt_cmpR op_eq (pv 2) pe_str (nomark _))
    (pss_one (ps_ret (pe_call (ok_l_do_write (K := K) W) (hr.mono (by decide)) rfl (W.glo 31) (kp_l_do_write W) (b_l_do_write W) .nil pass0 (pa_cons (pv 0) (pa_cons (pe_ix (ixtK (K := K) rfl) (pv 1) pe_int (fun _ _ => rfl)) (pa_cons (pe_ix (ixtK (K := K) rfl) (pv 1) pe_int (fun _ _ => rfl)) (pa_cons (pe_ix (ixtK (K := K) rfl) (pv 1) pe_int (fun _ _ => rfl)) (pa_cons (pe_ix (ixtK (K := K) rfl) (pv 1) pe_int (fun _ _ => rfl)) (pa_cons (pe_ix (ixtK (K := K) rfl) (pv 1) pe_int (fun _ _ => rfl)) pa_nil)))))))))
    pss_nil)
    (pss_cons (ps_if (pt_cmpR op_eq (pv 2) pe_str (nomark _))
    pss_never
    pss_nil)
    (pss_cons (ps_if (pt_cmpR op_eq (pv 2) pe_str (nomark _))
    (pss_one (ps_ret (pe_call (ok_l_do_end (K := K) W) (hr.mono (by decide)) rfl (W.glo 32) (kp_l_do_end W) (b_l_do_end W) .nil pass0 (pa_cons (pv 0) (pa_cons (pe_ix (ixtK (K := K) rfl) (pv 1) pe_int (fun _ _ => rfl)) pa_nil)))))
    pss_nil)
    (pss_one (ps_ret (pe_ifExp (pt_cmpR op_eq (pv 2) pe_str (nomark _)) (pe_call (ok_l_do_cut (K := K) W) (hr.mono (by decide)) rfl (W.glo 33) (kp_l_do_cut W) (b_l_do_cut W) .nil pass0 (pa_cons (pv 0) (pa_cons (pe_ix (ixtK (K := K) rfl) (pv 1) pe_int (fun _ _ => rfl)) pa_nil))) (pe_call (ok_l_do_carry (K := K) W) (hr.mono (by decide)) rfl (W.glo 34) (kp_l_do_carry W) (b_l_do_carry W) .nil pass0 (pa_cons (pv 0) (pa_cons (pe_ix (ixtK (K := K) rfl) (pv 1) pe_int (fun _ _ => rfl)) pa_nil))))))))))))))), entryM h ?_⟩
  clear h hu hu64 hr
  rintro ds R F ⟨bk, s, t, A, X, rfl, hB, ok, ht, hA, hF1, hF2⟩
  have hf := hB.f ok
  obtain ⟨B, dl, hf0⟩ := id hf
  cases A with
  | cy d w =>
    simp only [actD]
    repeat walk_at "rc step"
    refine ⟨_, _, .inr _, _, rfl, .k hf0.b, rfl, rfl, ?_⟩
    repeat walk_at "rc step"
    exact c_l_do_carry hB ok hA.1 hA.2 hF1 fun h => hF2 h _ fun _ => rfl
  | en d =>
    simp only [actD]
    repeat walk_at "rc step"
    refine ⟨_, _, .inr _, _, rfl, .k hf0.b, rfl, rfl, ?_⟩
    repeat walk_at "rc step"
    refine c_l_do_end hB ok hA (fun cw => ?_) (fun cw => ?_) (fun cw => ?_)
    · obtain ⟨e1, e2⟩ := way_en0 (s := s) cw
      rw [e1, e2] at hF1
      exact hF1 rfl
    · obtain ⟨e1, e2⟩ := way_en1 (s := s) cw
      rw [e1, e2] at hF1
      exact hF1
    · intro h
      obtain ⟨e1, e2⟩ := way_en1 (s := s) cw
      refine hF2 (by rw [e1]; exact h) _ fun _ => ?_
      unfold lotsL
      rw [e1]
      rfl
  | ct d =>
    simp only [actD]
    repeat walk_at "rc step"
    refine ⟨_, _, .inr _, _, rfl, .k hf0.b, rfl, rfl, ?_⟩
    repeat walk_at "rc step"
    refine c_l_do_cut hB ok hA (fun h cw => ?_) (fun h w cw => ?_) (fun h => hF2 h _ fun _ => rfl)
    · have := hF1 h
      rw [way_ct0 cw] at this
      exact this
    · have := hF1 h
      rw [way_ct1 cw] at this
      exact this
  | wr no x c u =>
    simp only [actD]
    repeat walk_at "rc step"
    refine ⟨_, _, .inr _, _, rfl, .k hf0.b, rfl, rfl, ?_⟩
    repeat walk_at "rc step"
    exact c_l_do_write hB ok ht hA.1 hA.2.1 hA.2.2.1 hA.2.2.2.1 hA.2.2.2.2.1 hF1 fun h l => hF2 h l fun z => by cases z
  | op =>
    simp only [actD]
    repeat walk_at "rc step"
    refine ⟨_, _, .inr _, _, rfl, .k hf0.b, rfl, rfl, ?_⟩
    repeat walk_at "rc step"
    obtain ⟨B, dl, jk, p, v, hj⟩ := hB
    have p1 : R.Perm (bcore bk B s.n s.home s.pool s.bd ((B.deedsA, RC.k (vK (ddK dl))) :: (dl.flatMap dcells ++ jk ++ X))) := p
    refine em_perm p1 ?_
    have hlt : ∀ b ∈ dl, b.no < B.nxt := fun b hb => by
      have := (ok.no (ddP b) (by rw [← v.dl]; exact List.mem_map.mpr ⟨b, hb, rfl⟩)).2
      rw [v.nx]
      exact this
    have hz := v.z ok
    refine em_dispP fun da => ?_
    refine em_c (em_op (em_var rfl (em_c (ro_ixT rfl ?_))))
    refine em_c (em_lstC (ea_nil ⟨Nat.zero_le _, fun wA => ?_⟩))
    refine ⟨ddFs ⟨B.nxt, 1, da, wA, []⟩, (wA, .l []) :: bcore bk B s.n s.home s.pool s.bd ((B.deedsA, RC.k (vK (ddK dl))) :: (dl.flatMap dcells ++ jk ++ X)), List.Perm.swap _ _ _, rfl, (by decide : 2 ≤ 15), ?_⟩
    have m0 : (bk, RC.k (bkFs B)) ∈ (da, RC.k (mgK [] (ddFs ⟨B.nxt, 1, da, wA, []⟩))) :: (wA, RC.l []) :: bcore bk B s.n s.home s.pool s.bd ((B.deedsA, RC.k (vK (ddK dl))) :: (dl.flatMap dcells ++ jk ++ X)) := by
      unfold bcore
      simp
    repeat walk_at "rc step"
    refine ⟨bk, bkFs B, .inr "deeds", _, rfl, .k m0, rfl, rfl, ?_⟩
    repeat walk_at "rc step"
    refine ⟨bk, bkFs B, .inr "next", _, rfl, .k m0, rfl, rfl, ?_⟩
    refine ⟨B.deedsA, vK (ddK dl), .inl B.nxt, 6, rfl, rfl, rfl, by simp [ddK]; omega, ?_⟩
    rw [pt_dd (d := ⟨B.nxt, 1, da, wA, []⟩) rfl hlt]
    refine sx_seq (sx_dput ?_)
    repeat walk_at "rc step"
    refine ⟨bk, bkFs B, .inr "next", _, rfl, .k (by unfold bcore; simp), rfl, rfl, ?_⟩
    repeat walk_at "rc step"
    refine ⟨bk, bkFs B, .inr "next", 2, rfl, rfl, rfl, (by decide : 9 < 100000), ?_⟩
    rw [bk_next]
    repeat walk_at "rc step"
    refine ⟨bk, bkFs { B with nxt := B.nxt + 1 }, .inr "next", _, rfl, .k (by unfold bcore; simp), rfl, rfl, ?_⟩
    repeat walk_at "rc step"
    have e9 : B.nxt + 1 - 1 = s.nxt := by
      have := v.nx
      omega
    rw [e9]
    refine hF1 rfl _ (BkAt.perm ?_ (BkAt.mk (s := openS s) (B := { B with nxt := B.nxt + 1 }) (ds := dl ++ [(⟨B.nxt, 1, da, wA, []⟩ : Dd)]) (jk := jk) (rest := (B.deedsA, RC.k (vK (ddK (dl ++ [(⟨B.nxt, 1, da, wA, []⟩ : Dd)])))) :: ((dl ++ [(⟨B.nxt, 1, da, wA, []⟩ : Dd)]).flatMap dcells ++ jk) ++ X) rfl rfl rfl (List.Perm.refl _) ⟨v.c, v.h, ?_, ?_, fun x hx => ?_⟩ hj))
    · have e3 : mgK [] (ddFs ⟨B.nxt, 1, da, wA, []⟩) = ddFs ⟨B.nxt, 1, da, wA, []⟩ := rfl
      rw [e3]
      unfold bcore
      simp only [List.set_cons_succ, List.set_cons_zero, List.flatMap_append, List.flatMap_cons, List.flatMap_nil, dcells, List.map_nil, List.cons_append, List.nil_append]
      walk_at "rc perm"
    · show B.nxt + 1 = s.nxt + 1
      rw [v.nx]
    · show _ = s.dl ++ _
      rw [List.map_append, v.dl, v.nx]
      rfl
    · rcases List.mem_append.mp hx with z | z
      · exact v.one x z
      · rw [List.mem_singleton.mp z]; exact ⟨rfl, Nat.zero_le _⟩
end
end Rc
-- G26
set_option Elab.async false
set_option linter.all false
set_option maxRecDepth 100000
set_option maxHeartbeats 4000000
namespace Rc
open PySem PySem.Spec PyProof.Rows L2 RcHead
local macro_rules | `(tactic| walk_at "rc mem") => `(tactic| first | assumption | exact List.mem_cons_self | ((with_reducible (refine List.mem_cons_of_mem _ ?_)); walk_at "rc mem"))
local macro_rules | `(tactic| walk_at "rc end") => `(tactic| fail)
local macro_rules | `(tactic| walk_at "rc lst") => `(tactic| with_reducible refine em_lst ?_)
local macro_rules | `(tactic| walk_at "rc call") => `(tactic| fail)
local macro_rules | `(tactic| walk_at "rc step") => `(tactic| first
  | ((with_reducible (apply em_var)); rfl)
  | with_reducible refine em_c ?_
  | with_reducible refine em_op ?_
  | with_reducible refine ro_I0 ?_
  | ((with_reducible (refine ro_eq ?_ ?_)); rfl)
  | ((with_reducible (refine ro_ne ?_ ?_)); rfl)
  | with_reducible refine ro_isN ?_
  | with_reducible refine ro_notN ?_
  | with_reducible refine ea_nil ?_
  | with_reducible refine ea_cons ?_
  | with_reducible refine em_call ?_
  | walk_at "rc call"
  | (with_reducible refine em_fld ?_)
  | (refine ⟨_, _, _, _, rfl, (by walk_at "rc mem"), (by assumption), (by assumption), (by rfl), ?_⟩)
  | with_reducible refine ra_listV ?_
  | with_reducible refine em_cb ?_
  | with_reducible refine em_tup ?_
  | walk_at "rc lst"
  | with_reducible refine em_if ?_
  | with_reducible refine em_andV ?_
  | with_reducible refine em_orV ?_
  | with_reducible refine em_notV ?_
  | with_reducible refine em_chain ?_
  | with_reducible refine et_test ?_
  | with_reducible refine et_B ?_
  | with_reducible refine et_and ?_
  | with_reducible refine et_or ?_
  | with_reducible refine et_not ?_
  | with_reducible refine et_yes ?_
  | with_reducible refine sx_seq ?_
  | with_reducible refine sx_next ?_
  | with_reducible refine sx_asg ?_
  | with_reducible refine sx_ret ?_
  | with_reducible refine sx_append ?_
  | with_reducible refine sx_drop ?_
  | with_reducible refine sx_if ?_
  | (refine ⟨_, rfl, ?_⟩)
  | (refine ⟨fun _ => ?_, fun z => Bool.noConfusion z⟩)
  | (refine ⟨fun z => Bool.noConfusion z, fun _ => ?_⟩)
  | with_reducible refine em_make ?_
  | with_reducible refine em_meth ?_
  | (refine ⟨_, _, rfl, (by walk_at "rc mem"), rfl, ?_⟩)
  | with_reducible refine em_neg ?_
  | with_reducible refine sx_fld ?_
  | (refine ⟨_, _, _, 0, rfl, rfl, (by assumption), (by assumption), (of_decide_eq_true rfl), ?_⟩)
  | ((with_reducible (apply ra_len)); (first | exact .l .d | exact .t | exact .l (.c (by walk_at "rc mem"))))
  | ((with_reducible (apply ra_lenK)); (walk_at "rc mem"))
  | ((with_reducible (apply ro_ixL)); (first | exact .d | exact .c (by walk_at "rc mem")); (first | rfl | exact atI_0))
  | ((with_reducible (apply ro_ixT)); rfl)
  | (with_reducible (refine gx_name ?_ (by decide)))
  | ((with_reducible (apply gx_tupR)); rfl)
  | with_reducible refine gxs_cons ?_
  | with_reducible refine gxs_nil ?_
  | (exact ⟨rfl, rfl⟩)
  | (refine ⟨rfl, ?_⟩)
  | with_reducible refine em_dget ?_
  | with_reducible refine sx_lockAsg ?_
  | with_reducible refine em_din ?_
  | with_reducible refine em_dnotIn ?_
  | ((with_reducible (apply sx_aug)); rfl)
  | with_reducible refine sx_setL ?_
  | with_reducible refine sx_dput ?_
  | with_reducible refine gx_fld ?_
  | (with_reducible (apply sx_fldAug))
  | ((with_reducible (apply sx_rz)); assumption)
  | (refine ⟨(by simp only [List.length_cons, List.length_nil]; omega), ?_⟩))
local macro_rules | `(tactic| walk_at "rc perm") => `(tactic| (refine Mu.of ?_; simp only [Mu.app, Mu.cons, Mu.nil, Mu.nil_add, Mu.add_nil, List.append_eq]; ac_rfl))
section
variable [Tbl] {P : Program} {w : World} {K : PySem.W.Frag} {mg : Str → Option Value} {base : Heap}
local macro_rules | `(tactic| walk_at "rc call") => `(tactic| simp only [wd_open_trip, wd_open_restart, wd_open_open, wd_open_home, wd_open_write, wd_open_back, wd_open_end, wd_open_cut, wd_open_carry, wd_write_trip, wd_write_restart, wd_write_open, wd_write_home, wd_write_write, wd_write_back, wd_write_end, wd_write_cut, wd_write_carry, wd_end_trip, wd_end_restart, wd_end_open, wd_end_home, wd_end_write, wd_end_back, wd_end_end, wd_end_cut, wd_end_carry, wd_cut_trip, wd_cut_restart, wd_cut_open, wd_cut_home, wd_cut_write, wd_cut_back, wd_cut_end, wd_cut_cut, wd_cut_carry, wd_carry_trip, wd_carry_restart, wd_carry_open, wd_carry_home, wd_carry_write, wd_carry_back, wd_carry_end, wd_carry_cut, wd_carry_carry])
theorem ld_app {h : Int} {ts : List (Int × Int)} {x : Int × Int} {i : Nat} (hi : i < ts.length) : ldAt h (ts ++ [x]) i = ldAt h ts i := by
  unfold ldAt
  rw [List.take_append_of_le_length (by omega), List.getD_eq_getElem?_getD, List.getElem?_append_left hi, ← List.getD_eq_getElem?_getD]
theorem ld_last {h : Int} {ts : List (Int × Int)} {x : Int × Int} : ldAt h (ts ++ [x]) ts.length = h - x.1 + ((ts.map (·.2)).sum + x.2) := by
  unfold ldAt
  have e1 : (ts ++ [x]).getD ts.length (0, 0) = x := by
    rw [List.getD_eq_getElem?_getD, List.getElem?_append_right (Nat.le_refl _), Nat.sub_self]
    rfl
  have e2 : (ts ++ [x]).take (ts.length + 1) = ts ++ [x] := List.take_of_length_le (by simp)
  rw [e1, e2, List.map_append, List.sum_append]
  simp
theorem hvN_zero {c h : Int} {ts : List (Int × Int)} : hvN c h ts = 0 ↔ ∀ i, i < ts.length → ldAt h ts i ≤ c := by
  unfold hvN
  constructor
  · intro hz i hi
    cases e : (hvL c h ts).getLast? with
    | some j => rw [e] at hz; cases hz
    | none =>
      have e2 := List.getLast?_eq_none_iff.mp e
      unfold hvL at e2
      have := List.filter_eq_nil_iff.mp e2 i (List.mem_range.mpr hi)
      simpa using this
  · intro hz
    have e2 : hvL c h ts = [] := by
      unfold hvL
      refine List.filter_eq_nil_iff.mpr fun i hi => ?_
      simpa using hz i (List.mem_range.mp hi)
    rw [e2]
    rfl
theorem sum_nn : ∀ {l : List Int}, (∀ x ∈ l, 0 ≤ x) → 0 ≤ l.sum
  | [], _ => Int.le_refl _
  | a :: l, h => by
    rw [List.sum_cons]
    have := h a List.mem_cons_self
    have := sum_nn (l := l) fun x hx => h x (List.mem_cons_of_mem _ hx)
    omega
theorem srt_new {s : Ps} {t : Nat} (ok : PsOk s t) (no u : Int) : srt (newL s no u) = srt (trs (delW s.dl no)) ++ [(s.head, u, no)] := by
  refine (srt_uniq ((srt_perm _).append_right _) (List.pairwise_append.mpr ⟨srt_pw _, by simp, fun a ha b hb => ?_⟩) (newL_nd ok no u)).symm
  have hb' : b = (s.head, u, no) := by simpa using hb
  obtain ⟨d, hd, w, hw, rfl⟩ := trs_mem ((srt_perm _).mem_iff.mp ha)
  have := ok.w d (List.mem_filter.mp hd).1 w hw
  rw [hb']
  show w.place ≤ s.head
  omega
theorem acc_of {s : Ps} {t : Nat} (ok : PsOk s t) {no c u : Int} (hu : 1 ≤ u) (h : hvk s c (newL s no u) = 0) : c + u ≤ s.c ∧ hvk s c (trs (delW s.dl no)) = 0 ∧ c + u + ((srt (trs (delW s.dl no))).map fun t => t.2.1).sum ≤ s.c := by
  unfold hvk at h ⊢
  rw [srt_new ok, List.map_append, show List.map two [(s.head, u, no)] = [(s.head, u)] from rfl] at h
  have h1 := hvN_zero.mp h
  have l1 := h1 ((srt (trs (delW s.dl no))).map two).length (by simp)
  rw [ld_last, List.map_map] at l1
  have e : ((srt (trs (delW s.dl no))).map ((fun x : Int × Int => x.2) ∘ two)) = (srt (trs (delW s.dl no))).map fun t => t.2.1 := rfl
  rw [e] at l1
  have l1' : c + u + ((srt (trs (delW s.dl no))).map fun t => t.2.1).sum ≤ s.c := by
    have : s.head + c - s.head + (((srt (trs (delW s.dl no))).map fun t => t.2.1).sum + u) ≤ s.c := l1
    omega
  have nn : 0 ≤ ((srt (trs (delW s.dl no))).map fun t => t.2.1).sum := sum_nn fun x hx => by
    obtain ⟨y, hy, rfl⟩ := List.mem_map.mp hx
    obtain ⟨d, hd, w, hw, rfl⟩ := trs_mem ((srt_perm _).mem_iff.mp hy)
    have := ok.w d (List.mem_filter.mp hd).1 w hw
    show 0 ≤ w.undo
    omega
  refine ⟨by omega, hvN_zero.mpr fun i hi => ?_, l1'⟩
  have := h1 i (by rw [List.length_append]; omega)
  rw [ld_app hi] at this
  exact this
theorem EnAt.up {K : PySem.W.Frag} {e : Addr} {s : Ps} {t : Nat} {R X : Rg} (h : EnAt K e s t R X) : EnAt K e s (t + 1) R X := let ⟨E, ms, dd, rs, jk, p, v, r, z⟩ := h; ⟨E, ms, dd, rs, jk, p, v, r, Nat.le_succ_of_le z⟩
theorem cut1 {a b : D} : cutD [a, b] (some (1 : Int)) none = [b] := rfl
theorem cut1w {a b c d e f : D} : cutD [a, b, c, d, e, f] (some (1 : Int)) none = [b, c, d, e, f] := rfl
theorem sc_l_call : FnScope ["_law_engine", "_law_action", "_law_word", "_law_rest"] ["_law_engine", "_law_action"] (defScope (top 78)) := ⟨rfl, rfl, rfl, by decide +kernel, rfl, by decide +kernel, by decide +kernel⟩
theorem kp_l_call (W : Wd w K mg base) : PySem.W.keepIn K (.ref (He.fAd K ("_law_call", none))) = true := W.kp 36
theorem b_l_call (W : Wd w K mg base) : Binds K (fdO K (He.fAd K ("_law_call", none))) ["_law_engine", "_law_action"] [] := (W.F 36).bindsN fun _ _ _ _ _ _ us hl => match us, hl with | [_, _], _ => rfl
def gm_l_call [Tbl] (K : PySem.W.Frag) : Gx := fun ds R F Wx => ∃ (e : Addr) (s : Ps) (t : Nat) (A : Act) (X : Rg), ds = [.v (.ref e), actD A] ∧ EnAt K e s t R X ∧ NoRow X ∧ PsOk s t ∧ ActOk s A ∧ (isWr A = true → wayK s A = 0) ∧ (wayK s A = 0 → ∀ R', EnAt K e (wayS s A) (t + 1) R' X → F (.v (wayV s A)) R') ∧ (wayK s A ≠ 0 → ∀ R', EnAt K e s t R' X → Wx (.t (lotsL s A)) R')
abbrev sp_l_call [Tbl] (K : PySem.W.Frag) : Sp := spX (He.ga K "Full") (gm_l_call K)
theorem c_l_call [Tbl] {K : PySem.W.Frag} {H0 : Hp} {R0 R X : Rg} {Ex : XK} {F Wx : D → Rg → Prop} (hx : XOk H0 R0 (He.ga K "Full") Ex Wx) {e : Addr} {s : Ps} {t : Nat} {A : Act} (h1 : EnAt K e s t R X) (h2 : NoRow X) (h3 : PsOk s t) (h4 : ActOk s A) (h5 : isWr A = true → wayK s A = 0) (k1 : wayK s A = 0 → ∀ R', EnAt K e (wayS s A) (t + 1) R' X → F (.v (wayV s A)) R') (k2 : wayK s A ≠ 0 → ∀ R', EnAt K e s t R' X → Wx (.t (lotsL s A)) R') : RS H0 R0 (sp_l_call K) Ex [.v (.ref e), actD A] R F := rs_X (List.Perm.refl _) ⟨e, s, t, A, X, rfl, h1, h2, h3, h4, h5, k1, k2⟩ hx
theorem ok_l_call (W : Wd w K mg base) : FnOk P w K mg base (L2.CX P w) 11 (He.fAd K ("_law_call", none)) (fdO K (He.fAd K ("_law_call", none))) ["_law_engine", "_law_action"] (sp_l_call K) := by
  refine (W.F 36).ok sc_l_call ?_ (fun cdv A outer s H vs Q E hr h => ?_)
  · exact lenX fun ds R F Wx h => by obtain ⟨e, s, t, A, X, rfl, hE, nX, ok, hA, hw, hF1, hF2⟩ := h; rfl
  have hu64 := hr.units
  have hu := Nat.lt_of_le_of_lt (Nat.add_le_add_left (show 1 ≤ 64 by decide) _) hu64
  refine ⟨_, (pss_cons (ps_par (i := 2) (j := 3) rfl sc_l_call.nd rfl rfl (by decide) rfl rfl (pa_cons (pe_ix (ixtK (K := K) rfl) (pv 1) pe_int (fun _ _ => rfl)) (pa_cons (pe_slice (sltK (K := K) rfl) (pv 1) (po_some pe_int) po_none) pa_nil)) rfl)
    (pss_cons (ps_if (pt_cmpR op_eq (pv 2) pe_str (nomark _))
    (pss_one (ps_ret (pe_meth (pv 0) (W.cls 101) (W.meth 128) (ok_Engine_open_deed (K := K) W) (hr.mono (by decide)) (b_Engine_open_deed W) .nil pass0 (pa_cons (pe_ix (ixtK (K := K) rfl) (pv 3) pe_int (fun _ _ => rfl)) pa_nil))))
    pss_nil)
    (pss_cons (ps_if (pt_cmpR op_eq (pv 2) pe_str (nomark _))
    (pss_one (ps_ret (pe_meth (pv 0) (W.cls 101) (W.meth 131) (ok_Engine_write (K := K) W) (hr.mono (by decide)) (b_Engine_write W) .nil (passes_call (takes_of rfl rfl rfl rfl) fun _ _ _ _ z => z) (pa_cons (pe_ix (ixtK (K := K) rfl) (pv 3) pe_int (fun _ _ => rfl)) (pa_cons (pe_ix (ixtK (K := K) rfl) (pv 3) pe_int (fun _ _ => rfl)) (pa_cons (pe_ix (ixtK (K := K) rfl) (pv 3) pe_int (fun _ _ => rfl)) (pa_cons (pe_ix (ixtK (K := K) rfl) (pv 3) pe_int (fun _ _ => rfl)) (pa_cons (pe_ix (ixtK (K := K) rfl) (pv 3) pe_int (fun _ _ => rfl)) pa_nil))))))))
    pss_nil)
    (pss_cons (ps_if (pt_cmpR op_eq (pv 2) pe_str (nomark _))
    pss_never
    pss_nil)
    (pss_cons (ps_if (pt_cmpR op_eq (pv 2) pe_str (nomark _))
    (pss_one (ps_ret (pe_meth (pv 0) (W.cls 101) (W.meth 133) (ok_Engine_end (K := K) W) (hr.mono (by decide)) (b_Engine_end W) .nil (passes_call (takes_of rfl rfl rfl rfl) fun _ _ _ _ z => z) (pa_cons (pe_ix (ixtK (K := K) rfl) (pv 3) pe_int (fun _ _ => rfl)) pa_nil))))
    pss_nil)
    (pss_cons (ps_if (pt_cmpR op_eq (pv 2) pe_str (nomark _))
    (pss_one (ps_ret (pe_meth (pv 0) (W.cls 101) (W.meth 135) (ok_Engine_cut (K := K) W) (hr.mono (by decide)) (b_Engine_cut W) .nil (passes_call (takes_of rfl rfl rfl rfl) fun _ _ _ _ z => z) (pa_cons (pe_ix (ixtK (K := K) rfl) (pv 3) pe_int (fun _ _ => rfl)) pa_nil))))
    pss_nil)
    (pss_cons (ps_if (pt_cmpR op_eq (pv 2) pe_str (nomark _))
    (pss_one (ps_ret (pe_meth (pv 0) (W.cls 101) (W.meth 136) (ok_Engine_carry (K := K) W) (hr.mono (by decide)) (b_Engine_carry W) .nil (passes_call (takes_of rfl rfl rfl rfl) fun _ _ _ _ z => z) (pa_cons (pe_ix (ixtK (K := K) rfl) (pv 3) pe_int (fun _ _ => rfl)) pa_nil))))
    pss_nil)
    (pss_cons (ps_if (pt_cmpR op_eq (pv 2) pe_str (nomark _))
    pss_never
    pss_nil)
    (pss_one ps_never))))))))), entryX h ?_⟩
  clear h hu hu64 hr
  rintro ds R F Wx ⟨e, s, t, A, X, rfl, hE, nX, ok, hA, hw, hF1, hF2⟩ hx
  obtain ⟨E, ms, dd, hE0⟩ := hE.f ok
  have h1 := hE0.e
  cases A with
  | cy d w =>
    simp only [actD]
    refine sx_seq (sx_par ?_)
    repeat walk_at "rc step"
    refine em_slT ?_
    repeat walk_at "rc step"
    refine eo_some ?_
    repeat walk_at "rc step"
    refine eo_none ⟨_, rfl, by simp [HT.sIx], ?_⟩
    rw [cut1]
    repeat walk_at "rc step"
    refine ⟨_, _, rfl, ?_⟩
    repeat walk_at "rc step"
    exact e_carry hE nX ok hA.1 hA.2 hx hF1 hF2
  | en d =>
    simp only [actD]
    refine sx_seq (sx_par ?_)
    repeat walk_at "rc step"
    refine em_slT ?_
    repeat walk_at "rc step"
    refine eo_some ?_
    repeat walk_at "rc step"
    refine eo_none ⟨_, rfl, by simp [HT.sIx], ?_⟩
    rw [cut1]
    repeat walk_at "rc step"
    refine ⟨_, _, rfl, ?_⟩
    repeat walk_at "rc step"
    refine e_end hE nX ok hA hx (fun cw R' h => ?_) (fun cw h0 R' h => ?_) (fun cw h0 R' h => ?_)
    · obtain ⟨e1, e2⟩ := way_en0 (s := s) cw
      rw [e1, e2] at hF1
      exact hF1 rfl R' h.up
    · obtain ⟨e1, e2⟩ := way_en1 (s := s) cw
      rw [e1, e2] at hF1
      exact hF1 h0 R' h
    · obtain ⟨e1, e2⟩ := way_en1 (s := s) cw
      have := hF2 (by rw [e1]; exact h0) R' h
      unfold lotsL at this
      rw [e1] at this
      exact this
  | ct d =>
    simp only [actD]
    refine sx_seq (sx_par ?_)
    repeat walk_at "rc step"
    refine em_slT ?_
    repeat walk_at "rc step"
    refine eo_some ?_
    repeat walk_at "rc step"
    refine eo_none ⟨_, rfl, by simp [HT.sIx], ?_⟩
    rw [cut1]
    repeat walk_at "rc step"
    refine ⟨_, _, rfl, ?_⟩
    repeat walk_at "rc step"
    refine e_cut hE nX ok hA hx (fun h0 cw R' h => ?_) (fun h0 w cw R' h => ?_) (fun h0 R' h => ?_)
    · have := hF1 h0 R'
      rw [way_ct0 cw] at this
      exact this h.up
    · have := hF1 h0 R'
      rw [way_ct1 cw] at this
      exact this h
    · exact hF2 h0 R' h
  | wr no x c u =>
    simp only [actD]
    refine sx_seq (sx_par ?_)
    repeat walk_at "rc step"
    refine em_slT ?_
    repeat walk_at "rc step"
    refine eo_some ?_
    repeat walk_at "rc step"
    refine eo_none ⟨_, rfl, by simp [HT.sIx], ?_⟩
    rw [cut1w]
    repeat walk_at "rc step"
    refine ⟨_, _, rfl, ?_⟩
    repeat walk_at "rc step"
    obtain ⟨a1, a2, a3, a4, a5, a6⟩ := hA
    exact e_write hE nX ok a1 a2 hx a6 a4 a5 a3 (acc_of ok a5.1 (hw rfl)) (hF1 (hw rfl))
  | op =>
    simp only [actD]
    refine sx_seq (sx_par ?_)
    repeat walk_at "rc step"
    refine em_slT ?_
    repeat walk_at "rc step"
    refine eo_some ?_
    repeat walk_at "rc step"
    refine eo_none ⟨_, rfl, by simp [HT.sIx], ?_⟩
    rw [cut1]
    repeat walk_at "rc step"
    refine ⟨_, _, rfl, ?_⟩
    repeat walk_at "rc step"
    exact e_open hE ok fun R' h => hF1 rfl R' h.up
end
end Rc
-- G27
set_option Elab.async false
set_option linter.all false
set_option maxRecDepth 100000
set_option maxHeartbeats 4000000
namespace Rc
open PySem PySem.Spec PyProof.Rows L2 RcHead
local macro_rules | `(tactic| walk_at "rc mem") => `(tactic| first | assumption | exact List.mem_cons_self | ((with_reducible (refine List.mem_cons_of_mem _ ?_)); walk_at "rc mem"))
local macro_rules | `(tactic| walk_at "rc end") => `(tactic| fail)
local macro_rules | `(tactic| walk_at "rc lst") => `(tactic| with_reducible refine em_lst ?_)
local macro_rules | `(tactic| walk_at "rc call") => `(tactic| fail)
local macro_rules | `(tactic| walk_at "rc step") => `(tactic| first
  | ((with_reducible (apply em_var)); rfl)
  | with_reducible refine em_c ?_
  | with_reducible refine em_op ?_
  | with_reducible refine ro_I0 ?_
  | ((with_reducible (refine ro_eq ?_ ?_)); rfl)
  | ((with_reducible (refine ro_ne ?_ ?_)); rfl)
  | with_reducible refine ro_isN ?_
  | with_reducible refine ro_notN ?_
  | with_reducible refine ea_nil ?_
  | with_reducible refine ea_cons ?_
  | with_reducible refine em_call ?_
  | walk_at "rc call"
  | (with_reducible refine em_fld ?_)
  | (refine ⟨_, _, _, _, rfl, (by walk_at "rc mem"), (by assumption), (by assumption), (by rfl), ?_⟩)
  | with_reducible refine ra_listV ?_
  | with_reducible refine em_cb ?_
  | with_reducible refine em_tup ?_
  | walk_at "rc lst"
  | with_reducible refine em_if ?_
  | with_reducible refine em_andV ?_
  | with_reducible refine em_orV ?_
  | with_reducible refine em_notV ?_
  | with_reducible refine em_chain ?_
  | with_reducible refine et_test ?_
  | with_reducible refine et_B ?_
  | with_reducible refine et_and ?_
  | with_reducible refine et_or ?_
  | with_reducible refine et_not ?_
  | with_reducible refine et_yes ?_
  | with_reducible refine sx_seq ?_
  | with_reducible refine sx_next ?_
  | with_reducible refine sx_asg ?_
  | with_reducible refine sx_ret ?_
  | with_reducible refine sx_append ?_
  | with_reducible refine sx_drop ?_
  | with_reducible refine sx_if ?_
  | (refine ⟨_, rfl, ?_⟩)
  | (refine ⟨fun _ => ?_, fun z => Bool.noConfusion z⟩)
  | (refine ⟨fun z => Bool.noConfusion z, fun _ => ?_⟩)
  | with_reducible refine em_make ?_
  | with_reducible refine em_meth ?_
  | (refine ⟨_, _, rfl, (by walk_at "rc mem"), rfl, ?_⟩)
  | with_reducible refine em_neg ?_
  | with_reducible refine sx_fld ?_
  | (refine ⟨_, _, _, 0, rfl, rfl, (by assumption), (by assumption), (of_decide_eq_true rfl), ?_⟩)
  | ((with_reducible (apply ra_len)); (first | exact .l .d | exact .t | exact .l (.c (by walk_at "rc mem"))))
  | ((with_reducible (apply ra_lenK)); (walk_at "rc mem"))
  | ((with_reducible (apply ro_ixL)); (first | exact .d | exact .c (by walk_at "rc mem")); (first | rfl | exact atI_0))
  | ((with_reducible (apply ro_ixT)); rfl)
  | (with_reducible (refine gx_name ?_ (by decide)))
  | ((with_reducible (apply gx_tupR)); rfl)
  | with_reducible refine gxs_cons ?_
  | with_reducible refine gxs_nil ?_
  | (exact ⟨rfl, rfl⟩)
  | (refine ⟨rfl, ?_⟩)
  | with_reducible refine em_dget ?_
  | with_reducible refine sx_lockAsg ?_
  | with_reducible refine em_din ?_
  | with_reducible refine em_dnotIn ?_
  | ((with_reducible (apply sx_aug)); rfl)
  | with_reducible refine sx_setL ?_
  | with_reducible refine sx_dput ?_
  | with_reducible refine gx_fld ?_
  | (with_reducible (apply sx_fldAug))
  | ((with_reducible (apply sx_rz)); assumption)
  | (refine ⟨(by simp only [List.length_cons, List.length_nil]; omega), ?_⟩))
local macro_rules | `(tactic| walk_at "rc perm") => `(tactic| (refine Mu.of ?_; simp only [Mu.app, Mu.cons, Mu.nil, Mu.nil_add, Mu.add_nil, List.append_eq]; ac_rfl))
section
variable [Tbl] {P : Program} {w : World} {K : PySem.W.Frag} {mg : Str → Option Value} {base : Heap}
local macro_rules | `(tactic| walk_at "rc call") => `(tactic| fail)
section
variable [Tbl] {H0 : Hp} {R0 R : Rg} {F : D → Rg → Prop} {g : Ev} {tr : TA} {E : Es}
theorem EnvR.len {H : Hp} {N : Addr → Prop} : ∀ {g : Ev} {σ : L2.St}, EnvR H N g σ → σ.length = g.length
  | [], _, h => by rw [show _ = [] from h]; rfl
  | o :: g, _, ⟨x, r, e, _, h⟩ => by rw [e, List.length_cons, List.length_cons, h.len]
theorem em_callS {sp : Sp} {E' : L2.St → XK} (h : EA H0 R0 tr g R fun ds R1 => ∀ σ H1, Tn H0 R0 H1 R1 → EnvR H1 (Out R1) g σ → Holds H1 R1 → RS H1 R1 sp (E' σ) ds R1 F) : EM H0 R0 (tCallS sp E' tr) g R F := fun σ H t e hH Q q =>
  h σ H t e hH _ fun ds R1 vs H1 k1 t1 hH1 r1 => k1 σ H1 (t.trans t1) (e.tn t1) hH1 H1 vs Tn.refl hH1 r1 Q fun d R' v H' k t2 hH2 r2 => q d R' v H' k (t1.trans t2) hH2 r2
theorem sx_tryFull {K : PySem.W.Frag} {CF : Addr} {i j : Nat} {tb : WX → TS} {Wx : D → Rg → Prop} (hi : i < g.length) (hex : PySem.W.exmOne K (.ref CF) (.ref CF) = some true)
    (hb : ∀ W : WX, (∀ σ H1 R1, Tn H0 R0 H1 R1 → Holds H1 R1 → EnvR H1 (Out R1) g σ → XOk H1 R1 CF (WE W σ) Wx) → SX H0 R0 (tb W) g R E)
    (hw : ∀ d R1 a, Wx d R1 → E.nx (((g.set i (some (.v (.ref a)))).set j (some (.t [.v (.str "full"), d]))).set i none) R1) :
    SX H0 R0 (fun D σ H => tb (wOne K (.ref CF) i (fun a cls d => tAsg (tTup (tCons (tC (.str "full")) (tCons (tXf a cls d CF "lot" (tVar i)) tNil))) (gName j)) D) D σ H) g R E := fun σ H D t e hH k => by
  refine hb _ (fun σ1 H1 R1 t1 hH1 e1 d R2 H2 dd x w t2 hH2 edd r => ?_) σ H D t e hH k
  refine ⟨hex, fun a ha => ?_⟩
  have hl : i < σ1.length := by rw [e1.len]; exact hi
  refine ⟨.ref a, by rw [List.getElem?_set_self hl], rfl, rfl, dd, [("lot", x)], x, rfl, edd, rfl, (show 2 ≤ sizeLine from by decide), fun p hp => ?_⟩
  have e2 := e1.tn t2
  obtain ⟨n1, n2, n3⟩ := new_t hH2 (RpL.cons (rpv (x := V.str "full")) (RpL.cons r RpL.nil)) hp
  refine k.nx _ R2 _ _ (hw d R2 a w) ((t1.trans t2).trans n1) n2 ?_
  exact (((e2.tn n1).set (i := i) (rpv (x := V.ref a))).set n3).unset
end
theorem sc_l_told : FnScope ["_law_engine", "_law_action", "_law_told_here", "e", "_law_flags"] ["_law_engine", "_law_action"] (defScope (top 79)) := ⟨rfl, rfl, rfl, by decide +kernel, rfl, by decide +kernel, by decide +kernel⟩
theorem kp_l_told (W : Wd w K mg base) : PySem.W.keepIn K (.ref (He.fAd K ("_law_told", none))) = true := W.kp 37
theorem b_l_told (W : Wd w K mg base) : Binds K (fdO K (He.fAd K ("_law_told", none))) ["_law_engine", "_law_action"] [] := (W.F 37).bindsN fun _ _ _ _ _ _ us hl => match us, hl with | [_, _], _ => rfl
def gm_l_told [Tbl] (K : PySem.W.Frag) : Gm := fun ds R F => ∃ (e : Addr) (s : Ps) (t : Nat) (A : Act) (X : Rg), ds = [.v (.ref e), actD A] ∧ EnAt K e s t R X ∧ NoRow X ∧ PsOk s t ∧ ActOk s A ∧ (isWr A = true → wayK s A = 0) ∧ (wayK s A = 0 → ∀ R', EnAt K e (wayS s A) (t + 1) R' X → F (toldD (wayV s A)) R') ∧ (wayK s A ≠ 0 → ∀ R', EnAt K e s t R' X → F (fullD (.t (lotsL s A))) R')
abbrev sp_l_told [Tbl] (K : PySem.W.Frag) : Sp := spM (gm_l_told K)
theorem c_l_told [Tbl] {K : PySem.W.Frag} {H0 : Hp} {R0 R X : Rg} {Ex : XK} {F : D → Rg → Prop} {e : Addr} {s : Ps} {t : Nat} {A : Act} (h1 : EnAt K e s t R X) (h2 : NoRow X) (h3 : PsOk s t) (h4 : ActOk s A) (h5 : isWr A = true → wayK s A = 0) (k1 : wayK s A = 0 → ∀ R', EnAt K e (wayS s A) (t + 1) R' X → F (toldD (wayV s A)) R') (k2 : wayK s A ≠ 0 → ∀ R', EnAt K e s t R' X → F (fullD (.t (lotsL s A))) R') : RS H0 R0 (sp_l_told K) Ex [.v (.ref e), actD A] R F := rs_m ⟨e, s, t, A, X, rfl, h1, h2, h3, h4, h5, k1, k2⟩
theorem ok_l_told (W : Wd w K mg base) : FnOk P w K mg base CX0 12 (He.fAd K ("_law_told", none)) (fdO K (He.fAd K ("_law_told", none))) ["_law_engine", "_law_action"] (sp_l_told K) := by
  refine (W.F 37).ok sc_l_told ?_ (fun cdv A outer s H vs Q E hr h => ?_)
  · exact lenM fun ds R F h => by obtain ⟨e, s, t, A, X, rfl, hE, nX, ok, hA, hw, hF1, hF2⟩ := h; rfl
  have hu64 := hr.units
  have hu := Nat.lt_of_le_of_lt (Nat.add_le_add_left (show 1 ≤ 64 by decide) _) hu64
  refine ⟨_, PSs.nox (pss_cons (ps_try_one (i := 3) rfl rfl sc_l_told.nd rfl rfl ⟨rfl, by decide, .inl (W.glo 46)⟩ (fun Wc pn xe tk _ => (pss_one (ps_set (i := 2) sc_l_told.nd rfl (.inl rfl) (pe_tup (pa_cons pe_str (pa_cons (pe_callS (ok_l_call (K := K) W) (hr.mono (by decide)) rfl (W.glo 36) (kp_l_call W) (b_l_call W) (fun σ => passAt tk σ) (pa_cons (pv 0) (pa_cons (pv 1) pa_nil))) pa_nil)))))) (fun a oe cls d pn hz hf => (pss_one (ps_set (i := 2) sc_l_told.nd rfl (.inl rfl) (pe_tup (pa_cons pe_str (pa_cons (pe_xf W.full.2.1 (W.noat 143) hz hf (pv 3)) pa_nil))))))) (pss_one (ps_ret (pv 2)))), entryM h ?_⟩
  clear h hu hu64 hr
  rintro ds R F ⟨e, s, t, A, X, rfl, hE, nX, ok, hA, hw, hF1, hF2⟩
  have cl_LogRow : Cls K (He.ga K "LogRow") := W.cls 77
  have na_LogRow_deed : NoAttr K (He.ga K "LogRow") "deed" := W.noat 80
  refine sx_seq (sx_tryFull (K := K) (CF := He.ga K "Full") (i := 3) (j := 2) (tb := fun Wc => tAsg (tTup (tCons (tC (.str "told")) (tCons (tCallS (sp_l_call K) (WE Wc) (tCons (tVar 0) (tCons (tVar 1) tNil))) tNil))) (gName 2)) (Wx := fun d R' => wayK s A ≠ 0 ∧ EnAt K e s t R' X ∧ d = .t (lotsL s A)) ?_ (He.exm_ok (W.t.d.fact 144 rfl)) (fun Wc hWc => ?_) fun d R' a hd => ?_)
  · exact (by decide : 3 < 5)
  · refine sx_asg (em_tup (ea_cons (em_c (ea_cons (em_callS ?_)))))
    refine ea_cons (em_var rfl (ea_cons (em_var rfl (ea_nil fun σ H1 t1 e1 hH1 => ?_))))
    refine c_l_call (hWc σ H1 _ t1 hH1 e1) hE nX ok hA hw (fun h0 R' h => ?_) (fun h0 R' h => ⟨h0, h, rfl⟩)
    repeat walk_at "rc step"
    exact hF1 h0 R' h
  · obtain ⟨h0, h, rfl⟩ := hd
    repeat walk_at "rc step"
    exact hF2 h0 R' h
end
end Rc
-- G28
set_option Elab.async false
set_option linter.all false
set_option maxRecDepth 100000
set_option maxHeartbeats 4000000
namespace Rc
open PySem PySem.Spec PyProof.Rows L2 RcHead
local macro_rules | `(tactic| walk_at "rc mem") => `(tactic| first | assumption | exact List.mem_cons_self | ((with_reducible (refine List.mem_cons_of_mem _ ?_)); walk_at "rc mem"))
local macro_rules | `(tactic| walk_at "rc end") => `(tactic| fail)
local macro_rules | `(tactic| walk_at "rc lst") => `(tactic| with_reducible refine em_lst ?_)
local macro_rules | `(tactic| walk_at "rc call") => `(tactic| fail)
local macro_rules | `(tactic| walk_at "rc step") => `(tactic| first
  | ((with_reducible (apply em_var)); rfl)
  | with_reducible refine em_c ?_
  | with_reducible refine em_op ?_
  | with_reducible refine ro_I0 ?_
  | ((with_reducible (refine ro_eq ?_ ?_)); rfl)
  | ((with_reducible (refine ro_ne ?_ ?_)); rfl)
  | with_reducible refine ro_isN ?_
  | with_reducible refine ro_notN ?_
  | with_reducible refine ea_nil ?_
  | with_reducible refine ea_cons ?_
  | with_reducible refine em_call ?_
  | walk_at "rc call"
  | (with_reducible refine em_fld ?_)
  | (refine ⟨_, _, _, _, rfl, (by walk_at "rc mem"), (by assumption), (by assumption), (by rfl), ?_⟩)
  | with_reducible refine ra_listV ?_
  | with_reducible refine em_cb ?_
  | with_reducible refine em_tup ?_
  | walk_at "rc lst"
  | with_reducible refine em_if ?_
  | with_reducible refine em_andV ?_
  | with_reducible refine em_orV ?_
  | with_reducible refine em_notV ?_
  | with_reducible refine em_chain ?_
  | with_reducible refine et_test ?_
  | with_reducible refine et_B ?_
  | with_reducible refine et_and ?_
  | with_reducible refine et_or ?_
  | with_reducible refine et_not ?_
  | with_reducible refine et_yes ?_
  | with_reducible refine sx_seq ?_
  | with_reducible refine sx_next ?_
  | with_reducible refine sx_asg ?_
  | with_reducible refine sx_ret ?_
  | with_reducible refine sx_append ?_
  | with_reducible refine sx_drop ?_
  | with_reducible refine sx_if ?_
  | (refine ⟨_, rfl, ?_⟩)
  | (refine ⟨fun _ => ?_, fun z => Bool.noConfusion z⟩)
  | (refine ⟨fun z => Bool.noConfusion z, fun _ => ?_⟩)
  | with_reducible refine em_make ?_
  | with_reducible refine em_meth ?_
  | (refine ⟨_, _, rfl, (by walk_at "rc mem"), rfl, ?_⟩)
  | with_reducible refine em_neg ?_
  | with_reducible refine sx_fld ?_
  | (refine ⟨_, _, _, 0, rfl, rfl, (by assumption), (by assumption), (of_decide_eq_true rfl), ?_⟩)
  | ((with_reducible (apply ra_len)); (first | exact .l .d | exact .t | exact .l (.c (by walk_at "rc mem"))))
  | ((with_reducible (apply ra_lenK)); (walk_at "rc mem"))
  | ((with_reducible (apply ro_ixL)); (first | exact .d | exact .c (by walk_at "rc mem")); (first | rfl | exact atI_0))
  | ((with_reducible (apply ro_ixT)); rfl)
  | (with_reducible (refine gx_name ?_ (by decide)))
  | ((with_reducible (apply gx_tupR)); rfl)
  | with_reducible refine gxs_cons ?_
  | with_reducible refine gxs_nil ?_
  | (exact ⟨rfl, rfl⟩)
  | (refine ⟨rfl, ?_⟩)
  | with_reducible refine em_dget ?_
  | with_reducible refine sx_lockAsg ?_
  | with_reducible refine em_din ?_
  | with_reducible refine em_dnotIn ?_
  | ((with_reducible (apply sx_aug)); rfl)
  | with_reducible refine sx_setL ?_
  | with_reducible refine sx_dput ?_
  | with_reducible refine gx_fld ?_
  | (with_reducible (apply sx_fldAug))
  | ((with_reducible (apply sx_rz)); assumption)
  | (refine ⟨(by simp only [List.length_cons, List.length_nil]; omega), ?_⟩))
local macro_rules | `(tactic| walk_at "rc perm") => `(tactic| (refine Mu.of ?_; simp only [Mu.app, Mu.cons, Mu.nil, Mu.nil_add, Mu.add_nil, List.append_eq]; ac_rfl))
section
variable [Tbl] {P : Program} {w : World} {K : PySem.W.Frag} {mg : Str → Option Value} {base : Heap}
local macro_rules | `(tactic| walk_at "rc call") => `(tactic| simp only [bl_tt, bl_ff, bl_tf, bl_ft])
theorem bl_tt : decide (V.bl true = V.bl true) = true := by decide
theorem bl_ff : decide (V.bl false = V.bl false) = true := by decide
theorem bl_tf : decide (V.bl true = V.bl false) = false := by decide
theorem bl_ft : decide (V.bl false = V.bl true) = false := by decide
inductive Sc : V → String → Prop where
  | non : Sc .non "NoneType"
  | int (i : Int) : Sc (.int i) "int"
  | str (x : Str) : Sc (.str x) "str"
theorem Sc.ty [Tbl] {R : Rg} {x : V} {T : String} (h : Sc x T) : TyD R (.v x) T := by
  cases h with
  | non => exact .non
  | int i => exact .int i
  | str z => exact .str z
theorem Sc.scal {x : V} {T : String} (h : Sc x T) : L2.scal x x = true := by cases h <;> rfl
inductive Sam : Nat → D → Prop where
  | v {n : Nat} {x : V} {T : String} (h : Sc x T) : Sam n (.v x)
  | l {n : Nat} {ds : List D} (h : ∀ d ∈ ds, Sam n d) (z : ds.length ≤ 1000) : Sam (n + 1) (.l ds)
  | t {n : Nat} {ds : List D} (h : ∀ d ∈ ds, Sam n d) (z : ds.length ≤ 1000) : Sam (n + 1) (.t ds)
section
variable [Tbl] {H0 : Hp} {R0 R : Rg} {K : PySem.W.Frag} {F : D → Rg → Prop} {g : Ev} {ti : TA} {tg : TG} {tt : TT} {te : TE} {vs : List Nat}
theorem ei_zipI {PI : (Nat → Rg → D → Prop) → (Nat → Rg → Prop) → Rg → Prop} (h : EA H0 R0 ti g R fun es R1 => ∃ d1 d2 ds fs, es = [d1, d2] ∧ IsL R1 d1 ds ∧ IsL R1 d2 fs ∧ PI (fun i R d => IsL R d1 ds ∧ IsL R d2 fs ∧ ∃ a b, ds[i]? = some a ∧ fs[i]? = some b ∧ d = .t [a, b]) (fun i R => IsL R d1 ds ∧ IsL R d2 fs ∧ ds.length ≤ i) R1) : EI H0 R0 (RZ.iZipA K ti) g R PI := fun σ H t e hH Rr q =>
  h σ H t e hH _ fun es R1 vs H1 ⟨d1, d2, ds, fs, e1, l1, l2, k⟩ t1 hH1 r1 => by
    subst e1
    obtain ⟨v, v2, ev, r1, r2⟩ := rpl2 r1
    obtain ⟨a, xs, e2, h1, h2⟩ := l1.get hH1 r1
    obtain ⟨b, ys, e3, h3, h4⟩ := l2.get hH1 r2
    refine ⟨a, b, xs, ys, by rw [ev, e2, e3], .inl ⟨SqL.of h1, SqL.of h3, q _ _ _ R1 H1 k ⟨fun i H R d t hH ⟨m1, m2, x1, x2, i1, i2, ed⟩ => ?_, fun i H R t hH ⟨m1, m2, hi⟩ => ?_⟩ t1 hH1⟩⟩
    · obtain ⟨a', xs', e4, h5, h6⟩ := m1.get hH (r1.tn t)
      obtain ⟨b', ys', e5, h7, h8⟩ := m2.get hH (r2.tn t)
      rw [e2] at e4
      cases e4
      rw [e3] at e5
      cases e5
      obtain ⟨u1, g1, r3⟩ := h6.get i1
      obtain ⟨u2, g2, r4⟩ := h8.get i2
      refine ⟨⟨xs', ys', u1, u2, SqL.of h5, SqL.of h7, g1, g2⟩, fun y H' ⟨T, z1, z2, ey, hT, eH, hz1, hz2⟩ => ?_⟩
      have c1 := hz1 xs' (SqL.of h5)
      have c2 := hz2 ys' (SqL.of h7)
      rw [g1] at c1; cases c1
      rw [g2] at c2; cases c2
      subst eH ey ed
      exact new_pair hH (RpL.cons r3 (RpL.cons r4 RpL.nil)) hT
    · obtain ⟨a', xs', e4, h5, h6⟩ := m1.get hH (r1.tn t)
      obtain ⟨b', ys', e5, h7, h8⟩ := m2.get hH (r2.tn t)
      rw [e2] at e4
      cases e4
      rw [e3] at e5
      cases e5
      exact ⟨xs', ys', SqL.of h5, SqL.of h7, .inl (by rw [h6.len]; exact hi)⟩
/-- zip of a list with an equal one -/
theorem em_lcZI (h : EA H0 R0 ti g R fun es R1 => ∃ (d1 d2 : D) (l : List D) (f : D → Option D), es = [d1, d2] ∧ IsL R1 d1 l ∧ IsL R1 d2 l ∧ l.length ≤ 100000 ∧ (∀ x ∈ l, ∀ H1 Rx, (∀ c ∈ R1, c ∈ Rx) → Trn H1 R1 tg tt te vs g Rx (.t [x, x]) (f x)) ∧ F (.l (l.filterMap f)) R1) : EM H0 R0 (tLc (RZ.iZipA K ti) tg tt te vs) g R F :=
  em_lc (ei_zipI fun σ H t e hH Q q => h σ H t e hH Q fun es R' v H' ⟨d1, d2, l, f, e1, l1, l2, hz, st, k⟩ t1 hH1 r1 => q es R' v H' ⟨d1, d2, l, l, e1, l1, l2, l.length, fun i => (l[i]?).bind f, hz, fun Rx s => ⟨l1.sub s, l2.sub s, Nat.le_refl _⟩, fun i hi Rx s => ⟨.t [l[i], l[i]], ⟨l1.sub s, l2.sub s, l[i], l[i], List.getElem?_eq_getElem hi, List.getElem?_eq_getElem hi, rfl⟩, fun H1 => by
    have z := st l[i] (List.getElem_mem hi) H1 Rx s
    have e1 : (l[i]?).bind f = f l[i] := by rw [List.getElem?_eq_getElem hi]; rfl
    rw [← e1] at z
    exact z⟩, by rw [outs_map]; exact k⟩ t1 hH1 r1)
end
theorem kit_tys {K : PySem.W.Frag} {T A B : String} {b1 b2 r : Bool} (h1 : L2.kitB T A = some b1) (h2 : L2.kitB T B = some b2) (e : r = (b1 || b2)) : PySem.W.kitAny K (.type T) [.type A, .type B] = some r := by
  refine L2.kitAny_cons (L2.kit_ty h1) (fun z => L2.kitAny_cons (L2.kit_ty h2) (fun z2 => ?_) fun z2 => ?_) fun z => ?_
  · rw [e, z, z2]; rfl
  · rw [e, z, z2]; rfl
  · rw [e, z]; rfl
theorem IsL.ty [Tbl] {R : Rg} {d : D} {l : List D} (h : IsL R d l) : TyD R d "list" := by
  cases h with
  | d => exact .l _
  | c m => exact .c m
theorem zip_self : ∀ l : List D, l.zip l = l.map fun x => (x, x)
  | [] => rfl
  | a :: l => by rw [List.zip_cons_cons, List.map_cons, zip_self l]
theorem all_tt (l : List D) : (l.map fun _ => true).all id = true := by
  induction l with
  | nil => rfl
  | cons a l ih => rw [List.map_cons, List.all_cons, ih]; rfl
theorem sc_l_same : FnScope ["_law_told_here", "_law_due", "_law_one", "_law_two"] ["_law_told_here", "_law_due"] (defScope (top 55)) := ⟨rfl, rfl, rfl, by decide +kernel, rfl, by decide +kernel, by decide +kernel⟩
theorem kp_l_same (W : Wd w K mg base) : PySem.W.keepIn K (.ref (He.fAd K ("_law_same", none))) = true := W.kp 15
theorem b_l_same (W : Wd w K mg base) : Binds K (fdO K (He.fAd K ("_law_same", none))) ["_law_told_here", "_law_due"] [] := (W.F 15).bindsN fun _ _ _ _ _ _ us hl => match us, hl with | [_, _], _ => rfl
def gm_l_same [Tbl] (n : Nat) : Gm := fun ds R F => ∃ d d' : D, ds = [d, d'] ∧ ((d' = d ∧ Sam n d) ∨ (∃ l, IsL R d l ∧ IsL R d' l ∧ l.length ≤ 1000 ∧ ∃ m, n = m + 1 ∧ ∀ x ∈ l, Sam m x)) ∧ F (.v (.bl true)) R
abbrev sp_l_same [Tbl] (n : Nat) : Sp := spM (gm_l_same n)
theorem c_l_same [Tbl] {H0 : Hp} {R0 R : Rg} {Ex : XK} {F : D → Rg → Prop} {n : Nat} {d : D} (h : Sam n d) (k : F (.v (.bl true)) R) : RS H0 R0 (sp_l_same n) Ex [d, d] R F := rs_m ⟨d, d, rfl, .inl ⟨rfl, h⟩, k⟩
theorem c_l_sameL [Tbl] {H0 : Hp} {R0 R : Rg} {Ex : XK} {F : D → Rg → Prop} {n : Nat} {d d' : D} {l : List D} (h1 : IsL R d l) (h2 : IsL R d' l) (h3 : l.length ≤ 1000) (h4 : ∀ x ∈ l, Sam n x) (k : F (.v (.bl true)) R) : RS H0 R0 (sp_l_same (n + 1)) Ex [d, d'] R F := rs_m ⟨d, d', rfl, .inr ⟨l, h1, h2, h3, n, rfl, h4⟩, k⟩

theorem ok_l_same (W : Wd w K mg base) : ∀ n, FnOk P w K mg base CX0 (n + 1) (He.fAd K ("_law_same", none)) (fdO K (He.fAd K ("_law_same", none))) ["_law_told_here", "_law_due"] (sp_l_same n)
  | 0 => by
    refine (W.F 15).ok sc_l_same ?_ (fun cdv A outer s H vs Q E hr h => ?_)
    · exact lenM fun ds R F h => by obtain ⟨d, d', rfl, _⟩ := h; rfl
    have hu64 := hr.units
    have hu := Nat.lt_of_le_of_lt (Nat.add_le_add_left (show 1 ≤ 64 by decide) _) hu64
    refine ⟨_, PSs.nox (pss_cons (ps_if (pt_val (pe_callB (isiTK (K := K) rfl) rfl (W.free 59) (by decide +kernel) (pa_cons (pv 1) (pa_cons (pe_tup (pa_cons (pe_ty (T := "tuple") rfl (W.free 60)) (pa_cons (pe_ty (T := "list") rfl (W.free 61)) pa_nil))) pa_nil))))
    pss_never
    pss_nil)
    (pss_one (ps_ret (pe_and (pe_cmpR op_eq (pe_callB (isiK (K := K) rfl) rfl (W.free 59) (by decide +kernel) (pa_cons (pv 0) (pa_cons (pe_ty (T := "bool") rfl (W.free 63)) pa_nil))) (pe_callB (isiK (K := K) rfl) rfl (W.free 59) (by decide +kernel) (pa_cons (pv 1) (pa_cons (pe_ty (T := "bool") rfl (W.free 63)) pa_nil))) (nomark _)) (pe_one (pe_cmpR op_eq (pv 0) (pv 1) (nomark _))))))), entryM h ?_⟩
    clear h hu hu64 hr
    rintro ds R F ⟨d, d', rfl, hc, hF⟩
    rcases hc with ⟨rfl, hs⟩ | ⟨l, _, _, _, m, e, _⟩
    case inr => cases e
    cases hs with
    | v hs =>
      repeat walk_at "rc step"
      refine ra_isiT (b := false) hs.ty (by cases hs <;> exact kit_tys (b1 := false) (b2 := false) (by decide +kernel) (by decide +kernel) rfl) ?_
      repeat walk_at "rc step"
      refine ra_isi (b := false) hs.ty (by cases hs <;> exact L2.kit_ty (by decide +kernel)) ?_
      repeat walk_at "rc step"
      refine ra_isi (b := false) hs.ty (by cases hs <;> exact L2.kit_ty (by decide +kernel)) ?_
      repeat walk_at "rc step"
      refine ro_eq hs.scal ?_
      rw [decide_eq_true rfl]
      exact hF
  | n + 1 => by
    have ih := ok_l_same W n
    refine (W.F 15).ok sc_l_same ?_ (fun cdv A outer s H vs Q E hr h => ?_)
    · exact lenM fun ds R F h => by obtain ⟨d, d', rfl, _⟩ := h; rfl
    have hu64 := hr.units
    have hu := Nat.lt_of_le_of_lt (Nat.add_le_add_left (show 1 ≤ 64 by decide) _) hu64
    refine ⟨_, PSs.nox (pss_cons (ps_if (pt_val (pe_callB (isiTK (K := K) rfl) rfl (W.free 59) (by decide +kernel) (pa_cons (pv 1) (pa_cons (pe_tup (pa_cons (pe_ty (T := "tuple") rfl (W.free 60)) (pa_cons (pe_ty (T := "list") rfl (W.free 61)) pa_nil))) pa_nil))))
    (pss_cons (ps_if (PW.pt (pw_or (pt_cmpR op_ne (pe_callB (isiK (K := K) rfl) rfl (W.free 59) (by decide +kernel) (pa_cons (pv 0) (pa_cons (pe_ty (T := "tuple") rfl (W.free 60)) pa_nil))) (pe_callB (isiK (K := K) rfl) rfl (W.free 59) (by decide +kernel) (pa_cons (pv 1) (pa_cons (pe_ty (T := "tuple") rfl (W.free 60)) pa_nil))) (nomark _)) (pw_or1 (pt_not (pt_val (pe_callB (isiTK (K := K) rfl) rfl (W.free 59) (by decide +kernel) (pa_cons (pv 0) (pa_cons (pe_tup (pa_cons (pe_ty (T := "tuple") rfl (W.free 60)) (pa_cons (pe_ty (T := "list") rfl (W.free 61)) pa_nil))) pa_nil))))))))
    (pss_one (ps_ret pe_bl))
    pss_nil)
    (pss_one (ps_ret (pe_and (pe_cmpR op_eq (pe_callB (lenK (K := K) rfl) rfl (W.free 49) (by decide +kernel) (pa_cons (pv 0) pa_nil)) (pe_callB (lenK (K := K) rfl) rfl (W.free 49) (by decide +kernel) (pa_cons (pv 1) pa_nil)) (nomark _)) (pe_one (pe_callB (allK (K := K) rfl rfl) rfl (W.free 55) (by decide +kernel) (pa_cons (pe_lc (own := [("_law_one", 2), ("_law_two", 3)]) (g := (gTup K 2 (gCons (gName 2) (gCons (gName 3) gNil)))) rfl sc_l_same.nd (izipK (K := K) rfl rfl (W.free 56) (pa_cons (pv 0) (pa_cons (pv 1) pa_nil))) (blkOk_by (show blkC ["_law_told_here", "_law_due", "_law_one", "_law_two"] (defScope (top 55)) _ [("_law_one", 2), ("_law_two", 3)] = true by decide +kernel)) (fun _ _ _ _ _ => (gtupK (K := K) (n := 2) rfl rfl (pgs_cons (pg_name (i := 2) sc_l_same.nd rfl (.inl rfl)) (pgs_cons (pg_name (i := 3) sc_l_same.nd rfl (.inl rfl)) pgs_nil)))) (fun _ _ _ _ _ => pts_nil) (fun _ _ _ _ _ => (pe_call (ih) hr rfl (W.glo 15) (kp_l_same W) (b_l_same W) .nil pass0 (pa_cons (pv 2) (pa_cons (pv 3) pa_nil))))) pa_nil)))))))
    pss_nil)
    (pss_one (ps_ret (pe_and (pe_cmpR op_eq (pe_callB (isiK (K := K) rfl) rfl (W.free 59) (by decide +kernel) (pa_cons (pv 0) (pa_cons (pe_ty (T := "bool") rfl (W.free 63)) pa_nil))) (pe_callB (isiK (K := K) rfl) rfl (W.free 59) (by decide +kernel) (pa_cons (pv 1) (pa_cons (pe_ty (T := "bool") rfl (W.free 63)) pa_nil))) (nomark _)) (pe_one (pe_cmpR op_eq (pv 0) (pv 1) (nomark _))))))), entryM h ?_⟩
    clear h hu hu64 hr
    rintro ds R F ⟨d, d', rfl, hc, hF⟩
    have hc2 : (∃ x T, Sc x T ∧ d = .v x ∧ d' = .v x) ∨ (∃ l, d = .t l ∧ d' = .t l ∧ l.length ≤ 1000 ∧ ∀ x ∈ l, Sam n x) ∨ (∃ l, IsL R d l ∧ IsL R d' l ∧ l.length ≤ 1000 ∧ ∀ x ∈ l, Sam n x) := by
      rcases hc with ⟨rfl, hs⟩ | ⟨l, h1, h2, h3, m, e, h4⟩
      · cases hs with
        | v hs => exact .inl ⟨_, _, hs, rfl, rfl⟩
        | l h z => exact .inr (.inr ⟨_, .d, .d, z, h⟩)
        | t h z => exact .inr (.inl ⟨_, rfl, rfl, z, h⟩)
      · cases e
        exact .inr (.inr ⟨l, h1, h2, h3, h4⟩)
    rcases hc2 with ⟨x, T, hs, rfl, rfl⟩ | ⟨l, rfl, rfl, hz, hl⟩ | ⟨l, h1, h2, hz, hl⟩
    · skip
      repeat walk_at "rc step"
      refine ra_isiT (b := false) hs.ty (by cases hs <;> exact kit_tys (b1 := false) (b2 := false) (by decide +kernel) (by decide +kernel) rfl) ?_
      repeat walk_at "rc step"
      refine ra_isi (b := false) hs.ty (by cases hs <;> exact L2.kit_ty (by decide +kernel)) ?_
      repeat walk_at "rc step"
      refine ra_isi (b := false) hs.ty (by cases hs <;> exact L2.kit_ty (by decide +kernel)) ?_
      repeat walk_at "rc step"
      refine ro_eq hs.scal ?_
      rw [decide_eq_true rfl]
      exact hF
    · repeat walk_at "rc step"
      refine ra_isiT (b := true) (.t l) (kit_tys (b1 := true) (b2 := false) (by decide +kernel) (by decide +kernel) rfl) ?_
      repeat walk_at "rc step"
      refine ra_isi (b := true) (.t l) (L2.kit_ty (by decide +kernel)) ?_
      repeat walk_at "rc step"
      refine ra_isi (b := true) (.t l) (L2.kit_ty (by decide +kernel)) ?_
      repeat walk_at "rc step"
      refine ra_isiT (b := true) (.t l) (kit_tys (b1 := true) (b2 := false) (by decide +kernel) (by decide +kernel) rfl) ?_
      repeat walk_at "rc step"
      rw [decide_eq_true rfl]
      repeat walk_at "rc step"
      refine em_lcZ ?_
      repeat walk_at "rc step"
      refine ⟨l, l, fun _ => some (.v (.bl true)), .inr rfl, rfl, by omega, fun x hx H1 Rx hs => ?_, ?_⟩
      · rw [zip_self] at hx
        obtain ⟨y, hy, rfl⟩ := List.mem_map.mp hx
        repeat walk_at "rc step"
        refine c_l_same (hl y hy) ?_
        repeat walk_at "rc step"
      rw [fm_some, zip_self, List.map_map]
      repeat walk_at "rc step"
      refine ra_all (bs := l.map fun _ => true) (by rw [List.map_map]; exact .d) ?_
      rw [all_tt]
      exact hF
    · have t1 := h1.ty
      have t2 := h2.ty
      repeat walk_at "rc step"
      refine ra_isiT (b := true) t2 (kit_tys (b1 := false) (b2 := true) (by decide +kernel) (by decide +kernel) rfl) ?_
      repeat walk_at "rc step"
      refine ra_isi (b := false) t1 (L2.kit_ty (by decide +kernel)) ?_
      repeat walk_at "rc step"
      refine ra_isi (b := false) t2 (L2.kit_ty (by decide +kernel)) ?_
      repeat walk_at "rc step"
      refine ra_isiT (b := true) t1 (kit_tys (b1 := false) (b2 := true) (by decide +kernel) (by decide +kernel) rfl) ?_
      repeat walk_at "rc step"
      refine ra_len (.l h1) ?_
      repeat walk_at "rc step"
      refine ra_len (.l h2) ?_
      repeat walk_at "rc step"
      rw [decide_eq_true rfl]
      repeat walk_at "rc step"
      refine em_lcZI ?_
      repeat walk_at "rc step"
      refine ⟨_, _, l, fun _ => some (.v (.bl true)), rfl, h1, h2, by omega, fun x hx H1 Rx hs => ?_, ?_⟩
      · repeat walk_at "rc step"
        refine c_l_same (hl x hx) ?_
        repeat walk_at "rc step"
      rw [fm_some]
      repeat walk_at "rc step"
      refine ra_all (bs := l.map fun _ => true) (by rw [List.map_map]; exact .d) ?_
      rw [all_tt]
      exact hF

end
end Rc
-- G29
set_option Elab.async false
set_option linter.all false
set_option maxRecDepth 100000
set_option maxHeartbeats 4000000
namespace Rc
open PySem PySem.Spec PyProof.Rows L2 RcHead
local macro_rules | `(tactic| walk_at "rc mem") => `(tactic| first | assumption | exact List.mem_cons_self | ((with_reducible (refine List.mem_cons_of_mem _ ?_)); walk_at "rc mem"))
local macro_rules | `(tactic| walk_at "rc end") => `(tactic| fail)
local macro_rules | `(tactic| walk_at "rc lst") => `(tactic| with_reducible refine em_lst ?_)
local macro_rules | `(tactic| walk_at "rc call") => `(tactic| fail)
local macro_rules | `(tactic| walk_at "rc step") => `(tactic| first
  | ((with_reducible (apply em_var)); rfl)
  | with_reducible refine em_c ?_
  | with_reducible refine em_op ?_
  | with_reducible refine ro_I0 ?_
  | ((with_reducible (refine ro_eq ?_ ?_)); rfl)
  | ((with_reducible (refine ro_ne ?_ ?_)); rfl)
  | with_reducible refine ro_isN ?_
  | with_reducible refine ro_notN ?_
  | with_reducible refine ea_nil ?_
  | with_reducible refine ea_cons ?_
  | with_reducible refine em_call ?_
  | walk_at "rc call"
  | (with_reducible refine em_fld ?_)
  | (refine ⟨_, _, _, _, rfl, (by walk_at "rc mem"), (by assumption), (by assumption), (by rfl), ?_⟩)
  | with_reducible refine ra_listV ?_
  | with_reducible refine em_cb ?_
  | with_reducible refine em_tup ?_
  | walk_at "rc lst"
  | with_reducible refine em_if ?_
  | with_reducible refine em_andV ?_
  | with_reducible refine em_orV ?_
  | with_reducible refine em_notV ?_
  | with_reducible refine em_chain ?_
  | with_reducible refine et_test ?_
  | with_reducible refine et_B ?_
  | with_reducible refine et_and ?_
  | with_reducible refine et_or ?_
  | with_reducible refine et_not ?_
  | with_reducible refine et_yes ?_
  | with_reducible refine sx_seq ?_
  | with_reducible refine sx_next ?_
  | with_reducible refine sx_asg ?_
  | with_reducible refine sx_ret ?_
  | with_reducible refine sx_append ?_
  | with_reducible refine sx_drop ?_
  | with_reducible refine sx_if ?_
  | (refine ⟨_, rfl, ?_⟩)
  | (refine ⟨fun _ => ?_, fun z => Bool.noConfusion z⟩)
  | (refine ⟨fun z => Bool.noConfusion z, fun _ => ?_⟩)
  | with_reducible refine em_make ?_
  | with_reducible refine em_meth ?_
  | (refine ⟨_, _, rfl, (by walk_at "rc mem"), rfl, ?_⟩)
  | with_reducible refine em_neg ?_
  | with_reducible refine sx_fld ?_
  | (refine ⟨_, _, _, 0, rfl, rfl, (by assumption), (by assumption), (of_decide_eq_true rfl), ?_⟩)
  | ((with_reducible (apply ra_len)); (first | exact .l .d | exact .t | exact .l (.c (by walk_at "rc mem"))))
  | ((with_reducible (apply ra_lenK)); (walk_at "rc mem"))
  | ((with_reducible (apply ro_ixL)); (first | exact .d | exact .c (by walk_at "rc mem")); (first | rfl | exact atI_0))
  | ((with_reducible (apply ro_ixT)); rfl)
  | (with_reducible (refine gx_name ?_ (by decide)))
  | ((with_reducible (apply gx_tupR)); rfl)
  | with_reducible refine gxs_cons ?_
  | with_reducible refine gxs_nil ?_
  | (exact ⟨rfl, rfl⟩)
  | (refine ⟨rfl, ?_⟩)
  | with_reducible refine em_dget ?_
  | with_reducible refine sx_lockAsg ?_
  | with_reducible refine em_din ?_
  | with_reducible refine em_dnotIn ?_
  | ((with_reducible (apply sx_aug)); rfl)
  | with_reducible refine sx_setL ?_
  | with_reducible refine sx_dput ?_
  | with_reducible refine gx_fld ?_
  | (with_reducible (apply sx_fldAug))
  | ((with_reducible (apply sx_rz)); assumption)
  | (refine ⟨(by simp only [List.length_cons, List.length_nil]; omega), ?_⟩))
local macro_rules | `(tactic| walk_at "rc perm") => `(tactic| (refine Mu.of ?_; simp only [Mu.app, Mu.cons, Mu.nil, Mu.nil_add, Mu.add_nil, List.append_eq]; ac_rfl))
section
variable [Tbl] {P : Program} {w : World} {K : PySem.W.Frag} {mg : Str → Option Value} {base : Heap}
local macro_rules | `(tactic| walk_at "rc call") => `(tactic| fail)
section
variable [Tbl] {H0 : Hp} {R0 R : Rg} {F : D → Rg → Prop} {g : Ev} {E : Es} {s s' : TS}
theorem sx_join {J : Ev → Rg → Prop} (h : SX H0 R0 s g R { E with nx := J }) (k : ∀ g' R', J g' R' → SX H0 R0 s' g' R' E) : SX H0 R0 (tSeq s s') g R E := sx_seq (h.mono fun D ok => ⟨fun g' R' σ H z t1 h1 e1 => ok.nx g' R' σ H (k g' R' z) t1 h1 e1, ok.rt, ok.bk, ok.ct⟩)
theorem ra_abs {i : Int} (k : F (.v (.int (if i < 0 then -i else i))) R) : RA H0 R0 (fun xs H Q => ∃ i, xs = [.int i] ∧ Q (.int (if i < 0 then -i else i)) H) [.v (.int i)] R F := fun H xs t hH r Q q => by
  obtain ⟨x, e1, r1⟩ := rpl1 r
  exact ⟨i, by rw [e1, rp_v.mp r1], q _ R _ H k Tn.refl hH rpv⟩
theorem ra_int {i : Int} (k : F (.v (.int i)) R) : RA H0 R0 (fun xs H Q => (∃ i, xs = [.int i] ∧ Q (.int i) H) ∨ ∃ k, xs = [.bl k] ∧ Q (.int (if k then 1 else 0)) H) [.v (.int i)] R F := fun H xs t hH r Q q => by
  obtain ⟨x, e1, r1⟩ := rpl1 r
  exact .inl ⟨i, by rw [e1, rp_v.mp r1], q _ R _ H k Tn.refl hH rpv⟩
end
theorem mulW {i j : Int} (h1 : 0 ≤ i ∧ i < 1099511627776) (h2 : 0 ≤ j ∧ j < 1099511627776) : L2.CMulW i j := by
  have e : (2 : Nat) ^ 40 = 1099511627776 := by decide
  exact L2.wide_mul (a := 40) (b := 40) (by omega) (by omega) (by decide) (by decide) (by decide)
theorem divW {i j : Int} (h : 0 < j ∧ j < 1099511627776) : L2.CDivW i j := by
  have e : (2 : Nat) ^ 40 = 1099511627776 := by decide
  exact L2.wide_div (b := 40) h.1 (by omega) (by decide) (by decide)
/-! ### the hand -/
theorem atI_at {cs : List Int} {i : Int} (h0 : 0 ≤ i) (h : i < cs.length) : ∃ c ∈ cs, atI (cs.map fun n => D.v (.int n)) i = some (.v (.int c)) := by
  obtain ⟨p, rfl⟩ := Int.eq_ofNat_of_zero_le h0
  have hp : p < cs.length := by omega
  refine ⟨cs[p], List.getElem_mem hp, ?_⟩
  unfold atI ixN
  simp [hp]
theorem mod_in {i j : Int} (h : 0 < j) : 0 ≤ i % j ∧ i % j < j := ⟨Int.emod_nonneg _ (by omega), Int.emod_lt_of_pos _ h⟩
structure Hd where
  cells : List Int
  i : Int
  left : Int
  x : Int
  k : Int
def hdD (h : Hd) : List D := [.l (h.cells.map fun n => .v (.int n)), .v (.int h.i), .v (.int h.left), .v (.int h.x), .v (.int h.k)]
structure HdOk (h : Hd) (m : Nat) : Prop where
  z : h.cells.length ≤ 63
  i : 0 ≤ h.i
  left : 0 ≤ h.left
  x : 0 ≤ h.x ∧ h.x < 2147483648
  k : 0 ≤ h.k ∧ h.k ≤ m
  pos : ∀ c ∈ h.cells, 0 ≤ c
  m : m ≤ 1000000
def HdAt (ha : Addr) (m : Nat) (R X : Rg) : Prop := ∃ h, HdOk h m ∧ R.Perm ((ha, .l (hdD h)) :: X)
theorem sc_l_hand : FnScope ["_law_script", "_law_cells", "_law_cell"] ["_law_script"] (defScope (top 52)) := ⟨rfl, rfl, rfl, by decide +kernel, rfl, by decide +kernel, by decide +kernel⟩
theorem kp_l_hand (W : Wd w K mg base) : PySem.W.keepIn K (.ref (He.fAd K ("_law_hand", none))) = true := W.kp 12
theorem b_l_hand (W : Wd w K mg base) : Binds K (fdO K (He.fAd K ("_law_hand", none))) ["_law_script"] [] := (W.F 12).bindsN fun _ _ _ _ _ _ us hl => match us, hl with | [_], _ => rfl
def gm_l_hand [Tbl] : Gm := fun ds R F => ∃ (d : D) (ns : List Int), ds = [d] ∧ IsL R d (ns.map fun n => .v (.int n)) ∧ ∀ ha R', HdAt ha 0 R' R → F (.v (.ref ha)) R'
abbrev sp_l_hand [Tbl] : Sp := spM (gm_l_hand)
theorem c_l_hand [Tbl] {H0 : Hp} {R0 R : Rg} {Ex : XK} {F : D → Rg → Prop} {d : D} {ns : List Int} (h : IsL R d (ns.map fun n => .v (.int n))) (k : ∀ ha R', HdAt ha 0 R' R → F (.v (.ref ha)) R') : RS H0 R0 sp_l_hand Ex [d] R F := rs_m ⟨d, ns, rfl, h, k⟩
theorem ok_l_hand (W : Wd w K mg base) : FnOk P w K mg base CX0 1 (He.fAd K ("_law_hand", none)) (fdO K (He.fAd K ("_law_hand", none))) ["_law_script"] (sp_l_hand) := by
  refine (W.F 12).ok sc_l_hand ?_ (fun cdv A outer s H vs Q E hr h => ?_)
  · exact lenM fun ds R F h => by obtain ⟨d, ns, rfl, hl, hF⟩ := h; rfl
  have hu64 := hr.units
  have hu := Nat.lt_of_le_of_lt (Nat.add_le_add_left (show 1 ≤ 64 by decide) _) hu64
  refine ⟨_, PSs.nox (pss_cons (ps_setLc (i := 1) (own := [("_law_cell", 2)]) (g := (gName 2)) rfl sc_l_hand.nd rfl rfl (sw_true rfl rfl rfl (by decide +kernel)) (ilistK (K := K) rfl (pe_slice (sllK (K := K) rfl) (pv 0) po_none (po_some pe_int))) (blkOk_by (show blkC ["_law_script", "_law_cells", "_law_cell"] (defScope (top 52)) _ [("_law_cell", 2)] = true by decide +kernel)) (fun _ _ _ _ _ => (pg_name (i := 2) sc_l_hand.nd rfl (.inl rfl))) (fun _ _ _ _ _ => pts_nil) (fun _ _ _ _ _ => (pe_callB call_abs rfl (W.free 64) (by decide +kernel) (pa_cons (pe_callTy call_int1 rfl (W.free 62) (by decide +kernel) (pa_cons (pv 2) pa_nil)) pa_nil))))
    (pss_one (ps_ret (pe_lst (pa_cons (pv 1) (pa_cons pe_int (pa_cons pe_int (pa_cons (pe_op op_add pe_int (pe_callB (lenK (K := K) rfl) rfl (W.free 49) (by decide +kernel) (pa_cons (pv 1) pa_nil))) (pa_cons pe_int pa_nil))))))))), entryM h ?_⟩
  clear h hu hu64 hr
  rintro ds R F ⟨d, ns, rfl, hl, hF⟩
  refine sx_seq (sx_asg (em_lcI (em_slL ?_)))
  repeat walk_at "rc step"
  refine eo_none (eo_some ?_)
  repeat walk_at "rc step"
  refine ⟨_, hl, ?_⟩
  have ec : cutD (ns.map fun n => D.v (.int n)) none (some (63 : Int)) = (ns.take 63).map fun n => D.v (.int n) := by
    have e := cut_take (ds := ns.map fun n => D.v (.int n)) (n := 63)
    rw [← List.map_take] at e
    exact e
  rw [ec]
  refine ⟨_, ns.take 63, fun n => .v (.int n), fun n => some (.v (.int (if n < 0 then -n else n))), .d, by rw [List.length_take]; omega, fun x hx H1 Rx hs => ?_, ?_⟩
  · repeat walk_at "rc step"
    refine ra_int ?_
    repeat walk_at "rc step"
    refine ra_abs ?_
    repeat walk_at "rc step"
  rw [fm_some]
  have em : ((ns.take 63).map fun n => D.v (.int (if n < 0 then -n else n))) = ((ns.take 63).map fun n : Int => if n < 0 then -n else n).map fun n => D.v (.int n) := by
    rw [List.map_map]
    rfl
  rw [em]
  have hz : ((ns.take 63).map fun n : Int => if n < 0 then -n else n).length ≤ 63 := by
    rw [List.length_map, List.length_take]
    omega
  have hp : ∀ c ∈ (ns.take 63).map fun n : Int => if n < 0 then -n else n, 0 ≤ c := fun c hc => by
    obtain ⟨n, _, rfl⟩ := List.mem_map.mp hc
    show 0 ≤ if n < 0 then -n else n
    split <;> omega
  generalize ((ns.take 63).map fun n : Int => if n < 0 then -n else n) = cs at *
  refine sx_ret (em_lstC ?_)
  repeat walk_at "rc step"
  intro ha
  rw [List.length_map]
  refine hF ha _ ⟨⟨cs, 0, 0, 1 + cs.length, 0⟩, ⟨hz, Int.le_refl _, Int.le_refl _, ?_, by simp, hp, by decide⟩, List.Perm.refl _⟩
  show 0 ≤ (1 + cs.length : Int) ∧ (1 + cs.length : Int) < 2147483648
  omega
theorem sc_l_draw : FnScope ["_law_hand_here", "_law_many", "_law_cell", "_law_digit", "_law_number"] ["_law_hand_here", "_law_many"] (defScope (top 53)) := ⟨rfl, rfl, rfl, by decide +kernel, rfl, by decide +kernel, by decide +kernel⟩
theorem kp_l_draw (W : Wd w K mg base) : PySem.W.keepIn K (.ref (He.fAd K ("_law_draw", none))) = true := W.kp 13
theorem b_l_draw (W : Wd w K mg base) : Binds K (fdO K (He.fAd K ("_law_draw", none))) ["_law_hand_here", "_law_many"] [] := (W.F 13).bindsN fun _ _ _ _ _ _ us hl => match us, hl with | [_, _], _ => rfl
def gm_l_draw [Tbl] : Gm := fun ds R F => ∃ (ha : Addr) (m : Nat) (many : Int) (X : Rg), ds = [.v (.ref ha), .v (.int many)] ∧ HdAt ha m R X ∧ m + 1 ≤ 1000000 ∧ (0 < many ∧ many ≤ 1000) ∧ ∀ (r : Int) R', 0 ≤ r ∧ r < many → HdAt ha (m + 1) R' X → F (.v (.int r)) R'
abbrev sp_l_draw [Tbl] : Sp := spM (gm_l_draw)
theorem c_l_draw [Tbl] {H0 : Hp} {R0 R X : Rg} {Ex : XK} {F : D → Rg → Prop} {ha : Addr} {m : Nat} {many : Int} (h1 : HdAt ha m R X) (h2 : m + 1 ≤ 1000000) (h3 : 0 < many ∧ many ≤ 1000) (k : ∀ (r : Int) R', 0 ≤ r ∧ r < many → HdAt ha (m + 1) R' X → F (.v (.int r)) R') : RS H0 R0 sp_l_draw Ex [.v (.ref ha), .v (.int many)] R F := rs_m ⟨ha, m, many, X, rfl, h1, h2, h3, k⟩
theorem ok_l_draw (W : Wd w K mg base) : FnOk P w K mg base CX0 1 (He.fAd K ("_law_draw", none)) (fdO K (He.fAd K ("_law_draw", none))) ["_law_hand_here", "_law_many"] (sp_l_draw) := by
  refine (W.F 13).ok sc_l_draw ?_ (fun cdv A outer s H vs Q E hr h => ?_)
  · exact lenM fun ds R F h => by obtain ⟨ha, m, many, X, rfl, ⟨h, hok, p⟩, hm, hmany, hF⟩ := h; rfl
  have hu64 := hr.units
  have hu := Nat.lt_of_le_of_lt (Nat.add_le_add_left (show 1 ≤ 64 by decide) _) hu64
  refine ⟨_, PSs.nox (pss_cons (ps_if (PW.pt (pw_and (pt_cmpR op_eq (pe_ix (ixlK (K := K) rfl) (pv 0) pe_int (fun _ _ => rfl)) pe_int (nomark _)) (pw_and1 (pt_cmpR op_lt (pe_ix (ixlK (K := K) rfl) (pv 0) pe_int (fun _ _ => rfl)) (pe_callB (lenK (K := K) rfl) rfl (W.free 49) (by decide +kernel) (pa_cons (pe_ix (ixlK (K := K) rfl) (pv 0) pe_int (fun _ _ => rfl)) pa_nil)) (nomark _)))))
    (pss_cons (ps_set (i := 2) sc_l_draw.nd rfl (.inl rfl) (pe_ix (ixlK (K := K) rfl) (pe_ix (ixlK (K := K) rfl) (pv 0) pe_int (fun _ _ => rfl)) (pe_ix (ixlK (K := K) rfl) (pv 0) pe_int (fun _ _ => rfl)) (fun _ _ => rfl)))
    (pss_cons (ps_asg (pe_op op_add (pe_ix (ixlK (K := K) rfl) (pv 0) pe_int (fun _ _ => rfl)) pe_int) (pg_sub (pv 0) pe_int set_list))
    (pss_cons (ps_asg (pe_op op_mod (pe_callTy call_int1 rfl (W.free 62) (by decide +kernel) (pa_cons (pe_op op_add (pe_op op_add (pe_op L2.op_mulW (pe_ix (ixlK (K := K) rfl) (pv 0) pe_int (fun _ _ => rfl)) pe_int) (pv 2)) pe_int) pa_nil)) pe_int) (pg_sub (pv 0) pe_int set_list))
    (pss_one (ps_if (pt_cmpR op_ge (pv 2) (pe_op op_pow pe_int pe_int) (nomark _))
    (pss_one (ps_asg (pv 2) (pg_sub (pv 0) pe_int set_list)))
    pss_nil)))))
    pss_nil)
    (pss_cons (ps_if (pt_cmpR op_gt (pe_ix (ixlK (K := K) rfl) (pv 0) pe_int (fun _ _ => rfl)) pe_int (nomark _))
    (pss_cons (ps_set (i := 3) sc_l_draw.nd rfl (.inl rfl) (pe_op op_mod (pe_callTy call_int1 rfl (W.free 62) (by decide +kernel) (pa_cons (pe_ix (ixlK (K := K) rfl) (pv 0) pe_int (fun _ _ => rfl)) pa_nil)) (pv 1)))
    (pss_cons (ps_asg (pe_op L2.op_fdivW (pe_ix (ixlK (K := K) rfl) (pv 0) pe_int (fun _ _ => rfl)) (pv 1)) (pg_sub (pv 0) pe_int set_list))
    (pss_one (ps_ret (pv 3)))))
    pss_nil)
    (pss_cons (ps_asg (pe_op op_add (pe_ix (ixlK (K := K) rfl) (pv 0) pe_int (fun _ _ => rfl)) pe_int) (pg_sub (pv 0) pe_int set_list))
    (pss_cons (ps_set (i := 4) sc_l_draw.nd rfl (.inl rfl) (pe_op op_mod (pe_callTy call_int1 rfl (W.free 62) (by decide +kernel) (pa_cons (pe_op L2.op_mulW (pe_callTy call_int1 rfl (W.free 62) (by decide +kernel) (pa_cons (pe_op op_add (pe_ix (ixlK (K := K) rfl) (pv 0) pe_int (fun _ _ => rfl)) (pe_op L2.op_mulW pe_int (pe_ix (ixlK (K := K) rfl) (pv 0) pe_int (fun _ _ => rfl)))) pa_nil)) pe_int) pa_nil)) pe_int))
    (pss_cons (ps_set (i := 4) sc_l_draw.nd rfl (.inl rfl) (pe_op op_mod (pe_callTy call_int1 rfl (W.free 62) (by decide +kernel) (pa_cons (pe_op L2.op_mulW (pv 4) (pe_op op_add (pe_op L2.op_fdivW (pv 4) pe_int) pe_int)) pa_nil)) pe_int))
    (pss_cons (ps_set (i := 4) sc_l_draw.nd rfl (.inl rfl) (pe_op op_mod (pe_callTy call_int1 rfl (W.free 62) (by decide +kernel) (pa_cons (pe_op L2.op_mulW (pv 4) (pe_op op_add (pe_op L2.op_fdivW (pv 4) pe_int) pe_int)) pa_nil)) pe_int))
    (pss_one (ps_ret (pe_op op_mod (pe_callTy call_int1 rfl (W.free 62) (by decide +kernel) (pa_cons (pe_op L2.op_fdivW (pv 4) pe_int) pa_nil)) (pv 1)))))))))), entryM h ?_⟩
  clear h hu hu64 hr
  rintro ds R F ⟨ha, m, many, X, rfl, ⟨h, hok, p⟩, hm, hmany, hF⟩
  refine sx_perm p ?_
  clear p
  refine sx_join (J := fun g' R' => ∃ (h' : Hd) (o : Option D), HdOk h' m ∧ R' = (ha, .l (hdD h')) :: X ∧ g' = [some (.v (.ref ha)), some (.v (.int many)), o, none, none]) ?_ ?_
  · obtain ⟨cs, i, left, x, k⟩ := h
    have hi0 : 0 ≤ i := hok.i
    have hx0 : 0 ≤ x := hok.x.1
    have hx1 : x < 2147483648 := hok.x.2
    unfold hdD
    repeat walk_at "rc step"
    have e1 : decide (V.int left = V.int 0) = decide (left = 0) := by simp
    rw [e1]
    refine ⟨fun h1 => ?_, fun h1 => ⟨fun z => Bool.noConfusion z, fun _ => ?_⟩⟩
    · repeat walk_at "rc step"
      rw [List.length_map]
      refine ⟨fun h2 => ?_, fun h2 => ?_⟩
      · obtain ⟨c, hc, ec⟩ := atI_at hok.i (of_decide_eq_true h2)
        have hc0 : 0 ≤ c := hok.pos c hc
        repeat walk_at "rc step"
        refine ro_ixL .d ec ?_
        repeat walk_at "rc step"
        refine ⟨_, _, _, 1, 0, rfl, rfl, rfl, rfl, ?_⟩
        simp only [List.set_cons_zero, List.set_cons_succ]
        repeat walk_at "rc step"
        refine ro_I (mulW ⟨by omega, by omega⟩ (by decide)) ?_
        repeat walk_at "rc step"
        refine ra_int ?_
        repeat walk_at "rc step"
        refine ro_I (by decide) ?_
        repeat walk_at "rc step"
        refine ⟨_, _, _, 3, 0, rfl, rfl, rfl, rfl, ?_⟩
        simp only [List.set_cons_zero, List.set_cons_succ]
        have hm2 := mod_in (i := x * 69621 + c + 11) (j := 2147483629) (by decide)
        generalize (x * 69621 + c + 11) % 2147483629 = x2 at *
        repeat walk_at "rc step"
        refine ro_I ⟨by decide, by decide, by decide⟩ ?_
        repeat walk_at "rc step"
        refine ⟨fun h3 => ?_, fun h3 => ?_⟩
        · repeat walk_at "rc step"
          refine ⟨_, _, _, 2, 0, rfl, rfl, rfl, rfl, ?_⟩
          simp only [List.set_cons_zero, List.set_cons_succ]
          exact ⟨⟨cs, i + 1, c, x2, k⟩, _, ⟨hok.z, by show 0 ≤ i + 1; omega, hc0, by show 0 ≤ x2 ∧ x2 < 2147483648; omega, hok.k, hok.pos, hok.m⟩, rfl, rfl⟩
        · repeat walk_at "rc step"
          exact ⟨⟨cs, i + 1, left, x2, k⟩, _, ⟨hok.z, by show 0 ≤ i + 1; omega, hok.left, by show 0 ≤ x2 ∧ x2 < 2147483648; omega, hok.k, hok.pos, hok.m⟩, rfl, rfl⟩
      · repeat walk_at "rc step"
        exact ⟨_, _, hok, rfl, rfl⟩
    · repeat walk_at "rc step"
      exact ⟨_, _, hok, rfl, rfl⟩
  · rintro g' R' ⟨⟨cs, i, left, x, k⟩, o, hok, rfl, rfl⟩
    unfold hdD
    repeat walk_at "rc step"
    refine ⟨fun h1 => ?_, fun h1 => ?_⟩
    · repeat walk_at "rc step"
      refine ra_int ?_
      repeat walk_at "rc step"
      refine ro_I hmany.1 ?_
      repeat walk_at "rc step"
      refine ro_I (divW ⟨hmany.1, by omega⟩) ?_
      repeat walk_at "rc step"
      refine ⟨_, _, _, 2, 0, rfl, rfl, rfl, rfl, ?_⟩
      simp only [List.set_cons_zero, List.set_cons_succ]
      repeat walk_at "rc step"
      refine hF _ _ (mod_in hmany.1) ⟨⟨cs, i, left / many, x, k⟩, ⟨hok.z, hok.i, Int.ediv_nonneg hok.left (by omega), hok.x, ⟨hok.k.1, by have := hok.k.2; show k ≤ ((m + 1 : Nat) : Int); have h5 : k ≤ (m : Int) := this; omega⟩, hok.pos, hm⟩, List.Perm.refl _⟩
    · repeat walk_at "rc step"
      refine ⟨_, _, _, 4, 0, rfl, rfl, rfl, rfl, ?_⟩
      simp only [List.set_cons_zero, List.set_cons_succ]
      have hk0 : 0 ≤ k := hok.k.1
      have hk1 : k ≤ (m : Int) := hok.k.2
      have hx0 : 0 ≤ x := hok.x.1
      have hx1 : x < 2147483648 := hok.x.2
      repeat walk_at "rc step"
      refine ro_I (mulW (by decide) ⟨by omega, by omega⟩) ?_
      repeat walk_at "rc step"
      refine ra_int ?_
      repeat walk_at "rc step"
      refine ro_I (mulW ⟨by omega, by omega⟩ (by decide)) ?_
      repeat walk_at "rc step"
      refine ra_int ?_
      repeat walk_at "rc step"
      refine ro_I (by decide) ?_
      have hm2 := mod_in (i := (x + 7919 * (k + 1)) * 48271) (j := 2147483647) (by decide)
      generalize ((x + 7919 * (k + 1)) * 48271) % 2147483647 = y1 at *
      repeat walk_at "rc step"
      refine ro_I (divW (by decide)) ?_
      repeat walk_at "rc step"
      refine ro_I (mulW ⟨hm2.1, by omega⟩ ⟨by have := Int.ediv_nonneg hm2.1 (show (0 : Int) ≤ 1009 by decide); omega, by omega⟩) ?_
      repeat walk_at "rc step"
      refine ra_int ?_
      repeat walk_at "rc step"
      refine ro_I (by decide) ?_
      have hm3 := mod_in (i := y1 * (y1 / 1009 + 69621)) (j := 2147483647) (by decide)
      generalize (y1 * (y1 / 1009 + 69621)) % 2147483647 = y2 at *
      repeat walk_at "rc step"
      refine ro_I (divW (by decide)) ?_
      repeat walk_at "rc step"
      refine ro_I (mulW ⟨hm3.1, by omega⟩ ⟨by have := Int.ediv_nonneg hm3.1 (show (0 : Int) ≤ 2003 by decide); omega, by omega⟩) ?_
      repeat walk_at "rc step"
      refine ra_int ?_
      repeat walk_at "rc step"
      refine ro_I (by decide) ?_
      generalize (y2 * (y2 / 2003 + 40692)) % 2147483399 = y3 at *
      repeat walk_at "rc step"
      refine ro_I (divW (by decide)) ?_
      repeat walk_at "rc step"
      refine ra_int ?_
      repeat walk_at "rc step"
      refine ro_I hmany.1 ?_
      exact hF _ _ (mod_in hmany.1) ⟨⟨cs, i, left, x, k + 1⟩, ⟨hok.z, hok.i, hok.left, hok.x, ⟨by show 0 ≤ k + 1; omega, by show k + 1 ≤ ((m + 1 : Nat) : Int); omega⟩, hok.pos, hm⟩, List.Perm.refl _⟩
theorem sc_l_pick : FnScope ["_law_hand_here", "_law_things"] ["_law_hand_here", "_law_things"] (defScope (top 54)) := ⟨rfl, rfl, rfl, by decide +kernel, rfl, by decide +kernel, by decide +kernel⟩
theorem kp_l_pick (W : Wd w K mg base) : PySem.W.keepIn K (.ref (He.fAd K ("_law_pick", none))) = true := W.kp 14
theorem b_l_pick (W : Wd w K mg base) : Binds K (fdO K (He.fAd K ("_law_pick", none))) ["_law_hand_here", "_law_things"] [] := (W.F 14).bindsN fun _ _ _ _ _ _ us hl => match us, hl with | [_, _], _ => rfl
def gm_l_pick [Tbl] : Gm := fun ds R F => ∃ (ha : Addr) (m : Nat) (l : List D) (X : Rg), ds = [.v (.ref ha), .l l] ∧ HdAt ha m R X ∧ m + 1 ≤ 1000000 ∧ (0 < l.length ∧ l.length ≤ 1000) ∧ ∀ d ∈ l, ∀ R', HdAt ha (m + 1) R' X → F d R'
abbrev sp_l_pick [Tbl] : Sp := spM (gm_l_pick)
theorem c_l_pick [Tbl] {H0 : Hp} {R0 R X : Rg} {Ex : XK} {F : D → Rg → Prop} {ha : Addr} {m : Nat} {l : List D} (h1 : HdAt ha m R X) (h2 : m + 1 ≤ 1000000) (h3 : 0 < l.length ∧ l.length ≤ 1000) (k : ∀ d ∈ l, ∀ R', HdAt ha (m + 1) R' X → F d R') : RS H0 R0 sp_l_pick Ex [.v (.ref ha), .l l] R F := rs_m ⟨ha, m, l, X, rfl, h1, h2, h3, k⟩
theorem ok_l_pick (W : Wd w K mg base) : FnOk P w K mg base CX0 2 (He.fAd K ("_law_pick", none)) (fdO K (He.fAd K ("_law_pick", none))) ["_law_hand_here", "_law_things"] (sp_l_pick) := by
  refine (W.F 14).ok sc_l_pick ?_ (fun cdv A outer s H vs Q E hr h => ?_)
  · exact lenM fun ds R F h => by obtain ⟨ha, m, l, X, rfl, h1, h2, h3, hF⟩ := h; rfl
  have hu64 := hr.units
  have hu := Nat.lt_of_le_of_lt (Nat.add_le_add_left (show 1 ≤ 64 by decide) _) hu64
  refine ⟨_, PSs.nox (pss_one (ps_ret (pe_ix (ixlK (K := K) rfl) (pv 1) (pe_call (ok_l_draw (K := K) W) (hr.mono (by decide)) rfl (W.glo 13) (kp_l_draw W) (b_l_draw W) .nil pass0 (pa_cons (pv 0) (pa_cons (pe_callB (lenK (K := K) rfl) rfl (W.free 49) (by decide +kernel) (pa_cons (pv 1) pa_nil)) pa_nil))) (fun _ _ => rfl)))), entryM h ?_⟩
  clear h hu hu64 hr
  rintro ds R F ⟨ha, m, l, X, rfl, h1, h2, h3, hF⟩
  repeat walk_at "rc step"
  refine c_l_draw h1 h2 ⟨by omega, by omega⟩ fun r R' hr h4 => ?_
  obtain ⟨p, rfl⟩ := Int.eq_ofNat_of_zero_le hr.1
  have hp : p < l.length := by omega
  refine ro_ixL .d (show atI l (p : Int) = some l[p] by unfold atI ixN; simp [hp]) ?_
  exact hF _ (List.getElem_mem hp) R' h4
end
end Rc
-- N
set_option Elab.async false
set_option linter.all false
set_option maxRecDepth 100000
set_option maxHeartbeats 4000000
/-! RcN: an engine and a book in one region; what shows of them. -/
namespace Rc
open PySem PySem.Spec PyProof.Rows L2 RcHead
variable [Tbl]
local macro_rules | `(tactic| walk_at "rc perm") => `(tactic| (refine Mu.of ?_; simp only [Mu.app, Mu.cons, Mu.nil, Mu.nil_add, Mu.add_nil, List.append_eq]; ac_rfl))
def JAt (K : PySem.W.Frag) (e bk : Addr) (s1 : Ps) (t : Nat) (s2 : Ps) (R Y : Rg) : Prop := ∃ E ms dd rs jk B dl jk2, R.Perm (EnL K e s1 E ms dd rs jk ++ (BkL bk s2 B dl jk2 ++ Y)) ∧ (EnV0 s1 E ms dd ∧ RsIn K rs (ms.flatMap (mcells K) ++ jk) ∧ rs.length ≤ t) ∧ BkV s2 B dl ∧ NoRow jk2
section
variable {K : PySem.W.Frag} {e bk : Addr} {s s1 s2 : Ps} {t t' : Nat} {R Y : Rg}
theorem JAt.en (h : JAt K e bk s1 t s2 R Y) (nY : NoRow Y) : ∃ X, EnAt K e s1 t R X ∧ NoRow X ∧ ∀ s' t' R', EnAt K e s' t' R' X → JAt K e bk s' t' s2 R' Y := by
  obtain ⟨E, ms, dd, rs, jk, B, dl, jk2, p, ⟨v, r, z⟩, v2, hj⟩ := h
  exact ⟨BkL bk s2 B dl jk2 ++ Y, ⟨E, ms, dd, rs, jk, p, v, r, z⟩, no_app (no_bk hj) nY, fun s' t' R' ⟨E', ms', dd', rs', jk', p', v', r', z'⟩ => ⟨E', ms', dd', rs', jk', B, dl, jk2, p', ⟨v', r', z'⟩, v2, hj⟩⟩
theorem JAt.boo (h : JAt K e bk s1 t s2 R Y) : ∃ X, BkAt bk s2 R X ∧ ∀ s' R', BkAt bk s' R' X → JAt K e bk s1 t s' R' Y := by
  obtain ⟨E, ms, dd, rs, jk, B, dl, jk2, p, ⟨v, r, z⟩, v2, hj⟩ := h
  refine ⟨EnL K e s1 E ms dd rs jk ++ Y, ⟨B, dl, jk2, p.trans ?_, v2, hj⟩, fun s' R' ⟨B', dl', jk', p', v', hj'⟩ => ⟨E, ms, dd, rs, jk, B', dl', jk', p'.trans ?_, ⟨v, r, z⟩, v', hj'⟩⟩
  · generalize EnL K e s1 E ms dd rs jk = a
    generalize BkL bk s2 B dl jk2 = b
    walk_at "rc perm"
  · generalize EnL K e s1 E ms dd rs jk = a
    generalize BkL bk s' B' dl' jk' = b
    walk_at "rc perm"
theorem JAt.enF (h : JAt K e bk s1 t s2 R Y) (ok : PsOk s1 t') : EnF K e s1 R := by
  obtain ⟨E, ms, dd, rs, jk, B, dl, jk2, p, ⟨v, r, z⟩, v2, hj⟩ := h
  exact ⟨E, ms, dd, .of ok p v⟩
theorem JAt.bkF (h : JAt K e bk s1 t s2 R Y) (ok : PsOk s2 t') : BkF bk s2 R := by
  obtain ⟨X, h, _⟩ := h.boo
  exact h.f ok
theorem JAt.perm {R' : Rg} (p : R.Perm R') (h : JAt K e bk s1 t s2 R' Y) : JAt K e bk s1 t s2 R Y := let ⟨E, ms, dd, rs, jk, B, dl, jk2, q, z⟩ := h; ⟨E, ms, dd, rs, jk, B, dl, jk2, p.trans q, z⟩
/-- the same cells, the dict of deeds perhaps locked -/
theorem EnF0.of2 (ok : PsOk s t') {E : En} {ms : List Mb} {dd : List (Int × Int)} {rs : List Addr} {jk : Rg} (m : ∀ c, c ∈ EnL K e s E ms dd rs jk → c ∈ R) (v : EnV0 s E ms dd) : EnF0 K e s R E ms dd := by
  refine ⟨m _ ?_, .of2 v ok fun c hc => m c (sub5 _ ?_), v, m _ ?_, m _ ?_, m _ ?_⟩
  case refine_2 =>
    rcases List.mem_cons.mp hc with z | z
    · rw [z]; exact List.mem_cons_self
    · exact List.mem_cons_of_mem _ (List.mem_append_left _ z)
  all_goals simp [EnL, core]
theorem nd_set {A B C : Rg} {x : Addr × RC} {R : Rg} {n : Nat} {y : Addr × RC} (p : R.Perm (A ++ (x :: B))) (nd : (R.map (·.1)).Nodup) (hx : R[n]? = some x) : ∀ c, c ∈ A ∨ c ∈ B → c ∈ R.set n y := fun c hc => by
  have nd2 := (p.map (·.1)).nodup nd
  have ne : c.1 ≠ x.1 := fun z => by
    rw [List.map_append, List.map_cons] at nd2
    obtain ⟨_, h2, h3⟩ := List.nodup_append.mp nd2
    rcases hc with hc | hc
    · exact h3 c.1 (List.mem_map.mpr ⟨c, hc, rfl⟩) x.1 List.mem_cons_self z
    · exact (List.nodup_cons.mp h2).1 (List.mem_map.mpr ⟨c, hc, z⟩)
  have hc' : c ∈ R := p.mem_iff.mpr (hc.elim (fun z => List.mem_append_left _ z) fun z => List.mem_append_right _ (List.mem_cons_of_mem _ z))
  exact mem_set_ne hc' hx fun z => ne (by rw [z])
/-! ### the least place of what is needed -/
def Needed (s : Ps) (m : Int) : Prop := (∃ d ∈ s.dl, ∃ w, d.w = some w ∧ w.place = m) ∨ (∃ i, i < s.n ∧ s.bd i = some m) ∨ m = s.head
theorem need_E {E : En} {ms : List Mb} {dd : List (Int × Int)} (v : EnV0 s E ms dd) (m : Int) : m ∈ begs ms ++ dd.map (·.2) ++ [E.head] ↔ Needed s m := by
  rw [List.mem_append, List.mem_append, List.mem_singleton, v.h]
  unfold Needed
  constructor
  · rintro ((h | h) | h)
    · left
      obtain ⟨b, hb, e1⟩ := List.mem_map.mp h
      obtain ⟨h1, h2⟩ := List.mem_filter.mp hb
      cases cw : (mbP b).w with
      | none =>
        obtain ⟨e0, _⟩ := beg_N cw
        rw [e0] at h2
        cases h2
      | some w =>
        obtain ⟨_, e2, _⟩ := beg_P cw (v.one b h1).2
        exact ⟨mbP b, by rw [← v.dl]; exact List.mem_map.mpr ⟨b, h1, rfl⟩, w, cw, by rw [← e2]; exact e1⟩
    · right; left
      obtain ⟨q, hq, e1⟩ := List.mem_map.mp h
      obtain ⟨i, hi, _, hb⟩ := (v.dd.at_ q.1 q.2).mp hq
      exact ⟨i, hi, by rw [hb, ← e1]⟩
    · exact .inr (.inr h)
  · rintro (⟨d, hd, w, hw, e1⟩ | ⟨i, hi, e1⟩ | h)
    · left; left
      obtain ⟨b, hb, rfl⟩ := v.mem hd
      obtain ⟨e0, e2, _⟩ := beg_P hw (v.one b hb).2
      exact List.mem_map.mpr ⟨b, List.mem_filter.mpr ⟨hb, by rw [e0]; rfl⟩, by rw [e2, e1]⟩
    · left; right
      exact List.mem_map.mpr ⟨((i : Int), m), (v.dd.at_ _ _).mpr ⟨i, hi, rfl, e1⟩, rfl⟩
    · exact .inr h
theorem need_B {B : Bk} {dl : List Dd} (v : BkV s B dl) (m : Int) : m ∈ (tlL dl s.n s.bd).filterMap id ++ [B.head] ↔ Needed s m := by
  rw [List.mem_append, List.mem_singleton, v.h, List.mem_filterMap]
  unfold tlL Needed
  have eo : ∀ d : Dd, optF d = (ddP d).w.map (·.place) := fun d => by
    obtain ⟨no, ends, a, wA, wr⟩ := d
    cases wr <;> rfl
  constructor
  · rintro (⟨o, ho, e1⟩ | h)
    · have e1' : o = some m := e1
      subst e1'
      rcases List.mem_append.mp ho with z | z
      · left
        obtain ⟨d, hd, e2⟩ := List.mem_map.mp z
        rw [eo] at e2
        cases cw : (ddP d).w with
        | none => rw [cw] at e2; cases e2
        | some w =>
          rw [cw] at e2
          exact ⟨ddP d, by rw [← v.dl]; exact List.mem_map.mpr ⟨d, hd, rfl⟩, w, cw, Option.some.inj e2⟩
      · right; left
        obtain ⟨i, hi, e2⟩ := List.mem_map.mp z
        exact ⟨i, List.mem_range.mp hi, e2⟩
    · exact .inr (.inr h)
  · rintro (⟨d, hd, w, hw, e1⟩ | ⟨i, hi, e1⟩ | h)
    · left
      obtain ⟨b, hb, rfl⟩ := v.mem hd
      exact ⟨some m, List.mem_append_left _ (List.mem_map.mpr ⟨b, hb, by rw [eo, hw, ← e1]; rfl⟩), rfl⟩
    · left
      exact ⟨some m, List.mem_append_right _ (List.mem_map.mpr ⟨i, List.mem_range.mpr hi, e1⟩), rfl⟩
    · exact .inr h
end
/-! ### == of plain data -/
def pdV : V → PyData
  | .int i => .int i
  | _ => .none
def Pl (v : V) : Prop := v = .non ∨ ∃ i, v = .int i
section
variable {K : PySem.W.Frag} {H0 : Hp} {R0 R : Rg} {F : D → Rg → Prop}
theorem dp_all {H : Hp} : ∀ {vs : List V}, (∀ v ∈ vs, Pl v) → DpAll K H vs (vs.map pdV)
  | [], _ => .nil
  | v :: vs, h => by
    refine .cons ?_ (dp_all fun x hx => h x (List.mem_cons_of_mem _ hx))
    rcases h v List.mem_cons_self with rfl | ⟨i, rfl⟩
    · exact .non
    · exact .int i
theorem pd_shape : ∀ {vs : List V}, PyData.canLayAll0 (vs.map pdV) = true ∧ PyData.depthAll (vs.map pdV) = 0 ∧ PyData.eqvAll (vs.map pdV) (vs.map pdV) = true
  | [] => ⟨rfl, rfl, rfl⟩
  | v :: vs => by
    obtain ⟨h1, h2, h3⟩ := pd_shape (vs := vs)
    have g : PyData.canLay0 (pdV v) = true ∧ PyData.depth (pdV v) = 0 ∧ PyData.eqv (pdV v) (pdV v) = true := by
      cases v with
      | int i => exact ⟨rfl, rfl, by show (i == i) = true; simp⟩
      | _ => exact ⟨rfl, rfl, rfl⟩
    rw [List.map_cons]
    refine ⟨?_, ?_, ?_⟩
    · show (PyData.canLay0 (pdV v) && PyData.canLayAll0 (vs.map pdV)) = true
      rw [g.1, h1]; rfl
    · show max (PyData.depth (pdV v)) (PyData.depthAll (vs.map pdV)) = 0
      rw [g.2.1, h2]; rfl
    · show (PyData.eqv (pdV v) (pdV v) && PyData.eqvAll (vs.map pdV) (vs.map pdV)) = true
      rw [g.2.2, h3]; rfl
theorem ro_neL {vs : List V} (h : ∀ v ∈ vs, Pl v) (k : F (.v (.bl false)) R) : RO H0 R0 (rNeD K) (.l (vs.map D.v)) (.l (vs.map D.v)) R F := fun H x y t hH r1 r2 Q q => by
  obtain ⟨a, xs, e1, _, h1, l1⟩ := rp_l.mp r1
  obtain ⟨b, ys, e2, _, h2, l2⟩ := rp_l.mp r2
  have ex : xs = vs := by have := rpl_mapV (f := fun v : V => v) (as := vs) l1; rw [this, List.map_id']
  have ey : ys = vs := by have := rpl_mapV (f := fun v : V => v) (as := vs) l2; rw [this, List.map_id']
  subst e1 e2 ex ey
  obtain ⟨g1, g2, g3⟩ := pd_shape (vs := ys)
  have sh : SeqAt.shaped (.list (ys.map pdV)) = true := by
    unfold SeqAt.shaped
    rw [Bool.and_eq_true]
    refine ⟨g1, decide_eq_true ?_⟩
    show PyData.depthAll (ys.map pdV) + 1 ≤ 64
    rw [g2]; decide
  refine ⟨_, _, .lst (SqL.of h1) (dp_all h), .lst (SqL.of h2) (dp_all h), sh, sh, ?_⟩
  have e : PyData.eqv (.list (ys.map pdV)) (.list (ys.map pdV)) = true := g3
  rw [e]
  exact q _ R _ H k Tn.refl hH rpv
theorem ro_neT {vs : List V} (h : ∀ v ∈ vs, Pl v) (k : F (.v (.bl false)) R) : RO H0 R0 (rNeD K) (.t (vs.map D.v)) (.t (vs.map D.v)) R F := fun H x y t hH r1 r2 Q q => by
  obtain ⟨a, xs, e1, _, h1, l1⟩ := rp_t.mp r1
  obtain ⟨b, ys, e2, _, h2, l2⟩ := rp_t.mp r2
  have ex : xs = vs := by have := rpl_mapV (f := fun v : V => v) (as := vs) l1; rw [this, List.map_id']
  have ey : ys = vs := by have := rpl_mapV (f := fun v : V => v) (as := vs) l2; rw [this, List.map_id']
  subst e1 e2 ex ey
  obtain ⟨g1, g2, g3⟩ := pd_shape (vs := ys)
  have sh : SeqAt.shaped (.tuple (ys.map pdV)) = true := by
    unfold SeqAt.shaped
    rw [Bool.and_eq_true]
    refine ⟨g1, decide_eq_true ?_⟩
    show PyData.depthAll (ys.map pdV) + 1 ≤ 64
    rw [g2]; decide
  refine ⟨_, _, .tup (SqT.of h1) (dp_all h), .tup (SqT.of h2) (dp_all h), sh, sh, ?_⟩
  have e : PyData.eqv (.tuple (ys.map pdV)) (.tuple (ys.map pdV)) = true := g3
  rw [e]
  exact q _ R _ H k Tn.refl hH rpv
theorem ra_isiS {w : World} {mg : Str → Option Value} {base : Heap} (W : Wd w K mg base) {p : Addr} {fs : List (Str × D)} (m : (p, RC.i (He.ga K "Standing") fs) ∈ R) (cl : Cls K (He.ga K "Standing")) (k : F (.v (.bl true)) R) : RA H0 R0 (rIsi K) [.v (.ref p), .v (.ref (He.ga K "Standing"))] R F := fun H xs t hH r Q q => by
  obtain ⟨x, y, e1, r1, r2⟩ := rpl2 r
  obtain ⟨dx, vs, h1, h2⟩ := hH.at_ _ m
  obtain ⟨a1, a2, a3, a4, a5⟩ := W.std
  exact ⟨_, _, _, _, true, by rw [e1, rp_v.mp r1, rp_v.mp r2], .own _, .base (.ins h1 cl a1 a2 a3 a4), a5, q _ R _ H k Tn.refl hH rpv⟩
end
end Rc
-- G30
set_option Elab.async false
set_option linter.all false
set_option maxRecDepth 100000
set_option maxHeartbeats 4000000
namespace Rc
open PySem PySem.Spec PyProof.Rows L2 RcHead
local macro_rules | `(tactic| walk_at "rc mem") => `(tactic| first | assumption | exact List.mem_cons_self | ((with_reducible (refine List.mem_cons_of_mem _ ?_)); walk_at "rc mem"))
local macro_rules | `(tactic| walk_at "rc end") => `(tactic| fail)
local macro_rules | `(tactic| walk_at "rc lst") => `(tactic| with_reducible refine em_lst ?_)
local macro_rules | `(tactic| walk_at "rc call") => `(tactic| fail)
local macro_rules | `(tactic| walk_at "rc step") => `(tactic| first
  | ((with_reducible (apply em_var)); rfl)
  | with_reducible refine em_c ?_
  | with_reducible refine em_op ?_
  | with_reducible refine ro_I0 ?_
  | ((with_reducible (refine ro_eq ?_ ?_)); rfl)
  | ((with_reducible (refine ro_ne ?_ ?_)); rfl)
  | with_reducible refine ro_isN ?_
  | with_reducible refine ro_notN ?_
  | with_reducible refine ea_nil ?_
  | with_reducible refine ea_cons ?_
  | with_reducible refine em_call ?_
  | walk_at "rc call"
  | (with_reducible refine em_fld ?_)
  | (refine ⟨_, _, _, _, rfl, (by walk_at "rc mem"), (by assumption), (by assumption), (by rfl), ?_⟩)
  | with_reducible refine ra_listV ?_
  | with_reducible refine em_cb ?_
  | with_reducible refine em_tup ?_
  | walk_at "rc lst"
  | with_reducible refine em_if ?_
  | with_reducible refine em_andV ?_
  | with_reducible refine em_orV ?_
  | with_reducible refine em_notV ?_
  | with_reducible refine em_chain ?_
  | with_reducible refine et_test ?_
  | with_reducible refine et_B ?_
  | with_reducible refine et_and ?_
  | with_reducible refine et_or ?_
  | with_reducible refine et_not ?_
  | with_reducible refine et_yes ?_
  | with_reducible refine sx_seq ?_
  | with_reducible refine sx_next ?_
  | with_reducible refine sx_asg ?_
  | with_reducible refine sx_ret ?_
  | with_reducible refine sx_append ?_
  | with_reducible refine sx_drop ?_
  | with_reducible refine sx_if ?_
  | (refine ⟨_, rfl, ?_⟩)
  | (refine ⟨fun _ => ?_, fun z => Bool.noConfusion z⟩)
  | (refine ⟨fun z => Bool.noConfusion z, fun _ => ?_⟩)
  | with_reducible refine em_make ?_
  | with_reducible refine em_meth ?_
  | (refine ⟨_, _, rfl, (by walk_at "rc mem"), rfl, ?_⟩)
  | with_reducible refine em_neg ?_
  | with_reducible refine sx_fld ?_
  | (refine ⟨_, _, _, 0, rfl, rfl, (by assumption), (by assumption), (of_decide_eq_true rfl), ?_⟩)
  | ((with_reducible (apply ra_len)); (first | exact .l .d | exact .t | exact .l (.c (by walk_at "rc mem"))))
  | ((with_reducible (apply ra_lenK)); (walk_at "rc mem"))
  | ((with_reducible (apply ro_ixL)); (first | exact .d | exact .c (by walk_at "rc mem")); (first | rfl | exact atI_0))
  | ((with_reducible (apply ro_ixT)); rfl)
  | (with_reducible (refine gx_name ?_ (by decide)))
  | ((with_reducible (apply gx_tupR)); rfl)
  | with_reducible refine gxs_cons ?_
  | with_reducible refine gxs_nil ?_
  | (exact ⟨rfl, rfl⟩)
  | (refine ⟨rfl, ?_⟩)
  | with_reducible refine em_dget ?_
  | with_reducible refine sx_lockAsg ?_
  | with_reducible refine em_din ?_
  | with_reducible refine em_dnotIn ?_
  | ((with_reducible (apply sx_aug)); rfl)
  | with_reducible refine sx_setL ?_
  | with_reducible refine sx_dput ?_
  | with_reducible refine gx_fld ?_
  | (with_reducible (apply sx_fldAug))
  | ((with_reducible (apply sx_rz)); assumption)
  | (refine ⟨(by simp only [List.length_cons, List.length_nil]; omega), ?_⟩))
local macro_rules | `(tactic| walk_at "rc perm") => `(tactic| (refine Mu.of ?_; simp only [Mu.app, Mu.cons, Mu.nil, Mu.nil_add, Mu.add_nil, List.append_eq]; ac_rfl))
section
variable [Tbl] {P : Program} {w : World} {K : PySem.W.Frag} {mg : Str → Option Value} {base : Heap}
local macro_rules | `(tactic| walk_at "rc call") => `(tactic| first | rw [bl_tt] | rw [bl_ff] | rw [bl_tf] | rw [bl_ft])
theorem sam_ints {l : List Int} : ∀ x ∈ l.map (fun n => D.v (.int n)), Sam 3 x := fun x hx => by
  obtain ⟨n, _, rfl⟩ := List.mem_map.mp hx
  exact .v (.int n)
theorem sam_opt {n : Nat} (o : Option Int) : Sam n (.v (optV o)) := by
  cases o with
  | none => exact .v .non
  | some i => exact .v (.int i)
theorem items_len {s : Ps} {t : Nat} (ok : PsOk s t) : (itemsP s).length ≤ 100 := by
  unfold itemsP
  rw [List.length_append, List.length_map, (srt_perm _).length_eq]
  have := trs_len s.dl
  have := List.length_filter_le (fun t : Int × Option Int × Int => t.2.1.isNone) (s.dl.map itP)
  rw [List.length_map] at this
  have := ok.z
  omega
theorem hold_Pl (l : List Pd) (pg : Int) : Pl (holdP l pg) := by
  unfold holdP
  cases l.find? fun d => d.w.any fun w => decide (w.page = pg) with
  | none => exact .inl rfl
  | some d => exact .inr ⟨_, rfl⟩
theorem cut14 {a b c d e : D} : cutD [a, b, c, d, e] (some (1 : Int)) (some (4 : Int)) = [b, c, d] := rfl
theorem sc_l_shows : FnScope ["_law_book_here", "_law_engine", "_law_pages", "_law_items_here", "_law_deed", "_law_standing", "_law_page", "_law_item", "_law_write", "_law_first_here", "_law_need_here"] ["_law_book_here", "_law_engine"] (defScope (top 80)) := ⟨rfl, rfl, rfl, by decide +kernel, rfl, by decide +kernel, by decide +kernel⟩
theorem kp_l_shows (W : Wd w K mg base) : PySem.W.keepIn K (.ref (He.fAd K ("_law_shows", none))) = true := W.kp 38
theorem b_l_shows (W : Wd w K mg base) : Binds K (fdO K (He.fAd K ("_law_shows", none))) ["_law_book_here", "_law_engine"] [] := (W.F 38).bindsN fun _ _ _ _ _ _ us hl => match us, hl with | [_, _], _ => rfl
def gm_l_shows [Tbl] (K : PySem.W.Frag) : Gm := fun ds R F => ∃ (e bk : Addr) (s : Ps) (t t' : Nat) (Y : Rg), ds = [.v (.ref bk), .v (.ref e)] ∧ JAt K e bk s t s R Y ∧ PsOk s t' ∧ F (.v (.bl true)) R
abbrev sp_l_shows [Tbl] (K : PySem.W.Frag) : Sp := spM (gm_l_shows K)
theorem c_l_shows [Tbl] {K : PySem.W.Frag} {H0 : Hp} {R0 R Y : Rg} {Ex : XK} {F : D → Rg → Prop} {e bk : Addr} {s : Ps} {t t' : Nat} (h : JAt K e bk s t s R Y) (ok : PsOk s t') (k : F (.v (.bl true)) R) : RS H0 R0 (sp_l_shows K) Ex [.v (.ref bk), .v (.ref e)] R F := rs_m ⟨e, bk, s, t, t', Y, rfl, h, ok, k⟩
theorem ok_l_shows (W : Wd w K mg base) : FnOk P w K mg base CX0 9 (He.fAd K ("_law_shows", none)) (fdO K (He.fAd K ("_law_shows", none))) ["_law_book_here", "_law_engine"] (sp_l_shows K) := by
  refine (W.F 38).ok sc_l_shows ?_ (fun cdv A outer s H vs Q E hr h => ?_)
  · exact lenM fun ds R F h => by obtain ⟨e, bk, s, t, t', Y, rfl, hJ, ok, hF⟩ := h; rfl
  have hu64 := hr.units
  have hu := Nat.lt_of_le_of_lt (Nat.add_le_add_left (show 1 ≤ 64 by decide) _) hu64
  refine ⟨_, PSs.nox (pss_cons (ps_if (pt_cmpR op_ne (pe_meth0 (pv 1) (W.cls 101) (W.meth 142) (ok_Engine_is_down (K := K) W) (hr.mono (by decide)) (b_Engine_is_down W) .nil pass0) (pe_dget hu (pv 0) pe_str (fun _ _ => rfl)) (nomark _))
    (pss_one (ps_ret pe_bl))
    pss_nil)
    (pss_cons (ps_if (pt_not (pt_val (pe_call (ok_l_same (K := K) W 4) (hr.mono (by decide)) rfl (W.glo 15) (kp_l_same W) (b_l_same W) .nil pass0 (pa_cons (pe_lst (pa_cons (pe_meth0 (pv 1) (W.cls 101) (W.meth 117) (ok_Engine_head_place (K := K) W) (hr.mono (by decide)) (b_Engine_head_place W) .nil pass0) (pa_cons (pe_meth0 (pv 1) (W.cls 101) (W.meth 118) (ok_Engine_tail_place (K := K) W) (hr.mono (by decide)) (b_Engine_tail_place W) .nil pass0) pa_nil))) (pa_cons (pe_lst (pa_cons (pe_dget hu (pv 0) pe_str (fun _ _ => rfl)) (pa_cons (pe_call (ok_l_tail (K := K) W) (hr.mono (by decide)) rfl (W.glo 23) (kp_l_tail W) (b_l_tail W) .nil pass0 (pa_cons (pv 0) pa_nil)) pa_nil))) pa_nil)))))
    (pss_one (ps_ret pe_bl))
    pss_nil)
    (pss_cons (ps_set (i := 2) sc_l_shows.nd rfl (.inl rfl) (pe_listRg rfl rfl (W.free 61) (prg_1 rfl (W.free 58) (pe_callB (lenK (K := K) rfl) rfl (W.free 49) (by decide +kernel) (pa_cons (pe_dget hu (pv 0) pe_str (fun _ _ => rfl)) pa_nil)))))
    (pss_cons (ps_if (pt_not (pt_val (pe_call (ok_l_same (K := K) W 4) (hr.mono (by decide)) rfl (W.glo 15) (kp_l_same W) (b_l_same W) .nil pass0 (pa_cons (pe_lc (own := [("_law_page", 6)]) (g := (gName 6)) rfl sc_l_shows.nd (ilistK (K := K) rfl (pv 2)) (blkOk_by (show blkC ["_law_book_here", "_law_engine", "_law_pages", "_law_items_here", "_law_deed", "_law_standing", "_law_page", "_law_item", "_law_write", "_law_first_here", "_law_need_here"] (defScope (top 80)) _ [("_law_page", 6)] = true by decide +kernel)) (fun _ _ _ _ _ => (pg_name (i := 6) sc_l_shows.nd rfl (.inl rfl))) (fun _ _ _ _ _ => pts_nil) (fun _ _ _ _ _ => (pe_meth (pv 1) (W.cls 101) (W.meth 138) (ok_Engine_page_home (K := K) W) (hr.mono (by decide)) (b_Engine_page_home W) .nil pass0 (pa_cons (pv 6) pa_nil)))) (pa_cons (pe_dget hu (pv 0) pe_str (fun _ _ => rfl)) pa_nil)))))
    (pss_one (ps_ret pe_bl))
    pss_nil)
    (pss_cons (ps_if (pt_val (pe_dget hu (pv 0) pe_str (fun _ _ => rfl)))
    (pss_one (ps_ret pe_bl))
    pss_nil)
    (pss_cons (ps_if (pt_not (pt_val (pe_call (ok_l_same (K := K) W 4) (hr.mono (by decide)) rfl (W.glo 15) (kp_l_same W) (b_l_same W) .nil pass0 (pa_cons (pe_lc (own := [("_law_page", 6)]) (g := (gName 6)) rfl sc_l_shows.nd (ilistK (K := K) rfl (pv 2)) (blkOk_by (show blkC ["_law_book_here", "_law_engine", "_law_pages", "_law_items_here", "_law_deed", "_law_standing", "_law_page", "_law_item", "_law_write", "_law_first_here", "_law_need_here"] (defScope (top 80)) _ [("_law_page", 6)] = true by decide +kernel)) (fun _ _ _ _ _ => (pg_name (i := 6) sc_l_shows.nd rfl (.inl rfl))) (fun _ _ _ _ _ => pts_nil) (fun _ _ _ _ _ => (pe_meth (pv 1) (W.cls 101) (W.meth 137) (ok_Engine_page_now (K := K) W) (hr.mono (by decide)) (b_Engine_page_now W) .nil pass0 (pa_cons (pv 6) pa_nil)))) (pa_cons (pe_dget hu (pv 0) pe_str (fun _ _ => rfl)) pa_nil)))))
    (pss_one (ps_ret pe_bl))
    pss_nil)
    (pss_cons (ps_if (pt_cmpR (neDK (K := K) rfl hu64) (pe_lc (own := [("_law_page", 6)]) (g := (gName 6)) rfl sc_l_shows.nd (ilistK (K := K) rfl (pv 2)) (blkOk_by (show blkC ["_law_book_here", "_law_engine", "_law_pages", "_law_items_here", "_law_deed", "_law_standing", "_law_page", "_law_item", "_law_write", "_law_first_here", "_law_need_here"] (defScope (top 80)) _ [("_law_page", 6)] = true by decide +kernel)) (fun _ _ _ _ _ => (pg_name (i := 6) sc_l_shows.nd rfl (.inl rfl))) (fun _ _ _ _ _ => pts_nil) (fun _ _ _ _ _ => (pe_meth (pv 1) (W.cls 101) (W.meth 139) (ok_Engine_held_by (K := K) W) (hr.mono (by decide)) (b_Engine_held_by W) .nil pass0 (pa_cons (pv 6) pa_nil)))) (pe_lc (own := [("_law_page", 6)]) (g := (gName 6)) rfl sc_l_shows.nd (ilistK (K := K) rfl (pv 2)) (blkOk_by (show blkC ["_law_book_here", "_law_engine", "_law_pages", "_law_items_here", "_law_deed", "_law_standing", "_law_page", "_law_item", "_law_write", "_law_first_here", "_law_need_here"] (defScope (top 80)) _ [("_law_page", 6)] = true by decide +kernel)) (fun _ _ _ _ _ => (pg_name (i := 6) sc_l_shows.nd rfl (.inl rfl))) (fun _ _ _ _ _ => pts_nil) (fun _ _ _ _ _ => (pe_call (ok_l_holder (K := K) W) (hr.mono (by decide)) rfl (W.glo 29) (kp_l_holder W) (b_l_holder W) .nil pass0 (pa_cons (pv 0) (pa_cons (pv 6) pa_nil))))) (nomark _))
    (pss_one (ps_ret pe_bl))
    pss_nil)
    (pss_cons (ps_set (i := 3) sc_l_shows.nd rfl (.inl rfl) (pe_call (ok_l_items (K := K) W) (hr.mono (by decide)) rfl (W.glo 19) (kp_l_items W) (b_l_items W) .nil pass0 (pa_cons (pv 0) pa_nil)))
    (pss_cons (ps_if (pt_not (pt_val (pe_call (ok_l_same (K := K) W 4) (hr.mono (by decide)) rfl (W.glo 15) (kp_l_same W) (b_l_same W) .nil pass0 (pa_cons (pe_meth0 (pv 1) (W.cls 101) (W.meth 140) (ok_Engine_open_deeds (K := K) W) (hr.mono (by decide)) (b_Engine_open_deeds W) .nil pass0) (pa_cons (pe_lc (own := [("_law_item", 7)]) (g := (gName 7)) rfl sc_l_shows.nd (ilistK (K := K) rfl (pv 3)) (blkOk_by (show blkC ["_law_book_here", "_law_engine", "_law_pages", "_law_items_here", "_law_deed", "_law_standing", "_law_page", "_law_item", "_law_write", "_law_first_here", "_law_need_here"] (defScope (top 80)) _ [("_law_item", 7)] = true by decide +kernel)) (fun _ _ _ _ _ => (pg_name (i := 7) sc_l_shows.nd rfl (.inl rfl))) (fun _ _ _ _ _ => pts_nil) (fun _ _ _ _ _ => (pe_ix (ixtK (K := K) rfl) (pv 7) pe_int (fun _ _ => rfl)))) pa_nil)))))
    (pss_one (ps_ret pe_bl))
    pss_nil)
    (pss_cons (ps_lock (ps_for PassesOwn.never rfl (pi_keys (pe_dget hu (pv 0) pe_str (fun _ _ => rfl))) (pg_name (i := 4) sc_l_shows.nd rfl (.inl rfl))
    (pss_one (ps_if (pt_not (pt_val (pe_call (ok_l_same (K := K) W 4) (hr.mono (by decide)) rfl (W.glo 15) (kp_l_same W) (b_l_same W) .nil pass0 (pa_cons (pe_meth (pv 1) (W.cls 101) (W.meth 141) (ok_Engine_writes_of (K := K) W) (hr.mono (by decide)) (b_Engine_writes_of W) .nil pass0 (pa_cons (pv 4) pa_nil)) (pa_cons (pe_lc (own := [("_law_write", 8)]) (g := (gName 8)) rfl sc_l_shows.nd (ilistK (K := K) rfl (pe_dget hu (pe_dget hu (pe_dget hu (pv 0) pe_str (fun _ _ => rfl)) (pv 4) (fun _ _ => rfl)) pe_str (fun _ _ => rfl))) (blkOk_by (show blkC ["_law_book_here", "_law_engine", "_law_pages", "_law_items_here", "_law_deed", "_law_standing", "_law_page", "_law_item", "_law_write", "_law_first_here", "_law_need_here"] (defScope (top 80)) _ [("_law_write", 8)] = true by decide +kernel)) (fun _ _ _ _ _ => (pg_name (i := 8) sc_l_shows.nd rfl (.inl rfl))) (fun _ _ _ _ _ => pts_nil) (fun _ _ _ _ _ => (pe_slice (sltK (K := K) rfl) (pv 8) (po_some pe_int) (po_some pe_int)))) pa_nil)))))
    (pss_one (ps_ret pe_bl))
    pss_nil))))
    (pss_cons (ps_set (i := 5) sc_l_shows.nd rfl (.inl rfl) (pe_meth0 (pv 1) (W.cls 101) (W.meth 123) (ok_Engine_standing (K := K) W) (hr.mono (by decide)) (b_Engine_standing W) .nil pass0))
    (pss_cons (ps_if (PW.pt (pw_or (pt_not (pt_val (pe_callB (isiK (K := K) rfl) rfl (W.free 59) (by decide +kernel) (pa_cons (pv 5) (pa_cons (pe_glob (v := .ref (He.ga K "Standing")) rfl (W.glo 44) rfl) pa_nil))))) (pw_or1 (pt_cmpR (neDK (K := K) rfl hu64) (pe_tup (pa_cons (fldK (K := K) rfl (pv 5) rfl) (pa_cons (fldK (K := K) rfl (pv 5) rfl) pa_nil))) (pe_tup (pa_cons (pe_dget hu (pv 0) pe_str (fun _ _ => rfl)) (pa_cons (pe_dget hu (pv 0) pe_str (fun _ _ => rfl)) pa_nil))) (nomark _)))))
    (pss_one (ps_ret pe_bl))
    pss_nil)
    (pss_one (ps_ret (pe_call (ok_l_same (K := K) W 4) (hr.mono (by decide)) rfl (W.glo 15) (kp_l_same W) (b_l_same W) .nil pass0 (pa_cons (fldK (K := K) rfl (pv 5) rfl) (pa_cons (pe_callTy (tupK (K := K) rfl) rfl (W.free 60) (by decide +kernel) (pa_cons (pe_lc (own := [("_law_deed", 4), ("_law_first_here", 9), ("_law_need_here", 10)]) (g := (gTup K 3 (gCons (gName 4) (gCons (gName 9) (gCons (gName 10) gNil))))) rfl sc_l_shows.nd (ilistK (K := K) rfl (pv 3)) (blkOk_by (show blkC ["_law_book_here", "_law_engine", "_law_pages", "_law_items_here", "_law_deed", "_law_standing", "_law_page", "_law_item", "_law_write", "_law_first_here", "_law_need_here"] (defScope (top 80)) _ [("_law_deed", 4), ("_law_first_here", 9), ("_law_need_here", 10)] = true by decide +kernel)) (fun _ _ _ _ _ => (gtupK (K := K) (n := 3) rfl rfl (pgs_cons (pg_name (i := 4) sc_l_shows.nd rfl (.inl rfl)) (pgs_cons (pg_name (i := 9) sc_l_shows.nd rfl (.inl rfl)) (pgs_cons (pg_name (i := 10) sc_l_shows.nd rfl (.inl rfl)) pgs_nil))))) (fun _ _ _ _ _ => pts_nil) (fun _ _ _ _ _ => (pe_tup (pa_cons (pv 9) (pa_cons (pv 10) (pa_cons (pe_tup pa_nil) pa_nil)))))) pa_nil)) pa_nil))))))))))))))))), entryM h ?_⟩
  clear h hu hu64 hr
  rintro ds R F ⟨e, bk, s, t, t', Y, rfl, hJ, ok, hF⟩
  have cl_LogRow : Cls K (He.ga K "LogRow") := W.cls 77
  have cl_Standing : Cls K (He.ga K "Standing") := W.cls 96
  have na_Standing_deeds : NoAttr K (He.ga K "Standing") "deeds" := W.noat 100
  have na_LogRow_cells : NoAttr K (He.ga K "LogRow") "cells" := W.noat 87
  have na_Standing_cells : NoAttr K (He.ga K "Standing") "cells" := W.noat 98
  have na_Standing_head : NoAttr K (He.ga K "Standing") "head" := W.noat 99
  refine sx_nd fun nd => sx_post ?_
  have hf := hJ.bkF ok
  have he := hJ.enF ok
  obtain ⟨E, ms, dd, rs, jk, B, dl, jk2, p, ⟨v, hr, hz⟩, v2, hj⟩ := id hJ
  have hE : EnF0 K e s R E ms dd := .of ok p v
  have hB : BkF0 bk s R B dl := .of (X := EnL K e s E ms dd rs jk ++ Y) (jk := jk2) ok (p.trans (by
    generalize EnL K e s E ms dd rs jk = a
    generalize BkL bk s B dl jk2 = b
    walk_at "rc perm")) v2
  have pz : R.Perm (EnL K e s E ms dd rs jk ++ ((B.deedsA, RC.k (vK (ddK dl))) :: ((bk, .k (bkFs B)) :: (B.homeA, .l (intsF s.n s.home)) :: (B.dirtyA, .l (optL s.n s.bd)) :: (B.poolA, .l (intsF s.n s.pool)) :: (dl.flatMap dcells ++ jk2 ++ Y)))) := p.trans (by
    generalize EnL K e s E ms dd rs jk = a
    unfold BkL bcore
    simp only [List.cons_append]
    walk_at "rc perm")
  have h1 := hE.e
  repeat walk_at "rc step"
  refine c_Engine_is_down h1 ?_
  repeat walk_at "rc step"
  refine ⟨_, _, .inr _, _, rfl, .k hB.b, rfl, rfl, ?_⟩
  repeat walk_at "rc step"
  refine c_Engine_head_place h1 ?_
  repeat walk_at "rc step"
  refine c_Engine_tail_place h1 hE.m hE.dirty (by have := hE.v.dd.len; have := ok.n60; omega) fun m1 hm1 hl1 => ?_
  repeat walk_at "rc step"
  refine ⟨_, _, .inr _, _, rfl, .k hB.b, rfl, rfl, ?_⟩
  repeat walk_at "rc step"
  refine c_l_tail hB.b hB.k hB.d hB.dirty ok.n60 fun m2 hm2 hl2 => ?_
  have em : m2 = m1 := by
    have g1 := hl1 m2 ((need_E hE.v m2).mpr ((need_B hB.v m2).mp hm2))
    have g2 := hl2 m1 ((need_B hB.v m1).mpr ((need_E hE.v m1).mp hm1))
    omega
  rw [em, hE.v.h, hB.v.h]
  repeat walk_at "rc step"
  refine c_l_same (.l (n := 3) (fun x hx => sam_ints (l := [s.head, m1]) x hx) (by simp)) ?_
  repeat walk_at "rc step"
  refine em_lstRg ?_
  repeat walk_at "rc step"
  refine ⟨_, _, .inr _, _, rfl, .k hB.b, rfl, rfl, ?_⟩
  have hho := hB.home
  have hpo := hB.pool
  repeat walk_at "rc step"
  rw [len_F]
  have hn := ok.n60
  refine ⟨by omega, by omega, ?_⟩
  rw [Int.toNat_natCast]
  repeat walk_at "rc step"
  refine em_lcI ?_
  repeat walk_at "rc step"
  refine ⟨_, List.range s.n, fun i => .v (.int (i : Nat)), fun i => some (.v (.int (s.home i))), .d, by rw [List.length_range]; omega, fun i hi H1 Rx hs => ?_, ?_⟩
  · have h1' := hs _ h1
    repeat walk_at "rc step"
    refine c_Engine_page_home h1' (hs _ hE.home) (hs _ hE.home) (List.mem_range.mp hi) ?_
    repeat walk_at "rc step"
  rw [fm_some]
  repeat walk_at "rc step"
  refine ⟨_, _, .inr _, _, rfl, .k hB.b, rfl, rfl, ?_⟩
  repeat walk_at "rc step"
  refine c_l_sameL (n := 3) (l := intsF s.n s.home) .d (.c hB.home) (by rw [len_F]; omega) (fun x hx => ?_) ?_
  · obtain ⟨i, _, rfl⟩ := List.mem_map.mp hx
    exact .v (.int _)
  repeat walk_at "rc step"
  refine ⟨_, _, .inr _, _, rfl, .k hB.b, rfl, rfl, ?_⟩
  repeat walk_at "rc step"
  refine em_lcI ?_
  repeat walk_at "rc step"
  refine ⟨_, List.range s.n, fun i => .v (.int (i : Nat)), fun i => some (.v (.int (s.pool i))), .d, by rw [List.length_range]; omega, fun i hi H1 Rx hs => ?_, ?_⟩
  · have h1' := hs _ h1
    repeat walk_at "rc step"
    refine c_Engine_page_now h1' (hs _ hE.home) (hs _ hE.pool) (List.mem_range.mp hi) ?_
    repeat walk_at "rc step"
  rw [fm_some]
  repeat walk_at "rc step"
  refine ⟨_, _, .inr _, _, rfl, .k hB.b, rfl, rfl, ?_⟩
  repeat walk_at "rc step"
  refine c_l_sameL (n := 3) (l := intsF s.n s.pool) .d (.c hB.pool) (by rw [len_F]; omega) (fun x hx => ?_) ?_
  · obtain ⟨i, _, rfl⟩ := List.mem_map.mp hx
    exact .v (.int _)
  repeat walk_at "rc step"
  refine em_lcI ?_
  repeat walk_at "rc step"
  refine ⟨_, List.range s.n, fun i => .v (.int (i : Nat)), fun i => some (.v (holdP s.dl (i : Nat))), .d, by rw [List.length_range]; omega, fun i hi H1 Rx hs => ?_, ?_⟩
  · have h1' := hs _ h1
    repeat walk_at "rc step"
    refine c_Engine_held_by h1' (hs _ hE.home) (List.mem_range.mp hi) (hE.m.sub hs) ?_
    rw [hold_P hE.v]
    repeat walk_at "rc step"
  rw [fm_some]
  repeat walk_at "rc step"
  refine em_lcI ?_
  repeat walk_at "rc step"
  refine ⟨_, List.range s.n, fun i => .v (.int (i : Nat)), fun i => some (.v (holdP s.dl (i : Nat))), .d, by rw [List.length_range]; omega, fun i hi H1 Rx hs => ?_, ?_⟩
  · repeat walk_at "rc step"
    refine f_holder (hf.sub hs) ?_
    repeat walk_at "rc step"
  rw [fm_some]
  have eh : ((List.range s.n).map fun i : Nat => D.v (holdP s.dl (i : Nat))) = ((List.range s.n).map fun i : Nat => holdP s.dl (i : Nat)).map D.v := by
    rw [List.map_map]
    rfl
  rw [eh]
  refine ro_neL (fun v hv => ?_) ?_
  · obtain ⟨i, _, rfl⟩ := List.mem_map.mp hv
    exact hold_Pl _ _
  repeat walk_at "rc step"
  refine f_items hf ok ?_
  have hil := items_len ok
  repeat walk_at "rc step"
  refine c_Engine_open_deeds he ok ?_
  repeat walk_at "rc step"
  refine em_lcI ?_
  repeat walk_at "rc step"
  refine ⟨_, itemsP s, itD, fun t => some (.v (.int t.1)), .d, by omega, fun x hx H1 Rx hs => ?_, ?_⟩
  · repeat walk_at "rc step"
  rw [fm_some]
  repeat walk_at "rc step"
  refine c_l_same (.l (n := 3) (fun x hx => ?_) (by rw [List.length_map]; omega)) ?_
  · obtain ⟨y, _, rfl⟩ := List.mem_map.mp hx
    exact .v (.int _)
  repeat walk_at "rc step"
  obtain ⟨nn, hnn⟩ := List.mem_iff_getElem?.mp hB.k
  refine sx_lock (kvs := ddK dl) hnn fun o => ?_
  have hfz : (B.deedsA, RC.fz o (vK (ddK dl))) ∈ R.set nn (B.deedsA, .fz o (vK (ddK dl))) := List.mem_of_getElem? (getElem?_set_it hnn)
  have hin := fun c hc => nd_set (y := (B.deedsA, RC.fz o (vK (ddK dl)))) (C := []) pz nd hnn c hc
  have hEz : EnF0 K e s (R.set nn (B.deedsA, .fz o (vK (ddK dl)))) E ms dd := .of2 ok (fun c hc => hin c (.inl hc)) v
  have hbz : (bk, RC.k (bkFs B)) ∈ R.set nn (B.deedsA, .fz o (vK (ddK dl))) := hin _ (.inr List.mem_cons_self)
  have hdz : ∀ d ∈ dl, ∀ c ∈ dcells d, c ∈ R.set nn (B.deedsA, .fz o (vK (ddK dl))) := fun d hd c hc => hin _ (.inr (sub4 _ (List.mem_append_left _ (List.mem_append_left _ (List.mem_flatMap.mpr ⟨d, hd, hc⟩)))))
  have h1z := hEz.e
  refine sx_for [4] (ei_keys ?_)
  repeat walk_at "rc step"
  refine ⟨bk, bkFs B, .inr "deeds", _, rfl, .k hbz, rfl, rfl, ?_⟩
  refine ⟨B.deedsA, o, ddK dl, rfl, hfz, ?_⟩
  refine ⟨fun i g' R' => i ≤ dl.length ∧ R' = R.set nn (B.deedsA, .fz o (vK (ddK dl))) ∧ ∃ o4, g' = [some (.v (.ref bk)), some (.v (.ref e)), some (.l ((List.range s.n).map fun i => .v (.int (i : Nat)))), some (.l ((itemsP s).map itD)), o4, none, none, none, none, none, none], dl.length, ⟨Nat.zero_le _, rfl, none, rfl⟩, ?_⟩
  rintro i g' R' ⟨hi, rfl, o4, rfl⟩
  by_cases hlt : i < dl.length
  · obtain ⟨d, hd⟩ : ∃ d, d = dl[i] := ⟨_, rfl⟩
    have hdm : d ∈ dl := by rw [hd]; exact List.getElem_mem hlt
    refine .inr ⟨hlt, .v (.int d.no), ⟨hfz, (.inl d.no, .ref d.a), by rw [hd]; unfold ddK; rw [List.getElem?_map, List.getElem?_eq_getElem hlt]; rfl, rfl⟩, fun H1 => ?_⟩
    have lk := lk_dd hdm hB.d.srt
    obtain ⟨b, hb, eb⟩ := v.mem (d := ddP d) (by rw [← v2.dl]; exact List.mem_map.mpr ⟨d, hdm, rfl⟩)
    have eno : b.no = d.no := congrArg Pd.no eb
    have hdc := hdz d hdm _ List.mem_cons_self
    have hdw := hdz d hdm _ (List.mem_cons_of_mem _ List.mem_cons_self)
    repeat walk_at "rc step"
    rw [← eno]
    refine c_Engine_writes_of h1z hEz.m hb ?_
    repeat walk_at "rc step"
    refine em_lcI ?_
    repeat walk_at "rc step"
    refine ⟨bk, bkFs B, .inr "deeds", _, rfl, .k hbz, rfl, rfl, ?_⟩
    repeat walk_at "rc step"
    refine ⟨B.deedsA, vK (ddK dl), .inl b.no, _, rfl, .z o hfz, rfl, by rw [eno]; exact lk, ?_⟩
    repeat walk_at "rc step"
    refine ⟨d.a, ddFs d, .inr "writes", _, rfl, .k hdc, rfl, rfl, ?_⟩
    refine ⟨_, d.wr, wtD, fun w => some (.t [.v (.int w.page), .v (.int w.before), .v (.int w.after)]), .c hdw, Nat.le_trans (v2.one d hdm).2 (by decide), fun x hx H1 Rx hs => ?_, ?_⟩
    · repeat walk_at "rc step"
      refine em_slT ?_
      repeat walk_at "rc step"
      refine eo_some ?_
      repeat walk_at "rc step"
      refine eo_some ?_
      repeat walk_at "rc step"
      exact ⟨by simp [HT.sIx], rfl, rfl⟩
    rw [fm_some]
    have ew : (b.left.map fun p => D.t [.v (.int p.2.page), .v (.int p.2.before), .v (.int p.2.behind)]) = d.wr.map fun w => D.t [.v (.int w.page), .v (.int w.before), .v (.int w.after)] := by
      have e2 : b.left.head?.map (fun p => rwW p.2) = d.wr.head? := congrArg Pd.w eb
      have l1 := (v.one b hb).2
      have l2 := (v2.one d hdm).2
      obtain ⟨no, ends, a, wA, wr⟩ := d
      obtain ⟨no', ends', a', left⟩ := b
      match wr, left, e2, l1, l2 with
      | [], [], _, _, _ => rfl
      | [w], [(ra, r)], e2, _, _ =>
        have e3 : rwW r = w := Option.some.inj e2
        rw [← e3]
        rfl
      | [], (ra, r) :: l, e2, _, _ => cases e2
      | w :: l, [], e2, _, _ => cases e2
    rw [ew]
    repeat walk_at "rc step"
    refine c_l_same (.l (n := 3) (fun x hx => ?_) (by rw [List.length_map]; exact Nat.le_trans (v2.one d hdm).2 (by decide))) ?_
    · obtain ⟨w, _, rfl⟩ := List.mem_map.mp hx
      refine .t (fun y hy => ?_) (by simp)
      have hy' : y ∈ ([w.page, w.before, w.after] : List Int).map (fun n => D.v (.int n)) := hy
      obtain ⟨n, _, rfl⟩ := List.mem_map.mp hy'
      exact .v (.int n)
    repeat walk_at "rc step"
    exact ⟨hlt, rfl, _, rfl⟩
  · refine .inl ⟨⟨hfz, by unfold ddK; rw [List.length_map]; omega⟩, nn, getElem?_set_it hnn, ?_⟩
    rw [set_set_self hnn]
    repeat walk_at "rc step"
    refine c_Engine_standing he ok fun p => ?_
    repeat walk_at "rc step"
    refine ra_isiS W List.mem_cons_self (W.cls 96) ?_
    repeat walk_at "rc step"
    refine ⟨bk, bkFs B, .inr "cells", _, rfl, .k (List.mem_cons_of_mem _ hB.b), rfl, rfl, ?_⟩
    repeat walk_at "rc step"
    refine ⟨bk, bkFs B, .inr "head", _, rfl, .k (List.mem_cons_of_mem _ hB.b), rfl, rfl, ?_⟩
    repeat walk_at "rc step"
    rw [v2.c, v2.h]
    refine ro_neT (vs := [.int s.c, .int s.head]) (fun x hx => ?_) ?_
    · simp at hx
      rcases hx with rfl | rfl
      · exact .inr ⟨_, rfl⟩
      · exact .inr ⟨_, rfl⟩
    repeat walk_at "rc step"
    refine em_lcI ?_
    repeat walk_at "rc step"
    refine ⟨_, itemsP s, itD, fun t => some (tri3 t), .d, by omega, fun x hx H1 Rx hs => ?_, ?_⟩
    · repeat walk_at "rc step"
    rw [fm_some]
    repeat walk_at "rc step"
    refine ra_tupL .d ?_
    repeat walk_at "rc step"
    refine c_l_same (.t (n := 3) (fun x hx => ?_) (by rw [List.length_map]; omega)) ?_
    · obtain ⟨y, _, rfl⟩ := List.mem_map.mp hx
      refine .t (n := 2) (fun z hz => ?_) (by simp)
      simp at hz
      rcases hz with rfl | rfl | rfl
      · exact sam_opt _
      · exact .v (.int _)
      · exact .t (n := 1) (fun z hz => by cases hz) (by simp)
    exact ⟨R, [(p, .i (He.ga K "Standing") (stFs s.c s.head ((itemsP s).map tri3)))], List.Perm.refl _, hF⟩
end
end Rc
-- R
set_option Elab.async false
set_option linter.all false
set_option maxRecDepth 100000
set_option maxHeartbeats 4000000
/-! RcR: the plain law: states stay well, what the rounds do. -/
namespace Rc
open PySem PySem.Spec PyProof.Rows L2
variable [Tbl]
section
variable {s : Ps} {t : Nat}
theorem setW_no {l : List Pd} {no : Int} {x : Option Wt} {d : Pd} (h : d ∈ setW l no x) : (d ∈ l ∧ d.no ≠ no) ∨ (d = ⟨no, x⟩ ∧ ∃ d' ∈ l, d'.no = no) := by
  obtain ⟨d', hd', e⟩ := List.mem_map.mp h
  by_cases c : d'.no = no
  · rw [if_pos c] at e
    exact .inr ⟨e.symm, d', hd', c⟩
  · rw [if_neg c] at e
    rw [← e]
    exact .inl ⟨hd', c⟩
theorem trs_app (a b : List Pd) : trs (a ++ b) = trs a ++ trs b := List.filterMap_append
theorem trs_set {l : List Pd} {d : Pd} {x : Option Wt} (hs : l.Pairwise fun a b => a.no < b.no) (hd : d ∈ l) : (trs (setW l d.no x)).Perm (trs (delW l d.no) ++ (x.map fun w => (w.place, w.undo, d.no)).toList) := by
  obtain ⟨l1, l2, rfl⟩ := List.append_of_mem hd
  have hno := split_no (g := fun x : Pd => x.no) hs
  have e1 := setW_split (f := fun x : Pd => x) (m1 := l1) (m2 := l2) (b := d) (b' := ⟨d.no, x⟩) (x := x) hno rfl
  have e2 := delW_split (f := fun x : Pd => x) (m1 := l1) (m2 := l2) (b := d) hno
  rw [List.map_id', List.map_id'] at e1 e2
  rw [← e1, ← e2, trs_app, trs_app]
  have e3 : trs (⟨d.no, x⟩ :: l2) = (x.map fun w => (w.place, w.undo, d.no)).toList ++ trs l2 := by
    cases x <;> rfl
  rw [e3]
  exact (List.perm_append_comm.append_left _).trans (by rw [List.append_assoc])
theorem set_ok (ok : PsOk s t) {d : Pd} {x : Option Wt} (hd : d ∈ s.dl) (hx : ∀ w, x = some w → w.page = d.no ∧ d.no < s.n ∧ 0 ≤ w.place ∧ w.place < s.head ∧ 1 ≤ w.undo ∧ w.undo ≤ 1000 ∧ ∀ d' ∈ s.dl, d'.no ≠ d.no → ∀ w', d'.w = some w' → w'.place ≠ w.place) : PsOk { s with dl := setW s.dl d.no x } t where
  n60 := ok.n60
  n1 := ok.n1
  out := ok.out
  srt := setW_srt ok.srt
  z := by
    show (setW s.dl d.no x).length ≤ 50
    unfold setW
    rw [List.length_map]
    exact ok.z
  no := fun d' h => by
    rcases setW_no h with ⟨h1, _⟩ | ⟨h1, d2, h2, h3⟩
    · exact ok.no d' h1
    · rw [h1]
      exact ok.no d hd
  w := fun d' h w hw => by
    rcases setW_no h with ⟨h1, _⟩ | ⟨h1, _⟩
    · exact ok.w d' h1 w hw
    · rw [h1] at hw ⊢
      obtain ⟨a1, a2, a3, a4, a5, a6, _⟩ := hx w hw
      exact ⟨a1, a2, a3, a4, a5, a6⟩
  nd := by
    show ((trs (setW s.dl d.no x)).map (·.1)).Nodup
    refine ((trs_set ok.srt hd).map (·.1)).symm.nodup ?_
    rw [List.map_append]
    refine List.nodup_append.mpr ⟨trs_sub ok.nd, ?_, fun a ha b hb => ?_⟩
    · cases x <;> simp
    · cases x with
      | none => cases hb
      | some w =>
        have eb : b = w.place := by simpa using hb
        obtain ⟨y, hy, rfl⟩ := List.mem_map.mp ha
        obtain ⟨d', hd', w', hw', rfl⟩ := trs_mem hy
        obtain ⟨h1, h2⟩ := List.mem_filter.mp hd'
        rw [eb]
        exact (hx w rfl).2.2.2.2.2.2 d' h1 (by simpa using h2) w' hw'
  c0 := ok.c0
  h0 := ok.h0
  nx := ok.nx
  t := ok.t
theorem del_ok (ok : PsOk s t) (no : Int) : PsOk { s with dl := delW s.dl no } t where
  n60 := ok.n60
  n1 := ok.n1
  out := ok.out
  srt := ok.srt.filter _
  z := Nat.le_trans (List.length_filter_le _ _) ok.z
  no := fun d h => ok.no d (List.mem_filter.mp h).1
  w := fun d h => ok.w d (List.mem_filter.mp h).1
  nd := trs_sub ok.nd
  c0 := ok.c0
  h0 := ok.h0
  nx := ok.nx
  t := ok.t
theorem bd_ok (ok : PsOk s t) {bd : Nat → Option Int} {pool : Nat → Int} (h : ∀ k, s.n ≤ k → bd k = none) : PsOk { s with pool := pool, bd := bd } t := ⟨ok.n60, ok.n1, h, ok.srt, ok.z, ok.no, ok.w, ok.nd, ok.c0, ok.h0, ok.nx, ok.t⟩
theorem up_ok (ok : PsOk s t) (h : t + 1 ≤ 60000) : PsOk s (t + 1) := ⟨ok.n60, ok.n1, ok.out, ok.srt, ok.z, ok.no, ok.w, ok.nd, ok.c0, by
  have := ok.h0
  omega, ok.nx, h⟩
theorem carry_ok (ok : PsOk s t) (ht : t + 1 ≤ 60000) {d : Pd} {w : Wt} (hd : d ∈ s.dl) (hw : d.w = some w) : PsOk (carryS s d.no w) (t + 1) := by
  obtain ⟨a1, a2, a3, a4, a5, a6⟩ := ok.w d hd w hw
  have ok1 := row_ok (c := w.undo) ok ⟨by omega, a6⟩ ht
  refine set_ok (s := rowS s w.undo) (x := some { w with place := s.head }) ok1 hd fun w2 e => ?_
  cases e
  refine ⟨a1, a2, ok.h0.1, ?_, a5, a6, fun d' hd' hn w' hw' => ?_⟩
  · show s.head < s.head + w.undo
    omega
  · have := ok.w d' hd' w' hw'
    show w'.place ≠ s.head
    omega
theorem end_ok (ok : PsOk s t) (ht : t + 1 ≤ 60000) (no : Int) : PsOk (endS s no) (t + 1) := del_ok (s := rowS s 1) (row_ok (c := 1) ok ⟨by decide, by decide⟩ ht) no
theorem drop_ok (ok : PsOk s t) (no : Int) : PsOk (dropS s no) t := del_ok ok no
theorem plD_out {n p : Nat} {x : Int} {bd : Nat → Option Int} (h : ∀ k, n ≤ k → bd k = none) (hp : p < n) : ∀ k, n ≤ k → plD true p x bd k = none := fun k hk => by
  unfold plD
  rw [if_neg fun z => by omega]
  exact h k hk
theorem undo_ok (ok : PsOk s t) (ht : t + 1 ≤ 60000) {d : Pd} {w : Wt} (hd : d ∈ s.dl) (hw : d.w = some w) : PsOk (undoS s d.no w) (t + 1) := by
  obtain ⟨a1, a2, a3, a4, a5, a6⟩ := ok.w d hd w hw
  have a0 := (ok.no d hd).1
  have ok1 := row_ok (c := w.undo) ok ⟨by omega, a6⟩ ht
  exact del_ok (bd_ok ok1 (plD_out ok1.out (show w.page.toNat < s.n by omega))) d.no
theorem write_ok (ok : PsOk s t) (ht : t + 1 ≤ 60000) {no x c u : Int} (hd : (⟨no, none⟩ : Pd) ∈ s.dl) (hn : no < s.n) (hc : 1 ≤ c ∧ c ≤ 1000) (hu : 1 ≤ u ∧ u ≤ 1000) : PsOk (writeS s no x c u) (t + 1) := by
  have a0 : 0 ≤ no := (ok.no _ hd).1
  have ok1 := row_ok (c := c) ok ⟨by omega, hc.2⟩ ht
  have ok2 := bd_ok (pool := plP true no.toNat x s.pool) ok1 (plD_out (x := s.head) ok1.out (show no.toNat < s.n by omega))
  refine set_ok ok2 (d := ⟨no, none⟩) (x := some ⟨s.head, no, s.pool no.toNat, x, u⟩) hd fun w e => ?_
  cases e
  refine ⟨rfl, hn, ok.h0.1, ?_, hu.1, hu.2, fun d' hd' hne w' hw' => ?_⟩
  · show s.head < s.head + c
    omega
  · have := ok.w d' hd' w' hw'
    show w'.place ≠ s.head
    omega
theorem open_ok (ok : PsOk s t) (hl : s.dl.length ≤ 40) (hx : s.nxt ≤ 90) : PsOk (openS s) t where
  n60 := ok.n60
  n1 := ok.n1
  out := ok.out
  srt := by
    show (s.dl ++ [(⟨s.nxt, none⟩ : Pd)]).Pairwise _
    refine List.pairwise_append.mpr ⟨ok.srt, by simp, fun a ha b hb => ?_⟩
    have eb : b = (⟨s.nxt, none⟩ : Pd) := by simpa using hb
    rw [eb]
    exact (ok.no a ha).2
  z := by
    show (s.dl ++ [(⟨s.nxt, none⟩ : Pd)]).length ≤ 50
    simp
    omega
  no := fun d h => by
    have hn := ok.nx
    rcases List.mem_append.mp h with z | z
    · have := ok.no d z
      exact ⟨this.1, Int.lt_trans this.2 (show s.nxt < s.nxt + 1 by omega)⟩
    · rw [List.mem_singleton.mp z]
      exact ⟨hn.1, show s.nxt < s.nxt + 1 by omega⟩
  w := fun d h w hw => by
    rcases List.mem_append.mp h with z | z
    · exact ok.w d z w hw
    · rw [List.mem_singleton.mp z] at hw
      cases hw
  nd := by
    show ((trs (s.dl ++ [(⟨s.nxt, none⟩ : Pd)])).map (·.1)).Nodup
    have e0 : trs [(⟨s.nxt, none⟩ : Pd)] = [] := rfl
    rw [trs_app, e0, List.append_nil]
    exact ok.nd
  c0 := ok.c0
  h0 := ok.h0
  nx := by
    have := ok.nx
    show 0 ≤ s.nxt + 1 ∧ s.nxt + 1 ≤ 100
    omega
  t := ok.t
/-! ### the rounds -/
theorem perm_sum {a b : List Int} (p : a.Perm b) : a.sum = b.sum := by
  induction p with
  | nil => rfl
  | cons x _ ih => rw [List.sum_cons, List.sum_cons, ih]
  | swap x y l => rw [List.sum_cons, List.sum_cons, List.sum_cons, List.sum_cons]; omega
  | trans _ _ h1 h2 => exact h1.trans h2
def needSum (L : List (Int × Int × Int)) : Int := (L.map fun t => t.2.1).sum
/-- the places go up to h by the needs -/
def Ct : List (Int × Int × Int) → Int → Prop
  | [], _ => True
  | x :: r, h => x.1 + (x.2.1 + needSum r) = h ∧ Ct r h
theorem needSum_app (a b : List (Int × Int × Int)) : needSum (a ++ b) = needSum a + needSum b := by
  unfold needSum
  rw [List.map_append, List.sum_append]
theorem ct_app : ∀ {L : List (Int × Int × Int)} {h u no : Int}, Ct L h → Ct (L ++ [(h, u, no)]) (h + u)
  | [], h, u, no, _ => by
    refine ⟨?_, trivial⟩
    show h + (u + needSum []) = h + u
    unfold needSum
    simp
  | x :: r, h, u, no, ⟨e, c⟩ => by
    refine ⟨?_, ct_app c⟩
    show x.1 + (x.2.1 + needSum (r ++ [(h, u, no)])) = h + u
    rw [needSum_app]
    show x.1 + (x.2.1 + (needSum r + needSum [(h, u, no)])) = h + u
    have : needSum [(h, u, no)] = u := by unfold needSum; simp
    omega
theorem ct_at : ∀ {L : List (Int × Int × Int)} {h : Int} {i : Nat} (hi : i < L.length), Ct L h → L[i].1 + needSum (L.drop i) = h
  | x :: r, h, 0, hi, ⟨e, c⟩ => by
    show x.1 + needSum (x :: r) = h
    have : needSum (x :: r) = x.2.1 + needSum r := by unfold needSum; rw [List.map_cons, List.sum_cons]
    omega
  | x :: r, h, i + 1, hi, ⟨e, c⟩ => ct_at (L := r) (i := i) (by simpa using hi) c
/-- behind the first round a row of u cells passes the ring just if all, the greatest and u do -/
theorem ct_full {L : List (Int × Int × Int)} {h c u m : Int} (ct : Ct L h) (h1 : ∀ t ∈ L, t.2.1 ≤ m) (h2 : ∃ t ∈ L, t.2.1 = m) : hvN c (h + u) (L.map two) = 0 ↔ needSum L + m + u ≤ c := by
  have ld : ∀ i (hi : i < L.length), ldAt (h + u) (L.map two) i = needSum L + L[i].2.1 + u := fun i hi => by
    unfold ldAt
    have e1 : (L.map two).getD i (0, 0) = two L[i] := by
      rw [List.getD_eq_getElem?_getD, List.getElem?_map, List.getElem?_eq_getElem hi]; rfl
    have e2 : (((L.map two).take (i + 1)).map (·.2)).sum = needSum (L.take (i + 1)) := by
      rw [← List.map_take, List.map_map]; rfl
    rw [e1, e2]
    have e3 := ct_at hi ct
    have e4 : needSum (L.take i) + needSum (L.drop i) = needSum L := by rw [← needSum_app, List.take_append_drop]
    have e5 : needSum (L.take (i + 1)) = needSum (L.take i) + L[i].2.1 := by
      rw [List.take_add_one, needSum_app, List.getElem?_eq_getElem hi]
      unfold needSum
      simp
    show h + u - L[i].1 + needSum (L.take (i + 1)) = _
    omega
  rw [hvN_zero, List.length_map]
  constructor
  · intro hz
    obtain ⟨t, ht, e⟩ := h2
    obtain ⟨i, hi, ei⟩ := List.mem_iff_getElem.mp ht
    have := hz i hi
    rw [ld i hi, ei, e] at this
    exact this
  · intro hz i hi
    rw [ld i hi]
    have := h1 _ (List.getElem_mem hi)
    omega
/-- the list by age, carried on -/
theorem srt_carry (ok : PsOk s t) {x : Int × Int × Int} {r : List (Int × Int × Int)} (e : srt (trs s.dl) = x :: r) : ∃ d w, d ∈ s.dl ∧ d.w = some w ∧ x = (w.place, w.undo, d.no) ∧ srt (trs (carryS s d.no w).dl) = r ++ [(s.head, w.undo, d.no)] := by
  have hx : x ∈ srt (trs s.dl) := by rw [e]; exact List.mem_cons_self
  obtain ⟨d, hd, w, hw, ex⟩ := trs_mem ((srt_perm _).mem_iff.mp hx)
  refine ⟨d, w, hd, hw, ex, ?_⟩
  have hnd : ((trs (setW s.dl d.no (some { w with place := s.head }))).map (·.1)).Nodup := by
    have := ((trs_set (x := some { w with place := s.head }) ok.srt hd).map (·.1)).symm.nodup
    refine this ?_
    rw [List.map_append]
    refine List.nodup_append.mpr ⟨trs_sub ok.nd, by simp, fun a ha b hb => ?_⟩
    have eb : b = s.head := by simpa using hb
    obtain ⟨y, hy, rfl⟩ := List.mem_map.mp ha
    obtain ⟨d', hd', w', hw', rfl⟩ := trs_mem hy
    have := ok.w d' (List.mem_filter.mp hd').1 w' hw'
    show w'.place ≠ b
    omega
  have pr : (trs (delW s.dl d.no)).Perm r := by
    have p1 := trs_del ok.srt hd hw
    have p2 : (trs s.dl).Perm (x :: r) := by rw [← e]; exact (srt_perm _).symm
    have p3 : ((w.place, w.undo, d.no) :: trs (delW s.dl d.no)).Perm (x :: r) := (List.perm_append_singleton _ _).symm.trans (p1.trans p2)
    rw [ex] at p3
    exact p3.cons_inv
  have pw := srt_pw (trs s.dl)
  rw [e] at pw
  refine (srt_uniq ?_ ?_ hnd).symm
  · refine (pr.symm.append_right _).trans ?_
    exact (trs_set (x := some { w with place := s.head }) ok.srt hd).symm
  · refine List.pairwise_append.mpr ⟨(List.pairwise_cons.mp pw).2, by simp, fun a ha b hb => ?_⟩
    have eb : b = (s.head, w.undo, d.no) := by simpa using hb
    obtain ⟨d', hd', w', hw', rfl⟩ := trs_mem (pr.mem_iff.mpr ha)
    have := ok.w d' (List.mem_filter.mp hd').1 w' hw'
    rw [eb]
    show w'.place ≤ s.head
    omega
def prP (t : Int × Int × Int) : Int × Int := (t.2.1, t.2.2)
/-- where the rounds are at a turn -/
structure Rd (P : List (Int × Int)) (i : Nat) (s : Ps) : Prop where
  rot : (srt (trs s.dl)).map prP = P.drop (i % P.length) ++ P.take (i % P.length)
  ct : Ct ((srt (trs s.dl)).drop (P.length - i)) s.head
theorem rd_zero (s : Ps) : Rd ((srt (trs s.dl)).map prP) 0 s := ⟨by simp, by
  have e : (srt (trs s.dl)).drop (((srt (trs s.dl)).map prP).length - 0) = [] := by
    rw [List.length_map, Nat.sub_zero, List.drop_length]
  rw [e]
  exact trivial⟩
theorem rot_next {α : Type} {P : List α} {i : Nat} {p : α} {r : List α} (hP : 0 < P.length) (e : P.drop (i % P.length) ++ P.take (i % P.length) = p :: r) : r ++ [p] = P.drop ((i + 1) % P.length) ++ P.take ((i + 1) % P.length) ∧ P[i % P.length]? = some p := by
  have hq : i % P.length < P.length := Nat.mod_lt _ hP
  have e1 : P.drop (i % P.length) = P[i % P.length] :: P.drop (i % P.length + 1) := List.drop_eq_getElem_cons hq
  rw [e1, List.cons_append] at e
  injection e with e2 e3
  have e4 : P.take (i % P.length + 1) = P.take (i % P.length) ++ [P[i % P.length]] := by
    rw [List.take_add_one, List.getElem?_eq_getElem hq]
    rfl
  refine ⟨?_, by rw [← e2]; exact List.getElem?_eq_getElem hq⟩
  have e5 : r ++ [p] = P.drop (i % P.length + 1) ++ P.take (i % P.length + 1) := by
    rw [e4, ← e3, ← e2, List.append_assoc]
  rw [e5, Nat.add_mod]
  by_cases c : i % P.length + 1 = P.length
  · have : (i % P.length + 1 % P.length) % P.length = 0 := by
      by_cases c1 : P.length = 1
      · rw [c1, Nat.mod_one]
      · rw [Nat.mod_eq_of_lt (show 1 < P.length by omega), c, Nat.mod_self]
    rw [this, c, List.drop_length, List.take_length, List.drop_zero, List.take_zero, List.append_nil, List.nil_append]
  · have h1 : 1 < P.length := by omega
    rw [Nat.mod_eq_of_lt h1, Nat.mod_eq_of_lt (show i % P.length + 1 < P.length by omega)]
theorem rd_next {P : List (Int × Int)} {i : Nat} (ok : PsOk s t) (hP : 0 < P.length) (h : Rd P i s) : ∃ d w, d ∈ s.dl ∧ d.w = some w ∧ P[i % P.length]? = some (w.undo, d.no) ∧ (∃ r, srt (trs (carryS s d.no w).dl) = r ++ [(s.head, w.undo, d.no)]) ∧ Rd P (i + 1) (carryS s d.no w) ∧
    (P.length ≤ i → ∀ m, (∀ p ∈ P, p.1 ≤ m) → (∃ p ∈ P, p.1 = m) → (hvk s w.undo (trs s.dl) = 0 ↔ (P.map (·.1)).sum + m + w.undo ≤ s.c)) := by
  have hr := h.rot
  have hl : (srt (trs s.dl)).length = P.length := by
    have := congrArg List.length hr
    rw [List.length_map, List.length_append, List.length_drop, List.length_take] at this
    have := Nat.mod_lt i hP
    omega
  cases e : srt (trs s.dl) with
  | nil => rw [e] at hl; simp at hl; omega
  | cons x r =>
    obtain ⟨d, w, hd, hw, ex, es⟩ := srt_carry ok e
    rw [e, List.map_cons] at hr
    obtain ⟨r1, r2⟩ := rot_next hP hr.symm
    have epr : prP x = (w.undo, d.no) := by rw [ex]; rfl
    refine ⟨d, w, hd, hw, by rw [r2, epr], ⟨r, es⟩, ⟨?_, ?_⟩, fun hi m hm1 hm2 => ?_⟩
    · rw [es, List.map_append, ← r1]
      have : List.map prP [(s.head, w.undo, d.no)] = [prP x] := by rw [epr]; rfl
      rw [this]
    · rw [es]
      have hct := h.ct
      rw [e] at hct
      have hrl : r.length + 1 = P.length := by rw [← hl, e, List.length_cons]
      rw [List.drop_append_of_le_length (by omega)]
      refine ct_app ?_
      by_cases c : i < P.length
      · have : P.length - i = (P.length - (i + 1)) + 1 := by omega
        rw [this, List.drop_succ_cons] at hct
        exact hct
      · have e0 : P.length - i = 0 := by omega
        have e1 : P.length - (i + 1) = 0 := by omega
        rw [e0, List.drop_zero] at hct
        rw [e1, List.drop_zero]
        exact hct.2
    · have hct := h.ct
      have e0 : P.length - i = 0 := by omega
      rw [e0, List.drop_zero] at hct
      have pp : ((srt (trs s.dl)).map prP).Perm P := by
        rw [h.rot]
        exact List.perm_append_comm.trans (by rw [List.take_append_drop])
      have es2 : needSum (srt (trs s.dl)) = (P.map (·.1)).sum := by
        have : (srt (trs s.dl)).map (fun t => t.2.1) = ((srt (trs s.dl)).map prP).map (·.1) := by rw [List.map_map]; rfl
        unfold needSum
        rw [this]
        exact perm_sum (pp.map (·.1))
      have := ct_full (c := s.c) (u := w.undo) (m := m) hct (fun t ht => hm1 (prP t) (pp.mem_iff.mp (List.mem_map.mpr ⟨t, ht, rfl⟩))) (by
        obtain ⟨p, hp, e⟩ := hm2
        obtain ⟨t, ht, e2⟩ := List.mem_map.mp (pp.mem_iff.mpr hp)
        exact ⟨t, ht, by rw [← e, ← e2]; rfl⟩)
      rw [es2] at this
      exact this
end
end Rc
-- G31
set_option Elab.async false
set_option linter.all false
set_option maxRecDepth 100000
set_option maxHeartbeats 4000000
namespace Rc
open PySem PySem.Spec PyProof.Rows L2 RcHead
local macro_rules | `(tactic| walk_at "rc mem") => `(tactic| first | assumption | exact List.mem_cons_self | ((with_reducible (refine List.mem_cons_of_mem _ ?_)); walk_at "rc mem"))
local macro_rules | `(tactic| walk_at "rc end") => `(tactic| fail)
local macro_rules | `(tactic| walk_at "rc lst") => `(tactic| with_reducible refine em_lst ?_)
local macro_rules | `(tactic| walk_at "rc call") => `(tactic| fail)
local macro_rules | `(tactic| walk_at "rc step") => `(tactic| first
  | ((with_reducible (apply em_var)); rfl)
  | with_reducible refine em_c ?_
  | with_reducible refine em_op ?_
  | with_reducible refine ro_I0 ?_
  | ((with_reducible (refine ro_eq ?_ ?_)); rfl)
  | ((with_reducible (refine ro_ne ?_ ?_)); rfl)
  | with_reducible refine ro_isN ?_
  | with_reducible refine ro_notN ?_
  | with_reducible refine ea_nil ?_
  | with_reducible refine ea_cons ?_
  | with_reducible refine em_call ?_
  | walk_at "rc call"
  | (with_reducible refine em_fld ?_)
  | (refine ⟨_, _, _, _, rfl, (by walk_at "rc mem"), (by assumption), (by assumption), (by rfl), ?_⟩)
  | with_reducible refine ra_listV ?_
  | with_reducible refine em_cb ?_
  | with_reducible refine em_tup ?_
  | walk_at "rc lst"
  | with_reducible refine em_if ?_
  | with_reducible refine em_andV ?_
  | with_reducible refine em_orV ?_
  | with_reducible refine em_notV ?_
  | with_reducible refine em_chain ?_
  | with_reducible refine et_test ?_
  | with_reducible refine et_B ?_
  | with_reducible refine et_and ?_
  | with_reducible refine et_or ?_
  | with_reducible refine et_not ?_
  | with_reducible refine et_yes ?_
  | with_reducible refine sx_seq ?_
  | with_reducible refine sx_next ?_
  | with_reducible refine sx_asg ?_
  | with_reducible refine sx_ret ?_
  | with_reducible refine sx_append ?_
  | with_reducible refine sx_drop ?_
  | with_reducible refine sx_if ?_
  | (refine ⟨_, rfl, ?_⟩)
  | (refine ⟨fun _ => ?_, fun z => Bool.noConfusion z⟩)
  | (refine ⟨fun z => Bool.noConfusion z, fun _ => ?_⟩)
  | with_reducible refine em_make ?_
  | with_reducible refine em_meth ?_
  | (refine ⟨_, _, rfl, (by walk_at "rc mem"), rfl, ?_⟩)
  | with_reducible refine em_neg ?_
  | with_reducible refine sx_fld ?_
  | (refine ⟨_, _, _, 0, rfl, rfl, (by assumption), (by assumption), (of_decide_eq_true rfl), ?_⟩)
  | ((with_reducible (apply ra_len)); (first | exact .l .d | exact .t | exact .l (.c (by walk_at "rc mem"))))
  | ((with_reducible (apply ra_lenK)); (walk_at "rc mem"))
  | ((with_reducible (apply ro_ixL)); (first | exact .d | exact .c (by walk_at "rc mem")); (first | rfl | exact atI_0))
  | ((with_reducible (apply ro_ixT)); rfl)
  | (with_reducible (refine gx_name ?_ (by decide)))
  | ((with_reducible (apply gx_tupR)); rfl)
  | with_reducible refine gxs_cons ?_
  | with_reducible refine gxs_nil ?_
  | (exact ⟨rfl, rfl⟩)
  | (refine ⟨rfl, ?_⟩)
  | with_reducible refine em_dget ?_
  | with_reducible refine sx_lockAsg ?_
  | with_reducible refine em_din ?_
  | with_reducible refine em_dnotIn ?_
  | ((with_reducible (apply sx_aug)); rfl)
  | with_reducible refine sx_setL ?_
  | with_reducible refine sx_dput ?_
  | with_reducible refine gx_fld ?_
  | (with_reducible (apply sx_fldAug))
  | ((with_reducible (apply sx_rz)); assumption)
  | (refine ⟨(by simp only [List.length_cons, List.length_nil]; omega), ?_⟩))
local macro_rules | `(tactic| walk_at "rc perm") => `(tactic| (refine Mu.of ?_; simp only [Mu.app, Mu.cons, Mu.nil, Mu.nil_add, Mu.add_nil, List.append_eq]; ac_rfl))
section
variable [Tbl] {P : Program} {w : World} {K : PySem.W.Frag} {mg : Str → Option Value} {base : Heap}
local macro_rules | `(tactic| walk_at "rc call") => `(tactic| first | rw [bl_tt] | rw [bl_ff] | rw [bl_tf] | rw [bl_ft] | rw [sw_tf] | rw [sw_ff])
theorem sw_tf : decide (V.str "told" = V.str "full") = false := by decide
theorem sw_ff : decide (V.str "full" = V.str "full") = true := by decide
theorem ord_items (s : Ps) : ((itemsP s).filterMap fun t => if (!isNon (.v (optV t.2.1))) = true then some (D.v (.int t.1)) else none) = ((srt (trs s.dl)).map prP).map fun p => D.v (.int p.2) := by
  unfold itemsP
  rw [List.filterMap_append, List.map_map]
  have e1 : ∀ l : List (Int × Int × Int), ((l.map fun t => (t.2.2, some t.1, t.2.1)).filterMap fun t : Int × Option Int × Int => if (!isNon (.v (optV t.2.1))) = true then some (D.v (.int t.1)) else none) = l.map ((fun p : Int × Int => D.v (.int p.2)) ∘ prP) := fun l => by
    induction l with
    | nil => rfl
    | cons a l ih =>
      rw [List.map_cons, List.map_cons, List.filterMap_cons]
      show D.v (.int a.2.2) :: _ = D.v (.int a.2.2) :: _
      rw [ih]
  have e2 : ∀ l : List (Int × Option Int × Int), ((l.filter fun t => t.2.1.isNone).filterMap fun t : Int × Option Int × Int => if (!isNon (.v (optV t.2.1))) = true then some (D.v (.int t.1)) else none) = [] := fun l => by
    refine List.filterMap_eq_nil_iff.mpr fun t ht => ?_
    have h := (List.mem_filter.mp ht).2
    obtain ⟨a, b, c⟩ := t
    cases b with
    | none => rfl
    | some x => cases h
  rw [e1, e2, List.append_nil]
theorem sam_told (x : V) {T : String} (h : Sc x T) : Sam 4 (toldD x) := .t (n := 3) (fun y hy => by
  simp at hy
  rcases hy with rfl | rfl
  · exact .v (.str _)
  · exact .v h) (by simp)
theorem sam_full {l : List D} (h : ∀ x ∈ l, ∃ i : Int, x = .v (.int i)) (z : l.length ≤ 1000) : Sam 4 (fullD (.t l)) := .t (n := 3) (fun y hy => by
  simp at hy
  rcases hy with rfl | rfl
  · exact .v (.str _)
  · exact .t (n := 2) (fun x hx => by
      obtain ⟨i, rfl⟩ := h x hx
      exact .v (.int i)) z) (by simp)
theorem sam_lots {s : Ps} {t : Nat} (ok : PsOk s t) (A : Act) : Sam 4 (fullD (.t (lotsL s A))) := sam_full (fun x hx => by
    obtain ⟨y, _, rfl⟩ := List.mem_map.mp hx
    exact ⟨_, rfl⟩) (by
    unfold lotsL
    rw [List.length_map, List.length_take]
    have h : ∀ l : List Pd, l.length ≤ 50 → (srt (trs l)).length ≤ 1000 := fun l hl => by
      rw [(srt_perm _).length_eq]
      have := trs_len l
      omega
    have h2 : (srt (wayL s A)).length ≤ 1000 := by
      cases A with
      | ct d => exact h _ (Nat.le_trans (List.length_filter_le _ _) ok.z)
      | _ => exact h _ ok.z
    omega)
theorem sc_l_rounds_right : FnScope ["_law_hand_here", "_law_engine", "_law_book_here", "_law_most", "_law_order", "_law_needs", "_law_turn", "_law_at", "_law_head", "_law_told_here", "_law_due", "_law_written", "_law_item", "_law_deed"] ["_law_hand_here", "_law_engine", "_law_book_here", "_law_most"] (defScope (top 82)) := ⟨rfl, rfl, rfl, by decide +kernel, rfl, by decide +kernel, by decide +kernel⟩
theorem kp_l_rounds_right (W : Wd w K mg base) : PySem.W.keepIn K (.ref (He.fAd K ("_law_rounds_right", none))) = true := W.kp 40
theorem b_l_rounds_right (W : Wd w K mg base) : Binds K (fdO K (He.fAd K ("_law_rounds_right", none))) ["_law_hand_here", "_law_engine", "_law_book_here", "_law_most"] [] := (W.F 40).bindsN fun _ _ _ _ _ _ us hl => match us, hl with | [_, _, _, _], _ => rfl
def gm_l_rounds_right [Tbl] (K : PySem.W.Frag) : Gm := fun ds R F => ∃ (dh : D) (e bk : Addr) (s : Ps) (t : Nat) (most : Int) (Y : Rg), ds = [dh, .v (.ref e), .v (.ref bk), .v (.int most)] ∧ JAt K e bk s t s R Y ∧ NoRow Y ∧ PsOk s t ∧ t + 400 ≤ 60000 ∧ (0 ≤ most ∧ most ≤ 300) ∧ ∀ s' t2 R', JAt K e bk s' t2 s' R' Y → PsOk s' t2 → t2 ≤ t + 300 → F (.v (.bl true)) R'
abbrev sp_l_rounds_right [Tbl] (K : PySem.W.Frag) : Sp := spM (gm_l_rounds_right K)
theorem c_l_rounds_right [Tbl] {K : PySem.W.Frag} {H0 : Hp} {R0 R Y : Rg} {Ex : XK} {F : D → Rg → Prop} {dh : D} {e bk : Addr} {s : Ps} {t : Nat} {most : Int} (h1 : JAt K e bk s t s R Y) (h2 : NoRow Y) (h3 : PsOk s t) (h4 : t + 400 ≤ 60000) (h5 : 0 ≤ most ∧ most ≤ 300) (k : ∀ s' t2 R', JAt K e bk s' t2 s' R' Y → PsOk s' t2 → t2 ≤ t + 300 → F (.v (.bl true)) R') : RS H0 R0 (sp_l_rounds_right K) Ex [dh, .v (.ref e), .v (.ref bk), .v (.int most)] R F := rs_m ⟨dh, e, bk, s, t, most, Y, rfl, h1, h2, h3, h4, h5, k⟩
theorem ok_l_rounds_right (W : Wd w K mg base) : FnOk P w K mg base CX0 13 (He.fAd K ("_law_rounds_right", none)) (fdO K (He.fAd K ("_law_rounds_right", none))) ["_law_hand_here", "_law_engine", "_law_book_here", "_law_most"] (sp_l_rounds_right K) := by
  refine (W.F 40).ok sc_l_rounds_right ?_ (fun cdv A outer s H vs Q E hr h => ?_)
  · exact lenM fun ds R F h => by obtain ⟨dh, e, bk, s, t, most, Y, rfl, hJ, nY, ok, ht, hmost, hF⟩ := h; rfl
  have hu64 := hr.units
  have hu := Nat.lt_of_le_of_lt (Nat.add_le_add_left (show 1 ≤ 64 by decide) _) hu64
  refine ⟨_, PSs.nox (pss_cons (ps_setLc (i := 4) (own := [("_law_item", 12)]) (g := (gName 12)) rfl sc_l_rounds_right.nd rfl rfl (sw_true rfl rfl rfl (by decide +kernel)) (ilistK (K := K) rfl (pe_call (ok_l_items (K := K) W) (hr.mono (by decide)) rfl (W.glo 19) (kp_l_items W) (b_l_items W) .nil pass0 (pa_cons (pv 2) pa_nil))) (blkOk_by (show blkC ["_law_hand_here", "_law_engine", "_law_book_here", "_law_most", "_law_order", "_law_needs", "_law_turn", "_law_at", "_law_head", "_law_told_here", "_law_due", "_law_written", "_law_item", "_law_deed"] (defScope (top 82)) _ [("_law_item", 12)] = true by decide +kernel)) (fun _ _ _ _ _ => (pg_name (i := 12) sc_l_rounds_right.nd rfl (.inl rfl))) (fun _ _ _ _ _ => (pts_one (pt_cmpR op_notN (pe_ix (ixtK (K := K) rfl) (pv 12) pe_int (fun _ _ => rfl)) pe_non (nomark _)))) (fun _ _ _ _ _ => (pe_ix (ixtK (K := K) rfl) (pv 12) pe_int (fun _ _ => rfl))))
    (pss_cons (ps_setLc (i := 5) (own := [("_law_deed", 13)]) (g := (gName 13)) rfl sc_l_rounds_right.nd rfl rfl (sw_true rfl rfl rfl (by decide +kernel)) (ilistK (K := K) rfl (pv 4)) (blkOk_by (show blkC ["_law_hand_here", "_law_engine", "_law_book_here", "_law_most", "_law_order", "_law_needs", "_law_turn", "_law_at", "_law_head", "_law_told_here", "_law_due", "_law_written", "_law_item", "_law_deed"] (defScope (top 82)) _ [("_law_deed", 13)] = true by decide +kernel)) (fun _ _ _ _ _ => (pg_name (i := 13) sc_l_rounds_right.nd rfl (.inl rfl))) (fun _ _ _ _ _ => pts_nil) (fun _ _ _ _ _ => (pe_call (ok_l_need (K := K) W) (hr.mono (by decide)) rfl (W.glo 18) (kp_l_need W) (b_l_need W) .nil pass0 (pa_cons (pv 2) (pa_cons (pv 13) pa_nil)))))
    (pss_cons (ps_for PassesOwn.never rfl (pi_range1 rfl (W.free 58) (pa_cons (pe_ifExp (pt_cmpR op_gt (pe_callB (lenK (K := K) rfl) rfl (W.free 49) (by decide +kernel) (pa_cons (pv 4) pa_nil)) pe_int (nomark _)) (pv 3) pe_int) pa_nil)) (pg_name (i := 6) sc_l_rounds_right.nd rfl (.inl rfl))
    (pss_cons (ps_set (i := 7) sc_l_rounds_right.nd rfl (.inl rfl) (pe_op op_mod (pv 6) (pe_callB (lenK (K := K) rfl) rfl (W.free 49) (by decide +kernel) (pa_cons (pv 4) pa_nil))))
    (pss_cons (ps_set (i := 8) sc_l_rounds_right.nd rfl (.inl rfl) (pe_dget hu (pv 2) pe_str (fun _ _ => rfl)))
    (pss_cons (ps_par (i := 9) (j := 10) rfl sc_l_rounds_right.nd rfl rfl (by decide) rfl rfl (pa_cons (pe_call (ok_l_told (K := K) W) (hr.mono (by decide)) rfl (W.glo 37) (kp_l_told W) (b_l_told W) .nil pass0 (pa_cons (pv 1) (pa_cons (pe_tup (pa_cons pe_str (pa_cons (pe_ix (ixlK (K := K) rfl) (pv 4) (pv 7) (fun _ _ => rfl)) pa_nil))) pa_nil))) (pa_cons (pe_call (ok_l_do (K := K) W) (hr.mono (by decide)) rfl (W.glo 35) (kp_l_do W) (b_l_do W) .nil pass0 (pa_cons (pv 2) (pa_cons (pe_tup (pa_cons pe_str (pa_cons (pe_ix (ixlK (K := K) rfl) (pv 4) (pv 7) (fun _ _ => rfl)) pa_nil))) pa_nil))) pa_nil)) rfl)
    (pss_cons (ps_if (pt_not (pt_val (pe_call (ok_l_same (K := K) W 4) (hr.mono (by decide)) rfl (W.glo 15) (kp_l_same W) (b_l_same W) .nil pass0 (pa_cons (pv 9) (pa_cons (pv 10) pa_nil)))))
    (pss_one (ps_ret pe_bl))
    pss_nil)
    (pss_cons (ps_if (PW.pt (pw_and (pt_cmpR op_ge (pv 6) (pe_callB (lenK (K := K) rfl) rfl (W.free 49) (by decide +kernel) (pa_cons (pv 4) pa_nil)) (nomark _)) (pw_and1 (pt_cmpR op_ne (pe_cmpR op_eq (pe_ix (ixtK (K := K) rfl) (pv 10) pe_int (fun _ _ => rfl)) pe_str (nomark _)) (pe_cmpR op_gt (pe_op op_add (pe_op op_add (pe_callB (sumK (K := K) rfl rfl) rfl (W.free 50) (by decide +kernel) (pa_cons (pv 5) pa_nil)) (pe_callB (maxK (K := K) rfl rfl) rfl (W.free 53) (by decide +kernel) (pa_cons (pv 5) pa_nil))) (pe_ix (ixlK (K := K) rfl) (pv 5) (pv 7) (fun _ _ => rfl))) (pe_dget hu (pv 2) pe_str (fun _ _ => rfl)) (nomark _)) (nomark _)))))
    (pss_one (ps_ret pe_bl))
    pss_nil)
    (pss_cons (ps_if (pt_cmpR op_eq (pe_ix (ixtK (K := K) rfl) (pv 10) pe_int (fun _ _ => rfl)) pe_str (nomark _))
    (pss_one (ps_ret (pe_call (ok_l_shows (K := K) W) (hr.mono (by decide)) rfl (W.glo 38) (kp_l_shows W) (b_l_shows W) .nil pass0 (pa_cons (pv 2) (pa_cons (pv 1) pa_nil)))))
    pss_nil)
    (pss_cons (ps_setLc (i := 11) (own := [("_law_item", 12)]) (g := (gName 12)) rfl sc_l_rounds_right.nd rfl rfl (sw_true rfl rfl rfl (by decide +kernel)) (ilistK (K := K) rfl (pe_call (ok_l_items (K := K) W) (hr.mono (by decide)) rfl (W.glo 19) (kp_l_items W) (b_l_items W) .nil pass0 (pa_cons (pv 2) pa_nil))) (blkOk_by (show blkC ["_law_hand_here", "_law_engine", "_law_book_here", "_law_most", "_law_order", "_law_needs", "_law_turn", "_law_at", "_law_head", "_law_told_here", "_law_due", "_law_written", "_law_item", "_law_deed"] (defScope (top 82)) _ [("_law_item", 12)] = true by decide +kernel)) (fun _ _ _ _ _ => (pg_name (i := 12) sc_l_rounds_right.nd rfl (.inl rfl))) (fun _ _ _ _ _ => (pts_one (pt_cmpR op_notN (pe_ix (ixtK (K := K) rfl) (pv 12) pe_int (fun _ _ => rfl)) pe_non (nomark _)))) (fun _ _ _ _ _ => (pe_ix (ixtK (K := K) rfl) (pv 12) pe_int (fun _ _ => rfl))))
    (pss_one (ps_if (PW.pt (pw_or (pt_cmpR op_ne (pe_dget hu (pv 2) pe_str (fun _ _ => rfl)) (pe_op op_add (pv 8) (pe_ix (ixlK (K := K) rfl) (pv 5) (pv 7) (fun _ _ => rfl))) (nomark _)) (pw_or1 (pt_cmpR op_ne (pe_ix (ixlK (K := K) rfl) (pv 11) (pe_un un_neg pe_int) (fun _ _ => rfl)) (pe_ix (ixlK (K := K) rfl) (pv 4) (pv 7) (fun _ _ => rfl)) (nomark _)))))
    (pss_one (ps_ret pe_bl))
    pss_nil))))))))))
    (pss_one (ps_ret (pe_call (ok_l_shows (K := K) W) (hr.mono (by decide)) rfl (W.glo 38) (kp_l_shows W) (b_l_shows W) .nil pass0 (pa_cons (pv 2) (pa_cons (pv 1) pa_nil)))))))), entryM h ?_⟩
  clear h hu hu64 hr
  rintro ds R F ⟨dh, e, bk, s, t, most, Y, rfl, hJ, nY, ok, ht, hmost, hF⟩
  have hf := hJ.bkF ok
  have hlen : (srt (trs s.dl)).length ≤ 50 := by
    rw [(srt_perm _).length_eq]
    exact Nat.le_trans (trs_len _) ok.z
  repeat walk_at "rc step"
  refine em_lcI ?_
  repeat walk_at "rc step"
  refine f_items hf ok ?_
  refine ⟨_, itemsP s, itD, fun t => if (!isNon (.v (optV t.2.1))) = true then some (.v (.int t.1)) else none, .d, by have := items_len ok; omega, fun x hx H1 Rx hs => ?_, ?_⟩
  · repeat walk_at "rc step"
    refine ⟨fun h => ?_, fun h => ?_⟩
    · repeat walk_at "rc step"
      exact if_pos h
    · exact if_neg (by rw [h]; decide)
  rw [ord_items]
  repeat walk_at "rc step"
  refine em_lcI ?_
  repeat walk_at "rc step"
  refine ⟨_, (srt (trs s.dl)).map prP, fun p => .v (.int p.2), fun p => some (.v (.int p.1)), .d, by rw [List.length_map]; omega, fun x hx H1 Rx hs => ?_, ?_⟩
  · obtain ⟨y, hy, rfl⟩ := List.mem_map.mp hx
    obtain ⟨d, hd, w, hw, rfl⟩ := trs_mem ((srt_perm _).mem_iff.mp hy)
    repeat walk_at "rc step"
    refine f_need (hf.sub hs) hd ?_
    have eu : undP d = w.undo := by unfold undP; rw [hw]
    rw [eu]
    repeat walk_at "rc step"
  rw [fm_some]
  have hrd := rd_zero s
  have hPl : ((srt (trs s.dl)).map prP).length ≤ 50 := by rw [List.length_map]; exact hlen
  generalize (srt (trs s.dl)).map prP = Pq at *
  refine sx_seq (sx_for [6] (ei_rng1 (ea_cons (EM.mono (F := fun d R' => R' = R ∧ ∃ j : Nat, d = .v (.int (j : Int)) ∧ j ≤ 300 ∧ (j = 0 ∨ 0 < Pq.length)) ?_ ?_))))
  · repeat walk_at "rc step"
    rw [List.length_map]
    refine ⟨fun h => ?_, fun h => ?_⟩
    · repeat walk_at "rc step"
      refine ⟨most.toNat, by rw [Int.toNat_of_nonneg hmost.1], by omega, .inr ?_⟩
      have := of_decide_eq_true h
      omega
    · repeat walk_at "rc step"
      exact Or.inl rfl
  rintro dj Rj ⟨rfl, j, rfl, hj, hjP⟩
  refine ea_nil ⟨_, rfl, by omega, by omega, ?_⟩
  rw [Int.toNat_natCast]
  refine ⟨fun i g' R' => i ≤ j ∧ ∃ (s' : Ps) (o6 o7 o8 o9 o10 o11 : Option D), g' = [some dh, some (.v (.ref e)), some (.v (.ref bk)), some (.v (.int most)), some (.l (Pq.map fun p => .v (.int p.2))), some (.l (Pq.map fun p => .v (.int p.1))), o6, o7, o8, o9, o10, o11, none, none] ∧ JAt K e bk s' (t + i) s' R' Y ∧ PsOk s' (t + i) ∧ Rd Pq i s' ∧ s'.c = s.c, j, ⟨Nat.zero_le _, s, none, none, none, none, none, none, rfl, hJ, ok, hrd, rfl⟩, ?_⟩
  rintro i g' R' ⟨hi, s', o6, o7, o8, o9, o10, o11, rfl, hJ', ok', hrd', hc'⟩
  by_cases hlt : i < j
  case neg =>
    refine .inl ⟨by omega, ?_⟩
    repeat walk_at "rc step"
    refine c_l_shows hJ' ok' ?_
    exact hF s' (t + i) R' hJ' ok' (by omega)
  have hP : 0 < Pq.length := by
    rcases hjP with h | h
    · omega
    · exact h
  have ht' : t + i + 1 ≤ 60000 := by omega
  obtain ⟨d, w, hd, hw, hPi, ⟨r, es⟩, hrd2, hfull⟩ := rd_next ok' hP hrd'
  have hq : i % Pq.length < Pq.length := Nat.mod_lt _ hP
  have a1 : atI (Pq.map fun p => D.v (.int p.2)) ((i % Pq.length : Nat) : Int) = some (.v (.int d.no)) := by
    have e1 : (Pq.map fun p => D.v (.int p.2))[i % Pq.length]? = some (.v (.int d.no)) := by rw [List.getElem?_map, hPi]; rfl
    unfold atI ixN
    rw [List.length_map]
    simp only [Int.natCast_nonneg, Int.ofNat_lt, hq, if_true, Int.toNat_natCast]
    simpa using e1
  have a2 : atI (Pq.map fun p => D.v (.int p.1)) ((i % Pq.length : Nat) : Int) = some (.v (.int w.undo)) := by
    have e1 : (Pq.map fun p => D.v (.int p.1))[i % Pq.length]? = some (.v (.int w.undo)) := by rw [List.getElem?_map, hPi]; rfl
    unfold atI ixN
    rw [List.length_map]
    simp only [Int.natCast_nonneg, Int.ofNat_lt, hq, if_true, Int.toNat_natCast]
    simpa using e1
  refine .inr ⟨hlt, _, ⟨hlt, rfl⟩, fun H1 => ?_⟩
  repeat walk_at "rc step"
  rw [List.length_map]
  refine ro_I (by omega) ?_
  have emod : ((i : Int) % (Pq.length : Int)) = ((i % Pq.length : Nat) : Int) := (Int.natCast_emod i Pq.length).symm
  rw [emod]
  repeat walk_at "rc step"
  obtain ⟨B, dl, hB⟩ := hJ'.bkF ok'
  refine ⟨bk, bkFs B, .inr "head", _, rfl, .k hB.b, rfl, rfl, ?_⟩
  rw [hB.v.h]
  repeat walk_at "rc step"
  refine sx_par ?_
  repeat walk_at "rc step"
  refine ro_ixL .d a1 ?_
  repeat walk_at "rc step"
  obtain ⟨X1, hE1, nX1, back1⟩ := hJ'.en nY
  have hsum : ∀ m, (∀ y, y ∈ Pq.map (·.1) → y ≤ m) → m ∈ Pq.map (·.1) → Pq.length ≤ i → (hvk s' w.undo (trs s'.dl) = 0 ↔ (Pq.map (·.1)).sum + m + w.undo ≤ s'.c) := fun m h1 h2 h3 => hfull h3 m (fun p hp => h1 _ (List.mem_map.mpr ⟨p, hp, rfl⟩)) (by
    obtain ⟨p, hp, e⟩ := List.mem_map.mp h2
    exact ⟨p, hp, e⟩)
  have emap : (Pq.map fun p => D.v (.int p.1)) = (Pq.map (·.1)).map fun n => D.v (.int n) := by rw [List.map_map]; rfl
  refine c_l_told (A := .cy d w) hE1 nX1 ok' ⟨hd, hw⟩ (fun z => by cases z) (fun h0 R1 h => ?_) (fun h0 R1 h => ?_)
  · have hJ1 := back1 _ _ _ h
    repeat walk_at "rc step"
    refine ro_ixL .d a1 ?_
    repeat walk_at "rc step"
    obtain ⟨X2, hB2, back2⟩ := hJ1.boo
    refine c_l_do (A := .cy d w) hB2 ok' ht' ⟨hd, hw⟩ (fun _ R2 h2 => ?_) (fun h1 => absurd h0 h1)
    have hJ2 : JAt K e bk (carryS s' d.no w) (t + i + 1) (carryS s' d.no w) R2 Y := back2 _ _ h2
    have ok2 := carry_ok ok' ht' hd hw
    obtain ⟨B2, dl2, hB2⟩ := hJ2.bkF ok2
    repeat walk_at "rc step"
    refine ⟨_, _, rfl, ?_⟩
    repeat walk_at "rc step"
    refine c_l_same (sam_told .non .non) ?_
    refine ⟨true, rfl, ?_⟩
    refine ⟨fun z => Bool.noConfusion z, fun _ => ?_⟩
    refine sx_next ?_
    refine sx_seq (sx_if (ET.mono (G := fun b R3 => b = false ∧ R3 = R2) ?_ ?_))
    · repeat walk_at "rc step"
      rw [List.length_map]
      refine ⟨fun h3 => ?_, fun h3 => ?_⟩
      · have hle : Pq.length ≤ i := by
          have := of_decide_eq_true h3
          omega
        repeat walk_at "rc step"
        refine ra_sum (ns := Pq.map (·.1)) (by rw [emap]; exact .d) ?_
        repeat walk_at "rc step"
        refine ra_max (ns := Pq.map (·.1)) (by rw [emap]; exact .d) (by rw [List.length_map]; exact hP) fun m hm1 hm2 => ?_
        repeat walk_at "rc step"
        refine ro_ixL .d a2 ?_
        repeat walk_at "rc step"
        refine ⟨bk, bkFs B2, .inr "cells", _, rfl, .k hB2.b, rfl, rfl, ?_⟩
        have e5 : decide (B2.cells < (Pq.map (·.1)).sum + m + w.undo) = false := decide_eq_false (by
          have e6 := (hsum m hm2 hm1 hle).mp h0
          have e7 : B2.cells = s'.c := hB2.v.c
          omega)
        repeat walk_at "rc step"
        rw [e5]
        repeat walk_at "rc step"
      · repeat walk_at "rc step"
    rintro b R3 ⟨rfl, rfl⟩
    refine ⟨fun z => Bool.noConfusion z, fun _ => ?_⟩
    repeat walk_at "rc step"
    refine em_lcI ?_
    repeat walk_at "rc step"
    refine f_items (hJ2.bkF ok2) ok2 ?_
    refine ⟨_, itemsP (carryS s' d.no w), itD, fun t => if (!isNon (.v (optV t.2.1))) = true then some (.v (.int t.1)) else none, .d, by have := items_len ok2; omega, fun x hx H1 Rx hs => ?_, ?_⟩
    · repeat walk_at "rc step"
      refine ⟨fun h => ?_, fun h => ?_⟩
      · repeat walk_at "rc step"
        exact if_pos h
      · exact if_neg (by rw [h]; decide)
    rw [ord_items, es, List.map_append, List.map_append]
    repeat walk_at "rc step"
    refine ⟨bk, bkFs B2, .inr "head", _, rfl, .k hB2.b, rfl, rfl, ?_⟩
    rw [hB2.v.h]
    repeat walk_at "rc step"
    refine ro_ixL .d a2 ?_
    repeat walk_at "rc step"
    rw [show decide (V.int (carryS s' d.no w).head = V.int (s'.head + w.undo)) = true from decide_eq_true rfl]
    repeat walk_at "rc step"
    refine ro_ixL .d atI_last ?_
    repeat walk_at "rc step"
    refine ro_ixL .d a1 ?_
    repeat walk_at "rc step"
    rw [show decide (V.int (prP (s'.head, w.undo, d.no)).2 = V.int d.no) = true from decide_eq_true rfl]
    repeat walk_at "rc step"
    exact ⟨hlt, carryS s' d.no w, _, _, _, _, _, _, rfl, hJ2, ok2, hrd2, hc'⟩
  · have hJ1 := back1 _ _ _ h
    repeat walk_at "rc step"
    refine ro_ixL .d a1 ?_
    repeat walk_at "rc step"
    obtain ⟨X2, hB2, back2⟩ := hJ1.boo
    refine c_l_do (A := .cy d w) hB2 ok' ht' ⟨hd, hw⟩ (fun h1 => absurd h1 h0) (fun _ l hl => ?_)
    rw [hl rfl]
    obtain ⟨B2, dl2, hB2⟩ := hJ1.bkF ok'
    repeat walk_at "rc step"
    refine ⟨_, _, rfl, ?_⟩
    repeat walk_at "rc step"
    refine c_l_same (sam_lots ok' _) ?_
    refine ⟨true, rfl, ?_⟩
    refine ⟨fun z => Bool.noConfusion z, fun _ => ?_⟩
    refine sx_next ?_
    refine sx_seq (sx_if (ET.mono (G := fun b R3 => b = false ∧ R3 = R1) ?_ ?_))
    · repeat walk_at "rc step"
      rw [List.length_map]
      refine ⟨fun h3 => ?_, fun h3 => ?_⟩
      · have hle : Pq.length ≤ i := by
          have := of_decide_eq_true h3
          omega
        repeat walk_at "rc step"
        refine ra_sum (ns := Pq.map (·.1)) (by rw [emap]; exact .d) ?_
        repeat walk_at "rc step"
        refine ra_max (ns := Pq.map (·.1)) (by rw [emap]; exact .d) (by rw [List.length_map]; exact hP) fun m hm1 hm2 => ?_
        repeat walk_at "rc step"
        refine ro_ixL .d a2 ?_
        repeat walk_at "rc step"
        refine ⟨bk, bkFs B2, .inr "cells", _, rfl, .k hB2.b, rfl, rfl, ?_⟩
        have e5 : decide (B2.cells < (Pq.map (·.1)).sum + m + w.undo) = true := decide_eq_true (by
          have e6 : ¬ ((Pq.map (·.1)).sum + m + w.undo ≤ s'.c) := fun z => h0 ((hsum m hm2 hm1 hle).mpr z)
          have e7 : B2.cells = s'.c := hB2.v.c
          omega)
        repeat walk_at "rc step"
        rw [e5]
        repeat walk_at "rc step"
      · repeat walk_at "rc step"
    rintro b R3 ⟨rfl, rfl⟩
    refine ⟨fun z => Bool.noConfusion z, fun _ => ?_⟩
    repeat walk_at "rc step"
    refine c_l_shows hJ1 ok' ?_
    exact hF s' (t + i) _ hJ1 ok' (by omega)
end
end Rc
-- G32
set_option Elab.async false
set_option linter.all false
set_option maxRecDepth 100000
set_option maxHeartbeats 4000000
namespace Rc
open PySem PySem.Spec PyProof.Rows L2 RcHead
local macro_rules | `(tactic| walk_at "rc mem") => `(tactic| first | assumption | exact List.mem_cons_self | ((with_reducible (refine List.mem_cons_of_mem _ ?_)); walk_at "rc mem"))
local macro_rules | `(tactic| walk_at "rc end") => `(tactic| fail)
local macro_rules | `(tactic| walk_at "rc lst") => `(tactic| with_reducible refine em_lst ?_)
local macro_rules | `(tactic| walk_at "rc call") => `(tactic| fail)
local macro_rules | `(tactic| walk_at "rc step") => `(tactic| first
  | ((with_reducible (apply em_var)); rfl)
  | with_reducible refine em_c ?_
  | with_reducible refine em_op ?_
  | with_reducible refine ro_I0 ?_
  | ((with_reducible (refine ro_eq ?_ ?_)); rfl)
  | ((with_reducible (refine ro_ne ?_ ?_)); rfl)
  | with_reducible refine ro_isN ?_
  | with_reducible refine ro_notN ?_
  | with_reducible refine ea_nil ?_
  | with_reducible refine ea_cons ?_
  | with_reducible refine em_call ?_
  | walk_at "rc call"
  | (with_reducible refine em_fld ?_)
  | (refine ⟨_, _, _, _, rfl, (by walk_at "rc mem"), (by assumption), (by assumption), (by rfl), ?_⟩)
  | with_reducible refine ra_listV ?_
  | with_reducible refine em_cb ?_
  | with_reducible refine em_tup ?_
  | walk_at "rc lst"
  | with_reducible refine em_if ?_
  | with_reducible refine em_andV ?_
  | with_reducible refine em_orV ?_
  | with_reducible refine em_notV ?_
  | with_reducible refine em_chain ?_
  | with_reducible refine et_test ?_
  | with_reducible refine et_B ?_
  | with_reducible refine et_and ?_
  | with_reducible refine et_or ?_
  | with_reducible refine et_not ?_
  | with_reducible refine et_yes ?_
  | with_reducible refine sx_seq ?_
  | with_reducible refine sx_next ?_
  | with_reducible refine sx_asg ?_
  | with_reducible refine sx_ret ?_
  | with_reducible refine sx_append ?_
  | with_reducible refine sx_drop ?_
  | with_reducible refine sx_if ?_
  | (refine ⟨_, rfl, ?_⟩)
  | (refine ⟨fun _ => ?_, fun z => Bool.noConfusion z⟩)
  | (refine ⟨fun z => Bool.noConfusion z, fun _ => ?_⟩)
  | with_reducible refine em_make ?_
  | with_reducible refine em_meth ?_
  | (refine ⟨_, _, rfl, (by walk_at "rc mem"), rfl, ?_⟩)
  | with_reducible refine em_neg ?_
  | with_reducible refine sx_fld ?_
  | (refine ⟨_, _, _, 0, rfl, rfl, (by assumption), (by assumption), (of_decide_eq_true rfl), ?_⟩)
  | ((with_reducible (apply ra_len)); (first | exact .l .d | exact .t | exact .l (.c (by walk_at "rc mem"))))
  | ((with_reducible (apply ra_lenK)); (walk_at "rc mem"))
  | ((with_reducible (apply ro_ixL)); (first | exact .d | exact .c (by walk_at "rc mem")); (first | rfl | exact atI_0))
  | ((with_reducible (apply ro_ixT)); rfl)
  | (with_reducible (refine gx_name ?_ (by decide)))
  | ((with_reducible (apply gx_tupR)); rfl)
  | with_reducible refine gxs_cons ?_
  | with_reducible refine gxs_nil ?_
  | (exact ⟨rfl, rfl⟩)
  | (refine ⟨rfl, ?_⟩)
  | with_reducible refine em_dget ?_
  | with_reducible refine sx_lockAsg ?_
  | with_reducible refine em_din ?_
  | with_reducible refine em_dnotIn ?_
  | ((with_reducible (apply sx_aug)); rfl)
  | with_reducible refine sx_setL ?_
  | with_reducible refine sx_dput ?_
  | with_reducible refine gx_fld ?_
  | (with_reducible (apply sx_fldAug))
  | ((with_reducible (apply sx_rz)); assumption)
  | (refine ⟨(by simp only [List.length_cons, List.length_nil]; omega), ?_⟩))
local macro_rules | `(tactic| walk_at "rc perm") => `(tactic| (refine Mu.of ?_; simp only [Mu.app, Mu.cons, Mu.nil, Mu.nil_add, Mu.add_nil, List.append_eq]; ac_rfl))
section
variable [Tbl] {P : Program} {w : World} {K : PySem.W.Frag} {mg : Str → Option Value} {base : Heap}
local macro_rules | `(tactic| walk_at "rc call") => `(tactic| first | rw [sw_tt] | rw [sw_ft])
theorem sw_tt : decide (V.str "told" = V.str "told") = true := by decide
theorem sw_ft : decide (V.str "full" = V.str "told") = false := by decide
def initS (n : Nat) (c : Int) : Ps := ⟨c, 0, n, fun _ => 0, fun _ => 0, fun _ => none, [], 0⟩
theorem init_ok {n : Nat} {c : Int} (hn : 1 ≤ n ∧ n ≤ 60) (hc : 1 ≤ c ∧ c ≤ 1000000) : PsOk (initS n c) 0 where
  n60 := hn.2
  n1 := hn.1
  out := fun _ _ => rfl
  srt := .nil
  z := Nat.zero_le _
  no := fun d h => by cases h
  w := fun d h => by cases h
  nd := .nil
  c0 := hc
  h0 := ⟨Int.le_refl _, by show (0 : Int) ≤ 1000 * ((0 : Nat) : Int); decide⟩
  nx := ⟨Int.le_refl _, by show (0 : Int) ≤ 100; decide⟩
  t := by decide
/-- actions that are all done, one after the other -/
def Run : Ps → Nat → List Act → Ps → Prop
  | s, _, [], s' => s' = s
  | s, t, A :: l, s' => PsOk s t ∧ ActOk s A ∧ wayK s A = 0 ∧ Run (wayS s A) (t + 1) l s'
theorem run_snoc : ∀ {l : List Act} {s s1 : Ps} {t : Nat} {A : Act}, Run s t l s1 → PsOk s1 (t + l.length) → ActOk s1 A → wayK s1 A = 0 → Run s t (l ++ [A]) (wayS s1 A)
  | [], s, s1, t, A, h, ok, ha, hk => by
    have e : s1 = s := h
    subst e
    exact ⟨ok, ha, hk, rfl⟩
  | B :: l, s, s1, t, A, ⟨h1, h2, h3, h4⟩, ok, ha, hk => ⟨h1, h2, h3, run_snoc (l := l) h4 (by
    have e : t + 1 + l.length = t + (B :: l).length := by simp; omega
    rw [e]
    exact ok) ha hk⟩
theorem hold_new {s : Ps} {t : Nat} (ok : PsOk s t) {no : Int} (h : (⟨no, none⟩ : Pd) ∈ s.dl) : holdP s.dl no = .non := by
  unfold holdP
  have e : s.dl.find? (fun d => d.w.any fun w => decide (w.page = no)) = none := by
    refine List.find?_eq_none.mpr fun d hd => ?_
    cases cw : d.w with
    | none => simp
    | some w =>
      have := ok.w d hd w cw
      simp
      intro z
      have e1 : d.no = no := by rw [← this.1]; exact z
      have nd : (s.dl.map (·.no)).Nodup := by
        have h := ok.srt
        show (s.dl.map (·.no)).Pairwise (· ≠ ·)
        rw [List.pairwise_map]
        exact h.imp fun {a b} z => by omega
      have e2 := inj_nd (f := fun d : Pd => d.no) nd hd h e1
      rw [e2] at cw
      cases cw
  rw [e]
theorem no_nil : NoRow [] := fun c hc => by cases hc
def Bst (bk p ha : Addr) (n : Nat) (c : Int) (X : Rg) (m i : Nat) (R : Rg) (acts : List Act) (s : Ps) : Prop := ∃ h B ds jk, HdOk h m ∧ R.Perm ((p, .l (acts.map actD)) :: (ha, .l (hdD h)) :: (BkL bk s B ds jk ++ X)) ∧ BkV s B ds ∧ NoRow jk ∧ Run (initS n c) 0 acts s ∧ PsOk s acts.length ∧ s.n = n ∧ s.nxt = i ∧ s.dl.length ≤ i
section
variable {bk p ha : Addr} {n : Nat} {c : Int} {X R : Rg} {m i : Nat} {acts : List Act} {s : Ps}
theorem Bst.hd (h : Bst bk p ha n c X m i R acts s) : ∃ Z, HdAt ha m R Z ∧ ∀ R', HdAt ha (m + 1) R' Z → Bst bk p ha n c X (m + 1) i R' acts s := by
  obtain ⟨h, B, ds, jk, h1, h2, h3⟩ := h
  exact ⟨(p, .l (acts.map actD)) :: (BkL bk s B ds jk ++ X), ⟨h, h1, h2.trans (List.Perm.swap _ _ _)⟩, fun R' ⟨h', h4, h5⟩ => ⟨h', B, ds, jk, h4, h5.trans (List.Perm.swap _ _ _), h3⟩⟩
theorem Bst.boo [Tbl] (h : Bst bk p ha n c X m i R acts s) : ∃ Z, BkAt bk s R Z ∧ (p, RC.l (acts.map actD)) ∈ R ∧ (∀ R', BkAt bk s R' Z → (p, RC.l (acts.map actD)) ∈ R' ∧ Bst bk p ha n c X m i R' acts s) ∧
    ∀ A (i' : Nat) R', PsOk s acts.length → ActOk s A → wayK s A = 0 → BkAt bk (wayS s A) R' Z → PsOk (wayS s A) (acts.length + 1) → (wayS s A).n = n → (wayS s A).nxt = i' → (wayS s A).dl.length ≤ i' → (p, RC.l (acts.map actD)) ∈ R' ∧ ∀ nn, R'[nn]? = some (p, RC.l (acts.map actD)) → Bst bk p ha n c X m i' (R'.set nn (p, .l (acts.map actD ++ [actD A]))) (acts ++ [A]) (wayS s A) := by
  obtain ⟨h, B, ds, jk, h1, h2, h3, h4, h5, h6, h7, h8, h9⟩ := h
  refine ⟨(p, .l (acts.map actD)) :: (ha, .l (hdD h)) :: X, ⟨B, ds, jk, h2.trans ?_, h3, h4⟩, h2.mem_iff.mpr List.mem_cons_self, fun R' ⟨B', ds', jk', q1, q2, q3⟩ => ?_, fun A i' R' ok hA hk ⟨B', ds', jk', q1, q2, q3⟩ ok2 hn hi hl => ?_⟩
  · generalize BkL bk s B ds jk = b
    walk_at "rc perm"
  · have q4 : R'.Perm ((p, .l (acts.map actD)) :: (ha, .l (hdD h)) :: (BkL bk s B' ds' jk' ++ X)) := q1.trans (by
      generalize BkL bk s B' ds' jk' = b
      walk_at "rc perm")
    exact ⟨q4.mem_iff.mpr List.mem_cons_self, h, B', ds', jk', h1, q4, q2, q3, h5, h6, h7, h8, h9⟩
  · have q4 : R'.Perm ((p, .l (acts.map actD)) :: (ha, .l (hdD h)) :: (BkL bk (wayS s A) B' ds' jk' ++ X)) := q1.trans (by
      generalize BkL bk (wayS s A) B' ds' jk' = b
      walk_at "rc perm")
    refine ⟨q4.mem_iff.mpr List.mem_cons_self, fun nn hnn => ⟨h, B', ds', jk', h1, ?_, q2, q3, run_snoc h5 (by rw [Nat.zero_add]; exact ok) hA hk, by rw [List.length_append]; exact ok2, hn, hi, hl⟩⟩
    rw [List.map_append]
    exact set_permR hnn q4
end
theorem sc_l_begun : FnScope ["_law_hand_here", "_law_count", "_law_cells", "_law_book_here", "_law_actions", "_law_deed", "_law_write", "_law_action"] ["_law_hand_here", "_law_count", "_law_cells"] (defScope (top 81)) := ⟨rfl, rfl, rfl, by decide +kernel, rfl, by decide +kernel, by decide +kernel⟩
theorem kp_l_begun (W : Wd w K mg base) : PySem.W.keepIn K (.ref (He.fAd K ("_law_begun", none))) = true := W.kp 39
theorem b_l_begun (W : Wd w K mg base) : Binds K (fdO K (He.fAd K ("_law_begun", none))) ["_law_hand_here", "_law_count", "_law_cells"] [] := (W.F 39).bindsN fun _ _ _ _ _ _ us hl => match us, hl with | [_, _, _], _ => rfl
def gm_l_begun [Tbl] : Gm := fun ds R F => ∃ (ha : Addr) (m n : Nat) (c : Int) (X : Rg), ds = [.v (.ref ha), .v (.int n), .v (.int c)] ∧ HdAt ha m R X ∧ m + 100 ≤ 1000000 ∧ (1 ≤ n ∧ n ≤ 20) ∧ (1 ≤ c ∧ c ≤ 1000000) ∧ ∀ acts s' m' R', Run (initS n c) 0 acts s' → PsOk s' acts.length → acts.length ≤ 2 * n → HdAt ha m' R' X → m' ≤ m + 2 * n → F (.l (acts.map actD)) R'
abbrev sp_l_begun [Tbl] : Sp := spM (gm_l_begun)
theorem c_l_begun [Tbl] {H0 : Hp} {R0 R X : Rg} {Ex : XK} {F : D → Rg → Prop} {ha : Addr} {m n : Nat} {c : Int} (h1 : HdAt ha m R X) (h2 : m + 100 ≤ 1000000) (h3 : 1 ≤ n ∧ n ≤ 20) (h4 : 1 ≤ c ∧ c ≤ 1000000) (k : ∀ acts s' m' R', Run (initS n c) 0 acts s' → PsOk s' acts.length → acts.length ≤ 2 * n → HdAt ha m' R' X → m' ≤ m + 2 * n → F (.l (acts.map actD)) R') : RS H0 R0 sp_l_begun Ex [.v (.ref ha), .v (.int n), .v (.int c)] R F := rs_m ⟨ha, m, n, c, X, rfl, h1, h2, h3, h4, k⟩
theorem ok_l_begun (W : Wd w K mg base) : FnOk P w K mg base CX0 10 (He.fAd K ("_law_begun", none)) (fdO K (He.fAd K ("_law_begun", none))) ["_law_hand_here", "_law_count", "_law_cells"] (sp_l_begun) := by
  refine (W.F 39).ok sc_l_begun ?_ (fun cdv A outer s H vs Q E hr h => ?_)
  · exact lenM fun ds R F h => by obtain ⟨ha, m, n, c, X, rfl, ⟨h, hok, p0⟩, hm, hn, hc, hF⟩ := h; rfl
  have hu64 := hr.units
  have hu := Nat.lt_of_le_of_lt (Nat.add_le_add_left (show 1 ≤ 64 by decide) _) hu64
  refine ⟨_, PSs.nox (pss_cons (ps_par (i := 3) (j := 4) rfl sc_l_begun.nd rfl rfl (by decide) rfl rfl (pa_cons (pe_call (ok_l_book (K := K) W) (hr.mono (by decide)) rfl (W.glo 16) (kp_l_book W) (b_l_book W) .nil pass0 (pa_cons (pv 1) (pa_cons (pv 2) pa_nil))) (pa_cons (pe_lst pa_nil) pa_nil)) rfl)
    (pss_cons (ps_for PassesOwn.never rfl (pi_range1 rfl (W.free 58) (pa_cons (pv 1) pa_nil)) (pg_name (i := 5) sc_l_begun.nd rfl (.inl rfl))
    (pss_cons (ps_set (i := 6) sc_l_begun.nd rfl (.inl rfl) (pe_tup (pa_cons pe_str (pa_cons (pv 5) (pa_cons (pv 5) (pa_cons (pe_op op_add pe_int (pv 5)) (pa_cons (pe_op op_add pe_int (pe_call (ok_l_draw (K := K) W) (hr.mono (by decide)) rfl (W.glo 13) (kp_l_draw W) (b_l_draw W) .nil pass0 (pa_cons (pv 0) (pa_cons pe_int pa_nil)))) (pa_cons (pe_op op_add pe_int (pe_call (ok_l_draw (K := K) W) (hr.mono (by decide)) rfl (W.glo 13) (kp_l_draw W) (b_l_draw W) .nil pass0 (pa_cons (pv 0) (pa_cons pe_int pa_nil)))) pa_nil))))))))
    (pss_one (ps_for PassesOwn.never rfl (ilistK (K := K) rfl (pe_lst (pa_cons (pe_tup (pa_cons pe_str (pa_cons pe_int pa_nil))) (pa_cons (pv 6) pa_nil)))) (pg_name (i := 7) sc_l_begun.nd rfl (.inl rfl))
    (pss_one (ps_if (pt_cmpR op_eq (pe_ix (ixtK (K := K) rfl) (pe_call (ok_l_do (K := K) W) (hr.mono (by decide)) rfl (W.glo 35) (kp_l_do W) (b_l_do W) .nil pass0 (pa_cons (pv 3) (pa_cons (pv 7) pa_nil))) pe_int (fun _ _ => rfl)) pe_str (nomark _))
    (pss_one (ps_expr (appK (K := K) rfl (pv 4) (pv 7))))
    pss_nil))))))
    (pss_one (ps_ret (pv 4))))), entryM h ?_⟩
  clear h hu hu64 hr
  rintro ds R F ⟨ha, m, n, c, X, rfl, ⟨h, hok, p0⟩, hm, hn, hc, hF⟩
  refine sx_post (sx_perm p0 ?_)
  refine sx_seq (sx_par (ea_cons (em_call ?_)))
  repeat walk_at "rc step"
  refine c_l_book (by omega) fun bk hA dA pA ddA => ?_
  refine ea_cons (em_lstC (ea_nil ⟨Nat.zero_le _, fun p => ?_⟩))
  refine ea_nil ⟨_, _, rfl, ?_⟩
  have hb0 : Bst bk p ha n c X m 0 ((p, .l []) :: bcore bk ⟨c, 0, 0, hA, dA, pA, ddA⟩ n (fun _ => 0) (fun _ => 0) (fun _ => none) ((ddA, .k (vK (ddK []))) :: (ha, .l (hdD h)) :: X)) [] (initS n c) :=
    ⟨h, ⟨c, 0, 0, hA, dA, pA, ddA⟩, [], [], hok, (by
      unfold BkL bcore initS
      simp only [List.flatMap_nil, List.nil_append, List.map_nil, List.cons_append]
      walk_at "rc perm"), ⟨rfl, rfl, rfl, rfl, fun d hd => by cases hd⟩, no_nil, rfl, init_ok ⟨hn.1, by omega⟩ hc, rfl, rfl, Nat.le_refl _⟩
  generalize ((p, RC.l []) :: bcore bk ⟨c, 0, 0, hA, dA, pA, ddA⟩ n (fun _ => 0) (fun _ => 0) (fun _ => none) ((ddA, .k (vK (ddK []))) :: (ha, .l (hdD h)) :: X)) = R1 at *
  refine sx_seq (sx_for [5] (ei_rng1 ?_))
  repeat walk_at "rc step"
  refine ⟨by omega, by omega, ?_⟩
  rw [Int.toNat_natCast]
  refine ⟨fun i g' R' => i ≤ n ∧ ∃ (acts : List Act) (s : Ps) (o5 o6 o7 : Option D), g' = [some (.v (.ref ha)), some (.v (.int n)), some (.v (.int c)), some (.v (.ref bk)), some (.v (.ref p)), o5, o6, o7] ∧ Bst bk p ha n c X (m + 2 * i) i R' acts s ∧ acts.length ≤ 2 * i, n, ⟨Nat.zero_le _, [], initS n c, none, none, none, rfl, hb0, Nat.zero_le _⟩, ?_⟩
  rintro i g' R' ⟨hi, acts, s, o5, o6, o7, rfl, hb, hl⟩
  by_cases hlt : i < n
  case neg =>
    refine .inl ⟨by omega, ?_⟩
    have ei : i = n := by omega
    subst ei
    obtain ⟨h2, B, ds, jk, q1, q2, q3, q4, q5, q6, q7, q8, q9⟩ := hb
    refine sx_perm q2 ?_
    refine sx_ret (em_thaw (em_var rfl ⟨p, _, _, rfl, rfl, ?_⟩))
    refine ⟨(ha, .l (hdD h2)) :: X, BkL bk s B ds jk, ?_, hF acts s (m + 2 * i) _ q5 q6 hl ⟨h2, q1, List.Perm.refl _⟩ (Nat.le_refl _)⟩
    generalize BkL bk s B ds jk = b
    walk_at "rc perm"
  refine .inr ⟨hlt, _, ⟨hlt, rfl⟩, fun H1 => ?_⟩
  repeat walk_at "rc step"
  obtain ⟨Z1, d1, back1⟩ := hb.hd
  refine c_l_draw d1 (by omega) ⟨by decide, by decide⟩ fun r1 R2 hr1 h2 => ?_
  have hb1 := back1 R2 h2
  repeat walk_at "rc step"
  obtain ⟨Z2, d2, back2⟩ := hb1.hd
  refine c_l_draw d2 (by omega) ⟨by decide, by decide⟩ fun r2 R3 hr2 h3 => ?_
  have hb2 := back2 R3 h3
  repeat walk_at "rc step"
  refine sx_for [7] (ei_listI ?_)
  repeat walk_at "rc step"
  refine ⟨_, .d, fun k g' R' => k ≤ 2 ∧ ∃ (acts : List Act) (s : Ps) (o7 : Option D), g' = [some (.v (.ref ha)), some (.v (.int n)), some (.v (.int c)), some (.v (.ref bk)), some (.v (.ref p)), some (.v (.int (i : Nat))), some (.t [.v (.str "write"), .v (.int (i : Nat)), .v (.int (i : Nat)), .v (.int (7 + (i : Nat))), .v (.int (1 + r1)), .v (.int (1 + r2))]), o7] ∧
    Bst bk p ha n c X (m + 2 * i + 1 + 1) (if k = 0 then i else i + 1) R' acts s ∧ (k = 1 → (⟨(i : Nat), none⟩ : Pd) ∈ s.dl) ∧ acts.length ≤ 2 * i + k, 2, ⟨Nat.zero_le _, acts, s, o7, rfl, hb2, fun z => absurd z (by decide), hl⟩, ?_⟩
  clear hb hb1 hb2 d1 d2 back1 back2 h2 h3
  rintro k g' R4 ⟨hk, acts2, s2, o8, rfl, hb, hm1, hl2⟩
  obtain ⟨_, _, _, _, _, _, _, _, _, ok, en, ei, el⟩ := id hb
  have hat : acts2.length + 1 ≤ 60000 := by omega
  rcases (show k = 0 ∨ k = 1 ∨ k = 2 by omega) with rfl | rfl | rfl
  · rw [if_pos rfl] at hb ei el
    refine .inr ⟨by decide, _, ⟨.d, rfl⟩, fun H2 => ?_⟩
    repeat walk_at "rc step"
    obtain ⟨Z, hB, hpm, _, fwd⟩ := hb.boo
    have hA : ActOk s2 .op := by show s2.dl.length ≤ 40; omega
    refine c_l_do (A := .op) hB ok hat hA (fun h0 R5 h5 => ?_) (fun h1 => absurd rfl h1)
    have ok2 := up_ok (open_ok ok (by omega) (by omega)) hat
    obtain ⟨hpm2, fin⟩ := fwd .op (i + 1) R5 ok hA rfl h5 ok2 en (by show s2.nxt + 1 = _; omega) (by show (s2.dl ++ [_]).length ≤ _; simp; omega)
    obtain ⟨nn, hnn⟩ := List.mem_iff_getElem?.mp hpm2
    repeat walk_at "rc step"
    refine ⟨p, _, rfl, hpm2, by rw [List.length_map]; omega, ?_⟩
    repeat walk_at "rc step"
    refine ⟨nn, hnn, ?_⟩
    repeat walk_at "rc step"
    refine ⟨by decide, acts2 ++ [.op], openS s2, _, rfl, by rw [if_neg (by decide)]; exact fin nn hnn, fun _ => ?_, by rw [List.length_append]; simp; omega⟩
    show (⟨(i : Nat), none⟩ : Pd) ∈ s2.dl ++ [⟨s2.nxt, none⟩]
    rw [ei]
    exact List.mem_append_right _ List.mem_cons_self
  · rw [if_neg (by decide)] at hb ei el
    refine .inr ⟨by decide, _, ⟨.d, rfl⟩, fun H2 => ?_⟩
    repeat walk_at "rc step"
    obtain ⟨Z, hB, hpm, keep, fwd⟩ := hb.boo
    have hin := hm1 rfl
    have hA : ActOk s2 (.wr (i : Nat) (7 + (i : Nat)) (1 + r1) (1 + r2)) := ⟨hin, by omega, hold_new ok hin, ⟨by omega, by omega⟩, ⟨by omega, by omega⟩, ⟨by omega, by omega⟩⟩
    refine c_l_do (A := .wr (i : Nat) (7 + (i : Nat)) (1 + r1) (1 + r2)) hB ok hat hA (fun h0 R5 h5 => ?_) (fun h0 l _ => ?_)
    · have ok2 := write_ok (x := 7 + (i : Nat)) ok hat hin (by omega) (c := 1 + r1) (u := 1 + r2) ⟨by omega, by omega⟩ ⟨by omega, by omega⟩
      obtain ⟨hpm2, fin⟩ := fwd (.wr (i : Nat) (7 + (i : Nat)) (1 + r1) (1 + r2)) (i + 1) R5 ok hA h0 h5 ok2 en ei (by show (setW _ _ _).length ≤ _; unfold setW; rw [List.length_map]; exact el)
      obtain ⟨nn, hnn⟩ := List.mem_iff_getElem?.mp hpm2
      repeat walk_at "rc step"
      refine ⟨p, _, rfl, hpm2, by rw [List.length_map]; omega, ?_⟩
      repeat walk_at "rc step"
      refine ⟨nn, hnn, ?_⟩
      repeat walk_at "rc step"
      exact ⟨by decide, acts2 ++ [.wr (i : Nat) (7 + (i : Nat)) (1 + r1) (1 + r2)], writeS s2 (i : Nat) (7 + (i : Nat)) (1 + r1) (1 + r2), _, rfl, by rw [if_neg (by decide)]; exact fin nn hnn, fun z => absurd z (by decide), by rw [List.length_append]; simp; omega⟩
    · repeat walk_at "rc step"
      exact ⟨by decide, acts2, s2, _, rfl, by rw [if_neg (by decide)]; exact hb, fun z => absurd z (by decide), by omega⟩
  · rw [if_neg (by decide)] at hb
    refine .inl ⟨⟨.d, Nat.le_refl _⟩, ?_⟩
    refine ⟨hlt, acts2, s2, _, _, _, rfl, ?_, by omega⟩
    have e : m + 2 * (i + 1) = m + 2 * i + 1 + 1 := by omega
    rw [e]
    exact hb
end
end Rc
-- G33
set_option Elab.async false
set_option linter.all false
set_option maxRecDepth 100000
set_option maxHeartbeats 4000000
namespace Rc
open PySem PySem.Spec PyProof.Rows L2 RcHead
local macro_rules | `(tactic| walk_at "rc mem") => `(tactic| first | assumption | exact List.mem_cons_self | ((with_reducible (refine List.mem_cons_of_mem _ ?_)); walk_at "rc mem"))
local macro_rules | `(tactic| walk_at "rc end") => `(tactic| fail)
local macro_rules | `(tactic| walk_at "rc lst") => `(tactic| with_reducible refine em_lst ?_)
local macro_rules | `(tactic| walk_at "rc call") => `(tactic| fail)
local macro_rules | `(tactic| walk_at "rc step") => `(tactic| first
  | ((with_reducible (apply em_var)); rfl)
  | with_reducible refine em_c ?_
  | with_reducible refine em_op ?_
  | with_reducible refine ro_I0 ?_
  | ((with_reducible (refine ro_eq ?_ ?_)); rfl)
  | ((with_reducible (refine ro_ne ?_ ?_)); rfl)
  | with_reducible refine ro_isN ?_
  | with_reducible refine ro_notN ?_
  | with_reducible refine ea_nil ?_
  | with_reducible refine ea_cons ?_
  | with_reducible refine em_call ?_
  | walk_at "rc call"
  | (with_reducible refine em_fld ?_)
  | (refine ⟨_, _, _, _, rfl, (by walk_at "rc mem"), (by assumption), (by assumption), (by rfl), ?_⟩)
  | with_reducible refine ra_listV ?_
  | with_reducible refine em_cb ?_
  | with_reducible refine em_tup ?_
  | walk_at "rc lst"
  | with_reducible refine em_if ?_
  | with_reducible refine em_andV ?_
  | with_reducible refine em_orV ?_
  | with_reducible refine em_notV ?_
  | with_reducible refine em_chain ?_
  | with_reducible refine et_test ?_
  | with_reducible refine et_B ?_
  | with_reducible refine et_and ?_
  | with_reducible refine et_or ?_
  | with_reducible refine et_not ?_
  | with_reducible refine et_yes ?_
  | with_reducible refine sx_seq ?_
  | with_reducible refine sx_next ?_
  | with_reducible refine sx_asg ?_
  | with_reducible refine sx_ret ?_
  | with_reducible refine sx_append ?_
  | with_reducible refine sx_drop ?_
  | with_reducible refine sx_if ?_
  | (refine ⟨_, rfl, ?_⟩)
  | (refine ⟨fun _ => ?_, fun z => Bool.noConfusion z⟩)
  | (refine ⟨fun z => Bool.noConfusion z, fun _ => ?_⟩)
  | with_reducible refine em_make ?_
  | with_reducible refine em_meth ?_
  | (refine ⟨_, _, rfl, (by walk_at "rc mem"), rfl, ?_⟩)
  | with_reducible refine em_neg ?_
  | with_reducible refine sx_fld ?_
  | (refine ⟨_, _, _, 0, rfl, rfl, (by assumption), (by assumption), (of_decide_eq_true rfl), ?_⟩)
  | ((with_reducible (apply ra_len)); (first | exact .l .d | exact .t | exact .l (.c (by walk_at "rc mem"))))
  | ((with_reducible (apply ra_lenK)); (walk_at "rc mem"))
  | ((with_reducible (apply ro_ixL)); (first | exact .d | exact .c (by walk_at "rc mem")); (first | rfl | exact atI_0))
  | ((with_reducible (apply ro_ixT)); rfl)
  | (with_reducible (refine gx_name ?_ (by decide)))
  | ((with_reducible (apply gx_tupR)); rfl)
  | with_reducible refine gxs_cons ?_
  | with_reducible refine gxs_nil ?_
  | (exact ⟨rfl, rfl⟩)
  | (refine ⟨rfl, ?_⟩)
  | with_reducible refine em_dget ?_
  | with_reducible refine sx_lockAsg ?_
  | with_reducible refine em_din ?_
  | with_reducible refine em_dnotIn ?_
  | ((with_reducible (apply sx_aug)); rfl)
  | with_reducible refine sx_setL ?_
  | with_reducible refine sx_dput ?_
  | with_reducible refine gx_fld ?_
  | (with_reducible (apply sx_fldAug))
  | ((with_reducible (apply sx_rz)); assumption)
  | (refine ⟨(by simp only [List.length_cons, List.length_nil]; omega), ?_⟩))
local macro_rules | `(tactic| walk_at "rc perm") => `(tactic| (refine Mu.of ?_; simp only [Mu.app, Mu.cons, Mu.nil, Mu.nil_add, Mu.add_nil, List.append_eq]; ac_rfl))
section
variable [Tbl] {P : Program} {w : World} {K : PySem.W.Frag} {mg : Str → Option Value} {base : Heap}
local macro_rules | `(tactic| walk_at "rc call") => `(tactic| fail)
section
variable [Tbl] {K : PySem.W.Frag} {H0 : Hp} {R0 R : Rg} {F : D → Rg → Prop} {g : Ev} {te : TE} {tl th : TO}
theorem sql_tn {H H' : Hp} {R R' : Rg} {a : Addr} {xs : List V} (h : SqL K H a xs) (o : Out R a) (t : Tn H R H' R') : SqL K H' a xs := by
  rcases h with (h | ⟨ob, h⟩) | h
  · exact .inl (.inl (t a _ o h nt_of).2)
  · exact .inl (.inr ⟨ob, (t a _ o h (fun ps z => by cases z)).2⟩)
  · exact .inr h
/-- a slice of a list that is only read -/
theorem em_slQ {a : Addr} {xs : List V} {ds : List D} (hq : SqL K H0 a xs) (ho : Out R0 a) (hr : ∀ H N, RpL H N ds xs) (h : EM H0 R0 te g R fun d R1 => d = .v (.ref a) ∧ EO H0 R0 tl g R1 fun lo R2 => EO H0 R0 th g R2 fun hi R3 => F (.l (cutD ds lo hi)) R3) : EM H0 R0 (tSl (rSlL K) te tl th) g R F := fun σ H t e hH Q q =>
  h σ H t e hH _ fun d R1 v1 H1 ⟨ed, k1⟩ t1 hH1 r1 => k1 σ H1 (t.trans t1) (e.tn t1) hH1 _ fun lo R2 H2 k2 t2 hH2 => k2 σ H2 (t.trans (t1.trans t2)) (e.tn (t1.trans t2)) hH2 _ fun hi R3 H3 kk t3 hH3 => by
    subst ed
    have t13 := (t1.trans t2).trans t3
    refine ⟨a, xs, rp_v.mp r1, sql_tn hq ho (t.trans t13), fun p hp => ?_⟩
    obtain ⟨n1, n2, n3⟩ := new_l (t.trans t13) hH3 (cut_rel (lo := lo) (hi := hi) (hr H3 (Out R3))) hp
    exact q _ R3 _ _ kk (t13.trans n1) n2 n3
end
def sp_l_handQ [Tbl] (K : PySem.W.Frag) : Sp := fun vs H Q _ => ∃ (a : Addr) (ns : List Int) (R : Rg) (F : D → Rg → Prop), vs = [.ref a] ∧ SqL K H a (ns.map V.int) ∧ Out R a ∧ Holds H R ∧ (∀ ha R', HdAt ha 0 R' R → F (.v (.ref ha)) R') ∧ ∀ d R' v H', F d R' → Tn H R H' R' → Holds H' R' → Rp H' (Out R') d v → Q v H'
theorem c_l_handQ [Tbl] {K : PySem.W.Frag} {H0 : Hp} {R0 R : Rg} {Ex : XK} {F : D → Rg → Prop} {a : Addr} {ns : List Int} (hq : SqL K H0 a (ns.map V.int)) (o1 : Out R0 a) (o2 : Out R a) (k : ∀ ha R', HdAt ha 0 R' R → F (.v (.ref ha)) R') : RS H0 R0 (sp_l_handQ K) Ex [.v (.ref a)] R F := fun H xs t hH r Q q => by
  obtain ⟨x, e1, r1⟩ := rpl1 r
  exact ⟨a, ns, R, F, by rw [e1, rp_v.mp r1], sql_tn hq o1 t, o2, hH, k, fun d R' v H' kk t2 hH2 r2 => q d R' v H' kk t2 hH2 r2⟩
theorem ok_l_handQ (W : Wd w K mg base) : FnOk P w K mg base CX0 1 (He.fAd K ("_law_hand", none)) (fdO K (He.fAd K ("_law_hand", none))) ["_law_script"] (sp_l_handQ K) := by
  refine (W.F 12).ok sc_l_hand ?_ (fun cdv A outer s H vs Q E hr h => ?_)
  · rintro vs H Q E ⟨a, ns, R, F, rfl, _⟩
    rfl
  have hu64 := hr.units
  have hu := Nat.lt_of_le_of_lt (Nat.add_le_add_left (show 1 ≤ 64 by decide) _) hu64
  refine ⟨_, PSs.nox (pss_cons (ps_setLc (i := 1) (own := [("_law_cell", 2)]) (g := (gName 2)) rfl sc_l_hand.nd rfl rfl (sw_true rfl rfl rfl (by decide +kernel)) (ilistK (K := K) rfl (pe_slice (sllK (K := K) rfl) (pv 0) po_none (po_some pe_int))) (blkOk_by (show blkC ["_law_script", "_law_cells", "_law_cell"] (defScope (top 52)) _ [("_law_cell", 2)] = true by decide +kernel)) (fun _ _ _ _ _ => (pg_name (i := 2) sc_l_hand.nd rfl (.inl rfl))) (fun _ _ _ _ _ => pts_nil) (fun _ _ _ _ _ => (pe_callB call_abs rfl (W.free 64) (by decide +kernel) (pa_cons (pe_callTy call_int1 rfl (W.free 62) (by decide +kernel) (pa_cons (pv 2) pa_nil)) pa_nil))))
    (pss_one (ps_ret (pe_lst (pa_cons (pv 1) (pa_cons pe_int (pa_cons pe_int (pa_cons (pe_op op_add pe_int (pe_callB (lenK (K := K) rfl) rfl (W.free 49) (by decide +kernel) (pa_cons (pv 1) pa_nil))) (pa_cons pe_int pa_nil))))))))), ?_⟩
  obtain ⟨a, ns, R, F, rfl, hq, ho, hH, hF, q⟩ := h
  have main : ∀ t : TS, SX H R t (envOf ["_law_script", "_law_cells", "_law_cell"] [.v (.ref a)]) R { nx := fun _ R' => F (.v .non) R', rt := F } → t { nx := fun _ H' => Q .non H', rt := Q } (L2.start ["_law_script", "_law_cells", "_law_cell"] [.ref a]) H := fun t ht =>
    ht _ H _ Tn.refl (envR_start (RpL.cons rpv RpL.nil)) hH ⟨fun g R' σ' H' z t1 h1 _ => q _ R' _ H' z t1 h1 rpv, fun d R' v H' z t1 h1 r1 => q d R' v H' z t1 h1 r1, fun _ _ _ _ z => z.elim, fun _ _ _ _ z => z.elim⟩
  refine main _ ?_
  clear main hu hu64 hr q
  have hr2 : ∀ (H : Hp) (N : Addr → Prop), RpL H N (ns.map fun n => D.v (.int n)) (ns.map V.int) := fun H N => rpl_map (fun n : Int => V.int n) ns
  refine sx_seq (sx_asg (em_lcI (em_slQ hq ho hr2 ?_)))
  repeat walk_at "rc step"
  refine eo_none (eo_some ?_)
  repeat walk_at "rc step"
  have ec : cutD (ns.map fun n => D.v (.int n)) none (some (63 : Int)) = (ns.take 63).map fun n => D.v (.int n) := by
    have e := cut_take (ds := ns.map fun n => D.v (.int n)) (n := 63)
    rw [← List.map_take] at e
    exact e
  rw [ec]
  refine ⟨_, ns.take 63, fun n => .v (.int n), fun n => some (.v (.int (if n < 0 then -n else n))), .d, by rw [List.length_take]; omega, fun x hx H1 Rx hs => ?_, ?_⟩
  · repeat walk_at "rc step"
    refine ra_int ?_
    repeat walk_at "rc step"
    refine ra_abs ?_
    repeat walk_at "rc step"
  rw [fm_some]
  have em : ((ns.take 63).map fun n => D.v (.int (if n < 0 then -n else n))) = ((ns.take 63).map fun n : Int => if n < 0 then -n else n).map fun n => D.v (.int n) := by
    rw [List.map_map]
    rfl
  rw [em]
  have hz : ((ns.take 63).map fun n : Int => if n < 0 then -n else n).length ≤ 63 := by
    rw [List.length_map, List.length_take]
    omega
  have hp : ∀ c ∈ (ns.take 63).map fun n : Int => if n < 0 then -n else n, 0 ≤ c := fun c hc => by
    obtain ⟨n, _, rfl⟩ := List.mem_map.mp hc
    show 0 ≤ if n < 0 then -n else n
    split <;> omega
  generalize ((ns.take 63).map fun n : Int => if n < 0 then -n else n) = cs at *
  refine sx_ret (em_lstC ?_)
  repeat walk_at "rc step"
  intro ha
  rw [List.length_map]
  refine hF ha _ ⟨⟨cs, 0, 0, 1 + cs.length, 0⟩, ⟨hz, Int.le_refl _, Int.le_refl _, ?_, by simp, hp, by decide⟩, List.Perm.refl _⟩
  show 0 ≤ (1 + cs.length : Int) ∧ (1 + cs.length : Int) < 2147483648
  omega

end
end Rc
-- G34
set_option Elab.async false
set_option linter.all false
set_option maxRecDepth 100000
set_option maxHeartbeats 4000000
namespace Rc
open PySem PySem.Spec PyProof.Rows L2 RcHead
local macro_rules | `(tactic| walk_at "rc mem") => `(tactic| first | assumption | exact List.mem_cons_self | ((with_reducible (refine List.mem_cons_of_mem _ ?_)); walk_at "rc mem"))
local macro_rules | `(tactic| walk_at "rc end") => `(tactic| fail)
local macro_rules | `(tactic| walk_at "rc lst") => `(tactic| with_reducible refine em_lst ?_)
local macro_rules | `(tactic| walk_at "rc call") => `(tactic| fail)
local macro_rules | `(tactic| walk_at "rc step") => `(tactic| first
  | ((with_reducible (apply em_var)); rfl)
  | with_reducible refine em_c ?_
  | with_reducible refine em_op ?_
  | with_reducible refine ro_I0 ?_
  | ((with_reducible (refine ro_eq ?_ ?_)); rfl)
  | ((with_reducible (refine ro_ne ?_ ?_)); rfl)
  | with_reducible refine ro_isN ?_
  | with_reducible refine ro_notN ?_
  | with_reducible refine ea_nil ?_
  | with_reducible refine ea_cons ?_
  | with_reducible refine em_call ?_
  | walk_at "rc call"
  | (with_reducible refine em_fld ?_)
  | (refine ⟨_, _, _, _, rfl, (by walk_at "rc mem"), (by assumption), (by assumption), (by rfl), ?_⟩)
  | with_reducible refine ra_listV ?_
  | with_reducible refine em_cb ?_
  | with_reducible refine em_tup ?_
  | walk_at "rc lst"
  | with_reducible refine em_if ?_
  | with_reducible refine em_andV ?_
  | with_reducible refine em_orV ?_
  | with_reducible refine em_notV ?_
  | with_reducible refine em_chain ?_
  | with_reducible refine et_test ?_
  | with_reducible refine et_B ?_
  | with_reducible refine et_and ?_
  | with_reducible refine et_or ?_
  | with_reducible refine et_not ?_
  | with_reducible refine et_yes ?_
  | with_reducible refine sx_seq ?_
  | with_reducible refine sx_next ?_
  | with_reducible refine sx_asg ?_
  | with_reducible refine sx_ret ?_
  | with_reducible refine sx_append ?_
  | with_reducible refine sx_drop ?_
  | with_reducible refine sx_if ?_
  | (refine ⟨_, rfl, ?_⟩)
  | (refine ⟨fun _ => ?_, fun z => Bool.noConfusion z⟩)
  | (refine ⟨fun z => Bool.noConfusion z, fun _ => ?_⟩)
  | with_reducible refine em_make ?_
  | with_reducible refine em_meth ?_
  | (refine ⟨_, _, rfl, (by walk_at "rc mem"), rfl, ?_⟩)
  | with_reducible refine em_neg ?_
  | with_reducible refine sx_fld ?_
  | (refine ⟨_, _, _, 0, rfl, rfl, (by assumption), (by assumption), (of_decide_eq_true rfl), ?_⟩)
  | ((with_reducible (apply ra_len)); (first | exact .l .d | exact .t | exact .l (.c (by walk_at "rc mem"))))
  | ((with_reducible (apply ra_lenK)); (walk_at "rc mem"))
  | ((with_reducible (apply ro_ixL)); (first | exact .d | exact .c (by walk_at "rc mem")); (first | rfl | exact atI_0))
  | ((with_reducible (apply ro_ixT)); rfl)
  | (with_reducible (refine gx_name ?_ (by decide)))
  | ((with_reducible (apply gx_tupR)); rfl)
  | with_reducible refine gxs_cons ?_
  | with_reducible refine gxs_nil ?_
  | (exact ⟨rfl, rfl⟩)
  | (refine ⟨rfl, ?_⟩)
  | with_reducible refine em_dget ?_
  | with_reducible refine sx_lockAsg ?_
  | with_reducible refine em_din ?_
  | with_reducible refine em_dnotIn ?_
  | ((with_reducible (apply sx_aug)); rfl)
  | with_reducible refine sx_setL ?_
  | with_reducible refine sx_dput ?_
  | with_reducible refine gx_fld ?_
  | (with_reducible (apply sx_fldAug))
  | ((with_reducible (apply sx_rz)); assumption)
  | (refine ⟨(by simp only [List.length_cons, List.length_nil]; omega), ?_⟩))
local macro_rules | `(tactic| walk_at "rc perm") => `(tactic| (refine Mu.of ?_; simp only [Mu.app, Mu.cons, Mu.nil, Mu.nil_add, Mu.add_nil, List.append_eq]; ac_rfl))
section
variable [Tbl] {P : Program} {w : World} {K : PySem.W.Frag} {mg : Str → Option Value} {base : Heap}
local macro_rules | `(tactic| walk_at "rc call") => `(tactic| fail)
section
variable [Tbl] {K : PySem.W.Frag} {e bk ha : Addr} {s s1 s2 : Ps} {t m : Nat} {R : Rg}
def JH (K : PySem.W.Frag) (e bk ha : Addr) (s1 : Ps) (t : Nat) (s2 : Ps) (m : Nat) (R : Rg) : Prop := ∃ Y, JAt K e bk s1 t s2 R Y ∧ HdAt ha m Y []
theorem hd_no {Y : Rg} (h : HdAt ha m Y []) : NoRow Y := fun c hc C r ec => by
  obtain ⟨h, _, p⟩ := h
  have := p.mem_iff.mp hc
  rw [List.mem_singleton.mp this] at ec
  cases ec
theorem JH.hd (h : JH K e bk ha s1 t s2 m R) : ∃ Z, HdAt ha m R Z ∧ ∀ m' R', HdAt ha m' R' Z → JH K e bk ha s1 t s2 m' R' := by
  obtain ⟨Y, ⟨E, ms, dd, rs, jk, B, dl, jk2, p, z⟩, h, hok, hp⟩ := h
  refine ⟨EnL K e s1 E ms dd rs jk ++ BkL bk s2 B dl jk2, ⟨h, hok, p.trans ?_⟩, fun m' R' ⟨h', hok', p'⟩ => ⟨[(ha, .l (hdD h'))], ⟨E, ms, dd, rs, jk, B, dl, jk2, p'.trans ?_, z⟩, h', hok', List.Perm.refl _⟩⟩
  · refine (List.Perm.append_left _ (List.Perm.append_left _ hp)).trans ?_
    generalize EnL K e s1 E ms dd rs jk = a
    generalize BkL bk s2 B dl jk2 = b
    walk_at "rc perm"
  · generalize EnL K e s1 E ms dd rs jk = a
    generalize BkL bk s2 B dl jk2 = b
    walk_at "rc perm"
theorem sc_way (s : Ps) (A : Act) : ∃ T, Sc (wayV s A) T := by
  cases A with
  | op => exact ⟨_, .int _⟩
  | _ => exact ⟨_, .non⟩
theorem frs_it : ∀ l : List Pd, frs (l.map itP) = (trs l).map sw
  | [] => rfl
  | ⟨no, none⟩ :: l => frs_it l
  | ⟨no, some w⟩ :: l => congrArg (List.cons _) (frs_it l)
theorem items_perm (s : Ps) : (itemsP s).Perm (s.dl.map itP) := by
  refine List.Perm.trans (List.Perm.append_right _ ?_) (its_part (s.dl.map itP))
  rw [frs_it, List.map_map]
  exact (srt_perm (trs s.dl)).map (fun t => (t.2.2, some t.1, t.2.1))
theorem items_nd (ok : PsOk s t) : ((itemsP s).map (·.1)).Nodup := by
  refine ((items_perm s).map (·.1)).symm.nodup ?_
  rw [List.map_map]
  show (s.dl.map (·.no)).Pairwise (· ≠ ·)
  rw [List.pairwise_map]
  exact ok.srt.imp fun {a b} z => by omega
theorem way_ok (ok : PsOk s t) (ht : t + 1 ≤ 60000) {d : Pd} (hd : d ∈ s.dl) {A : Act} (hA : A = .en d ∨ A = .ct d) : PsOk (wayS s A) (t + 1) ∧ (wayS s A).dl = delW s.dl d.no := by
  rcases hA with rfl | rfl
  · cases cw : d.w with
    | none =>
      rw [(way_en0 cw).2]
      exact ⟨up_ok (drop_ok ok _) ht, rfl⟩
    | some w =>
      rw [(way_en1 (by rw [cw]; exact fun z => by cases z)).2]
      exact ⟨end_ok ok ht _, rfl⟩
  · cases cw : d.w with
    | none =>
      rw [way_ct0 cw]
      exact ⟨up_ok (drop_ok ok _) ht, rfl⟩
    | some w =>
      rw [way_ct1 cw]
      exact ⟨undo_ok ok ht hd cw, rfl⟩
end
def sp_law [Tbl] (K : PySem.W.Frag) : Sp := fun vs H Q _ => ∃ (a : Addr) (ns : List Int), vs = [.ref a] ∧ SqL K H a (ns.map V.int) ∧ LamX.Tabs Tbl.TT H ∧ ∀ H', Q (.bl true) H'
theorem sc_law : FnScope ["_law_script", "_law_hand_here", "_law_count", "_law_cells", "_law_engine", "_law_book_here", "_law_action", "_law_deed", "_law_item"] ["_law_script"] (defScope (top 83)) := ⟨rfl, rfl, rfl, by decide +kernel, rfl, by decide +kernel, by decide +kernel⟩
theorem b_law (W : Wd w K mg base) : Binds K (fdO K (He.fAd K ("law", none))) ["_law_script"] [] := (W.F 41).bindsN fun _ _ _ _ _ _ us hl => match us, hl with | [_], _ => rfl
theorem ok_law (W : Wd w K mg base) : FnOk P w K mg base CX0 14 (He.fAd K ("law", none)) (fdO K (He.fAd K ("law", none))) ["_law_script"] (sp_law K) := by
  refine (W.F 41).ok sc_law ?_ (fun cdv A outer s H vs Q E hr h => ?_)
  · rintro vs H Q E ⟨a, ns, rfl, _⟩
    rfl
  have hu64 := hr.units
  have hu := Nat.lt_of_le_of_lt (Nat.add_le_add_left (show 1 ≤ 64 by decide) _) hu64
  refine ⟨_, PSs.nox (pss_cons (ps_set (i := 1) sc_law.nd rfl (.inl rfl) (pe_call (ok_l_handQ (K := K) W) (hr.mono (by decide)) rfl (W.glo 12) (kp_l_hand W) (b_l_hand W) .nil pass0 (pa_cons (pv 0) pa_nil)))
    (pss_cons (ps_par (i := 2) (j := 3) rfl sc_law.nd rfl rfl (by decide) rfl rfl (pa_cons (pe_op op_add pe_int (pe_call (ok_l_draw (K := K) W) (hr.mono (by decide)) rfl (W.glo 13) (kp_l_draw W) (b_l_draw W) .nil pass0 (pa_cons (pv 1) (pa_cons pe_int pa_nil)))) (pa_cons (pe_op op_add pe_int (pe_call (ok_l_draw (K := K) W) (hr.mono (by decide)) rfl (W.glo 13) (kp_l_draw W) (b_l_draw W) .nil pass0 (pa_cons (pv 1) (pa_cons pe_int pa_nil)))) pa_nil)) rfl)
    (pss_cons (ps_par (i := 4) (j := 5) rfl sc_law.nd rfl rfl (by decide) rfl rfl (pa_cons (pe_make (W.mkr 102) (ok_Engine_init (K := K) W) (hr.mono (by decide)) rfl (W.glo 45) (b_Engine_init W) .nil pass0 (pa_cons (pv 2) (pa_cons (pv 3) pa_nil))) (pa_cons (pe_call (ok_l_book (K := K) W) (hr.mono (by decide)) rfl (W.glo 16) (kp_l_book W) (b_l_book W) .nil pass0 (pa_cons (pv 2) (pa_cons (pv 3) pa_nil))) pa_nil)) rfl)
    (pss_cons (ps_for PassesOwn.never rfl (ilistK (K := K) rfl (pe_call (ok_l_begun (K := K) W) (hr.mono (by decide)) rfl (W.glo 39) (kp_l_begun W) (b_l_begun W) .nil pass0 (pa_cons (pv 1) (pa_cons (pv 2) (pa_cons (pv 3) pa_nil))))) (pg_name (i := 6) sc_law.nd rfl (.inl rfl))
    (pss_one (ps_if (pt_not (pt_val (pe_call (ok_l_same (K := K) W 4) (hr.mono (by decide)) rfl (W.glo 15) (kp_l_same W) (b_l_same W) .nil pass0 (pa_cons (pe_call (ok_l_told (K := K) W) (hr.mono (by decide)) rfl (W.glo 37) (kp_l_told W) (b_l_told W) .nil pass0 (pa_cons (pv 4) (pa_cons (pv 6) pa_nil))) (pa_cons (pe_call (ok_l_do (K := K) W) (hr.mono (by decide)) rfl (W.glo 35) (kp_l_do W) (b_l_do W) .nil pass0 (pa_cons (pv 5) (pa_cons (pv 6) pa_nil))) pa_nil)))))
    (pss_one (ps_ret pe_bl))
    pss_nil)))
    (pss_cons (ps_if (pt_not (pt_val (pe_call (ok_l_rounds_right (K := K) W) (hr.mono (by decide)) rfl (W.glo 40) (kp_l_rounds_right W) (b_l_rounds_right W) .nil pass0 (pa_cons (pv 1) (pa_cons (pv 4) (pa_cons (pv 5) (pa_cons (pe_ix (ixlK (K := K) rfl) (pe_lst (pa_cons pe_int (pa_cons pe_int (pa_cons pe_int pa_nil)))) (pe_call (ok_l_draw (K := K) W) (hr.mono (by decide)) rfl (W.glo 13) (kp_l_draw W) (b_l_draw W) .nil pass0 (pa_cons (pv 1) (pa_cons pe_int pa_nil))) (fun _ _ => rfl)) pa_nil)))))))
    (pss_one (ps_ret pe_bl))
    pss_nil)
    (pss_cons (ps_for PassesOwn.never rfl (ilistK (K := K) rfl (pe_lc (own := [("_law_item", 8)]) (g := (gName 8)) rfl sc_law.nd (ilistK (K := K) rfl (pe_call (ok_l_items (K := K) W) (hr.mono (by decide)) rfl (W.glo 19) (kp_l_items W) (b_l_items W) .nil pass0 (pa_cons (pv 5) pa_nil))) (blkOk_by (show blkC ["_law_script", "_law_hand_here", "_law_count", "_law_cells", "_law_engine", "_law_book_here", "_law_action", "_law_deed", "_law_item"] (defScope (top 83)) _ [("_law_item", 8)] = true by decide +kernel)) (fun _ _ _ _ _ => (pg_name (i := 8) sc_law.nd rfl (.inl rfl))) (fun _ _ _ _ _ => pts_nil) (fun _ _ _ _ _ => (pe_ix (ixtK (K := K) rfl) (pv 8) pe_int (fun _ _ => rfl))))) (pg_name (i := 7) sc_law.nd rfl (.inl rfl))
    (pss_cons (ps_set (i := 6) sc_law.nd rfl (.inl rfl) (pe_tup (pa_cons (pe_call (ok_l_pick (K := K) W) (hr.mono (by decide)) rfl (W.glo 14) (kp_l_pick W) (b_l_pick W) .nil pass0 (pa_cons (pv 1) (pa_cons (pe_lst (pa_cons pe_str (pa_cons pe_str pa_nil))) pa_nil))) (pa_cons (pv 7) pa_nil))))
    (pss_one (ps_if (pt_not (pt_val (pe_call (ok_l_same (K := K) W 4) (hr.mono (by decide)) rfl (W.glo 15) (kp_l_same W) (b_l_same W) .nil pass0 (pa_cons (pe_call (ok_l_told (K := K) W) (hr.mono (by decide)) rfl (W.glo 37) (kp_l_told W) (b_l_told W) .nil pass0 (pa_cons (pv 4) (pa_cons (pv 6) pa_nil))) (pa_cons (pe_call (ok_l_do (K := K) W) (hr.mono (by decide)) rfl (W.glo 35) (kp_l_do W) (b_l_do W) .nil pass0 (pa_cons (pv 5) (pa_cons (pv 6) pa_nil))) pa_nil)))))
    (pss_one (ps_ret pe_bl))
    pss_nil))))
    (pss_one (ps_ret (pe_call (ok_l_shows (K := K) W) (hr.mono (by decide)) rfl (W.glo 38) (kp_l_shows W) (b_l_shows W) .nil pass0 (pa_cons (pv 5) (pa_cons (pv 4) pa_nil))))))))))), ?_⟩
  obtain ⟨a, ns, rfl, hq, hT, q⟩ := h
  have main : ∀ t : TS, SX H [] t (envOf ["_law_script", "_law_hand_here", "_law_count", "_law_cells", "_law_engine", "_law_book_here", "_law_action", "_law_deed", "_law_item"] [.v (.ref a)]) [] { nx := fun _ _ => False, rt := fun d _ => d = .v (.bl true) } → t { nx := fun _ H' => Q .non H', rt := Q } (L2.start ["_law_script", "_law_hand_here", "_law_count", "_law_cells", "_law_engine", "_law_book_here", "_law_action", "_law_deed", "_law_item"] [.ref a]) H := fun t ht =>
    ht _ H _ Tn.refl (envR_start (RpL.cons rpv RpL.nil)) ⟨.nil, (fun p hp => by cases hp), hT⟩ ⟨fun _ _ _ _ z => z.elim, fun d R' v H' z t1 h1 r1 => by
      have z' : d = .v (.bl true) := z
      subst z'
      rw [rp_v.mp r1]
      exact q H', fun _ _ _ _ z => z.elim, fun _ _ _ _ z => z.elim⟩
  refine main _ ?_
  clear main hu hu64 hr q
  repeat walk_at "rc step"
  refine c_l_handQ hq (fun p hp => by cases hp) (fun p hp => by cases hp) fun ha R1 hd0 => ?_
  repeat walk_at "rc step"
  refine sx_par ?_
  repeat walk_at "rc step"
  refine c_l_draw hd0 (by decide) ⟨by decide, by decide⟩ fun r1 R2 hr1 hd1 => ?_
  repeat walk_at "rc step"
  refine c_l_draw hd1 (by decide) ⟨by decide, by decide⟩ fun r2 R3 hr2 hd2 => ?_
  repeat walk_at "rc step"
  refine ⟨_, _, rfl, ?_⟩
  obtain ⟨p1, rfl⟩ := Int.eq_ofNat_of_zero_le hr1.1
  have en : (2 + (p1 : Int)) = ((2 + p1 : Nat) : Int) := by omega
  rw [en]
  have hn : 2 + p1 ≤ 5 := by omega
  have hn1 : 1 ≤ 2 + p1 := by omega
  generalize 2 + p1 = n at *
  have hc : 1 ≤ 10 + r2 ∧ 10 + r2 ≤ 1000000 := by omega
  generalize 10 + r2 = c at *
  repeat walk_at "rc step"
  refine sx_par ?_
  repeat walk_at "rc step"
  intro e
  refine rs_m (G := gm_Engine_init K) ⟨e, R3, n, c, rfl, rfl, ⟨hn1, by omega, hc.1, hc.2⟩, fun hA pA dA rA mA => ⟨rfl, ?_⟩⟩
  repeat walk_at "rc step"
  refine c_l_book (by omega) fun bk hA2 dA2 pA2 ddA => ?_
  repeat walk_at "rc step"
  refine ⟨_, _, rfl, ?_⟩
  have hJ0 : JH K e bk ha (initS n c) 0 (initS n c) 2 (bcore bk ⟨c, 0, 0, hA2, dA2, pA2, ddA⟩ n (fun _ => 0) (fun _ => 0) (fun _ => none) ((ddA, .k (vK (ddK []))) :: core K e ⟨c, 0, 0, hA, pA, dA, rA, mA⟩ n (fun _ => 0) (fun _ => 0) [] [] ((mA, .k (vK (memK []))) :: R3))) :=
    ⟨R3, ⟨⟨c, 0, 0, hA, pA, dA, rA, mA⟩, [], [], [], [], ⟨c, 0, 0, hA2, dA2, pA2, ddA⟩, [], [], (by
      unfold BkL bcore EnL core initS
      simp only [List.flatMap_nil, List.nil_append, List.cons_append]
      walk_at "rc perm"), ⟨⟨rfl, rfl, rfl, rfl, (fun d hd => by cases hd), ⟨.nil, (fun p v => ⟨(fun z => by cases z), fun ⟨i, _, _, z⟩ => by cases z⟩), fun _ _ => rfl⟩⟩, (fun a ha => by cases ha), Nat.le_refl _⟩, ⟨rfl, rfl, rfl, rfl, (fun d hd => by cases hd)⟩, no_nil⟩, hd2⟩
  generalize (bcore bk ⟨c, 0, 0, hA2, dA2, pA2, ddA⟩ n (fun _ => 0) (fun _ => 0) (fun _ => none) ((ddA, .k (vK (ddK []))) :: core K e ⟨c, 0, 0, hA, pA, dA, rA, mA⟩ n (fun _ => 0) (fun _ => 0) [] [] ((mA, .k (vK (memK []))) :: R3))) = R4 at *
  refine sx_seq (sx_for [6] (ei_listI ?_))
  repeat walk_at "rc step"
  obtain ⟨Z, hd3, back3⟩ := hJ0.hd
  refine c_l_begun hd3 (by decide) ⟨hn1, by omega⟩ hc fun acts s9 m9 R5 hrun ok9 hlen9 hd4 hm9 => ?_
  have hJ1 := back3 _ _ hd4
  refine ⟨_, .d, fun i g' R' => i ≤ acts.length ∧ ∃ (s : Ps) (o6 : Option D), g' = [some (.v (.ref a)), some (.v (.ref ha)), some (.v (.int (n : Nat))), some (.v (.int c)), some (.v (.ref e)), some (.v (.ref bk)), o6, none, none] ∧ JH K e bk ha s i s m9 R' ∧ Run s i (acts.drop i) s9, acts.length, ⟨Nat.zero_le _, initS n c, none, rfl, hJ1, hrun⟩, ?_⟩
  rintro i g' R' ⟨hi, s, o6, rfl, hJ, hr⟩
  by_cases hlt : i < acts.length
  · have ed : acts.drop i = acts[i] :: acts.drop (i + 1) := List.drop_eq_getElem_cons hlt
    rw [ed] at hr
    obtain ⟨ok, hA, hk, hr2⟩ := hr
    refine .inr ⟨hlt, actD acts[i], ⟨.d, by rw [List.getElem?_map, List.getElem?_eq_getElem hlt]; rfl⟩, fun H2 => ?_⟩
    generalize acts[i] = A1 at *
    repeat walk_at "rc step"
    obtain ⟨Y, hJa, hY⟩ := hJ
    obtain ⟨X1, hE1, nX1, back1⟩ := hJa.en (hd_no hY)
    refine c_l_told hE1 nX1 ok hA (fun _ => hk) (fun _ R6 h6 => ?_) (fun h => absurd hk h)
    have hJb := back1 _ _ _ h6
    repeat walk_at "rc step"
    obtain ⟨X2, hB2, back2⟩ := hJb.boo
    refine c_l_do hB2 ok (by omega) hA (fun _ R7 h7 => ?_) (fun h => absurd hk h)
    have hJc := back2 _ _ h7
    repeat walk_at "rc step"
    obtain ⟨T1, hT1⟩ := sc_way s A1
    refine c_l_same (sam_told _ hT1) ?_
    repeat walk_at "rc step"
    exact ⟨hlt, wayS s A1, _, rfl, ⟨Y, hJc, hY⟩, hr2⟩
  · refine .inl ⟨⟨.d, by rw [List.length_map]; omega⟩, ?_⟩
    have ei : acts.length ≤ i := by omega
    rw [List.drop_of_length_le ei] at hr
    have es : s9 = s := hr
    subst es
    have ok' : PsOk s9 i := by
      have : i = acts.length := by omega
      rw [this]
      exact ok9
    repeat walk_at "rc step"
    obtain ⟨Z5, hd5, back5⟩ := hJ.hd
    refine c_l_draw hd5 (by omega) ⟨by decide, by decide⟩ fun r3 R6 hr3 hd6 => ?_
    obtain ⟨Y, hJa, hY⟩ := back5 _ _ hd6
    obtain ⟨most, hmost, emost⟩ : ∃ most : Int, (0 ≤ most ∧ most ≤ 300) ∧ atI [D.v (.int 12), D.v (.int 40), D.v (.int 300)] r3 = some (.v (.int most)) := by
      rcases (show r3 = 0 ∨ r3 = 1 ∨ r3 = 2 by omega) with rfl | rfl | rfl
      · exact ⟨12, by decide, rfl⟩
      · exact ⟨40, by decide, rfl⟩
      · exact ⟨300, by decide, rfl⟩
    refine ro_ixL .d emost ?_
    repeat walk_at "rc step"
    refine c_l_rounds_right hJa (hd_no hY) ok' (by omega) hmost fun s2 t2 R7 hJ7 ok7 ht7 => ?_
    repeat walk_at "rc step"
    have ht2 : t2 ≤ 400 := by omega
    have hm9' : m9 ≤ 100 := by omega
    refine sx_for [7] (ei_listI (em_lcI ?_))
    repeat walk_at "rc step"
    refine f_items (hJ7.bkF ok7) ok7 ?_
    have hil := items_len ok7
    refine ⟨_, itemsP s2, itD, fun t => some (.v (.int t.1)), .d, by omega, fun x hx H1 Rx hs => ?_, ?_⟩
    · repeat walk_at "rc step"
    rw [fm_some]
    have eL : ((itemsP s2).map fun t => D.v (.int t.1)) = ((itemsP s2).map (·.1)).map fun n => D.v (.int n) := by rw [List.map_map]; rfl
    rw [eL]
    have ndL := items_nd ok7
    have inL : ∀ x ∈ (itemsP s2).map (·.1), ∃ d ∈ s2.dl, d.no = x := fun x hx => by
      obtain ⟨y, hy, rfl⟩ := List.mem_map.mp hx
      obtain ⟨d, hd, rfl⟩ := List.mem_map.mp ((items_perm s2).mem_iff.mp hy)
      exact ⟨d, hd, rfl⟩
    have hLl : ((itemsP s2).map (·.1)).length ≤ 100 := by rw [List.length_map]; exact hil
    clear eL
    generalize (itemsP s2).map (·.1) = L at *
    clear hrun hd4 hJ1 back3 hd3 hJ0 hd2 hd1 hd0 hJ hd5 back5 hd6 hJa
    refine ⟨_, .d, fun i g' R' => i ≤ L.length ∧ ∃ (s : Ps) (t m : Nat) (o6 o7 : Option D), g' = [some (.v (.ref a)), some (.v (.ref ha)), some (.v (.int (n : Nat))), some (.v (.int c)), some (.v (.ref e)), some (.v (.ref bk)), o6, o7, none] ∧ JH K e bk ha s t s m R' ∧ PsOk s t ∧ t ≤ t2 + i ∧ m ≤ m9 + 1 + i ∧ ∀ x ∈ L.drop i, ∃ d ∈ s.dl, d.no = x, L.length, ⟨Nat.zero_le _, s2, t2, m9 + 1, o6, none, rfl, ⟨Y, hJ7, hY⟩, ok7, Nat.le_refl _, Nat.le_refl _, inL⟩, ?_⟩
    rintro i g' R' ⟨hi, s, t, m, o6, o7, rfl, hJ, ok, ht, hm, hin⟩
    by_cases hlt : i < L.length
    · have ed : L.drop i = L[i] :: L.drop (i + 1) := List.drop_eq_getElem_cons hlt
      have nd2 : (L[i] :: L.drop (i + 1)).Nodup := by rw [← ed]; exact ndL.sublist (List.drop_sublist _ _)
      rw [ed] at hin
      obtain ⟨d, hd, edn⟩ := hin L[i] List.mem_cons_self
      have hrest : ∀ x ∈ L.drop (i + 1), (∃ d' ∈ s.dl, d'.no = x) ∧ ∃ d' ∈ delW s.dl d.no, d'.no = x := fun x hx => by
        obtain ⟨d', h1, h2⟩ := hin x (List.mem_cons_of_mem _ hx)
        refine ⟨⟨d', h1, h2⟩, d', List.mem_filter.mpr ⟨h1, ?_⟩, h2⟩
        have := (List.nodup_cons.mp nd2).1
        simp
        intro z
        exact this (by rw [← edn, ← z, h2]; exact hx)
      refine .inr ⟨hlt, .v (.int L[i]), ⟨.d, by rw [List.getElem?_map, List.getElem?_eq_getElem hlt]; rfl⟩, fun H2 => ?_⟩
      repeat walk_at "rc step"
      obtain ⟨Z6, hd6, back6⟩ := hJ.hd
      refine c_l_pick hd6 (by omega) (by simp) fun dd hdd R8 h8 => ?_
      obtain ⟨Y8, hJ8, hY8⟩ := back6 _ _ h8
      repeat walk_at "rc step"
      obtain ⟨A1, eA, hA1⟩ : ∃ A, D.t [dd, .v (.int L[i])] = actD A ∧ (A = .en d ∨ A = .ct d) := by
        simp at hdd
        rcases hdd with rfl | rfl
        · exact ⟨.en d, by rw [← edn]; rfl, .inl rfl⟩
        · exact ⟨.ct d, by rw [← edn]; rfl, .inr rfl⟩
      rw [eA]
      have hA : ActOk s A1 := by rcases hA1 with rfl | rfl <;> exact hd
      have hnw : isWr A1 = false := by rcases hA1 with rfl | rfl <;> rfl
      have ht60 : t + 1 ≤ 60000 := by omega
      obtain ⟨okn, edl⟩ := way_ok ok ht60 hd hA1
      obtain ⟨X1, hE1, nX1, back1⟩ := hJ8.en (hd_no hY8)
      refine c_l_told hE1 nX1 ok hA (fun z => by rw [hnw] at z; cases z) (fun h0 R6 h6 => ?_) (fun h0 R6 h6 => ?_)
      · have hJb := back1 _ _ _ h6
        repeat walk_at "rc step"
        obtain ⟨X2, hB2, back2⟩ := hJb.boo
        refine c_l_do hB2 ok ht60 hA (fun _ R9 h9 => ?_) (fun h => absurd h0 h)
        have hJc := back2 _ _ h9
        repeat walk_at "rc step"
        obtain ⟨T1, hT1⟩ := sc_way s A1
        refine c_l_same (sam_told _ hT1) ?_
        repeat walk_at "rc step"
        exact ⟨hlt, wayS s A1, t + 1, m + 1, _, _, rfl, ⟨Y8, hJc, hY8⟩, okn, by omega, by omega, fun x hx => by rw [edl]; exact (hrest x hx).2⟩
      · have hJb := back1 _ _ _ h6
        repeat walk_at "rc step"
        obtain ⟨X2, hB2, back2⟩ := hJb.boo
        refine c_l_do hB2 ok ht60 hA (fun h => absurd h h0) (fun _ l hl => ?_)
        rw [hl hnw]
        repeat walk_at "rc step"
        refine c_l_same (sam_lots ok A1) ?_
        repeat walk_at "rc step"
        exact ⟨hlt, s, t, m + 1, _, _, rfl, ⟨Y8, hJb, hY8⟩, ok, by omega, by omega, fun x hx => (hrest x hx).1⟩
    · refine .inl ⟨⟨.d, by rw [List.length_map]; omega⟩, ?_⟩
      repeat walk_at "rc step"
      obtain ⟨Y8, hJ8, hY8⟩ := hJ
      exact c_l_shows hJ8 ok rfl

end
end Rc
-- Z
set_option Elab.async false
set_option linter.all false
set_option maxRecDepth 100000
set_option maxHeartbeats 8000000
namespace Rc
open PySem PySem.Spec PyProof.Rows L2 RcHead
theorem F_of {w : World} {K : PySem.W.Frag} (t : He.SaysT fas fns [] w K) (i : Nat) {d : He.DefD} (e : fns[i]? = some d := by rfl) : FunD K d.name d.qual d.params d.body d.scope (d.dvs K) (d.kws K) (He.fAd K d.at_) (fdO K (He.fAd K d.at_)) := by
  obtain ⟨fd, F⟩ := t.d.def_ i e
  obtain ⟨oc, od, dV, kV, doc, pm, an, cdv, ct, osl, e1, e2, e3⟩ := F.ex
  have z : fdO K (He.fAd K d.at_) = fd := by
    unfold fdO
    rw [e2]
  rw [z]
  exact F
def tbOf (K : PySem.W.Frag) : Tbl := ⟨[((He.cT K ("Engine", some "by_age")).2, (Str.ofString "Engine.by_age.<locals>." ++ Str.ofString "<lambda>")), ((He.cT K ("_law_full", none)).2, (Str.ofString "_law_full.<locals>." ++ Str.ofString "<lambda>"))]⟩
theorem law_at {l : PySem.W.OpenLaw} {w : World} {K : PySem.W.Frag} {mg : Str → Option Value} {fa : Addr} {h : Heap} (KX : K.In h) (G : h.Ns mainGlobals mg) (hmg : mg ("law" : Str) = some (.ref fa)) (c : He.SaysX fas fns [] tfs exB w h K) :
    LamX.LawAtS l w K CX0 14 63 "_law_script" mg fa h := by
  have e := hmg.symm.trans (He.glo_ok KX G (c.t.d.fact 41 (f := .glo "law") rfl))
  have ef : fa = He.ga K "law" := by
    have e2 := Option.some.inj e
    injection e2
  subst ef
  letI : Tbl := tbOf K
  refine ⟨fdO K (He.fAd K ("law", none)), tfs.map fun p => He.cT K p, sp_law K, fun p hp => ?_, fun p hp => ?_, fun p hp => ?_, ?_, fun H a ns hl _ hT hS => ?_, fun base KB GB TB => ?_⟩
  · obtain ⟨q, hq, rfl⟩ := List.mem_map.mp hp
    exact c.empty q hq
  · obtain ⟨q, hq, rfl⟩ := List.mem_map.mp hp
    exact c.out q hq
  · obtain ⟨q, hq, rfl⟩ := List.mem_map.mp hp
    exact PySem.W.codeHd_of_K KX (c.hd q hq)
  · have b := FunD.bindsA (ps := ["_law_script"]) (F_of c.t 41) fun _ _ _ _ _ _ us hl => match us, hl with | [_], _ => rfl
    exact fun s v => b s [v] rfl
  · refine ⟨a, ns, rfl, hS, fun p hp => ?_, fun _ => rfl⟩
    have tab : ∀ q ∈ tfs, ∀ nm, LamX.TabS H (He.cT K q).2 nm := fun q hq nm => ⟨#[], hT _ (List.mem_map.mpr ⟨q, hq, rfl⟩), trivial, fun pos cv z => by cases z⟩
    have hp' : p ∈ [((He.cT K ("Engine", some "by_age")).2, (Str.ofString "Engine.by_age.<locals>." ++ Str.ofString "<lambda>")), ((He.cT K ("_law_full", none)).2, (Str.ofString "_law_full.<locals>." ++ Str.ofString "<lambda>"))] := hp
    rcases List.mem_cons.mp hp' with rfl | z
    · exact tab _ List.mem_cons_self _
    · rw [List.mem_singleton.mp z]
      exact tab _ (List.mem_cons_of_mem _ List.mem_cons_self) _
  · exact ok_law (P := l.prog) ⟨KB, GB, c.t, c.more, fun p hp => TB _ (List.mem_map.mpr ⟨p, hp, rfl⟩), rfl⟩
end Rc
theorem PySem.Challenge.cw_ringclaims_k39_whole_lives_by_carrying_holds : PySem.Challenge.rw_ringclaims_k39_whole_lives_by_carrying.Holds := by
  exact Rc.holds_of fun w mg fa h K KX c G hmg => Rc.law_at KX G hmg c
