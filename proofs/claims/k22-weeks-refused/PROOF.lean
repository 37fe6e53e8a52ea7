import PyProof.Rows.All
import Wide.All
import OpenK.AllK
import Wide.FinOn
import HandS.ForMost
import HandS.Exc
import HandS.TryOnly
import HandS.ExcOwn
import HandS.WordsExc
import HandS.CallSlots
import HandS.Wide
import HandS.IsInst
import HandS.Lambda
import HandS.Style
import HandS.Deep
import HandS.ExcCtx
import HandS.SuiteRaise
import HandS.EndBits
import HandS.EndTab
import HandS.SortKw
import KE.SortData
import KE.DatumOrd
import HandS.Remove
import KE.KIndexOf
import HandS.ExcIs
import HandS.HotCalls
import HandS.Dict
import HandS.Defaults
import HandS.RaiseFrom
import HandS.RaiseOp
import HandS.NoneIn
import HandS.WordsDict
import HandS.More
import HandS.ListItems
import KE.KDictList
import HandS.ExcInit
import HandS.Iter
import PyProof.InstSpecial
import HandS.ExcField
import HandS.SetFor
import KE.KDictCopyH
import KE.KAsSuite
import HandS.Head0
import HandS.Head1
import HandS.Head2
import HandS.HeadHook1
import HandS.HeadHook2
import PySem.Challenge.RW_airhours_k22_weeks_refused
set_option Elab.async false
set_option linter.all false
set_option maxRecDepth 100000
set_option maxHeartbeats 4000000
namespace DH
open PySem PySem.Spec PyProof.Rows L2
abbrev Frag := PySem.W.Frag
def apart (g : Addr → Option Obj) (as : List Addr) : List Addr := as.filter fun a => match g a with
  | some ⟨.none, _, _, _⟩ => false
  | _ => true
def grA {β : Type} (bs : List Addr) (m : Nat) (acc : List Addr) (K : Nat → List Addr → β) : β := match bs with
  | [] => K m acc
  | b :: bs => match Nat.beq (Nat.land (Nat.shiftRight m b) 1) 0 with
    | true => HandSHeadRun.frNat (Nat.lor m (Nat.shiftLeft 1 b)) fun m => grA bs m (b :: acc) K
    | false => grA bs m acc K
def grL {β : Type} (g : Addr → Option Obj) (as : List Addr) (m : Nat) (acc : List Addr) (K : Nat → List Addr → β) : β := match as with
  | [] => K m acc
  | a :: as => match g a with
    | some o => grA (He.refsD o) m acc fun m acc => grL g as m acc K
    | none => grL g as m acc K
def lvs (g : Addr → Option Obj) : Nat → List Addr → Nat → List Addr → List Addr
  | 0, as, _, all => all ++ as
  | n + 1, as, m, all => grL g as m [] fun m' as' => lvs g n as' m' (all ++ as)
def asM (g : Addr → Option Obj) (n : Nat) : List Addr := lvs g n [mainGlobals] (Nat.shiftLeft 1 mainGlobals) []
def obsQ (fa : List (Frag → Bool)) (fn : List He.DefD) (K : Frag) : He.AlD := ((fa.all fun f => f K) && fn.all fun d => d.ok K, fn.map fun d => He.fnW K d.at_)
def obsQG (n : Nat) (fa : List (Frag → Bool)) (fn : List He.DefD) (g : Addr → Option Obj) : He.AlD := obsQ fa fn (He.frG g (apart g (asM g n) ++ [PySem.cStatics]))
def SaysQ (fa : List (Frag → Bool)) (fn : List He.DefD) (K : Frag) : Prop := obsQ fa fn K = He.valD fn
def hookQ (n : Nat) (fa : List (Frag → Bool)) (fn : List He.DefD) : PySem.W.Hook where
  α := He.AlD
  obs := fun s => obsQG n fa fn s.heap.get?
  val := fun _ => He.valD fn
  says := fun _ h => ∃ K : Frag, K.In h ∧ SaysQ fa fn K
  of := fun _ _ e => ⟨_, He.frG_in, e⟩
  keeps := fun _ _ _ ⟨K, hK, c⟩ k => ⟨K, PySem.W.Frag.In.keeps hK k, c⟩
theorem obsQG_eq {n : Nat} {fa : List (Frag → Bool)} {fn : List He.DefD} {g : Addr → Option Obj} {s : Shared} (h : ∀ a, g a = s.heap.get? a) : obsQG n fa fn g = (hookQ n fa fn).obs s := by
  have e : g = s.heap.get? := funext h
  rw [e]; rfl
abbrev ga := He.ga
def bFree (x : Str) (K : Frag) : Bool := He.eqO (PySem.W.nsIn K mainGlobals x) (some none)
def bGlo (x : Str) (K : Frag) : Bool := He.eqO (PySem.W.nsIn K mainGlobals x) (some (some (.ref (ga K x))))
def bInt (x : Str) (i : Int) (K : Frag) : Bool := (He.Fa.int x i).ok K
def bStr (x z : Str) (K : Frag) : Bool := (He.Fa.str x z).ok K
def bTup (x : Str) (vs : List He.Dv) (K : Frag) : Bool := bGlo x K && He.tupB K x vs
def cA (K : Frag) (x : Str) : Addr := match PySem.W.tabIn K x with
  | some p => p.1
  | none => 0
def pA (K : Frag) (x : Str) : Addr := match PySem.W.tabIn K x with
  | some p => p.2
  | none => 0
def bMk (x : Str) (K : Frag) : Bool := match PySem.W.tabIn K x with
  | some p => (K.lookup p.2).isNone && (match K.lookup (ga K x) with
    | some ⟨_, _, .func fd, _⟩ => decide (fd.code = .ref p.1)
    | _ => false)
  | none => false
def bErr (x : Str) (K : Frag) : Bool := bGlo x K && ((match PySem.W.clsIn K (ga K x) with
  | some cd => decide (cd.mro = [.ref (ga K x), .ref (ga K "AirError"), .type "ValueError", .type "Exception", .type "BaseException", .type "object"]) && cd.hasDict
  | none => false) && (decide (PySem.W.typeIn K (.ref (ga K x)) = some (.type "type")) && (PySem.W.keepIn K (.ref (ga K x)) && (He.eqO (PySem.W.findIn K (.ref (ga K x)) "__getattribute__") (some (some (.builtin "BaseException.__getattribute__"))) &&
  (He.eqO (PySem.W.findIn K (.ref (ga K x)) "__getattr__") (some none) && He.eqO (PySem.W.findIn K (.ref (ga K x)) "__class__") (some (some (.builtin "object.__class__"))))))))
def bAir (K : Frag) : Bool := bGlo "AirError" K && ((match PySem.W.clsIn K (ga K "AirError") with
  | some cd => decide (cd.mro = [.ref (ga K "AirError"), .type "ValueError", .type "Exception", .type "BaseException", .type "object"]) && cd.hasDict
  | none => false) && (decide (PySem.W.typeIn K (.ref (ga K "AirError")) = some (.type "type")) && (He.eqO (PySem.W.specialIn K (.builtin "object.__class__") "__get__") (some (some (.builtin "getset_descriptor.__get__"))) && decide (PySem.W.takesIn K (.builtin "object.__class__") = some true))))
def bNd (xs : List String) (K : Frag) : Bool := decide ((ga K "AirError" :: xs.map fun (x : String) => ga K x).Nodup)
def bRai (x : Str) (K : Frag) : Bool := PySem.W.excIn K (ga K x) [.type "ValueError", .type "Exception", .type "BaseException", .type "object"] "ValueError.__new__"
def bOwn (x : Str) (fs : List Str) (K : Frag) : Bool := (match K.lookup (ga K x) with
  | some ⟨.type "type", _, .cls cd, sl⟩ => (match cd.mro, sl.toList with
    | .ref C' :: bm, [_, _, _, _, some (.builtin n), _] => decide (C' = ga K x) && (decide (n = "ValueError.__new__") && (!cd.hasDel && (cd.hasDict && PySem.HandSPX.refsVE bm)))
    | _, _ => false)
  | _ => false) && (He.eqO (PySem.W.findIn K (.ref (ga K x)) "__setattr__") (some (some (.builtin "object.__setattr__"))) && (decide (PySem.W.subIn K (.ref (ga K x)) (.type "BaseException") = some true) && (He.eqO (PySem.W.findIn K (.ref (ga K x)) "__init__") (some (some (.ref (He.ma K (ga K x) "__init__")))) &&
  (decide (PySem.W.typeIn K (.ref (He.ma K (ga K x) "__init__")) = some (.type "function")) && fs.all fun f => He.eqO (PySem.W.findIn K (.ref (ga K x)) f) (some none)))))
def bBase (K : Frag) : Bool := He.eqO (PySem.W.specialIn K (.ref (ga K "AirError")) "__getattribute__") (some (some (.builtin "type.__getattribute__"))) && (PySem.W.readsIn K (ga K "AirError") (.type "type") && match PySem.W.findCls K (.ref (ga K "AirError")) (.type "type") "__init__" with
  | some (.val (.builtin n)) => decide (n = "ValueError.__init__")
  | _ => false)
end DH
namespace LK
open PySem L2
def top (i : Nat) : Stmt := PySem.Challenge.pw_airhours_k22_weeks_refused.main.body.getD i (.Pass ⟨0, 0, 0, 0⟩)
def clsB : Stmt → List Stmt
  | .ClassDef (body := b) .. => b
  | _ => []
def meth (i : Nat) : Stmt := (clsB (top 49)).getD i (.Pass ⟨0, 0, 0, 0⟩)
abbrev s_init : Stmt := meth 0
abbrev s_law_class : Stmt := top 52
abbrev s_law_pick : Stmt := top 51
abbrev s_law_names : Stmt := top 54
abbrev s_is_name : Stmt := top 40
abbrev s_House_look_station : Stmt := meth 6
abbrev s_is_number : Stmt := top 28
abbrev s_look_span : Stmt := top 46
abbrev s_House_open_station : Stmt := meth 5
abbrev s_is_sort : Stmt := top 41
abbrev s_is_show : Stmt := top 42
abbrev s_House_add_show : Stmt := meth 11
abbrev s_House_now : Stmt := meth 14
abbrev s_House_tick : Stmt := meth 16
abbrev s_House_station : Stmt := meth 8
abbrev s_House_show : Stmt := meth 13
abbrev s_is_day : Stmt := top 29
abbrev s_look_day : Stmt := top 30
abbrev s_House_look_since : Stmt := meth 17
abbrev s_House_put_week : Stmt := meth 18
abbrev s_House_clear_week : Stmt := meth 19
abbrev s_laid : Stmt := top 32
abbrev s_laid_with : Stmt := top 33
abbrev s_House_rows_by_week : Stmt := meth 20
abbrev s_House_week_rows : Stmt := meth 21
abbrev s_House_own_rows : Stmt := meth 22
abbrev s_law_are_refused : Stmt := top 56
abbrev s_law_bad : Stmt := top 55
abbrev s_House_times : Stmt := meth 23
abbrev s_House_put : Stmt := meth 24
abbrev s_House_deeds : Stmt := meth 30
abbrev s_law_are_rights : Stmt := top 57
abbrev s_law_refusals : Stmt := top 58
abbrev s_law : Stmt := top 59
abbrev s_law_told : Stmt := top 53
abbrev s_o_NoRights : Stmt := (clsB (top 13)).getD 0 (.Pass ⟨0, 0, 0, 0⟩)
def facts : List (PySem.W.Frag → Bool) := [DH.bFree "ValueError",
  DH.bFree "all",
  DH.bFree "any",
  DH.bFree "bool",
  DH.bFree "divmod",
  DH.bFree "int",
  DH.bFree "isinstance",
  DH.bFree "len",
  DH.bFree "list",
  DH.bFree "max",
  DH.bFree "range",
  DH.bFree "sorted",
  DH.bFree "str",
  DH.bFree "tuple",
  DH.bInt "DAYS" 100,
  DH.bInt "HOURS" 24,
  DH.bStr "LETTERS" "abcdefghijklmnopqrstuvwxyz",
  DH.bInt "LONGEST" 8,
  DH.bInt "LONGEST_NAME" 6,
  DH.bInt "MOST_STATIONS" 6,
  DH.bInt "MOST_TIMES" 9,
  DH.bTup "RULES" [.str "join", .str "push"],
  DH.bTup "SORTS" [.str "news", .str "talk", .str "tune"],
  DH.bInt "WEEK" 5,
  DH.bAir,
  DH.bNd ["NoName", "NoDay", "NoHour", "NoMore", "NoShow", "NoSort", "NoStation", "NoRule", "Full", "Taken", "NoRights", "Settled", "TooLate", "NoRow", "NotLive", "TooLong", "NewsAhead", "Clash", "NoWish", "NoDeeds", "NoText"],
  (fun K => (["NoName", "NoDay", "NoHour", "NoMore", "NoShow", "NoSort", "NoStation", "NoRule", "Full", "Taken", "NoRights", "Settled", "TooLate", "NoRow", "NotLive", "TooLong", "NewsAhead", "Clash", "NoWish", "NoDeeds", "NoText"] : List String).all fun x => DH.bErr x K),
  DH.bRai "Full",
  DH.bRai "NoDay",
  DH.bRai "NoHour",
  DH.bRai "NoMore",
  DH.bRai "NoName",
  DH.bRai "NoRule",
  DH.bRai "NoShow",
  DH.bRai "NoStation",
  DH.bRai "Settled",
  DH.bRai "Taken",
  DH.bRai "TooLate",
  DH.bBase,
  DH.bOwn "NoRights" ["most"],
  fun K => (He.Fa.cls "House").ok K,
  fun K => (He.Fa.noat "House" "ranks").ok K,
  fun K => (He.Fa.noat "House" "seats").ok K,
  fun K => (He.Fa.noat "House" "known").ok K,
  fun K => (He.Fa.noat "House" "weeks").ok K,
  fun K => (He.Fa.noat "House" "plans").ok K,
  fun K => (He.Fa.noat "House" "cuts").ok K,
  fun K => (He.Fa.noat "House" "many").ok K,
  fun K => (He.Fa.noat "House" "done").ok K,
  DH.bGlo "House",
  fun K => (He.Fa.mkr "House").ok K,
  DH.bGlo "_law_class",
  DH.bGlo "_law_pick",
  DH.bGlo "_law_names",
  DH.bGlo "is_name",
  fun K => (He.Fa.meth "House" "look_station").ok K,
  DH.bGlo "is_number",
  DH.bGlo "look_span",
  fun K => (He.Fa.meth "House" "open_station").ok K,
  DH.bGlo "is_sort",
  DH.bGlo "is_show",
  fun K => (He.Fa.meth "House" "add_show").ok K,
  fun K => (He.Fa.meth "House" "now").ok K,
  fun K => (He.Fa.meth "House" "tick").ok K,
  fun K => (He.Fa.meth "House" "station").ok K,
  fun K => (He.Fa.meth "House" "show").ok K,
  DH.bGlo "is_day",
  DH.bGlo "look_day",
  fun K => (He.Fa.meth "House" "look_since").ok K,
  fun K => (He.Fa.meth "House" "put_week").ok K,
  fun K => (He.Fa.meth "House" "clear_week").ok K,
  DH.bGlo "laid",
  DH.bGlo "laid_with",
  fun K => (He.Fa.meth "House" "rows_by_week").ok K,
  fun K => (He.Fa.meth "House" "week_rows").ok K,
  fun K => (He.Fa.meth "House" "own_rows").ok K,
  DH.bGlo "_law_are_refused",
  DH.bMk "_law_are_refused",
  DH.bGlo "_law_bad",
  fun K => (He.Fa.meth "House" "times").ok K,
  fun K => (He.Fa.meth "House" "put").ok K,
  fun K => (He.Fa.meth "House" "deeds").ok K,
  DH.bGlo "_law_are_rights",
  DH.bGlo "_law_refusals",
  DH.bMk "_law_refusals",
  DH.bGlo "law",
  DH.bMk "law",
  (fun K => decide (([DH.pA K "_law_are_refused", DH.pA K "_law_refusals", DH.pA K "law"] : List Addr).Nodup)),
  DH.bGlo "_law_told"]
def defs : List He.DefD := [⟨("NoRights", some "__init__"), "__init__", "NoRights.__init__", defArgs s_o_NoRights, defBody s_o_NoRights, defScope s_o_NoRights, [], []⟩,
  ⟨("_law_told", none), "_law_told", "_law_told", defArgs s_law_told, defBody s_law_told, defScope s_law_told, [], []⟩,
  ⟨("House", some "__init__"), "__init__", "House.__init__", defArgs s_init, defBody s_init, defScope s_init, [], []⟩,
  ⟨("_law_class", none), "_law_class", "_law_class", defArgs s_law_class, defBody s_law_class, defScope s_law_class, [], []⟩,
  ⟨("_law_pick", none), "_law_pick", "_law_pick", defArgs s_law_pick, defBody s_law_pick, defScope s_law_pick, [], []⟩,
  ⟨("_law_names", none), "_law_names", "_law_names", defArgs s_law_names, defBody s_law_names, defScope s_law_names, [], []⟩,
  ⟨("is_name", none), "is_name", "is_name", defArgs s_is_name, defBody s_is_name, defScope s_is_name, [], []⟩,
  ⟨("House", some "look_station"), "look_station", "House.look_station", defArgs s_House_look_station, defBody s_House_look_station, defScope s_House_look_station, [], []⟩,
  ⟨("is_number", none), "is_number", "is_number", defArgs s_is_number, defBody s_is_number, defScope s_is_number, [], []⟩,
  ⟨("look_span", none), "look_span", "look_span", defArgs s_look_span, defBody s_look_span, defScope s_look_span, [], []⟩,
  ⟨("House", some "open_station"), "open_station", "House.open_station", defArgs s_House_open_station, defBody s_House_open_station, defScope s_House_open_station, [.non, .int 0, .int 24, .str "join"], []⟩,
  ⟨("is_sort", none), "is_sort", "is_sort", defArgs s_is_sort, defBody s_is_sort, defScope s_is_sort, [], []⟩,
  ⟨("is_show", none), "is_show", "is_show", defArgs s_is_show, defBody s_is_show, defScope s_is_show, [], []⟩,
  ⟨("House", some "add_show"), "add_show", "House.add_show", defArgs s_House_add_show, defBody s_House_add_show, defScope s_House_add_show, [], []⟩,
  ⟨("House", some "now"), "now", "House.now", defArgs s_House_now, defBody s_House_now, defScope s_House_now, [], []⟩,
  ⟨("House", some "tick"), "tick", "House.tick", defArgs s_House_tick, defBody s_House_tick, defScope s_House_tick, [.int 1], []⟩,
  ⟨("House", some "station"), "station", "House.station", defArgs s_House_station, defBody s_House_station, defScope s_House_station, [], []⟩,
  ⟨("House", some "show"), "show", "House.show", defArgs s_House_show, defBody s_House_show, defScope s_House_show, [], []⟩,
  ⟨("is_day", none), "is_day", "is_day", defArgs s_is_day, defBody s_is_day, defScope s_is_day, [], []⟩,
  ⟨("look_day", none), "look_day", "look_day", defArgs s_look_day, defBody s_look_day, defScope s_look_day, [], []⟩,
  ⟨("House", some "look_since"), "look_since", "House.look_since", defArgs s_House_look_since, defBody s_House_look_since, defScope s_House_look_since, [], []⟩,
  ⟨("House", some "put_week"), "put_week", "House.put_week", defArgs s_House_put_week, defBody s_House_put_week, defScope s_House_put_week, [.int 0], []⟩,
  ⟨("House", some "clear_week"), "clear_week", "House.clear_week", defArgs s_House_clear_week, defBody s_House_clear_week, defScope s_House_clear_week, [.int 0, .int 24, .int 0], []⟩,
  ⟨("laid", none), "laid", "laid", defArgs s_laid, defBody s_laid, defScope s_laid, [], []⟩,
  ⟨("laid_with", none), "laid_with", "laid_with", defArgs s_laid_with, defBody s_laid_with, defScope s_laid_with, [], []⟩,
  ⟨("House", some "rows_by_week"), "rows_by_week", "House.rows_by_week", defArgs s_House_rows_by_week, defBody s_House_rows_by_week, defScope s_House_rows_by_week, [], []⟩,
  ⟨("House", some "week_rows"), "week_rows", "House.week_rows", defArgs s_House_week_rows, defBody s_House_week_rows, defScope s_House_week_rows, [], []⟩,
  ⟨("House", some "own_rows"), "own_rows", "House.own_rows", defArgs s_House_own_rows, defBody s_House_own_rows, defScope s_House_own_rows, [], []⟩,
  ⟨("_law_are_refused", none), "_law_are_refused", "_law_are_refused", defArgs s_law_are_refused, defBody s_law_are_refused, defScope s_law_are_refused, [], []⟩,
  ⟨("_law_bad", none), "_law_bad", "_law_bad", defArgs s_law_bad, defBody s_law_bad, defScope s_law_bad, [], []⟩,
  ⟨("House", some "times"), "times", "House.times", defArgs s_House_times, defBody s_House_times, defScope s_House_times, [], []⟩,
  ⟨("House", some "put"), "put", "House.put", defArgs s_House_put, defBody s_House_put, defScope s_House_put, [], []⟩,
  ⟨("House", some "deeds"), "deeds", "House.deeds", defArgs s_House_deeds, defBody s_House_deeds, defScope s_House_deeds, [], []⟩,
  ⟨("_law_are_rights", none), "_law_are_rights", "_law_are_rights", defArgs s_law_are_rights, defBody s_law_are_rights, defScope s_law_are_rights, [], []⟩,
  ⟨("_law_refusals", none), "_law_refusals", "_law_refusals", defArgs s_law_refusals, defBody s_law_refusals, defScope s_law_refusals, [], []⟩,
  ⟨("law", none), "law", "law", defArgs s_law, defBody s_law, defScope s_law, [], []⟩]
def lo0 : List Str := ["_wall", "AirError", "NoName", "NoDay", "NoHour", "NoMore", "NoShow", "NoSort", "NoStation", "NoRule", "Full", "Taken", "NoRights", "Settled", "TooLate", "NoRow", "NotLive", "TooLong", "NewsAhead", "Clash", "NoWish", "NoDeeds", "NoText", "DAYS", "HOURS", "WEEK", "is_number", "is_day", "look_day", "laid"]
def lo1 : List Str := ["laid_with", "LETTERS", "LONGEST_NAME", "SORTS", "LONGEST", "MOST_TIMES", "is_name", "is_sort", "is_show", "MOST_STATIONS", "RULES", "look_span", "word_of", "line_of", "House", "_law_pick", "_law_class", "_law_told", "_law_names", "_law_bad", "_law_are_rights"]
def loose : List Str := lo0 ++ lo1
abbrev hk : PySem.W.Hook := DH.hookQ 6 facts defs
def ob (s : PySem.W.SharedT) : He.AlD := DH.obsQG 6 facts defs (HandSHeadRun.getT s)
theorem ob_eq (s : PySem.W.SharedT) : ob s = hk.obs s.abs := DH.obsQG_eq (HandSHeadRun.getT_eq s)
set_option maxHeartbeats 0 in
theorem run (w : World) : HandSHeadRun.RunEq (PySem.W.OpenLaw.row PySem.Challenge.rw_airhours_k22_weeks_refused) (PySem.W.view (PySem.W.OpenLaw.row PySem.Challenge.rw_airhours_k22_weeks_refused).prog [56, 58, 59]) hk ob 100000 loose w := by
  intro os
  kernel_rfl
end LK
/-! A layer of plain data over the hand layer: what an expression or a statement makes of plain data, with the heap left out. -/
namespace DL
open PySem L2
/-- plain data -/
inductive D where
  | non | bl (b : Bool) | int (i : Int) | str (x : Str) | tup (xs : List D) | lst (xs : List D)
  | dK (kvs : List (Key × D)) | dT (kvs : List (List Key × D)) | obj (k : Nat) | scr (ns : List Int) | exc (a : Addr)
  deriving Inhabited
/-- the objects of own classes that stand, by their fields; n: how often they were changed; lk: a dict is walked -/
structure W where
  n : Nat
  o : List (List (Str × D))
  lk : Bool
/-- an error: its class, its fields -/
structure Xc where
  c : String
  fs : List (Str × D)
inductive R (α : Type) where
  | ok (a : α) (w : W) | ex (x : Xc) (w : W) | bad
def R.bind {α β : Type} : R α → (α → W → R β) → R β
  | .ok a w, f => f a w
  | .ex x w, _ => .ex x w
  | .bad, _ => .bad
/-- how a value stands: frozen; new (whoever gets it owns it); a slot's own, seen; a field's -/
inductive Md where
  | fz | nw | bo | wd
  deriving DecidableEq
structure Val where
  m : Md
  d : D
abbrev Env := List (Option Val)
abbrev DE := Env → W → R Val
abbrev DT := Env → W → R Bool
abbrev DA := Env → W → R (List Val)
abbrev fz (d : D) : Val := ⟨.fz, d⟩
abbrev W0 : W := ⟨0, [], false⟩
/-! ### what is walked is locked -/
def Dct : HO → Bool
  | .dK _ | .dT _ => true
  | _ => false
/-- u stands at a, or it is a dict that is locked -/
def Lk (H : Hp) (a : Addr) (u : HO) : Prop := H a = some u ∨ (Dct u = true ∧ ∃ o, H a = some (.frz o u))
/-- what is frozen stands in the heap -/
def Sm (G H : Hp) : Prop := ∀ b u, G b = some u → Lk H b u
section
variable {G G' H H' : Hp} {a : Addr} {u : HO} {K : PySem.W.Frag} {xs : List V}
theorem Lk.eq (h : Lk H a u) (n : Dct u = false := by rfl) : H a = some u := by
  rcases h with h | ⟨h, _⟩
  · exact h
  · rw [n] at h; cases h
theorem Lk.mono (s : Same H H') (h : Lk H a u) : Lk H' a u := by
  rcases h with h | ⟨h, o, e⟩
  · exact .inl (s _ _ h)
  · exact .inr ⟨h, o, s _ _ e⟩
theorem Lk.rd (h : Lk H a u) : Rd H a u := by
  rcases h with h | ⟨_, h⟩
  · exact .inl h
  · exact .inr h
theorem Lk.some_ (h : Lk H a u) : H a ≠ none := by
  rcases h with h | ⟨_, o, h⟩ <;> rw [h] <;> exact fun z => nomatch z
theorem Lk.upd {b : Addr} {o : HO} (h : Lk H a u) (n : a ≠ b) : Lk (upd H b o) a u := by
  rcases h with h | ⟨h, q, e⟩
  · exact .inl (by rw [upd_ne n]; exact h)
  · exact .inr ⟨h, q, by rw [upd_ne n]; exact e⟩
theorem Lk.ne {b : Addr} (h : Lk H a u) (n : H b = none) : a ≠ b := fun z => h.some_ (z ▸ n)
/-- the thing that stands at a, by itself or locked, is one -/
theorem Lk.uniq {o : HO} (h : Lk H a u) (h2 : Lk H a o) (n : ∀ q z, u ≠ .frz q z) (n2 : ∀ q z, o ≠ .frz q z) : u = o := by
  rcases h with h | ⟨_, q, h⟩ <;> rcases h2 with h2 | ⟨_, q2, h2⟩ <;> rw [h] at h2
  · exact Option.some.inj h2
  · exact absurd (Option.some.inj h2) (n _ _)
  · exact absurd (Option.some.inj h2).symm (n2 _ _)
  · cases h2; rfl
theorem Sm.eq (s : Sm G H) (e : G a = some u) (n : Dct u = false := by rfl) : H a = some u := (s a u e).eq n
theorem Sm.seq (s : Sm G H) (h : SqL K G a xs) : SqL K H a xs := by
  rcases h with (h | ⟨o, h⟩) | h
  · exact .inl (.inl (s.eq h))
  · exact .inl (.inr ⟨o, s.eq h⟩)
  · exact .inr h
theorem Sm.sqT (s : Sm G H) (h : SqT K G a xs) : SqT K H a xs := by
  rcases h with (h | ⟨o, h⟩) | h
  · exact .inl (.inl (s.eq h))
  · exact .inl (.inr ⟨o, s.eq h⟩)
  · exact .inr h
theorem Sm.free (s : Sm G H) (h : H a = none) : G a = none := by
  cases e : G a with
  | none => rfl
  | some u => exact absurd h (s a u e).some_
theorem Sm.trans (s : Sm G H) (h : Same H H') : Sm G H' := fun b u e => (s b u e).mono h
end
/-! ### data in the heap -/
/-- the script: a list that is never changed -/
abbrev SqZ (K : PySem.W.Frag) (G : Hp) (a : Addr) (xs : List V) : Prop := SqL K G a xs
mutual
inductive Rep (K : PySem.W.Frag) (G : Hp) (ι : List Addr) : V → D → Prop
  | non : Rep K G ι .non .non
  | bl (b : Bool) : Rep K G ι (.bl b) (.bl b)
  | int (i : Int) : Rep K G ι (.int i) (.int i)
  | str (x : Str) : Rep K G ι (.str x) (.str x)
  | tup {a : Addr} {vs : List V} {ds : List D} : SqT K G a vs → Reps K G ι vs ds → Rep K G ι (.ref a) (.tup ds)
  | lst {a : Addr} {vs : List V} {ds : List D} : G a = some (.lst vs) → Reps K G ι vs ds → Rep K G ι (.ref a) (.lst ds)
  | scr {a : Addr} {ns : List Int} : SqZ K G a (ns.map V.int) → Rep K G ι (.ref a) (.scr ns)
  | dK {a : Addr} {kvs : List (Key × V)} {ds : List (Key × D)} : G a = some (.dK kvs) → kvs.map (·.1) = ds.map (·.1) → Reps K G ι (kvs.map (·.2)) (ds.map (·.2)) → Rep K G ι (.ref a) (.dK ds)
  | dT {a : Addr} {kvs : List (List Key × V)} {ds : List (List Key × D)} : G a = some (.dT kvs) → kvs.map (·.1) = ds.map (·.1) → Reps K G ι (kvs.map (·.2)) (ds.map (·.2)) → Rep K G ι (.ref a) (.dT ds)
  | obj {p : Addr} {k : Nat} : ι[k]? = some p → Rep K G ι (.ref p) (.obj k)
  | exc {a : Addr} : Rep K G ι (.ref a) (.exc a)
inductive Reps (K : PySem.W.Frag) (G : Hp) (ι : List Addr) : List V → List D → Prop
  | nil : Reps K G ι [] []
  | cons {v : V} {d : D} {vs : List V} {ds : List D} : Rep K G ι v d → Reps K G ι vs ds → Reps K G ι (v :: vs) (d :: ds)
end
section
variable {K : PySem.W.Frag} {G G' : Hp} {ι ι' : List Addr}
theorem sqT_mono {a : Addr} {vs : List V} (e : Same G G') (h : SqT K G a vs) : SqT K G' a vs := by
  rcases h with (h | ⟨o, h⟩) | h
  · exact .inl (.inl (e _ _ h))
  · exact .inl (.inr ⟨o, e _ _ h⟩)
  · exact .inr h
theorem pre_get {k : Nat} {p : Addr} (h : ι <+: ι') (e : ι[k]? = some p) : ι'[k]? = some p := by
  obtain ⟨t, rfl⟩ := h
  have := (List.getElem?_eq_some_iff.mp e).1
  rw [List.getElem?_append_left this]
  exact e
mutual
theorem Rep.mono (e : Same G G') (i : ι <+: ι') : ∀ {v : V} {d : D}, Rep K G ι v d → Rep K G' ι' v d
  | _, _, .non => .non
  | _, _, .bl b => .bl b
  | _, _, .int b => .int b
  | _, _, .str b => .str b
  | _, _, .tup q r => .tup (sqT_mono e q) (Reps.mono e i r)
  | _, _, .lst q r => .lst (e _ _ q) (Reps.mono e i r)
  | _, _, .scr q => .scr (e.seq q)
  | _, _, .dK q k r => .dK (e _ _ q) k (Reps.mono e i r)
  | _, _, .dT q k r => .dT (e _ _ q) k (Reps.mono e i r)
  | _, _, .obj h => .obj (pre_get i h)
  | _, _, .exc => .exc
theorem Reps.mono (e : Same G G') (i : ι <+: ι') : ∀ {vs : List V} {ds : List D}, Reps K G ι vs ds → Reps K G' ι' vs ds
  | _, _, .nil => .nil
  | _, _, .cons a b => .cons (Rep.mono e i a) (Reps.mono e i b)
end
theorem Reps.length : ∀ {vs : List V} {ds : List D}, Reps K G ι vs ds → vs.length = ds.length
  | _, _, .nil => rfl
  | _, _, .cons _ b => by rw [List.length_cons, List.length_cons, Reps.length b]
theorem Reps.get : ∀ {vs : List V} {ds : List D} {i : Nat} {v : V}, Reps K G ι vs ds → vs[i]? = some v → ∃ d, ds[i]? = some d ∧ Rep K G ι v d
  | _, _, _, _, .nil, e => by simp at e
  | _, _, 0, _, .cons a _, e => by simp at e; subst e; exact ⟨_, rfl, a⟩
  | _, _, i + 1, _, .cons _ b, e => by
    obtain ⟨d, h1, h2⟩ := Reps.get (i := i) b (by simpa using e)
    exact ⟨d, by simpa using h1, h2⟩
theorem Reps.getD : ∀ {vs : List V} {ds : List D} {i : Nat} {d : D}, Reps K G ι vs ds → ds[i]? = some d → ∃ v, vs[i]? = some v ∧ Rep K G ι v d
  | _, _, _, _, .nil, e => by simp at e
  | _, _, 0, _, .cons a _, e => by simp at e; subst e; exact ⟨_, rfl, a⟩
  | _, _, i + 1, _, .cons _ b, e => by
    obtain ⟨d, h1, h2⟩ := Reps.getD (i := i) b (by simpa using e)
    exact ⟨d, by simpa using h1, h2⟩
theorem Reps.append : ∀ {vs ws : List V} {ds es : List D}, Reps K G ι vs ds → Reps K G ι ws es → Reps K G ι (vs ++ ws) (ds ++ es)
  | _, _, _, _, .nil, h => h
  | _, _, _, _, .cons a b, h => .cons a (Reps.append b h)
theorem Reps.take : ∀ {vs : List V} {ds : List D} (n : Nat), Reps K G ι vs ds → Reps K G ι (vs.take n) (ds.take n)
  | _, _, 0, _ => .nil
  | _, _, _ + 1, .nil => .nil
  | _, _, n + 1, .cons a b => .cons a (Reps.take n b)
theorem Reps.drop : ∀ {vs : List V} {ds : List D} (n : Nat), Reps K G ι vs ds → Reps K G ι (vs.drop n) (ds.drop n)
  | _, _, 0, h => h
  | _, _, _ + 1, .nil => .nil
  | _, _, n + 1, .cons _ b => Reps.drop n b
theorem Reps.set {v : V} {d : D} (h : Rep K G ι v d) : ∀ {vs : List V} {ds : List D} (i : Nat), Reps K G ι vs ds → Reps K G ι (vs.set i v) (ds.set i d)
  | _, _, _, .nil => .nil
  | _, _, 0, .cons _ b => .cons h b
  | _, _, i + 1, .cons a b => .cons a (Reps.set h i b)
theorem Reps.reverse : ∀ {vs : List V} {ds : List D}, Reps K G ι vs ds → Reps K G ι vs.reverse ds.reverse
  | _, _, .nil => .nil
  | _, _, .cons a b => by rw [List.reverse_cons, List.reverse_cons]; exact (Reps.reverse b).append (.cons a .nil)
theorem Reps.of_bls : ∀ {ns : List Bool} {vs : List V}, Reps K G ι vs (ns.map D.bl) → vs = ns.map V.bl
  | [], _, .nil => rfl
  | _ :: _, _, .cons a b => by cases a; rw [Reps.of_bls b]; rfl
end
/-- what no store can change: no list, no dict within -/
def imN : Nat → D → Bool
  | _, .non | _, .bl _ | _, .int _ | _, .str _ | _, .obj _ => true
  | 0, _ => false
  | n + 1, .tup xs => xs.all (imN n)
  | _, _ => false
def im (d : D) : Bool := imN 8 d
/-- a heap without one place -/
def del (G : Hp) (a : Addr) : Hp := fun b => if b = a then none else G b
theorem del_ne {G : Hp} {a b : Addr} (h : b ≠ a) : del G a b = G b := by unfold del; rw [if_neg h]
theorem del_same {G : Hp} {a : Addr} : del G a a = none := by unfold del; rw [if_pos rfl]
/-- a list, a dict: whatever is changed in place -/
def Cont : HO → Prop
  | .lst _ | .dK _ | .dT _ => True
  | _ => False
theorem Rep.del {K : PySem.W.Frag} {G : Hp} {ι : List Addr} {a : Addr} (hc : ∀ o, G a = some o → Cont o) : ∀ (n : Nat) {v : V} {d : D}, Rep K G ι v d → imN n d = true → Rep K (DL.del G a) ι v d := by
  intro n
  induction n with
  | zero =>
    intro v d r h
    cases r with
    | non => exact .non
    | bl b => exact .bl b
    | int b => exact .int b
    | str b => exact .str b
    | obj q => exact .obj q
    | scr _ => simp [imN] at h
    | exc => simp [imN] at h
    | tup _ _ => simp [imN] at h
    | lst _ _ => simp [imN] at h
    | dK _ _ _ => simp [imN] at h
    | dT _ _ _ => simp [imN] at h
  | succ n ih =>
    intro v d r h
    have go : ∀ {vs : List V} {ds : List D}, Reps K G ι vs ds → ds.all (imN n) = true → Reps K (DL.del G a) ι vs ds := by
      intro vs ds r
      induction ds generalizing vs with
      | nil => intro _; cases r; exact .nil
      | cons d ds ih2 =>
        intro h
        cases r with
        | cons r1 r2 =>
          rw [List.all_cons, Bool.and_eq_true] at h
          exact .cons (ih r1 h.1) (ih2 r2 h.2)
    cases r with
    | non => exact .non
    | bl b => exact .bl b
    | int b => exact .int b
    | str b => exact .str b
    | obj q => exact .obj q
    | scr _ => simp [imN] at h
    | exc => simp [imN] at h
    | tup q r =>
      rename_i b vs ds
      refine .tup ?_ (go r (by simpa [imN] using h))
      rcases q with (q | ⟨o, q⟩) | q
      · have : b ≠ a := fun e => by subst e; exact hc _ q
        exact .inl (.inl (by rw [del_ne this]; exact q))
      · have : b ≠ a := fun e => by subst e; exact hc _ q
        exact .inl (.inr ⟨o, by rw [del_ne this]; exact q⟩)
      · exact .inr q
    | lst _ _ => simp [imN] at h
    | dK _ _ _ => simp [imN] at h
    | dT _ _ _ => simp [imN] at h
end DL
namespace DL
open PySem L2
/-! ### the world of objects -/
/-- the class of the objects, and the tables of code objects (a lambda's code is kept in one) -/
structure Ca where
  a : Addr
  T : List (Addr × Str)
/-- no table -/
def Nt (o : HO) : Prop := ∀ ps, o ≠ .tbl ps
/-- nothing stands there, or a table -/
def Fr (H : Hp) (a : Addr) : Prop := ∀ o, H a = some o → ¬ Nt o
theorem Fr.of {H : Hp} {a : Addr} (h : H a = none) : Fr H a := fun o e => by rw [h] at e; cases e
theorem Fr.ne {H : Hp} {a b : Addr} {o : HO} (h : Fr H a) (e : H b = some o) (n : Nt o) : b ≠ a := fun z => h o (z ▸ e) n
theorem nt_lst {xs : List V} : Nt (.lst xs) := fun _ h => nomatch h
theorem nt_tup {xs : List V} : Nt (.tup xs) := fun _ h => nomatch h
theorem nt_cont {o : HO} (h : Cont o) : Nt o := fun ps e => by subst e; exact h
theorem nx_cont {o : HO} (h : Cont o) : ∀ f, o ≠ .ext f := fun f e => by subst e; exact h
theorem nt_frz {o : Obj} {u : HO} : Nt (.frz o u) := fun _ h => nomatch h
theorem Lk.at' {H : Hp} {a : Addr} {u : HO} (h : Lk H a u) (n : Nt u) : ∃ o, H a = some o ∧ Nt o := by
  rcases h with h | ⟨_, o, h⟩
  · exact ⟨_, h, n⟩
  · exact ⟨_, h, nt_frz⟩
theorem Lk.nt2 {H : Hp} {a : Addr} {u o : HO} (h : Lk H a u) (n : Nt u) (h2 : Lk H a o) : Nt o := by
  obtain ⟨x, hx, nx⟩ := h.at' n
  rcases h2 with h2 | ⟨d, _, _⟩
  · rw [hx] at h2; cases h2; exact nx
  · intro ps z; subst z; cases d
theorem nf_cont {o : HO} (h : Cont o) : ∀ q z, o ≠ .frz q z := fun q z e => by subst e; exact h
theorem nt_ins {C dx : Addr} {fs : List (Str × V)} : Nt (.ins C dx fs) := fun _ h => nomatch h
abbrev Ws0 := List (Addr × List (Str × V))
structure Ws where
  n : Nat
  l : Ws0
  lk : Option (Addr × Obj × HO)
def refs : List (Str × V) → List Addr
  | [] => []
  | (_, .ref a) :: r => a :: refs r
  | _ :: r => refs r
def regs0 : Ws0 → List Addr
  | [] => []
  | (p, fs) :: r => p :: (refs fs ++ regs0 r)
abbrev regs (ws : Ws) : List Addr := regs0 ws.l
abbrev io (ws : Ws) : List Addr := ws.l.map (·.1)
/-- a thing that may change, as it stands -/
inductive Unf (K : PySem.W.Frag) (G H : Hp) (ι : List Addr) (a : Addr) : D → Prop
  | lst {vs : List V} {ds : List D} : H a = some (.lst vs) → Reps K G ι vs ds → Unf K G H ι a (.lst ds)
  | dK {kvs : List (Key × V)} {ds : List (Key × D)} : Lk H a (.dK kvs) → kvs.map (·.1) = ds.map (·.1) → Reps K G ι (kvs.map (·.2)) (ds.map (·.2)) → Unf K G H ι a (.dK ds)
  | dT {kvs : List (List Key × V)} {ds : List (List Key × D)} : Lk H a (.dT kvs) → kvs.map (·.1) = ds.map (·.1) → Reps K G ι (kvs.map (·.2)) (ds.map (·.2)) → Unf K G H ι a (.dT ds)
def Fld (K : PySem.W.Frag) (G H : Hp) (ι : List Addr) (v : V) (d : D) : Prop := (∃ a, v = .ref a ∧ Unf K G H ι a d) ∨ (∃ i, v = .int i ∧ d = .int i)
structure RelW (K : PySem.W.Frag) (C : Ca) (G H : Hp) (ws : Ws) (w : W) : Prop where
  obs : Paired (fun (q : Addr × List (Str × V)) (o : List (Str × D)) => (∃ dx, H q.1 = some (.ins C.a dx q.2)) ∧ Paired (fun (x : Str × V) (y : Str × D) => x.1 = y.1 ∧ Fld K G H (io ws) x.2 y.2) q.2 o) ws.l w.o
  nn : w.n = ws.n
  nd : (regs ws).Nodup
  out : ∀ a ∈ regs ws, G a = none
  tb : LamX.Tabs C.T H
  nt : ∀ b o, G b = some o → Nt o
  ul : ∀ a o u, H a = some (.frz o u) → Dct u = true → G a = some (.frz o u) ∨ ws.lk = some (a, o, u)
  lkw : w.lk = ws.lk.isSome
  lkh : ∀ a o u, ws.lk = some (a, o, u) → H a = some (.frz o u)
/-- a value -/
def RV (K : PySem.W.Frag) (G H : Hp) (ws : Ws) (v : V) (x : Val) : Prop := match x.m with
  | .fz => Rep K G (io ws) v x.d
  | .wd => ∃ a, v = .ref a ∧ G a = none ∧ a ∈ regs ws ∧ Unf K G H (io ws) a x.d
  | _ => ∃ a, v = .ref a ∧ G a = none ∧ a ∉ regs ws ∧ Unf K G H (io ws) a x.d
/-- the objects stay where they are, and so do the containers of their fields -/
def Stab (l l' : Ws0) : Prop := ∀ (k : Nat) p fs, l[k]? = some (p, fs) → ∃ fs', l'[k]? = some (p, fs') ∧ fs'.map (·.1) = fs.map (·.1) ∧ ∀ (x : Nat) f a, fs[x]? = some (f, V.ref a) → fs'[x]? = some (f, V.ref a)
theorem Stab.refl (l : Ws0) : Stab l l := fun k p fs h => ⟨fs, h, rfl, fun _ _ _ h => h⟩
theorem Stab.trans {a b c : Ws0} (h : Stab a b) (g : Stab b c) : Stab a c := fun k p fs e => by
  obtain ⟨f1, e1, m1, k1⟩ := h k p fs e
  obtain ⟨f2, e2, m2, k2⟩ := g k p f1 e1
  exact ⟨f2, e2, m2.trans m1, fun x f a z => k2 x f a (k1 x f a z)⟩
/-- from one state to a later one -/
structure Nx (K : PySem.W.Frag) (C : Ca) (G H : Hp) (ws : Ws) (G' H' : Hp) (ws' : Ws) (w' : W) : Prop where
  gg : Same G G'
  sub : Sm G' H'
  rw : RelW K C G' H' ws' w'
  keep : ∀ a o, Lk H a o → Nt o → a ∉ regs ws → Lk H' a o
  alive : ∀ a o, H a = some o → Nt o → ∃ o', H' a = some o' ∧ Nt o'
  nocap : ∀ a o, H a = some o → Nt o → G a = none → G' a = none ∨ ∃ xs, H' a = some (.tup xs)
  io : io ws <+: io ws'
  fresh : ∀ a ∈ regs ws', a ∈ regs ws ∨ Fr H a
  le : ws.n ≤ ws'.n
  qt : ws'.n = ws.n → ws' = ws ∧ ∀ a ∈ regs ws, ∀ o, Lk H a o → Lk H' a o
  stb : Stab ws.l ws'.l
section
variable {K : PySem.W.Frag} {C : Ca} {G H G' H' G2 H2 : Hp} {ws ws' ws2 : Ws} {w w' w2 : W}
theorem paired_imp {α β : Type} {F F' : α → β → Prop} : ∀ {l : List α} {m : List β}, Paired F l m → (∀ a b, a ∈ l → F a b → F' a b) → Paired F' l m
  | _, _, .nil, _ => .nil
  | _, _, .cons a b, h => .cons (h _ _ List.mem_cons_self a) (paired_imp b fun x y hx => h x y (List.mem_cons_of_mem _ hx))
theorem refs_mem : ∀ {fs : List (Str × V)} {x : Str × V} {a : Addr}, x ∈ fs → x.2 = .ref a → a ∈ refs fs
  | (n, v) :: r, x, a, h, e => by
    rcases List.mem_cons.mp h with rfl | h
    · simp only at e; subst e; exact List.mem_cons_self
    · have := refs_mem h e
      cases v <;> first | exact List.mem_cons_of_mem _ this | exact this
theorem regs_mem : ∀ {ws : Ws0} {q : Addr × List (Str × V)}, q ∈ ws → q.1 ∈ regs0 ws ∧ ∀ a ∈ refs q.2, a ∈ regs0 ws
  | (p, fs) :: r, q, h => by
    rcases List.mem_cons.mp h with rfl | h
    · exact ⟨List.mem_cons_self, fun a ha => List.mem_cons_of_mem _ (List.mem_append_left _ ha)⟩
    · have := regs_mem h
      exact ⟨List.mem_cons_of_mem _ (List.mem_append_right _ this.1), fun a ha => List.mem_cons_of_mem _ (List.mem_append_right _ (this.2 a ha))⟩
theorem Unf.there {ι : List Addr} {a : Addr} {d : D} (h : Unf K G H ι a d) : ∃ o, Lk H a o ∧ Cont o := by
  cases h with
  | lst e _ => exact ⟨_, .inl e, trivial⟩
  | dK e _ _ => exact ⟨_, e, trivial⟩
  | dT e _ _ => exact ⟨_, e, trivial⟩
theorem Unf.move {ι ι' : List Addr} {a : Addr} {d : D} (h : Unf K G H ι a d) (g : Same G G') (i : ι <+: ι') (k : ∀ o, Lk H a o → Lk H' a o) : Unf K G' H' ι' a d := by
  cases h with
  | lst e r => exact .lst (k _ (.inl e)).eq (r.mono g i)
  | dK e k1 r => exact .dK (k _ e) k1 (r.mono g i)
  | dT e k1 r => exact .dT (k _ e) k1 (r.mono g i)
theorem Fld.move {ι ι' : List Addr} {v : V} {d : D} (h : Fld K G H ι v d) (g : Same G G') (i : ι <+: ι') (k : ∀ a o, v = .ref a → Lk H a o → Lk H' a o) : Fld K G' H' ι' v d := by
  rcases h with ⟨a, e, u⟩ | h
  · exact .inl ⟨a, e, u.move g i fun o => k a o e⟩
  · exact .inr h
theorem reg_there (r : RelW K C G H ws w) {a : Addr} (h : a ∈ regs ws) : ∃ o, H a = some o ∧ Nt o := by
  have go : ∀ {l : Ws0} {m : List (List (Str × D))}, Paired (fun (q : Addr × List (Str × V)) (o : List (Str × D)) => (∃ dx, H q.1 = some (.ins C.a dx q.2)) ∧ Paired (fun (x : Str × V) (y : Str × D) => x.1 = y.1 ∧ Fld K G H (io ws) x.2 y.2) q.2 o) l m → a ∈ regs0 l → ∃ o, H a = some o ∧ Nt o := by
    intro l m p
    induction p with
    | nil => intro h; exact absurd h (by simp [regs0])
    | @cons q o l m p1 p2 ih =>
      intro h
      obtain ⟨p, fs⟩ := q
      rcases List.mem_cons.mp h with rfl | h
      · obtain ⟨⟨dx, e⟩, _⟩ := p1
        exact ⟨_, e, nt_ins⟩
      · rcases List.mem_append.mp h with h | h
        · have go2 : ∀ {fs : List (Str × V)} {o : List (Str × D)}, Paired (fun (x : Str × V) (y : Str × D) => x.1 = y.1 ∧ Fld K G H (io ws) x.2 y.2) fs o → a ∈ refs fs → ∃ o, H a = some o ∧ Nt o := by
            intro fs o p
            induction p with
            | nil => intro h; exact absurd h (by simp [refs])
            | @cons x y l m q1 q2 ih2 =>
              intro h
              obtain ⟨n, v⟩ := x
              rcases q1.2 with ⟨b, e, u⟩ | ⟨i, e, _⟩
              · simp only at e
                subst e
                rcases List.mem_cons.mp h with rfl | h
                · obtain ⟨o, e, c⟩ := u.there
                  exact e.at' (nt_cont c)
                · exact ih2 h
              · simp only at e
                subst e
                exact ih2 h
          exact go2 p1.2 h
        · exact ih h
  exact go r.obs h
theorem reg_not_tup (r : RelW K C G H ws w) {a : Addr} {xs : List V} (hx : H a = some (.tup xs)) : a ∉ regs ws := by
  have go : ∀ {l : Ws0} {m : List (List (Str × D))}, Paired (fun (q : Addr × List (Str × V)) (o : List (Str × D)) => (∃ dx, H q.1 = some (.ins C.a dx q.2)) ∧ Paired (fun (x : Str × V) (y : Str × D) => x.1 = y.1 ∧ Fld K G H (io ws) x.2 y.2) q.2 o) l m → a ∉ regs0 l := by
    intro l m p
    induction p with
    | nil => simp [regs0]
    | @cons q o l m p1 p2 ih =>
      intro h
      obtain ⟨p, fs⟩ := q
      rcases List.mem_cons.mp h with rfl | h
      · obtain ⟨⟨dx, e⟩, _⟩ := p1
        rw [hx] at e; cases e
      · rcases List.mem_append.mp h with h | h
        · have go2 : ∀ {fs : List (Str × V)} {o : List (Str × D)}, Paired (fun (x : Str × V) (y : Str × D) => x.1 = y.1 ∧ Fld K G H (io ws) x.2 y.2) fs o → a ∉ refs fs := by
            intro fs o p
            induction p with
            | nil => simp [refs]
            | @cons x y l m q1 q2 ih2 =>
              intro h
              obtain ⟨n, v⟩ := x
              rcases q1.2 with ⟨b, e, u⟩ | ⟨i, e, _⟩
              · simp only at e
                subst e
                rcases List.mem_cons.mp h with rfl | h
                · obtain ⟨o, e, c⟩ := u.there
                  rcases e with e | ⟨_, q, e⟩
                  · rw [hx] at e; cases e; exact c
                  · rw [hx] at e; cases e
                · exact ih2 h
              · simp only at e
                subst e
                exact ih2 h
          exact go2 p1.2 h
        · exact ih h
  exact go r.obs
/-- nothing is locked -/
theorem RelW.ul0 (r : RelW K C G H ws w) (hl : w.lk = false) {a : Addr} {o : Obj} {u : HO} (h : H a = some (.frz o u)) (hd : Dct u = true) : G a = some (.frz o u) := by
  rcases r.ul a o u h hd with z | z
  · exact z
  · have := r.lkw
    rw [hl, z] at this
    cases this
theorem Nx.refl (s : Sm G H) (r : RelW K C G H ws w) : Nx K C G H ws G H ws w := ⟨fun _ _ h => h, s, r, fun _ _ h _ _ => h, fun _ o h n => ⟨o, h, n⟩, fun _ _ _ _ h => .inl h, List.prefix_refl _, fun _ h => .inl h, Nat.le_refl _, fun _ => ⟨rfl, fun _ _ _ h => h⟩, Stab.refl _⟩
theorem Nx.trans (a : Nx K C G H ws G' H' ws' w') (b : Nx K C G' H' ws' G2 H2 ws2 w2) : Nx K C G H ws G2 H2 ws2 w2 where
  gg := a.gg.trans b.gg
  sub := b.sub
  rw := b.rw
  keep := fun c o e nt n => b.keep c o (a.keep c o e nt n) nt fun h => by
    rcases a.fresh c h with z | z
    · exact n z
    · obtain ⟨o1, e1, n1⟩ := e.at' nt
      exact z o1 e1 n1
  alive := fun c o e nt => by
    obtain ⟨o', e', nt'⟩ := a.alive c o e nt
    exact b.alive c o' e' nt'
  nocap := fun c o e nt n => by
    obtain ⟨o', e', nt'⟩ := a.alive c o e nt
    rcases a.nocap c o e nt n with z | ⟨xs, z⟩
    · exact b.nocap c o' e' nt' z
    · exact .inr ⟨xs, (b.keep c _ (.inl z) nt_tup (reg_not_tup a.rw z)).eq⟩
  io := a.io.trans b.io
  fresh := fun c h => by
    rcases b.fresh c h with z | z
    · exact a.fresh c z
    · refine .inr fun o e nt => ?_
      obtain ⟨o', e', nt'⟩ := a.alive c o e nt
      exact z o' e' nt'
  le := Nat.le_trans a.le b.le
  stb := a.stb.trans b.stb
  qt := fun h => by
    have h1 := a.le
    have h2 := b.le
    obtain ⟨e1, k1⟩ := a.qt (by omega)
    obtain ⟨e2, k2⟩ := b.qt (by omega)
    subst e1
    exact ⟨e2, fun c hc o e => k2 c hc o (k1 c hc o e)⟩
/-- a frozen world: H may grow, G may grow by what is new -/
theorem RelW.grow (r : RelW K C G H ws w) (g : Same G G') (h : Same H H') (n : ∀ a o, H a = some o → Nt o → G a = none → G' a = none) (nt : ∀ b o, G' b = some o → Nt o) (ul : ∀ a o u, H' a = some (.frz o u) → Dct u = true → G' a = some (.frz o u) ∨ ws.lk = some (a, o, u)) : RelW K C G' H' ws w where
  obs := paired_imp r.obs fun q o hq ⟨⟨dx, e⟩, p⟩ => ⟨⟨dx, h _ _ e⟩, paired_imp p fun x y hx ⟨e, f⟩ => ⟨e, f.move g (List.prefix_refl _) fun a o _ e => e.mono h⟩⟩
  ul := ul
  lkw := r.lkw
  lkh := fun a o u e => h _ _ (r.lkh a o u e)
  nn := r.nn
  nd := r.nd
  out := fun a ha => by
    obtain ⟨o, e, no⟩ := reg_there r ha
    exact n a o e no (r.out a ha)
  tb := r.tb.ext h
  nt := nt
/-- a table is none of what changes -/
theorem tabs_upd {T : List (Addr × Str)} {H : Hp} {a : Addr} {o o' : HO} (t : LamX.Tabs T H) (h : H a = some o) (n : Nt o) (nx : ∀ f, o ≠ .ext f) : LamX.Tabs T (upd H a o') := by
  intro p hp
  obtain ⟨ps, h1, h2, h3⟩ := t p hp
  refine ⟨ps, ?_, h2, fun pos cv hc => ?_⟩
  · rw [upd_ne]
    · exact h1
    · intro z; rw [z, h] at h1; cases h1; exact n _ rfl
  · obtain ⟨c, e1, e2⟩ := h3 pos cv hc
    refine ⟨c, e1, ?_⟩
    rw [upd_ne]
    · exact e2
    · intro z; rw [z, h] at e2; cases e2; exact nx _ rfl
theorem lkh_upd (r : RelW K C G H ws w) {p : Addr} {o' : HO} (hp : ∀ q u, H p ≠ some (.frz q u)) : ∀ a o u, ws.lk = some (a, o, u) → upd H p o' a = some (.frz o u) := fun a o u e => by
  have := r.lkh a o u e
  rw [upd_ne (fun z => by rw [z] at this; exact hp _ _ this)]
  exact this
theorem lkh_cont (r : RelW K C G H ws w) {p : Addr} {o o' : HO} (hp : H p = some o) (c : ∀ q u, o ≠ .frz q u) : ∀ a o u, ws.lk = some (a, o, u) → upd H p o' a = some (.frz o u) := lkh_upd r fun q u z => by rw [hp] at z; cases z; exact c _ _ rfl
theorem ul_upd (r : RelW K C G H ws w) {p : Addr} {o : HO} (g : Same G G') (nf : ∀ q u, o ≠ .frz q u) : ∀ a q u, upd H p o a = some (.frz q u) → Dct u = true → G' a = some (.frz q u) ∨ ws.lk = some (a, q, u) := fun a q u e hd => by
  by_cases hb : a = p
  · subst hb; rw [upd_same] at e; cases e; exact absurd rfl (nf _ _)
  · rw [upd_ne hb] at e; exact (r.ul a q u e hd).imp (g _ _) id
/-- one new object, frozen -/
theorem Nx.put (s : Sm G H) (r : RelW K C G H ws w) {p : Addr} {o : HO} (hp : H p = none) (no : Nt o := by intro _ h; cases h) (nf : ∀ q u, o ≠ .frz q u := by intro _ _ h; cases h) : Nx K C G H ws (upd G p o) (upd H p o) ws w := by
  have gp : G p = none := s.free hp
  have sg : Same G (upd G p o) := fun b u e => by rw [upd_ne (ne_of_none e gp)]; exact e
  have sh : Same H (upd H p o) := fun b u e => by rw [upd_ne (ne_of_none e hp)]; exact e
  have nc : ∀ a u, H a = some u → Nt u → G a = none → upd G p o a = none := fun a u h _ n => by
    rw [upd_ne (ne_of_none h hp)]
    exact n
  refine ⟨sg, fun b u e => ?_, r.grow sg sh nc (fun b u e => ?_) (ul_upd r sg nf), fun a o e _ _ => e.mono sh, fun a u h nu => ⟨u, sh a u h, nu⟩, fun a u h nu g => .inl (nc a u h nu g), List.prefix_refl _, fun _ h => .inl h, Nat.le_refl _, fun _ => ⟨rfl, fun a _ o e => e.mono sh⟩, Stab.refl _⟩
  · by_cases hb : b = p
    · subst hb; rw [upd_same] at e; exact .inl (by rw [upd_same]; exact e)
    · rw [upd_ne hb] at e; exact (s _ _ e).mono sh
  · by_cases hb : b = p
    · subst hb; rw [upd_same] at e; cases e; exact no
    · rw [upd_ne hb] at e; exact r.nt b u e
/-- one new object, not frozen -/
theorem Nx.new (s : Sm G H) (r : RelW K C G H ws w) {p : Addr} {o : HO} (hp : H p = none) (nf : ∀ q u, o ≠ .frz q u := by intro _ _ h; cases h) : Nx K C G H ws G (upd H p o) ws w := by
  have sh : Same H (upd H p o) := fun b u e => by rw [upd_ne (ne_of_none e hp)]; exact e
  exact ⟨fun _ _ h => h, s.trans sh, r.grow (fun _ _ h => h) sh (fun _ _ _ _ h => h) r.nt (ul_upd r (fun _ _ h => h) nf), fun a o e _ _ => e.mono sh, fun a u h nu => ⟨u, sh a u h, nu⟩, fun _ _ _ _ h => .inl h, List.prefix_refl _, fun _ h => .inl h, Nat.le_refl _, fun _ => ⟨rfl, fun a _ o e => e.mono sh⟩, Stab.refl _⟩
theorem RV.move {v : V} {x : Val} (h : RV K G H ws v x) (n : Nx K C G H ws G' H' ws' w') (hx : x.m = .wd → ws'.n = ws.n) : RV K G' H' ws' v x := by
  unfold RV at h ⊢
  obtain ⟨m, d⟩ := x
  have go : (∃ a, v = .ref a ∧ G a = none ∧ a ∉ regs ws ∧ Unf K G H (io ws) a d) → ∃ a, v = .ref a ∧ G' a = none ∧ a ∉ regs ws' ∧ Unf K G' H' (io ws') a d := by
    rintro ⟨a, e, g, nr, u⟩
    obtain ⟨o, ho, c⟩ := u.there
    obtain ⟨o1, e1, c1⟩ := ho.at' (nt_cont c)
    have kp := n.keep a o ho (nt_cont c) nr
    have gn : G' a = none := by
      rcases n.nocap a o1 e1 c1 g with z | ⟨xs, z⟩
      · exact z
      · rcases kp with kp | ⟨_, q, kp⟩
        · rw [kp] at z; cases z; exact c.elim
        · rw [kp] at z; cases z
    refine ⟨a, e, gn, fun hr => ?_, u.move n.gg n.io fun o' e => n.keep a o' e (ho.nt2 (nt_cont c) e) nr⟩
    rcases n.fresh a hr with z | z
    · exact nr z
    · exact z o1 e1 c1
  cases m with
  | fz => exact Rep.mono n.gg n.io h
  | nw => exact go h
  | bo => exact go h
  | wd =>
    obtain ⟨a, e, g, hr, u⟩ := h
    obtain ⟨e2, k⟩ := n.qt (hx rfl)
    obtain ⟨o, ho, c⟩ := u.there
    obtain ⟨o1, e1, c1⟩ := ho.at' (nt_cont c)
    subst e2
    exact ⟨a, e, n.rw.out a hr, hr, u.move n.gg n.io fun o e' => k a hr o e'⟩
end
/-! ### the state of a body -/
/-- the state at the entry -/
structure En where
  H : Hp
  G : Hp
  ws : Ws
structure St (K : PySem.W.Frag) (C : Ca) (e : En) (σ : L2.St) (H G : Hp) (ws : Ws) (ρ : Env) (w : W) : Prop where
  nx0 : Nx K C e.G e.H e.ws G H ws w
  len : σ.length = ρ.length
  sl : ∀ (i : Nat) x, ρ[i]? = some (some x) → ∃ v, σ[i]? = some (some v) ∧ RV K G H ws v x ∧ (x.m = .fz ∨ x.m = .nw)
  own : ∀ (i : Nat) x a, ρ[i]? = some (some x) → x.m = .nw → σ[i]? = some (some (.ref a)) → Fr e.H a
  ap : ∀ (i j : Nat) x y a, ρ[i]? = some (some x) → ρ[j]? = some (some y) → x.m = .nw → y.m = .nw → σ[i]? = some (some (.ref a)) → σ[j]? = some (some (.ref a)) → i = j
section
variable {K : PySem.W.Frag} {C : Ca} {e : En} {G H G' H' : Hp} {ws ws' : Ws} {w w' : W} {σ : L2.St} {ρ : Env}
theorem St.sub (s : St K C e σ H G ws ρ w) : Sm G H := s.nx0.sub
theorem St.rw (s : St K C e σ H G ws ρ w) : RelW K C G H ws w := s.nx0.rw
theorem St.next (s : St K C e σ H G ws ρ w) (n : Nx K C G H ws G' H' ws' w') : St K C e σ H' G' ws' ρ w' where
  nx0 := s.nx0.trans n
  len := s.len
  sl := fun i x e => by
    obtain ⟨v, h1, h2, h3⟩ := s.sl i x e
    exact ⟨v, h1, h2.move n (fun q => by rcases h3 with z | z <;> rw [z] at q <;> cases q), h3⟩
  own := s.own
  ap := s.ap
theorem St.nx (s : St K C e σ H G ws ρ w) : Nx K C G H ws G H ws w := Nx.refl s.sub s.rw
end
/-! ### what an error is -/
/-- where the classes of errors stand -/
abbrev Cm := String → Option Addr
def XRel (K : PySem.W.Frag) (cm : Cm) (G H : Hp) (ι : List Addr) (x : Xc) (cls : Value) (d : Option Addr) : Prop :=
  ∃ c, cm x.c = some c ∧ cls = .ref c ∧ (x.fs = [] ∧ d = none ∨ x.fs ≠ [] ∧ ∃ dd vfs, d = some dd ∧ H dd = some (.xd vfs) ∧ Paired (fun (p : Str × V) (q : Str × D) => p.1 = q.1 ∧ Rep K G ι p.2 q.2) vfs x.fs)
/-- the parameters of all that follows: the written part, the class of objects, the classes of errors -/
structure Pm where
  K : PySem.W.Frag
  C : Ca
  cm : Cm
def NewOk (H : Hp) (v : V) (x : Val) : Prop := x.m = .nw → ∀ a, v = .ref a → Fr H a
/-- what an expression promises: E: what is wanted of an error -/
def PostE (P : Pm) (E : Value → Option Addr → Hp → Prop) (H G : Hp) (ws : Ws) (Q : VK) : R Val → Prop
  | .ok x w' => ∀ v H' G' ws', Nx P.K P.C G H ws G' H' ws' w' → RV P.K G' H' ws' v x → NewOk H v x → Q v H'
  | .ex x w' => ∀ cls d H' G' ws', Nx P.K P.C G H ws G' H' ws' w' → XRel P.K P.cm G' H' (io ws') x cls d → E cls d H'
  | .bad => False
def PostT (P : Pm) (E : Value → Option Addr → Hp → Prop) (H G : Hp) (ws : Ws) (Q : Bool → Hp → Prop) : R Bool → Prop
  | .ok b w' => ∀ H' G' ws', Nx P.K P.C G H ws G' H' ws' w' → Q b H'
  | .ex x w' => ∀ cls d H' G' ws', Nx P.K P.C G H ws G' H' ws' w' → XRel P.K P.cm G' H' (io ws') x cls d → E cls d H'
  | .bad => False
inductive RVs (K : PySem.W.Frag) (G H : Hp) (ws : Ws) : List V → List Val → Prop
  | nil : RVs K G H ws [] []
  | cons {v : V} {x : Val} {vs : List V} {xs : List Val} : RV K G H ws v x → RVs K G H ws vs xs → RVs K G H ws (v :: vs) (x :: xs)
/-- the new ones stand apart, and are new -/
def NewsOk (H : Hp) : List V → List Val → Prop
  | v :: vs, x :: xs => NewOk H v x ∧ (x.m = .nw → ∀ (i : Nat) y, xs[i]? = some y → y.m = .nw → vs[i]? ≠ some v) ∧ NewsOk H vs xs
  | _, _ => True
def PostA (P : Pm) (E : Value → Option Addr → Hp → Prop) (H G : Hp) (ws : Ws) (Q : List V → Hp → Prop) : R (List Val) → Prop
  | .ok xs w' => ∀ vs H' G' ws', Nx P.K P.C G H ws G' H' ws' w' → RVs P.K G' H' ws' vs xs → NewsOk H vs xs → Q vs H'
  | .ex x w' => ∀ cls d H' G' ws', Nx P.K P.C G H ws G' H' ws' w' → XRel P.K P.cm G' H' (io ws') x cls d → E cls d H'
  | .bad => False
def EvE (P : Pm) (H0 : En) (Wi : WX) (te : TE) (f : DE) : Prop := ∀ σ H G ws ρ w (Q : VK), St P.K P.C H0 σ H G ws ρ w → PostE P (fun c d H' => Wi c d σ H') H G ws Q (f ρ w) → te σ H Q
def EvT (P : Pm) (H0 : En) (Wi : WX) (te : TT) (f : DT) : Prop := ∀ σ H G ws ρ w (Q : Bool → Hp → Prop), St P.K P.C H0 σ H G ws ρ w → PostT P (fun c d H' => Wi c d σ H') H G ws Q (f ρ w) → te σ H Q
def EvA (P : Pm) (H0 : En) (Wi : WX) (te : TA) (f : DA) : Prop := ∀ σ H G ws ρ w (Q : List V → Hp → Prop), St P.K P.C H0 σ H G ws ρ w → PostA P (fun c d H' => Wi c d σ H') H G ws Q (f ρ w) → te σ H Q
end DL
namespace DL
open PySem L2
section
variable {P : Pm} {E : Value → Option Addr → Hp → Prop} {H G H1 G1 : Hp} {ws ws1 : Ws} {w1 : W}
theorem newOk_back {v : V} {x : Val} (n : Nx P.K P.C G H ws G1 H1 ws1 w1) (h : NewOk H1 v x) : NewOk H v x := fun e a ea => by
  have := h e a ea
  intro o q nt
  obtain ⟨o', e', nt'⟩ := n.alive a o q nt
  exact this o' e' nt'
theorem newsOk_back (n : Nx P.K P.C G H ws G1 H1 ws1 w1) : ∀ {vs : List V} {xs : List Val}, NewsOk H1 vs xs → NewsOk H vs xs
  | [], _, _ => trivial
  | _ :: _, [], _ => trivial
  | _ :: _, _ :: _, h => ⟨newOk_back n h.1, h.2.1, newsOk_back n h.2.2⟩
theorem PostE.after {Q : VK} {r : R Val} (n : Nx P.K P.C G H ws G1 H1 ws1 w1) (h : PostE P E H G ws Q r) : PostE P E H1 G1 ws1 Q r := by
  cases r with
  | ok x w => exact fun v H' G' ws' n2 r k => h v H' G' ws' (n.trans n2) r (newOk_back n k)
  | ex x w => exact fun c d H' G' ws' n2 r => h c d H' G' ws' (n.trans n2) r
  | bad => exact h
theorem PostT.after {Q : Bool → Hp → Prop} {r : R Bool} (n : Nx P.K P.C G H ws G1 H1 ws1 w1) (h : PostT P E H G ws Q r) : PostT P E H1 G1 ws1 Q r := by
  cases r with
  | ok x w => exact fun H' G' ws' n2 => h H' G' ws' (n.trans n2)
  | ex x w => exact fun c d H' G' ws' n2 r => h c d H' G' ws' (n.trans n2) r
  | bad => exact h
theorem PostA.after {Q : List V → Hp → Prop} {r : R (List Val)} (n : Nx P.K P.C G H ws G1 H1 ws1 w1) (h : PostA P E H G ws Q r) : PostA P E H1 G1 ws1 Q r := by
  cases r with
  | ok x w => exact fun v H' G' ws' n2 r k => h v H' G' ws' (n.trans n2) r (newsOk_back n k)
  | ex x w => exact fun c d H' G' ws' n2 r => h c d H' G' ws' (n.trans n2) r
  | bad => exact h
end
section
variable {P : Pm} {H0 : En} {Wi : WX} {ta tb tc : TE} {fa fb fc : DE}
/-- go on behind an expression -/
theorem EvE.thn (ha : EvE P H0 Wi ta fa) {σ : L2.St} {H G : Hp} {ws : Ws} {ρ : Env} {w : W} {Q : VK} (st : St P.K P.C H0 σ H G ws ρ w)
    (hx : ∀ x w', fa ρ w = .ex x w' → PostE P (fun c d H' => Wi c d σ H') H G ws Q (.ex x w')) (hb : fa ρ w ≠ .bad)
    (hk : ∀ x w', fa ρ w = .ok x w' → ∀ v H' G' ws', Nx P.K P.C G H ws G' H' ws' w' → RV P.K G' H' ws' v x → NewOk H v x → Q v H') : ta σ H Q := by
  refine ha σ H G ws ρ w Q st ?_
  cases e : fa ρ w with
  | ok x w' => exact hk x w' e
  | ex x w' => exact hx x w' e
  | bad => exact absurd e hb
/-- a two-place operation upon values -/
def ROp (P : Pm) (r : R2) (g : Val → Val → W → R Val) : Prop := ∀ H G ws w vx vy x y (Q : VK), Sm G H → RelW P.K P.C G H ws w → RV P.K G H ws vx x → RV P.K G H ws vy y → PostE P (fun _ _ _ => False) H G ws Q (g x y w) → r vx vy H Q
def RUn (P : Pm) (r : V → Hp → VK → Prop) (g : Val → W → R Val) : Prop := ∀ H G ws w vx x (Q : VK), Sm G H → RelW P.K P.C G H ws w → RV P.K G H ws vx x → PostE P (fun _ _ _ => False) H G ws Q (g x w) → r vx H Q
def RCall (P : Pm) (r : List V → Hp → VK → Prop) (g : List Val → W → R Val) : Prop := ∀ H G ws w vs xs (Q : VK), Sm G H → RelW P.K P.C G H ws w → RVs P.K G H ws vs xs → PostE P (fun _ _ _ => False) H G ws Q (g xs w) → r vs H Q
/-- a field's thing that was seen ahead must stand as it stood -/
def chk {α : Type} (x : Val) (w w' : W) (r : R α) : R α := if x.m = .wd ∧ w'.n ≠ w.n then .bad else r
theorem chk_wd {α : Type} {x : Val} {w w' : W} {r : R α} (h : chk x w w' r ≠ .bad) : (x.m = .wd → w'.n = w.n) ∧ chk x w w' r = r := by
  unfold chk at h ⊢
  by_cases q : x.m = .wd ∧ w'.n ≠ w.n
  · rw [if_pos q] at h; exact absurd rfl h
  · rw [if_neg q]
    exact ⟨fun a => Classical.byContradiction fun b => q ⟨a, b⟩, rfl⟩
theorem PostE.chk {E : Value → Option Addr → Hp → Prop} {H G : Hp} {ws : Ws} {Q : VK} {x : Val} {w w' : W} {r : R Val} (h : PostE P E H G ws Q (DL.chk x w w' r)) : (x.m = .wd → w'.n = w.n) ∧ PostE P E H G ws Q r := by
  have hb : DL.chk x w w' r ≠ .bad := fun e => by rw [e] at h; exact h
  obtain ⟨a, b⟩ := chk_wd hb
  rw [b] at h
  exact ⟨a, h⟩
theorem PostA.chk {E : Value → Option Addr → Hp → Prop} {H G : Hp} {ws : Ws} {Q : List V → Hp → Prop} {x : Val} {w w' : W} {r : R (List Val)} (h : PostA P E H G ws Q (DL.chk x w w' r)) : (x.m = .wd → w'.n = w.n) ∧ PostA P E H G ws Q r := by
  have hb : DL.chk x w w' r ≠ .bad := fun e => by rw [e] at h; exact h
  obtain ⟨a, b⟩ := chk_wd hb
  rw [b] at h
  exact ⟨a, h⟩
theorem Nx.same {K : PySem.W.Frag} {C : Ca} {G H G' H' : Hp} {ws ws' : Ws} {w w' : W} (r : RelW K C G H ws w) (n : Nx K C G H ws G' H' ws' w') (h : w'.n = w.n) : ws'.n = ws.n := by rw [← r.nn, ← n.rw.nn]; exact h
def dOp (g : Val → Val → W → R Val) (fa fb : DE) : DE := fun ρ w => (fa ρ w).bind fun x w1 => (fb ρ w1).bind fun y w2 => chk x w1 w2 (g x y w2)
def dUn (g : Val → W → R Val) (fa : DE) : DE := fun ρ w => (fa ρ w).bind fun x w => g x w
def dCB (g : List Val → W → R Val) (fa : DA) : DE := fun ρ w => (fa ρ w).bind fun x w => g x w
theorem PostE.noex {E E' : Value → Option Addr → Hp → Prop} {H G : Hp} {ws : Ws} {Q : VK} {r : R Val} (h : PostE P E H G ws Q r) (n : ∀ x w, r ≠ .ex x w) : PostE P E' H G ws Q r := by
  cases r with
  | ok x w => exact h
  | ex x w => exact absurd rfl (n x w)
  | bad => exact h
theorem ev_op {r : R2} {g : Val → Val → W → R Val} (ha : EvE P H0 Wi ta fa) (hb : EvE P H0 Wi tb fb) (hr : ROp P r g) (hn : ∀ x y w e w', g x y w ≠ .ex e w') : EvE P H0 Wi (tOp r ta tb) (dOp g fa fb) := by
  intro σ H G ws ρ w Q st h
  unfold dOp at h
  refine ha σ H G ws ρ w _ st ?_
  cases e : fa ρ w with
  | bad => rw [e] at h; exact h
  | ex x w' => rw [e] at h; exact h
  | ok x w' =>
    intro v H1 G1 ws1 n1 r1 k1
    rw [e] at h
    have h : PostE P _ H G ws Q ((fb ρ w').bind fun y w2 => chk x w' w2 (g x y w2)) := h
    refine hb σ H1 G1 ws1 ρ w' _ (st.next n1) ?_
    cases e2 : fb ρ w' with
    | bad => rw [e2] at h; exact h
    | ex y w2 => rw [e2] at h; exact PostE.after n1 h
    | ok y w2 =>
      intro v2 H2 G2 ws2 n2 r2 k2
      rw [e2] at h
      obtain ⟨hx, h⟩ := PostE.chk h
      exact hr H2 G2 ws2 w2 v v2 x y Q n2.sub n2.rw (r1.move n2 fun z => n2.same n1.rw (hx z)) r2 ((PostE.after (n1.trans n2) h).noex fun _ _ => hn _ _ _ _ _)
theorem ev_un {r : V → Hp → VK → Prop} {g : Val → W → R Val} (ha : EvE P H0 Wi ta fa) (hr : RUn P r g) (hn : ∀ x w e w', g x w ≠ .ex e w') : EvE P H0 Wi (tUn r ta) (dUn g fa) := by
  intro σ H G ws ρ w Q st h
  unfold dUn at h
  refine ha σ H G ws ρ w _ st ?_
  cases e : fa ρ w with
  | bad => rw [e] at h; exact h
  | ex x w' => rw [e] at h; exact h
  | ok x w' =>
    intro v H1 G1 ws1 n1 r1 k1
    rw [e] at h
    exact hr H1 G1 ws1 w' v x Q n1.sub n1.rw r1 ((PostE.after n1 h).noex fun _ _ => hn _ _ _ _)
theorem ev_cb {r : List V → Hp → VK → Prop} {g : List Val → W → R Val} {ta : TA} {fa : DA} (ha : EvA P H0 Wi ta fa) (hr : RCall P r g) (hn : ∀ x w e w', g x w ≠ .ex e w') : EvE P H0 Wi (tCB r ta) (dCB g fa) := by
  intro σ H G ws ρ w Q st h
  unfold dCB at h
  refine ha σ H G ws ρ w _ st ?_
  cases e : fa ρ w with
  | bad => rw [e] at h; exact h
  | ex x w' => rw [e] at h; exact h
  | ok x w' =>
    intro v H1 G1 ws1 n1 r1 k1
    rw [e] at h
    exact hr H1 G1 ws1 w' v x Q n1.sub n1.rw r1 ((PostE.after n1 h).noex fun _ _ => hn _ _ _ _)
/-! names, constants -/
def dVar (i : Nat) : DE := fun ρ w => match ρ[i]? with
  | some (some x) => .ok ⟨if x.m = .nw then .bo else x.m, x.d⟩ w
  | _ => .bad
theorem fz_nw {H : Hp} {v : V} {d : D} : NewOk H v (fz d) := fun z => by cases z
def dC (d : D) : DE := fun _ w => .ok (fz d) w
theorem ev_var {i : Nat} : EvE P H0 Wi (tVar i) (dVar i) := by
  intro σ H G ws ρ w Q st h
  unfold dVar at h
  cases e : ρ[i]? with
  | none => rw [e] at h; exact h.elim
  | some o =>
    cases o with
    | none => rw [e] at h; exact h.elim
    | some x =>
      rw [e] at h
      obtain ⟨v, h1, h2, h3⟩ := st.sl i x e
      refine ⟨v, h1, h v H G ws st.nx ?_ ?_⟩
      · rcases h3 with z | z
        · rw [if_neg (by rw [z]; decide)]; exact h2
        · rw [if_pos z]
          unfold RV at h2 ⊢
          rw [z] at h2
          exact h2
      · intro q
        exfalso
        have q : (if x.m = .nw then Md.bo else x.m) = .nw := q
        rcases h3 with z | z
        · rw [if_neg (by rw [z]; decide), z] at q; cases q
        · rw [if_pos z] at q; cases q
theorem ev_c {v : V} {d : D} (h : ∀ G ι, Rep P.K G ι v d) : EvE P H0 Wi (tC v) (dC d) := fun σ H G ws ρ w Q st k => k v H G ws st.nx (h _ _) fz_nw
theorem ev_int {i : Int} : EvE P H0 Wi (tC (.int i)) (dC (.int i)) := ev_c fun _ _ => .int i
theorem ev_bl {i : Bool} : EvE P H0 Wi (tC (.bl i)) (dC (.bl i)) := ev_c fun _ _ => .bl i
theorem ev_str {i : Str} : EvE P H0 Wi (tC (.str i)) (dC (.str i)) := ev_c fun _ _ => .str i
theorem ev_non : EvE P H0 Wi (tC .non) (dC .non) := ev_c fun _ _ => .non
/-! ints -/
theorem fz_q {H G : Hp} {ws : Ws} {w : W} {Q : VK} {v : V} {d : D} {E : Value → Option Addr → Hp → Prop} (s : Sm G H) (r : RelW P.K P.C G H ws w) (h : PostE P E H G ws Q (.ok (fz d) w)) (k : Rep P.K G (io ws) v d) : Q v H := h v H G ws (Nx.refl s r) k fz_nw
def gI (c : Int → Int → Prop) [∀ i j, Decidable (c i j)] (g : Int → Int → D) : Val → Val → W → R Val := fun x y w => match x.d, y.d with
  | .int i, .int j => if c i j then .ok (fz (g i j)) w else .bad
  | _, _ => .bad
/-- the value seen as an int -/
theorem rv_int {K : PySem.W.Frag} {G H : Hp} {ws : Ws} {v : V} {m : Md} {i : Int} (h : RV K G H ws v ⟨m, .int i⟩) : v = .int i := by
  unfold RV at h
  cases m with
  | fz => cases h; rfl
  | nw => obtain ⟨a, _, _, _, u⟩ := h; cases u
  | bo => obtain ⟨a, _, _, _, u⟩ := h; cases u
  | wd => obtain ⟨a, _, _, _, u⟩ := h; cases u
theorem rv_str {K : PySem.W.Frag} {G H : Hp} {ws : Ws} {v : V} {m : Md} {i : Str} (h : RV K G H ws v ⟨m, .str i⟩) : v = .str i := by
  unfold RV at h
  cases m with
  | fz => cases h; rfl
  | nw => obtain ⟨a, _, _, _, u⟩ := h; cases u
  | bo => obtain ⟨a, _, _, _, u⟩ := h; cases u
  | wd => obtain ⟨a, _, _, _, u⟩ := h; cases u
theorem rv_bl {K : PySem.W.Frag} {G H : Hp} {ws : Ws} {v : V} {m : Md} {i : Bool} (h : RV K G H ws v ⟨m, .bl i⟩) : v = .bl i := by
  unfold RV at h
  cases m with
  | fz => cases h; rfl
  | nw => obtain ⟨a, _, _, _, u⟩ := h; cases u
  | bo => obtain ⟨a, _, _, _, u⟩ := h; cases u
  | wd => obtain ⟨a, _, _, _, u⟩ := h; cases u
theorem rv_non {K : PySem.W.Frag} {G H : Hp} {ws : Ws} {v : V} {m : Md} (h : RV K G H ws v ⟨m, .non⟩) : v = .non := by
  unfold RV at h
  cases m with
  | fz => cases h; rfl
  | nw => obtain ⟨a, _, _, _, u⟩ := h; cases u
  | bo => obtain ⟨a, _, _, _, u⟩ := h; cases u
  | wd => obtain ⟨a, _, _, _, u⟩ := h; cases u
theorem rv_tup {K : PySem.W.Frag} {G H : Hp} {ws : Ws} {v : V} {m : Md} {ds : List D} (s : Sm G H) (h : RV K G H ws v ⟨m, .tup ds⟩) : ∃ a vs, v = .ref a ∧ SqT K G a vs ∧ SqT K H a vs ∧ Reps K G (io ws) vs ds := by
  unfold RV at h
  cases m with
  | fz => cases h with | tup q r => exact ⟨_, _, rfl, q, s.sqT q, r⟩
  | nw => obtain ⟨a, _, _, _, u⟩ := h; cases u
  | bo => obtain ⟨a, _, _, _, u⟩ := h; cases u
  | wd => obtain ⟨a, _, _, _, u⟩ := h; cases u
theorem rv_lst {K : PySem.W.Frag} {G H : Hp} {ws : Ws} {v : V} {m : Md} {ds : List D} (s : Sm G H) (h : RV K G H ws v ⟨m, .lst ds⟩) : ∃ a vs, v = .ref a ∧ H a = some (.lst vs) ∧ Reps K G (io ws) vs ds := by
  unfold RV at h
  cases m with
  | fz => cases h with | lst q r => exact ⟨_, _, rfl, s.eq q, r⟩
  | nw => obtain ⟨a, e, _, _, u⟩ := h; cases u with | lst q r => exact ⟨a, _, e, q, r⟩
  | bo => obtain ⟨a, e, _, _, u⟩ := h; cases u with | lst q r => exact ⟨a, _, e, q, r⟩
  | wd => obtain ⟨a, e, _, _, u⟩ := h; cases u with | lst q r => exact ⟨a, _, e, q, r⟩
theorem rop_I {c : Int → Int → Prop} [∀ i j, Decidable (c i j)] {g : Int → Int → V} {gd : Int → Int → D} (hr : ∀ i j K G ι, Rep K G ι (g i j) (gd i j)) : ROp P (rI c g) (gI c gd) := by
  intro H G ws w vx vy x y Q s r hx hy h
  obtain ⟨m, d⟩ := x
  obtain ⟨m2, d2⟩ := y
  cases d <;> try exact h.elim
  cases d2 <;> try exact h.elim
  rename_i i j
  have ex := rv_int hx
  have ey := rv_int hy
  subst ex ey
  have h : PostE P _ H G ws Q (if c i j then .ok (fz (gd i j)) w else .bad) := h
  by_cases hc : c i j
  · rw [if_pos hc] at h
    exact ⟨i, j, rfl, rfl, hc, fz_q s r h (hr i j _ _ _)⟩
  · rw [if_neg hc] at h
    exact h.elim
def gI0 (g : Int → Int → D) : Val → Val → W → R Val := fun x y w => match x.d, y.d with
  | .int i, .int j => .ok (fz (g i j)) w
  | _, _ => .bad
theorem rop_I0 {g : Int → Int → V} {gd : Int → Int → D} (hr : ∀ i j K G ι, Rep K G ι (g i j) (gd i j)) : ROp P (rI0 g) (gI0 gd) := by
  intro H G ws w vx vy x y Q s r hx hy h
  obtain ⟨m, d⟩ := x
  obtain ⟨m2, d2⟩ := y
  cases d <;> try exact h.elim
  cases d2 <;> try exact h.elim
  rename_i i j
  have ex := rv_int hx
  have ey := rv_int hy
  subst ex ey
  exact ⟨i, j, rfl, rfl, fz_q s r h (hr i j _ _ _)⟩
theorem gI_nx {c : Int → Int → Prop} [∀ i j, Decidable (c i j)] {g : Int → Int → D} (x y : Val) (w : W) (e : Xc) (w' : W) : gI c g x y w ≠ .ex e w' := by
  unfold gI
  split
  · split <;> exact fun h => nomatch h
  · exact fun h => nomatch h
theorem gI0_nx {g : Int → Int → D} (x y : Val) (w : W) (e : Xc) (w' : W) : gI0 g x y w ≠ .ex e w' := by
  unfold gI0
  split <;> exact fun h => nomatch h
end
end DL
namespace DL
open PySem L2
section
variable {P : Pm}
/-- the plain data that == looks through: no dict, no object; at most n deep -/
def plN : Nat → D → Bool
  | _, .non | _, .bl _ | _, .int _ => true
  | _, .str x => PyData.strOk x
  | 0, _ => false
  | n + 1, .tup xs | n + 1, .lst xs => xs.all (plN n)
  | _ + 1, .scr _ => true
  | _, _ => false
def pl (d : D) : Bool := plN 10 d
mutual
def toP : D → PyData
  | .non => .none
  | .bl b => .bool b
  | .int i => .int i
  | .str x => .str x
  | .tup xs => .tuple (toPs xs)
  | .lst xs => .list (toPs xs)
  | .scr ns => .list (ns.map .int)
  | .dK _ => .none
  | .dT _ => .none
  | .obj _ => .none
  | .exc _ => .none
def toPs : List D → List PyData
  | [] => []
  | d :: ds => toP d :: toPs ds
end
theorem dpAll_ints {K : PySem.W.Frag} {H : Hp} : ∀ ns : List Int, DpAll K H (ns.map V.int) (ns.map .int)
  | [] => .nil
  | n :: r => .cons (.int n) (dpAll_ints r)
theorem pl_dp {K : PySem.W.Frag} {G H : Hp} {ι : List Addr} (s : Sm G H) : ∀ (n : Nat) {v : V} {d : D}, Rep K G ι v d → plN n d = true → Dp K H v (toP d) ∧ (toP d).canLay0 = true ∧ (toP d).depth ≤ n := by
  intro n
  induction n with
  | zero =>
    intro v d r h
    cases r with
    | non => exact ⟨.non, rfl, Nat.le_refl _⟩
    | bl b => exact ⟨.bl b, rfl, Nat.le_refl _⟩
    | int b => exact ⟨.int b, rfl, Nat.le_refl _⟩
    | str b => exact ⟨.str b, by simpa [plN, toP, PyData.canLay0] using h, Nat.le_refl _⟩
    | tup _ _ => simp [plN] at h
    | lst _ _ => simp [plN] at h
    | scr _ => simp [plN] at h
    | dK _ _ _ => simp [plN] at h
    | dT _ _ _ => simp [plN] at h
    | obj _ => simp [plN] at h
    | exc => simp [plN] at h
  | succ n ih =>
    intro v d r h
    have go : ∀ {vs : List V} {ds : List D}, Reps K G ι vs ds → ds.all (plN n) = true → DpAll K H vs (toPs ds) ∧ PyData.canLayAll0 (toPs ds) = true ∧ PyData.depthAll (toPs ds) ≤ n := by
      intro vs ds r
      induction ds generalizing vs with
      | nil => intro _; cases r; exact ⟨.nil, rfl, Nat.zero_le _⟩
      | cons d ds ih2 =>
        intro h
        cases r with
        | cons r1 r2 =>
          rw [List.all_cons, Bool.and_eq_true] at h
          obtain ⟨a1, a2, a3⟩ := ih r1 h.1
          obtain ⟨b1, b2, b3⟩ := ih2 r2 h.2
          refine ⟨.cons a1 b1, ?_, ?_⟩
          · simp [toPs, PyData.canLayAll0, a2, b2]
          · simp [toPs, PyData.depthAll]; omega
    cases r with
    | non => exact ⟨.non, rfl, Nat.zero_le _⟩
    | bl b => exact ⟨.bl b, rfl, Nat.zero_le _⟩
    | int b => exact ⟨.int b, rfl, Nat.zero_le _⟩
    | str b => exact ⟨.str b, by simpa [plN, toP, PyData.canLay0] using h, Nat.zero_le _⟩
    | tup q r =>
      obtain ⟨b1, b2, b3⟩ := go r (by simpa [plN] using h)
      exact ⟨.tup (s.sqT q) b1, by simpa [toP, PyData.canLay0] using b2, by simp [toP, PyData.depth]; omega⟩
    | lst q r =>
      obtain ⟨b1, b2, b3⟩ := go r (by simpa [plN] using h)
      exact ⟨.lst (SqL.of (s.eq q)) b1, by simpa [toP, PyData.canLay0] using b2, by simp [toP, PyData.depth]; omega⟩
    | @scr a ns q =>
      refine ⟨.lst (s.seq q) (dpAll_ints ns), ?_, ?_⟩
      · have : ∀ l : List Int, PyData.canLayAll0 (l.map .int) = true := by
          intro l
          induction l with
          | nil => rfl
          | cons a l ih => simp [PyData.canLayAll0, PyData.canLay0, ih]
        simpa [toP, PyData.canLay0] using this ns
      · have : ∀ l : List Int, PyData.depthAll (l.map .int) = 0 := by
          intro l
          induction l with
          | nil => rfl
          | cons a l ih => simp [PyData.depthAll, PyData.depth, ih]
        simp [toP, PyData.depth, this]
    | dK _ _ _ => simp [plN] at h
    | dT _ _ _ => simp [plN] at h
    | obj _ => simp [plN] at h
    | exc => simp [plN] at h
theorem reps_pl {K : PySem.W.Frag} {G H : Hp} {ι : List Addr} (s : Sm G H) {n : Nat} : ∀ {vs : List V} {ds : List D}, Reps K G ι vs ds → ds.all (plN n) = true → DpAll K H vs (toPs ds) ∧ PyData.canLayAll0 (toPs ds) = true ∧ PyData.depthAll (toPs ds) ≤ n
  | _, _, .nil, _ => ⟨.nil, rfl, Nat.zero_le _⟩
  | _, _, .cons r1 r2, h => by
    rw [List.all_cons, Bool.and_eq_true] at h
    obtain ⟨a1, a2, a3⟩ := pl_dp s n r1 h.1
    obtain ⟨b1, b2, b3⟩ := reps_pl s r2 h.2
    refine ⟨.cons a1 b1, ?_, ?_⟩
    · simp [toPs, PyData.canLayAll0, a2, b2]
    · simp [toPs, PyData.depthAll]; omega
/-- a value of any standing, as == sees it -/
theorem rv_dp {K : PySem.W.Frag} {G H : Hp} {ws : Ws} {v : V} {x : Val} (s : Sm G H) (h : RV K G H ws v x) (p : pl x.d = true) : Dp K H v (toP x.d) ∧ SeqAt.shaped (toP x.d) = true := by
  obtain ⟨m, d⟩ := x
  have fin : Dp K H v (toP d) ∧ (toP d).canLay0 = true ∧ (toP d).depth ≤ 10 → Dp K H v (toP d) ∧ SeqAt.shaped (toP d) = true := fun ⟨a, b, c⟩ => ⟨a, by
    unfold SeqAt.shaped
    rw [b, Bool.true_and]
    exact decide_eq_true (by omega)⟩
  have un : (∃ a, v = .ref a ∧ Unf K G H (io ws) a d) → Dp K H v (toP d) ∧ SeqAt.shaped (toP d) = true := by
    rintro ⟨a, rfl, u⟩
    have p : plN 10 d = true := p
    cases u with
    | lst q r =>
      obtain ⟨b1, b2, b3⟩ := reps_pl s (n := 9) r (by simpa [plN] using p)
      exact fin ⟨.lst (SqL.of q) b1, by simpa [toP, PyData.canLay0] using b2, by simp [toP, PyData.depth]; omega⟩
    | dK _ _ _ => simp [plN] at p
    | dT _ _ _ => simp [plN] at p
  unfold RV at h
  cases m with
  | fz => exact fin (pl_dp s 10 h p)
  | nw => obtain ⟨a, e, _, _, u⟩ := h; exact un ⟨a, e, u⟩
  | bo => obtain ⟨a, e, _, _, u⟩ := h; exact un ⟨a, e, u⟩
  | wd => obtain ⟨a, e, _, _, u⟩ := h; exact un ⟨a, e, u⟩
mutual
/-- == -/
def eqD : D → D → Bool
  | .non, .non => true
  | .bl a, .bl b => a == b
  | .bl a, .int j => (if a then 1 else 0) == j
  | .int i, .bl b => i == (if b then 1 else 0)
  | .int i, .int j => i == j
  | .str x, .str y => x == y
  | .lst xs, .lst ys => eqDs xs ys
  | .tup xs, .tup ys => eqDs xs ys
  | .scr ns, .scr ms => ns == ms
  | .scr ns, .lst ys => PyData.eqvAll (ns.map .int) (toPs ys)
  | .lst xs, .scr ms => PyData.eqvAll (toPs xs) (ms.map .int)
  | _, _ => false
def eqDs : List D → List D → Bool
  | [], [] => true
  | x :: xs, y :: ys => eqD x y && eqDs xs ys
  | _, _ => false
end
theorem toPs_ints : ∀ ns : List Int, toPs (ns.map .int) = ns.map .int
  | [] => rfl
  | n :: r => by rw [List.map_cons, List.map_cons, toPs, toPs_ints r]; rfl
theorem eqv_ints : ∀ ns ms : List Int, PyData.eqvAll (ns.map .int) (ms.map .int) = (ns == ms)
  | [], [] => rfl
  | [], _ :: _ => rfl
  | _ :: _, [] => rfl
  | n :: r, m :: q => by
    simp only [List.map_cons, PyData.eqvAll, PyData.eqv, eqv_ints r q]
    rfl
/-- a well-founded look at plain data -/
theorem eqD_of : ∀ (n : Nat) (x y : D), plN n x = true → plN n y = true → PyData.eqv (toP x) (toP y) = eqD x y := by
  intro n
  induction n with
  | zero =>
    intro x y hx hy
    cases x <;> (try simp [plN] at hx) <;> cases y <;> (try simp [plN] at hy) <;> first | rfl | (simp only [toP, PyData.eqv, eqD])
  | succ n ih =>
    have go : ∀ xs ys : List D, xs.all (plN n) = true → ys.all (plN n) = true → PyData.eqvAll (toPs xs) (toPs ys) = eqDs xs ys := by
      intro xs
      induction xs with
      | nil => intro ys _ _; cases ys <;> simp only [toPs, PyData.eqvAll, eqDs]
      | cons x xs ih2 =>
        intro ys hx hy
        rw [List.all_cons, Bool.and_eq_true] at hx
        cases ys with
        | nil => simp only [toPs, PyData.eqvAll, eqDs]
        | cons y ys =>
          rw [List.all_cons, Bool.and_eq_true] at hy
          simp only [toPs, PyData.eqvAll, eqDs, ih x y hx.1 hy.1, ih2 ys hx.2 hy.2]
    have hi : ∀ ns : List Int, (ns.map D.int).all (plN n) = true := fun ns => by
      rw [List.all_map]
      apply List.all_eq_true.mpr
      intro a _
      cases n <;> rfl
    intro x y hx hy
    cases x <;> (try (exfalso; simp [plN] at hx; done)) <;> cases y <;> (try (exfalso; simp [plN] at hy; done)) <;> first
      | rfl
      | (simp only [toP, PyData.eqv, eqD]; done)
      | (simp only [toP, PyData.eqv, eqD]; exact go _ _ (by simpa [plN] using hx) (by simpa [plN] using hy))
      | (simp only [toP, PyData.eqv, eqD]; rw [← toPs_ints]; exact go _ _ (by simpa [plN] using hx) (hi _))
      | (simp only [toP, PyData.eqv, eqD]; rw [← toPs_ints]; exact go _ _ (hi _) (by simpa [plN] using hy))
      | (simp only [toP, PyData.eqv, eqD]; exact eqv_ints _ _)
def gEq (neg : Bool) : Val → Val → W → R Val := fun x y w => if pl x.d && pl y.d then .ok (fz (.bl (neg != eqD x.d y.d))) w else .bad
theorem gEq_nx {neg : Bool} (x y : Val) (w : W) (e : Xc) (w' : W) : gEq neg x y w ≠ .ex e w' := by
  unfold gEq
  split <;> exact fun h => nomatch h
theorem rop_eq : ROp P (rEqD P.K) (gEq false) := by
  intro H G ws w vx vy x y Q s r hx hy h
  unfold gEq at h
  split at h
  · rename_i hp
    rw [Bool.and_eq_true] at hp
    obtain ⟨a1, a2⟩ := rv_dp s hx hp.1
    obtain ⟨b1, b2⟩ := rv_dp s hy hp.2
    refine ⟨_, _, a1, b1, a2, b2, ?_⟩
    rw [eqD_of 10 _ _ hp.1 hp.2]
    exact fz_q s r h (by simpa using Rep.bl _)
  · exact h.elim
theorem rop_ne : ROp P (rNeD P.K) (gEq true) := by
  intro H G ws w vx vy x y Q s r hx hy h
  unfold gEq at h
  split at h
  · rename_i hp
    rw [Bool.and_eq_true] at hp
    obtain ⟨a1, a2⟩ := rv_dp s hx hp.1
    obtain ⟨b1, b2⟩ := rv_dp s hy hp.2
    refine ⟨_, _, a1, b1, a2, b2, ?_⟩
    rw [eqD_of 10 _ _ hp.1 hp.2]
    exact fz_q s r h (by simpa using Rep.bl _)
  · exact h.elim
end
end DL
namespace DL
open PySem L2
section
variable {P : Pm} {H0 : En} {Wi : WX}
noncomputable instance (i j : Int) : Decidable (CMul i j) := Classical.propDecidable _
noncomputable instance (i j : Int) : Decidable (CDivW i j) := Classical.propDecidable _
noncomputable instance (i j : Int) : Decidable (CPow i j) := Classical.propDecidable _
/-- bounds that nothing is to count up to: a range's, a repeated list's -/
def RO (j : Int) : Prop := -(2 ^ 62) ≤ j ∧ j < 2 ^ 62
noncomputable instance (j : Int) : Decidable (RO j) := Classical.propDecidable _
def RO2 (i j : Int) : Prop := -(2 ^ 62) ≤ i ∧ i < 2 ^ 62 ∧ -(2 ^ 62) ≤ j ∧ j < 2 ^ 62
noncomputable instance (i j : Int) : Decidable (RO2 i j) := Classical.propDecidable _
def ROm (n : Nat) (k : Int) : Prop := -(2 ^ 63) ≤ k ∧ k < 2 ^ 63 ∧ n * k.toNat ≤ sizeLine
noncomputable instance (n : Nat) (k : Int) : Decidable (ROm n k) := Classical.propDecidable _
/-- a new list handed on -/
theorem nw_q {H G : Hp} {ws : Ws} {w : W} {Q : VK} {p : Addr} {vs : List V} {ds : List D} {E : Value → Option Addr → Hp → Prop} (s : Sm G H) (r : RelW P.K P.C G H ws w) (h : PostE P E H G ws Q (.ok ⟨.nw, .lst ds⟩ w)) (hp : H p = none) (k : Reps P.K G (io ws) vs ds) : Q (.ref p) (upd H p (.lst vs)) := by
  refine h (.ref p) (upd H p (.lst vs)) G ws (Nx.new s r hp) ?_ (fun _ a e => by cases e; exact Fr.of hp)
  refine ⟨p, rfl, s.free hp, fun hr => ?_, .lst upd_same k⟩
  obtain ⟨o, e, _⟩ := reg_there r hr
  rw [hp] at e; cases e
/-- a new tuple, frozen at once -/
theorem tup_q {H G : Hp} {ws : Ws} {w : W} {Q : VK} {p : Addr} {vs : List V} {ds : List D} {E : Value → Option Addr → Hp → Prop} (s : Sm G H) (r : RelW P.K P.C G H ws w) (h : PostE P E H G ws Q (.ok (fz (.tup ds)) w)) (hp : H p = none) (k : Reps P.K G (io ws) vs ds) : Q (.ref p) (upd H p (.tup vs)) := by
  have n := Nx.put s r (o := .tup vs) hp
  exact h (.ref p) (upd H p (.tup vs)) (upd G p (.tup vs)) ws n (.tup (.inl (.inl upd_same)) (k.mono n.gg (List.prefix_refl _))) fz_nw
/-- + -/
def gAdd : Val → Val → W → R Val := fun x y w => match x.d, y.d with
  | .int i, .int j => .ok (fz (.int (i + j))) w
  | .str a, .str b => if a.length + b.length ≤ sizeLine then .ok (fz (.str (a ++ b))) w else .bad
  | .lst xs, .lst ys => if xs.length + ys.length ≤ sizeLine then .ok ⟨.nw, .lst (xs ++ ys)⟩ w else .bad
  | .tup xs, .tup ys => if xs.isEmpty = false ∧ xs.length + ys.length ≤ sizeLine then .ok (fz (.tup (xs ++ ys))) w else .bad
  | _, _ => .bad
theorem gAdd_nx (x y : Val) (w : W) (e : Xc) (w' : W) : gAdd x y w ≠ .ex e w' := by
  unfold gAdd
  split <;> (try split) <;> exact fun h => nomatch h
def rAddA (K : PySem.W.Frag) : R2 := fun x y H Q => (rI0 (fun i j => .int (i + j))) x y H Q ∨ (fun x y H Q => ∃ i j, x = .str i ∧ y = .str j ∧ i.length + j.length ≤ sizeLine ∧ Q (.str (i ++ j)) H) x y H Q ∨ rCat x y H Q ∨ rCatT K x y H Q
theorem op_addA {X : Cx} : OpR X (binaryOp .Add) (rAddA X.K) := op_add.or (op_add_str.or (op_cat.or op_catT))
theorem Reps.nil_iff {K : PySem.W.Frag} {G : Hp} {ι : List Addr} {vs : List V} {ds : List D} (h : Reps K G ι vs ds) : vs = [] ↔ ds = [] := by
  cases h <;> simp
theorem rop_add : ROp P (rAddA P.K) gAdd := by
  intro H G ws w vx vy x y Q s r hx hy h
  obtain ⟨m, d⟩ := x
  obtain ⟨m2, d2⟩ := y
  cases d <;> try exact h.elim
  · cases d2 <;> try exact h.elim
    rename_i i j
    have ex := rv_int hx
    have ey := rv_int hy
    subst ex ey
    exact .inl ⟨i, j, rfl, rfl, fz_q s r h (.int _)⟩
  · cases d2 <;> try exact h.elim
    rename_i a b
    have ex := rv_str hx
    have ey := rv_str hy
    subst ex ey
    have h : PostE P _ H G ws Q (if a.length + b.length ≤ sizeLine then .ok (fz (.str (a ++ b))) w else .bad) := h
    split at h
    · rename_i hl
      exact .inr (.inl ⟨a, b, rfl, rfl, hl, fz_q s r h (.str _)⟩)
    · exact h.elim
  · cases d2 <;> try exact h.elim
    rename_i xs ys
    obtain ⟨a, vs, rfl, _, q1, r1⟩ := rv_tup s hx
    obtain ⟨b, us, rfl, _, q2, r2⟩ := rv_tup s hy
    have h : PostE P _ H G ws Q (if xs.isEmpty = false ∧ xs.length + ys.length ≤ sizeLine then .ok (fz (.tup (xs ++ ys))) w else .bad) := h
    split at h
    · rename_i hl
      refine .inr (.inr (.inr ⟨a, b, vs, us, rfl, rfl, q1, q2, fun z => ?_, by rw [r1.length, r2.length]; exact hl.2, ?_⟩))
      · rw [r1.nil_iff.mp z] at hl; simp at hl
      · first
          | exact ⟨fun z => fz_q s r h (by rw [r2.nil_iff.mp z, List.append_nil]; exact (by unfold RV at hx; cases m <;> first | exact hx | (obtain ⟨_, _, _, _, u⟩ := hx; cases u) )), fun _ p hp => tup_q s r h hp (r1.append r2)⟩
          | skip
    · exact h.elim
  · cases d2 <;> try exact h.elim
    rename_i xs ys
    obtain ⟨a, vs, rfl, q1, r1⟩ := rv_lst s hx
    obtain ⟨b, us, rfl, q2, r2⟩ := rv_lst s hy
    have h : PostE P _ H G ws Q (if xs.length + ys.length ≤ sizeLine then .ok ⟨.nw, .lst (xs ++ ys)⟩ w else .bad) := h
    split at h
    · rename_i hl
      exact .inr (.inr (.inl ⟨a, b, vs, us, rfl, rfl, q1, q2, by rw [r1.length, r2.length]; exact hl, fun p hp => nw_q s r h hp (r1.append r2)⟩))
    · exact h.elim
end
end DL
namespace DL
open PySem L2
section
variable {P : Pm} {H0 : En} {Wi : WX}
/-- * -/
noncomputable def gMul : Val → Val → W → R Val := fun x y w => match x.d, y.d with
  | .int i, .int j => if CMul i j then .ok (fz (.int (i * j))) w else .bad
  | .lst xs, .int k => if ROm xs.length k then .ok ⟨.nw, .lst (List.replicate k.toNat xs).flatten⟩ w else .bad
  | _, _ => .bad
theorem gMul_nx (x y : Val) (w : W) (e : Xc) (w' : W) : gMul x y w ≠ .ex e w' := by
  unfold gMul
  split <;> (try split) <;> exact fun h => nomatch h
def rMulA : R2 := fun x y H Q => (rI CMul (fun i j => .int (i * j))) x y H Q ∨ rRep x y H Q
theorem op_mulA {X : Cx} : OpR X (binaryOp .Mult) rMulA := op_mul.or op_rep
theorem Reps.rep {K : PySem.W.Frag} {G : Hp} {ι : List Addr} {vs : List V} {ds : List D} (h : Reps K G ι vs ds) : ∀ k : Nat, Reps K G ι (List.replicate k vs).flatten (List.replicate k ds).flatten
  | 0 => .nil
  | k + 1 => by rw [List.replicate_succ, List.replicate_succ, List.flatten_cons, List.flatten_cons]; exact h.append (Reps.rep h k)
theorem rop_mul : ROp P rMulA gMul := by
  intro H G ws w vx vy x y Q s r hx hy h
  obtain ⟨m, d⟩ := x
  obtain ⟨m2, d2⟩ := y
  cases d <;> try exact h.elim
  · cases d2 <;> try exact h.elim
    rename_i i j
    have ex := rv_int hx
    have ey := rv_int hy
    subst ex ey
    have h : PostE P _ H G ws Q (if CMul i j then .ok (fz (.int (i * j))) w else .bad) := h
    split at h
    · rename_i hc
      exact .inl ⟨i, j, rfl, rfl, hc, fz_q s r h (.int _)⟩
    · exact h.elim
  · cases d2 <;> try exact h.elim
    rename_i xs k
    obtain ⟨a, vs, rfl, q1, r1⟩ := rv_lst s hx
    have ey := rv_int hy
    subst ey
    have h : PostE P _ H G ws Q (if ROm xs.length k then .ok ⟨.nw, .lst (List.replicate k.toNat xs).flatten⟩ w else .bad) := h
    split at h
    · rename_i hc
      exact .inr ⟨a, k, vs, rfl, rfl, q1, hc.1, hc.2.1, by rw [r1.length]; exact hc.2.2, fun p hp => nw_q s r h hp (r1.rep _)⟩
    · exact h.elim
/-- in, not in -/
def flD : D → Bool
  | .non | .bl _ | .int _ | .str _ => true
  | _ => false
def sgn : D → Option Nat
  | .str x => if x.cps.size = 1 then x.cps[0]? else none
  | _ => none
def gIn (neg : Bool) : Val → Val → W → R Val := fun x y w => match y.d with
  | .lst ys => if pl x.d && pl (.lst ys) then .ok (fz (.bl (neg != ys.any fun z => eqD z x.d))) w else .bad
  | .tup ys => if flD x.d && ys.all flD then .ok (fz (.bl (neg != ys.any fun z => eqD z x.d))) w else .bad
  | .str z => match sgn x.d with
    | some c => .ok (fz (.bl (neg != decide (c ∈ z.cps.toList)))) w
    | none => .bad
  | _ => .bad
theorem gIn_nx {neg : Bool} (x y : Val) (w : W) (e : Xc) (w' : W) : gIn neg x y w ≠ .ex e w' := by
  unfold gIn
  split <;> (try split) <;> exact fun h => nomatch h
def rInA (K : PySem.W.Frag) : R2 := fun x y H Q => rInD K x y H Q ∨ rIn K false x y H Q ∨ (∃ (c : Nat) (z : Str), x = .str ⟨#[c]⟩ ∧ y = .str z ∧ Q (.bl (decide (c ∈ z.cps.toList))) H)
def rNinA (K : PySem.W.Frag) : R2 := fun x y H Q => rNotInD K x y H Q ∨ rIn K true x y H Q ∨ (∃ (c : Nat) (z : Str), x = .str ⟨#[c]⟩ ∧ y = .str z ∧ Q (.bl (!decide (c ∈ z.cps.toList))) H)
theorem op_inA {X : Cx} (hu : X.A.units + 65 < cLine) : OpR X (compareOp .In) (rInA X.K) := (op_inD hu).or (op_in_seq.or op_in_sign)
theorem op_ninA {X : Cx} (hu : X.A.units + 65 < cLine) : OpR X (compareOp .NotIn) (rNinA X.K) := (op_notInD hu).or (op_notIn_seq.or op_notIn_sign)
theorem any_pl {n : Nat} {d : D} (hd : plN n d = true) : ∀ {ys : List D}, ys.all (plN n) = true → ((toPs ys).any fun z => PyData.eqv z (toP d)) = ys.any fun z => eqD z d
  | [], _ => rfl
  | y :: ys, h => by
    rw [List.all_cons, Bool.and_eq_true] at h
    rw [toPs, List.any_cons, List.any_cons, eqD_of n y d h.1 hd, any_pl hd h.2]
theorem plN_mono : ∀ (n : Nat) (d : D), plN n d = true → plN (n + 1) d = true := by
  intro n
  induction n with
  | zero => intro d h; cases d <;> (try simp [plN] at h) <;> simp_all [plN]
  | succ n ih =>
    intro d h
    cases d with
    | tup xs => simp only [plN, List.all_eq_true] at h ⊢; exact fun x hx => ih x (h x hx)
    | lst xs => simp only [plN, List.all_eq_true] at h ⊢; exact fun x hx => ih x (h x hx)
    | _ => simp_all [plN]
theorem rv_flat {K : PySem.W.Frag} {G H : Hp} {ws : Ws} {v : V} {x : Val} (h : RV K G H ws v x) (p : flD x.d = true) : flatV v = true ∧ Rep K G (io ws) v x.d := by
  obtain ⟨m, d⟩ := x
  cases d <;> (try simp [flD] at p)
  · have e := rv_non h; subst e; exact ⟨rfl, .non⟩
  · have e := rv_bl h; subst e; exact ⟨rfl, .bl _⟩
  · have e := rv_int h; subst e; exact ⟨rfl, .int _⟩
  · have e := rv_str h; subst e; exact ⟨rfl, .str _⟩
theorem rep_flat {K : PySem.W.Frag} {G : Hp} {ι : List Addr} {v : V} {d : D} (h : Rep K G ι v d) (p : flD d = true) : flatV v = true := by
  cases h <;> first | rfl | (simp [flD] at p)
theorem reps_flat {K : PySem.W.Frag} {G : Hp} {ι : List Addr} : ∀ {vs : List V} {ds : List D}, Reps K G ι vs ds → ds.all flD = true → vs.all flatV = true
  | _, _, .nil, _ => rfl
  | _, _, .cons a b, h => by
    rw [List.all_cons, Bool.and_eq_true] at h ⊢
    exact ⟨rep_flat a h.1, reps_flat b h.2⟩
theorem eqV_flat {K : PySem.W.Frag} {G : Hp} {ι : List Addr} {v u : V} {d e : D} (h : Rep K G ι v d) (h2 : Rep K G ι u e) (p : flD d = true) (p2 : flD e = true) : eqV v u = eqD d e := by
  cases h <;> (try (simp [flD] at p; done)) <;> cases h2 <;> (try (simp [flD] at p2; done)) <;> first | rfl | (simp only [eqV, eqD]; done) | (simp [eqV, eqD]; done)
theorem inV_flat {K : PySem.W.Frag} {G : Hp} {ι : List Addr} {u : V} {e : D} (h2 : Rep K G ι u e) (p2 : flD e = true) : ∀ {vs : List V} {ds : List D}, Reps K G ι vs ds → ds.all flD = true → inV u vs = ds.any fun z => eqD z e
  | _, _, .nil, _ => rfl
  | _, _, .cons a b, h => by
    rw [List.all_cons, Bool.and_eq_true] at h
    have ih := inV_flat h2 p2 b h.2
    unfold inV at ih ⊢
    rw [List.any_cons, List.any_cons, eqV_flat a h2 h.1 p2, ih]
theorem sgn_of {d : D} {c : Nat} (h : sgn d = some c) : d = .str ⟨#[c]⟩ := by
  cases d <;> (try (simp [sgn] at h; done))
  rename_i x
  simp only [sgn] at h
  by_cases hs : x.cps.size = 1
  · rw [if_pos hs] at h
    obtain ⟨⟨l⟩⟩ := x
    match l, hs, h with
    | [a], _, h => simp at h; subst h; rfl
  · rw [if_neg hs] at h
    cases h
theorem rop_in : ROp P (rInA P.K) (gIn false) := by
  intro H G ws w vx vy x y Q s r hx hy h
  obtain ⟨m2, d2⟩ := y
  cases d2 <;> try exact h.elim
  · rename_i z
    have ey := rv_str hy
    subst ey
    unfold gIn at h
    dsimp only at h
    split at h
    · rename_i c hc
      obtain ⟨m, d⟩ := x
      have e := sgn_of hc
      simp only at e
      subst e
      have ex := rv_str hx
      subst ex
      exact .inr (.inr ⟨c, z, rfl, rfl, fz_q s r h (by simpa using Rep.bl _)⟩)
    · exact h.elim
  · rename_i ys
    unfold gIn at h
    dsimp only at h
    split at h
    · rename_i hp
      rw [Bool.and_eq_true] at hp
      obtain ⟨a, vs, rfl, _, q1, r1⟩ := rv_tup s hy
      obtain ⟨f1, f2⟩ := rv_flat hx hp.1
      refine .inr (.inl ⟨a, vs, rfl, .inr q1, f1, reps_flat r1 hp.2, ?_⟩)
      rw [inV_flat f2 hp.1 r1 hp.2]
      exact fz_q s r h (by simpa using Rep.bl _)
    · exact h.elim
  · rename_i ys
    unfold gIn at h
    dsimp only at h
    split at h
    · rename_i hp
      rw [Bool.and_eq_true] at hp
      obtain ⟨a1, a2⟩ := rv_dp s hx hp.1
      obtain ⟨b1, b2⟩ := rv_dp s hy hp.2
      refine .inl ⟨_, _, a1, b1, a2, b2, ?_⟩
      have hl : ys.all (plN 10) = true := List.all_eq_true.mpr fun z hz => plN_mono 9 z (by
        have : plN 10 (.lst ys) = true := hp.2
        simp only [plN, List.all_eq_true] at this
        exact this z hz)
      rw [any_pl (n := 10) hp.1 hl]
      exact fz_q s r h (by simpa using Rep.bl _)
    · exact h.elim
theorem rop_nin : ROp P (rNinA P.K) (gIn true) := by
  intro H G ws w vx vy x y Q s r hx hy h
  obtain ⟨m2, d2⟩ := y
  cases d2 <;> try exact h.elim
  · rename_i z
    have ey := rv_str hy
    subst ey
    unfold gIn at h
    dsimp only at h
    split at h
    · rename_i c hc
      obtain ⟨m, d⟩ := x
      have e := sgn_of hc
      simp only at e
      subst e
      have ex := rv_str hx
      subst ex
      exact .inr (.inr ⟨c, z, rfl, rfl, fz_q s r h (by simpa using Rep.bl _)⟩)
    · exact h.elim
  · rename_i ys
    unfold gIn at h
    dsimp only at h
    split at h
    · rename_i hp
      rw [Bool.and_eq_true] at hp
      obtain ⟨a, vs, rfl, _, q1, r1⟩ := rv_tup s hy
      obtain ⟨f1, f2⟩ := rv_flat hx hp.1
      refine .inr (.inl ⟨a, vs, rfl, .inr q1, f1, reps_flat r1 hp.2, ?_⟩)
      rw [inV_flat f2 hp.1 r1 hp.2]
      exact fz_q s r h (by simpa using Rep.bl _)
    · exact h.elim
  · rename_i ys
    unfold gIn at h
    dsimp only at h
    split at h
    · rename_i hp
      rw [Bool.and_eq_true] at hp
      obtain ⟨a1, a2⟩ := rv_dp s hx hp.1
      obtain ⟨b1, b2⟩ := rv_dp s hy hp.2
      refine .inl ⟨_, _, a1, b1, a2, b2, ?_⟩
      have hl : ys.all (plN 10) = true := List.all_eq_true.mpr fun z hz => plN_mono 9 z (by
        have : plN 10 (.lst ys) = true := hp.2
        simp only [plN, List.all_eq_true] at this
        exact this z hz)
      rw [any_pl (n := 10) hp.1 hl]
      exact fz_q s r h (by simpa using Rep.bl _)
    · exact h.elim
end
end DL
namespace DL
open PySem L2
section
variable {P : Pm} {H0 : En} {Wi : WX} {ta tb tc : TE} {fa fb fc : DE}
/-! ### is -/
def isNon : D → Bool
  | .non => true
  | _ => false
def gIsN (neg : Bool) : Val → W → R Val := fun x w => .ok (fz (.bl (neg != isNon x.d))) w
theorem rv_isN {K : PySem.W.Frag} {G H : Hp} {ws : Ws} {v : V} {x : Val} (h : RV K G H ws v x) : decide (v = .non) = isNon x.d := by
  obtain ⟨m, d⟩ := x
  have un : (∃ a, v = .ref a ∧ Unf K G H (io ws) a d) → decide (v = .non) = isNon d := by
    rintro ⟨a, rfl, u⟩
    cases u <;> rfl
  unfold RV at h
  cases m with
  | fz => cases h <;> rfl
  | nw => obtain ⟨a, e, _, _, u⟩ := h; exact un ⟨a, e, u⟩
  | bo => obtain ⟨a, e, _, _, u⟩ := h; exact un ⟨a, e, u⟩
  | wd => obtain ⟨a, e, _, _, u⟩ := h; exact un ⟨a, e, u⟩
theorem ev_isN (ha : EvE P H0 Wi ta fa) : EvE P H0 Wi (tIsN ta) (dUn (gIsN false) fa) :=
  ev_un (r := fun x H Q => Q (.bl (decide (x = .non))) H) ha (fun H G ws w vx x Q s r hx h => by
    show Q (.bl (decide (vx = .non))) H
    rw [rv_isN hx]
    exact fz_q s r h (by simpa using Rep.bl _)) (fun _ _ _ _ h => nomatch h)
theorem ev_notN (ha : EvE P H0 Wi ta fa) : EvE P H0 Wi (tNotN ta) (dUn (gIsN true) fa) :=
  ev_un (r := fun x H Q => Q (.bl (!decide (x = .non))) H) ha (fun H G ws w vx x Q s r hx h => by
    show Q (.bl (!decide (vx = .non))) H
    rw [rv_isN hx]
    exact fz_q s r h (by simpa using Rep.bl _)) (fun _ _ _ _ h => nomatch h)
def gIsB (neg : Bool) : Val → Val → W → R Val := fun x y w => match x.d, y.d with
  | .bl a, .bl b => .ok (fz (.bl (neg != decide (a = b)))) w
  | _, _ => .bad
theorem gIsB_nx {neg : Bool} (x y : Val) (w : W) (e : Xc) (w' : W) : gIsB neg x y w ≠ .ex e w' := by
  unfold gIsB
  split <;> exact fun h => nomatch h
theorem rop_isB : ROp P rIsB (gIsB false) := by
  intro H G ws w vx vy x y Q s r hx hy h
  obtain ⟨m, d⟩ := x
  obtain ⟨m2, d2⟩ := y
  cases d <;> try exact h.elim
  cases d2 <;> try exact h.elim
  have ex := rv_bl hx
  have ey := rv_bl hy
  subst ex ey
  exact ⟨_, _, rfl, rfl, fz_q s r h (by simpa using Rep.bl _)⟩
/-! ### subscripts -/
def gIx : Val → Val → W → R Val := fun x y w => match x.d, y.d with
  | .lst ds, .int i => match atI ds i with
    | some d => .ok (fz d) w
    | none => .bad
  | .tup ds, .int i => match atI ds i with
    | some d => .ok (fz d) w
    | none => .bad
  | .scr ns, .int i => match atI ns i with
    | some n => .ok (fz (.int n)) w
    | none => .bad
  | .str z, .int i => if z.length ≤ sizeLine then (match atI z.cps.toList i with
    | some c => .ok (fz (.str ⟨#[c]⟩)) w
    | none => .bad) else .bad
  | _, _ => .bad
theorem gIx_nx (x y : Val) (w : W) (e : Xc) (w' : W) : gIx x y w ≠ .ex e w' := by
  unfold gIx
  split <;> (try split) <;> (try split) <;> exact fun h => nomatch h
theorem reps_atI {K : PySem.W.Frag} {G : Hp} {ι : List Addr} {vs : List V} {ds : List D} {i : Int} {d : D} (r : Reps K G ι vs ds) (h : atI ds i = some d) : ∃ v, atI vs i = some v ∧ Rep K G ι v d := by
  unfold atI at h ⊢
  rw [r.length]
  cases e : ixN ds.length i with
  | none => rw [e] at h; cases h
  | some j =>
    rw [e] at h
    exact r.getD h
theorem atI_map {α β : Type} (f : α → β) (xs : List α) (i : Int) : atI (xs.map f) i = (atI xs i).map f := by
  unfold atI
  rw [List.length_map]
  cases ixN xs.length i with
  | none => rfl
  | some j => simp
theorem rop_ix : ROp P (rIx P.K) gIx := by
  intro H G ws w vx vy x y Q s r hx hy h
  obtain ⟨m, d⟩ := x
  obtain ⟨m2, d2⟩ := y
  cases d2 <;> (try (cases d <;> exact h.elim))
  rename_i i
  have ey := rv_int hy
  subst ey
  cases d <;> try exact h.elim
  · rename_i z
    have ex := rv_str hx
    subst ex
    unfold gIx at h
    dsimp only at h
    split at h
    · rename_i hz
      split at h
      · rename_i c hc
        exact .inr (.inr ⟨z, i, c, rfl, rfl, hz, hc, fz_q s r h (.str _)⟩)
      · exact h.elim
    · exact h.elim
  · rename_i ds
    obtain ⟨a, vs, rfl, _, q1, r1⟩ := rv_tup s hx
    unfold gIx at h
    dsimp only at h
    split at h
    · rename_i d hd
      obtain ⟨v, hv, rv⟩ := reps_atI r1 hd
      exact .inr (.inl ⟨a, vs, i, v, rfl, rfl, q1, hv, fz_q s r h rv⟩)
    · exact h.elim
  · rename_i ds
    obtain ⟨a, vs, rfl, q1, r1⟩ := rv_lst s hx
    unfold gIx at h
    dsimp only at h
    split at h
    · rename_i d hd
      obtain ⟨v, hv, rv⟩ := reps_atI r1 hd
      exact .inl ⟨a, vs, i, v, rfl, rfl, SqL.of q1, hv, fz_q s r h rv⟩
    · exact h.elim
  · rename_i ns
    unfold gIx at h
    dsimp only at h
    split at h
    · rename_i n hn
      have hs : ∃ a, vx = .ref a ∧ SqZ P.K G a (ns.map V.int) := by
        unfold RV at hx
        cases m with
        | fz => cases hx with | scr q => exact ⟨_, rfl, q⟩
        | nw => obtain ⟨a, _, _, _, u⟩ := hx; cases u
        | bo => obtain ⟨a, _, _, _, u⟩ := hx; cases u
        | wd => obtain ⟨a, _, _, _, u⟩ := hx; cases u
      obtain ⟨a, rfl, q⟩ := hs
      exact .inl ⟨a, ns.map V.int, i, .int n, rfl, rfl, (s.seq q), by rw [atI_map, hn]; rfl, fz_q s r h (.int _)⟩
    · exact h.elim
/-! ### slices -/
def cutL {α : Type} (xs : List α) (lo hi : Option Int) : List α := (xs.drop (HT.sIx xs.length 0 lo)).take (HT.sIx xs.length xs.length hi - HT.sIx xs.length 0 lo)
theorem reps_cut {K : PySem.W.Frag} {G : Hp} {ι : List Addr} {vs : List V} {ds : List D} (r : Reps K G ι vs ds) (lo hi : Option Int) : Reps K G ι (cutV vs lo hi) (cutL ds lo hi) := by
  unfold cutV cutL
  rw [r.length]
  exact (r.drop _).take _
abbrev DO := Env → W → R (Option Int)
def dPart (f : DE) : DO := fun ρ w => (f ρ w).bind fun x w => match x.d with
  | .int i => .ok (some i) w
  | _ => .bad
def PostO (P : Pm) (E : Value → Option Addr → Hp → Prop) (H G : Hp) (ws : Ws) (Q : Option Int → Hp → Prop) : R (Option Int) → Prop
  | .ok b w' => ∀ H' G' ws', Nx P.K P.C G H ws G' H' ws' w' → Q b H'
  | .ex x w' => ∀ cls d H' G' ws', Nx P.K P.C G H ws G' H' ws' w' → XRel P.K P.cm G' H' (io ws') x cls d → E cls d H'
  | .bad => False
def EvO (P : Pm) (H0 : En) (Wi : WX) (te : TO) (f : DO) : Prop := ∀ σ H G ws ρ w (Q : Option Int → Hp → Prop), St P.K P.C H0 σ H G ws ρ w → PostO P (fun c d H' => Wi c d σ H') H G ws Q (f ρ w) → te σ H Q
theorem ev_part (ha : EvE P H0 Wi ta fa) : EvO P H0 Wi (tPart ta) (dPart fa) := by
  intro σ H G ws ρ w Q st h
  unfold dPart at h
  refine ha σ H G ws ρ w _ st ?_
  cases e : fa ρ w with
  | bad => rw [e] at h; exact h
  | ex x w' => rw [e] at h; exact h
  | ok x w' =>
    intro v H1 G1 ws1 n1 r1 k1
    rw [e] at h
    obtain ⟨m, d⟩ := x
    cases d <;> try exact h.elim
    have ex := rv_int r1
    subst ex
    exact ⟨_, rfl, h H1 G1 ws1 n1⟩
def gSl : Val → Option Int → Option Int → W → R Val := fun x lo hi w => match x.d with
  | .lst ds => .ok ⟨.nw, .lst (cutL ds lo hi)⟩ w
  | .tup ds => if HT.sIx ds.length 0 lo = 0 ∧ HT.sIx ds.length ds.length hi = ds.length then .bad else .ok (fz (.tup (cutL ds lo hi))) w
  | .str z => if z.length ≤ sizeLine then .ok (fz (.str (cutS z lo hi))) w else .bad
  | _ => .bad
def rSlA (K : PySem.W.Frag) : V → Option Int → Option Int → Hp → VK → Prop := fun x lo hi H Q => rSlL K x lo hi H Q ∨ rSlT K x lo hi H Q ∨ rSlS x lo hi H Q
theorem sl_A {X : Cx} : SlR X (rSlA X.K) := sl_list.or (sl_tup.or sl_str)
theorem sl_ok {H G : Hp} {ws : Ws} {w : W} {v : V} {x : Val} {lo hi : Option Int} {Q : VK} {E : Value → Option Addr → Hp → Prop} (s : Sm G H) (r : RelW P.K P.C G H ws w) (hx : RV P.K G H ws v x) (h : PostE P E H G ws Q (gSl x lo hi w)) : rSlA P.K v lo hi H Q := by
  obtain ⟨m, d⟩ := x
  cases d <;> try exact h.elim
  · rename_i z
    have ex := rv_str hx
    subst ex
    unfold gSl at h
    dsimp only at h
    split at h
    · rename_i hz
      exact .inr (.inr ⟨z, rfl, hz, fz_q s r h (.str _)⟩)
    · exact h.elim
  · rename_i ds
    obtain ⟨a, vs, rfl, _, q1, r1⟩ := rv_tup s hx
    unfold gSl at h
    dsimp only at h
    split at h
    · exact h.elim
    · rename_i hn
      exact .inr (.inl ⟨a, vs, rfl, q1, by rw [r1.length]; exact hn, fun p hp => tup_q s r h hp (reps_cut r1 lo hi)⟩)
  · rename_i ds
    obtain ⟨a, vs, rfl, q1, r1⟩ := rv_lst s hx
    exact .inl ⟨a, vs, rfl, SqL.of q1, fun p hp => nw_q s r h hp (reps_cut r1 lo hi)⟩
def dSl (fa : DE) (fl fh : DO) : DE := fun ρ w => (fa ρ w).bind fun x w1 => (fl ρ w1).bind fun lo w2 => (fh ρ w2).bind fun hi w3 => chk x w1 w3 (gSl x lo hi w3)
theorem ev_sl {tl th : TO} {fl fh : DO} (ha : EvE P H0 Wi ta fa) (hl : EvO P H0 Wi tl fl) (hh : EvO P H0 Wi th fh) : EvE P H0 Wi (tSl (rSlA P.K) ta tl th) (dSl fa fl fh) := by
  intro σ H G ws ρ w Q st h
  unfold dSl at h
  refine ha σ H G ws ρ w _ st ?_
  cases e : fa ρ w with
  | bad => rw [e] at h; exact h
  | ex x w' => rw [e] at h; exact h
  | ok x w' =>
    intro v H1 G1 ws1 n1 r1 k1
    rw [e] at h
    refine hl σ H1 G1 ws1 ρ w' _ (st.next n1) ?_
    have h : PostE P (fun c d H' => Wi c d σ H') H G ws Q ((fl ρ w').bind fun lo w2 => (fh ρ w2).bind fun hi w3 => chk x w' w3 (gSl x lo hi w3)) := h
    cases e2 : fl ρ w' with
    | bad => rw [e2] at h; exact h
    | ex y w2 => rw [e2] at h; exact PostE.after n1 h
    | ok lo w2 =>
      intro H2 G2 ws2 n2
      rw [e2] at h
      refine hh σ H2 G2 ws2 ρ w2 _ ((st.next n1).next n2) ?_
      have h : PostE P (fun c d H' => Wi c d σ H') H G ws Q ((fh ρ w2).bind fun hi w3 => chk x w' w3 (gSl x lo hi w3)) := h
      cases e3 : fh ρ w2 with
      | bad => rw [e3] at h; exact h
      | ex y w3 => rw [e3] at h; exact PostE.after (n1.trans n2) h
      | ok hi w3 =>
        intro H3 G3 ws3 n3
        rw [e3] at h
        obtain ⟨hx, h⟩ := PostE.chk h
        exact sl_ok n3.sub n3.rw (r1.move (n2.trans n3) fun z => (n2.trans n3).same n1.rw (hx z)) (PostE.after ((n1.trans n2).trans n3) h)
/-! ### tests -/
def tst (f : DE) : DT := fun ρ w => (f ρ w).bind fun x w => match x.d with
  | .bl b => .ok b w
  | _ => .bad
theorem ev_tst (ha : EvE P H0 Wi ta fa) : EvT P H0 Wi (tTest ta) (tst fa) := by
  intro σ H G ws ρ w Q st h
  unfold tst at h
  refine ha σ H G ws ρ w _ st ?_
  cases e : fa ρ w with
  | bad => rw [e] at h; exact h
  | ex x w' => rw [e] at h; exact h
  | ok x w' =>
    intro v H1 G1 ws1 n1 r1 k1
    rw [e] at h
    obtain ⟨m, d⟩ := x
    cases d <;> try exact h.elim
    have ex := rv_bl r1
    subst ex
    exact ⟨_, rfl, h H1 G1 ws1 n1⟩
theorem ev_tB (ha : EvE P H0 Wi ta fa) : EvT P H0 Wi (tB ta) (tst fa) := ev_tst ha
variable {tA tB' : TT} {fA fB : DT}
def dNot (f : DT) : DT := fun ρ w => (f ρ w).bind fun b w => .ok (!b) w
def dAnd (f g : DT) : DT := fun ρ w => (f ρ w).bind fun b w => if b then g ρ w else .ok false w
def dOr (f g : DT) : DT := fun ρ w => (f ρ w).bind fun b w => if b then .ok true w else g ρ w
theorem ev_not (ha : EvT P H0 Wi tA fA) : EvT P H0 Wi (tNot tA) (dNot fA) := by
  intro σ H G ws ρ w Q st h
  unfold dNot at h
  refine ha σ H G ws ρ w _ st ?_
  cases e : fA ρ w with
  | bad => rw [e] at h; exact h
  | ex x w' => rw [e] at h; exact h
  | ok b w' =>
    intro H1 G1 ws1 n1
    rw [e] at h
    exact h H1 G1 ws1 n1
theorem ev_and (ha : EvT P H0 Wi tA fA) (hb : EvT P H0 Wi tB' fB) : EvT P H0 Wi (tAnd tA tB') (dAnd fA fB) := by
  intro σ H G ws ρ w Q st h
  unfold dAnd at h
  refine ha σ H G ws ρ w _ st ?_
  cases e : fA ρ w with
  | bad => rw [e] at h; exact h
  | ex x w' => rw [e] at h; exact h
  | ok b w' =>
    intro H1 G1 ws1 n1
    rw [e] at h
    cases b with
    | true =>
      have h : PostT P _ H G ws Q (fB ρ w') := h
      exact hb σ H1 G1 ws1 ρ w' _ (st.next n1) (PostT.after n1 h)
    | false => exact h H1 G1 ws1 n1
theorem ev_or (ha : EvT P H0 Wi tA fA) (hb : EvT P H0 Wi tB' fB) : EvT P H0 Wi (tOr tA tB') (dOr fA fB) := by
  intro σ H G ws ρ w Q st h
  unfold dOr at h
  refine ha σ H G ws ρ w _ st ?_
  cases e : fA ρ w with
  | bad => rw [e] at h; exact h
  | ex x w' => rw [e] at h; exact h
  | ok b w' =>
    intro H1 G1 ws1 n1
    rw [e] at h
    cases b with
    | false =>
      have h : PostT P _ H G ws Q (fB ρ w') := h
      exact hb σ H1 G1 ws1 ρ w' _ (st.next n1) (PostT.after n1 h)
    | true => exact h H1 G1 ws1 n1
/-! .. as values -/
def dAndV (fa fb : DE) : DE := fun ρ w => (fa ρ w).bind fun x w => match x.d with
  | .bl true => fb ρ w
  | .bl false => .ok (fz (.bl false)) w
  | _ => .bad
def dOrV (fa fb : DE) : DE := fun ρ w => (fa ρ w).bind fun x w => match x.d with
  | .bl false => fb ρ w
  | .bl true => .ok (fz (.bl true)) w
  | _ => .bad
def dNotV (fa : DE) : DE := fun ρ w => (fa ρ w).bind fun x w => match x.d with
  | .bl b => .ok (fz (.bl (!b))) w
  | _ => .bad
theorem ev_andV (ha : EvE P H0 Wi ta fa) (hb : EvE P H0 Wi tb fb) : EvE P H0 Wi (tAndV ta tb) (dAndV fa fb) := by
  intro σ H G ws ρ w Q st h
  unfold dAndV at h
  refine ha σ H G ws ρ w _ st ?_
  cases e : fa ρ w with
  | bad => rw [e] at h; exact h
  | ex x w' => rw [e] at h; exact h
  | ok x w' =>
    intro v H1 G1 ws1 n1 r1 k1
    rw [e] at h
    obtain ⟨m, d⟩ := x
    cases d <;> try exact h.elim
    rename_i b
    have ex := rv_bl r1
    subst ex
    refine ⟨b, rfl, ?_⟩
    cases b with
    | true =>
      have h : PostE P _ H G ws Q (fb ρ w') := h
      exact iteT (hb σ H1 G1 ws1 ρ w' _ (st.next n1) (PostE.after n1 h))
    | false => exact iteF (h (.bl false) H1 G1 ws1 n1 (.bl false) fz_nw)
theorem ev_notV (ha : EvE P H0 Wi ta fa) : EvE P H0 Wi (tNotV ta) (dNotV fa) := by
  intro σ H G ws ρ w Q st h
  unfold dNotV at h
  refine ha σ H G ws ρ w _ st ?_
  cases e : fa ρ w with
  | bad => rw [e] at h; exact h
  | ex x w' => rw [e] at h; exact h
  | ok x w' =>
    intro v H1 G1 ws1 n1 r1 k1
    rw [e] at h
    obtain ⟨m, d⟩ := x
    cases d <;> try exact h.elim
    rename_i b
    have ex := rv_bl r1
    subst ex
    exact ⟨b, rfl, h (.bl (!b)) H1 G1 ws1 n1 (.bl _) fz_nw⟩
def dIf (c : DT) (fa fb : DE) : DE := fun ρ w => (c ρ w).bind fun b w => if b then fa ρ w else fb ρ w
theorem ev_if (hc : EvT P H0 Wi tA fA) (ha : EvE P H0 Wi ta fa) (hb : EvE P H0 Wi tb fb) : EvE P H0 Wi (tIf tA ta tb) (dIf fA fa fb) := by
  intro σ H G ws ρ w Q st h
  unfold dIf at h
  refine hc σ H G ws ρ w _ st ?_
  cases e : fA ρ w with
  | bad => rw [e] at h; exact h
  | ex x w' => rw [e] at h; exact h
  | ok b w' =>
    intro H1 G1 ws1 n1
    rw [e] at h
    cases b with
    | true =>
      have h : PostE P _ H G ws Q (fa ρ w') := h
      exact iteT (ha σ H1 G1 ws1 ρ w' _ (st.next n1) (PostE.after n1 h))
    | false =>
      have h : PostE P _ H G ws Q (fb ρ w') := h
      exact iteF (hb σ H1 G1 ws1 ρ w' _ (st.next n1) (PostE.after n1 h))
end
end DL
namespace DL
open PySem L2
section
variable {P : Pm} {H0 : En} {Wi : WX} {ta tb tc : TE} {fa fb fc : DE} {tr : TA} {fr : DA}
/-! ### arguments -/
def dNil : DA := fun _ w => .ok [] w
def dOne (f : DE) : DA := fun ρ w => (f ρ w).bind fun x w => .ok [x] w
def dCons (f : DE) (fs : DA) : DA := fun ρ w => (f ρ w).bind fun x w1 => (fs ρ w1).bind fun xs w2 => chk x w1 w2 (.ok (x :: xs) w2)
theorem ev_nil : EvA P H0 Wi tNil dNil := fun σ H G ws ρ w Q st h => h [] H G ws st.nx .nil trivial
theorem ev_one (ha : EvE P H0 Wi ta fa) : EvA P H0 Wi (tCons ta tNil) (dOne fa) := by
  intro σ H G ws ρ w Q st h
  unfold dOne at h
  refine ha σ H G ws ρ w _ st ?_
  cases e : fa ρ w with
  | bad => rw [e] at h; exact h
  | ex x w' => rw [e] at h; exact h
  | ok x w' =>
    intro v H1 G1 ws1 n1 r1 k1
    rw [e] at h
    exact h [v] H1 G1 ws1 n1 (.cons r1 .nil) ⟨k1, fun _ i y e => by simp at e, trivial⟩
theorem ev_cons (ha : EvE P H0 Wi ta fa) (hr : EvA P H0 Wi tr fr) : EvA P H0 Wi (tCons ta tr) (dCons fa fr) := by
  intro σ H G ws ρ w Q st h
  unfold dCons at h
  refine ha σ H G ws ρ w _ st ?_
  cases e : fa ρ w with
  | bad => rw [e] at h; exact h
  | ex x w' => rw [e] at h; exact h
  | ok x w' =>
    intro v H1 G1 ws1 n1 r1 k1
    rw [e] at h
    have h : PostA P (fun c d H' => Wi c d σ H') H G ws Q ((fr ρ w').bind fun xs w2 => chk x w' w2 (.ok (x :: xs) w2)) := h
    refine hr σ H1 G1 ws1 ρ w' _ (st.next n1) ?_
    cases e2 : fr ρ w' with
    | bad => rw [e2] at h; exact h
    | ex y w2 => rw [e2] at h; exact PostA.after n1 h
    | ok xs w2 =>
      intro vs H2 G2 ws2 n2 r2 k2
      rw [e2] at h
      obtain ⟨hx, h⟩ := PostA.chk h
      refine h (v :: vs) H2 G2 ws2 (n1.trans n2) (.cons (r1.move n2 fun z => n2.same n1.rw (hx z)) r2) ⟨k1, fun hm i y hy hym z => ?_, newsOk_back n1 k2⟩
      -- the first stands in H1; the later ones are new there
      have ha1 : ∃ a, v = .ref a ∧ ∃ o, H1 a = some o ∧ Nt o := by
        obtain ⟨m, d⟩ := x
        simp only at hm
        subst hm
        obtain ⟨a, e, _, _, u⟩ := r1
        obtain ⟨o, ho, hc⟩ := u.there
        obtain ⟨o1, e1, c1⟩ := ho.at' (nt_cont hc)
        exact ⟨a, e, o1, e1, c1⟩
      obtain ⟨a, rfl, o, ho, no⟩ := ha1
      have go : ∀ {vs : List V} {xs : List Val} (i : Nat), NewsOk H1 vs xs → xs[i]? = some y → vs[i]? = some (.ref a) → Fr H1 a := by
        intro vs
        induction vs with
        | nil => intro xs i _ _ e; simp at e
        | cons u us ih =>
          intro xs i k hy hv
          cases xs with
          | nil => simp at hy
          | cons z zs =>
            cases i with
            | zero =>
              simp at hy hv
              subst hy hv
              exact k.1 hym a rfl
            | succ i => exact ih i k.2.2 (by simpa using hy) (by simpa using hv)
      exact go i k2 hy z o ho no
/-! ### freezing what is new -/
def frzD : List Val → Option (List D)
  | [] => some []
  | x :: xs => match x.m, frzD xs with
    | .fz, some ds => some (x.d :: ds)
    | .nw, some ds => some (x.d :: ds)
    | _, _ => none
theorem Unf.rep {K : PySem.W.Frag} {G H : Hp} {ι : List Addr} {a : Addr} {d : D} (u : Unf K G H ι a d) (g : G a = none) : ∃ o, Lk H a o ∧ Nt o ∧ Rep K (upd G a o) ι (.ref a) d := by
  have sg : ∀ o, Same G (upd G a o) := fun o b v e => by rw [upd_ne (ne_of_none e g)]; exact e
  cases u with
  | lst q r => exact ⟨_, .inl q, nt_cont trivial, .lst upd_same (r.mono (sg _) (List.prefix_refl _))⟩
  | dK q k r => exact ⟨_, q, nt_cont trivial, .dK upd_same k (r.mono (sg _) (List.prefix_refl _))⟩
  | dT q k r => exact ⟨_, q, nt_cont trivial, .dT upd_same k (r.mono (sg _) (List.prefix_refl _))⟩
theorem Nx.freeze {K : PySem.W.Frag} {C : Ca} {G H G' H' : Hp} {ws ws' : Ws} {w' : W} {a : Addr} {o : HO} (n : Nx K C G H ws G' H' ws' w') (ha : Fr H a) (h : Lk H' a o) (no : Nt o) (g : G' a = none) (nr : a ∉ regs ws') : Nx K C G H ws (upd G' a o) H' ws' w' := by
  have sg : Same G' (upd G' a o) := fun b v e => by rw [upd_ne (ne_of_none e g)]; exact e
  refine ⟨n.gg.trans sg, fun b v e => ?_, ⟨paired_imp n.rw.obs fun q o hq ⟨e, p⟩ => ⟨e, paired_imp p fun x y hx ⟨e, f⟩ => ⟨e, f.move sg (List.prefix_refl _) fun _ _ _ h => h⟩⟩, n.rw.nn, n.rw.nd, fun b hb => ?_, n.rw.tb, fun b u e => ?_, fun a q u e hd => (n.rw.ul a q u e hd).imp (sg _ _) id, n.rw.lkw, n.rw.lkh⟩, n.keep, n.alive, fun b u hb nu gb => ?_, n.io, n.fresh, n.le, n.qt, n.stb⟩
  · by_cases hb : b = a
    · subst hb; rw [upd_same] at e; cases e; exact h
    · rw [upd_ne hb] at e; exact n.sub _ _ e
  · have hne : b ≠ a := fun e => nr (by rw [← e]; exact hb)
    rw [upd_ne hne]; exact n.rw.out b hb
  · by_cases hb : b = a
    · subst hb; rw [upd_same] at e; cases e; exact no
    · rw [upd_ne hb] at e; exact n.rw.nt b u e
  · have hne : b ≠ a := ha.ne hb nu
    rw [upd_ne hne]; exact n.nocap b u hb nu gb
theorem RV.gmono {K : PySem.W.Frag} {G G' H : Hp} {ws : Ws} {v : V} {x : Val} (h : RV K G H ws v x) (g : Same G G') (hn : x.m ≠ .fz → ∀ a, v = .ref a → G a = none → G' a = none) : RV K G' H ws v x := by
  obtain ⟨m, d⟩ := x
  unfold RV at h ⊢
  cases m with
  | fz => exact Rep.mono g (List.prefix_refl _) h
  | nw => obtain ⟨a, e, ga, nr, u⟩ := h; exact ⟨a, e, hn (by intro z; cases z) a e ga, nr, u.move g (List.prefix_refl _) fun _ h => h⟩
  | bo => obtain ⟨a, e, ga, nr, u⟩ := h; exact ⟨a, e, hn (by intro z; cases z) a e ga, nr, u.move g (List.prefix_refl _) fun _ h => h⟩
  | wd => obtain ⟨a, e, ga, nr, u⟩ := h; exact ⟨a, e, hn (by intro z; cases z) a e ga, nr, u.move g (List.prefix_refl _) fun _ h => h⟩
/-- one value frozen -/
theorem freeze1 {K : PySem.W.Frag} {C : Ca} {G H G' H' : Hp} {ws ws' : Ws} {w' : W} {v : V} {x : Val} (n : Nx K C G H ws G' H' ws' w') (r : RV K G' H' ws' v x) (k : NewOk H v x) (hm : x.m = .fz ∨ x.m = .nw) :
    ∃ G2, Same G' G2 ∧ Nx K C G H ws G2 H' ws' w' ∧ Rep K G2 (io ws') v x.d ∧ (∀ b, (x.m = .nw → v ≠ .ref b) → G' b = none → G2 b = none) := by
  obtain ⟨m, d⟩ := x
  rcases hm with z | z
  · simp only at z; subst z
    exact ⟨G', fun _ _ h => h, n, r, fun _ _ h => h⟩
  · simp only at z; subst z
    obtain ⟨a, rfl, ga, nr, u⟩ := r
    obtain ⟨o, ho, no, rp⟩ := u.rep ga
    refine ⟨upd G' a o, fun b v e => by rw [upd_ne (ne_of_none e ga)]; exact e, n.freeze (k rfl a rfl) ho no ga nr, rp, fun b hb gb => ?_⟩
    rw [upd_ne (fun e => hb rfl (by rw [e]))]; exact gb
theorem freezeAll {K : PySem.W.Frag} {C : Ca} {G H : Hp} {ws ws' : Ws} {w' : W} {H' : Hp} : ∀ {vs : List V} {xs : List Val} {ds : List D} {G' : Hp}, Nx K C G H ws G' H' ws' w' → RVs K G' H' ws' vs xs → NewsOk H vs xs → frzD xs = some ds →
    ∃ G2, Same G' G2 ∧ Nx K C G H ws G2 H' ws' w' ∧ Reps K G2 (io ws') vs ds
  | _, _, ds, G', n, .nil, _, e => by
    simp [frzD] at e
    subst e
    exact ⟨G', fun _ _ h => h, n, .nil⟩
  | _, _, ds, G', n, .cons (v := v) (x := x) (vs := vs) (xs := xs) r rs, k, e => by
    obtain ⟨m, d⟩ := x
    have hz : ∃ ds', frzD xs = some ds' ∧ ds = d :: ds' ∧ (m = .fz ∨ m = .nw) := by
      unfold frzD at e
      cases q : frzD xs with
      | none => rw [q] at e; cases m <;> cases e
      | some ds' => rw [q] at e; cases m <;> first | (cases e; exact ⟨ds', rfl, rfl, .inl rfl⟩) | (cases e; exact ⟨ds', rfl, rfl, .inr rfl⟩) | cases e
    obtain ⟨ds', e1, rfl, hm⟩ := hz
    obtain ⟨G2, s2, n2, r2, f2⟩ := freeze1 n r k.1 hm
    have go : ∀ {vs : List V} {xs : List Val}, RVs K G' H' ws' vs xs → (m = .nw → ∀ (i : Nat) y, xs[i]? = some y → y.m = .nw → vs[i]? ≠ some v) → (frzD xs).isSome = true → RVs K G2 H' ws' vs xs := by
      intro vs xs rs
      induction rs with
      | nil => intro _ _; exact .nil
      | @cons u y us ys ru rus ih =>
        intro hd hf
        have hfy : (y.m = .fz ∨ y.m = .nw) ∧ (frzD ys).isSome = true := by
          unfold frzD at hf
          obtain ⟨my, dy⟩ := y
          cases q : frzD ys with
          | none => rw [q] at hf; cases my <;> cases hf
          | some _ => rw [q] at hf; cases my <;> first | exact ⟨.inl rfl, rfl⟩ | exact ⟨.inr rfl, rfl⟩ | cases hf
        refine .cons (ru.gmono s2 fun hy a ea ga => f2 a (fun hm2 ev => ?_) ga) (ih (fun hm2 i z hz => by simpa using hd hm2 (i + 1) z (by simpa using hz)) hfy.2)
        have hyn : y.m = .nw := by rcases hfy.1 with z | z; exact absurd z hy; exact z
        exact hd hm2 0 y rfl hyn (by simp [ea, ev])
    have rs2 := go rs k.2.1 (by rw [e1]; rfl)
    obtain ⟨G3, s3, n3, r3⟩ := freezeAll n2 rs2 k.2.2 e1
    exact ⟨G3, s2.trans s3, n3, .cons (r2.mono s3 (List.prefix_refl _)) r3⟩
/-! ### displays -/
def dTup (fs : DA) : DE := fun ρ w => (fs ρ w).bind fun xs w => match frzD xs with
  | some ds => if ds.length ≤ sizeLine then .ok (fz (.tup ds)) w else .bad
  | none => .bad
def dLst (fs : DA) : DE := fun ρ w => (fs ρ w).bind fun xs w => match frzD xs with
  | some ds => if ds.length ≤ sizeLine then .ok ⟨.nw, .lst ds⟩ w else .bad
  | none => .bad
theorem ev_tup (h : EvA P H0 Wi tr fr) : EvE P H0 Wi (tTup tr) (dTup fr) := by
  intro σ H G ws ρ w Q st hq
  unfold dTup at hq
  refine h σ H G ws ρ w _ st ?_
  cases e : fr ρ w with
  | bad => rw [e] at hq; exact hq
  | ex x w' => rw [e] at hq; exact hq
  | ok xs w' =>
    intro vs H1 G1 ws1 n1 r1 k1
    rw [e] at hq
    have hq : PostE P _ H G ws Q (match frzD xs with | some ds => if ds.length ≤ sizeLine then .ok (fz (.tup ds)) w' else .bad | none => .bad) := hq
    cases e2 : frzD xs with
    | none => rw [e2] at hq; exact hq.elim
    | some ds =>
      rw [e2] at hq
      dsimp only at hq
      split at hq
      · rename_i hl
        obtain ⟨G2, s2, n2, r2⟩ := freezeAll n1 r1 k1 e2
        exact ⟨by rw [r2.length]; exact hl, fun p hp => tup_q n2.sub n2.rw (PostE.after n2 hq) hp r2⟩
      · exact hq.elim
theorem ev_lst (h : EvA P H0 Wi tr fr) : EvE P H0 Wi (tLst tr) (dLst fr) := by
  intro σ H G ws ρ w Q st hq
  unfold dLst at hq
  refine h σ H G ws ρ w _ st ?_
  cases e : fr ρ w with
  | bad => rw [e] at hq; exact hq
  | ex x w' => rw [e] at hq; exact hq
  | ok xs w' =>
    intro vs H1 G1 ws1 n1 r1 k1
    rw [e] at hq
    have hq : PostE P _ H G ws Q (match frzD xs with | some ds => if ds.length ≤ sizeLine then .ok ⟨.nw, .lst ds⟩ w' else .bad | none => .bad) := hq
    cases e2 : frzD xs with
    | none => rw [e2] at hq; exact hq.elim
    | some ds =>
      rw [e2] at hq
      dsimp only at hq
      split at hq
      · rename_i hl
        obtain ⟨G2, s2, n2, r2⟩ := freezeAll n1 r1 k1 e2
        exact ⟨by rw [r2.length]; exact hl, fun p hp => nw_q n2.sub n2.rw (PostE.after n2 hq) hp r2⟩
      · exact hq.elim
/-! ### a < b < c -/
def dChain (g g' : Val → Val → W → R Val) (fa fb fc : DE) : DE := fun ρ w => (fa ρ w).bind fun x w1 => (fb ρ w1).bind fun y w2 => chk x w1 w2 ((g x y w2).bind fun z w3 => match z.d with
  | .bl true => (fc ρ w3).bind fun u w4 => chk y w2 w4 (g' y u w4)
  | .bl false => .ok (fz (.bl false)) w3
  | _ => .bad)
theorem ev_chain {r r' : R2} {g g' : Val → Val → W → R Val} (ha : EvE P H0 Wi ta fa) (hb : EvE P H0 Wi tb fb) (hc : EvE P H0 Wi tc fc) (hr : ROp P r g) (hr' : ROp P r' g') (hn : ∀ x y w e w', g x y w ≠ .ex e w') (hn' : ∀ x y w e w', g' x y w ≠ .ex e w') : EvE P H0 Wi (tChain r r' ta tb tc) (dChain g g' fa fb fc) := by
  intro σ H G ws ρ w Q st h
  unfold dChain at h
  refine ha σ H G ws ρ w _ st ?_
  cases e : fa ρ w with
  | bad => rw [e] at h; exact h
  | ex x w' => rw [e] at h; exact h
  | ok x w' =>
    intro v H1 G1 ws1 n1 r1 k1
    rw [e] at h
    refine hb σ H1 G1 ws1 ρ w' _ (st.next n1) ?_
    have h : PostE P (fun c d H' => Wi c d σ H') H G ws Q ((fb ρ w').bind fun y w2 => chk x w' w2 ((g x y w2).bind fun z w3 => match z.d with
      | .bl true => (fc ρ w3).bind fun u w4 => chk y w2 w4 (g' y u w4)
      | .bl false => .ok (fz (.bl false)) w3
      | _ => .bad)) := h
    cases e2 : fb ρ w' with
    | bad => rw [e2] at h; exact h
    | ex y w2 => rw [e2] at h; exact PostE.after n1 h
    | ok y w2 =>
      intro v2 H2 G2 ws2 n2 r2 k2
      rw [e2] at h
      obtain ⟨hx, h⟩ := PostE.chk h
      refine hr H2 G2 ws2 w2 v v2 x y _ n2.sub n2.rw (r1.move n2 fun z => n2.same n1.rw (hx z)) r2 ?_
      cases e3 : g x y w2 with
      | bad => rw [e3] at h; exact h
      | ex z w3 => exact absurd e3 (hn _ _ _ _ _)
      | ok z w3 =>
        intro v3 H3 G3 ws3 n3 r3 k3
        rw [e3] at h
        obtain ⟨mz, dz⟩ := z
        cases dz <;> try exact h.elim
        rename_i b
        have ez := rv_bl r3
        subst ez
        have n13 := (n1.trans n2).trans n3
        refine ⟨b, rfl, ?_⟩
        cases b with
        | false => exact iteF (h (.bl false) H3 G3 ws3 n13 (.bl false) fz_nw)
        | true =>
          refine iteT ?_
          have h : PostE P (fun c d H' => Wi c d σ H') H G ws Q ((fc ρ w3).bind fun u w4 => chk y w2 w4 (g' y u w4)) := h
          refine hc σ H3 G3 ws3 ρ w3 _ (st.next n13) ?_
          cases e4 : fc ρ w3 with
          | bad => rw [e4] at h; exact h
          | ex u w4 => rw [e4] at h; exact PostE.after n13 h
          | ok u w4 =>
            intro v4 H4 G4 ws4 n4 r4 k4
            rw [e4] at h
            obtain ⟨hy, h⟩ := PostE.chk h
            exact hr' H4 G4 ws4 w4 v2 v4 y u Q n4.sub n4.rw (r2.move (n3.trans n4) fun z => (n3.trans n4).same n2.rw (hy z)) r4 ((PostE.after (n13.trans n4) h).noex fun _ _ => hn' _ _ _ _ _)
end
end DL
namespace DL
open PySem L2
section
variable {P : Pm} {H0 : En} {Wi : WX}
theorem rvs1 {K : PySem.W.Frag} {G H : Hp} {ws : Ws} {vs : List V} {x : Val} (h : RVs K G H ws vs [x]) : ∃ v, vs = [v] ∧ RV K G H ws v x := by
  cases h with
  | cons a b => cases b; exact ⟨_, rfl, a⟩
theorem rvs2 {K : PySem.W.Frag} {G H : Hp} {ws : Ws} {vs : List V} {x y : Val} (h : RVs K G H ws vs [x, y]) : ∃ v u, vs = [v, u] ∧ RV K G H ws v x ∧ RV K G H ws u y := by
  cases h with
  | cons a b => cases b with | cons c d => cases d; exact ⟨_, _, rfl, a, c⟩
/-! len -/
def gLen : List Val → W → R Val := fun xs w => match xs with
  | [x] => match x.d with
    | .lst ds => .ok (fz (.int ds.length)) w
    | .tup ds => .ok (fz (.int ds.length)) w
    | .scr ns => .ok (fz (.int ns.length)) w
    | .str z => if z.length ≤ sizeLine then .ok (fz (.int z.length)) w else .bad
    | _ => .bad
  | _ => .bad
def rLenA (K : PySem.W.Frag) : List V → Hp → VK → Prop := fun xs H Q => ∃ x n, xs = [x] ∧ LenV K x H n ∧ Q (.int n) H
theorem rv_scr {K : PySem.W.Frag} {G H : Hp} {ws : Ws} {v : V} {m : Md} {ns : List Int} (s : Sm G H) (hx : RV K G H ws v ⟨m, .scr ns⟩) : ∃ a, v = .ref a ∧ SqZ K H a (ns.map V.int) := by
  unfold RV at hx
  cases m with
  | fz => cases hx with | scr q => exact ⟨_, rfl, s.seq q⟩
  | nw => obtain ⟨a, _, _, _, u⟩ := hx; cases u
  | bo => obtain ⟨a, _, _, _, u⟩ := hx; cases u
  | wd => obtain ⟨a, _, _, _, u⟩ := hx; cases u
theorem gLen_nx (x : List Val) (w : W) (e : Xc) (w' : W) : gLen x w ≠ .ex e w' := by
  unfold gLen
  split <;> (try split) <;> (try split) <;> exact fun h => nomatch h
theorem rc_len : RCall P (rLenA P.K) gLen := by
  intro H G ws w vs xs Q s r hx h
  match xs, hx, h with
  | [⟨m, d⟩], hx, h =>
    obtain ⟨v, rfl, hv⟩ := rvs1 hx
    cases d <;> try exact h.elim
    · rename_i z
      have e := rv_str hv
      subst e
      unfold gLen at h
      dsimp only at h
      split at h
      · rename_i hz
        exact ⟨_, z.length, rfl, ⟨hz, rfl⟩, fz_q s r h (.int _)⟩
      · exact h.elim
    · obtain ⟨a, vs, rfl, _, q1, r1⟩ := rv_tup s hv
      exact ⟨_, vs.length, rfl, .inr ⟨vs, q1, rfl⟩, fz_q s r h (by rw [r1.length]; exact .int _)⟩
    · obtain ⟨a, vs, rfl, q1, r1⟩ := rv_lst s hv
      exact ⟨_, vs.length, rfl, .inl ⟨vs, SqL.of q1, rfl⟩, fz_q s r h (by rw [r1.length]; exact .int _)⟩
    · rename_i ns
      obtain ⟨a, rfl, q⟩ := rv_scr s hv
      exact ⟨_, _, rfl, .inl ⟨_, q, rfl⟩, fz_q s r h (by rw [List.length_map]; exact .int _)⟩
/-! max(a, b), min(a, b) -/
def gMax2 : List Val → W → R Val := fun xs w => match xs with
  | [x, y] => match x.d, y.d with
    | .int i, .int j => .ok (fz (.int (if j > i then j else i))) w
    | _, _ => .bad
  | _ => .bad
def gMin2 : List Val → W → R Val := fun xs w => match xs with
  | [x, y] => match x.d, y.d with
    | .int i, .int j => .ok (fz (.int (if j < i then j else i))) w
    | _, _ => .bad
  | _ => .bad
theorem gMax2_nx (x : List Val) (w : W) (e : Xc) (w' : W) : gMax2 x w ≠ .ex e w' := by
  unfold gMax2
  split <;> (try split) <;> exact fun h => nomatch h
theorem rc_max2 : RCall P (fun xs H Q => ∃ i j, xs = [.int i, .int j] ∧ Q (.int (if j > i then j else i)) H) gMax2 := by
  intro H G ws w vs xs Q s r hx h
  match xs, hx, h with
  | [⟨m, d⟩, ⟨m2, d2⟩], hx, h =>
    obtain ⟨v, u, rfl, hv, hu⟩ := rvs2 hx
    cases d <;> try exact h.elim
    cases d2 <;> try exact h.elim
    have e := rv_int hv
    have e2 := rv_int hu
    subst e e2
    exact ⟨_, _, rfl, fz_q s r h (.int _)⟩
/-! lists of one kind -/
def blsOf : List D → Option (List Bool)
  | [] => some []
  | .bl i :: r => (blsOf r).map (i :: ·)
  | _ :: _ => none
theorem blsOf_eq : ∀ {ds : List D} {ns : List Bool}, blsOf ds = some ns → ds = ns.map .bl
  | [], _, h => by simp [blsOf] at h; subst h; rfl
  | d :: r, ns, h => by
    cases d <;> try (simp [blsOf] at h; done)
    simp only [blsOf, Option.map_eq_some_iff] at h
    obtain ⟨a, h1, h2⟩ := h
    subst h2
    rw [blsOf_eq h1]; rfl
def onL (x : Val) (g : List D → R Val) : R Val := match x.d with
  | .lst ds => g ds
  | _ => .bad
def gAll : List Val → W → R Val := fun xs w => match xs with
  | [x] => onL x fun ds => match blsOf ds with
    | some bs => .ok (fz (.bl (bs.all id))) w
    | _ => .bad
  | _ => .bad
def gAny : List Val → W → R Val := fun xs w => match xs with
  | [x] => onL x fun ds => match blsOf ds with
    | some bs => .ok (fz (.bl (bs.any id))) w
    | _ => .bad
  | _ => .bad
theorem gAll_nx (x : List Val) (w : W) (e : Xc) (w' : W) : gAll x w ≠ .ex e w' := by
  unfold gAll onL
  split <;> (try dsimp only) <;> (try split) <;> (try dsimp only) <;> (try split) <;> exact fun h => nomatch h
theorem gAny_nx (x : List Val) (w : W) (e : Xc) (w' : W) : gAny x w ≠ .ex e w' := by
  unfold gAny onL
  split <;> (try dsimp only) <;> (try split) <;> (try dsimp only) <;> (try split) <;> exact fun h => nomatch h
theorem rc_all : RCall P (rAll P.K) gAll := by
  intro H G ws w vs xs Q s r hx h
  match xs, hx, h with
  | [⟨m, d⟩], hx, h =>
    obtain ⟨v, rfl, hv⟩ := rvs1 hx
    cases d <;> try exact h.elim
    rename_i ds
    obtain ⟨a, vs, rfl, q1, r1⟩ := rv_lst s hv
    unfold gAll onL at h
    dsimp only at h
    split at h
    · rename_i ns hn
      rw [blsOf_eq hn] at r1
      rw [r1.of_bls] at q1
      exact ⟨a, ns, rfl, SqL.of q1, fz_q s r h (.bl _)⟩
    · exact h.elim
theorem rc_any : RCall P (rAny P.K) gAny := by
  intro H G ws w vs xs Q s r hx h
  match xs, hx, h with
  | [⟨m, d⟩], hx, h =>
    obtain ⟨v, rfl, hv⟩ := rvs1 hx
    cases d <;> try exact h.elim
    rename_i ds
    obtain ⟨a, vs, rfl, q1, r1⟩ := rv_lst s hv
    unfold gAny onL at h
    dsimp only at h
    split at h
    · rename_i ns hn
      rw [blsOf_eq hn] at r1
      rw [r1.of_bls] at q1
      exact ⟨a, ns, rfl, SqL.of q1, fz_q s r h (.bl _)⟩
    · exact h.elim
/-! int(b), int(i); list(xs), list(t); tuple(xs) -/
def gInt : List Val → W → R Val := fun xs w => match xs with
  | [x] => match x.d with
    | .int i => .ok (fz (.int i)) w
    | .bl b => .ok (fz (.int (if b then 1 else 0))) w
    | _ => .bad
  | _ => .bad
def gList : List Val → W → R Val := fun xs w => match xs with
  | [x] => match x.d with
    | .lst ds => .ok ⟨.nw, .lst ds⟩ w
    | .tup ds => .ok ⟨.nw, .lst ds⟩ w
    | _ => .bad
  | _ => .bad
theorem gList_nx (x : List Val) (w : W) (e : Xc) (w' : W) : gList x w ≠ .ex e w' := by
  unfold gList
  split <;> (try split) <;> exact fun h => nomatch h
theorem rc_list : RCall P (fun xs H Q => ∃ p ys, xs = [.ref p] ∧ (SqL P.K H p ys ∨ SqT P.K H p ys) ∧ ∀ l, H l = none → Q (.ref l) (upd H l (.lst ys))) gList := by
  intro H G ws w vs xs Q s r hx h
  match xs, hx, h with
  | [⟨m, d⟩], hx, h =>
    obtain ⟨v, rfl, hv⟩ := rvs1 hx
    cases d <;> try exact h.elim
    · obtain ⟨a, vs, rfl, _, q1, r1⟩ := rv_tup s hv
      exact ⟨a, vs, rfl, .inr q1, fun l hl => nw_q s r h hl r1⟩
    · obtain ⟨a, vs, rfl, q1, r1⟩ := rv_lst s hv
      exact ⟨a, vs, rfl, .inl (SqL.of q1), fun l hl => nw_q s r h hl r1⟩
/-! isinstance(x, T), T a built-in class -/
def tyD : D → String
  | .non => "NoneType" | .bl _ => "bool" | .int _ => "int" | .str _ => "str" | .tup _ => "tuple" | .lst _ => "list" | .scr _ => "list" | .dK _ => "dict" | .dT _ => "dict" | .obj _ => "" | .exc _ => ""
def gIsi (T : String) : Val → W → R Val := fun x w => match kitB (tyD x.d) T with
  | some b => .ok (fz (.bl b)) w
  | none => .bad
end
end DL
namespace DL
open PySem L2
/-! ### statements -/
inductive Out where
  | next (ρ : Env) (w : W) | ret (x : Val) (w : W) | brk (ρ : Env) (w : W) | cont (ρ : Env) (w : W) | ex (x : Xc) (ρ : Env) (w : W) | bad
abbrev DS := Env → W → Out
/-- what was frozen stays so -/
def Mon (G : Hp) (ws : Ws) (G' : Hp) (ws' : Ws) : Prop := Same G G' ∧ io ws <+: io ws' ∧ Stab ws.l ws'.l ∧ ws.n ≤ ws'.n ∧ (ws'.n = ws.n → ws' = ws)
theorem Mon.refl {G : Hp} {ws : Ws} : Mon G ws G ws := ⟨fun _ _ h => h, List.prefix_refl _, Stab.refl _, Nat.le_refl _, fun _ => rfl⟩
theorem Mon.trans {G G1 G2 : Hp} {ws ws1 ws2 : Ws} (a : Mon G ws G1 ws1) (b : Mon G1 ws1 G2 ws2) : Mon G ws G2 ws2 := ⟨a.1.trans b.1, a.2.1.trans b.2.1, a.2.2.1.trans b.2.2.1, Nat.le_trans a.2.2.2.1 b.2.2.2.1, fun h => by
  have h1 := a.2.2.2.1
  have h2 := b.2.2.2.1
  rw [b.2.2.2.2 (by omega), a.2.2.2.2 (by omega)]⟩
theorem Nx.mon {K : PySem.W.Frag} {C : Ca} {G H G' H' : Hp} {ws ws' : Ws} {w' : W} (n : Nx K C G H ws G' H' ws' w') : Mon G ws G' ws' := ⟨n.gg, n.io, n.stb, n.le, fun h => (n.qt h).1⟩
def PostS (P : Pm) (e : En) (Wi : WX) (D : Ends) (G0 : Hp) (ws0 : Ws) : Out → Prop
  | .next ρ w => ∀ σ H G ws, St P.K P.C e σ H G ws ρ w → Mon G0 ws0 G ws → D.nx σ H
  | .brk ρ w => ∀ σ H G ws, St P.K P.C e σ H G ws ρ w → Mon G0 ws0 G ws → D.bk σ H
  | .cont ρ w => ∀ σ H G ws, St P.K P.C e σ H G ws ρ w → Mon G0 ws0 G ws → D.ct σ H
  | .ret x w => ∀ v H G ws, Nx P.K P.C e.G e.H e.ws G H ws w → RV P.K G H ws v x → NewOk e.H v x → (x.m = .fz ∨ x.m = .nw) → D.rt v H
  | .ex x ρ w => ∀ cls d σ H G ws, St P.K P.C e σ H G ws ρ w → XRel P.K P.cm G H (io ws) x cls d → Wi cls d σ H
  | .bad => False
def EvS (P : Pm) (e : En) (Wi : WX) (ts : TS) (g : DS) : Prop := ∀ σ H G ws ρ w (D : Ends), St P.K P.C e σ H G ws ρ w → PostS P e Wi D G ws (g ρ w) → ts D σ H
theorem PostS.after {P : Pm} {e : En} {Wi : WX} {D : Ends} {G G1 : Hp} {ws ws1 : Ws} {o : Out} (m : Mon G ws G1 ws1) (h : PostS P e Wi D G ws o) : PostS P e Wi D G1 ws1 o := by
  cases o with
  | next ρ w => exact fun σ H G2 ws2 st m2 => h σ H G2 ws2 st (m.trans m2)
  | brk ρ w => exact fun σ H G2 ws2 st m2 => h σ H G2 ws2 st (m.trans m2)
  | cont ρ w => exact fun σ H G2 ws2 st m2 => h σ H G2 ws2 st (m.trans m2)
  | ret x w => exact h
  | ex x ρ w => exact h
  | bad => exact h
def R.thn {α : Type} (r : R α) (ρ : Env) (f : α → W → Out) : Out := match r with
  | .ok a w => f a w
  | .ex x w => .ex x ρ w
  | .bad => .bad
def Out.thn (o : Out) (f : DS) : Out := match o with
  | .next ρ w => f ρ w
  | o => o
section
variable {P : Pm} {H0 : En} {Wi : WX} {ta tb tc : TE} {fa fb fc : DE} {ts us : TS} {gs hs : DS}
/-- an expression's end, for a statement -/
theorem postE_of {σ : L2.St} {H G : Hp} {ws : Ws} {ρ : Env} {w : W} {D : Ends} {Q : VK} {r : R Val} {f : Val → W → Out} (st : St P.K P.C H0 σ H G ws ρ w) (h : PostS P H0 Wi D G ws (r.thn ρ f))
    (k : ∀ x w', r = .ok x w' → PostS P H0 Wi D G ws (f x w') → ∀ v H' G' ws', Nx P.K P.C G H ws G' H' ws' w' → RV P.K G' H' ws' v x → NewOk H v x → Q v H') : PostE P (fun c d H' => Wi c d σ H') H G ws Q r := by
  cases r with
  | ok x w' => exact k x w' rfl h
  | ex x w' => exact fun cls d H' G' ws' n hx => h cls d σ H' G' ws' (st.next n) hx
  | bad => exact h
theorem postT_of {σ : L2.St} {H G : Hp} {ws : Ws} {ρ : Env} {w : W} {D : Ends} {Q : Bool → Hp → Prop} {r : R Bool} {f : Bool → W → Out} (st : St P.K P.C H0 σ H G ws ρ w) (h : PostS P H0 Wi D G ws (r.thn ρ f))
    (k : ∀ x w', r = .ok x w' → PostS P H0 Wi D G ws (f x w') → ∀ H' G' ws', Nx P.K P.C G H ws G' H' ws' w' → Q x H') : PostT P (fun c d H' => Wi c d σ H') H G ws Q r := by
  cases r with
  | ok x w' => exact k x w' rfl h
  | ex x w' => exact fun cls d H' G' ws' n hx => h cls d σ H' G' ws' (st.next n) hx
  | bad => exact h
theorem postA_of {σ : L2.St} {H G : Hp} {ws : Ws} {ρ : Env} {w : W} {D : Ends} {Q : List V → Hp → Prop} {r : R (List Val)} {f : List Val → W → Out} (st : St P.K P.C H0 σ H G ws ρ w) (h : PostS P H0 Wi D G ws (r.thn ρ f))
    (k : ∀ x w', r = .ok x w' → PostS P H0 Wi D G ws (f x w') → ∀ v H' G' ws', Nx P.K P.C G H ws G' H' ws' w' → RVs P.K G' H' ws' v x → NewsOk H v x → Q v H') : PostA P (fun c d H' => Wi c d σ H') H G ws Q r := by
  cases r with
  | ok x w' => exact k x w' rfl h
  | ex x w' => exact fun cls d H' G' ws' n hx => h cls d σ H' G' ws' (st.next n) hx
  | bad => exact h
def sNext : DS := fun ρ w => .next ρ w
def sSeq (g h : DS) : DS := fun ρ w => (g ρ w).thn h
theorem ev_next : EvS P H0 Wi tNext sNext := fun σ H G ws ρ w D st h => h σ H G ws st .refl
theorem ev_seq (h1 : EvS P H0 Wi ts gs) (h2 : EvS P H0 Wi us hs) : EvS P H0 Wi (tSeq ts us) (sSeq gs hs) := by
  intro σ H G ws ρ w D st h
  unfold sSeq at h
  refine h1 σ H G ws ρ w _ st ?_
  cases e : gs ρ w with
  | next ρ' w' =>
    rw [e] at h
    exact fun σ' H' G' ws' st' m => h2 σ' H' G' ws' ρ' w' D st' (PostS.after m h)
  | ret x w' => rw [e] at h; exact h
  | brk ρ' w' => rw [e] at h; exact h
  | cont ρ' w' => rw [e] at h; exact h
  | ex x ρ' w' => rw [e] at h; exact h
  | bad => rw [e] at h; exact h
/-! a name is stored -/
theorem St.set {e : En} {σ : L2.St} {H G : Hp} {ws : Ws} {ρ : Env} {w : W} {K : PySem.W.Frag} {C : Ca} {H1 G1 : Hp} {ws1 : Ws} {w1 : W} {i : Nat} {v : V} {x : Val} (st : St K C e σ H G ws ρ w) (n : Nx K C G H ws G1 H1 ws1 w1) (r : RV K G1 H1 ws1 v x) (k : NewOk H v x) (hm : x.m = .fz ∨ x.m = .nw) :
    St K C e (σ.set i (some v)) H1 G1 ws1 (ρ.set i (some x)) w1 := by
  have s1 := st.next n
  have back : ∀ a, (H a).isSome = true → (H a) ≠ none := fun a h z => by rw [z] at h; cases h
  refine ⟨s1.nx0, by rw [List.length_set, List.length_set]; exact s1.len, fun j y e => ?_, fun j y a e hy ea => ?_, fun j l y z a ej el hy hz aj al => ?_⟩
  · by_cases hj : i = j
    · subst hj
      rw [List.getElem?_set] at e ⊢
      rw [if_pos rfl] at e ⊢
      split at e
      · rename_i hl
        rw [if_pos (by rw [s1.len]; exact hl)]
        cases e
        exact ⟨v, rfl, r, hm⟩
      · cases e
    · rw [List.getElem?_set_ne hj] at e ⊢
      exact s1.sl j y e
  · by_cases hj : i = j
    · subst hj
      rw [List.getElem?_set] at e ea
      rw [if_pos rfl] at e ea
      split at e
      · rename_i hl
        rw [if_pos (by rw [s1.len]; exact hl)] at ea
        cases e
        cases ea
        have := k hy a rfl
        intro o q no
        obtain ⟨o', e', no'⟩ := st.nx0.alive a o q no
        exact this o' e' no'
      · cases e
    · rw [List.getElem?_set_ne hj] at e ea
      exact st.own j y a e hy ea
  · -- apart
    have key : ∀ (j : Nat) y a, ρ[j]? = some (some y) → y.m = .nw → σ[j]? = some (some (.ref a)) → ∃ o, H a = some o ∧ Nt o := fun j y a e hy ea => by
      obtain ⟨u, h1, h2, _⟩ := st.sl j y e
      rw [ea] at h1
      cases h1
      obtain ⟨m, d⟩ := y
      simp only at hy
      subst hy
      obtain ⟨b, eb, _, _, un⟩ := h2
      cases eb
      obtain ⟨o, ho, hc⟩ := un.there
      exact ho.at' (nt_cont hc)
    by_cases hj : i = j
    · by_cases hl : i = l
      · rw [← hj, ← hl]
      · exfalso
        subst hj
        rw [List.getElem?_set_ne hl] at el al
        rw [List.getElem?_set, if_pos rfl] at ej aj
        split at ej
        · rename_i hlt
          rw [if_pos (by rw [s1.len]; exact hlt)] at aj
          cases ej
          cases aj
          have h1 := k hy a rfl
          obtain ⟨o, h2, h3⟩ := key l z a el hz al
          exact h1 o h2 h3
        · cases ej
    · by_cases hl : i = l
      · exfalso
        subst hl
        rw [List.getElem?_set_ne hj] at ej aj
        rw [List.getElem?_set, if_pos rfl] at el al
        split at el
        · rename_i hlt
          rw [if_pos (by rw [s1.len]; exact hlt)] at al
          cases el
          cases al
          have h1 := k hz a rfl
          obtain ⟨o, h2, h3⟩ := key j y a ej hy aj
          exact h1 o h2 h3
        · cases el
      · rw [List.getElem?_set_ne hj] at ej aj
        rw [List.getElem?_set_ne hl] at el al
        exact st.ap j l y z a ej el hy hz aj al
def keepM (x : Val) : Bool := match x.m with
  | .fz | .nw => true
  | _ => false
theorem keepM_of {x : Val} (h : keepM x = true) : x.m = .fz ∨ x.m = .nw := by
  obtain ⟨m, d⟩ := x
  cases m <;> first | exact .inl rfl | exact .inr rfl | (simp [keepM] at h)
def sSet (i : Nat) (f : DE) : DS := fun ρ w => (f ρ w).thn ρ fun x w => if keepM x then .next (ρ.set i (some x)) w else .bad
theorem ev_set {i : Nat} (ha : EvE P H0 Wi ta fa) : EvS P H0 Wi (tAsg ta (gName i)) (sSet i fa) := by
  intro σ H G ws ρ w D st h
  unfold sSet at h
  refine ha σ H G ws ρ w _ st (postE_of st h fun x w' _ h v H1 G1 ws1 n r k => ?_)
  split at h
  · rename_i hm
    exact h _ _ _ _ (st.set n r k (keepM_of hm)) n.mon
  · exact h.elim
/-- a tuple's parts are stored -/
def gNames : List Nat → TGs
  | [] => gNil
  | i :: r => gCons (gName i) (gNames r)
def setAll : List Nat → List D → Env → Env
  | i :: is, d :: ds, ρ => setAll is ds (ρ.set i (some (fz d)))
  | _, _, ρ => ρ
theorem St.setAll {e : En} {H G : Hp} {ws : Ws} {w : W} {K : PySem.W.Frag} {C : Ca} : ∀ {is : List Nat} {vs : List V} {ds : List D} {σ : L2.St} {ρ : Env}, St K C e σ H G ws ρ w → Reps K G (io ws) vs ds → is.length = ds.length → ∀ Q : L2.St → Hp → Prop, (∀ σ', St K C e σ' H G ws (DL.setAll is ds ρ) w → Q σ' H) → gNames is vs σ H Q
  | [], _, _, σ, ρ, st, .nil, _, Q, h => ⟨rfl, h σ st⟩
  | [], _, _, _, _, _, .cons _ _, hl, _, _ => by simp at hl
  | _ :: _, _, _, _, _, _, .nil, hl, _, _ => by simp at hl
  | i :: is, v :: vs, d :: ds, σ, ρ, st, .cons a b, hl, Q, h => by
    refine ⟨v, vs, rfl, ?_⟩
    exact St.setAll (st.set (x := fz d) (i := i) st.nx a fz_nw (.inl rfl)) b (by simpa using hl) Q fun σ' s' => h σ' s'
def sSetT (is : List Nat) (f : DE) : DS := fun ρ w => (f ρ w).thn ρ fun x w => match x.d with
  | .tup ds => if is.length = ds.length then .next (setAll is ds ρ) w else .bad
  | _ => .bad
theorem ev_setT {is : List Nat} (ha : EvE P H0 Wi ta fa) : EvS P H0 Wi (tAsg ta (gTup P.K is.length (gNames is))) (sSetT is fa) := by
  intro σ H G ws ρ w D st h
  unfold sSetT at h
  refine ha σ H G ws ρ w _ st (postE_of st h fun x w' _ h v H1 G1 ws1 n r k => ?_)
  obtain ⟨m, d⟩ := x
  cases d <;> try exact h.elim
  rename_i ds
  obtain ⟨a, vs, rfl, _, q1, r1⟩ := rv_tup n.sub r
  dsimp only at h
  split at h
  · rename_i hl
    exact ⟨a, vs, rfl, q1, by rw [r1.length, hl], St.setAll (st.next n) r1 hl _ fun σ' s' => h σ' H1 G1 ws1 s' n.mon⟩
  · exact h.elim
def sExpr (f : DE) : DS := fun ρ w => (f ρ w).thn ρ fun _ w => .next ρ w
theorem ev_expr (ha : EvE P H0 Wi ta fa) : EvS P H0 Wi (tDrop ta) (sExpr fa) := by
  intro σ H G ws ρ w D st h
  unfold sExpr at h
  exact ha σ H G ws ρ w _ st (postE_of st h fun x w' _ h v H1 G1 ws1 n r k => h _ _ _ _ (st.next n) n.mon)
def sRet (f : DE) : DS := fun ρ w => (f ρ w).thn ρ fun x w => if keepM x then .ret x w else .bad
theorem ev_ret (ha : EvE P H0 Wi ta fa) : EvS P H0 Wi (tRet ta) (sRet fa) := by
  intro σ H G ws ρ w D st h
  unfold sRet at h
  refine ha σ H G ws ρ w _ st (postE_of st h fun x w' _ h v H1 G1 ws1 n r k => ?_)
  split at h
  · rename_i hm
    exact h v H1 G1 ws1 (st.nx0.trans n) r (newOk_back (P := P) st.nx0 k) (keepM_of hm)
  · exact h.elim
/-- return name -/
def sRetV (i : Nat) : DS := fun ρ w => match ρ[i]? with
  | some (some x) => .ret x w
  | _ => .bad
theorem ev_retV {i : Nat} : EvS P H0 Wi (tRet (tVar i)) (sRetV i) := by
  intro σ H G ws ρ w D st h
  unfold sRetV at h
  cases e : ρ[i]? with
  | none => rw [e] at h; exact h.elim
  | some o =>
    cases o with
    | none => rw [e] at h; exact h.elim
    | some x =>
      rw [e] at h
      obtain ⟨v, h1, h2, h3⟩ := st.sl i x e
      refine ⟨v, h1, h v H G ws st.nx0 h2 (fun hm a ea => ?_) h3⟩
      subst ea
      exact st.own i x a e hm h1
variable {tA : TT} {fA : DT}
def sIf (c : DT) (g h : DS) : DS := fun ρ w => (c ρ w).thn ρ fun b w => if b then g ρ w else h ρ w
theorem ev_sif (hc : EvT P H0 Wi tA fA) (h1 : EvS P H0 Wi ts gs) (h2 : EvS P H0 Wi us hs) : EvS P H0 Wi (tIfS tA ts us) (sIf fA gs hs) := by
  intro σ H G ws ρ w D st h
  unfold sIf at h
  refine hc σ H G ws ρ w _ st (postT_of st h fun b w' _ h H1 G1 ws1 n => ?_)
  cases b with
  | true => exact iteT (h1 σ H1 G1 ws1 ρ w' D (st.next n) (PostS.after n.mon h))
  | false => exact iteF (h2 σ H1 G1 ws1 ρ w' D (st.next n) (PostS.after n.mon h))
/-- a slot's own list is given away: from here on it stays as it is -/
def sFrz (i : Nat) (g : DS) : DS := fun ρ w => match ρ[i]? with
  | some (some x) => g (ρ.set i (some (fz x.d))) w
  | _ => .bad
end
end DL
namespace DL
open PySem L2
section
variable {P : Pm} {H0 : En} {Wi : WX} {ta tb tc : TE} {fa fb fc : DE} {ts us : TS} {gs hs : DS}
/-- the thing that a slot owns, changed -/
theorem St.mut {K : PySem.W.Frag} {C : Ca} {e : En} {σ : L2.St} {H G : Hp} {ws : Ws} {ρ : Env} {w : W} {i : Nat} {a : Addr} {x : Val} {d' : D} {o' : HO} (st : St K C e σ H G ws ρ w) (ei : ρ[i]? = some (some x)) (hm : x.m = .nw) (ea : σ[i]? = some (some (.ref a)))
    (hoa : ∃ o, H a = some o ∧ Cont o) (co' : Cont o') (u : Unf K G (upd H a o') (io ws) a d') : St K C e σ (upd H a o') G ws (ρ.set i (some ⟨.nw, d'⟩)) w := by
  obtain ⟨v, e1, r, _⟩ := st.sl i x ei
  rw [ea] at e1
  cases e1
  have e0 : Fr e.H a := st.own i x a ei hm ea
  have hr : G a = none ∧ a ∉ regs ws ∧ ∃ o, H a = some o ∧ Cont o := by
    obtain ⟨m, d⟩ := x
    simp only at hm
    subst hm
    obtain ⟨b, eb, g, nr, un⟩ := r
    cases eb
    exact ⟨g, nr, hoa⟩
  have no' : Nt o' := nt_cont co'
  obtain ⟨oa, ha1, ha2⟩ := hr.2.2
  have hl : i < ρ.length := (List.getElem?_eq_some_iff.mp ei).1
  have hne : ∀ b o, H b = some o → b ≠ a → upd H a o' b = some o := fun b o h n => by rw [upd_ne n]; exact h
  have hneL : ∀ b o, Lk H b o → b ≠ a → Lk (upd H a o') b o := fun b o h n => by
    rcases h with h | ⟨h, q, e⟩
    · exact .inl (hne b o h n)
    · exact .inr ⟨h, q, hne b _ e n⟩
  have nreg : ∀ b ∈ regs ws, b ≠ a := fun b hb z => hr.2.1 (by rw [← z]; exact hb)
  have ncap : ∀ b o, e.H b = some o → Nt o → e.G b = none → G b = none ∨ ∃ xs, upd H a o' b = some (.tup xs) := fun b o h no gb => by
    rcases st.nx0.nocap b o h no gb with z | ⟨xs, z⟩
    · exact .inl z
    · by_cases hba : b = a
      · subst hba; exact .inl hr.1
      · exact .inr ⟨xs, by rw [upd_ne hba]; exact z⟩
  refine ⟨⟨st.nx0.gg, fun b o h => ?_, ⟨paired_imp st.rw.obs fun q o hq ⟨⟨dx, e⟩, p⟩ => ⟨⟨dx, hne _ _ e (nreg _ (regs_mem hq).1)⟩, paired_imp p fun y z hy ⟨e, f⟩ => ⟨e, f.move (fun _ _ h => h) (List.prefix_refl _) fun b o eb hb => hneL b o hb (nreg b ((regs_mem hq).2 b (refs_mem hy eb)))⟩⟩, st.rw.nn, st.rw.nd, st.rw.out, tabs_upd st.rw.tb ha1 (nt_cont ha2) (nx_cont ha2), st.rw.nt, ul_upd st.rw (fun _ _ h => h) (nf_cont co'), st.rw.lkw, lkh_cont st.rw ha1 (nf_cont ha2)⟩, fun b o h no n => ?_, fun b o h no => ?_, fun b o h no gb => ncap b o h no gb, st.nx0.io, st.nx0.fresh, st.nx0.le, fun h => ?_, st.nx0.stb⟩, by rw [List.length_set]; exact st.len, fun j y ej => ?_, fun j y b ej hy eb => ?_, fun j l y z b ej el hy hz bj bl => ?_⟩
  · exact hneL b o (st.sub b o h) (ne_of_none h hr.1)
  · exact hneL b o (st.nx0.keep b o h no n) (by obtain ⟨o1, e1, n1⟩ := h.at' no; exact e0.ne e1 n1)
  · by_cases hb : b = a
    · subst hb; rw [upd_same]; exact ⟨o', rfl, no'⟩
    · rw [upd_ne hb]; exact st.nx0.alive b o h no
  · obtain ⟨e2, k⟩ := st.nx0.qt h
    exact ⟨e2, fun b hb o h => hneL b o (k b hb o h) (nreg b (e2 ▸ hb))⟩
  · by_cases hj : i = j
    · subst hj
      rw [List.getElem?_set, if_pos rfl, if_pos hl] at ej
      cases ej
      exact ⟨.ref a, ea, ⟨a, rfl, hr.1, hr.2.1, u⟩, .inr rfl⟩
    · rw [List.getElem?_set_ne hj] at ej
      obtain ⟨v, h1, h2, h3⟩ := st.sl j y ej
      refine ⟨v, h1, ?_, h3⟩
      obtain ⟨m, d⟩ := y
      rcases h3 with z | z
      · simp only at z; subst z; exact h2
      · simp only at z; subst z
        obtain ⟨b, eb, g, nr, un⟩ := h2
        subst eb
        exact ⟨b, rfl, g, nr, un.move (fun _ _ h => h) (List.prefix_refl _) fun o h => hneL b o h fun z => hj (st.ap i j x _ a ei ej hm rfl ea (by rw [h1, z]))⟩
  · by_cases hj : i = j
    · subst hj
      rw [ea] at eb
      cases eb
      exact e0
    · rw [List.getElem?_set_ne hj] at ej
      exact st.own j y b ej hy eb
  · by_cases hj : i = j
    · subst hj
      by_cases hk : i = l
      · exact hk
      · rw [List.getElem?_set_ne hk] at el
        rw [ea] at bj
        cases bj
        exact st.ap i l x z a ei el hm hz ea bl
    · by_cases hk : i = l
      · subst hk
        rw [List.getElem?_set_ne hj] at ej
        rw [ea] at bl
        cases bl
        exact st.ap j i y x a ej ei hy hm bj ea
      · rw [List.getElem?_set_ne hj] at ej
        rw [List.getElem?_set_ne hk] at el
        exact st.ap j l y z b ej el hy hz bj bl
/-- the list that slot i owns -/
def ownL (ρ : Env) (i : Nat) : Option (List D) := match ρ[i]? with
  | some (some ⟨.nw, .lst ds⟩) => some ds
  | _ => none
theorem ownL_of {ρ : Env} {i : Nat} {ds : List D} (h : ownL ρ i = some ds) : ρ[i]? = some (some ⟨.nw, .lst ds⟩) := by
  unfold ownL at h
  split at h
  · rename_i ds' e
    cases h
    exact e
  · cases h
theorem St.list {K : PySem.W.Frag} {C : Ca} {e : En} {σ : L2.St} {H G : Hp} {ws : Ws} {ρ : Env} {w : W} {i : Nat} {ds : List D} (st : St K C e σ H G ws ρ w) (h : ρ[i]? = some (some ⟨.nw, .lst ds⟩)) : ∃ a vs, σ[i]? = some (some (.ref a)) ∧ H a = some (.lst vs) ∧ Reps K G (io ws) vs ds ∧ G a = none ∧ a ∉ regs ws := by
  obtain ⟨v, e1, r, _⟩ := st.sl i _ h
  obtain ⟨a, rfl, g, nr, u⟩ := r
  cases u with
  | lst q r => exact ⟨a, _, e1, q, r, g, nr⟩
/-- xs.append(e) -/
def sApp (i : Nat) (f : DE) : DS := fun ρ w => match ownL ρ i with
  | some ds => (f ρ w).thn ρ fun x w => if keepM x ∧ ds.length < sizeLine then .next (ρ.set i (some ⟨.nw, .lst (ds ++ [x.d])⟩)) w else .bad
  | none => .bad
/-- a value frozen within a body -/
theorem St.frzV {e : En} {σ : L2.St} {H G : Hp} {ws : Ws} {ρ : Env} {w : W} {H1 G1 : Hp} {ws1 : Ws} {w1 : W} {v : V} {x : Val} (st : St P.K P.C e σ H G ws ρ w) (n : Nx P.K P.C G H ws G1 H1 ws1 w1) (r : RV P.K G1 H1 ws1 v x) (k : NewOk H v x) (hm : keepM x = true) :
    ∃ G2, Same G1 G2 ∧ Nx P.K P.C G H ws G2 H1 ws1 w1 ∧ Rep P.K G2 (io ws1) v x.d := by
  obtain ⟨G2, a, b, c, _⟩ := freeze1 n r k (keepM_of hm)
  exact ⟨G2, a, b, c⟩
theorem ev_app {i : Nat} (ha : EvE P H0 Wi ta fa) : EvS P H0 Wi (tDrop (tBM P.K "list" rAppend (tVar i) (tCons ta tNil))) (sApp i fa) := by
  intro σ H G ws ρ w D st h
  unfold sApp at h
  cases eo : ownL ρ i with
  | none => rw [eo] at h; exact h.elim
  | some ds =>
    rw [eo] at h
    dsimp only at h
    have ei := ownL_of eo
    obtain ⟨a, vs, ea, hH, _, _, _⟩ := st.list ei
    refine ⟨.ref a, ea, .inl ⟨rfl, vs, SqL.of hH⟩, ?_⟩
    refine ha σ H G ws ρ w _ st (postE_of st h fun x w' _ h v H1 G1 ws1 n r k => ?_)
    split at h
    · rename_i hc
      obtain ⟨G2, sg, n2, rp⟩ := st.frzV n r k hc.1
      have st2 := st.next n2
      obtain ⟨a2, vs2, ea2, hH2, rs2, _, _⟩ := st2.list ei
      rw [ea] at ea2
      cases ea2
      exact ⟨a, vs2, v, rfl, rfl, hH2, by rw [rs2.length]; exact hc.2, h σ _ G2 ws1 (st2.mut ei rfl ea ⟨_, hH2, trivial⟩ trivial (.lst upd_same (rs2.append (.cons rp .nil)))) n2.mon⟩
    · exact h.elim
/-- xs.extend(e), e a list -/
def sExt (i : Nat) (f : DE) : DS := fun ρ w => match ownL ρ i with
  | some ds => (f ρ w).thn ρ fun x w => match x.d with
    | .lst es => if ds.length + es.length ≤ sizeLine then .next (ρ.set i (some ⟨.nw, .lst (ds ++ es)⟩)) w else .bad
    | _ => .bad
  | none => .bad
theorem ev_ext {i : Nat} (ha : EvE P H0 Wi ta fa) : EvS P H0 Wi (tDrop (tBM P.K "list" rExtend (tVar i) (tCons ta tNil))) (sExt i fa) := by
  intro σ H G ws ρ w D st h
  unfold sExt at h
  cases eo : ownL ρ i with
  | none => rw [eo] at h; exact h.elim
  | some ds =>
    rw [eo] at h
    dsimp only at h
    have ei := ownL_of eo
    obtain ⟨a, vs, ea, hH, _, _, _⟩ := st.list ei
    refine ⟨.ref a, ea, .inl ⟨rfl, vs, SqL.of hH⟩, ?_⟩
    refine ha σ H G ws ρ w _ st (postE_of st h fun x w' _ h v H1 G1 ws1 n r k => ?_)
    obtain ⟨m, d⟩ := x
    cases d <;> try exact h.elim
    rename_i es
    obtain ⟨b, us, rfl, hb, rs⟩ := rv_lst n.sub r
    dsimp only at h
    split at h
    · rename_i hc
      have st2 := st.next n
      obtain ⟨a2, vs2, ea2, hH2, rs2, _, _⟩ := st2.list ei
      rw [ea] at ea2
      cases ea2
      exact ⟨a, b, vs2, us, rfl, rfl, hH2, hb, by rw [rs2.length, rs.length]; exact hc, h σ _ G1 ws1 (st2.mut ei rfl ea ⟨_, hH2, trivial⟩ trivial (.lst upd_same (rs2.append rs))) n.mon⟩
    · exact h.elim
/-- xs[k] = e -/
def sPut (i : Nat) (fk fv : DE) : DS := fun ρ w => (fv ρ w).thn ρ fun x w => match ownL ρ i with
  | some ds => if keepM x then (fk ρ w).thn ρ fun k w => match k.d with
    | .int j => match ixN ds.length j with
      | some n => .next (ρ.set i (some ⟨.nw, .lst (ds.set n x.d)⟩)) w
      | none => .bad
    | _ => .bad
    else .bad
  | none => .bad
end
end DL
namespace DL
open PySem L2
/-! ### what is walked -/
structure ItOk (P : Pm) (J : It) (Ok : Hp → Hp → Ws → Prop) (ds : List D) : Prop where
  go : ∀ G H ws (i : Nat) d, Ok G H ws → ds[i]? = some d → J.go i H
  yl : ∀ G H ws w (i : Nat) d x H', Ok G H ws → Sm G H → RelW P.K P.C G H ws w → ds[i]? = some d → J.yld i H x H' → ∃ G', Nx P.K P.C G H ws G' H' ws w ∧ Rep P.K G' (io ws) x d
  st : ∀ G H ws, Ok G H ws → J.stop ds.length H
def OkF (G1 : Hp) (ws1 : Ws) : Hp → Hp → Ws → Prop := fun G H ws => Same G1 G ∧ Sm G H ∧ io ws1 <+: io ws
def OkQ (P : Pm) (G1 H1 : Hp) (ws1 : Ws) : Hp → Hp → Ws → Prop := fun G H ws => ∃ w, Nx P.K P.C G1 H1 ws1 G H ws w ∧ ws.n = ws1.n
/-- frozen, or only as long as nothing is stored -/
def OkA (P : Pm) (fr : Bool) (G1 H1 : Hp) (ws1 : Ws) : Hp → Hp → Ws → Prop := if fr then OkF G1 ws1 else OkQ P G1 H1 ws1
abbrev DI := Env → W → R (List D × Bool)
def PostI (P : Pm) (E : Value → Option Addr → Hp → Prop) (H G : Hp) (ws : Ws) (Q : It → Hp → Prop) : R (List D × Bool) → Prop
  | .ok x w' => ∀ J H' G' ws', Nx P.K P.C G H ws G' H' ws' w' → ItOk P J (OkA P x.2 G' H' ws') x.1 → Q J H'
  | .ex x w' => ∀ cls d H' G' ws', Nx P.K P.C G H ws G' H' ws' w' → XRel P.K P.cm G' H' (io ws') x cls d → E cls d H'
  | .bad => False
def EvI (P : Pm) (H0 : En) (Wi : WX) (ti : TI) (f : DI) : Prop := ∀ σ H G ws ρ w (Q : It → Hp → Prop), St P.K P.C H0 σ H G ws ρ w → PostI P (fun c d H' => Wi c d σ H') H G ws Q (f ρ w) → ti σ H Q
section
variable {P : Pm} {H0 : En} {Wi : WX} {ta tb tc : TE} {fa fb fc : DE} {ts us : TS} {gs hs : DS} {tr : TA} {fr : DA}
/-- a list that is seen in every state that counts -/
theorem itl_ok {Ok : Hp → Hp → Ws → Prop} {a : Addr} {vs : List V} {ds : List D} (h : ∀ G H ws, Ok G H ws → SqL P.K H a vs ∧ Reps P.K G (io ws) vs ds) : ItOk P (Itl P.K a) Ok ds where
  go := fun G H ws i d ok e => by
    obtain ⟨h1, h2⟩ := h G H ws ok
    obtain ⟨v, hv, _⟩ := h2.getD e
    exact ⟨vs, v, h1, hv⟩
  yl := fun G H ws w i d x H' ok s r e y => by
    obtain ⟨h1, h2⟩ := h G H ws ok
    obtain ⟨v, hv, rp⟩ := h2.getD e
    obtain ⟨rfl, y⟩ := y
    have := y vs h1
    rw [hv] at this
    cases this
    exact ⟨G, Nx.refl s r, rp⟩
  st := fun G H ws ok => by
    obtain ⟨h1, h2⟩ := h G H ws ok
    exact ⟨vs, h1, by rw [h2.length]; exact Nat.le_refl _⟩
theorem itt_ok {Ok : Hp → Hp → Ws → Prop} {a : Addr} {vs : List V} {ds : List D} (h : ∀ G H ws, Ok G H ws → SqT P.K H a vs ∧ Reps P.K G (io ws) vs ds) : ItOk P (Itt P.K a) Ok ds where
  go := fun G H ws i d ok e => by
    obtain ⟨h1, h2⟩ := h G H ws ok
    obtain ⟨v, hv, _⟩ := h2.getD e
    exact ⟨vs, v, h1, hv⟩
  yl := fun G H ws w i d x H' ok s r e y => by
    obtain ⟨h1, h2⟩ := h G H ws ok
    obtain ⟨v, hv, rp⟩ := h2.getD e
    obtain ⟨rfl, y⟩ := y
    have := y vs h1
    rw [hv] at this
    cases this
    exact ⟨G, Nx.refl s r, rp⟩
  st := fun G H ws ok => by
    obtain ⟨h1, h2⟩ := h G H ws ok
    exact ⟨vs, h1, by rw [h2.length]; exact Nat.le_refl _⟩
/-- a value's list, as it is walked -/
theorem rv_walk {H G H1 G1 : Hp} {ws ws1 : Ws} {w1 : W} {v : V} {m : Md} {ds : List D} (n : Nx P.K P.C G H ws G1 H1 ws1 w1) (r : RV P.K G1 H1 ws1 v ⟨m, .lst ds⟩) (k : NewOk H v ⟨m, .lst ds⟩) :
    ∃ a vs G2, v = .ref a ∧ H1 a = some (.lst vs) ∧ Nx P.K P.C G H ws G2 H1 ws1 w1 ∧ ∀ G' H' ws', OkA P (keepM ⟨m, .lst ds⟩) G2 H1 ws1 G' H' ws' → SqL P.K H' a vs ∧ Reps P.K G' (io ws') vs ds := by
  have fin : (m = .fz ∨ m = .nw) → ∃ a vs G2, v = .ref a ∧ H1 a = some (.lst vs) ∧ Nx P.K P.C G H ws G2 H1 ws1 w1 ∧ ∀ G' H' ws', OkF G2 ws1 G' H' ws' → SqL P.K H' a vs ∧ Reps P.K G' (io ws') vs ds := fun hm => by
    obtain ⟨G2, sg, n2, rp, _⟩ := freeze1 n r k hm
    cases rp with
    | lst q r2 => exact ⟨_, _, G2, rfl, n2.sub.eq q, n2, fun G' H' ws' ⟨s1, s2, io⟩ => ⟨SqL.of (s2.eq (s1 _ _ q)), r2.mono s1 io⟩⟩
  cases m with
  | fz => exact fin (.inl rfl)
  | nw => exact fin (.inr rfl)
  | bo =>
    obtain ⟨a, rfl, g, nr, u⟩ := r
    cases u with
    | lst q r2 =>
      refine ⟨a, _, G1, rfl, q, n, fun G' H' ws' ok => ?_⟩
      obtain ⟨w', n', _⟩ : OkQ P G1 H1 ws1 G' H' ws' := ok
      exact ⟨SqL.of (n'.keep _ _ (.inl q) nt_lst nr).eq, r2.mono n'.gg n'.io⟩
  | wd =>
    obtain ⟨a, rfl, g, hr, u⟩ := r
    cases u with
    | lst q r2 =>
      refine ⟨a, _, G1, rfl, q, n, fun G' H' ws' ok => ?_⟩
      obtain ⟨w', n', e⟩ : OkQ P G1 H1 ws1 G' H' ws' := ok
      exact ⟨SqL.of ((n'.qt e).2 a hr _ (.inl q)).eq, r2.mono n'.gg n'.io⟩
/-- range(j), range(i, j) -/
def rngD (lo : Int) (n : Nat) : List D := (List.range n).map fun (k : Nat) => .int (lo + (k : Int))
theorem itr_ok {Ok : Hp → Hp → Ws → Prop} (lo : Int) (n : Nat) : ItOk P (Itr lo n) Ok (rngD lo n) where
  go := fun G H ws i d ok e => by
    have := (List.getElem?_eq_some_iff.mp e).1
    show i < n
    simpa [rngD] using this
  yl := fun G H ws w i d x H' ok s r e y => by
    obtain ⟨rfl, rfl⟩ := y
    refine ⟨G, Nx.refl s r, ?_⟩
    have hi : i < n := by have := (List.getElem?_eq_some_iff.mp e).1; simpa [rngD] using this
    have : d = .int (lo + i) := by
      unfold rngD at e
      rw [List.getElem?_map, List.getElem?_range hi] at e
      exact (Option.some.inj e).symm
    rw [this]
    exact .int _
  st := fun G H ws ok => by
    show n ≤ (rngD lo n).length
    simp [rngD]
noncomputable def iR1 (f : DA) : DI := fun ρ w => (f ρ w).bind fun xs w => match xs with
  | [⟨_, .int j⟩] => if RO j then .ok (rngD 0 j.toNat, true) w else .bad
  | _ => .bad
noncomputable def iR2 (f : DA) : DI := fun ρ w => (f ρ w).bind fun xs w => match xs with
  | [⟨_, .int i⟩, ⟨_, .int j⟩] => if RO2 i j then .ok (rngD i (j - i).toNat, true) w else .bad
  | _ => .bad
theorem ev_iR1 (ha : EvA P H0 Wi tr fr) : EvI P H0 Wi (iRng1 tr) (iR1 fr) := by
  intro σ H G ws ρ w Q st h
  unfold iR1 at h
  refine ha σ H G ws ρ w _ st ?_
  cases e : fr ρ w with
  | bad => rw [e] at h; exact h
  | ex x w' => rw [e] at h; exact h
  | ok xs w' =>
    intro vs H1 G1 ws1 n1 r1 k1
    rw [e] at h
    match xs, r1, h with
    | [⟨m, .int j⟩], r1, h =>
      obtain ⟨v, rfl, hv⟩ := rvs1 r1
      have := rv_int hv
      subst this
      have h : PostI P (fun c d H' => Wi c d σ H') H G ws Q (if RO j then .ok (rngD 0 j.toNat, true) w' else .bad) := h
      split at h
      · rename_i hc
        exact ⟨j, rfl, hc.1, hc.2, h _ H1 G1 ws1 n1 (itr_ok 0 j.toNat)⟩
      · exact h.elim
/-- the signs of a text -/
def sgnD (x : Str) : List D := x.cps.toList.map fun c => .str ⟨#[c]⟩
theorem its_ok {Ok : Hp → Hp → Ws → Prop} (x : Str) : ItOk P (Its x) Ok (sgnD x) where
  go := fun G H ws i d ok e => by
    have := (List.getElem?_eq_some_iff.mp e).1
    show i < x.cps.size
    simpa [sgnD] using this
  yl := fun G H ws w i d v H' ok s r e y => by
    obtain ⟨rfl, c, hc, rfl⟩ := y
    refine ⟨G, Nx.refl s r, ?_⟩
    have : d = .str ⟨#[c]⟩ := by
      unfold sgnD at e
      rw [List.getElem?_map] at e
      have hc' : x.cps.toList[i]? = some c := by simpa using hc
      rw [hc'] at e
      exact (Option.some.inj e).symm
    rw [this]
    exact .str _
  st := fun G H ws ok => by
    show x.cps.size ≤ (sgnD x).length
    simp [sgnD]
/-! ### targets -/
inductive Tg where
  | nm (i : Nat) | tp (is : List Nat)
def gT (K : PySem.W.Frag) : Tg → TG
  | .nm i => gName i
  | .tp is => gTup K is.length (gNames is)
def setT : Tg → D → Env → Option Env
  | .nm i, d, ρ => some (ρ.set i (some (fz d)))
  | .tp is, .tup ds, ρ => if is.length = ds.length then some (setAll is ds ρ) else none
  | .tp _, _, _ => none
theorem ev_tg {e : En} {H G : Hp} {ws : Ws} {w : W} {σ : L2.St} {ρ ρ' : Env} {t : Tg} {v : V} {d : D} (st : St P.K P.C e σ H G ws ρ w) (r : Rep P.K G (io ws) v d) (h : setT t d ρ = some ρ') {Q : L2.St → Hp → Prop} (k : ∀ σ', St P.K P.C e σ' H G ws ρ' w → Q σ' H) : gT P.K t v σ H Q := by
  cases t with
  | nm i =>
    simp only [setT, Option.some.injEq] at h
    subst h
    exact k _ (st.set (x := fz d) (i := i) st.nx r fz_nw (.inl rfl))
  | tp is =>
    cases r <;> try (simp [setT] at h; done)
    rename_i a vs ds q rs
    simp only [setT] at h
    split at h
    · rename_i hl
      cases h
      exact ⟨a, vs, rfl, st.sub.sqT q, by rw [rs.length, hl], St.setAll st rs hl _ k⟩
    · cases h
/-! ### for -/
/-- the rest of a loop -/
def forL (t : Tg) (b : DS) : List D → Env → W → Out
  | [], ρ, w => .next ρ w
  | d :: ds, ρ, w => match setT t d ρ with
    | none => .bad
    | some ρ' => match b ρ' w with
      | .next ρ2 w2 => forL t b ds ρ2 w2
      | .cont ρ2 w2 => forL t b ds ρ2 w2
      | .brk ρ2 w2 => .next ρ2 w2
      | o => o
def sFor (f : DI) (t : Tg) (b : DS) : DS := fun ρ w => (f ρ w).thn ρ fun x w => if x.2 then forL t b x.1 ρ w else .bad
theorem ev_for {ti : TI} {fi : DI} {t : Tg} (hi : EvI P H0 Wi ti fi) (hb : EvS P H0 Wi ts gs) : EvS P H0 Wi (tFor ti (gT P.K t) ts) (sFor fi t gs) := by
  intro σ H G ws ρ w D st h
  unfold sFor at h
  refine hi σ H G ws ρ w _ st ?_
  cases e : fi ρ w with
  | bad => rw [e] at h; exact h
  | ex x w' => rw [e] at h; exact fun cls d H' G' ws' n hx => h cls d σ H' G' ws' (st.next n) hx
  | ok x w' =>
    intro J H1 G1 ws1 n1 ok
    rw [e] at h
    obtain ⟨ds, fr⟩ := x
    have h : PostS P H0 Wi D G ws (if fr = true then forL t gs ds ρ w' else .bad) := h
    cases fr with
    | false => exact h.elim
    | true =>
      have h : PostS P H0 Wi D G1 ws1 (forL t gs ds ρ w') := PostS.after n1.mon h
      have ok : ItOk P J (OkF G1 ws1) ds := ok
      -- the invariant: what is left to be run ends as the whole does
      refine ⟨fun i m σ' H' => m = ds.length - i ∧ i ≤ ds.length ∧ ∃ G' ws' ρ' w2, St P.K P.C H0 σ' H' G' ws' ρ' w2 ∧ Mon G1 ws1 G' ws' ∧ PostS P H0 Wi D G' ws' (forL t gs (ds.drop i) ρ' w2), ⟨ds.length, by simp, Nat.zero_le _, G1, ws1, ρ, w', st.next n1, .refl, h⟩, ?_⟩
      rintro i m σ' H' ⟨rfl, hi, G', ws', ρ', w2, st', mo, hp⟩
      by_cases hlt : i < ds.length
      · have ed : ds[i]? = some ds[i] := by simp [hlt]
        have edrop : ds.drop i = ds[i] :: ds.drop (i + 1) := List.drop_eq_getElem_cons hlt
        rw [edrop] at hp
        simp only [forL] at hp
        refine .inr ⟨ok.go G' H' ws' i _ ⟨mo.1, st'.sub, mo.2.1⟩ ed, fun σ3 H3 => ds.length - (i + 1) = ds.length - (i + 1) ∧ i + 1 ≤ ds.length ∧ ∃ G' ws' ρ' w2, St P.K P.C H0 σ3 H3 G' ws' ρ' w2 ∧ Mon G1 ws1 G' ws' ∧ PostS P H0 Wi D G' ws' (forL t gs (ds.drop (i + 1)) ρ' w2), fun σ3 H3 hn => ⟨ds.length - (i + 1), by omega, hn⟩, fun v H2 y => ?_⟩
        obtain ⟨G2, n2, rp⟩ := ok.yl G' H' ws' w2 i _ v H2 ⟨mo.1, st'.sub, mo.2.1⟩ st'.sub st'.rw ed y
        cases es : setT t ds[i] ρ' with
        | none => rw [es] at hp; exact hp.elim
        | some ρ3 =>
          rw [es] at hp
          dsimp only at hp
          refine ev_tg (st'.next n2) rp es fun σ3 st3 => ?_
          refine hb σ3 H2 G2 ws' ρ3 w2 _ st3 ?_
          have mo2 : Mon G1 ws1 G2 ws' := mo.trans n2.mon
          cases eb : gs ρ3 w2 with
          | bad => rw [eb] at hp; exact hp
          | ex x ρ4 w4 => rw [eb] at hp; exact hp
          | ret x w4 => rw [eb] at hp; exact hp
          | brk ρ4 w4 =>
            rw [eb] at hp
            exact fun σ4 H4 G4 ws4 st4 m4 => hp σ4 H4 G4 ws4 st4 (n2.mon.trans m4)
          | next ρ4 w4 =>
            rw [eb] at hp
            exact fun σ4 H4 G4 ws4 st4 m4 => ⟨rfl, hlt, G4, ws4, ρ4, w4, st4, mo2.trans m4, PostS.after (n2.mon.trans m4) hp⟩
          | cont ρ4 w4 =>
            rw [eb] at hp
            exact fun σ4 H4 G4 ws4 st4 m4 => ⟨rfl, hlt, G4, ws4, ρ4, w4, st4, mo2.trans m4, PostS.after (n2.mon.trans m4) hp⟩
      · have ei : i = ds.length := by omega
        subst ei
        refine .inl ⟨ok.st G' H' ws' ⟨mo.1, st'.sub, mo.2.1⟩, ?_⟩
        rw [List.drop_length] at hp
        exact hp σ' H' G' ws' st' .refl
end
end DL
namespace DL
open PySem L2
section
variable {P : Pm} {H0 : En} {Wi : WX} {ta tb tc : TE} {fa fb fc : DE} {ts us : TS} {gs hs : DS} {tA : TT} {fA : DT}
theorem ItOk.weak {J : It} {fr : Bool} {G1 H1 : Hp} {ws1 : Ws} {ds : List D} (h : ItOk P J (OkA P fr G1 H1 ws1) ds) : ItOk P J (OkQ P G1 H1 ws1) ds := by
  cases fr with
  | false => exact h
  | true =>
    have h : ItOk P J (OkF G1 ws1) ds := h
    have go : ∀ {G H ws}, OkQ P G1 H1 ws1 G H ws → OkF G1 ws1 G H ws := fun ⟨w, n, _⟩ => ⟨n.gg, n.sub, n.io⟩
    exact ⟨fun G H ws i d ok => h.go G H ws i d (go ok), fun G H ws w i d x H' ok => h.yl G H ws w i d x H' (go ok), fun G H ws ok => h.st G H ws (go ok)⟩
/-! ### comprehensions -/
def wipeD (ρ : Env) : List Nat → Env
  | [] => ρ
  | v :: vs => (wipeD ρ vs).set v none
theorem St.drop {K : PySem.W.Frag} {C : Ca} {e : En} {σ : L2.St} {H G : Hp} {ws : Ws} {ρ : Env} {w : W} (st : St K C e σ H G ws ρ w) (i : Nat) : St K C e (σ.set i none) H G ws (ρ.set i none) w := by
  have key : ∀ {j : Nat} {x : Val}, (ρ.set i none)[j]? = some (some x) → ρ[j]? = some (some x) ∧ i ≠ j := fun {j x} h => by
    by_cases hj : i = j
    · subst hj
      rw [List.getElem?_set, if_pos rfl] at h
      split at h <;> cases h
    · rw [List.getElem?_set_ne hj] at h
      exact ⟨h, hj⟩
  refine ⟨st.nx0, by rw [List.length_set, List.length_set]; exact st.len, fun j x h => ?_, fun j x a h hm ea => ?_, fun j l x y a hj hl hx hy aj al => ?_⟩
  · obtain ⟨h1, h2⟩ := key h
    rw [List.getElem?_set_ne h2]
    exact st.sl j x h1
  · obtain ⟨h1, h2⟩ := key h
    rw [List.getElem?_set_ne h2] at ea
    exact st.own j x a h1 hm ea
  · obtain ⟨h1, h2⟩ := key hj
    obtain ⟨h3, h4⟩ := key hl
    rw [List.getElem?_set_ne h2] at aj
    rw [List.getElem?_set_ne h4] at al
    exact st.ap j l x y a h1 h3 hx hy aj al
theorem St.wipe {K : PySem.W.Frag} {C : Ca} {e : En} {σ : L2.St} {H G : Hp} {ws : Ws} {ρ : Env} {w : W} (st : St K C e σ H G ws ρ w) : ∀ vs : List Nat, St K C e (L2.wipe σ vs) H G ws (wipeD ρ vs) w
  | [] => st
  | v :: vs => (St.wipe st vs).drop v
/-- what is stored into slots of vs does not count behind wipe -/
theorem wipe_set {σ : L2.St} {i : Nat} {x : Option V} : ∀ {vs : List Nat}, i ∈ vs → L2.wipe (σ.set i x) vs = L2.wipe σ vs
  | v :: vs, h => by
    unfold L2.wipe
    by_cases e : i = v
    · subst e
      by_cases hm : i ∈ vs
      · rw [wipe_set hm]
      · have go : ∀ (ws : List Nat), i ∉ ws → L2.wipe (σ.set i x) ws = (L2.wipe σ ws).set i x := by
          intro ws
          induction ws with
          | nil => intro _; rfl
          | cons u us ih =>
            intro hn
            unfold L2.wipe
            rw [ih (fun z => hn (List.mem_cons_of_mem _ z)), List.set_comm]
            intro z
            exact hn (by rw [z]; exact List.mem_cons_self)
        rw [go vs hm]
        simp
    · rw [wipe_set ((List.mem_cons.mp h).resolve_left e)]
theorem wipe_wipe {σ : L2.St} : ∀ (us vs : List Nat), (∀ i ∈ us, i ∈ vs) → L2.wipe (L2.wipe σ us) vs = L2.wipe σ vs
  | [], _, _ => rfl
  | u :: us, vs, h => by
    show L2.wipe ((L2.wipe σ us).set u none) vs = _
    rw [wipe_set (h u List.mem_cons_self)]
    exact wipe_wipe us vs fun i hi => h i (List.mem_cons_of_mem _ hi)
def tgs : Tg → List Nat
  | .nm i => [i]
  | .tp is => is
theorem gNames_w {is : List Nat} {σ : L2.St} {H : Hp} {Q : L2.St → Hp → Prop} {vs : List Nat} : ∀ {us : List V}, (∀ i ∈ is, i ∈ vs) → gNames is us σ H Q → gNames is us σ H (fun σ' H' => L2.wipe σ' vs = L2.wipe σ vs ∧ Q σ' H') := by
  induction is generalizing σ with
  | nil => intro us _ h; exact ⟨h.1, rfl, h.2⟩
  | cons i is ih =>
    intro us hs h
    obtain ⟨v, r, e, h⟩ := h
    refine ⟨v, r, e, ?_⟩
    have := ih (σ := σ.set i (some v)) (us := r) (fun j hj => hs j (List.mem_cons_of_mem _ hj)) h
    rw [wipe_set (hs i List.mem_cons_self)] at this
    exact this
theorem gT_w {K : PySem.W.Frag} {t : Tg} {v : V} {σ : L2.St} {H : Hp} {Q : L2.St → Hp → Prop} {vs : List Nat} (hs : ∀ i ∈ tgs t, i ∈ vs) (h : gT K t v σ H Q) : gT K t v σ H (fun σ' H' => L2.wipe σ' vs = L2.wipe σ vs ∧ Q σ' H') := by
  cases t with
  | nm i => exact ⟨wipe_set (hs i (by simp [tgs])), h⟩
  | tp is =>
    obtain ⟨a, xs, e, q, l, h⟩ := h
    exact ⟨a, xs, e, q, l, gNames_w hs h⟩
/-- the rest of a comprehension: what it makes; the world stays -/
def lcL (t : Tg) (c : DT) (f : DE) : List D → Env → W → R (List D)
  | [], _, w => .ok [] w
  | d :: ds, ρ, w => match setT t d ρ with
    | none => .bad
    | some ρ' => match c ρ' w with
      | .ok b w2 => if w2.n = w.n then (if b then (match f ρ' w2 with
        | .ok x w3 => if keepM x ∧ w3.n = w.n then (match lcL t c f ds ρ w3 with
          | .ok r w4 => .ok (x.d :: r) w4
          | _ => .bad) else .bad
        | _ => .bad) else lcL t c f ds ρ w2) else .bad
      | _ => .bad
def tYesD : DT := fun _ w => .ok true w
def dLc (fi : DI) (t : Tg) (c : DT) (f : DE) (vs : List Nat) : DE := fun ρ w => (fi ρ w).bind fun x w1 => if x.1.length ≤ sizeLine then (match lcL t c f x.1 (wipeD ρ vs) w1 with
  | .ok r w2 => .ok ⟨.nw, .lst r⟩ w2
  | _ => .bad) else .bad
theorem ev_lc {ti : TI} {fi : DI} {t : Tg} {vs : List Nat} (hi : EvI P H0 Wi ti fi) (hc : EvT P H0 (fun _ _ _ _ => False) tA fA) (he : EvE P H0 (fun _ _ _ _ => False) ta fa) (hv : ∀ i ∈ tgs t, i ∈ vs) : EvE P H0 Wi (tLc ti (gT P.K t) tA ta vs) (dLc fi t fA fa vs) := by
  intro σ H G ws ρ w Q st h
  unfold dLc at h
  refine hi σ H G ws ρ w _ st ?_
  cases e : fi ρ w with
  | bad => rw [e] at h; exact h
  | ex x w' => rw [e] at h; exact h
  | ok x w' =>
    intro J H1 G1 ws1 n1 ok D hD
    rw [e] at h
    obtain ⟨ds, fr⟩ := x
    have ok := ok.weak
    have h : PostE P (fun c d H' => Wi c d σ H') H G ws Q (if ds.length ≤ sizeLine then (match lcL t fA fa ds (wipeD ρ vs) w' with | .ok r w2 => .ok ⟨.nw, .lst r⟩ w2 | _ => .bad) else .bad) := h
    have hsz : ds.length ≤ sizeLine := Classical.byContradiction fun hsz => by rw [if_neg hsz] at h; exact h
    rw [if_pos hsz] at h
    cases er : lcL t fA fa ds (wipeD ρ vs) w' with
    | bad => rw [er] at h; exact h.elim
    | ex x w2 => rw [er] at h; exact h.elim
    | ok r w2 =>
      rw [er] at h
      dsimp only at h
      have gD : G1 D = none := n1.sub.free hD
      -- the invariant
      refine ⟨fun i m H' => m = ds.length - i ∧ i ≤ ds.length ∧ ∃ G' ws' w3 acc made rest, Nx P.K P.C G1 H1 ws1 G' H' ws' w3 ∧ ws'.n = ws1.n ∧ H' D = some (.lst acc) ∧ G' D = none ∧ D ∉ regs ws' ∧ acc.length ≤ i ∧ Reps P.K G' (io ws') acc made ∧ lcL t fA fa (ds.drop i) (wipeD ρ vs) w3 = .ok rest w2 ∧ made ++ rest = r, ⟨ds.length, by simp, Nat.zero_le _, G1, ws1, w', [], [], r, Nx.new n1.sub n1.rw hD, rfl, upd_same, gD, fun hr => ?_, Nat.le_refl _, .nil, er, rfl⟩, ?_⟩
      · obtain ⟨o, e, _⟩ := reg_there n1.rw hr
        rw [hD] at e; cases e
      rintro i m H' ⟨rfl, hi, G', ws', w3, acc, made, rest, n, cnt, hDD, gD', rD', hacc, rs, el, em⟩
      have stw : St P.K P.C H0 (L2.wipe σ vs) H' G' ws' (wipeD ρ vs) w3 := ((st.next n1).next n).wipe vs
      have okq : OkQ P G1 H1 ws1 G' H' ws' := ⟨w3, n, cnt⟩
      by_cases hlt : i < ds.length
      · have ed : ds[i]? = some ds[i] := by simp [hlt]
        have edrop : ds.drop i = ds[i] :: ds.drop (i + 1) := List.drop_eq_getElem_cons hlt
        rw [edrop] at el
        simp only [lcL] at el
        cases es : setT t ds[i] (wipeD ρ vs) with
        | none => rw [es] at el; cases el
        | some ρ' =>
          rw [es] at el
          dsimp only at el
          refine .inr ⟨ok.go G' H' ws' i _ okq ed, fun H'' => i + 1 ≤ ds.length ∧ ∃ G' ws' w3 acc made rest, Nx P.K P.C G1 H1 ws1 G' H'' ws' w3 ∧ ws'.n = ws1.n ∧ H'' D = some (.lst acc) ∧ G' D = none ∧ D ∉ regs ws' ∧ acc.length ≤ i + 1 ∧ Reps P.K G' (io ws') acc made ∧ lcL t fA fa (ds.drop (i + 1)) (wipeD ρ vs) w3 = .ok rest w2 ∧ made ++ rest = r, fun H'' hn => ⟨ds.length - (i + 1), by omega, rfl, hn⟩, fun v H2 y => ?_⟩
          obtain ⟨G2, n2, rp⟩ := ok.yl G' H' ws' w3 i _ v H2 okq stw.sub stw.rw ed y
          have hg := ev_tg (stw.next n2) rp es (Q := fun σ2 _ => St P.K P.C H0 σ2 H2 G2 ws' ρ' w3) fun σ2 st2 => st2
          have hg := gT_w hv hg
          have mono : ∀ {v : V} {σ0 : L2.St} {H0' : Hp} {Q1 Q2 : L2.St → Hp → Prop}, (∀ s, Q1 s H0' → Q2 s H0') → gT P.K t v σ0 H0' Q1 → gT P.K t v σ0 H0' Q2 := by
            intro v σ0 H0' Q1 Q2 hq hh
            cases t with
            | nm j => exact hq _ hh
            | tp is =>
              obtain ⟨a, xs, e, q, l, hh⟩ := hh
              refine ⟨a, xs, e, q, l, ?_⟩
              have go : ∀ (is : List Nat) (xs : List V) (σ0 : L2.St), gNames is xs σ0 H0' Q1 → gNames is xs σ0 H0' Q2 := by
                intro is
                induction is with
                | nil => intro xs σ0 hh; exact ⟨hh.1, hq _ hh.2⟩
                | cons j js ih =>
                  intro xs σ0 hh
                  obtain ⟨v, r, e, hh⟩ := hh
                  exact ⟨v, r, e, ih _ _ hh⟩
              exact go is xs σ0 hh
          refine mono (fun σ2 hσ => ?_) hg
          obtain ⟨hw, st2⟩ := hσ
          refine ⟨by rw [hw]; exact wipe_wipe vs vs fun _ h => h, ?_⟩
          refine hc σ2 H2 G2 ws' ρ' w3 _ st2 ?_
          cases ec : fA ρ' w3 with
          | bad => rw [ec] at el; cases el
          | ex x w4 => rw [ec] at el; cases el
          | ok b w4 =>
            rw [ec] at el
            dsimp only at el
            intro H3 G3 ws3 n3
            have hn4 : w4.n = w3.n := Classical.byContradiction fun z => by rw [if_neg z] at el; cases el
            rw [if_pos hn4] at el
            have n23 := n2.trans n3
            have c3 : ws3.n = ws1.n := (n23.same stw.rw hn4).trans cnt
            have d3 : H3 D = some (.lst acc) := (n23.keep D _ (.inl hDD) nt_lst rD').eq
            have g3 : G3 D = none := (n23.nocap D _ hDD nt_lst gD').resolve_right fun ⟨_, z⟩ => by rw [d3] at z; cases z
            have r3 : D ∉ regs ws3 := fun hr => by
              rcases n23.fresh D hr with z | z
              · exact rD' z
              · exact z _ hDD nt_lst
            cases b with
            | false =>
              refine iteF ?_
              exact ⟨hlt, G3, ws3, w4, acc, made, rest, n.trans n23, c3, d3, g3, r3, by omega, rs.mono n23.gg n23.io, el, em⟩
            | true =>
              refine iteT ?_
              rw [if_pos rfl] at el
              refine he σ2 H3 G3 ws3 ρ' w4 _ (st2.next n3) ?_
              cases ee : fa ρ' w4 with
              | bad => rw [ee] at el; cases el
              | ex x w5 => rw [ee] at el; cases el
              | ok x w5 =>
                rw [ee] at el
                dsimp only at el
                intro u H4 G4 ws4 n4 r4 k4
                have hx : keepM x = true ∧ w5.n = w3.n := Classical.byContradiction fun z => by rw [if_neg z] at el; cases el
                rw [if_pos hx] at el
                cases el2 : lcL t fA fa (ds.drop (i + 1)) (wipeD ρ vs) w5 with
                | bad => rw [el2] at el; cases el
                | ex z w6 => rw [el2] at el; cases el
                | ok rest' w6 =>
                  rw [el2] at el
                  simp only [R.ok.injEq] at el
                  obtain ⟨e1, rfl⟩ := el
                  have n24 := n23.trans n4
                  have nn := n.trans n24
                  have c4 : ws4.n = ws1.n := (n24.same stw.rw hx.2).trans cnt
                  have d4 : H4 D = some (.lst acc) := (n24.keep D _ (.inl hDD) nt_lst rD').eq
                  have g4 : G4 D = none := (n24.nocap D _ hDD nt_lst gD').resolve_right fun ⟨_, z⟩ => by rw [d4] at z; cases z
                  have r4' : D ∉ regs ws4 := fun hr => by
                    rcases n24.fresh D hr with z | z
                    · exact rD' z
                    · exact z _ hDD nt_lst
                  obtain ⟨G5, s5, n5, rp5, f5⟩ := freeze1 nn r4 (newOk_back (P := P) (n.trans n23) k4) (keepM_of hx.1)
                  have g5 : G5 D = none := f5 D (fun hm ev => by
                    exact k4 hm D ev _ d3 nt_lst) g4
                  refine ⟨acc, d4, by omega, hlt, G5, ws4, w5, acc ++ [u], made ++ [x.d], rest', ?_, c4, upd_same, g5, r4', by rw [List.length_append]; simp; omega, (rs.mono (n24.gg.trans s5) n24.io).append (.cons rp5 .nil), el2, by rw [← em, ← e1]; simp⟩
                  -- the list at D has grown
                  have hne : ∀ b o, H4 b = some o → b ≠ D → upd H4 D (.lst (acc ++ [u])) b = some o := fun b o h n => by rw [upd_ne n]; exact h
                  have nreg : ∀ b ∈ regs ws4, b ≠ D := fun b hb z => r4' (by rw [← z]; exact hb)
                  refine ⟨n5.gg, fun b o h => (n5.sub b o h).upd (ne_of_none h g5), ⟨paired_imp n5.rw.obs fun q o hq ⟨⟨dx, e⟩, p⟩ => ⟨⟨dx, hne _ _ e (nreg _ (regs_mem hq).1)⟩, paired_imp p fun y z hy ⟨e, f⟩ => ⟨e, f.move (fun _ _ h => h) (List.prefix_refl _) fun b o eb hb => hb.upd (nreg b ((regs_mem hq).2 b (refs_mem hy eb)))⟩⟩, n5.rw.nn, n5.rw.nd, n5.rw.out, tabs_upd n5.rw.tb d4 nt_lst (nx_cont trivial), n5.rw.nt, ul_upd n5.rw (fun _ _ h => h) (by intro _ _ h; cases h), n5.rw.lkw, lkh_cont n5.rw d4 (by intro _ _ z; cases z)⟩, fun b o h no nr => (n5.keep b o h no nr).upd (h.ne hD), fun b o h no => ?_, (fun b o h no gb => by
                    rcases n5.nocap b o h no gb with z | ⟨xs, z⟩
                    · exact .inl z
                    · by_cases hbD : b = D
                      · subst hbD; exact .inl g5
                      · exact .inr ⟨xs, by rw [upd_ne hbD]; exact z⟩), n5.io, n5.fresh, n5.le, fun h => ?_, n5.stb⟩
                  · by_cases hb : b = D
                    · rw [hb, upd_same]; exact ⟨_, rfl, nt_lst⟩
                    · rw [upd_ne hb]; exact n5.alive b o h no
                  · obtain ⟨e2, k⟩ := n5.qt h
                    exact ⟨e2, fun b hb o h => (k b hb o h).upd (h.ne hD)⟩
      · have ei : i = ds.length := by omega
        subst ei
        rw [List.drop_length] at el
        simp only [lcL, R.ok.injEq] at el
        obtain ⟨e1, rfl⟩ := el
        subst e1
        rw [List.append_nil] at em
        subst em
        refine .inl ⟨ok.st G' H' ws' okq, h (.ref D) H' G' ws' (n1.trans n) ⟨D, rfl, gD', rD', .lst hDD rs⟩ (fun _ a ea => ?_)⟩
        cases ea
        intro o q no
        obtain ⟨o', z, _⟩ := n1.alive D o q no
        rw [hD] at z; cases z
end
end DL
namespace DL
open PySem L2
section
variable {P : Pm} {H0 : En} {Wi : WX} {ta tb tc : TE} {fa fb fc : DE} {ts us : TS} {gs hs : DS} {tA : TT} {fA : DT} {tr : TA} {fr : DA}
/-! ### while -/
def whileL (c : DT) (b : DS) : Nat → Env → W → Out
  | 0, _, _ => .bad
  | n + 1, ρ, w => (c ρ w).thn ρ fun t w => if t then (match b ρ w with
    | .next ρ2 w2 => whileL c b n ρ2 w2
    | .cont ρ2 w2 => whileL c b n ρ2 w2
    | .brk ρ2 w2 => .next ρ2 w2
    | o => o) else .next ρ w
theorem ev_while {n : Nat} (hc : EvT P H0 Wi tA fA) (hb : EvS P H0 Wi ts gs) : EvS P H0 Wi (tWhile tA ts) (whileL fA gs n) := by
  intro σ H G ws ρ w D st h
  refine ⟨fun m σ' H' => ∃ G' ws' ρ' w', St P.K P.C H0 σ' H' G' ws' ρ' w' ∧ PostS P H0 Wi D G' ws' (whileL fA gs m ρ' w'), ⟨n, G, ws, ρ, w, st, h⟩, ?_⟩
  rintro m σ' H' ⟨G', ws', ρ', w', st', hp⟩
  cases m with
  | zero => exact hp.elim
  | succ m =>
    unfold whileL at hp
    refine hc σ' H' G' ws' ρ' w' _ st' (postT_of st' hp fun b w2 _ hp H1 G1 ws1 n1 => ?_)
    cases b with
    | false => exact iteF (hp σ' H1 G1 ws1 (st'.next n1) n1.mon)
    | true =>
      refine iteT ?_
      rw [if_pos rfl] at hp
      refine ⟨fun σ3 H3 => ∃ G' ws' ρ' w', St P.K P.C H0 σ3 H3 G' ws' ρ' w' ∧ PostS P H0 Wi D G' ws' (whileL fA gs m ρ' w'), fun σ3 H3 h3 => ⟨m, Nat.lt_succ_self _, h3⟩, ?_⟩
      refine hb σ' H1 G1 ws1 ρ' w2 _ (st'.next n1) ?_
      cases eb : gs ρ' w2 with
      | bad => rw [eb] at hp; exact hp
      | ex x ρ4 w4 => rw [eb] at hp; exact hp
      | ret x w4 => rw [eb] at hp; exact hp
      | brk ρ4 w4 =>
        rw [eb] at hp
        exact fun σ4 H4 G4 ws4 st4 m4 => hp σ4 H4 G4 ws4 st4 (n1.mon.trans m4)
      | next ρ4 w4 =>
        rw [eb] at hp
        exact fun σ4 H4 G4 ws4 st4 m4 => ⟨G4, ws4, ρ4, w4, st4, PostS.after (n1.mon.trans m4) hp⟩
      | cont ρ4 w4 =>
        rw [eb] at hp
        exact fun σ4 H4 G4 ws4 st4 m4 => ⟨G4, ws4, ρ4, w4, st4, PostS.after (n1.mon.trans m4) hp⟩
/-! ### a, b = x, y -/
theorem St.set' {K : PySem.W.Frag} {C : Ca} {e : En} {σ : L2.St} {H G : Hp} {ws : Ws} {ρ : Env} {w : W} {i : Nat} {v : V} {x : Val} (st : St K C e σ H G ws ρ w) (r : RV K G H ws v x) (hm : x.m = .fz ∨ x.m = .nw) (k0 : x.m = .nw → ∀ a, v = .ref a → Fr e.H a)
    (ka : x.m = .nw → ∀ (j : Nat) y, ρ[j]? = some (some y) → y.m = .nw → σ[j]? ≠ some (some v)) : St K C e (σ.set i (some v)) H G ws (ρ.set i (some x)) w := by
  refine ⟨st.nx0, by rw [List.length_set, List.length_set]; exact st.len, fun j y e => ?_, fun j y a e hy ea => ?_, fun j l y z a ej el hy hz aj al => ?_⟩
  · by_cases hj : i = j
    · subst hj
      rw [List.getElem?_set, if_pos rfl] at e ⊢
      split at e
      · rename_i hl
        rw [if_pos (by rw [st.len]; exact hl)]
        cases e
        exact ⟨v, rfl, r, hm⟩
      · cases e
    · rw [List.getElem?_set_ne hj] at e ⊢
      exact st.sl j y e
  · by_cases hj : i = j
    · subst hj
      rw [List.getElem?_set, if_pos rfl] at e ea
      split at e
      · rename_i hl
        rw [if_pos (by rw [st.len]; exact hl)] at ea
        cases e
        cases ea
        exact k0 hy a rfl
      · cases e
    · rw [List.getElem?_set_ne hj] at e ea
      exact st.own j y a e hy ea
  · by_cases hj : i = j
    · by_cases hl : i = l
      · rw [← hj, ← hl]
      · exfalso
        subst hj
        rw [List.getElem?_set_ne hl] at el al
        rw [List.getElem?_set, if_pos rfl] at ej aj
        split at ej
        · rename_i hlt
          rw [if_pos (by rw [st.len]; exact hlt)] at aj
          cases ej
          cases aj
          exact ka hy l z el hz al
        · cases ej
    · by_cases hl : i = l
      · exfalso
        subst hl
        rw [List.getElem?_set_ne hj] at ej aj
        rw [List.getElem?_set, if_pos rfl] at el al
        split at el
        · rename_i hlt
          rw [if_pos (by rw [st.len]; exact hlt)] at al
          cases el
          cases al
          exact ka hz j y ej hy aj
        · cases el
      · rw [List.getElem?_set_ne hj] at ej aj
        rw [List.getElem?_set_ne hl] at el al
        exact st.ap j l y z a ej el hy hz aj al
def setVs : List Nat → List V → L2.St → L2.St
  | i :: is, v :: vs, σ => setVs is vs (σ.set i (some v))
  | _, _, σ => σ
def setXs : List Nat → List Val → Env → Env
  | i :: is, x :: xs, ρ => setXs is xs (ρ.set i (some x))
  | _, _, ρ => ρ
theorem St.setXs {K : PySem.W.Frag} {C : Ca} {e : En} {H G : Hp} {ws : Ws} {w : W} : ∀ {is : List Nat} {vs : List V} {xs : List Val} {σ : L2.St} {ρ : Env}, St K C e σ H G ws ρ w → RVs K G H ws vs xs → NewsOk e.H vs xs → xs.all keepM = true →
    (∀ (i : Nat) x, xs[i]? = some x → x.m = .nw → ∀ (j : Nat) y v, ρ[j]? = some (some y) → y.m = .nw → vs[i]? = some v → σ[j]? ≠ some (some v)) → St K C e (setVs is vs σ) H G ws (DL.setXs is xs ρ) w
  | [], _, _, _, _, st, _, _, _, _ => st
  | _ :: _, _, _, _, _, st, .nil, _, _, _ => st
  | i :: is, _, _, σ, ρ, st, .cons (v := v) (x := x) (vs := vs) (xs := xs) r rs, k, hm, ka => by
    rw [List.all_cons, Bool.and_eq_true] at hm
    have st1 := st.set' (i := i) r (keepM_of hm.1) (fun hx a ea => k.1 hx a ea) (fun hx j y ej hy => ka 0 x rfl hx j y v ej hy rfl)
    refine St.setXs (is := is) st1 rs k.2.2 hm.2 fun l y el hy j z u ej hz eu => ?_
    by_cases hj : i = j
    · subst hj
      rw [List.getElem?_set, if_pos rfl] at ej
      split at ej
      · cases ej
        intro q
        rw [List.getElem?_set, if_pos rfl] at q
        split at q
        · cases q
          exact k.2.1 hz l y el hy eu
        · cases q
      · cases ej
    · rw [List.getElem?_set_ne hj] at ej ⊢
      exact ka (l + 1) y (by simpa using el) hy j z u ej hz (by simpa using eu)
theorem newsOk_get {H : Hp} : ∀ {vs : List V} {xs : List Val} (i : Nat) {x : Val} {a : Addr}, NewsOk H vs xs → xs[i]? = some x → x.m = .nw → vs[i]? = some (.ref a) → Fr H a
  | [], _, _, _, _, _, _, _, e => by simp at e
  | _ :: _, [], _, _, _, _, e, _, _ => by simp at e
  | _ :: _, _ :: _, 0, _, _, k, e, hm, ev => by simp at e ev; subst e ev; exact k.1 hm _ rfl
  | _ :: _, _ :: _, i + 1, _, _, k, e, hm, ev => newsOk_get i k.2.2 (by simpa using e) hm (by simpa using ev)
/-- the state behind several stores at once -/
theorem St.setAllX {e : En} {σ : L2.St} {H G : Hp} {ws : Ws} {ρ : Env} {w : W} {H1 G1 : Hp} {ws1 : Ws} {w1 : W} {vs : List V} {xs : List Val} (is : List Nat) (st : St P.K P.C e σ H G ws ρ w) (n : Nx P.K P.C G H ws G1 H1 ws1 w1) (r : RVs P.K G1 H1 ws1 vs xs) (k : NewsOk H vs xs) (hm : xs.all keepM = true) :
    St P.K P.C e (setVs is vs σ) H1 G1 ws1 (DL.setXs is xs ρ) w1 := by
  refine St.setXs (st.next n) r (newsOk_back (P := P) st.nx0 k) hm fun i x ex hx j y v ej hy ev ea => ?_
  obtain ⟨u, h1, h2, _⟩ := st.sl j y ej
  rw [ea] at h1
  cases h1
  obtain ⟨m, d⟩ := y
  simp only at hy
  subst hy
  obtain ⟨b, eb, _, _, un⟩ := h2
  subst eb
  obtain ⟨o, ho, hc⟩ := un.there
  obtain ⟨o1, e1, c1⟩ := ho.at' (nt_cont hc)
  exact newsOk_get i k ex hx ev o1 e1 c1
theorem RVs.length {K : PySem.W.Frag} {G H : Hp} {ws : Ws} : ∀ {vs : List V} {xs : List Val}, RVs K G H ws vs xs → vs.length = xs.length
  | _, _, .nil => rfl
  | _, _, .cons _ b => by rw [List.length_cons, List.length_cons, RVs.length b]
/-! ### defs -/
abbrev DF := List D → W → R Val
def spD (P : Pm) (F : DF) : Sp := fun vs H Q E => ∃ G ws w ds, Sm G H ∧ RelW P.K P.C G H ws w ∧ Reps P.K G (io ws) vs ds ∧ PostE P E H G ws Q (F ds w)
/-- a def: n parameters, N slots in all -/
def fnD (n N : Nat) (g : DS) : DF := fun ds w => if ds.length = n then (match g (ds.map (fun d => some (fz d)) ++ List.replicate (N - n) none) w with
  | .ret x w' => .ok x w'
  | .next _ w' => .ok (fz .non) w'
  | .ex x _ w' => .ex x w'
  | _ => .bad) else .bad
theorem spD_len {n N : Nat} {g : DS} {vs : List V} {H : Hp} {Q : VK} {E : XK} (h : spD P (fnD n N g) vs H Q E) : vs.length = n := by
  obtain ⟨G, ws, w, ds, _, _, r, p⟩ := h
  unfold fnD at p
  split at p
  · rename_i hl
    rw [r.length, hl]
  · exact p.elim
/-- the state at a def's entry -/
theorem st_start {G H : Hp} {ws : Ws} {w : W} {vs : List V} {ds : List D} {k : Nat} {K : PySem.W.Frag} {C : Ca} (s : Sm G H) (r : RelW K C G H ws w) (rs : Reps K G (io ws) vs ds) : St K C ⟨H, G, ws⟩ (vs.map some ++ List.replicate k none) H G ws (ds.map (fun d => some (fz d)) ++ List.replicate k none) w := by
  have key : ∀ {i : Nat} {x : Val}, (ds.map (fun d => some (fz d)) ++ List.replicate k none)[i]? = some (some x) → ∃ d v, ds[i]? = some d ∧ vs[i]? = some v ∧ x = fz d ∧ Rep K G (io ws) v d := fun {i x} h => by
    by_cases hi : i < ds.length
    · rw [List.getElem?_append_left (by simpa using hi)] at h
      rw [List.getElem?_map] at h
      obtain ⟨d, ed⟩ : ∃ d, ds[i]? = some d := ⟨ds[i], by simp [hi]⟩
      rw [ed] at h
      obtain ⟨v, ev, rp⟩ := rs.getD ed
      simp only [Option.map_some, Option.some.injEq] at h
      exact ⟨d, v, ed, ev, h.symm, rp⟩
    · rw [List.getElem?_append_right (by simp; omega)] at h
      rw [List.getElem?_replicate] at h
      split at h <;> cases h
  refine ⟨Nx.refl s r, by simp [rs.length], fun i x h => ?_, fun i x a h hm => ?_, fun i j x y a h _ hm => ?_⟩
  · obtain ⟨d, v, ed, ev, rfl, rp⟩ := key h
    refine ⟨v, ?_, rp, .inl rfl⟩
    have hi : i < vs.length := (List.getElem?_eq_some_iff.mp ev).1
    rw [List.getElem?_append_left (by simpa using hi), List.getElem?_map, ev]
    rfl
  · obtain ⟨d, v, ed, ev, rfl, rp⟩ := key h
    cases hm
  · obtain ⟨d, v, ed, ev, rfl, rp⟩ := key h
    cases hm
/-- from a body's walk to the def's promise -/
theorem def_ok {CXF : L2.CXT} {PP : Program} {w : World} {K : PySem.W.Frag} {mg : Str → Option Value} {base : Heap} {x qual : Str} {st : Stmt} {f : Addr} {fd : FuncData} {N ps : List Str} {k : Nat} {C : Ca} {cm : Cm} {g : DS} (F : Fun K x qual st f fd) (S : FnScope N ps (defScope st))
    (hb : ∀ (cdv : Value) (A : Around) (outer : List PySem.Env) (s : Shared) (H : Hp) (E : XK) (e : En), Room k (A.deeper (PyProof.Rows.envOfC qual (defScope st) s.heap.objs.size f cdv)) →
      ∃ t, PSs (cxOf CXF PP w K mg base N qual (defScope st) f cdv A outer s H E) (defBody st) t ∧ EvS ⟨K, C, cm⟩ e (fun cls d _ H' => E cls d H') t g) :
    FnOk PP w K mg base CXF (k + 1) f fd ps (spD ⟨K, C, cm⟩ (fnD ps.length N.length g)) := by
  obtain ⟨oc, od, kV, doc, pm, an, cdv, ct, osl, rfl, lk, hcd⟩ := F.ex
  refine fn_of lk hcd S (fun vs H Q E h => spD_len h) fun A outer s H vs Q E hr h => ?_
  have hl := spD_len h
  obtain ⟨G, ws, wd, ds, sm, rw, rs, p⟩ := h
  obtain ⟨t, h1, h2⟩ := hb cdv A outer s H E ⟨H, G, ws⟩ hr
  refine ⟨t, h1, ?_⟩
  unfold L2.start
  rw [hl]
  refine h2 _ H G ws (ds.map (fun d => some (fz d)) ++ List.replicate (N.length - ps.length) none) wd _ (st_start sm rw rs) ?_
  unfold fnD at p
  rw [if_pos (by rw [← rs.length]; exact hl)] at p
  cases eg : g (ds.map (fun d => some (fz d)) ++ List.replicate (N.length - ps.length) none) wd with
  | bad => rw [eg] at p; exact p
  | brk ρ w' => rw [eg] at p; exact p.elim
  | cont ρ w' => rw [eg] at p; exact p.elim
  | next ρ w' =>
    rw [eg] at p
    exact fun σ' H' G' ws' st' _ => p .non H' G' ws' st'.nx0 .non fz_nw
  | ret y w' =>
    rw [eg] at p
    exact fun v H' G' ws' n r k _ => p v H' G' ws' n r k
  | ex y ρ w' =>
    rw [eg] at p
    exact fun cls d σ' H' G' ws' st' hx => p cls d H' G' ws' st'.nx0 hx
/-! ### calls -/
def dCall (F : DF) (dds : List D) (fs : DA) : DE := fun ρ w => (fs ρ w).bind fun xs w => match frzD xs with
  | some ds => F (ds ++ dds) w
  | none => .bad
theorem ev_call {F : DF} {dvs : List V} {dds : List D} (ha : EvA P H0 Wi tr fr) (hd : ∀ G ι, Reps P.K G ι dvs dds) : EvE P H0 Wi (tCallSD (spD P F) dvs (WE Wi) tr) (dCall F dds fr) := by
  intro σ H G ws ρ w Q st h
  unfold dCall at h
  refine ha σ H G ws ρ w _ st ?_
  cases e : fr ρ w with
  | bad => rw [e] at h; exact h
  | ex x w' => rw [e] at h; exact h
  | ok xs w' =>
    intro vs H1 G1 ws1 n1 r1 k1
    rw [e] at h
    have h : PostE P (fun c d H' => Wi c d σ H') H G ws Q (match frzD xs with | some ds => F (ds ++ dds) w' | none => .bad) := h
    cases e2 : frzD xs with
    | none => rw [e2] at h; exact h.elim
    | some ds =>
      rw [e2] at h
      obtain ⟨G2, s2, n2, r2⟩ := freezeAll n1 r1 k1 e2
      exact ⟨G2, ws1, w', ds ++ dds, n2.sub, n2.rw, r2.append (hd _ _), PostE.after n2 h⟩
/-- a def that touches no object: its arguments may be things that a slot owns, if what it tells holds none of them -/
def borD : List Val → Option (List D)
  | [] => some []
  | x :: xs => match x.m, borD xs with
    | .wd, _ => none
    | _, some ds => some (x.d :: ds)
    | _, none => none
def imV (x : Val) : Bool := match x.m, x.d with
  | .fz, d => im d
  | .nw, .lst ds => ds.all im
  | _, _ => false
def dCallP (F : DF) (dds : List D) (fs : DA) : DE := fun ρ w => (fs ρ w).bind fun xs w => match borD xs with
  | some ds => (match F (ds ++ dds) w with
    | .ok x w2 => if imV x ∧ w2.n = w.n ∧ w2.lk = w.lk then .ok x w else .bad
    | .ex x w2 => if x.fs.isEmpty ∧ w2.n = w.n ∧ w2.lk = w.lk then .ex x w else .bad
    | .bad => .bad)
  | none => .bad
end
end DL
namespace DL
open PySem L2
/-- what takes any error takes those without a context -/
theorem sky_n {B : Heap} {l : List PySem.Env} {a : Addr} {cls : Value} {d : Option Addr} {L : Addr} {h : Heap} (s : Sky B l a (L2N.Zn cls d) L h) : Sky B l a (Zc cls d) L h := by
  rcases s with ⟨h1, h2, h3, oe, vs, h4, h5, h6⟩ | f | f
  · exact .inl ⟨h1, h2, h3, oe, vs, h4, h5.zc, h6⟩
  · exact .inr (.inl (L2H.flyingZ_imp (fun o z => z.zc) f))
  · exact .inr (.inr ⟨f.1, f.2.1, f.2.2.1, L2H.tracedZ_imp (fun o z => z.zc) f.2.2.2⟩)
theorem tkN {X : Cx} {W : WX} (t : L2.Takes X W) : L2N.Takes X W := fun u s' ⟨a, B, sI, pins, σ, H, cls, d, e, I, nb, up, sky, na, os, ag, w⟩ => t u s' ⟨a, B, sI, pins, σ, H, cls, d, e, I, nb, up, sky_n sky, na, os, ag, w⟩
structure Kx where
  C : Ca
  cm : Cm
  e : En
  Wi : WX
abbrev pm (X : Cx) (κ : Kx) : Pm := ⟨X.K, κ.C, κ.cm⟩
def XE (X : Cx) (κ : Kx) (e : Expr) (f : DE) : Prop := ∃ te, PE X e te ∧ EvE (pm X κ) κ.e κ.Wi te f
def XT (X : Cx) (κ : Kx) (e : Expr) (f : DT) : Prop := ∃ te, PT X e te ∧ EvT (pm X κ) κ.e κ.Wi te f
def XW (X : Cx) (κ : Kx) (e : Expr) (f : DT) : Prop := ∃ te, PW X e te ∧ EvT (pm X κ) κ.e κ.Wi te f
def XA (X : Cx) (κ : Kx) (es : List Expr) (f : DA) : Prop := ∃ te, PA X es te ∧ EvA (pm X κ) κ.e κ.Wi te f
def XO (X : Cx) (κ : Kx) (e : Option Expr) (f : DO) : Prop := ∃ te, PO X e te ∧ EvO (pm X κ) κ.e κ.Wi te f
def XI (X : Cx) (κ : Kx) (tg iter : Expr) (f : DI) : Prop := ∃ te, PI X tg iter te ∧ EvI (pm X κ) κ.e κ.Wi te f
def XS (X : Cx) (κ : Kx) (s : Stmt) (g : DS) : Prop := ∃ ts, PS X s ts ∧ EvS (pm X κ) κ.e κ.Wi ts g
def XB (X : Cx) (κ : Kx) (s : List Stmt) (g : DS) : Prop := ∃ ts, PSs X s ts ∧ EvS (pm X κ) κ.e κ.Wi ts g
/-- what is known of where one stands; k: room for so many calls -/
structure Fc (X : Cx) (κ : Kx) (k : Nat) : Prop where
  calm : X.calm = true
  nd : X.N.Nodup
  room : Room k X.A
  tk : L2N.Takes X κ.Wi
  pass : PassesOwn (model X.prog X.w) X.A X.env X.xe
/-- .. within an expression alone -/
structure Fe (X : Cx) (κ : Kx) (k : Nat) : Prop where
  calm : X.calm = true
  nd : X.N.Nodup
  room : Room k X.A
  tk : L2N.Takes X κ.Wi
theorem Fc.fe {X : Cx} {κ : Kx} {k : Nat} (c : Fc X κ k) : Fe X κ k := ⟨c.calm, c.nd, c.room, c.tk⟩
abbrev Kx.no (κ : Kx) : Kx := { κ with Wi := fun _ _ _ _ => False }
theorem Fe.blk {X : Cx} {κ : Kx} {k : Nat} (c : Fe X κ k) (s : Shared) (H : Hp) (scope : Scope) (env : PySem.Env) (fp : List Addr) : Fe (X.blk s H scope env fp) κ.no k := ⟨c.calm, c.nd, c.room, tkN takes0⟩
theorem Fe.u64 {X : Cx} {κ : Kx} {k : Nat} (c : Fe X κ k) : X.A.units + 64 < cLine := c.room.units
theorem Fe.u65 {X : Cx} {κ : Kx} {k : Nat} (c : Fe X κ k) : X.A.units + 65 < cLine := by have := c.room.un; omega
section
variable {X : Cx} {κ : Kx} {a b c : Expr} {fa fb fc : DE} {es : List Expr} {fr : DA} {pos p p2 p3 : Pos} {k : Nat}
/-! names, constants -/
theorem e_var (i : Nat) {x : Str} (hN : X.N[i]? = some x := by rfl) (hv : Vis X.env.scope x := by first | exact Or.inl rfl | exact Or.inr (Or.inl rfl) | exact Or.inr (Or.inr rfl)) (hd : (x == ("__debug__" : Str)) = false := by decide)
    (hcd : (x == ("__classdict__" : Str)) = false := by decide) : XE X κ (.Name x pos) (dVar i) := ⟨_, pe_var hN hv hd hcd, ev_var⟩
theorem e_int {i : Int} {j : Nat} : XE X κ (.Constant (.int i) j pos) (dC (.int i)) := ⟨_, pe_int, ev_int⟩
theorem e_bl {i : Bool} {j : Nat} : XE X κ (.Constant (.bool i) j pos) (dC (.bl i)) := ⟨_, pe_bl, ev_bl⟩
theorem e_str {i : Str} {j : Nat} : XE X κ (.Constant (.str i) j pos) (dC (.str i)) := ⟨_, pe_str, ev_str⟩
theorem e_non {j : Nat} : XE X κ (.Constant .none j pos) (dC .non) := ⟨_, pe_non, ev_non⟩
/-- a constant of the module -/
structure Cst (K : PySem.W.Frag) (mg : Str → Option Value) (x : Str) (d : D) : Prop where
  ex : ∃ u v, mg x = some u ∧ RelV v u ∧ ∀ G ι, Rep K G ι v d
theorem e_glob {x : Str} {d : D} (h : Cst X.K X.mg x d) (hg : Gl X x := by rfl) (hd : (x == ("__debug__" : Str)) = false := by decide) : XE X κ (.Name x pos) (dC d) := by
  obtain ⟨u, v, h1, h2, h3⟩ := h.ex
  exact ⟨_, pe_glob hg h1 h2 hd, ev_c h3⟩
/-! operators -/
theorem e_add (ha : XE X κ a fa) (hb : XE X κ b fb) : XE X κ (.BinOp a .Add b pos) (dOp gAdd fa fb) := by
  obtain ⟨ta, pa, ea⟩ := ha
  obtain ⟨tb, pb, eb⟩ := hb
  exact ⟨_, pe_op op_addA pa pb, ev_op ea eb rop_add gAdd_nx⟩
theorem e_sub (ha : XE X κ a fa) (hb : XE X κ b fb) : XE X κ (.BinOp a .Sub b pos) (dOp (gI0 fun i j => .int (i - j)) fa fb) := by
  obtain ⟨ta, pa, ea⟩ := ha
  obtain ⟨tb, pb, eb⟩ := hb
  exact ⟨_, pe_op op_sub pa pb, ev_op ea eb (rop_I0 fun _ _ _ _ _ => .int _) gI0_nx⟩
theorem e_mul (ha : XE X κ a fa) (hb : XE X κ b fb) : XE X κ (.BinOp a .Mult b pos) (dOp gMul fa fb) := by
  obtain ⟨ta, pa, ea⟩ := ha
  obtain ⟨tb, pb, eb⟩ := hb
  exact ⟨_, pe_op op_mulA pa pb, ev_op ea eb rop_mul gMul_nx⟩
theorem e_div (ha : XE X κ a fa) (hb : XE X κ b fb) : XE X κ (.BinOp a .FloorDiv b pos) (dOp (gI CDivW fun i j => .int (i / j)) fa fb) := by
  obtain ⟨ta, pa, ea⟩ := ha
  obtain ⟨tb, pb, eb⟩ := hb
  exact ⟨_, pe_op op_fdivW pa pb, ev_op ea eb (rop_I fun _ _ _ _ _ => .int _) gI_nx⟩
theorem e_mod (ha : XE X κ a fa) (hb : XE X κ b fb) : XE X κ (.BinOp a .Mod b pos) (dOp (gI (fun _ j => 0 < j) fun i j => .int (i % j)) fa fb) := by
  obtain ⟨ta, pa, ea⟩ := ha
  obtain ⟨tb, pb, eb⟩ := hb
  exact ⟨_, pe_op op_mod pa pb, ev_op ea eb (rop_I fun _ _ _ _ _ => .int _) gI_nx⟩
theorem e_pow (ha : XE X κ a fa) (hb : XE X κ b fb) : XE X κ (.BinOp a .Pow b pos) (dOp (gI CPow fun i j => .int (i ^ j.toNat)) fa fb) := by
  obtain ⟨ta, pa, ea⟩ := ha
  obtain ⟨tb, pb, eb⟩ := hb
  exact ⟨_, pe_op op_pow pa pb, ev_op ea eb (rop_I fun _ _ _ _ _ => .int _) gI_nx⟩
def gNeg : Val → W → R Val := fun x w => match x.d with
  | .int i => .ok (fz (.int (-i))) w
  | _ => .bad
theorem e_neg (ha : XE X κ a fa) : XE X κ (.UnaryOp .USub a pos) (dUn gNeg fa) := by
  obtain ⟨ta, pa, ea⟩ := ha
  refine ⟨_, pe_un un_neg pa, ev_un ea (fun H G ws w vx x Q s r hx h => ?_) fun x w e w' => ?_⟩
  · obtain ⟨m, d⟩ := x
    cases d <;> try exact h.elim
    have e := rv_int hx
    subst e
    exact ⟨_, rfl, fz_q s r h (.int _)⟩
  · unfold gNeg
    split <;> exact fun h => nomatch h
/-! comparisons -/
theorem e_cmp {op : CmpOp} {r : R2} {g : Val → Val → W → R Val} (ho : OpR X (compareOp op) r) (hr : ROp (pm X κ) r g) (hn : ∀ x y w e w', g x y w ≠ .ex e w') (ha : XE X κ a fa) (hb : XE X κ b fb) (hm : behindInMarks op b = false) : XE X κ (.Compare a [op] [b] pos) (dOp g fa fb) := by
  obtain ⟨ta, pa, ea⟩ := ha
  obtain ⟨tb, pb, eb⟩ := hb
  exact ⟨_, pe_cmpR ho pa pb hm, ev_op ea eb hr hn⟩
theorem t_cmp {op : CmpOp} {r : R2} {g : Val → Val → W → R Val} (ho : OpR X (compareOp op) r) (hr : ROp (pm X κ) r g) (hn : ∀ x y w e w', g x y w ≠ .ex e w') (ha : XE X κ a fa) (hb : XE X κ b fb) (hm : behindInMarks op b = false) : XT X κ (.Compare a [op] [b] pos) (tst (dOp g fa fb)) := by
  obtain ⟨ta, pa, ea⟩ := ha
  obtain ⟨tb, pb, eb⟩ := hb
  exact ⟨_, pt_cmpR ho pa pb hm, ev_tst (ev_op ea eb hr hn)⟩
abbrev gLt : Val → Val → W → R Val := gI0 fun i j => .bl (decide (i < j))
abbrev gLe : Val → Val → W → R Val := gI0 fun i j => .bl (decide (i ≤ j))
abbrev gGt : Val → Val → W → R Val := gI0 fun i j => .bl (decide (j < i))
abbrev gGe : Val → Val → W → R Val := gI0 fun i j => .bl (decide (j ≤ i))
theorem rop_lt {P : Pm} : ROp P (rI0 fun i j => .bl (decide (i < j))) gLt := rop_I0 fun _ _ _ _ _ => .bl _
theorem rop_le {P : Pm} : ROp P (rI0 fun i j => .bl (decide (i ≤ j))) gLe := rop_I0 fun _ _ _ _ _ => .bl _
theorem rop_gt {P : Pm} : ROp P (rI0 fun i j => .bl (decide (j < i))) gGt := rop_I0 fun _ _ _ _ _ => .bl _
theorem rop_ge {P : Pm} : ROp P (rI0 fun i j => .bl (decide (j ≤ i))) gGe := rop_I0 fun _ _ _ _ _ => .bl _
theorem e_ge (ha : XE X κ a fa) (hb : XE X κ b fb) : XE X κ (.Compare a [.GtE] [b] pos) (dOp gGe fa fb) := e_cmp op_ge rop_ge gI0_nx ha hb (nomark _)
theorem t_lt (ha : XE X κ a fa) (hb : XE X κ b fb) : XT X κ (.Compare a [.Lt] [b] pos) (tst (dOp gLt fa fb)) := t_cmp op_lt rop_lt gI0_nx ha hb (nomark _)
theorem t_le (ha : XE X κ a fa) (hb : XE X κ b fb) : XT X κ (.Compare a [.LtE] [b] pos) (tst (dOp gLe fa fb)) := t_cmp op_le rop_le gI0_nx ha hb (nomark _)
theorem t_gt (ha : XE X κ a fa) (hb : XE X κ b fb) : XT X κ (.Compare a [.Gt] [b] pos) (tst (dOp gGt fa fb)) := t_cmp op_gt rop_gt gI0_nx ha hb (nomark _)
theorem t_ge (ha : XE X κ a fa) (hb : XE X κ b fb) : XT X κ (.Compare a [.GtE] [b] pos) (tst (dOp gGe fa fb)) := t_cmp op_ge rop_ge gI0_nx ha hb (nomark _)
theorem e_eq (c : Fe X κ k) (ha : XE X κ a fa) (hb : XE X κ b fb) : XE X κ (.Compare a [.Eq] [b] pos) (dOp (gEq false) fa fb) := e_cmp (op_eqD c.u64) rop_eq gEq_nx ha hb (nomark _)
theorem t_eq (c : Fe X κ k) (ha : XE X κ a fa) (hb : XE X κ b fb) : XT X κ (.Compare a [.Eq] [b] pos) (tst (dOp (gEq false) fa fb)) := t_cmp (op_eqD c.u64) rop_eq gEq_nx ha hb (nomark _)
theorem t_ne (c : Fe X κ k) (ha : XE X κ a fa) (hb : XE X κ b fb) : XT X κ (.Compare a [.NotEq] [b] pos) (tst (dOp (gEq true) fa fb)) := t_cmp (op_neD c.u64) rop_ne gEq_nx ha hb (nomark _)
theorem e_in (c : Fe X κ k) (ha : XE X κ a fa) (hb : XE X κ b fb) (hm : behindInMarks .In b = false := by rfl) : XE X κ (.Compare a [.In] [b] pos) (dOp (gIn false) fa fb) := e_cmp (op_inA c.u65) rop_in gIn_nx ha hb hm
theorem t_nin (c : Fe X κ k) (ha : XE X κ a fa) (hb : XE X κ b fb) (hm : behindInMarks .NotIn b = false := by rfl) : XT X κ (.Compare a [.NotIn] [b] pos) (tst (dOp (gIn true) fa fb)) := t_cmp (op_ninA c.u65) rop_nin gIn_nx ha hb hm
theorem e_isB (ha : XE X κ a fa) (hb : XE X κ b fb) : XE X κ (.Compare a [.Is] [b] pos) (dOp (gIsB false) fa fb) := e_cmp op_isBl rop_isB gIsB_nx ha hb (nomark _)
theorem e_isN {j : Nat} (ha : XE X κ a fa) : XE X κ (.Compare a [.Is] [.Constant .none j p] pos) (dUn (gIsN false) fa) := by
  obtain ⟨ta, pa, ea⟩ := ha
  exact ⟨_, pe_cmp (pc_isN pa), ev_isN ea⟩
theorem t_isN {j : Nat} (ha : XE X κ a fa) : XT X κ (.Compare a [.Is] [.Constant .none j p] pos) (tst (dUn (gIsN false) fa)) := by
  obtain ⟨ta, pa, ea⟩ := ha
  exact ⟨_, pt_cmp (pc_isN pa), ev_tB (ev_isN ea)⟩
theorem t_notN {j : Nat} (ha : XE X κ a fa) : XT X κ (.Compare a [.IsNot] [.Constant .none j p] pos) (tst (dUn (gIsN true) fa)) := by
  obtain ⟨ta, pa, ea⟩ := ha
  exact ⟨_, pt_cmp (pc_notN pa), ev_tB (ev_notN ea)⟩
/-- a comparison's rule, for chains -/
structure Cm2 (X : Cx) (κ : Kx) (op : CmpOp) (g : Val → Val → W → R Val) : Prop where
  ex : ∃ r, OpR X (compareOp op) r ∧ ROp (pm X κ) r g ∧ ∀ x y w e w', g x y w ≠ .ex e w'
theorem c_le : Cm2 X κ .LtE gLe := ⟨_, op_le, rop_le, gI0_nx⟩
theorem e_chain {op op' : CmpOp} {g g' : Val → Val → W → R Val} (h1 : Cm2 X κ op g) (h2 : Cm2 X κ op' g') (ha : XE X κ a fa) (hb : XE X κ b fb) (hc : XE X κ c fc) (hm : lastMarks [op, op'] [b, c] = false := by with_unfolding_all rfl) : XE X κ (.Compare a [op, op'] [b, c] pos) (dChain g g' fa fb fc) := by
  obtain ⟨ta, pa, ea⟩ := ha
  obtain ⟨tb, pb, eb⟩ := hb
  obtain ⟨tc, pc, ec⟩ := hc
  obtain ⟨r, o1, r1, n1⟩ := h1
  obtain ⟨r', o2, r2, n2⟩ := h2
  exact ⟨_, pe_chain o1 o2 pa pb pc hm, ev_chain ea eb ec r1 r2 n1 n2⟩
/-! tests -/
variable {fA fB : DT} {rest : List Expr}
theorem t_val (ha : XE X κ a fa) (he : ∀ whole, isTrue a X.env whole = (do let v ← whole; standAt a.pos; holding [v] (truthy v)) := by intro _; rfl) : XT X κ a (tst fa) := by
  obtain ⟨ta, pa, ea⟩ := ha
  exact ⟨_, pt_val pa he, ev_tB ea⟩
theorem t_not (ha : XT X κ a fA) : XT X κ (.UnaryOp .Not a pos) (dNot fA) := by
  obtain ⟨ta, pa, ea⟩ := ha
  exact ⟨_, pt_not pa, ev_not ea⟩
theorem w_and1 (ha : XT X κ a fA) : XW X κ (.BoolOp .And [a] pos) fA := by
  obtain ⟨ta, pa, ea⟩ := ha
  exact ⟨_, pw_and1 pa, ea⟩
theorem w_or1 (ha : XT X κ a fA) : XW X κ (.BoolOp .Or [a] pos) fA := by
  obtain ⟨ta, pa, ea⟩ := ha
  exact ⟨_, pw_or1 pa, ea⟩
theorem w_and (ha : XT X κ a fA) (hb : XW X κ (.BoolOp .And (b :: rest) pos) fB) : XW X κ (.BoolOp .And (a :: b :: rest) pos) (dAnd fA fB) := by
  obtain ⟨ta, pa, ea⟩ := ha
  obtain ⟨tb, pb, eb⟩ := hb
  exact ⟨_, pw_and pa pb, ev_and ea eb⟩
theorem w_or (ha : XT X κ a fA) (hb : XW X κ (.BoolOp .Or (b :: rest) pos) fB) : XW X κ (.BoolOp .Or (a :: b :: rest) pos) (dOr fA fB) := by
  obtain ⟨ta, pa, ea⟩ := ha
  obtain ⟨tb, pb, eb⟩ := hb
  exact ⟨_, pw_or pa pb, ev_or ea eb⟩
theorem t_w (h : XW X κ a fA) : XT X κ a fA := by
  obtain ⟨ta, pa, ea⟩ := h
  exact ⟨_, pa.pt, ea⟩
theorem e_one {op : BoolOp} (ha : XE X κ a fa) : XE X κ (.BoolOp op [a] pos) fa := by
  obtain ⟨ta, pa, ea⟩ := ha
  exact ⟨_, pe_one pa, ea⟩
theorem e_and (ha : XE X κ a fa) (hb : XE X κ (.BoolOp .And (b :: rest) pos) fb) : XE X κ (.BoolOp .And (a :: b :: rest) pos) (dAndV fa fb) := by
  obtain ⟨ta, pa, ea⟩ := ha
  obtain ⟨tb, pb, eb⟩ := hb
  exact ⟨_, pe_and pa pb, ev_andV ea eb⟩
theorem e_not (ha : XE X κ a fa) : XE X κ (.UnaryOp .Not a pos) (dNotV fa) := by
  obtain ⟨ta, pa, ea⟩ := ha
  exact ⟨_, pe_not pa, ev_notV ea⟩
theorem e_if (hc : XT X κ c fA) (ha : XE X κ a fa) (hb : XE X κ b fb) : XE X κ (.IfExp c a b pos) (dIf fA fa fb) := by
  obtain ⟨tc, pc, ec⟩ := hc
  obtain ⟨ta, pa, ea⟩ := ha
  obtain ⟨tb, pb, eb⟩ := hb
  exact ⟨_, pe_ifExp pc pa pb, ev_if ec ea eb⟩
/-! arguments, displays, subscripts -/
theorem a_nil : XA X κ [] dNil := ⟨_, pa_nil, ev_nil⟩
theorem a_one (ha : XE X κ a fa) (hs : starEach [a] X.env = (false, eval a X.env) :: starEach [] X.env := by rfl) : XA X κ [a] (dOne fa) := by
  obtain ⟨ta, pa, ea⟩ := ha
  exact ⟨_, pa_cons pa pa_nil hs, ev_one ea⟩
theorem a_cons (ha : XE X κ a fa) (hr : XA X κ es fr) (hs : starEach (a :: es) X.env = (false, eval a X.env) :: starEach es X.env := by rfl) : XA X κ (a :: es) (dCons fa fr) := by
  obtain ⟨ta, pa, ea⟩ := ha
  obtain ⟨tr, pr, er⟩ := hr
  exact ⟨_, pa_cons pa pr hs, ev_cons ea er⟩
theorem e_tup {x1 : Nat} (h : XA X κ es fr) : XE X κ (.Tuple es x1 pos) (dTup fr) := by
  obtain ⟨t, p, e⟩ := h
  exact ⟨_, pe_tup p, ev_tup e⟩
theorem e_lst (h : XA X κ es fr) : XE X κ (.List es pos) (dLst fr) := by
  obtain ⟨t, p, e⟩ := h
  exact ⟨_, pe_lst p, ev_lst e⟩
theorem e_ix (ha : XE X κ a fa) (hb : XE X κ b fb) (hs : PlainIx b := by intro _ _; rfl) : XE X κ (.Subscript a b pos) (dOp gIx fa fb) := by
  obtain ⟨ta, pa, ea⟩ := ha
  obtain ⟨tb, pb, eb⟩ := hb
  exact ⟨_, pe_ix ix_seq pa pb hs, ev_op ea eb rop_ix gIx_nx⟩
theorem o_some (ha : XE X κ a fa) : XO X κ (some a) (dPart fa) := by
  obtain ⟨ta, pa, ea⟩ := ha
  exact ⟨_, po_some pa, ev_part ea⟩
theorem e_sl {lo hi : Option Expr} {fl fh : DO} (ha : XE X κ a fa) (hl : XO X κ lo fl) (hh : XO X κ hi fh) : XE X κ (.Subscript a (.Slice lo hi none p2) pos) (dSl fa fl fh) := by
  obtain ⟨ta, pa, ea⟩ := ha
  obtain ⟨tl, pl, el⟩ := hl
  obtain ⟨th, ph, eh⟩ := hh
  exact ⟨_, pe_slice sl_A pa pl ph, ev_sl ea el eh⟩
/-! built-ins -/
/-- a built-in by its name: f a function, or a class -/
theorem e_cb {id : String} {x : Str} {r : List V → Hp → VK → Prop} {g : List Val → W → R Val} (hc : CallR X (.builtin id) r) (hr : RCall (pm X κ) r g) (hn : ∀ x w e w', g x w ≠ .ex e w') (hm : X.mg x = none) (hv : bootBuiltins x = some (.builtin id)) (ha : XA X κ (a :: es) fr) (hg : Gl X x := by rfl)
    (hx : x ≠ "__name__" := by decide) (hdb : (x == ("__debug__" : Str)) = false := by decide) (he : starEach (a :: es) X.env = (false, eval a X.env) :: starEach es X.env := by rfl) (hpl : (backTo pos (starEach es X.env)).any (·.1) = false := by rfl) : XE X κ (.Call (.Name x p) (a :: es) [] pos) (dCB g fr) := by
  obtain ⟨t, pa, ea⟩ := ha
  exact ⟨_, pe_callB hc hg hm hv pa hx hdb he hpl, ev_cb ea hr hn⟩
theorem e_ct {T : String} {x : Str} {r : List V → Hp → VK → Prop} {g : List Val → W → R Val} (hc : CallR X (.type T) r) (hr : RCall (pm X κ) r g) (hn : ∀ x w e w', g x w ≠ .ex e w') (hm : X.mg x = none) (hv : bootBuiltins x = some (.type T)) (ha : XA X κ (a :: es) fr) (hg : Gl X x := by rfl)
    (hx : x ≠ "__name__" := by decide) (hdb : (x == ("__debug__" : Str)) = false := by decide) (he : starEach (a :: es) X.env = (false, eval a X.env) :: starEach es X.env := by rfl) (hpl : (backTo pos (starEach es X.env)).any (·.1) = false := by rfl) : XE X κ (.Call (.Name x p) (a :: es) [] pos) (dCB g fr) := by
  obtain ⟨t, pa, ea⟩ := ha
  exact ⟨_, pe_callTy hc hg hm hv pa hx hdb he hpl, ev_cb ea hr hn⟩
theorem e_len (hm : X.mg "len" = none) (ha : XA X κ [a] fr) (hg : Gl X "len" := by rfl) (he : starEach [a] X.env = (false, eval a X.env) :: starEach [] X.env := by rfl) : XE X κ (.Call (.Name "len" p) [a] [] pos) (dCB gLen fr) := e_cb call_len rc_len gLen_nx hm PySem.boot_len ha hg (by decide) (by decide) he
theorem e_max2 (c : Fe X κ k) (hm : X.mg "max" = none) (ha : XA X κ [a, b] fr) (hg : Gl X "max" := by rfl) (he : starEach [a, b] X.env = (false, eval a X.env) :: starEach [b] X.env := by rfl) (hpl : (backTo pos (starEach [b] X.env)).any (·.1) = false := by rfl) : XE X κ (.Call (.Name "max" p) [a, b] [] pos) (dCB gMax2 fr) := e_cb (call_max2 c.calm) rc_max2 gMax2_nx hm (by decide +kernel) ha hg (by decide) (by decide) he hpl
theorem e_all (c : Fe X κ k) (hm : X.mg "all" = none) (ha : XA X κ [a] fr) (hg : Gl X "all" := by rfl) (he : starEach [a] X.env = (false, eval a X.env) :: starEach [] X.env := by rfl) : XE X κ (.Call (.Name "all" p) [a] [] pos) (dCB gAll fr) := e_cb (cr_all c.calm) rc_all gAll_nx hm (by decide +kernel) ha hg (by decide) (by decide) he
theorem e_any (c : Fe X κ k) (hm : X.mg "any" = none) (ha : XA X κ [a] fr) (hg : Gl X "any" := by rfl) (he : starEach [a] X.env = (false, eval a X.env) :: starEach [] X.env := by rfl) : XE X κ (.Call (.Name "any" p) [a] [] pos) (dCB gAny fr) := e_cb (cr_any c.calm) rc_any gAny_nx hm (by decide +kernel) ha hg (by decide) (by decide) he
theorem e_clist (hm : X.mg "list" = none) (ha : XA X κ [a] fr) (hg : Gl X "list" := by rfl) (he : starEach [a] X.env = (false, eval a X.env) :: starEach [] X.env := by rfl) : XE X κ (.Call (.Name "list" p) [a] [] pos) (dCB gList fr) := e_ct call_list_of rc_list gList_nx hm (by decide +kernel) ha hg (by decide) (by decide) he
/-! isinstance(x, T) -/
theorem rv_ty {K : PySem.W.Frag} {G H : Hp} {ws : Ws} {v : V} {x : Val} (s : Sm G H) (h : RV K G H ws v x) (hn : ∀ k, x.d ≠ .obj k) (hn2 : ∀ k, x.d ≠ .exc k) (hn3 : ∀ k, x.d ≠ .dK k) (hn4 : ∀ k, x.d ≠ .dT k) : TyX K H v (.type (tyD x.d)) := by
  obtain ⟨m, d⟩ := x
  have un : (∃ a, v = .ref a ∧ Unf K G H (io ws) a d) → TyX K H v (.type (tyD d)) := by
    rintro ⟨a, rfl, u⟩
    cases u with
    | lst q _ => exact .base (.lst q)
    | dK q _ _ => exact absurd rfl (hn3 _)
    | dT q _ _ => exact absurd rfl (hn4 _)
  unfold RV at h
  cases m with
  | nw => obtain ⟨a, e, _, _, u⟩ := h; exact un ⟨a, e, u⟩
  | bo => obtain ⟨a, e, _, _, u⟩ := h; exact un ⟨a, e, u⟩
  | wd => obtain ⟨a, e, _, _, u⟩ := h; exact un ⟨a, e, u⟩
  | fz =>
    cases h with
    | non => exact .base .non
    | bl b => exact .base (.bl b)
    | int b => exact .base (.int b)
    | str b => exact .base (.str b)
    | tup q _ =>
      rcases q with (q | ⟨o, q⟩) | ⟨o, its, n, q, c, _⟩
      · exact .base (.tup (s.eq q))
      · exact .fTuple (s.eq q)
      · exact .kTuple q c
    | lst q _ => exact .base (.lst (s.eq q))
    | scr q =>
      rcases q with (q | ⟨o, q⟩) | ⟨o, its, n, q, c, _⟩
      · exact .base (.lst (s.eq q))
      · exact .base (.frz (s.eq q))
      · exact .kList q c
    | dK q _ _ => exact absurd rfl (hn3 _)
    | dT q _ _ => exact absurd rfl (hn4 _)
    | obj q => exact absurd rfl (hn _)
    | exc => exact absurd rfl (hn2 _)
theorem e_isi (T : String) {x : Str} (hm : X.mg "isinstance" = none) (hmT : X.mg x = none) (hv : bootBuiltins x = some (.type T)) (ha : XE X κ a fa) (hg : Gl X "isinstance" := by rfl) (hgT : Gl X x := by rfl)
    (hx : x ≠ "__name__" := by decide) (hd : (x == ("__debug__" : Str)) = false := by decide) (hs : starEach [a, .Name x p2] X.env = (false, eval a X.env) :: starEach [.Name x p2] X.env := by rfl) (hs2 : starEach [.Name x p2] X.env = (false, eval (.Name x p2) X.env) :: starEach [] X.env := by rfl)
    (hpl : (backTo pos (starEach [.Name x p2] X.env)).any (·.1) = false := by rfl) : XE X κ (.Call (.Name "isinstance" p) [a, .Name x p2] [] pos) (dUn (fun y w => match y.d with | .obj _ => .bad | .exc _ => .bad | .dK _ => .bad | .dT _ => .bad | _ => gIsi T y w) fa) := by
  obtain ⟨ta, pa, ea⟩ := ha
  refine ⟨_, pe_callB call_isi hg hm (by decide +kernel) (pa_cons pa (pa_cons (pe_bltn (v := .ty T) hgT hmT hv rfl hx hd) pa_nil hs2) hs) (by decide) (by decide) hs hpl, ?_⟩
  intro σ H G ws ρ w Q st h
  unfold dUn at h
  refine ea σ H G ws ρ w _ st ?_
  cases e : fa ρ w with
  | bad => rw [e] at h; exact h
  | ex y w' => rw [e] at h; exact h
  | ok y w' =>
    intro v H1 G1 ws1 n1 r1 k1
    rw [e] at h
    have h : PostE (pm X κ) (fun c d H' => κ.Wi c d σ H') H G ws Q (match y.d with | .obj _ => .bad | .exc _ => .bad | .dK _ => .bad | .dT _ => .bad | _ => gIsi T y w') := h
    have hn : ∀ k, y.d ≠ .obj k := fun k z => by rw [z] at h; exact h
    have hn2 : ∀ k, y.d ≠ .exc k := fun k z => by rw [z] at h; exact h
    have hn3 : ∀ k, y.d ≠ .dK k := fun k z => by rw [z] at h; exact h
    have hn4 : ∀ k, y.d ≠ .dT k := fun k z => by rw [z] at h; exact h
    have h : PostE (pm X κ) (fun c d H' => κ.Wi c d σ H') H G ws Q (gIsi T y w') := by
      obtain ⟨m, d⟩ := y
      cases d <;> first | exact h | exact absurd rfl (hn _) | exact absurd rfl (hn2 _) | exact absurd rfl (hn3 _) | exact absurd rfl (hn4 _)
    unfold gIsi at h
    cases eb : kitB (tyD y.d) T with
    | none => rw [eb] at h; exact h.elim
    | some b =>
      rw [eb] at h
      exact ⟨v, .ty T, _, _, b, rfl, .ty T, rv_ty n1.sub r1 hn hn2 hn3 hn4, kit_ty eb, h (.bl b) H1 G1 ws1 n1 (.bl b) fz_nw⟩
end
end DL
namespace DL
open PySem L2
/-- the reading that a denotation gives -/
def cE (P : Pm) (H0 : En) (Wi : WX) (f : DE) : TE := fun σ H Q => ∃ G ws ρ w, St P.K P.C H0 σ H G ws ρ w ∧ PostE P (fun c d H' => Wi c d σ H') H G ws Q (f ρ w)
def cT (P : Pm) (H0 : En) (Wi : WX) (f : DT) : TT := fun σ H Q => ∃ G ws ρ w, St P.K P.C H0 σ H G ws ρ w ∧ PostT P (fun c d H' => Wi c d σ H') H G ws Q (f ρ w)
section
variable {X : Cx} {κ : Kx} {a b c : Expr} {fa fb fc : DE} {fA fB : DT} {es : List Expr} {fr : DA} {pos p p2 p3 : Pos} {k : Nat} {fi : DI} {gs hs : DS} {tg iter : Expr}
theorem XE.can (h : XE X κ a fa) : PE X a (cE (pm X κ) κ.e κ.Wi fa) := by
  obtain ⟨te, p, e⟩ := h
  exact ⟨fun pins s σ H Q I ⟨G, ws, ρ, w, st, q⟩ => p.run pins s σ H Q I (e σ H G ws ρ w Q st q)⟩
theorem XT.can (h : XT X κ a fA) : PT X a (cT (pm X κ) κ.e κ.Wi fA) := by
  obtain ⟨te, p, e⟩ := h
  exact ⟨fun pins s σ H Q I ⟨G, ws, ρ, w, st, q⟩ => p.run pins s σ H Q I (e σ H G ws ρ w Q st q)⟩
theorem ev_cE {P : Pm} {H0 : En} {Wi : WX} : EvE P H0 Wi (cE P H0 Wi fa) fa := fun σ H G ws ρ w Q st q => ⟨G, ws, ρ, w, st, q⟩
theorem ev_cT {P : Pm} {H0 : En} {Wi : WX} : EvT P H0 Wi (cT P H0 Wi fA) fA := fun σ H G ws ρ w Q st q => ⟨G, ws, ρ, w, st, q⟩
/-! what is walked -/
def iSeqT (K : PySem.W.Frag) (tl : TE) : TI := fun σ H R => tl σ H fun x H1 => (∃ a, x = .ref a ∧ (∃ xs, SqL K H1 a xs) ∧ R (Itl K a) H1) ∨ (∃ a, x = .ref a ∧ (∃ xs, SqT K H1 a xs) ∧ R (Itt K a) H1) ∨ (∃ z, x = .str z ∧ R (Its z) H1)
theorem pi_seq {l : Expr} {tl : TE} (hl : PE X l tl) : PI X tg l (iSeqT X.K tl) := by
  refine ⟨fun pins s σ H R I h => ?_⟩
  refine thn (hl.run pins s σ H _ I h) fun v s1 ⟨x, H1, I1, r1, q1⟩ => ?_
  rcases q1 with q | q | q
  · obtain ⟨a, e, ⟨xs, hq⟩, qq⟩ := q
    subst e
    cases r1
    obtain ⟨its, rv, p, hz⟩ := I1.list hq
    refine wpAny_pyIter_list p.isList ?_
    refine ⟨s1.heap.objs.size, [s1.heap.objs.size], _, _, H1, rfl, I1.kept (t' := s1.toks) fun b o e => Heap.get?_push_of_some _ e, turn_list a _, ⟨_, Heap.get?_push_size _ rfl, rfl, rfl⟩, fun b hb => ?_, qq⟩
    have e : b = s1.heap.objs.size := by simpa using hb
    subst e
    exact I1.fpOk (Nat.le_refl _) (I1.hok.fresh (Nat.le_refl _))
  · obtain ⟨a, e, ⟨xs, hq⟩, qq⟩ := q
    subst e
    cases r1
    obtain ⟨its, rv, p, hz⟩ := I1.tuple hq
    refine wpAny_pyIter_tuple (show s1.heap.IsTuple a its.toArray from p) ?_
    refine ⟨s1.heap.objs.size, [s1.heap.objs.size], _, _, H1, rfl, I1.kept (t' := s1.toks) fun b o e => Heap.get?_push_of_some _ e, turn_tuple a _, ⟨_, Heap.get?_push_size _ rfl, rfl, rfl⟩, fun b hb => ?_, qq⟩
    have e : b = s1.heap.objs.size := by simpa using hb
    subst e
    exact I1.fpOk (Nat.le_refl _) (I1.hok.fresh (Nat.le_refl _))
  · obtain ⟨z, e, qq⟩ := q
    subst e
    obtain ⟨t, rfl⟩ := r1
    cases ha : z.cps.all (· < 128)
    · exact wpAny_pyIter_wide ha (pi_one (tk := s1.toks) I1 _ (turn_str _ z t "str_iterator" (.inr rfl)) ⟨_, Heap.get?_push_size _ rfl, rfl, rfl⟩ qq)
    · exact wpAny_pyIter_ascii ha (pi_one (tk := s1.toks) I1 _ (turn_str _ z t "str_ascii_iterator" (.inl rfl)) ⟨_, Heap.get?_push_size _ rfl, rfl, rfl⟩ qq)
def iSq (f : DE) : DI := fun ρ w => (f ρ w).bind fun x w => match x.d with
  | .lst ds => .ok (ds, keepM x) w
  | .tup ds => .ok (ds, true) w
  | .str z => .ok (sgnD z, true) w
  | _ => .bad
theorem i_seq (ha : XE X κ iter fa) : XI X κ tg iter (iSq fa) := by
  obtain ⟨ta, pa, ea⟩ := ha
  refine ⟨_, pi_seq pa, ?_⟩
  intro σ H G ws ρ w Q st h
  unfold iSq at h
  refine ea σ H G ws ρ w _ st ?_
  cases e : fa ρ w with
  | bad => rw [e] at h; exact h
  | ex x w' => rw [e] at h; exact h
  | ok x w' =>
    intro v H1 G1 ws1 n1 r1 k1
    rw [e] at h
    obtain ⟨m, d⟩ := x
    cases d <;> try exact h.elim
    · have := rv_str r1
      subst this
      exact .inr (.inr ⟨_, rfl, h _ H1 G1 ws1 n1 (its_ok _)⟩)
    · obtain ⟨a, vs, rfl, q0, q1, rs⟩ := rv_tup n1.sub r1
      exact .inr (.inl ⟨a, rfl, ⟨vs, q1⟩, h (Itt X.K a) H1 G1 ws1 n1 (itt_ok fun G' H' ws' ⟨s1, s2, io⟩ => ⟨s2.sqT (sqT_mono s1 q0), rs.mono s1 io⟩)⟩)
    · obtain ⟨a, vs, G2, rfl, hH, n2, hp⟩ := rv_walk n1 r1 k1
      exact .inl ⟨a, rfl, ⟨vs, SqL.of hH⟩, h (Itl X.K a) H1 G2 ws1 n2 (itl_ok hp)⟩
theorem i_rng1 (hm : X.mg "range" = none) (ha : XA X κ [a] fr) (hg : Gl X "range" := by rfl) (hs : starEach [a] X.env = [(false, eval a X.env)] := by rfl) : XI X κ tg (.Call (.Name "range" p) [a] [] pos) (iR1 fr) := by
  obtain ⟨t, pa, ea⟩ := ha
  exact ⟨_, pi_range1 hg hm pa hs, ev_iR1 ea⟩
/-! comprehensions -/
theorem e_lc {elt : Expr} {ifs : List Expr} {scope : Scope} (own : List (Str × Nat)) (t : Tg) (c : Fe X κ k) (hi : XI X κ tg iter fi) (ok : blkC X.N X.env.scope scope own = true)
    (hg : ∀ (s : Shared) (H : Hp) (C : Addr) (cl : List (Str × Addr)) (fp : List Addr), PG (X.blk s H scope (PySem.compEnvC scope cl C X.env) fp) tg (gT X.K t))
    (ht : ∀ (s : Shared) (H : Hp) (C : Addr) (cl : List (Str × Addr)) (fp : List Addr), PTs (X.blk s H scope (PySem.compEnvC scope cl C X.env) fp) ifs (cT (pm X κ) κ.e κ.no.Wi fA))
    (he : ∀ (s : Shared) (H : Hp) (C : Addr) (cl : List (Str × Addr)) (fp : List Addr), XE (X.blk s H scope (PySem.compEnvC scope cl C X.env) fp) κ.no elt fa) (hv : ∀ i ∈ tgs t, i ∈ own.map (·.2) := by decide) (hs : ∀ x, foldedSetIterable iter X.env x = pure x := by intro _; rfl) :
    XE X κ (.ListComp elt [⟨tg, iter, ifs, 0⟩] scope pos) (dLc fi t fA fa (own.map (·.2))) := by
  obtain ⟨ti, pi, ei⟩ := hi
  exact ⟨_, pe_lc c.calm c.nd pi (blkOk_by ok) hg ht (fun s H C cl fp => (he s H C cl fp).can) hs, ev_lc ei ev_cT ev_cE hv⟩
theorem pts_no : PTs X [] (cT (pm X κ) κ.e κ.Wi tYesD) := ⟨fun _ _ _ H _ I ⟨G, ws, ρ, w, st, q⟩ => wpAny_tests_nil ⟨H, I, q H G ws st.nx⟩⟩
theorem pts_if (h : XT X κ a fA) : PTs X [a] (cT (pm X κ) κ.e κ.Wi fA) := pts_one h.can
theorem pts_ifB {s : Shared} {H : Hp} {sc : Scope} {ev : PySem.Env} {fp : List Addr} (h : XT (X.blk s H sc ev fp) κ.no a fA) : PTs (X.blk s H sc ev fp) [a] (cT (pm X κ) κ.e κ.no.Wi fA) := pts_if h
/-! statements -/
variable {st : Stmt} {sts : List Stmt}
theorem b_nil : XB X κ [] sNext := ⟨_, pss_nil, ev_next⟩
theorem b_one (h : XS X κ st gs) : XB X κ [st] gs := by
  obtain ⟨t, p, e⟩ := h
  exact ⟨_, pss_one p, e⟩
theorem b_cons (h : XS X κ st gs) (h2 : XB X κ sts hs) : XB X κ (st :: sts) (sSeq gs hs) := by
  obtain ⟨t, p, e⟩ := h
  obtain ⟨t2, p2, e2⟩ := h2
  exact ⟨_, pss_cons p p2, ev_seq e e2⟩
theorem s_set {x : Str} (i : Nat) (c : Fe X κ k) (ha : XE X κ a fa) (hi : X.N[i]? = some x := by rfl) (hx : Loc X.env.scope x := by first | exact Or.inl rfl | exact Or.inr rfl) (hs : swapsWith a (some (.Name x p)) pos.line X.env = pure false := by rfl)
    (hf : X.fn x = true ∨ X.env.scope.names.lookup x = some .local := by first | exact .inl rfl | exact .inr rfl) : XS X κ (.Assign [.Name x p] a pos) (sSet i fa) := by
  obtain ⟨t, pa, ea⟩ := ha
  exact ⟨_, ps_set c.nd hi hx pa hs hf, ev_set ea⟩
theorem s_setT {xs : List Expr} {kk : Nat} (is : List Nat) (c : Fe X κ k) (ha : XE X κ a fa) (hg : PGs X xs (gNames is)) (hn : (assignEach xs X.env).length = is.length := by rfl) (hst : (assignEach xs X.env).findIdx? (·.1) = none := by rfl)
    (hs : swapsWithSole [.Tuple xs kk p] a pos.line X.env = pure false := by rfl) (hw : swappedStores [.Tuple xs kk p] a X.env = pure none := by rfl) (h1 : (assignEach [.Tuple xs kk p] X.env).map (·.2) = [assign (.Tuple xs kk p) X.env] := by rfl) : XS X κ (.Assign [.Tuple xs kk p] a pos) (sSetT is fa) := by
  obtain ⟨t, pa, ea⟩ := ha
  exact ⟨_, ps_asg pa (pg_tup c.calm hg hn hst) hs hw h1, ev_setT ea⟩
theorem s_expr (ha : XE X κ a fa) (hs : swapsWith a none pos.line X.env = pure false := by rfl) : XS X κ (.Expr a pos) (sExpr fa) := by
  obtain ⟨t, pa, ea⟩ := ha
  exact ⟨_, ps_expr pa hs, ev_expr ea⟩
theorem s_ret (ha : XE X κ a fa) : XS X κ (.Return (some a) pos) (sRet fa) := by
  obtain ⟨t, pa, ea⟩ := ha
  exact ⟨_, ps_ret pa, ev_ret ea⟩
theorem s_retV (i : Nat) {x : Str} (hN : X.N[i]? = some x := by rfl) (hv : Vis X.env.scope x := by first | exact Or.inl rfl | exact Or.inr (Or.inl rfl) | exact Or.inr (Or.inr rfl)) (hd : (x == ("__debug__" : Str)) = false := by decide)
    (hcd : (x == ("__classdict__" : Str)) = false := by decide) : XS X κ (.Return (some (.Name x p)) pos) (sRetV i) := ⟨_, ps_ret (pe_var hN hv hd hcd), ev_retV⟩
theorem s_if {s1 s2 : List Stmt} (hc : XT X κ a fA) (h1 : XB X κ s1 gs) (h2 : XB X κ s2 hs) : XS X κ (.If a s1 s2 pos) (sIf fA gs hs) := by
  obtain ⟨t, pa, ea⟩ := hc
  obtain ⟨t1, p1, e1⟩ := h1
  obtain ⟨t2, p2, e2⟩ := h2
  exact ⟨_, ps_if pa p1 p2, ev_sif ea e1 e2⟩
theorem s_for {body : List Stmt} (t : Tg) (c : Fc X κ k) (hi : XI X κ tg iter fi) (hg : PG X tg (gT X.K t)) (hb : XB X κ body gs) (hs : ∀ x, foldedSetIterable iter X.env x = pure x := by intro _; rfl) : XS X κ (.For tg iter body [] pos) (sFor fi t gs) := by
  obtain ⟨ti, pi, ei⟩ := hi
  obtain ⟨tb, pb, eb⟩ := hb
  exact ⟨_, ps_for c.pass c.calm pi hg pb hs, ev_for ei eb⟩
theorem s_while {body : List Stmt} (n : Nat) (c : Fc X κ k) (hc : XT X κ a fA) (hb : XB X κ body gs) : XS X κ (.While a body [] pos) (whileL fA gs n) := by
  obtain ⟨ti, pi, ei⟩ := hc
  obtain ⟨tb, pb, eb⟩ := hb
  exact ⟨_, ps_while c.pass pi pb, ev_while ei eb⟩
/-- targets -/
theorem g_nm {x : Str} (i : Nat) (hN : X.N.Nodup) (hi : X.N[i]? = some x := by rfl) (hx : Loc X.env.scope x := by first | exact Or.inl rfl | exact Or.inr rfl) (hf : X.fn x = true ∨ X.env.scope.names.lookup x = some .local := by first | exact .inl rfl | exact .inr rfl) : PG X (.Name x p) (gT X.K (.nm i)) := pg_name hN hi hx hf
theorem gs_nil : PGs X [] (gNames []) := pgs_nil
theorem gs_cons {x : Str} (i : Nat) {is : List Nat} {xs : List Expr} (hN : X.N.Nodup) (h : PGs X xs (gNames is)) (hi : X.N[i]? = some x := by rfl) (hx : Loc X.env.scope x := by first | exact Or.inl rfl | exact Or.inr rfl) (hf : X.fn x = true ∨ X.env.scope.names.lookup x = some .local := by first | exact .inl rfl | exact .inr rfl)
    (hs : (assignEach (.Name x p :: xs) X.env).map (·.2) = assign (.Name x p) X.env :: (assignEach xs X.env).map (·.2) := by rfl) : PGs X (.Name x p :: xs) (gNames (i :: is)) := pgs_cons (pg_name hN hi hx hf) h hs
theorem g_tp {xs : List Expr} {kk : Nat} {is : List Nat} (hc : X.calm = true) (h : PGs X xs (gNames is)) (hn : (assignEach xs X.env).length = is.length := by rfl) (hst : (assignEach xs X.env).findIdx? (·.1) = none := by rfl) : PG X (.Tuple xs kk p) (gT X.K (.tp is)) := pg_tup hc h hn hst
/-! methods of lists that a slot owns -/
theorem s_app {x : Str} {apos cpos : Pos} (i : Nat) (ha : XE X κ a fa) (hN : X.N[i]? = some x := by rfl) (hv : Vis X.env.scope x := by first | exact Or.inl rfl | exact Or.inr (Or.inl rfl) | exact Or.inr (Or.inr rfl)) (hd : (x == ("__debug__" : Str)) = false := by decide)
    (hcd : (x == ("__classdict__" : Str)) = false := by decide) (hsw : swapsWith (.Call (.Attribute (.Name x p) "append" apos) [a] [] cpos) none pos.line X.env = pure false := by rfl)
    (hs1 : starEach [a] X.env = (false, eval a X.env) :: starEach [] X.env := by rfl)
    (hbase : attributeBase (.Name x p) "append" X.env (eval (.Name x p) X.env) = eval (.Name x p) X.env := by rfl)
    (hfew : ((backTo cpos (starEach [a] X.env)).all (fun x => !x.1) && (backToKw cpos (keywordEach [] X.env)).all (fun x => x.1.isSome)
      && decide ([a].length + ([] : List Keyword).length + (if ([] : List Keyword).isEmpty then 0 else 1) < 30)) = true := by rfl)
    (hline : (apos.endLine == cpos.line) = true := by rfl) : XS X κ (.Expr (.Call (.Attribute (.Name x p) "append" apos) [a] [] cpos) pos) (sApp i fa) := by
  obtain ⟨t, pa, ea⟩ := ha
  exact ⟨_, ps_expr (pe_bm PySem.F.plainAttrs_list PySem.F.slot_list_append PySem.F.type_list_append mt_append (pe_var hN hv hd hcd) (pa_cons pa pa_nil hs1) hbase hfew hline hs1) hsw, ev_app ea⟩
theorem s_ext {x : Str} {apos cpos : Pos} (i : Nat) (ha : XE X κ a fa) (hN : X.N[i]? = some x := by rfl) (hv : Vis X.env.scope x := by first | exact Or.inl rfl | exact Or.inr (Or.inl rfl) | exact Or.inr (Or.inr rfl)) (hd : (x == ("__debug__" : Str)) = false := by decide)
    (hcd : (x == ("__classdict__" : Str)) = false := by decide) (hsw : swapsWith (.Call (.Attribute (.Name x p) "extend" apos) [a] [] cpos) none pos.line X.env = pure false := by rfl)
    (hs1 : starEach [a] X.env = (false, eval a X.env) :: starEach [] X.env := by rfl)
    (hbase : attributeBase (.Name x p) "extend" X.env (eval (.Name x p) X.env) = eval (.Name x p) X.env := by rfl)
    (hfew : ((backTo cpos (starEach [a] X.env)).all (fun x => !x.1) && (backToKw cpos (keywordEach [] X.env)).all (fun x => x.1.isSome)
      && decide ([a].length + ([] : List Keyword).length + (if ([] : List Keyword).isEmpty then 0 else 1) < 30)) = true := by rfl)
    (hline : (apos.endLine == cpos.line) = true := by rfl) : XS X κ (.Expr (.Call (.Attribute (.Name x p) "extend" apos) [a] [] cpos) pos) (sExt i fa) := by
  obtain ⟨t, pa, ea⟩ := ha
  exact ⟨_, ps_expr (pe_bm PySem.F.plainAttrs_list PySem.F.slot_list_extend PySem.F.type_list_extend mt_extend (pe_var hN hv hd hcd) (pa_cons pa pa_nil hs1) hbase hfew hline hs1) hsw, ev_ext ea⟩
/-! defs -/
/-- the def called x keeps the promise of F, by at most j calls -/
structure Df (P : Program) (w : World) (K : PySem.W.Frag) (mg : Str → Option Value) (base : Heap) (C : Ca) (cm : Cm) (x : Str) (j : Nat) (F : DF) : Prop where
  ex : ∃ f fd ps, mg x = some (.ref f) ∧ PySem.W.keepIn K (.ref f) = true ∧ Binds K fd ps [] ∧ FnOk P w K mg base (L2N.CX P w) j f fd ps (spD ⟨K, C, cm⟩ F)
theorem e_call {x : Str} {j : Nat} {F : DF} (d : Df X.prog X.w X.K X.mg X.base κ.C κ.cm x j F) (c : Fe X κ k) (ha : XA X κ (a :: es) fr) (hj : j ≤ k := by decide) (hg : Gl X x := by rfl) (hdb : (x == ("__debug__" : Str)) = false := by decide) (he : starEach (a :: es) X.env = (false, eval a X.env) :: starEach es X.env := by rfl)
    (hpl : (backTo pos (starEach es X.env)).any (·.1) = false := by rfl) : XE X κ (.Call (.Name x p) (a :: es) [] pos) (dCall F [] fr) := by
  obtain ⟨f, fd, ps, hm, hk, hb, G⟩ := d.ex
  obtain ⟨t, pa, ea⟩ := ha
  exact ⟨_, pe_callSD G (c.room.mono hj) hg hm hk hb .nil (fun σ => L2N.passAt c.tk σ) pa hdb he hpl, ev_call ea fun _ _ => .nil⟩
end
end DL
namespace DL
open PySem L2
section
variable {P : Pm} {H0 : En} {Wi : WX} {ta tb tc : TE} {fa fb fc : DE} {ts us : TS} {gs hs : DS} {tA : TT} {fA : DT} {tr : TA} {fr : DA}
/-- a slot's own thing is frozen -/
theorem St.frz {K : PySem.W.Frag} {C : Ca} {e : En} {σ : L2.St} {H G : Hp} {ws : Ws} {ρ : Env} {w : W} {i : Nat} {x : Val} (st : St K C e σ H G ws ρ w) (ei : ρ[i]? = some (some x)) : ∃ G2, Same G G2 ∧ St K C e σ H G2 ws (ρ.set i (some (fz x.d))) w := by
  obtain ⟨v, e1, r, hm⟩ := st.sl i x ei
  have hl : i < ρ.length := (List.getElem?_eq_some_iff.mp ei).1
  obtain ⟨G2, sg, n2, rp, f2⟩ := freeze1 st.nx0 r (fun hm a ea => by subst ea; exact st.own i x a ei hm e1) hm
  have nx : ∀ (j : Nat) y, ρ[j]? = some (some y) → j ≠ i → ∃ u, σ[j]? = some (some u) ∧ RV K G2 H ws u y ∧ (y.m = .fz ∨ y.m = .nw) := fun j y ej hj => by
    obtain ⟨u, h1, h2, h3⟩ := st.sl j y ej
    refine ⟨u, h1, h2.gmono sg fun hy a ea ga => f2 a (fun hx ev => hj ?_) ga, h3⟩
    subst ea
    have hyn : y.m = .nw := by rcases h3 with z | z; exact absurd z hy; exact z
    exact st.ap j i y x a ej ei hyn hx h1 (by rw [e1, ev])
  refine ⟨G2, sg, n2, by rw [List.length_set]; exact st.len, fun j y ej => ?_, fun j y a ej hy ea => ?_, fun j l y z a ej el hy hz aj al => ?_⟩
  · by_cases hj : i = j
    · subst hj
      rw [List.getElem?_set, if_pos rfl, if_pos hl] at ej
      cases ej
      exact ⟨v, e1, rp, .inl rfl⟩
    · rw [List.getElem?_set_ne hj] at ej
      exact nx j y ej (Ne.symm hj)
  · by_cases hj : i = j
    · subst hj
      rw [List.getElem?_set, if_pos rfl, if_pos hl] at ej
      cases ej
      cases hy
    · rw [List.getElem?_set_ne hj] at ej
      exact st.own j y a ej hy ea
  · by_cases hj : i = j
    · subst hj
      rw [List.getElem?_set, if_pos rfl, if_pos hl] at ej
      cases ej
      cases hy
    · by_cases hk : i = l
      · subst hk
        rw [List.getElem?_set, if_pos rfl, if_pos hl] at el
        cases el
        cases hz
      · rw [List.getElem?_set_ne hj] at ej
        rw [List.getElem?_set_ne hk] at el
        exact st.ap j l y z a ej el hy hz aj al
/-- stored and frozen at once (a name whose thing is never changed in place) -/
def sSetF (i : Nat) (f : DE) : DS := fun ρ w => (f ρ w).thn ρ fun x w => if keepM x then .next (ρ.set i (some (fz x.d))) w else .bad
theorem ev_setF {i : Nat} (ha : EvE P H0 Wi ta fa) : EvS P H0 Wi (tAsg ta (gName i)) (sSetF i fa) := by
  intro σ H G ws ρ w D st h
  unfold sSetF at h
  refine ha σ H G ws ρ w _ st (postE_of st h fun x w' _ h v H1 G1 ws1 n r k => ?_)
  split at h
  · rename_i hm
    obtain ⟨G2, s2, n2, rp, _⟩ := freeze1 n r k (keepM_of hm)
    exact h _ _ _ _ (st.set (x := fz x.d) n2 rp fz_nw (.inl rfl)) n2.mon
  · exact h.elim
/-- some of several values frozen -/
def frzF : List Bool → List Val → List Val
  | b :: bs, x :: xs => (if b then x else fz x.d) :: frzF bs xs
  | _, _ => []
theorem freezeSome {K : PySem.W.Frag} {C : Ca} {G H : Hp} {ws ws' : Ws} {w' : W} {H' : Hp} : ∀ {fl : List Bool} {vs : List V} {xs : List Val} {G' : Hp}, Nx K C G H ws G' H' ws' w' → RVs K G' H' ws' vs xs → NewsOk H vs xs → xs.all keepM = true → fl.length = xs.length →
    ∃ G2, Same G' G2 ∧ Nx K C G H ws G2 H' ws' w' ∧ RVs K G2 H' ws' vs (frzF fl xs) ∧ NewsOk H vs (frzF fl xs) ∧ (frzF fl xs).all keepM = true ∧ (frzF fl xs).length = xs.length ∧ ∀ b, (∀ (i : Nat) y, xs[i]? = some y → y.m = .nw → vs[i]? ≠ some (.ref b)) → G' b = none → G2 b = none
  | [], _, _, G', n, .nil, _, _, _ => ⟨G', fun _ _ h => h, n, .nil, trivial, rfl, rfl, fun _ _ h => h⟩
  | _ :: _, _, _, _, _, .nil, _, _, hl => by simp at hl
  | [], _, _, _, _, .cons _ _, _, _, hl => by simp at hl
  | b :: bs, _, _, G', n, .cons (v := v) (x := x) (vs := vs) (xs := xs) r rs, k, hk, hl => by
    rw [List.all_cons, Bool.and_eq_true] at hk
    obtain ⟨G2, s2, n2, r2, k2, a2, l2, f2⟩ := freezeSome (fl := bs) n rs k.2.2 hk.2 (by simpa using hl)
    have rh : RV K G2 H' ws' v x := r.gmono s2 fun hy a ea ga => f2 a (fun i y ey hy2 ev => by
      have hx : x.m = .nw := by rcases keepM_of hk.1 with z | z; exact absurd z hy; exact z
      exact k.2.1 hx i y ey hy2 (by rw [ev, ea])) ga
    have dist : ∀ (i : Nat) y, (frzF bs xs)[i]? = some y → y.m = .nw → ∃ z, xs[i]? = some z ∧ z.m = .nw := by
      have go : ∀ (bs : List Bool) (xs : List Val) (i : Nat) y, (frzF bs xs)[i]? = some y → y.m = .nw → ∃ z, xs[i]? = some z ∧ z.m = .nw := by
        intro bs
        induction bs with
        | nil => intro xs i y e; simp [frzF] at e
        | cons b bs ih =>
          intro xs i y e hy
          cases xs with
          | nil => simp [frzF] at e
          | cons x xs =>
            cases i with
            | zero =>
              simp only [frzF, List.getElem?_cons_zero, Option.some.injEq] at e
              subst e
              cases b with
              | true => exact ⟨x, rfl, hy⟩
              | false => cases hy
            | succ i => simpa using ih xs i y (by simpa [frzF] using e) hy
      exact go bs xs
    cases b with
    | true =>
      refine ⟨G2, s2, n2, .cons rh r2, ⟨k.1, fun hx i y ey hy => ?_, k2⟩, by simp only [frzF, List.all_cons, Bool.and_eq_true]; exact ⟨hk.1, a2⟩, by simp [frzF, l2], fun b hb gb => f2 b (fun i y ey hy ev => hb (i + 1) y (by simpa using ey) hy (by simpa using ev)) gb⟩
      obtain ⟨z, ez, hz⟩ := dist i y ey hy
      exact k.2.1 hx i z ez hz
    | false =>
      obtain ⟨G3, s3, n3, rp, f3⟩ := freeze1 n2 rh k.1 (keepM_of hk.1)
      have go : ∀ {vs : List V} {ys : List Val}, RVs K G2 H' ws' vs ys → (∀ (i : Nat) y, ys[i]? = some y → y.m = .nw → x.m = .nw → vs[i]? ≠ some v) → ys.all keepM = true → RVs K G3 H' ws' vs ys := by
        intro vs ys rs
        induction rs with
        | nil => intro _ _; exact .nil
        | @cons u y us ys ru rus ih =>
          intro hd hk2
          rw [List.all_cons, Bool.and_eq_true] at hk2
          refine .cons (ru.gmono s3 fun hy a ea ga => f3 a (fun hx ev => ?_) ga) (ih (fun i z hz => by simpa using hd (i + 1) z (by simpa using hz)) hk2.2)
          have hyn : y.m = .nw := by rcases keepM_of hk2.1 with z | z; exact absurd z hy; exact z
          exact hd 0 y rfl hyn hx (by simp [ea, ev])
      refine ⟨G3, s2.trans s3, n3, .cons rp (go r2 (fun i y ey hy hx => ?_) a2), ⟨fz_nw, fun hx => (by cases hx), k2⟩, by simp only [frzF, List.all_cons, Bool.and_eq_true]; exact ⟨rfl, a2⟩, by simp [frzF, l2], fun b hb gb => f3 b (fun hx ev => hb 0 x rfl hx (by simp [ev])) (f2 b (fun i y ey hy ev => hb (i + 1) y (by simpa using ey) hy (by simpa using ev)) gb)⟩
      obtain ⟨z, ez, hz⟩ := dist i y ey hy
      exact k.2.1 hx i z ez hz
/-- a, b = x, y; fl: whose thing is changed in place later -/
def sParF (is : List Nat) (fl : List Bool) (f : DA) : DS := fun ρ w => (f ρ w).thn ρ fun xs w => if is.length = xs.length ∧ fl.length = xs.length ∧ xs.all keepM then .next (setXs is (frzF fl xs) ρ) w else .bad
theorem ev_parF {i j : Nat} {fl : List Bool} (ha : EvA P H0 Wi tr fr) : EvS P H0 Wi (tPar i j tr) (sParF [i, j] fl fr) := by
  intro σ H G ws ρ w D st h
  unfold sParF at h
  refine ha σ H G ws ρ w _ st (postA_of st h fun xs w' _ h vs H1 G1 ws1 n r k => ?_)
  split at h
  · rename_i hc
    have hl := r.length
    obtain ⟨G2, s2, n2, r2, k2, a2, l2, _⟩ := freezeSome (fl := fl) n r k hc.2.2 hc.2.1
    have st2 := st.setAllX [i, j] n2 r2 k2 a2
    match vs, hl, st2 with
    | [v, u], hl, st2 => exact ⟨v, u, rfl, h _ _ _ _ st2 n2.mon⟩
    | [], hl, _ => rw [← hl] at hc; simp at hc
    | [_], hl, _ => rw [← hl] at hc; simp at hc
    | _ :: _ :: _ :: _, hl, _ => rw [← hl] at hc; simp at hc
  · exact h.elim
end
section
variable {X : Cx} {κ : Kx} {a b c : Expr} {fa fb fc : DE} {fA fB : DT} {es : List Expr} {fr : DA} {pos p p2 p3 : Pos} {k : Nat} {fi : DI} {gs hs : DS} {tg iter : Expr}
theorem s_setF {x : Str} (i : Nat) (c : Fe X κ k) (ha : XE X κ a fa) (hi : X.N[i]? = some x := by rfl) (hx : Loc X.env.scope x := by first | exact Or.inl rfl | exact Or.inr rfl) (hs : swapsWith a (some (.Name x p)) pos.line X.env = pure false := by rfl)
    (hf : X.fn x = true ∨ X.env.scope.names.lookup x = some .local := by first | exact .inl rfl | exact .inr rfl) : XS X κ (.Assign [.Name x p] a pos) (sSetF i fa) := by
  obtain ⟨t, pa, ea⟩ := ha
  exact ⟨_, ps_set c.nd hi hx pa hs hf, ev_setF ea⟩
theorem s_parF {x y : Str} {px py pt pt2 : Pos} {kt k2 : Nat} (i j : Nat) (fl : List Bool) (c : Fe X κ k) (ha : XA X κ [a, b] fr) (hi : X.N[i]? = some x := by rfl) (hj : X.N[j]? = some y := by rfl) (hij : i ≠ j := by decide) (hx : X.env.scope.names.lookup x = some .local := by rfl) (hy : X.env.scope.names.lookup y = some .local := by rfl)
    (hw : swappedStores [.Tuple [.Name x px, .Name y py] kt pt] (.Tuple [a, b] k2 pt2) X.env = pure (some [x, y]) := by rfl) (hs : swapsWithSole [.Tuple [.Name x px, .Name y py] kt pt] (.Tuple [a, b] k2 pt2) pos.line X.env = pure false := by rfl) :
    XS X κ (.Assign [.Tuple [.Name x px, .Name y py] kt pt] (.Tuple [a, b] k2 pt2) pos) (sParF [i, j] fl fr) := by
  obtain ⟨t, pa, ea⟩ := ha
  exact ⟨_, ps_par c.calm c.nd hi hj hij hx hy pa hw hs, ev_parF ea⟩
end
/-! ### the law's end -/
/-- from what the law's def computes upon the script to the law; T: the tables of code objects -/
theorem law_sp {K : PySem.W.Frag} {C : Addr} {T : List (Addr × Str)} {cm : Cm} {F : DF} {H : Hp} {a : Addr} {ns : List Int} (hF : ∃ m w, F [.scr ns] W0 = .ok ⟨m, .bl true⟩ w) (hT : LamX.Tabs T H) (hS : SqL K H a (ns.map V.int)) : spD ⟨K, ⟨C, T⟩, cm⟩ F [.ref a] H (fun v _ => v = .bl true) fun _ _ _ => False := by
  have key : ∃ G : Hp, Sm G H ∧ SqL K G a (ns.map V.int) ∧ (∀ b o, G b = some o → Nt o) ∧ ∀ b o u, H b = some (.frz o u) → G b = some (.frz o u) := by
    have sub : ∀ p : HO → Bool, (∀ o, p o = true → Nt o) → (∀ o u, p (.frz o u) = true) → ∃ G : Hp, Sm G H ∧ (∀ b o, H b = some o → p o = true → G b = some o) ∧ (∀ b o, G b = some o → Nt o) ∧ ∀ b o u, H b = some (.frz o u) → G b = some (.frz o u) := fun p h1 h2 => by
      have at_ : ∀ b o, (H b).filter p = some o ↔ H b = some o ∧ p o = true := fun b o => by rw [Option.filter_eq_some_iff]
      exact ⟨fun b => (H b).filter p, fun b o e => .inl ((at_ b o).mp e).1, fun b o e q => (at_ b o).mpr ⟨e, q⟩, fun b o e => h1 o ((at_ b o).mp e).2, fun b o u e => (at_ b _).mpr ⟨e, h2 o u⟩⟩
    obtain ⟨G, g1, g2, g3, g4⟩ := sub (fun o => match o with | .frz _ _ => true | .lst _ => true | _ => false) (fun o h => by cases o <;> first | exact nt_lst | exact nt_frz | cases h) (fun _ _ => rfl)
    refine ⟨G, g1, ?_, g3, g4⟩
    rcases hS with (h | ⟨o, h⟩) | h
    · exact .inl (.inl (g2 _ _ h rfl))
    · exact .inl (.inr ⟨o, g2 _ _ h rfl⟩)
    · exact .inr h
  obtain ⟨G, sG, z, nt, hU⟩ := key
  obtain ⟨m, w, e⟩ := hF
  refine ⟨G, ⟨0, [], none⟩, W0, [.scr ns], sG, ⟨.nil, rfl, List.nodup_nil, fun a h => by simp [regs, regs0] at h, hT, nt, fun a o u e _ => .inl (hU a o u e), rfl, by intro _ _ _ z; cases z⟩, .cons (.scr z) .nil, ?_⟩
  rw [e]
  exact fun v H' G' ws' n r _ => rv_bl r
theorem cx_no {P : Program} {w : World} {H : Hp} {s : Shared} {e : Value} {s' : Shared} (h : L2.CX P w [] H s (fun _ _ _ => False) e s') : False := by
  obtain ⟨_, _, _, _, _, _, _, _, _, _, _, _, z⟩ := h
  exact z
end DL
namespace DL
open PySem L2
abbrev gSub : Val → Val → W → R Val := gI0 fun i j => .int (i - j)
noncomputable abbrev gDiv : Val → Val → W → R Val := gI CDivW fun i j => .int (i / j)
abbrev gMod : Val → Val → W → R Val := gI (fun _ j => 0 < j) fun i j => .int (i % j)
noncomputable abbrev gPow : Val → Val → W → R Val := gI CPow fun i j => .int (i ^ j.toNat)
def gIsiT (T : String) : Val → W → R Val := fun y w => match y.d with
  | .obj _ => .bad
  | .exc _ => .bad
  | .dK _ => .bad
  | .dT _ => .bad
  | _ => gIsi T y w
theorem e_isiT (T : String) {X : Cx} {κ : Kx} {a : Expr} {fa : DE} {pos p p2 : Pos} {x : Str} (hm : X.mg "isinstance" = none) (hmT : X.mg x = none) (hv : bootBuiltins x = some (.type T)) (ha : XE X κ a fa) (hg : Gl X "isinstance" := by rfl) (hgT : Gl X x := by rfl)
    (hx : x ≠ "__name__" := by decide) (hd : (x == ("__debug__" : Str)) = false := by decide) (hs : starEach [a, .Name x p2] X.env = (false, eval a X.env) :: starEach [.Name x p2] X.env := by rfl) (hs2 : starEach [.Name x p2] X.env = (false, eval (.Name x p2) X.env) :: starEach [] X.env := by rfl)
    (hpl : (backTo pos (starEach [.Name x p2] X.env)).any (·.1) = false := by rfl) : XE X κ (.Call (.Name "isinstance" p) [a, .Name x p2] [] pos) (dUn (gIsiT T) fa) := e_isi T hm hmT hv ha hg hgT hx hd hs hs2 hpl
/-- a def as it stands behind the top -/
def Fnx (K : PySem.W.Frag) (mg : Str → Option Value) (x : Str) (st : Stmt) (ps : List Str) : Prop := ∃ f fd, Fun K x x st f fd ∧ mg x = some (.ref f) ∧ Binds K fd ps []
theorem df_mk {P : Program} {w : World} {K : PySem.W.Frag} {mg : Str → Option Value} {base : Heap} {C : Ca} {cm : Cm} {x : Str} {st : Stmt} {N ps : List Str} {k : Nat} {g : DS} (F : Fnx K mg x st ps) (S : FnScope N ps (defScope st))
    (hb : ∀ (f : Addr) (cdv : Value) (A : Around) (outer : List PySem.Env) (s : Shared) (H : Hp) (E : XK) (e : En), Fc (cxOf (L2N.CX P w) P w K mg base N x (defScope st) f cdv A outer s H E) ⟨C, cm, e, fun cls d _ H' => E cls d H'⟩ k →
      XB (cxOf (L2N.CX P w) P w K mg base N x (defScope st) f cdv A outer s H E) ⟨C, cm, e, fun cls d _ H' => E cls d H'⟩ (defBody st) g) : Df P w K mg base C cm x (k + 1) (fnD ps.length N.length g) := by
  obtain ⟨f, fd, F, hm, hB⟩ := F
  exact ⟨f, fd, ps, hm, F.kp, hB, def_ok F S fun cdv A outer s H E e hr => hb f cdv A outer s H E e ⟨rfl, S.nd, hr, L2N.takes_of rfl rfl rfl rfl, passes_of rfl⟩⟩
end DL
namespace DL
open PySem L2
theorem cst_int {K : PySem.W.Frag} {mg : Str → Option Value} {x : Str} {i : Int} {t : Tok} (h : mg x = some (.int i t)) : Cst K mg x (.int i) := ⟨_, .int i, h, ⟨t, rfl⟩, fun _ _ => .int _⟩
theorem cst_str {K : PySem.W.Frag} {mg : Str → Option Value} {x : Str} {i : Str} {t : Tok} (h : mg x = some (.str i t)) : Cst K mg x (.str i) := ⟨_, .str i, h, ⟨t, rfl⟩, fun _ _ => .str _⟩
end DL
namespace DL
open PySem L2
/-! ### sorted(xs): any plain data -/
noncomputable def leD : D → D → Bool := PySem.W.dataLe false toP
structure SOk (ds : List D) : Prop where
  pl : ds.all (plN 9) = true
  al : PySem.W.AllAlike (ds.map toP)
  so : PySem.W.Sortable (ds.map toP)
  sz : ds.length ≤ sizeLine
noncomputable instance (ds : List D) : Decidable (SOk ds) := Classical.propDecidable _
noncomputable def gSorted : List Val → W → R Val := fun xs w => match xs with
  | [x] => match x.d with
    | .lst ds => if SOk ds then .ok ⟨.nw, .lst (ds.mergeSort leD)⟩ w else .bad
    | _ => .bad
  | _ => .bad
theorem gSorted_nx (x : List Val) (w : W) (e : Xc) (w' : W) : gSorted x w ≠ .ex e w' := by
  unfold gSorted
  split <;> (try split) <;> (try split) <;> exact fun h => nomatch h
/-- its reading: the items and what they stand for, side by side -/
def rSortD (K : PySem.W.Frag) : List V → Hp → VK → Prop := fun vs H Q => ∃ (a : Addr) (xs : List V) (ds : List D), vs = [.ref a] ∧ SqL K H a xs ∧ xs.length = ds.length ∧ DpAll K H xs (toPs ds) ∧ SOk ds ∧ PyData.depthAll (toPs ds) ≤ 9 ∧
  ∀ p, H p = none → Q (.ref p) (upd H p (.lst (((xs.zip ds).mergeSort (PySem.W.dataLe false fun z => toP z.2)).map (·.1))))
theorem dpAll_each {X : Cx} {pins : List (Addr × Obj)} {σ : L2.St} {H : Hp} {s : Shared} (I : Inv X pins σ H s) : ∀ {xs : List V} {ds : List D} {us : List Value}, DpAll X.K H xs (toPs ds) → Vals xs us → PySem.W.EachIs (fun v (z : V × D) => RelV z.1 v) us (xs.zip ds) ∧ PySem.W.EachIs (fun v (z : V × D) => ∃ as, Reads s.heap v (toP z.2) as) us (xs.zip ds)
  | [], [], _, _, r => by cases r; exact ⟨.nil, .nil⟩
  | [], d :: ds, _, h, _ => by rw [toPs] at h; cases h
  | x :: xs, [], _, h, _ => by rw [toPs] at h; cases h
  | x :: xs, d :: ds, _, h, r => by
    rw [toPs] at h
    cases h with
    | cons h1 h2 =>
      cases r with
      | cons r1 r2 =>
        obtain ⟨a, b⟩ := dpAll_each I h2 r2
        exact ⟨.cons r1 a, .cons (Dp.reads I _ _ _ h1 r1) b⟩
theorem each_vals : ∀ {us : List Value} {zs : List (V × D)}, PySem.W.EachIs (fun v (z : V × D) => RelV z.1 v) us zs → Vals (zs.map (·.1)) us
  | _, _, .nil => .nil
  | _, _, .cons h t => .cons h (each_vals t)
theorem depth_mem : ∀ {ds : List D} {d : D}, d ∈ ds → (toP d).depth ≤ PyData.depthAll (toPs ds)
  | x :: ds, d, h => by
    rw [toPs, PyData.depthAll]
    rcases List.mem_cons.mp h with rfl | h
    · exact Nat.le_max_left _ _
    · exact Nat.le_trans (depth_mem h) (Nat.le_max_right _ _)
theorem map_zip_snd {α β γ : Type} (f : β → γ) : ∀ (xs : List α) (ds : List β), xs.length = ds.length → (xs.zip ds).map (fun z => f z.2) = ds.map f
  | [], [], _ => rfl
  | [], _ :: _, h => by simp at h
  | _ :: _, [], h => by simp at h
  | x :: xs, d :: ds, h => by simp [map_zip_snd f xs ds (by simpa using h)]
theorem cr_sortD {X : Cx} (hu : X.A.units + 64 < cLine) : CallR X (.builtin "sorted") (rSortD X.K) := by
  intro pins s σ H vs us Q I r h
  obtain ⟨a, xs, ds, rfl, hs, hlen, hd, ok, hdep, q⟩ := h
  obtain ⟨its, rv, hl, _⟩ := I.list hs
  rw [Vals.ref1 r]
  obtain ⟨e1, e2⟩ := dpAll_each I hd rv
  have hz : (xs.zip ds).length = ds.length := by rw [List.length_zip, hlen, Nat.min_self]
  have hm := map_zip_snd toP xs ds hlen
  refine PySem.W.sorted_data hl.isList e1 e2 (by rw [hm]; exact ok.al) (by rw [hm]; exact ok.so) (by rw [hz]; exact ok.sz) (fun z hz => ?_) fun out ho hout => ?_
  · have : z.2 ∈ ds := (List.of_mem_zip hz).2
    have := depth_mem this
    omega
  · obtain ⟨ep, he'⟩ := PyProof.Rows.sortedAll_at s.heap its out.toArray
    have hv := each_vals hout
    have hn : (((xs.zip ds).mergeSort (PySem.W.dataLe false fun z => toP z.2)).map (·.1)).length ≤ sizeLine := by
      rw [List.length_map, List.length_mergeSort, hz]
      exact ok.sz
    exact ⟨.ref _, upd H (s.heap.objs.size + 1) (.lst (((xs.zip ds).mergeSort (PySem.W.dataLe false fun z => toP z.2)).map (·.1))), I.laid (t' := s.toks) (fun _ _ => PyProof.Rows.sortedAll_old) (Nat.le_succ _) ⟨hn, out, ep, hv, he'⟩, rfl, q _ (I.hok.fresh (Nat.le_succ _))⟩
theorem reps_zip {K : PySem.W.Frag} {G : Hp} {ι : List Addr} : ∀ {zs : List (V × D)}, (∀ z ∈ zs, Rep K G ι z.1 z.2) → Reps K G ι (zs.map (·.1)) (zs.map (·.2))
  | [], _ => .nil
  | z :: zs, h => .cons (h z List.mem_cons_self) (reps_zip fun y hy => h y (List.mem_cons_of_mem _ hy))
theorem zip_reps {K : PySem.W.Frag} {G : Hp} {ι : List Addr} : ∀ {vs : List V} {ds : List D}, Reps K G ι vs ds → ∀ z ∈ vs.zip ds, Rep K G ι z.1 z.2
  | _, _, .nil, z, h => by simp at h
  | _, _, .cons a b, z, h => by
    rw [List.zip_cons_cons] at h
    rcases List.mem_cons.mp h with rfl | h
    · exact a
    · exact zip_reps b z h
section
variable {P : Pm}
theorem rc_sortD : RCall P (rSortD P.K) gSorted := by
  intro H G ws w vs xs Q s r hx h
  match xs, hx, h with
  | [⟨m, d⟩], hx, h =>
    obtain ⟨v, rfl, hv⟩ := rvs1 hx
    cases d <;> try exact h.elim
    rename_i ds
    obtain ⟨a, vs, rfl, q1, r1⟩ := rv_lst s hv
    unfold gSorted at h
    dsimp only at h
    split at h
    · rename_i ok
      obtain ⟨b1, b2, b3⟩ := reps_pl s r1 ok.pl
      refine ⟨a, vs, ds, rfl, SqL.of q1, r1.length, b1, ok, b3, fun p hp => ?_⟩
      have hz := map_zip_snd (id : D → D) vs ds r1.length
      have e : ((vs.zip ds).mergeSort (PySem.W.dataLe false fun z => toP z.2)).map (·.2) = ds.mergeSort leD := by
        have := PySem.W.sort_maps (r := PySem.W.dataLe false fun z : V × D => toP z.2) (s := leD) (fun z : V × D => z.2) (l := vs.zip ds) (fun a _ b _ => rfl)
        rw [this]
        congr 1
        simpa using hz
      rw [← e] at h
      exact nw_q s r h hp (reps_zip fun z hz => zip_reps r1 z (List.mem_mergeSort.mp hz))
    · exact h.elim
end
end DL
namespace DL
open PySem L2
/-! ### min(xs, default=d), max(xs, default=d): ints -/
section
variable {X : Cx} {κ : Kx} {k : Nat} {a b : Expr} {fa fb : DE} {fr : DA} {p pos kpos : Pos}
theorem e_sorted (c : Fe X κ k) (hm : X.mg "sorted" = none) (ha : XA X κ [a] fr) (hg : Gl X "sorted" := by rfl) (he : starEach [a] X.env = (false, eval a X.env) :: starEach [] X.env := by rfl) : XE X κ (.Call (.Name "sorted" p) [a] [] pos) (dCB gSorted fr) := e_cb (cr_sortD c.u64) rc_sortD gSorted_nx hm (by decide +kernel) ha hg (by decide) (by decide) he
end
end DL
namespace DL
open PySem L2 PyProof.Rows
/-! ### xs.remove(x): texts, x among them -/
end DL
/-! Errors of own classes: raised, caught, asked for their class. -/
namespace DL
open PySem L2
/-! ### the classes of errors; A: their base, over ValueError -/
structure ErrC (K : PySem.W.Frag) (A C : Addr) : Prop where
  cls : ∃ cd, PySem.W.clsIn K C = some cd ∧ cd.mro = [.ref C, .ref A, .type "ValueError", .type "Exception", .type "BaseException", .type "object"] ∧ cd.hasDict = true
  ty : PySem.W.typeIn K (.ref C) = some (.type "type")
  kp : PySem.W.keepIn K (.ref C) = true
  ga : PySem.W.findIn K (.ref C) "__getattribute__" = some (some (.builtin "BaseException.__getattribute__"))
  gt : PySem.W.findIn K (.ref C) "__getattr__" = some none
  ca : PySem.W.findIn K (.ref C) "__class__" = some (some (.builtin "object.__class__"))
/-- the classes of errors that the top has written -/
structure Ers (K : PySem.W.Frag) (mg : Str → Option Value) (cm : Cm) (A : Addr) : Prop where
  inj : ∀ x y a, cm x = some a → cm y = some a → x = y
  ne : ∀ x, cm x ≠ some A
  cl : ∀ x C, cm x = some C → ErrC K A C
  air : mg "AirError" = some (.ref A)
  airC : ∃ cd, PySem.W.clsIn K A = some cd ∧ cd.mro = [.ref A, .type "ValueError", .type "Exception", .type "BaseException", .type "object"] ∧ cd.hasDict = true
  airT : PySem.W.typeIn K (.ref A) = some (.type "type")
  sp : PySem.W.specialIn K (.builtin "object.__class__") "__get__" = some (some (.builtin "getset_descriptor.__get__"))
  tk : PySem.W.takesIn K (.builtin "object.__class__") = some true
section
variable {K : PySem.W.Frag} {A C : Addr}
theorem ErrC.sub (h : ErrC K A C) (v : Value) : PySem.W.subIn K (.ref C) v = some ([Value.ref C, .ref A, .type "ValueError", .type "Exception", .type "BaseException", .type "object"].contains v) := by
  obtain ⟨cd, h1, h2, _⟩ := h.cls
  show PySem.W.mroIn K C v = _
  unfold PySem.W.mroIn
  rw [h1, Option.bind_some, h2]
  rfl
theorem ErrC.base (h : ErrC K A C) : PySem.W.subIn K (.ref C) (.type "BaseException") = some true := (h.sub _).trans (by
  congr 1)
theorem ErrC.dict (h : ErrC K A C) : PySem.W.hasDictIn K C = true := by
  obtain ⟨cd, h1, _, h3⟩ := h.cls
  unfold PySem.W.hasDictIn
  rw [h1]
  exact h3
theorem ErrC.one (h : ErrC K A C) {C' : Addr} (h1 : (PySem.W.clsIn K C').isSome = true) (h2 : PySem.W.typeIn K (.ref C') = some (.type "type")) : PySem.W.kitOne K (.ref C) (.ref C') = some (decide (C' = C) || decide (C' = A)) := by
  unfold PySem.W.kitOne
  by_cases e : C = C'
  · subst e
    simp
  · have n1 : (Value.ref C == Value.ref C') = false := Bool.eq_false_iff.mpr fun q => e (Value.ref.inj (beq_iff_eq.mp q))
    rw [n1, if_neg Bool.false_ne_true]
    unfold PySem.W.kitCls
    dsimp only
    rw [h1, h2, h.sub]
    rw [if_pos (by rfl)]
    have n2 : (Value.ref C' == Value.ref C) = false := Bool.eq_false_iff.mpr fun q => e (Value.ref.inj (beq_iff_eq.mp q)).symm
    by_cases ea : C' = A
    · subst ea
      simp [List.contains_cons]
    · have n3 : (Value.ref C' == Value.ref A) = false := Bool.eq_false_iff.mpr fun q => ea (Value.ref.inj (beq_iff_eq.mp q))
      simp only [List.contains_cons, n2, n3, List.contains_nil]
      simp [Ne.symm e, ea]
theorem ErrC.oneV (h : ErrC K A C) : PySem.W.kitOne K (.ref C) (.type "ValueError") = some true := by
  unfold PySem.W.kitOne
  rw [if_neg (by simp)]
  unfold PySem.W.kitCls
  dsimp only
  rw [if_pos (by decide +kernel), h.sub]
  simp
theorem ErrC.exc {mg : Str → Option Value} {cm : Cm} (h : ErrC K A C) (E : Ers K mg cm A) : L2.ExcC K C :=
  ⟨h.ga, h.gt, h.base, h.dict, h.ca, E.sp, E.tk, (h.sub (.type "object")).trans (by simp)⟩
theorem Ers.catch {mg : Str → Option Value} {cm : Cm} (E : Ers K mg cm A) (h : ErrC K A C) : PySem.W.exmOne K (.ref C) (.ref A) = some true := by
  obtain ⟨cd, h1, h2, h3⟩ := E.airC
  refine PySem.W.exm_ref ?_ ?_ E.airT ((h.sub _).trans (by simp))
  · show PySem.W.mroIn K A _ = _
    unfold PySem.W.mroIn
    rw [h1, Option.bind_some, h2]
    simp
  · unfold PySem.W.hasDictIn
    rw [h1]
    exact h3
end
/-- some base -/
def ErsX (K : PySem.W.Frag) (mg : Str → Option Value) (cm : Cm) : Prop := ∃ A, Ers K mg cm A
/-- .. by a list of names and places -/
abbrev cmL (t : List (String × Addr)) : Cm := fun x => t.lookup x
theorem lookup_mem {t : List (String × Addr)} {x : String} {a : Addr} (h : t.lookup x = some a) : (x, a) ∈ t := by
  induction t with
  | nil => cases h
  | cons p t ih =>
    obtain ⟨y, b⟩ := p
    rw [List.lookup_cons] at h
    split at h
    · rename_i e
      have := beq_iff_eq.mp e
      subst this
      cases h
      exact List.mem_cons_self
    · exact List.mem_cons_of_mem _ (ih h)
theorem nodup_snd {t : List (String × Addr)} (h : (t.map (·.2)).Nodup) {x y : String} {a : Addr} (hx : (x, a) ∈ t) (hy : (y, a) ∈ t) : x = y := by
  induction t with
  | nil => cases hx
  | cons p t ih =>
    rw [List.map_cons, List.nodup_cons] at h
    rcases List.mem_cons.mp hx with e1 | m1
    · rcases List.mem_cons.mp hy with e2 | m2
      · rw [← e1] at e2; exact (Prod.mk.inj e2).1.symm
      · exact absurd (List.mem_map.mpr ⟨(y, a), m2, by rw [← e1]⟩) h.1
    · rcases List.mem_cons.mp hy with e2 | m2
      · exact absurd (List.mem_map.mpr ⟨(x, a), m1, by rw [← e2]⟩) h.1
      · exact ih h.2 m1 m2
theorem ers_mk {K : PySem.W.Frag} {mg : Str → Option Value} {A : Addr} {t : List (String × Addr)} (nd : (A :: t.map (·.2)).Nodup) (h : ∀ p ∈ t, ErrC K A p.2) (a1 : mg "AirError" = some (.ref A)) (a2 : ∃ cd, PySem.W.clsIn K A = some cd ∧ cd.mro = [.ref A, .type "ValueError", .type "Exception", .type "BaseException", .type "object"] ∧ cd.hasDict = true)
    (a3 : PySem.W.typeIn K (.ref A) = some (.type "type")) (a4 : PySem.W.specialIn K (.builtin "object.__class__") "__get__" = some (some (.builtin "getset_descriptor.__get__"))) (a5 : PySem.W.takesIn K (.builtin "object.__class__") = some true) : ErsX K mg (cmL t) := by
  rw [List.nodup_cons] at nd
  exact ⟨A, fun x y a hx hy => nodup_snd nd.2 (lookup_mem hx) (lookup_mem hy), fun x hx => nd.1 (List.mem_map.mpr ⟨(x, A), lookup_mem hx, rfl⟩), fun x C hx => h _ (lookup_mem hx), a1, a2, a3, a4, a5⟩
theorem cmL_names {t : List (String × Addr)} {c : String} (h : (cmL t c).isSome) : c ∈ t.map (·.1) := by
  obtain ⟨a, e⟩ := Option.isSome_iff_exists.mp h
  exact List.mem_map.mpr ⟨_, lookup_mem e, rfl⟩
/-! ### raise X('..') -/
structure Rcl (K : PySem.W.Frag) (mg : Str → Option Value) (cm : Cm) (x : String) : Prop where
  ex : ∃ C, mg x = some (.ref C) ∧ cm x = some C ∧ PySem.W.excIn K C [.type "ValueError", .type "Exception", .type "BaseException", .type "object"] "ValueError.__new__" = true
def sRaise (c : String) : DS := fun ρ w => .ex ⟨c, []⟩ ρ w
theorem s_raise {X : Cx} {κ : Kx} {k : Nat} {x : String} {m : Str} {j : Nat} {p p2 pos pos2 : Pos} (c : Fe X κ k) (E : ErsX X.K X.mg κ.cm) (r : Rcl X.K X.mg κ.cm x) (hg : Gl X x := by rfl) (hdb : ((x : Str) == ("__debug__" : Str)) = false := by decide) :
    XS X κ (.Raise (some (.Call (.Name x p) [.Constant (.str m) j p2] [] pos)) none pos2) (sRaise x) := by
  obtain ⟨C, h1, h2, h3⟩ := r.ex
  obtain ⟨A, E⟩ := E
  have hc := E.cl x C h2
  refine ⟨_, L2N.ps_raise c.calm c.tk (L2N.pmk_own PySem.F.excBase_ValueError h3 h1 hc.kp (raises_own hc.base hc.ty) hg hdb), ?_⟩
  intro σ H G ws ρ w D st h
  exact h (.ref C) none σ H G ws st ⟨C, h2, rfl, .inl ⟨rfl, rfl⟩⟩
/-- a statement that is never reached -/
theorem s_never {X : Cx} {κ : Kx} {st : Stmt} : XS X κ st (fun _ _ => .bad) := ⟨_, ps_never, fun σ H G ws ρ w D st h => h.elim⟩
end DL
/-! A def called in an except suite with the error that is handled. -/
namespace DL
open PySem PySem.Spec PyProof.Rows L2 L2H
abbrev Xz : L2.CXT := fun _ _ _ _ _ _ => False
abbrev Ez : XK := fun _ _ _ => False
/-- the def at f, called while the error p is handled; spx: its promise, of the error's place, class and dict -/
def HotOk (P : Program) (w : World) (K : PySem.W.Frag) (mg : Str → Option Value) (base : Heap) (k : Nat) (f : Addr) (fd : FuncData) (ps : List Str) (spx : Addr → Value → Option Addr → List V → Hp → VK → Prop) : Prop :=
  ∀ (A : Around) (outer : List PySem.Env) (s : Shared) (H : Hp) (args : Args) (us : List Value) (vs : List V) (Q : VK) (p : Addr × Obj) (cls : Value) (d : Option Addr), RoomH k A → PinOk outer H s p → Zc cls d p.2 → (∃ fs, p.2.data = .fields fs) →
    Env0 P w K mg base A outer s H → BindsTo s fd args (ps.zip us) → Vals vs us → vs.length = ps.length → spx p.1 cls d vs H Q → codeAny (model P w) A (.call (.ref f) args) (CR Xz outer P w H s Q Ez) s
/-- the context of such a body -/
def HotX (X : Cx) (p : Addr × Obj) (cls : Value) (d : Option Addr) : Prop := p ∈ X.pn ∧ Zc cls d p.2 ∧ ∃ fs, p.2.data = .fields fs
theorem hot_of {P : Program} {w : World} {K : PySem.W.Frag} {mg : Str → Option Value} {base : Heap} {k : Nat} {x qual : Str} {st : Stmt} {f : Addr} {fd : FuncData} {N ps : List Str} {spx : Addr → Value → Option Addr → List V → Hp → VK → Prop} (F : Fun K x qual st f fd) (S : FnScope N ps (defScope st))
    (hb : ∀ (cdv : Value) (A : Around) (outer : List PySem.Env) (s : Shared) (H : Hp) (vs : List V) (Q : VK) (p : Addr × Obj) (cls : Value) (d : Option Addr), RoomH k (A.deeper (envOfC qual (defScope st) s.heap.objs.size f cdv)) → HotX (cxH Xz P w K mg base N qual (defScope st) f cdv A outer s H Ez p) p cls d → spx p.1 cls d vs H Q →
      ∃ t, PSs (cxH Xz P w K mg base N qual (defScope st) f cdv A outer s H Ez p) (defBody st) t ∧ t { nx := fun _ H' => Q .non H', rt := Q } (L2.start N vs) H) : HotOk P w K mg base (k + 1) f fd ps spx := by
  obtain ⟨oc, od, kV, doc, pm, an, cdv, ct, osl, rfl, lk, hcd⟩ := F.ex
  intro A outer s H args us vs Q p cls d hr hp hz hf e0 hbi rv hl hsp
  have inK : K.In s.heap := e0.mod.kin.keeps fun b o z => (e0.bs b o z).1
  have lim : s.heap.NoLimit := e0.mod.nolimit.keeps fun b o z => (e0.bs b o z).1
  refine codeAny_call_function hr.depth (inK _ _ lk) rfl S.co S.gen rfl (PySem.W.codeRec_of inK hcd) (hbi _ _ _ _ ?_)
  refine wpAny_newFunctionEnv_cells S.kind ?_ ?_
  · rintro ⟨n, u⟩ hn
    rcases S.par n (List.of_mem_zip hn).1 with z | z
    · exact .inl z
    · exact .inr ⟨z, PySem.W.cellsFrom_some _ _ _ (.inl z)⟩
  · intro env he s1 xx
    subst he
    refine ⟨lim.keeps xx.toInCall.keep, codeAny_func ?_⟩
    obtain ⟨t, ht, hq⟩ := hb cdv A outer s H vs Q p cls d (hr.deeper _) ⟨List.mem_singleton.mpr rfl, hz, hf⟩ hsp
    have I := inv_startH (CX := Xz) (E := Ez) S hp e0 hl rv xx
    refine wpAny_mono (ht.run [] s1 _ H _ I hq) ?_ (fun e s' hs => hs)
    intro fl s' hs
    cases fl with
    | next =>
      obtain ⟨σ', H', J, q⟩ := hs
      exact ⟨.non, H', J.os, J.bare, J.base, J.hok, rfl, q⟩
    | ret u =>
      obtain ⟨v, σ', H', J, rv', q⟩ := hs
      exact ⟨v, H', J.os, J.bare, J.base, J.hok, rv', q⟩
    | brk => obtain ⟨_, _, _, q⟩ := hs; exact q.elim
    | cont => obtain ⟨_, _, _, q⟩ := hs; exact q.elim
/-- x(n), n the error that the suite holds -/
def tHot (i : Nat) (a : Addr) (cls : Value) (d : Option Addr) (spx : Addr → Value → Option Addr → List V → Hp → VK → Prop) : TE := fun σ H Q => (i < σ.length → σ[i]? = some (some (.ref a))) ∧ spx a cls d [.ref a] H Q
theorem pe_hot {X : Cx} {k i : Nat} {f : Addr} {fd : FuncData} {a n x : Str} {spx : Addr → Value → Option Addr → List V → Hp → VK → Prop} {p : Addr × Obj} {cls : Value} {d : Option Addr} {q q2 pos : Pos} (F : HotOk X.prog X.w X.K X.mg X.base k f fd [a] spx) (hr : RoomH k X.A) (hx : HotX X p cls d)
    (hm : X.mg x = some (.ref f)) (hk : PySem.W.keepIn X.K (.ref f) = true) (hb : Binds X.K fd [a] []) (hN : X.N[i]? = some n) (hv : Vis X.env.scope n) (hg : Gl X x) (hdb : (x == ("__debug__" : Str)) = false := by decide) (hd : (n == ("__debug__" : Str)) = false := by decide)
    (hcd : (n == ("__classdict__" : Str)) = false := by decide) : PE X (.Call (.Name x q) [.Name n q2] [] pos) (tHot i p.1 cls d spx) := by
  refine ⟨fun pins s σ H Q I h => ?_⟩
  obtain ⟨hs, hsp⟩ := h
  have hs := hs (by rw [I.len]; exact (List.getElem?_eq_some_iff.mp hN).1)
  have pa : PA X [.Name n q2] (tCons (tVar i) tNil) := pa_cons (pe_var hN hv hd hcd) pa_nil
  refine wpAny_Call_Name_kw (ld_glob I hg hm ?_ hdb)
  refine PySem.W.callWith_K (h₀ := X.base) I.ok.mod.kin hk (thn (pa.run pos pins s σ H (fun vs H1 => vs = [.ref p.1] ∧ H1 = H) I ⟨_, hs, rfl, rfl⟩) ?_) (by rfl) (by rfl)
  rintro us s1 ⟨vs, H1, I1, r, e1, e2⟩
  subst e1
  rw [e2] at I1
  refine ⟨I1.kIn, ?_⟩
  have P1 := I1.pin p (List.mem_append_left _ hx.1)
  have hl : us.length = 1 := by rw [← r.length]; rfl
  have b := hb s1 us I1.kIn (by rw [List.append_nil]; exact hl)
  rw [List.append_nil] at b
  have pin : PinOk X.stack H s1 p := ⟨P1.1, P1.2.1, fun hm => (List.mem_cons.mp (I1.stkSub p.1 hm)).elim P1.2.2.1 P1.2.2.2.1, P1.2.2.2.2⟩
  refine wpAny_call (codeAny_mono (F X.A X.stack s1 H ⟨us, []⟩ us [.ref p.1] Q p cls d hr pin hx.2.1 hx.2.2 I1.env0 b r rfl hsp) ?_)
  intro rr s' hq
  cases rr with
  | error e => exact hq.elim
  | ok fl =>
    cases fl with
    | ret u => exact I1.after hq
    | next => exact False.elim hq
    | brk => exact False.elim hq
    | cont => exact False.elim hq
/-! isinstance(n, C), n the error that is handled, with a dict or without -/
section
open PySem.W PySem.Calls
theorem findObj_data {K : PySem.W.Frag} {Cc : Addr} {nm : Str} {od : Option Obj} {at_ gt : Value} (h1 : (clsIn K Cc).isSome = true) (h2 : findIn K (.ref Cc) nm = some (some at_)) (h3 : specialIn K at_ "__get__" = some (some gt)) (h4 : takesIn K at_ = some true) : findObj K Cc od nm = some (.bind gt at_) := by
  obtain ⟨cd, hcd⟩ := Option.isSome_iff_exists.mp h1
  unfold findObj
  rw [hcd, Option.bind_some, h2, Option.bind_some]
  simp [h3, h4]
variable {prog : Program} {w : World} {A : Around} {E : Value → Shared → Prop} {K : PySem.W.Frag} {e D : Addr} {oe : Obj} {od : Option Obj}
theorem class_exc {s : Shared} {Q : Option Value → Shared → Prop} (Cx : ExcC K D) (inK : K.In s.heap) (ia : InstAt s.heap e oe D od) (hq : Q (some (.ref D)) { s with toks := s.toks + 1 }) : wpAny (model prog w) A (getAttr? (.ref e) "__class__") Q E s := by
  have fo : findObj K D od "__class__" = some (.bind (.builtin "getset_descriptor.__get__") (.builtin "object.__class__")) := findObj_data (by obtain ⟨cd, hc, _⟩ := any_some Cx.hd; rw [hc]; rfl) Cx.ha Cx.hn Cx.ht
  obtain ⟨hh, gg, dr, tk, os⟩ := s
  have la := ia.type (M := model prog w)
  have lb := looks_findIn (M := model prog w) inK Cx.hg
  have lc := looks_findIn (M := model prog w) inK Cx.hk
  have ld := looks_find (M := model prog w) inK ia fo
  have lsub : Looks (model prog w) hh (isInstance (.ref e) (.type "BaseException")) true := la.andThen (looks_subIn inK Cx.hs)
  have n0 : (false && onTheHeap (Value.builtin "BaseException.__getattribute__")) = false := rfl
  have n2 : (Value.builtin "BaseException.__getattribute__" == Value.builtin "object.__getattribute__") = false := by decide +kernel
  have n1 : (onTheHeap (Value.ref D) && Value.builtin "BaseException.__getattribute__" == Value.builtin "object.__getattribute__") = false := by rw [n2]; rfl
  unfold getAttr? getAttrBy? getAttrBy
  refine wpAny_bind (wpAny_mkText (wpAny_bind (wpAny_attempt (wpAny_holding (wpAny_bind (la.at (wpAny_bind (lb.at ?_))))))))
  show (wpAny _ _ (if (onTheHeap (Value.ref D) && Value.builtin "BaseException.__getattribute__" == Value.builtin "object.__getattribute__") = true then _ else _) _ _ _)
  rw [n1, if_neg Bool.false_ne_true]; unfold getAttrByItsOwn hookBefore
  refine wpAny_bind ?_
  rw [if_pos (show onTheHeap (Value.ref D) = true from rfl)]; refine lc.at ?_
  refine wpAny_bind (wpAny_attempt (wpAny_holding ?_)); unfold callGetattribute
  rw [n0, if_neg Bool.false_ne_true]; unfold boundAndCalled
  rw [PySem.F.excAttr_ValueError.ga.bind (.ref e)]; refine wpAny_bind (wpAny_pure ?_)
  show wpAny _ _ (call (.builtin "BaseException.__getattribute__") [.ref e, .str "__class__" tk]) _ _ _
  refine wpAny_call (codeAny_call_builtin PySem.F.excAttr_ValueError.ga.plain PySem.F.entry_bexc_ga ?_)
  refine @check_slot (model prog w) _ _ ⟨hh, gg, dr, tk + 1, os⟩ "BaseException.__getattribute__" "BaseException" "__getattribute__" (.ref e) [.str "__class__" tk] [] _ (by decide +kernel) (by decide +kernel) lsub (PySem.F.args_bexc_ga (.ref e) (.str "__class__" tk)) ?_
  unfold Builtin.«object.__getattribute__»
  refine wpAny_bind (wpAny_of_eq (a := ((Value.ref e : Value), [Value.str "__class__" tk])) (by first | rfl | (simp only [slotArgs]; rfl)) ?_)
  refine wpAny_bind (wpAny_pure (wpAny_bind (la.at (wpAny_bind (ld.at ?_)))))
  show wpAny _ _ (holding [Value.builtin "object.__class__"] (call (.builtin "getset_descriptor.__get__") [.builtin "object.__class__", .ref e, .ref D]) >>= ret) _ _ _
  refine wpAny_bind (wpAny_holding (wpAny_call (class_get (s := ⟨hh, gg, dr, tk + 1, os⟩) (ox := oe) (od := od) inK ia Cx.hm ?_)))
  refine wpAny_pure ?_
  show wpAny _ _ (handedOut (.ref D)) _ _ _
  rw [handedOut_of (v := .ref D) rfl]
  first
    | exact wpAny_pure (wpAny_pure hq)
    | exact wpAny_pure hq
    | exact wpAny_pure (wpAny_bind (wpAny_pure (wpAny_pure hq)))
theorem kit_exc (Cx : ExcC K D) : KitX K (.ref e) (.ref D) (fun h => InstAt h e oe D od) where
  ty := fun _ _ _ ia => ia.type
  it := fun _ _ inK _ => by
    obtain ⟨cdD, hcD, _⟩ := any_some Cx.hd
    unfold clsIn at hcD
    split at hcD
    · rename_i c1 d1 cd1 sl1 hob; intro A1 Q1 E1 s1 k1 q1; unfold isType loadHead; exact wpAny_bind (wpAny_loadPart (k1 _ _ (inK _ _ hob)) (wpAny_pure q1))
    · cases hcD
  ne := fun h tp dd its n sl inK htp => by
    obtain ⟨cdD, hcD, _⟩ := any_some Cx.hd
    refine Bool.eq_false_iff.mpr fun z => ?_
    have ez : D = tp := Value.ref.inj (beq_iff_eq.mp z)
    subst ez
    unfold clsIn at hcD
    split at hcD
    · rename_i c1 d1 cd1 sl1 hob; have z2 := (inK _ _ hob).symm.trans htp; cases z2
    · cases hcD
  ca := fun inK ia k => class_exc Cx inK ia k
end
/-- what stands where the error's dict is -/
def XdAt (d : Option Addr) (H : Hp) : Prop := ∀ dd, d = some dd → ∃ fs, H dd = some (.xd fs)
theorem call_isX {X : Cx} {p : Addr × Obj} {D : Addr} {d : Option Addr} (hx : HotX X p (.ref D) d) (C : ExcC X.K D) : CallR X (.builtin "isinstance") (fun vs H Q => XdAt d H ∧ rIsE X.K D p.1 vs H Q) := by
  intro pins s σ H xs us Q I r h
  obtain ⟨hxd, c, cv, b, rfl, hcv, e, q⟩ := h
  cases r with
  | cons rx rr => cases rr with
    | cons rt rr =>
      cases rr
      cases rx
      have ec := hcv _ rt
      subst ec
      obtain ⟨hget, _⟩ := I.pin p (List.mem_append_left _ hx.1)
      have J : ∃ od, PySem.W.InstAt s.heap p.1 p.2 D od := by
        obtain ⟨pa, oc, od, oda, osl⟩ := p
        obtain ⟨_, ⟨h1, h2⟩, vs, h3⟩ := hx
        dsimp only at h1 h2 h3
        subst h1 h2 h3
        cases od with
        | none => exact ⟨none, hget, rfl, rfl, trivial⟩
        | some dd =>
          obtain ⟨fs, hfs⟩ := hxd dd rfl
          obtain ⟨mA, hns, _⟩ := I.hok dd _ hfs
          obtain ⟨oD, _, _, e1, _⟩ := hns
          exact ⟨some oD, hget, rfl, rfl, e1⟩
      obtain ⟨od, J⟩ := J
      exact PySem.W.kia_one (kit_exc C) I.kIn J e (fun z => nomatch z) (fun tk => ⟨.bl b, H, I.kept (t' := tk) (fun _ _ z => z), rfl, q⟩)
end DL
namespace DL
open PySem PySem.Spec PyProof.Rows L2 L2H
/-! ### a built-in's method with one argument, as an expression -/
def RBm (P : Pm) (T : String) (r : V → List V → Hp → VK → Prop) (g : Val → Val → W → R Val) : Prop := ∀ H G ws w vx vy x y (Q : VK), Sm G H → RelW P.K P.C G H ws w → RV P.K G H ws vx x → RV P.K G H ws vy y → PostE P (fun _ _ _ => False) H G ws Q (g x y w) → r vx [vy] H Q
/-- what the receiver must be -/
def tyOk : String → D → Bool
  | "list", .lst _ => true
  | "str", .str _ => true
  | _, _ => false
def dBm (T : String) (g : Val → Val → W → R Val) (fa fb : DE) : DE := fun ρ w => (fa ρ w).bind fun x w1 => if tyOk T x.d then (fb ρ w1).bind fun y w2 => chk x w1 w2 (g x y w2) else .bad
theorem tyOk_v {K : PySem.W.Frag} {G H : Hp} {ws : Ws} {v : V} {x : Val} {T : String} (s : Sm G H) (r : RV K G H ws v x) (h : tyOk T x.d = true) : tyV K T v H := by
  obtain ⟨m, d⟩ := x
  unfold tyOk at h
  split at h
  · rename_i e; cases e
    obtain ⟨a, vs, rfl, q, _⟩ := rv_lst s r
    exact .inl ⟨rfl, _, SqL.of q⟩
  · rename_i e; cases e
    rw [rv_str r]
    rfl
  · cases h
theorem ev_bm {P : Pm} {H0 : En} {Wi : WX} {ta tb : TE} {fa fb : DE} {T : String} {r : V → List V → Hp → VK → Prop} {g : Val → Val → W → R Val} (ha : EvE P H0 Wi ta fa) (hb : EvE P H0 Wi tb fb) (hr : RBm P T r g) (hn : ∀ x y w e w', g x y w ≠ .ex e w') : EvE P H0 Wi (tBM P.K T r ta (tCons tb tNil)) (dBm T g fa fb) := by
  intro σ H G ws ρ w Q st h
  unfold dBm at h
  refine ha σ H G ws ρ w _ st ?_
  cases e : fa ρ w with
  | bad => rw [e] at h; exact h
  | ex x w' => rw [e] at h; exact h
  | ok x w' =>
    intro v H1 G1 ws1 n1 r1 k1
    rw [e] at h
    have h : PostE P (fun c d H' => Wi c d σ H') H G ws Q (if tyOk T x.d = true then (fb ρ w').bind fun y w2 => chk x w' w2 (g x y w2) else .bad) := h
    by_cases ht : tyOk T x.d = true
    · rw [if_pos ht] at h
      refine ⟨tyOk_v n1.sub r1 ht, ?_⟩
      refine hb σ H1 G1 ws1 ρ w' _ (st.next n1) ?_
      cases e2 : fb ρ w' with
      | bad => rw [e2] at h; exact h
      | ex y w2 => rw [e2] at h; exact PostE.after n1 h
      | ok y w2 =>
        intro v2 H2 G2 ws2 n2 r2 k2
        rw [e2] at h
        obtain ⟨hx, h⟩ := PostE.chk h
        exact hr H2 G2 ws2 w2 v v2 x y Q n2.sub n2.rw (r1.move n2 fun z => n2.same n1.rw (hx z)) r2 ((PostE.after (n1.trans n2) h).noex fun _ _ => hn _ _ _ _ _)
    · rw [if_neg ht] at h; exact h.elim
/-! ### xs.count(y), xs.index(y) -/
def rCntF (K : PySem.W.Frag) : V → List V → Hp → VK → Prop := fun x xs H Q => ∃ (p : Addr) (ys : List V) (y : V), x = .ref p ∧ xs = [y] ∧ SqL K H p ys ∧ flatV y = true ∧ ys.all flatV = true ∧ Q (.int (ys.countP (fun z => eqV z y) : Nat)) H
theorem count_flat {y : V} : ∀ {ys : List V} {us : List Value}, Vals ys us → ys.all flatV = true → us.countP (eqU y) = ys.countP (fun z => eqV z y)
  | _, _, .nil, _ => rfl
  | _, _, .cons r t, f => by
    rw [List.all_cons, Bool.and_eq_true] at f
    rw [List.countP_cons, List.countP_cons, count_flat t f.2, eqU_of r f.1]
theorem mt_countF {X : Cx} : MtR X "list.count" (rCntF X.K) := by
  intro pins s σ H x xs v us Q I rx rxs h
  obtain ⟨p, ys, y, rfl, rfl, hs, fy, fys, q⟩ := h
  cases rx
  obtain ⟨u, rfl, ru⟩ := rxs.one
  obtain ⟨its, rv, ⟨⟨cls, dd, data, sl⟩, n, ho, hc, hdn, hd⟩, hlen⟩ := I.list hs
  dsimp only at hc hd
  subst hc hd
  refine call_meets PySem.F.slot_list_count ⟨_, ho, rfl⟩ PySem.F.entry_list_count (PySem.F.args_list_count_2 _ _) (SeqAt.list_countAt p its.toArray n dd sl u (eqU y)) ⟨ho, fun z hz => mem_eqAt ru fy rv fys z (by simpa using hz), ?_⟩
  refine ⟨.int (ys.countP (fun z => eqV z y) : Nat), H, I.tok _, ⟨s.toks, ?_⟩, q⟩
  rw [← count_flat rv fys]
def gCnt : Val → Val → W → R Val := fun x y w => match x.d with
  | .lst ds => if ds.all flD && flD y.d then .ok (fz (.int (ds.countP fun z => eqD z y.d : Nat))) w else .bad
  | _ => .bad
def gIdx : Val → Val → W → R Val := fun x y w => match x.d with
  | .lst ds => if ds.all flD && flD y.d then (match ds.findIdx? (fun z => eqD z y.d) with | some j => .ok (fz (.int (j : Nat))) w | none => .bad) else .bad
  | _ => .bad
theorem countV_flat {K : PySem.W.Frag} {G : Hp} {ι : List Addr} {u : V} {e : D} (h2 : Rep K G ι u e) (p2 : flD e = true) : ∀ {vs : List V} {ds : List D}, Reps K G ι vs ds → ds.all flD = true → vs.countP (fun z => eqV z u) = ds.countP fun z => eqD z e
  | _, _, .nil, _ => rfl
  | _, _, .cons a b, h => by
    rw [List.all_cons, Bool.and_eq_true] at h
    rw [List.countP_cons, List.countP_cons, countV_flat h2 p2 b h.2, eqV_flat a h2 h.1 p2]
theorem rbm_cnt {P : Pm} : RBm P "list" (rCntF P.K) gCnt := by
  intro H G ws w vx vy x y Q s r hx hy h
  obtain ⟨m, d⟩ := x
  cases d <;> try exact h.elim
  rename_i ds
  have h : PostE P (fun _ _ _ => False) H G ws Q (if (ds.all flD && flD y.d) = true then .ok (fz (.int (ds.countP fun z => eqD z y.d : Nat))) w else .bad) := h
  by_cases hc : (ds.all flD && flD y.d) = true
  · rw [if_pos hc] at h
    rw [Bool.and_eq_true] at hc
    obtain ⟨a, vs, rfl, q, rs⟩ := rv_lst s hx
    obtain ⟨f1, ry⟩ := rv_flat hy hc.2
    refine ⟨a, vs, vy, rfl, rfl, SqL.of q, f1, reps_flat rs hc.1, ?_⟩
    rw [countV_flat ry hc.2 rs hc.1]
    exact fz_q s r h (.int _)
  · rw [if_neg hc] at h; exact h.elim
theorem rbm_idx {P : Pm} : RBm P "list" (rIndex P.K) gIdx := by
  intro H G ws w vx vy x y Q s r hx hy h
  obtain ⟨m, d⟩ := x
  cases d <;> try exact h.elim
  rename_i ds
  have h : PostE P (fun _ _ _ => False) H G ws Q (if (ds.all flD && flD y.d) = true then (match ds.findIdx? (fun z => eqD z y.d) with | some j => .ok (fz (.int (j : Nat))) w | none => .bad) else .bad) := h
  by_cases hc : (ds.all flD && flD y.d) = true
  · rw [if_pos hc] at h
    rw [Bool.and_eq_true] at hc
    obtain ⟨a, vs, rfl, q, rs⟩ := rv_lst s hx
    obtain ⟨f1, ry⟩ := rv_flat hy hc.2
    cases e : ds.findIdx? (fun z => eqD z y.d) with
    | none => rw [e] at h; exact h.elim
    | some j =>
      rw [e] at h
      obtain ⟨hj, h1, h2⟩ := List.findIdx?_eq_some_iff_getElem.mp e
      have hjv : j < vs.length := by rw [rs.length]; exact hj
      obtain ⟨dz, ez, rz⟩ := rs.get (List.getElem?_eq_getElem hjv)
      have ez' : ds[j] = dz := by rw [List.getElem?_eq_getElem hj] at ez; exact Option.some.inj ez
      have fl : ∀ d ∈ ds, flD d = true := fun d hd => List.all_eq_true.mp hc.1 d hd
      refine ⟨a, vs, vy, j, vs[j], rfl, rfl, SqL.of q, f1, reps_flat rs hc.1, List.getElem?_eq_getElem hjv, ?_, ?_, fz_q s r h (.int _)⟩
      · rw [eqV_flat rz ry (by rw [← ez']; exact fl _ (List.getElem_mem hj)) hc.2, ← ez']
        exact h1
      · intro m z' hm hz
        obtain ⟨dm, em, rm⟩ := rs.get hz
        have hmd : m < ds.length := by omega
        have em' : ds[m] = dm := by rw [List.getElem?_eq_getElem hmd] at em; exact Option.some.inj em
        rw [eqV_flat rm ry (by rw [← em']; exact fl _ (List.getElem_mem hmd)) hc.2, ← em']
        simpa using h2 m hm
  · rw [if_neg hc] at h; exact h.elim
theorem gCnt_nx (x y : Val) (w : W) (e : Xc) (w' : W) : gCnt x y w ≠ .ex e w' := by
  unfold gCnt
  repeat' split
  all_goals exact fun h => nomatch h
theorem gIdx_nx (x y : Val) (w : W) (e : Xc) (w' : W) : gIdx x y w ≠ .ex e w' := by
  unfold gIdx
  repeat' split
  all_goals exact fun h => nomatch h
section
variable {X : Cx} {κ : Kx} {o a : Expr} {fo fa : DE} {apos cpos : Pos}
theorem e_bm {T id : String} {name : Str} {r : V → List V → Hp → VK → Prop} {g : Val → Val → W → R Val} (pa : PlainAttrs T) (slot : Slot T name id) (hty : typeOf (.builtin id) = pure (.type "method_descriptor")) (hm : MtR X id r) (hr : RBm (pm X κ) T r g) (hn : ∀ x y w e w', g x y w ≠ .ex e w') (ho : XE X κ o fo) (ha : XE X κ a fa)
    (hbase : attributeBase o name X.env (eval o X.env) = eval o X.env := by rfl)
    (hfew : ((backTo cpos (starEach [a] X.env)).all (fun x => !x.1) && (backToKw cpos (keywordEach [] X.env)).all (fun x => x.1.isSome) && decide ([a].length + ([] : List Keyword).length + (if ([] : List Keyword).isEmpty then 0 else 1) < 30)) = true := by rfl)
    (hline : (apos.endLine == cpos.line) = true := by rfl) (hs : starEach [a] X.env = (false, eval a X.env) :: starEach [] X.env := by rfl) : XE X κ (.Call (.Attribute o name apos) [a] [] cpos) (dBm T g fo fa) := by
  obtain ⟨t1, p1, e1⟩ := ho
  obtain ⟨t2, p2, e2⟩ := ha
  exact ⟨_, pe_bm pa slot hty hm p1 (pa_cons p2 pa_nil hs) hbase hfew hline hs, ev_bm e1 e2 hr hn⟩
theorem e_cnt (ho : XE X κ o fo) (ha : XE X κ a fa) (hbase : attributeBase o "count" X.env (eval o X.env) = eval o X.env := by rfl)
    (hfew : ((backTo cpos (starEach [a] X.env)).all (fun x => !x.1) && (backToKw cpos (keywordEach [] X.env)).all (fun x => x.1.isSome) && decide ([a].length + ([] : List Keyword).length + (if ([] : List Keyword).isEmpty then 0 else 1) < 30)) = true := by rfl)
    (hline : (apos.endLine == cpos.line) = true := by rfl) (hs : starEach [a] X.env = (false, eval a X.env) :: starEach [] X.env := by rfl) : XE X κ (.Call (.Attribute o "count" apos) [a] [] cpos) (dBm "list" gCnt fo fa) :=
  e_bm PySem.F.plainAttrs_list PySem.F.slot_list_count PySem.F.type_list_count mt_countF rbm_cnt gCnt_nx ho ha hbase hfew hline hs
theorem e_idx (ho : XE X κ o fo) (ha : XE X κ a fa) (hbase : attributeBase o "index" X.env (eval o X.env) = eval o X.env := by rfl)
    (hfew : ((backTo cpos (starEach [a] X.env)).all (fun x => !x.1) && (backToKw cpos (keywordEach [] X.env)).all (fun x => x.1.isSome) && decide ([a].length + ([] : List Keyword).length + (if ([] : List Keyword).isEmpty then 0 else 1) < 30)) = true := by rfl)
    (hline : (apos.endLine == cpos.line) = true := by rfl) (hs : starEach [a] X.env = (false, eval a X.env) :: starEach [] X.env := by rfl) : XE X κ (.Call (.Attribute o "index" apos) [a] [] cpos) (dBm "list" gIdx fo fa) :=
  e_bm PySem.F.plainAttrs_list PySem.F.slot_list_index PySem.F.type_list_index mt_index rbm_idx gIdx_nx ho ha hbase hfew hline hs
end
end DL
namespace DL
open PySem PySem.Spec PyProof.Rows L2 L2H
/-! ### the def that tells an error's class; a: the error, c: its class -/
section
variable {X : Cx} {κ : Kx} {a b : Expr} {fa fb : DE} {pos p p2 : Pos}
theorem h_set {x : Str} (i : Nat) (nd : X.N.Nodup) (ha : XE X κ a fa) (hi : X.N[i]? = some x := by rfl) (hx : Loc X.env.scope x := by first | exact Or.inl rfl | exact Or.inr rfl) (hs : swapsWith a (some (.Name x p)) pos.line X.env = pure false := by rfl)
    (hf : X.fn x = true ∨ X.env.scope.names.lookup x = some .local := by first | exact .inl rfl | exact .inr rfl) : XS X κ (.Assign [.Name x p] a pos) (sSet i fa) := by
  obtain ⟨t, pa, ea⟩ := ha
  exact ⟨_, ps_set nd hi hx pa hs hf, ev_set ea⟩
theorem h_ne (u : X.A.units + 64 < cLine) (ha : XE X κ a fa) (hb : XE X κ b fb) : XT X κ (.Compare a [.NotEq] [b] pos) (tst (dOp (gEq true) fa fb)) := t_cmp (op_neD u) rop_ne gEq_nx ha hb (nomark _)
/-- a class of errors under its name -/
def Mcl (mg : Str → Option Value) (cm : Cm) (x : String) : Prop := ∃ C, mg x = some (.ref C) ∧ cm x = some C
def gIsX (a : Addr) (b : Bool) : Val → W → R Val := fun v w => match v.d with
  | .exc a' => if a' = a then .ok (fz (.bl b)) w else .bad
  | _ => .bad
theorem rv_exc {K : PySem.W.Frag} {G H : Hp} {ws : Ws} {v : V} {m : Md} {i : Addr} (h : RV K G H ws v ⟨m, .exc i⟩) : v = .ref i := by
  unfold RV at h
  cases m with
  | fz => cases h; rfl
  | nw => obtain ⟨a, _, _, _, u⟩ := h; cases u
  | bo => obtain ⟨a, _, _, _, u⟩ := h; cases u
  | wd => obtain ⟨a, _, _, _, u⟩ := h; cases u
/-- the error's dict stands at the entry, and no field holds it -/
def XdIn (d : Option Addr) (H : Hp) (ws : Ws) : Prop := ∀ dd, d = some dd → (∃ fs, H dd = some (.xd fs)) ∧ dd ∉ regs ws
theorem nt_xd {fs : List (Str × V)} : Nt (.xd fs) := fun _ h => nomatch h
theorem XdIn.later {K : PySem.W.Frag} {C : Ca} {G H G' H' : Hp} {ws ws' : Ws} {w' : W} {d : Option Addr} (h : XdIn d H ws) (n : Nx K C G H ws G' H' ws' w') : XdAt d H' := fun dd e => by
  obtain ⟨⟨fs, h1⟩, h2⟩ := h dd e
  exact ⟨fs, (n.keep dd _ (.inl h1) nt_xd h2).eq⟩
theorem ev_isX {P : Pm} {H0 : En} {Wi : WX} {D : Addr} {p : Addr} {d : Option Addr} {b : Bool} {cv : V} {cu : Value} {ta : TE} (ea : EvE P H0 Wi ta fa) (hd : XdIn d H0.H H0.ws) (hu : ∀ u, RelV cv u → u = cu) (hk : PySem.W.kitOne P.K (.ref D) cu = some b) :
    EvE P H0 Wi (tCB (fun vs H Q => XdAt d H ∧ rIsE P.K D p vs H Q) (tCons ta (tCons (tC cv) tNil))) (dUn (gIsX p b) fa) := by
  intro σ H G ws ρ w Q st h
  unfold dUn at h
  refine ea σ H G ws ρ w _ st ?_
  cases e : fa ρ w with
  | bad => rw [e] at h; exact h
  | ex x w' => rw [e] at h; exact h
  | ok x w' =>
    intro v H1 G1 ws1 n1 r1 k1
    rw [e] at h
    obtain ⟨m, d⟩ := x
    have h : PostE P _ H G ws Q (gIsX p b ⟨m, d⟩ w') := h
    unfold gIsX at h
    cases d <;> try exact h.elim
    rename_i a' _
    dsimp only at h
    by_cases ha : a' = p
    · subst ha
      rw [if_pos rfl] at h
      have := rv_exc r1
      subst this
      exact ⟨hd.later (st.next n1).nx0, cv, cu, b, rfl, hu, hk, h (.bl b) H1 G1 ws1 n1 (.bl b) fz_nw⟩
    · rw [if_neg ha] at h; exact h.elim
theorem h_isX {q : Addr × Obj} {D A : Addr} {c x : String} {d : Option Addr} (hx : HotX X q (.ref D) d) (hdi : XdIn d κ.e.H κ.e.ws) (E : Ers X.K X.mg κ.cm A) (hc : κ.cm c = some D) (m : Mcl X.mg κ.cm x) (hm : X.mg "isinstance" = none) (ha : XE X κ a fa) (hg : Gl X "isinstance" := by rfl) (hgx : Gl X x := by rfl) (hd : ((x : Str) == ("__debug__" : Str)) = false := by decide)
    (hs : starEach [a, .Name x p2] X.env = (false, eval a X.env) :: starEach [.Name x p2] X.env := by rfl) (hs2 : starEach [.Name x p2] X.env = (false, eval (.Name x p2) X.env) :: starEach [] X.env := by rfl)
    (hpl : (backTo pos (starEach [.Name x p2] X.env)).any (·.1) = false := by rfl) : XE X κ (.Call (.Name "isinstance" p) [a, .Name x p2] [] pos) (dUn (gIsX q.1 (decide (c = x))) fa) := by
  obtain ⟨ta, pa, ea⟩ := ha
  obtain ⟨C, m1, m2⟩ := m
  have eD := E.cl c D hc
  have eC := E.cl x C m2
  refine ⟨_, pe_callB (call_isX hx (eD.exc E)) hg hm (by decide +kernel) (pa_cons pa (pa_cons (pe_glob (v := .ref C) hgx m1 rfl hd) pa_nil hs2) hs) (by decide) (by decide) hs hpl, ?_⟩
  refine ev_isX (P := pm X κ) (D := D) (p := q.1) (cu := .ref C) ea hdi (fun u hu => hu) ?_
  obtain ⟨cd, h1, _⟩ := eC.cls
  rw [eD.one (by rw [h1]; rfl) eC.ty]
  congr 1
  have hA : C ≠ A := fun z => E.ne x (by rw [m2, z])
  by_cases hcx : c = x
  · subst hcx
    rw [hc] at m2
    cases m2
    simp
  · have hCD : C ≠ D := fun z => hcx (E.inj c x D hc (by rw [m2, z]))
    simp [hcx, hA, hCD]
theorem h_isV {q : Addr × Obj} {D A : Addr} {c : String} {d : Option Addr} (hx : HotX X q (.ref D) d) (hdi : XdIn d κ.e.H κ.e.ws) (E : Ers X.K X.mg κ.cm A) (hc : κ.cm c = some D) (hm : X.mg "isinstance" = none) (hm2 : X.mg "ValueError" = none) (ha : XE X κ a fa) (hg : Gl X "isinstance" := by rfl) (hgx : Gl X "ValueError" := by rfl)
    (hs : starEach [a, .Name "ValueError" p2] X.env = (false, eval a X.env) :: starEach [.Name "ValueError" p2] X.env := by rfl) (hs2 : starEach [.Name "ValueError" p2] X.env = (false, eval (.Name "ValueError" p2) X.env) :: starEach [] X.env := by rfl)
    (hpl : (backTo pos (starEach [.Name "ValueError" p2] X.env)).any (·.1) = false := by rfl) : XE X κ (.Call (.Name "isinstance" p) [a, .Name "ValueError" p2] [] pos) (dUn (gIsX q.1 true) fa) := by
  obtain ⟨ta, pa, ea⟩ := ha
  have eD := E.cl c D hc
  refine ⟨_, pe_callB (call_isX hx (eD.exc E)) hg hm (by decide +kernel) (pa_cons pa (pa_cons (pe_bltn (v := .ty "ValueError") hgx hm2 (by decide +kernel) rfl) pa_nil hs2) hs) (by decide) (by decide) hs hpl, ?_⟩
  exact ev_isX (P := pm X κ) (D := D) (p := q.1) (cu := .type "ValueError") ea hdi (fun u hu => hu) eD.oneV
end
/-- its promise, by a denotation that knows the error -/
def spX (P : Pm) (F : Addr → String → DF) : Addr → Value → Option Addr → List V → Hp → VK → Prop := fun a cls d vs H Q => ∃ c C G ws w, P.cm c = some C ∧ cls = .ref C ∧ XdIn d H ws ∧ vs = [.ref a] ∧ Sm G H ∧ RelW P.K P.C G H ws w ∧ PostE P (fun _ _ _ => False) H G ws Q (F a c [.exc a] w)
theorem hot_mk {P : Program} {w : World} {K : PySem.W.Frag} {mg : Str → Option Value} {base : Heap} {C : Ca} {cm : Cm} {x : Str} {st : Stmt} {f : Addr} {fd : FuncData} {N : List Str} {n : Str} {k : Nat} {g : Addr → String → DS} (F : Fun K x x st f fd) (S : FnScope N [n] (defScope st))
    (hb : ∀ (cdv : Value) (A : Around) (outer : List PySem.Env) (s : Shared) (H : Hp) (e : En) (p : Addr × Obj) (c : String) (Da : Addr) (d : Option Addr), cm c = some Da → HotX (cxH Xz P w K mg base N x (defScope st) f cdv A outer s H Ez p) p (.ref Da) d → XdIn d e.H e.ws →
      (cxH Xz P w K mg base N x (defScope st) f cdv A outer s H Ez p).A.units + 64 < cLine → XB (cxH Xz P w K mg base N x (defScope st) f cdv A outer s H Ez p) ⟨C, cm, e, fun _ _ _ _ => False⟩ (defBody st) (g p.1 c)) :
    HotOk P w K mg base (k + 1) f fd [n] (spX ⟨K, C, cm⟩ fun a c => fnD 1 N.length (g a c)) := by
  refine hot_of F S ?_
  intro cdv A outer s H vs Q p cls d hr hx hsp
  obtain ⟨c, Da, G, ws, wd, hc, rfl, hdi, rfl, sG, rw, hp⟩ := hsp
  obtain ⟨t, h1, h2⟩ := hb cdv A outer s H ⟨H, G, ws⟩ p c Da d hc hx hdi (by have := hr.un; show (A.deeper (envOfC x (defScope st) s.heap.objs.size f cdv)).units + 64 < cLine; omega)
  refine ⟨t, h1, ?_⟩
  have rs : Reps K G (io ws) [.ref p.1] [.exc p.1] := .cons .exc .nil
  refine h2 _ H G ws ([DL.D.exc p.1].map (fun d => some (fz d)) ++ List.replicate (N.length - 1) none) wd _ (st_start sG rw rs) ?_
  unfold fnD at hp
  dsimp only at hp
  rw [if_pos (by rfl)] at hp
  cases eg : g p.1 c ([DL.D.exc p.1].map (fun d => some (fz d)) ++ List.replicate (N.length - 1) none) wd with
  | bad => rw [eg] at hp; exact hp
  | brk ρ w' => rw [eg] at hp; exact hp.elim
  | cont ρ w' => rw [eg] at hp; exact hp.elim
  | next ρ w' =>
    rw [eg] at hp
    exact fun σ' H' G' ws' st' _ => hp .non H' G' ws' st'.nx0 .non fz_nw
  | ret y w' =>
    rw [eg] at hp
    exact fun v H' G' ws' n r k _ => hp v H' G' ws' n r k
  | ex y ρ w' =>
    rw [eg] at hp
    exact fun cls d σ' H' G' ws' st' hx => hp cls d H' G' ws' st'.nx0 hx
end DL
namespace DL
open PySem PySem.Spec PyProof.Rows L2 L2H LamX
/-! ### told(lambda: ..): what is told, or a pair of 'refused' and the error's class -/
/-- tables may change -/
theorem Nx.tab {K : PySem.W.Frag} {C : Ca} {G H H' : Hp} {ws : Ws} {w : W} (s : Sm G H) (r : RelW K C G H ws w) (e : LamX.ExtN H H') (t : LamX.Tabs C.T H') : ∃ G', Nx K C G H ws G' H' ws w := by
  classical
  have k : ∀ a o, H a = some o → Nt o → H' a = some o := fun a o h n => e a o h fun ps z => n ps z
  have kL : ∀ a o, Lk H a o → Nt o → Lk H' a o := fun a o h n => by
    rcases h with h | ⟨h, q, e⟩
    · exact .inl (k a o h n)
    · exact .inr ⟨h, q, k a _ e nt_frz⟩
  -- whatever is locked and new counts as frozen
  let G' : Hp := fun b => if (∃ o, H b = some o ∧ Nt o) then G b else (match H' b with | some (.frz o u) => some (.frz o u) | _ => none)
  have gi : ∀ b, (∃ o, H b = some o ∧ Nt o) → G' b = G b := fun b h => if_pos h
  have go : ∀ b, ¬ (∃ o, H b = some o ∧ Nt o) → G' b = (match H' b with | some (.frz o u) => some (.frz o u) | _ => none) := fun b h => if_neg h
  have gn : ∀ b o, ¬ (∃ o, H b = some o ∧ Nt o) → G' b = some o → H' b = some o ∧ ∃ q u, o = .frz q u := fun b o h e => by
    rw [go b h] at e
    split at e
    · rename_i q u e1
      cases e
      exact ⟨e1, q, u, rfl⟩
    · cases e
  have sg : Same G G' := fun b o h => by
    rw [gi b ((s b o h).at' (r.nt b o h))]
    exact h
  have cont : ∀ {ι : List Addr} {a : Addr} {d : D}, Unf K G H ι a d → Unf K G' H' ι a d := fun {ι a d} u => by
    obtain ⟨o, ho, hc⟩ := u.there
    exact u.move sg (List.prefix_refl _) fun o' h => kL a o' h (ho.nt2 (nt_cont hc) h)
  refine ⟨G', sg, fun b o h => ?_, ⟨paired_imp r.obs fun q o hq ⟨⟨dx, e⟩, p⟩ => ⟨⟨dx, k _ _ e nt_ins⟩, paired_imp p fun x y hx ⟨e, f⟩ => ⟨e, ?_⟩⟩, r.nn, r.nd, fun a ha => ?_, t, fun b o h => ?_, fun a q u e hd => ?_, r.lkw, fun a o u e => k _ _ (r.lkh a o u e) nt_frz⟩, fun a o h n _ => kL a o h n, fun a o h n => ⟨o, k a o h n, n⟩, fun a o h n g => ?_, List.prefix_refl _, fun _ h => .inl h, Nat.le_refl _, fun _ => ⟨rfl, fun a ha o h => ?_⟩, Stab.refl _⟩
  · by_cases q : ∃ o, H b = some o ∧ Nt o
    · rw [gi b q] at h; exact kL b o (s b o h) (r.nt b o h)
    · exact .inl (gn b o q h).1
  · rcases f with ⟨a, e, u⟩ | h
    · exact .inl ⟨a, e, cont u⟩
    · exact .inr h
  · rw [gi a (reg_there r ha)]; exact r.out a ha
  · by_cases q : ∃ o, H b = some o ∧ Nt o
    · rw [gi b q] at h; exact r.nt b o h
    · obtain ⟨_, q, u, rfl⟩ := gn b o q h
      exact nt_frz
  · by_cases z : ∃ o, H a = some o ∧ Nt o
    · rw [gi a z]
      obtain ⟨o, h1, h2⟩ := z
      have := k a o h1 h2
      rw [e] at this
      cases this
      exact r.ul a q u h1 hd
    · rw [go a z, e]; exact .inl rfl
  · rw [gi a ⟨o, h, n⟩]; exact .inl g
  · obtain ⟨o', h', n⟩ := reg_there r ha
    exact kL a o h (Lk.nt2 (.inl h') n h)
def toldX (x : Xc) (w : W) : R Val := .ok (fz (.tup [.str "refused", .str x.c])) w
theorem reg_not_xd {K : PySem.W.Frag} {C : Ca} {G H : Hp} {ws : Ws} {w : W} (r : RelW K C G H ws w) {a : Addr} {xs : List (Str × V)} (hx : H a = some (.xd xs)) : a ∉ regs ws := by
  have go : ∀ {l : Ws0} {m : List (List (Str × D))}, Paired (fun (q : Addr × List (Str × V)) (o : List (Str × D)) => (∃ dx, H q.1 = some (.ins C.a dx q.2)) ∧ Paired (fun (x : Str × V) (y : Str × D) => x.1 = y.1 ∧ Fld K G H (io ws) x.2 y.2) q.2 o) l m → a ∉ regs0 l := by
    intro l m p
    induction p with
    | nil => simp [regs0]
    | @cons q o l m p1 p2 ih =>
      intro h
      obtain ⟨p, fs⟩ := q
      rcases List.mem_cons.mp h with rfl | h
      · obtain ⟨⟨dx, e⟩, _⟩ := p1
        rw [hx] at e; cases e
      · rcases List.mem_append.mp h with h | h
        · have go2 : ∀ {fs : List (Str × V)} {o : List (Str × D)}, Paired (fun (x : Str × V) (y : Str × D) => x.1 = y.1 ∧ Fld K G H (io ws) x.2 y.2) fs o → a ∉ refs fs := by
            intro fs o p
            induction p with
            | nil => simp [refs]
            | @cons x y l m q1 q2 ih2 =>
              intro h
              obtain ⟨n, v⟩ := x
              rcases q1.2 with ⟨b, e, u⟩ | ⟨i, e, _⟩
              · simp only at e
                subst e
                rcases List.mem_cons.mp h with rfl | h
                · obtain ⟨o, e, c⟩ := u.there
                  rcases e with e | ⟨_, q, e⟩
                  · rw [hx] at e; cases e; exact c
                  · rw [hx] at e; cases e
                · exact ih2 h
              · simp only at e
                subst e
                exact ih2 h
          exact go2 p1.2 h
        · exact ih h
  exact go r.obs
def dTold (f : DE) : DE := fun ρ w => match f ρ w with
  | .ok x w => .ok x w
  | .ex x w => toldX x w
  | .bad => .bad
def TTl (P : Pm) : (XK → Hp → VK → Prop) → Hp → VK → Prop := fun tl H Q => tl (fun cls d H' => ∃ x w G ws, Sm G H' ∧ RelW P.K P.C G H' ws w ∧ XRel P.K P.cm G H' (io ws) x cls d ∧ PostE P (fun _ _ _ => False) H' G ws Q (toldX x w)) H Q
theorem ev_told {P : Pm} {H0 : En} {Wi : WX} {f : DE} : EvE P H0 Wi (tLam P.C.T (TTl P) fun E => cE P H0 (fun cls d _ H' => E cls d H') f) (dTold f) := by
  intro σ H G ws ρ w Q st h
  refine ⟨st.rw.tb, fun H1 eN t1 => ?_⟩
  obtain ⟨G1, n1⟩ := Nx.tab st.sub st.rw eN t1
  refine ⟨G1, ws, ρ, w, st.next n1, ?_⟩
  unfold dTold at h
  cases e : f ρ w with
  | bad => rw [e] at h; exact h
  | ok x w' => rw [e] at h; exact PostE.after n1 h
  | ex x w' =>
    rw [e] at h
    have h : PostE P (fun c d H' => Wi c d σ H') H G ws Q (toldX x w') := h
    intro cls d H' G' ws' n2 hx
    refine ⟨x, w', G', ws', n2.sub, n2.rw, hx, ?_⟩
    exact (PostE.after (n1.trans n2) h).noex fun y w2 h => nomatch h
/-- the def's text -/
abbrev toldB (p1 p2 p3 p4 p5 p6 p7 p8 p9 p10 p11 p12 : Pos) (j1 j2 : Nat) : List Stmt :=
  [.Try [.Return (some (.Call (.Name "deed" p1) [] [] p2)) p3] [.ExceptHandler (some (.Name "AirError" p4)) (some "e") [.Return (some (.Tuple [.Constant (.str "refused") j1 p5, .Call (.Name "_law_class" p6) [.Name "e" p7] [] p8] j2 p9)) p10] p11] [] [] p12]
/-- told, as it stands behind the top -/
def TldT (K : PySem.W.Frag) (mg : Str → Option Value) : Prop := ∃ (g : Addr) (oc : Value) (od : Option Addr) (pg : Arguments) (sg : Scope) (kV doc pm cdv ct : Value) (an : Option Addr) (osl : Array (Option Value)) (p1 p2 p3 p4 p5 p6 p7 p8 p9 p10 p11 p12 : Pos) (j1 j2 : Nat), mg "_law_told" = some (.ref g) ∧ PySem.W.keepIn K (.ref g) = true ∧
    K.lookup g = some ⟨oc, od, .func (PySem.W.fnOf "_law_told" "_law_told" pg (toldB p1 p2 p3 p4 p5 p6 p7 p8 p9 p10 p11 p12 j1 j2) sg .none kV doc pm an cdv ct), osl⟩ ∧ PySem.W.codeIn K cdv "_law_told" = true ∧
    Binds K (PySem.W.fnOf "_law_told" "_law_told" pg (toldB p1 p2 p3 p4 p5 p6 p7 p8 p9 p10 p11 p12 j1 j2) sg .none kV doc pm an cdv ct) ["deed"] [] ∧ FnScope ["deed", "e"] ["deed"] sg ∧ sg.names.lookup ("deed" : Str) = some .local ∧ sg.names.lookup ("e" : Str) = some .local ∧ sg.names.lookup ("AirError" : Str) = some .globalImplicit ∧ sg.names.lookup ("_law_class" : Str) = some .globalImplicit
structure Tld (P : Program) (w : World) (K : PySem.W.Frag) (mg : Str → Option Value) (base : Heap) (C : Ca) (cm : Cm) : Prop where
  er : ErsX K mg cm
  cl : ∃ f fd F, mg "_law_class" = some (.ref f) ∧ PySem.W.keepIn K (.ref f) = true ∧ Binds K fd ["e"] [] ∧ HotOk P w K mg base 1 f fd ["e"] (spX ⟨K, C, cm⟩ F) ∧ ∀ a c w, (cm c).isSome → F a c [.exc a] w = .ok (fz (.str c)) w
  tl : TldT K mg
theorem told_gives {X : Cx} {C : Ca} {cm : Cm} {A fc : Addr} {fdc : FuncData} {F : Addr → String → DF} {g : Addr} {cdg : Value} {sg : Scope} {q : Str} {k : Nat} {p1 p2 p3 p4 p5 p6 p7 p8 p9 p10 p11 p12 : Pos} {j1 j2 : Nat} (E : Ers X.K X.mg cm A)
    (mc : X.mg "_law_class" = some (.ref fc)) (kc : PySem.W.keepIn X.K (.ref fc) = true) (bc : Binds X.K fdc ["e"] []) (hc : HotOk X.prog X.w X.K X.mg X.base 1 fc fdc ["e"] (spX ⟨X.K, C, cm⟩ F)) (hF : ∀ a c w, (cm c).isSome → F a c [.exc a] w = .ok (fz (.str c)) w)
    (S : FnScope ["deed", "e"] ["deed"] sg) (s1 : sg.names.lookup ("deed" : Str) = some .local) (s2 : sg.names.lookup ("e" : Str) = some .local) (s3 : sg.names.lookup ("AirError" : Str) = some .globalImplicit) (s4 : sg.names.lookup ("_law_class" : Str) = some .globalImplicit) (hr : Room (k + 2) X.A) :
    GivesTo X ["deed", "e"] "_law_told" sg g cdg (toldB p1 p2 p3 p4 p5 p6 p7 p8 p9 p10 p11 p12 j1 j2) "deed" q (TTl ⟨X.K, C, cm⟩) := by
  intro f c' s H Q tl act hco h
  refine ⟨_, pss_one (ps_try_as (X := (cxOf C8.CX0 X.prog X.w X.K X.mg X.base ["deed", "e"] "_law_told" sg g cdg X.A X.stack s H C8.E0).nox) (c := .ref A) (i := 1)
      (tb := fun W D σ H => ∃ Ech : XK, (∀ cls d σ' H', Ech cls d H' → W cls d σ' H') ∧ σ[0]? = some (some (.ref f)) ∧ H c' = some (CodeO c' q) ∧ tl Ech H D.rt)
      (ts := fun a cls d D σ H => tRet (tTup (tCons (tC (.str "refused")) (tCons (tHot 1 a cls d (spX ⟨X.K, C, cm⟩ F)) tNil))) D σ H)
      rfl rfl S.nd rfl s2 ⟨s3, by decide, .inl E.air⟩ L2.takes0 (fun W pn xe tk _ => ?_) (fun a oe cls d pn hz hf => ?_)), ?_⟩
  · refine ⟨fun pins s' σ H' D I h' => ?_⟩
    obtain ⟨Ech, hW, h1, h2, h3⟩ := h'
    have hp := act W pn xe Ech p1 p2 tk hW
    exact (pss_one (ps_ret (pos := p3) hp)).run pins s' σ H' D I ⟨h1, h2, h3⟩
  · refine pss_one (ps_ret (pe_tup (pa_cons pe_str (pa_cons ?_ pa_nil))))
    have hr1 : Room (k + 1) (X.A.deeper (envOfC "_law_told" sg s.heap.objs.size g cdg)) := hr.deeper _
    have r0 := (roomH_of hr1).mono (show 1 ≤ k + 1 by omega)
    have rh : RoomH 1 (((cxOf C8.CX0 X.prog X.w X.K X.mg X.base ["deed", "e"] "_law_told" sg g cdg X.A X.stack s H C8.E0).nox).suite a ((a, oe) :: pn)).A := ⟨r0.dp, r0.un⟩
    exact pe_hot (X := ((cxOf C8.CX0 X.prog X.w X.K X.mg X.base ["deed", "e"] "_law_told" sg g cdg X.A X.stack s H C8.E0).nox).suite a ((a, oe) :: pn)) (p := (a, oe)) (n := "e") hc rh ⟨List.mem_cons_self, hz, hf⟩ mc kc bc (i := 1) rfl (Or.inl s2) s4
  · refine ⟨_, ?_, rfl, hco, h⟩
    rintro cls d σ' H' ⟨x, w, G, ws, sG, rw, ⟨c, hc1, rfl, hd⟩, hp⟩
    have eC := E.cl _ _ hc1
    refine ⟨true, E.catch eC, fun _ a na => ?_, fun z => nomatch z⟩
    unfold toldX at hp
    have hdi : XdIn d H' ws := fun dd e => by
      rcases hd with ⟨_, h2⟩ | ⟨_, d2, vfs, h2, h3, _⟩
      · rw [h2] at e; cases e
      · rw [h2] at e; cases e; exact ⟨⟨_, h3⟩, reg_not_xd rw h3⟩
    refine ⟨?_, x.c, c, G, ws, w, hc1, rfl, hdi, rfl, sG, rw, ?_⟩
    · intro hl
      rw [List.getElem?_set_self (by simpa using hl)]
    · show PostE _ _ _ _ _ _ (F a x.c [.exc a] w)
      rw [hF a x.c w (by rw [show cm x.c = some c from hc1]; rfl)]
      intro v H2 G2 ws2 n2 r2 k2
      have ev := rv_str r2
      subst ev
      refine ⟨by show 2 ≤ sizeLine; decide, fun p hp2 => ?_⟩
      exact tup_q (vs := [.str "refused", .str x.c]) n2.sub n2.rw (PostE.after n2 hp) hp2 (.cons (.str _) (.cons (.str _) .nil))
/-- a def that makes lambdas: its code object, its table -/
structure Mkr (X : Cx) (κ : Kx) : Prop where
  ex : ∃ cc P, TabB X.base X.mg cc P ∧ X.env.code = .ref cc ∧ (P, X.env.qual ++ "<lambda>") ∈ κ.C.T ∧ ∀ p ∈ κ.C.T, p.1 = P → p.2 = X.env.qual ++ "<lambda>"
theorem e_told {X : Cx} {κ : Kx} {k : Nat} {body : Expr} {scope : Scope} {params : Arguments} {fd : DE} {p lpos pos : Pos} (T : Tld X.prog X.w X.K X.mg X.base κ.C κ.cm) (m : Mkr X κ) (c : Fe X κ (k + 2)) (L : lamSB X.env.scope scope = true)
    (hb : ∀ (A : Around) (outer : List PySem.Env) (s : Shared) (H : Hp) (E : XK) (f c' : Addr), Fe (lamCx X A outer s H E scope f c') ⟨κ.C, κ.cm, κ.e, fun cls d _ H' => E cls d H'⟩ k → L2.Takes (lamCx X A outer s H E scope f c') (fun cls d _ H' => E cls d H') → XE (lamCx X A outer s H E scope f c') ⟨κ.C, κ.cm, κ.e, fun cls d _ H' => E cls d H'⟩ body fd)
    (hdef : defaultsOf params X.env = ([], []) := by rfl) (hbind : ∀ (q : Str) (cl : List (Str × Addr)) (pm cv ctv : Value), bindArgs (PySem.W.kla_fn "<lambda>" q params body scope cl pm cv ctv) ⟨[], []⟩ = pure [] := by intros; rfl) (hg : Gl X "_law_told" := by rfl) :
    XE X κ (.Call (.Name "_law_told" p) [.Lambda params body scope lpos] [] pos) (dTold fd) := by
  obtain ⟨A, E⟩ := T.er
  obtain ⟨fc, fdc, F, mc, kc, bc, hc, hF⟩ := T.cl
  obtain ⟨g, oc, od, pg, sg, kV, doc, pmv, cdv, ct, an, osl, p1, p2, p3, p4, p5, p6, p7, p8, p9, p10, p11, p12, j1, j2, mt, kt, lt, ht, bt, S, s1, s2, s3, s4⟩ := T.tl
  obtain ⟨cc, Pt, TB, hcode, hm, hu⟩ := m.ex
  refine ⟨_, pe_lamcall (T := κ.C.T) (TT := TTl (pm X κ)) (k := k) (t := fun E => cE (pm X κ) κ.e (fun cls d _ H' => E cls d H') fd) hg mt kt lt ht bt S rfl (Or.inl s1) (told_gives E mc kc bc hc hF S s1 s2 s3 s4 c.room) TB hcode hm hu c.room (lamS_by L) hdef hbind ?_, ev_told⟩
  intro A outer s H E f c' hr
  exact (hb A outer s H E f c' ⟨rfl, c.nd, hr, tkN (takes_of rfl rfl rfl rfl)⟩ (takes_of rfl rfl rfl rfl)).can
end DL
namespace DL
open PySem PySem.Spec PyProof.Rows L2 L2H LamX
/-! ### divmod -/
noncomputable def gDivmod : List Val → W → R Val := fun xs w => match xs with
  | [x, y] => (match x.d, y.d with
    | .int i, .int j => open Classical in if CDiv i j then .ok (fz (.tup [.int (i / j), .int (i % j)])) w else .bad
    | _, _ => .bad)
  | _ => .bad
theorem gDivmod_nx (x : List Val) (w : W) (e : Xc) (w' : W) : gDivmod x w ≠ .ex e w' := by
  unfold gDivmod
  repeat' split
  all_goals exact fun h => nomatch h
theorem rc_divmod {P : Pm} : RCall P (fun xs H Q => ∃ i j, xs = [.int i, .int j] ∧ CDiv i j ∧ ∀ p, H p = none → Q (.ref p) (upd H p (.tup [.int (i / j), .int (i % j)]))) gDivmod := by
  intro H G ws w vs xs Q s r hx h
  unfold gDivmod at h
  split at h
  · rename_i x y
    obtain ⟨v, u, rfl, rx, ry⟩ := rvs2 hx
    obtain ⟨m, d⟩ := x
    obtain ⟨m2, d2⟩ := y
    dsimp only at h
    cases d <;> try exact h.elim
    cases d2 <;> try exact h.elim
    rename_i i j
    dsimp only at h
    split at h
    · rename_i hc
      have e1 := rv_int rx
      have e2 := rv_int ry
      subst e1 e2
      exact ⟨i, j, rfl, hc, fun p hp => tup_q s r h hp (.cons (.int _) (.cons (.int _) .nil))⟩
    · exact h.elim
  · exact h.elim
theorem e_divmod {X : Cx} {κ : Kx} {a b : Expr} {fr : DA} {pos p : Pos} (hm : X.mg "divmod" = none) (ha : XA X κ [a, b] fr) (hg : Gl X "divmod" := by rfl) (he : starEach [a, b] X.env = (false, eval a X.env) :: starEach [b] X.env := by rfl) (hpl : (backTo pos (starEach [b] X.env)).any (·.1) = false := by rfl) :
    XE X κ (.Call (.Name "divmod" p) [a, b] [] pos) (dCB gDivmod fr) := e_cb call_divmod rc_divmod gDivmod_nx hm (by decide +kernel) ha hg (by decide) (by decide) he hpl
/-! ### defs that make lambdas; cc: the code object -/
structure FunL (K : PySem.W.Frag) (x qual : Str) (st : Stmt) (f : Addr) (fd : FuncData) (cc : Addr) : Prop where
  ex : ∃ (oc : Value) (od : Option Addr) (kV doc pm : Value) (an : Option Addr) (ct : Value) (osl : Array (Option Value)), fd = PySem.W.fnOf x qual (defArgs st) (defBody st) (defScope st) .none kV doc pm an (.ref cc) ct ∧ K.lookup f = some ⟨oc, od, .func fd, osl⟩ ∧ PySem.W.codeIn K (.ref cc) qual = true
  kp : PySem.W.keepIn K (.ref f) = true
def FnxL (K : PySem.W.Frag) (mg : Str → Option Value) (x : Str) (st : Stmt) (ps : List Str) (cc : Addr) : Prop := ∃ f fd, FunL K x x st f fd cc ∧ mg x = some (.ref f) ∧ Binds K fd ps []
theorem def_okL {PP : Program} {w : World} {K : PySem.W.Frag} {mg : Str → Option Value} {base : Heap} {x qual : Str} {st : Stmt} {f cc : Addr} {fd : FuncData} {N ps : List Str} {k : Nat} {C : Ca} {cm : Cm} {g : DS} (F : FunL K x qual st f fd cc) (S : FnScope N ps (defScope st))
    (hb : ∀ (A : Around) (outer : List PySem.Env) (s : Shared) (H : Hp) (E : XK) (e : En), Room k (A.deeper (envOfC qual (defScope st) s.heap.objs.size f (.ref cc))) →
      ∃ t, PSs (cxOf (L2.CX PP w) PP w K mg base N qual (defScope st) f (.ref cc) A outer s H E) (defBody st) t ∧ EvS ⟨K, C, cm⟩ e (fun cls d _ H' => E cls d H') t g) :
    FnOk PP w K mg base (L2.CX PP w) (k + 1) f fd ps (spD ⟨K, C, cm⟩ (fnD ps.length N.length g)) := by
  obtain ⟨oc, od, kV, doc, pm, an, ct, osl, rfl, lk, hcd⟩ := F.ex
  refine fn_of lk hcd S (fun vs H Q E h => spD_len h) fun A outer s H vs Q E hr h => ?_
  have hl := spD_len h
  obtain ⟨G, ws, wd, ds, sm, rw, rs, p⟩ := h
  obtain ⟨t, h1, h2⟩ := hb A outer s H E ⟨H, G, ws⟩ hr
  refine ⟨t, h1, ?_⟩
  unfold L2.start
  rw [hl]
  refine h2 _ H G ws (ds.map (fun d => some (fz d)) ++ List.replicate (N.length - ps.length) none) wd _ (st_start sm rw rs) ?_
  unfold fnD at p
  rw [if_pos (by rw [← rs.length]; exact hl)] at p
  cases eg : g (ds.map (fun d => some (fz d)) ++ List.replicate (N.length - ps.length) none) wd with
  | bad => rw [eg] at p; exact p
  | brk ρ w' => rw [eg] at p; exact p.elim
  | cont ρ w' => rw [eg] at p; exact p.elim
  | next ρ w' =>
    rw [eg] at p
    exact fun σ' H' G' ws' st' _ => p .non H' G' ws' st'.nx0 .non fz_nw
  | ret y w' =>
    rw [eg] at p
    exact fun v H' G' ws' n r k _ => p v H' G' ws' n r k
  | ex y ρ w' =>
    rw [eg] at p
    exact fun cls d σ' H' G' ws' st' hx => p cls d H' G' ws' st'.nx0 hx
/-- the qualified name of a def's lambdas -/
abbrev lamQ (x : Str) : Str := (envOfC x ⟨.function, [], false, false, []⟩ 0 0 .none).qual ++ "<lambda>"
structure Mkt (base : Heap) (mg : Str → Option Value) (C : Ca) (x : Str) (cc : Addr) : Prop where
  ex : ∃ P, TabB base mg cc P ∧ (P, lamQ x) ∈ C.T ∧ ∀ p ∈ C.T, p.1 = P → p.2 = lamQ x
theorem fn_mkL {P : Program} {w : World} {K : PySem.W.Frag} {mg : Str → Option Value} {base : Heap} {C : Ca} {cm : Cm} {x : Str} {st : Stmt} {f cc : Addr} {fd : FuncData} {N ps : List Str} {k : Nat} {g : DS} (F : FunL K x x st f fd cc) (S : FnScope N ps (defScope st)) (M : Mkt base mg C x cc)
    (hb : ∀ (f : Addr) (A : Around) (outer : List PySem.Env) (s : Shared) (H : Hp) (E : XK) (e : En), Fc (cxOf (L2.CX P w) P w K mg base N x (defScope st) f (.ref cc) A outer s H E) ⟨C, cm, e, fun cls d _ H' => E cls d H'⟩ k →
      Mkr (cxOf (L2.CX P w) P w K mg base N x (defScope st) f (.ref cc) A outer s H E) ⟨C, cm, e, fun cls d _ H' => E cls d H'⟩ → L2.Takes (cxOf (L2.CX P w) P w K mg base N x (defScope st) f (.ref cc) A outer s H E) (fun cls d _ H' => E cls d H') →
      XB (cxOf (L2.CX P w) P w K mg base N x (defScope st) f (.ref cc) A outer s H E) ⟨C, cm, e, fun cls d _ H' => E cls d H'⟩ (defBody st) g) : FnOk P w K mg base (L2.CX P w) (k + 1) f fd ps (spD ⟨K, C, cm⟩ (fnD ps.length N.length g)) := by
  obtain ⟨Pt, h1, h2, h3⟩ := M.ex
  exact def_okL F S fun A outer s H E e hr => hb f A outer s H E e ⟨rfl, S.nd, hr, tkN (takes_of rfl rfl rfl rfl), passes_of rfl⟩ ⟨cc, Pt, h1, rfl, h2, h3⟩ (takes_of rfl rfl rfl rfl)
end DL
/-! Objects of an own class: their fields, seen and stored. -/
namespace DL
open PySem PySem.Spec PyProof.Rows L2
def getF (w : W) (k : Nat) (f : Str) : Option D := (w.o[k]?).bind fun o => o.lookup f
def putD (f : Str) (d : D) : List (Str × D) → List (Str × D)
  | [] => [(f, d)]
  | (g, x) :: r => if g = f then (g, d) :: r else (g, x) :: putD f d r
def setF (w : W) (k : Nat) (f : Str) (d : D) : W := ⟨w.n + 1, w.o.set k (putD f d (w.o.getD k [])), w.lk⟩
def fval (d : D) : Val := match d with
  | .int i => fz (.int i)
  | d => ⟨.wd, d⟩
theorem paired_ix {α β : Type} {F : α → β → Prop} : ∀ {l : List α} {m : List β}, Paired F l m → l.length = m.length ∧ ∀ (i : Nat) x y, l[i]? = some x → m[i]? = some y → F x y
  | _, _, .nil => ⟨rfl, fun i x y h => by simp at h⟩
  | _, _, .cons a b => by
    obtain ⟨h1, h2⟩ := paired_ix b
    refine ⟨by rw [List.length_cons, List.length_cons, h1], fun i x y hx hy => ?_⟩
    cases i with
    | zero => simp at hx hy; subst hx hy; exact a
    | succ i => exact h2 i x y (by simpa using hx) (by simpa using hy)
theorem paired_of {α β : Type} {F : α → β → Prop} : ∀ {l : List α} {m : List β}, l.length = m.length → (∀ (i : Nat) x y, l[i]? = some x → m[i]? = some y → F x y) → Paired F l m
  | [], [], _, _ => .nil
  | [], _ :: _, h, _ => by simp at h
  | _ :: _, [], h, _ => by simp at h
  | a :: l, b :: m, h, f => .cons (f 0 a b rfl rfl) (paired_of (by simpa using h) fun i x y hx hy => f (i + 1) x y (by simpa using hx) (by simpa using hy))
theorem paired_at {α β : Type} {F : α → β → Prop} {l : List α} {m : List β} (h : Paired F l m) {i : Nat} {y : β} (e : m[i]? = some y) : ∃ x, l[i]? = some x ∧ F x y := by
  obtain ⟨h1, h2⟩ := paired_ix h
  have hi : i < l.length := by rw [h1]; exact (List.getElem?_eq_some_iff.mp e).1
  exact ⟨l[i], List.getElem?_eq_getElem hi, h2 i _ _ (List.getElem?_eq_getElem hi) e⟩
theorem refs_apart : ∀ {fs : List (Str × V)}, (refs fs).Nodup → ∀ {x y : Nat} {g g' : Str} {a : Addr}, fs[x]? = some (g, .ref a) → fs[y]? = some (g', .ref a) → x = y
  | [], _, x, _, _, _, _, h, _ => by simp at h
  | (n, v) :: r, nd, x, y, g, g', a, hx, hy => by
    have sub : (refs r).Nodup := by
      cases v <;> first | exact nd | exact (List.nodup_cons.mp nd).2
    cases x with
    | zero =>
      cases y with
      | zero => rfl
      | succ y =>
        simp at hx hy
        obtain ⟨rfl, rfl⟩ := hx
        exact absurd (refs_mem (List.mem_of_getElem? hy) rfl) (List.nodup_cons.mp nd).1
    | succ x =>
      cases y with
      | zero =>
        simp at hx hy
        obtain ⟨rfl, rfl⟩ := hy
        exact absurd (refs_mem (List.mem_of_getElem? hx) rfl) (List.nodup_cons.mp nd).1
      | succ y => rw [refs_apart sub (x := x) (y := y) (by simpa using hx) (by simpa using hy)]
theorem regs_apart : ∀ {l : Ws0}, (regs0 l).Nodup → ∀ {i k x y : Nat} {p p' : Addr} {fs fs' : List (Str × V)} {g g' : Str} {a : Addr}, l[i]? = some (p, fs) → l[k]? = some (p', fs') → fs[x]? = some (g, .ref a) → fs'[y]? = some (g', .ref a) → i = k ∧ x = y
  | [], _, i, _, _, _, _, _, _, _, _, _, _, h, _, _, _ => by simp at h
  | (q, zs) :: r, nd, i, k, x, y, p, p', fs, fs', g, g', a, hi, hk, hx, hy => by
    have nd2 := (List.nodup_cons.mp nd).2
    obtain ⟨n1, n2, n3⟩ := List.nodup_append.mp nd2
    cases i with
    | zero =>
      simp at hi
      obtain ⟨rfl, rfl⟩ := hi
      cases k with
      | zero =>
        simp at hk
        obtain ⟨rfl, rfl⟩ := hk
        exact ⟨rfl, refs_apart n1 hx hy⟩
      | succ k =>
        have m1 := refs_mem (List.mem_of_getElem? hx) rfl
        have m2 := (regs_mem (List.mem_of_getElem? (show r[k]? = some (p', fs') by simpa using hk))).2 a (refs_mem (List.mem_of_getElem? hy) rfl)
        exact absurd rfl (n3 a m1 a m2)
    | succ i =>
      cases k with
      | zero =>
        simp at hk
        obtain ⟨rfl, rfl⟩ := hk
        have m1 := refs_mem (List.mem_of_getElem? hy) rfl
        have m2 := (regs_mem (List.mem_of_getElem? (show r[i]? = some (p, fs) by simpa using hi))).2 a (refs_mem (List.mem_of_getElem? hx) rfl)
        exact absurd rfl (n3 a m1 a m2)
      | succ k =>
        obtain ⟨e1, e2⟩ := regs_apart n2 (i := i) (k := k) (by simpa using hi) (by simpa using hk) hx hy
        exact ⟨by rw [e1], e2⟩
theorem regs_objs : ∀ {l : Ws0}, (regs0 l).Nodup → ∀ {i k : Nat} {p : Addr} {fs fs' : List (Str × V)}, l[i]? = some (p, fs) → l[k]? = some (p, fs') → i = k
  | [], _, i, _, _, _, _, h, _ => by simp at h
  | (q, zs) :: r, nd, i, k, p, fs, fs', hi, hk => by
    have nd1 := List.nodup_cons.mp nd
    obtain ⟨n1, n2, n3⟩ := List.nodup_append.mp nd1.2
    cases i with
    | zero =>
      simp at hi
      obtain ⟨rfl, rfl⟩ := hi
      cases k with
      | zero => rfl
      | succ k => exact absurd (List.mem_append_right _ (regs_mem (List.mem_of_getElem? (show r[k]? = some (q, fs') by simpa using hk))).1) nd1.1
    | succ i =>
      cases k with
      | zero =>
        simp at hk
        obtain ⟨rfl, rfl⟩ := hk
        exact absurd (List.mem_append_right _ (regs_mem (List.mem_of_getElem? (show r[i]? = some (q, fs) by simpa using hi))).1) nd1.1
      | succ k => rw [regs_objs n2 (i := i) (k := k) (by simpa using hi) (by simpa using hk)]
theorem lookup_at {F : V → D → Prop} : ∀ {fs : List (Str × V)} {o : List (Str × D)} {f : Str} {d : D}, Paired (fun x y => x.1 = y.1 ∧ F x.2 y.2) fs o → o.lookup f = some d → ∃ x v, o[x]? = some (f, d) ∧ fs[x]? = some (f, v) ∧ fs.lookup f = some v ∧ F v d ∧ (∀ d', putD f d' o = o.set x (f, d')) ∧ ∀ v', putF f v' fs = fs.set x (f, v')
  | _, _, f, d, .nil, h => by cases h
  | _, _, f, d, .cons (a := (n, v)) (b := (g, e)) a b, h => by
    obtain ⟨a1, a2⟩ := a
    dsimp only at a1 a2
    subst a1
    rw [List.lookup_cons] at h
    by_cases hg : n = f
    · subst hg
      rw [beq_self_eq_true] at h
      cases h
      exact ⟨0, v, rfl, rfl, by rw [List.lookup_cons, beq_self_eq_true], a2, fun d' => by unfold putD; rw [if_pos rfl]; rfl, fun v' => by unfold putF; rw [if_pos rfl]; rfl⟩
    · have hb : (f == n) = false := by simpa using fun z => hg z.symm
      rw [hb] at h
      obtain ⟨x, v', h1, h2, h3, h4, h5, h6⟩ := lookup_at b h
      exact ⟨x + 1, v', by simpa using h1, by simpa using h2, by rw [List.lookup_cons, hb]; exact h3, h4, fun d' => by unfold putD; rw [if_neg hg, h5]; rfl, fun v' => by unfold putF; rw [if_neg hg, h6]; rfl⟩
section
variable {K : PySem.W.Frag} {C : Ca} {G H : Hp} {ws : Ws} {w : W} {k : Nat} {p : Addr} {f : Str} {d d' : D}
/-- a field of an object, as it stands -/
structure FAt (K : PySem.W.Frag) (C : Ca) (G H : Hp) (ws : Ws) (w : W) (k : Nat) (p : Addr) (f : Str) (d : D) (dx : Addr) (fs : List (Str × V)) (v : V) (o : List (Str × D)) (x : Nat) : Prop where
  at_ : ws.l[k]? = some (p, fs)
  ins : H p = some (.ins C.a dx fs)
  ok : w.o[k]? = some o
  ox : o[x]? = some (f, d)
  fx : fs[x]? = some (f, v)
  lk : fs.lookup f = some v
  fl : Fld K G H (io ws) v d
  put : ∀ d', putD f d' o = o.set x (f, d')
  putf : ∀ v', putF f v' fs = fs.set x (f, v')
theorem RelW.fld (r : RelW K C G H ws w) (hk : (io ws)[k]? = some p) (hg : getF w k f = some d) : ∃ dx fs v o x, FAt K C G H ws w k p f d dx fs v o x := by
  unfold getF at hg
  cases eo : w.o[k]? with
  | none => rw [eo] at hg; cases hg
  | some o =>
    rw [eo] at hg
    have hg : o.lookup f = some d := hg
    obtain ⟨⟨q, fs⟩, h1, ⟨⟨dx, h2⟩, h3⟩⟩ := paired_at r.obs eo
    have : q = p := by
      have : (io ws)[k]? = some q := by simp [io, h1]
      rw [hk] at this
      exact (Option.some.inj this).symm
    subst this
    obtain ⟨x, v, a1, a2, a3, a4, a5, a6⟩ := lookup_at h3 hg
    exact ⟨dx, fs, v, o, x, h1, h2, eo, a1, a2, a3, a4, a5, a6⟩
theorem setF_o {o : List (Str × D)} (h : w.o[k]? = some o) : (setF w k f d').o = w.o.set k (putD f d' o) := by
  show w.o.set k (putD f d' (w.o.getD k [])) = _
  rw [List.getD_eq_getElem?_getD, h]
  rfl
/-- a container that a field holds is changed in place -/
theorem Nx.fmut {dx a : Addr} {fs : List (Str × V)} {o : List (Str × D)} {x : Nat} {u u' : HO} (s : Sm G H) (r : RelW K C G H ws w) (A : FAt K C G H ws w k p f d dx fs (.ref a) o x) (hu : H a = some u) (cu : Cont u) (cu' : Cont u') (un : Unf K G (upd H a u') (DL.io ws) a d') :
    Nx K C G H ws G (upd H a u') ⟨ws.n + 1, ws.l, ws.lk⟩ (setF w k f d') := by
  have ha : a ∈ regs ws := (regs_mem (List.mem_of_getElem? A.at_)).2 a (refs_mem (List.mem_of_getElem? A.fx) rfl)
  have ga : G a = none := r.out a ha
  have nins : ∀ b C' dx' fs', H b = some (.ins C' dx' fs') → b ≠ a := fun b C' dx' fs' e z => by rw [z, hu] at e; cases e; exact cu
  have hlen : x < o.length := (List.getElem?_eq_some_iff.mp A.ox).1
  have hlen2 : k < w.o.length := (List.getElem?_eq_some_iff.mp A.ok).1
  refine ⟨fun _ _ h => h, fun b o h => (s b o h).upd (ne_of_none h ga), ⟨?_, ?_, r.nd, r.out, tabs_upd r.tb hu (nt_cont cu) (nx_cont cu), r.nt, ?_, r.lkw, lkh_cont r hu (nf_cont cu)⟩, fun b o h _ nr => h.upd (fun z => nr (z ▸ ha)), fun b o h no => ?_, fun _ _ _ _ h => .inl h, List.prefix_refl _, fun _ h => .inl h, Nat.le_succ _, fun h => absurd h (by show ws.n + 1 ≠ ws.n; omega), Stab.refl _⟩
  · rw [setF_o A.ok, A.put]
    obtain ⟨l1, l2⟩ := paired_ix r.obs
    refine paired_of (by rw [List.length_set]; exact l1) fun i q oi hi hoi => ?_
    obtain ⟨pi, fsi⟩ := q
    by_cases hik : k = i
    · subst hik
      rw [List.getElem?_set_self hlen2] at hoi
      cases hoi
      have e1 := A.at_
      rw [hi] at e1
      cases e1
      obtain ⟨⟨dx0, hp0⟩, pr⟩ := l2 k _ _ hi A.ok
      refine ⟨⟨dx0, by rw [upd_ne (nins _ _ _ _ hp0)]; exact hp0⟩, ?_⟩
      obtain ⟨f1, f2⟩ := paired_ix pr
      refine paired_of (by rw [List.length_set]; exact f1) fun j y z hy hz => ?_
      by_cases hj : x = j
      · subst hj
        rw [List.getElem?_set_self hlen] at hz
        cases hz
        have e2 := A.fx
        rw [hy] at e2
        cases e2
        exact ⟨rfl, .inl ⟨a, rfl, un⟩⟩
      · rw [List.getElem?_set_ne hj] at hz
        obtain ⟨g1, g2⟩ := f2 j y z hy hz
        refine ⟨g1, g2.move (fun _ _ h => h) (List.prefix_refl _) fun b ob eb hb => hb.upd fun zz => hj ?_⟩
        obtain ⟨yn, yv⟩ := y
        dsimp only at eb
        subst eb zz
        exact (regs_apart r.nd hi hi A.fx hy).2
    · rw [List.getElem?_set_ne hik] at hoi
      obtain ⟨⟨dx0, hp0⟩, pr⟩ := l2 i _ _ hi hoi
      refine ⟨⟨dx0, by rw [upd_ne (nins _ _ _ _ hp0)]; exact hp0⟩, ?_⟩
      obtain ⟨f1, f2⟩ := paired_ix pr
      refine paired_of f1 fun j y z hy hz => ?_
      obtain ⟨g1, g2⟩ := f2 j y z hy hz
      refine ⟨g1, g2.move (fun _ _ h => h) (List.prefix_refl _) fun b ob eb hb => hb.upd fun zz => hik ?_⟩
      obtain ⟨yn, yv⟩ := y
      dsimp only at eb
      subst eb zz
      exact (regs_apart r.nd A.at_ hi A.fx hy).1
  · show w.n + 1 = ws.n + 1
    rw [r.nn]
  · exact ul_upd r (fun _ _ h => h) (nf_cont cu')
  · by_cases hb : b = a
    · subst hb; rw [upd_same]; exact ⟨u', rfl, nt_cont cu'⟩
    · rw [upd_ne hb]; exact ⟨o, h, no⟩
theorem refs_set_int : ∀ {fs : List (Str × V)} {x : Nat} {g : Str} {i j : Int}, fs[x]? = some (g, .int i) → refs (fs.set x (g, .int j)) = refs fs
  | [], _, _, _, _, h => by simp at h
  | (n, v) :: r, 0, g, i, j, h => by simp at h; obtain ⟨rfl, rfl⟩ := h; rfl
  | (n, v) :: r, x + 1, g, i, j, h => by
    have ih := refs_set_int (fs := r) (x := x) (j := j) (by simpa using h)
    show refs ((n, v) :: r.set x (g, .int j)) = refs ((n, v) :: r)
    cases v <;> first | exact ih | (show _ :: refs _ = _ :: refs _; rw [ih])
theorem regs_set {fs fs' : List (Str × V)} (h : refs fs' = refs fs) : ∀ {l : Ws0} {k : Nat} {p : Addr}, l[k]? = some (p, fs) → regs0 (l.set k (p, fs')) = regs0 l
  | [], _, _, e => by simp at e
  | (q, zs) :: r, 0, p, e => by simp at e; obtain ⟨rfl, rfl⟩ := e; show q :: (refs fs' ++ _) = q :: (refs zs ++ _); rw [h]
  | (q, zs) :: r, k + 1, p, e => by
    have ih := regs_set h (l := r) (k := k) (p := p) (by simpa using e)
    show q :: (refs zs ++ regs0 (r.set k (p, fs'))) = _
    rw [ih]
    rfl
end
end DL
namespace DL
open PySem PySem.Spec PyProof.Rows L2
section
variable {K : PySem.W.Frag} {C : Ca} {G H : Hp} {ws : Ws} {w : W} {k : Nat} {p : Addr} {f : Str} {d d' : D}
theorem rv_obj {v : V} {m : Md} (h : RV K G H ws v ⟨m, .obj k⟩) : ∃ p, v = .ref p ∧ (io ws)[k]? = some p ∧ m = .fz := by
  unfold RV at h
  cases m with
  | fz => cases h with | obj e => exact ⟨_, rfl, e, rfl⟩
  | nw => obtain ⟨a, _, _, _, u⟩ := h; cases u
  | bo => obtain ⟨a, _, _, _, u⟩ := h; cases u
  | wd => obtain ⟨a, _, _, _, u⟩ := h; cases u
theorem FAt.val {dx : Addr} {fs : List (Str × V)} {v : V} {o : List (Str × D)} {x : Nat} (r : RelW K C G H ws w) (A : FAt K C G H ws w k p f d dx fs v o x) : RV K G H ws v (fval d) := by
  rcases A.fl with ⟨a, rfl, u⟩ | ⟨i, rfl, rfl⟩
  · have ha : a ∈ regs ws := (regs_mem (List.mem_of_getElem? A.at_)).2 a (refs_mem (List.mem_of_getElem? A.fx) rfl)
    have : fval d = ⟨.wd, d⟩ := by cases u <;> rfl
    rw [this]
    exact ⟨a, rfl, r.out a ha, ha, u⟩
  · exact .int i
theorem fval_nw {H : Hp} {v : V} : NewOk H v (fval d) := fun z => by cases d <;> cases z
/-- an int that a field holds is stored anew -/
theorem Nx.fint {dx : Addr} {fs : List (Str × V)} {o : List (Str × D)} {x : Nat} {i j : Int} (s : Sm G H) (r : RelW K C G H ws w) (A : FAt K C G H ws w k p f (.int i) dx fs (.int i) o x) :
    Nx K C G H ws G (upd H p (.ins C.a dx (putF f (.int j) fs))) ⟨ws.n + 1, ws.l.set k (p, putF f (.int j) fs), ws.lk⟩ (setF w k f (.int j)) := by
  have hp : p ∈ regs ws := (regs_mem (List.mem_of_getElem? A.at_)).1
  have gp : G p = none := r.out p hp
  have hlen : x < o.length := (List.getElem?_eq_some_iff.mp A.ox).1
  have hlenF : x < fs.length := (List.getElem?_eq_some_iff.mp A.fx).1
  have hlen2 : k < w.o.length := (List.getElem?_eq_some_iff.mp A.ok).1
  have hlen3 : k < ws.l.length := (List.getElem?_eq_some_iff.mp A.at_).1
  have hio : (ws.l.set k (p, putF f (.int j) fs)).map (·.1) = ws.l.map (·.1) := by
    apply List.ext_getElem?
    intro n
    rw [List.getElem?_map, List.getElem?_map]
    by_cases hn : k = n
    · subst hn; rw [List.getElem?_set_self hlen3, A.at_]; rfl
    · rw [List.getElem?_set_ne hn]
  have hrg : regs0 (ws.l.set k (p, putF f (.int j) fs)) = regs0 ws.l := regs_set (by rw [A.putf]; exact refs_set_int A.fx) A.at_
  have fldp : ∀ {v : V} {z : D}, Fld K G H (DL.io ws) v z → Fld K G (upd H p (.ins C.a dx (putF f (.int j) fs))) (DL.io ws) v z := fun {v z} h => by
    refine h.move (fun _ _ h => h) (List.prefix_refl _) fun b ob eb hb => hb.upd fun zz => ?_
    subst zz
    rcases h with ⟨b', e', u⟩ | ⟨_, e', _⟩
    · rw [eb] at e'
      cases e'
      obtain ⟨o1, h1, h2⟩ := u.there
      have := h1.uniq (.inl A.ins) (nf_cont h2) (by intro _ _ z; cases z)
      subst this
      exact h2
    · rw [eb] at e'; cases e'
  refine ⟨fun _ _ h => h, fun b o h => (s b o h).upd (ne_of_none h gp), ⟨?_, ?_, ?_, ?_, tabs_upd r.tb A.ins nt_ins (by intro _ z; cases z), r.nt, ul_upd r (fun _ _ h => h) (by intro _ _ z; cases z), r.lkw, lkh_cont r A.ins (by intro _ _ z; cases z)⟩, fun b o h _ nr => h.upd (fun z => nr (z ▸ hp)), fun b o h no => ?_, fun _ _ _ _ h => .inl h, ?_, fun a h => .inl ?_, Nat.le_succ _, fun h => absurd h (by show ws.n + 1 ≠ ws.n; omega), fun n q fq hq => ?_⟩
  · show Paired _ (ws.l.set k (p, putF f (.int j) fs)) _
    rw [setF_o A.ok, A.put]
    obtain ⟨l1, l2⟩ := paired_ix r.obs
    refine paired_of (by rw [List.length_set, List.length_set]; exact l1) fun n q on hn hon => ?_
    show (∃ dx, _) ∧ Paired (fun (x : Str × V) (y : Str × D) => x.1 = y.1 ∧ Fld K G _ ((ws.l.set k (p, putF f (.int j) fs)).map (·.1)) x.2 y.2) _ _
    rw [hio]
    by_cases hkn : k = n
    · subst hkn
      rw [List.getElem?_set_self hlen3] at hn
      rw [List.getElem?_set_self hlen2] at hon
      cases hn
      cases hon
      refine ⟨⟨dx, upd_same⟩, ?_⟩
      obtain ⟨_, pr⟩ := l2 k _ _ A.at_ A.ok
      obtain ⟨f1, f2⟩ := paired_ix pr
      have hpf := A.putf (.int j)
      refine paired_of (by show (putF f (.int j) fs).length = _; rw [hpf, List.length_set, List.length_set]; exact f1) fun m y z hy hz => ?_
      have hy : (putF f (.int j) fs)[m]? = some y := hy
      rw [hpf] at hy
      by_cases hm : x = m
      · subst hm
        rw [List.getElem?_set_self hlenF] at hy
        rw [List.getElem?_set_self hlen] at hz
        cases hy
        cases hz
        exact ⟨rfl, .inr ⟨j, rfl, rfl⟩⟩
      · rw [List.getElem?_set_ne hm] at hy hz
        obtain ⟨g1, g2⟩ := f2 m y z hy hz
        exact ⟨g1, fldp g2⟩
    · rw [List.getElem?_set_ne hkn] at hn hon
      obtain ⟨⟨dx0, hp0⟩, pr⟩ := l2 n _ _ hn hon
      have np : q.1 ≠ p := fun z => hkn (regs_objs r.nd A.at_ (show ws.l[n]? = some (p, q.2) by rw [← z]; exact hn))
      exact ⟨⟨dx0, by rw [upd_ne np]; exact hp0⟩, paired_imp pr fun y z _ ⟨g1, g2⟩ => ⟨g1, fldp g2⟩⟩
  · show w.n + 1 = ws.n + 1
    rw [r.nn]
  · show (regs0 (ws.l.set k (p, putF f (.int j) fs))).Nodup
    rw [hrg]; exact r.nd
  · intro a ha
    have ha : a ∈ regs0 (ws.l.set k (p, putF f (.int j) fs)) := ha
    rw [hrg] at ha
    exact r.out a ha
  · by_cases hb : b = p
    · subst hb; rw [upd_same]; exact ⟨_, rfl, nt_ins⟩
    · rw [upd_ne hb]; exact ⟨o, h, no⟩
  · show ws.l.map (·.1) <+: (ws.l.set k (p, putF f (.int j) fs)).map (·.1)
    rw [hio]
    exact List.prefix_refl _
  · have h : a ∈ regs0 (ws.l.set k (p, putF f (.int j) fs)) := h
    rw [hrg] at h
    exact h
  · show ∃ fs', (ws.l.set k (p, putF f (.int j) fs))[n]? = some (q, fs') ∧ _
    by_cases hn : k = n
    · subst hn
      rw [A.at_] at hq
      cases hq
      refine ⟨putF f (.int j) fs, List.getElem?_set_self hlen3, ?_, fun y g b hy => ?_⟩
      · rw [A.putf, List.map_set]
        apply List.ext_getElem?
        intro m
        by_cases hm : x = m
        · subst hm
          rw [List.getElem?_set_self (by simpa using hlenF), List.getElem?_map, A.fx]
          rfl
        · rw [List.getElem?_set_ne hm]
      · rw [A.putf]
        by_cases hm : x = y
        · subst hm; rw [A.fx] at hy; cases hy
        · rw [List.getElem?_set_ne hm]; exact hy
    · rw [List.getElem?_set_ne hn]
      exact ⟨fq, hq, rfl, fun _ _ _ h => h⟩
end
section
variable {P : Pm} {H0 : En} {Wi : WX} {to te : TE} {fo fe : DE}
/-! ### o.f -/
def dFld (f : Str) (fo : DE) : DE := fun ρ w => (fo ρ w).bind fun x w => match x.d with
  | .obj k => (match getF w k f with | some d => .ok (fval d) w | none => .bad)
  | _ => .bad
/-- an object's field is found -/
theorem obj_fld {σ : L2.St} {H G : Hp} {ws : Ws} {ρ : Env} {w : W} {Q : VK} {f : Str} {E : Value → Option Addr → Hp → Prop} {H1 G1 : Hp} {ws1 : Ws} {w1 : W} {v : V} {x : Val} (n1 : Nx P.K P.C G H ws G1 H1 ws1 w1) (r1 : RV P.K G1 H1 ws1 v x)
    {α : Type} {Z : R α → Prop} (hz : ¬ Z .bad) {g : Nat → D → R α} (h : Z (match x.d with | .obj k => (match getF w1 k f with | some d => g k d | none => .bad) | _ => .bad)) : ∃ k d p dx fs u o y, x = fz (.obj k) ∧ v = .ref p ∧ (io ws1)[k]? = some p ∧ getF w1 k f = some d ∧ FAt P.K P.C G1 H1 ws1 w1 k p f d dx fs u o y ∧ Z (g k d) := by
  obtain ⟨m, d⟩ := x
  cases d <;> try exact absurd h hz
  rename_i k
  obtain ⟨p, rfl, e1, rfl⟩ := rv_obj r1
  dsimp only at h
  cases eg : getF w1 k f with
  | none => rw [eg] at h; exact absurd h hz
  | some d =>
    rw [eg] at h
    obtain ⟨dx, fs, u, o, y, A⟩ := n1.rw.fld e1 eg
    exact ⟨k, d, p, dx, fs, u, o, y, rfl, rfl, e1, eg, A, h⟩
theorem ev_fld {f : Str} (c : Cls P.K P.C.a) (n : NoAttr P.K P.C.a f) (ho : EvE P H0 Wi to fo) : EvE P H0 Wi (tFld P.K to f) (dFld f fo) := by
  intro σ H G ws ρ w Q st h
  unfold dFld at h
  refine ho σ H G ws ρ w _ st ?_
  cases e : fo ρ w with
  | bad => rw [e] at h; exact h
  | ex x w' => rw [e] at h; exact h
  | ok x w' =>
    intro v H1 G1 ws1 n1 r1 k1
    rw [e] at h
    obtain ⟨k, d, p, dx, fs, u, o, y, rfl, rfl, e1, eg, A, hq⟩ := obj_fld (f := f) (σ := σ) (ρ := ρ) (w := w) (Q := Q) (E := fun c d H' => Wi c d σ H') n1 r1 (Z := PostE P (fun c d H' => Wi c d σ H') H G ws Q) id (g := fun k d => .ok (fval d) w') h
    exact ⟨p, P.C.a, dx, fs, u, rfl, A.ins, c, n, A.lk, hq u H1 G1 ws1 n1 (A.val n1.rw) fval_nw⟩
/-! ### o.f = e, an int -/
def sFst (f : Str) (fo fv : DE) : DS := fun ρ w => (fv ρ w).thn ρ fun y w => (fo ρ w).thn ρ fun x w => match x.d with
  | .obj k => (match getF w k f with | some (.int _) => (match y.d with | .int j => if (w.o.getD k []).length < 1000 then .next ρ (setF w k f (.int j)) else .bad | _ => .bad) | _ => .bad)
  | _ => .bad
theorem ev_fst {f : Str} (c : Cls P.K P.C.a) (n : NoAttr P.K P.C.a f) (ho : EvE P H0 Wi to fo) (hv : EvE P H0 Wi te fe) : EvS P H0 Wi (sFld P.K to te f) (sFst f fo fe) := by
  intro σ H G ws ρ w D st h
  unfold sFst at h
  refine hv σ H G ws ρ w _ st (postE_of st h fun y w1 _ h vy H1 G1 ws1 n1 ry ky => ?_)
  have st1 := st.next n1
  have h : PostS P H0 Wi D G1 ws1 _ := PostS.after n1.mon h
  refine ho σ H1 G1 ws1 ρ w1 _ st1 (postE_of st1 h fun x w2 _ h vx H2 G2 ws2 n2 rx kx => ?_)
  obtain ⟨m, dd⟩ := x
  cases dd with
  | obj k =>
    obtain ⟨p, rfl, e1, rfl⟩ := rv_obj rx
    dsimp only at h
    split at h
    · rename_i i eg
      obtain ⟨dx, fs, u, o, x, A⟩ := n2.rw.fld e1 eg
      obtain ⟨my, dy⟩ := y
      cases dy with
      | int j =>
        dsimp only at h
        split at h
        · rename_i hlt
          have e2 := rv_int ry
          subst e2
          have eu : u = .int i := by
            rcases A.fl with ⟨a, rfl, un⟩ | ⟨i', rfl, e⟩
            · cases un
            · cases e; rfl
          subst eu
          have hfl : fs.length < 1000 := by
            obtain ⟨_, l2⟩ := paired_ix n2.rw.obs
            obtain ⟨_, pr⟩ := l2 k _ _ A.at_ A.ok
            have : fs.length = o.length := (paired_ix pr).1
            rw [List.getD_eq_getElem?_getD, A.ok] at hlt
            rw [this]
            exact hlt
          refine ⟨p, P.C.a, dx, fs, rfl, A.ins, c, n, hfl, ?_⟩
          have n3 := Nx.fint (j := j) n2.sub n2.rw A
          exact h σ _ G2 _ ((st1.next n2).next n3) (n2.mon.trans n3.mon)
        · exact h.elim
      | _ => exact h.elim
    · exact h.elim
  | _ => exact h.elim
/-! ### o.f.append(e) -/
def sFapp (f : Str) (fo fe : DE) : DS := fun ρ w => (fo ρ w).thn ρ fun x w1 => match x.d with
  | .obj k => (match getF w1 k f with
    | some (.lst _) => (fe ρ w1).thn ρ fun y w2 => (match getF w2 k f with
      | some (.lst ds) => if keepM y ∧ w2.n = w1.n ∧ ds.length < sizeLine then .next ρ (setF w2 k f (.lst (ds ++ [y.d]))) else .bad
      | _ => .bad)
    | _ => .bad)
  | _ => .bad
/-- a field that is seen again: the same thing -/
theorem FAt.again {K : PySem.W.Frag} {C : Ca} {G H G' H' : Hp} {ws ws' : Ws} {w w' : W} {k : Nat} {p p' : Addr} {f : Str} {d d' : D} {dx dx' : Addr} {fs fs' : List (Str × V)} {v v' : V} {o o' : List (Str × D)} {x x' : Nat} (A : FAt K C G H ws w k p f d dx fs v o x) (B : FAt K C G' H' ws' w' k p' f d' dx' fs' v' o' x') (e : ws' = ws) : v' = v := by
  subst e
  have h1 := A.at_
  rw [B.at_] at h1
  cases h1
  have h2 := A.lk
  rw [B.lk] at h2
  exact Option.some.inj h2
theorem Fld.lst {K : PySem.W.Frag} {G H : Hp} {ι : List Addr} {v : V} {ds : List D} (h : Fld K G H ι v (.lst ds)) : ∃ a vs, v = .ref a ∧ H a = some (.lst vs) ∧ Reps K G ι vs ds := by
  rcases h with ⟨a, rfl, u⟩ | ⟨i, _, e⟩
  · cases u with | lst h1 h2 => exact ⟨a, _, rfl, h1, h2⟩
  · cases e
theorem ev_fapp {f : Str} (c : Cls P.K P.C.a) (n : NoAttr P.K P.C.a f) (ho : EvE P H0 Wi to fo) (hv : EvE P H0 Wi te fe) : EvS P H0 Wi (tDrop (tBM P.K "list" rAppend (tFld P.K to f) (tCons te tNil))) (sFapp f fo fe) := by
  intro σ H G ws ρ w D st h
  unfold sFapp at h
  refine ho σ H G ws ρ w _ st (postE_of st h fun x w1 _ h vx H1 G1 ws1 n1 rx kx => ?_)
  have st1 := st.next n1
  have h : PostS P H0 Wi D G1 ws1 _ := PostS.after n1.mon h
  obtain ⟨m, dd⟩ := x
  cases dd with
  | obj k =>
    obtain ⟨p, rfl, e1, rfl⟩ := rv_obj rx
    dsimp only at h
    split at h
    · rename_i ds0 eg
      obtain ⟨dx, fs, u, o, x, A⟩ := n1.rw.fld e1 eg
      obtain ⟨a, vs0, rfl, ha0, _⟩ := A.fl.lst
      refine ⟨p, P.C.a, dx, fs, .ref a, rfl, A.ins, c, n, A.lk, .inl ⟨rfl, _, SqL.of ha0⟩, ?_⟩
      refine hv σ H1 G1 ws1 ρ w1 _ st1 (postE_of st1 h fun y w2 _ h vy H2 G2 ws2 n2 ry ky => ?_)
      split at h
      · rename_i ds eg2
        split at h
        · rename_i hc
          obtain ⟨ew, _⟩ := n2.qt (n2.same n1.rw hc.2.1)
          obtain ⟨G3, s3, n3, rp⟩ := st1.frzV n2 ry ky hc.1
          have e2 : (DL.io ws2)[k]? = some p := by rw [ew]; exact e1
          obtain ⟨dx2, fs2, u2, o2, x2, B⟩ := n3.rw.fld e2 eg2
          have eu := A.again B ew
          subst eu
          obtain ⟨a2, vs, ea, ha, rs⟩ := B.fl.lst
          cases ea
          refine ⟨a, vs, vy, rfl, rfl, ha, by rw [rs.length]; exact hc.2.2, ?_⟩
          have n4 := Nx.fmut (d' := .lst (ds ++ [y.d])) (u' := .lst (vs ++ [vy])) n3.sub n3.rw B ha trivial trivial (.lst upd_same (rs.append (.cons rp .nil)))
          exact h σ _ G3 _ ((st1.next n3).next n4) (n3.mon.trans n4.mon)
        · exact h.elim
      · exact h.elim
    · exact h.elim
  | _ => exact h.elim
end
end DL
/-! Dicts. -/
namespace DL
open PySem PySem.Spec PyProof.Rows L2
section
variable {κ : Type} [DecidableEq κ]
def valD (kvs : List (κ × D)) (k : κ) : Option D := (kvs.find? fun kv => decide (kv.1 = k)).map (·.2)
def putKD (kvs : List (κ × D)) (k : κ) (v : D) : List (κ × D) :=
  if (kvs.any fun kv => decide (kv.1 = k)) = true then kvs.map (fun kv => if kv.1 = k then (kv.1, v) else kv) else kvs ++ [(k, v)]
variable {K : PySem.W.Frag} {G : Hp} {ι : List Addr}
theorem val_rel (k : κ) : ∀ {kvs : List (κ × V)} {ds : List (κ × D)}, kvs.map (·.1) = ds.map (·.1) → Reps K G ι (kvs.map (·.2)) (ds.map (·.2)) → (valD ds k = none ∧ valV kvs k = none) ∨ ∃ v d, valD ds k = some d ∧ valV kvs k = some v ∧ Rep K G ι v d
  | [], [], _, _ => .inl ⟨rfl, rfl⟩
  | [], _ :: _, h, _ => by simp at h
  | _ :: _, [], h, _ => by simp at h
  | (a, v) :: kvs, (b, d) :: ds, h, r => by
    simp only [List.map_cons, List.cons.injEq] at h
    obtain ⟨h1, h2⟩ := h
    subst h1
    cases r with
    | cons r1 r2 =>
      by_cases e : a = k
      · exact .inr ⟨v, d, by simp [valD, e], by simp [valV, e], r1⟩
      · rcases val_rel k h2 r2 with ⟨e1, e2⟩ | ⟨v', d', e1, e2, e3⟩
        · exact .inl ⟨by simpa [valD, e] using e1, by simpa [valV, e] using e2⟩
        · exact .inr ⟨v', d', by simpa [valD, e] using e1, by simpa [valV, e] using e2, e3⟩
theorem any_rel (k : κ) : ∀ {kvs : List (κ × V)} {ds : List (κ × D)}, kvs.map (·.1) = ds.map (·.1) → (kvs.any fun kv => decide (kv.1 = k)) = ds.any fun kv => decide (kv.1 = k)
  | [], [], _ => rfl
  | [], _ :: _, h => by simp at h
  | _ :: _, [], h => by simp at h
  | (a, v) :: kvs, (b, d) :: ds, h => by
    simp only [List.map_cons, List.cons.injEq] at h
    rw [List.any_cons, List.any_cons, any_rel k h.2]
    dsimp only at h ⊢
    rw [h.1]
theorem put_rel {k : κ} {v : V} {d : D} {kvs : List (κ × V)} {ds : List (κ × D)} (h : kvs.map (·.1) = ds.map (·.1)) (r : Reps K G ι (kvs.map (·.2)) (ds.map (·.2))) (rv : Rep K G ι v d) :
    (putK kvs k v).map (·.1) = (putKD ds k d).map (·.1) ∧ Reps K G ι ((putK kvs k v).map (·.2)) ((putKD ds k d).map (·.2)) := by
  unfold putK putKD
  rw [any_rel k h]
  split
  · have go : ∀ {kvs : List (κ × V)} {ds : List (κ × D)}, kvs.map (·.1) = ds.map (·.1) → Reps K G ι (kvs.map (·.2)) (ds.map (·.2)) → (kvs.map fun kv => if kv.1 = k then (kv.1, v) else kv).map (·.1) = (ds.map fun kv => if kv.1 = k then (kv.1, d) else kv).map (·.1) ∧ Reps K G ι ((kvs.map fun kv => if kv.1 = k then (kv.1, v) else kv).map (·.2)) ((ds.map fun kv => if kv.1 = k then (kv.1, d) else kv).map (·.2)) := by
      intro kvs
      induction kvs with
      | nil => intro ds h r; cases ds with | nil => exact ⟨rfl, .nil⟩ | cons _ _ => simp at h
      | cons p kvs ih =>
        intro ds h r
        cases ds with
        | nil => simp at h
        | cons q ds =>
          simp only [List.map_cons, List.cons.injEq] at h
          cases r with
          | cons r1 r2 =>
            obtain ⟨i1, i2⟩ := ih h.2 r2
            simp only [List.map_cons]
            by_cases e : p.1 = k
            · have e' : q.1 = k := h.1 ▸ e
              rw [if_pos e, if_pos e']
              exact ⟨by rw [i1, h.1], .cons rv i2⟩
            · have e' : ¬ q.1 = k := h.1 ▸ e
              rw [if_neg e, if_neg e']
              exact ⟨by rw [i1, h.1], .cons r1 i2⟩
    exact go h r
  · rw [List.map_append, List.map_append, List.map_append, List.map_append, h]
    exact ⟨rfl, r.append (.cons rv .nil)⟩
theorem len_rel {kvs : List (κ × V)} {ds : List (κ × D)} (h : kvs.map (·.1) = ds.map (·.1)) : kvs.length = ds.length := by
  have := congrArg List.length h
  simpa using this
end
/-- a key: an int or a text -/
def kD : D → Option Key
  | .int i => some (.inl i)
  | .str x => some (.inr x)
  | _ => none
/-- a key of such -/
def kDs : List D → Option (List Key)
  | [] => some []
  | d :: ds => match kD d, kDs ds with
    | some k, some ks => some (k :: ks)
    | _, _ => none
section
variable {K : PySem.W.Frag} {C : Ca} {G H : Hp} {ws : Ws} {w : W}
theorem rv_key {v : V} {x : Val} {k : Key} (h : RV K G H ws v x) (e : kD x.d = some k) : v = kV k := by
  obtain ⟨m, d⟩ := x
  unfold kD at e
  split at e
  · rename_i i e'; cases e'; cases e; exact rv_int h
  · rename_i i e'; cases e'; cases e; exact rv_str h
  · cases e
theorem rep_key {ι : List Addr} {v : V} {d : D} {k : Key} (h : Rep K G ι v d) (e : kD d = some k) : v = kV k := by
  cases h <;> first | (cases e; rfl) | cases e
theorem reps_keys {ι : List Addr} : ∀ {vs : List V} {ds : List D} {ks : List Key}, Reps K G ι vs ds → kDs ds = some ks → vs = ks.map kV
  | _, _, ks, .nil, e => by cases e; rfl
  | _, _, ks, .cons (d := d) (ds := ds) a b, e => by
    unfold kDs at e
    cases h1 : kD d with
    | none => rw [h1] at e; cases e
    | some k =>
      cases h2 : kDs ds with
      | none => rw [h1, h2] at e; cases e
      | some ks' =>
        rw [h1, h2] at e
        cases e
        rw [rep_key a h1, reps_keys b h2]
        rfl
theorem rv_dK {v : V} {m : Md} {ds : List (Key × D)} (s : Sm G H) (h : RV K G H ws v ⟨m, .dK ds⟩) : ∃ a kvs, v = .ref a ∧ Lk H a (.dK kvs) ∧ kvs.map (·.1) = ds.map (·.1) ∧ Reps K G (io ws) (kvs.map (·.2)) (ds.map (·.2)) := by
  unfold RV at h
  cases m with
  | fz => cases h with | dK q k r => exact ⟨_, _, rfl, s _ _ q, k, r⟩
  | nw => obtain ⟨a, e, _, _, u⟩ := h; cases u with | dK q k r => exact ⟨a, _, e, q, k, r⟩
  | bo => obtain ⟨a, e, _, _, u⟩ := h; cases u with | dK q k r => exact ⟨a, _, e, q, k, r⟩
  | wd => obtain ⟨a, e, _, _, u⟩ := h; cases u with | dK q k r => exact ⟨a, _, e, q, k, r⟩
theorem rv_dT {v : V} {m : Md} {ds : List (List Key × D)} (s : Sm G H) (h : RV K G H ws v ⟨m, .dT ds⟩) : ∃ a kvs, v = .ref a ∧ Lk H a (.dT kvs) ∧ kvs.map (·.1) = ds.map (·.1) ∧ Reps K G (io ws) (kvs.map (·.2)) (ds.map (·.2)) := by
  unfold RV at h
  cases m with
  | fz => cases h with | dT q k r => exact ⟨_, _, rfl, s _ _ q, k, r⟩
  | nw => obtain ⟨a, e, _, _, u⟩ := h; cases u with | dT q k r => exact ⟨a, _, e, q, k, r⟩
  | bo => obtain ⟨a, e, _, _, u⟩ := h; cases u with | dT q k r => exact ⟨a, _, e, q, k, r⟩
  | wd => obtain ⟨a, e, _, _, u⟩ := h; cases u with | dT q k r => exact ⟨a, _, e, q, k, r⟩
/-- what is not frozen is not locked, while no dict is walked -/
theorem Lk.free {a : Addr} {u : HO} (h : Lk H a u) (r : RelW K C G H ws w) (hl : w.lk = false) (g : G a = none) : H a = some u := by
  rcases h with h | ⟨hd, o, h⟩
  · exact h
  · have := r.ul0 hl h hd
    rw [g] at this
    cases this
end
section
variable {P : Pm} {H0 : En} {Wi : WX} {ta tb tc : TE} {fa fb fc : DE} {tr : TA} {fr : DA}
/-! ### d[k], k in d: k an int or a text -/
def gIxD : Val → Val → W → R Val := fun x y w => match x.d, kD y.d with
  | .dK kvs, some k => (match valD kvs k with | some d => .ok (fz d) w | none => .bad)
  | _, _ => .bad
def gInD (neg : Bool) : Val → Val → W → R Val := fun y x w => match x.d, kD y.d with
  | .dK kvs, some k => .ok (fz (.bl (neg != (valD kvs k).isSome))) w
  | _, _ => .bad
theorem gIxD_nx (x y : Val) (w : W) (e : Xc) (w' : W) : gIxD x y w ≠ .ex e w' := by
  unfold gIxD
  repeat' split
  all_goals exact fun h => nomatch h
theorem gInD_nx {neg : Bool} (x y : Val) (w : W) (e : Xc) (w' : W) : gInD neg x y w ≠ .ex e w' := by
  unfold gInD
  repeat' split
  all_goals exact fun h => nomatch h
theorem rop_ixD : ROp P (fun x y H Q => ∃ a v, x = .ref a ∧ DGet H a y (some v) ∧ Q v H) gIxD := by
  intro H G ws w vx vy x y Q s r hx hy h
  obtain ⟨m, d⟩ := x
  unfold gIxD at h
  dsimp only at h
  split at h
  · rename_i kvs k hk
    obtain ⟨a, ks, rfl, hl, k1, k2⟩ := rv_dK s hx
    have ey := rv_key hy hk
    subst ey
    rcases val_rel k k1 k2 with ⟨e1, e2⟩ | ⟨v, d, e1, e2, e3⟩
    · rw [e1] at h; exact h.elim
    · rw [e1] at h
      exact ⟨a, v, rfl, .inl ⟨ks, k, hl.rd, rfl, e2.symm⟩, fz_q s r h e3⟩
  · exact h.elim
theorem rop_inD : ROp P (fun y x H Q => ∃ a o, x = .ref a ∧ DGet H a y o ∧ Q (.bl o.isSome) H) (gInD false) := by
  intro H G ws w vy vx y x Q s r hy hx h
  obtain ⟨m, d⟩ := x
  unfold gInD at h
  dsimp only at h
  split at h
  · rename_i kvs k hk
    obtain ⟨a, ks, rfl, hl, k1, k2⟩ := rv_dK s hx
    have ey := rv_key hy hk
    subst ey
    refine ⟨a, valV ks k, rfl, .inl ⟨ks, k, hl.rd, rfl, rfl⟩, ?_⟩
    have : (valV ks k).isSome = (valD kvs k).isSome := by
      rcases val_rel k k1 k2 with ⟨e1, e2⟩ | ⟨v, d, e1, e2, e3⟩ <;> rw [e1, e2] <;> rfl
    rw [this]
    exact fz_q s r h (by simpa using Rep.bl _)
  · exact h.elim
theorem rop_ninD : ROp P (fun y x H Q => ∃ a o, x = .ref a ∧ DGet H a y o ∧ Q (.bl (!o.isSome)) H) (gInD true) := by
  intro H G ws w vy vx y x Q s r hy hx h
  obtain ⟨m, d⟩ := x
  unfold gInD at h
  dsimp only at h
  split at h
  · rename_i kvs k hk
    obtain ⟨a, ks, rfl, hl, k1, k2⟩ := rv_dK s hx
    have ey := rv_key hy hk
    subst ey
    refine ⟨a, valV ks k, rfl, .inl ⟨ks, k, hl.rd, rfl, rfl⟩, ?_⟩
    have : (valV ks k).isSome = (valD kvs k).isSome := by
      rcases val_rel k k1 k2 with ⟨e1, e2⟩ | ⟨v, d, e1, e2, e3⟩ <;> rw [e1, e2] <;> rfl
    rw [this]
    exact fz_q s r h (by simpa using Rep.bl _)
  · exact h.elim
/-! ### d[a, b], (a, b) in d -/
/-- a key that is written as a tuple -/
def keyT (f : DA) : Env → W → R (List Key) := fun ρ w => (f ρ w).bind fun xs w => match frzD xs with
  | some ds => (match kDs ds with | some ks => if ds.length ≤ sizeLine then .ok ks w else .bad | none => .bad)
  | none => .bad
def PostK (P : Pm) (E : Value → Option Addr → Hp → Prop) (H G : Hp) (ws : Ws) (Q : VK) : R (List Key) → Prop
  | .ok ks w' => ∀ p H' G' ws', Nx P.K P.C G H ws G' H' ws' w' → H' p = some (.tup (ks.map kV)) → Q (.ref p) H'
  | .ex x w' => ∀ cls d H' G' ws', Nx P.K P.C G H ws G' H' ws' w' → XRel P.K P.cm G' H' (io ws') x cls d → E cls d H'
  | .bad => False
def EvK (P : Pm) (H0 : En) (Wi : WX) (te : TE) (f : Env → W → R (List Key)) : Prop := ∀ σ H G ws ρ w (Q : VK), St P.K P.C H0 σ H G ws ρ w → PostK P (fun c d H' => Wi c d σ H') H G ws Q (f ρ w) → te σ H Q
theorem PostK.after {E : Value → Option Addr → Hp → Prop} {H G H1 G1 : Hp} {ws ws1 : Ws} {w1 : W} {Q : VK} {r : R (List Key)} (n : Nx P.K P.C G H ws G1 H1 ws1 w1) (h : PostK P E H G ws Q r) : PostK P E H1 G1 ws1 Q r := by
  cases r with
  | ok x w => exact fun v H' G' ws' n2 r => h v H' G' ws' (n.trans n2) r
  | ex x w => exact fun c d H' G' ws' n2 r => h c d H' G' ws' (n.trans n2) r
  | bad => exact h
theorem ev_keyT (h : EvA P H0 Wi tr fr) : EvK P H0 Wi (tTup tr) (keyT fr) := by
  intro σ H G ws ρ w Q st hq
  unfold keyT at hq
  refine h σ H G ws ρ w _ st ?_
  cases e : fr ρ w with
  | bad => rw [e] at hq; exact hq
  | ex x w' => rw [e] at hq; exact hq
  | ok xs w' =>
    intro vs H1 G1 ws1 n1 r1 k1
    rw [e] at hq
    have hq : PostK P _ H G ws Q (match frzD xs with | some ds => (match kDs ds with | some ks => if ds.length ≤ sizeLine then .ok ks w' else .bad | none => .bad) | none => .bad) := hq
    cases e2 : frzD xs with
    | none => rw [e2] at hq; exact hq.elim
    | some ds =>
      rw [e2] at hq
      dsimp only at hq
      cases e3 : kDs ds with
      | none => rw [e3] at hq; exact hq.elim
      | some ks =>
        rw [e3] at hq
        dsimp only at hq
        split at hq
        · rename_i hl
          obtain ⟨G2, s2, n2, r2⟩ := freezeAll n1 r1 k1 e2
          have ev := reps_keys r2 e3
          subst ev
          refine ⟨by rw [r2.length]; exact hl, fun p hp => ?_⟩
          have n3 := Nx.put (o := .tup (ks.map kV)) n2.sub n2.rw hp
          exact hq p _ _ _ (n2.trans n3) upd_same
        · exact hq.elim
def dIxT (fa : DE) (fk : Env → W → R (List Key)) : DE := fun ρ w => (fa ρ w).bind fun x w1 => (fk ρ w1).bind fun ks w2 => chk x w1 w2 (match x.d with
  | .dT kvs => (match valD kvs ks with | some d => .ok (fz d) w2 | none => .bad)
  | _ => .bad)
def dInT (neg : Bool) (fk : Env → W → R (List Key)) (fa : DE) : DE := fun ρ w => (fk ρ w).bind fun ks w1 => (fa ρ w1).bind fun x w2 => match x.d with
  | .dT kvs => .ok (fz (.bl (neg != (valD kvs ks).isSome))) w2
  | _ => .bad
/-- a tuple stays -/
theorem Nx.tup {K : PySem.W.Frag} {C : Ca} {G H G' H' : Hp} {ws ws' : Ws} {w w' : W} {p : Addr} {vs : List V} (r : RelW K C G H ws w) (n : Nx K C G H ws G' H' ws' w') (h : H p = some (.tup vs)) : H' p = some (.tup vs) := by
  refine (n.keep p _ (.inl h) nt_tup fun hr => ?_).eq
  have go : ∀ {l : Ws0} {m : List (List (Str × D))}, Paired (fun (q : Addr × List (Str × V)) (o : List (Str × D)) => (∃ dx, H q.1 = some (.ins C.a dx q.2)) ∧ Paired (fun (x : Str × V) (y : Str × D) => x.1 = y.1 ∧ Fld K G H (DL.io ws) x.2 y.2) q.2 o) l m → p ∈ regs0 l → False := by
    intro l m pr
    induction pr with
    | nil => intro h; simp [regs0] at h
    | @cons q o l m p1 p2 ih =>
      intro hm
      obtain ⟨q, fs⟩ := q
      obtain ⟨⟨dx, e⟩, pf⟩ := p1
      rcases List.mem_cons.mp hm with rfl | hm
      · rw [h] at e; cases e
      · rcases List.mem_append.mp hm with hm | hm
        · have go2 : ∀ {fs : List (Str × V)} {o : List (Str × D)}, Paired (fun (x : Str × V) (y : Str × D) => x.1 = y.1 ∧ Fld K G H (DL.io ws) x.2 y.2) fs o → p ∈ refs fs → False := by
            intro fs o pr
            induction pr with
            | nil => intro h; simp [refs] at h
            | @cons x y l m q1 q2 ih2 =>
              intro hm
              obtain ⟨n, v⟩ := x
              rcases q1.2 with ⟨b, e, u⟩ | ⟨i, e, _⟩
              · simp only at e
                subst e
                rcases List.mem_cons.mp hm with rfl | hm
                · obtain ⟨o, ho, hc⟩ := u.there
                  have := ho.uniq (.inl h) (nf_cont hc) (by intro _ _ z; cases z)
                  subst this
                  exact hc
                · exact ih2 hm
              · simp only at e
                subst e
                exact ih2 hm
          exact go2 pf hm
        · exact ih hm
  exact go r.obs hr
theorem ev_ixT {tk : TE} {fk : Env → W → R (List Key)} (ha : EvE P H0 Wi ta fa) (hk : EvK P H0 Wi tk fk) : EvE P H0 Wi (tDGet ta tk) (dIxT fa fk) := by
  intro σ H G ws ρ w Q st h
  unfold dIxT at h
  refine ha σ H G ws ρ w _ st ?_
  cases e : fa ρ w with
  | bad => rw [e] at h; exact h
  | ex x w' => rw [e] at h; exact h
  | ok x w1 =>
    intro v H1 G1 ws1 n1 r1 k1
    rw [e] at h
    have h : PostE P (fun c d H' => Wi c d σ H') H G ws Q ((fk ρ w1).bind fun ks w2 => chk x w1 w2 (match x.d with | .dT kvs => (match valD kvs ks with | some d => .ok (fz d) w2 | none => .bad) | _ => .bad)) := h
    refine hk σ H1 G1 ws1 ρ w1 _ (st.next n1) ?_
    cases e2 : fk ρ w1 with
    | bad => rw [e2] at h; exact h
    | ex y w2 => rw [e2] at h; exact PostE.after n1 h
    | ok ks w2 =>
      intro p H2 G2 ws2 n2 hp
      rw [e2] at h
      obtain ⟨hx, h⟩ := PostE.chk h
      have r2 := r1.move n2 fun z => n2.same n1.rw (hx z)
      obtain ⟨m, d⟩ := x
      cases d with
      | dT kvs =>
        obtain ⟨a, vs, rfl, hl, q1, q2⟩ := rv_dT n2.sub r2
        dsimp only at h
        rcases val_rel ks q1 q2 with ⟨a1, a2⟩ | ⟨v, d, a1, a2, a3⟩
        · rw [a1] at h; exact h.elim
        · rw [a1] at h
          exact ⟨a, v, rfl, .inr ⟨vs, ks, p, hl.rd, rfl, hp, a2.symm⟩, h v H2 G2 ws2 (n1.trans n2) a3 fz_nw⟩
      | _ => exact h.elim
theorem ev_inT {tk : TE} {fk : Env → W → R (List Key)} (hk : EvK P H0 Wi tk fk) (ha : EvE P H0 Wi ta fa) : EvE P H0 Wi (tDIn tk ta) (dInT false fk fa) := by
  intro σ H G ws ρ w Q st h
  unfold dInT at h
  refine hk σ H G ws ρ w _ st ?_
  cases e : fk ρ w with
  | bad => rw [e] at h; exact h
  | ex x w' => rw [e] at h; exact h
  | ok ks w1 =>
    intro p H1 G1 ws1 n1 hp
    rw [e] at h
    have h : PostE P (fun c d H' => Wi c d σ H') H G ws Q ((fa ρ w1).bind fun x w2 => match x.d with | .dT kvs => .ok (fz (.bl (false != (valD kvs ks).isSome))) w2 | _ => .bad) := h
    refine ha σ H1 G1 ws1 ρ w1 _ (st.next n1) ?_
    cases e2 : fa ρ w1 with
    | bad => rw [e2] at h; exact h
    | ex y w2 => rw [e2] at h; exact PostE.after n1 h
    | ok x w2 =>
      intro v H2 G2 ws2 n2 r2 k2
      rw [e2] at h
      obtain ⟨m, d⟩ := x
      cases d with
      | dT kvs =>
        obtain ⟨a, vs, rfl, hl, q1, q2⟩ := rv_dT n2.sub r2
        refine ⟨a, valV vs ks, rfl, .inr ⟨vs, ks, p, hl.rd, rfl, n2.tup n1.rw hp, rfl⟩, ?_⟩
        have : (valV vs ks).isSome = (valD kvs ks).isSome := by
          rcases val_rel ks q1 q2 with ⟨e1, e2⟩ | ⟨v, d, e1, e2, e3⟩ <;> rw [e1, e2] <;> rfl
        rw [this]
        exact h _ H2 G2 ws2 (n1.trans n2) (by show Rep _ _ _ _ _; simpa using Rep.bl _) fz_nw
      | _ => exact h.elim
/-! ### d.get(k, x) -/
def dGetT (fa : DE) (fk : Env → W → R (List Key)) (fx : DE) : DE := fun ρ w => (fa ρ w).bind fun x w1 => match x.d with
  | .dT _ => (fk ρ w1).bind fun ks w2 => (fx ρ w2).bind fun z w3 => chk x w1 w3 (match x.d with
    | .dT kvs => .ok (match valD kvs ks with | some d => fz d | none => z) w3
    | _ => .bad)
  | _ => .bad
end
end DL
/-! Stores into dicts. -/
namespace DL
open PySem PySem.Spec PyProof.Rows L2
section
variable {P : Pm} {H0 : En} {Wi : WX} {to tv tk : TE} {fo fv : DE}
/-! ### {} -/
def dDk : DE := fun _ w => .ok ⟨.nw, .dK []⟩ w
def dDt : DE := fun _ w => .ok ⟨.nw, .dT []⟩ w
theorem reg_ne {K : PySem.W.Frag} {C : Ca} {G H : Hp} {ws : Ws} {w : W} {p : Addr} (r : RelW K C G H ws w) (hp : H p = none) : p ∉ regs ws := fun h => by
  obtain ⟨o, e, _⟩ := reg_there r h
  rw [hp] at e
  cases e
/-! ### o.f[k] = e, x[k] = e: k an int or a text -/
def sFputK (f : Str) (fo : DE) (fk : DE) (fv : DE) : DS := fun ρ w => (fv ρ w).thn ρ fun y w1 => if keepM y then ((fo ρ w1).thn ρ fun x w2 => match x.d with
  | .obj k => (match getF w2 k f with
    | some (.dK _) => (fk ρ w2).thn ρ fun key w3 => (match kD key.d, getF w3 k f with
      | some kk, some (.dK kvs) => if w3.n = w2.n ∧ w3.lk = false ∧ kvs.length < sizeLine then .next ρ (setF w3 k f (.dK (putKD kvs kk y.d))) else .bad
      | _, _ => .bad)
    | _ => .bad)
  | _ => .bad) else .bad
theorem Fld.dK {K : PySem.W.Frag} {G H : Hp} {ι : List Addr} {v : V} {ds : List (Key × D)} (h : Fld K G H ι v (.dK ds)) : ∃ a kvs, v = .ref a ∧ Lk H a (.dK kvs) ∧ kvs.map (·.1) = ds.map (·.1) ∧ Reps K G ι (kvs.map (·.2)) (ds.map (·.2)) := by
  rcases h with ⟨a, rfl, u⟩ | ⟨i, _, e⟩
  · cases u with | dK h1 h2 h3 => exact ⟨a, _, rfl, h1, h2, h3⟩
  · cases e
theorem ev_fputK {f : Str} {fk : DE} (c : Cls P.K P.C.a) (n : NoAttr P.K P.C.a f) (ho : EvE P H0 Wi to fo) (hk : EvE P H0 Wi tk fk) (hv : EvE P H0 Wi tv fv) : EvS P H0 Wi (sDPut (tFld P.K to f) tk tv) (sFputK f fo fk fv) := by
  intro σ H G ws ρ w D st h
  unfold sFputK at h
  refine hv σ H G ws ρ w _ st (postE_of st h fun y w0 _ h vy H0' G0' ws0' n0 ry ky => ?_)
  by_cases hm : keepM y = true
  · rw [if_pos hm] at h
    obtain ⟨G0, s0, n0, rp⟩ := st.frzV n0 ry ky hm
    have st0 := st.next n0
    have h : PostS P H0 Wi D G0 ws0' _ := PostS.after n0.mon h
    refine ho σ H0' G0 ws0' ρ w0 _ st0 (postE_of st0 h fun x w1 _ h vx H1 G1 ws1 n1 rx kx => ?_)
    have st1 := st0.next n1
    have h : PostS P H0 Wi D G1 ws1 _ := PostS.after n1.mon h
    obtain ⟨m, dd⟩ := x
    cases dd with
    | obj k =>
      obtain ⟨p, rfl, e1, rfl⟩ := rv_obj rx
      dsimp only at h
      split at h
      · rename_i ds0 eg
        obtain ⟨dx, fs, u, o, x, A⟩ := n1.rw.fld e1 eg
        obtain ⟨a, vs0, rfl, ha0, _, _⟩ := A.fl.dK
        refine ⟨p, P.C.a, dx, fs, .ref a, rfl, A.ins, c, n, A.lk, ?_⟩
        refine hk σ H1 G1 ws1 ρ w1 _ st1 ?_
        cases ek : fk ρ w1 with
        | bad => rw [ek] at h; exact h
        | ex x w' => rw [ek] at h; exact fun cls d H' G' ws' n hx => h cls d σ H' G' ws' (st1.next n) hx
        | ok key w2 =>
          rw [ek] at h
          intro vk H2 G2 ws2 n2 rk kk2
          have h : PostS P H0 Wi D G1 ws1 (match kD key.d, getF w2 k f with | some kk, some (.dK kvs) => if w2.n = w1.n ∧ w2.lk = false ∧ kvs.length < sizeLine then .next ρ (setF w2 k f (.dK (putKD kvs kk y.d))) else .bad | _, _ => .bad) := h
          split at h
          · rename_i kk kvs ekk eg2
            split at h
            · rename_i hc
              obtain ⟨ew, _⟩ := n2.qt (n2.same n1.rw hc.1)
              have e2 : (DL.io ws2)[k]? = some p := by rw [ew]; exact e1
              obtain ⟨dx2, fs2, u2, o2, x2, Bx⟩ := n2.rw.fld e2 eg2
              have eu := A.again Bx ew
              subst eu
              obtain ⟨a2, vs, ea, ha, q1, q2⟩ := Bx.fl.dK
              cases ea
              have har : a ∈ regs ws2 := (regs_mem (List.mem_of_getElem? Bx.at_)).2 a (refs_mem (List.mem_of_getElem? Bx.fx) rfl)
              have hH := ha.free n2.rw hc.2.1 (n2.rw.out a har)
              have rp2 := rp.mono (n1.gg.trans n2.gg) (n1.io.trans n2.io)
              obtain ⟨p1, p2⟩ := put_rel (k := kk) q1 q2 rp2
              have ekv := rv_key rk ekk
              subst ekv
              refine ⟨a, _, rfl, .inl ⟨vs, kk, hH, rfl, by rw [len_rel q1]; exact hc.2.2, rfl⟩, ?_⟩
              have n4 := Nx.fmut (d' := .dK (putKD kvs kk y.d)) (u' := .dK (putK vs kk vy)) n2.sub n2.rw Bx hH trivial trivial (.dK (.inl upd_same) p1 p2)
              exact h σ _ G2 _ ((st1.next n2).next n4) (n2.mon.trans n4.mon)
            · exact h.elim
          · exact h.elim
      · exact h.elim
    | _ => exact h.elim
  · rw [if_neg hm] at h; exact h.elim
/-! ### o.f[k] = e, x[k] = e: k a tuple of such -/
def sFputT (f : Str) (fo : DE) (fk : Env → W → R (List Key)) (fv : DE) : DS := fun ρ w => (fv ρ w).thn ρ fun y w1 => if keepM y then ((fo ρ w1).thn ρ fun x w2 => match x.d with
  | .obj k => (match getF w2 k f with
    | some (.dT _) => (fk ρ w2).thn ρ fun key w3 => (match (some key : Option (List Key)), getF w3 k f with
      | some kk, some (.dT kvs) => if w3.n = w2.n ∧ w3.lk = false ∧ kvs.length < sizeLine then .next ρ (setF w3 k f (.dT (putKD kvs kk y.d))) else .bad
      | _, _ => .bad)
    | _ => .bad)
  | _ => .bad) else .bad
theorem Fld.dT {K : PySem.W.Frag} {G H : Hp} {ι : List Addr} {v : V} {ds : List (List Key × D)} (h : Fld K G H ι v (.dT ds)) : ∃ a kvs, v = .ref a ∧ Lk H a (.dT kvs) ∧ kvs.map (·.1) = ds.map (·.1) ∧ Reps K G ι (kvs.map (·.2)) (ds.map (·.2)) := by
  rcases h with ⟨a, rfl, u⟩ | ⟨i, _, e⟩
  · cases u with | dT h1 h2 h3 => exact ⟨a, _, rfl, h1, h2, h3⟩
  · cases e
theorem ev_fputT {f : Str} {fk : Env → W → R (List Key)} (c : Cls P.K P.C.a) (n : NoAttr P.K P.C.a f) (ho : EvE P H0 Wi to fo) (hk : EvK P H0 Wi tk fk) (hv : EvE P H0 Wi tv fv) : EvS P H0 Wi (sDPut (tFld P.K to f) tk tv) (sFputT f fo fk fv) := by
  intro σ H G ws ρ w D st h
  unfold sFputT at h
  refine hv σ H G ws ρ w _ st (postE_of st h fun y w0 _ h vy H0' G0' ws0' n0 ry ky => ?_)
  by_cases hm : keepM y = true
  · rw [if_pos hm] at h
    obtain ⟨G0, s0, n0, rp⟩ := st.frzV n0 ry ky hm
    have st0 := st.next n0
    have h : PostS P H0 Wi D G0 ws0' _ := PostS.after n0.mon h
    refine ho σ H0' G0 ws0' ρ w0 _ st0 (postE_of st0 h fun x w1 _ h vx H1 G1 ws1 n1 rx kx => ?_)
    have st1 := st0.next n1
    have h : PostS P H0 Wi D G1 ws1 _ := PostS.after n1.mon h
    obtain ⟨m, dd⟩ := x
    cases dd with
    | obj k =>
      obtain ⟨p, rfl, e1, rfl⟩ := rv_obj rx
      dsimp only at h
      split at h
      · rename_i ds0 eg
        obtain ⟨dx, fs, u, o, x, A⟩ := n1.rw.fld e1 eg
        obtain ⟨a, vs0, rfl, ha0, _, _⟩ := A.fl.dT
        refine ⟨p, P.C.a, dx, fs, .ref a, rfl, A.ins, c, n, A.lk, ?_⟩
        refine hk σ H1 G1 ws1 ρ w1 _ st1 ?_
        cases ek : fk ρ w1 with
        | bad => rw [ek] at h; exact h
        | ex x w' => rw [ek] at h; exact fun cls d H' G' ws' n hx => h cls d σ H' G' ws' (st1.next n) hx
        | ok key w2 =>
          rw [ek] at h
          intro pk H2 G2 ws2 n2 hpk
          have h : PostS P H0 Wi D G1 ws1 (match (some key : Option (List Key)), getF w2 k f with | some kk, some (.dT kvs) => if w2.n = w1.n ∧ w2.lk = false ∧ kvs.length < sizeLine then .next ρ (setF w2 k f (.dT (putKD kvs kk y.d))) else .bad | _, _ => .bad) := h
          split at h
          · rename_i kk kvs ekk eg2
            split at h
            · rename_i hc
              obtain ⟨ew, _⟩ := n2.qt (n2.same n1.rw hc.1)
              have e2 : (DL.io ws2)[k]? = some p := by rw [ew]; exact e1
              obtain ⟨dx2, fs2, u2, o2, x2, Bx⟩ := n2.rw.fld e2 eg2
              have eu := A.again Bx ew
              subst eu
              obtain ⟨a2, vs, ea, ha, q1, q2⟩ := Bx.fl.dT
              cases ea
              have har : a ∈ regs ws2 := (regs_mem (List.mem_of_getElem? Bx.at_)).2 a (refs_mem (List.mem_of_getElem? Bx.fx) rfl)
              have hH := ha.free n2.rw hc.2.1 (n2.rw.out a har)
              have rp2 := rp.mono (n1.gg.trans n2.gg) (n1.io.trans n2.io)
              obtain ⟨p1, p2⟩ := put_rel (k := kk) q1 q2 rp2
              have ekk : kk = key := (Option.some.inj ekk).symm
              refine ⟨a, _, rfl, .inr ⟨vs, kk, pk, hH, rfl, by rw [ekk]; exact hpk, by rw [len_rel q1]; exact hc.2.2, rfl⟩, ?_⟩
              have n4 := Nx.fmut (d' := .dT (putKD kvs kk y.d)) (u' := .dT (putK vs kk vy)) n2.sub n2.rw Bx hH trivial trivial (.dT (.inl upd_same) p1 p2)
              exact h σ _ G2 _ ((st1.next n2).next n4) (n2.mon.trans n4.mon)
            · exact h.elim
          · exact h.elim
      · exact h.elim
    | _ => exact h.elim
  · rw [if_neg hm] at h; exact h.elim
end
end DL
/-! Methods, objects made. -/
namespace DL
open PySem PySem.Spec PyProof.Rows L2
/-! ### arguments by place -/
def selV (ix : List Nat) (l : List V) : List V := ix.map fun i => l.getD i .non
def selU (ix : List Nat) (l : List Value) : List Value := ix.map fun i => l.getD i .none
def selD (ix : List Nat) (l : List D) : List D := ix.map fun i => l.getD i .non
theorem sel_vals {ix : List Nat} {vs : List V} {us : List Value} (h : Vals vs us) : Vals (selV ix vs) (selU ix us) := by
  have one : ∀ i, RelV (vs.getD i .non) (us.getD i .none) := fun i => by
    rw [List.getD_eq_getElem?_getD, List.getD_eq_getElem?_getD]
    cases e : vs[i]? with
    | some v => obtain ⟨u, hu, ru⟩ := h.get e; rw [hu]; exact ru
    | none =>
      have : us[i]? = none := by rw [List.getElem?_eq_none_iff] at e ⊢; rw [← h.length]; exact e
      rw [this]
      rfl
  induction ix with
  | nil => exact .nil
  | cons i ix ih => exact .cons (one i) ih
theorem sel_reps {K : PySem.W.Frag} {G : Hp} {ι : List Addr} {ix : List Nat} {vs : List V} {ds : List D} (h : Reps K G ι vs ds) : Reps K G ι (selV ix vs) (selD ix ds) := by
  have one : ∀ i, Rep K G ι (vs.getD i .non) (ds.getD i .non) := fun i => by
    rw [List.getD_eq_getElem?_getD, List.getD_eq_getElem?_getD]
    cases e : vs[i]? with
    | some v => obtain ⟨u, hu, ru⟩ := h.get e; rw [hu]; exact ru
    | none =>
      have : ds[i]? = none := by rw [List.getElem?_eq_none_iff] at e ⊢; rw [← h.length]; exact e
      rw [this]
      exact .non
  induction ix with
  | nil => exact .nil
  | cons i ix ih => exact .cons (one i) ih
/-- how a call of n values and the keywords ks binds; dds: the defaults -/
structure Shape where
  n : Nat
  ks : List Str
  ix : List Nat
  dds : List D
def Shp (K : PySem.W.Frag) (fd : FuncData) (ps : List Str) (h : Shape) : Prop := ∃ dvs dus, Vals dvs dus ∧ (∀ G ι, Reps K G ι dvs h.dds) ∧ ∀ (s : Shared) (us zs : List Value), K.In s.heap → us.length = h.n → zs.length = h.ks.length → BindsTo s fd ⟨us, h.ks.zip zs⟩ (ps.zip (selU h.ix (us ++ zs ++ dus)))
/-! ### defs with defaults -/
structure FunG (K : PySem.W.Frag) (x qual : Str) (st : Stmt) (f : Addr) (fd : FuncData) : Prop where
  ex : ∃ (oc : Value) (od : Option Addr) (dV kV doc pm : Value) (an : Option Addr) (cdv ct : Value) (osl : Array (Option Value)), fd = PySem.W.fnOf x qual (defArgs st) (defBody st) (defScope st) dV kV doc pm an cdv ct ∧ K.lookup f = some ⟨oc, od, .func fd, osl⟩ ∧ PySem.W.codeIn K cdv qual = true
theorem fn_mkG {P : Program} {w : World} {K : PySem.W.Frag} {mg : Str → Option Value} {base : Heap} {C : Ca} {cm : Cm} {x qual : Str} {st : Stmt} {f : Addr} {fd : FuncData} {N ps : List Str} {k : Nat} {g : DS} (F : FunG K x qual st f fd) (S : FnScope N ps (defScope st))
    (hb : ∀ (f : Addr) (cdv : Value) (A : Around) (outer : List PySem.Env) (s : Shared) (H : Hp) (E : XK) (e : En), Fc (cxOf (L2N.CX P w) P w K mg base N qual (defScope st) f cdv A outer s H E) ⟨C, cm, e, fun cls d _ H' => E cls d H'⟩ k →
      XB (cxOf (L2N.CX P w) P w K mg base N qual (defScope st) f cdv A outer s H E) ⟨C, cm, e, fun cls d _ H' => E cls d H'⟩ (defBody st) g) : FnOk P w K mg base (L2N.CX P w) (k + 1) f fd ps (spD ⟨K, C, cm⟩ (fnD ps.length N.length g)) := by
  obtain ⟨oc, od, dV, kV, doc, pm, an, cdv, ct, osl, rfl, lk, hcd⟩ := F.ex
  refine fn_of lk hcd S (fun vs H Q E h => spD_len h) fun A outer s H vs Q E hr h => ?_
  have hl := spD_len h
  obtain ⟨G, ws, wd, ds, sm, rw, rs, p⟩ := h
  obtain ⟨t, h1, h2⟩ := hb f cdv A outer s H E ⟨H, G, ws⟩ ⟨rfl, S.nd, hr, L2N.takes_of rfl rfl rfl rfl, passes_of rfl⟩
  refine ⟨t, h1, ?_⟩
  unfold L2.start
  rw [hl]
  refine h2 _ H G ws (ds.map (fun d => some (fz d)) ++ List.replicate (N.length - ps.length) none) wd _ (st_start sm rw rs) ?_
  unfold fnD at p
  rw [if_pos (by rw [← rs.length]; exact hl)] at p
  cases eg : g (ds.map (fun d => some (fz d)) ++ List.replicate (N.length - ps.length) none) wd with
  | bad => rw [eg] at p; exact p
  | brk ρ w' => rw [eg] at p; exact p.elim
  | cont ρ w' => rw [eg] at p; exact p.elim
  | next ρ w' => rw [eg] at p; exact fun σ' H' G' ws' st' _ => p .non H' G' ws' st'.nx0 .non fz_nw
  | ret y w' => rw [eg] at p; exact fun v H' G' ws' n r k _ => p v H' G' ws' n r k
  | ex y ρ w' => rw [eg] at p; exact fun cls d σ' H' G' ws' st' hx => p cls d H' G' ws' st'.nx0 hx
/-! ### o.m(..) -/
structure Mt (P : Program) (w : World) (K : PySem.W.Frag) (mg : Str → Option Value) (base : Heap) (C : Ca) (cm : Cm) (m : Str) (j : Nat) (F : DF) (sh : List Shape) : Prop where
  ex : ∃ f fd ps, Cls K C.a ∧ Meth K C.a m f ∧ FnOk P w K mg base (L2N.CX P w) j f fd ps (spD ⟨K, C, cm⟩ F) ∧ ∀ s ∈ sh, Shp K fd ps s
/-- a method as it stands behind the top -/
def FnxM (K : PySem.W.Frag) (C : Addr) (m qual : Str) (st : Stmt) (ps : List Str) (sh : List Shape) : Prop := ∃ f fd, FunG K m qual st f fd ∧ Meth K C m f ∧ ∀ s ∈ sh, Shp K fd ps s
theorem mt_mk {P : Program} {w : World} {K : PySem.W.Frag} {mg : Str → Option Value} {base : Heap} {C : Ca} {cm : Cm} {m qual : Str} {st : Stmt} {N ps : List Str} {k : Nat} {g : DS} {sh : List Shape} (c : Cls K C.a) (F : FnxM K C.a m qual st ps sh) (S : FnScope N ps (defScope st))
    (hb : ∀ (f : Addr) (cdv : Value) (A : Around) (outer : List PySem.Env) (s : Shared) (H : Hp) (E : XK) (e : En), Fc (cxOf (L2N.CX P w) P w K mg base N qual (defScope st) f cdv A outer s H E) ⟨C, cm, e, fun cls d _ H' => E cls d H'⟩ k →
      XB (cxOf (L2N.CX P w) P w K mg base N qual (defScope st) f cdv A outer s H E) ⟨C, cm, e, fun cls d _ H' => E cls d H'⟩ (defBody st) g) : Mt P w K mg base C cm m (k + 1) (fnD ps.length N.length g) sh := by
  obtain ⟨f, fd, F, hm, hs⟩ := F
  exact ⟨f, fd, ps, c, hm, fn_mkG F S hb, hs⟩
def dMt (F : DF) (m : Str) (n j : Nat) (ix : List Nat) (dds : List D) (fo : DE) (fr fk : DA) : DE := fun ρ w => (fo ρ w).bind fun x w1 => match x.d with
  | .obj k => if ((w1.o.getD k []).lookup m).isNone then ((fr ρ w1).bind fun xs w2 => match frzD xs with
    | some ds => ((fk ρ w2).bind fun zs w3 => match frzD zs with
      | some es => if ds.length = n ∧ es.length = j then F (selD ix (.obj k :: ds ++ es ++ dds)) w3 else .bad
      | none => .bad)
    | none => .bad) else .bad
  | _ => .bad
def tMt (C : Addr) (m : Str) (sp : Sp) (n j : Nat) (ix : List Nat) (dvs : List V) (E : L2.St → XK) (ta : TE) (t tk : TA) : TE := fun σ H Q => ta σ H fun x H1 => ∃ a dx fs, x = .ref a ∧ H1 a = some (.ins C dx fs) ∧ fs.lookup m = none ∧ t σ H1 fun vs H2 => tk σ H2 fun zs H3 => vs.length = n ∧ zs.length = j ∧ sp (selV ix (.ref a :: vs ++ zs ++ dvs)) H3 Q (E σ)
section
variable {X : Cx} {k : Nat} {f C : Addr} {fd : FuncData} {ps : List Str} {sp : Sp} {E : L2.St → XK} {m : Str} {p pos apos : Pos} {e o : Expr} {es : List Expr} {kws : List Keyword} {ta : TE} {t tk : TA} {dvs : List V} {dus : List Value} {ks : List Str} {ix : List Nat} {n : Nat}
theorem run_mt {pins : List (Addr × Obj)} {σ : L2.St} {H : Hp} {s : Shared} {Q : VK} {us zs : List Value} {vs ys : List V} {a : Addr} (F : FnOk X.prog X.w X.K X.mg X.base (L2N.CX X.prog X.w) k f fd ps sp) (hr : Room k X.A) (hd : Vals dvs dus)
    (hb : ∀ (s : Shared) (us zs : List Value), X.K.In s.heap → us.length = n + 1 → zs.length = ks.length → BindsTo s fd ⟨us, ks.zip zs⟩ (ps.zip (selU ix (us ++ zs ++ dus)))) (hx : PassesAt (L2N.CX X.prog X.w) X σ (E σ)) (I : Inv X pins σ H s) (r : Vals vs us) (rz : Vals ys zs) (l1 : vs.length = n) (l2 : ys.length = ks.length)
    (h : sp (selV ix (.ref a :: vs ++ ys ++ dvs)) H Q (E σ)) : wpAny (model X.prog X.w) X.A (call (.ref f) (.ref a :: us) (ks.zip zs)) (EP X pins σ Q) X.xe s := by
  have rr : Vals (.ref a :: vs) (.ref a :: us) := .cons rfl r
  have r2 : Vals (selV ix (.ref a :: vs ++ ys ++ dvs)) (selU ix (.ref a :: us ++ zs ++ dus)) := sel_vals ((rr.append rz).append hd)
  have b := hb s (.ref a :: us) zs I.kIn (by rw [List.length_cons, ← r.length, l1]) (by rw [← rz.length, l2])
  refine wpAny_call (codeAny_mono (F.run X.A X.stack s H ⟨.ref a :: us, ks.zip zs⟩ _ _ Q (E σ) hr I.env0 b r2 h) ?_)
  intro q s' hq
  cases q with
  | error e => exact hx pins H s e s' I hq
  | ok fl => cases fl with
    | ret u => exact I.after hq
    | next => exact False.elim hq
    | brk => exact False.elim hq
    | cont => exact False.elim hq
theorem pe_mt {pl : Sem Bool} (he : PE X o ta) (c : Cls X.K C) (hm : Meth X.K C m f) (F : FnOk X.prog X.w X.K X.mg X.base (L2N.CX X.prog X.w) k f fd ps sp) (hr : Room k X.A) (hd : Vals dvs dus)
    (hb : ∀ (s : Shared) (us zs : List Value), X.K.In s.heap → us.length = n + 1 → zs.length = ks.length → BindsTo s fd ⟨us, ks.zip zs⟩ (ps.zip (selU ix (us ++ zs ++ dus)))) (hx : ∀ σ, PassesAt (L2N.CX X.prog X.w) X σ (E σ)) (ha : PA X (e :: es) t) (hk : PK X kws tk)
    (hall : (backToKw pos (keywordEach kws X.env)).all (·.1.isSome) = true) (hks : (backToKw pos (keywordEach kws X.env)).filterMap (·.1) = ks)
    (hst : starEach (e :: es) X.env = (false, eval e X.env) :: starEach es X.env) (hpl : ((backTo pos (starEach (e :: es) X.env)).any (·.1) || (backToKw pos (keywordEach kws X.env)).any (·.1.isNone)) = false)
    (ht : eval (.Call (.Attribute o m apos) (e :: es) kws pos) X.env = (do
      let ov ← eval o X.env
      standAt apos.atName
      let (f, first) ← holding [ov] (getMethod ov m pl)
      callWith pos f first (backTo pos (starEach (e :: es) X.env)) (backToKw pos (keywordEach kws X.env)))) :
    PE X (.Call (.Attribute o m apos) (e :: es) kws pos) (tMt C m sp n ks.length ix dvs E ta t tk) := by
  refine ⟨fun pins s σ H Q I h => ?_⟩
  refine PySem.W.methodCall_KW (pl := pl) (thn (he.run pins s σ H _ I h) ?_) ht
  rintro u s1 ⟨x, H1, I1, rx, a, dx, fs, ex, ea, l, q⟩
  subst ex
  obtain rfl : u = Value.ref a := rx
  refine getmeth_ok I1 ea c hm l ?_
  refine PySem.W.callWith_KW (first := [.ref a]) (h₀ := X.base) I.ok.mod.kin hm.kp hall (thn (ha.run pos pins s1 σ H1 _ I1 q) ?_) hpl hst
  rintro us s2 ⟨vs, H2, I2, r, q2⟩
  refine thn (hk.run pos pins s2 σ H2 _ I2 q2) ?_
  rintro zs s3 ⟨ys, H3, I3, rz, l1, l2, q3⟩
  refine ⟨I3.kIn, ?_⟩
  rw [hks]
  exact run_mt F hr hd hb (hx σ) I3 r rz l1 l2 q3
theorem pe_mt0 {pl : Sem Bool} (he : PE X o ta) (c : Cls X.K C) (hm : Meth X.K C m f) (F : FnOk X.prog X.w X.K X.mg X.base (L2N.CX X.prog X.w) k f fd ps sp) (hr : Room k X.A) (hd : Vals dvs dus)
    (hb : ∀ (s : Shared) (us zs : List Value), X.K.In s.heap → us.length = 0 + 1 → zs.length = ks.length → BindsTo s fd ⟨us, ks.zip zs⟩ (ps.zip (selU ix (us ++ zs ++ dus)))) (hx : ∀ σ, PassesAt (L2N.CX X.prog X.w) X σ (E σ)) (hk : PK X kws tk)
    (hall : (backToKw pos (keywordEach kws X.env)).all (·.1.isSome) = true) (hks : (backToKw pos (keywordEach kws X.env)).filterMap (·.1) = ks)
    (hpl : ((backTo pos (starEach [] X.env)).any (·.1) || (backToKw pos (keywordEach kws X.env)).any (·.1.isNone)) = false)
    (ht : eval (.Call (.Attribute o m apos) [] kws pos) X.env = (do
      let ov ← eval o X.env
      standAt apos.atName
      let (f, first) ← holding [ov] (getMethod ov m pl)
      callWith pos f first (backTo pos (starEach [] X.env)) (backToKw pos (keywordEach kws X.env)))) :
    PE X (.Call (.Attribute o m apos) [] kws pos) (tMt C m sp 0 ks.length ix dvs E ta tNil tk) := by
  refine ⟨fun pins s σ H Q I h => ?_⟩
  refine PySem.W.methodCall_KW (pl := pl) (thn (he.run pins s σ H _ I h) ?_) ht
  rintro u s1 ⟨x, H1, I1, rx, a, dx, fs, ex, ea, l, q⟩
  subst ex
  obtain rfl : u = Value.ref a := rx
  refine getmeth_ok I1 ea c hm l ?_
  refine PySem.W.callWith_KW0 (first := [.ref a]) (h₀ := X.base) I.ok.mod.kin hm.kp hall (thn (hk.run pos pins s1 σ H1 _ I1 q) ?_) hpl
  rintro zs s3 ⟨ys, H3, I3, rz, l1, l2, q3⟩
  refine ⟨I3.kIn, ?_⟩
  rw [hks]
  exact run_mt (us := []) (vs := []) F hr hd hb (hx σ) I3 .nil rz l1 l2 q3
end
section
variable {P : Pm} {H0 : En} {Wi : WX} {ta : TE} {fa : DE} {tr tk : TA} {fr fk : DA}
theorem ev_mt {F : DF} {m : Str} {n j : Nat} {ix : List Nat} {dvs : List V} {dds : List D} (ho : EvE P H0 Wi ta fa) (hr : EvA P H0 Wi tr fr) (hk : EvA P H0 Wi tk fk) (hd : ∀ G ι, Reps P.K G ι dvs dds) : EvE P H0 Wi (tMt P.C.a m (spD P F) n j ix dvs (WE Wi) ta tr tk) (dMt F m n j ix dds fa fr fk) := by
  intro σ H G ws ρ w Q st h
  unfold dMt at h
  refine ho σ H G ws ρ w _ st ?_
  cases e : fa ρ w with
  | bad => rw [e] at h; exact h
  | ex x w' => rw [e] at h; exact h
  | ok x w1 =>
    intro v H1 G1 ws1 n1 r1 k1
    rw [e] at h
    obtain ⟨mm, dd⟩ := x
    cases dd with
    | obj k =>
      obtain ⟨p, rfl, e1, rfl⟩ := rv_obj r1
      have h : PostE P (fun c d H' => Wi c d σ H') H G ws Q (if ((w1.o.getD k []).lookup m).isNone = true then ((fr ρ w1).bind fun xs w2 => match frzD xs with | some ds => ((fk ρ w2).bind fun zs w3 => match frzD zs with | some es => if ds.length = n ∧ es.length = j then F (selD ix (.obj k :: ds ++ es ++ dds)) w3 else .bad | none => .bad) | none => .bad) else .bad) := h
      by_cases hl : ((w1.o.getD k []).lookup m).isNone = true
      · rw [if_pos hl] at h
        obtain ⟨q, hq, rfl⟩ : ∃ q, ws1.l[k]? = some q ∧ q.1 = p := by
          have : (ws1.l.map (·.1))[k]? = some p := e1
          rw [List.getElem?_map] at this
          cases eq : ws1.l[k]? with
          | none => rw [eq] at this; cases this
          | some q => rw [eq] at this; cases this; exact ⟨q, rfl, rfl⟩
        obtain ⟨l1, l2⟩ := paired_ix n1.rw.obs
        have hk1 : k < w1.o.length := by rw [← l1]; exact (List.getElem?_eq_some_iff.mp hq).1
        have ho1 : w1.o[k]? = some w1.o[k] := List.getElem?_eq_getElem hk1
        obtain ⟨⟨dx, hp⟩, pr⟩ := l2 k _ _ hq ho1
        rw [List.getD_eq_getElem?_getD, ho1] at hl
        have hno : q.2.lookup m = none := by
          have go : ∀ {fs : List (Str × V)} {o : List (Str × D)}, Paired (fun (x : Str × V) (y : Str × D) => x.1 = y.1 ∧ Fld P.K G1 H1 (io ws1) x.2 y.2) fs o → (o.lookup m).isNone = true → fs.lookup m = none := by
            intro fs o pr
            induction pr with
            | nil => intro _; rfl
            | @cons x y l mm q1 q2 ih =>
              obtain ⟨xn, xv⟩ := x
              obtain ⟨yn, yv⟩ := y
              obtain ⟨q1, _⟩ := q1
              dsimp only at q1
              subst q1
              intro hz
              rw [List.lookup_cons] at hz ⊢
              cases eb : (m == xn) with
              | true => rw [eb] at hz; cases hz
              | false => rw [eb] at hz; exact ih hz
          exact go pr hl
        refine ⟨q.1, dx, q.2, rfl, hp, hno, ?_⟩
        refine hr σ H1 G1 ws1 ρ w1 _ (st.next n1) ?_
        cases e2 : fr ρ w1 with
        | bad => rw [e2] at h; exact h
        | ex y w2 => rw [e2] at h; exact PostE.after n1 h
        | ok xs w2 =>
          intro vs H2 G2' ws2 n2 r2 k2
          rw [e2] at h
          have h : PostE P (fun c d H' => Wi c d σ H') H G ws Q (match frzD xs with | some ds => ((fk ρ w2).bind fun zs w3 => match frzD zs with | some es => if ds.length = n ∧ es.length = j then F (selD ix (.obj k :: ds ++ es ++ dds)) w3 else .bad | none => .bad) | none => .bad) := h
          cases e3 : frzD xs with
          | none => rw [e3] at h; exact h.elim
          | some ds =>
            rw [e3] at h
            obtain ⟨G2, s2, n2, rs⟩ := freezeAll n2 r2 k2 e3
            have n12 := n1.trans n2
            have h : PostE P (fun c d H' => Wi c d σ H') H G ws Q ((fk ρ w2).bind fun zs w3 => match frzD zs with | some es => if ds.length = n ∧ es.length = j then F (selD ix (.obj k :: ds ++ es ++ dds)) w3 else .bad | none => .bad) := h
            refine hk σ H2 G2 ws2 ρ w2 _ (st.next n12) ?_
            cases e4 : fk ρ w2 with
            | bad => rw [e4] at h; exact h
            | ex y w3 => rw [e4] at h; exact PostE.after n12 h
            | ok zs w3 =>
              intro ys H3 G3' ws3 n3 r3 k3
              rw [e4] at h
              have h : PostE P (fun c d H' => Wi c d σ H') H G ws Q (match frzD zs with | some es => if ds.length = n ∧ es.length = j then F (selD ix (.obj k :: ds ++ es ++ dds)) w3 else .bad | none => .bad) := h
              cases e5 : frzD zs with
              | none => rw [e5] at h; exact h.elim
              | some es =>
                rw [e5] at h
                dsimp only at h
                split at h
                · rename_i hlen
                  obtain ⟨G3, s3, n3, rz⟩ := freezeAll n3 r3 k3 e5
                  have n13 := n12.trans n3
                  refine ⟨by rw [rs.length]; exact hlen.1, by rw [rz.length]; exact hlen.2, G3, ws3, w3, _, n3.sub, n3.rw, sel_reps (((Reps.cons (.obj (pre_get (n2.io.trans n3.io) e1)) (rs.mono n3.gg n3.io)).append rz).append (hd _ _)), PostE.after n13 h⟩
                · exact h.elim
      · rw [if_neg hl] at h; exact h.elim
    | _ => exact h.elim
end
section
variable {X : Cx} {κ : Kx} {k : Nat} {o e : Expr} {es : List Expr} {fo : DE} {fr fk : DA} {m : Str} {pos apos : Pos} {j : Nat} {F : DF} {sh : List Shape}
def XK' (X : Cx) (κ : Kx) (kws : List Keyword) (f : DA) : Prop := ∃ te, PK X kws te ∧ EvA (pm X κ) κ.e κ.Wi te f
theorem k_nil : XK' X κ [] dNil := ⟨_, pk_nil, ev_nil⟩
theorem k_one {nm : Option Str} {kpos : Pos} (ha : XE X κ e fo) : XK' X κ [⟨nm, e, kpos⟩] (dOne fo) := by
  obtain ⟨t, pa, ea⟩ := ha
  exact ⟨_, pk_cons pa pk_nil, ev_one ea⟩
theorem e_mt {pl : Sem Bool} {kws : List Keyword} (h : Shape) (d : Mt X.prog X.w X.K X.mg X.base κ.C κ.cm m j F sh) (hs : h ∈ sh) (c : Fe X κ k) (ho : XE X κ o fo) (ha : XA X κ (e :: es) fr) (hk : XK' X κ kws fk) (hn : h.n = (e :: es).length + 1 := by rfl) (hj : j ≤ k := by decide)
    (hall : (backToKw pos (keywordEach kws X.env)).all (·.1.isSome) = true := by rfl) (hks : (backToKw pos (keywordEach kws X.env)).filterMap (·.1) = h.ks := by rfl)
    (hst : starEach (e :: es) X.env = (false, eval e X.env) :: starEach es X.env := by rfl) (hpl : ((backTo pos (starEach (e :: es) X.env)).any (·.1) || (backToKw pos (keywordEach kws X.env)).any (·.1.isNone)) = false := by rfl)
    (ht : eval (.Call (.Attribute o m apos) (e :: es) kws pos) X.env = (do
      let ov ← eval o X.env
      standAt apos.atName
      let (f, first) ← holding [ov] (getMethod ov m pl)
      callWith pos f first (backTo pos (starEach (e :: es) X.env)) (backToKw pos (keywordEach kws X.env))) := by rfl) :
    XE X κ (.Call (.Attribute o m apos) (e :: es) kws pos) (dMt F m (e :: es).length h.ks.length h.ix h.dds fo fr fk) := by
  obtain ⟨f, fd, ps, cl, hm, G, hsh⟩ := d.ex
  obtain ⟨dvs, dus, v1, v2, v3⟩ := hsh h hs
  obtain ⟨t1, p1, e1⟩ := ho
  obtain ⟨t2, p2, e2⟩ := ha
  obtain ⟨t3, p3, e3⟩ := hk
  exact ⟨_, pe_mt (E := WE κ.Wi) p1 cl hm G (c.room.mono hj) v1 (fun s us zs i l1 l2 => v3 s us zs i (by rw [hn]; exact l1) l2) (fun σ => L2N.passAt c.tk σ) p2 p3 hall hks hst hpl ht, ev_mt e1 e2 e3 v2⟩
theorem e_mt0 {pl : Sem Bool} {kws : List Keyword} (h : Shape) (d : Mt X.prog X.w X.K X.mg X.base κ.C κ.cm m j F sh) (hs : h ∈ sh) (c : Fe X κ k) (ho : XE X κ o fo) (hk : XK' X κ kws fk) (hn : h.n = 1 := by rfl) (hj : j ≤ k := by decide)
    (hall : (backToKw pos (keywordEach kws X.env)).all (·.1.isSome) = true := by rfl) (hks : (backToKw pos (keywordEach kws X.env)).filterMap (·.1) = h.ks := by rfl)
    (hpl : ((backTo pos (starEach [] X.env)).any (·.1) || (backToKw pos (keywordEach kws X.env)).any (·.1.isNone)) = false := by rfl)
    (ht : eval (.Call (.Attribute o m apos) [] kws pos) X.env = (do
      let ov ← eval o X.env
      standAt apos.atName
      let (f, first) ← holding [ov] (getMethod ov m pl)
      callWith pos f first (backTo pos (starEach [] X.env)) (backToKw pos (keywordEach kws X.env))) := by rfl) :
    XE X κ (.Call (.Attribute o m apos) [] kws pos) (dMt F m 0 h.ks.length h.ix h.dds fo dNil fk) := by
  obtain ⟨f, fd, ps, cl, hm, G, hsh⟩ := d.ex
  obtain ⟨dvs, dus, v1, v2, v3⟩ := hsh h hs
  obtain ⟨t1, p1, e1⟩ := ho
  obtain ⟨t3, p3, e3⟩ := hk
  exact ⟨_, pe_mt0 (E := WE κ.Wi) p1 cl hm G (c.room.mono hj) v1 (fun s us zs i l1 l2 => v3 s us zs i (by rw [hn]; exact l1) l2) (fun σ => L2N.passAt c.tk σ) p3 hall hks hpl ht, ev_mt e1 ev_nil e3 v2⟩
end
end DL
/-! An object is made. -/
namespace DL
open PySem PySem.Spec PyProof.Rows L2
def houseD : List (Str × D) := [("ranks", .lst []), ("seats", .dK []), ("known", .dK []), ("weeks", .lst []), ("plans", .dT []), ("cuts", .dT []), ("many", .int 0), ("done", .lst [])]
def houseV (a1 a2 a3 a4 a5 a6 a7 : Addr) : List (Str × V) := [("ranks", .ref a1), ("seats", .ref a2), ("known", .ref a3), ("weeks", .ref a4), ("plans", .ref a5), ("cuts", .ref a6), ("many", .int 0), ("done", .ref a7)]
/-- what __init__ leaves at x -/
structure InitP (C : Addr) (H Hf : Hp) (x dx a1 a2 a3 a4 a5 a6 a7 : Addr) : Prop where
  keep : ∀ b o, H b = some o → b ≠ x → Hf b = some o
  at_ : Hf x = some (.ins C dx (houseV a1 a2 a3 a4 a5 a6 a7))
  h1 : Hf a1 = some (.lst [])
  h2 : Hf a2 = some (.dK [])
  h3 : Hf a3 = some (.dK [])
  h4 : Hf a4 = some (.lst [])
  h5 : Hf a5 = some (.dT [])
  h6 : Hf a6 = some (.dT [])
  h7 : Hf a7 = some (.lst [])
  new : ∀ b ∈ [a1, a2, a3, a4, a5, a6, a7], H b = none
  nd : [x, a1, a2, a3, a4, a5, a6, a7].Nodup
  fr : ∀ b o u, Hf b = some (.frz o u) → H b = some (.frz o u)
def spInit (C : Addr) : Sp := fun vs H Q _ => ∃ x dx, vs = [.ref x] ∧ H x = some (.ins C dx []) ∧ ∀ Hf a1 a2 a3 a4 a5 a6 a7, InitP C H Hf x dx a1 a2 a3 a4 a5 a6 a7 → Q .non Hf
theorem upd_none {H : Hp} {p b : Addr} {o : HO} (h : upd H p o b = none) : b ≠ p ∧ H b = none := by
  by_cases e : b = p
  · subst e; rw [upd_same] at h; cases h
  · rw [upd_ne e] at h; exact ⟨e, h⟩
theorem upd_frz {H : Hp} {p b : Addr} {o : HO} {q : Obj} {u : HO} (n : ∀ q u, o ≠ .frz q u) (h : upd H p o b = some (.frz q u)) : H b = some (.frz q u) := by
  by_cases e : b = p
  · subst e; rw [upd_same] at h; cases h; exact absurd rfl (n _ _)
  · rw [upd_ne e] at h; exact h
theorem putF_len {f : Str} {v : V} : ∀ {fs : List (Str × V)} {n : Nat}, fs.length ≤ n → (putF f v fs).length ≤ n + 1
  | [], n, _ => by show 1 ≤ n + 1; omega
  | (g, x) :: r, n, h => by
    unfold putF
    split
    · exact Nat.le_succ_of_le h
    · cases n with
      | zero => simp at h
      | succ n => exact Nat.succ_le_succ (putF_len (by simpa using h))
/-- the body's reading -/
theorem init_read {K : PySem.W.Frag} {C : Addr} {N : List Str} {H : Hp} {vs : List V} {Q : VK} {E : XK} (hN : N = (["self"] : List Str)) (c : Cls K C) (na : ∀ f ∈ (["ranks", "seats", "known", "weeks", "plans", "cuts", "many", "done"] : List Str), NoAttr K C f) (h : spInit C vs H Q E) :
    tSeq (sFld K (tVar 0) (tLst tNil) "ranks") (tSeq (sFld K (tVar 0) tDNewK "seats") (tSeq (sFld K (tVar 0) tDNewK "known") (tSeq (sFld K (tVar 0) (tLst tNil) "weeks") (tSeq (sFld K (tVar 0) tDNewT "plans") (tSeq (sFld K (tVar 0) tDNewT "cuts") (tSeq (sFld K (tVar 0) (tC (.int 0)) "many") (sFld K (tVar 0) (tLst tNil) "done"))))))) { nx := fun _ H' => Q .non H', rt := Q } (L2.start N vs) H := by
  subst hN
  obtain ⟨x, dx, rfl, hx, hq⟩ := h
  have hz : ([] : List V).length ≤ sizeLine := Nat.zero_le _
  refine ⟨hz, fun a1 n1 => ⟨.ref x, rfl, x, C, dx, _, rfl, by rw [upd_ne (ne_of_none hx n1)]; exact hx, c, na _ (by simp), by decide, ?_⟩⟩
  refine fun a2 n2 => ⟨.ref x, rfl, x, C, dx, _, rfl, by rw [upd_ne (Ne.symm (upd_none n2).1), upd_same], c, na _ (by simp), Nat.lt_of_le_of_lt (putF_len (Nat.zero_le 0 : ([] : List (Str × V)).length ≤ 0)) (by decide), ?_⟩
  refine fun a3 n3 => ⟨.ref x, rfl, x, C, dx, _, rfl, by rw [upd_ne (Ne.symm (upd_none n3).1), upd_same], c, na _ (by simp), Nat.lt_of_le_of_lt (putF_len (putF_len (Nat.zero_le 0 : ([] : List (Str × V)).length ≤ 0))) (by decide), ?_⟩
  refine ⟨hz, fun a4 n4 => ⟨.ref x, rfl, x, C, dx, _, rfl, by rw [upd_ne (Ne.symm (upd_none n4).1), upd_same], c, na _ (by simp), Nat.lt_of_le_of_lt (putF_len (putF_len (putF_len (Nat.zero_le 0 : ([] : List (Str × V)).length ≤ 0)))) (by decide), ?_⟩⟩
  refine fun a5 n5 => ⟨.ref x, rfl, x, C, dx, _, rfl, by rw [upd_ne (Ne.symm (upd_none n5).1), upd_same], c, na _ (by simp), Nat.lt_of_le_of_lt (putF_len (putF_len (putF_len (putF_len (Nat.zero_le 0 : ([] : List (Str × V)).length ≤ 0))))) (by decide), ?_⟩
  refine fun a6 n6 => ⟨.ref x, rfl, x, C, dx, _, rfl, by rw [upd_ne (Ne.symm (upd_none n6).1), upd_same], c, na _ (by simp), Nat.lt_of_le_of_lt (putF_len (putF_len (putF_len (putF_len (putF_len (Nat.zero_le 0 : ([] : List (Str × V)).length ≤ 0)))))) (by decide), ?_⟩
  refine ⟨.ref x, rfl, x, C, dx, _, rfl, upd_same, c, na _ (by simp), Nat.lt_of_le_of_lt (putF_len (putF_len (putF_len (putF_len (putF_len (putF_len (Nat.zero_le 0 : ([] : List (Str × V)).length ≤ 0))))))) (by decide), ?_⟩
  refine ⟨hz, fun a7 n7 => ⟨.ref x, rfl, x, C, dx, _, rfl, by rw [upd_ne (Ne.symm (upd_none n7).1), upd_same], c, na _ (by simp), Nat.lt_of_le_of_lt (putF_len (putF_len (putF_len (putF_len (putF_len (putF_len (putF_len (Nat.zero_le 0 : ([] : List (Str × V)).length ≤ 0)))))))) (by decide), ?_⟩⟩
  have d1x := ne_of_none hx n1
  obtain ⟨d2x, n2⟩ := upd_none n2
  obtain ⟨d21, n2⟩ := upd_none n2
  obtain ⟨d3x, n3⟩ := upd_none n3
  obtain ⟨d32, n3⟩ := upd_none n3
  obtain ⟨_, n3⟩ := upd_none n3
  obtain ⟨d31, n3⟩ := upd_none n3
  obtain ⟨d4x, n4⟩ := upd_none n4
  obtain ⟨d43, n4⟩ := upd_none n4
  obtain ⟨_, n4⟩ := upd_none n4
  obtain ⟨d42, n4⟩ := upd_none n4
  obtain ⟨_, n4⟩ := upd_none n4
  obtain ⟨d41, n4⟩ := upd_none n4
  obtain ⟨d5x, n5⟩ := upd_none n5
  obtain ⟨d54, n5⟩ := upd_none n5
  obtain ⟨_, n5⟩ := upd_none n5
  obtain ⟨d53, n5⟩ := upd_none n5
  obtain ⟨_, n5⟩ := upd_none n5
  obtain ⟨d52, n5⟩ := upd_none n5
  obtain ⟨_, n5⟩ := upd_none n5
  obtain ⟨d51, n5⟩ := upd_none n5
  obtain ⟨d6x, n6⟩ := upd_none n6
  obtain ⟨d65, n6⟩ := upd_none n6
  obtain ⟨_, n6⟩ := upd_none n6
  obtain ⟨d64, n6⟩ := upd_none n6
  obtain ⟨_, n6⟩ := upd_none n6
  obtain ⟨d63, n6⟩ := upd_none n6
  obtain ⟨_, n6⟩ := upd_none n6
  obtain ⟨d62, n6⟩ := upd_none n6
  obtain ⟨_, n6⟩ := upd_none n6
  obtain ⟨d61, n6⟩ := upd_none n6
  obtain ⟨d7x, n7⟩ := upd_none n7
  obtain ⟨_, n7⟩ := upd_none n7
  obtain ⟨d76, n7⟩ := upd_none n7
  obtain ⟨_, n7⟩ := upd_none n7
  obtain ⟨d75, n7⟩ := upd_none n7
  obtain ⟨_, n7⟩ := upd_none n7
  obtain ⟨d74, n7⟩ := upd_none n7
  obtain ⟨_, n7⟩ := upd_none n7
  obtain ⟨d73, n7⟩ := upd_none n7
  obtain ⟨_, n7⟩ := upd_none n7
  obtain ⟨d72, n7⟩ := upd_none n7
  obtain ⟨_, n7⟩ := upd_none n7
  obtain ⟨d71, n7⟩ := upd_none n7
  refine hq _ a1 a2 a3 a4 a5 a6 a7 ⟨fun b o hb bx => ?_, ?_, ?_, ?_, ?_, ?_, ?_, ?_, ?_, ?_, ?_, fun b o u e => ?_⟩
  · have m1 := ne_of_none hb n1
    have m2 := ne_of_none hb n2
    have m3 := ne_of_none hb n3
    have m4 := ne_of_none hb n4
    have m5 := ne_of_none hb n5
    have m6 := ne_of_none hb n6
    have m7 := ne_of_none hb n7
    simp only [upd, bx, m1, m2, m3, m4, m5, m6, m7, if_false]
    exact hb
  · rw [upd_same]; rfl
  · simp [upd, d1x.symm, d21.symm, d31.symm, d41.symm, d51.symm, d61.symm, d71.symm]
  · simp [upd, d2x, d32.symm, d42.symm, d52.symm, d62.symm, d72.symm]
  · simp [upd, d3x, d43.symm, d53.symm, d63.symm, d73.symm]
  · simp [upd, d4x, d54.symm, d64.symm, d74.symm]
  · simp [upd, d5x, d65.symm, d75.symm]
  · simp [upd, d6x, d76.symm]
  · simp [upd, d7x]
  · intro b hb
    simp only [List.mem_cons, List.not_mem_nil, or_false] at hb
    rcases hb with rfl | rfl | rfl | rfl | rfl | rfl | rfl <;> assumption
  · simp only [List.nodup_cons, List.mem_cons, List.not_mem_nil, or_false, not_or, not_false_eq_true, and_true, List.nodup_nil]
    exact ⟨⟨d1x, d2x.symm, d3x.symm, d4x.symm, d5x.symm, d6x.symm, d7x.symm⟩, ⟨d21.symm, d31.symm, d41.symm, d51.symm, d61.symm, d71.symm⟩, ⟨d32.symm, d42.symm, d52.symm, d62.symm, d72.symm⟩, ⟨d43.symm, d53.symm, d63.symm, d73.symm⟩, ⟨d54.symm, d64.symm, d74.symm⟩, ⟨d65.symm, d75.symm⟩, d76.symm⟩
  · repeat (replace e := upd_frz (by intro _ _ z; cases z) e)
    exact e
/-! ### House() -/
def dNew : DE := fun _ w => .ok (fz (.obj w.o.length)) ⟨w.n + 1, w.o ++ [houseD], w.lk⟩
theorem regs_app : ∀ (l : Ws0) (p : Addr) (fs : List (Str × V)), regs0 (l ++ [(p, fs)]) = regs0 l ++ (p :: refs fs)
  | [], p, fs => by show p :: (refs fs ++ []) = p :: refs fs; rw [List.append_nil]
  | (q, zs) :: l, p, fs => by
    show q :: (refs zs ++ regs0 (l ++ [(p, fs)])) = q :: (refs zs ++ regs0 l) ++ (p :: refs fs)
    rw [regs_app l p fs, ← List.append_assoc]
    rfl
theorem Nx.made {K : PySem.W.Frag} {C : Ca} {G H Hf : Hp} {ws : Ws} {w : W} {x dx a1 a2 a3 a4 a5 a6 a7 : Addr} (s : Sm G H) (r : RelW K C G H ws w) (hx : H x = none) (hdx : H dx = none) (nx : dx ≠ x) (i : InitP C.a (upd (upd H dx (.own x)) x (.ins C.a dx [])) Hf x dx a1 a2 a3 a4 a5 a6 a7) :
    Nx K C G H ws G Hf ⟨ws.n + 1, ws.l ++ [(x, houseV a1 a2 a3 a4 a5 a6 a7)], ws.lk⟩ ⟨w.n + 1, w.o ++ [houseD], w.lk⟩ ∧ RV K G Hf ⟨ws.n + 1, ws.l ++ [(x, houseV a1 a2 a3 a4 a5 a6 a7)], ws.lk⟩ (.ref x) (fz (.obj w.o.length)) := by
  have sh : Same H Hf := fun b o h => i.keep b o (by rw [upd_ne (ne_of_none h hx), upd_ne (ne_of_none h hdx)]; exact h) (ne_of_none h hx)
  have new : ∀ b ∈ [a1, a2, a3, a4, a5, a6, a7], H b = none := fun b hb => (upd_none (upd_none (i.new b hb)).2).2
  have newx : ∀ b ∈ x :: refs (houseV a1 a2 a3 a4 a5 a6 a7), H b = none := fun b hb => by
    rcases List.mem_cons.mp hb with rfl | hb
    · exact hx
    · exact new b hb
  have fr : ∀ b o u, Hf b = some (.frz o u) → H b = some (.frz o u) := fun b o u e => by
    have := i.fr b o u e
    by_cases h1 : b = x
    · subst h1; rw [upd_same] at this; cases this
    · rw [upd_ne h1] at this
      by_cases h2 : b = dx
      · subst h2; rw [upd_same] at this; cases this
      · rw [upd_ne h2] at this; exact this
  have iop : DL.io ws <+: DL.io ⟨ws.n + 1, ws.l ++ [(x, houseV a1 a2 a3 a4 a5 a6 a7)], ws.lk⟩ := by
    show ws.l.map (·.1) <+: (ws.l ++ [(x, houseV a1 a2 a3 a4 a5 a6 a7)]).map (·.1)
    rw [List.map_append]
    exact List.prefix_append _ _
  refine ⟨⟨fun _ _ h => h, s.trans sh, ⟨?_, by show w.n + 1 = ws.n + 1; rw [r.nn], ?_, ?_, r.tb.ext sh, r.nt, fun a o u e hd => r.ul a o u (fr a o u e) hd, r.lkw, fun a o u e => sh _ _ (r.lkh a o u e)⟩, fun b o h _ _ => h.mono sh, fun b o h no => ⟨o, sh b o h, no⟩, fun _ _ _ _ h => .inl h, iop, ?_, Nat.le_succ _, fun h => absurd h (by show ws.n + 1 ≠ ws.n; omega), fun n q fq hq => ⟨fq, (by show (ws.l ++ [_])[n]? = _; rw [List.getElem?_append_left (List.getElem?_eq_some_iff.mp hq).1]; exact hq), rfl, fun _ _ _ h => h⟩⟩, ?_⟩
  · obtain ⟨l1, l2⟩ := paired_ix r.obs
    refine paired_of (by show (ws.l ++ [_]).length = (w.o ++ [_]).length; rw [List.length_append, List.length_append, l1]; rfl) fun n q o hq ho => ?_
    have hq : (ws.l ++ [(x, houseV a1 a2 a3 a4 a5 a6 a7)])[n]? = some q := hq
    have ho : (w.o ++ [houseD])[n]? = some o := ho
    by_cases hn : n < ws.l.length
    · rw [List.getElem?_append_left hn] at hq
      rw [List.getElem?_append_left (by rw [← l1]; exact hn)] at ho
      obtain ⟨⟨dx0, h0⟩, pr⟩ := l2 n q o hq ho
      exact ⟨⟨dx0, sh _ _ h0⟩, paired_imp pr fun y z _ ⟨g1, g2⟩ => ⟨g1, g2.move (fun _ _ h => h) iop fun b ob _ hb => hb.mono sh⟩⟩
    · rw [List.getElem?_append_right (by omega)] at hq
      rw [List.getElem?_append_right (by rw [← l1]; omega)] at ho
      have hn0 : n - ws.l.length = 0 := by
        have := (List.getElem?_eq_some_iff.mp hq).1
        simp at this
        omega
      rw [hn0] at hq
      rw [← l1, hn0] at ho
      simp at hq ho
      subst hq ho
      refine ⟨⟨dx, i.at_⟩, .cons ⟨rfl, .inl ⟨a1, rfl, .lst i.h1 .nil⟩⟩ (.cons ⟨rfl, .inl ⟨a2, rfl, .dK (.inl i.h2) rfl .nil⟩⟩ (.cons ⟨rfl, .inl ⟨a3, rfl, .dK (.inl i.h3) rfl .nil⟩⟩ (.cons ⟨rfl, .inl ⟨a4, rfl, .lst i.h4 .nil⟩⟩ (.cons ⟨rfl, .inl ⟨a5, rfl, .dT (.inl i.h5) rfl .nil⟩⟩ (.cons ⟨rfl, .inl ⟨a6, rfl, .dT (.inl i.h6) rfl .nil⟩⟩ (.cons ⟨rfl, .inr ⟨0, rfl, rfl⟩⟩ (.cons ⟨rfl, .inl ⟨a7, rfl, .lst i.h7 .nil⟩⟩ .nil)))))))⟩
  · show (regs0 (ws.l ++ [(x, houseV a1 a2 a3 a4 a5 a6 a7)])).Nodup
    rw [regs_app]
    refine List.nodup_append.mpr ⟨r.nd, i.nd, fun a ha b hb e => ?_⟩
    subst e
    exact reg_ne r (newx a hb) ha
  · intro a ha
    have ha : a ∈ regs0 (ws.l ++ [(x, houseV a1 a2 a3 a4 a5 a6 a7)]) := ha
    rw [regs_app] at ha
    rcases List.mem_append.mp ha with ha | ha
    · exact r.out a ha
    · exact s.free (newx a ha)
  · intro a ha
    have ha : a ∈ regs0 (ws.l ++ [(x, houseV a1 a2 a3 a4 a5 a6 a7)]) := ha
    rw [regs_app] at ha
    rcases List.mem_append.mp ha with ha | ha
    · exact .inl ha
    · exact .inr (Fr.of (newx a ha))
  · show Rep _ _ _ _ _
    refine .obj ?_
    show ((ws.l ++ [(x, houseV a1 a2 a3 a4 a5 a6 a7)]).map (·.1))[w.o.length]? = some x
    rw [List.map_append, List.getElem?_append_right (by rw [List.length_map, (paired_ix r.obs).1]; exact Nat.le_refl _), List.length_map, (paired_ix r.obs).1, Nat.sub_self]
    rfl
theorem ev_new {P : Pm} {H0 : En} {Wi : WX} {E : XK} : EvE P H0 Wi (tMake P.C.a (spInit P.C.a) [] E tNil) dNew := by
  intro σ H G ws ρ w Q st h x dx hx hdx nx
  refine ⟨x, dx, rfl, upd_same, fun Hf a1 a2 a3 a4 a5 a6 a7 i => ⟨rfl, ?_⟩⟩
  obtain ⟨n, rv⟩ := Nx.made st.sub st.rw hx hdx nx i
  exact h (.ref x) Hf G _ n rv fz_nw
/-- the class, as it stands behind the top -/
structure Hcl (P : Program) (w : World) (K : PySem.W.Frag) (mg : Str → Option Value) (base : Heap) (C : Ca) : Prop where
  cl : Cls K C.a
  na : ∀ f ∈ (["ranks", "seats", "known", "weeks", "plans", "cuts", "many", "done"] : List Str), NoAttr K C.a f
  mkh : ∃ f fd, Mk K C.a f ∧ mg "House" = some (.ref C.a) ∧ Binds K fd ["self"] [] ∧ FnOk P w K mg base (L2.CX P w) 1 f fd ["self"] (spInit C.a)
section
variable {X : Cx} {κ : Kx} {k : Nat} {p pos : Pos}
theorem e_new (h : Hcl X.prog X.w X.K X.mg X.base κ.C) (c : Fe X κ k) (hk : 2 ≤ k := by decide) (hg : Gl X "House" := by rfl) : XE X κ (.Call (.Name "House" p) [] [] pos) dNew := by
  obtain ⟨f, fd, M, hm, hb, F⟩ := h.mkh
  exact ⟨_, pe_make0 M F (c.room.mono hk) hg hm hb .nil passL, ev_new⟩
theorem e_fld {f : Str} {o : Expr} {fo : DE} (h : Hcl X.prog X.w X.K X.mg X.base κ.C) (ho : XE X κ o fo) (hf : f ∈ (["ranks", "seats", "known", "weeks", "plans", "cuts", "many", "done"] : List Str) := by decide) (hb : attributeBase o f X.env (eval o X.env) = eval o X.env := by rfl) : XE X κ (.Attribute o f pos) (dFld f fo) := by
  obtain ⟨t, pa, ea⟩ := ho
  exact ⟨_, pe_fld pa hb, ev_fld h.cl (h.na f hf) ea⟩
theorem s_fst {f : Str} {o e : Expr} {fo fe : DE} {pos' : Pos} (h : Hcl X.prog X.w X.K X.mg X.base κ.C) (ho : XE X κ o fo) (he : XE X κ e fe) (hf : f ∈ (["ranks", "seats", "known", "weeks", "plans", "cuts", "many", "done"] : List Str) := by decide)
    (hs : swapsWith e (some (.Attribute o f pos')) pos.line X.env = pure false := by rfl) : XS X κ (.Assign [.Attribute o f pos'] e pos) (sFst f fo fe) := by
  obtain ⟨t, pa, ea⟩ := ho
  obtain ⟨t2, p2, e2⟩ := he
  exact ⟨_, ps_fld pa p2 hs, ev_fst h.cl (h.na f hf) ea e2⟩
theorem s_fapp {f : Str} {o a : Expr} {fo fe : DE} {pos' apos cpos : Pos} (h : Hcl X.prog X.w X.K X.mg X.base κ.C) (ho : XE X κ o fo) (he : XE X κ a fe) (hf : f ∈ (["ranks", "seats", "known", "weeks", "plans", "cuts", "many", "done"] : List Str) := by decide)
    (hb : attributeBase o f X.env (eval o X.env) = eval o X.env := by rfl) (hsw : swapsWith (.Call (.Attribute (.Attribute o f pos') "append" apos) [a] [] cpos) none pos.line X.env = pure false := by rfl)
    (hs1 : starEach [a] X.env = (false, eval a X.env) :: starEach [] X.env := by rfl) (hbase : attributeBase (.Attribute o f pos') "append" X.env (eval (.Attribute o f pos') X.env) = eval (.Attribute o f pos') X.env := by rfl)
    (hfew : ((backTo cpos (starEach [a] X.env)).all (fun x => !x.1) && (backToKw cpos (keywordEach [] X.env)).all (fun x => x.1.isSome) && decide ([a].length + ([] : List Keyword).length + (if ([] : List Keyword).isEmpty then 0 else 1) < 30)) = true := by rfl)
    (hline : (apos.endLine == cpos.line) = true := by rfl) : XS X κ (.Expr (.Call (.Attribute (.Attribute o f pos') "append" apos) [a] [] cpos) pos) (sFapp f fo fe) := by
  obtain ⟨t, pa, ea⟩ := ho
  obtain ⟨t2, p2, e2⟩ := he
  exact ⟨_, ps_expr (pe_bm PySem.F.plainAttrs_list PySem.F.slot_list_append PySem.F.type_list_append mt_append (pe_fld pa hb) (pa_cons p2 pa_nil hs1) hbase hfew hline hs1) hsw, ev_fapp h.cl (h.na f hf) ea e2⟩
end
end DL
/-! Places of dicts; a look that may miss. -/
namespace DL
open PySem PySem.Spec PyProof.Rows L2 L2H
section
variable {X : Cx} {κ : Kx} {k : Nat} {a b o e : Expr} {fa fb fo fe : DE} {es : List Expr} {fr : DA} {pos p p2 p3 apos cpos : Pos} {kk : Nat}
theorem Fe.u1 (c : Fe X κ k) : X.A.units + 1 < cLine := hu_of c.room
/-! d[k] -/
theorem e_ixD (c : Fe X κ k) (ha : XE X κ a fa) (hb : XE X κ b fb) (hs : NoSl b := by exact fun _ _ => rfl) : XE X κ (.Subscript a b pos) (dOp gIxD fa fb) := by
  obtain ⟨t1, p1, e1⟩ := ha
  obtain ⟨t2, p2, e2⟩ := hb
  exact ⟨_, pe_dget c.u1 p1 p2 hs, ev_op e1 e2 rop_ixD gIxD_nx⟩
/-! k in d -/
theorem t_inD (c : Fe X κ k) (ha : XE X κ a fa) (hb : XE X κ b fb) (hm : behindInMarks .In b = false := by rfl) : XT X κ (.Compare a [.In] [b] pos) (tst (dOp (gInD false) fa fb)) := by
  obtain ⟨t1, p1, e1⟩ := ha
  obtain ⟨t2, p2, e2⟩ := hb
  exact ⟨_, pt_cmp (pc_din c.u1 p1 p2) hm, ev_tB (ev_op e1 e2 rop_inD gInD_nx)⟩
theorem t_ninD (c : Fe X κ k) (ha : XE X κ a fa) (hb : XE X κ b fb) (hm : behindInMarks .NotIn b = false := by rfl) : XT X κ (.Compare a [.NotIn] [b] pos) (tst (dOp (gInD true) fa fb)) := by
  obtain ⟨t1, p1, e1⟩ := ha
  obtain ⟨t2, p2, e2⟩ := hb
  exact ⟨_, pt_cmp (pc_dnotin c.u1 p1 p2) hm, ev_tB (ev_op e1 e2 rop_ninD gInD_nx)⟩
/-! d[a, b], (a, b) in d, d.get((a, b), x) -/
theorem e_ixT (c : Fe X κ k) (ha : XE X κ a fa) (hb : XA X κ es fr) (hs : NoSl (.Tuple es kk p) := by exact fun _ _ => rfl) : XE X κ (.Subscript a (.Tuple es kk p) pos) (dIxT fa (keyT fr)) := by
  obtain ⟨t1, p1, e1⟩ := ha
  obtain ⟨t2, p2, e2⟩ := hb
  exact ⟨_, pe_dget c.u1 p1 (pe_tup p2) hs, ev_ixT e1 (ev_keyT e2)⟩
theorem t_inT (c : Fe X κ k) (ha : XA X κ es fr) (hb : XE X κ b fb) (hm : behindInMarks .In b = false := by rfl) : XT X κ (.Compare (.Tuple es kk p) [.In] [b] pos) (tst (dInT false (keyT fr) fb)) := by
  obtain ⟨t1, p1, e1⟩ := ha
  obtain ⟨t2, p2, e2⟩ := hb
  exact ⟨_, pt_cmp (pc_din c.u1 (pe_tup p1) p2) hm, ev_tB (ev_inT (ev_keyT e1) e2)⟩
/-! stores -/
theorem s_fputK {f : Str} {pos' : Pos} (h : Hcl X.prog X.w X.K X.mg X.base κ.C) (c : Fe X κ k) (ho : XE X κ o fo) (hk : XE X κ a fa) (hv : XE X κ e fe) (hf : f ∈ (["ranks", "seats", "known", "weeks", "plans", "cuts", "many", "done"] : List Str) := by decide) (hb : attributeBase o f X.env (eval o X.env) = eval o X.env := by rfl)
    (hs : swapsWith e (some (.Subscript (.Attribute o f p) a pos')) pos.line X.env = pure false := by rfl) : XS X κ (.Assign [.Subscript (.Attribute o f p) a pos'] e pos) (sFputK f fo fa fe) := by
  obtain ⟨t1, p1, e1⟩ := ho
  obtain ⟨t2, p2, e2⟩ := hk
  obtain ⟨t3, p3, e3⟩ := hv
  exact ⟨_, ps_dput c.u1 (pe_fld p1 hb) p2 p3 hs, ev_fputK h.cl (h.na f hf) e1 e2 e3⟩
theorem s_fputT {f : Str} {pos' : Pos} (h : Hcl X.prog X.w X.K X.mg X.base κ.C) (c : Fe X κ k) (ho : XE X κ o fo) (hk : XA X κ es fr) (hv : XE X κ e fe) (hf : f ∈ (["ranks", "seats", "known", "weeks", "plans", "cuts", "many", "done"] : List Str) := by decide) (hb : attributeBase o f X.env (eval o X.env) = eval o X.env := by rfl)
    (hs : swapsWith e (some (.Subscript (.Attribute o f p) (.Tuple es kk p2) pos')) pos.line X.env = pure false := by rfl) : XS X κ (.Assign [.Subscript (.Attribute o f p) (.Tuple es kk p2) pos'] e pos) (sFputT f fo (keyT fr) fe) := by
  obtain ⟨t1, p1, e1⟩ := ho
  obtain ⟨t2, p2, e2⟩ := hk
  obtain ⟨t3, p3, e3⟩ := hv
  exact ⟨_, ps_dput c.u1 (pe_fld p1 hb) (pe_tup p2) p3 hs, ev_fputT h.cl (h.na f hf) e1 (ev_keyT e2) e3⟩
end
/-! ### try: return d[k], except KeyError: raise C('..') from None -/
end DL
/-! Walks over what a field holds; xs[::-1]; a, b = x, y for names that are captured. -/
namespace DL
open PySem PySem.Spec PyProof.Rows L2
section
variable {P : Pm} {H0 : En} {Wi : WX} {to ta : TE} {fo fa : DE} {ts : TS} {gs : DS} {tr : TA} {fr : DA}
theorem itl_okV {Ok : Hp → Hp → Ws → Prop} {a : Addr} {ds : List D} (h : ∀ G H ws, Ok G H ws → ∃ vs, SqL P.K H a vs ∧ Reps P.K G (io ws) vs ds) : ItOk P (Itl P.K a) Ok ds where
  go := fun G H ws i d ok e => by
    obtain ⟨vs, h1, h2⟩ := h G H ws ok
    obtain ⟨v, hv, _⟩ := h2.getD e
    exact ⟨vs, v, h1, hv⟩
  yl := fun G H ws w i d x H' ok s r e y => by
    obtain ⟨vs, h1, h2⟩ := h G H ws ok
    obtain ⟨v, hv, rp⟩ := h2.getD e
    obtain ⟨rfl, y⟩ := y
    have := y vs h1
    rw [hv] at this
    cases this
    exact ⟨G, Nx.refl s r, rp⟩
  st := fun G H ws ok => by
    obtain ⟨vs, h1, h2⟩ := h G H ws ok
    exact ⟨vs, h1, by rw [h2.length]; exact Nat.le_refl _⟩
theorem stab_lookup {f : Str} {a : Addr} : ∀ {fs fs' : List (Str × V)}, fs'.map (·.1) = fs.map (·.1) → (∀ (x : Nat) f a, fs[x]? = some (f, V.ref a) → fs'[x]? = some (f, V.ref a)) → fs.lookup f = some (.ref a) → fs'.lookup f = some (.ref a)
  | [], _, _, _, h => by cases h
  | _ :: _, [], h, _, _ => by simp at h
  | (n, v) :: fs, (n', v') :: fs', hm, hk, hl => by
    simp only [List.map_cons, List.cons.injEq] at hm
    obtain ⟨rfl, hm⟩ := hm
    rw [List.lookup_cons] at hl ⊢
    cases e : (f == n') with
    | true =>
      rw [e] at hl
      cases hl
      have := hk 0 n' a rfl
      simp at this
      rw [this]
    | false =>
      rw [e] at hl
      exact stab_lookup hm (fun x g b hx => by simpa using hk (x + 1) g b (by simpa using hx)) hl
/-- .. while the world stays as it is -/
noncomputable def forLq (t : Tg) (b : DS) (w0 : W) : List D → Env → W → Out
  | [], ρ, w => .next ρ w
  | d :: ds, ρ, w => match setT t d ρ with
    | none => .bad
    | some ρ' => match b ρ' w with
      | .next ρ2 w2 => open Classical in if w2 = w0 then forLq t b w0 ds ρ2 w2 else .bad
      | .cont ρ2 w2 => open Classical in if w2 = w0 then forLq t b w0 ds ρ2 w2 else .bad
      | .brk ρ2 w2 => .next ρ2 w2
      | o => o
noncomputable def sForF (f : Str) (fo : DE) (t : Tg) (b : DS) : DS := fun ρ w => (fo ρ w).thn ρ fun x w1 => match x.d with
  | .obj k => (match getF w1 k f with | some (.lst ds) => forLq t b w1 ds ρ w1 | _ => .bad)
  | _ => .bad
theorem ev_forF {f : Str} {t : Tg} (c : Cls P.K P.C.a) (n : NoAttr P.K P.C.a f) (ho : EvE P H0 Wi to fo) (hb : EvS P H0 Wi ts gs) : EvS P H0 Wi (tFor (iList P.K (tFld P.K to f)) (gT P.K t) ts) (sForF f fo t gs) := by
  intro σ H G ws ρ w D st h
  unfold sForF at h
  refine ho σ H G ws ρ w _ st (postE_of st h fun x w1 _ h vx H1 G1 ws1 n1 rx kx => ?_)
  have st1 := st.next n1
  have h : PostS P H0 Wi D G1 ws1 _ := PostS.after n1.mon h
  obtain ⟨m, dd⟩ := x
  cases dd with
  | obj k =>
    obtain ⟨p, rfl, e1, rfl⟩ := rv_obj rx
    dsimp only at h
    split at h
    · rename_i ds eg
      obtain ⟨dx, fs, u, o, x, A⟩ := n1.rw.fld e1 eg
      obtain ⟨a, vs0, rfl, ha0, _⟩ := A.fl.lst
      refine ⟨p, P.C.a, dx, fs, .ref a, rfl, A.ins, c, n, A.lk, a, rfl, ⟨_, SqL.of ha0⟩, ?_⟩
      -- the list stands wherever the world is as it was
      have stands : ∀ {σ' : L2.St} {H' G' : Hp} {ws' : Ws} {ρ' : Env}, St P.K P.C H0 σ' H' G' ws' ρ' w1 → Mon G1 ws1 G' ws' → ∃ vs, SqL P.K H' a vs ∧ Reps P.K G' (io ws') vs ds := fun {σ' H' G' ws' ρ'} st' mo => by
        obtain ⟨dx2, fs2, u2, o2, x2, Bx⟩ := st'.rw.fld (pre_get mo.2.1 e1) eg
        obtain ⟨fs3, q1, q2, q3⟩ := mo.2.2.1 k p fs A.at_
        have h0 := Bx.at_
        rw [q1] at h0
        cases h0
        have hl := stab_lookup q2 q3 A.lk
        rw [Bx.lk] at hl
        cases hl
        obtain ⟨a2, vs, ea, hH, rs⟩ := Bx.fl.lst
        cases ea
        exact ⟨vs, SqL.of hH, rs⟩
      have ok : ItOk P (Itl P.K a) (fun G H ws => ∃ vs, SqL P.K H a vs ∧ Reps P.K G (io ws) vs ds) ds := itl_okV fun _ _ _ h => h
      refine ⟨fun i m σ' H' => m = ds.length - i ∧ i ≤ ds.length ∧ ∃ G' ws' ρ', St P.K P.C H0 σ' H' G' ws' ρ' w1 ∧ Mon G1 ws1 G' ws' ∧ PostS P H0 Wi D G' ws' (forLq t gs w1 (ds.drop i) ρ' w1), ⟨ds.length, by simp, Nat.zero_le _, G1, ws1, ρ, st1, .refl, h⟩, ?_⟩
      rintro i m σ' H' ⟨rfl, hi, G', ws', ρ', st', mo, hp⟩
      by_cases hlt : i < ds.length
      · have ed : ds[i]? = some ds[i] := by simp [hlt]
        rw [List.drop_eq_getElem_cons hlt] at hp
        simp only [forLq] at hp
        refine .inr ⟨ok.go G' H' ws' i _ (stands st' mo) ed, fun σ3 H3 => ds.length - (i + 1) = ds.length - (i + 1) ∧ i + 1 ≤ ds.length ∧ ∃ G' ws' ρ', St P.K P.C H0 σ3 H3 G' ws' ρ' w1 ∧ Mon G1 ws1 G' ws' ∧ PostS P H0 Wi D G' ws' (forLq t gs w1 (ds.drop (i + 1)) ρ' w1), fun σ3 H3 hn => ⟨ds.length - (i + 1), by omega, hn⟩, fun v H2 y => ?_⟩
        obtain ⟨G2, n2, rp⟩ := ok.yl G' H' ws' w1 i _ v H2 (stands st' mo) st'.sub st'.rw ed y
        cases es : setT t ds[i] ρ' with
        | none => rw [es] at hp; exact hp.elim
        | some ρ3 =>
          rw [es] at hp
          dsimp only at hp
          refine ev_tg (st'.next n2) rp es fun σ3 st3 => ?_
          refine hb σ3 H2 G2 ws' ρ3 w1 _ st3 ?_
          have mo2 : Mon G1 ws1 G2 ws' := mo.trans n2.mon
          have go : ∀ ρ4 w4, PostS P H0 Wi D G' ws' (open Classical in if w4 = w1 then forLq t gs w1 (ds.drop (i + 1)) ρ4 w4 else .bad) → ∀ σ4 H4 G4 ws4, St P.K P.C H0 σ4 H4 G4 ws4 ρ4 w4 → Mon G2 ws' G4 ws4 → ds.length - (i + 1) = ds.length - (i + 1) ∧ i + 1 ≤ ds.length ∧ ∃ G' ws' ρ', St P.K P.C H0 σ4 H4 G' ws' ρ' w1 ∧ Mon G1 ws1 G' ws' ∧ PostS P H0 Wi D G' ws' (forLq t gs w1 (ds.drop (i + 1)) ρ' w1) := by
            intro ρ4 w4 hq σ4 H4 G4 ws4 st4 m4
            by_cases hw : w4 = w1
            · subst hw
              rw [if_pos rfl] at hq
              exact ⟨rfl, hlt, G4, ws4, ρ4, st4, mo2.trans m4, PostS.after (n2.mon.trans m4) hq⟩
            · rw [if_neg hw] at hq; exact hq.elim
          cases eb : gs ρ3 w1 with
          | bad => rw [eb] at hp; exact hp
          | ex x ρ4 w4 => rw [eb] at hp; exact hp
          | ret x w4 => rw [eb] at hp; exact hp
          | brk ρ4 w4 => rw [eb] at hp; exact fun σ4 H4 G4 ws4 st4 m4 => hp σ4 H4 G4 ws4 st4 (n2.mon.trans m4)
          | next ρ4 w4 => rw [eb] at hp; exact go ρ4 w4 hp
          | cont ρ4 w4 => rw [eb] at hp; exact go ρ4 w4 hp
      · have ei : i = ds.length := by omega
        subst ei
        refine .inl ⟨ok.st G' H' ws' (stands st' mo), ?_⟩
        rw [List.drop_length] at hp
        exact hp σ' H' G' ws' st' .refl
    · exact h.elim
  | _ => exact h.elim
/-! ### xs[::-1] -/
/-! ### a, b, .. = x, y, .. by a tuple -/
end
section
variable {X : Cx} {κ : Kx} {k : Nat} {o a b : Expr} {fo fa : DE} {gs : DS} {es xs : List Expr} {fr : DA} {pos p p2 p3 pt pt2 : Pos} {kt k2 : Nat} {tg : Expr} {body : List Stmt}
theorem s_forF {f : Str} (t : Tg) (h : Hcl X.prog X.w X.K X.mg X.base κ.C) (c : Fc X κ k) (ho : XE X κ o fo) (hg : PG X tg (gT X.K t)) (hb : XB X κ body gs) (hf : f ∈ (["ranks", "seats", "known", "weeks", "plans", "cuts", "many", "done"] : List Str) := by decide) (hba : attributeBase o f X.env (eval o X.env) = eval o X.env := by rfl)
    (hs : ∀ x, foldedSetIterable (.Attribute o f p) X.env x = pure x := by intro _; rfl) : XS X κ (.For tg (.Attribute o f p) body [] pos) (sForF f fo t gs) := by
  obtain ⟨t1, p1, e1⟩ := ho
  obtain ⟨tb, pb, eb⟩ := hb
  exact ⟨_, ps_for c.pass c.calm (pi_list (pe_fld p1 hba)) hg pb hs, ev_forF h.cl (h.na f hf) e1 eb⟩
end
end DL
namespace DL
open PySem L2
/-! ### f(): no arguments -/
/-! ### a, b, .. = a list -/
def sSetU (is : List Nat) (f : DE) : DS := fun ρ w => (f ρ w).thn ρ fun x w => match x.d with
  | .lst ds => if is.length = ds.length then .next (setAll is ds ρ) w else .bad
  | _ => .bad
section
variable {P : Pm} {H0 : En} {Wi : WX} {ta : TE} {fa : DE}
theorem ev_setU {is : List Nat} (ha : EvE P H0 Wi ta fa) : EvS P H0 Wi (tAsg ta (gUnl P.K is.length (gNames is))) (sSetU is fa) := by
  intro σ H G ws ρ w D st h
  unfold sSetU at h
  refine ha σ H G ws ρ w _ st (postE_of st h fun x w' _ h v H1 G1 ws1 n r k => ?_)
  obtain ⟨m, d⟩ := x
  cases d <;> try exact h.elim
  rename_i ds
  obtain ⟨a, vs, rfl, q1, r1⟩ := rv_lst n.sub r
  dsimp only at h
  split at h
  · rename_i hl
    exact ⟨a, vs, rfl, .inl (.inl q1), by rw [r1.length, hl], St.setAll (st.next n) r1 hl _ fun σ' s' => h σ' H1 G1 ws1 s' n.mon⟩
  · exact h.elim
end
section
variable {X : Cx} {κ : Kx} {k : Nat} {p pos : Pos} {a : Expr} {fa : DE}
theorem s_setU {xs : List Expr} {kk : Nat} (is : List Nat) (c : Fe X κ k) (ha : XE X κ a fa) (hg : PGs X xs (gNames is)) (hn : (assignEach xs X.env).length = is.length := by rfl) (hst : (assignEach xs X.env).findIdx? (·.1) = none := by rfl)
    (hs : swapsWithSole [.Tuple xs kk p] a pos.line X.env = pure false := by rfl) (hw : swappedStores [.Tuple xs kk p] a X.env = pure none := by rfl) (h1 : (assignEach [.Tuple xs kk p] X.env).map (·.2) = [assign (.Tuple xs kk p) X.env] := by rfl) : XS X κ (.Assign [.Tuple xs kk p] a pos) (sSetU is fa) := by
  obtain ⟨t, pa, ea⟩ := ha
  exact ⟨_, ps_asg pa (pg_unl c.calm hg hn hst) hs hw h1, ev_setU ea⟩
end
/-! ### len(d), sorted(d): a dict by texts -/
def gLenD : List Val → W → R Val := fun xs w => match xs with
  | [x] => (match x.d with | .dK kvs => .ok (fz (.int kvs.length)) w | _ => .bad)
  | _ => .bad
theorem gLenD_nx (x : List Val) (w : W) (e : Xc) (w' : W) : gLenD x w ≠ .ex e w' := by
  unfold gLenD
  split <;> (try split) <;> exact fun h => nomatch h
def rLenDk : List V → Hp → VK → Prop := fun xs H Q => ∃ a kvs, xs = [V.ref a] ∧ Rd H a (.dK kvs) ∧ Q (.int kvs.length) H
theorem call_lenDk {X : Cx} : CallR X (.builtin "len") rLenDk := by
  intro pins s σ H xs us Q I r h
  obtain ⟨a, kvs, rfl, ha, q⟩ := h
  obtain ⟨u, rfl, ru⟩ := vals1 r
  cases ru
  exact d_len I ha fun t s' I' => ⟨.int kvs.length, H, I', ⟨t, rfl⟩, q⟩
section
variable {P : Pm}
theorem rc_lenD : RCall P rLenDk gLenD := by
  intro H G ws w vs xs Q s r hx h
  match xs, hx, h with
  | [⟨m, d⟩], hx, h =>
    obtain ⟨v, rfl, hv⟩ := rvs1 hx
    cases d <;> try exact h.elim
    rename_i kvs
    obtain ⟨a, ks, rfl, hl, k1, _⟩ := rv_dK s hv
    have e := congrArg List.length k1
    rw [List.length_map, List.length_map] at e
    exact ⟨a, ks, rfl, hl.rd, fz_q s r h (by rw [e]; exact .int _)⟩
end
section
variable {X : Cx} {κ : Kx} {k : Nat} {p pos : Pos} {a : Expr} {fr : DA}
theorem e_lenD (hm : X.mg "len" = none) (ha : XA X κ [a] fr) (hg : Gl X "len" := by rfl) (he : starEach [a] X.env = (false, eval a X.env) :: starEach [] X.env := by rfl) : XE X κ (.Call (.Name "len" p) [a] [] pos) (dCB gLenD fr) := e_cb call_lenDk rc_lenD gLenD_nx hm PySem.boot_len ha hg (by decide) (by decide) he
end
end DL
namespace DL
open PySem PySem.Spec PyProof.Rows L2
/-! ### list(d.values()) -/
end DL
/-! An own error class called with keywords; its __init__ calls the base's own. -/
namespace DL
section
open PySem PySem.Spec PySem.Calls PySem.HandSPX PyProof.Rows
variable {prog : Program} {w : World} {A : Around} {E : Value → Shared → Prop} {R : Result → Shared → Prop} {h : Heap} {g : Array GenState} {d : Drawn} {t : Nat} {os : OsState} {M : Model}
variable {nm q : Str} {C N : Addr} {bs bm bmB : List Value} {hdct : Bool} {sn : List Str} {sub : List Value} {ab : Bool} {col : Option Bool} {dd : Option Addr} {k0 k1 k2 k3 k5 : Option Value} {B newId initId : String}
theorem kw_check (FB : ExcBaseFacts B newId initId bmB) (hT : ∀ X : String, bm.contains (.type X) = bmB.contains (.type X)) {us : List Value} {kw : List (Str × Value)} {Q : Unit → Shared → Prop}
    (oC : h.get? C = some (excClassObj nm q C N bs bm hdct sn sub ab col dd k0 k1 k2 k3 k5 newId)) (hq : Q () ⟨h, g, d, t, os⟩) : wpAny M A (checkBuiltinCall newId ⟨.ref C :: us, kw⟩) Q E ⟨h, g, d, t, os⟩ := by
  have c1 : (Value.ref C :: bm).contains (.type B) = true := by rw [List.contains_cons, hT, FB.hasB, Bool.or_true]
  have c2 := FB.noStar
  simp only [checkBuiltinCall, FB.newKind, FB.newSplit, FB.newRow]
  repeat (first | refine wpAny_loadPart_at oC ?_ | (refine wpAny_isSubtype_exc oC ?_; rw [c1]) | refine wpAny_staticBase_exc oC ?_ | refine wpAny_madeBy_exc oC ?_ | simp only [bne_self_eq_false, Bool.false_eq_true, if_false] | wp_step)
  exact hq
theorem kw_new (FB : ExcBaseFacts B newId initId bmB) (hT : ∀ X : String, bm.contains (.type X) = bmB.contains (.type X)) {us : List Value} {kw : List (Str × Value)}
    (oC : h.get? C = some (excClassObj nm q C N bs bm hdct sn sub ab col dd k0 k1 k2 k3 k5 newId))
    (hq : R (.ok (.ret (.ref (h.objs.size + 1)))) ⟨(h.push (W.kdv_tup us)).push (excO C h.objs.size), g, d, t, os⟩) (hl : us.length ≤ sizeLine) :
    codeAny (model prog w) A (.builtin newId ⟨.ref C :: us, kw⟩) R ⟨h, g, d, t, os⟩ := by
  have c0 := FB.ends
  have c1 : (Value.ref C :: bm).contains (.type B) = true := by rw [List.contains_cons, hT, FB.hasB, Bool.or_true]
  have c2 : (Value.ref C :: bm).contains (.type "AttributeError") = false := by rw [List.contains_cons, hT, FB.noAttr]; rfl
  have c3 : (Value.ref C :: bm).contains (.type "NameError") = false := by rw [List.contains_cons, hT, FB.noName]; rfl
  refine codeAny_builtinAt FB.entry ?_
  unfold Builtin.«BaseException.__new__»
  refine PyProof.Rows.wpAt_bind ?_
  show PyProof.Rows.wpAt _ _ _ (stack >>= _) _ _ _
  refine PyProof.Rows.wpAt_bind (PyProof.Rows.wpAt_stack fun pp bb => wpAt_of_wpAny ?_)
  wp_walk
  refine wpAt_of_wpAny ?_
  rw [FB.owner]
  repeat (first | with_reducible refine wpAny_madeHere_exc FB.canon oC ?_ | with_reducible refine wpAny_loadPart_at oC ?_ | (with_reducible refine wpAny_isSubtype_exc oC ?_; first | rw [c1] | rw [c2] | rw [c3]) | wp_step)
  show R _ _
  rw [Heap.size_push]
  exact hq
theorem kw_tcall (FB : ExcBaseFacts B newId initId bmB) (hT : ∀ X : String, bm.contains (.type X) = bmB.contains (.type X)) {us : List Value} {kw : List (Str × Value)} {fI : Addr} {Q : Fin → Shared → Prop}
    (oC : h.get? C = some (excClassObj nm q C N bs bm hdct sn sub ab col dd k0 k1 k2 k3 k5 newId))
    (hi : W.Looks (model prog w) h (typeLookup (.ref C) "__init__") (some (.ref fI))) (hb : ∀ self, W.Looks (model prog w) h (bindSpecial (.ref fI) self) (.ref fI, [self])) (hl : us.length ≤ sizeLine)
    (hq : codeAny (model prog w) A (.call (.ref fI) ⟨.ref (h.objs.size + 1) :: us, kw⟩)
      (fun r s' => match r with | .ok (.ret v) => v = .none ∧ Q (.done (.ret (.ref (h.objs.size + 1)))) s' | .ok _ => False | .error e => E e s')
      ⟨(h.push (W.kdv_tup us)).push (excO C h.objs.size), g, d, t, os⟩) :
    wpAny (model prog w) A (Builtin.«type.__call__» ⟨.ref C :: us, kw⟩) Q E ⟨h, g, d, t, os⟩ := by
  repeat (first | with_reducible refine wpAny_loadPart_at oC ?_ | with_reducible refine wpAny_madeBy_exc oC ?_ | wp_step)
  refine codeAny_call_builtin_code (Code.quiet_builtin _ FB.quiet) (kw_check FB hT oC ?_)
  refine kw_new FB hT oC ?_ hl
  show wpAny _ _ _ _ _ _
  have k : ∀ b o, h.get? b = some o → ((h.push (W.kdv_tup us)).push (excO C h.objs.size)).get? b = some o := fun b o e => Heap.get?_push_of_some _ (Heap.get?_push_of_some _ e)
  have oC2 := k _ _ oC
  have ge : ((h.push (W.kdv_tup us)).push (excO C h.objs.size)).get? (h.objs.size + 1) = some (excO C h.objs.size) := by heap_get
  have cC : (Value.ref C :: bm).contains (.ref C) = true := by simp
  have i1 := hi.keeps k
  have b1 := (hb (.ref (h.objs.size + 1))).keeps k
  unfold isInstance
  repeat (first | with_reducible refine wpAny_loadPart_at ge ?_ | (with_reducible refine wpAny_isSubtype_exc oC2 ?_; rw [cC]) | wp_step)
  show wpAny _ _ (typeLookup (.ref C) _) _ _ _
  refine i1.at ?_
  refine wpAny_holding (wpAny_bind (b1.at ?_))
  refine wpAny_bind (wpAny_call (codeAny_mono hq fun r s' z => ?_))
  rcases r with e | (v | _ | _ | _) <;> first | exact z | exact z.elim | skip
  obtain ⟨rfl, z⟩ := z
  first
    | exact wpAny_pure (wpAny_pure z)
    | (wp_walk; exact z)
theorem kw_call (FB : ExcBaseFacts B newId initId bmB) (hT : ∀ X : String, bm.contains (.type X) = bmB.contains (.type X)) {us : List Value} {kw : List (Str × Value)} {fI : Addr}
    (oC : h.get? C = some (excClassObj nm q C N bs bm hdct sn sub ab col dd k0 k1 k2 k3 k5 newId))
    (hi : W.Looks (model prog w) h (typeLookup (.ref C) "__init__") (some (.ref fI))) (hb : ∀ self, W.Looks (model prog w) h (bindSpecial (.ref fI) self) (.ref fI, [self])) (hl : us.length ≤ sizeLine)
    (hq : codeAny (model prog w) (A.under (.builtin "type.__call__" ⟨.ref C :: us, kw⟩)) (.call (.ref fI) ⟨.ref (h.objs.size + 1) :: us, kw⟩) (W.InitBack (h.objs.size + 1) R)
      ⟨(h.push (W.kdv_tup us)).push (excO C h.objs.size), g, d, t, os⟩) :
    codeAny (model prog w) A (.call (.ref C) ⟨us, kw⟩) R ⟨h, g, d, t, os⟩ := by
  have f1 := tc_lookup
  have f2 := tc_bind (.ref C)
  have tC : (⟨h, g, d, t, os⟩ : Shared).TypeIs (.ref C) "type" := ⟨_, oC, rfl⟩
  refine codeAny_of_tree ?_
  show wpAny _ _ (callAny (.ref C) _) _ _ _
  repeat (any_goals (first | assumption | with_reducible refine wpAny_loadPart_at oC ?_ | wp_step))
  refine ⟨rfl, ?_⟩
  refine codeAny_call_builtin_at (Code.quiet_builtin _ (by decide +kernel)) entry_typeCall (wpAny_check_type_call_sub oC (kw_tcall FB hT oC hi hb hl ?_))
  refine codeAny_mono hq fun r s' z => ?_
  rcases r with e | (v | _ | _ | _) <;> exact z
end
open PySem PySem.Spec PyProof.Rows L2
/-! ### AirError.__init__(self, ..): the __init__ of a class of our own that is ValueError's -/
section
variable {X : Cx} {e : Expr} {es : List Expr} {ta : TA} {p1 p2 pos : Pos} {A : Addr} {x : Str} {mc : Value}
theorem pe_ownInit {pl : Sem Bool} (hg : Gl X x) (hm : X.mg x = some (.ref A)) (hga : PySem.W.specialIn X.K (.ref A) "__getattribute__" = some (some (.builtin "type.__getattribute__"))) (hr : PySem.W.readsIn X.K A mc = true)
    (vA : PySem.W.findCls X.K (.ref A) mc "__init__" = some (.val (.builtin "ValueError.__init__"))) (ha : PA X (e :: es) ta) (hdb : (x == ("__debug__" : Str)) = false := by decide)
    (hc : eval (.Call (.Attribute (.Name x p1) "__init__" p2) (e :: es) [] pos) X.env = (do
      let ov ← eval (.Name x p1) X.env
      standAt p2.atName
      let (f, first) ← holding [ov] (getMethod ov "__init__" pl)
      callWith pos f first (backTo pos (starEach (e :: es) X.env)) (backToKw pos (keywordEach [] X.env))) := by rfl)
    (he : starEach (e :: es) X.env = (false, eval e X.env) :: starEach es X.env := by rfl) (hpl : (backTo pos (starEach es X.env)).any (·.1) = false := by rfl) :
    PE X (.Call (.Attribute (.Name x p1) "__init__" p2) (e :: es) [] pos) (tVeI X.K ta) := by
  refine ⟨fun pins s σ H Q I h => ?_⟩
  refine PySem.W.methodCall_KW (ld_glob I hg hm ?_ hdb) hc
  refine PySem.W.method_cls I.kIn hga (PySem.W.cls_read I.kIn hr vA ?_)
  refine wpAny_pure ?_
  refine PySem.W.handed_on (by decide +kernel) ?_
  refine PyProof.Rows.callWith_method1 (thn (ha.run pos pins _ σ H _ (I.tok _) h) fun us s1 ⟨vs, H1, I1, r1, a, C, ws, ev, hl, T, ea, q⟩ => ?_) he hpl
  subst ev
  cases r1 with
  | @cons _ u0 _ ur ra rw' =>
    obtain rfl : u0 = Value.ref a := ra
    have hlen : ur.length ≤ sizeLine := by
      rw [← Paired.length rw', sizeLine_eq]
      omega
    exact oinit_ok T I1 ea hlen fun s' J => ⟨.non, H1, J, rfl, q⟩
end
theorem mkp_n {X : Cx} {pins : List (Addr × Obj)} {σ : L2.St} {Q : XK} {s' : Shared} {a C : Addr} {d : Option Addr} (m : L2.MkP X pins σ Q (.ref a) s') (o : ∃ t1 : Addr, s'.heap.get? a = some ({ cls := .ref C, dict := d, data := .fields #[.ref t1, .none, .none, .none, .bool false, .none] } : Obj)) : L2N.MkP X pins σ Q (.ref a) s' := by
  obtain ⟨a', oe, vs, sI, H', cls, d', e, J, k, hne, ha, hz, hd, h1, na, os, ag, r, q⟩ := m
  cases e
  obtain ⟨t1, ho⟩ := o
  refine ⟨a, oe, vs, sI, H', cls, d', rfl, J, k, hne, ha, ⟨hz.1, hz.2, fun vs' e' => ?_⟩, hd, h1, na, os, ag, r, q⟩
  rw [ha] at ho
  cases ho
  cases e'
  rfl
/-! ### X(a, .., k=b, ..): an error with fields -/
def tMkK (C : Addr) (sp : Sp) (n j : Nat) (ta tk : TA) : L2.St → Hp → XK → Prop := fun σ H Q => ta σ H fun vs H1 => tk σ H1 fun zs H2 => vs.length = n ∧ zs.length = j ∧ vs.length ≤ 1000 ∧ ∀ a, H2 a = none → sp (.ref a :: (vs ++ zs)) (upd H2 a (exo a C none))
  (fun v H3 => v = .non ∧ ∃ (d : Addr) (fs : List (Str × V)), H3 a = some (exo a C (some d)) ∧ H3 d = some (exd d fs) ∧ H2 d = none ∧ Q (.ref C) (some d) (upd (L2.del H3 a) d (.xd fs))) (fun _ _ _ => False)
section
variable {X : Cx} {e : Expr} {es : List Expr} {kws : List Keyword} {ta tk : TA} {p pos : Pos}
theorem run_mk {CX : CXT} {C fI : Addr} {k n : Nat} {ks : List Str} {fd : FuncData} {ps : List Str} {sp : Sp} {pins : List (Addr × Obj)} {σ : L2.St} {H : Hp} {s : Shared} {Q : XK} {us zs : List Value} {vs ys : List V} (T : OexC X.K C) (iC : PySem.W.findIn X.K (.ref C) "__init__" = some (some (.ref fI))) (tI : PySem.W.typeIn X.K (.ref fI) = some (.type "function"))
    (F1 : FnOk X.prog X.w X.K X.mg X.base CX k fI fd ps sp) (hr : Room (k + 1) X.A) (hb : ∀ (s : Shared) (us zs : List Value), us.length = n + 1 → zs.length = ks.length → BindsTo s fd ⟨us, ks.zip zs⟩ (ps.zip (us ++ zs))) (hx : Passes CX X (fun _ _ _ => False)) (I1 : Inv X pins σ H s) (r1 : Vals vs us) (rz : Vals ys zs) (l1 : vs.length = n) (l2 : ys.length = ks.length) (l3 : vs.length ≤ 1000)
    (h : ∀ a, H a = none → sp (.ref a :: (vs ++ ys)) (upd H a (exo a C none)) (fun v H3 => v = .non ∧ ∃ (d : Addr) (fs : List (Str × V)), H3 a = some (exo a C (some d)) ∧ H3 d = some (exd d fs) ∧ H d = none ∧ Q (.ref C) (some d) (upd (L2.del H3 a) d (.xd fs))) (fun _ _ _ => False)) :
    wpAny (model X.prog X.w) X.A (call (.ref C) us (ks.zip zs)) (L2N.MkP X pins σ Q) X.xe s := by
  obtain ⟨nm, q, N, bs, bm, sn, sub, ab, col, dd, k0, k1, k2, k3, k5, oC, hbm⟩ := T.cls
  obtain ⟨hp, g, dr, tt, os⟩ := s
  have sz : hp.objs.size ≤ hp.objs.size + 1 := Nat.le_succ _
  have hn : H (hp.objs.size + 1) = none := I1.hok.fresh sz
  have hq := h (hp.objs.size + 1) hn
  have kk : ∀ b o, hp.get? b = some o → ((hp.push (PySem.W.kdv_tup us)).push (PySem.HandSPX.excO C hp.objs.size)).get? b = some o := fun b o z => Heap.get?_push_of_some _ (Heap.get?_push_of_some _ z)
  have ge : ((hp.push (PySem.W.kdv_tup us)).push (PySem.HandSPX.excO C hp.objs.size)).get? (hp.objs.size + 1) = some (PySem.HandSPX.excO C hp.objs.size) := by heap_get
  have I2 : Inv X pins σ (upd H (hp.objs.size + 1) (exo (hp.objs.size + 1) C none)) ⟨(hp.push (PySem.W.kdv_tup us)).push (PySem.HandSPX.excO C hp.objs.size), g, dr, tt, os⟩ :=
    I1.laid (t' := tt) (a := hp.objs.size + 1) (o := exo (hp.objs.size + 1) C none) (h' := (hp.push (PySem.W.kdv_tup us)).push (PySem.HandSPX.excO C hp.objs.size)) kk sz (exo_ok ge)
  have r2 : Vals (V.ref (hp.objs.size + 1) :: (vs ++ ys)) (Value.ref (hp.objs.size + 1) :: us ++ zs) := .cons rfl (r1.append rz)
  have lu : us.length ≤ sizeLine := by
    rw [← Paired.length r1, sizeLine_eq]
    omega
  have b := hb ⟨(hp.push (PySem.W.kdv_tup us)).push (PySem.HandSPX.excO C hp.objs.size), g, dr, tt, os⟩ (Value.ref (hp.objs.size + 1) :: us) zs (by rw [List.length_cons, ← r1.length, l1]) (by rw [← rz.length, l2])
  refine wpAny_call (kw_call F.excBase_ValueError (fun Y => PySem.HandSPX.refsVE_contains Y bm hbm) (I1.kIn _ _ oC) (PySem.W.looks_findIn I1.kIn iC) (fun self => PySem.W.bind_fn I1.kIn self tI) lu (codeAny_mono (F1.run _ X.stack _ _ ⟨Value.ref (hp.objs.size + 1) :: us, ks.zip zs⟩ _ _ _ (fun _ _ _ => False) (hr.make C us (ks.zip zs)) (I2.env0.make C us (ks.zip zs)) b r2 hq) fun r s' hq' => ?_))
  cases r with
  | error er => exact hx pins σ _ _ er s' I2 hq'
  | ok fl =>
    cases fl with
    | ret u =>
      obtain ⟨v, H2, os2, bare2, un2, hok2, rv, ev, d, fs, ea, ed, hd1, q2⟩ := hq'
      subst ev
      obtain ⟨h2, g2, d2, t2, os'⟩ := s'
      exact ⟨rv, mkp_n (mk_end (raises_own T.exC T.tyC) I1 sz kk un2 hok2 os2 bare2 ea ed hd1 q2) (exo_at hok2 ea)⟩
    | next => exact False.elim hq'
    | brk => exact False.elim hq'
    | cont => exact False.elim hq'
theorem pmk_kw {CX : CXT} {x : Str} {C fI : Addr} {k n : Nat} {ks : List Str} {fd : FuncData} {ps : List Str} {sp : Sp} (T : OexC X.K C) (iC : PySem.W.findIn X.K (.ref C) "__init__" = some (some (.ref fI))) (tI : PySem.W.typeIn X.K (.ref fI) = some (.type "function"))
    (F1 : FnOk X.prog X.w X.K X.mg X.base CX k fI fd ps sp) (hr : Room (k + 1) X.A) (hb : ∀ (s : Shared) (us zs : List Value), us.length = n + 1 → zs.length = ks.length → BindsTo s fd ⟨us, ks.zip zs⟩ (ps.zip (us ++ zs))) (hx : Passes CX X (fun _ _ _ => False)) (hg : Gl X x) (hm : X.mg x = some (.ref C)) (ha : PA X (e :: es) ta) (hk : PK X kws tk)
    (hall : (backToKw pos (keywordEach kws X.env)).all (·.1.isSome) = true) (hks : (backToKw pos (keywordEach kws X.env)).filterMap (·.1) = ks) (hdb : (x == ("__debug__" : Str)) = false)
    (hst : starEach (e :: es) X.env = (false, eval e X.env) :: starEach es X.env) (hpl : ((backTo pos (starEach (e :: es) X.env)).any (·.1) || (backToKw pos (keywordEach kws X.env)).any (·.1.isNone)) = false) :
    L2N.PMk X (.Call (.Name x p) (e :: es) kws pos) (tMkK C sp n ks.length ta tk) := by
  intro pins s σ H Q I h
  refine wpAny_Call_Name_kw (ld_glob I hg hm ?_ hdb)
  refine PySem.W.callWith_KW (first := []) (h₀ := X.base) I.ok.mod.kin T.kC hall (thn (ha.run pos pins s σ H _ I h) ?_) hpl hst
  rintro us s2 ⟨vs, H2, I2, r, q2⟩
  refine thn (hk.run pos pins s2 σ H2 _ I2 q2) ?_
  rintro zs s3 ⟨ys, H3, I3, rz, l1, l2, l3, q3⟩
  refine ⟨I3.kIn, ?_⟩
  rw [hks]
  exact run_mk T iC tI F1 hr hb hx I3 r rz l1 l2 l3 q3
end
/-! ### what such an __init__ promises: fs its fields, in order -/
def spO (C : Addr) (fs : List Str) : Sp := fun vs H Q _ => ∃ (a : Addr) (ys : List V), vs = .ref a :: ys ∧ ys.length = fs.length ∧ H a = some (exo a C none) ∧ ∀ (H' : Hp) (dx : Addr), H dx = none → dx ≠ a → H' a = some (exo a C (some dx)) → H' dx = some (exd dx (fs.zip ys).reverse) → (∀ b, b ≠ a → b ≠ dx → H' b = H b) → Q .non H'
theorem oread1 {K : PySem.W.Frag} {C : Addr} {N : List Str} {f n1 : Str} {H : Hp} {vs : List V} {Q : VK} {E : XK} {m : Str} (hN : N = (["self", n1] : List Str)) (T : OexC K C) (n : PySem.W.findIn K (.ref C) f = some none) (h : spO C [f] vs H Q E) :
    tSeq (tDrop (tVeI K (tCons (tVar 0) (tCons (tC (.str m)) tNil)))) (tOst K f (tVar 0) (tVar 1)) { nx := fun _ H' => Q .non H', rt := Q } (L2.start N vs) H := by
  subst hN
  obtain ⟨a, ys, rfl, hl, ha, hq⟩ := h
  match ys, hl with
  | [y], _ =>
    refine ⟨_, rfl, a, C, [.str m], rfl, by simp, T, ha, ?_⟩
    refine ⟨_, rfl, _, rfl, a, C, rfl, T, n, .inl ⟨ha, fun dx hd ne => ?_⟩⟩
    refine hq _ dx hd ne (upd_same) (by rw [upd_ne ne, upd_same]; rfl) fun b h1 h2 => by rw [upd_ne h1, upd_ne h2]
/-- an error class with fields, as it stands behind the top -/
structure Ocl (P : Program) (w : World) (K : PySem.W.Frag) (mg : Str → Option Value) (base : Heap) (cm : Cm) (x : String) (fs : List Str) (sh : List (Nat × List Str)) : Prop where
  ex : ∃ C fI fd ps, mg x = some (.ref C) ∧ cm x = some C ∧ OexC K C ∧ PySem.W.findIn K (.ref C) "__init__" = some (some (.ref fI)) ∧ PySem.W.typeIn K (.ref fI) = some (.type "function") ∧ FnOk P w K mg base (L2.CX P w) 1 fI fd ps (spO C fs) ∧ (∀ q ∈ sh, q.1 + q.2.length = fs.length ∧ ∀ (s : Shared) (us zs : List Value), us.length = q.1 + 1 → zs.length = q.2.length → BindsTo s fd ⟨us, q.2.zip zs⟩ (ps.zip (us ++ zs)))
def sRaiseF (c : String) (fs : List Str) (n j : Nat) (fr fk : DA) : DS := fun ρ w => (fr ρ w).thn ρ fun xs w1 => match frzD xs with
  | some ds => (fk ρ w1).thn ρ fun zs w2 => match frzD zs with
    | some es => if ds.length = n ∧ es.length = j then .ex ⟨c, (fs.zip (ds ++ es)).reverse⟩ ρ w2 else .bad
    | none => .bad
  | none => .bad
theorem Nx.xd {K : PySem.W.Frag} {C : Ca} {G H : Hp} {ws : Ws} {w : W} {d : Addr} {fs : List (Str × V)} (s : Sm G H) (r : RelW K C G H ws w) (hd : H d = none) : Nx K C G H ws G (upd H d (.xd fs)) ws w := Nx.new s r hd
theorem zip_rep {K : PySem.W.Frag} {G : Hp} {ι : List Addr} : ∀ {fs : List Str} {vs : List V} {ds : List D}, Reps K G ι vs ds → Paired (fun (p : Str × V) (q : Str × D) => p.1 = q.1 ∧ Rep K G ι p.2 q.2) (fs.zip vs) (fs.zip ds)
  | [], _, _, _ => .nil
  | _ :: _, _, _, .nil => .nil
  | _ :: _, _, _, .cons a b => .cons ⟨rfl, a⟩ (zip_rep b)
theorem paired_app {α β : Type} {F : α → β → Prop} : ∀ {l : List α} {m : List β} {l' : List α} {m' : List β}, Paired F l m → Paired F l' m' → Paired F (l ++ l') (m ++ m')
  | _, _, _, _, .nil, h => h
  | _, _, _, _, .cons a b, h => .cons a (paired_app b h)
theorem paired_rev {α β : Type} {F : α → β → Prop} : ∀ {l : List α} {m : List β}, Paired F l m → Paired F l.reverse m.reverse
  | _, _, .nil => .nil
  | _, _, .cons a b => by rw [List.reverse_cons, List.reverse_cons]; exact paired_app (paired_rev b) (.cons a .nil)
theorem ev_raiseF {P : Pm} {H0 : En} {Wi : WX} {c : String} {C : Addr} {fs : List Str} {n j : Nat} {ta tk : TA} {fr fk : DA} (hc : P.cm c = some C) (hf : fs ≠ []) (hnj : n + j = fs.length) (hn : n ≤ 1000) (ha : EvA P H0 Wi ta fr) (hk : EvA P H0 Wi tk fk) :
    EvS P H0 Wi (fun _ σ H => tMkK C (spO C fs) n j ta tk σ H fun cls d H' => Wi cls d σ H') (sRaiseF c fs n j fr fk) := by
  intro σ H G ws ρ w D st h
  unfold sRaiseF at h
  refine ha σ H G ws ρ w _ st (postA_of st h fun xs w1 _ h vs H1 G1 ws1 n1 r1 k1 => ?_)
  cases e1 : frzD xs with
  | none => rw [e1] at h; exact h.elim
  | some ds =>
    rw [e1] at h
    obtain ⟨G2, s2, n2, rs⟩ := freezeAll n1 r1 k1 e1
    have h := PostS.after n2.mon h
    refine hk σ H1 G2 ws1 ρ w1 _ (st.next n2) (postA_of (st.next n2) h fun zs w2 _ h ys H2 G3 ws2 n3 r3 k3 => ?_)
    cases e2 : frzD zs with
    | none => rw [e2] at h; exact h.elim
    | some es =>
      rw [e2] at h
      dsimp only at h
      split at h
      · rename_i hl
        obtain ⟨G4, s4, n4, rz⟩ := freezeAll n3 r3 k3 e2
        have h : PostS P H0 Wi D G2 ws1 (.ex ⟨c, (fs.zip (ds ++ es)).reverse⟩ ρ w2) := h
        have lv : vs.length = n := by rw [rs.length]; exact hl.1
        have lz : ys.length = j := by rw [rz.length]; exact hl.2
        refine ⟨lv, lz, by omega, fun a hna => ?_⟩
        refine ⟨a, vs ++ ys, rfl, by rw [List.length_append]; omega, upd_same, fun H' dx hd ne ea ed eo => ⟨rfl, dx, _, ea, ed, ?_, ?_⟩⟩
        · rw [upd_ne ne] at hd; exact hd
        · rw [upd_ne ne] at hd
          have eF : upd (L2.del H' a) dx (.xd (fs.zip (vs ++ ys)).reverse) = upd H2 dx (.xd (fs.zip (vs ++ ys)).reverse) := by
            funext b
            by_cases hb : b = dx
            · subst hb; rw [upd_same, upd_same]
            · rw [upd_ne hb, upd_ne hb]
              by_cases hb2 : b = a
              · subst hb2; rw [L2.del_same, hna]
              · rw [L2.del_ne hb2, eo b hb2 hb, upd_ne hb2]
          rw [eF]
          have n5 := Nx.xd (fs := (fs.zip (vs ++ ys)).reverse) n4.sub n4.rw hd
          have rr : Reps P.K G4 (io ws2) (vs ++ ys) (ds ++ es) := (rs.mono n4.gg n4.io).append rz
          refine h (.ref C) (some dx) σ _ G4 ws2 ((st.next n2).next (n4.trans n5)) ⟨C, hc, rfl, .inr ⟨?_, dx, _, rfl, upd_same, paired_rev (zip_rep rr)⟩⟩
          intro z
          have z : (fs.zip (ds ++ es)).reverse = [] := z
          have : (fs.zip (ds ++ es)).length = 0 := by rw [← List.length_reverse, z]; rfl
          rw [List.length_zip, List.length_append] at this
          have : fs.length = 0 := by omega
          exact hf (List.eq_nil_of_length_eq_zero this)
      · exact h.elim
section
variable {X : Cx} {κ : Kx} {k : Nat} {e : Expr} {es : List Expr} {fr fk : DA} {p pos pos2 : Pos} {kws : List Keyword}
theorem s_raiseF {x : String} {fs : List Str} {sh : List (Nat × List Str)} (q : Nat × List Str) (c : Fe X κ k) (o : Ocl X.prog X.w X.K X.mg X.base κ.cm x fs sh) (hq : q ∈ sh) (ha : XA X κ (e :: es) fr) (hk : XK' X κ kws fk) (hf : fs ≠ [] := by decide) (hn : q.1 ≤ 1000 := by decide) (hk2 : 2 ≤ k := by decide) (hg : Gl X x := by rfl)
    (hall : (backToKw pos (keywordEach kws X.env)).all (·.1.isSome) = true := by rfl) (hks : (backToKw pos (keywordEach kws X.env)).filterMap (·.1) = q.2 := by rfl) (hdb : ((x : Str) == ("__debug__" : Str)) = false := by decide)
    (hst : starEach (e :: es) X.env = (false, eval e X.env) :: starEach es X.env := by rfl) (hpl : ((backTo pos (starEach (e :: es) X.env)).any (·.1) || (backToKw pos (keywordEach kws X.env)).any (·.1.isNone)) = false := by rfl) :
    XS X κ (.Raise (some (.Call (.Name x p) (e :: es) kws pos)) none pos2) (sRaiseF x fs q.1 q.2.length fr fk) := by
  obtain ⟨C, fI, fd, ps, h1, h2, T, iC, tI, F, hsh⟩ := o.ex
  obtain ⟨hl, hb⟩ := hsh q hq
  obtain ⟨t2, p2, e2⟩ := ha
  obtain ⟨t3, p3, e3⟩ := hk
  exact ⟨_, L2N.ps_raise c.calm c.tk (pmk_kw T iC tI F (c.room.mono hk2) hb passL hg h1 p2 p3 hall hks hdb hst hpl), ev_raiseF h2 hf hl hn e2 e3⟩
end
end DL
/-! Walks over the keys of a dict: it is locked meanwhile. -/
namespace DL
open PySem PySem.Spec PyProof.Rows L2
theorem dct_nf {u : HO} (h : Dct u = true) : ∀ q z, u ≠ .frz q z := fun q z e => by subst e; cases h
theorem dct_nt {u : HO} (h : Dct u = true) : Nt u := fun ps e => by subst e; cases h
theorem dct_mut {u : HO} (h : Dct u = true) : Mut (some u) := by cases u <;> first | trivial | cases h
section
variable {K : PySem.W.Frag} {C : Ca} {G H G' H' GE HE : Hp} {ws wsE : Ws} {w w' : W} {a : Addr} {u : HO} {od : Obj}
theorem lk_lock (ha : H a = some u) (hd : Dct u = true) {b : Addr} {o : HO} (h : Lk H b o) : Lk (upd H a (.frz od u)) b o := by
  by_cases hb : b = a
  · subst hb
    rcases h with h | ⟨_, q, h⟩
    · rw [ha] at h; cases h; exact .inr ⟨hd, od, upd_same⟩
    · rw [ha] at h; exact absurd (Option.some.inj h) (dct_nf hd _ _)
  · exact h.upd hb
theorem Nx.lock (s : Sm G H) (r : RelW K C G H ws w) (hl : w.lk = false) (ha : H a = some u) (hd : Dct u = true) (od : Obj) : Nx K C G H ws G (upd H a (.frz od u)) ⟨ws.n + 1, ws.l, some (a, od, u)⟩ ⟨w.n + 1, w.o, true⟩ := by
  have up : ∀ {b o}, Lk H b o → Lk (upd H a (.frz od u)) b o := fun h => lk_lock ha hd h
  have ni : ∀ b C' dx fs, H b = some (.ins C' dx fs) → b ≠ a := fun b C' dx fs e z => by rw [z, ha] at e; cases e; cases hd
  refine ⟨fun _ _ h => h, fun b o h => up (s b o h), ⟨paired_imp r.obs fun q o hq ⟨⟨dx, e⟩, p⟩ => ⟨⟨dx, by rw [upd_ne (ni _ _ _ _ e)]; exact e⟩, paired_imp p fun x y hx ⟨e, f⟩ => ⟨e, f.move (fun _ _ h => h) (List.prefix_refl _) fun b o _ hb => up hb⟩⟩, ?_, r.nd, r.out, ?_, r.nt, fun b q z e hz => ?_, rfl, fun b q z e => ?_⟩, fun b o h _ _ => up h, fun b o h no => ?_, fun _ _ _ _ h => .inl h, List.prefix_refl _, fun _ h => .inl h, Nat.le_succ _, fun h => absurd h (by show ws.n + 1 ≠ ws.n; omega), Stab.refl _⟩
  · show w.n + 1 = ws.n + 1
    rw [r.nn]
  · exact tabs_upd r.tb ha (dct_nt hd) (fun f e => by subst e; cases hd)
  · by_cases hb : b = a
    · subst hb; rw [upd_same] at e; cases e; exact .inr rfl
    · rw [upd_ne hb] at e; exact .inl (r.ul0 hl e hz)
  · have e : some (a, od, u) = some (b, q, z) := e
    cases e
    exact upd_same
  · by_cases hb : b = a
    · subst hb; exact ⟨_, upd_same, nt_frz⟩
    · rw [upd_ne hb]; exact ⟨o, h, no⟩
theorem unf_unl {ι : List Addr} {b : Addr} {d : D} (hH : H' a = some (.frz od u)) (h : Unf K G' H' ι b d) : Unf K G' (upd H' a u) ι b d := by
  have cl : ∀ {o}, Lk H' b o → (∀ q z, o ≠ .frz q z) → Lk (upd H' a u) b o := fun {o} h nf => by
    by_cases hb : b = a
    · subst hb
      rcases h with h | ⟨_, q, h⟩
      · rw [hH] at h; exact absurd (Option.some.inj h).symm (nf _ _)
      · rw [hH] at h; cases h; exact .inl upd_same
    · exact h.upd hb
  cases h with
  | lst e r => exact .lst (cl (.inl e) (by intro _ _ z; cases z)).eq r
  | dK e k r => exact .dK (cl e (by intro _ _ z; cases z)) k r
  | dT e k r => exact .dT (cl e (by intro _ _ z; cases z)) k r
theorem Nx.unlock (n0 : Nx K C GE HE wsE G H ws w) (ha : H a = some u) (hd : Dct u = true) (hG : G a = some u ∨ a ∈ regs ws) (n : Nx K C GE HE wsE G' H' ⟨ws.n + 1, ws.l, some (a, od, u)⟩ w') (gg : Same G G') : Nx K C GE HE wsE G' (upd H' a u) ⟨ws.n + 2, ws.l, none⟩ ⟨w'.n + 1, w'.o, false⟩ := by
  have hH : H' a = some (.frz od u) := n.rw.lkh a od u rfl
  have gA : ∀ o, G' a = some o → o = u := fun o e => by
    rcases hG with h | h
    · rw [gg _ _ h] at e; exact (Option.some.inj e).symm
    · rw [n.rw.out a h] at e; cases e
  have ni : ∀ b C' dx fs, H' b = some (.ins C' dx fs) → b ≠ a := fun b C' dx fs e z => by rw [z, hH] at e; cases e
  refine ⟨n.gg, fun b o h => ?_, ⟨paired_imp n.rw.obs fun q o hq ⟨⟨dx, e⟩, p⟩ => ⟨⟨dx, by rw [upd_ne (ni _ _ _ _ e)]; exact e⟩, paired_imp p fun x y hx ⟨e, f⟩ => ⟨e, ?_⟩⟩, ?_, n.rw.nd, n.rw.out, ?_, n.rw.nt, fun b q z e hz => ?_, rfl, fun b q z e => ?_⟩, fun b o h no nr => ?_, fun b o h no => ?_, fun b o h no gb => ?_, n.io, n.fresh, ?_, fun h => ?_, n.stb⟩
  · by_cases hb : b = a
    · subst hb; rw [gA o h]; exact .inl upd_same
    · exact (n.sub b o h).upd hb
  · rcases f with ⟨b, e, v⟩ | h
    · exact .inl ⟨b, e, unf_unl hH v⟩
    · exact .inr h
  · show w'.n + 1 = ws.n + 2
    rw [n.rw.nn]
  · exact tabs_upd n.rw.tb hH nt_frz (by intro _ z; cases z)
  · by_cases hb : b = a
    · subst hb; rw [upd_same] at e; exact absurd (Option.some.inj e) (dct_nf hd _ _)
    · rw [upd_ne hb] at e
      rcases n.rw.ul b q z e hz with y | y
      · exact .inl y
      · have y : some (a, od, u) = some (b, q, z) := y
        cases y
        exact absurd rfl hb
  · cases e
  · by_cases hb : b = a
    · subst hb
      rcases n0.keep b o h no nr with z | ⟨_, q, z⟩
      · rw [ha] at z; cases z; exact .inl upd_same
      · rw [ha] at z; exact absurd (Option.some.inj z) (dct_nf hd _ _)
    · exact (n.keep b o h no nr).upd hb
  · by_cases hb : b = a
    · subst hb; exact ⟨_, upd_same, dct_nt hd⟩
    · rw [upd_ne hb]; exact n.alive b o h no
  · rcases n.nocap b o h no gb with z | ⟨xs, z⟩
    · exact .inl z
    · exact .inr ⟨xs, by rw [upd_ne (fun y => by rw [y, hH] at z; cases z)]; exact z⟩
  · have := n.le
    show wsE.n ≤ ws.n + 2
    have : wsE.n ≤ ws.n + 1 := this
    omega
  · exfalso
    have h1 : wsE.n ≤ ws.n + 1 := n.le
    have h : ws.n + 2 = wsE.n := h
    omega
theorem rv_unl {v : V} {x : Val} (hH : H' a = some (.frz od u)) (hm : x.m = .fz ∨ x.m = .nw) (h : RV K G' H' ⟨ws.n + 1, ws.l, some (a, od, u)⟩ v x) : RV K G' (upd H' a u) ⟨ws.n + 2, ws.l, none⟩ v x := by
  obtain ⟨m, d⟩ := x
  unfold RV at h ⊢
  rcases hm with z | z <;> (simp only at z; subst z)
  · exact h
  · obtain ⟨b, e, g, nr, v⟩ := h
    exact ⟨b, e, g, nr, unf_unl hH v⟩
theorem St.unlock {e : En} {σ σ' : L2.St} {ρ ρ' : Env} (st : St K C e σ H G ws ρ w) (ha : H a = some u) (hd : Dct u = true) (hG : G a = some u ∨ a ∈ regs ws) (st' : St K C e σ' H' G' ⟨ws.n + 1, ws.l, some (a, od, u)⟩ ρ' w') (gg : Same G G') : St K C e σ' (upd H' a u) G' ⟨ws.n + 2, ws.l, none⟩ ρ' ⟨w'.n + 1, w'.o, false⟩ where
  nx0 := Nx.unlock st.nx0 ha hd hG st'.nx0 gg
  len := st'.len
  sl := fun i x e => by
    obtain ⟨v, h1, h2, h3⟩ := st'.sl i x e
    exact ⟨v, h1, rv_unl (st'.rw.lkh a od u rfl) h3 h2, h3⟩
  own := st'.own
  ap := st'.ap
/-- a tuple that stands is taken as frozen -/
theorem Nx.cap {q : Addr} {vs : List V} (s : Sm G H) (r : RelW K C G H ws w) (hq : H q = some (.tup vs)) (g : G q = none) : Nx K C G H ws (upd G q (.tup vs)) H ws w := by
  have sg : Same G (upd G q (.tup vs)) := fun b v e => by rw [upd_ne (ne_of_none e g)]; exact e
  refine ⟨sg, fun b v e => ?_, ⟨paired_imp r.obs fun q o hq ⟨e, p⟩ => ⟨e, paired_imp p fun x y hx ⟨e, f⟩ => ⟨e, f.move sg (List.prefix_refl _) fun _ _ _ h => h⟩⟩, r.nn, r.nd, fun b hb => ?_, r.tb, fun b u e => ?_, fun b o u e hd => (r.ul b o u e hd).imp (sg _ _) id, r.lkw, r.lkh⟩, fun _ _ h _ _ => h, fun _ o h n => ⟨o, h, n⟩, fun b o h no gb => ?_, List.prefix_refl _, fun _ h => .inl h, Nat.le_refl _, fun _ => ⟨rfl, fun _ _ _ h => h⟩, Stab.refl _⟩
  · by_cases hb : b = q
    · subst hb; rw [upd_same] at e; cases e; exact .inl hq
    · rw [upd_ne hb] at e; exact s b v e
  · have hne : b ≠ q := fun z => reg_not_tup r hq (by rw [← z]; exact hb)
    rw [upd_ne hne]; exact r.out b hb
  · by_cases hb : b = q
    · subst hb; rw [upd_same] at e; cases e; exact nt_tup
    · rw [upd_ne hb] at e; exact r.nt b u e
  · by_cases hb : b = q
    · subst hb; exact .inr ⟨vs, hq⟩
    · rw [upd_ne hb]; exact .inl gb
end
/-! ### keys as data -/
def dKy : Key → D
  | .inl i => .int i
  | .inr x => .str x
theorem ky_rep {K : PySem.W.Frag} {G : Hp} {ι : List Addr} : ∀ k : Key, Rep K G ι (kV k) (dKy k)
  | .inl i => .int i
  | .inr x => .str x
theorem ky_reps {K : PySem.W.Frag} {G : Hp} {ι : List Addr} : ∀ ks : List Key, Reps K G ι (ks.map kV) (ks.map dKy)
  | [] => .nil
  | k :: ks => .cons (ky_rep k) (ky_reps ks)
def keysD : D → Option (List D)
  | .dK kvs => some (kvs.map fun p => dKy p.1)
  | .dT kvs => some (kvs.map fun p => .tup (p.1.map dKy))
  | _ => none
/-- the dict u is seen as d, by its keys -/
inductive KeyR : HO → D → Prop
  | dK {kvs : List (Key × V)} {ds : List (Key × D)} : kvs.map (·.1) = ds.map (·.1) → KeyR (.dK kvs) (.dK ds)
  | dT {kvs : List (List Key × V)} {ds : List (List Key × D)} : kvs.map (·.1) = ds.map (·.1) → KeyR (.dT kvs) (.dT ds)
theorem KeyR.dct {u : HO} {d : D} (h : KeyR u d) : Dct u = true := by cases h <;> rfl
/-- its iterator, while it is locked -/
def itD (a : Addr) (od : Obj) : HO → It
  | .dK kvs => Itk a od kvs
  | .dT kvs => Itkt a od kvs
  | _ => Itk a od []
theorem it_keys {P : Pm} {Ok : Hp → Hp → Ws → Prop} {a : Addr} {od : Obj} {u : HO} {d : D} {ks : List D} (k : KeyR u d) (hk : keysD d = some ks) (h : ∀ G H ws, Ok G H ws → H a = some (.frz od u)) : ItOk P (itD a od u) Ok ks := by
  cases k with
  | @dK kvs ds e =>
    cases hk
    have at_ : ∀ {i : Nat} {x : D}, (ds.map fun p => dKy p.1)[i]? = some x → ∃ k v, kvs[i]? = some (k, v) ∧ x = dKy k := fun {i x} ex => by
      have e2 : (kvs.map (·.1))[i]? = (ds.map (·.1))[i]? := by rw [e]
      rw [List.getElem?_map, List.getElem?_map] at e2
      rw [List.getElem?_map] at ex
      cases e3 : ds[i]? with
      | none => rw [e3] at ex; cases ex
      | some p =>
        rw [e3] at ex e2
        cases ex
        cases e4 : kvs[i]? with
        | none => rw [e4] at e2; cases e2
        | some q =>
          rw [e4] at e2
          simp only [Option.map_some, Option.some.injEq] at e2
          exact ⟨q.1, q.2, rfl, by rw [e2]⟩
    refine ⟨fun G H ws i x ok ex => ?_, fun G H ws w i x v H' ok s r ex y => ?_, fun G H ws ok => ?_⟩
    · obtain ⟨k, v, h1, _⟩ := at_ ex
      exact ⟨h G H ws ok, (List.getElem?_eq_some_iff.mp h1).1⟩
    · obtain ⟨k, v', h1, rfl⟩ := at_ ex
      obtain ⟨rfl, k2, v2, h2, rfl⟩ := y
      rw [h1] at h2
      cases h2
      exact ⟨G, Nx.refl s r, ky_rep k⟩
    · exact ⟨h G H ws ok, by rw [List.length_map, len_rel e]; exact Nat.le_refl _⟩
  | @dT kvs ds e =>
    cases hk
    have at_ : ∀ {i : Nat} {x : D}, (ds.map fun p => D.tup (p.1.map dKy))[i]? = some x → ∃ k v, kvs[i]? = some (k, v) ∧ x = .tup (k.map dKy) := fun {i x} ex => by
      have e2 : (kvs.map (·.1))[i]? = (ds.map (·.1))[i]? := by rw [e]
      rw [List.getElem?_map, List.getElem?_map] at e2
      rw [List.getElem?_map] at ex
      cases e3 : ds[i]? with
      | none => rw [e3] at ex; cases ex
      | some p =>
        rw [e3] at ex e2
        cases ex
        cases e4 : kvs[i]? with
        | none => rw [e4] at e2; cases e2
        | some q =>
          rw [e4] at e2
          simp only [Option.map_some, Option.some.injEq] at e2
          exact ⟨q.1, q.2, rfl, by rw [e2]⟩
    refine ⟨fun G H ws i x ok ex => ?_, fun G H ws w i x v H' ok s r ex y => ?_, fun G H ws ok => ?_⟩
    · obtain ⟨k, v, h1, _⟩ := at_ ex
      exact ⟨h G H ws ok, (List.getElem?_eq_some_iff.mp h1).1⟩
    · obtain ⟨k, v', h1, rfl⟩ := at_ ex
      obtain ⟨rfl, k2, v2, q, h2, rfl, hq⟩ := y
      rw [h1] at h2
      cases h2
      cases eg : G q with
      | none =>
        have n := Nx.cap s r hq eg
        exact ⟨_, n, .tup (.inl (.inl upd_same)) (ky_reps k)⟩
      | some o =>
        have := s q o eg
        rcases this with z | ⟨_, z2, z⟩
        · rw [hq] at z; cases z; exact ⟨G, Nx.refl s r, .tup (.inl (.inl eg)) (ky_reps k)⟩
        · rw [hq] at z; cases z
    · exact ⟨h G H ws ok, by rw [List.length_map, len_rel e]; exact Nat.le_refl _⟩
/-- where a dict is found: what te reads, while it is locked -/
def DRes (P : Pm) (H0 : En) (te : TE) (loc : Env → W → Option D) : Prop := ∀ σ H G ws ρ w d, St P.K P.C H0 σ H G ws ρ w → w.lk = false → loc ρ w = some d → (∃ ks, keysD d = some ks) →
  ∃ a u, H a = some u ∧ KeyR u d ∧ (G a = some u ∨ a ∈ regs ws) ∧ ∀ od (Q : VK), Q (.ref a) (upd H a (.frz od u)) → te σ (upd H a (.frz od u)) Q
def locK (ρ : Env) (w : W) (loc : Env → W → Option D) : Option (List D) := if w.lk = true then none else (loc ρ w).bind keysD
theorem locK_of {ρ : Env} {w : W} {loc : Env → W → Option D} {ks : List D} (h : locK ρ w loc = some ks) : w.lk = false ∧ ∃ d, loc ρ w = some d ∧ keysD d = some ks := by
  unfold locK at h
  split at h
  · cases h
  · rename_i hl
    refine ⟨by simpa using hl, ?_⟩
    cases e : loc ρ w with
    | none => rw [e] at h; cases h
    | some d => rw [e] at h; exact ⟨d, rfl, h⟩
theorem ikeys_of {td : TE} {σ : L2.St} {H : Hp} {R : It → Hp → Prop} {a : Addr} {od : Obj} {u : HO} {d : D} (k : KeyR u d) (ht : ∀ Q : VK, Q (.ref a) (upd H a (.frz od u)) → td σ (upd H a (.frz od u)) Q) (hR : R (itD a od u) (upd H a (.frz od u))) : iKeys td σ (upd H a (.frz od u)) R := by
  refine ht _ ⟨a, od, rfl, ?_⟩
  cases k with
  | dK e => exact .inl ⟨_, upd_same, hR⟩
  | dT e => exact .inr ⟨_, upd_same, hR⟩
section
variable {P : Pm} {H0 : En} {Wi : WX} {td ta : TE} {tA : TT} {fa : DE} {fA : DT} {ts : TS} {gs : DS} {loc : Env → W → Option D}
abbrev wLk (w : W) : W := ⟨w.n + 1, w.o, true⟩
abbrev wUn (w : W) : W := ⟨w.n + 2, w.o, false⟩
/-- [e for t in d if c] -/
noncomputable def dLcD (loc : Env → W → Option D) (t : Tg) (c : DT) (f : DE) (vs : List Nat) : DE := fun ρ w => match locK ρ w loc with
  | some ks => (match dLc (fun _ w => .ok (ks, false) w) t c f vs ρ (wLk w) with
    | .ok x w' => open Classical in if w' = wLk w then .ok x (wUn w) else .bad
    | _ => .bad)
  | none => .bad
theorem ev_lcD {t : Tg} {vs : List Nat} (hl : DRes P H0 td loc) (hc : EvT P H0 (fun _ _ _ _ => False) tA fA) (he : EvE P H0 (fun _ _ _ _ => False) ta fa) (hv : ∀ i ∈ tgs t, i ∈ vs) : EvE P H0 Wi (tLockE (tLc (iKeys td) (gT P.K t) tA ta vs)) (dLcD loc t fA fa vs) := by
  intro σ H G ws ρ w Q st h
  unfold dLcD at h
  cases ek : locK ρ w loc with
  | none => rw [ek] at h; exact h.elim
  | some ks =>
    rw [ek] at h
    dsimp only at h
    obtain ⟨hlk, d, hd, hks⟩ := locK_of ek
    obtain ⟨a, u, ha, kr, hG, ht⟩ := hl σ H G ws ρ w d st hlk hd ⟨ks, hks⟩
    refine ⟨a, u, ha, dct_mut kr.dct, fun od => ?_⟩
    have n1 := Nx.lock st.sub st.rw hlk ha kr.dct od
    have st1 := st.next n1
    -- the iterator stands wherever the heap is the locked one
    have hi : EvI P H0 Wi (fun σ' H' R => σ' = σ → H' = upd H a (.frz od u) → R (itD a od u) (upd H a (.frz od u))) (fun _ w => .ok (ks, false) w) := by
      intro σ' H' G' ws' ρ' w' Q' st' hq e1 e2
      subst e2
      have hq : ∀ J H' G' ws', _ → _ → Q' J H' := hq
      refine hq (itD a od u) _ G' ws' st'.nx ?_
      refine it_keys kr hks fun G2 H2 ws2 ok => ?_
      have ok : OkQ P G' (upd H a (.frz od u)) ws' G2 H2 ws2 := ok
      obtain ⟨w2, n2, hn⟩ := ok
      rcases st'.rw.ul a od u upd_same kr.dct with z | z
      · exact (n2.sub a _ (n2.gg _ _ z)).eq
      · have ew := (n2.qt hn).1
        subst ew
        exact n2.rw.lkh a od u z
    have key := ev_lc hi hc he hv σ (upd H a (.frz od u)) G _ ρ (wLk w) (fun v H' => H' a = some (.frz od u) ∧ Q v (upd H' a u)) st1 (by
      cases ed : dLc (fun _ w => .ok (ks, false) w) t fA fa vs ρ (wLk w) with
      | bad => rw [ed] at h; exact h
      | ex x w' => rw [ed] at h; exact h.elim
      | ok x w' =>
        rw [ed] at h
        dsimp only at h
        split at h
        · rename_i hw
          subst hw
          intro v H' G' ws' n r k
          have ew : ws' = ⟨ws.n + 1, ws.l, some (a, od, u)⟩ := (n.qt (n.same n1.rw rfl)).1
          subst ew
          refine ⟨n.rw.lkh a od u rfl, ?_⟩
          have n3 := Nx.unlock (Nx.refl st.sub st.rw) ha kr.dct hG (n1.trans n) n.gg
          have hm : x.m = .nw := by
            unfold dLc at ed
            simp only [R.bind] at ed
            split at ed
            · split at ed
              · cases ed; rfl
              · cases ed
            · cases ed
          refine h v _ G' _ n3 (rv_unl (n.rw.lkh a od u rfl) (.inr hm) r) (newOk_back (P := P) n1 k)
        · exact h.elim)
    exact ikeys_of kr (ht od) (key rfl rfl)
/-- for t in d: .. -/
noncomputable def sForD (loc : Env → W → Option D) (t : Tg) (b : DS) : DS := fun ρ w => match locK ρ w loc with
  | some ks => (match forLq t b (wLk w) ks ρ (wLk w) with
    | .next ρ' w' => open Classical in if w' = wLk w then .next ρ' (wUn w) else .bad
    | _ => .bad)
  | none => .bad
theorem ev_forD {t : Tg} (hl : DRes P H0 td loc) (hb : EvS P H0 Wi ts gs) : EvS P H0 Wi (tLock (tFor (iKeys td) (gT P.K t) ts)) (sForD loc t gs) := by
  intro σ H G ws ρ w D0 st h0
  unfold sForD at h0
  cases ek : locK ρ w loc with
  | none => rw [ek] at h0; exact h0.elim
  | some ds =>
    rw [ek] at h0
    dsimp only at h0
    obtain ⟨hlk, d, hd, hks⟩ := locK_of ek
    obtain ⟨a, u, ha, kr, hG, ht⟩ := hl σ H G ws ρ w d st hlk hd ⟨ds, hks⟩
    refine ⟨a, u, ha, dct_mut kr.dct, fun od => ?_⟩
    have n1 := Nx.lock st.sub st.rw hlk ha kr.dct od
    have st1 := st.next n1
    refine ikeys_of kr (ht od) ?_
    have ok : ItOk P (itD a od u) (fun G H ws => H a = some (.frz od u)) ds := it_keys kr hks fun _ _ _ h => h
    cases er : forLq t gs (wLk w) ds ρ (wLk w) with
    | bad => rw [er] at h0; exact h0.elim
    | ex x ρ' w' => rw [er] at h0; exact h0.elim
    | ret x w' => rw [er] at h0; exact h0.elim
    | brk ρ' w' => rw [er] at h0; exact h0.elim
    | cont ρ' w' => rw [er] at h0; exact h0.elim
    | next ρe we =>
      rw [er] at h0
      dsimp only at h0
      split at h0
      case isFalse => exact h0.elim
      rename_i hwe
      subst hwe
      have stands : ∀ {σ' : L2.St} {H' G' : Hp} {ws' : Ws} {ρ' : Env}, St P.K P.C H0 σ' H' G' ws' ρ' (wLk w) → Mon G ⟨ws.n + 1, ws.l, some (a, od, u)⟩ G' ws' → ws' = ⟨ws.n + 1, ws.l, some (a, od, u)⟩ ∧ H' a = some (.frz od u) := fun {σ' H' G' ws' ρ'} st' mo => by
        have hn : ws'.n = ws.n + 1 := by
          rw [← st'.rw.nn]
          show w.n + 1 = ws.n + 1
          rw [st.rw.nn]
        have ew := mo.2.2.2.2 hn
        subst ew
        exact ⟨rfl, st'.rw.lkh a od u rfl⟩
      refine ⟨fun i m σ' H' => m = ds.length - i ∧ i ≤ ds.length ∧ ∃ G' ws' ρ', St P.K P.C H0 σ' H' G' ws' ρ' (wLk w) ∧ Mon G ⟨ws.n + 1, ws.l, some (a, od, u)⟩ G' ws' ∧ forLq t gs (wLk w) (ds.drop i) ρ' (wLk w) = .next ρe (wLk w), ⟨ds.length, by simp, Nat.zero_le _, G, _, ρ, st1, .refl, by simpa using er⟩, ?_⟩
      rintro i m σ' H' ⟨rfl, hi, G', ws', ρ', st', mo, hp⟩
      obtain ⟨ew, hH⟩ := stands st' mo
      by_cases hlt : i < ds.length
      · have ed : ds[i]? = some ds[i] := by simp [hlt]
        rw [List.drop_eq_getElem_cons hlt] at hp
        simp only [forLq] at hp
        refine .inr ⟨ok.go G' H' ws' i _ hH ed, fun σ3 H3 => ds.length - (i + 1) = ds.length - (i + 1) ∧ i + 1 ≤ ds.length ∧ ∃ G' ws' ρ', St P.K P.C H0 σ3 H3 G' ws' ρ' (wLk w) ∧ Mon G ⟨ws.n + 1, ws.l, some (a, od, u)⟩ G' ws' ∧ forLq t gs (wLk w) (ds.drop (i + 1)) ρ' (wLk w) = .next ρe (wLk w), fun σ3 H3 hn => ⟨ds.length - (i + 1), by omega, hn⟩, fun v H2 y => ?_⟩
        obtain ⟨G2, n2, rp⟩ := ok.yl G' H' ws' (wLk w) i _ v H2 hH st'.sub st'.rw ed y
        cases es : setT t ds[i] ρ' with
        | none => rw [es] at hp; cases hp
        | some ρ3 =>
          rw [es] at hp
          dsimp only at hp
          refine ev_tg (st'.next n2) rp es fun σ3 st3 => ?_
          refine hb σ3 H2 G2 ws' ρ3 (wLk w) _ st3 ?_
          have mo2 : Mon G ⟨ws.n + 1, ws.l, some (a, od, u)⟩ G2 ws' := mo.trans n2.mon
          have go : ∀ ρ4 w4, (open Classical in if w4 = wLk w then forLq t gs (wLk w) (ds.drop (i + 1)) ρ4 w4 else .bad) = Out.next ρe (wLk w) → ∀ σ4 H4 G4 ws4, St P.K P.C H0 σ4 H4 G4 ws4 ρ4 w4 → Mon G2 ws' G4 ws4 → ds.length - (i + 1) = ds.length - (i + 1) ∧ i + 1 ≤ ds.length ∧ ∃ G' ws' ρ', St P.K P.C H0 σ4 H4 G' ws' ρ' (wLk w) ∧ Mon G ⟨ws.n + 1, ws.l, some (a, od, u)⟩ G' ws' ∧ forLq t gs (wLk w) (ds.drop (i + 1)) ρ' (wLk w) = .next ρe (wLk w) := by
            intro ρ4 w4 hq σ4 H4 G4 ws4 st4 m4
            by_cases hw : w4 = wLk w
            · subst hw
              rw [if_pos rfl] at hq
              exact ⟨rfl, hlt, G4, ws4, ρ4, st4, mo2.trans m4, hq⟩
            · rw [if_neg hw] at hq; cases hq
          cases eb : gs ρ3 (wLk w) with
          | bad => rw [eb] at hp; cases hp
          | ex x ρ4 w4 => rw [eb] at hp; cases hp
          | ret x w4 => rw [eb] at hp; cases hp
          | brk ρ4 w4 =>
            rw [eb] at hp
            cases hp
            intro σ4 H4 G4 ws4 st4 m4
            have mo4 := mo2.trans m4
            obtain ⟨ew4, hH4⟩ := stands st4 mo4
            subst ew4
            refine ⟨hH4, h0 σ4 _ G4 _ (st.unlock ha kr.dct hG st4 mo4.1) ?_⟩
            exact ⟨mo4.1, List.prefix_refl _, Stab.refl _, by show ws.n ≤ ws.n + 2; omega, fun h => absurd h (by show ws.n + 2 ≠ ws.n; omega)⟩
          | next ρ4 w4 => rw [eb] at hp; exact go ρ4 w4 hp
          | cont ρ4 w4 => rw [eb] at hp; exact go ρ4 w4 hp
      · have ei : i = ds.length := by omega
        subst ei
        rw [List.drop_length] at hp
        simp only [forLq] at hp
        cases hp
        subst ew
        refine .inl ⟨ok.st G' H' ws hH, hH, h0 σ' _ G' _ (st.unlock ha kr.dct hG st' mo.1) ?_⟩
        exact ⟨mo.1, List.prefix_refl _, Stab.refl _, by show ws.n ≤ ws.n + 2; omega, fun h => absurd h (by show ws.n + 2 ≠ ws.n; omega)⟩
end
/-! ### places of dicts: a field of what a name holds, a value of the dict that a name holds -/
def locF (i : Nat) (f : Str) : Env → W → Option D := fun ρ w => match ρ[i]? with
  | some (some x) => (match x.d with | .obj k => getF w k f | _ => none)
  | _ => none
theorem res_fld {P : Pm} {H0 : En} {i : Nat} {f : Str} (c : Cls P.K P.C.a) (n : NoAttr P.K P.C.a f) : DRes P H0 (tFld P.K (tVar i) f) (locF i f) := by
  intro σ H G ws ρ w d st hl hloc hk
  unfold locF at hloc
  split at hloc
  · rename_i x ex
    obtain ⟨m, dd⟩ := x
    cases dd with
    | obj k =>
      obtain ⟨v, hv, r, _⟩ := st.sl i _ ex
      obtain ⟨p, rfl, e1, rfl⟩ := rv_obj r
      obtain ⟨dx, fs, u, o, x, A⟩ := st.rw.fld e1 hloc
      obtain ⟨ks, hk⟩ := hk
      rcases A.fl with ⟨a, rfl, un⟩ | ⟨j, _, rfl⟩
      · have har : a ∈ regs ws := (regs_mem (List.mem_of_getElem? A.at_)).2 a (refs_mem (List.mem_of_getElem? A.fx) rfl)
        have fin : ∀ {u}, H a = some u → Dct u = true → ∀ od (Q : VK), Q (.ref a) (upd H a (.frz od u)) → tFld P.K (tVar i) f σ (upd H a (.frz od u)) Q := fun {u} hu hd od Q q => by
          have np : p ≠ a := fun z => by
            have := A.ins
            rw [z, hu] at this
            cases this
            cases hd
          exact ⟨.ref p, hv, p, P.C.a, dx, fs, .ref a, rfl, by rw [upd_ne np]; exact A.ins, c, n, A.lk, q⟩
        cases un with
        | lst e r => cases hk
        | dK e k r => have e := e.free st.rw hl (st.rw.out a har); exact ⟨a, _, e, .dK k, .inr har, fin e rfl⟩
        | dT e k r => have e := e.free st.rw hl (st.rw.out a har); exact ⟨a, _, e, .dT k, .inr har, fin e rfl⟩
      · cases hk
    | _ => cases hloc
  · cases hloc
section
variable {X : Cx} {κ : Kx} {k : Nat} {o e : Expr} {fa : DE} {fA : DT} {gs : DS} {pos p p2 : Pos} {tg : Expr} {body : List Stmt} {loc : Env → W → Option D}
/-- an expression where a dict stands -/
def XD (X : Cx) (κ : Kx) (e : Expr) (loc : Env → W → Option D) : Prop := ∃ td, PE X e td ∧ DRes (pm X κ) κ.e td loc
theorem x_fld {x f : Str} (i : Nat) (h : Hcl X.prog X.w X.K X.mg X.base κ.C) (hN : X.N[i]? = some x := by rfl) (hv : Vis X.env.scope x := by first | exact Or.inl rfl | exact Or.inr (Or.inl rfl) | exact Or.inr (Or.inr rfl)) (hd : (x == ("__debug__" : Str)) = false := by decide)
    (hcd : (x == ("__classdict__" : Str)) = false := by decide) (hf : f ∈ (["ranks", "seats", "known", "weeks", "plans", "cuts", "many", "done"] : List Str) := by decide) (hb : attributeBase (.Name x p) f X.env (eval (.Name x p) X.env) = eval (.Name x p) X.env := by rfl) : XD X κ (.Attribute (.Name x p) f pos) (locF i f) :=
  ⟨_, pe_fld (pe_var hN hv hd hcd) hb, res_fld h.cl (h.na f hf)⟩
theorem s_forD (t : Tg) (c : Fc X κ k) (hi : XD X κ e loc) (hg : PG X tg (gT X.K t)) (hb : XB X κ body gs) (hs : ∀ x, foldedSetIterable e X.env x = pure x := by intro _; rfl) : XS X κ (.For tg e body [] pos) (sForD loc t gs) := by
  obtain ⟨td, pd, rd⟩ := hi
  obtain ⟨tb, pb, eb⟩ := hb
  exact ⟨_, ps_lock (ps_for c.pass c.calm (pi_keys pd) hg pb hs), ev_forD rd eb⟩
theorem e_lcD {elt iter : Expr} {ifs : List Expr} {scope : Scope} (own : List (Str × Nat)) (t : Tg) (c : Fe X κ k) (hi : XD X κ iter loc) (ok : blkC X.N X.env.scope scope own = true)
    (hg : ∀ (s : Shared) (H : Hp) (C : Addr) (cl : List (Str × Addr)) (fp : List Addr), PG (X.blk s H scope (PySem.compEnvC scope cl C X.env) fp) tg (gT X.K t))
    (ht : ∀ (s : Shared) (H : Hp) (C : Addr) (cl : List (Str × Addr)) (fp : List Addr), PTs (X.blk s H scope (PySem.compEnvC scope cl C X.env) fp) ifs (cT (pm X κ) κ.e κ.no.Wi fA))
    (he : ∀ (s : Shared) (H : Hp) (C : Addr) (cl : List (Str × Addr)) (fp : List Addr), XE (X.blk s H scope (PySem.compEnvC scope cl C X.env) fp) κ.no elt fa) (hv : ∀ i ∈ tgs t, i ∈ own.map (·.2) := by decide) (hs : ∀ x, foldedSetIterable iter X.env x = pure x := by intro _; rfl) :
    XE X κ (.ListComp elt [⟨tg, iter, ifs, 0⟩] scope pos) (dLcD loc t fA fa (own.map (·.2))) := by
  obtain ⟨td, pd, rd⟩ := hi
  exact ⟨_, pe_lock (pe_lc c.calm c.nd (pi_keys pd) (blkOk_by ok) hg ht (fun s H C cl fp => (he s H C cl fp).can) hs), ev_lcD rd ev_cT ev_cE hv⟩
end
end DL
/-! len(o) of an object of the own class -/
namespace DL
open PySem L2
end DL
/-! several clauses `except x as n`, all of one name -/
namespace DL
open PySem PySem.Spec PyProof.Rows L2
/-! ### fields of a caught error -/
structure XfIn (P : Pm) (e : En) (x : Xc) (cls : Value) (d : Option Addr) : Prop where
  rel : XRel P.K P.cm e.G e.H (io e.ws) x cls d
  no : ∀ dd, d = some dd → dd ∉ regs e.ws
def gXf (a : Addr) (x : Xc) (f : Str) : Val → W → R Val := fun y w => match y.d with
  | .exc b => if b = a then (match x.fs.lookup f with | some d => .ok (fz d) w | none => .bad) else .bad
  | _ => .bad
theorem paired_lookup {K : PySem.W.Frag} {G : Hp} {ι : List Addr} {f : Str} {dv : D} : ∀ {vfs : List (Str × V)} {fs : List (Str × D)}, Paired (fun (p : Str × V) (q : Str × D) => p.1 = q.1 ∧ Rep K G ι p.2 q.2) vfs fs → fs.lookup f = some dv → ∃ v, vfs.lookup f = some v ∧ Rep K G ι v dv := by
  intro vfs fs pr
  induction pr with
  | nil => intro h; cases h
  | @cons x y l m q1 q2 ih =>
    obtain ⟨xn, xv⟩ := x
    obtain ⟨yn, yv⟩ := y
    obtain ⟨q1, q3⟩ := q1
    dsimp only at q1 q3
    subst q1
    intro h
    rw [List.lookup_cons] at h ⊢
    cases eb : (f == xn) with
    | true => rw [eb] at h; cases h; exact ⟨xv, rfl, q3⟩
    | false => rw [eb] at h; exact ih h
section
variable {P : Pm} {H0 : En} {Wi : WX} {a C : Addr} {x : Xc} {f : Str} {cls : Value} {d : Option Addr} {ta : TE} {fa : DE}
theorem ev_xf (hx : XfIn P H0 x cls d) (hc : cls = .ref C) (ea : EvE P H0 Wi ta fa) : EvE P H0 Wi (tXf a cls d C f ta) (dUn (gXf a x f) fa) := by
  intro σ H G ws ρ w Q st h
  unfold dUn at h
  refine ea σ H G ws ρ w _ st ?_
  cases e : fa ρ w with
  | bad => rw [e] at h; exact h
  | ex x w' => rw [e] at h; exact h
  | ok y w' =>
    intro v H1 G1 ws1 n1 r1 k1
    rw [e] at h
    obtain ⟨m, dd⟩ := y
    have h : PostE P _ H G ws Q (gXf a x f ⟨m, dd⟩ w') := h
    unfold gXf at h
    cases dd <;> try exact h.elim
    rename_i b _
    dsimp only at h
    by_cases hb : b = a
    · subst hb
      rw [if_pos rfl] at h
      have := rv_exc r1
      subst this
      cases el : x.fs.lookup f with
      | none => rw [el] at h; exact h.elim
      | some dv =>
        rw [el] at h
        obtain ⟨c, _, _, hd⟩ := hx.rel
        rcases hd with ⟨h1, _⟩ | ⟨_, dd, vfs, h2, h3, h4⟩
        · rw [h1] at el; cases el
        · obtain ⟨v, lv, rv⟩ := paired_lookup h4 el
          have n0 := st.nx0.trans n1
          exact ⟨rfl, hc, dd, vfs, v, h2, (n0.keep dd _ (.inl h3) nt_xd (hx.no dd h2)).eq, lv, h v H1 G1 ws1 n1 (rv.mono n0.gg n0.io) fun e => nomatch e⟩
    · rw [if_neg hb] at h; exact h.elim
end
section
variable {X : Cx} {κ : Kx} {e : Expr} {fa : DE} {pos : Pos}
theorem e_xf {a C : Addr} {oe : Obj} {cls : Value} {d : Option Addr} {pn : List (Addr × Obj)} {x : Xc} {f : Str} (T : XfC X.K C) (hno : PySem.W.findIn X.K (.ref C) f = some none) (hz : Zc cls d oe) (hf : ∃ vs, oe.data = .fields vs) (hx : XfIn (pm X κ) κ.e x cls d) (hc : cls = .ref C)
    (ha : XE (X.suite a ((a, oe) :: pn)) κ e fa) (hb : attributeBase e f X.env (eval e X.env) = eval e X.env := by rfl) : XE (X.suite a ((a, oe) :: pn)) κ (.Attribute e f pos) (dUn (gXf a x f) fa) := by
  obtain ⟨ta, pa, ea⟩ := ha
  exact ⟨_, pe_xf T hno hz hf pa hb, ev_xf hx hc ea⟩
end
theorem ErrC.xf {K : PySem.W.Frag} {A C : Addr} (h : ErrC K A C) : XfC K C where
  ga := h.ga
  gg := h.gt
  exC := (h.sub _).trans (by simp)
  hdC := by
    obtain ⟨cd, h1, _, h3⟩ := h.cls
    unfold PySem.W.hasDictIn
    rw [h1]
    exact h3
theorem Ers.own {K : PySem.W.Frag} {mg : Str → Option Value} {cm : Cm} {A C D : Addr} {x y : String} (E : Ers K mg cm A) (hx : cm x = some C) (hy : cm y = some D) : PySem.W.exmOne K (.ref C) (.ref D) = some (decide (x = y)) := by
  have eC := E.cl x C hx
  have eD := E.cl y D hy
  have hA : D ≠ A := fun z => E.ne y (by rw [hy, z])
  refine PySem.W.exm_ref ((eD.sub _).trans (by simp)) eD.xf.hdC eD.ty ((eC.sub _).trans ?_)
  by_cases h : x = y
  · subst h
    rw [hx] at hy
    cases hy
    simp
  · have : C ≠ D := fun z => h (E.inj x y C hx (z ▸ hy))
    simp [h, this.symm, hA]
/-! ### try: return .., except X as e: return .. -/
def thin (ρ : Env) : Env := ρ.map fun x => match x with | some ⟨.fz, d⟩ => some ⟨.fz, d⟩ | _ => none
theorem thin_get {ρ : Env} {j : Nat} {x : Val} (h : (thin ρ)[j]? = some (some x)) : ρ[j]? = some (some x) ∧ x.m = .fz := by
  unfold thin at h
  rw [List.getElem?_map] at h
  cases e : ρ[j]? with
  | none => rw [e] at h; cases h
  | some o =>
    rw [e] at h
    cases o with
    | none => cases h
    | some y =>
      obtain ⟨m, d⟩ := y
      cases m <;> first | (cases h; exact ⟨rfl, rfl⟩) | cases h
open Classical in
noncomputable def tryR (g : Addr → R Val) : Out := if h : ∃ yw : Val × W, keepM yw.1 = true ∧ ∀ a, g a = .ok yw.1 yw.2 then .ret (choose h).1 (choose h).2 else .bad
theorem tryR_s {g : Addr → R Val} {y : Val} {w : W} (k : keepM y = true) (h : ∀ a, g a = .ok y w) : tryR g = .ret y w := by
  have ex : ∃ yw : Val × W, keepM yw.1 = true ∧ ∀ a, g a = .ok yw.1 yw.2 := ⟨(y, w), k, h⟩
  unfold tryR
  rw [dif_pos ex]
  have := (Classical.choose_spec ex).2 0
  rw [h 0] at this
  cases this
  rfl
section
variable {X : Cx} {κ : Kx} {kx i : Nat} {n : Str}
abbrev noW : WX := fun _ _ _ _ => False
def tsH (P : Pm) (y : String) (hd : Addr → Xc → DE) (a : Addr) (cls : Value) (d : Option Addr) : TS := fun D σ H => ∃ (e' : En) (x : Xc), XfIn P e' x cls d ∧ x.c = y ∧ tRet (cE P e' noW (hd a x)) D σ H
end
end DL
namespace DL
open PySem L2
/-! ### defs with defaults, called by place and by keyword -/
def tCallS (sp : Sp) (n j : Nat) (ix : List Nat) (dvs : List V) (E : L2.St → XK) (t tk : TA) : TE := fun σ H1 Q => t σ H1 fun vs H2 => tk σ H2 fun zs H3 => vs.length = n ∧ zs.length = j ∧ sp (selV ix (vs ++ zs ++ dvs)) H3 Q (E σ)
end DL
namespace DL
open PySem L2
/-! ### sorted(set(xs)): ints, fewer than 64 -/
end DL
namespace DL
open PySem L2
/-! ### for x in xs: if C: return R (xs: a name's own list, which the loop only reads) -/
end DL
namespace DL
open PySem L2
/-! ### told = [e, ..]; for some in told: some.append(c): lists in a list, each of them new -/
section
variable {K : PySem.W.Frag} {C : Ca} {G H G1 H1 : Hp} {ws ws1 : Ws} {w1 : W}
theorem RVs.at' : ∀ {vs : List V} {xs : List Val}, RVs K G H ws vs xs → ∀ (k : Nat) x, xs[k]? = some x → ∃ v, vs[k]? = some v ∧ RV K G H ws v x
  | _, _, .nil, k, x, h => by simp at h
  | _, _, .cons r rs, 0, x, h => by
    simp only [List.getElem?_cons_zero, Option.some.injEq] at h
    subst h
    exact ⟨_, rfl, r⟩
  | _, _, .cons r rs, k + 1, x, h => by
    obtain ⟨v, h1, h2⟩ := rs.at' k x (by simpa using h)
    exact ⟨v, by simpa using h1, h2⟩
theorem RVs.len : ∀ {vs : List V} {xs : List Val}, RVs K G H ws vs xs → vs.length = xs.length
  | _, _, .nil => rfl
  | _, _, .cons r rs => by simp [rs.len]
theorem NewsOk.at' : ∀ {vs : List V} {xs : List Val}, NewsOk H vs xs → ∀ (k : Nat) x v, xs[k]? = some x → vs[k]? = some v → NewOk H v x
  | v :: vs, x :: xs, h, 0, y, u, h1, h2 => by
    simp only [List.getElem?_cons_zero, Option.some.injEq] at h1 h2
    subst h1; subst h2
    exact h.1
  | v :: vs, x :: xs, h, k + 1, y, u, h1, h2 => NewsOk.at' h.2.2 k y u (by simpa using h1) (by simpa using h2)
  | [], _, _, k, _, _, _, h2 => by simp at h2
  | _ :: _, [], _, k, _, _, h1, _ => by simp at h1
end
end DL
/-! What is never reached; chains of three; dicts written out and copied. -/
namespace DL
open PySem PySem.Spec PyProof.Rows L2
/-! ### what is never reached -/
/-! ### dict(d) -/
/-! ### {'x': .., ..} -/
def prs (ks : List Str) (vs : List V) : List (V × V) := (ks.zip vs).map fun p => (V.str p.1, p.2)
/-- the pairs of a display, evaluated -/
def EvP (P : Pm) (H0 : En) (Wi : WX) (ks : List Str) (trs : List (TE × TE)) (fr : DA) : Prop := ∀ σ H G ws ρ w (Q : List (V × V) → Hp → Prop), St P.K P.C H0 σ H G ws ρ w → PostA P (fun c d H' => Wi c d σ H') H G ws (fun vs H' => Q (prs ks vs) H') (fr ρ w) → tPairs trs σ H Q
section
variable {X : Cx} {κ : Kx} {e : Expr} {fe : DE} {pos p : Pos} {keys : List (Option Expr)} {values : List Expr} {ks : List Str} {fr : DA}
def XP (X : Cx) (κ : Kx) (pos : Pos) (keys : List (Option Expr)) (values : List Expr) (ks : List Str) (fr : DA) : Prop := ∃ trs, PPs X pos keys values trs ∧ EvP (pm X κ) κ.e κ.Wi ks trs fr
end
end DL
/-! made[k] = dict(S); made[k][K] = V -/
namespace DL
open PySem PySem.Spec PyProof.Rows L2
end DL
/-! A dict that a name holds, walked by its keys. -/
namespace DL
open PySem PySem.Spec PyProof.Rows L2
end DL
/-! dict(d), d with at most one key that is a tuple; made[kept] = dict(d); made[kept][t] = value. -/
namespace PySem
end PySem
namespace L2
open PySem PySem.Spec PyProof.Rows
end L2
namespace DL
open PySem PySem.Spec PyProof.Rows L2
/-! ### dict(d) -/
/-! ### a key that is cut out of a tuple -/
end DL
/-! written dicts of the module, a call of a name that holds a def, a try that runs through -/
namespace DL
open PySem PySem.Spec PyProof.Rows L2
/-! ### a try that runs through -/
def sTry0 (g : DS) : DS := fun ρ w => match g ρ w with
  | .ex _ _ _ => .bad
  | o => o
theorem Fc.nox {X : Cx} {κ : Kx} {k : Nat} (c : Fc X κ k) : Fc X.nox κ.no k := ⟨c.calm, c.nd, c.room, tkN takes0, PassesOwn.never⟩
theorem s_try0 {X : Cx} {κ : Kx} {body : List Stmt} {h₀ : ExceptHandler} {hs : List ExceptHandler} {pos : Pos} {g : DS} (hb : XB X.nox κ.no body g) : XS X κ (.Try body (h₀ :: hs) [] [] pos) (sTry0 g) := by
  obtain ⟨t, pt, et⟩ := hb
  refine ⟨_, ps_try_thru0 pt, ?_⟩
  intro σ H G ws ρ w D st h
  unfold sTry0 at h
  refine et σ H G ws ρ w D st ?_
  cases e : g ρ w with
  | ex => rw [e] at h; exact h.elim
  | next => rw [e] at h; exact h
  | brk => rw [e] at h; exact h
  | cont => rw [e] at h; exact h
  | ret => rw [e] at h; exact h
  | bad => rw [e] at h; exact h
end DL
/-! range with a step -/
namespace DL
open PySem PySem.Spec PyProof.Rows L2
end DL
/-! try: .. except X as e: raise Y('..') from e -/
namespace DL
open PySem PySem.Spec PyProof.Rows L2 L2H HotX
/-! ### the statement in an except suite -/
end DL
/-! an error that leaves the suite of except X as e: the name goes, the error goes on -/
namespace DL
open PySem PySem.Spec PyProof.Rows L2 L2H HotX
/-! ### the try -/
end DL
/-! try: .. except AirError as e: raise Y('..') from e, as a denotation -/
namespace DL
open PySem PySem.Spec PyProof.Rows L2 L2H HotX
def cS (P : Pm) (H0 : En) (Wi : WX) (g : DS) : TS := fun D σ H => ∃ G ws ρ w, St P.K P.C H0 σ H G ws ρ w ∧ PostS P H0 Wi D G ws (g ρ w)
theorem XB.canS {X : Cx} {κ : Kx} {b : List Stmt} {g : DS} (h : XB X κ b g) : PSs X b (cS (pm X κ) κ.e κ.Wi g) := by
  obtain ⟨ts, p, e⟩ := h
  exact ⟨fun pins s σ H D I ⟨G, ws, ρ, w, st, q⟩ => p.run pins s σ H D I (e σ H G ws ρ w D st q)⟩
def sTryF (c : String) (g : DS) : DS := fun ρ w => match g ρ w with
  | .ex _ ρ' w' => .ex ⟨c, []⟩ (ρ'.map fun _ => none) w'
  | o => o
@[simp] theorem sTryF_s (c : String) (g : DS) (ρ : Env) (w : W) : sTryF c g ρ w = match g ρ w with
  | .ex _ ρ' w' => .ex ⟨c, []⟩ (ρ'.map fun _ => none) w'
  | o => o := rfl
end DL
/-! while an error is handled: iterators come to their end, tuples are unpacked -/
namespace HotE
open PySem PySem.Spec PyProof.Rows HotX
section
variable {prog : Program} {w : World} {A : Around} {E : Value → Shared → Prop}
/-- the end of an iterator: StopIteration, raised and caught -/
theorem stop_hot {α : Type} {s : Shared} {x1 : Addr} {Q : α → Shared → Prop} (hot : HotAt A x1 s.heap)
    (hE : ∀ (a : Addr) (o : Obj) (h' : Heap), a = s.heap.objs.size + 1 → h'.get? a = some o → o.cls = .type "StopIteration" → (∀ b o', s.heap.get? b = some o' → h'.get? b = some o') → E (.ref a) { s with heap := h' }) :
    wpAny (model prog w) A (newExc (.type "StopIteration") [] >>= fun e => (raiseNew e : Sem α)) Q E s := by
  obtain ⟨hh, o1, vs1, h1, d1, c1⟩ := hot
  refine wpAny_bind ?_
  simp only [newExc, newTuple]
  refine wpAny_bind (wpAny_newObj_type ?_ (by size_fits))
  refine wpAny_bind (m := firstArgMember _ _) (wpAny_of_eq (a := Value.none) (by first | rfl | (simp only [firstArgMember]; rfl)) ?_)
  refine wpAny_newObj_type ?_ (by size_fits)
  refine raiseNew_hot ⟨hh, o1, vs1, Heap.get?_push_of_some _ (Heap.get?_push_of_some _ h1), d1, c1⟩ (Nat.ne_of_lt (Heap.lt_size (Heap.get?_push_of_some _ h1))) (Heap.get?_push_size _ rfl) rfl (by first | (simp; done) | (simp; omega) | (simp only [Array.size_append]; simp; omega)) ?_
  refine hE _ _ _ (by rw [Heap.size_push]) (Heap.get?_update_self _ (Heap.get?_push_size _ rfl) rfl) rfl fun b o e => ?_
  rw [Heap.get?_update_other _ _ (Nat.ne_of_gt (Heap.lt_size (Heap.get?_push_of_some _ e)))]
  exact Heap.get?_push_of_some _ (Heap.get?_push_of_some _ e)
variable {s : Shared}
theorem list_end_hot {it l x1 : Addr} {i : Nat} {items} {Q : Option Value → Shared → Prop} (hot : HotAt A x1 s.heap) (hx1 : x1 ≠ it)
    (hit : s.heap.IsListIter it l i) (hl : s.heap.IsList l items) (hx : items[i]? = none)
    (hQ : ∀ h', Heap.ExtBut it s.heap h' → Q none { s with heap := h' }) : wpAny (model prog w) A (pyNext (.ref it)) Q E s := by
  obtain ⟨o, ho, hc, hd⟩ := id hit
  obtain ⟨ol, hol, _, nl, hdl⟩ := hl
  obtain ⟨hh, o1, vs1, h1, d1, c1⟩ := hot
  unfold pyNext
  refine wpAny_bind (wpAny_attempt (wpAny_callSpecial?_slot (name := Str.ofString "__next__") hit.typeIs slot_listiter_next
    (wpAny_call_entry slot_listiter_next hit.typeIs entry_listiter_next ?_ (args_listiter_next _))))
  show wpAny _ _ (field (.ref it) 0 >>= _) _ _ s
  refine wpAny_bind (wpAny_field ho hd (x := .ref l) rfl ?_)
  show wpAny _ _ (if (Value.ref l == Value.none) = true then _ else _) _ _ s
  rw [if_neg (show ¬ ((Value.ref l == Value.none) = true) from Bool.false_ne_true)]
  show wpAny _ _ (field (.ref it) 1 >>= _) _ _ s
  refine wpAny_bind (wpAny_field ho hd (x := .int i 0) rfl ?_)
  show wpAny _ _ (seqItems? (.ref l) >>= _) _ _ s
  refine wpAny_bind (wpAny_seqItems hol hdl ?_)
  simp only [Int.toNat_natCast, hx]
  refine wpAny_bind (wpAny_rule (wpAny_bind (wpAny_setField ho hd (by simp) ?_)))
  show wpAny _ _ (newExc (.type "StopIteration") [] >>= _) _ _ _
  refine stop_hot ⟨hh, o1, vs1, (Heap.get?_update_other _ _ (Ne.symm hx1)).trans h1, d1, c1⟩ fun a o h' _ ha hcl k => ?_
  refine wpAny_bind (wpAny_isInstance (T := "StopIteration") (b := true) ⟨_, ha, hcl⟩ isSubtype_stop ?_)
  exact wpAny_pure (hQ _ fun b o hb e => k b o ((Heap.get?_update_other _ _ (Ne.symm hb)).trans e))
theorem ascii_end_hot {it x1 : Addr} {x : Str} {t : Tok} {i : Nat} {Q : Option Value → Shared → Prop} (hot : HotAt A x1 s.heap) (hx1 : x1 ≠ it)
    (hit : s.heap.IsStrIter it "str_ascii_iterator" x t i) (hx : x.cps[i]? = none)
    (hQ : ∀ h', Heap.ExtBut it s.heap h' → Q none { s with heap := h' }) : wpAny (model prog w) A (pyNext (.ref it)) Q E s := by
  obtain ⟨o, ho, hc, hd⟩ := id hit
  obtain ⟨hh, o1, vs1, h1, d1, c1⟩ := hot
  unfold pyNext
  refine wpAny_bind (wpAny_attempt (wpAny_callSpecial?_slot (name := Str.ofString "__next__") hit.typeIs F.slot_str_ascii_iterator_next
    (wpAny_call_entry F.slot_str_ascii_iterator_next hit.typeIs F.entry_str_ascii_iterator_next ?_ (F.args_str_ascii_iterator_next_1 _))))
  show wpAny _ _ (field (.ref it) 0 >>= _) _ _ s
  refine wpAny_bind (wpAny_field ho hd (x := .str x t) rfl ?_)
  show wpAny _ _ (field (.ref it) 1 >>= _) _ _ s
  refine wpAny_bind (wpAny_field ho hd (x := .int i 0) rfl ?_)
  simp only [Int.toNat_natCast, hx]
  refine wpAny_bind (wpAny_rule (wpAny_bind (wpAny_setField ho hd (by simp) (wpAny_bind (wpAny_letGo ?_)))))
  show wpAny _ _ (newExc (.type "StopIteration") [] >>= _) _ _ _
  refine stop_hot ⟨hh, o1, vs1, (Heap.get?_update_other _ _ (Ne.symm hx1)).trans h1, d1, c1⟩ fun a o h' _ ha hcl k => ?_
  refine wpAny_bind (wpAny_isInstance (T := "StopIteration") (b := true) ⟨_, ha, hcl⟩ isSubtype_stop ?_)
  exact wpAny_pure (hQ _ fun b o hb e => k b o ((Heap.get?_update_other _ _ (Ne.symm hb)).trans e))
theorem wide_end_hot {it x1 : Addr} {x : Str} {t : Tok} {i : Nat} {Q : Option Value → Shared → Prop} (hot : HotAt A x1 s.heap) (hx1 : x1 ≠ it)
    (hit : s.heap.IsStrIter it "str_iterator" x t i) (hx : x.cps[i]? = none)
    (hQ : ∀ h', Heap.ExtBut it s.heap h' → Q none { s with heap := h' }) : wpAny (model prog w) A (pyNext (.ref it)) Q E s := by
  obtain ⟨o, ho, hc, hd⟩ := id hit
  obtain ⟨hh, o1, vs1, h1, d1, c1⟩ := hot
  unfold pyNext
  refine wpAny_bind (wpAny_attempt (wpAny_callSpecial?_slot (name := Str.ofString "__next__") hit.typeIs F.slot_str_iterator_next
    (wpAny_call_entry F.slot_str_iterator_next hit.typeIs F.entry_str_iterator_next ?_ (F.args_str_iterator_next_1 _))))
  show wpAny _ _ (field (.ref it) 0 >>= _) _ _ s
  refine wpAny_bind (wpAny_field ho hd (x := .str x t) rfl ?_)
  show wpAny _ _ (field (.ref it) 1 >>= _) _ _ s
  refine wpAny_bind (wpAny_field ho hd (x := .int i 0) rfl ?_)
  simp only [Int.toNat_natCast, hx]
  refine wpAny_bind (wpAny_rule (wpAny_bind (wpAny_setField ho hd (by simp) (wpAny_bind (wpAny_letGo ?_)))))
  show wpAny _ _ (newExc (.type "StopIteration") [] >>= _) _ _ _
  refine stop_hot ⟨hh, o1, vs1, (Heap.get?_update_other _ _ (Ne.symm hx1)).trans h1, d1, c1⟩ fun a o h' _ ha hcl k => ?_
  refine wpAny_bind (wpAny_isInstance (T := "StopIteration") (b := true) ⟨_, ha, hcl⟩ isSubtype_stop ?_)
  exact wpAny_pure (hQ _ fun b o hb e => k b o ((Heap.get?_update_other _ _ (Ne.symm hb)).trans e))
theorem tuple_end_hot {it t x1 : Addr} {i : Nat} {items} {Q : Option Value → Shared → Prop} (hot : HotAt A x1 s.heap) (hx1 : x1 ≠ it)
    (hit : IsTupIter s.heap it t i) (ht : IsTup s.heap t items) (hx : items[i]? = none)
    (hQ : ∀ h', Heap.ExtBut it s.heap h' → Q none { s with heap := h' }) : wpAny (model prog w) A (pyNext (.ref it)) Q E s := by
  obtain ⟨o, ho, hc, hd⟩ := id hit
  obtain ⟨ol, hol, _, nl, hdl⟩ := ht
  obtain ⟨hh, o1, vs1, h1, d1, c1⟩ := hot
  unfold pyNext
  refine wpAny_bind (wpAny_attempt (wpAny_callSpecial?_slot (name := Str.ofString "__next__") hit.typeIs slot_tupleiter_next
    (wpAny_call_entry slot_tupleiter_next hit.typeIs entry_tupleiter_next ?_ (args_tupleiter_next _))))
  show wpAny _ _ (field (.ref it) 0 >>= _) _ _ s
  refine wpAny_bind (wpAny_field ho hd (x := .ref t) rfl ?_)
  show wpAny _ _ (if (Value.ref t == Value.none) = true then _ else _) _ _ s
  rw [if_neg (show ¬ ((Value.ref t == Value.none) = true) from Bool.false_ne_true)]
  show wpAny _ _ (field (.ref it) 1 >>= _) _ _ s
  refine wpAny_bind (wpAny_field ho hd (x := .int i 0) rfl ?_)
  show wpAny _ _ (seqItems? (.ref t) >>= _) _ _ s
  refine wpAny_bind (wpAny_seqItems hol hdl ?_)
  simp only [Int.toNat_natCast, hx]
  refine wpAny_bind (wpAny_rule (wpAny_bind (wpAny_setField ho hd (by simp) ?_)))
  show wpAny _ _ (newExc (.type "StopIteration") [] >>= _) _ _ _
  refine stop_hot ⟨hh, o1, vs1, (Heap.get?_update_other _ _ (Ne.symm hx1)).trans h1, d1, c1⟩ fun a o h' _ ha hcl k => ?_
  refine wpAny_bind (wpAny_isInstance (T := "StopIteration") (b := true) ⟨_, ha, hcl⟩ isSubtype_stop ?_)
  exact wpAny_pure (hQ _ fun b o hb e => k b o ((Heap.get?_update_other _ _ (Ne.symm hb)).trans e))
theorem unpackItems_hot {t x1 : Addr} {items : Array Value} {Q : List Value → Shared → Prop} (hot : HotAt A x1 s.heap) (ht : IsTup s.heap t items)
    (hQ : ∀ h', Heap.ExtBut s.heap.objs.size s.heap h' → Q items.toList { s with heap := h' }) : wpAny (model prog w) A (unpackItems (.ref t) items.size none) Q E s := by
  have hlt : t ≠ s.heap.objs.size := by obtain ⟨o, ho, _⟩ := ht; exact Nat.ne_of_lt (Heap.lt_size ho)
  obtain ⟨hh, o1, vs1, h1, d1, c1⟩ := hot
  have hx1 : x1 ≠ s.heap.objs.size := Nat.ne_of_lt (Heap.lt_size h1)
  unfold unpackItems
  refine wpAny_bind ?_
  unfold notIterableAtAll
  refine wpAny_bind (wpAny_specialOf ht.typeIs slot_tuple_iter.lookup ?_)
  refine wpAny_pure ?_
  simp only [Bool.false_eq_true, if_false]
  refine wpAny_bind (wpAny_holding (iter_tuple ht ?_))
  refine wpAny_bind (wpAny_holding (draw_tuple hlt items.size 0 _ _ ⟨_, Heap.get?_push_size _ rfl, rfl, rfl⟩ (ht.push _) (by omega) fun h₁ hit₁ hs₁ => ?_))
  have hall : List.take items.size (List.drop 0 items.toList) = items.toList := by
    rw [List.drop_zero]; exact List.take_of_length_le (by simp)
  rw [hall]
  rw [if_neg (by simp)]
  have ht₁ : IsTup h₁ t items := (ht.push _).extBut hs₁.extBut hlt
  have h1' : h₁.get? x1 = some o1 := (hs₁.2 x1 hx1).trans (Heap.get?_push_of_some _ h1)
  refine wpAny_bind (wpAny_holding (tuple_end_hot ⟨hh, o1, vs1, h1', d1, c1⟩ hx1 hit₁ ht₁ (by simp) fun h₂ he₂ => ?_))
  simp only [Option.isSome_none, Bool.false_eq_true, if_false]
  exact wpAny_pure (hQ h₂ fun b o hb e => he₂ b o hb (hs₁.extBut b o hb (Heap.get?_push_of_some _ e)))
theorem assign_hot {env : Env} {elts : List Expr} {kk} {pos : Pos} {t x1 : Addr} {items : Array Value} {Q : Unit → Shared → Prop} (hot : HotAt A x1 s.heap) (ht : IsTup s.heap t items)
    (hn : (assignEach elts env).length = items.size) (hstar : (assignEach elts env).findIdx? (·.1) = none)
    (h : ∀ h', Heap.ExtBut s.heap.objs.size s.heap h' → wpAny (model prog w) A (assignInOrder ((assignEach elts env).map (·.2)) items.toList) Q E { s with heap := h' }) :
    wpAny (model prog w) A (assign (.Tuple elts kk pos) env (.ref t)) Q E s := by
  rw [assign_Tuple]
  refine wpAny_bind (wpAny_standAt ?_)
  unfold unpack
  rw [hn, hstar]
  exact wpAny_bind (wpAny_holding (unpackItems_hot hot ht h))
end
end HotE
/-! while an error is handled: max of two, all, what loops and comprehensions walk -/
namespace HotE
open PySem PySem.Spec PyProof.Rows HotX
def Warm (A : Around) (x1 : Addr) (o1 : Obj) : Prop := A.handled = some (.ref x1) ∧ ∃ vs : Array Value, o1.data = .fields vs ∧ vs[2]? = some .none
theorem Warm.at {A : Around} {x1 : Addr} {o1 : Obj} {h : Heap} (c : Warm A x1 o1) (e : h.get? x1 = some o1) : HotAt A x1 h := by
  obtain ⟨hh, vs, d, v⟩ := c
  exact ⟨hh, o1, vs, e, d, v⟩
theorem walks_list {prog : Program} {w : World} {A : Around} {x1 : Addr} {o1 : Obj} (hot : Warm A x1 o1) (I ax : Addr) (hne : ax ≠ I) (hx : x1 ≠ I) (items : Array Value) :
    Walks prog w A I [I, ax, x1] [I] items.size (fun i v => items[i]? = some v) (fun i h => h.IsListIter I ax i ∧ h.IsList ax items ∧ h.get? x1 = some o1) where
  sub := fun b hb => by simp at hb; simp [hb]
  frame := fun _ _ _ st hk => ⟨st.1.at fun o e => hk I (by simp) o e, st.2.1.at fun o e => hk ax (by simp) o e, hk x1 (by simp) _ st.2.2⟩
  item := fun i s Q E hi st hQ => by
    refine wpAny_pyNext_list_item st.1 st.2.1 (x := items[i]) (by simp [hi]) fun h' hit' hs' => ?_
    exact hQ _ h' s.toks (by simp [hi]) ⟨hit', st.2.1.extBut hs'.extBut hne, hs'.extBut x1 _ hx st.2.2⟩ fun b o hb e => hs'.extBut b o (fun h => hb (by simp [h])) e
  done := fun s Q E st hQ => list_end_hot (hot.at st.2.2) hx st.1 st.2.1 (by simp) fun h' he' => hQ h' s.toks fun b o hb e => he' b o (fun h => hb (by simp [h])) e
  self := fun _ _ _ _ st hQ => wpAny_pyIter_listiter st.1 hQ
theorem tupP_end_hot {prog : Program} {w : World} {A : Around} {E : Value → Shared → Prop} {s : Shared} {it t x1 : Addr} {i : Nat} {items} {Q : Option Value → Shared → Prop} (hot : HotAt A x1 s.heap) (hx1 : x1 ≠ it)
    (hit : s.heap.IsTupleIter it t i) (ht : s.heap.IsTuple t items) (hx : items[i]? = none)
    (hQ : ∀ h', Heap.ExtBut it s.heap h' → Q none { s with heap := h' }) : wpAny (model prog w) A (pyNext (.ref it)) Q E s :=
  tuple_end_hot hot hx1 hit ht hx hQ
theorem walks_tuple {prog : Program} {w : World} {A : Around} {x1 : Addr} {o1 : Obj} (hot : Warm A x1 o1) (I ax : Addr) (hne : ax ≠ I) (hx : x1 ≠ I) (items : Array Value) :
    Walks prog w A I [I, ax, x1] [I] items.size (fun i v => items[i]? = some v) (fun i h => h.IsTupleIter I ax i ∧ h.IsTuple ax items ∧ h.get? x1 = some o1) where
  sub := fun b hb => by simp at hb; simp [hb]
  frame := fun _ _ _ st hk => ⟨st.1.at fun o e => hk I (by simp) o e, st.2.1.at fun o e => hk ax (by simp) o e, hk x1 (by simp) _ st.2.2⟩
  item := fun i s Q E hi st hQ => by
    refine wpAny_pyNext_tuple_item st.1 st.2.1 (x := items[i]) (by simp [hi]) fun h' hit' hs' => ?_
    exact hQ _ h' s.toks (by simp [hi]) ⟨hit', st.2.1.extBut hs'.extBut hne, hs'.extBut x1 _ hx st.2.2⟩ fun b o hb e => hs'.extBut b o (fun h => hb (by simp [h])) e
  done := fun s Q E st hQ => tupP_end_hot (hot.at st.2.2) hx st.1 st.2.1 (by simp) fun h' he' => hQ h' s.toks fun b o hb e => he' b o (fun h => hb (by simp [h])) e
  self := fun _ _ _ _ st hQ => wpAny_pyIter_tupleiter st.1 hQ
theorem max_two_hot {prog : Program} {w : World} {A : Around} {E : Value → Shared → Prop} {s : Shared} {x1 : Addr} {o1 : Obj} {a b : Int} {t u : Tok} {Q : Value → Shared → Prop} (hot : Warm A x1 o1) (hx1 : s.heap.get? x1 = some o1)
    (h : ∀ h' tk, (∀ c o, s.heap.get? c = some o → h'.get? c = some o) → Q (if b > a then .int b u else .int a t) { s with heap := h', toks := tk }) :
    wpAny (model prog w) A (call (.builtin "max") [.int a t, .int b u]) Q E s := by
  have hT : (s.heap.push { cls := .type "tuple", data := .seq #[.int a t, .int b u] }).IsTuple s.heap.objs.size (intItems #[(a, t), (b, u)]) := ⟨_, Heap.get?_push_size _ rfl, rfl, 0, by simp [intItems]⟩
  refine call_max_two (wpAny_pyIter_tuple hT ?_)
  have hsz : (s.heap.push { cls := .type "tuple", data := .seq #[.int a t, .int b u] }).objs.size = s.heap.objs.size + 1 := Heap.size_push ..
  have lx : x1 < s.heap.objs.size := Heap.lt_size hx1
  refine ⟨_, [_, s.heap.objs.size, x1], [_], _, _, _, _, rfl, walks_tuple (A := A.in1) (o1 := o1) hot _ s.heap.objs.size (by rw [hsz]; exact Nat.ne_of_lt (Nat.lt_succ_self _)) (by rw [hsz]; exact Nat.ne_of_lt (Nat.lt_succ_of_lt lx)) (intItems #[(a, t), (b, u)]),
    ⟨⟨_, Heap.get?_push_size _ rfl, rfl, rfl⟩, hT.push _, Heap.get?_push_of_some _ (Heap.get?_push_of_some _ hx1)⟩, fun c hc => ?_, by simp [intItems], CmpOf.ints_gt (numAt #[(a, t), (b, u)]) (fun _ _ => intItems_at), fun v h' tk hP hk => ?_⟩
  · show c < ((s.heap.push _).push _).objs.size
    rw [Heap.size_push, hsz]
    rcases List.mem_cons.mp hc with rfl | hc
    · rw [hsz]; exact Nat.lt_succ_self _
    · rcases List.mem_cons.mp hc with rfl | hc
      · exact Nat.lt_succ_of_lt (Nat.lt_succ_self _)
      · rcases List.mem_cons.mp hc with rfl | hc
        · exact Nat.lt_succ_of_lt (Nat.lt_succ_of_lt lx)
        · cases hc
  · have hold : ∀ c o, s.heap.get? c = some o → h'.get? c = some o := fun c o e => by
      refine hk c o (fun hm => ?_) (Heap.get?_push_of_some _ (Heap.get?_push_of_some _ e))
      rcases List.mem_cons.mp hm with e1 | hm
      · have := Heap.lt_size e; rw [e1, hsz] at this; exact Nat.lt_irrefl _ (Nat.lt_of_succ_lt this)
      · cases hm
    have := h h' tk hold
    have hv : v = if b > a then Value.int b u else Value.int a t := by
      have hP' : (intItems #[(a, t), (b, u)])[argBest (fun i j => decide (numAt #[(a, t), (b, u)] i > numAt #[(a, t), (b, u)] j)) 1]? = some v := by
        have hsz2 : (intItems #[(a, t), (b, u)]).size - 1 = 1 := by simp [intItems]
        rw [← hsz2]; exact hP
      by_cases hba : b > a
      · have e : argBest (fun i j => decide (numAt #[(a, t), (b, u)] i > numAt #[(a, t), (b, u)] j)) 1 = 1 := by simp [argBest, numAt, hba]
        rw [e] at hP'
        simpa [intItems, hba] using hP'.symm
      · have e : argBest (fun i j => decide (numAt #[(a, t), (b, u)] i > numAt #[(a, t), (b, u)] j)) 1 = 0 := by simp [argBest, numAt, hba]
        rw [e] at hP'
        simpa [intItems, hba] using hP'.symm
    rw [hv]; exact this
end HotE
namespace DL
open PySem PySem.Spec PyProof.Rows L2 L2H HotX HotE
theorem hotC_warm {X : Cx} {pins : List (Addr × Obj)} {σ : L2.St} {H : Hp} {s : Shared} (c : HotC X) (I : Inv X pins σ H s) : ∃ p ∈ X.pn, Warm X.A p.1 p.2 ∧ s.heap.get? p.1 = some p.2 := by
  obtain ⟨p, hot, hp⟩ := c
  exact ⟨p, hp, hot, (I.pin p (List.mem_append_left _ hp)).1⟩
section
variable {X : Cx}
theorem call_max2H (hc : HotC X) : CallR X (.builtin "max") (fun xs H Q => ∃ i j, xs = [.int i, .int j] ∧ Q (.int (if j > i then j else i)) H) := by
  intro pins s σ H xs us Q I r h
  obtain ⟨i, j, rfl, q⟩ := h
  obtain ⟨u, w', rfl, ⟨t, rfl⟩, ⟨t', rfl⟩⟩ := vals2 r
  obtain ⟨p, hp, wm, e⟩ := hotC_warm hc I
  refine max_two_hot wm e fun h' tk k => ⟨_, H, I.kept k, ?_, q⟩
  by_cases hj : j > i
  · rw [if_pos hj, if_pos hj]; exact ⟨_, rfl⟩
  · rw [if_neg hj, if_neg hj]; exact ⟨_, rfl⟩
theorem cr_allH (hc : HotC X) : CallR X (.builtin "all") (rAll X.K) := by
  intro pins s σ H vs us Q I r h
  obtain ⟨a, bs, rfl, hs, q⟩ := h
  obtain ⟨its, rv, hl, _⟩ := I.list hs
  rw [Vals.ref1 r]
  have hb := rv.bls
  obtain ⟨p, hp, wm, e1⟩ := hotC_warm hc I
  refine call_all_walk (iter_any hl.isList fun s₂ e2 st hne => ?_)
  subst e2
  refine ⟨_, _, _, _, _, _, _, rfl, walks_list (A := X.A.in1) (o1 := p.2) wm _ a hne (Nat.ne_of_lt (Heap.lt_size e1)) its.toArray, ⟨st.1, st.2, Heap.get?_push_of_some _ e1⟩, truth_bools hb, fun h' tk hk => ?_⟩
  refine ⟨.bl _, H, I.kept fun b o eo => hk b o (fun hmem => ?_) (Heap.get?_push_of_some _ eo), ?_, q⟩
  · rcases List.mem_cons.mp hmem with e1 | hmem
    · exact absurd (e1 ▸ Heap.lt_size eo) (Nat.lt_irrefl _)
    · cases hmem
  · show Value.bool _ = Value.bool _
    rw [← L2.all_range, hb, List.size_toArray, List.length_map]
end
/-! what is walked -/
structure TurnE (P : Program) (w : World) (K : PySem.W.Frag) (tg : Expr) (J : It) (fp : List Addr) (it : Addr) (tn : Nat → Heap → Prop) : Prop where
  mem : it ∈ fp
  obj : ∀ i h, tn i h → ∀ b ∈ fp, ∃ o, h.get? b = some o ∧ ∀ v, o.data ≠ .cell v
  keep : ∀ i h h', tn i h → (∀ b ∈ fp, ∀ o, h.get? b = some o → h'.get? b = some o) → tn i h'
  item : ∀ (X : Cx), X.prog = P → X.w = w → X.K = K → ∀ (i : Nat) (pins : List (Addr × Obj)) (s : Shared) (σ : L2.St) (H : Hp) (E : Value → Shared → Prop), Inv X pins σ H s → (∀ b ∈ fp, FpOk X pins H b) → tn i s.heap → J.go i H →
    wpAny (model P w) X.A (pyNext (.ref it)) (fun r s1 => ∃ u, r = some u ∧
      wpAny (model P w) X.A (letOwnedTupleGo tg (.ref it) u) (fun _ s2 => ∃ x H', Inv X pins σ H' s2 ∧ RelV x u ∧ J.yld i H x H' ∧ tn (i + 1) s2.heap ∧ ∀ b ∈ fp, H' b = none) E s1) E s
  done : ∀ (X : Cx), X.prog = P → X.w = w → X.K = K → ∀ (x1 : Addr) (i : Nat) (pins : List (Addr × Obj)) (s : Shared) (σ : L2.St) (H : Hp) (E : Value → Shared → Prop), HotAt X.A x1 s.heap → x1 ∉ fp → Inv X pins σ H s → (∀ b ∈ fp, FpOk X pins H b) → tn i s.heap → J.stop i H →
    wpAny (model P w) X.A (pyNext (.ref it)) (fun r s1 => r = none ∧ Inv X pins σ H s1) E s
  self : ∀ (A : Around) (i : Nat) (s : Shared) (Q : Value → Shared → Prop) (E : Value → Shared → Prop), tn i s.heap → Q (.ref it) s → wpAny (model P w) A (pyIter (.ref it)) Q E s
theorem TurnE.turnH {P : Program} {w : World} {K : PySem.W.Frag} {tg : Expr} {J : It} {fp : List Addr} {it : Addr} {tn : Nat → Heap → Prop} (T : TurnE P w K tg J fp it tn) : TurnH P w K tg J fp it tn where
  mem := T.mem
  obj := T.obj
  keep := T.keep
  item := fun X h1 h2 h3 _ => T.item X h1 h2 h3
  done := fun X h1 h2 h3 hc i pins s σ H E I hf st hg => by
    obtain ⟨p, hp, wm, e⟩ := hotC_warm hc I
    exact T.done X h1 h2 h3 p.1 i pins s σ H E (wm.at e) (fun hm => (hf p.1 hm).2.2.2.2.2 p (List.mem_append_left _ hp) rfl) I hf st hg
  self := T.self
theorem turn_listE {P : Program} {w : World} {K : PySem.W.Frag} {tg : Expr} (a it : Addr) : TurnE P w K tg (Itl K a) [it] it (fun i h => h.IsListIter it a i) where
  mem := by simp
  obj := fun i h st b hb => by
    have e : b = it := by simpa using hb
    subst e
    obtain ⟨o, e, c, d⟩ := st
    exact ⟨o, e, fun v z => by rw [d] at z; cases z⟩
  keep := fun i h h' st k => st.at fun o e => k it (by simp) o e
  item := by
    intro X hP hw hK i pins s σ H E I hf st hg
    subst hP hw hK
    obtain ⟨xs, x, hq, hx⟩ := hg
    obtain ⟨its, rv, p, hz⟩ := I.list hq
    obtain ⟨u, hu, ru⟩ := rv.get hx
    obtain ⟨f0, f1, f2, f3, f4, f5⟩ := hf it (by simp)
    refine wpAny_pyNext_list_item st p.isList (x := u) (by simpa using hu) fun h' st' sb => ?_
    have I1 : Inv X pins σ H { s with heap := h' } := I.turned (t' := s.toks) (fun b o hb e => (sb.2 b hb).trans e) f0 f1 f3 f4 f5
    obtain ⟨o, e, c, d⟩ := id st'
    exact ⟨u, rfl, go_of (s := { s with heap := h' }) e c d (by decide) ⟨x, H, I1, ru, ⟨rfl, fun ys hy => by rw [I.list_inj hy hq]; exact hx⟩, st', fun b hb => (hf b hb).1⟩⟩
  done := by
    intro X hP hw hK x1 i pins s σ H E hot hx1 I hf st hg
    subst hP hw hK
    obtain ⟨xs, hq, hx⟩ := hg
    obtain ⟨its, rv, p, hz⟩ := I.list hq
    obtain ⟨f0, f1, f2, f3, f4, f5⟩ := hf it (by simp)
    have hl := rv.length
    exact list_end_hot hot (fun z => hx1 (by simp [z])) st p.isList (by simp; omega) fun h' eb => ⟨rfl, I.turned (t' := s.toks) (fun b o hb e => eb b o hb e) f0 f1 f3 f4 f5⟩
  self := fun _ _ _ _ _ st h => wpAny_pyIter_listiter st h
theorem turn_tupleE {P : Program} {w : World} {K : PySem.W.Frag} {tg : Expr} (a it : Addr) : TurnE P w K tg (Itt K a) [it] it (fun i h => h.IsTupleIter it a i) where
  mem := by simp
  obj := fun i h st b hb => by
    have e : b = it := by simpa using hb
    subst e
    obtain ⟨o, e, c, d⟩ := st
    exact ⟨o, e, fun v z => by rw [d] at z; cases z⟩
  keep := fun i h h' st k => st.at fun o e => k it (by simp) o e
  item := by
    intro X hP hw hK i pins s σ H E I hf st hg
    subst hP hw hK
    obtain ⟨xs, x, hq, hx⟩ := hg
    obtain ⟨its, rv, p, hz⟩ := I.tuple hq
    obtain ⟨u, hu, ru⟩ := rv.get hx
    obtain ⟨f0, f1, f2, f3, f4, f5⟩ := hf it (by simp)
    refine wpAny_pyNext_tuple_item st (show s.heap.IsTuple a its.toArray from p) (x := u) (by simpa using hu) fun h' st' sb => ?_
    have I1 : Inv X pins σ H { s with heap := h' } := I.turned (t' := s.toks) (fun b o hb e => (sb.2 b hb).trans e) f0 f1 f3 f4 f5
    obtain ⟨o, e, c, d⟩ := id st'
    exact ⟨u, rfl, go_of (s := { s with heap := h' }) e c d (by decide) ⟨x, H, I1, ru, ⟨rfl, fun ys hy => by rw [I.tuple_inj hy hq]; exact hx⟩, st', fun b hb => (hf b hb).1⟩⟩
  done := by
    intro X hP hw hK x1 i pins s σ H E hot hx1 I hf st hg
    subst hP hw hK
    obtain ⟨xs, hq, hx⟩ := hg
    obtain ⟨its, rv, p, hz⟩ := I.tuple hq
    obtain ⟨f0, f1, f2, f3, f4, f5⟩ := hf it (by simp)
    have hl := rv.length
    exact tupP_end_hot hot (fun z => hx1 (by simp [z])) st (show s.heap.IsTuple a its.toArray from p) (by simp; omega) fun h' eb => ⟨rfl, I.turned (t' := s.toks) (fun b o hb e => eb b o hb e) f0 f1 f3 f4 f5⟩
  self := fun _ _ _ _ _ st h => wpAny_pyIter_tupleiter st h
theorem turn_strE {P : Program} {w : World} {K : PySem.W.Frag} {tg : Expr} (it : Addr) (x : Str) (t : Tok) (ty : String) (hty : ty = "str_ascii_iterator" ∨ ty = "str_iterator") :
    TurnE P w K tg (Its x) [it] it (fun i h => h.IsStrIter it ty x t i) where
  mem := by simp
  obj := fun i h st b hb => by
    have e : b = it := by simpa using hb
    subst e
    obtain ⟨o, e, c, d⟩ := st
    exact ⟨o, e, fun v z => by rw [d] at z; cases z⟩
  keep := fun i h h' st k => let ⟨o, ho, r⟩ := st; ⟨o, k it (by simp) o ho, r⟩
  item := by
    intro X hP hw hK i pins s σ H E I hf st hg
    subst hP hw hK
    obtain ⟨f0, f1, f2, f3, f4, f5⟩ := hf it (by simp)
    have hg : i < x.cps.size := hg
    have hx : x.cps[i]? = some x.cps[i] := by simp [hg]
    rcases hty with e | e
    · subst e
      refine wpAny_pyNext_ascii_item st hx fun h' st' sb => ?_
      have I1 : Inv X pins σ H { s with heap := h', toks := s.toks + 1 } := I.turned (fun b o hb e => (sb.2 b hb).trans e) f0 f1 f3 f4 f5
      obtain ⟨oi, e, cc, dd⟩ := id st'
      exact ⟨_, rfl, go_of (s := { s with heap := h', toks := s.toks + 1 }) e cc dd (by decide) ⟨.str ⟨#[x.cps[i]]⟩, H, I1, ⟨s.toks, rfl⟩, ⟨rfl, _, hx, rfl⟩, st', fun b hb => (hf b hb).1⟩⟩
    · subst e
      refine wpAny_pyNext_wide_item st hx fun h' st' sb => ?_
      have I1 : Inv X pins σ H { s with heap := h', toks := s.toks + 1 } := I.turned (fun b o hb e => (sb.2 b hb).trans e) f0 f1 f3 f4 f5
      obtain ⟨oi, e, cc, dd⟩ := id st'
      exact ⟨_, rfl, go_of (s := { s with heap := h', toks := s.toks + 1 }) e cc dd (by decide) ⟨.str ⟨#[x.cps[i]]⟩, H, I1, ⟨s.toks, rfl⟩, ⟨rfl, _, hx, rfl⟩, st', fun b hb => (hf b hb).1⟩⟩
  done := by
    intro X hP hw hK x1 i pins s σ H E hot hx1 I hf st hg
    subst hP hw hK
    obtain ⟨f0, f1, f2, f3, f4, f5⟩ := hf it (by simp)
    have hx : x.cps[i]? = none := Array.getElem?_eq_none hg
    rcases hty with e | e
    · rw [e] at st
      exact ascii_end_hot hot (fun z => hx1 (by simp [z])) st hx fun h' eb => ⟨rfl, I.turned (t' := s.toks) (fun b o hb e => eb b o hb e) f0 f1 f3 f4 f5⟩
    · rw [e] at st
      exact wide_end_hot hot (fun z => hx1 (by simp [z])) st hx fun h' eb => ⟨rfl, I.turned (t' := s.toks) (fun b o hb e => eb b o hb e) f0 f1 f3 f4 f5⟩
  self := fun A i s Q E st h => by
    rcases hty with e | e
    · rw [e] at st; exact wpAny_pyIter_striter_ascii st h
    · rw [e] at st; exact wpAny_pyIter_striter_wide st h
def PIEE (X : Cx) (pins : List (Addr × Obj)) (σ : L2.St) (tg : Expr) (R : It → Hp → Prop) (itv : Value) (s2 : Shared) : Prop :=
  ∃ (it : Addr) (fp : List Addr) (tn : Nat → Heap → Prop) (J : It) (H' : Hp), itv = .ref it ∧ Inv X pins σ H' s2 ∧ TurnE X.prog X.w X.K tg J fp it tn ∧ tn 0 s2.heap ∧ (∀ b ∈ fp, FpOk X pins H' b) ∧ R J H'
structure PIX (X : Cx) (tg iter : Expr) (wi : TI) : Prop where
  run : ∀ (pins : List (Addr × Obj)) (s : Shared) (σ : L2.St) (H : Hp) (R : It → Hp → Prop), Inv X pins σ H s → wi σ H R →
    wpAny (model X.prog X.w) X.A (eval iter X.env) (fun v s1 => wpAny (model X.prog X.w) X.A (pyIter v) (PIEE X pins σ tg R) X.xe s1) X.xe s
theorem PIX.pih {X : Cx} {tg iter : Expr} {wi : TI} (h : PIX X tg iter wi) : PIH X tg iter wi :=
  ⟨fun pins s σ H R I hw => thn (h.run pins s σ H R I hw) fun _ s1 h1 => thn h1 fun _ s2 ⟨it, fp, tn, J, H', e, I2, T, st, f, q⟩ => ⟨it, fp, tn, J, H', e, I2, T.turnH, st, f, q⟩⟩
theorem pi_oneE {X : Cx} {tg : Expr} {pins : List (Addr × Obj)} {σ : L2.St} {H : Hp} {s : Shared} {R : It → Hp → Prop} {J : It} {tn : Nat → Heap → Prop} {tk : Nat} (I : Inv X pins σ H s) (o : Obj)
    (T : TurnE X.prog X.w X.K tg J [s.heap.objs.size] s.heap.objs.size tn) (st : tn 0 (s.heap.push o)) (q : R J H) : PIEE X pins σ tg R (.ref s.heap.objs.size) { s with heap := s.heap.push o, toks := tk } := by
  refine ⟨s.heap.objs.size, [s.heap.objs.size], tn, J, H, rfl, I.kept fun b ob e => Heap.get?_push_of_some _ e, T, st, fun b hb => ?_, q⟩
  have e : b = s.heap.objs.size := by simpa using hb
  subst e
  exact I.fpOk (Nat.le_refl _) (I.hok.fresh (Nat.le_refl _))
theorem pi_listE {X : Cx} {tg l : Expr} {tl : TE} (hl : PE X l tl) : PIX X tg l (iList X.K tl) := by
  refine ⟨fun pins s σ H R I h => ?_⟩
  refine thn (hl.run pins s σ H _ I h) fun v s1 ⟨x, H1, I1, r1, q1⟩ => ?_
  obtain ⟨a, e, ⟨xs, hq⟩, q⟩ := q1
  subst e
  cases r1
  obtain ⟨its, rv, p, hz⟩ := I1.list hq
  exact wpAny_pyIter_list p.isList (pi_oneE (tk := s1.toks) I1 _ (turn_listE a _) ⟨_, Heap.get?_push_size _ rfl, rfl, rfl⟩ q)
theorem pi_seqE {X : Cx} {tg l : Expr} {tl : TE} (hl : PE X l tl) : PIX X tg l (iSeqT X.K tl) := by
  refine ⟨fun pins s σ H R I h => ?_⟩
  refine thn (hl.run pins s σ H _ I h) fun v s1 ⟨x, H1, I1, r1, q1⟩ => ?_
  rcases q1 with q | q | q
  · obtain ⟨a, e, ⟨xs, hq⟩, qq⟩ := q
    subst e
    cases r1
    obtain ⟨its, rv, p, hz⟩ := I1.list hq
    exact wpAny_pyIter_list p.isList (pi_oneE (tk := s1.toks) I1 _ (turn_listE a _) ⟨_, Heap.get?_push_size _ rfl, rfl, rfl⟩ qq)
  · obtain ⟨a, e, ⟨xs, hq⟩, qq⟩ := q
    subst e
    cases r1
    obtain ⟨its, rv, p, hz⟩ := I1.tuple hq
    exact wpAny_pyIter_tuple (show s1.heap.IsTuple a its.toArray from p) (pi_oneE (tk := s1.toks) I1 _ (turn_tupleE a _) ⟨_, Heap.get?_push_size _ rfl, rfl, rfl⟩ qq)
  · obtain ⟨z, e, qq⟩ := q
    subst e
    obtain ⟨t, rfl⟩ := r1
    cases ha : z.cps.all (· < 128)
    · exact wpAny_pyIter_wide ha (pi_oneE (tk := s1.toks) I1 _ (turn_strE _ z t "str_iterator" (.inr rfl)) ⟨_, Heap.get?_push_size _ rfl, rfl, rfl⟩ qq)
    · exact wpAny_pyIter_ascii ha (pi_oneE (tk := s1.toks) I1 _ (turn_strE _ z t "str_ascii_iterator" (.inl rfl)) ⟨_, Heap.get?_push_size _ rfl, rfl, rfl⟩ qq)
end DL
/-! while an error is handled: pairs of names, comprehensions -/
namespace DL
open PySem PySem.Spec PyProof.Rows L2 L2H HotX HotE
section
variable {X : Cx} {tg : Expr} {pos : Pos}
theorem pg_tupH {es : List Expr} {k : Nat} {t : TGs} {n : Nat} (hc : HotC X) (h : PGs X es t)
    (hn : (assignEach es X.env).length = n := by rfl) (hst : (assignEach es X.env).findIdx? (·.1) = none := by rfl) : PG X (.Tuple es k pos) (gTup X.K n t) := by
  refine ⟨fun pins s σ H v u Q I r hw => ?_⟩
  obtain ⟨a, xs, e1, hq, hl, hw⟩ := hw
  subst e1
  cases r
  obtain ⟨its, rv, ht, hz⟩ := I.tuple hq
  obtain ⟨p, hp, wm, e⟩ := hotC_warm hc I
  refine assign_hot (wm.at e) ht (by simp [hn, ← hl, rv.length]) hst fun h' hx => ?_
  have I1 : Inv X pins σ H { s with heap := h' } := I.kept (t' := s.toks) fun b o e => hx b o (Nat.ne_of_lt (Heap.lt_size e)) e
  exact h.run pins _ σ H xs _ Q I1 (by simpa using rv) hw
theorem ps_parH {i j : Nat} {x y : Str} {a b : Expr} {ta : TA} {px py pt : Pos} {kt k2 pt2} (hc : HotC X) (hN : X.N.Nodup) (hi : X.N[i]? = some x) (hj : X.N[j]? = some y) (hij : i ≠ j)
    (hx : X.env.scope.names.lookup x = some .local) (hy : X.env.scope.names.lookup y = some .local) (ha : PA X [a, b] ta)
    (hw : swappedStores [.Tuple [.Name x px, .Name y py] kt pt] (.Tuple [a, b] k2 pt2) X.env = pure (some [x, y]))
    (hs : swapsWithSole [.Tuple [.Name x px, .Name y py] kt pt] (.Tuple [a, b] k2 pt2) pos.line X.env = pure false := by rfl) :
    PS X (.Assign [.Tuple [.Name x px, .Name y py] kt pt] (.Tuple [a, b] k2 pt2) pos) (tPar i j ta) := by
  refine ⟨fun pins s σ H D I h => ?_⟩
  rw [exec_Assign_arm]
  refine wpAny_bind (wpAny_standAt ?_)
  rw [hs]
  refine wpAny_bind (wpAny_pure ?_)
  rw [if_neg (by decide)]
  refine wpAny_bind (Tuple_ (thn (ha.run _ pins s σ H _ I h) fun us s1 ⟨vs, H1, I1, r1, q1⟩ => ?_))
  obtain ⟨v, w, e1, q1⟩ := q1
  subst e1
  obtain ⟨u1, u2, rfl, rv, rw'⟩ : ∃ u1 u2, us = [u1, u2] ∧ RelV v u1 ∧ RelV w u2 := by
    cases r1 with
    | cons p q =>
      cases q with
      | cons p' q' =>
        cases q'
        exact ⟨_, _, rfl, p, p'⟩
  refine wpAny_newObj_type ?_ (by show 2 ≤ sizeLine; decide)
  have I2 : Inv X pins σ H1 { s1 with heap := s1.heap.push { cls := .type "tuple", data := .seq [u1, u2].toArray } } := I1.kept (t' := s1.toks) fun b o e => Heap.get?_push_of_some _ e
  rw [hw]
  refine wpAny_bind (wpAny_pure ?_)
  show wpAny (model X.prog X.w) X.A (do rule "assign.swapped-stores"; let items ← unpackItems (.ref s1.heap.objs.size) 2 none; assignInOrder [fun v => bindName X.env y v, fun v => bindName X.env x v] items.reverse; pure Flow.next) _ _ _
  obtain ⟨p, hp, wm, e⟩ := hotC_warm hc I2
  refine wpAny_bind (wpAny_rule (wpAny_bind (unpackItems_hot (items := #[u1, u2]) (wm.at e) (IsTup.new s1.heap _) fun h' hx' => ?_)))
  have I3 := I2.kept (h' := h') (t' := s1.toks) fun b o e => hx' b o (Nat.ne_of_lt (Heap.lt_size e)) e
  show wpAny _ _ (assignInOrder [fun v => bindName X.env y v, fun v => bindName X.env x v] [u2, u1] >>= fun _ => pure Flow.next) _ _ _
  refine wpAny_bind (assignInOrder_cons (wpAny_bindName (store_ok I3 hN hj (.inl hy) rw' (fun s2 I4 => ?_) (.inr hy))))
  refine assignInOrder_cons (wpAny_bindName (store_ok I4 hN hi (.inl hx) rv (fun s3 I5 => assignInOrder_nil (wpAny_pure ?_)) (.inr hx)))
  rw [List.set_comm _ _ (Ne.symm hij)] at I5
  exact ⟨_, H1, I5, q1⟩
/-- a comprehension, the handled error pinned within -/
theorem lc_coreH {pins : List (Addr × Obj)} {s : Shared} {σ : L2.St} {H : Hp} {Q : VK} {elt tg iter : Expr} {ifs : List Expr} {scope : Scope} {own : List (Str × Nat)} {pos pos' : Pos} {wi : TI} {g : TG} {tt : TT} {te : TE} {use : Option (Value → Sem Unit)} {Qf : Value → Shared → Prop}
    (hc : HotC X) (hN : X.N.Nodup) (I : Inv X pins σ H s) (hi : PIX X tg iter wi) (ok : BlkOk X.N X.env.scope scope own)
    (hg : ∀ (s : Shared) (H : Hp) (C : Addr) (cl : List (Str × Addr)) (fp : List Addr), PG (X.blk s H scope (PySem.compEnvC scope cl C X.env) fp) tg g) (ht : ∀ (s : Shared) (H : Hp) (C : Addr) (cl : List (Str × Addr)) (fp : List Addr), PTs (X.blk s H scope (PySem.compEnvC scope cl C X.env) fp) ifs tt)
    (he : ∀ (s : Shared) (H : Hp) (C : Addr) (cl : List (Str × Addr)) (fp : List Addr), PE (X.blk s H scope (PySem.compEnvC scope cl C X.env) fp) elt te) (hs : ∀ x, foldedSetIterable iter X.env x = pure x)
    (h : tLc wi g tt te (own.map (·.2)) σ H Q)
    (hRR : ∀ D C s' m H', Inv X pins σ H' s' → Q (.ref D) H' → s'.heap.Ns C m → FpOk X pins H' C → compPost (model X.prog X.w) X.A X.xe use Qf (.ref D) C (.ok .next) s') :
    wpAny (model X.prog X.w) X.A (comprehension (.ListComp elt [⟨tg, iter, ifs, 0⟩] scope pos) scope X.env pos' (newList []) false (eval iter X.env) use) Qf X.xe s := by
  obtain ⟨p, hot, hp⟩ := hc
  have wm : Warm X.A p.1 p.2 := hot
  have hfree : ∀ y ∈ scope.names, y.2 = .free → ∃ c, X.env.cells.lookup y.1 = some c := fun y hy e => by
    rcases ok.free y hy e with k | k
    · exact I.ok.has _ (.inl k)
    · exact I.ok.has _ (.inr k)
  refine wpAny_comprehension_free (use := use) rfl hs (closure_ok hfree) ok.kind (fun y hy e => by rw [ok.uniq y hy, e])
    (thn (hi.run pins s σ H _ I h) fun xv s1 hx => thn hx fun itv s2 h2 => ?_)
  obtain ⟨it, fp, tn, J, H2, e, I2, T, st2, f2, q⟩ := h2
  subst e
  refine wpAny_newObj_type (newEnv_comp ?_) (by show 0 ≤ sizeLine; decide)
  generalize hD : s2.heap.objs.size = D
  have hDn : H2 D = none := I2.hok.fresh (Nat.le_of_eq hD)
  obtain ⟨W, ⟨m0, w0⟩, turn⟩ := q D hDn
  have P2 := I2.pin p (List.mem_append_left _ hp)
  generalize hs3 : ({ s2 with heap := s2.heap.push { cls := .type "list", data := .seq ([] : List Value).toArray } } : Shared) = s3
  have I3 : Inv X pins σ (upd H2 D (.lst [])) s3 := by
    rw [← hs3]
    refine I2.laid (t' := s2.toks) (fun b o e => Heap.get?_push_of_some _ e) (Nat.le_of_eq hD) ⟨Nat.zero_le _, [], 0, .nil, ?_⟩
    rw [← hD]
    exact Heap.get?_push_size _ rfl
  have h3 : s3.heap = s2.heap.push { cls := .type "list", data := .seq ([] : List Value).toArray } := by rw [← hs3]
  have sz : ∀ b ∈ fp, b < s2.heap.objs.size := fun b hb => by
    obtain ⟨o, e, _⟩ := T.obj _ _ st2 b hb
    exact Heap.lt_size e
  have f3 : ∀ b ∈ fp, FpOk X pins (upd H2 D (.lst [])) b ∧ b < s3.heap.objs.size := fun b hb => by
    have hlt := sz b hb
    refine ⟨⟨?_, (f2 b hb).2⟩, by rw [h3, Heap.size_push]; exact Nat.lt_succ_of_lt hlt⟩
    rw [upd_ne (by rw [← hD]; exact Nat.ne_of_lt hlt)]
    exact (f2 b hb).1
  have st3 : tn 0 s3.heap := T.keep _ _ _ st2 fun b _ o e => by rw [h3]; exact Heap.get?_push_of_some _ e
  have P3 := I3.pin p (List.mem_append_left _ hp)
  have I4 := block_start I3 ok hN f3
  have nfp1 : p.1 ∉ fp := fun hm => (f2 p.1 hm).2.2.2.2.2 p (List.mem_append_left _ hp) rfl
  have I4 := I4.pins_of (pins' := [p]) fun q hq => by
    have e : q = p := by simpa using hq
    subst e
    refine ⟨pushCells_keeps _ _ _ _ (Heap.get?_push_of_some _ P3.1), P3.2.1, Nat.ne_of_lt (Heap.lt_size P3.1), ?_, P3.2.2.2.2⟩
    intro hm
    have hm : q.1 ∈ frs X.stack := hm
    exact (List.mem_cons.mp (I3.stkSub q.1 hm)).elim P3.2.2.1 P3.2.2.2.1
  have pg := hg s3 (upd H2 D (.lst [])) s3.heap.objs.size (cellsFrom (s3.heap.objs.size + 1) scope.names (cloFrom X.env.cells scope.names [])) fp
  have pt := ht s3 (upd H2 D (.lst [])) s3.heap.objs.size (cellsFrom (s3.heap.objs.size + 1) scope.names (cloFrom X.env.cells scope.names [])) fp
  have pe := he s3 (upd H2 D (.lst [])) s3.heap.objs.size (cellsFrom (s3.heap.objs.size + 1) scope.names (cloFrom X.env.cells scope.names [])) fp
  show codeAny _ _ (.compStart (.ListComp elt [⟨tg, iter, ifs, 0⟩] scope pos) 0 (.ref it) (.ref D) (PySem.compEnvC scope (cellsFrom (s3.heap.objs.size + 1) scope.names (cloFrom X.env.cells scope.names [])) s3.heap.objs.size X.env)) (compPost (model X.prog X.w) X.A X.xe use Qf (.ref D) s3.heap.objs.size) { s3 with heap := pushCells (s3.heap.push { cls := .type "dict", data := .dict #[] }) scope.names }
  have nfp : ∀ b ∈ fp, (upd H2 D (.lst [])) b = none := fun b hb => (f3 b hb).1.1
  generalize hce : PySem.compEnvC scope (cellsFrom (s3.heap.objs.size + 1) scope.names (cloFrom X.env.cells scope.names [])) s3.heap.objs.size X.env = ce at I4 pg pt pe ⊢
  have cL : ce.locals = s3.heap.objs.size := by subst hce; rfl
  generalize hH3 : upd H2 D (.lst []) = H3 at I3 I4 pg pt pe w0 nfp f3
  generalize hs4 : ({ s3 with heap := pushCells (s3.heap.push { cls := .type "dict", data := .dict #[] }) scope.names } : Shared) = s4 at I4 ⊢
  have st4 : tn 0 s4.heap := T.keep _ _ _ st3 fun b _ o e => by rw [← hs4]; exact pushCells_keeps _ _ _ _ (Heap.get?_push_of_some _ e)
  have stat : ∀ {σ' : L2.St} {H' : Hp} {s' : Shared}, Inv (X.blk s3 H3 scope ce fp) [p] σ' H' s' → (∀ b ∈ fp, H' b = none) → ∀ b ∈ fp, FpOk (X.blk s3 H3 scope ce fp) [p] H' b := fun {σ' H' s'} I' hn b hb =>
    ⟨hn b hb, (I'.ok.exf b hb).1, I'.ok.exfs b hb, .inl hb, fun x c e => (I'.ok.exf b hb).2 x c e, fun q hq => by
      have e : q = p := by simpa using hq
      subst e
      exact fun z => nfp1 (z ▸ hb)⟩
  have loop : codeAny (model X.prog X.w) X.A (.compLoop (.ListComp elt [⟨tg, iter, ifs, 0⟩] scope pos) 0 (.ref it) (.ref D) ce) (compPost (model X.prog X.w) X.A X.xe use Qf (.ref D) s3.heap.objs.size) s4 := by
    refine compLoop_any (fun n s' => ∃ i H', Inv (X.blk s3 H3 scope ce fp) [p] (wipe σ (own.map (·.2))) H' s' ∧ tn i s'.heap ∧ (∀ b ∈ fp, H' b = none) ∧ W i n H') ?_ m0 ⟨0, H3, I4, st4, nfp, w0⟩
    rintro n s5 ⟨i, H5, I5, st5, n5, w5⟩
    rcases turn i n H5 w5 with ⟨stop, qq⟩ | ⟨go, Nx, hNx, step⟩
    · have e5 := (I5.pin p (List.mem_append_right _ (List.mem_singleton.mpr rfl))).1
      have td := T.done (X.blk s3 H3 scope ce fp) rfl rfl rfl p.1 i [p] s5 _ H5 (fun _ _ => False) (wm.at e5) nfp1 I5 (stat I5 n5) st5 stop
      refine thnF td fun r s6 ⟨hr, I6⟩ => ?_
      subst hr
      have I7 : Inv X pins σ H5 s6 := I3.call' (ch := fp) I6.os I6.base I6.hok I6.bare fun b hb => ⟨(f3 b hb).1.2.2.2.1, (f3 b hb).1.2.1, (f3 b hb).1.2.2.2.2.1, (f3 b hb).1.2.2.2.2.2⟩
      have nC : H5 s3.heap.objs.size = none := by
        have z : H5 ce.locals = none := I6.free
        rw [cL] at z
        exact z
      obtain ⟨m, hn, _⟩ := I6.loc
      have hn : s6.heap.Ns ce.locals m := hn
      rw [cL] at hn
      exact hRR D s3.heap.objs.size s6 m H5 I7 qq hn (I3.fpOk (Nat.le_refl _) nC)
    · have ti := T.item (X.blk s3 H3 scope ce fp) rfl rfl rfl i [p] s5 _ H5 (fun _ _ => False) I5 (stat I5 n5) st5 go
      refine thnF ti fun r s6 ⟨u, hr, h6⟩ => ?_
      subst hr
      refine thnF h6 fun _ s7 ⟨x, H7, I7, r7, y7, st7, n7⟩ => ?_
      have I7' := I7.pinned (stat I7 n7) (T.obj _ _ st7)
      refine thnF (pg.run _ s7 _ H7 x u _ I7' r7 (step x H7 y7)) fun _ s8 ⟨σ8, H8, I8, hw8, q8⟩ => ?_
      refine thnF (pt.run _ s8 σ8 H8 _ I8 q8) fun b s9 ⟨H9, I9, q9⟩ => ?_
      have fin : ∀ {s' : Shared} {H' : Hp}, Inv (X.blk s3 H3 scope ce fp) ([p] ++ pinsAt fp s7.heap) σ8 H' s' → Nx H' → ∃ m, m < n ∧ ∃ i H', Inv (X.blk s3 H3 scope ce fp) [p] (wipe σ (own.map (·.2))) H' s' ∧ tn i s'.heap ∧ (∀ b ∈ fp, H' b = none) ∧ W i m H' := fun {s' H'} I' nx => by
        obtain ⟨m', hm, w'⟩ := hNx H' nx
        have pin' : ∀ b ∈ fp, ∀ o, s7.heap.get? b = some o → s'.heap.get? b = some o ∧ H' b = none := fun b hb o e =>
          let z := I'.pin (b, o) (List.mem_append_right _ (List.mem_append_right _ (mem_pinsAt hb e)))
          ⟨z.1, z.2.1⟩
        have hl : (wipe σ (own.map (·.2))).length = σ8.length := by rw [← hw8, wipe_length]
        refine ⟨m', hm, i + 1, H', (I'.unpinned (pins := [p])).weak hl (fun j v e => ?_), T.keep _ _ _ st7 fun b hb o e => (pin' b hb o e).1, fun b hb => ?_, w'⟩
        · rw [← hw8] at e
          exact (wipe_some e).1
        · obtain ⟨o, e, _⟩ := T.obj _ _ st7 b hb
          exact (pin' b hb o e).2
      cases b with
      | false =>
        simp only [Bool.false_eq_true, if_false] at q9 ⊢
        exact fin I9 q9
      | true =>
        simp only [if_true] at q9 ⊢
        refine thnF (pe.run _ s9 σ8 H9 _ I9 q9) fun z s10 ⟨yv, H10, I10, r10, acc, hD10, hz10, nx⟩ => ?_
        exact app_ok (X := X.blk s3 H3 scope ce fp) I10 hD10 hz10 r10 fun s11 I11 => fin I11 nx
  exact codeAny_compStart_list loop (T.self X.A 0 _ _ _ st4 loop)
theorem pe_lcH {elt tg iter : Expr} {ifs : List Expr} {scope : Scope} {own : List (Str × Nat)} {pos : Pos} {wi : TI} {g : TG} {tt : TT} {te : TE} (hc : HotC X) (hN : X.N.Nodup) (hi : PIX X tg iter wi) (ok : BlkOk X.N X.env.scope scope own)
    (hg : ∀ (s : Shared) (H : Hp) (C : Addr) (cl : List (Str × Addr)) (fp : List Addr), PG (X.blk s H scope (PySem.compEnvC scope cl C X.env) fp) tg g) (ht : ∀ (s : Shared) (H : Hp) (C : Addr) (cl : List (Str × Addr)) (fp : List Addr), PTs (X.blk s H scope (PySem.compEnvC scope cl C X.env) fp) ifs tt)
    (he : ∀ (s : Shared) (H : Hp) (C : Addr) (cl : List (Str × Addr)) (fp : List Addr), PE (X.blk s H scope (PySem.compEnvC scope cl C X.env) fp) elt te) (hs : ∀ x, foldedSetIterable iter X.env x = pure x := by intro _; rfl) :
    PE X (.ListComp elt [⟨tg, iter, ifs, 0⟩] scope pos) (tLc wi g tt te (own.map (·.2))) := by
  refine ⟨fun pins s σ H Q I h => ?_⟩
  rw [eval_ListComp]
  refine lc_coreH hc hN I hi ok hg ht he hs h fun D C s' m H' I' q hn f => ⟨m, hn, fun h'' sb => ?_⟩
  obtain ⟨f0, f1, f2, f3, f4, f5⟩ := f
  exact ⟨.ref D, H', I'.turned (t' := s'.toks) (fun b o hb e => (sb.2 b hb).trans e) f0 f1 f3 f4 f5, rfl, q⟩
end
end DL
/-! the layer while an error is handled: nothing raises there -/
namespace DL
open PySem PySem.Spec PyProof.Rows L2 L2H HotX HotE
/-- what is known of such a place -/
structure FeH (X : Cx) (κ : Kx) (k : Nat) : Prop where
  hot : HotC X
  nd : X.N.Nodup
  room : RoomH k X.A
  no : κ.Wi = noW
structure FcH (X : Cx) (κ : Kx) (k : Nat) : Prop extends FeH X κ k where
  pass : PassesOwn (model X.prog X.w) X.A X.env X.xe
def spH (P : Pm) (F : DF) : Sp := fun vs H Q _ => spD P F vs H Q Ez
structure DfH (P : Program) (w : World) (K : PySem.W.Frag) (mg : Str → Option Value) (base : Heap) (C : Ca) (cm : Cm) (x : Str) (j : Nat) (F : DF) : Prop where
  ex : ∃ f fd ps, mg x = some (.ref f) ∧ PySem.W.keepIn K (.ref f) = true ∧ Binds K fd ps [] ∧ FnH P w K mg base Xz j f fd ps (spH ⟨K, C, cm⟩ F)
structure MtH (P : Program) (w : World) (K : PySem.W.Frag) (mg : Str → Option Value) (base : Heap) (C : Ca) (cm : Cm) (m : Str) (j : Nat) (F : DF) (sh : List Shape) : Prop where
  ex : ∃ f fd ps, Cls K C.a ∧ Meth K C.a m f ∧ FnH P w K mg base Xz j f fd ps (spH ⟨K, C, cm⟩ F) ∧ ∀ s ∈ sh, Shp K fd ps s
theorem FeH.u {X : Cx} {κ : Kx} {k : Nat} (c : FeH X κ k) : X.A.units + 65 < cLine := by have := c.room.un; omega
/-! defs -/
theorem fnH_of {P : Program} {w : World} {K : PySem.W.Frag} {mg : Str → Option Value} {base : Heap} {C : Ca} {cm : Cm} {x qual : Str} {st : Stmt} {f : Addr} {fd : FuncData} {N ps : List Str} {k : Nat} {g : DS} (F : FunG K x qual st f fd) (S : FnScope N ps (defScope st))
    (hb : ∀ (f : Addr) (cdv : Value) (A : Around) (outer : List PySem.Env) (s : Shared) (H : Hp) (E : XK) (p : Addr × Obj) (e : En), FcH (cxH Xz P w K mg base N qual (defScope st) f cdv A outer s H E p) ⟨C, cm, e, noW⟩ k →
      XB (cxH Xz P w K mg base N qual (defScope st) f cdv A outer s H E p) ⟨C, cm, e, noW⟩ (defBody st) g) : FnH P w K mg base Xz (k + 1) f fd ps (spH ⟨K, C, cm⟩ (fnD ps.length N.length g)) := by
  obtain ⟨oc, od, dV, kV, doc, pm, an, cdv, ct, osl, rfl, lk, hcd⟩ := F.ex
  refine fn_ofH lk hcd S (fun vs H Q E h => spD_len h) fun A outer s H vs Q E p hot hr h => ?_
  have hl := spD_len h
  obtain ⟨G, ws, wd, ds, sm, rw, rs, q⟩ := h
  obtain ⟨t, h1, h2⟩ := hb f cdv A outer s H E p ⟨H, G, ws⟩ ⟨⟨⟨p, hot, List.mem_singleton.mpr rfl⟩, S.nd, hr, rfl⟩, passes_of rfl⟩
  refine ⟨t, h1, ?_⟩
  unfold L2.start
  rw [hl]
  refine h2 _ H G ws (ds.map (fun d => some (fz d)) ++ List.replicate (N.length - ps.length) none) wd _ (st_start sm rw rs) ?_
  unfold fnD at q
  rw [if_pos (by rw [← rs.length]; exact hl)] at q
  cases eg : g (ds.map (fun d => some (fz d)) ++ List.replicate (N.length - ps.length) none) wd with
  | bad => rw [eg] at q; exact q
  | brk ρ w' => rw [eg] at q; exact q.elim
  | cont ρ w' => rw [eg] at q; exact q.elim
  | next ρ w' => rw [eg] at q; exact fun σ' H' G' ws' st' _ => q .non H' G' ws' st'.nx0 .non fz_nw
  | ret y w' => rw [eg] at q; exact fun v H' G' ws' n r k _ => q v H' G' ws' n r k
  | ex y ρ w' => rw [eg] at q; exact fun cls d σ' H' G' ws' st' hx => q cls d H' G' ws' st'.nx0 hx
theorem Fun.toG {K : PySem.W.Frag} {x qual : Str} {st : Stmt} {f : Addr} {fd : FuncData} (F : Fun K x qual st f fd) : FunG K x qual st f fd := by
  obtain ⟨oc, od, kV, doc, pm, an, cdv, ct, osl, e, lk, hcd⟩ := F.ex
  exact ⟨⟨oc, od, _, kV, doc, pm, an, cdv, ct, osl, e, lk, hcd⟩⟩
theorem dfH_mk {P : Program} {w : World} {K : PySem.W.Frag} {mg : Str → Option Value} {base : Heap} {C : Ca} {cm : Cm} {x : Str} {st : Stmt} {N ps : List Str} {k : Nat} {g : DS} (F : Fnx K mg x st ps) (S : FnScope N ps (defScope st))
    (hb : ∀ (f : Addr) (cdv : Value) (A : Around) (outer : List PySem.Env) (s : Shared) (H : Hp) (E : XK) (p : Addr × Obj) (e : En), FcH (cxH Xz P w K mg base N x (defScope st) f cdv A outer s H E p) ⟨C, cm, e, noW⟩ k →
      XB (cxH Xz P w K mg base N x (defScope st) f cdv A outer s H E p) ⟨C, cm, e, noW⟩ (defBody st) g) : DfH P w K mg base C cm x (k + 1) (fnD ps.length N.length g) := by
  obtain ⟨f, fd, F, hm, hB⟩ := F
  exact ⟨f, fd, ps, hm, F.kp, hB, fnH_of (Fun.toG F) S hb⟩
theorem mtH_mk {P : Program} {w : World} {K : PySem.W.Frag} {mg : Str → Option Value} {base : Heap} {C : Ca} {cm : Cm} {m qual : Str} {st : Stmt} {N ps : List Str} {k : Nat} {g : DS} {sh : List Shape} (c : Cls K C.a) (F : FnxM K C.a m qual st ps sh) (S : FnScope N ps (defScope st))
    (hb : ∀ (f : Addr) (cdv : Value) (A : Around) (outer : List PySem.Env) (s : Shared) (H : Hp) (E : XK) (p : Addr × Obj) (e : En), FcH (cxH Xz P w K mg base N qual (defScope st) f cdv A outer s H E p) ⟨C, cm, e, noW⟩ k →
      XB (cxH Xz P w K mg base N qual (defScope st) f cdv A outer s H E p) ⟨C, cm, e, noW⟩ (defBody st) g) : MtH P w K mg base C cm m (k + 1) (fnD ps.length N.length g) sh := by
  obtain ⟨f, fd, F, hm, hs⟩ := F
  exact ⟨f, fd, ps, c, hm, fnH_of F S hb, hs⟩
/-! calls -/
section
variable {X : Cx} {κ : Kx} {k : Nat} {a b e o : Expr} {fa fb fo : DE} {es : List Expr} {fr fk : DA} {pos p p2 p3 apos : Pos} {gs : DS} {m : Str} {j : Nat} {F : DF} {sh : List Shape} {tg iter elt : Expr}
theorem e_callH {x : Str} (d : DfH X.prog X.w X.K X.mg X.base κ.C κ.cm x j F) (c : FeH X κ k) (ha : XA X κ (a :: es) fr) (hj : j ≤ k := by decide) (hg : Gl X x := by rfl) (hdb : (x == ("__debug__" : Str)) = false := by decide) (he : starEach (a :: es) X.env = (false, eval a X.env) :: starEach es X.env := by rfl)
    (hpl : (backTo pos (starEach es X.env)).any (·.1) = false := by rfl) : XE X κ (.Call (.Name x p) (a :: es) [] pos) (dCall F [] fr) := by
  obtain ⟨f, fd, ps, hm, hk, hb, G⟩ := d.ex
  obtain ⟨t, pa, ea⟩ := ha
  refine ⟨_, pe_callH (E := fun _ => Ez) G (c.room.mono hj) c.hot hg hm hk hb (fun _ _ _ _ _ _ _ z => z.elim) pa hdb he hpl, ?_⟩
  have h := ev_call (F := F) (dvs := []) (dds := []) ea fun _ _ => .nil
  rw [c.no] at h ⊢
  have e2 : tCallSD (spD (pm X κ) F) [] (WE noW) t = L2.tCallS (spH (pm X κ) F) (fun _ => Ez) t := by
    funext σ H Q
    show t σ H (fun vs H1 => spD (pm X κ) F (vs ++ []) H1 Q (WE noW σ)) = t σ H (fun vs H1 => spD (pm X κ) F vs H1 Q Ez)
    simp only [List.append_nil]
  rw [e2] at h
  exact h
theorem run_mtH {f : Addr} {fd : FuncData} {ps : List Str} {dvs : List V} {dus : List Value} {ks : List Str} {ix : List Nat} {n : Nat} {Pp : Pm} {E : XK} {pins : List (Addr × Obj)} {σ : L2.St} {H : Hp} {s : Shared} {Q : VK} {us zs : List Value} {vs ys : List V} {a : Addr} {F : DF} (G : FnH X.prog X.w X.K X.mg X.base Xz k f fd ps (spH Pp F)) (hr : RoomH k X.A) (hc : HotC X) (hd : Vals dvs dus)
    (hb : ∀ (s : Shared) (us zs : List Value), X.K.In s.heap → us.length = n + 1 → zs.length = ks.length → BindsTo s fd ⟨us, ks.zip zs⟩ (ps.zip (selU ix (us ++ zs ++ dus)))) (I : Inv X pins σ H s) (r : Vals vs us) (rz : Vals ys zs) (l1 : vs.length = n) (l2 : ys.length = ks.length)
    (h : spH Pp F (selV ix (.ref a :: vs ++ ys ++ dvs)) H Q E) : wpAny (model X.prog X.w) X.A (call (.ref f) (.ref a :: us) (ks.zip zs)) (EP X pins σ Q) X.xe s := by
  obtain ⟨p, hot, hp⟩ := hc
  have rr : Vals (.ref a :: vs) (.ref a :: us) := .cons rfl r
  have r2 : Vals (selV ix (.ref a :: vs ++ ys ++ dvs)) (selU ix (.ref a :: us ++ zs ++ dus)) := sel_vals ((rr.append rz).append hd)
  have b := hb s (.ref a :: us) zs I.kIn (by rw [List.length_cons, ← r.length, l1]) (by rw [← rz.length, l2])
  have P1 := I.pin p (List.mem_append_left _ hp)
  have hpin : PinOk X.stack H s p := ⟨P1.1, P1.2.1, fun hm => (List.mem_cons.mp (I.stkSub p.1 hm)).elim P1.2.2.1 P1.2.2.2.1, P1.2.2.2.2⟩
  refine wpAny_call (codeAny_mono (G.run X.A X.stack s H ⟨.ref a :: us, ks.zip zs⟩ _ _ Q E p hr hot hpin I.env0 b r2 h) ?_)
  intro q s' hq
  cases q with
  | error e => exact (show False from hq).elim
  | ok fl => cases fl with
    | ret u => exact I.after hq
    | next => exact False.elim hq
    | brk => exact False.elim hq
    | cont => exact False.elim hq
theorem pe_mtH {E : L2.St → XK} (hE : E = fun _ => Ez) {f C : Addr} {fd : FuncData} {ps : List Str} {dvs : List V} {dus : List Value} {ks : List Str} {ix : List Nat} {n : Nat} {Pp : Pm} {kws : List Keyword} {pl : Sem Bool} {ta : TE} {t tk : TA} {F : DF} (he : PE X o ta) (c : Cls X.K C) (hm : Meth X.K C m f) (G : FnH X.prog X.w X.K X.mg X.base Xz k f fd ps (spH Pp F)) (hr : RoomH k X.A) (hc : HotC X) (hd : Vals dvs dus)
    (hb : ∀ (s : Shared) (us zs : List Value), X.K.In s.heap → us.length = n + 1 → zs.length = ks.length → BindsTo s fd ⟨us, ks.zip zs⟩ (ps.zip (selU ix (us ++ zs ++ dus)))) (ha : PA X (e :: es) t) (hk : PK X kws tk)
    (hall : (backToKw pos (keywordEach kws X.env)).all (·.1.isSome) = true) (hks : (backToKw pos (keywordEach kws X.env)).filterMap (·.1) = ks)
    (hst : starEach (e :: es) X.env = (false, eval e X.env) :: starEach es X.env) (hpl : ((backTo pos (starEach (e :: es) X.env)).any (·.1) || (backToKw pos (keywordEach kws X.env)).any (·.1.isNone)) = false)
    (ht : eval (.Call (.Attribute o m apos) (e :: es) kws pos) X.env = (do
      let ov ← eval o X.env
      standAt apos.atName
      let (f, first) ← holding [ov] (getMethod ov m pl)
      callWith pos f first (backTo pos (starEach (e :: es) X.env)) (backToKw pos (keywordEach kws X.env)))) :
    PE X (.Call (.Attribute o m apos) (e :: es) kws pos) (tMt C m (spD Pp F) n ks.length ix dvs E ta t tk) := by
  subst hE
  refine ⟨fun pins s σ H Q I h => ?_⟩
  refine PySem.W.methodCall_KW (pl := pl) (thn (he.run pins s σ H _ I h) ?_) ht
  rintro u s1 ⟨x, H1, I1, rx, a, dx, fs, ex, ea, l, q⟩
  subst ex
  obtain rfl : u = Value.ref a := rx
  refine getmeth_ok I1 ea c hm l ?_
  refine PySem.W.callWith_KW (first := [.ref a]) (h₀ := X.base) I.ok.mod.kin hm.kp hall (thn (ha.run pos pins s1 σ H1 _ I1 q) ?_) hpl hst
  rintro us s2 ⟨vs, H2, I2, r, q2⟩
  refine thn (hk.run pos pins s2 σ H2 _ I2 q2) ?_
  rintro zs s3 ⟨ys, H3, I3, rz, l1, l2, q3⟩
  refine ⟨I3.kIn, ?_⟩
  rw [hks]
  exact run_mtH (E := Ez) G hr hc hd hb I3 r rz l1 l2 q3
theorem pe_mt0H {E : L2.St → XK} (hE : E = fun _ => Ez) {f C : Addr} {fd : FuncData} {ps : List Str} {dvs : List V} {dus : List Value} {ks : List Str} {ix : List Nat} {Pp : Pm} {kws : List Keyword} {pl : Sem Bool} {ta : TE} {tk : TA} {F : DF} (he : PE X o ta) (c : Cls X.K C) (hm : Meth X.K C m f) (G : FnH X.prog X.w X.K X.mg X.base Xz k f fd ps (spH Pp F)) (hr : RoomH k X.A) (hc : HotC X) (hd : Vals dvs dus)
    (hb : ∀ (s : Shared) (us zs : List Value), X.K.In s.heap → us.length = 0 + 1 → zs.length = ks.length → BindsTo s fd ⟨us, ks.zip zs⟩ (ps.zip (selU ix (us ++ zs ++ dus)))) (hk : PK X kws tk)
    (hall : (backToKw pos (keywordEach kws X.env)).all (·.1.isSome) = true) (hks : (backToKw pos (keywordEach kws X.env)).filterMap (·.1) = ks)
    (hpl : ((backTo pos (starEach [] X.env)).any (·.1) || (backToKw pos (keywordEach kws X.env)).any (·.1.isNone)) = false)
    (ht : eval (.Call (.Attribute o m apos) [] kws pos) X.env = (do
      let ov ← eval o X.env
      standAt apos.atName
      let (f, first) ← holding [ov] (getMethod ov m pl)
      callWith pos f first (backTo pos (starEach [] X.env)) (backToKw pos (keywordEach kws X.env)))) :
    PE X (.Call (.Attribute o m apos) [] kws pos) (tMt C m (spD Pp F) 0 ks.length ix dvs E ta tNil tk) := by
  subst hE
  refine ⟨fun pins s σ H Q I h => ?_⟩
  refine PySem.W.methodCall_KW (pl := pl) (thn (he.run pins s σ H _ I h) ?_) ht
  rintro u s1 ⟨x, H1, I1, rx, a, dx, fs, ex, ea, l, q⟩
  subst ex
  obtain rfl : u = Value.ref a := rx
  refine getmeth_ok I1 ea c hm l ?_
  refine PySem.W.callWith_KW0 (first := [.ref a]) (h₀ := X.base) I.ok.mod.kin hm.kp hall (thn (hk.run pos pins s1 σ H1 _ I1 q) ?_) hpl
  rintro zs s3 ⟨ys, H3, I3, rz, l1, l2, q3⟩
  refine ⟨I3.kIn, ?_⟩
  rw [hks]
  exact run_mtH (E := Ez) (us := []) (vs := []) G hr hc hd hb I3 .nil rz l1 l2 q3
theorem e_mtH {pl : Sem Bool} {kws : List Keyword} (h : Shape) (d : MtH X.prog X.w X.K X.mg X.base κ.C κ.cm m j F sh) (hs : h ∈ sh) (c : FeH X κ k) (ho : XE X κ o fo) (ha : XA X κ (e :: es) fr) (hk : XK' X κ kws fk) (hn : h.n = (e :: es).length + 1 := by rfl) (hj : j ≤ k := by decide)
    (hall : (backToKw pos (keywordEach kws X.env)).all (·.1.isSome) = true := by rfl) (hks : (backToKw pos (keywordEach kws X.env)).filterMap (·.1) = h.ks := by rfl)
    (hst : starEach (e :: es) X.env = (false, eval e X.env) :: starEach es X.env := by rfl) (hpl : ((backTo pos (starEach (e :: es) X.env)).any (·.1) || (backToKw pos (keywordEach kws X.env)).any (·.1.isNone)) = false := by rfl)
    (ht : eval (.Call (.Attribute o m apos) (e :: es) kws pos) X.env = (do
      let ov ← eval o X.env
      standAt apos.atName
      let (f, first) ← holding [ov] (getMethod ov m pl)
      callWith pos f first (backTo pos (starEach (e :: es) X.env)) (backToKw pos (keywordEach kws X.env))) := by rfl) :
    XE X κ (.Call (.Attribute o m apos) (e :: es) kws pos) (dMt F m (e :: es).length h.ks.length h.ix h.dds fo fr fk) := by
  obtain ⟨f, fd, ps, cl, hm, G, hsh⟩ := d.ex
  obtain ⟨dvs, dus, v1, v2, v3⟩ := hsh h hs
  obtain ⟨t1, p1, e1⟩ := ho
  obtain ⟨t2, p2, e2⟩ := ha
  obtain ⟨t3, p3, e3⟩ := hk
  exact ⟨_, pe_mtH (E := WE κ.Wi) (by rw [c.no]) p1 cl hm G (c.room.mono hj) c.hot v1 (fun s us zs i l1 l2 => v3 s us zs i (by rw [hn]; exact l1) l2) p2 p3 hall hks hst hpl ht, ev_mt e1 e2 e3 v2⟩
theorem e_mt0H {pl : Sem Bool} {kws : List Keyword} (h : Shape) (d : MtH X.prog X.w X.K X.mg X.base κ.C κ.cm m j F sh) (hs : h ∈ sh) (c : FeH X κ k) (ho : XE X κ o fo) (hk : XK' X κ kws fk) (hn : h.n = 1 := by rfl) (hj : j ≤ k := by decide)
    (hall : (backToKw pos (keywordEach kws X.env)).all (·.1.isSome) = true := by rfl) (hks : (backToKw pos (keywordEach kws X.env)).filterMap (·.1) = h.ks := by rfl)
    (hpl : ((backTo pos (starEach [] X.env)).any (·.1) || (backToKw pos (keywordEach kws X.env)).any (·.1.isNone)) = false := by rfl)
    (ht : eval (.Call (.Attribute o m apos) [] kws pos) X.env = (do
      let ov ← eval o X.env
      standAt apos.atName
      let (f, first) ← holding [ov] (getMethod ov m pl)
      callWith pos f first (backTo pos (starEach [] X.env)) (backToKw pos (keywordEach kws X.env))) := by rfl) :
    XE X κ (.Call (.Attribute o m apos) [] kws pos) (dMt F m 0 h.ks.length h.ix h.dds fo dNil fk) := by
  obtain ⟨f, fd, ps, cl, hm, G, hsh⟩ := d.ex
  obtain ⟨dvs, dus, v1, v2, v3⟩ := hsh h hs
  obtain ⟨t1, p1, e1⟩ := ho
  obtain ⟨t3, p3, e3⟩ := hk
  exact ⟨_, pe_mt0H (E := WE κ.Wi) (by rw [c.no]) p1 cl hm G (c.room.mono hj) c.hot v1 (fun s us zs i l1 l2 => v3 s us zs i (by rw [hn]; exact l1) l2) p3 hall hks hpl ht, ev_mt e1 ev_nil e3 v2⟩
/-! operators and built-ins -/
theorem e_eqH (hu : X.A.units + 65 < cLine) (ha : XE X κ a fa) (hb : XE X κ b fb) : XE X κ (.Compare a [.Eq] [b] pos) (dOp (gEq false) fa fb) := e_cmp (op_eqD (by omega)) rop_eq gEq_nx ha hb (nomark _)
theorem t_eqH (hu : X.A.units + 65 < cLine) (ha : XE X κ a fa) (hb : XE X κ b fb) : XT X κ (.Compare a [.Eq] [b] pos) (tst (dOp (gEq false) fa fb)) := t_cmp (op_eqD (by omega)) rop_eq gEq_nx ha hb (nomark _)
theorem t_neH (hu : X.A.units + 65 < cLine) (ha : XE X κ a fa) (hb : XE X κ b fb) : XT X κ (.Compare a [.NotEq] [b] pos) (tst (dOp (gEq true) fa fb)) := t_cmp (op_neD (by omega)) rop_ne gEq_nx ha hb (nomark _)
theorem e_inH (hu : X.A.units + 65 < cLine) (ha : XE X κ a fa) (hb : XE X κ b fb) (hm : behindInMarks .In b = false := by rfl) : XE X κ (.Compare a [.In] [b] pos) (dOp (gIn false) fa fb) := e_cmp (op_inA hu) rop_in gIn_nx ha hb hm
theorem t_ninDH (hu : X.A.units + 65 < cLine) (ha : XE X κ a fa) (hb : XE X κ b fb) (hm : behindInMarks .NotIn b = false := by rfl) : XT X κ (.Compare a [.NotIn] [b] pos) (tst (dOp (gInD true) fa fb)) := by
  obtain ⟨t1, p1, e1⟩ := ha
  obtain ⟨t2, p2, e2⟩ := hb
  exact ⟨_, pt_cmp (pc_dnotin (by omega) p1 p2) hm, ev_tB (ev_op e1 e2 rop_ninD gInD_nx)⟩
theorem e_max2H (c : FeH X κ k) (hm : X.mg "max" = none) (ha : XA X κ [a, b] fr) (hg : Gl X "max" := by rfl) (he : starEach [a, b] X.env = (false, eval a X.env) :: starEach [b] X.env := by rfl) (hpl : (backTo pos (starEach [b] X.env)).any (·.1) = false := by rfl) : XE X κ (.Call (.Name "max" p) [a, b] [] pos) (dCB gMax2 fr) := e_cb (call_max2H c.hot) rc_max2 gMax2_nx hm (by decide +kernel) ha hg (by decide) (by decide) he hpl
theorem e_allH (c : FeH X κ k) (hm : X.mg "all" = none) (ha : XA X κ [a] fr) (hg : Gl X "all" := by rfl) (he : starEach [a] X.env = (false, eval a X.env) :: starEach [] X.env := by rfl) : XE X κ (.Call (.Name "all" p) [a] [] pos) (dCB gAll fr) := e_cb (cr_allH c.hot) rc_all gAll_nx hm (by decide +kernel) ha hg (by decide) (by decide) he
/-! statements -/
theorem s_setFH {x : Str} (i : Nat) (c : FeH X κ k) (ha : XE X κ a fa) (hi : X.N[i]? = some x := by rfl) (hx : Loc X.env.scope x := by first | exact Or.inl rfl | exact Or.inr rfl) (hs : swapsWith a (some (.Name x p)) pos.line X.env = pure false := by rfl)
    (hf : X.fn x = true ∨ X.env.scope.names.lookup x = some .local := by first | exact .inl rfl | exact .inr rfl) : XS X κ (.Assign [.Name x p] a pos) (sSetF i fa) := by
  obtain ⟨t, pa, ea⟩ := ha
  exact ⟨_, ps_set c.nd hi hx pa hs hf, ev_setF ea⟩
theorem s_parFH {x y : Str} {px py pt pt2 : Pos} {kt k2 : Nat} (i j : Nat) (fl : List Bool) (c : FeH X κ k) (ha : XA X κ [a, b] fr) (hi : X.N[i]? = some x := by rfl) (hj : X.N[j]? = some y := by rfl) (hij : i ≠ j := by decide) (hx : X.env.scope.names.lookup x = some .local := by rfl) (hy : X.env.scope.names.lookup y = some .local := by rfl)
    (hw : swappedStores [.Tuple [.Name x px, .Name y py] kt pt] (.Tuple [a, b] k2 pt2) X.env = pure (some [x, y]) := by rfl) (hs : swapsWithSole [.Tuple [.Name x px, .Name y py] kt pt] (.Tuple [a, b] k2 pt2) pos.line X.env = pure false := by rfl) :
    XS X κ (.Assign [.Tuple [.Name x px, .Name y py] kt pt] (.Tuple [a, b] k2 pt2) pos) (sParF [i, j] fl fr) := by
  obtain ⟨t, pa, ea⟩ := ha
  exact ⟨_, ps_parH c.hot c.nd hi hj hij hx hy pa hw hs, ev_parF ea⟩
theorem s_whileH {body : List Stmt} {fA : DT} (n : Nat) (c : FcH X κ k) (hc : XT X κ a fA) (hb : XB X κ body gs) : XS X κ (.While a body [] pos) (whileL fA gs n) := by
  obtain ⟨ti, pi, ei⟩ := hc
  obtain ⟨tb, pb, eb⟩ := hb
  exact ⟨_, ps_while c.pass pi pb, ev_while ei eb⟩
theorem s_raiseH {x : String} {m : Str} {j : Nat} (c : FeH X κ k) (r : Rcl X.K X.mg κ.cm x) : XS X κ (.Raise (some (.Call (.Name x p) [.Constant (.str m) j p2] [] pos)) none p3) (sRaise x) := by
  obtain ⟨C, h1, h2, h3⟩ := r.ex
  refine ⟨_, ps_never, ?_⟩
  intro σ H G ws ρ w D st h
  have z := h (.ref C) none σ H G ws st ⟨C, h2, rfl, .inl ⟨rfl, rfl⟩⟩
  rw [c.no] at z
  exact z.elim
theorem g_tpH {xs : List Expr} {kk : Nat} {is : List Nat} (c : FeH X κ k) (h : PGs X xs (gNames is)) (hn : (assignEach xs X.env).length = is.length := by rfl) (hst : (assignEach xs X.env).findIdx? (·.1) = none := by rfl) : PG X (.Tuple xs kk p) (gT X.K (.tp is)) := pg_tupH c.hot h hn hst
theorem s_forFH {f : Str} {body : List Stmt} (t : Tg) (h : Hcl X.prog X.w X.K X.mg X.base κ.C) (c : FcH X κ k) (ho : XE X κ o fo) (hg : PG X tg (gT X.K t)) (hb : XB X κ body gs) (hf : f ∈ (["ranks", "seats", "known", "weeks", "plans", "cuts", "many", "done"] : List Str) := by decide) (hba : attributeBase o f X.env (eval o X.env) = eval o X.env := by rfl)
    (hs : ∀ x, foldedSetIterable (.Attribute o f p) X.env x = pure x := by intro _; rfl) : XS X κ (.For tg (.Attribute o f p) body [] pos) (sForF f fo t gs) := by
  obtain ⟨t1, p1, e1⟩ := ho
  obtain ⟨tb, pb, eb⟩ := hb
  exact ⟨_, ps_forH c.pass c.hot (pi_listE (pe_fld p1 hba)).pih hg pb hs, ev_forF h.cl (h.na f hf) e1 eb⟩
/-! comprehensions -/
def XIX (X : Cx) (κ : Kx) (tg iter : Expr) (f : DI) : Prop := ∃ te, PIX X tg iter te ∧ EvI (pm X κ) κ.e κ.Wi te f
theorem i_seqH (ha : XE X κ iter fa) : XIX X κ tg iter (iSq fa) := by
  obtain ⟨ta, pa, ea⟩ := ha
  refine ⟨_, pi_seqE pa, ?_⟩
  intro σ H G ws ρ w R st h
  unfold iSq at h
  refine ea σ H G ws ρ w _ st ?_
  cases e : fa ρ w with
  | bad => rw [e] at h; exact h
  | ex x w' => rw [e] at h; exact h
  | ok x w' =>
    intro v H1 G1 ws1 n1 r1 k1
    rw [e] at h
    obtain ⟨m, d⟩ := x
    cases d <;> try exact h.elim
    · have := rv_str r1
      subst this
      exact .inr (.inr ⟨_, rfl, h _ H1 G1 ws1 n1 (its_ok _)⟩)
    · obtain ⟨a, vs, rfl, q0, q1, rs⟩ := rv_tup n1.sub r1
      exact .inr (.inl ⟨a, rfl, ⟨vs, q1⟩, h (Itt X.K a) H1 G1 ws1 n1 (itt_ok fun G' H' ws' ⟨s1, s2, io⟩ => ⟨s2.sqT (sqT_mono s1 q0), rs.mono s1 io⟩)⟩)
    · obtain ⟨a, vs, G2, rfl, hH, n2, hp⟩ := rv_walk n1 r1 k1
      exact .inl ⟨a, rfl, ⟨vs, SqL.of hH⟩, h (Itl X.K a) H1 G2 ws1 n2 (itl_ok hp)⟩
theorem e_lcH {fi : DI} {fA : DT} {ifs : List Expr} {scope : Scope} (own : List (Str × Nat)) (t : Tg) (c : FeH X κ k) (hi : XIX X κ tg iter fi) (ok : blkC X.N X.env.scope scope own = true)
    (hg : ∀ (s : Shared) (H : Hp) (C : Addr) (cl : List (Str × Addr)) (fp : List Addr), PG (X.blk s H scope (PySem.compEnvC scope cl C X.env) fp) tg (gT X.K t))
    (ht : ∀ (s : Shared) (H : Hp) (C : Addr) (cl : List (Str × Addr)) (fp : List Addr), PTs (X.blk s H scope (PySem.compEnvC scope cl C X.env) fp) ifs (cT (pm X κ) κ.e κ.no.Wi fA))
    (he : ∀ (s : Shared) (H : Hp) (C : Addr) (cl : List (Str × Addr)) (fp : List Addr), XE (X.blk s H scope (PySem.compEnvC scope cl C X.env) fp) κ.no elt fa) (hv : ∀ i ∈ tgs t, i ∈ own.map (·.2) := by decide) (hs : ∀ x, foldedSetIterable iter X.env x = pure x := by intro _; rfl) :
    XE X κ (.ListComp elt [⟨tg, iter, ifs, 0⟩] scope pos) (dLc fi t fA fa (own.map (·.2))) := by
  obtain ⟨ti, pi, ei⟩ := hi
  exact ⟨_, pe_lcH c.hot c.nd pi (blkOk_by ok) hg ht (fun s H C cl fp => (he s H C cl fp).can) hs, ev_lc ei ev_cT ev_cE hv⟩
end
end DL
/-! try: .. except X as e: return R, R reckoned while the error is handled -/
namespace DL
open PySem PySem.Spec PyProof.Rows L2 L2H HotX HotE
/-- what the clause wishes of an error of the body -/
def wAsN (K : PySem.W.Frag) (c : Value) (i : Nat) (D : Ends) (ts : Addr → Value → Option Addr → TS) : WX := fun cls d σ H => PySem.W.exmOne K cls c = some true ∧ ∀ a, H a = none → ts a cls d { nx := fun σ' H' => D.nx (σ'.set i none) H', rt := D.rt, bk := fun σ' H' => D.bk (σ'.set i none) H', ct := fun σ' H' => D.ct (σ'.set i none) H' } (σ.set i (some (.ref a))) H
section
variable {X : Cx} {x n : Str} {c : Value} {i : Nat} {body suite : List Stmt} {b₀ : Stmt} {np pos pos' : Pos} {tb : WX → TS} {ts : Addr → Value → Option Addr → TS}
theorem ps_try_asN (hs : X.stack = X.env :: X.outer) (hf : X.env.frame = some X.env.locals) (hN : X.N.Nodup) (hi : X.N[i]? = some n) (hln : X.env.kindOf n = some .local) (hc : Names X x c)
    (hb : ∀ (W : WX) (pn : List (Addr × Obj)) (xe : Value → Shared → Prop), L2N.Takes (X.tr pn xe) W → PassesOwn (model X.prog X.w) X.A X.env xe → PSs (X.tr pn xe) body (tb W))
    (hsu : ∀ (a : Addr) (oe : Obj) (cls : Value) (d : Option Addr) (pn : List (Addr × Obj)), L2N.Zn cls d oe → (∃ vs, oe.data = .fields vs) → PSs (X.suite a ((a, oe) :: pn)) (b₀ :: suite) (ts a cls d)) :
    PS X (.Try body [.ExceptHandler (some (.Name x np)) (some n) (b₀ :: suite) pos'] [] [] pos) (fun D σ H => tb (wAsN X.K c i D ts) D σ H) := by
  refine ⟨fun pins s σ H D I h => ?_⟩
  have ok := I.ok
  have hfr : X.A.frames = some (X.env :: X.outer) := by rw [ok.frames, hs]
  have hloc : Loc X.env.scope n := .inl hln
  refine wpAny_Try_except ?_
  refine wpAny_mono ((hb (wAsN X.K c i D ts) (X.pn ++ pins) (fun e s₁ => wpAny (model X.prog X.w) X.A (noteFrame e X.env) (fun _ s₂ => wpAny (model X.prog X.w) X.A (setFlight e none) (fun _ s₃ =>
    wpAny (model X.prog X.w) X.A (handleBy e X.env [.ExceptHandler (some (.Name x np)) (some n) (b₀ :: suite) pos']) (SP X pins D) X.xe s₃) X.xe s₂) X.xe s₁) (fun u s' xx => ?_) PassesOwn.looking).run [] s σ H D (I.toTry _) h) (fun f s1 hsp => ?_) (fun e s1 he => he)
  · obtain ⟨a, B, sI, pins', σ', H', cls, d, rfl, J', nb, up, sky, na, os, ag, hb1, hyes⟩ := xx
    have J : Inv X pins σ' H' sI := J'.ofTry ok
    have sky' : Sky B (X.env :: X.outer) a (L2N.Zn cls d) X.env.locals s'.heap := by rw [← hs]; exact sky
    show wpAny _ X.A (noteFrame (.ref a) X.env) _ _ _
    refine L2N.Sky.land L2N.Zn.steady hfr hf sky' fun h3 fl3 up3 => ?_
    have J3 : Inv X pins σ' H' { s' with heap := h3 } := J.landed nb fl3.1 (up.trans up3) os ag
    obtain ⟨oe3, vs3, he3, hz3, hd3⟩ := fl3.there
    have nfr : a ∉ frs (X.env :: X.outer) := fun hm => by
      obtain ⟨_, o', e', hnf⟩ := fl3.2.2.1.mem hm
      rw [he3] at e'; cases e'
      exact hnf _ hd3
    have nL : a ≠ X.env.locals := fun z => nfr (List.mem_filterMap.mpr ⟨X.env, List.mem_cons_self, by rw [hf, z]⟩)
    have nF : a ∉ X.fs := fun hm => by
      obtain ⟨e, he, q⟩ := List.mem_filterMap.mp hm
      exact nfr (List.mem_filterMap.mpr ⟨e, List.mem_cons_of_mem _ he, q⟩)
    have S3 := J3.suite he3 hd3 na nL nF
    refine wpAny_handleBy_cons (codeAny_handlers_test ?_) (by intro q; cases q)
    have LT : PySem.W.Looks (model X.prog X.w) h3 (typeOf (.ref a)) cls := fun A Q E s k q => wpAny_typeOf_ref (k _ _ he3) (by rw [hz3.1]; exact q)
    have LM := PySem.W.exm_one (M := model X.prog X.w) (J3.kIn) LT hb1
    have test : ∀ {Q : Value → Shared → Prop} {E : Value → Shared → Prop}, Q c { s' with heap := h3 } → wpAny (model X.prog X.w) (X.A.mark (some (.ref a))) (eval (.Name x np) X.env) Q E { s' with heap := h3 } := fun {Q E} q => by
      obtain ⟨hg, hdbg, hm | ⟨hm, hv, hnn⟩⟩ := hc
      · exact ld_glob (X := X.suite a ((a, oe3) :: (X.pn ++ pins))) S3 hg hm q hdbg
      · exact ld_blt (X := X.suite a ((a, oe3) :: (X.pn ++ pins))) S3 hg hm hv q hnn hdbg
    refine test (LM.here ?_)
    refine codeAny_handlers_suite_as ?_
    refine HandSPX.lands_againZ fl3 fun h4 fl4 up4 => ?_
    have J4 : Inv X pins σ' H' { s' with heap := h4 } := J.landed nb fl4.1 ((up.trans up3).trans up4) os ag
    obtain ⟨oe4, vs4, he4, hz4, hd4⟩ := fl4.there
    have S4 := J4.suite he4 hd4 na nL nF
    refine store_ok (X := X.suite a ((a, oe4) :: (X.pn ++ pins))) (v := .ref a) S4 hN hi hloc rfl (fun s5 S5 => ?_) (.inr hln)
    refine wpAny_mono ((hsu a oe4 cls d (X.pn ++ pins) hz4 ⟨_, hd4⟩).run [] s5 _ H' _ S5 (hyes a na)) (fun f s6 hsp => ?_) (fun _ _ z => False.elim z)
    have end_ : ∀ {σ6 : L2.St} {H6 : Hp} {Q : Shared → Prop}, Inv (X.suite a ((a, oe4) :: (X.pn ++ pins))) [] σ6 H6 s6 → (∀ s7, Inv X pins (σ6.set i none) H6 s7 → Q s7) →
        wpAny (model X.prog X.w) X.A (do bindName X.env n .none; unbindBehindTheSuite X.env n pos') (fun _ s7 => Q s7) X.xe s6 := fun {σ6 H6 Q} S6 hq => gone_ok (S6.unsuite ok) hN hi hln hq
    cases f with
    | next =>
      obtain ⟨σ6, H6, S6, q6⟩ := hsp
      exact end_ S6 fun s7 J7 => ⟨_, _, J7, q6⟩
    | brk =>
      obtain ⟨σ6, H6, S6, q6⟩ := hsp
      exact end_ S6 fun s7 J7 => ⟨_, _, J7, q6⟩
    | cont =>
      obtain ⟨σ6, H6, S6, q6⟩ := hsp
      exact end_ S6 fun s7 J7 => ⟨_, _, J7, q6⟩
    | ret u =>
      obtain ⟨v6, σ6, H6, S6, r6, q6⟩ := hsp
      exact end_ S6 fun s7 J7 => ⟨_, _, _, J7, r6, q6⟩
  · cases f with
    | next =>
      obtain ⟨σ', H', J', q⟩ := hsp
      exact wpAny_execs_nil ⟨σ', H', J'.ofTry ok, q⟩
    | brk =>
      obtain ⟨σ', H', J', q⟩ := hsp
      exact ⟨σ', H', J'.ofTry ok, q⟩
    | cont =>
      obtain ⟨σ', H', J', q⟩ := hsp
      exact ⟨σ', H', J'.ofTry ok, q⟩
    | ret u =>
      obtain ⟨v, σ', H', J', r, q⟩ := hsp
      exact ⟨v, σ', H', J'.ofTry ok, r, q⟩
end
/-! as a denotation -/
noncomputable def sTryR (i : Nat) (y : String) (hd : Addr → Xc → DE) (g : DS) : DS := fun ρ w => match g ρ w with
  | .ex x ρ' w1 => if x.c = y then tryR fun a => hd a x ((thin ρ').set i (some (fz (.exc a)))) w1 else .bad
  | o => o
section
variable {X : Cx} {κ : Kx} {kx i : Nat} {n : Str}
theorem s_tryR {y : String} {C : Addr} {hd : Addr → Xc → DE} {g : DS} {R : Expr} {body : List Stmt} {np rp pos' pos : Pos} (c : Fc X κ kx) (E : ErsX X.K X.mg κ.cm) (h1 : X.mg y = some (.ref C)) (h2 : κ.cm y = some C)
    (hb : ∀ (W : WX) (pn : List (Addr × Obj)) (xe : Value → Shared → Prop), Fc (X.tr pn xe) { κ with Wi := W } kx → XB (X.tr pn xe) { κ with Wi := W } body g)
    (hsu : ∀ (a : Addr) (oe : Obj) (cls : Value) (d : Option Addr) (pn : List (Addr × Obj)) (e' : En) (x : Xc), FeH (X.suite a ((a, oe) :: pn)) ⟨κ.C, κ.cm, e', noW⟩ kx → Zc cls d oe → (∃ vs, oe.data = .fields vs) → XfIn (pm X κ) e' x cls d → cls = .ref C → XE (X.suite a ((a, oe) :: pn)) ⟨κ.C, κ.cm, e', noW⟩ R (hd a x))
    (hi : X.N[i]? = some n := by rfl) (hln : X.env.kindOf n = some .local := by rfl) (hst : X.stack = X.env :: X.outer := by rfl) (hfr : X.env.frame = some X.env.locals := by rfl) (hga : Gl X y := by rfl) (hdb : ((y : Str) == ("__debug__" : Str)) = false := by decide) :
    XS X κ (.Try body [.ExceptHandler (some (.Name y np)) (some n) [.Return (some R) rp] pos'] [] [] pos) (sTryR i y hd g) := by
  obtain ⟨A, E⟩ := E
  refine ⟨_, ps_try_asN (c := .ref C) (tb := fun W => cS (pm X κ) κ.e W g) (ts := tsH (pm X κ) y hd) hst hfr c.nd hi hln ⟨hga, hdb, .inl h1⟩ (fun W pn xe tk ps => (hb W pn xe ⟨c.calm, c.nd, c.room, tk, ps⟩).canS)
    (fun a oe cls d pn hz hf => ⟨fun pins s σ H D I h => ?_⟩), ?_⟩
  · obtain ⟨e', x, hx, hy, q⟩ := h
    have ec : cls = .ref C := by
      obtain ⟨c1, q1, q2, _⟩ := hx.rel
      rw [hy, show (pm X κ).cm y = some C from h2] at q1
      cases q1
      exact q2
    obtain ⟨vs, hvs⟩ := id hf
    have hot : FeH (X.suite a ((a, oe) :: pn)) ⟨κ.C, κ.cm, e', noW⟩ kx := ⟨⟨(a, oe), ⟨rfl, vs, hvs, hz.2.2 vs hvs⟩, List.mem_cons_self⟩, c.nd, ⟨c.room.dp, c.room.un⟩, rfl⟩
    exact (pss_one (ps_ret (pos := rp) (hsu a oe cls d pn e' x hot hz.zc hf hx ec).can)).run pins s σ H D I q
  · intro σ H G ws ρ w D st h
    refine ⟨G, ws, ρ, w, st, ?_⟩
    unfold sTryR at h
    cases e : g ρ w with
    | next => rw [e] at h; exact h
    | brk => rw [e] at h; exact h
    | cont => rw [e] at h; exact h
    | ret => rw [e] at h; exact h
    | bad => rw [e] at h; exact h
    | ex x ρ' w1 =>
      rw [e] at h
      dsimp only at h
      split at h
      case isFalse => exact h.elim
      rename_i hy
      intro cls d σ' H' G' ws' st' hx
      obtain ⟨cx, hcx, rfl, hdd⟩ := id hx
      refine ⟨by rw [E.own hcx h2]; simp [hy], fun a na => ⟨⟨H', G', ws'⟩, x, ⟨hx, fun dd ed => ?_⟩, hy, ?_⟩⟩
      · rcases hdd with ⟨_, q2⟩ | ⟨_, d2, vfs, q2, q3, _⟩
        · rw [q2] at ed; cases ed
        · rw [q2] at ed; cases ed; exact reg_not_xd st'.rw q3
      · have st2 : St X.K κ.C ⟨H', G', ws'⟩ (σ'.set i (some (.ref a))) H' G' ws' ((thin ρ').set i (some (fz (.exc a)))) w1 := by
          have ln := st'.len
          refine ⟨st'.nx, by simp [thin, ln], ?_, ?_, ?_⟩
          · intro j z ej
            rw [List.getElem?_set] at ej ⊢
            by_cases hij : i = j
            · subst hij
              rw [if_pos rfl] at ej ⊢
              have hl : i < (thin ρ').length := by
                by_cases hq : i < (thin ρ').length
                · exact hq
                · rw [if_neg hq] at ej; cases ej
              rw [if_pos hl] at ej
              cases ej
              rw [if_pos (by rw [ln]; simpa [thin] using hl)]
              exact ⟨_, rfl, .exc, .inl rfl⟩
            · rw [if_neg hij] at ej ⊢
              obtain ⟨e1, e2⟩ := thin_get ej
              obtain ⟨v, q1, q2, _⟩ := st'.sl j z e1
              exact ⟨v, q1, q2, .inl e2⟩
          · intro j z b ej em
            exfalso
            rw [List.getElem?_set] at ej
            by_cases hij : i = j
            · rw [if_pos hij] at ej
              split at ej
              · cases ej; cases em
              · cases ej
            · rw [if_neg hij] at ej
              rw [(thin_get ej).2] at em
              cases em
          · intro j j' z z' b ej ej' em
            exfalso
            rw [List.getElem?_set] at ej
            by_cases hij : i = j
            · rw [if_pos hij] at ej
              split at ej
              · cases ej; cases em
              · cases ej
            · rw [if_neg hij] at ej
              rw [(thin_get ej).2] at em
              cases em
        refine ev_ret (P := pm X κ) ev_cE _ _ _ _ _ _ _ st2 ?_
        unfold tryR at h
        split at h
        · rename_i ex
          obtain ⟨kp, eq⟩ := Classical.choose_spec ex
          have eqa := eq a
          unfold sRet
          dsimp only at eqa ⊢
          rw [eqa]
          show PostS _ _ _ _ _ _ (if keepM _ = true then _ else _)
          rw [if_pos kp]
          intro v H2 G2 ws2 n2 r2 k2 m2
          exact h v H2 G2 ws2 (st'.nx0.trans n2) r2 (newOk_back st'.nx0 k2) m2
        · exact h.elim
end
end DL
/-! The head: what the top leaves, by one run; facts of it as tests upon a part of the heap. -/
namespace DH
open PySem PySem.Spec PyProof.Rows L2 DL
section
variable {fa : List (Frag → Bool)} {fn : List He.DefD} {K : Frag}
theorem SaysQ.all (c : SaysQ fa fn K) : (fa.all fun f => f K) = true ∧ (fn.all fun d => d.ok K) = true := He.ba (show ((fa.all fun f => f K) && fn.all fun d => d.ok K) = true from congrArg (fun z : He.AlD => z.1) c)
theorem SaysQ.fact (c : SaysQ fa fn K) (i : Nat) {f : Frag → Bool} (h : fa[i]? = some f := by rfl) : f K = true := List.all_eq_true.mp c.all.1 f (List.mem_of_getElem? h)
theorem SaysQ.def_ (c : SaysQ fa fn K) (i : Nat) {d : He.DefD} (h : fn[i]? = some d := by rfl) : ∃ fd, FunD K d.name d.qual d.params d.body d.scope (d.dvs K) (d.kws K) (He.fAd K d.at_) fd := by
  have e : fn.map (fun d => He.fnW K d.at_) = fn.map He.DefD.val := congrArg (fun z : He.AlD => z.2) c
  have e2 : (fn.map fun d => He.fnW K d.at_)[i]? = (fn.map He.DefD.val)[i]? := by rw [e]
  rw [List.getElem?_map, List.getElem?_map, h] at e2
  exact He.DefD.funD (Option.some.inj e2) (List.all_eq_true.mp c.all.2 d (List.mem_of_getElem? h))
end
/-! ### tests -/
section
variable {K : Frag} {h : Heap} {mg : Str → Option Value}
theorem free_ok (X : K.In h) (G : h.Ns mainGlobals mg) {x : Str} (c : bFree x K = true) : mg x = none := PySem.W.mg_none_of X G (He.eqO_ok c)
theorem glo_ok (X : K.In h) (G : h.Ns mainGlobals mg) {x : Str} (c : bGlo x K = true) : mg x = some (.ref (ga K x)) := PySem.W.mg_of X G (He.eqO_ok c)
theorem int_ok (X : K.In h) (G : h.Ns mainGlobals mg) {x : Str} {i : Int} (c : bInt x i K = true) : Cst K mg x (.int i) := by
  obtain ⟨t, e⟩ := He.int_ok X G c
  exact cst_int e
theorem str_ok (X : K.In h) (G : h.Ns mainGlobals mg) {x z : Str} (c : bStr x z K = true) : Cst K mg x (.str z) := by
  obtain ⟨t, e⟩ := He.str_ok X G c
  exact cst_str e
theorem tup_ok (X : K.In h) (G : h.Ns mainGlobals mg) {x : Str} {vs : List He.Dv} {ds : List D} (c : bTup x vs K = true) (hr : ∀ G ι, Reps K G ι (vs.map (He.Dv.v K)) ds) : Cst K mg x (.tup ds) := by
  obtain ⟨c1, c2⟩ := He.ba c
  exact ⟨.ref (ga K x), .ref (ga K x), glo_ok X G c1, rfl, fun G ι => .tup (He.tupB_ok c2 G) (hr G ι)⟩
/-! ### defs -/
theorem fun_of {x qual : Str} {st : Stmt} {f : Addr} {fd : FuncData} (F : FunD K x qual (defArgs st) (defBody st) (defScope st) [] [] f fd) : Fun K x qual st f fd := by
  obtain ⟨oc, od, dV, kV, doc, pm, an, cdv, ct, osl, e, lk, hcd, hD, hK⟩ := F.ex
  rcases hD with ⟨_, rfl⟩ | ⟨z, _⟩
  · exact ⟨⟨oc, od, kV, doc, pm, an, cdv, ct, osl, e, lk, hcd⟩, F.kp⟩
  · exact absurd rfl z
theorem fnx_of (X : K.In h) (G : h.Ns mainGlobals mg) {x : Str} {st : Stmt} {ps : List Str} (g : bGlo x K = true) (F : ∃ fd, FunD K x x (defArgs st) (defBody st) (defScope st) [] [] (ga K x) fd)
    (hb : ∀ (kV doc pm : Value) (an : Option Addr) (cdv ct : Value) (us : List Value), us.length = ps.length → bindArgs (PySem.W.fnOf x x (defArgs st) (defBody st) (defScope st) .none kV doc pm an cdv ct) ⟨us, []⟩ = pure (ps.zip us)) : Fnx K mg x st ps := by
  obtain ⟨fd, F⟩ := F
  exact ⟨_, fd, fun_of F, glo_ok X G g, F.bindsN hb⟩
theorem mk_ok {x : Str} (c : bMk x K = true) : PySem.W.tabIn K x = some (cA K x, pA K x) ∧ K.lookup (pA K x) = none ∧ ∀ oc od fd sl, K.lookup (ga K x) = some ⟨oc, od, .func fd, sl⟩ → fd.code = .ref (cA K x) := by
  unfold bMk at c
  unfold cA pA
  cases e : PySem.W.tabIn K x with
  | none => rw [e] at c; cases c
  | some p =>
    rw [e] at c
    obtain ⟨c1, c2⟩ := He.ba c
    refine ⟨rfl, Option.isNone_iff_eq_none.mp c1, fun oc od fd sl hl => ?_⟩
    rw [hl] at c2
    exact of_decide_eq_true c2
theorem funL_of {x : Str} {st : Stmt} {fd : FuncData} (c : bMk x K = true) (F : FunD K x x (defArgs st) (defBody st) (defScope st) [] [] (ga K x) fd) : FunL K x x st (ga K x) fd (cA K x) := by
  obtain ⟨oc, od, dV, kV, doc, pm, an, cdv, ct, osl, rfl, lk, hcd, hD, hK⟩ := F.ex
  have e : cdv = .ref (cA K x) := (mk_ok c).2.2 _ _ _ _ lk
  subst e
  rcases hD with ⟨_, rfl⟩ | ⟨z, _⟩
  · exact ⟨⟨oc, od, kV, doc, pm, an, ct, osl, rfl, lk, hcd⟩, F.kp⟩
  · exact absurd rfl z
theorem fnxL_of (X : K.In h) (G : h.Ns mainGlobals mg) {x : Str} {st : Stmt} {ps : List Str} (g : bGlo x K = true) (c : bMk x K = true) (F : ∃ fd, FunD K x x (defArgs st) (defBody st) (defScope st) [] [] (ga K x) fd)
    (hb : ∀ (kV doc pm : Value) (an : Option Addr) (cdv ct : Value) (us : List Value), us.length = ps.length → bindArgs (PySem.W.fnOf x x (defArgs st) (defBody st) (defScope st) .none kV doc pm an cdv ct) ⟨us, []⟩ = pure (ps.zip us)) : FnxL K mg x st ps (cA K x) := by
  obtain ⟨fd, F⟩ := F
  exact ⟨_, fd, funL_of c F, glo_ok X G g, F.bindsN hb⟩
theorem funG_of {x qual : Str} {st : Stmt} {dvs : List V} {f : Addr} {fd : FuncData} (F : FunD K x qual (defArgs st) (defBody st) (defScope st) dvs [] f fd) : FunG K x qual st f fd := by
  obtain ⟨oc, od, dV, kV, doc, pm, an, cdv, ct, osl, e, lk, hcd, _, _⟩ := F.ex
  exact ⟨oc, od, dV, kV, doc, pm, an, cdv, ct, osl, e, lk, hcd⟩
theorem shp0 {x qual : Str} {st : Stmt} {f : Addr} {fd : FuncData} {ps : List Str} (F : FunD K x qual (defArgs st) (defBody st) (defScope st) [] [] f fd) (s : DL.Shape) (hs : s.dds = [])
    (hb : ∀ (kV doc pm : Value) (an : Option Addr) (cdv ct : Value) (us zs : List Value), us.length = s.n → zs.length = s.ks.length → bindArgs (PySem.W.fnOf x qual (defArgs st) (defBody st) (defScope st) .none kV doc pm an cdv ct) ⟨us, s.ks.zip zs⟩ = pure (ps.zip (selU s.ix (us ++ zs ++ [])))) : Shp K fd ps s := by
  obtain ⟨oc, od, dV, kV, doc, pm, an, cdv, ct, osl, rfl, lk, hcd, hD, hK⟩ := F.ex
  rcases hD with ⟨_, rfl⟩ | ⟨z, _⟩
  · exact ⟨[], [], .nil, fun _ _ => by rw [hs]; exact .nil, fun sh us zs X l1 l2 => .of_eq (hb kV doc pm an cdv ct us zs l1 l2)⟩
  · exact absurd rfl z
theorem shpD {x qual : Str} {st : Stmt} {dvs : List V} {f : Addr} {fd : FuncData} {ps : List Str} (F : FunD K x qual (defArgs st) (defBody st) (defScope st) dvs [] f fd) (hne : dvs ≠ []) (s : DL.Shape) (hr : ∀ G ι, Reps K G ι dvs s.dds)
    (hb : ∀ (T : Addr) (kV doc pm : Value) (an : Option Addr) (cdv ct : Value) (us zs its : List Value), us.length = s.n → zs.length = s.ks.length → its.length = dvs.length → ∃ k, bindArgs (PySem.W.fnOf x qual (defArgs st) (defBody st) (defScope st) (.ref T) kV doc pm an cdv ct) ⟨us, s.ks.zip zs⟩ = seqItems? (.ref T) >>= k ∧ k (some its.toArray) = pure (ps.zip (selU s.ix (us ++ zs ++ its)))) : Shp K fd ps s := by
  obtain ⟨oc, od, dV, kV, doc, pm, an, cdv, ct, osl, rfl, lk, hcd, hD, hK⟩ := F.ex
  rcases hD with ⟨z, _⟩ | ⟨_, T, o, its, n, rfl, hT, hd, hv⟩
  · exact absurd z hne
  · refine ⟨dvs, its, hv, hr, fun sh us zs X l1 l2 => ?_⟩
    obtain ⟨k, h1, h2⟩ := hb T kV doc pm an cdv ct us zs its l1 l2 hv.length.symm
    exact PySem.W.binds_K X rfl hT hd h1 h2
/-! ### classes of errors -/
abbrev cmK (K : Frag) (xs : List String) : Cm := cmL (xs.map fun x => (x, ga K x))
theorem err_ok {x : Str} (c : bErr x K = true) : bGlo x K = true ∧ ErrC K (ga K "AirError") (ga K x) := by
  obtain ⟨c0, c⟩ := He.ba c
  obtain ⟨c1, c⟩ := He.ba c
  obtain ⟨c2, c⟩ := He.ba c
  obtain ⟨c3, c⟩ := He.ba c
  obtain ⟨c4, c⟩ := He.ba c
  obtain ⟨c5, c6⟩ := He.ba c
  refine ⟨c0, ?_, of_decide_eq_true c2, c3, He.eqO_ok c4, He.eqO_ok c5, He.eqO_ok c6⟩
  cases e : PySem.W.clsIn K (ga K x) with
  | none => rw [e] at c1; cases c1
  | some cd =>
    rw [e] at c1
    obtain ⟨h1, h2⟩ := He.ba c1
    exact ⟨cd, rfl, of_decide_eq_true h1, h2⟩
theorem ers_ok (X : K.In h) (G : h.Ns mainGlobals mg) {xs : List String} (a : bAir K = true) (n : bNd xs K = true) (e : (xs.all fun x => bErr x K) = true) : ErsX K mg (cmK K xs) := by
  obtain ⟨a0, a⟩ := He.ba a
  obtain ⟨a1, a⟩ := He.ba a
  obtain ⟨a2, a⟩ := He.ba a
  obtain ⟨a3, a4⟩ := He.ba a
  have hc : ∃ cd, PySem.W.clsIn K (ga K "AirError") = some cd ∧ cd.mro = [.ref (ga K "AirError"), .type "ValueError", .type "Exception", .type "BaseException", .type "object"] ∧ cd.hasDict = true := by
    cases e : PySem.W.clsIn K (ga K "AirError") with
    | none => rw [e] at a1; cases a1
    | some cd =>
      rw [e] at a1
      obtain ⟨h1, h2⟩ := He.ba a1
      exact ⟨cd, rfl, of_decide_eq_true h1, h2⟩
  refine ers_mk (A := ga K "AirError") ?_ ?_ (glo_ok X G a0) hc (of_decide_eq_true a2) (He.eqO_ok a3) (of_decide_eq_true a4)
  · have := of_decide_eq_true n
    rw [List.map_map]
    exact this
  · intro p hp
    obtain ⟨x, hx, rfl⟩ := List.mem_map.mp hp
    exact (err_ok (List.all_eq_true.mp e x hx)).2
theorem lookup_map {xs : List String} {g : String → Addr} {x : String} (h : x ∈ xs) : (xs.map fun x => (x, g x)).lookup x = some (g x) := by
  induction xs with
  | nil => cases h
  | cons y xs ih =>
    rw [List.map_cons, List.lookup_cons]
    by_cases e : x = y
    · subst e; simp
    · have : (x == y) = false := by simpa using e
      rw [this]
      exact ih ((List.mem_cons.mp h).resolve_left e)
theorem cmK_names {xs : List String} {c : String} (h : (cmK K xs c).isSome) : c ∈ xs := by
  have := cmL_names h
  simpa using this
theorem mcl_ok (X : K.In h) (G : h.Ns mainGlobals mg) {xs : List String} {x : String} (e : (xs.all fun x => bErr x K) = true) (hx : x ∈ xs) : Mcl mg (cmK K xs) x :=
  ⟨_, glo_ok X G (err_ok (List.all_eq_true.mp e x hx)).1, lookup_map hx⟩
theorem rcl_ok (X : K.In h) (G : h.Ns mainGlobals mg) {xs : List String} {x : String} (e : (xs.all fun x => bErr x K) = true) (c : bRai x K = true) (hx : x ∈ xs) : Rcl K mg (cmK K xs) x :=
  ⟨⟨_, glo_ok X G (err_ok (List.all_eq_true.mp e x hx)).1, lookup_map hx, c⟩⟩
theorem base_ok (c : bBase K = true) : PySem.W.specialIn K (.ref (ga K "AirError")) "__getattribute__" = some (some (.builtin "type.__getattribute__")) ∧ PySem.W.readsIn K (ga K "AirError") (.type "type") = true ∧ PySem.W.findCls K (.ref (ga K "AirError")) (.type "type") "__init__" = some (.val (.builtin "ValueError.__init__")) := by
  obtain ⟨c1, c⟩ := He.ba c
  obtain ⟨c2, c3⟩ := He.ba c
  refine ⟨He.eqO_ok c1, c2, ?_⟩
  split at c3
  · rename_i n e
    rw [e, of_decide_eq_true c3]
  · cases c3
theorem own_ok {x : Str} {fs : List Str} (e : bErr x K = true) (c : bOwn x fs K = true) : OexC K (ga K x) ∧ PySem.W.findIn K (.ref (ga K x)) "__init__" = some (some (.ref (He.ma K (ga K x) "__init__"))) ∧ PySem.W.typeIn K (.ref (He.ma K (ga K x) "__init__")) = some (.type "function") ∧ ∀ f ∈ fs, PySem.W.findIn K (.ref (ga K x)) f = some none := by
  have ec := (err_ok e).2
  obtain ⟨c1, c⟩ := He.ba c
  obtain ⟨c2, c⟩ := He.ba c
  obtain ⟨c3, c⟩ := He.ba c
  obtain ⟨c4, c⟩ := He.ba c
  obtain ⟨c5, c6⟩ := He.ba c
  refine ⟨⟨?_, He.eqO_ok c2, of_decide_eq_true c3, ec.ty, ec.kp⟩, He.eqO_ok c4, of_decide_eq_true c5, fun f hf => He.eqO_ok (List.all_eq_true.mp c6 f hf)⟩
  split at c1
  · rename_i dd cd sl hl
    split at c1
    · rename_i C' bm k0 k1 k2 k3 n k5 hm hs
      obtain ⟨d1, c1⟩ := He.ba c1
      obtain ⟨d2, c1⟩ := He.ba c1
      obtain ⟨d3, c1⟩ := He.ba c1
      obtain ⟨d4, d5⟩ := He.ba c1
      have d1 := of_decide_eq_true d1
      have d2 := of_decide_eq_true d2
      subst d2
      obtain ⟨nm, bs, mro, ns, qn, hd, sn, sb, ab, col, del⟩ := cd
      obtain ⟨sl⟩ := sl
      dsimp only at hm hs d3 d4
      subst hm hs d4
      have d3 : del = false := by simpa using d3
      subst d3
      rw [d1] at hl
      exact ⟨nm, qn, ns, bs, bm, sn, sb, ab, col, dd, k0, k1, k2, k3, k5, hl, d5⟩
    · cases c1
  · cases c1
def OclT (K : Frag) (mg : Str → Option Value) (cm : Cm) (x : String) (st : Stmt) (ps : List Str) (fs : List Str) (sh : List (Nat × List Str)) : Prop := ∃ C fI fd A, mg x = some (.ref C) ∧ cm x = some C ∧ OexC K C ∧ PySem.W.findIn K (.ref C) "__init__" = some (some (.ref fI)) ∧ PySem.W.typeIn K (.ref fI) = some (.type "function") ∧
  Fun K "__init__" ((x : Str) ++ ".__init__") st fI fd ∧ (∀ f ∈ fs, PySem.W.findIn K (.ref C) f = some none) ∧ (∀ q ∈ sh, q.1 + q.2.length = fs.length ∧ ∀ (s : Shared) (us zs : List Value), us.length = q.1 + 1 → zs.length = q.2.length → BindsTo s fd ⟨us, q.2.zip zs⟩ (ps.zip (us ++ zs))) ∧
  mg "AirError" = some (.ref A) ∧ PySem.W.specialIn K (.ref A) "__getattribute__" = some (some (.builtin "type.__getattribute__")) ∧ PySem.W.readsIn K A (.type "type") = true ∧ PySem.W.findCls K (.ref A) (.type "type") "__init__" = some (.val (.builtin "ValueError.__init__"))
theorem oclT_ok (X : K.In h) (G : h.Ns mainGlobals mg) {xs : List String} {x : String} {st : Stmt} {ps fs : List Str} {sh : List (Nat × List Str)} (a : bAir K = true) (b : bBase K = true) (e : (xs.all fun x => bErr x K) = true) (c : bOwn x fs K = true) (hx : x ∈ xs)
    (F : ∃ fd, FunD K "__init__" ((x : Str) ++ ".__init__") (defArgs st) (defBody st) (defScope st) [] [] (He.ma K (ga K x) "__init__") fd)
    (hs : ∀ q ∈ sh, q.1 + q.2.length = fs.length ∧ ∀ (kV doc pm : Value) (an : Option Addr) (cdv ct : Value) (us zs : List Value), us.length = q.1 + 1 → zs.length = q.2.length → bindArgs (PySem.W.fnOf "__init__" ((x : Str) ++ ".__init__") (defArgs st) (defBody st) (defScope st) .none kV doc pm an cdv ct) ⟨us, q.2.zip zs⟩ = pure (ps.zip (us ++ zs))) : OclT K mg (cmK K xs) x st ps fs sh := by
  obtain ⟨fd, F⟩ := F
  have he := List.all_eq_true.mp e x hx
  obtain ⟨o1, o2, o3, o4⟩ := own_ok he c
  obtain ⟨b1, b2, b3⟩ := base_ok b
  have F2 := fun_of F
  refine ⟨_, _, fd, _, glo_ok X G (err_ok he).1, lookup_map hx, o1, o2, o3, F2, o4, fun q hq => ⟨(hs q hq).1, fun s us zs l1 l2 => ?_⟩, glo_ok X G (He.ba a).1, b1, b2, b3⟩
  obtain ⟨oc, od, kV, doc, pm, an, cdv, ct, osl, rfl, _, _⟩ := F2.ex
  exact .of_eq ((hs q hq).2 kV doc pm an cdv ct us zs l1 l2)
end
theorem tab_uniq {T : List (Addr × Str)} {P : Addr} {z : Str} {l : List Addr} (nd : l.Nodup) (e : T.map (·.1) = l) (h : (P, z) ∈ T) : ∀ p ∈ T, p.1 = P → p.2 = z := by
  subst e
  intro p hp hq
  revert h hp nd
  induction T with
  | nil => intro h; cases h
  | cons t T ih =>
    intro h nd hp
    rw [List.map_cons, List.nodup_cons] at nd
    rcases List.mem_cons.mp h with h1 | h1 <;> rcases List.mem_cons.mp hp with h2 | h2
    · rw [h2, ← h1]
    · exact absurd (List.mem_map.mpr ⟨p, h2, by rw [hq, ← h1]⟩) nd.1
    · exact absurd (List.mem_map.mpr ⟨(P, z), h1, by rw [← h2, hq]⟩) nd.1
    · exact ih h1 nd.2 h2
/-! ### the end -/
theorem walkQ {l : PySem.W.OpenLaw} {k n : Nat} {q : Program} {loose : List Str} {XP : (Str → Option Value) → Heap → Prop} {d : DefRec} {facts : List (Frag → Bool)} {defs : List He.DefD} {F : DF} (hn : l.most = some 63) (hdf : d.params.defaults = []) (hr : Room k callerA)
    (hF : ∀ (w : World) (mg : Str → Option Value) (fa : Addr) (h : Heap) (K : Frag), K.In h → h.Ns mainGlobals mg → mg d.name = some (.ref fa) → SaysQ facts defs K →
      ∃ (fd : FuncData) (cs : List (Addr × Addr)) (T : List (Addr × Str)) (C : Addr) (cm : Cm), (∀ (s : Shared) (u : Value), BindsTo s fd ⟨[u], []⟩ [("script", u)]) ∧
        (∀ p ∈ cs, (∃ x, ((PyProof.Rows.recsOf q).any fun e => e.name == x) = true ∧ PySem.W.tabIn K x = some p) ∧ K.lookup p.2 = none) ∧ (∀ t ∈ T, ∃ p ∈ cs, p.2 = t.1) ∧
        ∀ base : Heap, K.In base → base.Ns mainGlobals mg → (∀ p ∈ cs, LamX.TabB base mg p.1 p.2) → FnOk l.prog w K mg base (L2.CX l.prog w) k fa fd ["script"] (spD ⟨K, ⟨C, T⟩, cm⟩ F))
    (ht : ∀ ns : List Int, ns.length ≤ 63 → ∃ m w, F [.scr ns] W0 = .ok ⟨m, .bl true⟩ w) : PySem.W.WalkO q loose XP (hookQ n facts defs).says l.row.toRowW d [] (fun f vs => PySem.call f vs) := by
  refine Att.attach_callB hn hdf ?_
  intro w s₀ s₁ mg mb fa o pm cd doc a vs ns Gd Y ho hd hcd hmg hobj hints hlen hbits hg
  obtain ⟨K, KX, hs⟩ := Y
  obtain ⟨fd, cs, T, C, cm, hb, hcs, hT, hF⟩ := hF w mg fa _ K KX Gd.T.g hmg hs
  have tabs : ∀ p ∈ cs, PySem.W.CodeHd s₁.heap p.1 p.2 ∧ s₁.heap.get? p.2 = some (PySem.W.tabObj #[]) := fun p hp => by
    obtain ⟨⟨x, h1, h2⟩, _⟩ := hcs p hp
    obtain ⟨dr, hdr⟩ : ∃ dr, (PyProof.Rows.recsOf q).find? (fun e => e.name == x) = some dr := by
      obtain ⟨e, he, hx⟩ := List.any_eq_true.mp h1
      cases h : (PyProof.Rows.recsOf q).find? (fun e => e.name == x) with
      | some dr => exact ⟨dr, rfl⟩
      | none => exact absurd hx (by simpa using List.find?_eq_none.mp h e he)
    exact PySem.W.tab_of Gd.T KX hdr h2
  refine LamX.law_callTs KX Gd.T.g Gd.T.b Gd.T.builtins Gd.T.nolimit hg (fun p hp => (tabs p hp).2) (fun p hp => (hcs p hp).2) (fun p hp => (tabs p hp).1) Gd.T.bmain hobj hints (Nat.le_trans hlen (by decide)) hr hF hb ?_ ?_
  · intro H hH hS
    refine law_sp (ht ns hlen) ?_ hS
    intro t htm
    obtain ⟨p, hp, e⟩ := hT t htm
    exact .nil (e ▸ hH p hp)
  · intro H e s' z
    exact cx_no z
end DH
/-! clauses for errors with fields, from what the top leaves -/
namespace DH
open PySem PySem.Spec PyProof.Rows L2 DL
theorem s_tryRo {X : Cx} {κ : Kx} {kx : Nat} {n : Str} {y : String} {st : Stmt} {ps fs : List Str} {sh : List (Nat × List Str)} {hd : Addr → Xc → DE} {g : DS} {R : Expr} {body : List Stmt} {np rp pos' pos : Pos} (i : Nat) (o : OclT X.K X.mg κ.cm y st ps fs sh) (c : Fc X κ kx) (E : ErsX X.K X.mg κ.cm)
    (hb : ∀ (W : WX) (pn : List (Addr × Obj)) (xe : Value → Shared → Prop), Fc (X.tr pn xe) { κ with Wi := W } kx → XB (X.tr pn xe) { κ with Wi := W } body g)
    (hsu : ∀ (C a : Addr) (oe : Obj) (cls : Value) (d : Option Addr) (pn : List (Addr × Obj)) (e' : En) (x : Xc), FeH (X.suite a ((a, oe) :: pn)) ⟨κ.C, κ.cm, e', noW⟩ kx → XfC X.K C → (∀ f ∈ fs, PySem.W.findIn X.K (.ref C) f = some none) → Zc cls d oe → (∃ vs, oe.data = .fields vs) → XfIn (pm X κ) e' x cls d → cls = .ref C → XE (X.suite a ((a, oe) :: pn)) ⟨κ.C, κ.cm, e', noW⟩ R (hd a x))
    (hi : X.N[i]? = some n := by rfl) (hln : X.env.kindOf n = some .local := by rfl) (hst : X.stack = X.env :: X.outer := by rfl) (hfr : X.env.frame = some X.env.locals := by rfl) (hga : Gl X y := by rfl) (hdb : ((y : Str) == ("__debug__" : Str)) = false := by decide) :
    XS X κ (.Try body [.ExceptHandler (some (.Name y np)) (some n) [.Return (some R) rp] pos'] [] [] pos) (sTryR i y hd g) := by
  obtain ⟨C, fI, fd, A, m1, m2, _, _, _, _, hno, _⟩ := o
  obtain ⟨A', E2⟩ := id E
  exact s_tryR c E m1 m2 hb (fun a oe cls d pn e' x hot hz hf hx hc => hsu C a oe cls d pn e' x hot (E2.cl y C m2).xf hno hz hf hx hc) hi hln hst hfr hga hdb
end DH
/-! defs that make lambdas, their errors without a context -/
namespace DL
open PySem PySem.Spec PyProof.Rows L2
theorem def_okLN {CXF : L2.CXT} {PP : Program} {w : World} {K : PySem.W.Frag} {mg : Str → Option Value} {base : Heap} {x qual : Str} {st : Stmt} {f cc : Addr} {fd : FuncData} {N ps : List Str} {k : Nat} {C : Ca} {cm : Cm} {g : DS} (F : FunL K x qual st f fd cc) (S : FnScope N ps (defScope st))
    (hb : ∀ (A : Around) (outer : List PySem.Env) (s : Shared) (H : Hp) (E : XK) (e : En), Room k (A.deeper (envOfC qual (defScope st) s.heap.objs.size f (.ref cc))) →
      ∃ t, PSs (cxOf CXF PP w K mg base N qual (defScope st) f (.ref cc) A outer s H E) (defBody st) t ∧ EvS ⟨K, C, cm⟩ e (fun cls d _ H' => E cls d H') t g) :
    FnOk PP w K mg base CXF (k + 1) f fd ps (spD ⟨K, C, cm⟩ (fnD ps.length N.length g)) := by
  obtain ⟨oc, od, kV, doc, pm, an, ct, osl, rfl, lk, hcd⟩ := F.ex
  refine fn_of lk hcd S (fun vs H Q E h => spD_len h) fun A outer s H vs Q E hr h => ?_
  have hl := spD_len h
  obtain ⟨G, ws, wd, ds, sm, rw, rs, p⟩ := h
  obtain ⟨t, h1, h2⟩ := hb A outer s H E ⟨H, G, ws⟩ hr
  refine ⟨t, h1, ?_⟩
  unfold L2.start
  rw [hl]
  refine h2 _ H G ws (ds.map (fun d => some (fz d)) ++ List.replicate (N.length - ps.length) none) wd _ (st_start sm rw rs) ?_
  unfold fnD at p
  rw [if_pos (by rw [← rs.length]; exact hl)] at p
  cases eg : g (ds.map (fun d => some (fz d)) ++ List.replicate (N.length - ps.length) none) wd with
  | bad => rw [eg] at p; exact p
  | brk ρ w' => rw [eg] at p; exact p.elim
  | cont ρ w' => rw [eg] at p; exact p.elim
  | next ρ w' => rw [eg] at p; exact fun σ' H' G' ws' st' _ => p .non H' G' ws' st'.nx0 .non fz_nw
  | ret y w' => rw [eg] at p; exact fun v H' G' ws' n r k _ => p v H' G' ws' n r k
  | ex y ρ w' => rw [eg] at p; exact fun cls d σ' H' G' ws' st' hx => p cls d H' G' ws' st'.nx0 hx
theorem df_mkL {P : Program} {w : World} {K : PySem.W.Frag} {mg : Str → Option Value} {base : Heap} {C : Ca} {cm : Cm} {x : Str} {st : Stmt} {cc : Addr} {N ps : List Str} {k : Nat} {g : DS} (F : FnxL K mg x st ps cc) (S : FnScope N ps (defScope st)) (M : Mkt base mg C x cc)
    (hb : ∀ (f : Addr) (A : Around) (outer : List PySem.Env) (s : Shared) (H : Hp) (E : XK) (e : En), Fc (cxOf (L2N.CX P w) P w K mg base N x (defScope st) f (.ref cc) A outer s H E) ⟨C, cm, e, fun cls d _ H' => E cls d H'⟩ k →
      Mkr (cxOf (L2N.CX P w) P w K mg base N x (defScope st) f (.ref cc) A outer s H E) ⟨C, cm, e, fun cls d _ H' => E cls d H'⟩ →
      XB (cxOf (L2N.CX P w) P w K mg base N x (defScope st) f (.ref cc) A outer s H E) ⟨C, cm, e, fun cls d _ H' => E cls d H'⟩ (defBody st) g) : Df P w K mg base C cm x (k + 1) (fnD ps.length N.length g) := by
  obtain ⟨f, fd, F, hm, hB⟩ := F
  obtain ⟨Pt, h1, h2, h3⟩ := M.ex
  exact ⟨f, fd, ps, hm, F.kp, hB, def_okLN F S fun A outer s H E e hr => hb f A outer s H E e ⟨rfl, S.nd, hr, L2N.takes_of rfl rfl rfl rfl, passes_of rfl⟩ ⟨cc, Pt, h1, rfl, h2, h3⟩⟩
end DL
namespace DL
open PySem L2
theorem ro {j : Int} (h : -10000 ≤ j) (h2 : j ≤ 10000) : RO j := by unfold RO; omega
noncomputable def rng1 : List Val → W → R (List D × Bool) := fun xs w => match xs with | [⟨_, .int j⟩] => if RO j then .ok (rngD 0 j.toNat, true) w else .bad | _ => .bad
noncomputable def rng2 : List Val → W → R (List D × Bool) := fun xs w => match xs with | [⟨_, .int i⟩, ⟨_, .int j⟩] => if RO2 i j then .ok (rngD i (j - i).toNat, true) w else .bad | _ => .bad
section
variable (ρ : Env) (w : W) (fa fb fc : DE) (g g' : Val → Val → W → R Val) (fA fB : DT) (fr : DA) (s s' : DS) (x y : Val) (m m' : Md)
@[simp] theorem bind_ok {α β : Type} (a : α) (f : α → W → R β) : (R.ok a w).bind f = f a w := rfl
@[simp] theorem rthn_ok {α : Type} (a : α) (f : α → W → Out) : (R.ok a w).thn ρ f = f a w := rfl
@[simp] theorem othn_next (f : DS) : (Out.next ρ w).thn f = f ρ w := rfl
@[simp] theorem othn_ret (f : DS) : (Out.ret x w).thn f = .ret x w := rfl
@[simp] theorem chk_eq {α : Type} (r : R α) : chk x w w r = r := by simp [chk]
@[simp] theorem dVar_s (i : Nat) : dVar i ρ w = match ρ[i]? with | some (some x) => .ok ⟨if x.m = .nw then .bo else x.m, x.d⟩ w | _ => .bad := rfl
@[simp] theorem dC_s (d : D) : dC d ρ w = .ok (fz d) w := rfl
@[simp] theorem dOp_s : dOp g fa fb ρ w = (fa ρ w).bind fun x w1 => (fb ρ w1).bind fun y w2 => chk x w1 w2 (g x y w2) := rfl
@[simp] theorem dUn_s (g : Val → W → R Val) : dUn g fa ρ w = (fa ρ w).bind fun x w => g x w := rfl
@[simp] theorem dCB_s (g : List Val → W → R Val) : dCB g fr ρ w = (fr ρ w).bind fun x w => g x w := rfl
@[simp] theorem tst_s : tst fa ρ w = (fa ρ w).bind fun x w => match x.d with | .bl b => .ok b w | _ => .bad := rfl
@[simp] theorem dNot_s : dNot fA ρ w = (fA ρ w).bind fun b w => .ok (!b) w := rfl
@[simp] theorem dAnd_s : dAnd fA fB ρ w = (fA ρ w).bind fun b w => if b then fB ρ w else .ok false w := rfl
@[simp] theorem dOr_s : dOr fA fB ρ w = (fA ρ w).bind fun b w => if b then .ok true w else fB ρ w := rfl
@[simp] theorem dAndV_s : dAndV fa fb ρ w = (fa ρ w).bind fun x w => match x.d with | .bl true => fb ρ w | .bl false => .ok (fz (.bl false)) w | _ => .bad := rfl
@[simp] theorem dOrV_s : dOrV fa fb ρ w = (fa ρ w).bind fun x w => match x.d with | .bl false => fb ρ w | .bl true => .ok (fz (.bl true)) w | _ => .bad := rfl
@[simp] theorem dNotV_s : dNotV fa ρ w = (fa ρ w).bind fun x w => match x.d with | .bl b => .ok (fz (.bl (!b))) w | _ => .bad := rfl
@[simp] theorem dIf_s : dIf fA fa fb ρ w = (fA ρ w).bind fun b w => if b then fa ρ w else fb ρ w := rfl
@[simp] theorem dNil_s : dNil ρ w = .ok [] w := rfl
@[simp] theorem dOne_s : dOne fa ρ w = (fa ρ w).bind fun x w => .ok [x] w := rfl
@[simp] theorem dCons_s : dCons fa fr ρ w = (fa ρ w).bind fun x w1 => (fr ρ w1).bind fun xs w2 => chk x w1 w2 (.ok (x :: xs) w2) := rfl
@[simp] theorem dTup_s : dTup fr ρ w = (fr ρ w).bind fun xs w => match frzD xs with | some ds => if ds.length ≤ sizeLine then .ok (fz (.tup ds)) w else .bad | none => .bad := rfl
@[simp] theorem dLst_s : dLst fr ρ w = (fr ρ w).bind fun xs w => match frzD xs with | some ds => if ds.length ≤ sizeLine then .ok ⟨.nw, .lst ds⟩ w else .bad | none => .bad := rfl
@[simp] theorem frzD_nil : frzD [] = some [] := rfl
@[simp] theorem frzD_fz (d : D) (xs : List Val) : frzD (⟨.fz, d⟩ :: xs) = (frzD xs).map (d :: ·) := by simp only [frzD]; cases frzD xs <;> rfl
@[simp] theorem frzD_nw (d : D) (xs : List Val) : frzD (⟨.nw, d⟩ :: xs) = (frzD xs).map (d :: ·) := by simp only [frzD]; cases frzD xs <;> rfl
@[simp] theorem dChain_s : dChain g g' fa fb fc ρ w = (fa ρ w).bind fun x w1 => (fb ρ w1).bind fun y w2 => chk x w1 w2 ((g x y w2).bind fun z w3 => match z.d with | .bl true => (fc ρ w3).bind fun u w4 => chk y w2 w4 (g' y u w4) | .bl false => .ok (fz (.bl false)) w3 | _ => .bad) := rfl
@[simp] theorem dCall_s (F : DF) (dds : List D) : dCall F dds fr ρ w = (fr ρ w).bind fun xs w => match frzD xs with | some ds => F (ds ++ dds) w | none => .bad := rfl
@[simp] theorem dCallP_s (F : DF) (dds : List D) : dCallP F dds fr ρ w = (fr ρ w).bind fun xs w => match borD xs with
  | some ds => (match F (ds ++ dds) w with
    | .ok x w2 => if imV x ∧ w2.n = w.n ∧ w2.lk = w.lk then .ok x w else .bad
    | .ex x w2 => if x.fs.isEmpty ∧ w2.n = w.n ∧ w2.lk = w.lk then .ex x w else .bad
    | .bad => .bad)
  | none => .bad := rfl
@[simp] theorem dPart_s : dPart fa ρ w = (fa ρ w).bind fun x w => match x.d with | .int i => .ok (some i) w | _ => .bad := rfl
@[simp] theorem dSl_s (fl fh : DO) : dSl fa fl fh ρ w = (fa ρ w).bind fun x w1 => (fl ρ w1).bind fun lo w2 => (fh ρ w2).bind fun hi w3 => chk x w1 w3 (gSl x lo hi w3) := rfl
/-! statements -/
@[simp] theorem sNext_s : sNext ρ w = .next ρ w := rfl
@[simp] theorem sSeq_s : sSeq s s' ρ w = (s ρ w).thn s' := rfl
@[simp] theorem sSet_s (i : Nat) : sSet i fa ρ w = (fa ρ w).thn ρ fun x w => if keepM x then .next (ρ.set i (some x)) w else .bad := rfl
@[simp] theorem sSetF_s (i : Nat) : sSetF i fa ρ w = (fa ρ w).thn ρ fun x w => if keepM x then .next (ρ.set i (some (fz x.d))) w else .bad := rfl
@[simp] theorem sParF_s (is : List Nat) (fl : List Bool) : sParF is fl fr ρ w = (fr ρ w).thn ρ fun xs w => if is.length = xs.length ∧ fl.length = xs.length ∧ xs.all keepM then .next (setXs is (frzF fl xs) ρ) w else .bad := rfl
@[simp] theorem sSetT_s (is : List Nat) : sSetT is fa ρ w = (fa ρ w).thn ρ fun x w => match x.d with | .tup ds => if is.length = ds.length then .next (setAll is ds ρ) w else .bad | _ => .bad := rfl
@[simp] theorem sRet_s : sRet fa ρ w = (fa ρ w).thn ρ fun x w => if keepM x then .ret x w else .bad := rfl
@[simp] theorem sRetV_s (i : Nat) : sRetV i ρ w = match ρ[i]? with | some (some x) => .ret x w | _ => .bad := rfl
@[simp] theorem sIf_s : sIf fA s s' ρ w = (fA ρ w).thn ρ fun b w => if b then s ρ w else s' ρ w := rfl
@[simp] theorem sFrz_s (i : Nat) : sFrz i s ρ w = match ρ[i]? with | some (some x) => s (ρ.set i (some (fz x.d))) w | _ => .bad := rfl
@[simp] theorem sApp_s (i : Nat) : sApp i fa ρ w = match ownL ρ i with | some ds => (fa ρ w).thn ρ fun x w => if keepM x ∧ ds.length < sizeLine then .next (ρ.set i (some ⟨.nw, .lst (ds ++ [x.d])⟩)) w else .bad | none => .bad := rfl
@[simp] theorem sExt_s (i : Nat) : sExt i fa ρ w = match ownL ρ i with | some ds => ((fa ρ w).thn ρ fun x w => match x.d with | .lst es => if ds.length + es.length ≤ sizeLine then .next (ρ.set i (some ⟨.nw, .lst (ds ++ es)⟩)) w else .bad | _ => .bad) | none => .bad := rfl
@[simp] theorem ownL_s (i : Nat) : ownL ρ i = match ρ[i]? with | some (some ⟨.nw, .lst ds⟩) => some ds | _ => none := rfl
@[simp] theorem sFor_s (f : DI) (t : Tg) : sFor f t s ρ w = (f ρ w).thn ρ fun x w => if x.2 then forL t s x.1 ρ w else .bad := rfl
@[simp] theorem iSq_fz (ds : List D) (h : fa ρ w = .ok ⟨.fz, .lst ds⟩ w) : iSq fa ρ w = .ok (ds, true) w := by simp [iSq, h, keepM]
@[simp] theorem iR1_s : iR1 fr ρ w = (fr ρ w).bind rng1 := rfl
@[simp] theorem iR2_s : iR2 fr ρ w = (fr ρ w).bind rng2 := rfl
@[simp] theorem rng1_s {j : Int} (h : RO j) : rng1 [⟨m, .int j⟩] w = .ok (rngD 0 j.toNat, true) w := if_pos h
@[simp] theorem rng2_s {i j : Int} (h : RO2 i j) : rng2 [⟨m, .int i⟩, ⟨m', .int j⟩] w = .ok (rngD i (j - i).toNat, true) w := if_pos h
@[simp] theorem keepM_fz (d : D) : keepM ⟨.fz, d⟩ = true := rfl
@[simp] theorem keepM_nw (d : D) : keepM ⟨.nw, d⟩ = true := rfl
@[simp] theorem setXs_nil (xs : List Val) : setXs [] xs ρ = ρ := rfl
@[simp] theorem setAll_nil (xs : List D) : setAll [] xs ρ = ρ := rfl
@[simp] theorem setAll_cons (i : Nat) (is : List Nat) (d : D) (ds : List D) : setAll (i :: is) (d :: ds) ρ = setAll is ds (ρ.set i (some (fz d))) := rfl
@[simp] theorem setXs_cons (i : Nat) (is : List Nat) (v : Val) (xs : List Val) : setXs (i :: is) (v :: xs) ρ = setXs is xs (ρ.set i (some v)) := rfl
@[simp] theorem frzF_nil : frzF [] [] = [] := rfl
@[simp] theorem frzF_cons (b : Bool) (bs : List Bool) (v : Val) (xs : List Val) : frzF (b :: bs) (v :: xs) = (if b then v else fz v.d) :: frzF bs xs := rfl
@[simp] theorem sz_0 : (0 : Nat) ≤ sizeLine := by decide
@[simp] theorem sz_1 : (1 : Nat) ≤ sizeLine := by decide
@[simp] theorem sz_2 : (2 : Nat) ≤ sizeLine := by decide
@[simp] theorem sz_3 : (3 : Nat) ≤ sizeLine := by decide
@[simp] theorem sz_4 : (4 : Nat) ≤ sizeLine := by decide
@[simp] theorem sz_5 : (5 : Nat) ≤ sizeLine := by decide
@[simp] theorem sz_6 : (6 : Nat) ≤ sizeLine := by decide
@[simp] theorem sz_7 : (7 : Nat) ≤ sizeLine := by decide
@[simp] theorem sz_8 : (8 : Nat) ≤ sizeLine := by decide
@[simp] theorem sz_9 : (9 : Nat) ≤ sizeLine := by decide
@[simp] theorem sz_10 : (10 : Nat) ≤ sizeLine := by decide
@[simp] theorem sz_11 : (11 : Nat) ≤ sizeLine := by decide
@[simp] theorem sz_12 : (12 : Nat) ≤ sizeLine := by decide
@[simp] theorem sz_13 : (13 : Nat) ≤ sizeLine := by decide
@[simp] theorem sz_14 : (14 : Nat) ≤ sizeLine := by decide
@[simp] theorem sz_15 : (15 : Nat) ≤ sizeLine := by decide
@[simp] theorem sz_16 : (16 : Nat) ≤ sizeLine := by decide
@[simp] theorem sz_17 : (17 : Nat) ≤ sizeLine := by decide
@[simp] theorem sz_18 : (18 : Nat) ≤ sizeLine := by decide
@[simp] theorem sz_19 : (19 : Nat) ≤ sizeLine := by decide
@[simp] theorem sz_20 : (20 : Nat) ≤ sizeLine := by decide
@[simp] theorem sz_21 : (21 : Nat) ≤ sizeLine := by decide
@[simp] theorem sz_22 : (22 : Nat) ≤ sizeLine := by decide
@[simp] theorem sz_23 : (23 : Nat) ≤ sizeLine := by decide
@[simp] theorem sz_24 : (24 : Nat) ≤ sizeLine := by decide
@[simp] theorem sz_25 : (25 : Nat) ≤ sizeLine := by decide
@[simp] theorem sz_26 : (26 : Nat) ≤ sizeLine := by decide
@[simp] theorem sz_27 : (27 : Nat) ≤ sizeLine := by decide
@[simp] theorem sz_28 : (28 : Nat) ≤ sizeLine := by decide
@[simp] theorem sz_29 : (29 : Nat) ≤ sizeLine := by decide
@[simp] theorem sz_30 : (30 : Nat) ≤ sizeLine := by decide
@[simp] theorem sz_31 : (31 : Nat) ≤ sizeLine := by decide
@[simp] theorem sz_32 : (32 : Nat) ≤ sizeLine := by decide
@[simp] theorem sz_33 : (33 : Nat) ≤ sizeLine := by decide
@[simp] theorem sz_34 : (34 : Nat) ≤ sizeLine := by decide
@[simp] theorem sz_35 : (35 : Nat) ≤ sizeLine := by decide
@[simp] theorem sz_36 : (36 : Nat) ≤ sizeLine := by decide
@[simp] theorem sz_37 : (37 : Nat) ≤ sizeLine := by decide
@[simp] theorem sz_38 : (38 : Nat) ≤ sizeLine := by decide
@[simp] theorem sz_39 : (39 : Nat) ≤ sizeLine := by decide
@[simp] theorem sz_40 : (40 : Nat) ≤ sizeLine := by decide
@[simp] theorem szl_0 : (0 : Nat) < sizeLine := by decide
@[simp] theorem szl_1 : (1 : Nat) < sizeLine := by decide
@[simp] theorem szl_2 : (2 : Nat) < sizeLine := by decide
@[simp] theorem szl_3 : (3 : Nat) < sizeLine := by decide
@[simp] theorem szl_4 : (4 : Nat) < sizeLine := by decide
@[simp] theorem szl_5 : (5 : Nat) < sizeLine := by decide
@[simp] theorem szl_6 : (6 : Nat) < sizeLine := by decide
@[simp] theorem szl_7 : (7 : Nat) < sizeLine := by decide
@[simp] theorem szl_8 : (8 : Nat) < sizeLine := by decide
@[simp] theorem szl_9 : (9 : Nat) < sizeLine := by decide
@[simp] theorem szl_10 : (10 : Nat) < sizeLine := by decide
@[simp] theorem szl_11 : (11 : Nat) < sizeLine := by decide
@[simp] theorem szl_12 : (12 : Nat) < sizeLine := by decide
@[simp] theorem szl_13 : (13 : Nat) < sizeLine := by decide
@[simp] theorem szl_14 : (14 : Nat) < sizeLine := by decide
@[simp] theorem szl_15 : (15 : Nat) < sizeLine := by decide
@[simp] theorem szl_16 : (16 : Nat) < sizeLine := by decide
@[simp] theorem szl_17 : (17 : Nat) < sizeLine := by decide
@[simp] theorem szl_18 : (18 : Nat) < sizeLine := by decide
@[simp] theorem szl_19 : (19 : Nat) < sizeLine := by decide
@[simp] theorem szl_20 : (20 : Nat) < sizeLine := by decide
@[simp] theorem szl_21 : (21 : Nat) < sizeLine := by decide
@[simp] theorem szl_22 : (22 : Nat) < sizeLine := by decide
@[simp] theorem szl_23 : (23 : Nat) < sizeLine := by decide
@[simp] theorem szl_24 : (24 : Nat) < sizeLine := by decide
@[simp] theorem szl_25 : (25 : Nat) < sizeLine := by decide
@[simp] theorem szl_26 : (26 : Nat) < sizeLine := by decide
@[simp] theorem szl_27 : (27 : Nat) < sizeLine := by decide
@[simp] theorem szl_28 : (28 : Nat) < sizeLine := by decide
@[simp] theorem szl_29 : (29 : Nat) < sizeLine := by decide
@[simp] theorem szl_30 : (30 : Nat) < sizeLine := by decide
@[simp] theorem szl_31 : (31 : Nat) < sizeLine := by decide
@[simp] theorem szl_32 : (32 : Nat) < sizeLine := by decide
@[simp] theorem szl_33 : (33 : Nat) < sizeLine := by decide
@[simp] theorem szl_34 : (34 : Nat) < sizeLine := by decide
@[simp] theorem szl_35 : (35 : Nat) < sizeLine := by decide
@[simp] theorem szl_36 : (36 : Nat) < sizeLine := by decide
@[simp] theorem szl_37 : (37 : Nat) < sizeLine := by decide
@[simp] theorem szl_38 : (38 : Nat) < sizeLine := by decide
@[simp] theorem szl_39 : (39 : Nat) < sizeLine := by decide
@[simp] theorem szl_40 : (40 : Nat) < sizeLine := by decide
theorem sz_le {n : Nat} (h : n ≤ 10000) : n ≤ sizeLine := Nat.le_trans h (by decide)
theorem sz_lt {n : Nat} (h : n ≤ 10000) : n < sizeLine := Nat.lt_of_le_of_lt h (by decide)
/-! operations -/
@[simp] theorem gAdd_ii (i j : Int) : gAdd ⟨m, .int i⟩ ⟨m', .int j⟩ w = .ok (fz (.int (i + j))) w := rfl
@[simp] theorem gMul_ii (i j : Int) (h : CMul i j) : gMul ⟨m, .int i⟩ ⟨m', .int j⟩ w = .ok (fz (.int (i * j))) w := by simp [gMul, h]
@[simp] theorem gI0_ii (f : Int → Int → D) (i j : Int) : gI0 f ⟨m, .int i⟩ ⟨m', .int j⟩ w = .ok (fz (f i j)) w := rfl
@[simp] theorem gDiv_ii (i j : Int) (h : CDivW i j) : gDiv ⟨m, .int i⟩ ⟨m', .int j⟩ w = .ok (fz (.int (i / j))) w := by simp [gDiv, gI, h]
@[simp] theorem gMod_ii (i j : Int) (h : 0 < j) : gMod ⟨m, .int i⟩ ⟨m', .int j⟩ w = .ok (fz (.int (i % j))) w := by simp [gMod, gI, h]
@[simp] theorem gPow_ii (i j : Int) (h : CPow i j) : gPow ⟨m, .int i⟩ ⟨m', .int j⟩ w = .ok (fz (.int (i ^ j.toNat))) w := by simp [gPow, gI, h]
@[simp] theorem gNeg_i (i : Int) : gNeg ⟨m, .int i⟩ w = .ok (fz (.int (-i))) w := rfl
@[simp] theorem gEq_ii (b : Bool) (i j : Int) : gEq b ⟨m, .int i⟩ ⟨m', .int j⟩ w = .ok (fz (.bl (b != (i == j)))) w := rfl
@[simp] theorem gMax2_ii (i j : Int) : gMax2 [⟨m, .int i⟩, ⟨m', .int j⟩] w = .ok (fz (.int (if j > i then j else i))) w := rfl
@[simp] theorem gMin2_ii (i j : Int) : gMin2 [⟨m, .int i⟩, ⟨m', .int j⟩] w = .ok (fz (.int (if j < i then j else i))) w := rfl
@[simp] theorem gLen_l (ds : List D) : gLen [⟨m, .lst ds⟩] w = .ok (fz (.int ds.length)) w := rfl
@[simp] theorem gLen_t (ds : List D) : gLen [⟨m, .tup ds⟩] w = .ok (fz (.int ds.length)) w := rfl
@[simp] theorem gLen_s (ns : List Int) : gLen [⟨m, .scr ns⟩] w = .ok (fz (.int ns.length)) w := rfl
@[simp] theorem gIx_l (ds : List D) (i : Int) : gIx ⟨m, .lst ds⟩ ⟨m', .int i⟩ w = match atI ds i with | some d => .ok (fz d) w | none => .bad := rfl
@[simp] theorem gIx_t (ds : List D) (i : Int) : gIx ⟨m, .tup ds⟩ ⟨m', .int i⟩ w = match atI ds i with | some d => .ok (fz d) w | none => .bad := rfl
theorem gIx_scr (ns : List Int) (i : Int) : gIx ⟨m, .scr ns⟩ ⟨m', .int i⟩ w = match atI ns i with | some n => .ok (fz (.int n)) w | none => .bad := rfl
@[simp] theorem gSl_l (ds : List D) (lo hi : Option Int) : gSl ⟨m, .lst ds⟩ lo hi w = .ok ⟨.nw, .lst (cutL ds lo hi)⟩ w := rfl
@[simp] theorem gAdd_ll (xs ys : List D) (h : xs.length + ys.length ≤ sizeLine) : gAdd ⟨m, .lst xs⟩ ⟨m', .lst ys⟩ w = .ok ⟨.nw, .lst (xs ++ ys)⟩ w := by simp [gAdd, h]
@[simp] theorem gInt_b (b : Bool) : gInt [⟨m, .bl b⟩] w = .ok (fz (.int (if b then 1 else 0))) w := rfl
@[simp] theorem gInt_i (i : Int) : gInt [⟨m, .int i⟩] w = .ok (fz (.int i)) w := rfl
@[simp] theorem gList_l (ds : List D) : gList [⟨m, .lst ds⟩] w = .ok ⟨.nw, .lst ds⟩ w := rfl
theorem gEq_scrN (ns : List Int) : gEq true ⟨m, .scr ns⟩ ⟨m', .lst []⟩ w = .ok (fz (.bl (ns != []))) w := by
  cases ns <;> rfl
end
theorem atI_pos {α : Type} {xs : List α} {i : Int} (h0 : 0 ≤ i) (h1 : i < xs.length) : atI xs i = xs[i.toNat]? := by
  unfold atI ixN
  rw [if_pos h0, if_pos h1]
  rfl
theorem cdiv (i j : Int) (h : 0 < j) (h2 : j < 2 ^ 64) : CDivW i j := by
  refine ⟨h, ?_⟩
  have h3 : j.natAbs < 2 ^ 64 := by omega
  by_cases hz : j.natAbs = 0
  · rw [hz]; decide
  · have := (Nat.log2_lt hz).mpr h3
    omega
theorem cpow_10_18 : CPow 10 18 := ⟨by decide, by decide, by decide⟩
theorem cmulR (i j : Int) (h : -(2 ^ 64) < j) (h2 : j < 2 ^ 64) : CMul i j := .inr ⟨h, h2⟩
theorem cmulL (i j : Int) (h : -(2 ^ 64) < i) (h2 : i < 2 ^ 64) : CMul i j := .inl ⟨h, h2⟩
/-- a loop that leaves the world as it is -/
theorem forL_pure {t : Tg} {b : DS} (I : Nat → Env → Prop) : ∀ (ds : List D) (k : Nat) (ρ : Env), I k ρ → (∀ (i : Nat) (d : D) (ρ : Env), ds[i]? = some d → I (k + i) ρ → ∃ ρ1 ρ2, setT t d ρ = some ρ1 ∧ (∀ w, b ρ1 w = .next ρ2 w) ∧ I (k + i + 1) ρ2) →
    ∃ ρ', (∀ w, forL t b ds ρ w = .next ρ' w) ∧ I (k + ds.length) ρ'
  | [], k, ρ, h0, _ => ⟨ρ, fun _ => rfl, h0⟩
  | d :: ds, k, ρ, h0, hs => by
    obtain ⟨ρ1, ρ2, e1, e2, h1⟩ := hs 0 d ρ rfl h0
    obtain ⟨ρ', e, h⟩ := forL_pure I ds (k + 1) ρ2 h1 fun i d' ρ hd hi => by
      have := hs (i + 1) d' ρ (by simpa using hd) (by rw [show k + (i + 1) = k + 1 + i by omega]; exact hi)
      rw [show k + (i + 1) + 1 = k + 1 + i + 1 by omega] at this
      exact this
    refine ⟨ρ', fun w => ?_, by rw [show k + (d :: ds).length = k + 1 + ds.length by simp; omega]; exact h⟩
    unfold forL
    rw [e1]
    simp only [e2]
    exact e w
theorem rngD_get {lo : Int} {n i : Nat} {d : D} (h : (rngD lo n)[i]? = some d) : i < n ∧ d = .int (lo + i) := by
  have hi : i < n := by have := (List.getElem?_eq_some_iff.mp h).1; simpa [rngD] using this
  refine ⟨hi, ?_⟩
  unfold rngD at h
  rw [List.getElem?_map, List.getElem?_range hi] at h
  exact (Option.some.inj h).symm
@[simp] theorem rngD_length (lo : Int) (n : Nat) : (rngD lo n).length = n := by simp [rngD]
@[simp] theorem setT_nm (i : Nat) (d : D) (ρ : Env) : setT (.nm i) d ρ = some (ρ.set i (some (fz d))) := rfl
theorem atI_ints (vs : List Int) (p : Int) (h0 : 0 ≤ p) (h1 : p < vs.length) : ∃ v ∈ vs, atI (vs.map D.int) p = some (.int v) := by
  have hp : p.toNat < vs.length := by omega
  refine ⟨vs[p.toNat], List.getElem_mem hp, ?_⟩
  rw [atI_pos h0 (by simpa using h1), List.getElem?_map, List.getElem?_eq_getElem hp]
  rfl
/-- a text by its signs -/
def nm (cs : List Nat) : Str := ⟨cs.toArray⟩
theorem nm_app (a b : List Nat) : nm a ++ nm b = nm (a ++ b) := by
  show Str.append (nm a) (nm b) = _
  simp [Str.append, nm]
theorem nm_len (a : List Nat) : (nm a).length = a.length := by simp [nm, Str.length]
theorem nm_inj {a b : List Nat} (h : nm a = nm b) : a = b := by
  have := congrArg (fun s : Str => s.cps.toList) h
  simpa [nm] using this
/-- a small letter -/
def Lt (c : Nat) : Prop := 97 ≤ c ∧ c ≤ 122
theorem letters_ix {p : Int} (h0 : 0 ≤ p) (h1 : p < 26) (m m' : Md) (w : W) : gIx ⟨m, .str "abcdefghijklmnopqrstuvwxyz"⟩ ⟨m', .int p⟩ w = .ok (fz (.str (nm [97 + p.toNat]))) w := by
  have key : ∀ q : Fin 26, (Str.ofString "abcdefghijklmnopqrstuvwxyz").cps.toList[q.1]? = some (97 + q.1) := by decide +kernel
  have hl : (Str.ofString "abcdefghijklmnopqrstuvwxyz").cps.toList.length = 26 := by decide +kernel
  have hs : (Str.ofString "abcdefghijklmnopqrstuvwxyz").length ≤ sizeLine := by decide +kernel
  simp only [gIx, hs, if_true]
  rw [atI_pos h0 (by rw [hl]; exact h1), key ⟨p.toNat, by omega⟩]
  rfl
/-! ### comprehensions -/
theorem lcL_map {α : Type} (dd : α → D) (p : α → Bool) (g : α → D) {t : Tg} {c : DT} {f : DE} {ρ : Env} : ∀ (as : List α),
    (∀ a ∈ as, ∃ ρ', setT t (dd a) ρ = some ρ' ∧ (∀ w, c ρ' w = .ok (p a) w) ∧ (p a = true → ∃ m, keepM ⟨m, g a⟩ = true ∧ ∀ w, f ρ' w = .ok ⟨m, g a⟩ w)) → ∀ w, lcL t c f (as.map dd) ρ w = .ok ((as.filter p).map g) w
  | [], _, w => rfl
  | a :: as, h, w => by
    obtain ⟨ρ', e1, e2, e3⟩ := h a List.mem_cons_self
    have ih := lcL_map dd p g (t := t) (c := c) (f := f) (ρ := ρ) as (fun b hb => h b (List.mem_cons_of_mem _ hb)) w
    rw [List.map_cons]
    unfold lcL
    rw [e1]
    simp only [e2, if_true]
    cases hp : p a with
    | false =>
      simp only [Bool.false_eq_true, if_false]
      rw [ih, List.filter_cons, hp]
      rfl
    | true =>
      obtain ⟨m, k1, k2⟩ := e3 hp
      simp only [if_true, k2, k1]
      rw [ih, List.filter_cons, hp]
      simp
theorem lcL_all {α : Type} (dd : α → D) (g : α → D) {t : Tg} {f : DE} {ρ : Env} (as : List α) (h : ∀ a ∈ as, ∃ ρ', setT t (dd a) ρ = some ρ' ∧ ∃ m, keepM ⟨m, g a⟩ = true ∧ ∀ w, f ρ' w = .ok ⟨m, g a⟩ w) (w : W) : lcL t tYesD f (as.map dd) ρ w = .ok (as.map g) w := by
  have := lcL_map dd (fun _ => true) g (t := t) (c := tYesD) (f := f) (ρ := ρ) as (fun a ha => by
    obtain ⟨ρ', e1, m, k1, k2⟩ := h a ha
    exact ⟨ρ', e1, fun _ => rfl, fun _ => ⟨m, k1, k2⟩⟩) w
  rw [this, List.filter_eq_self.mpr (fun _ _ => rfl)]
theorem dLc_s (fi : DI) (t : Tg) (c : DT) (f : DE) (vs : List Nat) (ρ : Env) (w : W) : dLc fi t c f vs ρ w = (fi ρ w).bind fun x w1 => if x.1.length ≤ sizeLine then (match lcL t c f x.1 (wipeD ρ vs) w1 with | .ok r w2 => .ok ⟨.nw, .lst r⟩ w2 | _ => .bad) else .bad := rfl
theorem dLc_ok {fi : DI} {t : Tg} {c : DT} {f : DE} {vs : List Nat} {ρ : Env} {w : W} {ds r : List D} {b : Bool} (hi : fi ρ w = .ok (ds, b) w) (hs : ds.length ≤ sizeLine) (h : lcL t c f ds (wipeD ρ vs) w = .ok r w) : dLc fi t c f vs ρ w = .ok ⟨.nw, .lst r⟩ w := by
  rw [dLc_s, hi]
  simp [hs, h]
@[simp] theorem wipeD_nil (ρ : Env) : wipeD ρ [] = ρ := rfl
@[simp] theorem wipeD_cons (ρ : Env) (v : Nat) (vs : List Nat) : wipeD ρ (v :: vs) = (wipeD ρ vs).set v none := rfl
@[simp] theorem tYesD_s (ρ : Env) (w : W) : tYesD ρ w = .ok true w := rfl
theorem blsOf_mapF {α : Type} (f : α → Bool) : ∀ as : List α, blsOf (as.map fun a => D.bl (f a)) = some (as.map f)
  | [] => rfl
  | a :: as => by simp only [List.map_cons, blsOf, blsOf_mapF f as]; rfl
theorem gAll_map {α : Type} (f : α → Bool) (as : List α) (m : Md) (w : W) : gAll [⟨m, .lst (as.map fun a => D.bl (f a))⟩] w = .ok (fz (.bl (as.all f))) w := by
  simp [gAll, onL, blsOf_mapF]
@[simp] theorem atI3_0 {α : Type} (a b c : α) : atI [a, b, c] 0 = some a := rfl
@[simp] theorem atI3_1 {α : Type} (a b c : α) : atI [a, b, c] 1 = some b := rfl
@[simp] theorem atI3_2 {α : Type} (a b c : α) : atI [a, b, c] 2 = some c := rfl
end DL
namespace DL
open PySem L2
theorem eqDs_refl : ∀ {ds : List D}, (∀ d ∈ ds, eqD d d = true) → eqDs ds ds = true
  | [], _ => rfl
  | d :: ds, h => by
    unfold eqDs
    rw [h d List.mem_cons_self, eqDs_refl fun x hx => h x (List.mem_cons_of_mem _ hx)]
    rfl
theorem eqD_refl : ∀ (n : Nat) (d : D), plN n d = true → eqD d d = true := by
  intro n
  induction n with
  | zero =>
    intro d h
    cases d <;> first | (unfold eqD; simp; done) | (simp [plN] at h; done)
  | succ n ih =>
    intro d h
    cases d <;> try (first | (unfold eqD; simp; done) | (simp [plN] at h; done))
    · rename_i xs
      unfold eqD
      refine eqDs_refl fun d hd => ih d ?_
      simp only [plN, List.all_eq_true] at h
      exact h d hd
    · rename_i xs
      unfold eqD
      refine eqDs_refl fun d hd => ih d ?_
      simp only [plN, List.all_eq_true] at h
      exact h d hd
theorem gEq_same {d : D} (h : pl d = true) (b : Bool) (m m' : Md) (w : W) : gEq b ⟨m, d⟩ ⟨m', d⟩ w = .ok (fz (.bl (!b))) w := by
  unfold gEq
  simp only [h, Bool.and_self, if_true, eqD_refl 10 d h]
  cases b <;> rfl
/-- the signs of a text that stands for one -/
def NOk (x : List Nat) : Prop := ∀ c ∈ x, c < 0x110000
theorem strOk_nm {x : List Nat} (h : NOk x) : PyData.strOk (nm x) = true := by
  unfold PyData.strOk nm
  rw [Array.all_eq_true_iff_forall_mem]
  intro c hc
  have := h c (by simpa using hc)
  simpa using this
@[simp] theorem bind_ex {α β : Type} (x : Xc) (w : W) (f : α → W → R β) : (R.ex x w : R α).bind f = .ex x w := rfl
@[simp] theorem rthn_ex {α : Type} (x : Xc) (w : W) (ρ : Env) (f : α → W → Out) : (R.ex x w : R α).thn ρ f = .ex x ρ w := rfl
@[simp] theorem othn_ex (x : Xc) (ρ : Env) (w : W) (f : DS) : (Out.ex x ρ w).thn f = .ex x ρ w := rfl
@[simp] theorem dTold_s (f : DE) (ρ : Env) (w : W) : dTold f ρ w = match f ρ w with | .ok x w => .ok x w | .ex x w => toldX x w | .bad => .bad := rfl
@[simp] theorem toldX_s (c : String) (fs : List (Str × D)) (w : W) : toldX ⟨c, fs⟩ w = .ok (fz (.tup [.str "refused", .str c])) w := rfl
@[simp] theorem sRaise_s (c : String) (ρ : Env) (w : W) : sRaise c ρ w = .ex ⟨c, []⟩ ρ w := rfl
@[simp] theorem sExpr_s (f : DE) (ρ : Env) (w : W) : sExpr f ρ w = (f ρ w).thn ρ fun _ w => .next ρ w := rfl
@[simp] theorem strOk_of (x : String) : PyData.strOk (Str.ofString x) = true := by
  rw [Str.ofString_eq_toList]
  unfold PyData.strOk
  rw [Array.all_eq_true_iff_forall_mem]
  intro c hc
  simp only [List.mem_toArray, List.mem_map] at hc
  obtain ⟨z, _, rfl⟩ := hc
  have : z.toNat < 0x110000 := by
    rcases z.valid with h | h
    · have : z.toNat < 0xd800 := h
      omega
    · exact h.2
  simpa using this
theorem toNats_inj : ∀ {a b : List Char}, a.map Char.toNat = b.map Char.toNat → a = b
  | [], [], _ => rfl
  | [], _ :: _, h => by simp at h
  | _ :: _, [], h => by simp at h
  | x :: a, y :: b, h => by
    simp only [List.map_cons, List.cons.injEq] at h
    have e : x = y := Char.ext (UInt32.toNat_inj.mp h.1)
    rw [e, toNats_inj h.2]
theorem ofString_inj {x y : String} (h : Str.ofString x = Str.ofString y) : x = y := by
  rw [Str.ofString_eq_toList, Str.ofString_eq_toList] at h
  have h1 := congrArg (fun s : Str => s.cps.toList) h
  exact String.toList_inj.mp (toNats_inj h1)
theorem ofString_beq (x y : String) : (Str.ofString x == Str.ofString y) = (x == y) := by
  by_cases h : x = y
  · subst h; simp
  · have h1 : ¬ Str.ofString x = Str.ofString y := fun z => h (ofString_inj z)
    rw [Bool.eq_iff_iff]
    constructor
    · intro q; exact absurd (beq_iff_eq.mp q) h1
    · intro q; exact absurd (beq_iff_eq.mp q) h
@[simp] theorem pl_ref (x : String) : pl (.tup [.str "refused", .str x]) = true := by simp [pl, plN]
@[simp] theorem gEq_ref (x y : String) (b : Bool) (m m' : Md) (w : W) : gEq b ⟨m, .tup [.str "refused", .str x]⟩ ⟨m', .tup [.str "refused", .str y]⟩ w = .ok (fz (.bl (b != (x == y)))) w := by
  unfold gEq
  simp only [pl_ref, Bool.and_self, if_true]
  simp [eqD, eqDs, ofString_beq]
theorem gDivmod_ii {i j : Int} {m m' : Md} {w : W} (h : 0 < j) (h2 : j < 1000000000) : gDivmod [⟨m, .int i⟩, ⟨m', .int j⟩] w = .ok (fz (.tup [.int (i / j), .int (i % j)])) w := by
  have : CDiv i j := ⟨h, by omega⟩
  simp [gDivmod, this]
theorem fnD_ret {n N : Nat} {g : DS} {ds : List D} {w w' : W} {x : Val} (hl : ds.length = n) (h : g (ds.map (fun d => some (fz d)) ++ List.replicate (N - n) none) w = .ret x w') : fnD n N g ds w = .ok x w' := by
  unfold fnD
  rw [if_pos hl, h]
@[simp] theorem kb_NoneType_str : kitB "NoneType" "str" = some false := by decide +kernel
@[simp] theorem kb_bool_str : kitB "bool" "str" = some false := by decide +kernel
@[simp] theorem kb_int_str : kitB "int" "str" = some false := by decide +kernel
@[simp] theorem kb_str_str : kitB "str" "str" = some true := by decide +kernel
@[simp] theorem kb_tuple_str : kitB "tuple" "str" = some false := by decide +kernel
@[simp] theorem kb_list_str : kitB "list" "str" = some false := by decide +kernel
@[simp] theorem kb_dict_str : kitB "dict" "str" = some false := by decide +kernel
@[simp] theorem kb_NoneType_tuple : kitB "NoneType" "tuple" = some false := by decide +kernel
@[simp] theorem kb_bool_tuple : kitB "bool" "tuple" = some false := by decide +kernel
@[simp] theorem kb_int_tuple : kitB "int" "tuple" = some false := by decide +kernel
@[simp] theorem kb_str_tuple : kitB "str" "tuple" = some false := by decide +kernel
@[simp] theorem kb_tuple_tuple : kitB "tuple" "tuple" = some true := by decide +kernel
@[simp] theorem kb_list_tuple : kitB "list" "tuple" = some false := by decide +kernel
@[simp] theorem kb_dict_tuple : kitB "dict" "tuple" = some false := by decide +kernel
@[simp] theorem kb_NoneType_bool : kitB "NoneType" "bool" = some false := by decide +kernel
@[simp] theorem kb_bool_bool : kitB "bool" "bool" = some true := by decide +kernel
@[simp] theorem kb_int_bool : kitB "int" "bool" = some false := by decide +kernel
@[simp] theorem kb_str_bool : kitB "str" "bool" = some false := by decide +kernel
@[simp] theorem kb_tuple_bool : kitB "tuple" "bool" = some false := by decide +kernel
@[simp] theorem kb_list_bool : kitB "list" "bool" = some false := by decide +kernel
@[simp] theorem kb_dict_bool : kitB "dict" "bool" = some false := by decide +kernel
@[simp] theorem kb_NoneType_int : kitB "NoneType" "int" = some false := by decide +kernel
@[simp] theorem kb_bool_int : kitB "bool" "int" = some true := by decide +kernel
@[simp] theorem kb_int_int : kitB "int" "int" = some true := by decide +kernel
@[simp] theorem kb_str_int : kitB "str" "int" = some false := by decide +kernel
@[simp] theorem kb_tuple_int : kitB "tuple" "int" = some false := by decide +kernel
@[simp] theorem kb_list_int : kitB "list" "int" = some false := by decide +kernel
@[simp] theorem kb_dict_int : kitB "dict" "int" = some false := by decide +kernel
@[simp] theorem kb_NoneType_list : kitB "NoneType" "list" = some false := by decide +kernel
@[simp] theorem kb_bool_list : kitB "bool" "list" = some false := by decide +kernel
@[simp] theorem kb_int_list : kitB "int" "list" = some false := by decide +kernel
@[simp] theorem kb_str_list : kitB "str" "list" = some false := by decide +kernel
@[simp] theorem kb_tuple_list : kitB "tuple" "list" = some false := by decide +kernel
@[simp] theorem kb_list_list : kitB "list" "list" = some true := by decide +kernel
@[simp] theorem kb_dict_list : kitB "dict" "list" = some false := by decide +kernel
end DL
namespace DL
open PySem L2
/-! ### one house alone -/
structure Hs where
  ranks : List D
  seats : List (Key × D)
  known : List (Key × D)
  weeks : List D
  plans : List (List Key × D)
  cuts : List (List Key × D)
  many : Int
  done : List D
def hsD (h : Hs) : List (Str × D) := [("ranks", .lst h.ranks), ("seats", .dK h.seats), ("known", .dK h.known), ("weeks", .lst h.weeks), ("plans", .dT h.plans), ("cuts", .dT h.cuts), ("many", .int h.many), ("done", .lst h.done)]
/-- k houses that came before -/
structure Pre (k : Nat) where
  l : List (List (Str × D))
  len : l.length = k
  r : List (List (Str × D))
def p0 : Pre 0 := ⟨[], rfl, []⟩
def Pre.push {k : Nat} (p : Pre k) (h : Hs) : Pre (k + 1) := ⟨p.l ++ [hsD h], by simp [p.len], []⟩
@[simp] theorem p0_r : p0.r = [] := rfl
@[simp] theorem push_r {k : Nat} (p : Pre k) (h : Hs) : (p.push h).r = [] := rfl
/-- a house, behind others and ahead of others -/
def wP {k : Nat} (p : Pre k) (n : Nat) (h : Hs) : W := ⟨n, p.l ++ hsD h :: p.r, false⟩
theorem wP_at {k : Nat} (p : Pre k) (n : Nat) (h : Hs) : (wP p n h).o[k]? = some (hsD h) := by
  unfold wP
  simp [← p.len]
theorem wP_set {k : Nat} (p : Pre k) (n : Nat) (h : Hs) (x : List (Str × D)) : (wP p n h).o.set k x = p.l ++ x :: p.r := by
  unfold wP
  dsimp only
  rw [List.set_append_right _ _ (by rw [p.len]; exact Nat.le_refl _)]
  simp [p.len]
def hs0 : Hs := ⟨[], [], [], [], [], [], 0, []⟩
section
variable {k : Nat} (p : Pre k) (n : Nat) (h : Hs) (ρ : Env) (w : W)
@[simp] theorem wP_n : (wP p n h).n = n := rfl
@[simp] theorem wP_lk : (wP p n h).lk = false := rfl
@[simp] theorem wP_len : (((wP p n h).o)[k]?.getD []).length = 8 := by rw [wP_at]; rfl
@[simp] theorem gF_ranks : getF (wP p n h) k "ranks" = some (.lst h.ranks) := by simp [getF, wP_at, hsD, List.lookup, ofString_beq]
@[simp] theorem gF_seats : getF (wP p n h) k "seats" = some (.dK h.seats) := by simp [getF, wP_at, hsD, List.lookup, ofString_beq]
@[simp] theorem gF_known : getF (wP p n h) k "known" = some (.dK h.known) := by simp [getF, wP_at, hsD, List.lookup, ofString_beq]
@[simp] theorem gF_weeks : getF (wP p n h) k "weeks" = some (.lst h.weeks) := by simp [getF, wP_at, hsD, List.lookup, ofString_beq]
@[simp] theorem gF_plans : getF (wP p n h) k "plans" = some (.dT h.plans) := by simp [getF, wP_at, hsD, List.lookup, ofString_beq]
@[simp] theorem gF_cuts : getF (wP p n h) k "cuts" = some (.dT h.cuts) := by simp [getF, wP_at, hsD, List.lookup, ofString_beq]
@[simp] theorem gF_many : getF (wP p n h) k "many" = some (.int h.many) := by simp [getF, wP_at, hsD, List.lookup, ofString_beq]
@[simp] theorem gF_done : getF (wP p n h) k "done" = some (.lst h.done) := by simp [getF, wP_at, hsD, List.lookup, ofString_beq]
theorem ofs_eq (x y : String) : (Str.ofString x = Str.ofString y) = (x = y) := propext ⟨ofString_inj, fun e => by rw [e]⟩
@[simp] theorem sF_ranks (x : List D) : setF (wP p n h) k "ranks" (.lst x) = wP p (n + 1) { h with ranks := x } := by rw [setF, wP_set, List.getD_eq_getElem?_getD, wP_at]; simp [wP, hsD, putD, ofs_eq]
@[simp] theorem sF_seats (x : List (Key × D)) : setF (wP p n h) k "seats" (.dK x) = wP p (n + 1) { h with seats := x } := by rw [setF, wP_set, List.getD_eq_getElem?_getD, wP_at]; simp [wP, hsD, putD, ofs_eq]
@[simp] theorem sF_known (x : List (Key × D)) : setF (wP p n h) k "known" (.dK x) = wP p (n + 1) { h with known := x } := by rw [setF, wP_set, List.getD_eq_getElem?_getD, wP_at]; simp [wP, hsD, putD, ofs_eq]
@[simp] theorem sF_weeks (x : List D) : setF (wP p n h) k "weeks" (.lst x) = wP p (n + 1) { h with weeks := x } := by rw [setF, wP_set, List.getD_eq_getElem?_getD, wP_at]; simp [wP, hsD, putD, ofs_eq]
@[simp] theorem sF_plans (x : List (List Key × D)) : setF (wP p n h) k "plans" (.dT x) = wP p (n + 1) { h with plans := x } := by rw [setF, wP_set, List.getD_eq_getElem?_getD, wP_at]; simp [wP, hsD, putD, ofs_eq]
@[simp] theorem sF_cuts (x : List (List Key × D)) : setF (wP p n h) k "cuts" (.dT x) = wP p (n + 1) { h with cuts := x } := by rw [setF, wP_set, List.getD_eq_getElem?_getD, wP_at]; simp [wP, hsD, putD, ofs_eq]
@[simp] theorem sF_many (x : Int) : setF (wP p n h) k "many" (.int x) = wP p (n + 1) { h with many := x } := by rw [setF, wP_set, List.getD_eq_getElem?_getD, wP_at]; simp [wP, hsD, putD, ofs_eq]
@[simp] theorem sF_done (x : List D) : setF (wP p n h) k "done" (.lst x) = wP p (n + 1) { h with done := x } := by rw [setF, wP_set, List.getD_eq_getElem?_getD, wP_at]; simp [wP, hsD, putD, ofs_eq]
/-- no field's name -/
def noF (m : String) : Bool := !(["ranks", "seats", "known", "weeks", "plans", "cuts", "many", "done"].contains m)
@[simp] theorem noF_s (m : String) : noF m = !(["ranks", "seats", "known", "weeks", "plans", "cuts", "many", "done"].contains m) := rfl
@[simp] theorem selD_s (ix : List Nat) (l : List D) : selD ix l = ix.map fun i => l.getD i .non := rfl
theorem noF_of {m : String} (q : noF m = true) : (((wP p n h).o.getD k []).lookup (Str.ofString m)).isNone = true := by
  rw [List.getD_eq_getElem?_getD, wP_at]
  simp [noF] at q
  obtain ⟨q1, q2, q3, q4, q5, q6, q7, q8⟩ := q
  simp [hsD, List.lookup, ofString_beq, beq_false_of_ne q1, beq_false_of_ne q2, beq_false_of_ne q3, beq_false_of_ne q4, beq_false_of_ne q5, beq_false_of_ne q6, beq_false_of_ne q7, beq_false_of_ne q8]
@[simp] theorem dNew_0 (k : Nat) : dNew ρ ⟨k, [], false⟩ = .ok (fz (.obj 0)) (wP p0 (k + 1) hs0) := rfl
@[simp] theorem dNew_k (hr : p.r = []) : dNew ρ (wP p n h) = .ok (fz (.obj (k + 1))) (wP (p.push h) (n + 1) hs0) := by
  obtain ⟨l, len, r⟩ := p
  dsimp only at hr
  subst hr
  show R.ok (fz (.obj (l ++ [hsD h]).length)) _ = _
  rw [show (l ++ [hsD h]).length = k + 1 by simp [len]]
  rfl
@[simp] theorem dFld_s (f : Str) (fo : DE) : dFld f fo ρ w = (fo ρ w).bind fun x w => match x.d with
  | .obj k => (match getF w k f with | some d => .ok (fval d) w | none => .bad)
  | _ => .bad := rfl
@[simp] theorem fval_int (i : Int) : fval (.int i) = fz (.int i) := rfl
@[simp] theorem fval_lst (x : List D) : fval (.lst x) = ⟨.wd, .lst x⟩ := rfl
@[simp] theorem fval_dK (x : List (Key × D)) : fval (.dK x) = ⟨.wd, .dK x⟩ := rfl
@[simp] theorem fval_dT (x : List (List Key × D)) : fval (.dT x) = ⟨.wd, .dT x⟩ := rfl
theorem dMt_s {fo : DE} {m : String} {F : DF} {q j : Nat} {ix : List Nat} {dds : List D} {fr fk : DA} {md : Md} (e : fo ρ w = .ok ⟨md, .obj k⟩ (wP p n h)) (hm : noF m = true) : dMt F m q j ix dds fo fr fk ρ w = ((fr ρ (wP p n h)).bind fun xs w2 => match frzD xs with
    | some ds => ((fk ρ w2).bind fun zs w3 => match frzD zs with
      | some es => if ds.length = q ∧ es.length = j then F (selD ix (.obj k :: ds ++ es ++ dds)) w3 else .bad
      | none => .bad)
    | none => .bad) := by
  unfold dMt
  rw [e]
  show (if _ then _ else _) = _
  exact (if_pos (noF_of p n h hm)).trans rfl
/-- a slot holds the house -/
def isH (k : Nat) : Option (Option Val) → Bool
  | some (some ⟨_, .obj j⟩) => j == k
  | _ => false
@[simp] theorem isH_s (m : Md) (k : Nat) : isH k (some (some ⟨m, .obj k⟩)) = true := by simp [isH]
@[simp] theorem dMt_v {i : Nat} {m : String} {F : DF} {q j : Nat} {ix : List Nat} {dds : List D} {fr fk : DA} (e : isH k ρ[i]? = true) (hm : noF m = true) : dMt F m q j ix dds (dVar i) fr fk ρ (wP p n h) = ((fr ρ (wP p n h)).bind fun xs w2 => match frzD xs with
    | some ds => ((fk ρ w2).bind fun zs w3 => match frzD zs with
      | some es => if ds.length = q ∧ es.length = j then F (selD ix (.obj k :: ds ++ es ++ dds)) w3 else .bad
      | none => .bad)
    | none => .bad) := by
  unfold isH at e
  split at e
  · rename_i md z c
    have : z = k := by simpa using e
    subst this
    exact dMt_s p n h ρ _ (by rw [dVar_s, c]) hm
  · cases e
@[simp] theorem sFst_s (f : Str) (fo fv : DE) : sFst f fo fv ρ w = (fv ρ w).thn ρ fun y w => (fo ρ w).thn ρ fun x w => match x.d with
  | .obj k => (match getF w k f with | some (.int _) => (match y.d with | .int j => if (w.o.getD k []).length < 1000 then .next ρ (setF w k f (.int j)) else .bad | _ => .bad) | _ => .bad)
  | _ => .bad := rfl
@[simp] theorem sFapp_s (f : Str) (fo fe : DE) : sFapp f fo fe ρ w = (fo ρ w).thn ρ fun x w1 => match x.d with
  | .obj k => (match getF w1 k f with
    | some (.lst _) => (fe ρ w1).thn ρ fun y w2 => (match getF w2 k f with
      | some (.lst ds) => if keepM y ∧ w2.n = w1.n ∧ ds.length < sizeLine then .next ρ (setF w2 k f (.lst (ds ++ [y.d]))) else .bad
      | _ => .bad)
    | _ => .bad)
  | _ => .bad := rfl
@[simp] theorem sFputK_s (f : Str) (fo fk fv : DE) : sFputK f fo fk fv ρ w = (fv ρ w).thn ρ fun y w1 => if keepM y then ((fo ρ w1).thn ρ fun x w2 => match x.d with
  | .obj k => (match getF w2 k f with
    | some (.dK _) => (fk ρ w2).thn ρ fun key w3 => (match kD key.d, getF w3 k f with
      | some kk, some (.dK kvs) => if w3.n = w2.n ∧ w3.lk = false ∧ kvs.length < sizeLine then .next ρ (setF w3 k f (.dK (putKD kvs kk y.d))) else .bad
      | _, _ => .bad)
    | _ => .bad)
  | _ => .bad) else .bad := rfl
@[simp] theorem sFputT_s (f : Str) (fo : DE) (fk : Env → W → R (List Key)) (fv : DE) : sFputT f fo fk fv ρ w = (fv ρ w).thn ρ fun y w1 => if keepM y then ((fo ρ w1).thn ρ fun x w2 => match x.d with
  | .obj k => (match getF w2 k f with
    | some (.dT _) => (fk ρ w2).thn ρ fun key w3 => (match (some key : Option (List Key)), getF w3 k f with
      | some kk, some (.dT kvs) => if w3.n = w2.n ∧ w3.lk = false ∧ kvs.length < sizeLine then .next ρ (setF w3 k f (.dT (putKD kvs kk y.d))) else .bad
      | _, _ => .bad)
    | _ => .bad)
  | _ => .bad) else .bad := rfl
@[simp] theorem kD_int (i : Int) : kD (.int i) = some (.inl i) := rfl
@[simp] theorem kD_str (x : Str) : kD (.str x) = some (.inr x) := rfl
@[simp] theorem kDs_nil : kDs [] = some [] := rfl
@[simp] theorem kDs_cons (d : D) (ds : List D) : kDs (d :: ds) = match kD d, kDs ds with
    | some k, some ks => some (k :: ks)
    | _, _ => none := rfl
@[simp] theorem keyT_s (f : DA) : keyT f ρ w = (f ρ w).bind fun xs w => match frzD xs with
  | some ds => (match kDs ds with | some ks => if ds.length ≤ sizeLine then .ok ks w else .bad | none => .bad)
  | none => .bad := rfl
@[simp] theorem gIxD_s (m m' : Md) (kvs : List (Key × D)) (d : D) : gIxD ⟨m, .dK kvs⟩ ⟨m', d⟩ w = match kD d with | some k => (match valD kvs k with | some d => .ok (fz d) w | none => .bad) | none => .bad := by
  unfold gIxD
  cases kD d <;> rfl
@[simp] theorem gInD_s (b : Bool) (m m' : Md) (kvs : List (Key × D)) (d : D) : gInD b ⟨m', d⟩ ⟨m, .dK kvs⟩ w = match kD d with | some k => .ok (fz (.bl (b != (valD kvs k).isSome))) w | none => .bad := by
  unfold gInD
  cases kD d <;> rfl
@[simp] theorem dIxT_s (fa : DE) (fk : Env → W → R (List Key)) : dIxT fa fk ρ w = (fa ρ w).bind fun x w1 => (fk ρ w1).bind fun ks w2 => chk x w1 w2 (match x.d with
  | .dT kvs => (match valD kvs ks with | some d => .ok (fz d) w2 | none => .bad)
  | _ => .bad) := rfl
@[simp] theorem dInT_s (b : Bool) (fk : Env → W → R (List Key)) (fa : DE) : dInT b fk fa ρ w = (fk ρ w).bind fun ks w1 => (fa ρ w1).bind fun x w2 => match x.d with
  | .dT kvs => .ok (fz (.bl (b != (valD kvs ks).isSome))) w2
  | _ => .bad := rfl
@[simp] theorem dGetT_s (fa : DE) (fk : Env → W → R (List Key)) (fx : DE) : dGetT fa fk fx ρ w = (fa ρ w).bind fun x w1 => match x.d with
  | .dT _ => (fk ρ w1).bind fun ks w2 => (fx ρ w2).bind fun z w3 => chk x w1 w3 (match x.d with
    | .dT kvs => .ok (match valD kvs ks with | some d => fz d | none => z) w3
    | _ => .bad)
  | _ => .bad := rfl
@[simp] theorem sForF_s (f : Str) (fo : DE) (t : Tg) (b : DS) : sForF f fo t b ρ w = (fo ρ w).thn ρ fun x w1 => match x.d with
  | .obj k => (match getF w1 k f with | some (.lst ds) => forLq t b w1 ds ρ w1 | _ => .bad)
  | _ => .bad := rfl
@[simp] theorem sPut_s (i : Nat) (fk fv : DE) : sPut i fk fv ρ w = (fv ρ w).thn ρ fun x w => match ownL ρ i with
  | some ds => if keepM x then (fk ρ w).thn ρ fun k w => match k.d with
    | .int j => match ixN ds.length j with
      | some n => .next (ρ.set i (some ⟨.nw, .lst (ds.set n x.d)⟩)) w
      | none => .bad
    | _ => .bad
    else .bad
  | none => .bad := rfl
@[simp] theorem dDk_s : dDk ρ w = .ok ⟨.nw, .dK []⟩ w := rfl
@[simp] theorem dDt_s : dDt ρ w = .ok ⟨.nw, .dT []⟩ w := rfl
end
theorem lcL_mapW {α : Type} (dd : α → D) (p : α → Bool) (g : α → D) {t : Tg} {c : DT} {f : DE} {ρ : Env} {w : W} : ∀ (as : List α),
    (∀ a ∈ as, ∃ ρ', setT t (dd a) ρ = some ρ' ∧ c ρ' w = .ok (p a) w ∧ (p a = true → ∃ m, keepM ⟨m, g a⟩ = true ∧ f ρ' w = .ok ⟨m, g a⟩ w)) → lcL t c f (as.map dd) ρ w = .ok ((as.filter p).map g) w
  | [], _ => rfl
  | a :: as, h => by
    obtain ⟨ρ', e1, e2, e3⟩ := h a List.mem_cons_self
    have ih := lcL_mapW dd p g (t := t) (c := c) (f := f) (ρ := ρ) as (fun b hb => h b (List.mem_cons_of_mem _ hb))
    rw [List.map_cons]
    unfold lcL
    rw [e1]
    cases hp : p a with
    | true =>
      obtain ⟨m, k1, k2⟩ := e3 hp
      simp [e2, hp, k1, k2, ih]
    | false => simp [e2, hp, ih]
theorem lcL_allW {α : Type} (dd : α → D) (g : α → D) {t : Tg} {f : DE} {ρ : Env} {w : W} (as : List α) (h : ∀ a ∈ as, ∃ ρ', setT t (dd a) ρ = some ρ' ∧ ∃ m, keepM ⟨m, g a⟩ = true ∧ f ρ' w = .ok ⟨m, g a⟩ w) : lcL t tYesD f (as.map dd) ρ w = .ok (as.map g) w := by
  have := lcL_mapW dd (fun _ => true) g (t := t) (c := tYesD) (f := f) (ρ := ρ) (w := w) as (fun a ha => by
    obtain ⟨ρ', e1, m, k1, k2⟩ := h a ha
    exact ⟨ρ', e1, rfl, fun _ => ⟨m, k1, k2⟩⟩)
  rw [this, List.filter_eq_self.mpr (fun _ _ => rfl)]
/-- a loop by an invariant of slots and world -/
theorem forL_inv {t : Tg} {b : DS} (I : Nat → Env → W → Prop) : ∀ (ds : List D) (k : Nat) (ρ : Env) (w : W), I k ρ w → (∀ (i : Nat) (d : D) (ρ : Env) (w : W), ds[i]? = some d → I (k + i) ρ w → ∃ ρ1 ρ2 w2, setT t d ρ = some ρ1 ∧ b ρ1 w = .next ρ2 w2 ∧ I (k + i + 1) ρ2 w2) →
    ∃ ρ' w', forL t b ds ρ w = .next ρ' w' ∧ I (k + ds.length) ρ' w'
  | [], k, ρ, w, h0, _ => ⟨ρ, w, rfl, h0⟩
  | d :: ds, k, ρ, w, h0, hs => by
    obtain ⟨ρ1, ρ2, w2, e1, e2, h1⟩ := hs 0 d ρ w rfl h0
    obtain ⟨ρ', w', e, h⟩ := forL_inv I ds (k + 1) ρ2 w2 h1 fun i d' ρ w hd hi => by
      have := hs (i + 1) d' ρ w (by simpa using hd) (by rw [show k + (i + 1) = k + 1 + i by omega]; exact hi)
      rw [show k + (i + 1) + 1 = k + 1 + i + 1 by omega] at this
      exact this
    refine ⟨ρ', w', ?_, by rw [show k + (d :: ds).length = k + 1 + ds.length by simp; omega]; exact h⟩
    unfold forL
    rw [e1]
    simp only [e2]
    exact e
end DL
/-! Denotations evaluated: walks over dicts, errors with fields. -/
namespace DL
open PySem L2
section
variable {k : Nat} {p : Pre k} {n : Nat} {h : Hs} {ρ : Env} {w : W}
/-- the world while a dict is walked -/
def wL (p : Pre k) (n : Nat) (h : Hs) : W := ⟨n + 1, p.l ++ hsD h :: p.r, true⟩
theorem wLk_s : wLk (wP p n h) = wL p n h := rfl
theorem wUn_s : wUn (wP p n h) = wP p (n + 2) h := rfl
@[simp] theorem wL_n : (wL p n h).n = n + 1 := rfl
@[simp] theorem wL_lk : (wL p n h).lk = true := rfl
@[simp] theorem gL_f (f : Str) : getF (wL p n h) k f = getF (wP p n h) k f := rfl
theorem dLcD_ok {loc : Env → W → Option D} {t : Tg} {c : DT} {f : DE} {vs : List Nat} {ks r : List D} (hk : locK ρ (wP p n h) loc = some ks) (hs : ks.length ≤ sizeLine) (e : lcL t c f ks (wipeD ρ vs) (wL p n h) = .ok r (wL p n h)) : dLcD loc t c f vs ρ (wP p n h) = .ok ⟨.nw, .lst r⟩ (wP p (n + 2) h) := by
  unfold dLcD
  rw [hk]
  dsimp only
  rw [wLk_s, dLc_ok (ds := ks) (r := r) (b := false) rfl hs e]
  dsimp only
  rw [if_pos rfl, wUn_s]
theorem locF_plans {i : Nat} {m : Md} (e : ρ[i]? = some (some ⟨m, .obj k⟩)) : locK ρ (wP p n h) (locF i "plans") = some (h.plans.map fun q => .tup (q.1.map dKy)) := by
  simp [locK, locF, e, keysD]
@[simp] theorem sRaiseF_s (c : String) (fs : List Str) (a b : Nat) (fr fk : DA) : sRaiseF c fs a b fr fk ρ w = (fr ρ w).thn ρ fun xs w1 => match frzD xs with
  | some ds => (fk ρ w1).thn ρ fun zs w2 => (match frzD zs with
    | some es => if ds.length = a ∧ es.length = b then .ex ⟨c, (fs.zip (ds ++ es)).reverse⟩ ρ w2 else .bad
    | none => .bad)
  | none => .bad := rfl
@[simp] theorem dKy_i (i : Int) : dKy (.inl i) = .int i := rfl
@[simp] theorem dKy_s (x : Str) : dKy (.inr x) = .str x := rfl
end
end DL
namespace LK
open PySem L2 DL
/-! ### the text by places -/
/-! ### what each def computes -/
abbrev dfl_add_show : List D := []
abbrev sh_add_show_0 : Shape := ⟨2, [], [0, 1], dfl_add_show⟩
abbrev sh_add_show : List Shape := [sh_add_show_0]
abbrev dfl_clear_week : List D := [(.int 0), (.int 24), (.int 0)]
abbrev sh_clear_week_0 : Shape := ⟨6, [], [0, 1, 2, 3, 4, 5], dfl_clear_week⟩
abbrev sh_clear_week_1 : Shape := ⟨5, [], [0, 1, 2, 3, 4, 7], dfl_clear_week⟩
abbrev sh_clear_week_2 : Shape := ⟨3, ["closing"], [0, 1, 2, 4, 3, 6], dfl_clear_week⟩
abbrev sh_clear_week_3 : Shape := ⟨3, [], [0, 1, 2, 3, 4, 5], dfl_clear_week⟩
abbrev sh_clear_week_4 : Shape := ⟨3, ["starting"], [0, 1, 2, 4, 5, 3], dfl_clear_week⟩
abbrev sh_clear_week : List Shape := [sh_clear_week_0, sh_clear_week_1, sh_clear_week_2, sh_clear_week_3, sh_clear_week_4]
abbrev dfl_deeds : List D := []
abbrev sh_deeds_0 : Shape := ⟨1, [], [0], dfl_deeds⟩
abbrev sh_deeds : List Shape := [sh_deeds_0]
abbrev dfl_look_since : List D := []
abbrev sh_look_since_0 : Shape := ⟨4, [], [0, 1, 2, 3], dfl_look_since⟩
abbrev sh_look_since : List Shape := [sh_look_since_0]
abbrev dfl_look_station : List D := []
abbrev sh_look_station_0 : Shape := ⟨2, [], [0, 1], dfl_look_station⟩
abbrev sh_look_station : List Shape := [sh_look_station_0]
abbrev dfl_now : List D := []
abbrev sh_now_0 : Shape := ⟨1, [], [0], dfl_now⟩
abbrev sh_now : List Shape := [sh_now_0]
abbrev dfl_open_station : List D := [.non, (.int 0), (.int 24), (.str "join")]
abbrev sh_open_station_0 : Shape := ⟨5, [], [0, 1, 2, 3, 4, 8], dfl_open_station⟩
abbrev sh_open_station : List Shape := [sh_open_station_0]
abbrev dfl_own_rows : List D := []
abbrev sh_own_rows_0 : Shape := ⟨3, [], [0, 1, 2], dfl_own_rows⟩
abbrev sh_own_rows : List Shape := [sh_own_rows_0]
abbrev dfl_put : List D := []
abbrev sh_put_0 : Shape := ⟨5, [], [0, 1, 2, 3, 4], dfl_put⟩
abbrev sh_put : List Shape := [sh_put_0]
abbrev dfl_put_week : List D := [(.int 0)]
abbrev sh_put_week_0 : Shape := ⟨6, [], [0, 1, 2, 3, 4, 5], dfl_put_week⟩
abbrev sh_put_week_1 : Shape := ⟨5, [], [0, 1, 2, 3, 4, 5], dfl_put_week⟩
abbrev sh_put_week_2 : Shape := ⟨5, ["starting"], [0, 1, 2, 3, 4, 5], dfl_put_week⟩
abbrev sh_put_week : List Shape := [sh_put_week_0, sh_put_week_1, sh_put_week_2]
abbrev dfl_rows_by_week : List D := []
abbrev sh_rows_by_week_0 : Shape := ⟨4, [], [0, 1, 2, 3], dfl_rows_by_week⟩
abbrev sh_rows_by_week : List Shape := [sh_rows_by_week_0]
abbrev dfl_show : List D := []
abbrev sh_show_0 : Shape := ⟨2, [], [0, 1], dfl_show⟩
abbrev sh_show : List Shape := [sh_show_0]
abbrev dfl_station : List D := []
abbrev sh_station_0 : Shape := ⟨2, [], [0, 1], dfl_station⟩
abbrev sh_station : List Shape := [sh_station_0]
abbrev dfl_tick : List D := [(.int 1)]
abbrev sh_tick_0 : Shape := ⟨2, [], [0, 1], dfl_tick⟩
abbrev sh_tick : List Shape := [sh_tick_0]
abbrev dfl_times : List D := []
abbrev sh_times_0 : Shape := ⟨2, [], [0, 1], dfl_times⟩
abbrev sh_times : List Shape := [sh_times_0]
abbrev dfl_week_rows : List D := []
abbrev sh_week_rows_0 : Shape := ⟨3, [], [0, 1, 2], dfl_week_rows⟩
abbrev sh_week_rows : List Shape := [sh_week_rows_0]
abbrev law_class_N : List Str := ["e", "kinds", "some"]
noncomputable def law_class_s1 (a : Addr) (c : String) : DS := (sSet 1 (dLst (dCons (dUn (gIsX a (decide (c = "NoName"))) (dVar 0)) (dCons (dUn (gIsX a (decide (c = "NoDay"))) (dVar 0)) (dCons (dUn (gIsX a (decide (c = "NoHour"))) (dVar 0)) (dOne (dUn (gIsX a (decide (c = "NoMore"))) (dVar 0))))))))
noncomputable def law_class_s2 (a : Addr) (c : String) : DS := (sExt 1 (dLst (dCons (dUn (gIsX a (decide (c = "NoShow"))) (dVar 0)) (dCons (dUn (gIsX a (decide (c = "NoSort"))) (dVar 0)) (dCons (dUn (gIsX a (decide (c = "NoStation"))) (dVar 0)) (dOne (dUn (gIsX a (decide (c = "NoRule"))) (dVar 0))))))))
noncomputable def law_class_s3 (a : Addr) (c : String) : DS := (sExt 1 (dLst (dCons (dUn (gIsX a (decide (c = "Full"))) (dVar 0)) (dCons (dUn (gIsX a (decide (c = "Taken"))) (dVar 0)) (dCons (dUn (gIsX a (decide (c = "NoRights"))) (dVar 0)) (dOne (dUn (gIsX a (decide (c = "Settled"))) (dVar 0))))))))
noncomputable def law_class_s4 (a : Addr) (c : String) : DS := (sExt 1 (dLst (dCons (dUn (gIsX a (decide (c = "TooLate"))) (dVar 0)) (dCons (dUn (gIsX a (decide (c = "NoRow"))) (dVar 0)) (dCons (dUn (gIsX a (decide (c = "NotLive"))) (dVar 0)) (dOne (dUn (gIsX a (decide (c = "TooLong"))) (dVar 0))))))))
noncomputable def law_class_s5 (a : Addr) (c : String) : DS := (sExt 1 (dLst (dCons (dUn (gIsX a (decide (c = "NewsAhead"))) (dVar 0)) (dCons (dUn (gIsX a (decide (c = "Clash"))) (dVar 0)) (dCons (dUn (gIsX a (decide (c = "NoWish"))) (dVar 0)) (dOne (dUn (gIsX a (decide (c = "NoDeeds"))) (dVar 0))))))))
noncomputable def law_class_s6 (a : Addr) (c : String) : DS := (sApp 1 (dUn (gIsX a (decide (c = "NoText"))) (dVar 0)))
noncomputable def law_class_s7 (a : Addr) (c : String) : DS := (sIf (dOr (tst (dOp (gEq true) (dBm "list" gCnt (dVar 1) (dC (.bl true))) (dC (.int 1)))) (dNot (tst (dUn (gIsX a true) (dVar 0))))) (sRet (dC (.str "wrong"))) sNext)
noncomputable def law_class_s8 (a : Addr) (c : String) : DS := (sSet 2 (dLst (dCons (dC (.str "NoName")) (dCons (dC (.str "NoDay")) (dCons (dC (.str "NoHour")) (dCons (dC (.str "NoMore")) (dCons (dC (.str "NoShow")) (dCons (dC (.str "NoSort")) (dCons (dC (.str "NoStation")) (dCons (dC (.str "NoRule")) (dCons (dC (.str "Full")) (dOne (dC (.str "Taken"))))))))))))))
noncomputable def law_class_s9 (a : Addr) (c : String) : DS := (sExt 2 (dLst (dCons (dC (.str "NoRights")) (dCons (dC (.str "Settled")) (dCons (dC (.str "TooLate")) (dCons (dC (.str "NoRow")) (dCons (dC (.str "NotLive")) (dCons (dC (.str "TooLong")) (dCons (dC (.str "NewsAhead")) (dCons (dC (.str "Clash")) (dOne (dC (.str "NoWish")))))))))))))
noncomputable def law_class_s10 (a : Addr) (c : String) : DS := (sExt 2 (dLst (dCons (dC (.str "NoDeeds")) (dOne (dC (.str "NoText"))))))
noncomputable def law_class_s11 (a : Addr) (c : String) : DS := (sRet (dOp gIx (dVar 2) (dBm "list" gIdx (dVar 1) (dC (.bl true)))))
noncomputable def law_class_b (a : Addr) (c : String) : DS := (sSeq (law_class_s1 a c)
    (sSeq (law_class_s2 a c)
    (sSeq (law_class_s3 a c)
    (sSeq (law_class_s4 a c)
    (sSeq (law_class_s5 a c)
    (sSeq (law_class_s6 a c)
    (sSeq (law_class_s7 a c)
    (sSeq (law_class_s8 a c)
    (sSeq (law_class_s9 a c)
    (sSeq (law_class_s10 a c)
    (law_class_s11 a c)))))))))))
noncomputable def law_class (a : Addr) (c : String) : DF := fnD 1 3 (law_class_b a c)
abbrev law_pick_N : List Str := ["script", "k", "many", "cell", "drawn", "rest", "turn"]
noncomputable def law_pick_l1 : DS := (sParF [5, 6] [false, false] (dCons (dOp gDiv (dVar 5) (dC (.int 840))) (dOne (dOp gSub (dVar 6) (dC (.int 1))))))
noncomputable def law_pick_l2 : DT := (dAnd (tst (dOp gGt (dVar 5) (dC (.int 0)))) (tst (dOp gGt (dVar 6) (dC (.int 0)))))
noncomputable def law_pick_b : DS := (sSeq (sSetF 3 (dIf (tst (dOp (gEq true) (dVar 0) (dLst dNil))) (dOp gIx (dVar 0) (dOp gMod (dVar 1) (dCB gLen (dOne (dVar 0))))) (dC (.int 0))))
    (sSeq (sParF [5, 6] [false, false] (dCons (dOp gDiv (dVar 3) (dOp gPow (dC (.int 10)) (dC (.int 18)))) (dOne (dOp gDiv (dVar 1) (dCB gMax2 (dCons (dCB gLen (dOne (dVar 0))) (dOne (dC (.int 1)))))))))
    (sSeq (whileL law_pick_l2 law_pick_l1 100000)
    (sSeq (sIf (tst (dOp gGt (dVar 5) (dC (.int 0)))) (sRet (dOp gMod (dOp gMod (dVar 5) (dC (.int 840))) (dVar 2))) sNext)
    (sSeq (sSetF 4 (dOp gMod (dOp gMul (dOp gAdd (dOp gMul (dVar 3) (dC (.int 31))) (dOp gMul (dC (.int 6151)) (dOp gAdd (dVar 1) (dC (.int 1))))) (dC (.int 40692))) (dC (.int 2147483399))))
    (sRet (dOp gMod (dOp gMod (dOp gAdd (dOp gMul (dVar 4) (dVar 4)) (dOp gDiv (dVar 4) (dC (.int 31)))) (dC (.int 2147483629))) (dVar 2))))))))
noncomputable def law_pick : DF := fnD 3 7 (law_pick_b)
abbrev law_names_N : List Str := ["script", "at", "many", "k", "letters", "made", "rest", "j", "mark"]
noncomputable def law_names_l1 : DS := (sSetF 6 (dOp gAdd (dVar 6) (dOp gIx (dVar 4) (dCall law_pick [] (dCons (dVar 0) (dCons (dOp gAdd (dOp gAdd (dOp gAdd (dVar 1) (dOp gMul (dC (.int 7)) (dVar 3))) (dVar 7)) (dC (.int 1))) (dOne (dC (.int 26)))))))))
noncomputable def law_names_l2 : DS := (sSeq (sSetF 6 (dC (.str "")))
    (sSeq (sFor (iR1 (dOne (dOp gIx (dLst (dCons (dC (.int 0)) (dCons (dC (.int 0)) (dCons (dC (.int 1)) (dCons (dC (.int 2)) (dOne (dC (.int 5)))))))) (dCall law_pick [] (dCons (dVar 0) (dCons (dOp gAdd (dVar 1) (dOp gMul (dC (.int 7)) (dVar 3))) (dOne (dC (.int 5))))))))) (.nm 7) law_names_l1)
    (sSeq (sSetF 8 (dOp gIx (dVar 4) (dOp gMod (dOp gAdd (dCall law_pick [] (dCons (dVar 0) (dCons (dOp gAdd (dVar 1) (dC (.int 60))) (dOne (dC (.int 26)))))) (dVar 3)) (dC (.int 26)))))
    (sApp 5 (dIf (tst (dOp (gEq false) (dCall law_pick [] (dCons (dVar 0) (dCons (dOp gAdd (dVar 1) (dC (.int 61))) (dOne (dC (.int 2)))))) (dC (.int 0)))) (dOp gAdd (dVar 6) (dVar 8)) (dOp gAdd (dVar 8) (dVar 6)))))))
noncomputable def law_names_b : DS := (sSeq (sParF [4, 5] [false, true] (dCons (dC (.str "abcdefghijklmnopqrstuvwxyz")) (dOne (dLst dNil))))
    (sSeq (sFor (iR1 (dOne (dVar 2))) (.nm 3) law_names_l2)
    (sRetV 5)))
noncomputable def law_names : DF := fnD 3 9 (law_names_b)
abbrev is_name_N : List Str := ["thing", "sign"]
noncomputable def is_name_b : DS := (sRet (dAndV (dUn (gIsiT "str") (dVar 0)) (dAndV (dChain gLe gLe (dC (.int 1)) (dCB gLen (dOne (dVar 0))) (dC (.int 6))) (dCB gAll (dOne (dLc (iSq (dVar 0)) (.nm 1) tYesD (dOp (gIn false) (dVar 1) (dC (.str "abcdefghijklmnopqrstuvwxyz"))) [1]))))))
noncomputable def is_name : DF := fnD 1 2 (is_name_b)
abbrev House_look_station_N : List Str := ["self", "name"]
noncomputable def House_look_station_b : DS := (sIf (dOr (dNot (tst (dCall is_name [] (dOne (dVar 1))))) (tst (dOp (gInD true) (dVar 1) (dFld "seats" (dVar 0))))) (sRaise "NoStation") sNext)
noncomputable def House_look_station : DF := fnD 2 2 (House_look_station_b)
abbrev is_number_N : List Str := ["thing", "least", "most"]
noncomputable def is_number_b : DS := (sRet (dAndV (dUn (gIsiT "int") (dVar 0)) (dAndV (dNotV (dUn (gIsiT "bool") (dVar 0))) (dChain gLe gLe (dVar 1) (dVar 0) (dVar 2)))))
noncomputable def is_number : DF := fnD 3 3 (is_number_b)
abbrev look_span_N : List Str := ["begin", "end", "least", "most"]
noncomputable def look_span_b : DS := (sIf (dOr (dNot (tst (dCall is_number [] (dCons (dVar 0) (dCons (dVar 2) (dOne (dVar 3))))))) (dOr (dNot (tst (dCall is_number [] (dCons (dVar 1) (dCons (dVar 2) (dOne (dVar 3))))))) (tst (dOp gGe (dVar 0) (dVar 1))))) (sRaise "NoHour") sNext)
noncomputable def look_span : DF := fnD 4 4 (look_span_b)
abbrev House_open_station_N : List Str := ["self", "name", "upper", "opening", "closing", "manner"]
noncomputable def House_open_station_s1 : DS := (sIf (dNot (tst (dCall is_name [] (dOne (dVar 1))))) (sRaise "NoName") sNext)
noncomputable def House_open_station_s2 : DS := (sIf (tst (dOp (gInD false) (dVar 1) (dFld "seats" (dVar 0)))) (sRaise "Taken") sNext)
noncomputable def House_open_station_s3 : DS := (sIf (tst (dUn (gIsN true) (dVar 2))) (sExpr (dMt House_look_station "look_station" 1 0 [0, 1] dfl_look_station (dVar 0) (dOne (dVar 2)) dNil)) sNext)
noncomputable def House_open_station_s4 : DS := (sExpr (dCall look_span [] (dCons (dVar 3) (dCons (dVar 4) (dCons (dC (.int 0)) (dOne (dC (.int 24))))))))
noncomputable def House_open_station_s5 : DS := (sIf (dOr (dNot (tst (dUn (gIsiT "str") (dVar 5)))) (tst (dOp (gIn true) (dVar 5) (dC (.tup [(.str "join"), (.str "push")]))))) (sRaise "NoRule") sNext)
noncomputable def House_open_station_s6 : DS := (sIf (tst (dOp (gEq false) (dCB gLen (dOne (dFld "ranks" (dVar 0)))) (dC (.int 6)))) (sRaise "Full") sNext)
noncomputable def House_open_station_s7 : DS := (sFapp "ranks" (dVar 0) (dVar 1))
noncomputable def House_open_station_s8 : DS := (sFputK "seats" (dVar 0) (dVar 1) (dTup (dCons (dVar 2) (dCons (dVar 3) (dCons (dVar 4) (dOne (dVar 5)))))))
noncomputable def House_open_station_s9 : DS := (sFapp "done" (dVar 0) (dTup (dCons (dC (.str "open")) (dCons (dVar 1) (dCons (dVar 2) (dCons (dVar 3) (dCons (dVar 4) (dOne (dVar 5)))))))))
noncomputable def House_open_station_s10 : DS := (sRet (dCB gLen (dOne (dFld "ranks" (dVar 0)))))
noncomputable def House_open_station_b : DS := (sSeq House_open_station_s1
    (sSeq House_open_station_s2
    (sSeq House_open_station_s3
    (sSeq House_open_station_s4
    (sSeq House_open_station_s5
    (sSeq House_open_station_s6
    (sSeq House_open_station_s7
    (sSeq House_open_station_s8
    (sSeq House_open_station_s9
    House_open_station_s10)))))))))
noncomputable def House_open_station : DF := fnD 6 6 (House_open_station_b)
abbrev is_sort_N : List Str := ["thing"]
noncomputable def is_sort_b : DS := (sRet (dAndV (dUn (gIsiT "str") (dVar 0)) (dOp (gIn false) (dVar 0) (dC (.tup [(.str "news"), (.str "talk"), (.str "tune")])))))
noncomputable def is_sort : DF := fnD 1 1 (is_sort_b)
abbrev is_show_N : List Str := ["thing", "name", "sort", "long", "live", "most"]
noncomputable def is_show_b : DS := (sSeq (sIf (dOr (dNot (tst (dUn (gIsiT "tuple") (dVar 0)))) (tst (dOp (gEq true) (dCB gLen (dOne (dVar 0))) (dC (.int 5))))) (sRet (dC (.bl false))) sNext)
    (sSeq (sSetT [1, 2, 3, 4, 5] (dVar 0))
    (sSeq (sIf (dOr (dNot (tst (dCall is_name [] (dOne (dVar 1))))) (dOr (dNot (tst (dCall is_sort [] (dOne (dVar 2))))) (dNot (tst (dCall is_number [] (dCons (dVar 3) (dCons (dC (.int 1)) (dOne (dC (.int 8)))))))))) (sRet (dC (.bl false))) sNext)
    (sRet (dAndV (dUn (gIsiT "bool") (dVar 4)) (dCall is_number [] (dCons (dVar 5) (dCons (dC (.int 0)) (dOne (dC (.int 9)))))))))))
noncomputable def is_show : DF := fnD 1 6 (is_show_b)
abbrev House_add_show_N : List Str := ["self", "show"]
noncomputable def House_add_show_b : DS := (sSeq (sIf (dNot (tst (dCall is_show [] (dOne (dVar 1))))) (sRaise "NoShow") sNext)
    (sSeq (sIf (tst (dOp (gInD false) (dOp gIx (dVar 1) (dC (.int 0))) (dFld "known" (dVar 0)))) (sRaise "Taken") sNext)
    (sSeq (sFputK "known" (dVar 0) (dOp gIx (dVar 1) (dC (.int 0))) (dVar 1))
    (sSeq (sFapp "done" (dVar 0) (dOp gAdd (dTup (dOne (dC (.str "show")))) (dVar 1)))
    (sRet (dCB gLenD (dOne (dFld "known" (dVar 0)))))))))
noncomputable def House_add_show : DF := fnD 2 2 (House_add_show_b)
abbrev House_now_N : List Str := ["self"]
noncomputable def House_now_b : DS := (sRet (dCB gDivmod (dCons (dFld "many" (dVar 0)) (dOne (dC (.int 24))))))
noncomputable def House_now : DF := fnD 1 1 (House_now_b)
abbrev House_tick_N : List Str := ["self", "elapsed"]
noncomputable def House_tick_b : DS := (sSeq (sIf (dNot (tst (dCall is_number [] (dCons (dVar 1) (dCons (dC (.int 1)) (dOne (dC (.int 24)))))))) (sRaise "NoMore") sNext)
    (sSeq (sIf (tst (dOp gGe (dOp gAdd (dFld "many" (dVar 0)) (dVar 1)) (dOp gMul (dC (.int 100)) (dC (.int 24))))) (sRaise "NoDay") sNext)
    (sSeq (sFst "many" (dVar 0) (dOp gAdd (dFld "many" (dVar 0)) (dVar 1)))
    (sSeq (sFapp "done" (dVar 0) (dTup (dCons (dC (.str "tick")) (dOne (dVar 1)))))
    (sRet (dMt House_now "now" 0 0 [0] dfl_now (dVar 0) dNil dNil))))))
noncomputable def House_tick : DF := fnD 2 2 (House_tick_b)
abbrev House_station_N : List Str := ["self", "name"]
noncomputable def House_station_b : DS := (sSeq (sExpr (dMt House_look_station "look_station" 1 0 [0, 1] dfl_look_station (dVar 0) (dOne (dVar 1)) dNil))
    (sRet (dOp gIxD (dFld "seats" (dVar 0)) (dVar 1))))
noncomputable def House_station : DF := fnD 2 2 (House_station_b)
abbrev House_show_N : List Str := ["self", "name"]
noncomputable def House_show_b : DS := (sSeq (sIf (dNot (tst (dCall is_name [] (dOne (dVar 1))))) (sRaise "NoShow") sNext)
    (sTry0 (sRet (dOp gIxD (dFld "known" (dVar 0)) (dVar 1)))))
noncomputable def House_show : DF := fnD 2 2 (House_show_b)
abbrev is_day_N : List Str := ["thing"]
noncomputable def is_day_b : DS := (sRet (dCall is_number [] (dCons (dVar 0) (dCons (dC (.int 0)) (dOne (dOp gSub (dC (.int 100)) (dC (.int 1))))))))
noncomputable def is_day : DF := fnD 1 1 (is_day_b)
abbrev look_day_N : List Str := ["day"]
noncomputable def look_day_b : DS := (sIf (dNot (tst (dCall is_day [] (dOne (dVar 0))))) (sRaise "NoDay") sNext)
noncomputable def look_day : DF := fnD 1 1 (look_day_b)
abbrev House_look_since_N : List Str := ["self", "station", "weekday", "since", "at"]
noncomputable def House_look_since_b : DS := (sSeq (sIf (tst (dOp gLt (dOp gMul (dVar 3) (dC (.int 24))) (dFld "many" (dVar 0)))) (sRaise "TooLate") sNext)
    (sIf (tst (dCB gAny (dOne (dLcD (locF 0 "plans") (.nm 4) tYesD (dAndV (dOp (gEq false) (dOp gIx (dVar 4) (dC (.int 0))) (dVar 1)) (dAndV (dOp gGe (dOp gIx (dVar 4) (dC (.int 1))) (dVar 3)) (dOp (gEq false) (dOp gMod (dOp gIx (dVar 4) (dC (.int 1))) (dC (.int 5))) (dVar 2)))) [4])))) (sRaise "Settled") sNext))
noncomputable def House_look_since : DF := fnD 4 5 (House_look_since_b)
abbrev House_put_week_N : List Str := ["self", "station", "weekday", "hour", "name", "starting", "show", "first", "last"]
noncomputable def House_put_week_s1 : DS := (sSetT [7, 8] (dSl (dMt House_station "station" 1 0 [0, 1] dfl_station (dVar 0) (dOne (dVar 1)) dNil) (dPart (dC (.int 1))) (dPart (dC (.int 3)))))
noncomputable def House_put_week_s2 : DS := (sIf (dNot (tst (dCall is_number [] (dCons (dVar 2) (dCons (dC (.int 0)) (dOne (dOp gSub (dC (.int 5)) (dC (.int 1))))))))) (sRaise "NoDay") sNext)
noncomputable def House_put_week_s3 : DS := (sSetF 6 (dMt House_show "show" 1 0 [0, 1] dfl_show (dVar 0) (dOne (dVar 4)) dNil))
noncomputable def House_put_week_s4 : DS := (sExpr (dCall look_day [] (dOne (dVar 5))))
noncomputable def House_put_week_s5 : DS := (sIf (dNot (tst (dCall is_number [] (dCons (dVar 3) (dCons (dVar 7) (dOne (dOp gSub (dVar 8) (dOp gIx (dVar 6) (dC (.int 2)))))))))) (sRaise "NoHour") sNext)
noncomputable def House_put_week_s6 : DS := (sIf (tst (dOp gGt (dOp gIx (dVar 6) (dC (.int 4))) (dC (.int 0)))) (sRaiseF "NoRights" ["most"] 1 0 (dOne (dOp gIx (dVar 6) (dC (.int 4)))) dNil) sNext)
noncomputable def House_put_week_s7 : DS := (sExpr (dMt House_look_since "look_since" 3 0 [0, 1, 2, 3] dfl_look_since (dVar 0) (dCons (dVar 1) (dCons (dVar 2) (dOne (dVar 5)))) dNil))
noncomputable def House_put_week_s8 : DS := (sFapp "weeks" (dVar 0) (dTup (dCons (dVar 1) (dCons (dVar 2) (dCons (dVar 5) (dCons (dVar 3) (dCons (dOp gAdd (dVar 3) (dOp gIx (dVar 6) (dC (.int 2)))) (dOne (dVar 4)))))))))
noncomputable def House_put_week_s9 : DS := (sFapp "done" (dVar 0) (dTup (dCons (dC (.str "week")) (dCons (dVar 1) (dCons (dVar 2) (dCons (dVar 3) (dCons (dVar 4) (dOne (dVar 5)))))))))
noncomputable def House_put_week_b : DS := (sSeq House_put_week_s1
    (sSeq House_put_week_s2
    (sSeq House_put_week_s3
    (sSeq House_put_week_s4
    (sSeq House_put_week_s5
    (sSeq House_put_week_s6
    (sSeq House_put_week_s7
    (sSeq House_put_week_s8
    House_put_week_s9))))))))
noncomputable def House_put_week : DF := fnD 6 9 (House_put_week_b)
abbrev House_clear_week_N : List Str := ["self", "station", "weekday", "opening", "closing", "starting"]
noncomputable def House_clear_week_s1 : DS := (sExpr (dMt House_look_station "look_station" 1 0 [0, 1] dfl_look_station (dVar 0) (dOne (dVar 1)) dNil))
noncomputable def House_clear_week_s2 : DS := (sIf (dNot (tst (dCall is_number [] (dCons (dVar 2) (dCons (dC (.int 0)) (dOne (dOp gSub (dC (.int 5)) (dC (.int 1))))))))) (sRaise "NoDay") sNext)
noncomputable def House_clear_week_s3 : DS := (sExpr (dCall look_day [] (dOne (dVar 5))))
noncomputable def House_clear_week_s4 : DS := (sExpr (dCall look_span [] (dCons (dVar 3) (dCons (dVar 4) (dCons (dC (.int 0)) (dOne (dC (.int 24))))))))
noncomputable def House_clear_week_s5 : DS := (sExpr (dMt House_look_since "look_since" 3 0 [0, 1, 2, 3] dfl_look_since (dVar 0) (dCons (dVar 1) (dCons (dVar 2) (dOne (dVar 5)))) dNil))
noncomputable def House_clear_week_s6 : DS := (sFapp "weeks" (dVar 0) (dTup (dCons (dVar 1) (dCons (dVar 2) (dCons (dVar 5) (dCons (dVar 3) (dCons (dVar 4) (dOne (dC .non)))))))))
noncomputable def House_clear_week_s7 : DS := (sFapp "done" (dVar 0) (dTup (dCons (dC (.str "clear")) (dCons (dVar 1) (dCons (dVar 2) (dCons (dVar 3) (dCons (dVar 4) (dOne (dVar 5)))))))))
noncomputable def House_clear_week_b : DS := (sSeq House_clear_week_s1
    (sSeq House_clear_week_s2
    (sSeq House_clear_week_s3
    (sSeq House_clear_week_s4
    (sSeq House_clear_week_s5
    (sSeq House_clear_week_s6
    House_clear_week_s7))))))
noncomputable def House_clear_week : DF := fnD 6 6 (House_clear_week_b)
abbrev laid_N : List Str := ["rows", "begin", "end", "made", "row"]
noncomputable def laid_l1 : DS := (sIf (dOr (tst (dOp gLe (dOp gIx (dVar 4) (dC (.int 1))) (dVar 1))) (tst (dOp gGe (dOp gIx (dVar 4) (dC (.int 0))) (dVar 2)))) (sApp 3 (dVar 4)) (sIf (tst (dOp gLt (dOp gIx (dVar 4) (dC (.int 0))) (dVar 1))) (sApp 3 (dTup (dCons (dOp gIx (dVar 4) (dC (.int 0))) (dCons (dVar 1) (dOne (dOp gIx (dVar 4) (dC (.int 2)))))))) sNext))
noncomputable def laid_b : DS := (sSeq (sSet 3 (dLst dNil))
    (sSeq (sFor (iSq (dVar 0)) (.nm 4) laid_l1)
    (sRetV 3)))
noncomputable def laid : DF := fnD 3 5 (laid_b)
abbrev laid_with_N : List Str := ["rows", "begin", "end", "name"]
noncomputable def laid_with_b : DS := (sRet (dCB gSorted (dOne (dOp gAdd (dCall laid [] (dCons (dVar 0) (dCons (dVar 1) (dOne (dVar 2))))) (dLst (dOne (dTup (dCons (dVar 1) (dCons (dVar 2) (dOne (dVar 3)))))))))))
noncomputable def laid_with : DF := fnD 4 4 (laid_with_b)
abbrev House_rows_by_week_N : List Str := ["self", "station", "day", "weekday", "rows", "place", "when", "since", "begin", "end", "name"]
noncomputable def House_rows_by_week_l1 : DS := (sIf (dAnd (tst (dOp (gEq false) (dVar 5) (dVar 1))) (dAnd (tst (dOp (gEq false) (dVar 6) (dVar 3))) (tst (dOp gLe (dVar 7) (dVar 2))))) (sSetF 4 (dIf (tst (dUn (gIsN false) (dVar 10))) (dCall laid [] (dCons (dVar 4) (dCons (dVar 8) (dOne (dVar 9))))) (dCall laid_with [] (dCons (dVar 4) (dCons (dVar 8) (dCons (dVar 9) (dOne (dVar 10)))))))) sNext)
noncomputable def House_rows_by_week_b : DS := (sSeq (sSetF 4 (dLst dNil))
    (sSeq (sForF "weeks" (dVar 0) (.tp [5, 6, 7, 8, 9, 10]) House_rows_by_week_l1)
    (sRetV 4)))
noncomputable def House_rows_by_week : DF := fnD 4 11 (House_rows_by_week_b)
noncomputable def House_rows_by_week_l1_h : DS := (sIf (dAnd (tst (dOp (gEq false) (dVar 5) (dVar 1))) (dAnd (tst (dOp (gEq false) (dVar 6) (dVar 3))) (tst (dOp gLe (dVar 7) (dVar 2))))) (fun _ _ => .bad) sNext)
noncomputable def House_rows_by_week_bh : DS := (sSeq (sSetF 4 (dLst dNil))
    (sSeq (sForF "weeks" (dVar 0) (.tp [5, 6, 7, 8, 9, 10]) House_rows_by_week_l1_h)
    (sRetV 4)))
noncomputable def House_rows_by_week_h : DF := fnD 4 11 (House_rows_by_week_bh)
abbrev House_week_rows_N : List Str := ["self", "station", "day"]
noncomputable def House_week_rows_b : DS := (sSeq (sExpr (dMt House_look_station "look_station" 1 0 [0, 1] dfl_look_station (dVar 0) (dOne (dVar 1)) dNil))
    (sSeq (sExpr (dCall look_day [] (dOne (dVar 2))))
    (sRet (dMt House_rows_by_week "rows_by_week" 3 0 [0, 1, 2, 3] dfl_rows_by_week (dVar 0) (dCons (dVar 1) (dCons (dVar 2) (dOne (dOp gMod (dVar 2) (dC (.int 5)))))) dNil))))
noncomputable def House_week_rows : DF := fnD 3 3 (House_week_rows_b)
noncomputable def House_week_rows_bh : DS := (sSeq (sExpr (dMt House_look_station "look_station" 1 0 [0, 1] dfl_look_station (dVar 0) (dOne (dVar 1)) dNil))
    (sSeq (sExpr (dCall look_day [] (dOne (dVar 2))))
    (sRet (dMt House_rows_by_week_h "rows_by_week" 3 0 [0, 1, 2, 3] dfl_rows_by_week (dVar 0) (dCons (dVar 1) (dCons (dVar 2) (dOne (dOp gMod (dVar 2) (dC (.int 5)))))) dNil))))
noncomputable def House_week_rows_h : DF := fnD 3 3 (House_week_rows_bh)
abbrev House_own_rows_N : List Str := ["self", "station", "day", "made"]
noncomputable def House_own_rows_b : DS := (sSeq (sSetF 3 (dMt House_week_rows "week_rows" 2 0 [0, 1, 2] dfl_week_rows (dVar 0) (dCons (dVar 1) (dOne (dVar 2))) dNil))
    (sRet (dIf (tst (dInT false (keyT (dCons (dVar 1) (dOne (dVar 2)))) (dFld "plans" (dVar 0)))) (dCB gList (dOne (dIxT (dFld "plans" (dVar 0)) (keyT (dCons (dVar 1) (dOne (dVar 2))))))) (dVar 3))))
noncomputable def House_own_rows : DF := fnD 3 4 (House_own_rows_b)
abbrev law_are_refused_N : List Str := ["house", "one", "other", "things", "thing", "told"]
noncomputable def law_are_refused_l1 : DS := (sSeq (sSet 5 (dLst (dOne (dTold (dMt House_put_week "put_week" 5 0 [0, 1, 2, 3, 4, 5] dfl_put_week (dVar 0) (dCons (dVar 4) (dCons (dVar 4) (dCons (dC (.int 0)) (dCons (dVar 4) (dOne (dVar 4)))))) dNil)))))
    (sSeq (sApp 5 (dTold (dMt House_clear_week "clear_week" 5 0 [0, 1, 2, 3, 4, 5] dfl_clear_week (dVar 0) (dCons (dVar 4) (dCons (dVar 4) (dCons (dC (.int 9)) (dCons (dC (.int 3)) (dOne (dVar 4)))))) dNil)))
    (sSeq (sApp 5 (dTold (dMt House_week_rows "week_rows" 2 0 [0, 1, 2] dfl_week_rows (dVar 0) (dCons (dVar 4) (dOne (dVar 4))) dNil)))
    (sSeq (sApp 5 (dTold (dMt House_own_rows "own_rows" 2 0 [0, 1, 2] dfl_own_rows (dVar 0) (dCons (dVar 4) (dOne (dVar 4))) dNil)))
    (sSeq (sIf (tst (dOp (gEq true) (dVar 5) (dOp gMul (dLst (dOne (dTup (dCons (dC (.str "refused")) (dOne (dC (.str "NoStation"))))))) (dC (.int 4))))) (sRet (dC (.bl false))) sNext)
    (sSeq (sSet 5 (dLst (dOne (dTold (dMt House_put_week "put_week" 5 0 [0, 1, 2, 3, 4, 5] dfl_put_week (dVar 0) (dCons (dVar 1) (dCons (dVar 4) (dCons (dC (.int 0)) (dCons (dVar 4) (dOne (dVar 4)))))) dNil)))))
    (sSeq (sApp 5 (dTold (dMt House_clear_week "clear_week" 5 0 [0, 1, 2, 3, 4, 5] dfl_clear_week (dVar 0) (dCons (dVar 1) (dCons (dVar 4) (dCons (dC (.int 9)) (dCons (dC (.int 3)) (dOne (dVar 4)))))) dNil)))
    (sSeq (sApp 5 (dTold (dMt House_clear_week "clear_week" 5 0 [0, 1, 2, 3, 4, 5] dfl_clear_week (dVar 0) (dCons (dVar 1) (dCons (dC (.int 3)) (dCons (dC (.int 9)) (dCons (dC (.int 3)) (dOne (dVar 4)))))) dNil)))
    (sSeq (sApp 5 (dTold (dMt House_put_week "put_week" 5 0 [0, 1, 2, 3, 4, 5] dfl_put_week (dVar 0) (dCons (dVar 1) (dCons (dC (.int 3)) (dCons (dVar 4) (dCons (dVar 1) (dOne (dVar 4)))))) dNil)))
    (sSeq (sApp 5 (dTold (dMt House_week_rows "week_rows" 2 0 [0, 1, 2] dfl_week_rows (dVar 0) (dCons (dVar 1) (dOne (dVar 4))) dNil)))
    (sSeq (sIf (dOr (tst (dOp (gEq true) (dVar 5) (dOp gMul (dLst (dOne (dTup (dCons (dC (.str "refused")) (dOne (dC (.str "NoDay"))))))) (dC (.int 5))))) (tst (dOp (gEq true) (dTold (dMt House_own_rows "own_rows" 2 0 [0, 1, 2] dfl_own_rows (dVar 0) (dCons (dVar 1) (dOne (dVar 4))) dNil)) (dOp gIx (dVar 5) (dC (.int 0)))))) (sRet (dC (.bl false))) sNext)
    (sSeq (sIf (tst (dOp (gEq true) (dTold (dMt House_put_week "put_week" 5 0 [0, 1, 2, 3, 4, 5] dfl_put_week (dVar 0) (dCons (dVar 1) (dCons (dC (.int 3)) (dCons (dC (.int 0)) (dCons (dVar 4) (dOne (dVar 4)))))) dNil)) (dTup (dCons (dC (.str "refused")) (dOne (dC (.str "NoShow"))))))) (sRet (dC (.bl false))) sNext)
    (sSeq (sSet 5 (dLst (dOne (dTold (dMt House_put_week "put_week" 5 0 [0, 1, 2, 3, 4, 5] dfl_put_week (dVar 0) (dCons (dVar 1) (dCons (dC (.int 3)) (dCons (dVar 4) (dCons (dVar 1) (dOne (dC (.int 0))))))) dNil)))))
    (sSeq (sApp 5 (dTold (dMt House_put_week "put_week" 4 0 [0, 1, 2, 3, 4, 5] dfl_put_week (dVar 0) (dCons (dVar 1) (dCons (dC (.int 3)) (dCons (dVar 4) (dOne (dVar 2))))) dNil)))
    (sSeq (sApp 5 (dTold (dMt House_clear_week "clear_week" 4 0 [0, 1, 2, 3, 4, 7] dfl_clear_week (dVar 0) (dCons (dVar 1) (dCons (dC (.int 3)) (dCons (dVar 4) (dOne (dC (.int 24)))))) dNil)))
    (sSeq (sApp 5 (dTold (dMt House_clear_week "clear_week" 2 1 [0, 1, 2, 4, 3, 6] dfl_clear_week (dVar 0) (dCons (dVar 1) (dOne (dC (.int 3)))) (dOne (dVar 4)))))
    (sIf (tst (dOp (gEq true) (dVar 5) (dOp gMul (dLst (dOne (dTup (dCons (dC (.str "refused")) (dOne (dC (.str "NoHour"))))))) (dC (.int 4))))) (sRet (dC (.bl false))) sNext)))))))))))))))))
noncomputable def law_are_refused_b : DS := (sSeq (sFor (iSq (dVar 3)) (.nm 4) law_are_refused_l1)
    (sRet (dC (.bl true))))
noncomputable def law_are_refused : DF := fnD 4 6 (law_are_refused_b)
abbrev law_bad_N : List Str := ["script"]
noncomputable def law_bad_b : DS := (sRet (dLst (dCons (dC .non) (dCons (dC (.bl true)) (dCons (dC (.str "")) (dCons (dC (.str "A")) (dCons (dLst (dOne (dC (.int 1)))) (dCons (dTup (dOne (dC (.int 1)))) (dCons (dOp gSub (dUn gNeg (dC (.int 1))) (dCall law_pick [] (dCons (dVar 0) (dCons (dC (.int 103)) (dOne (dC (.int 9))))))) (dCons (dC (.int 1000)) (dOne (dC (.str "5")))))))))))))
noncomputable def law_bad : DF := fnD 1 1 (law_bad_b)
abbrev House_times_N : List Str := ["self", "name", "made", "station", "day", "row"]
noncomputable def House_times_l1 : DS := (sExt 2 (dLc (iSq (dIxT (dFld "plans" (dVar 0)) (keyT (dCons (dVar 3) (dOne (dVar 4)))))) (.nm 5) (tst (dOp (gEq false) (dOp gIx (dVar 5) (dC (.int 2))) (dVar 1))) (dTup (dCons (dVar 4) (dCons (dVar 3) (dOne (dOp gIx (dVar 5) (dC (.int 0))))))) [5]))
noncomputable def House_times_b : DS := (sSeq (sExpr (dMt House_show "show" 1 0 [0, 1] dfl_show (dVar 0) (dOne (dVar 1)) dNil))
    (sSeq (sSet 2 (dLst dNil))
    (sSeq (sForD (locF 0 "plans") (.tp [3, 4]) House_times_l1)
    (sRet (dCB gSorted (dOne (dVar 2)))))))
noncomputable def House_times : DF := fnD 2 6 (House_times_b)
abbrev House_put_N : List Str := ["self", "station", "day", "hour", "name", "show", "old", "rows", "here", "first", "last", "row"]
noncomputable def House_put_s1 : DS := (sSetT [9, 10] (dSl (dMt House_station "station" 1 0 [0, 1] dfl_station (dVar 0) (dOne (dVar 1)) dNil) (dPart (dC (.int 1))) (dPart (dC (.int 3)))))
noncomputable def House_put_s2 : DS := (sExpr (dCall look_day [] (dOne (dVar 2))))
noncomputable def House_put_s3 : DS := (sSetF 5 (dMt House_show "show" 1 0 [0, 1] dfl_show (dVar 0) (dOne (dVar 4)) dNil))
noncomputable def House_put_s4 : DS := (sIf (dNot (tst (dCall is_number [] (dCons (dVar 3) (dCons (dVar 9) (dOne (dOp gSub (dVar 10) (dOp gIx (dVar 5) (dC (.int 2)))))))))) (sRaise "NoHour") sNext)
noncomputable def House_put_s5 : DS := (sIf (tst (dOp gLt (dOp gAdd (dOp gMul (dVar 2) (dC (.int 24))) (dVar 3)) (dFld "many" (dVar 0)))) (sRaise "TooLate") sNext)
noncomputable def House_put_s6 : DS := (sSetF 6 (dMt House_own_rows "own_rows" 2 0 [0, 1, 2] dfl_own_rows (dVar 0) (dCons (dVar 1) (dOne (dVar 2))) dNil))
noncomputable def House_put_s7 : DS := (sSetF 7 (dCall laid_with [] (dCons (dVar 6) (dCons (dVar 3) (dCons (dOp gAdd (dVar 3) (dOp gIx (dVar 5) (dC (.int 2)))) (dOne (dVar 4)))))))
noncomputable def House_put_s8 : DS := (sSetF 8 (dOp gSub (dCB gLen (dOne (dLc (iSq (dVar 7)) (.nm 11) (tst (dOp (gEq false) (dOp gIx (dVar 11) (dC (.int 2))) (dVar 4))) (dVar 11) [11]))) (dCB gLen (dOne (dLc (iSq (dVar 6)) (.nm 11) (tst (dOp (gEq false) (dOp gIx (dVar 11) (dC (.int 2))) (dVar 4))) (dVar 11) [11])))))
noncomputable def House_put_s9 : DS := (sIf (dAnd (tst (dOp gGt (dOp gIx (dVar 5) (dC (.int 4))) (dC (.int 0)))) (tst (dOp gGt (dOp gAdd (dCB gLen (dOne (dMt House_times "times" 1 0 [0, 1] dfl_times (dVar 0) (dOne (dVar 4)) dNil))) (dVar 8)) (dOp gIx (dVar 5) (dC (.int 4)))))) (sRaiseF "NoRights" ["most"] 1 0 (dOne (dOp gIx (dVar 5) (dC (.int 4)))) dNil) sNext)
noncomputable def House_put_s10 : DS := (sFputT "plans" (dVar 0) (keyT (dCons (dVar 1) (dOne (dVar 2)))) (dVar 7))
noncomputable def House_put_s11 : DS := (sFapp "done" (dVar 0) (dTup (dCons (dC (.str "put")) (dCons (dVar 1) (dCons (dVar 2) (dCons (dVar 3) (dOne (dVar 4))))))))
noncomputable def House_put_s12 : DS := (sRet (dCB gLen (dOne (dVar 7))))
noncomputable def House_put_b : DS := (sSeq House_put_s1
    (sSeq House_put_s2
    (sSeq House_put_s3
    (sSeq House_put_s4
    (sSeq House_put_s5
    (sSeq House_put_s6
    (sSeq House_put_s7
    (sSeq House_put_s8
    (sSeq House_put_s9
    (sSeq House_put_s10
    (sSeq House_put_s11
    House_put_s12)))))))))))
noncomputable def House_put : DF := fnD 5 12 (House_put_b)
abbrev House_deeds_N : List Str := ["self"]
noncomputable def House_deeds_b : DS := (sRet (dCB gList (dOne (dFld "done" (dVar 0)))))
noncomputable def House_deeds : DF := fnD 1 1 (House_deeds_b)
abbrev law_are_rights_N : List Str := ["house", "one", "other", "script", "e"]
noncomputable def law_are_rights_b : DS := (sSeq (sTryR 4 "NoRights" (fun a x => (dAndV (dOp (gEq false) (dUn (gXf a x "most") (dVar 4)) (dOp gAdd (dC (.int 1)) (dCall law_pick [] (dCons (dVar 3) (dCons (dC (.int 101)) (dOne (dC (.int 9)))))))) (dAndV (dOp (gEq false) (dMt House_week_rows_h "week_rows" 2 0 [0, 1, 2] dfl_week_rows (dVar 0) (dCons (dVar 1) (dOne (dC (.int 0)))) dNil) (dLst dNil)) (dOp (gEq false) (dCB gLen (dOne (dMt House_deeds "deeds" 0 0 [0] dfl_deeds (dVar 0) dNil dNil))) (dC (.int 8)))))) (sExpr (dMt House_put_week "put_week" 5 0 [0, 1, 2, 3, 4, 5] dfl_put_week (dVar 0) (dCons (dVar 1) (dCons (dC (.int 0)) (dCons (dOp gIx (dMt House_station "station" 1 0 [0, 1] dfl_station (dVar 0) (dOne (dVar 1)) dNil) (dC (.int 1))) (dCons (dVar 2) (dOne (dC (.int 0))))))) dNil)))
    (sRet (dC (.bl false))))
noncomputable def law_are_rights : DF := fnD 4 5 (law_are_rights_b)
abbrev law_refusals_N : List Str := ["script", "first", "house", "told", "one", "other", "third"]
noncomputable def law_refusals_s1 : DS := (sSetU [4, 5, 6] (dCall law_names [] (dCons (dVar 0) (dCons (dC (.int 0)) (dOne (dC (.int 3)))))))
noncomputable def law_refusals_s2 : DS := (sSetF 1 (dCall law_pick [] (dCons (dVar 0) (dCons (dC (.int 100)) (dOne (dC (.int 8)))))))
noncomputable def law_refusals_s3 : DS := (sSetF 2 dNew)
noncomputable def law_refusals_s4 : DS := (sExpr (dMt House_open_station "open_station" 4 0 [0, 1, 2, 3, 4, 8] dfl_open_station (dVar 2) (dCons (dVar 4) (dCons (dC .non) (dCons (dVar 1) (dOne (dOp gAdd (dVar 1) (dC (.int 12))))))) dNil))
noncomputable def law_refusals_s5 : DS := (sExpr (dMt House_add_show "add_show" 1 0 [0, 1] dfl_add_show (dVar 2) (dOne (dTup (dCons (dVar 4) (dCons (dC (.str "talk")) (dCons (dC (.int 3)) (dCons (dC (.bl true)) (dOne (dC (.int 0))))))))) dNil))
noncomputable def law_refusals_s6 : DS := (sExpr (dMt House_add_show "add_show" 1 0 [0, 1] dfl_add_show (dVar 2) (dOne (dTup (dCons (dVar 5) (dCons (dC (.str "tune")) (dCons (dC (.int 1)) (dCons (dC (.bl true)) (dOne (dOp gAdd (dC (.int 1)) (dCall law_pick [] (dCons (dVar 0) (dCons (dC (.int 101)) (dOne (dC (.int 9)))))))))))))) dNil))
noncomputable def law_refusals_s7 : DS := (sExpr (dMt House_tick "tick" 1 0 [0, 1] dfl_tick (dVar 2) (dOne (dC (.int 24))) dNil))
noncomputable def law_refusals_s8 : DS := (sExpr (dMt House_tick "tick" 1 0 [0, 1] dfl_tick (dVar 2) (dOne (dOp gAdd (dC (.int 1)) (dCall law_pick [] (dCons (dVar 0) (dCons (dC (.int 102)) (dOne (dC (.int 23)))))))) dNil))
noncomputable def law_refusals_s9 : DS := (sIf (dNot (tst (dCall law_are_refused [] (dCons (dVar 2) (dCons (dVar 4) (dCons (dVar 5) (dOne (dCall law_bad [] (dOne (dVar 0)))))))))) (sRet (dC (.bl false))) sNext)
noncomputable def law_refusals_s10 : DS := (sSet 3 (dLst (dOne (dTold (dMt House_put_week "put_week" 4 0 [0, 1, 2, 3, 4, 5] dfl_put_week (dVar 2) (dCons (dVar 4) (dCons (dC (.int 3)) (dCons (dVar 1) (dOne (dVar 4))))) dNil)))))
noncomputable def law_refusals_s11 : DS := (sApp 3 (dTold (dMt House_clear_week "clear_week" 2 0 [0, 1, 2, 3, 4, 5] dfl_clear_week (dVar 2) (dCons (dVar 4) (dOne (dC (.int 3)))) dNil)))
noncomputable def law_refusals_s12 : DS := (sApp 3 (dTold (dMt House_put_week "put_week" 4 1 [0, 1, 2, 3, 4, 5] dfl_put_week (dVar 2) (dCons (dVar 4) (dCons (dC (.int 3)) (dCons (dOp gAdd (dVar 1) (dC (.int 9))) (dOne (dVar 4))))) (dOne (dOp gSub (dOp gIx (dMt House_now "now" 0 0 [0] dfl_now (dVar 2) dNil dNil) (dC (.int 0))) (dC (.int 1)))))))
noncomputable def law_refusals_s13 : DS := (sIf (tst (dOp (gEq true) (dVar 3) (dOp gMul (dLst (dOne (dTup (dCons (dC (.str "refused")) (dOne (dC (.str "TooLate"))))))) (dC (.int 3))))) (sRet (dC (.bl false))) sNext)
noncomputable def law_refusals_s14 : DS := (sIf (tst (dOp (gEq true) (dTold (dMt House_put_week "put_week" 5 0 [0, 1, 2, 3, 4, 5] dfl_put_week (dVar 2) (dCons (dVar 4) (dCons (dC (.int 5)) (dCons (dC (.int 0)) (dCons (dVar 6) (dOne (dC (.int 0))))))) dNil)) (dTup (dCons (dC (.str "refused")) (dOne (dC (.str "NoDay"))))))) (sRet (dC (.bl false))) sNext)
noncomputable def law_refusals_s15 : DS := (sIf (tst (dOp (gEq true) (dTold (dMt House_put_week "put_week" 4 0 [0, 1, 2, 3, 4, 5] dfl_put_week (dVar 2) (dCons (dVar 4) (dCons (dC (.int 3)) (dCons (dOp gAdd (dVar 1) (dC (.int 10))) (dOne (dVar 4))))) dNil)) (dTup (dCons (dC (.str "refused")) (dOne (dC (.str "NoHour"))))))) (sRet (dC (.bl false))) sNext)
noncomputable def law_refusals_s16 : DS := (sExpr (dMt House_put "put" 4 0 [0, 1, 2, 3, 4] dfl_put (dVar 2) (dCons (dVar 4) (dCons (dC (.int 8)) (dCons (dVar 1) (dOne (dVar 4))))) dNil))
noncomputable def law_refusals_s17 : DS := (sSet 3 (dLst (dOne (dTold (dMt House_clear_week "clear_week" 2 1 [0, 1, 2, 4, 5, 3] dfl_clear_week (dVar 2) (dCons (dVar 4) (dOne (dC (.int 3)))) (dOne (dC (.int 8))))))))
noncomputable def law_refusals_s18 : DS := (sApp 3 (dTold (dMt House_put_week "put_week" 5 0 [0, 1, 2, 3, 4, 5] dfl_put_week (dVar 2) (dCons (dVar 4) (dCons (dC (.int 3)) (dCons (dVar 1) (dCons (dVar 4) (dOne (dC (.int 5))))))) dNil)))
noncomputable def law_refusals_s19 : DS := (sIf (dOr (tst (dOp (gEq true) (dVar 3) (dOp gMul (dLst (dOne (dTup (dCons (dC (.str "refused")) (dOne (dC (.str "Settled"))))))) (dC (.int 2))))) (tst (dUn (gIsN true) (dMt House_clear_week "clear_week" 2 1 [0, 1, 2, 4, 5, 3] dfl_clear_week (dVar 2) (dCons (dVar 4) (dOne (dC (.int 3)))) (dOne (dC (.int 9))))))) (sRet (dC (.bl false))) sNext)
noncomputable def law_refusals_s20 : DS := (sIf (tst (dOp (gEq true) (dOp gIx (dMt House_deeds "deeds" 0 0 [0] dfl_deeds (dVar 2) dNil dNil) (dUn gNeg (dC (.int 1)))) (dTup (dCons (dC (.str "clear")) (dCons (dVar 4) (dCons (dC (.int 3)) (dCons (dC (.int 0)) (dCons (dC (.int 24)) (dOne (dC (.int 9))))))))))) (sRet (dC (.bl false))) sNext)
noncomputable def law_refusals_s21 : DS := (sRet (dAndV (dUn (gIsN false) (dMt House_clear_week "clear_week" 2 1 [0, 1, 2, 4, 5, 3] dfl_clear_week (dVar 2) (dCons (dVar 4) (dOne (dC (.int 2)))) (dOne (dC (.int 4))))) (dCall law_are_rights [] (dCons (dVar 2) (dCons (dVar 4) (dCons (dVar 5) (dOne (dVar 0))))))))
noncomputable def law_refusals_b : DS := (sSeq law_refusals_s1
    (sSeq law_refusals_s2
    (sSeq law_refusals_s3
    (sSeq law_refusals_s4
    (sSeq law_refusals_s5
    (sSeq law_refusals_s6
    (sSeq law_refusals_s7
    (sSeq law_refusals_s8
    (sSeq law_refusals_s9
    (sSeq law_refusals_s10
    (sSeq law_refusals_s11
    (sSeq law_refusals_s12
    (sSeq law_refusals_s13
    (sSeq law_refusals_s14
    (sSeq law_refusals_s15
    (sSeq law_refusals_s16
    (sSeq law_refusals_s17
    (sSeq law_refusals_s18
    (sSeq law_refusals_s19
    (sSeq law_refusals_s20
    law_refusals_s21))))))))))))))))))))
noncomputable def law_refusals : DF := fnD 1 7 (law_refusals_b)
abbrev law_N : List Str := ["script"]
noncomputable def law_s1 : DS := (sRet (dOp (gIsB false) (dTold (dCall law_refusals [] (dOne (dVar 0)))) (dC (.bl true))))
noncomputable def law_b : DS := law_s1
noncomputable def law : DF := fnD 1 1 (law_b)
abbrev osh_NoRights : List (Nat × List Str) := [(1, [])]
theorem law_class_eq : ∀ (a : Addr) (c : String) (w : W), c ∈ (["NoName", "NoDay", "NoHour", "NoMore", "NoShow", "NoSort", "NoStation", "NoRule", "Full", "Taken", "NoRights", "Settled", "TooLate", "NoRow", "NotLive", "TooLong", "NewsAhead", "Clash", "NoWish", "NoDeeds", "NoText"] : List String) → law_class a c [.exc a] w = .ok (fz (.str c)) w := by
  intro a c w h
  simp only [List.mem_cons, List.not_mem_nil, or_false] at h
  rcases h with rfl | rfl | rfl | rfl | rfl | rfl | rfl | rfl | rfl | rfl | rfl | rfl | rfl | rfl | rfl | rfl | rfl | rfl | rfl | rfl | rfl <;> (refine fnD_ret rfl ?_; simp [law_class_b, law_class_s1, law_class_s2, law_class_s3, law_class_s4, law_class_s5, law_class_s6, law_class_s7, law_class_s8, law_class_s9, law_class_s10, law_class_s11, gIsX, dBm, tyOk, gCnt, gIdx, flD, eqD, List.findIdx?_cons, pl, plN, gEq, sz_le]; try (first | rfl | decide))
/-! ### what the top has written -/
structure Txt (K : PySem.W.Frag) (mg : Str → Option Value) (cm : Cm) (hC : Addr) (cc_law_are_refused : Addr) (cc_law_refusals : Addr) (cc_law : Addr) : Prop where
  b_ValueError : mg "ValueError" = none
  b_all : mg "all" = none
  b_any : mg "any" = none
  b_bool : mg "bool" = none
  b_divmod : mg "divmod" = none
  b_int : mg "int" = none
  b_isinstance : mg "isinstance" = none
  b_len : mg "len" = none
  b_list : mg "list" = none
  b_max : mg "max" = none
  b_range : mg "range" = none
  b_sorted : mg "sorted" = none
  b_str : mg "str" = none
  b_tuple : mg "tuple" = none
  c_DAYS : Cst K mg "DAYS" (.int 100)
  c_HOURS : Cst K mg "HOURS" (.int 24)
  c_LETTERS : Cst K mg "LETTERS" (.str "abcdefghijklmnopqrstuvwxyz")
  c_LONGEST : Cst K mg "LONGEST" (.int 8)
  c_LONGEST_NAME : Cst K mg "LONGEST_NAME" (.int 6)
  c_MOST_STATIONS : Cst K mg "MOST_STATIONS" (.int 6)
  c_MOST_TIMES : Cst K mg "MOST_TIMES" (.int 9)
  c_RULES : Cst K mg "RULES" (.tup [(.str "join"), (.str "push")])
  c_SORTS : Cst K mg "SORTS" (.tup [(.str "news"), (.str "talk"), (.str "tune")])
  c_WEEK : Cst K mg "WEEK" (.int 5)
  er : ErsX K mg cm
  en : ∀ c, (cm c).isSome → c ∈ (["NoName", "NoDay", "NoHour", "NoMore", "NoShow", "NoSort", "NoStation", "NoRule", "Full", "Taken", "NoRights", "Settled", "TooLate", "NoRow", "NotLive", "TooLong", "NewsAhead", "Clash", "NoWish", "NoDeeds", "NoText"] : List String)
  m_Clash : Mcl mg cm "Clash"
  m_Full : Mcl mg cm "Full"
  m_NewsAhead : Mcl mg cm "NewsAhead"
  m_NoDay : Mcl mg cm "NoDay"
  m_NoDeeds : Mcl mg cm "NoDeeds"
  m_NoHour : Mcl mg cm "NoHour"
  m_NoMore : Mcl mg cm "NoMore"
  m_NoName : Mcl mg cm "NoName"
  m_NoRights : Mcl mg cm "NoRights"
  m_NoRow : Mcl mg cm "NoRow"
  m_NoRule : Mcl mg cm "NoRule"
  m_NoShow : Mcl mg cm "NoShow"
  m_NoSort : Mcl mg cm "NoSort"
  m_NoStation : Mcl mg cm "NoStation"
  m_NoText : Mcl mg cm "NoText"
  m_NoWish : Mcl mg cm "NoWish"
  m_NotLive : Mcl mg cm "NotLive"
  m_Settled : Mcl mg cm "Settled"
  m_Taken : Mcl mg cm "Taken"
  m_TooLate : Mcl mg cm "TooLate"
  m_TooLong : Mcl mg cm "TooLong"
  r_Full : Rcl K mg cm "Full"
  r_NoDay : Rcl K mg cm "NoDay"
  r_NoHour : Rcl K mg cm "NoHour"
  r_NoMore : Rcl K mg cm "NoMore"
  r_NoName : Rcl K mg cm "NoName"
  r_NoRule : Rcl K mg cm "NoRule"
  r_NoShow : Rcl K mg cm "NoShow"
  r_NoStation : Rcl K mg cm "NoStation"
  r_Settled : Rcl K mg cm "Settled"
  r_Taken : Rcl K mg cm "Taken"
  r_TooLate : Rcl K mg cm "TooLate"
  o_NoRights : DH.OclT K mg cm "NoRights" s_o_NoRights ["self", "most"] ["most"] osh_NoRights
  told : TldT K mg
  cl : Cls K hC
  na : ∀ f ∈ (["ranks", "seats", "known", "weeks", "plans", "cuts", "many", "done"] : List Str), NoAttr K hC f
  mgH : mg "House" = some (.ref hC)
  ini : ∃ f fd, Mk K hC f ∧ Fun K "__init__" "House.__init__" s_init f fd ∧ Binds K fd ["self"] []
  f_law_class : Fnx K mg "_law_class" s_law_class ["e"]
  f_law_pick : Fnx K mg "_law_pick" s_law_pick ["script", "k", "many"]
  f_law_names : Fnx K mg "_law_names" s_law_names ["script", "at", "many"]
  f_is_name : Fnx K mg "is_name" s_is_name ["thing"]
  f_House_look_station : FnxM K hC "look_station" "House.look_station" s_House_look_station ["self", "name"] sh_look_station
  f_is_number : Fnx K mg "is_number" s_is_number ["thing", "least", "most"]
  f_look_span : Fnx K mg "look_span" s_look_span ["begin", "end", "least", "most"]
  f_House_open_station : FnxM K hC "open_station" "House.open_station" s_House_open_station ["self", "name", "upper", "opening", "closing", "manner"] sh_open_station
  f_is_sort : Fnx K mg "is_sort" s_is_sort ["thing"]
  f_is_show : Fnx K mg "is_show" s_is_show ["thing"]
  f_House_add_show : FnxM K hC "add_show" "House.add_show" s_House_add_show ["self", "show"] sh_add_show
  f_House_now : FnxM K hC "now" "House.now" s_House_now ["self"] sh_now
  f_House_tick : FnxM K hC "tick" "House.tick" s_House_tick ["self", "elapsed"] sh_tick
  f_House_station : FnxM K hC "station" "House.station" s_House_station ["self", "name"] sh_station
  f_House_show : FnxM K hC "show" "House.show" s_House_show ["self", "name"] sh_show
  f_is_day : Fnx K mg "is_day" s_is_day ["thing"]
  f_look_day : Fnx K mg "look_day" s_look_day ["day"]
  f_House_look_since : FnxM K hC "look_since" "House.look_since" s_House_look_since ["self", "station", "weekday", "since"] sh_look_since
  f_House_put_week : FnxM K hC "put_week" "House.put_week" s_House_put_week ["self", "station", "weekday", "hour", "name", "starting"] sh_put_week
  f_House_clear_week : FnxM K hC "clear_week" "House.clear_week" s_House_clear_week ["self", "station", "weekday", "opening", "closing", "starting"] sh_clear_week
  f_laid : Fnx K mg "laid" s_laid ["rows", "begin", "end"]
  f_laid_with : Fnx K mg "laid_with" s_laid_with ["rows", "begin", "end", "name"]
  f_House_rows_by_week : FnxM K hC "rows_by_week" "House.rows_by_week" s_House_rows_by_week ["self", "station", "day", "weekday"] sh_rows_by_week
  f_House_week_rows : FnxM K hC "week_rows" "House.week_rows" s_House_week_rows ["self", "station", "day"] sh_week_rows
  f_House_own_rows : FnxM K hC "own_rows" "House.own_rows" s_House_own_rows ["self", "station", "day"] sh_own_rows
  f_law_are_refused : FnxL K mg "_law_are_refused" s_law_are_refused ["house", "one", "other", "things"] cc_law_are_refused
  f_law_bad : Fnx K mg "_law_bad" s_law_bad ["script"]
  f_House_times : FnxM K hC "times" "House.times" s_House_times ["self", "name"] sh_times
  f_House_put : FnxM K hC "put" "House.put" s_House_put ["self", "station", "day", "hour", "name"] sh_put
  f_House_deeds : FnxM K hC "deeds" "House.deeds" s_House_deeds ["self"] sh_deeds
  f_law_are_rights : Fnx K mg "_law_are_rights" s_law_are_rights ["house", "one", "other", "script"]
  f_law_refusals : FnxL K mg "_law_refusals" s_law_refusals ["script"] cc_law_refusals
  f_law : FnxL K mg "law" s_law ["script"] cc_law
/-! ### each def -/
section
variable {P : Program} {w : World} {K : PySem.W.Frag} {mg : Str → Option Value} {base : Heap} {cm : Cm} {TT : List (Addr × Str)} {hC cc_law_are_refused cc_law_refusals cc_law : Addr}
theorem sc_init : FnScope ["self"] ["self"] (defScope s_init) := ⟨rfl, rfl, rfl, by decide +kernel, rfl, by decide +kernel, by decide +kernel⟩
theorem d_init (T : Txt K mg cm hC cc_law_are_refused cc_law_refusals cc_law) : Hcl P w K mg base ⟨hC, TT⟩ := by
  obtain ⟨f, fd, M, F, hB⟩ := T.ini
  refine ⟨T.cl, T.na, f, fd, M, T.mgH, hB, F.okX sc_init (fun vs H Q E h => by obtain ⟨x, dx, rfl, _⟩ := h; rfl) fun cdv A outer s H vs Q E hr h => ⟨_, ?_, init_read (N := ["self"]) rfl T.cl T.na h⟩⟩
  exact pss_cons (ps_fld (pv 0) (pe_lst pa_nil) rfl) (pss_cons (ps_fld (pv 0) pe_dnewK rfl) (pss_cons (ps_fld (pv 0) pe_dnewK rfl) (pss_cons (ps_fld (pv 0) (pe_lst pa_nil) rfl) (pss_cons (ps_fld (pv 0) pe_dnewT rfl) (pss_cons (ps_fld (pv 0) pe_dnewT rfl) (pss_cons (ps_fld (pv 0) pe_int rfl) (pss_one (ps_fld (pv 0) (pe_lst pa_nil) rfl))))))))
theorem sc_o_NoRights : FnScope ["self", "most"] ["self", "most"] (defScope s_o_NoRights) := ⟨rfl, rfl, rfl, by decide +kernel, rfl, by decide +kernel, by decide +kernel⟩
theorem d_o_NoRights (T : Txt K mg cm hC cc_law_are_refused cc_law_refusals cc_law) : Ocl P w K mg base cm "NoRights" ["most"] osh_NoRights := by
  obtain ⟨C, fI, fd, A, h1, h2, h3, h4, h5, F, hn, hs, hA, b1, b2, b3⟩ := T.o_NoRights
  refine ⟨C, fI, fd, _, h1, h2, h3, h4, h5, F.okX sc_o_NoRights (fun vs H Q E h => by obtain ⟨a, ys, rfl, hl, _⟩ := h; rw [List.length_cons, hl]; rfl) fun cdv A2 outer s H vs Q E hr h => ⟨_, ?_, oread1 (m := "not so often") rfl h3 (hn _ (.head _)) h⟩, hs⟩
  exact pss_cons (ps_expr (pe_ownInit rfl hA b1 b2 b3 (pa_cons (pv 0) (pa_cons pe_str pa_nil)))) (pss_one (ps_ost (pv 0) (pv 1)))
theorem sc_law_class : FnScope law_class_N ["e"] (defScope s_law_class) := ⟨rfl, rfl, rfl, by decide +kernel, rfl, by decide +kernel, by decide +kernel⟩
theorem d_law_class (T : Txt K mg cm hC cc_law_are_refused cc_law_refusals cc_law) : ∃ f fd F, mg "_law_class" = some (.ref f) ∧ PySem.W.keepIn K (.ref f) = true ∧ Binds K fd ["e"] [] ∧ HotOk P w K mg base 1 f fd ["e"] (spX ⟨K, ⟨hC, TT⟩, cm⟩ F) ∧ ∀ a c w, (cm c).isSome → F a c [.exc a] w = .ok (fz (.str c)) w := by
  obtain ⟨f, fd, F, hm, hB⟩ := T.f_law_class
  refine ⟨f, fd, law_class, hm, F.kp, hB, ?_, fun a c w h => law_class_eq a c w (T.en c h)⟩
  refine hot_mk F sc_law_class fun cdv A outer s H e p c Da d hc hx hdi hu => ?_
  obtain ⟨Ab, E⟩ := T.er
  exact (b_cons (h_set 1 sc_law_class.nd (e_lst (a_cons (h_isX hx hdi E hc T.m_NoName T.b_isinstance (e_var 0)) (a_cons (h_isX hx hdi E hc T.m_NoDay T.b_isinstance (e_var 0)) (a_cons (h_isX hx hdi E hc T.m_NoHour T.b_isinstance (e_var 0)) (a_one (h_isX hx hdi E hc T.m_NoMore T.b_isinstance (e_var 0))))))))
    (b_cons (s_ext 1 (e_lst (a_cons (h_isX hx hdi E hc T.m_NoShow T.b_isinstance (e_var 0)) (a_cons (h_isX hx hdi E hc T.m_NoSort T.b_isinstance (e_var 0)) (a_cons (h_isX hx hdi E hc T.m_NoStation T.b_isinstance (e_var 0)) (a_one (h_isX hx hdi E hc T.m_NoRule T.b_isinstance (e_var 0))))))))
    (b_cons (s_ext 1 (e_lst (a_cons (h_isX hx hdi E hc T.m_Full T.b_isinstance (e_var 0)) (a_cons (h_isX hx hdi E hc T.m_Taken T.b_isinstance (e_var 0)) (a_cons (h_isX hx hdi E hc T.m_NoRights T.b_isinstance (e_var 0)) (a_one (h_isX hx hdi E hc T.m_Settled T.b_isinstance (e_var 0))))))))
    (b_cons (s_ext 1 (e_lst (a_cons (h_isX hx hdi E hc T.m_TooLate T.b_isinstance (e_var 0)) (a_cons (h_isX hx hdi E hc T.m_NoRow T.b_isinstance (e_var 0)) (a_cons (h_isX hx hdi E hc T.m_NotLive T.b_isinstance (e_var 0)) (a_one (h_isX hx hdi E hc T.m_TooLong T.b_isinstance (e_var 0))))))))
    (b_cons (s_ext 1 (e_lst (a_cons (h_isX hx hdi E hc T.m_NewsAhead T.b_isinstance (e_var 0)) (a_cons (h_isX hx hdi E hc T.m_Clash T.b_isinstance (e_var 0)) (a_cons (h_isX hx hdi E hc T.m_NoWish T.b_isinstance (e_var 0)) (a_one (h_isX hx hdi E hc T.m_NoDeeds T.b_isinstance (e_var 0))))))))
    (b_cons (s_app 1 (h_isX hx hdi E hc T.m_NoText T.b_isinstance (e_var 0)))
    (b_cons (s_if (t_w (w_or (h_ne hu (e_cnt (e_var 1) e_bl) e_int) (w_or1 (t_not (t_val (h_isV hx hdi E hc T.b_isinstance T.b_ValueError (e_var 0))))))) (b_one (s_ret e_str)) b_nil)
    (b_cons (h_set 2 sc_law_class.nd (e_lst (a_cons e_str (a_cons e_str (a_cons e_str (a_cons e_str (a_cons e_str (a_cons e_str (a_cons e_str (a_cons e_str (a_cons e_str (a_one e_str))))))))))))
    (b_cons (s_ext 2 (e_lst (a_cons e_str (a_cons e_str (a_cons e_str (a_cons e_str (a_cons e_str (a_cons e_str (a_cons e_str (a_cons e_str (a_one e_str)))))))))))
    (b_cons (s_ext 2 (e_lst (a_cons e_str (a_one e_str))))
    (b_one (s_ret (e_ix (e_var 2) (e_idx (e_var 1) e_bl))))))))))))))
theorem sc_law_pick : FnScope law_pick_N ["script", "k", "many"] (defScope s_law_pick) := ⟨rfl, rfl, rfl, by decide +kernel, rfl, by decide +kernel, by decide +kernel⟩
theorem d_law_pick (T : Txt K mg cm hC cc_law_are_refused cc_law_refusals cc_law)  : Df P w K mg base ⟨hC, TT⟩ cm "_law_pick" 1 law_pick :=
  df_mk T.f_law_pick sc_law_pick fun f cdv A outer s H E e c => by
    have c0 := c.fe
    exact (b_cons (s_setF 3 c0 (e_if (t_ne c0 (e_var 0) (e_lst a_nil)) (e_ix (e_var 0) (e_mod (e_var 1) (e_len T.b_len (a_one (e_var 0))))) e_int))
    (b_cons (s_parF 5 6 [false, false] c0 (a_cons (e_div (e_var 3) (e_pow e_int e_int)) (a_one (e_div (e_var 1) (e_max2 c0 T.b_max (a_cons (e_len T.b_len (a_one (e_var 0))) (a_one e_int)))))))
    (b_cons (s_while 100000 c (t_w (w_and (t_gt (e_var 5) e_int) (w_and1 (t_gt (e_var 6) e_int)))) (b_one (s_parF 5 6 [false, false] c0 (a_cons (e_div (e_var 5) e_int) (a_one (e_sub (e_var 6) e_int))))))
    (b_cons (s_if (t_gt (e_var 5) e_int) (b_one (s_ret (e_mod (e_mod (e_var 5) e_int) (e_var 2)))) b_nil)
    (b_cons (s_setF 4 c0 (e_mod (e_mul (e_add (e_mul (e_var 3) e_int) (e_mul e_int (e_add (e_var 1) e_int))) e_int) e_int))
    (b_one (s_ret (e_mod (e_mod (e_add (e_mul (e_var 4) (e_var 4)) (e_div (e_var 4) e_int)) e_int) (e_var 2)))))))))
theorem w_law_pick (T : Txt K mg cm hC cc_law_are_refused cc_law_refusals cc_law)  : DfH P w K mg base ⟨hC, TT⟩ cm "_law_pick" 1 law_pick :=
  dfH_mk T.f_law_pick sc_law_pick fun f cdv A outer s H E p e c => by
    have c0 := c.toFeH
    exact (b_cons (s_setFH 3 c0 (e_if (t_neH c0.u (e_var 0) (e_lst a_nil)) (e_ix (e_var 0) (e_mod (e_var 1) (e_len T.b_len (a_one (e_var 0))))) e_int))
    (b_cons (s_parFH 5 6 [false, false] c0 (a_cons (e_div (e_var 3) (e_pow e_int e_int)) (a_one (e_div (e_var 1) (e_max2H c0 T.b_max (a_cons (e_len T.b_len (a_one (e_var 0))) (a_one e_int)))))))
    (b_cons (s_whileH 100000 c (t_w (w_and (t_gt (e_var 5) e_int) (w_and1 (t_gt (e_var 6) e_int)))) (b_one (s_parFH 5 6 [false, false] c0 (a_cons (e_div (e_var 5) e_int) (a_one (e_sub (e_var 6) e_int))))))
    (b_cons (s_if (t_gt (e_var 5) e_int) (b_one (s_ret (e_mod (e_mod (e_var 5) e_int) (e_var 2)))) b_nil)
    (b_cons (s_setFH 4 c0 (e_mod (e_mul (e_add (e_mul (e_var 3) e_int) (e_mul e_int (e_add (e_var 1) e_int))) e_int) e_int))
    (b_one (s_ret (e_mod (e_mod (e_add (e_mul (e_var 4) (e_var 4)) (e_div (e_var 4) e_int)) e_int) (e_var 2)))))))))
theorem sc_law_names : FnScope law_names_N ["script", "at", "many"] (defScope s_law_names) := ⟨rfl, rfl, rfl, by decide +kernel, rfl, by decide +kernel, by decide +kernel⟩
theorem d_law_names (T : Txt K mg cm hC cc_law_are_refused cc_law_refusals cc_law) (h_law_pick : Df P w K mg base ⟨hC, TT⟩ cm "_law_pick" 1 law_pick) : Df P w K mg base ⟨hC, TT⟩ cm "_law_names" 2 law_names :=
  df_mk T.f_law_names sc_law_names fun f cdv A outer s H E e c => by
    have c0 := c.fe
    exact (b_cons (s_parF 4 5 [false, true] c0 (a_cons e_str (a_one (e_lst a_nil))))
    (b_cons (s_for (.nm 3) c (i_rng1 T.b_range (a_one (e_var 2))) (g_nm 3 c0.nd) (b_cons (s_setF 6 c0 e_str)
    (b_cons (s_for (.nm 7) c (i_rng1 T.b_range (a_one (e_ix (e_lst (a_cons e_int (a_cons e_int (a_cons e_int (a_cons e_int (a_one e_int)))))) (e_call h_law_pick c0 (a_cons (e_var 0) (a_cons (e_add (e_var 1) (e_mul e_int (e_var 3))) (a_one e_int))))))) (g_nm 7 c0.nd) (b_one (s_setF 6 c0 (e_add (e_var 6) (e_ix (e_var 4) (e_call h_law_pick c0 (a_cons (e_var 0) (a_cons (e_add (e_add (e_add (e_var 1) (e_mul e_int (e_var 3))) (e_var 7)) e_int) (a_one e_int)))))))))
    (b_cons (s_setF 8 c0 (e_ix (e_var 4) (e_mod (e_add (e_call h_law_pick c0 (a_cons (e_var 0) (a_cons (e_add (e_var 1) e_int) (a_one e_int)))) (e_var 3)) e_int)))
    (b_one (s_app 5 (e_if (t_eq c0 (e_call h_law_pick c0 (a_cons (e_var 0) (a_cons (e_add (e_var 1) e_int) (a_one e_int)))) e_int) (e_add (e_var 6) (e_var 8)) (e_add (e_var 8) (e_var 6)))))))))
    (b_one (s_retV 5))))
theorem sc_is_name : FnScope is_name_N ["thing"] (defScope s_is_name) := ⟨rfl, rfl, rfl, by decide +kernel, rfl, by decide +kernel, by decide +kernel⟩
theorem d_is_name (T : Txt K mg cm hC cc_law_are_refused cc_law_refusals cc_law)  : Df P w K mg base ⟨hC, TT⟩ cm "is_name" 1 is_name :=
  df_mk T.f_is_name sc_is_name fun f cdv A outer s H E e c => by
    have c0 := c.fe
    exact (b_one (s_ret (e_and (e_isiT "str" T.b_isinstance T.b_str (by decide +kernel) (e_var 0)) (e_and (e_chain c_le c_le e_int (e_len T.b_len (a_one (e_var 0))) (e_glob T.c_LONGEST_NAME)) (e_one (e_all c0 T.b_all (a_one (e_lc (own := [("sign", 1)]) (t := (.nm 1)) c0 (i_seq (e_var 0)) (by show blkC is_name_N (defScope s_is_name) _ _ = true; decide +kernel) (by exact fun s H C cl fp => (g_nm 1 c0.nd)) (by exact fun s H C cl fp => pts_no) (by exact fun s H C cl fp => (e_in (c0.blk s H _ _ fp) (e_var 1) (e_glob T.c_LETTERS)))))))))))
theorem w_is_name (T : Txt K mg cm hC cc_law_are_refused cc_law_refusals cc_law)  : DfH P w K mg base ⟨hC, TT⟩ cm "is_name" 1 is_name :=
  dfH_mk T.f_is_name sc_is_name fun f cdv A outer s H E p e c => by
    have c0 := c.toFeH
    exact (b_one (s_ret (e_and (e_isiT "str" T.b_isinstance T.b_str (by decide +kernel) (e_var 0)) (e_and (e_chain c_le c_le e_int (e_len T.b_len (a_one (e_var 0))) (e_glob T.c_LONGEST_NAME)) (e_one (e_allH c0 T.b_all (a_one (e_lcH (own := [("sign", 1)]) (t := (.nm 1)) c0 (i_seqH (e_var 0)) (by show blkC is_name_N (defScope s_is_name) _ _ = true; decide +kernel) (by exact fun s H C cl fp => (g_nm 1 c0.nd)) (by exact fun s H C cl fp => pts_no) (by exact fun s H C cl fp => (e_inH c0.u (e_var 1) (e_glob T.c_LETTERS)))))))))))
theorem sc_House_look_station : FnScope House_look_station_N ["self", "name"] (defScope s_House_look_station) := ⟨rfl, rfl, rfl, by decide +kernel, rfl, by decide +kernel, by decide +kernel⟩
theorem d_House_look_station (T : Txt K mg cm hC cc_law_are_refused cc_law_refusals cc_law) (hcl : Hcl P w K mg base ⟨hC, TT⟩) (h_is_name : Df P w K mg base ⟨hC, TT⟩ cm "is_name" 1 is_name) : Mt P w K mg base ⟨hC, TT⟩ cm "look_station" 2 House_look_station sh_look_station :=
  mt_mk T.cl T.f_House_look_station sc_House_look_station fun f cdv A outer s H E e c => by
    have c0 := c.fe
    exact (b_one (s_if (t_w (w_or (t_not (t_val (e_call h_is_name c0 (a_one (e_var 1))))) (w_or1 (t_ninD c0 (e_var 1) (e_fld hcl (e_var 0)))))) (b_one (s_raise c0 T.er T.r_NoStation)) b_nil))
theorem w_House_look_station (T : Txt K mg cm hC cc_law_are_refused cc_law_refusals cc_law) (hcl : Hcl P w K mg base ⟨hC, TT⟩) (g_is_name : DfH P w K mg base ⟨hC, TT⟩ cm "is_name" 1 is_name) : MtH P w K mg base ⟨hC, TT⟩ cm "look_station" 2 House_look_station sh_look_station :=
  mtH_mk T.cl T.f_House_look_station sc_House_look_station fun f cdv A outer s H E p e c => by
    have c0 := c.toFeH
    exact (b_one (s_if (t_w (w_or (t_not (t_val (e_callH g_is_name c0 (a_one (e_var 1))))) (w_or1 (t_ninDH c0.u (e_var 1) (e_fld hcl (e_var 0)))))) (b_one (s_raiseH c0 T.r_NoStation)) b_nil))
theorem sc_is_number : FnScope is_number_N ["thing", "least", "most"] (defScope s_is_number) := ⟨rfl, rfl, rfl, by decide +kernel, rfl, by decide +kernel, by decide +kernel⟩
theorem d_is_number (T : Txt K mg cm hC cc_law_are_refused cc_law_refusals cc_law)  : Df P w K mg base ⟨hC, TT⟩ cm "is_number" 1 is_number :=
  df_mk T.f_is_number sc_is_number fun f cdv A outer s H E e c => by
    have c0 := c.fe
    exact (b_one (s_ret (e_and (e_isiT "int" T.b_isinstance T.b_int (by decide +kernel) (e_var 0)) (e_and (e_not (e_isiT "bool" T.b_isinstance T.b_bool (by decide +kernel) (e_var 0))) (e_one (e_chain c_le c_le (e_var 1) (e_var 0) (e_var 2)))))))
theorem w_is_number (T : Txt K mg cm hC cc_law_are_refused cc_law_refusals cc_law)  : DfH P w K mg base ⟨hC, TT⟩ cm "is_number" 1 is_number :=
  dfH_mk T.f_is_number sc_is_number fun f cdv A outer s H E p e c => by
    have c0 := c.toFeH
    exact (b_one (s_ret (e_and (e_isiT "int" T.b_isinstance T.b_int (by decide +kernel) (e_var 0)) (e_and (e_not (e_isiT "bool" T.b_isinstance T.b_bool (by decide +kernel) (e_var 0))) (e_one (e_chain c_le c_le (e_var 1) (e_var 0) (e_var 2)))))))
theorem sc_look_span : FnScope look_span_N ["begin", "end", "least", "most"] (defScope s_look_span) := ⟨rfl, rfl, rfl, by decide +kernel, rfl, by decide +kernel, by decide +kernel⟩
theorem d_look_span (T : Txt K mg cm hC cc_law_are_refused cc_law_refusals cc_law) (h_is_number : Df P w K mg base ⟨hC, TT⟩ cm "is_number" 1 is_number) : Df P w K mg base ⟨hC, TT⟩ cm "look_span" 2 look_span :=
  df_mk T.f_look_span sc_look_span fun f cdv A outer s H E e c => by
    have c0 := c.fe
    exact (b_one (s_if (t_w (w_or (t_not (t_val (e_call h_is_number c0 (a_cons (e_var 0) (a_cons (e_var 2) (a_one (e_var 3))))))) (w_or (t_not (t_val (e_call h_is_number c0 (a_cons (e_var 1) (a_cons (e_var 2) (a_one (e_var 3))))))) (w_or1 (t_ge (e_var 0) (e_var 1)))))) (b_one (s_raise c0 T.er T.r_NoHour)) b_nil))
theorem sc_House_open_station : FnScope House_open_station_N ["self", "name", "upper", "opening", "closing", "manner"] (defScope s_House_open_station) := ⟨rfl, rfl, rfl, by decide +kernel, rfl, by decide +kernel, by decide +kernel⟩
theorem d_House_open_station (T : Txt K mg cm hC cc_law_are_refused cc_law_refusals cc_law) (hcl : Hcl P w K mg base ⟨hC, TT⟩) (h_is_name : Df P w K mg base ⟨hC, TT⟩ cm "is_name" 1 is_name) (h_House_look_station : Mt P w K mg base ⟨hC, TT⟩ cm "look_station" 2 House_look_station sh_look_station) (h_look_span : Df P w K mg base ⟨hC, TT⟩ cm "look_span" 2 look_span) : Mt P w K mg base ⟨hC, TT⟩ cm "open_station" 3 House_open_station sh_open_station :=
  mt_mk T.cl T.f_House_open_station sc_House_open_station fun f cdv A outer s H E e c => by
    have c0 := c.fe
    exact (b_cons (s_if (t_not (t_val (e_call h_is_name c0 (a_one (e_var 1))))) (b_one (s_raise c0 T.er T.r_NoName)) b_nil)
    (b_cons (s_if (t_inD c0 (e_var 1) (e_fld hcl (e_var 0))) (b_one (s_raise c0 T.er T.r_Taken)) b_nil)
    (b_cons (s_if (t_notN (e_var 2)) (b_one (s_expr (e_mt sh_look_station_0 h_House_look_station (.head _) c0 (e_var 0) (a_one (e_var 2)) k_nil))) b_nil)
    (b_cons (s_expr (e_call h_look_span c0 (a_cons (e_var 3) (a_cons (e_var 4) (a_cons e_int (a_one (e_glob T.c_HOURS)))))))
    (b_cons (s_if (t_w (w_or (t_not (t_val (e_isiT "str" T.b_isinstance T.b_str (by decide +kernel) (e_var 5)))) (w_or1 (t_nin c0 (e_var 5) (e_glob T.c_RULES))))) (b_one (s_raise c0 T.er T.r_NoRule)) b_nil)
    (b_cons (s_if (t_eq c0 (e_len T.b_len (a_one (e_fld hcl (e_var 0)))) (e_glob T.c_MOST_STATIONS)) (b_one (s_raise c0 T.er T.r_Full)) b_nil)
    (b_cons (s_fapp hcl (e_var 0) (e_var 1))
    (b_cons (s_fputK hcl c0 (e_var 0) (e_var 1) (e_tup (a_cons (e_var 2) (a_cons (e_var 3) (a_cons (e_var 4) (a_one (e_var 5)))))))
    (b_cons (s_fapp hcl (e_var 0) (e_tup (a_cons e_str (a_cons (e_var 1) (a_cons (e_var 2) (a_cons (e_var 3) (a_cons (e_var 4) (a_one (e_var 5)))))))))
    (b_one (s_ret (e_len T.b_len (a_one (e_fld hcl (e_var 0)))))))))))))))
theorem sc_is_sort : FnScope is_sort_N ["thing"] (defScope s_is_sort) := ⟨rfl, rfl, rfl, by decide +kernel, rfl, by decide +kernel, by decide +kernel⟩
theorem d_is_sort (T : Txt K mg cm hC cc_law_are_refused cc_law_refusals cc_law)  : Df P w K mg base ⟨hC, TT⟩ cm "is_sort" 1 is_sort :=
  df_mk T.f_is_sort sc_is_sort fun f cdv A outer s H E e c => by
    have c0 := c.fe
    exact (b_one (s_ret (e_and (e_isiT "str" T.b_isinstance T.b_str (by decide +kernel) (e_var 0)) (e_one (e_in c0 (e_var 0) (e_glob T.c_SORTS))))))
theorem sc_is_show : FnScope is_show_N ["thing"] (defScope s_is_show) := ⟨rfl, rfl, rfl, by decide +kernel, rfl, by decide +kernel, by decide +kernel⟩
theorem d_is_show (T : Txt K mg cm hC cc_law_are_refused cc_law_refusals cc_law) (h_is_name : Df P w K mg base ⟨hC, TT⟩ cm "is_name" 1 is_name) (h_is_sort : Df P w K mg base ⟨hC, TT⟩ cm "is_sort" 1 is_sort) (h_is_number : Df P w K mg base ⟨hC, TT⟩ cm "is_number" 1 is_number) : Df P w K mg base ⟨hC, TT⟩ cm "is_show" 2 is_show :=
  df_mk T.f_is_show sc_is_show fun f cdv A outer s H E e c => by
    have c0 := c.fe
    exact (b_cons (s_if (t_w (w_or (t_not (t_val (e_isiT "tuple" T.b_isinstance T.b_tuple (by decide +kernel) (e_var 0)))) (w_or1 (t_ne c0 (e_len T.b_len (a_one (e_var 0))) e_int)))) (b_one (s_ret e_bl)) b_nil)
    (b_cons (s_setT [1, 2, 3, 4, 5] c0 (e_var 0) (gs_cons 1 c0.nd (gs_cons 2 c0.nd (gs_cons 3 c0.nd (gs_cons 4 c0.nd (gs_cons 5 c0.nd gs_nil))))))
    (b_cons (s_if (t_w (w_or (t_not (t_val (e_call h_is_name c0 (a_one (e_var 1))))) (w_or (t_not (t_val (e_call h_is_sort c0 (a_one (e_var 2))))) (w_or1 (t_not (t_val (e_call h_is_number c0 (a_cons (e_var 3) (a_cons e_int (a_one (e_glob T.c_LONGEST))))))))))) (b_one (s_ret e_bl)) b_nil)
    (b_one (s_ret (e_and (e_isiT "bool" T.b_isinstance T.b_bool (by decide +kernel) (e_var 4)) (e_one (e_call h_is_number c0 (a_cons (e_var 5) (a_cons e_int (a_one (e_glob T.c_MOST_TIMES))))))))))))
theorem sc_House_add_show : FnScope House_add_show_N ["self", "show"] (defScope s_House_add_show) := ⟨rfl, rfl, rfl, by decide +kernel, rfl, by decide +kernel, by decide +kernel⟩
theorem d_House_add_show (T : Txt K mg cm hC cc_law_are_refused cc_law_refusals cc_law) (hcl : Hcl P w K mg base ⟨hC, TT⟩) (h_is_show : Df P w K mg base ⟨hC, TT⟩ cm "is_show" 2 is_show) : Mt P w K mg base ⟨hC, TT⟩ cm "add_show" 3 House_add_show sh_add_show :=
  mt_mk T.cl T.f_House_add_show sc_House_add_show fun f cdv A outer s H E e c => by
    have c0 := c.fe
    exact (b_cons (s_if (t_not (t_val (e_call h_is_show c0 (a_one (e_var 1))))) (b_one (s_raise c0 T.er T.r_NoShow)) b_nil)
    (b_cons (s_if (t_inD c0 (e_ix (e_var 1) e_int) (e_fld hcl (e_var 0))) (b_one (s_raise c0 T.er T.r_Taken)) b_nil)
    (b_cons (s_fputK hcl c0 (e_var 0) (e_ix (e_var 1) e_int) (e_var 1))
    (b_cons (s_fapp hcl (e_var 0) (e_add (e_tup (a_one e_str)) (e_var 1)))
    (b_one (s_ret (e_lenD T.b_len (a_one (e_fld hcl (e_var 0))))))))))
theorem sc_House_now : FnScope House_now_N ["self"] (defScope s_House_now) := ⟨rfl, rfl, rfl, by decide +kernel, rfl, by decide +kernel, by decide +kernel⟩
theorem d_House_now (T : Txt K mg cm hC cc_law_are_refused cc_law_refusals cc_law) (hcl : Hcl P w K mg base ⟨hC, TT⟩)  : Mt P w K mg base ⟨hC, TT⟩ cm "now" 1 House_now sh_now :=
  mt_mk T.cl T.f_House_now sc_House_now fun f cdv A outer s H E e c => by
    have c0 := c.fe
    exact (b_one (s_ret (e_divmod T.b_divmod (a_cons (e_fld hcl (e_var 0)) (a_one (e_glob T.c_HOURS))))))
theorem sc_House_tick : FnScope House_tick_N ["self", "elapsed"] (defScope s_House_tick) := ⟨rfl, rfl, rfl, by decide +kernel, rfl, by decide +kernel, by decide +kernel⟩
theorem d_House_tick (T : Txt K mg cm hC cc_law_are_refused cc_law_refusals cc_law) (hcl : Hcl P w K mg base ⟨hC, TT⟩) (h_is_number : Df P w K mg base ⟨hC, TT⟩ cm "is_number" 1 is_number) (h_House_now : Mt P w K mg base ⟨hC, TT⟩ cm "now" 1 House_now sh_now) : Mt P w K mg base ⟨hC, TT⟩ cm "tick" 2 House_tick sh_tick :=
  mt_mk T.cl T.f_House_tick sc_House_tick fun f cdv A outer s H E e c => by
    have c0 := c.fe
    exact (b_cons (s_if (t_not (t_val (e_call h_is_number c0 (a_cons (e_var 1) (a_cons e_int (a_one (e_glob T.c_HOURS))))))) (b_one (s_raise c0 T.er T.r_NoMore)) b_nil)
    (b_cons (s_if (t_ge (e_add (e_fld hcl (e_var 0)) (e_var 1)) (e_mul (e_glob T.c_DAYS) (e_glob T.c_HOURS))) (b_one (s_raise c0 T.er T.r_NoDay)) b_nil)
    (b_cons (s_fst hcl (e_var 0) (e_add (e_fld hcl (e_var 0)) (e_var 1)))
    (b_cons (s_fapp hcl (e_var 0) (e_tup (a_cons e_str (a_one (e_var 1)))))
    (b_one (s_ret (e_mt0 sh_now_0 h_House_now (.head _) c0 (e_var 0) k_nil)))))))
theorem sc_House_station : FnScope House_station_N ["self", "name"] (defScope s_House_station) := ⟨rfl, rfl, rfl, by decide +kernel, rfl, by decide +kernel, by decide +kernel⟩
theorem d_House_station (T : Txt K mg cm hC cc_law_are_refused cc_law_refusals cc_law) (hcl : Hcl P w K mg base ⟨hC, TT⟩) (h_House_look_station : Mt P w K mg base ⟨hC, TT⟩ cm "look_station" 2 House_look_station sh_look_station) : Mt P w K mg base ⟨hC, TT⟩ cm "station" 3 House_station sh_station :=
  mt_mk T.cl T.f_House_station sc_House_station fun f cdv A outer s H E e c => by
    have c0 := c.fe
    exact (b_cons (s_expr (e_mt sh_look_station_0 h_House_look_station (.head _) c0 (e_var 0) (a_one (e_var 1)) k_nil))
    (b_one (s_ret (e_ixD c0 (e_fld hcl (e_var 0)) (e_var 1)))))
theorem sc_House_show : FnScope House_show_N ["self", "name"] (defScope s_House_show) := ⟨rfl, rfl, rfl, by decide +kernel, rfl, by decide +kernel, by decide +kernel⟩
theorem d_House_show (T : Txt K mg cm hC cc_law_are_refused cc_law_refusals cc_law) (hcl : Hcl P w K mg base ⟨hC, TT⟩) (h_is_name : Df P w K mg base ⟨hC, TT⟩ cm "is_name" 1 is_name) : Mt P w K mg base ⟨hC, TT⟩ cm "show" 2 House_show sh_show :=
  mt_mk T.cl T.f_House_show sc_House_show fun f cdv A outer s H E e c => by
    have c0 := c.fe
    exact (b_cons (s_if (t_not (t_val (e_call h_is_name c0 (a_one (e_var 1))))) (b_one (s_raise c0 T.er T.r_NoShow)) b_nil)
    (b_one (s_try0 (by have c := c.nox; have c0 := c.fe; exact (b_one (s_ret (e_ixD c0 (e_fld hcl (e_var 0)) (e_var 1))))))))
theorem sc_is_day : FnScope is_day_N ["thing"] (defScope s_is_day) := ⟨rfl, rfl, rfl, by decide +kernel, rfl, by decide +kernel, by decide +kernel⟩
theorem d_is_day (T : Txt K mg cm hC cc_law_are_refused cc_law_refusals cc_law) (h_is_number : Df P w K mg base ⟨hC, TT⟩ cm "is_number" 1 is_number) : Df P w K mg base ⟨hC, TT⟩ cm "is_day" 2 is_day :=
  df_mk T.f_is_day sc_is_day fun f cdv A outer s H E e c => by
    have c0 := c.fe
    exact (b_one (s_ret (e_call h_is_number c0 (a_cons (e_var 0) (a_cons e_int (a_one (e_sub (e_glob T.c_DAYS) e_int)))))))
theorem w_is_day (T : Txt K mg cm hC cc_law_are_refused cc_law_refusals cc_law) (g_is_number : DfH P w K mg base ⟨hC, TT⟩ cm "is_number" 1 is_number) : DfH P w K mg base ⟨hC, TT⟩ cm "is_day" 2 is_day :=
  dfH_mk T.f_is_day sc_is_day fun f cdv A outer s H E p e c => by
    have c0 := c.toFeH
    exact (b_one (s_ret (e_callH g_is_number c0 (a_cons (e_var 0) (a_cons e_int (a_one (e_sub (e_glob T.c_DAYS) e_int)))))))
theorem sc_look_day : FnScope look_day_N ["day"] (defScope s_look_day) := ⟨rfl, rfl, rfl, by decide +kernel, rfl, by decide +kernel, by decide +kernel⟩
theorem d_look_day (T : Txt K mg cm hC cc_law_are_refused cc_law_refusals cc_law) (h_is_day : Df P w K mg base ⟨hC, TT⟩ cm "is_day" 2 is_day) : Df P w K mg base ⟨hC, TT⟩ cm "look_day" 3 look_day :=
  df_mk T.f_look_day sc_look_day fun f cdv A outer s H E e c => by
    have c0 := c.fe
    exact (b_one (s_if (t_not (t_val (e_call h_is_day c0 (a_one (e_var 0))))) (b_one (s_raise c0 T.er T.r_NoDay)) b_nil))
theorem w_look_day (T : Txt K mg cm hC cc_law_are_refused cc_law_refusals cc_law) (g_is_day : DfH P w K mg base ⟨hC, TT⟩ cm "is_day" 2 is_day) : DfH P w K mg base ⟨hC, TT⟩ cm "look_day" 3 look_day :=
  dfH_mk T.f_look_day sc_look_day fun f cdv A outer s H E p e c => by
    have c0 := c.toFeH
    exact (b_one (s_if (t_not (t_val (e_callH g_is_day c0 (a_one (e_var 0))))) (b_one (s_raiseH c0 T.r_NoDay)) b_nil))
theorem sc_House_look_since : FnScope House_look_since_N ["self", "station", "weekday", "since"] (defScope s_House_look_since) := ⟨rfl, rfl, rfl, by decide +kernel, rfl, by decide +kernel, by decide +kernel⟩
theorem d_House_look_since (T : Txt K mg cm hC cc_law_are_refused cc_law_refusals cc_law) (hcl : Hcl P w K mg base ⟨hC, TT⟩)  : Mt P w K mg base ⟨hC, TT⟩ cm "look_since" 1 House_look_since sh_look_since :=
  mt_mk T.cl T.f_House_look_since sc_House_look_since fun f cdv A outer s H E e c => by
    have c0 := c.fe
    exact (b_cons (s_if (t_lt (e_mul (e_var 3) (e_glob T.c_HOURS)) (e_fld hcl (e_var 0))) (b_one (s_raise c0 T.er T.r_TooLate)) b_nil)
    (b_one (s_if (t_val (e_any c0 T.b_any (a_one (e_lcD (own := [("at", 4)]) (t := (.nm 4)) c0 (x_fld 0 hcl) (by show blkC House_look_since_N (defScope s_House_look_since) _ _ = true; decide +kernel) (by exact fun s H C cl fp => (g_nm 4 c0.nd)) (by exact fun s H C cl fp => pts_no) (by exact fun s H C cl fp => (e_and (e_eq (c0.blk s H _ _ fp) (e_ix (e_var 4) e_int) (e_var 1)) (e_and (e_ge (e_ix (e_var 4) e_int) (e_var 3)) (e_one (e_eq (c0.blk s H _ _ fp) (e_mod (e_ix (e_var 4) e_int) (e_glob T.c_WEEK)) (e_var 2)))))))))) (b_one (s_raise c0 T.er T.r_Settled)) b_nil)))
theorem sc_House_put_week : FnScope House_put_week_N ["self", "station", "weekday", "hour", "name", "starting"] (defScope s_House_put_week) := ⟨rfl, rfl, rfl, by decide +kernel, rfl, by decide +kernel, by decide +kernel⟩
theorem d_House_put_week (T : Txt K mg cm hC cc_law_are_refused cc_law_refusals cc_law) (hcl : Hcl P w K mg base ⟨hC, TT⟩) (o_NoRights : Ocl P w K mg base cm "NoRights" ["most"] osh_NoRights) (h_House_station : Mt P w K mg base ⟨hC, TT⟩ cm "station" 3 House_station sh_station) (h_is_number : Df P w K mg base ⟨hC, TT⟩ cm "is_number" 1 is_number) (h_House_show : Mt P w K mg base ⟨hC, TT⟩ cm "show" 2 House_show sh_show) (h_look_day : Df P w K mg base ⟨hC, TT⟩ cm "look_day" 3 look_day) (h_House_look_since : Mt P w K mg base ⟨hC, TT⟩ cm "look_since" 1 House_look_since sh_look_since) : Mt P w K mg base ⟨hC, TT⟩ cm "put_week" 4 House_put_week sh_put_week :=
  mt_mk T.cl T.f_House_put_week sc_House_put_week fun f cdv A outer s H E e c => by
    have c0 := c.fe
    exact (b_cons (s_setT [7, 8] c0 (e_sl (e_mt sh_station_0 h_House_station (.head _) c0 (e_var 0) (a_one (e_var 1)) k_nil) (o_some e_int) (o_some e_int)) (gs_cons 7 c0.nd (gs_cons 8 c0.nd gs_nil)))
    (b_cons (s_if (t_not (t_val (e_call h_is_number c0 (a_cons (e_var 2) (a_cons e_int (a_one (e_sub (e_glob T.c_WEEK) e_int))))))) (b_one (s_raise c0 T.er T.r_NoDay)) b_nil)
    (b_cons (s_setF 6 c0 (e_mt sh_show_0 h_House_show (.head _) c0 (e_var 0) (a_one (e_var 4)) k_nil))
    (b_cons (s_expr (e_call h_look_day c0 (a_one (e_var 5))))
    (b_cons (s_if (t_not (t_val (e_call h_is_number c0 (a_cons (e_var 3) (a_cons (e_var 7) (a_one (e_sub (e_var 8) (e_ix (e_var 6) e_int)))))))) (b_one (s_raise c0 T.er T.r_NoHour)) b_nil)
    (b_cons (s_if (t_gt (e_ix (e_var 6) e_int) e_int) (b_one (s_raiseF (1, []) c0 o_NoRights (.head _) (a_one (e_ix (e_var 6) e_int)) k_nil)) b_nil)
    (b_cons (s_expr (e_mt sh_look_since_0 h_House_look_since (.head _) c0 (e_var 0) (a_cons (e_var 1) (a_cons (e_var 2) (a_one (e_var 5)))) k_nil))
    (b_cons (s_fapp hcl (e_var 0) (e_tup (a_cons (e_var 1) (a_cons (e_var 2) (a_cons (e_var 5) (a_cons (e_var 3) (a_cons (e_add (e_var 3) (e_ix (e_var 6) e_int)) (a_one (e_var 4)))))))))
    (b_one (s_fapp hcl (e_var 0) (e_tup (a_cons e_str (a_cons (e_var 1) (a_cons (e_var 2) (a_cons (e_var 3) (a_cons (e_var 4) (a_one (e_var 5))))))))))))))))))
theorem sc_House_clear_week : FnScope House_clear_week_N ["self", "station", "weekday", "opening", "closing", "starting"] (defScope s_House_clear_week) := ⟨rfl, rfl, rfl, by decide +kernel, rfl, by decide +kernel, by decide +kernel⟩
theorem d_House_clear_week (T : Txt K mg cm hC cc_law_are_refused cc_law_refusals cc_law) (hcl : Hcl P w K mg base ⟨hC, TT⟩) (h_House_look_station : Mt P w K mg base ⟨hC, TT⟩ cm "look_station" 2 House_look_station sh_look_station) (h_is_number : Df P w K mg base ⟨hC, TT⟩ cm "is_number" 1 is_number) (h_look_day : Df P w K mg base ⟨hC, TT⟩ cm "look_day" 3 look_day) (h_look_span : Df P w K mg base ⟨hC, TT⟩ cm "look_span" 2 look_span) (h_House_look_since : Mt P w K mg base ⟨hC, TT⟩ cm "look_since" 1 House_look_since sh_look_since) : Mt P w K mg base ⟨hC, TT⟩ cm "clear_week" 4 House_clear_week sh_clear_week :=
  mt_mk T.cl T.f_House_clear_week sc_House_clear_week fun f cdv A outer s H E e c => by
    have c0 := c.fe
    exact (b_cons (s_expr (e_mt sh_look_station_0 h_House_look_station (.head _) c0 (e_var 0) (a_one (e_var 1)) k_nil))
    (b_cons (s_if (t_not (t_val (e_call h_is_number c0 (a_cons (e_var 2) (a_cons e_int (a_one (e_sub (e_glob T.c_WEEK) e_int))))))) (b_one (s_raise c0 T.er T.r_NoDay)) b_nil)
    (b_cons (s_expr (e_call h_look_day c0 (a_one (e_var 5))))
    (b_cons (s_expr (e_call h_look_span c0 (a_cons (e_var 3) (a_cons (e_var 4) (a_cons e_int (a_one (e_glob T.c_HOURS)))))))
    (b_cons (s_expr (e_mt sh_look_since_0 h_House_look_since (.head _) c0 (e_var 0) (a_cons (e_var 1) (a_cons (e_var 2) (a_one (e_var 5)))) k_nil))
    (b_cons (s_fapp hcl (e_var 0) (e_tup (a_cons (e_var 1) (a_cons (e_var 2) (a_cons (e_var 5) (a_cons (e_var 3) (a_cons (e_var 4) (a_one e_non))))))))
    (b_one (s_fapp hcl (e_var 0) (e_tup (a_cons e_str (a_cons (e_var 1) (a_cons (e_var 2) (a_cons (e_var 3) (a_cons (e_var 4) (a_one (e_var 5))))))))))))))))
theorem sc_laid : FnScope laid_N ["rows", "begin", "end"] (defScope s_laid) := ⟨rfl, rfl, rfl, by decide +kernel, rfl, by decide +kernel, by decide +kernel⟩
theorem d_laid (T : Txt K mg cm hC cc_law_are_refused cc_law_refusals cc_law)  : Df P w K mg base ⟨hC, TT⟩ cm "laid" 1 laid :=
  df_mk T.f_laid sc_laid fun f cdv A outer s H E e c => by
    have c0 := c.fe
    exact (b_cons (s_set 3 c0 (e_lst a_nil))
    (b_cons (s_for (.nm 4) c (i_seq (e_var 0)) (g_nm 4 c0.nd) (b_one (s_if (t_w (w_or (t_le (e_ix (e_var 4) e_int) (e_var 1)) (w_or1 (t_ge (e_ix (e_var 4) e_int) (e_var 2))))) (b_one (s_app 3 (e_var 4))) (b_one (s_if (t_lt (e_ix (e_var 4) e_int) (e_var 1)) (b_one (s_app 3 (e_tup (a_cons (e_ix (e_var 4) e_int) (a_cons (e_var 1) (a_one (e_ix (e_var 4) e_int))))))) b_nil)))))
    (b_one (s_retV 3))))
theorem sc_laid_with : FnScope laid_with_N ["rows", "begin", "end", "name"] (defScope s_laid_with) := ⟨rfl, rfl, rfl, by decide +kernel, rfl, by decide +kernel, by decide +kernel⟩
theorem d_laid_with (T : Txt K mg cm hC cc_law_are_refused cc_law_refusals cc_law) (h_laid : Df P w K mg base ⟨hC, TT⟩ cm "laid" 1 laid) : Df P w K mg base ⟨hC, TT⟩ cm "laid_with" 2 laid_with :=
  df_mk T.f_laid_with sc_laid_with fun f cdv A outer s H E e c => by
    have c0 := c.fe
    exact (b_one (s_ret (e_sorted c0 T.b_sorted (a_one (e_add (e_call h_laid c0 (a_cons (e_var 0) (a_cons (e_var 1) (a_one (e_var 2))))) (e_lst (a_one (e_tup (a_cons (e_var 1) (a_cons (e_var 2) (a_one (e_var 3))))))))))))
theorem sc_House_rows_by_week : FnScope House_rows_by_week_N ["self", "station", "day", "weekday"] (defScope s_House_rows_by_week) := ⟨rfl, rfl, rfl, by decide +kernel, rfl, by decide +kernel, by decide +kernel⟩
theorem d_House_rows_by_week (T : Txt K mg cm hC cc_law_are_refused cc_law_refusals cc_law) (hcl : Hcl P w K mg base ⟨hC, TT⟩) (h_laid : Df P w K mg base ⟨hC, TT⟩ cm "laid" 1 laid) (h_laid_with : Df P w K mg base ⟨hC, TT⟩ cm "laid_with" 2 laid_with) : Mt P w K mg base ⟨hC, TT⟩ cm "rows_by_week" 3 House_rows_by_week sh_rows_by_week :=
  mt_mk T.cl T.f_House_rows_by_week sc_House_rows_by_week fun f cdv A outer s H E e c => by
    have c0 := c.fe
    exact (b_cons (s_setF 4 c0 (e_lst a_nil))
    (b_cons (s_forF (.tp [5, 6, 7, 8, 9, 10]) hcl c (e_var 0) (g_tp c0.calm (gs_cons 5 c0.nd (gs_cons 6 c0.nd (gs_cons 7 c0.nd (gs_cons 8 c0.nd (gs_cons 9 c0.nd (gs_cons 10 c0.nd gs_nil))))))) (b_one (s_if (t_w (w_and (t_eq c0 (e_var 5) (e_var 1)) (w_and (t_eq c0 (e_var 6) (e_var 3)) (w_and1 (t_le (e_var 7) (e_var 2)))))) (b_one (s_setF 4 c0 (e_if (t_isN (e_var 10)) (e_call h_laid c0 (a_cons (e_var 4) (a_cons (e_var 8) (a_one (e_var 9))))) (e_call h_laid_with c0 (a_cons (e_var 4) (a_cons (e_var 8) (a_cons (e_var 9) (a_one (e_var 10))))))))) b_nil)))
    (b_one (s_retV 4))))
theorem w_House_rows_by_week (T : Txt K mg cm hC cc_law_are_refused cc_law_refusals cc_law) (hcl : Hcl P w K mg base ⟨hC, TT⟩)  : MtH P w K mg base ⟨hC, TT⟩ cm "rows_by_week" 3 House_rows_by_week_h sh_rows_by_week :=
  mtH_mk T.cl T.f_House_rows_by_week sc_House_rows_by_week fun f cdv A outer s H E p e c => by
    have c0 := c.toFeH
    exact (b_cons (s_setFH 4 c0 (e_lst a_nil))
    (b_cons (s_forFH (.tp [5, 6, 7, 8, 9, 10]) hcl c (e_var 0) (g_tpH c0 (gs_cons 5 c0.nd (gs_cons 6 c0.nd (gs_cons 7 c0.nd (gs_cons 8 c0.nd (gs_cons 9 c0.nd (gs_cons 10 c0.nd gs_nil))))))) (b_one (s_if (t_w (w_and (t_eqH c0.u (e_var 5) (e_var 1)) (w_and (t_eqH c0.u (e_var 6) (e_var 3)) (w_and1 (t_le (e_var 7) (e_var 2)))))) (b_one s_never) b_nil)))
    (b_one (s_retV 4))))
theorem sc_House_week_rows : FnScope House_week_rows_N ["self", "station", "day"] (defScope s_House_week_rows) := ⟨rfl, rfl, rfl, by decide +kernel, rfl, by decide +kernel, by decide +kernel⟩
theorem d_House_week_rows (T : Txt K mg cm hC cc_law_are_refused cc_law_refusals cc_law) (h_House_look_station : Mt P w K mg base ⟨hC, TT⟩ cm "look_station" 2 House_look_station sh_look_station) (h_look_day : Df P w K mg base ⟨hC, TT⟩ cm "look_day" 3 look_day) (h_House_rows_by_week : Mt P w K mg base ⟨hC, TT⟩ cm "rows_by_week" 3 House_rows_by_week sh_rows_by_week) : Mt P w K mg base ⟨hC, TT⟩ cm "week_rows" 4 House_week_rows sh_week_rows :=
  mt_mk T.cl T.f_House_week_rows sc_House_week_rows fun f cdv A outer s H E e c => by
    have c0 := c.fe
    exact (b_cons (s_expr (e_mt sh_look_station_0 h_House_look_station (.head _) c0 (e_var 0) (a_one (e_var 1)) k_nil))
    (b_cons (s_expr (e_call h_look_day c0 (a_one (e_var 2))))
    (b_one (s_ret (e_mt sh_rows_by_week_0 h_House_rows_by_week (.head _) c0 (e_var 0) (a_cons (e_var 1) (a_cons (e_var 2) (a_one (e_mod (e_var 2) (e_glob T.c_WEEK))))) k_nil)))))
theorem w_House_week_rows (T : Txt K mg cm hC cc_law_are_refused cc_law_refusals cc_law) (g_House_look_station : MtH P w K mg base ⟨hC, TT⟩ cm "look_station" 2 House_look_station sh_look_station) (g_look_day : DfH P w K mg base ⟨hC, TT⟩ cm "look_day" 3 look_day) (g_House_rows_by_week : MtH P w K mg base ⟨hC, TT⟩ cm "rows_by_week" 3 House_rows_by_week_h sh_rows_by_week) : MtH P w K mg base ⟨hC, TT⟩ cm "week_rows" 4 House_week_rows_h sh_week_rows :=
  mtH_mk T.cl T.f_House_week_rows sc_House_week_rows fun f cdv A outer s H E p e c => by
    have c0 := c.toFeH
    exact (b_cons (s_expr (e_mtH sh_look_station_0 g_House_look_station (.head _) c0 (e_var 0) (a_one (e_var 1)) k_nil))
    (b_cons (s_expr (e_callH g_look_day c0 (a_one (e_var 2))))
    (b_one (s_ret (e_mtH sh_rows_by_week_0 g_House_rows_by_week (.head _) c0 (e_var 0) (a_cons (e_var 1) (a_cons (e_var 2) (a_one (e_mod (e_var 2) (e_glob T.c_WEEK))))) k_nil)))))
theorem sc_House_own_rows : FnScope House_own_rows_N ["self", "station", "day"] (defScope s_House_own_rows) := ⟨rfl, rfl, rfl, by decide +kernel, rfl, by decide +kernel, by decide +kernel⟩
theorem d_House_own_rows (T : Txt K mg cm hC cc_law_are_refused cc_law_refusals cc_law) (hcl : Hcl P w K mg base ⟨hC, TT⟩) (h_House_week_rows : Mt P w K mg base ⟨hC, TT⟩ cm "week_rows" 4 House_week_rows sh_week_rows) : Mt P w K mg base ⟨hC, TT⟩ cm "own_rows" 5 House_own_rows sh_own_rows :=
  mt_mk T.cl T.f_House_own_rows sc_House_own_rows fun f cdv A outer s H E e c => by
    have c0 := c.fe
    exact (b_cons (s_setF 3 c0 (e_mt sh_week_rows_0 h_House_week_rows (.head _) c0 (e_var 0) (a_cons (e_var 1) (a_one (e_var 2))) k_nil))
    (b_one (s_ret (e_if (t_inT c0 (a_cons (e_var 1) (a_one (e_var 2))) (e_fld hcl (e_var 0))) (e_clist T.b_list (a_one (e_ixT c0 (e_fld hcl (e_var 0)) (a_cons (e_var 1) (a_one (e_var 2)))))) (e_var 3)))))
theorem sc_law_are_refused : FnScope law_are_refused_N ["house", "one", "other", "things"] (defScope s_law_are_refused) := ⟨rfl, rfl, rfl, by decide +kernel, rfl, by decide +kernel, by decide +kernel⟩
theorem d_law_are_refused (T : Txt K mg cm hC cc_law_are_refused cc_law_refusals cc_law) (tld : Tld P w K mg base ⟨hC, TT⟩ cm) (mk_ : Mkt base mg ⟨hC, TT⟩ "_law_are_refused" cc_law_are_refused) (h_House_put_week : Mt P w K mg base ⟨hC, TT⟩ cm "put_week" 4 House_put_week sh_put_week) (h_House_clear_week : Mt P w K mg base ⟨hC, TT⟩ cm "clear_week" 4 House_clear_week sh_clear_week) (h_House_week_rows : Mt P w K mg base ⟨hC, TT⟩ cm "week_rows" 4 House_week_rows sh_week_rows) (h_House_own_rows : Mt P w K mg base ⟨hC, TT⟩ cm "own_rows" 5 House_own_rows sh_own_rows) : Df P w K mg base ⟨hC, TT⟩ cm "_law_are_refused" 8 law_are_refused :=
  df_mkL T.f_law_are_refused sc_law_are_refused mk_ fun f A outer s H E e c mk => by
    have c0 := c.fe
    exact (b_cons (s_for (.nm 4) c (i_seq (e_var 3)) (g_nm 4 c0.nd) (b_cons (s_set 5 c0 (e_lst (a_one (e_told tld mk c0 (by show LamX.lamSB (defScope s_law_are_refused) _ = true; decide +kernel) (by exact fun A outer s H E f c' cl t2 => (e_mt sh_put_week_0 h_House_put_week (.head _) cl (e_var 0) (a_cons (e_var 4) (a_cons (e_var 4) (a_cons e_int (a_cons (e_var 4) (a_one (e_var 4)))))) k_nil))))))
    (b_cons (s_app 5 (e_told tld mk c0 (by show LamX.lamSB (defScope s_law_are_refused) _ = true; decide +kernel) (by exact fun A outer s H E f c' cl t2 => (e_mt sh_clear_week_0 h_House_clear_week (.head _) cl (e_var 0) (a_cons (e_var 4) (a_cons (e_var 4) (a_cons e_int (a_cons e_int (a_one (e_var 4)))))) k_nil))))
    (b_cons (s_app 5 (e_told tld mk c0 (by show LamX.lamSB (defScope s_law_are_refused) _ = true; decide +kernel) (by exact fun A outer s H E f c' cl t2 => (e_mt sh_week_rows_0 h_House_week_rows (.head _) cl (e_var 0) (a_cons (e_var 4) (a_one (e_var 4))) k_nil))))
    (b_cons (s_app 5 (e_told tld mk c0 (by show LamX.lamSB (defScope s_law_are_refused) _ = true; decide +kernel) (by exact fun A outer s H E f c' cl t2 => (e_mt sh_own_rows_0 h_House_own_rows (.head _) cl (e_var 0) (a_cons (e_var 4) (a_one (e_var 4))) k_nil))))
    (b_cons (s_if (t_ne c0 (e_var 5) (e_mul (e_lst (a_one (e_tup (a_cons e_str (a_one e_str))))) e_int)) (b_one (s_ret e_bl)) b_nil)
    (b_cons (s_set 5 c0 (e_lst (a_one (e_told tld mk c0 (by show LamX.lamSB (defScope s_law_are_refused) _ = true; decide +kernel) (by exact fun A outer s H E f c' cl t2 => (e_mt sh_put_week_0 h_House_put_week (.head _) cl (e_var 0) (a_cons (e_var 1) (a_cons (e_var 4) (a_cons e_int (a_cons (e_var 4) (a_one (e_var 4)))))) k_nil))))))
    (b_cons (s_app 5 (e_told tld mk c0 (by show LamX.lamSB (defScope s_law_are_refused) _ = true; decide +kernel) (by exact fun A outer s H E f c' cl t2 => (e_mt sh_clear_week_0 h_House_clear_week (.head _) cl (e_var 0) (a_cons (e_var 1) (a_cons (e_var 4) (a_cons e_int (a_cons e_int (a_one (e_var 4)))))) k_nil))))
    (b_cons (s_app 5 (e_told tld mk c0 (by show LamX.lamSB (defScope s_law_are_refused) _ = true; decide +kernel) (by exact fun A outer s H E f c' cl t2 => (e_mt sh_clear_week_0 h_House_clear_week (.head _) cl (e_var 0) (a_cons (e_var 1) (a_cons e_int (a_cons e_int (a_cons e_int (a_one (e_var 4)))))) k_nil))))
    (b_cons (s_app 5 (e_told tld mk c0 (by show LamX.lamSB (defScope s_law_are_refused) _ = true; decide +kernel) (by exact fun A outer s H E f c' cl t2 => (e_mt sh_put_week_0 h_House_put_week (.head _) cl (e_var 0) (a_cons (e_var 1) (a_cons e_int (a_cons (e_var 4) (a_cons (e_var 1) (a_one (e_var 4)))))) k_nil))))
    (b_cons (s_app 5 (e_told tld mk c0 (by show LamX.lamSB (defScope s_law_are_refused) _ = true; decide +kernel) (by exact fun A outer s H E f c' cl t2 => (e_mt sh_week_rows_0 h_House_week_rows (.head _) cl (e_var 0) (a_cons (e_var 1) (a_one (e_var 4))) k_nil))))
    (b_cons (s_if (t_w (w_or (t_ne c0 (e_var 5) (e_mul (e_lst (a_one (e_tup (a_cons e_str (a_one e_str))))) e_int)) (w_or1 (t_ne c0 (e_told tld mk c0 (by show LamX.lamSB (defScope s_law_are_refused) _ = true; decide +kernel) (by exact fun A outer s H E f c' cl t2 => (e_mt sh_own_rows_0 h_House_own_rows (.head _) cl (e_var 0) (a_cons (e_var 1) (a_one (e_var 4))) k_nil))) (e_ix (e_var 5) e_int))))) (b_one (s_ret e_bl)) b_nil)
    (b_cons (s_if (t_ne c0 (e_told tld mk c0 (by show LamX.lamSB (defScope s_law_are_refused) _ = true; decide +kernel) (by exact fun A outer s H E f c' cl t2 => (e_mt sh_put_week_0 h_House_put_week (.head _) cl (e_var 0) (a_cons (e_var 1) (a_cons e_int (a_cons e_int (a_cons (e_var 4) (a_one (e_var 4)))))) k_nil))) (e_tup (a_cons e_str (a_one e_str)))) (b_one (s_ret e_bl)) b_nil)
    (b_cons (s_set 5 c0 (e_lst (a_one (e_told tld mk c0 (by show LamX.lamSB (defScope s_law_are_refused) _ = true; decide +kernel) (by exact fun A outer s H E f c' cl t2 => (e_mt sh_put_week_0 h_House_put_week (.head _) cl (e_var 0) (a_cons (e_var 1) (a_cons e_int (a_cons (e_var 4) (a_cons (e_var 1) (a_one e_int))))) k_nil))))))
    (b_cons (s_app 5 (e_told tld mk c0 (by show LamX.lamSB (defScope s_law_are_refused) _ = true; decide +kernel) (by exact fun A outer s H E f c' cl t2 => (e_mt sh_put_week_1 h_House_put_week (.tail _ (.head _)) cl (e_var 0) (a_cons (e_var 1) (a_cons e_int (a_cons (e_var 4) (a_one (e_var 2))))) k_nil))))
    (b_cons (s_app 5 (e_told tld mk c0 (by show LamX.lamSB (defScope s_law_are_refused) _ = true; decide +kernel) (by exact fun A outer s H E f c' cl t2 => (e_mt sh_clear_week_1 h_House_clear_week (.tail _ (.head _)) cl (e_var 0) (a_cons (e_var 1) (a_cons e_int (a_cons (e_var 4) (a_one e_int)))) k_nil))))
    (b_cons (s_app 5 (e_told tld mk c0 (by show LamX.lamSB (defScope s_law_are_refused) _ = true; decide +kernel) (by exact fun A outer s H E f c' cl t2 => (e_mt sh_clear_week_2 h_House_clear_week (.tail _ (.tail _ (.head _))) cl (e_var 0) (a_cons (e_var 1) (a_one e_int)) (k_one (e_var 4))))))
    (b_one (s_if (t_ne c0 (e_var 5) (e_mul (e_lst (a_one (e_tup (a_cons e_str (a_one e_str))))) e_int)) (b_one (s_ret e_bl)) b_nil)))))))))))))))))))
    (b_one (s_ret e_bl)))
theorem sc_law_bad : FnScope law_bad_N ["script"] (defScope s_law_bad) := ⟨rfl, rfl, rfl, by decide +kernel, rfl, by decide +kernel, by decide +kernel⟩
theorem d_law_bad (T : Txt K mg cm hC cc_law_are_refused cc_law_refusals cc_law) (h_law_pick : Df P w K mg base ⟨hC, TT⟩ cm "_law_pick" 1 law_pick) : Df P w K mg base ⟨hC, TT⟩ cm "_law_bad" 2 law_bad :=
  df_mk T.f_law_bad sc_law_bad fun f cdv A outer s H E e c => by
    have c0 := c.fe
    exact (b_one (s_ret (e_lst (a_cons e_non (a_cons e_bl (a_cons e_str (a_cons e_str (a_cons (e_lst (a_one e_int)) (a_cons (e_tup (a_one e_int)) (a_cons (e_sub (e_neg e_int) (e_call h_law_pick c0 (a_cons (e_var 0) (a_cons e_int (a_one e_int))))) (a_cons e_int (a_one e_str))))))))))))
theorem sc_House_times : FnScope House_times_N ["self", "name"] (defScope s_House_times) := ⟨rfl, rfl, rfl, by decide +kernel, rfl, by decide +kernel, by decide +kernel⟩
theorem d_House_times (T : Txt K mg cm hC cc_law_are_refused cc_law_refusals cc_law) (hcl : Hcl P w K mg base ⟨hC, TT⟩) (h_House_show : Mt P w K mg base ⟨hC, TT⟩ cm "show" 2 House_show sh_show) : Mt P w K mg base ⟨hC, TT⟩ cm "times" 3 House_times sh_times :=
  mt_mk T.cl T.f_House_times sc_House_times fun f cdv A outer s H E e c => by
    have c0 := c.fe
    exact (b_cons (s_expr (e_mt sh_show_0 h_House_show (.head _) c0 (e_var 0) (a_one (e_var 1)) k_nil))
    (b_cons (s_set 2 c0 (e_lst a_nil))
    (b_cons (s_forD (.tp [3, 4]) c (x_fld 0 hcl) (g_tp c0.calm (gs_cons 3 c0.nd (gs_cons 4 c0.nd gs_nil))) (b_one (s_ext 2 (e_lc (own := [("row", 5)]) (t := (.nm 5)) c0 (i_seq (e_ixT c0 (e_fld hcl (e_var 0)) (a_cons (e_var 3) (a_one (e_var 4))))) (by show blkC House_times_N (defScope s_House_times) _ _ = true; decide +kernel) (by exact fun s H C cl fp => (g_nm 5 c0.nd)) (by exact fun s H C cl fp => (pts_ifB (t_eq (c0.blk s H _ _ fp) (e_ix (e_var 5) e_int) (e_var 1)))) (by exact fun s H C cl fp => (e_tup (a_cons (e_var 4) (a_cons (e_var 3) (a_one (e_ix (e_var 5) e_int))))))))))
    (b_one (s_ret (e_sorted c0 T.b_sorted (a_one (e_var 2))))))))
theorem sc_House_put : FnScope House_put_N ["self", "station", "day", "hour", "name"] (defScope s_House_put) := ⟨rfl, rfl, rfl, by decide +kernel, rfl, by decide +kernel, by decide +kernel⟩
theorem d_House_put (T : Txt K mg cm hC cc_law_are_refused cc_law_refusals cc_law) (hcl : Hcl P w K mg base ⟨hC, TT⟩) (o_NoRights : Ocl P w K mg base cm "NoRights" ["most"] osh_NoRights) (h_House_station : Mt P w K mg base ⟨hC, TT⟩ cm "station" 3 House_station sh_station) (h_look_day : Df P w K mg base ⟨hC, TT⟩ cm "look_day" 3 look_day) (h_House_show : Mt P w K mg base ⟨hC, TT⟩ cm "show" 2 House_show sh_show) (h_is_number : Df P w K mg base ⟨hC, TT⟩ cm "is_number" 1 is_number) (h_House_own_rows : Mt P w K mg base ⟨hC, TT⟩ cm "own_rows" 5 House_own_rows sh_own_rows) (h_laid_with : Df P w K mg base ⟨hC, TT⟩ cm "laid_with" 2 laid_with) (h_House_times : Mt P w K mg base ⟨hC, TT⟩ cm "times" 3 House_times sh_times) : Mt P w K mg base ⟨hC, TT⟩ cm "put" 6 House_put sh_put :=
  mt_mk T.cl T.f_House_put sc_House_put fun f cdv A outer s H E e c => by
    have c0 := c.fe
    exact (b_cons (s_setT [9, 10] c0 (e_sl (e_mt sh_station_0 h_House_station (.head _) c0 (e_var 0) (a_one (e_var 1)) k_nil) (o_some e_int) (o_some e_int)) (gs_cons 9 c0.nd (gs_cons 10 c0.nd gs_nil)))
    (b_cons (s_expr (e_call h_look_day c0 (a_one (e_var 2))))
    (b_cons (s_setF 5 c0 (e_mt sh_show_0 h_House_show (.head _) c0 (e_var 0) (a_one (e_var 4)) k_nil))
    (b_cons (s_if (t_not (t_val (e_call h_is_number c0 (a_cons (e_var 3) (a_cons (e_var 9) (a_one (e_sub (e_var 10) (e_ix (e_var 5) e_int)))))))) (b_one (s_raise c0 T.er T.r_NoHour)) b_nil)
    (b_cons (s_if (t_lt (e_add (e_mul (e_var 2) (e_glob T.c_HOURS)) (e_var 3)) (e_fld hcl (e_var 0))) (b_one (s_raise c0 T.er T.r_TooLate)) b_nil)
    (b_cons (s_setF 6 c0 (e_mt sh_own_rows_0 h_House_own_rows (.head _) c0 (e_var 0) (a_cons (e_var 1) (a_one (e_var 2))) k_nil))
    (b_cons (s_setF 7 c0 (e_call h_laid_with c0 (a_cons (e_var 6) (a_cons (e_var 3) (a_cons (e_add (e_var 3) (e_ix (e_var 5) e_int)) (a_one (e_var 4)))))))
    (b_cons (s_setF 8 c0 (e_sub (e_len T.b_len (a_one (e_lc (own := [("row", 11)]) (t := (.nm 11)) c0 (i_seq (e_var 7)) (by show blkC House_put_N (defScope s_House_put) _ _ = true; decide +kernel) (by exact fun s H C cl fp => (g_nm 11 c0.nd)) (by exact fun s H C cl fp => (pts_ifB (t_eq (c0.blk s H _ _ fp) (e_ix (e_var 11) e_int) (e_var 4)))) (by exact fun s H C cl fp => (e_var 11))))) (e_len T.b_len (a_one (e_lc (own := [("row", 11)]) (t := (.nm 11)) c0 (i_seq (e_var 6)) (by show blkC House_put_N (defScope s_House_put) _ _ = true; decide +kernel) (by exact fun s H C cl fp => (g_nm 11 c0.nd)) (by exact fun s H C cl fp => (pts_ifB (t_eq (c0.blk s H _ _ fp) (e_ix (e_var 11) e_int) (e_var 4)))) (by exact fun s H C cl fp => (e_var 11)))))))
    (b_cons (s_if (t_w (w_and (t_gt (e_ix (e_var 5) e_int) e_int) (w_and1 (t_gt (e_add (e_len T.b_len (a_one (e_mt sh_times_0 h_House_times (.head _) c0 (e_var 0) (a_one (e_var 4)) k_nil))) (e_var 8)) (e_ix (e_var 5) e_int))))) (b_one (s_raiseF (1, []) c0 o_NoRights (.head _) (a_one (e_ix (e_var 5) e_int)) k_nil)) b_nil)
    (b_cons (s_fputT hcl c0 (e_var 0) (a_cons (e_var 1) (a_one (e_var 2))) (e_var 7))
    (b_cons (s_fapp hcl (e_var 0) (e_tup (a_cons e_str (a_cons (e_var 1) (a_cons (e_var 2) (a_cons (e_var 3) (a_one (e_var 4))))))))
    (b_one (s_ret (e_len T.b_len (a_one (e_var 7))))))))))))))))
theorem sc_House_deeds : FnScope House_deeds_N ["self"] (defScope s_House_deeds) := ⟨rfl, rfl, rfl, by decide +kernel, rfl, by decide +kernel, by decide +kernel⟩
theorem d_House_deeds (T : Txt K mg cm hC cc_law_are_refused cc_law_refusals cc_law) (hcl : Hcl P w K mg base ⟨hC, TT⟩)  : Mt P w K mg base ⟨hC, TT⟩ cm "deeds" 1 House_deeds sh_deeds :=
  mt_mk T.cl T.f_House_deeds sc_House_deeds fun f cdv A outer s H E e c => by
    have c0 := c.fe
    exact (b_one (s_ret (e_clist T.b_list (a_one (e_fld hcl (e_var 0))))))
theorem w_House_deeds (T : Txt K mg cm hC cc_law_are_refused cc_law_refusals cc_law) (hcl : Hcl P w K mg base ⟨hC, TT⟩)  : MtH P w K mg base ⟨hC, TT⟩ cm "deeds" 1 House_deeds sh_deeds :=
  mtH_mk T.cl T.f_House_deeds sc_House_deeds fun f cdv A outer s H E p e c => by
    have c0 := c.toFeH
    exact (b_one (s_ret (e_clist T.b_list (a_one (e_fld hcl (e_var 0))))))
theorem sc_law_are_rights : FnScope law_are_rights_N ["house", "one", "other", "script"] (defScope s_law_are_rights) := ⟨rfl, rfl, rfl, by decide +kernel, rfl, by decide +kernel, by decide +kernel⟩
theorem d_law_are_rights (T : Txt K mg cm hC cc_law_are_refused cc_law_refusals cc_law) (h_House_put_week : Mt P w K mg base ⟨hC, TT⟩ cm "put_week" 4 House_put_week sh_put_week) (h_House_station : Mt P w K mg base ⟨hC, TT⟩ cm "station" 3 House_station sh_station) (h_law_pick : Df P w K mg base ⟨hC, TT⟩ cm "_law_pick" 1 law_pick) (h_House_week_rows : Mt P w K mg base ⟨hC, TT⟩ cm "week_rows" 4 House_week_rows sh_week_rows) (h_House_deeds : Mt P w K mg base ⟨hC, TT⟩ cm "deeds" 1 House_deeds sh_deeds) (g_law_pick : DfH P w K mg base ⟨hC, TT⟩ cm "_law_pick" 1 law_pick) (g_House_week_rows : MtH P w K mg base ⟨hC, TT⟩ cm "week_rows" 4 House_week_rows_h sh_week_rows) (g_House_deeds : MtH P w K mg base ⟨hC, TT⟩ cm "deeds" 1 House_deeds sh_deeds) : Df P w K mg base ⟨hC, TT⟩ cm "_law_are_rights" 5 law_are_rights :=
  df_mk T.f_law_are_rights sc_law_are_rights fun f cdv A outer s H E e c => by
    have c0 := c.fe
    exact (b_cons (DH.s_tryRo 4 T.o_NoRights c T.er (by intro W pn xe c; have c0 := c.fe; exact (b_one (s_expr (e_mt sh_put_week_0 h_House_put_week (.head _) c0 (e_var 0) (a_cons (e_var 1) (a_cons e_int (a_cons (e_ix (e_mt sh_station_0 h_House_station (.head _) c0 (e_var 0) (a_one (e_var 1)) k_nil) e_int) (a_cons (e_var 2) (a_one e_int))))) k_nil)))) (by exact fun C a oe cls d pn e2 x c0 T2 hno hz hf hx hC => (e_and (e_eqH c0.u (e_xf T2 (hno _ (.head _)) hz hf hx hC (e_var 4)) (e_add e_int (e_callH g_law_pick c0 (a_cons (e_var 3) (a_cons e_int (a_one e_int)))))) (e_and (e_eqH c0.u (e_mtH sh_week_rows_0 g_House_week_rows (.head _) c0 (e_var 0) (a_cons (e_var 1) (a_one e_int)) k_nil) (e_lst a_nil)) (e_one (e_eqH c0.u (e_len T.b_len (a_one (e_mt0H sh_deeds_0 g_House_deeds (.head _) c0 (e_var 0) k_nil))) e_int))))))
    (b_one (s_ret e_bl)))
theorem sc_law_refusals : FnScope law_refusals_N ["script"] (defScope s_law_refusals) := ⟨rfl, rfl, rfl, by decide +kernel, rfl, by decide +kernel, by decide +kernel⟩
theorem d_law_refusals (T : Txt K mg cm hC cc_law_are_refused cc_law_refusals cc_law) (tld : Tld P w K mg base ⟨hC, TT⟩ cm) (mk_ : Mkt base mg ⟨hC, TT⟩ "_law_refusals" cc_law_refusals) (hcl : Hcl P w K mg base ⟨hC, TT⟩) (h_law_names : Df P w K mg base ⟨hC, TT⟩ cm "_law_names" 2 law_names) (h_law_pick : Df P w K mg base ⟨hC, TT⟩ cm "_law_pick" 1 law_pick) (h_House_open_station : Mt P w K mg base ⟨hC, TT⟩ cm "open_station" 3 House_open_station sh_open_station) (h_House_add_show : Mt P w K mg base ⟨hC, TT⟩ cm "add_show" 3 House_add_show sh_add_show) (h_House_tick : Mt P w K mg base ⟨hC, TT⟩ cm "tick" 2 House_tick sh_tick) (h_law_are_refused : Df P w K mg base ⟨hC, TT⟩ cm "_law_are_refused" 8 law_are_refused) (h_law_bad : Df P w K mg base ⟨hC, TT⟩ cm "_law_bad" 2 law_bad) (h_House_put_week : Mt P w K mg base ⟨hC, TT⟩ cm "put_week" 4 House_put_week sh_put_week) (h_House_clear_week : Mt P w K mg base ⟨hC, TT⟩ cm "clear_week" 4 House_clear_week sh_clear_week) (h_House_now : Mt P w K mg base ⟨hC, TT⟩ cm "now" 1 House_now sh_now) (h_House_put : Mt P w K mg base ⟨hC, TT⟩ cm "put" 6 House_put sh_put) (h_House_deeds : Mt P w K mg base ⟨hC, TT⟩ cm "deeds" 1 House_deeds sh_deeds) (h_law_are_rights : Df P w K mg base ⟨hC, TT⟩ cm "_law_are_rights" 5 law_are_rights) : Df P w K mg base ⟨hC, TT⟩ cm "_law_refusals" 9 law_refusals :=
  df_mkL T.f_law_refusals sc_law_refusals mk_ fun f A outer s H E e c mk => by
    have c0 := c.fe
    exact (b_cons (s_setU [4, 5, 6] c0 (e_call h_law_names c0 (a_cons (e_var 0) (a_cons e_int (a_one e_int)))) (gs_cons 4 c0.nd (gs_cons 5 c0.nd (gs_cons 6 c0.nd gs_nil))))
    (b_cons (s_setF 1 c0 (e_call h_law_pick c0 (a_cons (e_var 0) (a_cons e_int (a_one e_int)))))
    (b_cons (s_setF 2 c0 (e_new hcl c0))
    (b_cons (s_expr (e_mt sh_open_station_0 h_House_open_station (.head _) c0 (e_var 2) (a_cons (e_var 4) (a_cons e_non (a_cons (e_var 1) (a_one (e_add (e_var 1) e_int))))) k_nil))
    (b_cons (s_expr (e_mt sh_add_show_0 h_House_add_show (.head _) c0 (e_var 2) (a_one (e_tup (a_cons (e_var 4) (a_cons e_str (a_cons e_int (a_cons e_bl (a_one e_int))))))) k_nil))
    (b_cons (s_expr (e_mt sh_add_show_0 h_House_add_show (.head _) c0 (e_var 2) (a_one (e_tup (a_cons (e_var 5) (a_cons e_str (a_cons e_int (a_cons e_bl (a_one (e_add e_int (e_call h_law_pick c0 (a_cons (e_var 0) (a_cons e_int (a_one e_int)))))))))))) k_nil))
    (b_cons (s_expr (e_mt sh_tick_0 h_House_tick (.head _) c0 (e_var 2) (a_one e_int) k_nil))
    (b_cons (s_expr (e_mt sh_tick_0 h_House_tick (.head _) c0 (e_var 2) (a_one (e_add e_int (e_call h_law_pick c0 (a_cons (e_var 0) (a_cons e_int (a_one e_int)))))) k_nil))
    (b_cons (s_if (t_not (t_val (e_call h_law_are_refused c0 (a_cons (e_var 2) (a_cons (e_var 4) (a_cons (e_var 5) (a_one (e_call h_law_bad c0 (a_one (e_var 0)))))))))) (b_one (s_ret e_bl)) b_nil)
    (b_cons (s_set 3 c0 (e_lst (a_one (e_told tld mk c0 (by show LamX.lamSB (defScope s_law_refusals) _ = true; decide +kernel) (by exact fun A outer s H E f c' cl t2 => (e_mt sh_put_week_1 h_House_put_week (.tail _ (.head _)) cl (e_var 2) (a_cons (e_var 4) (a_cons e_int (a_cons (e_var 1) (a_one (e_var 4))))) k_nil))))))
    (b_cons (s_app 3 (e_told tld mk c0 (by show LamX.lamSB (defScope s_law_refusals) _ = true; decide +kernel) (by exact fun A outer s H E f c' cl t2 => (e_mt sh_clear_week_3 h_House_clear_week (.tail _ (.tail _ (.tail _ (.head _)))) cl (e_var 2) (a_cons (e_var 4) (a_one e_int)) k_nil))))
    (b_cons (s_app 3 (e_told tld mk c0 (by show LamX.lamSB (defScope s_law_refusals) _ = true; decide +kernel) (by exact fun A outer s H E f c' cl t2 => (e_mt sh_put_week_2 h_House_put_week (.tail _ (.tail _ (.head _))) cl (e_var 2) (a_cons (e_var 4) (a_cons e_int (a_cons (e_add (e_var 1) e_int) (a_one (e_var 4))))) (k_one (e_sub (e_ix (e_mt0 sh_now_0 h_House_now (.head _) cl (e_var 2) k_nil) e_int) e_int))))))
    (b_cons (s_if (t_ne c0 (e_var 3) (e_mul (e_lst (a_one (e_tup (a_cons e_str (a_one e_str))))) e_int)) (b_one (s_ret e_bl)) b_nil)
    (b_cons (s_if (t_ne c0 (e_told tld mk c0 (by show LamX.lamSB (defScope s_law_refusals) _ = true; decide +kernel) (by exact fun A outer s H E f c' cl t2 => (e_mt sh_put_week_0 h_House_put_week (.head _) cl (e_var 2) (a_cons (e_var 4) (a_cons e_int (a_cons e_int (a_cons (e_var 6) (a_one e_int))))) k_nil))) (e_tup (a_cons e_str (a_one e_str)))) (b_one (s_ret e_bl)) b_nil)
    (b_cons (s_if (t_ne c0 (e_told tld mk c0 (by show LamX.lamSB (defScope s_law_refusals) _ = true; decide +kernel) (by exact fun A outer s H E f c' cl t2 => (e_mt sh_put_week_1 h_House_put_week (.tail _ (.head _)) cl (e_var 2) (a_cons (e_var 4) (a_cons e_int (a_cons (e_add (e_var 1) e_int) (a_one (e_var 4))))) k_nil))) (e_tup (a_cons e_str (a_one e_str)))) (b_one (s_ret e_bl)) b_nil)
    (b_cons (s_expr (e_mt sh_put_0 h_House_put (.head _) c0 (e_var 2) (a_cons (e_var 4) (a_cons e_int (a_cons (e_var 1) (a_one (e_var 4))))) k_nil))
    (b_cons (s_set 3 c0 (e_lst (a_one (e_told tld mk c0 (by show LamX.lamSB (defScope s_law_refusals) _ = true; decide +kernel) (by exact fun A outer s H E f c' cl t2 => (e_mt sh_clear_week_4 h_House_clear_week (.tail _ (.tail _ (.tail _ (.tail _ (.head _))))) cl (e_var 2) (a_cons (e_var 4) (a_one e_int)) (k_one e_int)))))))
    (b_cons (s_app 3 (e_told tld mk c0 (by show LamX.lamSB (defScope s_law_refusals) _ = true; decide +kernel) (by exact fun A outer s H E f c' cl t2 => (e_mt sh_put_week_0 h_House_put_week (.head _) cl (e_var 2) (a_cons (e_var 4) (a_cons e_int (a_cons (e_var 1) (a_cons (e_var 4) (a_one e_int))))) k_nil))))
    (b_cons (s_if (t_w (w_or (t_ne c0 (e_var 3) (e_mul (e_lst (a_one (e_tup (a_cons e_str (a_one e_str))))) e_int)) (w_or1 (t_notN (e_mt sh_clear_week_4 h_House_clear_week (.tail _ (.tail _ (.tail _ (.tail _ (.head _))))) c0 (e_var 2) (a_cons (e_var 4) (a_one e_int)) (k_one e_int)))))) (b_one (s_ret e_bl)) b_nil)
    (b_cons (s_if (t_ne c0 (e_ix (e_mt0 sh_deeds_0 h_House_deeds (.head _) c0 (e_var 2) k_nil) (e_neg e_int)) (e_tup (a_cons e_str (a_cons (e_var 4) (a_cons e_int (a_cons e_int (a_cons e_int (a_one e_int)))))))) (b_one (s_ret e_bl)) b_nil)
    (b_one (s_ret (e_and (e_isN (e_mt sh_clear_week_4 h_House_clear_week (.tail _ (.tail _ (.tail _ (.tail _ (.head _))))) c0 (e_var 2) (a_cons (e_var 4) (a_one e_int)) (k_one e_int))) (e_one (e_call h_law_are_rights c0 (a_cons (e_var 2) (a_cons (e_var 4) (a_cons (e_var 5) (a_one (e_var 0))))))))))))))))))))))))))))))
theorem sc_law : FnScope law_N ["script"] (defScope s_law) := ⟨rfl, rfl, rfl, by decide +kernel, rfl, by decide +kernel, by decide +kernel⟩
theorem d_law (T : Txt K mg cm hC cc_law_are_refused cc_law_refusals cc_law) (tld : Tld P w K mg base ⟨hC, TT⟩ cm) (mk_ : Mkt base mg ⟨hC, TT⟩ "law" cc_law) (h_law_refusals : Df P w K mg base ⟨hC, TT⟩ cm "_law_refusals" 9 law_refusals) {f : Addr} {fd : FuncData} (F : FunL K "law" "law" s_law f fd cc_law) : FnOk P w K mg base (L2.CX P w) 12 f fd ["script"] (spD ⟨K, ⟨hC, TT⟩, cm⟩ law) :=
  fn_mkL F sc_law mk_ fun f A outer s H E e c mk t2 => by
    have c0 := c.fe
    exact (b_one (s_ret (e_isB (e_told tld mk c0 (by show LamX.lamSB (defScope s_law) _ = true; decide +kernel) (by exact fun A outer s H E f c' cl t2 => (e_call h_law_refusals cl (a_one (e_var 0))))) e_bl)))
end
/-! ### the head: what the top leaves -/
theorem txt {K : PySem.W.Frag} {h : Heap} {mg : Str → Option Value} (X : K.In h) (G : h.Ns mainGlobals mg) (c : DH.SaysQ facts defs K) : Txt K mg (DH.cmK K ["NoName", "NoDay", "NoHour", "NoMore", "NoShow", "NoSort", "NoStation", "NoRule", "Full", "Taken", "NoRights", "Settled", "TooLate", "NoRow", "NotLive", "TooLong", "NewsAhead", "Clash", "NoWish", "NoDeeds", "NoText"]) (He.ga K "House") (DH.cA K "_law_are_refused") (DH.cA K "_law_refusals") (DH.cA K "law") := ⟨DH.free_ok X G (c.fact 0),
  DH.free_ok X G (c.fact 1),
  DH.free_ok X G (c.fact 2),
  DH.free_ok X G (c.fact 3),
  DH.free_ok X G (c.fact 4),
  DH.free_ok X G (c.fact 5),
  DH.free_ok X G (c.fact 6),
  DH.free_ok X G (c.fact 7),
  DH.free_ok X G (c.fact 8),
  DH.free_ok X G (c.fact 9),
  DH.free_ok X G (c.fact 10),
  DH.free_ok X G (c.fact 11),
  DH.free_ok X G (c.fact 12),
  DH.free_ok X G (c.fact 13),
  DH.int_ok X G (c.fact 14),
  DH.int_ok X G (c.fact 15),
  DH.str_ok X G (c.fact 16),
  DH.int_ok X G (c.fact 17),
  DH.int_ok X G (c.fact 18),
  DH.int_ok X G (c.fact 19),
  DH.int_ok X G (c.fact 20),
  DH.tup_ok X G (c.fact 21) (fun _ _ => (.cons (.str _) (.cons (.str _) .nil))),
  DH.tup_ok X G (c.fact 22) (fun _ _ => (.cons (.str _) (.cons (.str _) (.cons (.str _) .nil)))),
  DH.int_ok X G (c.fact 23),
  DH.ers_ok X G (c.fact 24) (c.fact 25) (c.fact 26),
  fun c h => DH.cmK_names h,
  DH.mcl_ok X G (c.fact 26) (by decide),
  DH.mcl_ok X G (c.fact 26) (by decide),
  DH.mcl_ok X G (c.fact 26) (by decide),
  DH.mcl_ok X G (c.fact 26) (by decide),
  DH.mcl_ok X G (c.fact 26) (by decide),
  DH.mcl_ok X G (c.fact 26) (by decide),
  DH.mcl_ok X G (c.fact 26) (by decide),
  DH.mcl_ok X G (c.fact 26) (by decide),
  DH.mcl_ok X G (c.fact 26) (by decide),
  DH.mcl_ok X G (c.fact 26) (by decide),
  DH.mcl_ok X G (c.fact 26) (by decide),
  DH.mcl_ok X G (c.fact 26) (by decide),
  DH.mcl_ok X G (c.fact 26) (by decide),
  DH.mcl_ok X G (c.fact 26) (by decide),
  DH.mcl_ok X G (c.fact 26) (by decide),
  DH.mcl_ok X G (c.fact 26) (by decide),
  DH.mcl_ok X G (c.fact 26) (by decide),
  DH.mcl_ok X G (c.fact 26) (by decide),
  DH.mcl_ok X G (c.fact 26) (by decide),
  DH.mcl_ok X G (c.fact 26) (by decide),
  DH.mcl_ok X G (c.fact 26) (by decide),
  DH.rcl_ok X G (c.fact 26) (c.fact 27) (by decide),
  DH.rcl_ok X G (c.fact 26) (c.fact 28) (by decide),
  DH.rcl_ok X G (c.fact 26) (c.fact 29) (by decide),
  DH.rcl_ok X G (c.fact 26) (c.fact 30) (by decide),
  DH.rcl_ok X G (c.fact 26) (c.fact 31) (by decide),
  DH.rcl_ok X G (c.fact 26) (c.fact 32) (by decide),
  DH.rcl_ok X G (c.fact 26) (c.fact 33) (by decide),
  DH.rcl_ok X G (c.fact 26) (c.fact 34) (by decide),
  DH.rcl_ok X G (c.fact 26) (c.fact 35) (by decide),
  DH.rcl_ok X G (c.fact 26) (c.fact 36) (by decide),
  DH.rcl_ok X G (c.fact 26) (c.fact 37) (by decide),
  DH.oclT_ok X G (c.fact 24) (c.fact 38) (c.fact 26) (c.fact 39) (by decide) (c.def_ 0) (List.forall_mem_cons.mpr ⟨⟨rfl, fun _ _ _ _ _ _ us zs l1 l2 => match us, zs, l1, l2 with | [_, _], [], _, _ => rfl⟩, (List.forall_mem_nil _)⟩),
  (by obtain ⟨fd, F⟩ : ∃ fd, FunD K "_law_told" "_law_told" (defArgs s_law_told) (defBody s_law_told) (defScope s_law_told) [] [] _ fd := (c.def_ 1); have F := DH.fun_of F; obtain ⟨oc, od, kV, doc, pm, an, cdv, ct, osl, rfl, lk, hcd⟩ := F.ex; exact ⟨_, oc, od, _, _, kV, doc, pm, cdv, ct, an, osl, _, _, _, _, _, _, _, _, _, _, _, _, _, _, DH.glo_ok X G (c.fact 88), F.kp, lk, hcd, Binds.all fun us hl => (match us, hl with | [_], _ => rfl), ⟨rfl, rfl, rfl, by decide +kernel, rfl, by decide +kernel, by decide +kernel⟩, rfl, rfl, rfl, rfl⟩),
  He.cls_ok (c.fact 40),
  (List.forall_mem_cons.mpr ⟨(He.noat_ok (c.fact 41)), (List.forall_mem_cons.mpr ⟨(He.noat_ok (c.fact 42)), (List.forall_mem_cons.mpr ⟨(He.noat_ok (c.fact 43)), (List.forall_mem_cons.mpr ⟨(He.noat_ok (c.fact 44)), (List.forall_mem_cons.mpr ⟨(He.noat_ok (c.fact 45)), (List.forall_mem_cons.mpr ⟨(He.noat_ok (c.fact 46)), (List.forall_mem_cons.mpr ⟨(He.noat_ok (c.fact 47)), (List.forall_mem_cons.mpr ⟨(He.noat_ok (c.fact 48)), (List.forall_mem_nil _)⟩)⟩)⟩)⟩)⟩)⟩)⟩)⟩),
  DH.glo_ok X G (c.fact 49),
  (by obtain ⟨fd, F⟩ : ∃ fd, FunD K "__init__" "House.__init__" (defArgs s_init) (defBody s_init) (defScope s_init) [] [] _ fd := (c.def_ 2); exact ⟨_, fd, He.mkr_ok (c.fact 50), DH.fun_of F, F.bindsN fun _ _ _ _ _ _ us hl => match us, hl with | [_], _ => rfl⟩),
  DH.fnx_of X G (c.fact 51) (c.def_ 3) (fun _ _ _ _ _ _ us hl => match us, hl with | [_], _ => rfl),
  DH.fnx_of X G (c.fact 52) (c.def_ 4) (fun _ _ _ _ _ _ us hl => match us, hl with | [_, _, _], _ => rfl),
  DH.fnx_of X G (c.fact 53) (c.def_ 5) (fun _ _ _ _ _ _ us hl => match us, hl with | [_, _, _], _ => rfl),
  DH.fnx_of X G (c.fact 54) (c.def_ 6) (fun _ _ _ _ _ _ us hl => match us, hl with | [_], _ => rfl),
  (by obtain ⟨fd, F⟩ : ∃ fd, FunD K "look_station" "House.look_station" (defArgs s_House_look_station) (defBody s_House_look_station) (defScope s_House_look_station) [] [] _ fd := (c.def_ 7); exact ⟨_, fd, DH.funG_of F, He.meth_ok (c.fact 55), (List.forall_mem_cons.mpr ⟨(DH.shp0 F sh_look_station_0 rfl fun _ _ _ _ _ _ us zs l1 l2 => match us, zs, l1, l2 with | [_, _], [], _, _ => rfl), (List.forall_mem_nil _)⟩)⟩),
  DH.fnx_of X G (c.fact 56) (c.def_ 8) (fun _ _ _ _ _ _ us hl => match us, hl with | [_, _, _], _ => rfl),
  DH.fnx_of X G (c.fact 57) (c.def_ 9) (fun _ _ _ _ _ _ us hl => match us, hl with | [_, _, _, _], _ => rfl),
  (by obtain ⟨fd, F⟩ : ∃ fd, FunD K "open_station" "House.open_station" (defArgs s_House_open_station) (defBody s_House_open_station) (defScope s_House_open_station) [.non, .int 0, .int 24, .str "join"] [] _ fd := (c.def_ 10); exact ⟨_, fd, DH.funG_of F, He.meth_ok (c.fact 58), (List.forall_mem_cons.mpr ⟨(DH.shpD F (List.cons_ne_nil _ _) sh_open_station_0 (fun _ _ => (.cons .non (.cons (.int _) (.cons (.int _) (.cons (.str _) .nil))))) fun _ _ _ _ _ _ _ us zs its l1 l2 l3 => match us, zs, its, l1, l2, l3 with | [_, _, _, _, _], [], [_, _, _, _], _, _, _ => ⟨_, rfl, rfl⟩), (List.forall_mem_nil _)⟩)⟩),
  DH.fnx_of X G (c.fact 59) (c.def_ 11) (fun _ _ _ _ _ _ us hl => match us, hl with | [_], _ => rfl),
  DH.fnx_of X G (c.fact 60) (c.def_ 12) (fun _ _ _ _ _ _ us hl => match us, hl with | [_], _ => rfl),
  (by obtain ⟨fd, F⟩ : ∃ fd, FunD K "add_show" "House.add_show" (defArgs s_House_add_show) (defBody s_House_add_show) (defScope s_House_add_show) [] [] _ fd := (c.def_ 13); exact ⟨_, fd, DH.funG_of F, He.meth_ok (c.fact 61), (List.forall_mem_cons.mpr ⟨(DH.shp0 F sh_add_show_0 rfl fun _ _ _ _ _ _ us zs l1 l2 => match us, zs, l1, l2 with | [_, _], [], _, _ => rfl), (List.forall_mem_nil _)⟩)⟩),
  (by obtain ⟨fd, F⟩ : ∃ fd, FunD K "now" "House.now" (defArgs s_House_now) (defBody s_House_now) (defScope s_House_now) [] [] _ fd := (c.def_ 14); exact ⟨_, fd, DH.funG_of F, He.meth_ok (c.fact 62), (List.forall_mem_cons.mpr ⟨(DH.shp0 F sh_now_0 rfl fun _ _ _ _ _ _ us zs l1 l2 => match us, zs, l1, l2 with | [_], [], _, _ => rfl), (List.forall_mem_nil _)⟩)⟩),
  (by obtain ⟨fd, F⟩ : ∃ fd, FunD K "tick" "House.tick" (defArgs s_House_tick) (defBody s_House_tick) (defScope s_House_tick) [.int 1] [] _ fd := (c.def_ 15); exact ⟨_, fd, DH.funG_of F, He.meth_ok (c.fact 63), (List.forall_mem_cons.mpr ⟨(DH.shpD F (List.cons_ne_nil _ _) sh_tick_0 (fun _ _ => (.cons (.int _) .nil)) fun _ _ _ _ _ _ _ us zs its l1 l2 l3 => match us, zs, its, l1, l2, l3 with | [_, _], [], [_], _, _, _ => ⟨_, rfl, rfl⟩), (List.forall_mem_nil _)⟩)⟩),
  (by obtain ⟨fd, F⟩ : ∃ fd, FunD K "station" "House.station" (defArgs s_House_station) (defBody s_House_station) (defScope s_House_station) [] [] _ fd := (c.def_ 16); exact ⟨_, fd, DH.funG_of F, He.meth_ok (c.fact 64), (List.forall_mem_cons.mpr ⟨(DH.shp0 F sh_station_0 rfl fun _ _ _ _ _ _ us zs l1 l2 => match us, zs, l1, l2 with | [_, _], [], _, _ => rfl), (List.forall_mem_nil _)⟩)⟩),
  (by obtain ⟨fd, F⟩ : ∃ fd, FunD K "show" "House.show" (defArgs s_House_show) (defBody s_House_show) (defScope s_House_show) [] [] _ fd := (c.def_ 17); exact ⟨_, fd, DH.funG_of F, He.meth_ok (c.fact 65), (List.forall_mem_cons.mpr ⟨(DH.shp0 F sh_show_0 rfl fun _ _ _ _ _ _ us zs l1 l2 => match us, zs, l1, l2 with | [_, _], [], _, _ => rfl), (List.forall_mem_nil _)⟩)⟩),
  DH.fnx_of X G (c.fact 66) (c.def_ 18) (fun _ _ _ _ _ _ us hl => match us, hl with | [_], _ => rfl),
  DH.fnx_of X G (c.fact 67) (c.def_ 19) (fun _ _ _ _ _ _ us hl => match us, hl with | [_], _ => rfl),
  (by obtain ⟨fd, F⟩ : ∃ fd, FunD K "look_since" "House.look_since" (defArgs s_House_look_since) (defBody s_House_look_since) (defScope s_House_look_since) [] [] _ fd := (c.def_ 20); exact ⟨_, fd, DH.funG_of F, He.meth_ok (c.fact 68), (List.forall_mem_cons.mpr ⟨(DH.shp0 F sh_look_since_0 rfl fun _ _ _ _ _ _ us zs l1 l2 => match us, zs, l1, l2 with | [_, _, _, _], [], _, _ => rfl), (List.forall_mem_nil _)⟩)⟩),
  (by obtain ⟨fd, F⟩ : ∃ fd, FunD K "put_week" "House.put_week" (defArgs s_House_put_week) (defBody s_House_put_week) (defScope s_House_put_week) [.int 0] [] _ fd := (c.def_ 21); exact ⟨_, fd, DH.funG_of F, He.meth_ok (c.fact 69), (List.forall_mem_cons.mpr ⟨(DH.shpD F (List.cons_ne_nil _ _) sh_put_week_0 (fun _ _ => (.cons (.int _) .nil)) fun _ _ _ _ _ _ _ us zs its l1 l2 l3 => match us, zs, its, l1, l2, l3 with | [_, _, _, _, _, _], [], [_], _, _, _ => ⟨_, rfl, rfl⟩), (List.forall_mem_cons.mpr ⟨(DH.shpD F (List.cons_ne_nil _ _) sh_put_week_1 (fun _ _ => (.cons (.int _) .nil)) fun _ _ _ _ _ _ _ us zs its l1 l2 l3 => match us, zs, its, l1, l2, l3 with | [_, _, _, _, _], [], [_], _, _, _ => ⟨_, rfl, rfl⟩), (List.forall_mem_cons.mpr ⟨(DH.shpD F (List.cons_ne_nil _ _) sh_put_week_2 (fun _ _ => (.cons (.int _) .nil)) fun _ _ _ _ _ _ _ us zs its l1 l2 l3 => match us, zs, its, l1, l2, l3 with | [_, _, _, _, _], [_], [_], _, _, _ => ⟨_, rfl, rfl⟩), (List.forall_mem_nil _)⟩)⟩)⟩)⟩),
  (by obtain ⟨fd, F⟩ : ∃ fd, FunD K "clear_week" "House.clear_week" (defArgs s_House_clear_week) (defBody s_House_clear_week) (defScope s_House_clear_week) [.int 0, .int 24, .int 0] [] _ fd := (c.def_ 22); exact ⟨_, fd, DH.funG_of F, He.meth_ok (c.fact 70), (List.forall_mem_cons.mpr ⟨(DH.shpD F (List.cons_ne_nil _ _) sh_clear_week_0 (fun _ _ => (.cons (.int _) (.cons (.int _) (.cons (.int _) .nil)))) fun _ _ _ _ _ _ _ us zs its l1 l2 l3 => match us, zs, its, l1, l2, l3 with | [_, _, _, _, _, _], [], [_, _, _], _, _, _ => ⟨_, rfl, rfl⟩), (List.forall_mem_cons.mpr ⟨(DH.shpD F (List.cons_ne_nil _ _) sh_clear_week_1 (fun _ _ => (.cons (.int _) (.cons (.int _) (.cons (.int _) .nil)))) fun _ _ _ _ _ _ _ us zs its l1 l2 l3 => match us, zs, its, l1, l2, l3 with | [_, _, _, _, _], [], [_, _, _], _, _, _ => ⟨_, rfl, rfl⟩), (List.forall_mem_cons.mpr ⟨(DH.shpD F (List.cons_ne_nil _ _) sh_clear_week_2 (fun _ _ => (.cons (.int _) (.cons (.int _) (.cons (.int _) .nil)))) fun _ _ _ _ _ _ _ us zs its l1 l2 l3 => match us, zs, its, l1, l2, l3 with | [_, _, _], [_], [_, _, _], _, _, _ => ⟨_, rfl, rfl⟩), (List.forall_mem_cons.mpr ⟨(DH.shpD F (List.cons_ne_nil _ _) sh_clear_week_3 (fun _ _ => (.cons (.int _) (.cons (.int _) (.cons (.int _) .nil)))) fun _ _ _ _ _ _ _ us zs its l1 l2 l3 => match us, zs, its, l1, l2, l3 with | [_, _, _], [], [_, _, _], _, _, _ => ⟨_, rfl, rfl⟩), (List.forall_mem_cons.mpr ⟨(DH.shpD F (List.cons_ne_nil _ _) sh_clear_week_4 (fun _ _ => (.cons (.int _) (.cons (.int _) (.cons (.int _) .nil)))) fun _ _ _ _ _ _ _ us zs its l1 l2 l3 => match us, zs, its, l1, l2, l3 with | [_, _, _], [_], [_, _, _], _, _, _ => ⟨_, rfl, rfl⟩), (List.forall_mem_nil _)⟩)⟩)⟩)⟩)⟩)⟩),
  DH.fnx_of X G (c.fact 71) (c.def_ 23) (fun _ _ _ _ _ _ us hl => match us, hl with | [_, _, _], _ => rfl),
  DH.fnx_of X G (c.fact 72) (c.def_ 24) (fun _ _ _ _ _ _ us hl => match us, hl with | [_, _, _, _], _ => rfl),
  (by obtain ⟨fd, F⟩ : ∃ fd, FunD K "rows_by_week" "House.rows_by_week" (defArgs s_House_rows_by_week) (defBody s_House_rows_by_week) (defScope s_House_rows_by_week) [] [] _ fd := (c.def_ 25); exact ⟨_, fd, DH.funG_of F, He.meth_ok (c.fact 73), (List.forall_mem_cons.mpr ⟨(DH.shp0 F sh_rows_by_week_0 rfl fun _ _ _ _ _ _ us zs l1 l2 => match us, zs, l1, l2 with | [_, _, _, _], [], _, _ => rfl), (List.forall_mem_nil _)⟩)⟩),
  (by obtain ⟨fd, F⟩ : ∃ fd, FunD K "week_rows" "House.week_rows" (defArgs s_House_week_rows) (defBody s_House_week_rows) (defScope s_House_week_rows) [] [] _ fd := (c.def_ 26); exact ⟨_, fd, DH.funG_of F, He.meth_ok (c.fact 74), (List.forall_mem_cons.mpr ⟨(DH.shp0 F sh_week_rows_0 rfl fun _ _ _ _ _ _ us zs l1 l2 => match us, zs, l1, l2 with | [_, _, _], [], _, _ => rfl), (List.forall_mem_nil _)⟩)⟩),
  (by obtain ⟨fd, F⟩ : ∃ fd, FunD K "own_rows" "House.own_rows" (defArgs s_House_own_rows) (defBody s_House_own_rows) (defScope s_House_own_rows) [] [] _ fd := (c.def_ 27); exact ⟨_, fd, DH.funG_of F, He.meth_ok (c.fact 75), (List.forall_mem_cons.mpr ⟨(DH.shp0 F sh_own_rows_0 rfl fun _ _ _ _ _ _ us zs l1 l2 => match us, zs, l1, l2 with | [_, _, _], [], _, _ => rfl), (List.forall_mem_nil _)⟩)⟩),
  DH.fnxL_of X G (c.fact 76) (c.fact 77) (c.def_ 28) (fun _ _ _ _ _ _ us hl => match us, hl with | [_, _, _, _], _ => rfl),
  DH.fnx_of X G (c.fact 78) (c.def_ 29) (fun _ _ _ _ _ _ us hl => match us, hl with | [_], _ => rfl),
  (by obtain ⟨fd, F⟩ : ∃ fd, FunD K "times" "House.times" (defArgs s_House_times) (defBody s_House_times) (defScope s_House_times) [] [] _ fd := (c.def_ 30); exact ⟨_, fd, DH.funG_of F, He.meth_ok (c.fact 79), (List.forall_mem_cons.mpr ⟨(DH.shp0 F sh_times_0 rfl fun _ _ _ _ _ _ us zs l1 l2 => match us, zs, l1, l2 with | [_, _], [], _, _ => rfl), (List.forall_mem_nil _)⟩)⟩),
  (by obtain ⟨fd, F⟩ : ∃ fd, FunD K "put" "House.put" (defArgs s_House_put) (defBody s_House_put) (defScope s_House_put) [] [] _ fd := (c.def_ 31); exact ⟨_, fd, DH.funG_of F, He.meth_ok (c.fact 80), (List.forall_mem_cons.mpr ⟨(DH.shp0 F sh_put_0 rfl fun _ _ _ _ _ _ us zs l1 l2 => match us, zs, l1, l2 with | [_, _, _, _, _], [], _, _ => rfl), (List.forall_mem_nil _)⟩)⟩),
  (by obtain ⟨fd, F⟩ : ∃ fd, FunD K "deeds" "House.deeds" (defArgs s_House_deeds) (defBody s_House_deeds) (defScope s_House_deeds) [] [] _ fd := (c.def_ 32); exact ⟨_, fd, DH.funG_of F, He.meth_ok (c.fact 81), (List.forall_mem_cons.mpr ⟨(DH.shp0 F sh_deeds_0 rfl fun _ _ _ _ _ _ us zs l1 l2 => match us, zs, l1, l2 with | [_], [], _, _ => rfl), (List.forall_mem_nil _)⟩)⟩),
  DH.fnx_of X G (c.fact 82) (c.def_ 33) (fun _ _ _ _ _ _ us hl => match us, hl with | [_, _, _, _], _ => rfl),
  DH.fnxL_of X G (c.fact 83) (c.fact 84) (c.def_ 34) (fun _ _ _ _ _ _ us hl => match us, hl with | [_], _ => rfl),
  DH.fnxL_of X G (c.fact 85) (c.fact 86) (c.def_ 35) (fun _ _ _ _ _ _ us hl => match us, hl with | [_], _ => rfl)⟩
theorem all_mk {P qq : Program} {w : World} {K : PySem.W.Frag} {h : Heap} {mg : Str → Option Value} {fa : Addr} (X : K.In h) (G : h.Ns mainGlobals mg) (hfa : mg "law" = some (.ref fa)) (c : DH.SaysQ facts defs K) (hq : ∀ x ∈ (["_law_are_refused", "_law_refusals", "law"] : List Str), ((PyProof.Rows.recsOf qq).any fun e => e.name == x) = true)
    : ∃ (fd : FuncData) (cs : List (Addr × Addr)) (T : List (Addr × Str)) (C : Addr) (cm : Cm), (∀ (s : Shared) (u : Value), BindsTo s fd ⟨[u], []⟩ [("script", u)]) ∧
      (∀ p ∈ cs, (∃ x, ((PyProof.Rows.recsOf qq).any fun e => e.name == x) = true ∧ PySem.W.tabIn K x = some p) ∧ K.lookup p.2 = none) ∧ (∀ t ∈ T, ∃ p ∈ cs, p.2 = t.1) ∧
      ∀ base : Heap, K.In base → base.Ns mainGlobals mg → (∀ p ∈ cs, LamX.TabB base mg p.1 p.2) → FnOk P w K mg base (L2.CX P w) 12 fa fd ["script"] (spD ⟨K, ⟨C, T⟩, cm⟩ law) := by
  have T := txt X G c
  have e := hfa.symm.trans (DH.glo_ok X G (c.fact 85))
  cases e
  obtain ⟨fd, F⟩ : ∃ fd, FunD K "law" "law" (defArgs s_law) (defBody s_law) (defScope s_law) [] [] (He.ga K "law") fd := (c.def_ 35)
  refine ⟨fd, [(DH.cA K "_law_are_refused", DH.pA K "_law_are_refused"), (DH.cA K "_law_refusals", DH.pA K "_law_refusals"), (DH.cA K "law", DH.pA K "law")], [(DH.pA K "_law_are_refused", lamQ "_law_are_refused"), (DH.pA K "_law_refusals", lamQ "_law_refusals"), (DH.pA K "law", lamQ "law")], (He.ga K "House"), (DH.cmK K ["NoName", "NoDay", "NoHour", "NoMore", "NoShow", "NoSort", "NoStation", "NoRule", "Full", "Taken", "NoRights", "Settled", "TooLate", "NoRow", "NotLive", "TooLong", "NewsAhead", "Clash", "NoWish", "NoDeeds", "NoText"]), fun s v => (F.bindsA (ps := ["script"]) (fun _ _ _ _ _ _ us hl => match us, hl with | [_], _ => rfl)) s [v] rfl, ?_, ?_, fun base _ _ TB => ?_⟩
  · exact (List.forall_mem_cons.mpr ⟨⟨⟨"_law_are_refused", hq _ (.head _), (DH.mk_ok (c.fact 77)).1⟩, (DH.mk_ok (c.fact 77)).2.1⟩, (List.forall_mem_cons.mpr ⟨⟨⟨"_law_refusals", hq _ (.tail _ (.head _)), (DH.mk_ok (c.fact 84)).1⟩, (DH.mk_ok (c.fact 84)).2.1⟩, (List.forall_mem_cons.mpr ⟨⟨⟨"law", hq _ (.tail _ (.tail _ (.head _))), (DH.mk_ok (c.fact 86)).1⟩, (DH.mk_ok (c.fact 86)).2.1⟩, (List.forall_mem_nil _)⟩)⟩)⟩)
  · exact (List.forall_mem_cons.mpr ⟨⟨_, (.head _), rfl⟩, (List.forall_mem_cons.mpr ⟨⟨_, (.tail _ (.head _)), rfl⟩, (List.forall_mem_cons.mpr ⟨⟨_, (.tail _ (.tail _ (.head _))), rfl⟩, (List.forall_mem_nil _)⟩)⟩)⟩)
  have hcl : Hcl P w K mg base ⟨(He.ga K "House"), [(DH.pA K "_law_are_refused", lamQ "_law_are_refused"), (DH.pA K "_law_refusals", lamQ "_law_refusals"), (DH.pA K "law", lamQ "law")]⟩ := d_init T
  have tld : Tld P w K mg base ⟨(He.ga K "House"), [(DH.pA K "_law_are_refused", lamQ "_law_are_refused"), (DH.pA K "_law_refusals", lamQ "_law_refusals"), (DH.pA K "law", lamQ "law")]⟩ (DH.cmK K ["NoName", "NoDay", "NoHour", "NoMore", "NoShow", "NoSort", "NoStation", "NoRule", "Full", "Taken", "NoRights", "Settled", "TooLate", "NoRow", "NotLive", "TooLong", "NewsAhead", "Clash", "NoWish", "NoDeeds", "NoText"]) := ⟨T.er, d_law_class T, T.told⟩
  have M_law_are_refused : Mkt base mg ⟨(He.ga K "House"), [(DH.pA K "_law_are_refused", lamQ "_law_are_refused"), (DH.pA K "_law_refusals", lamQ "_law_refusals"), (DH.pA K "law", lamQ "law")]⟩ "_law_are_refused" (DH.cA K "_law_are_refused") := ⟨DH.pA K "_law_are_refused", TB _ (.head _), (.head _), DH.tab_uniq (of_decide_eq_true (c.fact 87)) rfl (.head _)⟩
  have M_law_refusals : Mkt base mg ⟨(He.ga K "House"), [(DH.pA K "_law_are_refused", lamQ "_law_are_refused"), (DH.pA K "_law_refusals", lamQ "_law_refusals"), (DH.pA K "law", lamQ "law")]⟩ "_law_refusals" (DH.cA K "_law_refusals") := ⟨DH.pA K "_law_refusals", TB _ (.tail _ (.head _)), (.tail _ (.head _)), DH.tab_uniq (of_decide_eq_true (c.fact 87)) rfl (.tail _ (.head _))⟩
  have M_law : Mkt base mg ⟨(He.ga K "House"), [(DH.pA K "_law_are_refused", lamQ "_law_are_refused"), (DH.pA K "_law_refusals", lamQ "_law_refusals"), (DH.pA K "law", lamQ "law")]⟩ "law" (DH.cA K "law") := ⟨DH.pA K "law", TB _ (.tail _ (.tail _ (.head _))), (.tail _ (.tail _ (.head _))), DH.tab_uniq (of_decide_eq_true (c.fact 87)) rfl (.tail _ (.tail _ (.head _)))⟩
  have o_NoRights : Ocl P w K mg base (DH.cmK K ["NoName", "NoDay", "NoHour", "NoMore", "NoShow", "NoSort", "NoStation", "NoRule", "Full", "Taken", "NoRights", "Settled", "TooLate", "NoRow", "NotLive", "TooLong", "NewsAhead", "Clash", "NoWish", "NoDeeds", "NoText"]) "NoRights" ["most"] osh_NoRights := d_o_NoRights T
  have h_law_pick : Df P w K mg base ⟨(He.ga K "House"), [(DH.pA K "_law_are_refused", lamQ "_law_are_refused"), (DH.pA K "_law_refusals", lamQ "_law_refusals"), (DH.pA K "law", lamQ "law")]⟩ (DH.cmK K ["NoName", "NoDay", "NoHour", "NoMore", "NoShow", "NoSort", "NoStation", "NoRule", "Full", "Taken", "NoRights", "Settled", "TooLate", "NoRow", "NotLive", "TooLong", "NewsAhead", "Clash", "NoWish", "NoDeeds", "NoText"]) "_law_pick" 1 law_pick := d_law_pick T 
  have g_law_pick : DfH P w K mg base ⟨(He.ga K "House"), [(DH.pA K "_law_are_refused", lamQ "_law_are_refused"), (DH.pA K "_law_refusals", lamQ "_law_refusals"), (DH.pA K "law", lamQ "law")]⟩ (DH.cmK K ["NoName", "NoDay", "NoHour", "NoMore", "NoShow", "NoSort", "NoStation", "NoRule", "Full", "Taken", "NoRights", "Settled", "TooLate", "NoRow", "NotLive", "TooLong", "NewsAhead", "Clash", "NoWish", "NoDeeds", "NoText"]) "_law_pick" 1 law_pick := w_law_pick T 
  have h_law_names : Df P w K mg base ⟨(He.ga K "House"), [(DH.pA K "_law_are_refused", lamQ "_law_are_refused"), (DH.pA K "_law_refusals", lamQ "_law_refusals"), (DH.pA K "law", lamQ "law")]⟩ (DH.cmK K ["NoName", "NoDay", "NoHour", "NoMore", "NoShow", "NoSort", "NoStation", "NoRule", "Full", "Taken", "NoRights", "Settled", "TooLate", "NoRow", "NotLive", "TooLong", "NewsAhead", "Clash", "NoWish", "NoDeeds", "NoText"]) "_law_names" 2 law_names := d_law_names T h_law_pick
  have h_is_name : Df P w K mg base ⟨(He.ga K "House"), [(DH.pA K "_law_are_refused", lamQ "_law_are_refused"), (DH.pA K "_law_refusals", lamQ "_law_refusals"), (DH.pA K "law", lamQ "law")]⟩ (DH.cmK K ["NoName", "NoDay", "NoHour", "NoMore", "NoShow", "NoSort", "NoStation", "NoRule", "Full", "Taken", "NoRights", "Settled", "TooLate", "NoRow", "NotLive", "TooLong", "NewsAhead", "Clash", "NoWish", "NoDeeds", "NoText"]) "is_name" 1 is_name := d_is_name T 
  have g_is_name : DfH P w K mg base ⟨(He.ga K "House"), [(DH.pA K "_law_are_refused", lamQ "_law_are_refused"), (DH.pA K "_law_refusals", lamQ "_law_refusals"), (DH.pA K "law", lamQ "law")]⟩ (DH.cmK K ["NoName", "NoDay", "NoHour", "NoMore", "NoShow", "NoSort", "NoStation", "NoRule", "Full", "Taken", "NoRights", "Settled", "TooLate", "NoRow", "NotLive", "TooLong", "NewsAhead", "Clash", "NoWish", "NoDeeds", "NoText"]) "is_name" 1 is_name := w_is_name T 
  have h_House_look_station : Mt P w K mg base ⟨(He.ga K "House"), [(DH.pA K "_law_are_refused", lamQ "_law_are_refused"), (DH.pA K "_law_refusals", lamQ "_law_refusals"), (DH.pA K "law", lamQ "law")]⟩ (DH.cmK K ["NoName", "NoDay", "NoHour", "NoMore", "NoShow", "NoSort", "NoStation", "NoRule", "Full", "Taken", "NoRights", "Settled", "TooLate", "NoRow", "NotLive", "TooLong", "NewsAhead", "Clash", "NoWish", "NoDeeds", "NoText"]) "look_station" 2 House_look_station sh_look_station := d_House_look_station T hcl h_is_name
  have g_House_look_station : MtH P w K mg base ⟨(He.ga K "House"), [(DH.pA K "_law_are_refused", lamQ "_law_are_refused"), (DH.pA K "_law_refusals", lamQ "_law_refusals"), (DH.pA K "law", lamQ "law")]⟩ (DH.cmK K ["NoName", "NoDay", "NoHour", "NoMore", "NoShow", "NoSort", "NoStation", "NoRule", "Full", "Taken", "NoRights", "Settled", "TooLate", "NoRow", "NotLive", "TooLong", "NewsAhead", "Clash", "NoWish", "NoDeeds", "NoText"]) "look_station" 2 House_look_station sh_look_station := w_House_look_station T hcl g_is_name
  have h_is_number : Df P w K mg base ⟨(He.ga K "House"), [(DH.pA K "_law_are_refused", lamQ "_law_are_refused"), (DH.pA K "_law_refusals", lamQ "_law_refusals"), (DH.pA K "law", lamQ "law")]⟩ (DH.cmK K ["NoName", "NoDay", "NoHour", "NoMore", "NoShow", "NoSort", "NoStation", "NoRule", "Full", "Taken", "NoRights", "Settled", "TooLate", "NoRow", "NotLive", "TooLong", "NewsAhead", "Clash", "NoWish", "NoDeeds", "NoText"]) "is_number" 1 is_number := d_is_number T 
  have g_is_number : DfH P w K mg base ⟨(He.ga K "House"), [(DH.pA K "_law_are_refused", lamQ "_law_are_refused"), (DH.pA K "_law_refusals", lamQ "_law_refusals"), (DH.pA K "law", lamQ "law")]⟩ (DH.cmK K ["NoName", "NoDay", "NoHour", "NoMore", "NoShow", "NoSort", "NoStation", "NoRule", "Full", "Taken", "NoRights", "Settled", "TooLate", "NoRow", "NotLive", "TooLong", "NewsAhead", "Clash", "NoWish", "NoDeeds", "NoText"]) "is_number" 1 is_number := w_is_number T 
  have h_look_span : Df P w K mg base ⟨(He.ga K "House"), [(DH.pA K "_law_are_refused", lamQ "_law_are_refused"), (DH.pA K "_law_refusals", lamQ "_law_refusals"), (DH.pA K "law", lamQ "law")]⟩ (DH.cmK K ["NoName", "NoDay", "NoHour", "NoMore", "NoShow", "NoSort", "NoStation", "NoRule", "Full", "Taken", "NoRights", "Settled", "TooLate", "NoRow", "NotLive", "TooLong", "NewsAhead", "Clash", "NoWish", "NoDeeds", "NoText"]) "look_span" 2 look_span := d_look_span T h_is_number
  have h_House_open_station : Mt P w K mg base ⟨(He.ga K "House"), [(DH.pA K "_law_are_refused", lamQ "_law_are_refused"), (DH.pA K "_law_refusals", lamQ "_law_refusals"), (DH.pA K "law", lamQ "law")]⟩ (DH.cmK K ["NoName", "NoDay", "NoHour", "NoMore", "NoShow", "NoSort", "NoStation", "NoRule", "Full", "Taken", "NoRights", "Settled", "TooLate", "NoRow", "NotLive", "TooLong", "NewsAhead", "Clash", "NoWish", "NoDeeds", "NoText"]) "open_station" 3 House_open_station sh_open_station := d_House_open_station T hcl h_is_name h_House_look_station h_look_span
  have h_is_sort : Df P w K mg base ⟨(He.ga K "House"), [(DH.pA K "_law_are_refused", lamQ "_law_are_refused"), (DH.pA K "_law_refusals", lamQ "_law_refusals"), (DH.pA K "law", lamQ "law")]⟩ (DH.cmK K ["NoName", "NoDay", "NoHour", "NoMore", "NoShow", "NoSort", "NoStation", "NoRule", "Full", "Taken", "NoRights", "Settled", "TooLate", "NoRow", "NotLive", "TooLong", "NewsAhead", "Clash", "NoWish", "NoDeeds", "NoText"]) "is_sort" 1 is_sort := d_is_sort T 
  have h_is_show : Df P w K mg base ⟨(He.ga K "House"), [(DH.pA K "_law_are_refused", lamQ "_law_are_refused"), (DH.pA K "_law_refusals", lamQ "_law_refusals"), (DH.pA K "law", lamQ "law")]⟩ (DH.cmK K ["NoName", "NoDay", "NoHour", "NoMore", "NoShow", "NoSort", "NoStation", "NoRule", "Full", "Taken", "NoRights", "Settled", "TooLate", "NoRow", "NotLive", "TooLong", "NewsAhead", "Clash", "NoWish", "NoDeeds", "NoText"]) "is_show" 2 is_show := d_is_show T h_is_name h_is_sort h_is_number
  have h_House_add_show : Mt P w K mg base ⟨(He.ga K "House"), [(DH.pA K "_law_are_refused", lamQ "_law_are_refused"), (DH.pA K "_law_refusals", lamQ "_law_refusals"), (DH.pA K "law", lamQ "law")]⟩ (DH.cmK K ["NoName", "NoDay", "NoHour", "NoMore", "NoShow", "NoSort", "NoStation", "NoRule", "Full", "Taken", "NoRights", "Settled", "TooLate", "NoRow", "NotLive", "TooLong", "NewsAhead", "Clash", "NoWish", "NoDeeds", "NoText"]) "add_show" 3 House_add_show sh_add_show := d_House_add_show T hcl h_is_show
  have h_House_now : Mt P w K mg base ⟨(He.ga K "House"), [(DH.pA K "_law_are_refused", lamQ "_law_are_refused"), (DH.pA K "_law_refusals", lamQ "_law_refusals"), (DH.pA K "law", lamQ "law")]⟩ (DH.cmK K ["NoName", "NoDay", "NoHour", "NoMore", "NoShow", "NoSort", "NoStation", "NoRule", "Full", "Taken", "NoRights", "Settled", "TooLate", "NoRow", "NotLive", "TooLong", "NewsAhead", "Clash", "NoWish", "NoDeeds", "NoText"]) "now" 1 House_now sh_now := d_House_now T hcl 
  have h_House_tick : Mt P w K mg base ⟨(He.ga K "House"), [(DH.pA K "_law_are_refused", lamQ "_law_are_refused"), (DH.pA K "_law_refusals", lamQ "_law_refusals"), (DH.pA K "law", lamQ "law")]⟩ (DH.cmK K ["NoName", "NoDay", "NoHour", "NoMore", "NoShow", "NoSort", "NoStation", "NoRule", "Full", "Taken", "NoRights", "Settled", "TooLate", "NoRow", "NotLive", "TooLong", "NewsAhead", "Clash", "NoWish", "NoDeeds", "NoText"]) "tick" 2 House_tick sh_tick := d_House_tick T hcl h_is_number h_House_now
  have h_House_station : Mt P w K mg base ⟨(He.ga K "House"), [(DH.pA K "_law_are_refused", lamQ "_law_are_refused"), (DH.pA K "_law_refusals", lamQ "_law_refusals"), (DH.pA K "law", lamQ "law")]⟩ (DH.cmK K ["NoName", "NoDay", "NoHour", "NoMore", "NoShow", "NoSort", "NoStation", "NoRule", "Full", "Taken", "NoRights", "Settled", "TooLate", "NoRow", "NotLive", "TooLong", "NewsAhead", "Clash", "NoWish", "NoDeeds", "NoText"]) "station" 3 House_station sh_station := d_House_station T hcl h_House_look_station
  have h_House_show : Mt P w K mg base ⟨(He.ga K "House"), [(DH.pA K "_law_are_refused", lamQ "_law_are_refused"), (DH.pA K "_law_refusals", lamQ "_law_refusals"), (DH.pA K "law", lamQ "law")]⟩ (DH.cmK K ["NoName", "NoDay", "NoHour", "NoMore", "NoShow", "NoSort", "NoStation", "NoRule", "Full", "Taken", "NoRights", "Settled", "TooLate", "NoRow", "NotLive", "TooLong", "NewsAhead", "Clash", "NoWish", "NoDeeds", "NoText"]) "show" 2 House_show sh_show := d_House_show T hcl h_is_name
  have h_is_day : Df P w K mg base ⟨(He.ga K "House"), [(DH.pA K "_law_are_refused", lamQ "_law_are_refused"), (DH.pA K "_law_refusals", lamQ "_law_refusals"), (DH.pA K "law", lamQ "law")]⟩ (DH.cmK K ["NoName", "NoDay", "NoHour", "NoMore", "NoShow", "NoSort", "NoStation", "NoRule", "Full", "Taken", "NoRights", "Settled", "TooLate", "NoRow", "NotLive", "TooLong", "NewsAhead", "Clash", "NoWish", "NoDeeds", "NoText"]) "is_day" 2 is_day := d_is_day T h_is_number
  have g_is_day : DfH P w K mg base ⟨(He.ga K "House"), [(DH.pA K "_law_are_refused", lamQ "_law_are_refused"), (DH.pA K "_law_refusals", lamQ "_law_refusals"), (DH.pA K "law", lamQ "law")]⟩ (DH.cmK K ["NoName", "NoDay", "NoHour", "NoMore", "NoShow", "NoSort", "NoStation", "NoRule", "Full", "Taken", "NoRights", "Settled", "TooLate", "NoRow", "NotLive", "TooLong", "NewsAhead", "Clash", "NoWish", "NoDeeds", "NoText"]) "is_day" 2 is_day := w_is_day T g_is_number
  have h_look_day : Df P w K mg base ⟨(He.ga K "House"), [(DH.pA K "_law_are_refused", lamQ "_law_are_refused"), (DH.pA K "_law_refusals", lamQ "_law_refusals"), (DH.pA K "law", lamQ "law")]⟩ (DH.cmK K ["NoName", "NoDay", "NoHour", "NoMore", "NoShow", "NoSort", "NoStation", "NoRule", "Full", "Taken", "NoRights", "Settled", "TooLate", "NoRow", "NotLive", "TooLong", "NewsAhead", "Clash", "NoWish", "NoDeeds", "NoText"]) "look_day" 3 look_day := d_look_day T h_is_day
  have g_look_day : DfH P w K mg base ⟨(He.ga K "House"), [(DH.pA K "_law_are_refused", lamQ "_law_are_refused"), (DH.pA K "_law_refusals", lamQ "_law_refusals"), (DH.pA K "law", lamQ "law")]⟩ (DH.cmK K ["NoName", "NoDay", "NoHour", "NoMore", "NoShow", "NoSort", "NoStation", "NoRule", "Full", "Taken", "NoRights", "Settled", "TooLate", "NoRow", "NotLive", "TooLong", "NewsAhead", "Clash", "NoWish", "NoDeeds", "NoText"]) "look_day" 3 look_day := w_look_day T g_is_day
  have h_House_look_since : Mt P w K mg base ⟨(He.ga K "House"), [(DH.pA K "_law_are_refused", lamQ "_law_are_refused"), (DH.pA K "_law_refusals", lamQ "_law_refusals"), (DH.pA K "law", lamQ "law")]⟩ (DH.cmK K ["NoName", "NoDay", "NoHour", "NoMore", "NoShow", "NoSort", "NoStation", "NoRule", "Full", "Taken", "NoRights", "Settled", "TooLate", "NoRow", "NotLive", "TooLong", "NewsAhead", "Clash", "NoWish", "NoDeeds", "NoText"]) "look_since" 1 House_look_since sh_look_since := d_House_look_since T hcl 
  have h_House_put_week : Mt P w K mg base ⟨(He.ga K "House"), [(DH.pA K "_law_are_refused", lamQ "_law_are_refused"), (DH.pA K "_law_refusals", lamQ "_law_refusals"), (DH.pA K "law", lamQ "law")]⟩ (DH.cmK K ["NoName", "NoDay", "NoHour", "NoMore", "NoShow", "NoSort", "NoStation", "NoRule", "Full", "Taken", "NoRights", "Settled", "TooLate", "NoRow", "NotLive", "TooLong", "NewsAhead", "Clash", "NoWish", "NoDeeds", "NoText"]) "put_week" 4 House_put_week sh_put_week := d_House_put_week T hcl o_NoRights h_House_station h_is_number h_House_show h_look_day h_House_look_since
  have h_House_clear_week : Mt P w K mg base ⟨(He.ga K "House"), [(DH.pA K "_law_are_refused", lamQ "_law_are_refused"), (DH.pA K "_law_refusals", lamQ "_law_refusals"), (DH.pA K "law", lamQ "law")]⟩ (DH.cmK K ["NoName", "NoDay", "NoHour", "NoMore", "NoShow", "NoSort", "NoStation", "NoRule", "Full", "Taken", "NoRights", "Settled", "TooLate", "NoRow", "NotLive", "TooLong", "NewsAhead", "Clash", "NoWish", "NoDeeds", "NoText"]) "clear_week" 4 House_clear_week sh_clear_week := d_House_clear_week T hcl h_House_look_station h_is_number h_look_day h_look_span h_House_look_since
  have h_laid : Df P w K mg base ⟨(He.ga K "House"), [(DH.pA K "_law_are_refused", lamQ "_law_are_refused"), (DH.pA K "_law_refusals", lamQ "_law_refusals"), (DH.pA K "law", lamQ "law")]⟩ (DH.cmK K ["NoName", "NoDay", "NoHour", "NoMore", "NoShow", "NoSort", "NoStation", "NoRule", "Full", "Taken", "NoRights", "Settled", "TooLate", "NoRow", "NotLive", "TooLong", "NewsAhead", "Clash", "NoWish", "NoDeeds", "NoText"]) "laid" 1 laid := d_laid T 
  have h_laid_with : Df P w K mg base ⟨(He.ga K "House"), [(DH.pA K "_law_are_refused", lamQ "_law_are_refused"), (DH.pA K "_law_refusals", lamQ "_law_refusals"), (DH.pA K "law", lamQ "law")]⟩ (DH.cmK K ["NoName", "NoDay", "NoHour", "NoMore", "NoShow", "NoSort", "NoStation", "NoRule", "Full", "Taken", "NoRights", "Settled", "TooLate", "NoRow", "NotLive", "TooLong", "NewsAhead", "Clash", "NoWish", "NoDeeds", "NoText"]) "laid_with" 2 laid_with := d_laid_with T h_laid
  have h_House_rows_by_week : Mt P w K mg base ⟨(He.ga K "House"), [(DH.pA K "_law_are_refused", lamQ "_law_are_refused"), (DH.pA K "_law_refusals", lamQ "_law_refusals"), (DH.pA K "law", lamQ "law")]⟩ (DH.cmK K ["NoName", "NoDay", "NoHour", "NoMore", "NoShow", "NoSort", "NoStation", "NoRule", "Full", "Taken", "NoRights", "Settled", "TooLate", "NoRow", "NotLive", "TooLong", "NewsAhead", "Clash", "NoWish", "NoDeeds", "NoText"]) "rows_by_week" 3 House_rows_by_week sh_rows_by_week := d_House_rows_by_week T hcl h_laid h_laid_with
  have g_House_rows_by_week : MtH P w K mg base ⟨(He.ga K "House"), [(DH.pA K "_law_are_refused", lamQ "_law_are_refused"), (DH.pA K "_law_refusals", lamQ "_law_refusals"), (DH.pA K "law", lamQ "law")]⟩ (DH.cmK K ["NoName", "NoDay", "NoHour", "NoMore", "NoShow", "NoSort", "NoStation", "NoRule", "Full", "Taken", "NoRights", "Settled", "TooLate", "NoRow", "NotLive", "TooLong", "NewsAhead", "Clash", "NoWish", "NoDeeds", "NoText"]) "rows_by_week" 3 House_rows_by_week_h sh_rows_by_week := w_House_rows_by_week T hcl 
  have h_House_week_rows : Mt P w K mg base ⟨(He.ga K "House"), [(DH.pA K "_law_are_refused", lamQ "_law_are_refused"), (DH.pA K "_law_refusals", lamQ "_law_refusals"), (DH.pA K "law", lamQ "law")]⟩ (DH.cmK K ["NoName", "NoDay", "NoHour", "NoMore", "NoShow", "NoSort", "NoStation", "NoRule", "Full", "Taken", "NoRights", "Settled", "TooLate", "NoRow", "NotLive", "TooLong", "NewsAhead", "Clash", "NoWish", "NoDeeds", "NoText"]) "week_rows" 4 House_week_rows sh_week_rows := d_House_week_rows T h_House_look_station h_look_day h_House_rows_by_week
  have g_House_week_rows : MtH P w K mg base ⟨(He.ga K "House"), [(DH.pA K "_law_are_refused", lamQ "_law_are_refused"), (DH.pA K "_law_refusals", lamQ "_law_refusals"), (DH.pA K "law", lamQ "law")]⟩ (DH.cmK K ["NoName", "NoDay", "NoHour", "NoMore", "NoShow", "NoSort", "NoStation", "NoRule", "Full", "Taken", "NoRights", "Settled", "TooLate", "NoRow", "NotLive", "TooLong", "NewsAhead", "Clash", "NoWish", "NoDeeds", "NoText"]) "week_rows" 4 House_week_rows_h sh_week_rows := w_House_week_rows T g_House_look_station g_look_day g_House_rows_by_week
  have h_House_own_rows : Mt P w K mg base ⟨(He.ga K "House"), [(DH.pA K "_law_are_refused", lamQ "_law_are_refused"), (DH.pA K "_law_refusals", lamQ "_law_refusals"), (DH.pA K "law", lamQ "law")]⟩ (DH.cmK K ["NoName", "NoDay", "NoHour", "NoMore", "NoShow", "NoSort", "NoStation", "NoRule", "Full", "Taken", "NoRights", "Settled", "TooLate", "NoRow", "NotLive", "TooLong", "NewsAhead", "Clash", "NoWish", "NoDeeds", "NoText"]) "own_rows" 5 House_own_rows sh_own_rows := d_House_own_rows T hcl h_House_week_rows
  have h_law_are_refused : Df P w K mg base ⟨(He.ga K "House"), [(DH.pA K "_law_are_refused", lamQ "_law_are_refused"), (DH.pA K "_law_refusals", lamQ "_law_refusals"), (DH.pA K "law", lamQ "law")]⟩ (DH.cmK K ["NoName", "NoDay", "NoHour", "NoMore", "NoShow", "NoSort", "NoStation", "NoRule", "Full", "Taken", "NoRights", "Settled", "TooLate", "NoRow", "NotLive", "TooLong", "NewsAhead", "Clash", "NoWish", "NoDeeds", "NoText"]) "_law_are_refused" 8 law_are_refused := d_law_are_refused T tld M_law_are_refused h_House_put_week h_House_clear_week h_House_week_rows h_House_own_rows
  have h_law_bad : Df P w K mg base ⟨(He.ga K "House"), [(DH.pA K "_law_are_refused", lamQ "_law_are_refused"), (DH.pA K "_law_refusals", lamQ "_law_refusals"), (DH.pA K "law", lamQ "law")]⟩ (DH.cmK K ["NoName", "NoDay", "NoHour", "NoMore", "NoShow", "NoSort", "NoStation", "NoRule", "Full", "Taken", "NoRights", "Settled", "TooLate", "NoRow", "NotLive", "TooLong", "NewsAhead", "Clash", "NoWish", "NoDeeds", "NoText"]) "_law_bad" 2 law_bad := d_law_bad T h_law_pick
  have h_House_times : Mt P w K mg base ⟨(He.ga K "House"), [(DH.pA K "_law_are_refused", lamQ "_law_are_refused"), (DH.pA K "_law_refusals", lamQ "_law_refusals"), (DH.pA K "law", lamQ "law")]⟩ (DH.cmK K ["NoName", "NoDay", "NoHour", "NoMore", "NoShow", "NoSort", "NoStation", "NoRule", "Full", "Taken", "NoRights", "Settled", "TooLate", "NoRow", "NotLive", "TooLong", "NewsAhead", "Clash", "NoWish", "NoDeeds", "NoText"]) "times" 3 House_times sh_times := d_House_times T hcl h_House_show
  have h_House_put : Mt P w K mg base ⟨(He.ga K "House"), [(DH.pA K "_law_are_refused", lamQ "_law_are_refused"), (DH.pA K "_law_refusals", lamQ "_law_refusals"), (DH.pA K "law", lamQ "law")]⟩ (DH.cmK K ["NoName", "NoDay", "NoHour", "NoMore", "NoShow", "NoSort", "NoStation", "NoRule", "Full", "Taken", "NoRights", "Settled", "TooLate", "NoRow", "NotLive", "TooLong", "NewsAhead", "Clash", "NoWish", "NoDeeds", "NoText"]) "put" 6 House_put sh_put := d_House_put T hcl o_NoRights h_House_station h_look_day h_House_show h_is_number h_House_own_rows h_laid_with h_House_times
  have h_House_deeds : Mt P w K mg base ⟨(He.ga K "House"), [(DH.pA K "_law_are_refused", lamQ "_law_are_refused"), (DH.pA K "_law_refusals", lamQ "_law_refusals"), (DH.pA K "law", lamQ "law")]⟩ (DH.cmK K ["NoName", "NoDay", "NoHour", "NoMore", "NoShow", "NoSort", "NoStation", "NoRule", "Full", "Taken", "NoRights", "Settled", "TooLate", "NoRow", "NotLive", "TooLong", "NewsAhead", "Clash", "NoWish", "NoDeeds", "NoText"]) "deeds" 1 House_deeds sh_deeds := d_House_deeds T hcl 
  have g_House_deeds : MtH P w K mg base ⟨(He.ga K "House"), [(DH.pA K "_law_are_refused", lamQ "_law_are_refused"), (DH.pA K "_law_refusals", lamQ "_law_refusals"), (DH.pA K "law", lamQ "law")]⟩ (DH.cmK K ["NoName", "NoDay", "NoHour", "NoMore", "NoShow", "NoSort", "NoStation", "NoRule", "Full", "Taken", "NoRights", "Settled", "TooLate", "NoRow", "NotLive", "TooLong", "NewsAhead", "Clash", "NoWish", "NoDeeds", "NoText"]) "deeds" 1 House_deeds sh_deeds := w_House_deeds T hcl 
  have h_law_are_rights : Df P w K mg base ⟨(He.ga K "House"), [(DH.pA K "_law_are_refused", lamQ "_law_are_refused"), (DH.pA K "_law_refusals", lamQ "_law_refusals"), (DH.pA K "law", lamQ "law")]⟩ (DH.cmK K ["NoName", "NoDay", "NoHour", "NoMore", "NoShow", "NoSort", "NoStation", "NoRule", "Full", "Taken", "NoRights", "Settled", "TooLate", "NoRow", "NotLive", "TooLong", "NewsAhead", "Clash", "NoWish", "NoDeeds", "NoText"]) "_law_are_rights" 5 law_are_rights := d_law_are_rights T h_House_put_week h_House_station h_law_pick h_House_week_rows h_House_deeds g_law_pick g_House_week_rows g_House_deeds
  have h_law_refusals : Df P w K mg base ⟨(He.ga K "House"), [(DH.pA K "_law_are_refused", lamQ "_law_are_refused"), (DH.pA K "_law_refusals", lamQ "_law_refusals"), (DH.pA K "law", lamQ "law")]⟩ (DH.cmK K ["NoName", "NoDay", "NoHour", "NoMore", "NoShow", "NoSort", "NoStation", "NoRule", "Full", "Taken", "NoRights", "Settled", "TooLate", "NoRow", "NotLive", "TooLong", "NewsAhead", "Clash", "NoWish", "NoDeeds", "NoText"]) "_law_refusals" 9 law_refusals := d_law_refusals T tld M_law_refusals hcl h_law_names h_law_pick h_House_open_station h_House_add_show h_House_tick h_law_are_refused h_law_bad h_House_put_week h_House_clear_week h_House_now h_House_put h_House_deeds h_law_are_rights
  exact d_law T tld M_law h_law_refusals (DH.funL_of (c.fact 86) F)
end LK
namespace LK
open PySem L2 DL
/-! ### _law_pick -/
theorem pk_while (a b c d e : Option Val) : ∀ (n : Nat) (r t : Int), t < n → ∃ r' t', ∀ w, whileL law_pick_l2 law_pick_l1 (n + 1) [a, b, c, d, e, some (fz (.int r)), some (fz (.int t))] w = .next [a, b, c, d, e, some (fz (.int r')), some (fz (.int t'))] w := by
  intro n
  induction n with
  | zero =>
    intro r t h
    refine ⟨r, t, fun w => ?_⟩
    have h0 : ¬ (t > 0) := by omega
    by_cases hr : r > 0
    · simp [whileL, law_pick_l2, hr, h0]
    · simp [whileL, law_pick_l2, hr]
  | succ n ih =>
    intro r t h
    by_cases hr : r > 0
    · by_cases ht : t > 0
      · obtain ⟨r', t', e⟩ := ih (r / 840) (t - 1) (by omega)
        refine ⟨r', t', fun w => ?_⟩
        rw [whileL]
        have := cdiv r 840 (by decide) (by decide)
        simp [law_pick_l2, hr, ht]
        simp [law_pick_l1, this]
        exact e w
      · refine ⟨r, t, fun w => ?_⟩
        simp [whileL, law_pick_l2, hr, ht]
    · refine ⟨r, t, fun w => ?_⟩
      simp [whileL, law_pick_l2, hr]
noncomputable def pkR : DS := sSeq (whileL law_pick_l2 law_pick_l1 100000)
    (sSeq (sIf (tst (dOp gGt (dVar 5) (dC (.int 0)))) (sRet (dOp gMod (dOp gMod (dVar 5) (dC (.int 840))) (dVar 2))) sNext)
    (sSeq (sSetF 4 (dOp gMod (dOp gMul (dOp gAdd (dOp gMul (dVar 3) (dC (.int 31))) (dOp gMul (dC (.int 6151)) (dOp gAdd (dVar 1) (dC (.int 1))))) (dC (.int 40692))) (dC (.int 2147483399))))
    (sRet (dOp gMod (dOp gMod (dOp gAdd (dOp gMul (dVar 4) (dVar 4)) (dOp gDiv (dVar 4) (dC (.int 31)))) (dC (.int 2147483629))) (dVar 2)))))
theorem pick_tail (ns : List Int) (k m cell r0 t0 : Int) (ht : t0 < 90000) (hm : 0 < m) : ∃ p, 0 ≤ p ∧ p < m ∧ ∀ w, pkR [some (fz (.scr ns)), some (fz (.int k)), some (fz (.int m)), some (fz (.int cell)), none, some (fz (.int r0)), some (fz (.int t0))] w = .ret (fz (.int p)) w := by
  obtain ⟨r, t, e⟩ := pk_while (some (fz (.scr ns))) (some (fz (.int k))) (some (fz (.int m))) (some (fz (.int cell))) none 99999 r0 t0 (by omega)
  by_cases hr : r > 0
  · refine ⟨r % 840 % m, Int.emod_nonneg _ (by omega), Int.emod_lt_of_pos _ hm, fun w => ?_⟩
    simp only [pkR, sSeq_s]
    rw [e w]
    simp [hr, hm]
  · have a1 := cmulR cell 31 (by decide) (by decide)
    have a2 := cmulL 6151 (k + 1) (by decide) (by decide)
    have a3 := cmulR (cell * 31 + 6151 * (k + 1)) 40692 (by decide) (by decide)
    have h1 : 0 ≤ (cell * 31 + 6151 * (k + 1)) * 40692 % 2147483399 := Int.emod_nonneg _ (by decide)
    have h2 : (cell * 31 + 6151 * (k + 1)) * 40692 % 2147483399 < 2147483399 := Int.emod_lt_of_pos _ (by decide)
    obtain ⟨dr, hdr⟩ : ∃ dr, dr = (cell * 31 + 6151 * (k + 1)) * 40692 % 2147483399 := ⟨_, rfl⟩
    rw [← hdr] at h1 h2
    have a4 := cmulR dr dr (by omega) (by omega)
    have a5 := cdiv dr 31 (by decide) (by decide)
    refine ⟨(dr * dr + dr / 31) % 2147483629 % m, Int.emod_nonneg _ (by omega), Int.emod_lt_of_pos _ hm, fun w => ?_⟩
    simp only [pkR, sSeq_s]
    rw [e w]
    simp [hr, hm, a1, a2, a3, ← hdr, a4, a5]
theorem pick_ex (ns : List Int) (k m : Int) (hl : ns.length ≤ 63) (hk : 0 ≤ k) (hk2 : k < 90000) (hm : 0 < m) : ∃ p, 0 ≤ p ∧ p < m ∧ ∀ w, law_pick [.scr ns, .int k, .int m] w = .ok (fz (.int p)) w := by
  have c2 := cpow_10_18
  cases ns with
  | nil =>
    obtain ⟨p, h1, h2, e⟩ := pick_tail [] k m 0 0 k (by omega) hm
    refine ⟨p, h1, h2, fun w => ?_⟩
    have e := e w
    unfold pkR at e
    have c3 := cdiv 0 1000000000000000000 (by decide) (by decide)
    have c4 := cdiv k 1 (by decide) (by decide)
    simp [law_pick, fnD, law_pick_b, gEq_scrN, c2, c3, c4]
    simp at e
    rw [e]
  | cons n r =>
    have hL : (0 : Int) < (n :: r).length := by simp
    have i0 : 0 ≤ k % ((n :: r).length : Int) := Int.emod_nonneg _ (by omega)
    have i1 : k % ((n :: r).length : Int) < (n :: r).length := Int.emod_lt_of_pos _ hL
    obtain ⟨cell, hc⟩ : ∃ c, (n :: r)[(k % ((n :: r).length : Int)).toNat]? = some c := ⟨_, List.getElem?_eq_getElem (by omega)⟩
    obtain ⟨p, h1, h2, e⟩ := pick_tail (n :: r) k m cell (cell / 1000000000000000000) (k / ((n :: r).length : Int)) (by have := Int.ediv_le_self ((n :: r).length : Int) hk; omega) hm
    refine ⟨p, h1, h2, fun w => ?_⟩
    have e := e w
    unfold pkR at e
    have ha := atI_pos i0 i1
    rw [hc] at ha
    have hd := cdiv k ((n :: r).length) hL (by omega)
    have c3 := cdiv cell 1000000000000000000 (by decide) (by decide)
    have hmx : ¬ ((1 : Int) > ((n :: r).length : Int)) := by omega
    generalize (n :: r) = ns at *
    have hne : ns ≠ [] := by intro z; rw [z] at hL; simp at hL
    have hne2 : (ns != []) = true := by simp [hne]
    have hg : ∀ m m', gMod ⟨m, .int k⟩ ⟨m', .int ns.length⟩ w = .ok (fz (.int (k % (ns.length : Int)))) w := fun m m' => gMod_ii w m m' _ _ hL
    simp only [law_pick, fnD, law_pick_b]
    simp [gEq_scrN, gIx_scr, hne, hg, ha, hd, hmx, c2, c3]
    simp at e
    rw [e]
open Classical in
/-- the number drawn at k below m -/
noncomputable def pick (ns : List Int) (k m : Int) : Int := if h : ns.length ≤ 63 ∧ 0 ≤ k ∧ k < 90000 ∧ 0 < m then choose (pick_ex ns k m h.1 h.2.1 h.2.2.1 h.2.2.2) else 0
theorem pick_ok {ns : List Int} {k m : Int} (hl : ns.length ≤ 63) (hk : 0 ≤ k) (hk2 : k < 90000) (hm : 0 < m) : 0 ≤ pick ns k m ∧ pick ns k m < m ∧ ∀ w, law_pick [.scr ns, .int k, .int m] w = .ok (fz (.int (pick ns k m))) w := by
  unfold pick
  rw [dif_pos ⟨hl, hk, hk2, hm⟩]
  exact Classical.choose_spec (pick_ex ns k m hl hk hk2 hm)
/-! ### _law_names -/
/-- a drawn name: some letters and a mark, behind them or ahead -/
def NmK (fl : Bool) (c : Nat) (x : List Nat) : Prop := ∃ r : List Nat, r.length ≤ 5 ∧ (∀ z ∈ r, Lt z) ∧ Lt c ∧ x = if fl then r ++ [c] else c :: r
theorem names_rest (ns : List Int) (hl : ns.length ≤ 63) (at' k : Int) (h0 : 0 ≤ at') (h1 : at' < 1000) (k0 : 0 ≤ k) (k1 : k < 26) (a c e f : Option Val) (v : Int) (v0 : 0 ≤ v) (v5 : v ≤ 5) :
    ∃ (r : List Nat) (z : Option Val), r.length ≤ 5 ∧ (∀ z ∈ r, Lt z) ∧ ∀ w, forL (.nm 7) law_names_l1 (rngD 0 v.toNat) [some (fz (.scr ns)), some (fz (.int at')), a, some (fz (.int k)), some (fz (.str "abcdefghijklmnopqrstuvwxyz")), c, some (fz (.str "")), e, f] w =
      .next [some (fz (.scr ns)), some (fz (.int at')), a, some (fz (.int k)), some (fz (.str "abcdefghijklmnopqrstuvwxyz")), c, some (fz (.str (nm r))), z, f] w := by
  obtain ⟨ρ', h, r, z, hr, hz, e'⟩ := forL_pure (t := .nm 7) (b := law_names_l1) (I := fun i ρ => ∃ (r : List Nat) (z : Option Val), r.length = i ∧ (∀ z ∈ r, Lt z) ∧ ρ = [some (fz (.scr ns)), some (fz (.int at')), a, some (fz (.int k)), some (fz (.str "abcdefghijklmnopqrstuvwxyz")), c, some (fz (.str (nm r))), z, f])
    (rngD 0 v.toNat) 0 [some (fz (.scr ns)), some (fz (.int at')), a, some (fz (.int k)), some (fz (.str "abcdefghijklmnopqrstuvwxyz")), c, some (fz (.str "")), e, f] ⟨[], e, rfl, by simp, rfl⟩ (by
      rintro i d ρ hd ⟨r, z, hr, hz, rfl⟩
      obtain ⟨hi, rfl⟩ := rngD_get hd
      have p1 := pick_ok (ns := ns) (k := at' + 7 * k + (0 + (i : Int)) + 1) (m := 26) hl (by omega) (by omega) (by decide)
      generalize pick ns (at' + 7 * k + (0 + (i : Int)) + 1) 26 = p at p1
      have c1 := cmulL 7 k (by decide) (by decide)
      have l1 := letters_ix p1.1 p1.2.1
      have q := p1.2.2
      have hn : (nm r).length + (nm [97 + p.toNat]).length ≤ sizeLine := sz_le (by rw [nm_len, nm_len]; simp; omega)
      have ga : ∀ m m' w, gAdd ⟨m, .str (nm r)⟩ ⟨m', .str (nm [97 + p.toNat])⟩ w = .ok (fz (.str (nm (r ++ [97 + p.toNat])))) w := fun m m' w => by simp [gAdd, hn, nm_app]
      refine ⟨_, [some (fz (.scr ns)), some (fz (.int at')), a, some (fz (.int k)), some (fz (.str "abcdefghijklmnopqrstuvwxyz")), c, some (fz (.str (nm (r ++ [97 + p.toNat])))), some (fz (.int (0 + (i : Int)))), f], rfl, fun w => ?_, r ++ [97 + p.toNat], some (fz (.int (0 + (i : Int)))), ?_, ?_, rfl⟩
      · simp only [law_names_l1]
        simp at q
        simp [c1, q, l1, ga]
      · simp; omega
      · intro y hy
        rcases List.mem_append.mp hy with hy | hy
        · exact hz y hy
        · simp at hy; subst hy; unfold Lt; omega)
  refine ⟨r, z, ?_, hz, fun w => by rw [h w, e']⟩
  rw [hr]
  simp
  omega
theorem names_ex (ns : List Int) (hl : ns.length ≤ 63) (at' : Int) (h0 : 0 ≤ at') (h1 : at' < 1000) (many : Nat) (hm : many ≤ 26) :
    ∃ xs : List (List Nat), xs.length = many ∧ (∀ k (h : k < xs.length), NmK (decide (pick ns (at' + 61) 2 = 0)) (97 + ((pick ns (at' + 60) 26 + k) % 26).toNat) xs[k]) ∧ ∀ w, law_names [.scr ns, .int at', .int many] w = .ok ⟨.nw, .lst (xs.map fun x => .str (nm x))⟩ w := by
  have p2 := pick_ok (ns := ns) (k := at' + 60) (m := 26) hl (by omega) (by omega) (by decide)
  have p3 := pick_ok (ns := ns) (k := at' + 61) (m := 2) hl (by omega) (by omega) (by decide)
  obtain ⟨ρ', h, xs, z1, z2, z3, z4, hr, hz, e'⟩ := forL_pure (t := .nm 3) (b := law_names_l2) (I := fun i ρ => ∃ (xs : List (List Nat)) (z1 z2 z3 z4 : Option Val), xs.length = i ∧ (∀ k (h : k < xs.length), NmK (decide (pick ns (at' + 61) 2 = 0)) (97 + ((pick ns (at' + 60) 26 + k) % 26).toNat) xs[k]) ∧ ρ = [some (fz (.scr ns)), some (fz (.int at')), some (fz (.int many)), z1, some (fz (.str "abcdefghijklmnopqrstuvwxyz")), some ⟨.nw, .lst (xs.map fun x => .str (nm x))⟩, z2, z3, z4])
    (rngD 0 many) 0 [some (fz (.scr ns)), some (fz (.int at')), some (fz (.int many)), none, some (fz (.str "abcdefghijklmnopqrstuvwxyz")), some ⟨.nw, .lst []⟩, none, none, none] ⟨[], none, none, none, none, rfl, by simp, rfl⟩ (by
      rintro i d ρ hd ⟨xs, z1, z2, z3, z4, hx, hz, rfl⟩
      obtain ⟨hi, rfl⟩ := rngD_get hd
      have p1 := pick_ok (ns := ns) (k := at' + 7 * (0 + (i : Int))) (m := 5) hl (by omega) (by omega) (by decide)
      generalize pick ns (at' + 7 * (0 + (i : Int))) 5 = p at p1
      generalize hp2 : pick ns (at' + 60) 26 = q2 at p2 hz ⊢
      generalize hp3 : pick ns (at' + 61) 2 = q3 at p3 hz ⊢
      have c1 := cmulL 7 (i : Int) (by decide) (by decide)
      obtain ⟨v, hv, ev⟩ : ∃ v ∈ [0, 0, 1, 2, 5], atI [D.int 0, D.int 0, D.int 1, D.int 2, D.int 5] p = some (.int v) := atI_ints [0, 0, 1, 2, 5] p p1.1 p1.2.1
      have hv5 : 0 ≤ v ∧ v ≤ 5 := by simp at hv; omega
      have i0 : 0 ≤ (q2 + (i : Int)) % 26 := Int.emod_nonneg _ (by decide)
      have i1 : (q2 + (i : Int)) % 26 < 26 := Int.emod_lt_of_pos _ (by decide)
      obtain ⟨r, zz, r5, rl, er⟩ := names_rest ns hl at' (0 + (i : Int)) h0 h1 (by omega) (by omega) (some (fz (.int many))) (some ⟨.nw, .lst (xs.map fun x => .str (nm x))⟩) z3 z4 v hv5.1 hv5.2
      have l1 := letters_ix i0 i1
      have q1 := p1.2.2
      have w2 := p2.2.2
      have w3 := p3.2.2
      generalize hcc : 97 + ((q2 + (i : Int)) % 26).toNat = cc at l1
      have ltc : Lt cc := by unfold Lt; omega
      have hn : (nm r).length + (nm [cc]).length ≤ sizeLine := sz_le (by rw [nm_len, nm_len]; simp; omega)
      have hn' : (nm [cc]).length + (nm r).length ≤ sizeLine := sz_le (by rw [nm_len, nm_len]; simp; omega)
      have ga : ∀ m m' w, gAdd ⟨m, .str (nm r)⟩ ⟨m', .str (nm [cc])⟩ w = .ok (fz (.str (nm (r ++ [cc])))) w := fun m m' w => by simp [gAdd, hn, nm_app]
      have gb : ∀ m m' w, gAdd ⟨m, .str (nm [cc])⟩ ⟨m', .str (nm r)⟩ w = .ok (fz (.str (nm (cc :: r)))) w := fun m m' w => by simp [gAdd, hn', nm_app]
      have hsz : xs.length < sizeLine := sz_lt (by omega)
      have hv2 : RO v := ro (by omega) (by omega)
      refine ⟨_, [some (fz (.scr ns)), some (fz (.int at')), some (fz (.int many)), some (fz (.int (0 + (i : Int)))), some (fz (.str "abcdefghijklmnopqrstuvwxyz")), some ⟨.nw, .lst ((xs ++ [if decide (q3 = 0) then r ++ [cc] else cc :: r]).map fun x => .str (nm x))⟩, some (fz (.str (nm r))), zz, some (fz (.str (nm [cc])))], rfl, fun w => ?_, xs ++ [if decide (q3 = 0) then r ++ [cc] else cc :: r], some (fz (.int (0 + (i : Int)))), some (fz (.str (nm r))), zz, some (fz (.str (nm [cc]))), by simp; omega, ?_, rfl⟩
      · simp only [law_names_l2]
        simp at q1 er
        by_cases hq : q3 = 0
        · simp [c1, q1, ev, hv2, er, w2, w3, l1, ga, hq, hsz]
        · simp [c1, q1, ev, hv2, er, w2, w3, l1, gb, hq, hsz]
      · intro k hk
        by_cases hk2 : k < xs.length
        · rw [List.getElem_append_left hk2]
          exact hz k hk2
        · have : k = xs.length := by simp at hk; omega
          subst this
          simp only [List.getElem_concat_length]
          refine ⟨r, r5, rl, ?_, ?_⟩
          · rw [hx, Nat.zero_add, hcc]; exact ltc
          · rw [hx, Nat.zero_add, hcc])
  refine ⟨xs, by rw [hr]; simp, hz, fun w => ?_⟩
  have hro : RO (many : Int) := ro (by omega) (by omega)
  simp [law_names, fnD, law_names_b, hro]
  rw [h w, e']
  rfl
/-! ### is_number -/
def numB (d : D) (lo hi : Int) : Bool := match d with
  | .int i => decide (lo ≤ i) && decide (i ≤ hi)
  | _ => false
/-- data that a look may take: no object, no text too long -/
def okD (d : D) : Bool := match d with
  | .str x => decide (x.length ≤ 10000)
  | .obj _ => false
  | .exc _ => false
  | .dK _ => false
  | .dT _ => false
  | _ => true
theorem is_number_ok (d : D) (lo hi : Int) (h : okD d = true) (w : W) : is_number [d, .int lo, .int hi] w = .ok (fz (.bl (numB d lo hi))) w := by
  cases d <;> simp [is_number, fnD, is_number_b, gIsiT, gIsi, tyD, numB] <;> try (simp [okD] at h; done)
  rename_i i
  by_cases h1 : lo ≤ i
  · simp [h1]
  · simp [h1]
/-! ### days and hours -/
theorem is_day_ok (d : D) (h : okD d = true) (w : W) : is_day [d] w = .ok (fz (.bl (numB d 0 99))) w := by
  have := is_number_ok d 0 99 h w
  simp [is_day, fnD, is_day_b, this]
theorem look_day_ok (d : D) (h : okD d = true) (w : W) : look_day [d] w = if numB d 0 99 then .ok (fz .non) w else .ex ⟨"NoDay", []⟩ w := by
  have := is_day_ok d h w
  cases q : numB d 0 99 <;> simp [look_day, fnD, look_day_b, this, q]
/-! ### is_name -/
def isL (c : Nat) : Bool := decide (97 ≤ c) && decide (c ≤ 122)
def nameL (cs : List Nat) : Bool := decide (1 ≤ cs.length) && decide (cs.length ≤ 6) && cs.all isL
def nameB (d : D) : Bool := match d with
  | .str x => nameL x.cps.toList
  | _ => false
theorem letters_mem (c : Nat) : (c ∈ (Str.ofString "abcdefghijklmnopqrstuvwxyz").cps.toList) ↔ isL c = true := by
  have e : (Str.ofString "abcdefghijklmnopqrstuvwxyz").cps.toList = List.range' 97 26 := by decide +kernel
  rw [e, List.mem_range'_1]
  unfold isL
  simp
  omega
theorem is_name_ok (d : D) (h : okD d = true) (w : W) : is_name [d] w = .ok (fz (.bl (nameB d))) w := by
  cases d <;> simp [is_name, fnD, is_name_b, gIsiT, gIsi, tyD, nameB] <;> try (simp [okD] at h; done)
  rename_i x
  have hs : x.length ≤ sizeLine := sz_le (by simpa [okD] using h)
  have hl : x.length = x.cps.toList.length := by simp [Str.length]
  have gl : ∀ m w, gLen [⟨m, .str x⟩] w = .ok (fz (.int x.length)) w := fun m w => by simp [gLen, hs]
  have e1 : dLc (iSq (dVar 0)) (.nm 1) tYesD (dOp (gIn false) (dVar 1) (dC (.str "abcdefghijklmnopqrstuvwxyz"))) [1] [some (fz (.str x)), none] w = .ok ⟨.nw, .lst (x.cps.toList.map fun c => .bl (isL c))⟩ w := by
    refine dLc_ok (b := true) (ds := sgnD x) (by simp [iSq]) (by simpa [sgnD, Str.length] using hs) ?_
    refine lcL_all (fun c : Nat => D.str ⟨#[c]⟩) (fun c => .bl (isL c)) x.cps.toList (fun c _ => ⟨_, rfl, .fz, rfl, fun w => ?_⟩) w
    simp only [dOp_s, dVar_s, List.set_cons_succ, List.set_cons_zero, wipeD_cons, wipeD_nil]
    simp [gIn, sgn]
    have := letters_mem c
    simp at this
    by_cases hc : isL c = true
    · simp [hc, this]
    · simp [hc, this]
  have a1 := gAll_map isL x.cps.toList .nw
  unfold nameL
  rw [← hl]
  by_cases h1 : 1 ≤ x.length
  · have h1' : (1 : Int) ≤ (x.length : Int) := by omega
    by_cases h2 : x.length ≤ 6
    · have h2' : (x.length : Int) ≤ 6 := by omega
      simp [gl, h1, h2, h1', h2', e1, a1]
    · have h2' : ¬ (x.length : Int) ≤ 6 := by omega
      simp [gl, h1, h2, h1', h2']
  · have h1' : ¬ (1 : Int) ≤ (x.length : Int) := by omega
    simp [gl, h1, h1']
/-! ### is_sort, is_show -/
def sortB (d : D) : Bool := match d with
  | .str x => x == "news" || x == "talk" || x == "tune"
  | _ => false
def boolB (d : D) : Bool := match d with
  | .bl _ => true
  | _ => false
def showB (d : D) : Bool := match d with
  | .tup [a, b, c, l, e] => nameB a && sortB b && numB c 1 8 && boolB l && numB e 0 9
  | _ => false
theorem is_sort_ok (d : D) (h : okD d = true) (w : W) : is_sort [d] w = .ok (fz (.bl (sortB d))) w := by
  cases d <;> simp [is_sort, fnD, is_sort_b, gIsiT, gIsi, tyD, sortB] <;> try (simp [okD] at h; done)
  rename_i x
  simp [gIn, flD, eqD]
  have c : ∀ a b : Str, (a == b) = (b == a) := fun a b => by
    rw [Bool.eq_iff_iff, beq_iff_eq, beq_iff_eq]
    exact ⟨Eq.symm, Eq.symm⟩
  rw [c "news" x, c "talk" x, c "tune" x, Bool.or_assoc]
/-- data that is_show may take -/
def okS (d : D) : Bool := match d with
  | .tup ds => ds.all okD
  | .obj _ => false
  | .exc _ => false
  | .dK _ => false
  | .dT _ => false
  | _ => true
theorem is_show_ok (d : D) (h : okS d = true) (w : W) : is_show [d] w = .ok (fz (.bl (showB d))) w := by
  cases d <;> try (simp [okS] at h; done)
  case tup ds =>
    by_cases hl : ds.length = 5
    · match ds, hl with
      | [a, b, c, l, e], _ =>
        simp [okS] at h
        obtain ⟨ha, hb, hc, hd, he⟩ := h
        have n1 := is_name_ok a ha
        have n2 := is_sort_ok b hb
        have n3 := is_number_ok c 1 8 hc
        have n4 := is_number_ok e 0 9 he
        have n5 : ∀ m w, gIsiT "bool" ⟨m, l⟩ w = .ok (fz (.bl (boolB l))) w := by
          intro m w
          cases l <;> simp [gIsiT, gIsi, tyD, boolB] <;> simp [okD] at hd
        have n6 : ∀ w, gIsiT "tuple" ⟨.fz, .tup [a, b, c, l, e]⟩ w = .ok (fz (.bl true)) w := fun w => by simp [gIsiT, gIsi, tyD]
        simp only [is_show, fnD, is_show_b, showB]
        cases q1 : nameB a <;> cases q2 : sortB b <;> cases q3 : numB c 1 8 <;> cases q4 : boolB l <;> simp [n1, n2, n3, n4, n5, n6, q1, q2, q3, q4]
    · have : showB (.tup ds) = false := by
        unfold showB
        split
        · rename_i e; cases e; simp at hl
        · rfl
      rw [this]
      have hl2 : ¬ (ds.length : Int) = 5 := by omega
      simp [is_show, fnD, is_show_b, gIsiT, gIsi, tyD, hl2]
  all_goals simp [is_show, fnD, is_show_b, gIsiT, gIsi, tyD, showB]
/-! ### stations -/
theorem okD_name {d : D} (q : nameB d = true) : okD d = true := by
  cases d <;> simp [nameB] at q
  rename_i x
  simp [nameL] at q
  have h6 := q.1.2
  refine decide_eq_true ?_
  show x.cps.size ≤ 10000
  omega
theorem lookst_ok {k : Nat} (p : Pre k) (n : Nat) (h : Hs) (x : Str) (q : nameB (.str x) = true) (s : (valD h.seats (.inr x)).isSome = true) : House_look_station [.obj k, .str x] (wP p n h) = .ok (fz .non) (wP p n h) := by
  have e := is_name_ok (.str x) (okD_name q)
  simp [House_look_station, fnD, House_look_station_b, e, q, s]
theorem lookst_no {k : Nat} (p : Pre k) (n : Nat) (h : Hs) (d : D) (o : okD d = true) (q : nameB d = false) : House_look_station [.obj k, d] (wP p n h) = .ex ⟨"NoStation", []⟩ (wP p n h) := by
  have e := is_name_ok d o
  simp [House_look_station, fnD, House_look_station_b, e, q]
theorem lookst_none {k : Nat} (p : Pre k) (n : Nat) (h : Hs) (x : Str) (q : nameB (.str x) = true) (s : valD h.seats (.inr x) = none) : House_look_station [.obj k, .str x] (wP p n h) = .ex ⟨"NoStation", []⟩ (wP p n h) := by
  have e := is_name_ok (.str x) (okD_name q)
  simp [House_look_station, fnD, House_look_station_b, e, q, s]
def spanB (a b : D) (lo hi : Int) : Bool := match a, b with
  | .int i, .int j => decide (lo ≤ i) && decide (i ≤ hi) && decide (lo ≤ j) && decide (j ≤ hi) && decide (i < j)
  | _, _ => false
theorem span_ok (a b : D) (lo hi : Int) (oa : okD a = true) (ob : okD b = true) (w : W) : look_span [a, b, .int lo, .int hi] w = if spanB a b lo hi then .ok (fz .non) w else .ex ⟨"NoHour", []⟩ w := by
  have e1 := is_number_ok a lo hi oa
  have e2 := is_number_ok b lo hi ob
  cases q1 : numB a lo hi
  · have : spanB a b lo hi = false := by
      cases a <;> simp [spanB]
      rename_i i
      cases b <;> simp
      simp [numB] at q1
      omega
    simp [look_span, fnD, look_span_b, e1, q1, this]
  · cases q2 : numB b lo hi
    · have : spanB a b lo hi = false := by
        cases a <;> simp [spanB]
        rename_i i
        cases b <;> simp
        simp [numB] at q2
        omega
      simp [look_span, fnD, look_span_b, e1, e2, q1, q2, this]
    · cases a <;> simp [numB] at q1
      rename_i i
      cases b <;> simp [numB] at q2
      rename_i j
      by_cases hij : i < j
      · have : ¬ (j ≤ i) := by omega
        simp [look_span, fnD, look_span_b, e1, e2, numB, q1, q2, spanB, hij, this]
      · have : j ≤ i := by omega
        simp [look_span, fnD, look_span_b, e1, e2, numB, q1, q2, spanB, hij, this]
/-- whom a station may take over from -/
def upB (h : Hs) (u : D) : Bool := match u with
  | .non => true
  | .str y => nameB (.str y) && (valD h.seats (.inr y)).isSome
  | _ => false
theorem open_ok {k : Nat} (p : Pre k) (n : Nat) (h : Hs) (x : Str) (u : D) (i j : Int) (mn : Str) (q : nameB (.str x) = true) (s : valD h.seats (.inr x) = none) (hu : upB h u = true) (hs : spanB (.int i) (.int j) 0 24 = true) (hm : mn = "join" ∨ mn = "push") (hr : h.ranks.length < 6) (hz : h.seats.length < 1000) (hd : h.done.length < 1000) :
    House_open_station [.obj k, .str x, u, .int i, .int j, .str mn] (wP p n h) = .ok (fz (.int (h.ranks.length + 1))) (wP p (n + 3) { h with ranks := h.ranks ++ [.str x], seats := putKD h.seats (.inr x) (.tup [u, .int i, .int j, .str mn]), done := h.done ++ [.tup [.str "open", .str x, u, .int i, .int j, .str mn]] }) := by
  have e := is_name_ok (.str x) (okD_name q)
  have sp := span_ok (.int i) (.int j) 0 24 rfl rfl
  have z1 : h.ranks.length < sizeLine := sz_lt (by omega)
  have z2 : h.seats.length < sizeLine := sz_lt (by omega)
  have z3 : h.done.length < sizeLine := sz_lt (by omega)
  have r6 : ¬ ((h.ranks.length : Int) = 6) := by omega
  have gm : ∀ w, gIn true ⟨.fz, .str mn⟩ ⟨.fz, .tup [.str "join", .str "push"]⟩ w = .ok (fz (.bl false)) w := by
    intro w
    rcases hm with rfl | rfl <;> simp [gIn, flD, eqD, ofString_beq]
  have s3 : ∀ ρ : DL.Env, ρ = [some (fz (.obj k)), some (fz (.str x)), some (fz u), some (fz (.int i)), some (fz (.int j)), some (fz (.str mn))] → House_open_station_s3 ρ (wP p n h) = .next ρ (wP p n h) := by
    intro ρ hρ
    subst hρ
    cases u <;> simp [upB] at hu
    · simp [House_open_station_s3, gIsN, DL.isNon]
    · have := lookst_ok p n h _ hu.1 hu.2
      simp [House_open_station_s3, gIsN, DL.isNon, this]
  simp only [House_open_station, fnD, House_open_station_b]
  simp [House_open_station_s1, House_open_station_s2, e, q, s]
  simp [s3 _ rfl]
  simp [House_open_station_s4, House_open_station_s5, House_open_station_s6, House_open_station_s7, House_open_station_s8, House_open_station_s9, House_open_station_s10, sp, hs, gm, r6, z1, z2, z3, gIsiT, gIsi, tyD]
theorem station_ok {k : Nat} (p : Pre k) (n : Nat) (h : Hs) (x : Str) (d : D) (q : nameB (.str x) = true) (s : valD h.seats (.inr x) = some d) : House_station [.obj k, .str x] (wP p n h) = .ok (fz d) (wP p n h) := by
  have e := lookst_ok p n h x q (by simp [s])
  simp [House_station, fnD, House_station_b, e, s]
/-! ### shows that are known -/
section
variable {k : Nat} (p : Pre k) (n : Nat) (h : Hs)
theorem show_no (d : D) (o : okD d = true) (q : nameB d = false) : House_show [.obj k, d] (wP p n h) = .ex ⟨"NoShow", []⟩ (wP p n h) := by
  have e := is_name_ok d o
  simp [House_show, fnD, House_show_b, e, q]
theorem show_ok (x : Str) (d : D) (q : nameB (.str x) = true) (s : valD h.known (.inr x) = some d) : House_show [.obj k, .str x] (wP p n h) = .ok (fz d) (wP p n h) := by
  have e := is_name_ok (.str x) (okD_name q)
  simp [House_show, fnD, House_show_b, e, q, sTry0, s]
def shD (x so : Str) (l : Int) (lv : Bool) (m : Int) : D := .tup [.str x, .str so, .int l, .bl lv, .int m]
theorem okS_sh {x so : Str} {l : Int} {lv : Bool} {m : Int} (hx : nameB (.str x) = true) (hs : okD (.str so) = true) : okS (shD x so l lv m) = true := by
  have := okD_name hx
  simp [okS, shD, this, hs]
  exact ⟨rfl, rfl, rfl⟩
theorem addshow_ok (x so : Str) (l : Int) (lv : Bool) (m : Int) (hx : nameB (.str x) = true) (hs : okD (.str so) = true) (q : showB (shD x so l lv m) = true) (s : valD h.known (.inr x) = none) (hk : h.known.length < 1000) (hd : h.done.length < 1000) : House_add_show [.obj k, shD x so l lv m] (wP p n h) = .ok (fz (.int (putKD h.known (.inr x) (shD x so l lv m)).length)) (wP p (n + 2) { h with known := putKD h.known (.inr x) (shD x so l lv m), done := h.done ++ [.tup [.str "show", .str x, .str so, .int l, .bl lv, .int m]] }) := by
  have e := is_show_ok _ (okS_sh (l := l) (lv := lv) (m := m) hx hs)
  have a0 : atI [D.str x, .str so, .int l, .bl lv, .int m] 0 = some (.str x) := rfl
  have z1 : h.known.length < sizeLine := sz_lt (by omega)
  have z2 : h.done.length < sizeLine := sz_lt (by omega)
  have ga : ∀ m1 m2 w, gAdd ⟨m1, .tup [.str "show"]⟩ ⟨m2, .tup [.str x, .str so, .int l, .bl lv, .int m]⟩ w = .ok (fz (.tup [.str "show", .str x, .str so, .int l, .bl lv, .int m])) w := fun m1 m2 w => by simp [gAdd]
  rw [q] at e
  unfold shD at *
  simp [House_add_show, fnD, House_add_show_b, e, a0, s, z1, z2, ga, gLenD]
end
/-! ### rows -/
structure Row where
  b : Int
  e : Int
  n : List Nat
  deriving DecidableEq
def rowD (r : Row) : D := .tup [.int r.b, .int r.e, .str (nm r.n)]
/-- the rows lie apart, from lo on; hi: the last end, or lo -/
def Ap : Int → List Row → Int → Prop
  | lo, [], hi => lo = hi
  | lo, r :: rs, hi => lo ≤ r.b ∧ r.b < r.e ∧ Ap r.e rs hi
theorem Ap.le {lo hi : Int} {rs : List Row} (h : Ap lo rs hi) : lo ≤ hi := by
  induction rs generalizing lo with
  | nil => cases h; exact Int.le_refl _
  | cons x xs ih => have := ih h.2.2; have := h.1; have := h.2.1; omega
/-! ### rows that are laid over others -/
theorem nm_of (x : Str) : nm x.cps.toList = x := by
  obtain ⟨⟨l⟩⟩ := x
  rfl
def layR (b e : Int) (r : Row) : List Row := if r.e ≤ b ∨ e ≤ r.b then [r] else if r.b < b then [⟨r.b, b, r.n⟩] else []
def layF (b e : Int) (rs : List Row) : List Row := rs.flatMap (layR b e)
theorem layR_le (b e : Int) (r : Row) : (layR b e r).length ≤ 1 := by unfold layR; split <;> (try split) <;> simp
theorem layF_le (b e : Int) : ∀ rs : List Row, (layF b e rs).length ≤ rs.length
  | [] => by simp [layF]
  | r :: rs => by
    have h1 := layR_le b e r
    have h2 := layF_le b e rs
    simp only [layF, List.flatMap_cons, List.length_append, List.length_cons] at h2 ⊢
    omega
theorem laid_loop (R : Option Val) (b e : Int) : ∀ (rs acc : List Row) (z : Option Val), acc.length + rs.length ≤ 1000 → ∃ z', ∀ w, forL (.nm 4) laid_l1 (rs.map rowD) [R, some (fz (.int b)), some (fz (.int e)), some ⟨.nw, .lst (acc.map rowD)⟩, z] w =
    .next [R, some (fz (.int b)), some (fz (.int e)), some ⟨.nw, .lst ((acc ++ layF b e rs).map rowD)⟩, z'] w
  | [], acc, z, _ => ⟨z, fun w => by simp [forL, layF]⟩
  | r :: rs, acc, z, h => by
    have h' : acc.length + rs.length + 1 ≤ 1000 := by simp at h; omega
    have hsz : acc.length < sizeLine := sz_lt (by omega)
    have go : ∀ (k : List Row) , k.length ≤ 1 → layR b e r = k → (∀ w, laid_l1 [R, some (fz (.int b)), some (fz (.int e)), some ⟨.nw, .lst (acc.map rowD)⟩, some (fz (rowD r))] w = .next [R, some (fz (.int b)), some (fz (.int e)), some ⟨.nw, .lst ((acc ++ k).map rowD)⟩, some (fz (rowD r))] w) →
        ∃ z', ∀ w, forL (.nm 4) laid_l1 ((r :: rs).map rowD) [R, some (fz (.int b)), some (fz (.int e)), some ⟨.nw, .lst (acc.map rowD)⟩, z] w = .next [R, some (fz (.int b)), some (fz (.int e)), some ⟨.nw, .lst ((acc ++ layF b e (r :: rs)).map rowD)⟩, z'] w := fun k hk ek hw => by
      obtain ⟨z', hz⟩ := laid_loop R b e rs (acc ++ k) (some (fz (rowD r))) (by simp; omega)
      refine ⟨z', fun w => ?_⟩
      have := hz w
      rw [List.map_cons]
      simp only [forL, setT_nm, List.set_cons_succ, List.set_cons_zero, hw]
      rw [this]
      simp [layF, ek]
    have a0 : atI [D.int r.b, .int r.e, .str (nm r.n)] 0 = some (.int r.b) := rfl
    have a1 : atI [D.int r.b, .int r.e, .str (nm r.n)] 1 = some (.int r.e) := rfl
    have a2 : atI [D.int r.b, .int r.e, .str (nm r.n)] 2 = some (.str (nm r.n)) := rfl
    by_cases h1 : r.e ≤ b
    · exact go [r] (by simp) (by simp [layR, h1]) fun w => by simp [laid_l1, rowD, a0, a1, a2, h1, hsz]
    · by_cases h2 : e ≤ r.b
      · exact go [r] (by simp) (by simp [layR, h2]) fun w => by simp [laid_l1, rowD, a0, a1, a2, h1, h2, hsz]
      · by_cases h3 : r.b < b
        · exact go [⟨r.b, b, r.n⟩] (by simp) (by simp [layR, h1, h2, h3]) fun w => by simp [laid_l1, rowD, a0, a1, a2, h1, h2, h3, hsz]
        · exact go [] (by simp) (by simp [layR, h1, h2, h3]) fun w => by simp [laid_l1, rowD, a0, a1, a2, h1, h2, h3, hsz]
theorem laid_ok (rs : List Row) (b e : Int) (hl : rs.length ≤ 1000) (w : W) : laid [.lst (rs.map rowD), .int b, .int e] w = .ok ⟨.nw, .lst ((layF b e rs).map rowD)⟩ w := by
  obtain ⟨z', h⟩ := laid_loop (some (fz (.lst (rs.map rowD)))) b e rs [] none (by simpa using hl)
  have h := h w
  simp only [List.map_nil, List.nil_append] at h
  simp [laid, fnD, laid_b]
  rw [h]
  simp
/-! ### their order -/
theorem le_rows {r s : Row} (h : r.b < s.b) : leD (rowD r) (rowD s) = true ∧ leD (rowD s) (rowD r) = false := by
  have h2 : ¬ s.b < r.b := by omega
  constructor <;> simp [leD, PySem.W.dataLe, PySem.W.sortLe, rowD, toP, toPs, PySem.W.keyToks, PySem.W.keyToksAll, PyProof.Rows.listOrd, PyProof.Rows.lexLt, PyProof.Rows.itemOrd, PyProof.Rows.itemLt, h, h2]
def Srt (rs : List Row) : Prop := rs.Pairwise fun r s => r.b < s.b
theorem srt_le {rs : List Row} (h : Srt rs) : (rs.map rowD).Pairwise fun a b => leD a b = true := List.Pairwise.map _ (fun _ _ h => (le_rows h).1) h
theorem sort_rows {l : List D} {rs : List Row} (h : Srt rs) (p : l.Perm (rs.map rowD)) : l.mergeSort leD = rs.map rowD := by
  have T := PySem.W.sortLe_total (PyProof.Rows.listOrd PyProof.Rows.itemOrd) false fun b : D => PySem.W.keyToks (toP b)
  refine List.Perm.eq_of_pairwise (le := fun a b => leD a b = true) ?_ (List.pairwise_mergeSort T.trans (fun a b => by simpa using T.total a b) l) (srt_le h) ((List.mergeSort_perm l leD).trans p)
  intro a b ha hb h1 h2
  have ha := p.mem_iff.mp (List.mem_mergeSort.mp ha)
  obtain ⟨r, hr, rfl⟩ := List.mem_map.mp ha
  obtain ⟨s, hs, rfl⟩ := List.mem_map.mp hb
  rcases Int.lt_trichotomy r.b s.b with q | q | q
  · rw [(le_rows q).2] at h2; cases h2
  · have : r = s := by
      have go : ∀ {l : List Row}, Srt l → r ∈ l → s ∈ l → r = s := by
        intro l hl
        induction hl with
        | nil => intro h; cases h
        | @cons a l h1 h2 ih =>
          intro hr hs
          rcases List.mem_cons.mp hr with e1 | m1 <;> rcases List.mem_cons.mp hs with e2 | m2
          · rw [e1, e2]
          · have := h1 _ m2; rw [← e1] at this; omega
          · have := h1 _ m1; rw [← e2] at this; omega
          · exact ih m1 m2
      exact go h hr hs
    rw [this]
  · rw [(le_rows q).2] at h1; cases h1
theorem sok_rows (l : List Row) (hl : l.length ≤ 1000) (hn : ∀ r ∈ l, PyData.strOk (nm r.n) = true) : SOk (l.map rowD) where
  pl := by
    simp only [List.all_eq_true, List.mem_map]
    rintro d ⟨r, hr, rfl⟩
    simp [plN, rowD, hn r hr]
  al := by
    intro d hd d' hd'
    simp only [List.mem_map] at hd hd'
    obtain ⟨_, ⟨p, _, rfl⟩, rfl⟩ := hd
    obtain ⟨_, ⟨q, _, rfl⟩, rfl⟩ := hd'
    simp [toP, toPs, rowD, PySem.W.alike, PySem.W.alikeAll]
  so := by
    refine .inl fun d hd => ?_
    simp only [List.mem_map] at hd
    obtain ⟨_, ⟨p, _, rfl⟩, rfl⟩ := hd
    exact ⟨_, _, rfl⟩
  sz := sz_le (by simp; omega)
/-- rows of a day: they rise, lie apart, and are texts -/
structure Rows (rs : List Row) : Prop where
  srt : rs.Pairwise fun r s => r.e ≤ s.b
  pos : ∀ r ∈ rs, r.b < r.e
  txt : ∀ r ∈ rs, PyData.strOk (nm r.n) = true
theorem Rows.sr {rs : List Row} (h : Rows rs) : Srt rs := by
  have := h.pos
  have h1 := h.srt
  clear h
  induction h1 with
  | nil => exact .nil
  | @cons r rs a b ih =>
    refine .cons (fun s hs => ?_) (ih fun r hr => this r (List.mem_cons_of_mem _ hr))
    have := this r List.mem_cons_self
    have := a s hs
    omega
theorem layR_mem {b e : Int} {r s : Row} (h : s ∈ layR b e r) : s.b = r.b ∧ s.e ≤ r.e ∧ s.n = r.n ∧ (s.e ≤ b ∨ e ≤ s.b) ∧ (s = r ∨ (s.b < b ∧ s.e = b)) := by
  unfold layR at h
  split at h
  · simp at h; subst h; rename_i q; exact ⟨rfl, Int.le_refl _, rfl, q, .inl rfl⟩
  · split at h
    · simp at h; subst h; rename_i q1 q2; simp only [not_or] at q1; refine ⟨rfl, ?_, rfl, .inl (Int.le_refl _), .inr ⟨q2, rfl⟩⟩; show b ≤ r.e; omega
    · simp at h
theorem lay_rows {b e : Int} {rs : List Row} (h : Rows rs) : Rows (layF b e rs) := by
  refine ⟨?_, ?_, ?_⟩
  · have h1 := h.srt
    clear h
    induction h1 with
    | nil => exact .nil
    | @cons r rs a bb ih =>
      simp only [layF, List.flatMap_cons]
      refine List.pairwise_append.mpr ⟨?_, ih, ?_⟩
      · have := layR_le b e r
        cases hh : layR b e r with
        | nil => exact .nil
        | cons x xs => rw [hh] at this; simp at this; subst this; simp
      · intro x hx y hy
        obtain ⟨s, hs, hy⟩ := List.mem_flatMap.mp hy
        have p1 := layR_mem hx
        have p2 := layR_mem hy
        have := a s hs
        omega
  · intro s hs
    obtain ⟨r, hr, hs⟩ := List.mem_flatMap.mp hs
    have p := layR_mem hs
    have := h.pos r hr
    rcases p.2.2.2.2 with rfl | q
    · exact this
    · omega
  · intro s hs
    obtain ⟨r, hr, hs⟩ := List.mem_flatMap.mp hs
    rw [(layR_mem hs).2.2.1]
    exact h.txt r hr
/-- the row x among the others -/
def layW (x : Row) (rs : List Row) : List Row := (layF x.b x.e rs).filter (fun r => decide (r.b < x.b)) ++ x :: (layF x.b x.e rs).filter (fun r => !decide (r.b < x.b))
theorem layW_rows {x : Row} {rs : List Row} (h : Rows rs) (hx : x.b < x.e) (ht : PyData.strOk (nm x.n) = true) : Rows (layW x rs) := by
  have L := lay_rows (b := x.b) (e := x.e) h
  have sp : ∀ r ∈ layF x.b x.e rs, r.e ≤ x.b ∨ x.e ≤ r.b := fun s hs => by
    obtain ⟨r, hr, hs⟩ := List.mem_flatMap.mp hs
    exact (layR_mem hs).2.2.2.1
  refine ⟨?_, ?_, ?_⟩
  · refine List.pairwise_append.mpr ⟨L.srt.filter _, .cons (fun s hs => ?_) (L.srt.filter _), fun r hr s hs => ?_⟩
    · simp only [List.mem_filter] at hs
      have := sp s hs.1
      have := L.pos s hs.1
      have : ¬ s.b < x.b := by simpa using hs.2
      omega
    · simp only [List.mem_filter] at hr
      have h1 : r.b < x.b := by simpa using hr.2
      have h2 := sp r hr.1
      have h3 := L.pos r hr.1
      rcases List.mem_cons.mp hs with rfl | hs
      · omega
      · simp only [List.mem_filter] at hs
        have := sp s hs.1
        have := L.pos s hs.1
        have : ¬ s.b < x.b := by simpa using hs.2
        omega
  · intro r hr
    simp only [layW, List.mem_append, List.mem_cons, List.mem_filter] at hr
    rcases hr with hr | rfl | hr
    · exact L.pos r hr.1
    · exact hx
    · exact L.pos r hr.1
  · intro r hr
    simp only [layW, List.mem_append, List.mem_cons, List.mem_filter] at hr
    rcases hr with hr | rfl | hr
    · exact L.txt r hr.1
    · exact ht
    · exact L.txt r hr.1
theorem layW_perm (x : Row) (rs : List Row) : (layF x.b x.e rs ++ [x]).Perm (layW x rs) := by
  have h1 := List.filter_append_perm (fun r : Row => decide (r.b < x.b)) (layF x.b x.e rs)
  refine (List.Perm.append_right _ h1.symm).trans ?_
  unfold layW
  rw [List.append_assoc]
  exact List.Perm.append_left _ (List.perm_append_comm.trans (by simp))
theorem layW_len (x : Row) (rs : List Row) : (layW x rs).length ≤ rs.length + 1 := by
  rw [← (layW_perm x rs).length_eq]
  have := layF_le x.b x.e rs
  simp
  omega
theorem laidw_ok (rs : List Row) (b e : Int) (n : Str) (h : Rows rs) (hb : b < e) (ht : PyData.strOk n = true) (hl : rs.length ≤ 900) (w : W) : laid_with [.lst (rs.map rowD), .int b, .int e, .str n] w = .ok ⟨.nw, .lst ((layW ⟨b, e, n.cps.toList⟩ rs).map rowD)⟩ w := by
  have e1 := laid_ok rs b e (by omega) w
  have hL := layF_le b e rs
  have z : (layF b e rs).length + 1 ≤ sizeLine := sz_le (by omega)
  have W := layW_rows (x := ⟨b, e, n.cps.toList⟩) h hb (by rw [nm_of]; exact ht)
  have er : (D.tup [.int b, .int e, .str n]) = rowD ⟨b, e, n.cps.toList⟩ := by simp [rowD, nm_of]
  have ea : (layF b e rs).map rowD ++ [D.tup [.int b, .int e, .str n]] = (layF b e rs ++ [(⟨b, e, n.cps.toList⟩ : Row)]).map rowD := by rw [er]; simp
  have so : SOk ((layF b e rs).map rowD ++ [D.tup [.int b, .int e, .str n]]) := by
    rw [ea]
    refine sok_rows _ (by simp; omega) fun r hr => ?_
    exact W.txt r ((layW_perm ⟨b, e, n.cps.toList⟩ rs).mem_iff.mp hr)
  have sr : ((layF b e rs).map rowD ++ [D.tup [.int b, .int e, .str n]]).mergeSort leD = (layW ⟨b, e, n.cps.toList⟩ rs).map rowD := by
    rw [ea]
    exact sort_rows W.sr ((layW_perm ⟨b, e, n.cps.toList⟩ rs).map rowD)
  simp [laid_with, fnD, laid_with_b, e1, z, gSorted, so, sr]
/-! ### what is asked of a station, a day, a show -/
def stB (h : Hs) (d : D) : Bool := match d with
  | .str x => nameB (.str x) && (valD h.seats (.inr x)).isSome
  | _ => false
section
variable {k : Nat} (p : Pre k) (n : Nat) (h : Hs)
theorem lookst (d : D) (o : okD d = true) : House_look_station [.obj k, d] (wP p n h) = if stB h d then .ok (fz .non) (wP p n h) else .ex ⟨"NoStation", []⟩ (wP p n h) := by
  cases q : nameB d with
  | false =>
    have : stB h d = false := by cases d <;> simp [stB] <;> simp [q]
    rw [this]
    simpa using lookst_no p n h d o q
  | true =>
    cases d <;> simp [nameB] at q
    rename_i x
    have q : nameB (.str x) = true := by simpa [nameB] using q
    cases s : valD h.seats (.inr x) with
    | none => simpa [stB, q, s] using lookst_none p n h x q s
    | some v => simpa [stB, q, s] using lookst_ok p n h x q (by simp [s])
theorem week_rows_no (d e : D) (o : okD d = true) (q : stB h d = false) : House_week_rows [.obj k, d, e] (wP p n h) = .ex ⟨"NoStation", []⟩ (wP p n h) := by
  have := lookst p n h d o
  simp [House_week_rows, fnD, House_week_rows_b, this, q]
theorem week_rows_no_day (d e : D) (o : okD d = true) (q : stB h d = true) (o2 : okD e = true) (q2 : numB e 0 99 = false) : House_week_rows [.obj k, d, e] (wP p n h) = .ex ⟨"NoDay", []⟩ (wP p n h) := by
  have := lookst p n h d o
  have e2 := look_day_ok e o2
  simp [House_week_rows, fnD, House_week_rows_b, this, q, e2, q2]
theorem own_no (d e : D) (o : okD d = true) (q : stB h d = false) : House_own_rows [.obj k, d, e] (wP p n h) = .ex ⟨"NoStation", []⟩ (wP p n h) := by
  have := week_rows_no p n h d e o q
  simp [House_own_rows, fnD, House_own_rows_b, this]
theorem own_no_day (d e : D) (o : okD d = true) (q : stB h d = true) (o2 : okD e = true) (q2 : numB e 0 99 = false) : House_own_rows [.obj k, d, e] (wP p n h) = .ex ⟨"NoDay", []⟩ (wP p n h) := by
  have := week_rows_no_day p n h d e o q o2 q2
  simp [House_own_rows, fnD, House_own_rows_b, this]
end
/-! ### the week's plan -/
structure Wk where
  s : Str
  d : Int
  f : Int
  b : Int
  e : Int
  n : Option Str
def nmD : Option Str → D
  | none => .non
  | some x => .str x
def wkD (w : Wk) : D := .tup [.str w.s, .int w.d, .int w.f, .int w.b, .int w.e, nmD w.n]
def wkS (x : Str) (day wd : Int) (rs : List Row) (w : Wk) : List Row := if w.s = x ∧ w.d = wd ∧ w.f ≤ day then (match w.n with | none => layF w.b w.e rs | some y => layW ⟨w.b, w.e, y.cps.toList⟩ rs) else rs
def wkF (x : Str) (day wd : Int) (ws : List Wk) : List Row := ws.foldl (wkS x day wd) []
def WksOk (ws : List Wk) : Prop := ws.length ≤ 800 ∧ ∀ w ∈ ws, w.b < w.e ∧ PyData.strOk w.s = true ∧ ∀ y, w.n = some y → PyData.strOk y = true
def WkOk (h : Hs) : Prop := ∃ ws, h.weeks = ws.map wkD ∧ WksOk ws
theorem name_ok {x : Str} (h : nameB (.str x) = true) : PyData.strOk x = true := by
  rw [← nm_of x]
  refine strOk_nm fun c hc => ?_
  simp only [nameB, nameL, Bool.and_eq_true, List.all_eq_true] at h
  have := h.2 c hc
  simp only [isL, Bool.and_eq_true, decide_eq_true_eq] at this
  omega
theorem gEq_s2 (x y : Str) (hx : PyData.strOk x = true) (hy : PyData.strOk y = true) (b : Bool) (m m' : Md) (w : W) : gEq b ⟨m, .str x⟩ ⟨m', .str y⟩ w = .ok (fz (.bl (b != decide (x = y)))) w := by
  have e : (x == y) = decide (x = y) := by by_cases h : x = y <;> simp [h]
  simp [gEq, pl, plN, eqD, hx, hy, e]
theorem gEq_i2 (i j : Int) (b : Bool) (m m' : Md) (w : W) : gEq b ⟨m, .int i⟩ ⟨m', .int j⟩ w = .ok (fz (.bl (b != decide (i = j)))) w := by
  have e : (i == j) = decide (i = j) := by by_cases h : i = j <;> simp [h]
  simp [gEq, pl, plN, eqD, e]
theorem wkS_ok {x : Str} {day wd : Int} {rs : List Row} {w : Wk} (R : Rows rs) (hb : w.b < w.e) (hn : ∀ y, w.n = some y → PyData.strOk y = true) : Rows (wkS x day wd rs w) ∧ (wkS x day wd rs w).length ≤ rs.length + 1 := by
  unfold wkS
  split
  · cases e : w.n with
    | none => exact ⟨lay_rows R, by have := layF_le w.b w.e rs; simp only; omega⟩
    | some y => exact ⟨layW_rows R hb (by rw [nm_of]; exact hn y e), layW_len _ rs⟩
  · exact ⟨R, by omega⟩
theorem wk_loop (z0 : Option Val) (x : Str) (day wd : Int) (ox : PyData.strOk x = true) (w0 : W) : ∀ (ws : List Wk) (rs : List Row) (z5 z6 z7 z8 z9 z10 : Option Val), Rows rs → rs.length + ws.length ≤ 850 → (∀ w ∈ ws, w.b < w.e ∧ PyData.strOk w.s = true ∧ ∀ y, w.n = some y → PyData.strOk y = true) →
    ∃ y5 y6 y7 y8 y9 y10, forLq (.tp [5, 6, 7, 8, 9, 10]) House_rows_by_week_l1 w0 (ws.map wkD) [z0, some (fz (.str x)), some (fz (.int day)), some (fz (.int wd)), some (fz (.lst (rs.map rowD))), z5, z6, z7, z8, z9, z10] w0 =
      .next [z0, some (fz (.str x)), some (fz (.int day)), some (fz (.int wd)), some (fz (.lst ((ws.foldl (wkS x day wd) rs).map rowD))), y5, y6, y7, y8, y9, y10] w0
  | [], rs, z5, z6, z7, z8, z9, z10, _, _, _ => ⟨z5, z6, z7, z8, z9, z10, rfl⟩
  | w :: ws, rs, z5, z6, z7, z8, z9, z10, R, hl, hw => by
    obtain ⟨hb, os, on⟩ := hw w List.mem_cons_self
    obtain ⟨R2, l2⟩ := wkS_ok (x := x) (day := day) (wd := wd) (w := w) R hb on
    have hl' : rs.length + (ws.length + 1) ≤ 850 := by simpa using hl
    obtain ⟨y5, y6, y7, y8, y9, y10, ih⟩ := wk_loop z0 x day wd ox w0 ws (wkS x day wd rs w) (some (fz (.str w.s))) (some (fz (.int w.d))) (some (fz (.int w.f))) (some (fz (.int w.b))) (some (fz (.int w.e))) (some (fz (nmD w.n))) R2 (by omega) (fun v hv => hw v (List.mem_cons_of_mem _ hv))
    refine ⟨y5, y6, y7, y8, y9, y10, ?_⟩
    have sT : setT (.tp [5, 6, 7, 8, 9, 10]) (wkD w) [z0, some (fz (.str x)), some (fz (.int day)), some (fz (.int wd)), some (fz (.lst (rs.map rowD))), z5, z6, z7, z8, z9, z10] = some [z0, some (fz (.str x)), some (fz (.int day)), some (fz (.int wd)), some (fz (.lst (rs.map rowD))), some (fz (.str w.s)), some (fz (.int w.d)), some (fz (.int w.f)), some (fz (.int w.b)), some (fz (.int w.e)), some (fz (nmD w.n))] := rfl
    have e1 := fun w' => laid_ok rs w.b w.e (by omega) w'
    have q1 := fun m m' w' => gEq_s2 w.s x os ox false m m' w'
    have q2 := fun m m' w' => gEq_i2 w.d wd false m m' w'
    have q1x := fun m m' w' => gEq_s2 x x ox ox false m m' w'
    have q2x := fun m m' w' => gEq_i2 wd wd false m m' w'
    have st : House_rows_by_week_l1 [z0, some (fz (.str x)), some (fz (.int day)), some (fz (.int wd)), some (fz (.lst (rs.map rowD))), some (fz (.str w.s)), some (fz (.int w.d)), some (fz (.int w.f)), some (fz (.int w.b)), some (fz (.int w.e)), some (fz (nmD w.n))] w0 = .next [z0, some (fz (.str x)), some (fz (.int day)), some (fz (.int wd)), some (fz (.lst ((wkS x day wd rs w).map rowD))), some (fz (.str w.s)), some (fz (.int w.d)), some (fz (.int w.f)), some (fz (.int w.b)), some (fz (.int w.e)), some (fz (nmD w.n))] w0 := by
      by_cases h1 : w.s = x
      · by_cases h2 : w.d = wd
        · by_cases h3 : w.f ≤ day
          · cases en : w.n with
            | none => simp [House_rows_by_week_l1, q1, q2, q1x, q2x, h1, h2, h3, wkS, en, nmD, gIsN, DL.isNon, e1]
            | some y =>
              have e2 := fun w' => laidw_ok rs w.b w.e y R hb (on y en) (by omega) w'
              simp [House_rows_by_week_l1, q1, q2, q1x, q2x, h1, h2, h3, wkS, en, nmD, gIsN, DL.isNon, e2]
          · simp [House_rows_by_week_l1, q1, q2, q1x, q2x, h1, h2, h3, wkS]
        · simp [House_rows_by_week_l1, q1, q2, q1x, q2x, h1, h2, wkS]
      · simp [House_rows_by_week_l1, q1, h1, wkS]
    rw [List.map_cons]
    simp only [forLq, sT, st, if_true]
    exact ih
section
variable {k : Nat} (p : Pre k) (n : Nat) (h : Hs)
theorem week_rows_ok (x : Str) (i : Int) (q : stB h (.str x) = true) (i0 : 0 ≤ i) (i1 : i < 100) {ws : List Wk} (hw : h.weeks = ws.map wkD) (W : WksOk ws) : House_week_rows [.obj k, .str x, .int i] (wP p n h) = .ok (fz (.lst ((wkF x i (i % 5) ws).map rowD))) (wP p n h) := by
  have o : okD (.str x) = true := okD_name (by simp [stB] at q; exact q.1)
  have ox : PyData.strOk x = true := name_ok (by simp [stB] at q; exact q.1)
  have := lookst p n h (.str x) o
  have e2 := look_day_ok (.int i) rfl
  have b2 : numB (.int i) 0 99 = true := by simp [numB]; omega
  obtain ⟨y5, y6, y7, y8, y9, y10, e3⟩ := wk_loop (some (fz (.obj k))) x i (i % 5) ox (wP p n h) ws [] none none none none none none ⟨by simp, by simp, by simp⟩ (by have := W.1; simp; omega) W.2
  have e4 : House_rows_by_week [.obj k, .str x, .int i, .int (i % 5)] (wP p n h) = .ok (fz (.lst ((wkF x i (i % 5) ws).map rowD))) (wP p n h) := by
    simp only [List.map_nil] at e3
    simp [House_rows_by_week, fnD, House_rows_by_week_b, hw]
    rw [e3]
    simp [wkF]
  simp [House_week_rows, fnD, House_week_rows_b, this, q, e2, b2, e4]
/-- the rows of a day -/
def rowsAt (h : Hs) (x : Str) (i : Int) (rs : List Row) : Prop := match valD h.plans [.inr x, .inl i] with
  | some d => d = .lst (rs.map rowD)
  | none => ∃ ws, h.weeks = ws.map wkD ∧ WksOk ws ∧ rs = wkF x i (i % 5) ws
theorem own_ok (x : Str) (i : Int) (rs : List Row) (q : stB h (.str x) = true) (i0 : 0 ≤ i) (i1 : i < 100) (hw : WkOk h) (hr : rowsAt h x i rs) : ∃ m, keepM ⟨m, .lst (rs.map rowD)⟩ = true ∧ House_own_rows [.obj k, .str x, .int i] (wP p n h) = .ok ⟨m, .lst (rs.map rowD)⟩ (wP p n h) := by
  unfold rowsAt at hr
  cases e : valD h.plans [.inr x, .inl i] with
  | none =>
    rw [e] at hr
    obtain ⟨ws, hws, W, rfl⟩ := hr
    have := week_rows_ok p n h x i q i0 i1 hws W
    exact ⟨.fz, rfl, by simp [House_own_rows, fnD, House_own_rows_b, this, e]⟩
  | some d =>
    rw [e] at hr
    subst hr
    obtain ⟨ws, hws, W⟩ := hw
    have := week_rows_ok p n h x i q i0 i1 hws W
    exact ⟨.nw, rfl, by simp [House_own_rows, fnD, House_own_rows_b, this, e]⟩
end
/-! ### plans of days -/
abbrev Pln := List ((Str × Int) × List Row)
def plK (q : Str × Int) : List Key := [.inr q.1, .inl q.2]
def plD (P : Pln) : List (List Key × D) := P.map fun q => (plK q.1, .lst (q.2.map rowD))
theorem gEq_ss (x y : Str) (hx : PyData.strOk x = true) (hy : PyData.strOk y = true) (b : Bool) (m m' : Md) (w : W) : gEq b ⟨m, .str x⟩ ⟨m', .str y⟩ w = .ok (fz (.bl (b != decide (x = y)))) w := by
  have e : (x == y) = decide (x = y) := by rw [Bool.eq_iff_iff]; simp
  simp [gEq, pl, plN, hx, hy, eqD, e]
/-! ### put -/
section
variable {k : Nat} (p : Pre k) (n : Nat) (h : Hs)
theorem station_st (d : D) (o : okD d = true) (q : stB h d = false) : House_station [.obj k, d] (wP p n h) = .ex ⟨"NoStation", []⟩ (wP p n h) := by
  have := lookst p n h d o
  simp [House_station, fnD, House_station_b, this, q]
theorem st_seat {x : Str} {S : D} (q : nameB (.str x) = true) (s : valD h.seats (.inr x) = some S) : stB h (.str x) = true := by simp [stB, q, s]
theorem gSl_seat (u a b m : D) (md : Md) (w : W) : gSl ⟨md, .tup [u, a, b, m]⟩ (some 1) (some 3) w = .ok (fz (.tup [a, b])) w := by
  have cu : cutL [u, a, b, m] (some 1) (some 3) = [a, b] := rfl
  simp [gSl, cu]; decide
variable {x : Str} {u m : D} {f l : Int} (q : nameB (.str x) = true) (s : valD h.seats (.inr x) = some (.tup [u, .int f, .int l, m]))
include q s
variable {y so : Str} {lg mo : Int} {lv : Bool} (qy : nameB (.str y) = true) (sy : valD h.known (.inr y) = some (shD y so lg lv mo))
include qy sy
theorem put_lc {rs : List Row} (hr : Rows rs) (hl : rs.length ≤ 1000) (oy : PyData.strOk y = true) {ρ : DL.Env} {j : Nat} {w : W} (hj : ρ[j]? = some (some (fz (.lst (rs.map rowD))))) (h4 : ρ[4]? = some (some (fz (.str y)))) (h11 : 11 < ρ.length) : dLc (iSq (dVar j)) (.nm 11) (tst (dOp (gEq false) (dOp gIx (dVar 11) (dC (.int 2))) (dVar 4))) (dVar 11) [11] ρ w = .ok ⟨.nw, .lst ((rs.filter fun r => decide (nm r.n = y)).map rowD)⟩ w := by
  refine dLc_ok (ds := rs.map rowD) (b := true) (by simp [iSq, hj]) (by simpa using sz_le (by omega)) ?_
  refine lcL_mapW rowD (fun r => decide (nm r.n = y)) rowD rs fun r hr' => ?_
  have a2 : atI [D.int r.b, .int r.e, .str (nm r.n)] 2 = some (.str (nm r.n)) := rfl
  refine ⟨(wipeD ρ [11]).set 11 (some (fz (rowD r))), rfl, ?_, fun _ => ⟨.fz, rfl, ?_⟩⟩
  · simp [rowD, a2, h4, h11, List.getElem?_set, gEq_ss _ _ (hr.txt r hr') oy]
  · simp [h11, List.getElem?_set]
theorem put_ok0 (i b : Int) (rs : List Row) (i0 : 0 ≤ i) (i1 : i < 100) (oy : PyData.strOk y = true) (nb : numB (.int b) f (l - lg) = true) (lg0 : 0 < lg) (hm : h.many ≤ i * 24 + b) (hmo : mo = 0) (hw : WkOk h) (hr : rowsAt h x i rs) (R : Rows rs) (hl : rs.length ≤ 100) (hp : h.plans.length < 1000) (hd : h.done.length < 1000) :
    House_put [.obj k, .str x, .int i, .int b, .str y] (wP p n h) = .ok (fz (.int (layW ⟨b, b + lg, y.cps.toList⟩ rs).length)) (wP p (n + 2) { h with plans := putKD h.plans [.inr x, .inl i] (.lst ((layW ⟨b, b + lg, y.cps.toList⟩ rs).map rowD)), done := h.done ++ [.tup [.str "put", .str x, .int i, .int b, .str y]] }) := by
  subst hmo
  have e1 := station_ok p n h x _ q s
  have e2 := look_day_ok (.int i) rfl
  have b2 : numB (.int i) 0 99 = true := by simp [numB]; omega
  have e3 := show_ok p n h y _ qy sy
  have e4 := is_number_ok (.int b) f (l - lg) rfl
  have a2 : atI [D.str y, .str so, .int lg, .bl lv, .int 0] 2 = some (.int lg) := rfl
  have a4 : atI [D.str y, .str so, .int lg, .bl lv, .int 0] 4 = some (.int 0) := rfl
  have c1 := cmulR i 24 (by decide) (by decide)
  have hm' : ¬ (i * 24 + b < h.many) := by omega
  obtain ⟨md, km, e5⟩ := own_ok p n h x i rs (st_seat h q s) i0 i1 hw hr
  have e6 := laidw_ok rs b (b + lg) y R (by omega) oy (by omega)
  have W := layW_rows (x := ⟨b, b + lg, y.cps.toList⟩) R (by show b < b + lg; omega) (by rw [nm_of]; exact oy)
  have wl := layW_len ⟨b, b + lg, y.cps.toList⟩ rs
  generalize layW ⟨b, b + lg, y.cps.toList⟩ rs = ws at *
  have z1 : h.plans.length < sizeLine := sz_lt (by omega)
  have z2 : h.done.length < sizeLine := sz_lt (by omega)
  have z3 : ws.length ≤ sizeLine := sz_le (by omega)
  have z4 : (ws.filter fun r => decide (nm r.n = y)).length ≤ sizeLine := sz_le (by have := List.length_filter_le (fun r : Row => decide (nm r.n = y)) ws; omega)
  have z5 : (rs.filter fun r => decide (nm r.n = y)).length ≤ sizeLine := sz_le (by have := List.length_filter_le (fun r : Row => decide (nm r.n = y)) rs; omega)
  have l7 : ∀ z11 w, dLc (iSq (dVar 7)) (.nm 11) (tst (dOp (gEq false) (dOp gIx (dVar 11) (dC (.int 2))) (dVar 4))) (dVar 11) [11] [some (fz (.obj k)), some (fz (.str x)), some (fz (.int i)), some (fz (.int b)), some (fz (.str y)), some (fz (shD y so lg lv 0)), some (fz (.lst (rs.map rowD))), some (fz (.lst (ws.map rowD))), none, some (fz (.int f)), some (fz (.int l)), z11] w = _ := fun z11 w => put_lc h q s qy sy W (by omega) oy (j := 7) rfl rfl (by simp)
  have l6 : ∀ z11 w, dLc (iSq (dVar 6)) (.nm 11) (tst (dOp (gEq false) (dOp gIx (dVar 11) (dC (.int 2))) (dVar 4))) (dVar 11) [11] [some (fz (.obj k)), some (fz (.str x)), some (fz (.int i)), some (fz (.int b)), some (fz (.str y)), some (fz (shD y so lg lv 0)), some (fz (.lst (rs.map rowD))), some (fz (.lst (ws.map rowD))), none, some (fz (.int f)), some (fz (.int l)), z11] w = _ := fun z11 w => put_lc h q s qy sy R (by omega) oy (j := 6) rfl rfl (by simp)
  unfold shD at e3 l6 l7
  have km2 : md = .fz ∨ md = .nw := by cases md <;> simp [keepM] at km ⊢
  simp only [House_put, fnD, House_put_b]
  simp [House_put_s1, House_put_s2, House_put_s3, House_put_s4, House_put_s5, House_put_s6, House_put_s7, e1, gSl_seat, e2, b2, e3, a2, e4, nb, c1, hm', e5, km, e6]
  simp [House_put_s8, l6, l7, gLen, z4, z5]
  simp [House_put_s9, a4, House_put_s10, House_put_s11, House_put_s12, gLen, z1, z2, z3]
end
/-! ### the clock of one house -/
theorem now_ok {k : Nat} (p : Pre k) (n : Nat) (h : Hs) : House_now [.obj k] (wP p n h) = .ok (fz (.tup [.int (h.many / 24), .int (h.many % 24)])) (wP p n h) := by
  simp [House_now, fnD, House_now_b, gDivmod_ii]
theorem tick_ok {k : Nat} (p : Pre k) (n : Nat) (h : Hs) (i : Int) (q0 : 1 ≤ i) (q1 : i ≤ 24) (q2 : h.many + i < 2400) (q3 : h.done.length < 1000) : House_tick [.obj k, .int i] (wP p n h) = .ok (fz (.tup [.int ((h.many + i) / 24), .int ((h.many + i) % 24)])) (wP p (n + 2) { h with many := h.many + i, done := h.done ++ [.tup [.str "tick", .int i]] }) := by
  have e := is_number_ok (.int i) 1 24 rfl
  have q : numB (.int i) 1 24 = true := by simp [numB]; omega
  have c := cmulR 100 24 (by decide) (by decide)
  have hz : h.done.length < sizeLine := sz_lt (by omega)
  have g : ¬ (2400 ≤ h.many + i) := by omega
  simp [House_tick, fnD, House_tick_b, e, q, c, g, hz, now_ok]
theorem nmK_name {fl : Bool} {c : Nat} {x : List Nat} (h : NmK fl c x) : nameL x = true := by
  obtain ⟨r, hr, hl, hc, rfl⟩ := h
  have : ∀ z, Lt z → isL z = true := fun z hz => by unfold isL; have := hz.1; have := hz.2; simp; omega
  have hr' : r.all isL = true := List.all_eq_true.mpr fun z hz => this z (hl z hz)
  have hc' := this c hc
  have h5 : r.length ≤ 5 := hr
  cases fl
  · simp only [nameL, Bool.false_eq_true, if_false, List.length_cons, List.all_cons, hc', hr']
    simp; omega
  · simp only [nameL, if_true, List.length_append, List.length_cons, List.length_nil, List.all_append, List.all_cons, List.all_nil, hc', hr']
    simp; omega
theorem nm_cps (x : List Nat) : (nm x).cps.toList = x := by simp [nm]
theorem nmK_ne {fl : Bool} {c c' : Nat} {x y : List Nat} (h : NmK fl c x) (h' : NmK fl c' y) (n : c ≠ c') : nm x ≠ nm y := by
  intro e
  have e := nm_inj e
  obtain ⟨r, _, _, _, rfl⟩ := h
  obtain ⟨r', _, _, _, rfl⟩ := h'
  cases fl
  · simp at e
    exact n e.1
  · simp at e
    exact n e.2
structure Nms (ns : List Int) (a b c : Str) : Prop where
  n1 : nameB (.str a) = true
  n2 : nameB (.str b) = true
  n3 : nameB (.str c) = true
  ab : a ≠ b
  ac : a ≠ c
  bc : b ≠ c
  o1 : PyData.strOk a = true
  o2 : PyData.strOk b = true
  o3 : PyData.strOk c = true
theorem names3 (ns : List Int) (hl : ns.length ≤ 63) : ∃ a b c, Nms ns a b c ∧ ∀ w, law_names [.scr ns, .int 0, .int 3] w = .ok ⟨.nw, .lst [.str a, .str b, .str c]⟩ w := by
  obtain ⟨xs, h3, hk, e⟩ := names_ex ns hl 0 (by decide) (by decide) 3 (by decide)
  match xs, h3, hk, e with
  | [x, y, z], _, hk, e =>
    have k0 := hk 0 (by simp)
    have k1 := hk 1 (by simp)
    have k2 := hk 2 (by simp)
    have p2 := pick_ok (ns := ns) (k := 0 + 60) (m := 26) hl (by decide) (by decide) (by decide)
    simp only [List.getElem_cons_zero, List.getElem_cons_succ] at k0 k1 k2
    generalize pick ns (0 + 60) 26 = p at *
    have ok : ∀ {fl c x}, NmK fl c x → PyData.strOk (nm x) = true := fun {fl c x} h => by
      refine strOk_nm fun z hz => ?_
      obtain ⟨r, _, hr, hc, rfl⟩ := h
      have : z ∈ r ∨ z = c := by cases fl <;> simp at hz <;> rcases hz with h | h <;> simp [h]
      rcases this with h | h
      · have := (hr z h).2; omega
      · rw [h]; have := hc.2; omega
    refine ⟨nm x, nm y, nm z, ⟨?_, ?_, ?_, nmK_ne k0 k1 (by omega), nmK_ne k0 k2 (by omega), nmK_ne k1 k2 (by omega), ok k0, ok k1, ok k2⟩, fun w => by rw [show ((3 : Nat) : Int) = 3 from rfl] at e; exact e w⟩
    · simp only [nameB, nm_cps]; exact nmK_name k0
    · simp only [nameB, nm_cps]; exact nmK_name k1
    · simp only [nameB, nm_cps]; exact nmK_name k2
/-! ### open_station refused -/

/-! ### put_week and clear_week, where days have plans -/
section
variable {k : Nat} (p : Pre k) (n : Nat) (h : Hs)
theorem since_P (x : Str) (wd st : Int) (P : Pln) (hm : h.many ≤ st * 24) (ox : PyData.strOk x = true) (hP : h.plans = plD P) (hl : P.length ≤ 100) (hok : ∀ e ∈ P, PyData.strOk e.1.1 = true) (hno : ∀ e ∈ P, ¬ (e.1.1 = x ∧ st ≤ e.1.2 ∧ e.1.2 % 5 = wd)) : House_look_since [.obj k, .str x, .int wd, .int st] (wP p n h) = .ok (fz .non) (wP p (n + 2) h) := by
  have hm' : ¬ (st * 24 < h.many) := by omega
  have c1 := cmulR st 24 (by decide) (by decide)
  have lc : dLcD (locF 0 "plans") (.nm 4) tYesD (dAndV (dOp (gEq false) (dOp gIx (dVar 4) (dC (.int 0))) (dVar 1)) (dAndV (dOp gGe (dOp gIx (dVar 4) (dC (.int 1))) (dVar 3)) (dOp (gEq false) (dOp gMod (dOp gIx (dVar 4) (dC (.int 1))) (dC (.int 5))) (dVar 2)))) [4] [some (fz (.obj k)), some (fz (.str x)), some (fz (.int wd)), some (fz (.int st)), none] (wP p n h) = .ok ⟨.nw, .lst (P.map fun _ => .bl false)⟩ (wP p (n + 2) h) := by
    have ek : (h.plans.map fun q => D.tup (q.1.map dKy)) = P.map fun e => .tup [.str e.1.1, .int e.1.2] := by rw [hP]; simp [plD, plK, dKy, Function.comp_def]
    have lk := locF_plans (i := 0) (p := p) (n := n) (h := h) (ρ := [some (fz (.obj k)), some (fz (.str x)), some (fz (.int wd)), some (fz (.int st)), none]) (m := .fz) rfl
    rw [ek] at lk
    refine dLcD_ok (ks := P.map fun e => .tup [.str e.1.1, .int e.1.2]) lk (sz_le (by simp; omega)) ?_
    refine lcL_allW (fun e : (Str × Int) × List Row => D.tup [.str e.1.1, .int e.1.2]) (fun _ => .bl false) P fun e he => ⟨_, rfl, .fz, rfl, ?_⟩
    have h1 := hno e he
    have q1 := fun m m' w' => gEq_s2 e.1.1 x (hok e he) ox false m m' w'
    have q2 := fun m m' w' => gEq_i2 (e.1.2 % 5) wd false m m' w'
    have a0 : ∀ z : Str, atI [D.str z, .int e.1.2] 0 = some (.str z) := fun _ => rfl
    have a1 : ∀ z : Str, atI [D.str z, .int e.1.2] 1 = some (.int e.1.2) := fun _ => rfl
    have q1x := fun m m' w' => gEq_s2 x x ox ox false m m' w'
    by_cases g1 : e.1.1 = x
    · by_cases g2 : st ≤ e.1.2
      · have g3 : ¬ (e.1.2 % 5 = wd) := fun z => h1 ⟨g1, g2, z⟩
        simp [wipeD, a0, a1, q1, q1x, g1, g2, g3, q2]
      · simp [wipeD, a0, a1, q1, q1x, g1, g2]
    · simp [wipeD, a0, q1, g1]
  have an : ∀ (m : Md) (w : W), gAny [⟨m, .lst (P.map fun _ => D.bl false)⟩] w = .ok (fz (.bl false)) w := fun m w => by
    have e := blsOf_mapF (fun _ : (Str × Int) × List Row => false) P
    simp only [gAny, onL, e]
    congr 2
    simp
  simp [House_look_since, fnD, House_look_since_b, c1, hm', lc, an]
theorem clear_okP (x : Str) (wd b e st : Int) (P : Pln) (q : stB h (.str x) = true) (w0 : 0 ≤ wd) (w1 : wd < 5) (s0 : 0 ≤ st) (s1 : st < 100) (nb : spanB (.int b) (.int e) 0 24 = true) (hm : h.many ≤ st * 24) (hP : h.plans = plD P) (hl : P.length ≤ 100) (hok : ∀ e ∈ P, PyData.strOk e.1.1 = true) (hno : ∀ e ∈ P, ¬ (e.1.1 = x ∧ st ≤ e.1.2 ∧ e.1.2 % 5 = wd)) (hwl : h.weeks.length < 1000) (hd : h.done.length < 1000) : House_clear_week [.obj k, .str x, .int wd, .int b, .int e, .int st] (wP p n h) = .ok (fz .non) (wP p (n + 4) { h with weeks := h.weeks ++ [wkD ⟨x, wd, st, b, e, none⟩], done := h.done ++ [.tup [.str "clear", .str x, .int wd, .int b, .int e, .int st]] }) := by
  have qn : nameB (.str x) = true := by simp [stB] at q; exact q.1
  have o : okD (.str x) = true := okD_name qn
  have e1 := lookst p n h (.str x) o
  have e2 := is_number_ok (.int wd) 0 4 rfl
  have b2 : numB (.int wd) 0 4 = true := by simp [numB]; omega
  have e4 := look_day_ok (.int st) rfl
  have b4 : numB (.int st) 0 99 = true := by simp [numB]; omega
  have sp := span_ok (.int b) (.int e) 0 24 rfl rfl
  have e5 := since_P p n h x wd st P hm (name_ok qn) hP hl hok hno
  have z1 : h.weeks.length < sizeLine := sz_lt (by omega)
  have z2 : h.done.length < sizeLine := sz_lt (by omega)
  simp [House_clear_week, fnD, House_clear_week_b, House_clear_week_s1, House_clear_week_s2, House_clear_week_s3, House_clear_week_s4, House_clear_week_s5, House_clear_week_s6, House_clear_week_s7, e1, q, e2, b2, e4, b4, sp, nb, e5, z1, z2, wkD, nmD]
variable {x y : Str} {u mn : D} {f l : Int} (q : nameB (.str x) = true) (s : valD h.seats (.inr x) = some (.tup [u, .int f, .int l, mn])) (qy : nameB (.str y) = true) {so : Str} {lg : Int} {lv : Bool} (sy : valD h.known (.inr y) = some (shD y so lg lv 0))
include q s qy sy
omit qy sy
theorem pw_no_wd (d b y st : D) (o : okD d = true) (nb : numB d 0 4 = false) : House_put_week [.obj k, .str x, d, b, y, st] (wP p n h) = .ex ⟨"NoDay", []⟩ (wP p n h) := by
  have e1 := station_ok p n h x _ q s
  have e2 := is_number_ok d 0 4 o
  simp [House_put_week, fnD, House_put_week_b, House_put_week_s1, House_put_week_s2, e1, gSl_seat, e2, nb]
theorem pw_no_show (wd : Int) (b y st : D) (w0 : 0 ≤ wd) (w1 : wd < 5) (hs : House_show [.obj k, y] (wP p n h) = .ex ⟨"NoShow", []⟩ (wP p n h)) : House_put_week [.obj k, .str x, .int wd, b, y, st] (wP p n h) = .ex ⟨"NoShow", []⟩ (wP p n h) := by
  have e1 := station_ok p n h x _ q s
  have e2 := is_number_ok (.int wd) 0 4 rfl
  have b2 : numB (.int wd) 0 4 = true := by simp [numB]; omega
  simp [House_put_week, fnD, House_put_week_b, House_put_week_s1, House_put_week_s2, House_put_week_s3, e1, gSl_seat, e2, b2, hs]
include qy sy
end
section
variable {k : Nat} (p : Pre k) (n : Nat) (h : Hs)
theorem pw_no (d a b y st : D) (o : okD d = true) (q : stB h d = false) : House_put_week [.obj k, d, a, b, y, st] (wP p n h) = .ex ⟨"NoStation", []⟩ (wP p n h) := by
  have e1 := station_st p n h d o q
  simp [House_put_week, fnD, House_put_week_b, House_put_week_s1, e1]
theorem clear_no (d a b e st : D) (o : okD d = true) (q : stB h d = false) : House_clear_week [.obj k, d, a, b, e, st] (wP p n h) = .ex ⟨"NoStation", []⟩ (wP p n h) := by
  have e1 := lookst p n h d o
  simp [House_clear_week, fnD, House_clear_week_b, House_clear_week_s1, e1, q]
variable {x : Str} (q : stB h (.str x) = true)
include q
theorem clear_no_wd (d b e st : D) (o : okD d = true) (nb : numB d 0 4 = false) : House_clear_week [.obj k, .str x, d, b, e, st] (wP p n h) = .ex ⟨"NoDay", []⟩ (wP p n h) := by
  have e1 := lookst p n h (.str x) (okD_name (by simp [stB] at q; exact q.1))
  have e2 := is_number_ok d 0 4 o
  simp [House_clear_week, fnD, House_clear_week_b, House_clear_week_s1, House_clear_week_s2, e1, q, e2, nb]
theorem clear_no_since (wd : Int) (b e st : D) (w0 : 0 ≤ wd) (w1 : wd < 5) (o : okD st = true) (nb : numB st 0 99 = false) : House_clear_week [.obj k, .str x, .int wd, b, e, st] (wP p n h) = .ex ⟨"NoDay", []⟩ (wP p n h) := by
  have e1 := lookst p n h (.str x) (okD_name (by simp [stB] at q; exact q.1))
  have e2 := is_number_ok (.int wd) 0 4 rfl
  have b2 : numB (.int wd) 0 4 = true := by simp [numB]; omega
  have e4 := look_day_ok st o
  simp [House_clear_week, fnD, House_clear_week_b, House_clear_week_s1, House_clear_week_s2, House_clear_week_s3, e1, q, e2, b2, e4, nb]
theorem clear_no_span (wd st : Int) (b e : D) (w0 : 0 ≤ wd) (w1 : wd < 5) (s0 : 0 ≤ st) (s1 : st < 100) (ob : okD b = true) (oe : okD e = true) (nb : spanB b e 0 24 = false) : House_clear_week [.obj k, .str x, .int wd, b, e, .int st] (wP p n h) = .ex ⟨"NoHour", []⟩ (wP p n h) := by
  have e1 := lookst p n h (.str x) (okD_name (by simp [stB] at q; exact q.1))
  have e2 := is_number_ok (.int wd) 0 4 rfl
  have b2 : numB (.int wd) 0 4 = true := by simp [numB]; omega
  have e4 := look_day_ok (.int st) rfl
  have b4 : numB (.int st) 0 99 = true := by simp [numB]; omega
  have sp := span_ok b e 0 24 ob oe
  simp [House_clear_week, fnD, House_clear_week_b, House_clear_week_s1, House_clear_week_s2, House_clear_week_s3, House_clear_week_s4, e1, q, e2, b2, e4, b4, sp, nb]
end
/-! ### put_week and clear_week refused, where a day has a plan -/
section
variable {k : Nat} (p : Pre k) (n : Nat) (h : Hs)
theorem since_late2 (x : Str) (wd st : Int) (hm : st * 24 < h.many) : House_look_since [.obj k, .str x, .int wd, .int st] (wP p n h) = .ex ⟨"TooLate", []⟩ (wP p n h) := by
  have c1 := cmulR st 24 (by decide) (by decide)
  simp [House_look_since, fnD, House_look_since_b, c1, hm]
theorem since_set (x : Str) (wd st i : Int) (rs : List Row) (hm : h.many ≤ st * 24) (ox : PyData.strOk x = true) (hP : h.plans = plD [((x, i), rs)]) (h1 : st ≤ i) (h2 : i % 5 = wd) : House_look_since [.obj k, .str x, .int wd, .int st] (wP p n h) = .ex ⟨"Settled", []⟩ (wP p (n + 2) h) := by
  have hm' : ¬ (st * 24 < h.many) := by omega
  have c1 := cmulR st 24 (by decide) (by decide)
  have lc : dLcD (locF 0 "plans") (.nm 4) tYesD (dAndV (dOp (gEq false) (dOp gIx (dVar 4) (dC (.int 0))) (dVar 1)) (dAndV (dOp gGe (dOp gIx (dVar 4) (dC (.int 1))) (dVar 3)) (dOp (gEq false) (dOp gMod (dOp gIx (dVar 4) (dC (.int 1))) (dC (.int 5))) (dVar 2)))) [4] [some (fz (.obj k)), some (fz (.str x)), some (fz (.int wd)), some (fz (.int st)), none] (wP p n h) = .ok ⟨.nw, .lst ([((x, i), rs)].map fun _ => .bl true)⟩ (wP p (n + 2) h) := by
    have ek : (h.plans.map fun q => D.tup (q.1.map dKy)) = [((x, i), rs)].map fun e : (Str × Int) × List Row => .tup [.str e.1.1, .int e.1.2] := by rw [hP]; simp [plD, plK, dKy, Function.comp_def]
    have lk := locF_plans (i := 0) (p := p) (n := n) (h := h) (ρ := [some (fz (.obj k)), some (fz (.str x)), some (fz (.int wd)), some (fz (.int st)), none]) (m := .fz) rfl
    rw [ek] at lk
    refine dLcD_ok (ks := [((x, i), rs)].map fun e : (Str × Int) × List Row => .tup [.str e.1.1, .int e.1.2]) lk (sz_le (by simp)) ?_
    refine lcL_allW (fun e : (Str × Int) × List Row => D.tup [.str e.1.1, .int e.1.2]) (fun _ => .bl true) [((x, i), rs)] fun e he => ⟨_, rfl, .fz, rfl, ?_⟩
    rw [List.mem_singleton] at he
    subst he
    have q2 := fun m m' w' => gEq_i2 (i % 5) wd false m m' w'
    have a0 : ∀ z : Str, atI [D.str z, .int i] 0 = some (.str z) := fun _ => rfl
    have a1 : ∀ z : Str, atI [D.str z, .int i] 1 = some (.int i) := fun _ => rfl
    have q1x := fun m m' w' => gEq_s2 x x ox ox false m m' w'
    have q2x := fun m m' w' => gEq_i2 wd wd false m m' w'
    simp [wipeD, a0, a1, q1x, h1, h2, q2, q2x]
  have an : ∀ (m : Md) (w : W), gAny [⟨m, .lst [D.bl true]⟩] w = .ok (fz (.bl true)) w := fun m w => by
    have e := blsOf_mapF (fun _ : Unit => true) [()]
    simp only [List.map_cons, List.map_nil] at e
    simp only [gAny, onL, e]
    rfl
  simp [House_look_since, fnD, House_look_since_b, c1, hm', lc, an]
theorem clear_exP (x : Str) (wd b e st : Int) (z : Xc) (n' : Nat) (q : stB h (.str x) = true) (w0 : 0 ≤ wd) (w1 : wd < 5) (s0 : 0 ≤ st) (s1 : st < 100) (nb : spanB (.int b) (.int e) 0 24 = true) (hs : House_look_since [.obj k, .str x, .int wd, .int st] (wP p n h) = .ex z (wP p n' h)) : House_clear_week [.obj k, .str x, .int wd, .int b, .int e, .int st] (wP p n h) = .ex z (wP p n' h) := by
  have e1 := lookst p n h (.str x) (okD_name (by simp [stB] at q; exact q.1))
  have e2 := is_number_ok (.int wd) 0 4 rfl
  have b2 : numB (.int wd) 0 4 = true := by simp [numB]; omega
  have e4 := look_day_ok (.int st) rfl
  have b4 : numB (.int st) 0 99 = true := by simp [numB]; omega
  have sp := span_ok (.int b) (.int e) 0 24 rfl rfl
  simp [House_clear_week, fnD, House_clear_week_b, House_clear_week_s1, House_clear_week_s2, House_clear_week_s3, House_clear_week_s4, House_clear_week_s5, e1, q, e2, b2, e4, b4, sp, nb, hs]
variable {x y : Str} {u mn : D} {f l : Int} (q : nameB (.str x) = true) (s : valD h.seats (.inr x) = some (.tup [u, .int f, .int l, mn])) (qy : nameB (.str y) = true) {so : Str} {lg : Int} {lv : Bool} {mo : Int} (sy : valD h.known (.inr y) = some (shD y so lg lv mo))
include q s qy sy
theorem pw_no_sinceM (wd : Int) (b st : D) (w0 : 0 ≤ wd) (w1 : wd < 5) (o : okD st = true) (nb : numB st 0 99 = false) : House_put_week [.obj k, .str x, .int wd, b, .str y, st] (wP p n h) = .ex ⟨"NoDay", []⟩ (wP p n h) := by
  have e1 := station_ok p n h x _ q s
  have e2 := is_number_ok (.int wd) 0 4 rfl
  have b2 : numB (.int wd) 0 4 = true := by simp [numB]; omega
  have e3 := show_ok p n h y _ qy sy
  have e4 := look_day_ok st o
  simp [House_put_week, fnD, House_put_week_b, House_put_week_s1, House_put_week_s2, House_put_week_s3, House_put_week_s4, e1, gSl_seat, e2, b2, e3, e4, nb]
theorem pw_no_hourM (wd st : Int) (b : D) (w0 : 0 ≤ wd) (w1 : wd < 5) (s0 : 0 ≤ st) (s1 : st < 100) (o : okD b = true) (nb : numB b f (l - lg) = false) : House_put_week [.obj k, .str x, .int wd, b, .str y, .int st] (wP p n h) = .ex ⟨"NoHour", []⟩ (wP p n h) := by
  have e1 := station_ok p n h x _ q s
  have e2 := is_number_ok (.int wd) 0 4 rfl
  have b2 : numB (.int wd) 0 4 = true := by simp [numB]; omega
  have e3 := show_ok p n h y _ qy sy
  have e4 := look_day_ok (.int st) rfl
  have b4 : numB (.int st) 0 99 = true := by simp [numB]; omega
  have e5 := is_number_ok b f (l - lg) o
  have a2 : atI [D.str y, .str so, .int lg, .bl lv, .int mo] 2 = some (.int lg) := rfl
  unfold shD at e3
  simp [House_put_week, fnD, House_put_week_b, House_put_week_s1, House_put_week_s2, House_put_week_s3, House_put_week_s4, House_put_week_s5, e1, gSl_seat, e2, b2, e3, e4, b4, a2, e5, nb]
theorem pw_rights (wd b st : Int) (w0 : 0 ≤ wd) (w1 : wd < 5) (s0 : 0 ≤ st) (s1 : st < 100) (nb : numB (.int b) f (l - lg) = true) (hmo : 0 < mo) : House_put_week [.obj k, .str x, .int wd, .int b, .str y, .int st] (wP p n h) = .ex ⟨"NoRights", [("most", .int mo)]⟩ (wP p n h) := by
  have e1 := station_ok p n h x _ q s
  have e2 := is_number_ok (.int wd) 0 4 rfl
  have b2 : numB (.int wd) 0 4 = true := by simp [numB]; omega
  have e3 := show_ok p n h y _ qy sy
  have e4 := look_day_ok (.int st) rfl
  have b4 : numB (.int st) 0 99 = true := by simp [numB]; omega
  have e5 := is_number_ok (.int b) f (l - lg) rfl
  have a2 : atI [D.str y, .str so, .int lg, .bl lv, .int mo] 2 = some (.int lg) := rfl
  have a4 : atI [D.str y, .str so, .int lg, .bl lv, .int mo] 4 = some (.int mo) := rfl
  unfold shD at e3
  simp [House_put_week, fnD, House_put_week_b, House_put_week_s1, House_put_week_s2, House_put_week_s3, House_put_week_s4, House_put_week_s5, House_put_week_s6, e1, gSl_seat, e2, b2, e3, e4, b4, a2, a4, e5, nb, hmo]
theorem pw_exP (wd b st : Int) (z : Xc) (n' : Nat) (w0 : 0 ≤ wd) (w1 : wd < 5) (s0 : 0 ≤ st) (s1 : st < 100) (nb : numB (.int b) f (l - lg) = true) (hmo : mo = 0) (hs : House_look_since [.obj k, .str x, .int wd, .int st] (wP p n h) = .ex z (wP p n' h)) : House_put_week [.obj k, .str x, .int wd, .int b, .str y, .int st] (wP p n h) = .ex z (wP p n' h) := by
  subst hmo
  have e1 := station_ok p n h x _ q s
  have e2 := is_number_ok (.int wd) 0 4 rfl
  have b2 : numB (.int wd) 0 4 = true := by simp [numB]; omega
  have e3 := show_ok p n h y _ qy sy
  have e4 := look_day_ok (.int st) rfl
  have b4 : numB (.int st) 0 99 = true := by simp [numB]; omega
  have e5 := is_number_ok (.int b) f (l - lg) rfl
  have a2 : atI [D.str y, .str so, .int lg, .bl lv, .int 0] 2 = some (.int lg) := rfl
  have a4 : atI [D.str y, .str so, .int lg, .bl lv, .int 0] 4 = some (.int 0) := rfl
  unfold shD at e3
  simp [House_put_week, fnD, House_put_week_b, House_put_week_s1, House_put_week_s2, House_put_week_s3, House_put_week_s4, House_put_week_s5, House_put_week_s6, House_put_week_s7, e1, gSl_seat, e2, b2, e3, e4, b4, a2, a4, e5, nb, hs]
end
/-! ### week_rows while an error is handled: no change of that weekday -/
theorem wkh_loop (z0 z1 : Option Val) (x : Str) (day wd : Int) (ox : PyData.strOk x = true) (w0 : W) : ∀ (ws : List Wk) (z5 z6 z7 z8 z9 z10 : Option Val), (∀ w ∈ ws, PyData.strOk w.s = true ∧ w.d ≠ wd) →
    ∃ y5 y6 y7 y8 y9 y10, forLq (.tp [5, 6, 7, 8, 9, 10]) House_rows_by_week_l1_h w0 (ws.map wkD) [z0, some (fz (.str x)), some (fz (.int day)), some (fz (.int wd)), some (fz (.lst [])), z5, z6, z7, z8, z9, z10] w0 =
      .next [z0, some (fz (.str x)), some (fz (.int day)), some (fz (.int wd)), some (fz (.lst [])), y5, y6, y7, y8, y9, y10] w0
  | [], z5, z6, z7, z8, z9, z10, _ => ⟨z5, z6, z7, z8, z9, z10, rfl⟩
  | w :: ws, z5, z6, z7, z8, z9, z10, hw => by
    obtain ⟨os, h2⟩ := hw w List.mem_cons_self
    obtain ⟨y5, y6, y7, y8, y9, y10, ih⟩ := wkh_loop z0 z1 x day wd ox w0 ws (some (fz (.str w.s))) (some (fz (.int w.d))) (some (fz (.int w.f))) (some (fz (.int w.b))) (some (fz (.int w.e))) (some (fz (nmD w.n))) (fun v hv => hw v (List.mem_cons_of_mem _ hv))
    refine ⟨y5, y6, y7, y8, y9, y10, ?_⟩
    have sT : setT (.tp [5, 6, 7, 8, 9, 10]) (wkD w) [z0, some (fz (.str x)), some (fz (.int day)), some (fz (.int wd)), some (fz (.lst [])), z5, z6, z7, z8, z9, z10] = some [z0, some (fz (.str x)), some (fz (.int day)), some (fz (.int wd)), some (fz (.lst [])), some (fz (.str w.s)), some (fz (.int w.d)), some (fz (.int w.f)), some (fz (.int w.b)), some (fz (.int w.e)), some (fz (nmD w.n))] := rfl
    have q1 := fun m m' w' => gEq_s2 w.s x os ox false m m' w'
    have q2 := fun m m' w' => gEq_i2 w.d wd false m m' w'
    have q1x := fun m m' w' => gEq_s2 x x ox ox false m m' w'
    have st : House_rows_by_week_l1_h [z0, some (fz (.str x)), some (fz (.int day)), some (fz (.int wd)), some (fz (.lst [])), some (fz (.str w.s)), some (fz (.int w.d)), some (fz (.int w.f)), some (fz (.int w.b)), some (fz (.int w.e)), some (fz (nmD w.n))] w0 = .next [z0, some (fz (.str x)), some (fz (.int day)), some (fz (.int wd)), some (fz (.lst [])), some (fz (.str w.s)), some (fz (.int w.d)), some (fz (.int w.f)), some (fz (.int w.b)), some (fz (.int w.e)), some (fz (nmD w.n))] w0 := by
      by_cases h1 : w.s = x
      · simp [House_rows_by_week_l1_h, q1, q2, q1x, h1, h2]
      · simp [House_rows_by_week_l1_h, q1, h1]
    rw [List.map_cons]
    simp only [forLq, sT, st, if_true]
    exact ih
theorem week_h_ok {k : Nat} (p : Pre k) (n : Nat) (h : Hs) (x : Str) (i : Int) (q : stB h (.str x) = true) (i0 : 0 ≤ i) (i1 : i < 100) {ws : List Wk} (hw : h.weeks = ws.map wkD) (W : ∀ w ∈ ws, PyData.strOk w.s = true ∧ w.d ≠ i % 5) : House_week_rows_h [.obj k, .str x, .int i] (wP p n h) = .ok (fz (.lst [])) (wP p n h) := by
  have o : okD (.str x) = true := okD_name (by simp [stB] at q; exact q.1)
  have ox : PyData.strOk x = true := name_ok (by simp [stB] at q; exact q.1)
  have := lookst p n h (.str x) o
  have e2 := look_day_ok (.int i) rfl
  have b2 : numB (.int i) 0 99 = true := by simp [numB]; omega
  obtain ⟨y5, y6, y7, y8, y9, y10, e3⟩ := wkh_loop (some (fz (.obj k))) none x i (i % 5) ox (wP p n h) ws none none none none none none W
  have e4 : House_rows_by_week_h [.obj k, .str x, .int i, .int (i % 5)] (wP p n h) = .ok (fz (.lst [])) (wP p n h) := by
    simp [House_rows_by_week_h, fnD, House_rows_by_week_bh, hw]
    rw [e3]
    simp
  simp [House_week_rows_h, fnD, House_week_rows_bh, this, q, e2, b2, e4]
/-! ### things that are none -/
def refD (x : String) : D := .tup [.str "refused", .str x]
def badL (k : Int) : List D := [.non, .bl true, .str "", .str "A", .lst [.int 1], .tup [.int 1], .int (-1 - k), .int 1000, .str "5"]
theorem stB_no (h : Hs) (d : D) (q : nameB d = false) : stB h d = false := by
  cases d <;> simp [stB]
  simp [q]
theorem gMul_n (xs : List D) (j : Int) (j0 : 0 ≤ j) (hz : xs.length * j.toNat ≤ 1000) (hj : j < 1000) (m m' : Md) (w : W) : gMul ⟨m, .lst xs⟩ ⟨m', .int j⟩ w = .ok ⟨.nw, .lst (List.replicate j.toNat xs).flatten⟩ w := by
  have r : ROm xs.length j := ⟨by omega, by omega, sz_le (by omega)⟩
  simp [gMul, r]
structure Bad (d : D) : Prop where
  ok : okD d = true
  nn : nameB d = false
  nb : ∀ lo hi : Int, 0 ≤ lo → hi < 1000 → numB d lo hi = false
  s1 : spanB d (.int 24) 0 24 = false
  s2 : spanB (.int 0) d 0 24 = false
theorem bad_ok (k : Int) (k0 : 0 ≤ k) (d : D) (h : d ∈ badL k) : Bad d := by
  simp only [badL, List.mem_cons, List.not_mem_nil, or_false] at h
  rcases h with rfl | rfl | rfl | rfl | rfl | rfl | rfl | rfl | rfl
  iterate 6 exact ⟨by decide, by decide, fun lo hi h0 h1 => rfl, by decide, by decide⟩
  · exact ⟨rfl, rfl, fun lo hi h0 h1 => by simp [numB]; omega, by simp [spanB]; omega, by simp [spanB]; omega⟩
  · exact ⟨by decide, by decide, fun lo hi h0 h1 => by simp [numB]; omega, by decide, by decide⟩
  · exact ⟨by decide, by decide, fun lo hi h0 h1 => rfl, by decide, by decide⟩
section
variable {a b : Str} {f mo : Int} (h : Hs) (na : nameB (.str a) = true) (nb : nameB (.str b) = true) (f0 : 0 ≤ f) (f1 : f < 100)
  (sa : valD h.seats (.inr a) = some (.tup [.non, .int f, .int (f + 12), .str "join"])) (ka : valD h.known (.inr a) = some (shD a (Str.ofString "talk") 3 true 0)) (kb : valD h.known (.inr b) = some (shD b (Str.ofString "tune") 1 true mo))
include na nb f0 f1 sa ka kb
theorem refused_ok (n : Nat) (k : Int) (k0 : 0 ≤ k) : law_are_refused [.obj 0, .str a, .str b, .lst (badL k)] (wP p0 n h) = .ok (fz (.bl true)) (wP p0 n h) := by
  have sB : stB h (.str a) = true := by simp [stB, na, sa]
  obtain ⟨z4, z5, t5⟩ : ∃ z4 z5, forL (.nm 4) law_are_refused_l1 (badL k) [some (fz (.obj 0)), some (fz (.str a)), some (fz (.str b)), some (fz (.lst (badL k))), none, none] (wP p0 n h) = .next [some (fz (.obj 0)), some (fz (.str a)), some (fz (.str b)), some (fz (.lst (badL k))), z4, z5] (wP p0 n h) := by
   obtain ⟨ρ', w', e, z4, z5, rfl, rfl⟩ := forL_inv (t := .nm 4) (b := law_are_refused_l1) (fun _ ρ w => ∃ z4 z5, ρ = [some (fz (.obj 0)), some (fz (.str a)), some (fz (.str b)), some (fz (.lst (badL k))), z4, z5] ∧ w = wP p0 n h) (badL k) 0 [some (fz (.obj 0)), some (fz (.str a)), some (fz (.str b)), some (fz (.lst (badL k))), none, none] (wP p0 n h) ⟨none, none, rfl, rfl⟩ (by
    rintro i d ρ w hd ⟨z4, z5, rfl, rfl⟩
    obtain ⟨o, q, m1, m2, m3⟩ := bad_ok k k0 d (List.mem_of_getElem? hd)
    have ns := stB_no h d q
    have s1 := show_no p0 n h d o q
    have e1 := pw_no p0 n h d d (.int 0) d d o ns
    have e2 := clear_no p0 n h d d (.int 9) (.int 3) d o ns
    have e3 := week_rows_no p0 n h d d o ns
    have e4 := own_no p0 n h d d o ns
    have f1 := pw_no_wd p0 n h na sa d (.int 0) d d o (m1 0 4 (by decide) (by decide))
    have f2 := clear_no_wd p0 n h sB d (.int 9) (.int 3) d o (m1 0 4 (by decide) (by decide))
    have f3 := clear_no_since p0 n h sB 3 (.int 9) (.int 3) d (by decide) (by decide) o (m1 0 99 (by decide) (by decide))
    have f4 := pw_no_sinceM p0 n h na sa na ka 3 d d (by decide) (by decide) o (m1 0 99 (by decide) (by decide))
    have f5 := week_rows_no_day p0 n h (.str a) d (okD_name na) sB o (m1 0 99 (by decide) (by decide))
    have f6 := own_no_day p0 n h (.str a) d (okD_name na) sB o (m1 0 99 (by decide) (by decide))
    have g1 := pw_no_show p0 n h na sa 3 (.int 0) d d (by decide) (by decide) s1
    have h1 := pw_no_hourM p0 n h na sa na ka 3 0 d (by decide) (by decide) (by decide) (by decide) o (m1 f (f + 12 - 3) (by omega) (by omega))
    have h2 := pw_no_hourM p0 n h na sa nb kb 3 0 d (by decide) (by decide) (by decide) (by decide) o (m1 f (f + 12 - 1) (by omega) (by omega))
    have h3 := clear_no_span p0 n h sB 3 0 d (.int 24) (by decide) (by decide) (by decide) (by decide) o rfl m2
    have h4 := clear_no_span p0 n h sB 3 0 (.int 0) d (by decide) (by decide) (by decide) (by decide) rfl o m3
    have w4 := fun d m m' w => gMul_n [d] 4 (by decide) (by simp) (by decide) m m' w
    have w5 := fun d m m' w => gMul_n [d] 5 (by decide) (by simp) (by decide) m m' w
    have a0 : ∀ (c : D) (l : List D), atI (c :: l) 0 = some c := fun c l => by rw [atI_pos (by decide) (by simp)]; rfl
    have q1 : ∀ m m' w, gEq true ⟨m, .lst [refD "NoStation", refD "NoStation", refD "NoStation", refD "NoStation"]⟩ ⟨m', .lst [refD "NoStation", refD "NoStation", refD "NoStation", refD "NoStation"]⟩ w = .ok (fz (.bl false)) w := fun m m' w => gEq_same (by decide +kernel) true m m' w
    have q2 : ∀ m m' w, gEq true ⟨m, .lst [refD "NoDay", refD "NoDay", refD "NoDay", refD "NoDay", refD "NoDay"]⟩ ⟨m', .lst [refD "NoDay", refD "NoDay", refD "NoDay", refD "NoDay", refD "NoDay"]⟩ w = .ok (fz (.bl false)) w := fun m m' w => gEq_same (by decide +kernel) true m m' w
    have q3 : ∀ m m' w, gEq true ⟨m, refD "NoDay"⟩ ⟨m', refD "NoDay"⟩ w = .ok (fz (.bl false)) w := fun m m' w => gEq_same (by decide +kernel) true m m' w
    have q4 : ∀ m m' w, gEq true ⟨m, refD "NoShow"⟩ ⟨m', refD "NoShow"⟩ w = .ok (fz (.bl false)) w := fun m m' w => gEq_same (by decide +kernel) true m m' w
    have q5 : ∀ m m' w, gEq true ⟨m, .lst [refD "NoHour", refD "NoHour", refD "NoHour", refD "NoHour"]⟩ ⟨m', .lst [refD "NoHour", refD "NoHour", refD "NoHour", refD "NoHour"]⟩ w = .ok (fz (.bl false)) w := fun m m' w => gEq_same (by decide +kernel) true m m' w
    simp only [refD] at q1 q2 q3 q4 q5
    refine ⟨_, [some (fz (.obj 0)), some (fz (.str a)), some (fz (.str b)), some (fz (.lst (badL k))), some (fz d), some ⟨.nw, .lst [refD "NoHour", refD "NoHour", refD "NoHour", refD "NoHour"]⟩], _, rfl, ?_, _, _, rfl, rfl⟩
    have u0 : (sSet 5 (dLst (dOne (dTold (dMt House_put_week "put_week" 5 0 [0, 1, 2, 3, 4, 5] dfl_put_week (dVar 0) (dCons (dVar 4) (dCons (dVar 4) (dCons (dC (.int 0)) (dCons (dVar 4) (dOne (dVar 4)))))) dNil))))) [some (fz (.obj 0)), some (fz (.str a)), some (fz (.str b)), some (fz (.lst (badL k))), some (fz d), z5] (wP p0 n h) = .next [some (fz (.obj 0)), some (fz (.str a)), some (fz (.str b)), some (fz (.lst (badL k))), some (fz d), some ⟨.nw, .lst [refD "NoStation"]⟩] (wP p0 n h) := by simp [refD, e1]
    have u1 : (sApp 5 (dTold (dMt House_clear_week "clear_week" 5 0 [0, 1, 2, 3, 4, 5] dfl_clear_week (dVar 0) (dCons (dVar 4) (dCons (dVar 4) (dCons (dC (.int 9)) (dCons (dC (.int 3)) (dOne (dVar 4)))))) dNil))) [some (fz (.obj 0)), some (fz (.str a)), some (fz (.str b)), some (fz (.lst (badL k))), some (fz d), some ⟨.nw, .lst [refD "NoStation"]⟩] (wP p0 n h) = .next [some (fz (.obj 0)), some (fz (.str a)), some (fz (.str b)), some (fz (.lst (badL k))), some (fz d), some ⟨.nw, .lst [refD "NoStation", refD "NoStation"]⟩] (wP p0 n h) := by simp [refD, e2]
    have u2 : (sApp 5 (dTold (dMt House_week_rows "week_rows" 2 0 [0, 1, 2] dfl_week_rows (dVar 0) (dCons (dVar 4) (dOne (dVar 4))) dNil))) [some (fz (.obj 0)), some (fz (.str a)), some (fz (.str b)), some (fz (.lst (badL k))), some (fz d), some ⟨.nw, .lst [refD "NoStation", refD "NoStation"]⟩] (wP p0 n h) = .next [some (fz (.obj 0)), some (fz (.str a)), some (fz (.str b)), some (fz (.lst (badL k))), some (fz d), some ⟨.nw, .lst [refD "NoStation", refD "NoStation", refD "NoStation"]⟩] (wP p0 n h) := by simp [refD, e3]
    have u3 : (sApp 5 (dTold (dMt House_own_rows "own_rows" 2 0 [0, 1, 2] dfl_own_rows (dVar 0) (dCons (dVar 4) (dOne (dVar 4))) dNil))) [some (fz (.obj 0)), some (fz (.str a)), some (fz (.str b)), some (fz (.lst (badL k))), some (fz d), some ⟨.nw, .lst [refD "NoStation", refD "NoStation", refD "NoStation"]⟩] (wP p0 n h) = .next [some (fz (.obj 0)), some (fz (.str a)), some (fz (.str b)), some (fz (.lst (badL k))), some (fz d), some ⟨.nw, .lst [refD "NoStation", refD "NoStation", refD "NoStation", refD "NoStation"]⟩] (wP p0 n h) := by simp [refD, e4]
    have u4 : (sIf (tst (dOp (gEq true) (dVar 5) (dOp gMul (dLst (dOne (dTup (dCons (dC (.str "refused")) (dOne (dC (.str "NoStation"))))))) (dC (.int 4))))) (sRet (dC (.bl false))) sNext) [some (fz (.obj 0)), some (fz (.str a)), some (fz (.str b)), some (fz (.lst (badL k))), some (fz d), some ⟨.nw, .lst [refD "NoStation", refD "NoStation", refD "NoStation", refD "NoStation"]⟩] (wP p0 n h) = .next [some (fz (.obj 0)), some (fz (.str a)), some (fz (.str b)), some (fz (.lst (badL k))), some (fz d), some ⟨.nw, .lst [refD "NoStation", refD "NoStation", refD "NoStation", refD "NoStation"]⟩] (wP p0 n h) := by simp [refD, w4, q1, List.replicate]
    have u5 : (sSet 5 (dLst (dOne (dTold (dMt House_put_week "put_week" 5 0 [0, 1, 2, 3, 4, 5] dfl_put_week (dVar 0) (dCons (dVar 1) (dCons (dVar 4) (dCons (dC (.int 0)) (dCons (dVar 4) (dOne (dVar 4)))))) dNil))))) [some (fz (.obj 0)), some (fz (.str a)), some (fz (.str b)), some (fz (.lst (badL k))), some (fz d), some ⟨.nw, .lst [refD "NoStation", refD "NoStation", refD "NoStation", refD "NoStation"]⟩] (wP p0 n h) = .next [some (fz (.obj 0)), some (fz (.str a)), some (fz (.str b)), some (fz (.lst (badL k))), some (fz d), some ⟨.nw, .lst [refD "NoDay"]⟩] (wP p0 n h) := by simp [refD, f1]
    have u6 : (sApp 5 (dTold (dMt House_clear_week "clear_week" 5 0 [0, 1, 2, 3, 4, 5] dfl_clear_week (dVar 0) (dCons (dVar 1) (dCons (dVar 4) (dCons (dC (.int 9)) (dCons (dC (.int 3)) (dOne (dVar 4)))))) dNil))) [some (fz (.obj 0)), some (fz (.str a)), some (fz (.str b)), some (fz (.lst (badL k))), some (fz d), some ⟨.nw, .lst [refD "NoDay"]⟩] (wP p0 n h) = .next [some (fz (.obj 0)), some (fz (.str a)), some (fz (.str b)), some (fz (.lst (badL k))), some (fz d), some ⟨.nw, .lst [refD "NoDay", refD "NoDay"]⟩] (wP p0 n h) := by simp [refD, f2]
    have u7 : (sApp 5 (dTold (dMt House_clear_week "clear_week" 5 0 [0, 1, 2, 3, 4, 5] dfl_clear_week (dVar 0) (dCons (dVar 1) (dCons (dC (.int 3)) (dCons (dC (.int 9)) (dCons (dC (.int 3)) (dOne (dVar 4)))))) dNil))) [some (fz (.obj 0)), some (fz (.str a)), some (fz (.str b)), some (fz (.lst (badL k))), some (fz d), some ⟨.nw, .lst [refD "NoDay", refD "NoDay"]⟩] (wP p0 n h) = .next [some (fz (.obj 0)), some (fz (.str a)), some (fz (.str b)), some (fz (.lst (badL k))), some (fz d), some ⟨.nw, .lst [refD "NoDay", refD "NoDay", refD "NoDay"]⟩] (wP p0 n h) := by simp [refD, f3]
    have u8 : (sApp 5 (dTold (dMt House_put_week "put_week" 5 0 [0, 1, 2, 3, 4, 5] dfl_put_week (dVar 0) (dCons (dVar 1) (dCons (dC (.int 3)) (dCons (dVar 4) (dCons (dVar 1) (dOne (dVar 4)))))) dNil))) [some (fz (.obj 0)), some (fz (.str a)), some (fz (.str b)), some (fz (.lst (badL k))), some (fz d), some ⟨.nw, .lst [refD "NoDay", refD "NoDay", refD "NoDay"]⟩] (wP p0 n h) = .next [some (fz (.obj 0)), some (fz (.str a)), some (fz (.str b)), some (fz (.lst (badL k))), some (fz d), some ⟨.nw, .lst [refD "NoDay", refD "NoDay", refD "NoDay", refD "NoDay"]⟩] (wP p0 n h) := by simp [refD, f4]
    have u9 : (sApp 5 (dTold (dMt House_week_rows "week_rows" 2 0 [0, 1, 2] dfl_week_rows (dVar 0) (dCons (dVar 1) (dOne (dVar 4))) dNil))) [some (fz (.obj 0)), some (fz (.str a)), some (fz (.str b)), some (fz (.lst (badL k))), some (fz d), some ⟨.nw, .lst [refD "NoDay", refD "NoDay", refD "NoDay", refD "NoDay"]⟩] (wP p0 n h) = .next [some (fz (.obj 0)), some (fz (.str a)), some (fz (.str b)), some (fz (.lst (badL k))), some (fz d), some ⟨.nw, .lst [refD "NoDay", refD "NoDay", refD "NoDay", refD "NoDay", refD "NoDay"]⟩] (wP p0 n h) := by simp [refD, f5]
    have u10 : (sIf (dOr (tst (dOp (gEq true) (dVar 5) (dOp gMul (dLst (dOne (dTup (dCons (dC (.str "refused")) (dOne (dC (.str "NoDay"))))))) (dC (.int 5))))) (tst (dOp (gEq true) (dTold (dMt House_own_rows "own_rows" 2 0 [0, 1, 2] dfl_own_rows (dVar 0) (dCons (dVar 1) (dOne (dVar 4))) dNil)) (dOp gIx (dVar 5) (dC (.int 0)))))) (sRet (dC (.bl false))) sNext) [some (fz (.obj 0)), some (fz (.str a)), some (fz (.str b)), some (fz (.lst (badL k))), some (fz d), some ⟨.nw, .lst [refD "NoDay", refD "NoDay", refD "NoDay", refD "NoDay", refD "NoDay"]⟩] (wP p0 n h) = .next [some (fz (.obj 0)), some (fz (.str a)), some (fz (.str b)), some (fz (.lst (badL k))), some (fz d), some ⟨.nw, .lst [refD "NoDay", refD "NoDay", refD "NoDay", refD "NoDay", refD "NoDay"]⟩] (wP p0 n h) := by simp [refD, f6, w5, q2, q3, a0, List.replicate]
    have u11 : (sIf (tst (dOp (gEq true) (dTold (dMt House_put_week "put_week" 5 0 [0, 1, 2, 3, 4, 5] dfl_put_week (dVar 0) (dCons (dVar 1) (dCons (dC (.int 3)) (dCons (dC (.int 0)) (dCons (dVar 4) (dOne (dVar 4)))))) dNil)) (dTup (dCons (dC (.str "refused")) (dOne (dC (.str "NoShow"))))))) (sRet (dC (.bl false))) sNext) [some (fz (.obj 0)), some (fz (.str a)), some (fz (.str b)), some (fz (.lst (badL k))), some (fz d), some ⟨.nw, .lst [refD "NoDay", refD "NoDay", refD "NoDay", refD "NoDay", refD "NoDay"]⟩] (wP p0 n h) = .next [some (fz (.obj 0)), some (fz (.str a)), some (fz (.str b)), some (fz (.lst (badL k))), some (fz d), some ⟨.nw, .lst [refD "NoDay", refD "NoDay", refD "NoDay", refD "NoDay", refD "NoDay"]⟩] (wP p0 n h) := by simp [refD, g1, q4]
    have u12 : (sSet 5 (dLst (dOne (dTold (dMt House_put_week "put_week" 5 0 [0, 1, 2, 3, 4, 5] dfl_put_week (dVar 0) (dCons (dVar 1) (dCons (dC (.int 3)) (dCons (dVar 4) (dCons (dVar 1) (dOne (dC (.int 0))))))) dNil))))) [some (fz (.obj 0)), some (fz (.str a)), some (fz (.str b)), some (fz (.lst (badL k))), some (fz d), some ⟨.nw, .lst [refD "NoDay", refD "NoDay", refD "NoDay", refD "NoDay", refD "NoDay"]⟩] (wP p0 n h) = .next [some (fz (.obj 0)), some (fz (.str a)), some (fz (.str b)), some (fz (.lst (badL k))), some (fz d), some ⟨.nw, .lst [refD "NoHour"]⟩] (wP p0 n h) := by simp [refD, h1]
    have u13 : (sApp 5 (dTold (dMt House_put_week "put_week" 4 0 [0, 1, 2, 3, 4, 5] dfl_put_week (dVar 0) (dCons (dVar 1) (dCons (dC (.int 3)) (dCons (dVar 4) (dOne (dVar 2))))) dNil))) [some (fz (.obj 0)), some (fz (.str a)), some (fz (.str b)), some (fz (.lst (badL k))), some (fz d), some ⟨.nw, .lst [refD "NoHour"]⟩] (wP p0 n h) = .next [some (fz (.obj 0)), some (fz (.str a)), some (fz (.str b)), some (fz (.lst (badL k))), some (fz d), some ⟨.nw, .lst [refD "NoHour", refD "NoHour"]⟩] (wP p0 n h) := by simp [refD, h2]
    have u14 : (sApp 5 (dTold (dMt House_clear_week "clear_week" 4 0 [0, 1, 2, 3, 4, 7] dfl_clear_week (dVar 0) (dCons (dVar 1) (dCons (dC (.int 3)) (dCons (dVar 4) (dOne (dC (.int 24)))))) dNil))) [some (fz (.obj 0)), some (fz (.str a)), some (fz (.str b)), some (fz (.lst (badL k))), some (fz d), some ⟨.nw, .lst [refD "NoHour", refD "NoHour"]⟩] (wP p0 n h) = .next [some (fz (.obj 0)), some (fz (.str a)), some (fz (.str b)), some (fz (.lst (badL k))), some (fz d), some ⟨.nw, .lst [refD "NoHour", refD "NoHour", refD "NoHour"]⟩] (wP p0 n h) := by simp [refD, h3]
    have u15 : (sApp 5 (dTold (dMt House_clear_week "clear_week" 2 1 [0, 1, 2, 4, 3, 6] dfl_clear_week (dVar 0) (dCons (dVar 1) (dOne (dC (.int 3)))) (dOne (dVar 4))))) [some (fz (.obj 0)), some (fz (.str a)), some (fz (.str b)), some (fz (.lst (badL k))), some (fz d), some ⟨.nw, .lst [refD "NoHour", refD "NoHour", refD "NoHour"]⟩] (wP p0 n h) = .next [some (fz (.obj 0)), some (fz (.str a)), some (fz (.str b)), some (fz (.lst (badL k))), some (fz d), some ⟨.nw, .lst [refD "NoHour", refD "NoHour", refD "NoHour", refD "NoHour"]⟩] (wP p0 n h) := by simp [refD, h4]
    have u16 : (sIf (tst (dOp (gEq true) (dVar 5) (dOp gMul (dLst (dOne (dTup (dCons (dC (.str "refused")) (dOne (dC (.str "NoHour"))))))) (dC (.int 4))))) (sRet (dC (.bl false))) sNext) [some (fz (.obj 0)), some (fz (.str a)), some (fz (.str b)), some (fz (.lst (badL k))), some (fz d), some ⟨.nw, .lst [refD "NoHour", refD "NoHour", refD "NoHour", refD "NoHour"]⟩] (wP p0 n h) = .next [some (fz (.obj 0)), some (fz (.str a)), some (fz (.str b)), some (fz (.lst (badL k))), some (fz d), some ⟨.nw, .lst [refD "NoHour", refD "NoHour", refD "NoHour", refD "NoHour"]⟩] (wP p0 n h) := by simp [refD, w4, q5, List.replicate]
    show law_are_refused_l1 [some (fz (.obj 0)), some (fz (.str a)), some (fz (.str b)), some (fz (.lst (badL k))), some (fz d), z5] (wP p0 n h) = _
    rw [law_are_refused_l1, sSeq_s, u0, othn_next, sSeq_s, u1, othn_next, sSeq_s, u2, othn_next, sSeq_s, u3, othn_next, sSeq_s, u4, othn_next, sSeq_s, u5, othn_next, sSeq_s, u6, othn_next, sSeq_s, u7, othn_next, sSeq_s, u8, othn_next, sSeq_s, u9, othn_next, sSeq_s, u10, othn_next, sSeq_s, u11, othn_next, sSeq_s, u12, othn_next, sSeq_s, u13, othn_next, sSeq_s, u14, othn_next, sSeq_s, u15, othn_next, u16])
   exact ⟨z4, z5, e⟩
  simp [law_are_refused, fnD, law_are_refused_b, iSq, t5]
end
/-! ### what may be sent so often alone -/
theorem deeds_ok (n : Nat) (h : Hs) : House_deeds [.obj 0] (wP p0 n h) = .ok ⟨.nw, .lst h.done⟩ (wP p0 n h) := by
  simp [House_deeds, fnD, House_deeds_b]
theorem rights_ok {a b : Str} {f v : Int} {ns : List Int} (n : Nat) (h : Hs) (na : nameB (.str a) = true) (nb : nameB (.str b) = true) (f0 : 0 ≤ f) (v0 : 0 ≤ v)
    (sa : valD h.seats (.inr a) = some (.tup [.non, .int f, .int (f + 12), .str "join"])) (kb : valD h.known (.inr b) = some (shD b (Str.ofString "tune") 1 true (1 + v)))
    (ev : ∀ w, law_pick [.scr ns, .int 101, .int 9] w = .ok (fz (.int v)) w) (hws : h.weeks = [(⟨a, 3, 9, 0, 24, none⟩ : Wk), ⟨a, 2, 4, 0, 24, none⟩].map wkD) (hd : h.done.length = 8) :
    law_are_rights [.obj 0, .str a, .str b, .scr ns] (wP p0 n h) = .ok (fz (.bl true)) (wP p0 n h) := by
  have sB : stB h (.str a) = true := by simp [stB, na, sa]
  have oa := name_ok na
  have st := station_ok p0 n h a _ na sa
  have pw := pw_rights p0 n h na sa nb kb 0 f 0 (by decide) (by decide) (by decide) (by decide) (by simp [numB]; omega) (by omega)
  have wk := week_h_ok p0 n h a 0 sB (by decide) (by decide) hws (by
    intro w hw
    simp only [List.mem_cons, List.not_mem_nil, or_false] at hw
    rcases hw with rfl | rfl
    · exact ⟨oa, by show (3 : Int) ≠ 0 % 5; decide⟩
    · exact ⟨oa, by show (2 : Int) ≠ 0 % 5; decide⟩)
  have dd := deeds_ok n h
  have a1 : atI [D.non, .int f, .int (f + 12), .str "join"] 1 = some (.int f) := rfl
  have z8 : (8 : Nat) ≤ sizeLine := sz_le (by decide)
  have q0 : ∀ m m' w, gEq false ⟨m, .lst []⟩ ⟨m', .lst []⟩ w = .ok (fz (.bl true)) w := fun m m' w => gEq_same (by decide +kernel) false m m' w
  have q1 := fun m m' w => gEq_i2 (1 + v) (1 + v) false m m' w
  generalize h.done = dn at *
  refine fnD_ret rfl ?_
  show law_are_rights_b [some (fz (.obj 0)), some (fz (.str a)), some (fz (.str b)), some (fz (.scr ns)), none] (wP p0 n h) = _
  have t1 : (sExpr (dMt House_put_week "put_week" 5 0 [0, 1, 2, 3, 4, 5] dfl_put_week (dVar 0) (dCons (dVar 1) (dCons (dC (.int 0)) (dCons (dOp gIx (dMt House_station "station" 1 0 [0, 1] dfl_station (dVar 0) (dOne (dVar 1)) dNil) (dC (.int 1))) (dCons (dVar 2) (dOne (dC (.int 0))))))) dNil)) [some (fz (.obj 0)), some (fz (.str a)), some (fz (.str b)), some (fz (.scr ns)), none] (wP p0 n h) = .ex ⟨"NoRights", [("most", .int (1 + v))]⟩ [some (fz (.obj 0)), some (fz (.str a)), some (fz (.str b)), some (fz (.scr ns)), none] (wP p0 n h) := by
    simp [st, a1, pw]
  have key : ∀ z : Addr, (dAndV (dOp (gEq false) (dUn (gXf z ⟨"NoRights", [("most", .int (1 + v))]⟩ "most") (dVar 4)) (dOp gAdd (dC (.int 1)) (dCall law_pick [] (dCons (dVar 3) (dCons (dC (.int 101)) (dOne (dC (.int 9)))))))) (dAndV (dOp (gEq false) (dMt House_week_rows_h "week_rows" 2 0 [0, 1, 2] dfl_week_rows (dVar 0) (dCons (dVar 1) (dOne (dC (.int 0)))) dNil) (dLst dNil)) (dOp (gEq false) (dCB gLen (dOne (dMt House_deeds "deeds" 0 0 [0] dfl_deeds (dVar 0) dNil dNil))) (dC (.int 8))))) [some (fz (.obj 0)), some (fz (.str a)), some (fz (.str b)), some (fz (.scr ns)), some (fz (.exc z))] (wP p0 n h) = .ok (fz (.bl true)) (wP p0 n h) := by
    intro z
    simp [gXf, ev, q1, wk, q0, dd, gLen, hd, z8]
  unfold law_are_rights_b
  rw [sSeq_s]
  unfold sTryR
  rw [t1]
  have e := tryR_s (g := fun z => (dAndV (dOp (gEq false) (dUn (gXf z ⟨"NoRights", [("most", .int (1 + v))]⟩ "most") (dVar 4)) (dOp gAdd (dC (.int 1)) (dCall law_pick [] (dCons (dVar 3) (dCons (dC (.int 101)) (dOne (dC (.int 9)))))))) (dAndV (dOp (gEq false) (dMt House_week_rows_h "week_rows" 2 0 [0, 1, 2] dfl_week_rows (dVar 0) (dCons (dVar 1) (dOne (dC (.int 0)))) dNil) (dLst dNil)) (dOp (gEq false) (dCB gLen (dOne (dMt House_deeds "deeds" 0 0 [0] dfl_deeds (dVar 0) dNil dNil))) (dC (.int 8))))) [some (fz (.obj 0)), some (fz (.str a)), some (fz (.str b)), some (fz (.scr ns)), some (fz (.exc z))] (wP p0 n h)) rfl key
  dsimp only
  rw [if_pos rfl]
  show Out.thn (tryR _) _ = _
  rw [show (fun z : Addr => (dAndV (dOp (gEq false) (dUn (gXf z ⟨"NoRights", [("most", .int (1 + v))]⟩ "most") (dVar 4)) (dOp gAdd (dC (.int 1)) (dCall law_pick [] (dCons (dVar 3) (dCons (dC (.int 101)) (dOne (dC (.int 9)))))))) (dAndV (dOp (gEq false) (dMt House_week_rows_h "week_rows" 2 0 [0, 1, 2] dfl_week_rows (dVar 0) (dCons (dVar 1) (dOne (dC (.int 0)))) dNil) (dLst dNil)) (dOp (gEq false) (dCB gLen (dOne (dMt House_deeds "deeds" 0 0 [0] dfl_deeds (dVar 0) dNil dNil))) (dC (.int 8))))) ((thin [some (fz (.obj 0)), some (fz (.str a)), some (fz (.str b)), some (fz (.scr ns)), none]).set 4 (some (fz (.exc z)))) (wP p0 n h)) = (fun z : Addr => (dAndV (dOp (gEq false) (dUn (gXf z ⟨"NoRights", [("most", .int (1 + v))]⟩ "most") (dVar 4)) (dOp gAdd (dC (.int 1)) (dCall law_pick [] (dCons (dVar 3) (dCons (dC (.int 101)) (dOne (dC (.int 9)))))))) (dAndV (dOp (gEq false) (dMt House_week_rows_h "week_rows" 2 0 [0, 1, 2] dfl_week_rows (dVar 0) (dCons (dVar 1) (dOne (dC (.int 0)))) dNil) (dLst dNil)) (dOp (gEq false) (dCB gLen (dOne (dMt House_deeds "deeds" 0 0 [0] dfl_deeds (dVar 0) dNil dNil))) (dC (.int 8))))) [some (fz (.obj 0)), some (fz (.str a)), some (fz (.str b)), some (fz (.scr ns)), some (fz (.exc z))] (wP p0 n h)) from rfl, e]
  rfl
/-! ### the law -/
def H22 (a b : Str) (f mo : Int) (P : List (List Key × D)) (ws : List D) (m : Int) (dn : List D) : Hs := ⟨[.str a], [(.inr a, .tup [.non, .int f, .int (f + 12), .str "join"])], [(.inr a, shD a (Str.ofString "talk") 3 true 0), (.inr b, shD b (Str.ofString "tune") 1 true mo)], ws, P, [], m, dn⟩
theorem law_true (ns : List Int) (hl : ns.length ≤ 63) : ∃ m w, law [.scr ns] W0 = .ok ⟨m, .bl true⟩ w := by
  obtain ⟨a, b, c, N, en⟩ := names3 ns hl
  obtain ⟨n1, n2, n3, ab, ac, bc, s1, s2, s3⟩ := N
  obtain ⟨u0, u1, eu⟩ := pick_ok (ns := ns) (k := 100) (m := 8) hl (by decide) (by decide) (by decide)
  obtain ⟨v0, v1, ev⟩ := pick_ok (ns := ns) (k := 101) (m := 9) hl (by decide) (by decide) (by decide)
  obtain ⟨t0, t1, et⟩ := pick_ok (ns := ns) (k := 102) (m := 23) hl (by decide) (by decide) (by decide)
  obtain ⟨k0, k1, ek⟩ := pick_ok (ns := ns) (k := 103) (m := 9) hl (by decide) (by decide) (by decide)
  generalize pick ns 100 8 = f at *
  generalize pick ns 101 9 = v at *
  generalize pick ns 102 23 = t at *
  generalize pick ns 103 9 = k at *
  have bd : ∀ w, law_bad [.scr ns] w = .ok ⟨.nw, .lst (badL k)⟩ w := fun w => by simp [law_bad, fnD, law_bad_b, ek, badL]
  let d1 : List D := [.tup [.str "open", .str a, .non, .int f, .int (f + 12), .str "join"]]
  let d2 := d1 ++ [.tup [.str "show", .str a, .str "talk", .int 3, .bl true, .int 0]]
  let d3 := d2 ++ [.tup [.str "show", .str b, .str "tune", .int 1, .bl true, .int (1 + v)]]
  let d4 := d3 ++ [.tup [.str "tick", .int 24]]
  let d5 := d4 ++ [.tup [.str "tick", .int (1 + t)]]
  let d6 := d5 ++ [.tup [.str "put", .str a, .int 8, .int f, .str a]]
  let d7 := d6 ++ [.tup [.str "clear", .str a, .int 3, .int 0, .int 24, .int 9]]
  let d8 := d7 ++ [.tup [.str "clear", .str a, .int 2, .int 0, .int 24, .int 4]]
  let r1 : Row := ⟨f, f + 3, a.cps.toList⟩
  let P1 : Pln := [((a, 8), [r1])]
  let w1 : List D := [wkD ⟨a, 3, 9, 0, 24, none⟩]
  let w2 : List D := w1 ++ [wkD ⟨a, 2, 4, 0, 24, none⟩]
  obtain ⟨M, hM⟩ : ∃ M, M = 24 + (1 + t) := ⟨_, rfl⟩
  let ρ (z3 : Option Val) : DL.Env := [some (fz (.scr ns)), some (fz (.int f)), some (fz (.obj 0)), z3, some (fz (.str a)), some (fz (.str b)), some (fz (.str c))]
  have st1 : law_refusals_s1 [some (fz (.scr ns)), none, none, none, none, none, none] W0 = .next [some (fz (.scr ns)), none, none, none, some (fz (.str a)), some (fz (.str b)), some (fz (.str c))] W0 := by
    simp [law_refusals_s1, sSetU, en]
  have st2 : law_refusals_s2 [some (fz (.scr ns)), none, none, none, some (fz (.str a)), some (fz (.str b)), some (fz (.str c))] W0 = .next [some (fz (.scr ns)), some (fz (.int f)), none, none, some (fz (.str a)), some (fz (.str b)), some (fz (.str c))] W0 := by
    simp [law_refusals_s2, eu]
  have st3 : law_refusals_s3 [some (fz (.scr ns)), some (fz (.int f)), none, none, some (fz (.str a)), some (fz (.str b)), some (fz (.str c))] W0 = .next (ρ none) (wP p0 1 hs0) := by
    simp [law_refusals_s3, ρ]
  let hO : Hs := ⟨[.str a], [(.inr a, .tup [.non, .int f, .int (f + 12), .str "join"])], [], [], [], [], 0, d1⟩
  have o1 : House_open_station [.obj 0, .str a, .non, .int f, .int (f + 12), .str "join"] (wP p0 1 hs0) = .ok (fz (.int 1)) (wP p0 4 hO) := open_ok p0 1 hs0 a .non f (f + 12) "join" n1 rfl rfl (by simp [spanB]; omega) (.inl rfl) (by decide) (by decide) (by decide)
  have st4 : law_refusals_s4 (ρ none) (wP p0 1 hs0) = .next (ρ none) (wP p0 4 hO) := by
    simp [law_refusals_s4, ρ, o1]
  let hP : Hs := { hO with known := [(.inr a, shD a (Str.ofString "talk") 3 true 0)], done := d2 }
  have o2 : House_add_show [.obj 0, shD a (Str.ofString "talk") 3 true 0] (wP p0 4 hO) = .ok (fz (.int 1)) (wP p0 6 hP) := addshow_ok p0 4 hO a "talk" 3 true 0 n1 rfl (by simp [showB, shD, n1]; decide) rfl (by show 0 < 1000; decide) (by show 1 < 1000; decide)
  have st5 : law_refusals_s5 (ρ none) (wP p0 4 hO) = .next (ρ none) (wP p0 6 hP) := by
    unfold shD at o2
    simp [law_refusals_s5, ρ, o2]
  have kb : valD hP.known (.inr b) = none := by simp [hP, valD, ab]
  have pk : putKD hP.known (.inr b) (shD b (Str.ofString "tune") 1 true (1 + v)) = [(.inr a, shD a (Str.ofString "talk") 3 true 0), (.inr b, shD b (Str.ofString "tune") 1 true (1 + v))] := by simp [hP, putKD, ab]
  have o3 : House_add_show [.obj 0, shD b (Str.ofString "tune") 1 true (1 + v)] (wP p0 6 hP) = .ok (fz (.int 2)) (wP p0 8 (H22 a b f (1 + v) [] [] 0 d3)) := by
    have := addshow_ok p0 6 hP b "tune" 1 true (1 + v) n2 rfl (by simp [showB, shD, n2]; refine ⟨by decide, ?_⟩; simp [numB]; omega) kb (by show 1 < 1000; decide) (by show 2 < 1000; decide)
    rw [pk] at this
    exact this
  have st6 : law_refusals_s6 (ρ none) (wP p0 6 hP) = .next (ρ none) (wP p0 8 (H22 a b f (1 + v) [] [] 0 d3)) := by
    unfold shD at o3
    simp [law_refusals_s6, ρ, ev, o3]
  have o4 : House_tick [.obj 0, .int 24] (wP p0 8 (H22 a b f (1 + v) [] [] 0 d3)) = .ok (fz (.tup [.int 1, .int 0])) (wP p0 10 (H22 a b f (1 + v) [] [] 24 d4)) := tick_ok p0 8 (H22 a b f (1 + v) [] [] 0 d3) 24 (by decide) (by decide) (by show (0 : Int) + 24 < 2400; decide) (by show 3 < 1000; decide)
  have st7 : law_refusals_s7 (ρ none) (wP p0 8 (H22 a b f (1 + v) [] [] 0 d3)) = .next (ρ none) (wP p0 10 (H22 a b f (1 + v) [] [] 24 d4)) := by
    simp [law_refusals_s7, ρ, o4]
  have o5 : House_tick [.obj 0, .int (1 + t)] (wP p0 10 (H22 a b f (1 + v) [] [] 24 d4)) = .ok (fz (.tup [.int ((24 + (1 + t)) / 24), .int ((24 + (1 + t)) % 24)])) (wP p0 12 (H22 a b f (1 + v) [] [] (24 + (1 + t)) d5)) := tick_ok p0 10 (H22 a b f (1 + v) [] [] 24 d4) (1 + t) (by omega) (by omega) (by show (24 : Int) + (1 + t) < 2400; omega) (by show 4 < 1000; decide)
  rw [← hM] at o5
  have st8 : law_refusals_s8 (ρ none) (wP p0 10 (H22 a b f (1 + v) [] [] 24 d4)) = .next (ρ none) (wP p0 12 (H22 a b f (1 + v) [] [] M d5)) := by
    simp [law_refusals_s8, ρ, et, o5]
  have Sa : ∀ P ws m dn, valD (H22 a b f (1 + v) P ws m dn).seats (.inr a) = some (.tup [.non, .int f, .int (f + 12), .str "join"]) := fun P ws m dn => by simp [H22, valD]
  have SB : ∀ P ws m dn, stB (H22 a b f (1 + v) P ws m dn) (.str a) = true := fun P ws m dn => by simp [stB, n1, Sa]
  have Ka : ∀ P ws m dn, valD (H22 a b f (1 + v) P ws m dn).known (.inr a) = some (shD a (Str.ofString "talk") 3 true 0) := fun P ws m dn => by simp [H22, valD]
  have Kb : ∀ P ws m dn, valD (H22 a b f (1 + v) P ws m dn).known (.inr b) = some (shD b (Str.ofString "tune") 1 true (1 + v)) := fun P ws m dn => by simp [H22, valD, ab]
  have rf := refused_ok (H22 a b f (1 + v) [] [] M d5) n1 n2 u0 (by omega) (Sa _ _ _ _) (Ka _ _ _ _) (Kb _ _ _ _) 12 k k0
  have st9 : law_refusals_s9 (ρ none) (wP p0 12 (H22 a b f (1 + v) [] [] M d5)) = .next (ρ none) (wP p0 12 (H22 a b f (1 + v) [] [] M d5)) := by
    simp [law_refusals_s9, ρ, bd, rf]
  have L0 : House_look_since [.obj 0, .str a, .int 3, .int 0] (wP p0 12 (H22 a b f (1 + v) [] [] M d5)) = .ex ⟨"TooLate", []⟩ (wP p0 12 (H22 a b f (1 + v) [] [] M d5)) := since_late2 p0 12 _ a 3 0 (by show (0 : Int) * 24 < M; omega)
  have o10 := pw_exP p0 12 (H22 a b f (1 + v) [] [] M d5) n1 (Sa _ _ _ _) n1 (Ka _ _ _ _) 3 f 0 _ 12 (by decide) (by decide) (by decide) (by decide) (by simp [numB]; omega) rfl L0
  have o11 := clear_exP p0 12 (H22 a b f (1 + v) [] [] M d5) a 3 0 24 0 _ 12 (SB _ _ _ _) (by decide) (by decide) (by decide) (by decide) (by decide) L0
  have o12 := pw_exP p0 12 (H22 a b f (1 + v) [] [] M d5) n1 (Sa _ _ _ _) n1 (Ka _ _ _ _) 3 (f + 9) 0 _ 12 (by decide) (by decide) (by decide) (by decide) (by simp [numB]; omega) rfl L0
  have nw : House_now [.obj 0] (wP p0 12 (H22 a b f (1 + v) [] [] M d5)) = .ok (fz (.tup [.int 1, .int (M % 24)])) (wP p0 12 (H22 a b f (1 + v) [] [] M d5)) := by
    have := now_ok p0 12 (H22 a b f (1 + v) [] [] M d5)
    rw [show (H22 a b f (1 + v) [] [] M d5).many / 24 = 1 by show M / 24 = 1; omega] at this
    exact this
  have i0 : ∀ x : Int, atI [D.int 1, .int x] 0 = some (.int 1) := fun _ => rfl
  let y1 : Option Val := some ⟨.nw, .lst [refD "TooLate"]⟩
  let y2 : Option Val := some ⟨.nw, .lst [refD "TooLate", refD "TooLate"]⟩
  let y3 : Option Val := some ⟨.nw, .lst [refD "TooLate", refD "TooLate", refD "TooLate"]⟩
  have st10 : law_refusals_s10 (ρ none) (wP p0 12 (H22 a b f (1 + v) [] [] M d5)) = .next (ρ y1) (wP p0 12 (H22 a b f (1 + v) [] [] M d5)) := by
    simp [law_refusals_s10, ρ, y1, refD, o10]
  have st11 : law_refusals_s11 (ρ y1) (wP p0 12 (H22 a b f (1 + v) [] [] M d5)) = .next (ρ y2) (wP p0 12 (H22 a b f (1 + v) [] [] M d5)) := by
    simp [law_refusals_s11, ρ, y1, y2, refD, o11]
  have st12 : law_refusals_s12 (ρ y2) (wP p0 12 (H22 a b f (1 + v) [] [] M d5)) = .next (ρ y3) (wP p0 12 (H22 a b f (1 + v) [] [] M d5)) := by
    simp [law_refusals_s12, ρ, y2, y3, refD, nw, i0, o12]
  have w3 := fun d m m' w => gMul_n [d] 3 (by decide) (by simp) (by decide) m m' w
  have w2' := fun d m m' w => gMul_n [d] 2 (by decide) (by simp) (by decide) m m' w
  have q1 : ∀ m m' w, gEq true ⟨m, .lst [refD "TooLate", refD "TooLate", refD "TooLate"]⟩ ⟨m', .lst [refD "TooLate", refD "TooLate", refD "TooLate"]⟩ w = .ok (fz (.bl false)) w := fun m m' w => gEq_same (by decide +kernel) true m m' w
  have q2 : ∀ m m' w, gEq true ⟨m, .lst [refD "Settled", refD "Settled"]⟩ ⟨m', .lst [refD "Settled", refD "Settled"]⟩ w = .ok (fz (.bl false)) w := fun m m' w => gEq_same (by decide +kernel) true m m' w
  have q3 : ∀ m m' w, gEq true ⟨m, refD "NoDay"⟩ ⟨m', refD "NoDay"⟩ w = .ok (fz (.bl false)) w := fun m m' w => gEq_same (by decide +kernel) true m m' w
  have q4 : ∀ m m' w, gEq true ⟨m, refD "NoHour"⟩ ⟨m', refD "NoHour"⟩ w = .ok (fz (.bl false)) w := fun m m' w => gEq_same (by decide +kernel) true m m' w
  simp only [refD] at q1 q2 q3 q4
  have st13 : law_refusals_s13 (ρ y3) (wP p0 12 (H22 a b f (1 + v) [] [] M d5)) = .next (ρ y3) (wP p0 12 (H22 a b f (1 + v) [] [] M d5)) := by
    simp [law_refusals_s13, ρ, y3, refD, w3, q1, List.replicate]
  have o14 := pw_no_wd p0 12 (H22 a b f (1 + v) [] [] M d5) n1 (Sa _ _ _ _) (.int 5) (.int 0) (.str c) (.int 0) rfl (by decide)
  have st14 : law_refusals_s14 (ρ y3) (wP p0 12 (H22 a b f (1 + v) [] [] M d5)) = .next (ρ y3) (wP p0 12 (H22 a b f (1 + v) [] [] M d5)) := by
    simp [law_refusals_s14, ρ, o14, q3]
  have o15 := pw_no_hourM p0 12 (H22 a b f (1 + v) [] [] M d5) n1 (Sa _ _ _ _) n1 (Ka _ _ _ _) 3 0 (.int (f + 10)) (by decide) (by decide) (by decide) (by decide) rfl (by simp [numB]; omega)
  have st15 : law_refusals_s15 (ρ y3) (wP p0 12 (H22 a b f (1 + v) [] [] M d5)) = .next (ρ y3) (wP p0 12 (H22 a b f (1 + v) [] [] M d5)) := by
    simp [law_refusals_s15, ρ, o15, q4]
  have R0 : Rows [] := ⟨.nil, by simp, by simp⟩
  have wk0 : WkOk (H22 a b f (1 + v) [] [] M d5) := Exists.intro [] (And.intro rfl (And.intro (by decide) (by simp)))
  have ra0 : rowsAt (H22 a b f (1 + v) [] [] M d5) a 8 [] := by
    unfold rowsAt
    show ∃ ws : List Wk, ([] : List D) = ws.map wkD ∧ WksOk ws ∧ ([] : List Row) = wkF a 8 (8 % 5) ws
    exact ⟨[], rfl, And.intro (by decide) (by simp), rfl⟩
  have lw : layW ⟨f, f + 3, a.cps.toList⟩ [] = [r1] := rfl
  have o16 : House_put [.obj 0, .str a, .int 8, .int f, .str a] (wP p0 12 (H22 a b f (1 + v) [] [] M d5)) = .ok (fz (.int 1)) (wP p0 14 (H22 a b f (1 + v) (plD P1) [] M d6)) := by
    have := put_ok0 p0 12 (H22 a b f (1 + v) [] [] M d5) n1 (Sa _ _ _ _) n1 (Ka _ _ _ _) 8 f [] (by decide) (by decide) s1 (by simp [numB]; omega) (by decide) (by show M ≤ 8 * 24 + f; omega) rfl wk0 ra0 R0 (by simp) (by show 0 < 1000; decide) (by show 5 < 1000; decide)
    rw [lw] at this
    exact this
  have st16 : law_refusals_s16 (ρ y3) (wP p0 12 (H22 a b f (1 + v) [] [] M d5)) = .next (ρ y3) (wP p0 14 (H22 a b f (1 + v) (plD P1) [] M d6)) := by
    simp [law_refusals_s16, ρ, o16]
  have L1 : House_look_since [.obj 0, .str a, .int 3, .int 8] (wP p0 14 (H22 a b f (1 + v) (plD P1) [] M d6)) = .ex ⟨"Settled", []⟩ (wP p0 16 (H22 a b f (1 + v) (plD P1) [] M d6)) := since_set p0 14 _ a 3 8 8 [r1] (by show M ≤ 8 * 24; omega) s1 rfl (by decide) (by decide)
  have L2 : House_look_since [.obj 0, .str a, .int 3, .int 5] (wP p0 16 (H22 a b f (1 + v) (plD P1) [] M d6)) = .ex ⟨"Settled", []⟩ (wP p0 18 (H22 a b f (1 + v) (plD P1) [] M d6)) := since_set p0 16 _ a 3 5 8 [r1] (by show M ≤ 5 * 24; omega) s1 rfl (by decide) (by decide)
  have o17 := clear_exP p0 14 (H22 a b f (1 + v) (plD P1) [] M d6) a 3 0 24 8 _ 16 (SB _ _ _ _) (by decide) (by decide) (by decide) (by decide) (by decide) L1
  have o18 := pw_exP p0 16 (H22 a b f (1 + v) (plD P1) [] M d6) n1 (Sa _ _ _ _) n1 (Ka _ _ _ _) 3 f 5 _ 18 (by decide) (by decide) (by decide) (by decide) (by simp [numB]; omega) rfl L2
  let y4 : Option Val := some ⟨.nw, .lst [refD "Settled"]⟩
  let y5 : Option Val := some ⟨.nw, .lst [refD "Settled", refD "Settled"]⟩
  have st17 : law_refusals_s17 (ρ y3) (wP p0 14 (H22 a b f (1 + v) (plD P1) [] M d6)) = .next (ρ y4) (wP p0 16 (H22 a b f (1 + v) (plD P1) [] M d6)) := by
    simp [law_refusals_s17, ρ, y4, refD, o17]
  have st18 : law_refusals_s18 (ρ y4) (wP p0 16 (H22 a b f (1 + v) (plD P1) [] M d6)) = .next (ρ y5) (wP p0 18 (H22 a b f (1 + v) (plD P1) [] M d6)) := by
    simp [law_refusals_s18, ρ, y4, y5, refD, o18]
  have o19 : House_clear_week [.obj 0, .str a, .int 3, .int 0, .int 24, .int 9] (wP p0 18 (H22 a b f (1 + v) (plD P1) [] M d6)) = .ok (fz .non) (wP p0 22 (H22 a b f (1 + v) (plD P1) w1 M d7)) := clear_okP p0 18 (H22 a b f (1 + v) (plD P1) [] M d6) a 3 0 24 9 P1 (SB _ _ _ _) (by decide) (by decide) (by decide) (by decide) (by decide) (by show M ≤ 9 * 24; omega) rfl (by simp [P1]) (by simp [P1, s1]) (by simp [P1]) (by show 0 < 1000; decide) (by show 6 < 1000; decide)
  have st19 : law_refusals_s19 (ρ y5) (wP p0 18 (H22 a b f (1 + v) (plD P1) [] M d6)) = .next (ρ y5) (wP p0 22 (H22 a b f (1 + v) (plD P1) w1 M d7)) := by
    simp [law_refusals_s19, ρ, y5, refD, w2', q2, List.replicate, o19, gIsN, DL.isNon]
  have dd := deeds_ok 22 (H22 a b f (1 + v) (plD P1) w1 M d7)
  have e20 : atI (H22 a b f (1 + v) (plD P1) w1 M d7).done (-1) = some (.tup [.str "clear", .str a, .int 3, .int 0, .int 24, .int 9]) := rfl
  have q5 : ∀ m m' w, gEq true ⟨m, .tup [.str "clear", .str a, .int 3, .int 0, .int 24, .int 9]⟩ ⟨m', .tup [.str "clear", .str a, .int 3, .int 0, .int 24, .int 9]⟩ w = .ok (fz (.bl false)) w := fun m m' w => gEq_same (by simp [pl, plN, s1]) true m m' w
  have st20 : law_refusals_s20 (ρ y5) (wP p0 22 (H22 a b f (1 + v) (plD P1) w1 M d7)) = .next (ρ y5) (wP p0 22 (H22 a b f (1 + v) (plD P1) w1 M d7)) := by
    generalize (H22 a b f (1 + v) (plD P1) w1 M d7) = h7 at *
    simp [law_refusals_s20, ρ, dd, e20, q5]
  have o21 : House_clear_week [.obj 0, .str a, .int 2, .int 0, .int 24, .int 4] (wP p0 22 (H22 a b f (1 + v) (plD P1) w1 M d7)) = .ok (fz .non) (wP p0 26 (H22 a b f (1 + v) (plD P1) w2 M d8)) := clear_okP p0 22 (H22 a b f (1 + v) (plD P1) w1 M d7) a 2 0 24 4 P1 (SB _ _ _ _) (by decide) (by decide) (by decide) (by decide) (by decide) (by show M ≤ 4 * 24; omega) rfl (by simp [P1]) (by simp [P1, s1]) (by simp [P1]) (by show 1 < 1000; decide) (by show 7 < 1000; decide)
  have rg := rights_ok (ns := ns) 26 (H22 a b f (1 + v) (plD P1) w2 M d8) n1 n2 u0 v0 (Sa _ _ _ _) (Kb _ _ _ _) ev rfl rfl
  have st21 : law_refusals_s21 (ρ y5) (wP p0 22 (H22 a b f (1 + v) (plD P1) w1 M d7)) = .ret (fz (.bl true)) (wP p0 26 (H22 a b f (1 + v) (plD P1) w2 M d8)) := by
    simp [law_refusals_s21, ρ, o21, gIsN, DL.isNon, rg]
  have rr : law_refusals [.scr ns] W0 = .ok (fz (.bl true)) (wP p0 26 (H22 a b f (1 + v) (plD P1) w2 M d8)) := by
    refine fnD_ret rfl ?_
    show law_refusals_b [some (fz (.scr ns)), none, none, none, none, none, none] W0 = _
    rw [law_refusals_b, sSeq_s, st1, othn_next, sSeq_s, st2, othn_next, sSeq_s, st3, othn_next, sSeq_s, st4, othn_next, sSeq_s, st5, othn_next, sSeq_s, st6, othn_next, sSeq_s, st7, othn_next, sSeq_s, st8, othn_next, sSeq_s, st9, othn_next, sSeq_s, st10, othn_next, sSeq_s, st11, othn_next, sSeq_s, st12, othn_next, sSeq_s, st13, othn_next, sSeq_s, st14, othn_next, sSeq_s, st15, othn_next, sSeq_s, st16, othn_next, sSeq_s, st17, othn_next, sSeq_s, st18, othn_next, sSeq_s, st19, othn_next, sSeq_s, st20, othn_next, st21]
  refine ⟨.fz, wP p0 26 (H22 a b f (1 + v) (plD P1) w2 M d8), ?_⟩
  simp [law, fnD, law_b, law_s1, rr, gIsB]
end LK
open PySem PySem.W PySem.Calls PyProof.Rows
set_option maxRecDepth 100000 in
set_option maxHeartbeats 0 in
theorem PySem.Challenge.cw_airhours_k22_weeks_refused_holds : PySem.Challenge.rw_airhours_k22_weeks_refused.Holds := by
  w_on; o_law
  refine HandSHeadRun.head_any (r := OpenLaw.row PySem.Challenge.rw_airhours_k22_weeks_refused) (q := view (OpenLaw.row PySem.Challenge.rw_airhours_k22_weeks_refused).prog [56, 58, 59]) (H := LK.hk) (ob := LK.ob) (M := 100000) (loose := LK.loose) (d := HandSHeadRun.topDef (OpenLaw.row PySem.Challenge.rw_airhours_k22_weeks_refused).prog 59) (kwd := []) LK.ob_eq
    (by kernel_rfl) (fun s => by kernel_rfl) LK.run (by kernel_rfl) (by kernel_rfl) (by kernel_rfl) (by rfl) (by first | assumption | decide +kernel) (by decide +kernel) ⟨rfl, rfl, rfl, rfl, rfl, by decide +kernel⟩ ?hw ?hc
  case hw => w_witness2
  case hc =>
    refine DH.walkQ (l := PySem.Challenge.rw_airhours_k22_weeks_refused) (k := 12) (n := 6) (F := LK.law) rfl (by kernel_rfl) ⟨rfl, by decide, by decide⟩ ?F LK.law_true
    intro w mg fa h K KX G hmg0 c
    have hmg : mg ("law" : PySem.Str) = some (.ref fa) := by
      have e : (HandSHeadRun.topDef (OpenLaw.row PySem.Challenge.rw_airhours_k22_weeks_refused).prog 59).name = ("law" : PySem.Str) := by kernel_rfl
      rw [← e]; exact hmg0
    exact LK.all_mk KX G hmg c (by decide +kernel)
