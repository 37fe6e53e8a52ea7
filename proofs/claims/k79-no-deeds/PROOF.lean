import PyProof.Rows.All
import Wide.All
import OpenK.AllK
import Wide.FinOn
import HandS.ForMost
import HandS.Exc
import HandS.TryOnly
import HandS.ExcOwn
import HandS.WordsExc
import HandS.CallSlots
import HandS.Wide
import HandS.IsInst
import HandS.Lambda
import HandS.Style
import HandS.Deep
import HandS.ExcCtx
import HandS.SuiteRaise
import HandS.EndBits
import HandS.EndTab
import HandS.SortKw
import KE.SortData
import KE.DatumOrd
import HandS.Remove
import KE.KIndexOf
import HandS.ExcIs
import HandS.HotCalls
import HandS.Dict
import HandS.Defaults
import HandS.RaiseFrom
import HandS.RaiseOp
import HandS.NoneIn
import HandS.WordsDict
import HandS.More
import HandS.ListItems
import KE.KDictList
import HandS.ExcInit
import HandS.Iter
import PyProof.InstSpecial
import HandS.ExcField
import HandS.SetFor
import KE.KDictCopyH
import KE.KAsSuite
import HandS.Head0
import HandS.Head1
import HandS.Head2
import HandS.HeadHook1
import HandS.HeadHook2
import HandS.HeadHook3
import PySem.Challenge.RW_airhours_k79_no_deeds
set_option Elab.async false
set_option linter.all false
set_option maxRecDepth 100000
set_option maxHeartbeats 4000000
namespace DH
open PySem PySem.Spec PyProof.Rows L2
abbrev Frag := PySem.W.Frag
def apart (g : Addr → Option Obj) (as : List Addr) : List Addr := as.filter fun a => match g a with
  | some ⟨.none, _, _, _⟩ => false
  | _ => true
def grA {β : Type} (bs : List Addr) (m : Nat) (acc : List Addr) (K : Nat → List Addr → β) : β := match bs with
  | [] => K m acc
  | b :: bs => match Nat.beq (Nat.land (Nat.shiftRight m b) 1) 0 with
    | true => HandSHeadRun.frNat (Nat.lor m (Nat.shiftLeft 1 b)) fun m => grA bs m (b :: acc) K
    | false => grA bs m acc K
def grL {β : Type} (g : Addr → Option Obj) (as : List Addr) (m : Nat) (acc : List Addr) (K : Nat → List Addr → β) : β := match as with
  | [] => K m acc
  | a :: as => match g a with
    | some o => grA (He.refsD o) m acc fun m acc => grL g as m acc K
    | none => grL g as m acc K
def lvs (g : Addr → Option Obj) : Nat → List Addr → Nat → List Addr → List Addr
  | 0, as, _, all => all ++ as
  | n + 1, as, m, all => grL g as m [] fun m' as' => lvs g n as' m' (all ++ as)
def asM (g : Addr → Option Obj) (n : Nat) : List Addr := lvs g n [mainGlobals] (Nat.shiftLeft 1 mainGlobals) []
def obsQ (fa : List (Frag → Bool)) (fn : List He.DefD) (K : Frag) : He.AlD := ((fa.all fun f => f K) && fn.all fun d => d.ok K, fn.map fun d => He.fnW K d.at_)
def SaysQ (fa : List (Frag → Bool)) (fn : List He.DefD) (K : Frag) : Prop := obsQ fa fn K = He.valD fn
abbrev ga := He.ga
def bFree (x : Str) (K : Frag) : Bool := He.eqO (PySem.W.nsIn K mainGlobals x) (some none)
def bGlo (x : Str) (K : Frag) : Bool := He.eqO (PySem.W.nsIn K mainGlobals x) (some (some (.ref (ga K x))))
def bInt (x : Str) (i : Int) (K : Frag) : Bool := (He.Fa.int x i).ok K
def bStr (x z : Str) (K : Frag) : Bool := (He.Fa.str x z).ok K
def bTup (x : Str) (vs : List He.Dv) (K : Frag) : Bool := bGlo x K && He.tupB K x vs
def cA (K : Frag) (x : Str) : Addr := match PySem.W.tabIn K x with
  | some p => p.1
  | none => 0
def pA (K : Frag) (x : Str) : Addr := match PySem.W.tabIn K x with
  | some p => p.2
  | none => 0
def bMk (x : Str) (K : Frag) : Bool := match PySem.W.tabIn K x with
  | some p => (K.lookup p.2).isNone && (match K.lookup (ga K x) with
    | some ⟨_, _, .func fd, _⟩ => decide (fd.code = .ref p.1)
    | _ => false)
  | none => false
def bErr (x : Str) (K : Frag) : Bool := bGlo x K && ((match PySem.W.clsIn K (ga K x) with
  | some cd => decide (cd.mro = [.ref (ga K x), .ref (ga K "AirError"), .type "ValueError", .type "Exception", .type "BaseException", .type "object"]) && cd.hasDict
  | none => false) && (decide (PySem.W.typeIn K (.ref (ga K x)) = some (.type "type")) && (PySem.W.keepIn K (.ref (ga K x)) && (He.eqO (PySem.W.findIn K (.ref (ga K x)) "__getattribute__") (some (some (.builtin "BaseException.__getattribute__"))) &&
  (He.eqO (PySem.W.findIn K (.ref (ga K x)) "__getattr__") (some none) && He.eqO (PySem.W.findIn K (.ref (ga K x)) "__class__") (some (some (.builtin "object.__class__"))))))))
def bAir (K : Frag) : Bool := bGlo "AirError" K && ((match PySem.W.clsIn K (ga K "AirError") with
  | some cd => decide (cd.mro = [.ref (ga K "AirError"), .type "ValueError", .type "Exception", .type "BaseException", .type "object"]) && cd.hasDict
  | none => false) && (decide (PySem.W.typeIn K (.ref (ga K "AirError")) = some (.type "type")) && (He.eqO (PySem.W.specialIn K (.builtin "object.__class__") "__get__") (some (some (.builtin "getset_descriptor.__get__"))) && decide (PySem.W.takesIn K (.builtin "object.__class__") = some true))))
def bNd (xs : List String) (K : Frag) : Bool := decide ((ga K "AirError" :: xs.map fun (x : String) => ga K x).Nodup)
def bRai (x : Str) (K : Frag) : Bool := PySem.W.excIn K (ga K x) [.type "ValueError", .type "Exception", .type "BaseException", .type "object"] "ValueError.__new__"
def bOwn (x : Str) (fs : List Str) (K : Frag) : Bool := (match K.lookup (ga K x) with
  | some ⟨.type "type", _, .cls cd, sl⟩ => (match cd.mro, sl.toList with
    | .ref C' :: bm, [_, _, _, _, some (.builtin n), _] => decide (C' = ga K x) && (decide (n = "ValueError.__new__") && (!cd.hasDel && (cd.hasDict && PySem.HandSPX.refsVE bm)))
    | _, _ => false)
  | _ => false) && (He.eqO (PySem.W.findIn K (.ref (ga K x)) "__setattr__") (some (some (.builtin "object.__setattr__"))) && (decide (PySem.W.subIn K (.ref (ga K x)) (.type "BaseException") = some true) && (He.eqO (PySem.W.findIn K (.ref (ga K x)) "__init__") (some (some (.ref (He.ma K (ga K x) "__init__")))) &&
  (decide (PySem.W.typeIn K (.ref (He.ma K (ga K x) "__init__")) = some (.type "function")) && fs.all fun f => He.eqO (PySem.W.findIn K (.ref (ga K x)) f) (some none)))))
def bBase (K : Frag) : Bool := He.eqO (PySem.W.specialIn K (.ref (ga K "AirError")) "__getattribute__") (some (some (.builtin "type.__getattribute__"))) && (PySem.W.readsIn K (ga K "AirError") (.type "type") && match PySem.W.findCls K (.ref (ga K "AirError")) (.type "type") "__init__" with
  | some (.val (.builtin n)) => decide (n = "ValueError.__init__")
  | _ => false)
abbrev TbD := List (Option (List (Option (Str × Int))))
def frQ (n : Nat) (g : Addr → Option Obj) : Frag := He.frG g (apart g (asM g n) ++ [PySem.cStatics])
def tabT (ts : List (Str × List Str)) (K : Frag) : TbD := ts.map fun t => He.dicW K (ga K t.1)
def tabV (ts : List (Str × List Str)) (P : Params) : TbD := ts.map fun t => some (He.keysIn P t.2)
def obsTG (n : Nat) (fa : List (Frag → Bool)) (fn : List He.DefD) (ts : List (Str × List Str)) (g : Addr → Option Obj) : He.AlD × TbD := (obsQ fa fn (frQ n g), tabT ts (frQ n g))
structure SaysT (fa : List (Frag → Bool)) (fn : List He.DefD) (ts : List (Str × List Str)) (P : Params) (K : Frag) : Prop where
  q : SaysQ fa fn K
  t : tabT ts K = tabV ts P
def hookT (n : Nat) (fa : List (Frag → Bool)) (fn : List He.DefD) (ts : List (Str × List Str)) : PySem.W.Hook where
  α := He.AlD × TbD
  obs := fun s => obsTG n fa fn ts s.heap.get?
  val := fun w => (He.valD fn, tabV ts w.params)
  says := fun w h => ∃ K : Frag, K.In h ∧ SaysT fa fn ts w.params K
  of := fun _ _ e => ⟨_, He.frG_in, congrArg (fun z : He.AlD × TbD => z.1) e, congrArg (fun z : He.AlD × TbD => z.2) e⟩
  keeps := fun _ _ _ ⟨K, hK, c⟩ k => ⟨K, PySem.W.Frag.In.keeps hK k, c⟩
theorem obsTG_eq {n : Nat} {fa : List (Frag → Bool)} {fn : List He.DefD} {ts : List (Str × List Str)} {g : Addr → Option Obj} {s : Shared} (h : ∀ a, g a = s.heap.get? a) : obsTG n fa fn ts g = (hookT n fa fn ts).obs s := by
  have e : g = s.heap.get? := funext h
  rw [e]; rfl
def wF (b : Bool) (w : World) : World := { w with params := { w.params with followText := fun s => if s == "special-get-raises" then b else w.params.followText s } }
theorem wF_eq (w : World) : wF (w.params.followText "special-get-raises") w = w := by
  obtain ⟨d, p⟩ := w
  unfold wF
  have : (fun s => if s == "special-get-raises" then p.followText "special-get-raises" else p.followText s) = p.followText := by
    funext s
    by_cases h : s = "special-get-raises"
    · subst h; simp
    · simp [h]
  dsimp only
  rw [this]
theorem wF_all {P : World → Prop} (ht : ∀ w, P (wF true w)) (hf : ∀ w, P (wF false w)) (w : World) : P w := by
  rw [← wF_eq w]
  cases w.params.followText "special-get-raises"
  · exact hf w
  · exact ht w
def bVals (x : Str) (tbl : List (Str × Int)) (K : Frag) : Bool := He.valsB K (ga K x) (tbl.map fun q => (q.1, .int q.2))
def bFns (x : Str) (tbl : List (Str × Str)) (K : Frag) : Bool := tbl.all fun q => He.eqO (PySem.W.nsIn K (ga K x) q.1) (some (some (.ref (ga K q.2))))
end DH
namespace LK
open PySem L2
def top (i : Nat) : Stmt := PySem.Challenge.pw_airhours_k79_no_deeds.main.body.getD i (.Pass ⟨0, 0, 0, 0⟩)
def clsB : Stmt → List Stmt
  | .ClassDef (body := b) .. => b
  | _ => []
def meth (i : Nat) : Stmt := (clsB (top 55)).getD i (.Pass ⟨0, 0, 0, 0⟩)
abbrev s_init : Stmt := meth 0
abbrev s_law_class : Stmt := top 73
abbrev s_law_pick : Stmt := top 71
abbrev s_law_names : Stmt := top 72
abbrev s_House_deeds : Stmt := meth 30
abbrev s_is_deed : Stmt := top 58
abbrev s_is_name : Stmt := top 44
abbrev s_House_look_station : Stmt := meth 6
abbrev s_is_number : Stmt := top 28
abbrev s_look_span : Stmt := top 51
abbrev s_House_open_station : Stmt := meth 5
abbrev s_do_open : Stmt := top 59
abbrev s_is_sort : Stmt := top 45
abbrev s_is_show : Stmt := top 46
abbrev s_House_add_show : Stmt := meth 11
abbrev s_do_show : Stmt := top 60
abbrev s_House_station : Stmt := meth 8
abbrev s_House_show : Stmt := meth 13
abbrev s_is_day : Stmt := top 29
abbrev s_look_day : Stmt := top 30
abbrev s_House_look_since : Stmt := meth 17
abbrev s_House_put_week : Stmt := meth 18
abbrev s_do_week : Stmt := top 61
abbrev s_House_clear_week : Stmt := meth 19
abbrev s_do_clear : Stmt := top 62
abbrev s_laid : Stmt := top 33
abbrev s_laid_with : Stmt := top 34
abbrev s_House_rows_by_week : Stmt := meth 20
abbrev s_House_week_rows : Stmt := meth 21
abbrev s_House_own_rows : Stmt := meth 22
abbrev s_House_times : Stmt := meth 23
abbrev s_House_put : Stmt := meth 24
abbrev s_do_put : Stmt := top 63
abbrev s_look_hour : Stmt := top 31
abbrev s_House_row_at : Stmt := meth 25
abbrev s_House_drop : Stmt := meth 26
abbrev s_do_drop : Stmt := top 64
abbrev s_joined : Stmt := top 35
abbrev s_next_fixed : Stmt := top 36
abbrev s_pushed : Stmt := top 37
abbrev s_House_overrun : Stmt := meth 27
abbrev s_do_over : Stmt := top 65
abbrev s_House_breaks : Stmt := meth 29
abbrev s_do_meet : Stmt := top 52
abbrev s_House_break_in : Stmt := meth 28
abbrev s_do_break : Stmt := top 66
abbrev s_House_now : Stmt := meth 14
abbrev s_House_tick : Stmt := meth 16
abbrev s_do_tick : Stmt := top 67
abbrev s_replayed : Stmt := top 69
abbrev s_law : Stmt := top 75
abbrev s_law_told : Stmt := top 74
abbrev s_o_Clash : Stmt := (clsB (top 20)).getD 0 (.Pass ⟨0, 0, 0, 0⟩)
abbrev s_o_NewsAhead : Stmt := (clsB (top 19)).getD 0 (.Pass ⟨0, 0, 0, 0⟩)
abbrev s_o_NoRights : Stmt := (clsB (top 13)).getD 0 (.Pass ⟨0, 0, 0, 0⟩)
abbrev s_o_NoRow : Stmt := (clsB (top 16)).getD 0 (.Pass ⟨0, 0, 0, 0⟩)
abbrev s_o_TooLong : Stmt := (clsB (top 18)).getD 0 (.Pass ⟨0, 0, 0, 0⟩)
def tabs : List (Str × List Str) := [("DOERS", ["open", "show", "week", "clear", "put", "drop", "over", "break", "tick"]), ("LENGTHS", ["open", "show", "week", "clear", "put", "drop", "over", "break", "tick"])]
def facts : List (PySem.W.Frag → Bool) := [DH.bFree "ValueError",
  DH.bFree "all",
  DH.bFree "any",
  DH.bFree "bool",
  DH.bFree "divmod",
  DH.bFree "enumerate",
  DH.bFree "int",
  DH.bFree "isinstance",
  DH.bFree "len",
  DH.bFree "list",
  DH.bFree "max",
  DH.bFree "min",
  DH.bFree "range",
  DH.bFree "sorted",
  DH.bFree "str",
  DH.bFree "tuple",
  DH.bInt "DAYS" 100,
  DH.bInt "HOURS" 24,
  DH.bStr "LETTERS" "abcdefghijklmnopqrstuvwxyz",
  DH.bInt "LONGEST" 8,
  DH.bInt "LONGEST_NAME" 6,
  DH.bInt "MOST_OVER" 8,
  DH.bInt "MOST_STATIONS" 6,
  DH.bInt "MOST_TIMES" 9,
  DH.bTup "RULES" [.str "join", .str "push"],
  DH.bTup "SORTS" [.str "news", .str "talk", .str "tune"],
  DH.bInt "WEEK" 5,
  DH.bAir,
  DH.bNd ["NoName", "NoDay", "NoHour", "NoMore", "NoShow", "NoSort", "NoStation", "NoRule", "Full", "Taken", "NoRights", "Settled", "TooLate", "NoRow", "NotLive", "TooLong", "NewsAhead", "Clash", "NoWish", "NoDeeds", "NoText"],
  (fun K => (["NoName", "NoDay", "NoHour", "NoMore", "NoShow", "NoSort", "NoStation", "NoRule", "Full", "Taken", "NoRights", "Settled", "TooLate", "NoRow", "NotLive", "TooLong", "NewsAhead", "Clash", "NoWish", "NoDeeds", "NoText"] : List String).all fun x => DH.bErr x K),
  DH.bRai "Full",
  DH.bRai "NoDay",
  DH.bRai "NoDeeds",
  DH.bRai "NoHour",
  DH.bRai "NoMore",
  DH.bRai "NoName",
  DH.bRai "NoRule",
  DH.bRai "NoShow",
  DH.bRai "NoStation",
  DH.bRai "NotLive",
  DH.bRai "Settled",
  DH.bRai "Taken",
  DH.bRai "TooLate",
  DH.bBase,
  DH.bOwn "Clash" ["begin", "end"],
  DH.bOwn "NewsAhead" ["hour", "name"],
  DH.bOwn "NoRights" ["most"],
  DH.bOwn "NoRow" ["hour"],
  DH.bOwn "TooLong" ["last"],
  fun K => (He.Fa.cls "House").ok K,
  fun K => (He.Fa.noat "House" "ranks").ok K,
  fun K => (He.Fa.noat "House" "seats").ok K,
  fun K => (He.Fa.noat "House" "known").ok K,
  fun K => (He.Fa.noat "House" "weeks").ok K,
  fun K => (He.Fa.noat "House" "plans").ok K,
  fun K => (He.Fa.noat "House" "cuts").ok K,
  fun K => (He.Fa.noat "House" "many").ok K,
  fun K => (He.Fa.noat "House" "done").ok K,
  DH.bGlo "House",
  fun K => (He.Fa.mkr "House").ok K,
  DH.bGlo "_law_class",
  DH.bGlo "_law_pick",
  DH.bGlo "_law_names",
  fun K => (He.Fa.meth "House" "deeds").ok K,
  DH.bGlo "is_deed",
  DH.bGlo "is_name",
  fun K => (He.Fa.meth "House" "look_station").ok K,
  DH.bGlo "is_number",
  DH.bGlo "look_span",
  fun K => (He.Fa.meth "House" "open_station").ok K,
  DH.bGlo "do_open",
  DH.bGlo "is_sort",
  DH.bGlo "is_show",
  fun K => (He.Fa.meth "House" "add_show").ok K,
  DH.bGlo "do_show",
  fun K => (He.Fa.meth "House" "station").ok K,
  fun K => (He.Fa.meth "House" "show").ok K,
  DH.bGlo "is_day",
  DH.bGlo "look_day",
  fun K => (He.Fa.meth "House" "look_since").ok K,
  fun K => (He.Fa.meth "House" "put_week").ok K,
  DH.bGlo "do_week",
  fun K => (He.Fa.meth "House" "clear_week").ok K,
  DH.bGlo "do_clear",
  DH.bGlo "laid",
  DH.bGlo "laid_with",
  fun K => (He.Fa.meth "House" "rows_by_week").ok K,
  fun K => (He.Fa.meth "House" "week_rows").ok K,
  fun K => (He.Fa.meth "House" "own_rows").ok K,
  fun K => (He.Fa.meth "House" "times").ok K,
  fun K => (He.Fa.meth "House" "put").ok K,
  DH.bGlo "do_put",
  DH.bGlo "look_hour",
  fun K => (He.Fa.meth "House" "row_at").ok K,
  fun K => (He.Fa.meth "House" "drop").ok K,
  DH.bGlo "do_drop",
  DH.bGlo "joined",
  DH.bGlo "next_fixed",
  DH.bGlo "pushed",
  fun K => (He.Fa.meth "House" "overrun").ok K,
  DH.bGlo "do_over",
  fun K => (He.Fa.meth "House" "breaks").ok K,
  DH.bGlo "do_meet",
  fun K => (He.Fa.meth "House" "break_in").ok K,
  DH.bGlo "do_break",
  fun K => (He.Fa.meth "House" "now").ok K,
  fun K => (He.Fa.meth "House" "tick").ok K,
  DH.bGlo "do_tick",
  DH.bGlo "replayed",
  DH.bGlo "law",
  DH.bMk "law",
  DH.bGlo "_law_told",
  DH.bGlo "DOERS",
  DH.bFns "DOERS" [("open", "do_open"), ("show", "do_show"), ("week", "do_week"), ("clear", "do_clear"), ("put", "do_put"), ("drop", "do_drop"), ("over", "do_over"), ("break", "do_break"), ("tick", "do_tick")],
  DH.bGlo "LENGTHS",
  DH.bVals "LENGTHS" [("open", 6), ("show", 6), ("week", 6), ("clear", 6), ("put", 5), ("drop", 4), ("over", 5), ("break", 5), ("tick", 2)]]
def defs : List He.DefD := [⟨("Clash", some "__init__"), "__init__", "Clash.__init__", defArgs s_o_Clash, defBody s_o_Clash, defScope s_o_Clash, [], []⟩,
  ⟨("NewsAhead", some "__init__"), "__init__", "NewsAhead.__init__", defArgs s_o_NewsAhead, defBody s_o_NewsAhead, defScope s_o_NewsAhead, [], []⟩,
  ⟨("NoRights", some "__init__"), "__init__", "NoRights.__init__", defArgs s_o_NoRights, defBody s_o_NoRights, defScope s_o_NoRights, [], []⟩,
  ⟨("NoRow", some "__init__"), "__init__", "NoRow.__init__", defArgs s_o_NoRow, defBody s_o_NoRow, defScope s_o_NoRow, [], []⟩,
  ⟨("TooLong", some "__init__"), "__init__", "TooLong.__init__", defArgs s_o_TooLong, defBody s_o_TooLong, defScope s_o_TooLong, [], []⟩,
  ⟨("_law_told", none), "_law_told", "_law_told", defArgs s_law_told, defBody s_law_told, defScope s_law_told, [], []⟩,
  ⟨("House", some "__init__"), "__init__", "House.__init__", defArgs s_init, defBody s_init, defScope s_init, [], []⟩,
  ⟨("_law_class", none), "_law_class", "_law_class", defArgs s_law_class, defBody s_law_class, defScope s_law_class, [], []⟩,
  ⟨("_law_pick", none), "_law_pick", "_law_pick", defArgs s_law_pick, defBody s_law_pick, defScope s_law_pick, [], []⟩,
  ⟨("_law_names", none), "_law_names", "_law_names", defArgs s_law_names, defBody s_law_names, defScope s_law_names, [], []⟩,
  ⟨("House", some "deeds"), "deeds", "House.deeds", defArgs s_House_deeds, defBody s_House_deeds, defScope s_House_deeds, [], []⟩,
  ⟨("is_deed", none), "is_deed", "is_deed", defArgs s_is_deed, defBody s_is_deed, defScope s_is_deed, [], []⟩,
  ⟨("is_name", none), "is_name", "is_name", defArgs s_is_name, defBody s_is_name, defScope s_is_name, [], []⟩,
  ⟨("House", some "look_station"), "look_station", "House.look_station", defArgs s_House_look_station, defBody s_House_look_station, defScope s_House_look_station, [], []⟩,
  ⟨("is_number", none), "is_number", "is_number", defArgs s_is_number, defBody s_is_number, defScope s_is_number, [], []⟩,
  ⟨("look_span", none), "look_span", "look_span", defArgs s_look_span, defBody s_look_span, defScope s_look_span, [], []⟩,
  ⟨("House", some "open_station"), "open_station", "House.open_station", defArgs s_House_open_station, defBody s_House_open_station, defScope s_House_open_station, [.non, .int 0, .int 24, .str "join"], []⟩,
  ⟨("do_open", none), "do_open", "do_open", defArgs s_do_open, defBody s_do_open, defScope s_do_open, [], []⟩,
  ⟨("is_sort", none), "is_sort", "is_sort", defArgs s_is_sort, defBody s_is_sort, defScope s_is_sort, [], []⟩,
  ⟨("is_show", none), "is_show", "is_show", defArgs s_is_show, defBody s_is_show, defScope s_is_show, [], []⟩,
  ⟨("House", some "add_show"), "add_show", "House.add_show", defArgs s_House_add_show, defBody s_House_add_show, defScope s_House_add_show, [], []⟩,
  ⟨("do_show", none), "do_show", "do_show", defArgs s_do_show, defBody s_do_show, defScope s_do_show, [], []⟩,
  ⟨("House", some "station"), "station", "House.station", defArgs s_House_station, defBody s_House_station, defScope s_House_station, [], []⟩,
  ⟨("House", some "show"), "show", "House.show", defArgs s_House_show, defBody s_House_show, defScope s_House_show, [], []⟩,
  ⟨("is_day", none), "is_day", "is_day", defArgs s_is_day, defBody s_is_day, defScope s_is_day, [], []⟩,
  ⟨("look_day", none), "look_day", "look_day", defArgs s_look_day, defBody s_look_day, defScope s_look_day, [], []⟩,
  ⟨("House", some "look_since"), "look_since", "House.look_since", defArgs s_House_look_since, defBody s_House_look_since, defScope s_House_look_since, [], []⟩,
  ⟨("House", some "put_week"), "put_week", "House.put_week", defArgs s_House_put_week, defBody s_House_put_week, defScope s_House_put_week, [.int 0], []⟩,
  ⟨("do_week", none), "do_week", "do_week", defArgs s_do_week, defBody s_do_week, defScope s_do_week, [], []⟩,
  ⟨("House", some "clear_week"), "clear_week", "House.clear_week", defArgs s_House_clear_week, defBody s_House_clear_week, defScope s_House_clear_week, [.int 0, .int 24, .int 0], []⟩,
  ⟨("do_clear", none), "do_clear", "do_clear", defArgs s_do_clear, defBody s_do_clear, defScope s_do_clear, [], []⟩,
  ⟨("laid", none), "laid", "laid", defArgs s_laid, defBody s_laid, defScope s_laid, [], []⟩,
  ⟨("laid_with", none), "laid_with", "laid_with", defArgs s_laid_with, defBody s_laid_with, defScope s_laid_with, [], []⟩,
  ⟨("House", some "rows_by_week"), "rows_by_week", "House.rows_by_week", defArgs s_House_rows_by_week, defBody s_House_rows_by_week, defScope s_House_rows_by_week, [], []⟩,
  ⟨("House", some "week_rows"), "week_rows", "House.week_rows", defArgs s_House_week_rows, defBody s_House_week_rows, defScope s_House_week_rows, [], []⟩,
  ⟨("House", some "own_rows"), "own_rows", "House.own_rows", defArgs s_House_own_rows, defBody s_House_own_rows, defScope s_House_own_rows, [], []⟩,
  ⟨("House", some "times"), "times", "House.times", defArgs s_House_times, defBody s_House_times, defScope s_House_times, [], []⟩,
  ⟨("House", some "put"), "put", "House.put", defArgs s_House_put, defBody s_House_put, defScope s_House_put, [], []⟩,
  ⟨("do_put", none), "do_put", "do_put", defArgs s_do_put, defBody s_do_put, defScope s_do_put, [], []⟩,
  ⟨("look_hour", none), "look_hour", "look_hour", defArgs s_look_hour, defBody s_look_hour, defScope s_look_hour, [], []⟩,
  ⟨("House", some "row_at"), "row_at", "House.row_at", defArgs s_House_row_at, defBody s_House_row_at, defScope s_House_row_at, [], []⟩,
  ⟨("House", some "drop"), "drop", "House.drop", defArgs s_House_drop, defBody s_House_drop, defScope s_House_drop, [], []⟩,
  ⟨("do_drop", none), "do_drop", "do_drop", defArgs s_do_drop, defBody s_do_drop, defScope s_do_drop, [], []⟩,
  ⟨("joined", none), "joined", "joined", defArgs s_joined, defBody s_joined, defScope s_joined, [], []⟩,
  ⟨("next_fixed", none), "next_fixed", "next_fixed", defArgs s_next_fixed, defBody s_next_fixed, defScope s_next_fixed, [], []⟩,
  ⟨("pushed", none), "pushed", "pushed", defArgs s_pushed, defBody s_pushed, defScope s_pushed, [], []⟩,
  ⟨("House", some "overrun"), "overrun", "House.overrun", defArgs s_House_overrun, defBody s_House_overrun, defScope s_House_overrun, [.int 1], []⟩,
  ⟨("do_over", none), "do_over", "do_over", defArgs s_do_over, defBody s_do_over, defScope s_do_over, [], []⟩,
  ⟨("House", some "breaks"), "breaks", "House.breaks", defArgs s_House_breaks, defBody s_House_breaks, defScope s_House_breaks, [], []⟩,
  ⟨("do_meet", none), "do_meet", "do_meet", defArgs s_do_meet, defBody s_do_meet, defScope s_do_meet, [], []⟩,
  ⟨("House", some "break_in"), "break_in", "House.break_in", defArgs s_House_break_in, defBody s_House_break_in, defScope s_House_break_in, [], []⟩,
  ⟨("do_break", none), "do_break", "do_break", defArgs s_do_break, defBody s_do_break, defScope s_do_break, [], []⟩,
  ⟨("House", some "now"), "now", "House.now", defArgs s_House_now, defBody s_House_now, defScope s_House_now, [], []⟩,
  ⟨("House", some "tick"), "tick", "House.tick", defArgs s_House_tick, defBody s_House_tick, defScope s_House_tick, [.int 1], []⟩,
  ⟨("do_tick", none), "do_tick", "do_tick", defArgs s_do_tick, defBody s_do_tick, defScope s_do_tick, [], []⟩,
  ⟨("replayed", none), "replayed", "replayed", defArgs s_replayed, defBody s_replayed, defScope s_replayed, [], []⟩,
  ⟨("law", none), "law", "law", defArgs s_law, defBody s_law, defScope s_law, [], []⟩]
def lo0 : List Str := ["_wall", "AirError", "NoName", "NoDay", "NoHour", "NoMore", "NoShow", "NoSort", "NoStation", "NoRule", "Full", "Taken", "NoRights", "Settled", "TooLate", "NoRow", "NotLive", "TooLong", "NewsAhead", "Clash", "NoWish", "NoDeeds", "NoText", "DAYS", "HOURS", "WEEK", "is_number", "is_day", "look_day", "look_hour"]
def lo1 : List Str := ["laid", "laid_with", "joined", "next_fixed", "pushed", "LETTERS", "LONGEST_NAME", "SORTS", "LONGEST", "MOST_TIMES", "is_name", "is_sort", "is_show", "MOST_STATIONS", "MOST_OVER", "RULES", "look_span", "do_meet", "word_of", "line_of", "House", "LENGTHS", "is_deed", "do_open", "do_show", "do_week", "do_clear", "do_put", "do_drop", "do_over"]
def lo2 : List Str := ["do_break", "do_tick", "DOERS", "replayed", "_law_pick", "_law_names", "_law_class", "_law_told"]
def loose : List Str := lo0 ++ lo1 ++ lo2
abbrev hk : PySem.W.Hook := DH.hookT 6 facts defs tabs
def ob (s : PySem.W.SharedT) : He.AlD × DH.TbD := DH.obsTG 6 facts defs tabs (HandSHeadRun.getT s)
theorem ob_eq (s : PySem.W.SharedT) : ob s = hk.obs s.abs := DH.obsTG_eq (HandSHeadRun.getT_eq s)
noncomputable def endE (w : World) (os : OsState) := HandSHeadRun.endF (HandSHeadRun.stepQ (HandSHeadRun.denQ HandSHeadRun.tabQ) (PySem.W.OpenLaw.row PySem.Challenge.rw_airhours_k79_no_deeds).prog w) 100000 (PySem.W.OpenLaw.row PySem.Challenge.rw_airhours_k79_no_deeds).prog w os
def facts0 : List (PySem.W.Frag → Bool) := (facts.drop 0)
def defs0 : List He.DefD := (defs.drop 0)
def ob0 (s : PySem.W.SharedT) : He.AlD := DH.obsQ facts0 defs0 (DH.frQ 6 (HandSHeadRun.getT s))
set_option maxHeartbeats 0 in
theorem run0t (w : World) (os : OsState) : (endE (DH.wF true w) os).map (fun s => ((fun s => HandSHeadRun.looksF (PySem.W.OpenLaw.row PySem.Challenge.rw_airhours_k79_no_deeds).prog (PySem.W.boot_heap (DH.wF true w).params) s.abs) s, (fun s => HandSHeadRun.seenQ (PySem.W.view (PySem.W.OpenLaw.row PySem.Challenge.rw_airhours_k79_no_deeds).prog [75]) loose (PySem.importedModules (PySem.W.OpenLaw.row PySem.Challenge.rw_airhours_k79_no_deeds).prog.main.body) (fun s => PySem.W.xlAt (PySem.W.view (PySem.W.OpenLaw.row PySem.Challenge.rw_airhours_k79_no_deeds).prog [75]) [] s && PySem.W.recOk (PySem.W.OpenLaw.row PySem.Challenge.rw_airhours_k79_no_deeds).toRowW.records s) s.abs) s, DH.tabT tabs (DH.frQ 6 (HandSHeadRun.getT s)))) = some (true, PySem.W.openGood (PySem.W.view (PySem.W.OpenLaw.row PySem.Challenge.rw_airhours_k79_no_deeds).prog [75]) loose, DH.tabV tabs (DH.wF true w).params) := by
  kernel_rfl
set_option maxHeartbeats 0 in
theorem run0f (w : World) (os : OsState) : (endE (DH.wF false w) os).map (fun s => ((fun s => HandSHeadRun.looksF (PySem.W.OpenLaw.row PySem.Challenge.rw_airhours_k79_no_deeds).prog (PySem.W.boot_heap (DH.wF false w).params) s.abs) s, (fun s => HandSHeadRun.seenQ (PySem.W.view (PySem.W.OpenLaw.row PySem.Challenge.rw_airhours_k79_no_deeds).prog [75]) loose (PySem.importedModules (PySem.W.OpenLaw.row PySem.Challenge.rw_airhours_k79_no_deeds).prog.main.body) (fun s => PySem.W.xlAt (PySem.W.view (PySem.W.OpenLaw.row PySem.Challenge.rw_airhours_k79_no_deeds).prog [75]) [] s && PySem.W.recOk (PySem.W.OpenLaw.row PySem.Challenge.rw_airhours_k79_no_deeds).toRowW.records s) s.abs) s, DH.tabT tabs (DH.frQ 6 (HandSHeadRun.getT s)))) = some (true, PySem.W.openGood (PySem.W.view (PySem.W.OpenLaw.row PySem.Challenge.rw_airhours_k79_no_deeds).prog [75]) loose, DH.tabV tabs (DH.wF false w).params) := by
  kernel_rfl
set_option maxHeartbeats 0 in
theorem run0 (w : World) (os : OsState) : (endE w os).map (fun s => ((fun s => HandSHeadRun.looksF (PySem.W.OpenLaw.row PySem.Challenge.rw_airhours_k79_no_deeds).prog (PySem.W.boot_heap w.params) s.abs) s, (fun s => HandSHeadRun.seenQ (PySem.W.view (PySem.W.OpenLaw.row PySem.Challenge.rw_airhours_k79_no_deeds).prog [75]) loose (PySem.importedModules (PySem.W.OpenLaw.row PySem.Challenge.rw_airhours_k79_no_deeds).prog.main.body) (fun s => PySem.W.xlAt (PySem.W.view (PySem.W.OpenLaw.row PySem.Challenge.rw_airhours_k79_no_deeds).prog [75]) [] s && PySem.W.recOk (PySem.W.OpenLaw.row PySem.Challenge.rw_airhours_k79_no_deeds).toRowW.records s) s.abs) s, DH.tabT tabs (DH.frQ 6 (HandSHeadRun.getT s)))) = some (true, PySem.W.openGood (PySem.W.view (PySem.W.OpenLaw.row PySem.Challenge.rw_airhours_k79_no_deeds).prog [75]) loose, DH.tabV tabs w.params) := DH.wF_all (P := fun w => (endE w os).map (fun s => ((fun s => HandSHeadRun.looksF (PySem.W.OpenLaw.row PySem.Challenge.rw_airhours_k79_no_deeds).prog (PySem.W.boot_heap w.params) s.abs) s, (fun s => HandSHeadRun.seenQ (PySem.W.view (PySem.W.OpenLaw.row PySem.Challenge.rw_airhours_k79_no_deeds).prog [75]) loose (PySem.importedModules (PySem.W.OpenLaw.row PySem.Challenge.rw_airhours_k79_no_deeds).prog.main.body) (fun s => PySem.W.xlAt (PySem.W.view (PySem.W.OpenLaw.row PySem.Challenge.rw_airhours_k79_no_deeds).prog [75]) [] s && PySem.W.recOk (PySem.W.OpenLaw.row PySem.Challenge.rw_airhours_k79_no_deeds).toRowW.records s) s.abs) s, DH.tabT tabs (DH.frQ 6 (HandSHeadRun.getT s)))) = some (true, PySem.W.openGood (PySem.W.view (PySem.W.OpenLaw.row PySem.Challenge.rw_airhours_k79_no_deeds).prog [75]) loose, DH.tabV tabs w.params)) (fun w => run0t w os) (fun w => run0f w os) w
set_option maxHeartbeats 0 in
theorem run2t (w : World) (os : OsState) : (endE (DH.wF true w) os).map (fun s => ob0 s) = some (He.valD defs0) := by
  kernel_rfl
set_option maxHeartbeats 0 in
theorem run2f (w : World) (os : OsState) : (endE (DH.wF false w) os).map (fun s => ob0 s) = some (He.valD defs0) := by
  kernel_rfl
set_option maxHeartbeats 0 in
theorem run2 (w : World) (os : OsState) : (endE w os).map (fun s => ob0 s) = some (He.valD defs0) := DH.wF_all (P := fun w => (endE w os).map (fun s => ob0 s) = some (He.valD defs0)) (fun w => run2t w os) (fun w => run2f w os) w
set_option maxHeartbeats 0 in
theorem run (w : World) : HandSHeadRun.RunEq (PySem.W.OpenLaw.row PySem.Challenge.rw_airhours_k79_no_deeds) (PySem.W.view (PySem.W.OpenLaw.row PySem.Challenge.rw_airhours_k79_no_deeds).prog [75]) hk ob 100000 loose w := by
  intro os
  have r0 := run0 w os
  have r2 := run2 w os
  show (endE w os).map (fun s => ((fun s => HandSHeadRun.looksF (PySem.W.OpenLaw.row PySem.Challenge.rw_airhours_k79_no_deeds).prog (PySem.W.boot_heap w.params) s.abs) s, (fun s => HandSHeadRun.seenQ (PySem.W.view (PySem.W.OpenLaw.row PySem.Challenge.rw_airhours_k79_no_deeds).prog [75]) loose (PySem.importedModules (PySem.W.OpenLaw.row PySem.Challenge.rw_airhours_k79_no_deeds).prog.main.body) (fun s => PySem.W.xlAt (PySem.W.view (PySem.W.OpenLaw.row PySem.Challenge.rw_airhours_k79_no_deeds).prog [75]) [] s && PySem.W.recOk (PySem.W.OpenLaw.row PySem.Challenge.rw_airhours_k79_no_deeds).toRowW.records s) s.abs) s, ob s)) = some (true, PySem.W.openGood (PySem.W.view (PySem.W.OpenLaw.row PySem.Challenge.rw_airhours_k79_no_deeds).prog [75]) loose, hk.val w)
  revert r0 r2
  generalize endE w os = x
  cases x with
  | none => intro r; cases r
  | some s =>
    intro r0 r2
    exact congrArg some (Prod.ext (congrArg (fun z => z.1) (Option.some.inj r0)) (Prod.ext (congrArg (fun z => z.2.1) (Option.some.inj r0)) (Prod.ext (Option.some.inj r2) (congrArg (fun z => z.2.2) (Option.some.inj r0)))))
end LK
/-! A layer of plain data over the hand layer: what an expression or a statement makes of plain data, with the heap left out. -/
namespace DL
open PySem L2
/-- plain data -/
inductive D where
  | non | bl (b : Bool) | int (i : Int) | str (x : Str) | tup (xs : List D) | lst (xs : List D)
  | dK (kvs : List (Key × D)) | dT (kvs : List (List Key × D)) | obj (k : Nat) | scr (ns : List Int) | exc (a : Addr)
  deriving Inhabited
/-- the objects of own classes that stand, by their fields; n: how often they were changed; lk: a dict is walked -/
structure W where
  n : Nat
  o : List (List (Str × D))
  lk : Bool
/-- an error: its class, its fields -/
structure Xc where
  c : String
  fs : List (Str × D)
inductive R (α : Type) where
  | ok (a : α) (w : W) | ex (x : Xc) (w : W) | bad
def R.bind {α β : Type} : R α → (α → W → R β) → R β
  | .ok a w, f => f a w
  | .ex x w, _ => .ex x w
  | .bad, _ => .bad
/-- how a value stands: frozen; new (whoever gets it owns it); a slot's own, seen; a field's -/
inductive Md where
  | fz | nw | bo | wd
  deriving DecidableEq
structure Val where
  m : Md
  d : D
abbrev Env := List (Option Val)
abbrev DE := Env → W → R Val
abbrev DT := Env → W → R Bool
abbrev DA := Env → W → R (List Val)
abbrev fz (d : D) : Val := ⟨.fz, d⟩
abbrev W0 : W := ⟨0, [], false⟩
/-! ### what is walked is locked -/
def Dct : HO → Bool
  | .dK _ | .dT _ => true
  | _ => false
/-- u stands at a, or it is a dict that is locked -/
def Lk (H : Hp) (a : Addr) (u : HO) : Prop := H a = some u ∨ (Dct u = true ∧ ∃ o, H a = some (.frz o u))
/-- what is frozen stands in the heap -/
def Sm (G H : Hp) : Prop := ∀ b u, G b = some u → Lk H b u
section
variable {G G' H H' : Hp} {a : Addr} {u : HO} {K : PySem.W.Frag} {xs : List V}
theorem Lk.eq (h : Lk H a u) (n : Dct u = false := by rfl) : H a = some u := by
  rcases h with h | ⟨h, _⟩
  · exact h
  · rw [n] at h; cases h
theorem Lk.mono (s : Same H H') (h : Lk H a u) : Lk H' a u := by
  rcases h with h | ⟨h, o, e⟩
  · exact .inl (s _ _ h)
  · exact .inr ⟨h, o, s _ _ e⟩
theorem Lk.rd (h : Lk H a u) : Rd H a u := by
  rcases h with h | ⟨_, h⟩
  · exact .inl h
  · exact .inr h
theorem Lk.some_ (h : Lk H a u) : H a ≠ none := by
  rcases h with h | ⟨_, o, h⟩ <;> rw [h] <;> exact fun z => nomatch z
theorem Lk.upd {b : Addr} {o : HO} (h : Lk H a u) (n : a ≠ b) : Lk (upd H b o) a u := by
  rcases h with h | ⟨h, q, e⟩
  · exact .inl (by rw [upd_ne n]; exact h)
  · exact .inr ⟨h, q, by rw [upd_ne n]; exact e⟩
theorem Lk.ne {b : Addr} (h : Lk H a u) (n : H b = none) : a ≠ b := fun z => h.some_ (z ▸ n)
/-- the thing that stands at a, by itself or locked, is one -/
theorem Lk.uniq {o : HO} (h : Lk H a u) (h2 : Lk H a o) (n : ∀ q z, u ≠ .frz q z) (n2 : ∀ q z, o ≠ .frz q z) : u = o := by
  rcases h with h | ⟨_, q, h⟩ <;> rcases h2 with h2 | ⟨_, q2, h2⟩ <;> rw [h] at h2
  · exact Option.some.inj h2
  · exact absurd (Option.some.inj h2) (n _ _)
  · exact absurd (Option.some.inj h2).symm (n2 _ _)
  · cases h2; rfl
theorem Sm.eq (s : Sm G H) (e : G a = some u) (n : Dct u = false := by rfl) : H a = some u := (s a u e).eq n
theorem Sm.seq (s : Sm G H) (h : SqL K G a xs) : SqL K H a xs := by
  rcases h with (h | ⟨o, h⟩) | h
  · exact .inl (.inl (s.eq h))
  · exact .inl (.inr ⟨o, s.eq h⟩)
  · exact .inr h
theorem Sm.sqT (s : Sm G H) (h : SqT K G a xs) : SqT K H a xs := by
  rcases h with (h | ⟨o, h⟩) | h
  · exact .inl (.inl (s.eq h))
  · exact .inl (.inr ⟨o, s.eq h⟩)
  · exact .inr h
theorem Sm.free (s : Sm G H) (h : H a = none) : G a = none := by
  cases e : G a with
  | none => rfl
  | some u => exact absurd h (s a u e).some_
theorem Sm.trans (s : Sm G H) (h : Same H H') : Sm G H' := fun b u e => (s b u e).mono h
end
/-! ### data in the heap -/
/-- the script: a list that is never changed -/
abbrev SqZ (K : PySem.W.Frag) (G : Hp) (a : Addr) (xs : List V) : Prop := SqL K G a xs
mutual
inductive Rep (K : PySem.W.Frag) (G : Hp) (ι : List Addr) : V → D → Prop
  | non : Rep K G ι .non .non
  | bl (b : Bool) : Rep K G ι (.bl b) (.bl b)
  | int (i : Int) : Rep K G ι (.int i) (.int i)
  | str (x : Str) : Rep K G ι (.str x) (.str x)
  | tup {a : Addr} {vs : List V} {ds : List D} : SqT K G a vs → Reps K G ι vs ds → Rep K G ι (.ref a) (.tup ds)
  | lst {a : Addr} {vs : List V} {ds : List D} : G a = some (.lst vs) → Reps K G ι vs ds → Rep K G ι (.ref a) (.lst ds)
  | scr {a : Addr} {ns : List Int} : SqZ K G a (ns.map V.int) → Rep K G ι (.ref a) (.scr ns)
  | dK {a : Addr} {kvs : List (Key × V)} {ds : List (Key × D)} : G a = some (.dK kvs) → kvs.map (·.1) = ds.map (·.1) → Reps K G ι (kvs.map (·.2)) (ds.map (·.2)) → Rep K G ι (.ref a) (.dK ds)
  | dT {a : Addr} {kvs : List (List Key × V)} {ds : List (List Key × D)} : G a = some (.dT kvs) → kvs.map (·.1) = ds.map (·.1) → Reps K G ι (kvs.map (·.2)) (ds.map (·.2)) → Rep K G ι (.ref a) (.dT ds)
  | obj {p : Addr} {k : Nat} : ι[k]? = some p → Rep K G ι (.ref p) (.obj k)
  | exc {a : Addr} : Rep K G ι (.ref a) (.exc a)
inductive Reps (K : PySem.W.Frag) (G : Hp) (ι : List Addr) : List V → List D → Prop
  | nil : Reps K G ι [] []
  | cons {v : V} {d : D} {vs : List V} {ds : List D} : Rep K G ι v d → Reps K G ι vs ds → Reps K G ι (v :: vs) (d :: ds)
end
section
variable {K : PySem.W.Frag} {G G' : Hp} {ι ι' : List Addr}
theorem sqT_mono {a : Addr} {vs : List V} (e : Same G G') (h : SqT K G a vs) : SqT K G' a vs := by
  rcases h with (h | ⟨o, h⟩) | h
  · exact .inl (.inl (e _ _ h))
  · exact .inl (.inr ⟨o, e _ _ h⟩)
  · exact .inr h
theorem pre_get {k : Nat} {p : Addr} (h : ι <+: ι') (e : ι[k]? = some p) : ι'[k]? = some p := by
  obtain ⟨t, rfl⟩ := h
  have := (List.getElem?_eq_some_iff.mp e).1
  rw [List.getElem?_append_left this]
  exact e
mutual
theorem Rep.mono (e : Same G G') (i : ι <+: ι') : ∀ {v : V} {d : D}, Rep K G ι v d → Rep K G' ι' v d
  | _, _, .non => .non
  | _, _, .bl b => .bl b
  | _, _, .int b => .int b
  | _, _, .str b => .str b
  | _, _, .tup q r => .tup (sqT_mono e q) (Reps.mono e i r)
  | _, _, .lst q r => .lst (e _ _ q) (Reps.mono e i r)
  | _, _, .scr q => .scr (e.seq q)
  | _, _, .dK q k r => .dK (e _ _ q) k (Reps.mono e i r)
  | _, _, .dT q k r => .dT (e _ _ q) k (Reps.mono e i r)
  | _, _, .obj h => .obj (pre_get i h)
  | _, _, .exc => .exc
theorem Reps.mono (e : Same G G') (i : ι <+: ι') : ∀ {vs : List V} {ds : List D}, Reps K G ι vs ds → Reps K G' ι' vs ds
  | _, _, .nil => .nil
  | _, _, .cons a b => .cons (Rep.mono e i a) (Reps.mono e i b)
end
theorem Reps.length : ∀ {vs : List V} {ds : List D}, Reps K G ι vs ds → vs.length = ds.length
  | _, _, .nil => rfl
  | _, _, .cons _ b => by rw [List.length_cons, List.length_cons, Reps.length b]
theorem Reps.get : ∀ {vs : List V} {ds : List D} {i : Nat} {v : V}, Reps K G ι vs ds → vs[i]? = some v → ∃ d, ds[i]? = some d ∧ Rep K G ι v d
  | _, _, _, _, .nil, e => by simp at e
  | _, _, 0, _, .cons a _, e => by simp at e; subst e; exact ⟨_, rfl, a⟩
  | _, _, i + 1, _, .cons _ b, e => by
    obtain ⟨d, h1, h2⟩ := Reps.get (i := i) b (by simpa using e)
    exact ⟨d, by simpa using h1, h2⟩
theorem Reps.getD : ∀ {vs : List V} {ds : List D} {i : Nat} {d : D}, Reps K G ι vs ds → ds[i]? = some d → ∃ v, vs[i]? = some v ∧ Rep K G ι v d
  | _, _, _, _, .nil, e => by simp at e
  | _, _, 0, _, .cons a _, e => by simp at e; subst e; exact ⟨_, rfl, a⟩
  | _, _, i + 1, _, .cons _ b, e => by
    obtain ⟨d, h1, h2⟩ := Reps.getD (i := i) b (by simpa using e)
    exact ⟨d, by simpa using h1, h2⟩
theorem Reps.append : ∀ {vs ws : List V} {ds es : List D}, Reps K G ι vs ds → Reps K G ι ws es → Reps K G ι (vs ++ ws) (ds ++ es)
  | _, _, _, _, .nil, h => h
  | _, _, _, _, .cons a b, h => .cons a (Reps.append b h)
theorem Reps.take : ∀ {vs : List V} {ds : List D} (n : Nat), Reps K G ι vs ds → Reps K G ι (vs.take n) (ds.take n)
  | _, _, 0, _ => .nil
  | _, _, _ + 1, .nil => .nil
  | _, _, n + 1, .cons a b => .cons a (Reps.take n b)
theorem Reps.drop : ∀ {vs : List V} {ds : List D} (n : Nat), Reps K G ι vs ds → Reps K G ι (vs.drop n) (ds.drop n)
  | _, _, 0, h => h
  | _, _, _ + 1, .nil => .nil
  | _, _, n + 1, .cons _ b => Reps.drop n b
theorem Reps.set {v : V} {d : D} (h : Rep K G ι v d) : ∀ {vs : List V} {ds : List D} (i : Nat), Reps K G ι vs ds → Reps K G ι (vs.set i v) (ds.set i d)
  | _, _, _, .nil => .nil
  | _, _, 0, .cons _ b => .cons h b
  | _, _, i + 1, .cons a b => .cons a (Reps.set h i b)
theorem Reps.reverse : ∀ {vs : List V} {ds : List D}, Reps K G ι vs ds → Reps K G ι vs.reverse ds.reverse
  | _, _, .nil => .nil
  | _, _, .cons a b => by rw [List.reverse_cons, List.reverse_cons]; exact (Reps.reverse b).append (.cons a .nil)
theorem Reps.of_ints : ∀ {ns : List Int} {vs : List V}, Reps K G ι vs (ns.map D.int) → vs = ns.map V.int
  | [], _, .nil => rfl
  | _ :: _, _, .cons a b => by cases a; rw [Reps.of_ints b]; rfl
theorem Reps.of_bls : ∀ {ns : List Bool} {vs : List V}, Reps K G ι vs (ns.map D.bl) → vs = ns.map V.bl
  | [], _, .nil => rfl
  | _ :: _, _, .cons a b => by cases a; rw [Reps.of_bls b]; rfl
end
/-- what no store can change: no list, no dict within -/
def imN : Nat → D → Bool
  | _, .non | _, .bl _ | _, .int _ | _, .str _ | _, .obj _ => true
  | 0, _ => false
  | n + 1, .tup xs => xs.all (imN n)
  | _, _ => false
def im (d : D) : Bool := imN 8 d
/-- a heap without one place -/
def del (G : Hp) (a : Addr) : Hp := fun b => if b = a then none else G b
theorem del_ne {G : Hp} {a b : Addr} (h : b ≠ a) : del G a b = G b := by unfold del; rw [if_neg h]
theorem del_same {G : Hp} {a : Addr} : del G a a = none := by unfold del; rw [if_pos rfl]
/-- a list, a dict: whatever is changed in place -/
def Cont : HO → Prop
  | .lst _ | .dK _ | .dT _ => True
  | _ => False
theorem Rep.del {K : PySem.W.Frag} {G : Hp} {ι : List Addr} {a : Addr} (hc : ∀ o, G a = some o → Cont o) : ∀ (n : Nat) {v : V} {d : D}, Rep K G ι v d → imN n d = true → Rep K (DL.del G a) ι v d := by
  intro n
  induction n with
  | zero =>
    intro v d r h
    cases r with
    | non => exact .non
    | bl b => exact .bl b
    | int b => exact .int b
    | str b => exact .str b
    | obj q => exact .obj q
    | scr _ => simp [imN] at h
    | exc => simp [imN] at h
    | tup _ _ => simp [imN] at h
    | lst _ _ => simp [imN] at h
    | dK _ _ _ => simp [imN] at h
    | dT _ _ _ => simp [imN] at h
  | succ n ih =>
    intro v d r h
    have go : ∀ {vs : List V} {ds : List D}, Reps K G ι vs ds → ds.all (imN n) = true → Reps K (DL.del G a) ι vs ds := by
      intro vs ds r
      induction ds generalizing vs with
      | nil => intro _; cases r; exact .nil
      | cons d ds ih2 =>
        intro h
        cases r with
        | cons r1 r2 =>
          rw [List.all_cons, Bool.and_eq_true] at h
          exact .cons (ih r1 h.1) (ih2 r2 h.2)
    cases r with
    | non => exact .non
    | bl b => exact .bl b
    | int b => exact .int b
    | str b => exact .str b
    | obj q => exact .obj q
    | scr _ => simp [imN] at h
    | exc => simp [imN] at h
    | tup q r =>
      rename_i b vs ds
      refine .tup ?_ (go r (by simpa [imN] using h))
      rcases q with (q | ⟨o, q⟩) | q
      · have : b ≠ a := fun e => by subst e; exact hc _ q
        exact .inl (.inl (by rw [del_ne this]; exact q))
      · have : b ≠ a := fun e => by subst e; exact hc _ q
        exact .inl (.inr ⟨o, by rw [del_ne this]; exact q⟩)
      · exact .inr q
    | lst _ _ => simp [imN] at h
    | dK _ _ _ => simp [imN] at h
    | dT _ _ _ => simp [imN] at h
end DL
namespace DL
open PySem L2
/-! ### the world of objects -/
/-- the class of the objects, and the tables of code objects (a lambda's code is kept in one) -/
structure Ca where
  a : Addr
  T : List (Addr × Str)
/-- no table -/
def Nt (o : HO) : Prop := ∀ ps, o ≠ .tbl ps
/-- nothing stands there, or a table -/
def Fr (H : Hp) (a : Addr) : Prop := ∀ o, H a = some o → ¬ Nt o
theorem Fr.of {H : Hp} {a : Addr} (h : H a = none) : Fr H a := fun o e => by rw [h] at e; cases e
theorem Fr.ne {H : Hp} {a b : Addr} {o : HO} (h : Fr H a) (e : H b = some o) (n : Nt o) : b ≠ a := fun z => h o (z ▸ e) n
theorem nt_lst {xs : List V} : Nt (.lst xs) := fun _ h => nomatch h
theorem nt_tup {xs : List V} : Nt (.tup xs) := fun _ h => nomatch h
theorem nt_cont {o : HO} (h : Cont o) : Nt o := fun ps e => by subst e; exact h
theorem nx_cont {o : HO} (h : Cont o) : ∀ f, o ≠ .ext f := fun f e => by subst e; exact h
theorem nt_frz {o : Obj} {u : HO} : Nt (.frz o u) := fun _ h => nomatch h
theorem Lk.at' {H : Hp} {a : Addr} {u : HO} (h : Lk H a u) (n : Nt u) : ∃ o, H a = some o ∧ Nt o := by
  rcases h with h | ⟨_, o, h⟩
  · exact ⟨_, h, n⟩
  · exact ⟨_, h, nt_frz⟩
theorem Lk.nt2 {H : Hp} {a : Addr} {u o : HO} (h : Lk H a u) (n : Nt u) (h2 : Lk H a o) : Nt o := by
  obtain ⟨x, hx, nx⟩ := h.at' n
  rcases h2 with h2 | ⟨d, _, _⟩
  · rw [hx] at h2; cases h2; exact nx
  · intro ps z; subst z; cases d
theorem nf_cont {o : HO} (h : Cont o) : ∀ q z, o ≠ .frz q z := fun q z e => by subst e; exact h
theorem nt_ins {C dx : Addr} {fs : List (Str × V)} : Nt (.ins C dx fs) := fun _ h => nomatch h
abbrev Ws0 := List (Addr × List (Str × V))
structure Ws where
  n : Nat
  l : Ws0
  lk : Option (Addr × Obj × HO)
def refs : List (Str × V) → List Addr
  | [] => []
  | (_, .ref a) :: r => a :: refs r
  | _ :: r => refs r
def regs0 : Ws0 → List Addr
  | [] => []
  | (p, fs) :: r => p :: (refs fs ++ regs0 r)
abbrev regs (ws : Ws) : List Addr := regs0 ws.l
abbrev io (ws : Ws) : List Addr := ws.l.map (·.1)
/-- a thing that may change, as it stands -/
inductive Unf (K : PySem.W.Frag) (G H : Hp) (ι : List Addr) (a : Addr) : D → Prop
  | lst {vs : List V} {ds : List D} : H a = some (.lst vs) → Reps K G ι vs ds → Unf K G H ι a (.lst ds)
  | dK {kvs : List (Key × V)} {ds : List (Key × D)} : Lk H a (.dK kvs) → kvs.map (·.1) = ds.map (·.1) → Reps K G ι (kvs.map (·.2)) (ds.map (·.2)) → Unf K G H ι a (.dK ds)
  | dT {kvs : List (List Key × V)} {ds : List (List Key × D)} : Lk H a (.dT kvs) → kvs.map (·.1) = ds.map (·.1) → Reps K G ι (kvs.map (·.2)) (ds.map (·.2)) → Unf K G H ι a (.dT ds)
def Fld (K : PySem.W.Frag) (G H : Hp) (ι : List Addr) (v : V) (d : D) : Prop := (∃ a, v = .ref a ∧ Unf K G H ι a d) ∨ (∃ i, v = .int i ∧ d = .int i)
structure RelW (K : PySem.W.Frag) (C : Ca) (G H : Hp) (ws : Ws) (w : W) : Prop where
  obs : Paired (fun (q : Addr × List (Str × V)) (o : List (Str × D)) => (∃ dx, H q.1 = some (.ins C.a dx q.2)) ∧ Paired (fun (x : Str × V) (y : Str × D) => x.1 = y.1 ∧ Fld K G H (io ws) x.2 y.2) q.2 o) ws.l w.o
  nn : w.n = ws.n
  nd : (regs ws).Nodup
  out : ∀ a ∈ regs ws, G a = none
  tb : LamX.Tabs C.T H
  nt : ∀ b o, G b = some o → Nt o
  ul : ∀ a o u, H a = some (.frz o u) → Dct u = true → G a = some (.frz o u) ∨ ws.lk = some (a, o, u)
  lkw : w.lk = ws.lk.isSome
  lkh : ∀ a o u, ws.lk = some (a, o, u) → H a = some (.frz o u)
/-- a value -/
def RV (K : PySem.W.Frag) (G H : Hp) (ws : Ws) (v : V) (x : Val) : Prop := match x.m with
  | .fz => Rep K G (io ws) v x.d
  | .wd => ∃ a, v = .ref a ∧ G a = none ∧ a ∈ regs ws ∧ Unf K G H (io ws) a x.d
  | _ => ∃ a, v = .ref a ∧ G a = none ∧ a ∉ regs ws ∧ Unf K G H (io ws) a x.d
/-- the objects stay where they are, and so do the containers of their fields -/
def Stab (l l' : Ws0) : Prop := ∀ (k : Nat) p fs, l[k]? = some (p, fs) → ∃ fs', l'[k]? = some (p, fs') ∧ fs'.map (·.1) = fs.map (·.1) ∧ ∀ (x : Nat) f a, fs[x]? = some (f, V.ref a) → fs'[x]? = some (f, V.ref a)
theorem Stab.refl (l : Ws0) : Stab l l := fun k p fs h => ⟨fs, h, rfl, fun _ _ _ h => h⟩
theorem Stab.trans {a b c : Ws0} (h : Stab a b) (g : Stab b c) : Stab a c := fun k p fs e => by
  obtain ⟨f1, e1, m1, k1⟩ := h k p fs e
  obtain ⟨f2, e2, m2, k2⟩ := g k p f1 e1
  exact ⟨f2, e2, m2.trans m1, fun x f a z => k2 x f a (k1 x f a z)⟩
/-- from one state to a later one -/
structure Nx (K : PySem.W.Frag) (C : Ca) (G H : Hp) (ws : Ws) (G' H' : Hp) (ws' : Ws) (w' : W) : Prop where
  gg : Same G G'
  sub : Sm G' H'
  rw : RelW K C G' H' ws' w'
  keep : ∀ a o, Lk H a o → Nt o → a ∉ regs ws → Lk H' a o
  alive : ∀ a o, H a = some o → Nt o → ∃ o', H' a = some o' ∧ Nt o'
  nocap : ∀ a o, H a = some o → Nt o → G a = none → G' a = none ∨ ∃ xs, H' a = some (.tup xs)
  io : io ws <+: io ws'
  fresh : ∀ a ∈ regs ws', a ∈ regs ws ∨ Fr H a
  le : ws.n ≤ ws'.n
  qt : ws'.n = ws.n → ws' = ws ∧ ∀ a ∈ regs ws, ∀ o, Lk H a o → Lk H' a o
  stb : Stab ws.l ws'.l
section
variable {K : PySem.W.Frag} {C : Ca} {G H G' H' G2 H2 : Hp} {ws ws' ws2 : Ws} {w w' w2 : W}
theorem paired_imp {α β : Type} {F F' : α → β → Prop} : ∀ {l : List α} {m : List β}, Paired F l m → (∀ a b, a ∈ l → F a b → F' a b) → Paired F' l m
  | _, _, .nil, _ => .nil
  | _, _, .cons a b, h => .cons (h _ _ List.mem_cons_self a) (paired_imp b fun x y hx => h x y (List.mem_cons_of_mem _ hx))
theorem refs_mem : ∀ {fs : List (Str × V)} {x : Str × V} {a : Addr}, x ∈ fs → x.2 = .ref a → a ∈ refs fs
  | (n, v) :: r, x, a, h, e => by
    rcases List.mem_cons.mp h with rfl | h
    · simp only at e; subst e; exact List.mem_cons_self
    · have := refs_mem h e
      cases v <;> first | exact List.mem_cons_of_mem _ this | exact this
theorem regs_mem : ∀ {ws : Ws0} {q : Addr × List (Str × V)}, q ∈ ws → q.1 ∈ regs0 ws ∧ ∀ a ∈ refs q.2, a ∈ regs0 ws
  | (p, fs) :: r, q, h => by
    rcases List.mem_cons.mp h with rfl | h
    · exact ⟨List.mem_cons_self, fun a ha => List.mem_cons_of_mem _ (List.mem_append_left _ ha)⟩
    · have := regs_mem h
      exact ⟨List.mem_cons_of_mem _ (List.mem_append_right _ this.1), fun a ha => List.mem_cons_of_mem _ (List.mem_append_right _ (this.2 a ha))⟩
theorem Unf.there {ι : List Addr} {a : Addr} {d : D} (h : Unf K G H ι a d) : ∃ o, Lk H a o ∧ Cont o := by
  cases h with
  | lst e _ => exact ⟨_, .inl e, trivial⟩
  | dK e _ _ => exact ⟨_, e, trivial⟩
  | dT e _ _ => exact ⟨_, e, trivial⟩
theorem Unf.move {ι ι' : List Addr} {a : Addr} {d : D} (h : Unf K G H ι a d) (g : Same G G') (i : ι <+: ι') (k : ∀ o, Lk H a o → Lk H' a o) : Unf K G' H' ι' a d := by
  cases h with
  | lst e r => exact .lst (k _ (.inl e)).eq (r.mono g i)
  | dK e k1 r => exact .dK (k _ e) k1 (r.mono g i)
  | dT e k1 r => exact .dT (k _ e) k1 (r.mono g i)
theorem Fld.move {ι ι' : List Addr} {v : V} {d : D} (h : Fld K G H ι v d) (g : Same G G') (i : ι <+: ι') (k : ∀ a o, v = .ref a → Lk H a o → Lk H' a o) : Fld K G' H' ι' v d := by
  rcases h with ⟨a, e, u⟩ | h
  · exact .inl ⟨a, e, u.move g i fun o => k a o e⟩
  · exact .inr h
theorem reg_there (r : RelW K C G H ws w) {a : Addr} (h : a ∈ regs ws) : ∃ o, H a = some o ∧ Nt o := by
  have go : ∀ {l : Ws0} {m : List (List (Str × D))}, Paired (fun (q : Addr × List (Str × V)) (o : List (Str × D)) => (∃ dx, H q.1 = some (.ins C.a dx q.2)) ∧ Paired (fun (x : Str × V) (y : Str × D) => x.1 = y.1 ∧ Fld K G H (io ws) x.2 y.2) q.2 o) l m → a ∈ regs0 l → ∃ o, H a = some o ∧ Nt o := by
    intro l m p
    induction p with
    | nil => intro h; exact absurd h (by simp [regs0])
    | @cons q o l m p1 p2 ih =>
      intro h
      obtain ⟨p, fs⟩ := q
      rcases List.mem_cons.mp h with rfl | h
      · obtain ⟨⟨dx, e⟩, _⟩ := p1
        exact ⟨_, e, nt_ins⟩
      · rcases List.mem_append.mp h with h | h
        · have go2 : ∀ {fs : List (Str × V)} {o : List (Str × D)}, Paired (fun (x : Str × V) (y : Str × D) => x.1 = y.1 ∧ Fld K G H (io ws) x.2 y.2) fs o → a ∈ refs fs → ∃ o, H a = some o ∧ Nt o := by
            intro fs o p
            induction p with
            | nil => intro h; exact absurd h (by simp [refs])
            | @cons x y l m q1 q2 ih2 =>
              intro h
              obtain ⟨n, v⟩ := x
              rcases q1.2 with ⟨b, e, u⟩ | ⟨i, e, _⟩
              · simp only at e
                subst e
                rcases List.mem_cons.mp h with rfl | h
                · obtain ⟨o, e, c⟩ := u.there
                  exact e.at' (nt_cont c)
                · exact ih2 h
              · simp only at e
                subst e
                exact ih2 h
          exact go2 p1.2 h
        · exact ih h
  exact go r.obs h
theorem reg_not_tup (r : RelW K C G H ws w) {a : Addr} {xs : List V} (hx : H a = some (.tup xs)) : a ∉ regs ws := by
  have go : ∀ {l : Ws0} {m : List (List (Str × D))}, Paired (fun (q : Addr × List (Str × V)) (o : List (Str × D)) => (∃ dx, H q.1 = some (.ins C.a dx q.2)) ∧ Paired (fun (x : Str × V) (y : Str × D) => x.1 = y.1 ∧ Fld K G H (io ws) x.2 y.2) q.2 o) l m → a ∉ regs0 l := by
    intro l m p
    induction p with
    | nil => simp [regs0]
    | @cons q o l m p1 p2 ih =>
      intro h
      obtain ⟨p, fs⟩ := q
      rcases List.mem_cons.mp h with rfl | h
      · obtain ⟨⟨dx, e⟩, _⟩ := p1
        rw [hx] at e; cases e
      · rcases List.mem_append.mp h with h | h
        · have go2 : ∀ {fs : List (Str × V)} {o : List (Str × D)}, Paired (fun (x : Str × V) (y : Str × D) => x.1 = y.1 ∧ Fld K G H (io ws) x.2 y.2) fs o → a ∉ refs fs := by
            intro fs o p
            induction p with
            | nil => simp [refs]
            | @cons x y l m q1 q2 ih2 =>
              intro h
              obtain ⟨n, v⟩ := x
              rcases q1.2 with ⟨b, e, u⟩ | ⟨i, e, _⟩
              · simp only at e
                subst e
                rcases List.mem_cons.mp h with rfl | h
                · obtain ⟨o, e, c⟩ := u.there
                  rcases e with e | ⟨_, q, e⟩
                  · rw [hx] at e; cases e; exact c
                  · rw [hx] at e; cases e
                · exact ih2 h
              · simp only at e
                subst e
                exact ih2 h
          exact go2 p1.2 h
        · exact ih h
  exact go r.obs
/-- nothing is locked -/
theorem RelW.ul0 (r : RelW K C G H ws w) (hl : w.lk = false) {a : Addr} {o : Obj} {u : HO} (h : H a = some (.frz o u)) (hd : Dct u = true) : G a = some (.frz o u) := by
  rcases r.ul a o u h hd with z | z
  · exact z
  · have := r.lkw
    rw [hl, z] at this
    cases this
theorem Nx.refl (s : Sm G H) (r : RelW K C G H ws w) : Nx K C G H ws G H ws w := ⟨fun _ _ h => h, s, r, fun _ _ h _ _ => h, fun _ o h n => ⟨o, h, n⟩, fun _ _ _ _ h => .inl h, List.prefix_refl _, fun _ h => .inl h, Nat.le_refl _, fun _ => ⟨rfl, fun _ _ _ h => h⟩, Stab.refl _⟩
theorem Nx.trans (a : Nx K C G H ws G' H' ws' w') (b : Nx K C G' H' ws' G2 H2 ws2 w2) : Nx K C G H ws G2 H2 ws2 w2 where
  gg := a.gg.trans b.gg
  sub := b.sub
  rw := b.rw
  keep := fun c o e nt n => b.keep c o (a.keep c o e nt n) nt fun h => by
    rcases a.fresh c h with z | z
    · exact n z
    · obtain ⟨o1, e1, n1⟩ := e.at' nt
      exact z o1 e1 n1
  alive := fun c o e nt => by
    obtain ⟨o', e', nt'⟩ := a.alive c o e nt
    exact b.alive c o' e' nt'
  nocap := fun c o e nt n => by
    obtain ⟨o', e', nt'⟩ := a.alive c o e nt
    rcases a.nocap c o e nt n with z | ⟨xs, z⟩
    · exact b.nocap c o' e' nt' z
    · exact .inr ⟨xs, (b.keep c _ (.inl z) nt_tup (reg_not_tup a.rw z)).eq⟩
  io := a.io.trans b.io
  fresh := fun c h => by
    rcases b.fresh c h with z | z
    · exact a.fresh c z
    · refine .inr fun o e nt => ?_
      obtain ⟨o', e', nt'⟩ := a.alive c o e nt
      exact z o' e' nt'
  le := Nat.le_trans a.le b.le
  stb := a.stb.trans b.stb
  qt := fun h => by
    have h1 := a.le
    have h2 := b.le
    obtain ⟨e1, k1⟩ := a.qt (by omega)
    obtain ⟨e2, k2⟩ := b.qt (by omega)
    subst e1
    exact ⟨e2, fun c hc o e => k2 c hc o (k1 c hc o e)⟩
/-- a frozen world: H may grow, G may grow by what is new -/
theorem RelW.grow (r : RelW K C G H ws w) (g : Same G G') (h : Same H H') (n : ∀ a o, H a = some o → Nt o → G a = none → G' a = none) (nt : ∀ b o, G' b = some o → Nt o) (ul : ∀ a o u, H' a = some (.frz o u) → Dct u = true → G' a = some (.frz o u) ∨ ws.lk = some (a, o, u)) : RelW K C G' H' ws w where
  obs := paired_imp r.obs fun q o hq ⟨⟨dx, e⟩, p⟩ => ⟨⟨dx, h _ _ e⟩, paired_imp p fun x y hx ⟨e, f⟩ => ⟨e, f.move g (List.prefix_refl _) fun a o _ e => e.mono h⟩⟩
  ul := ul
  lkw := r.lkw
  lkh := fun a o u e => h _ _ (r.lkh a o u e)
  nn := r.nn
  nd := r.nd
  out := fun a ha => by
    obtain ⟨o, e, no⟩ := reg_there r ha
    exact n a o e no (r.out a ha)
  tb := r.tb.ext h
  nt := nt
/-- a table is none of what changes -/
theorem tabs_upd {T : List (Addr × Str)} {H : Hp} {a : Addr} {o o' : HO} (t : LamX.Tabs T H) (h : H a = some o) (n : Nt o) (nx : ∀ f, o ≠ .ext f) : LamX.Tabs T (upd H a o') := by
  intro p hp
  obtain ⟨ps, h1, h2, h3⟩ := t p hp
  refine ⟨ps, ?_, h2, fun pos cv hc => ?_⟩
  · rw [upd_ne]
    · exact h1
    · intro z; rw [z, h] at h1; cases h1; exact n _ rfl
  · obtain ⟨c, e1, e2⟩ := h3 pos cv hc
    refine ⟨c, e1, ?_⟩
    rw [upd_ne]
    · exact e2
    · intro z; rw [z, h] at e2; cases e2; exact nx _ rfl
theorem lkh_upd (r : RelW K C G H ws w) {p : Addr} {o' : HO} (hp : ∀ q u, H p ≠ some (.frz q u)) : ∀ a o u, ws.lk = some (a, o, u) → upd H p o' a = some (.frz o u) := fun a o u e => by
  have := r.lkh a o u e
  rw [upd_ne (fun z => by rw [z] at this; exact hp _ _ this)]
  exact this
theorem lkh_cont (r : RelW K C G H ws w) {p : Addr} {o o' : HO} (hp : H p = some o) (c : ∀ q u, o ≠ .frz q u) : ∀ a o u, ws.lk = some (a, o, u) → upd H p o' a = some (.frz o u) := lkh_upd r fun q u z => by rw [hp] at z; cases z; exact c _ _ rfl
theorem ul_upd (r : RelW K C G H ws w) {p : Addr} {o : HO} (g : Same G G') (nf : ∀ q u, o ≠ .frz q u) : ∀ a q u, upd H p o a = some (.frz q u) → Dct u = true → G' a = some (.frz q u) ∨ ws.lk = some (a, q, u) := fun a q u e hd => by
  by_cases hb : a = p
  · subst hb; rw [upd_same] at e; cases e; exact absurd rfl (nf _ _)
  · rw [upd_ne hb] at e; exact (r.ul a q u e hd).imp (g _ _) id
/-- one new object, frozen -/
theorem Nx.put (s : Sm G H) (r : RelW K C G H ws w) {p : Addr} {o : HO} (hp : H p = none) (no : Nt o := by intro _ h; cases h) (nf : ∀ q u, o ≠ .frz q u := by intro _ _ h; cases h) : Nx K C G H ws (upd G p o) (upd H p o) ws w := by
  have gp : G p = none := s.free hp
  have sg : Same G (upd G p o) := fun b u e => by rw [upd_ne (ne_of_none e gp)]; exact e
  have sh : Same H (upd H p o) := fun b u e => by rw [upd_ne (ne_of_none e hp)]; exact e
  have nc : ∀ a u, H a = some u → Nt u → G a = none → upd G p o a = none := fun a u h _ n => by
    rw [upd_ne (ne_of_none h hp)]
    exact n
  refine ⟨sg, fun b u e => ?_, r.grow sg sh nc (fun b u e => ?_) (ul_upd r sg nf), fun a o e _ _ => e.mono sh, fun a u h nu => ⟨u, sh a u h, nu⟩, fun a u h nu g => .inl (nc a u h nu g), List.prefix_refl _, fun _ h => .inl h, Nat.le_refl _, fun _ => ⟨rfl, fun a _ o e => e.mono sh⟩, Stab.refl _⟩
  · by_cases hb : b = p
    · subst hb; rw [upd_same] at e; exact .inl (by rw [upd_same]; exact e)
    · rw [upd_ne hb] at e; exact (s _ _ e).mono sh
  · by_cases hb : b = p
    · subst hb; rw [upd_same] at e; cases e; exact no
    · rw [upd_ne hb] at e; exact r.nt b u e
/-- one new object, not frozen -/
theorem Nx.new (s : Sm G H) (r : RelW K C G H ws w) {p : Addr} {o : HO} (hp : H p = none) (nf : ∀ q u, o ≠ .frz q u := by intro _ _ h; cases h) : Nx K C G H ws G (upd H p o) ws w := by
  have sh : Same H (upd H p o) := fun b u e => by rw [upd_ne (ne_of_none e hp)]; exact e
  exact ⟨fun _ _ h => h, s.trans sh, r.grow (fun _ _ h => h) sh (fun _ _ _ _ h => h) r.nt (ul_upd r (fun _ _ h => h) nf), fun a o e _ _ => e.mono sh, fun a u h nu => ⟨u, sh a u h, nu⟩, fun _ _ _ _ h => .inl h, List.prefix_refl _, fun _ h => .inl h, Nat.le_refl _, fun _ => ⟨rfl, fun a _ o e => e.mono sh⟩, Stab.refl _⟩
theorem RV.move {v : V} {x : Val} (h : RV K G H ws v x) (n : Nx K C G H ws G' H' ws' w') (hx : x.m = .wd → ws'.n = ws.n) : RV K G' H' ws' v x := by
  unfold RV at h ⊢
  obtain ⟨m, d⟩ := x
  have go : (∃ a, v = .ref a ∧ G a = none ∧ a ∉ regs ws ∧ Unf K G H (io ws) a d) → ∃ a, v = .ref a ∧ G' a = none ∧ a ∉ regs ws' ∧ Unf K G' H' (io ws') a d := by
    rintro ⟨a, e, g, nr, u⟩
    obtain ⟨o, ho, c⟩ := u.there
    obtain ⟨o1, e1, c1⟩ := ho.at' (nt_cont c)
    have kp := n.keep a o ho (nt_cont c) nr
    have gn : G' a = none := by
      rcases n.nocap a o1 e1 c1 g with z | ⟨xs, z⟩
      · exact z
      · rcases kp with kp | ⟨_, q, kp⟩
        · rw [kp] at z; cases z; exact c.elim
        · rw [kp] at z; cases z
    refine ⟨a, e, gn, fun hr => ?_, u.move n.gg n.io fun o' e => n.keep a o' e (ho.nt2 (nt_cont c) e) nr⟩
    rcases n.fresh a hr with z | z
    · exact nr z
    · exact z o1 e1 c1
  cases m with
  | fz => exact Rep.mono n.gg n.io h
  | nw => exact go h
  | bo => exact go h
  | wd =>
    obtain ⟨a, e, g, hr, u⟩ := h
    obtain ⟨e2, k⟩ := n.qt (hx rfl)
    obtain ⟨o, ho, c⟩ := u.there
    obtain ⟨o1, e1, c1⟩ := ho.at' (nt_cont c)
    subst e2
    exact ⟨a, e, n.rw.out a hr, hr, u.move n.gg n.io fun o e' => k a hr o e'⟩
end
/-! ### the state of a body -/
/-- the state at the entry -/
structure En where
  H : Hp
  G : Hp
  ws : Ws
structure St (K : PySem.W.Frag) (C : Ca) (e : En) (σ : L2.St) (H G : Hp) (ws : Ws) (ρ : Env) (w : W) : Prop where
  nx0 : Nx K C e.G e.H e.ws G H ws w
  len : σ.length = ρ.length
  sl : ∀ (i : Nat) x, ρ[i]? = some (some x) → ∃ v, σ[i]? = some (some v) ∧ RV K G H ws v x ∧ (x.m = .fz ∨ x.m = .nw)
  own : ∀ (i : Nat) x a, ρ[i]? = some (some x) → x.m = .nw → σ[i]? = some (some (.ref a)) → Fr e.H a
  ap : ∀ (i j : Nat) x y a, ρ[i]? = some (some x) → ρ[j]? = some (some y) → x.m = .nw → y.m = .nw → σ[i]? = some (some (.ref a)) → σ[j]? = some (some (.ref a)) → i = j
section
variable {K : PySem.W.Frag} {C : Ca} {e : En} {G H G' H' : Hp} {ws ws' : Ws} {w w' : W} {σ : L2.St} {ρ : Env}
theorem St.sub (s : St K C e σ H G ws ρ w) : Sm G H := s.nx0.sub
theorem St.rw (s : St K C e σ H G ws ρ w) : RelW K C G H ws w := s.nx0.rw
theorem St.next (s : St K C e σ H G ws ρ w) (n : Nx K C G H ws G' H' ws' w') : St K C e σ H' G' ws' ρ w' where
  nx0 := s.nx0.trans n
  len := s.len
  sl := fun i x e => by
    obtain ⟨v, h1, h2, h3⟩ := s.sl i x e
    exact ⟨v, h1, h2.move n (fun q => by rcases h3 with z | z <;> rw [z] at q <;> cases q), h3⟩
  own := s.own
  ap := s.ap
theorem St.nx (s : St K C e σ H G ws ρ w) : Nx K C G H ws G H ws w := Nx.refl s.sub s.rw
end
/-! ### what an error is -/
/-- where the classes of errors stand -/
abbrev Cm := String → Option Addr
def XRel (K : PySem.W.Frag) (cm : Cm) (G H : Hp) (ι : List Addr) (x : Xc) (cls : Value) (d : Option Addr) : Prop :=
  ∃ c, cm x.c = some c ∧ cls = .ref c ∧ (x.fs = [] ∧ d = none ∨ x.fs ≠ [] ∧ ∃ dd vfs, d = some dd ∧ H dd = some (.xd vfs) ∧ Paired (fun (p : Str × V) (q : Str × D) => p.1 = q.1 ∧ Rep K G ι p.2 q.2) vfs x.fs)
/-- the parameters of all that follows: the written part, the class of objects, the classes of errors -/
structure Pm where
  K : PySem.W.Frag
  C : Ca
  cm : Cm
def NewOk (H : Hp) (v : V) (x : Val) : Prop := x.m = .nw → ∀ a, v = .ref a → Fr H a
/-- what an expression promises: E: what is wanted of an error -/
def PostE (P : Pm) (E : Value → Option Addr → Hp → Prop) (H G : Hp) (ws : Ws) (Q : VK) : R Val → Prop
  | .ok x w' => ∀ v H' G' ws', Nx P.K P.C G H ws G' H' ws' w' → RV P.K G' H' ws' v x → NewOk H v x → Q v H'
  | .ex x w' => ∀ cls d H' G' ws', Nx P.K P.C G H ws G' H' ws' w' → XRel P.K P.cm G' H' (io ws') x cls d → E cls d H'
  | .bad => False
def PostT (P : Pm) (E : Value → Option Addr → Hp → Prop) (H G : Hp) (ws : Ws) (Q : Bool → Hp → Prop) : R Bool → Prop
  | .ok b w' => ∀ H' G' ws', Nx P.K P.C G H ws G' H' ws' w' → Q b H'
  | .ex x w' => ∀ cls d H' G' ws', Nx P.K P.C G H ws G' H' ws' w' → XRel P.K P.cm G' H' (io ws') x cls d → E cls d H'
  | .bad => False
inductive RVs (K : PySem.W.Frag) (G H : Hp) (ws : Ws) : List V → List Val → Prop
  | nil : RVs K G H ws [] []
  | cons {v : V} {x : Val} {vs : List V} {xs : List Val} : RV K G H ws v x → RVs K G H ws vs xs → RVs K G H ws (v :: vs) (x :: xs)
/-- the new ones stand apart, and are new -/
def NewsOk (H : Hp) : List V → List Val → Prop
  | v :: vs, x :: xs => NewOk H v x ∧ (x.m = .nw → ∀ (i : Nat) y, xs[i]? = some y → y.m = .nw → vs[i]? ≠ some v) ∧ NewsOk H vs xs
  | _, _ => True
def PostA (P : Pm) (E : Value → Option Addr → Hp → Prop) (H G : Hp) (ws : Ws) (Q : List V → Hp → Prop) : R (List Val) → Prop
  | .ok xs w' => ∀ vs H' G' ws', Nx P.K P.C G H ws G' H' ws' w' → RVs P.K G' H' ws' vs xs → NewsOk H vs xs → Q vs H'
  | .ex x w' => ∀ cls d H' G' ws', Nx P.K P.C G H ws G' H' ws' w' → XRel P.K P.cm G' H' (io ws') x cls d → E cls d H'
  | .bad => False
def EvE (P : Pm) (H0 : En) (Wi : WX) (te : TE) (f : DE) : Prop := ∀ σ H G ws ρ w (Q : VK), St P.K P.C H0 σ H G ws ρ w → PostE P (fun c d H' => Wi c d σ H') H G ws Q (f ρ w) → te σ H Q
def EvT (P : Pm) (H0 : En) (Wi : WX) (te : TT) (f : DT) : Prop := ∀ σ H G ws ρ w (Q : Bool → Hp → Prop), St P.K P.C H0 σ H G ws ρ w → PostT P (fun c d H' => Wi c d σ H') H G ws Q (f ρ w) → te σ H Q
def EvA (P : Pm) (H0 : En) (Wi : WX) (te : TA) (f : DA) : Prop := ∀ σ H G ws ρ w (Q : List V → Hp → Prop), St P.K P.C H0 σ H G ws ρ w → PostA P (fun c d H' => Wi c d σ H') H G ws Q (f ρ w) → te σ H Q
end DL
namespace DL
open PySem L2
section
variable {P : Pm} {E : Value → Option Addr → Hp → Prop} {H G H1 G1 : Hp} {ws ws1 : Ws} {w1 : W}
theorem newOk_back {v : V} {x : Val} (n : Nx P.K P.C G H ws G1 H1 ws1 w1) (h : NewOk H1 v x) : NewOk H v x := fun e a ea => by
  have := h e a ea
  intro o q nt
  obtain ⟨o', e', nt'⟩ := n.alive a o q nt
  exact this o' e' nt'
theorem newsOk_back (n : Nx P.K P.C G H ws G1 H1 ws1 w1) : ∀ {vs : List V} {xs : List Val}, NewsOk H1 vs xs → NewsOk H vs xs
  | [], _, _ => trivial
  | _ :: _, [], _ => trivial
  | _ :: _, _ :: _, h => ⟨newOk_back n h.1, h.2.1, newsOk_back n h.2.2⟩
theorem PostE.after {Q : VK} {r : R Val} (n : Nx P.K P.C G H ws G1 H1 ws1 w1) (h : PostE P E H G ws Q r) : PostE P E H1 G1 ws1 Q r := by
  cases r with
  | ok x w => exact fun v H' G' ws' n2 r k => h v H' G' ws' (n.trans n2) r (newOk_back n k)
  | ex x w => exact fun c d H' G' ws' n2 r => h c d H' G' ws' (n.trans n2) r
  | bad => exact h
theorem PostT.after {Q : Bool → Hp → Prop} {r : R Bool} (n : Nx P.K P.C G H ws G1 H1 ws1 w1) (h : PostT P E H G ws Q r) : PostT P E H1 G1 ws1 Q r := by
  cases r with
  | ok x w => exact fun H' G' ws' n2 => h H' G' ws' (n.trans n2)
  | ex x w => exact fun c d H' G' ws' n2 r => h c d H' G' ws' (n.trans n2) r
  | bad => exact h
theorem PostA.after {Q : List V → Hp → Prop} {r : R (List Val)} (n : Nx P.K P.C G H ws G1 H1 ws1 w1) (h : PostA P E H G ws Q r) : PostA P E H1 G1 ws1 Q r := by
  cases r with
  | ok x w => exact fun v H' G' ws' n2 r k => h v H' G' ws' (n.trans n2) r (newsOk_back n k)
  | ex x w => exact fun c d H' G' ws' n2 r => h c d H' G' ws' (n.trans n2) r
  | bad => exact h
end
section
variable {P : Pm} {H0 : En} {Wi : WX} {ta tb tc : TE} {fa fb fc : DE}
/-- go on behind an expression -/
theorem EvE.thn (ha : EvE P H0 Wi ta fa) {σ : L2.St} {H G : Hp} {ws : Ws} {ρ : Env} {w : W} {Q : VK} (st : St P.K P.C H0 σ H G ws ρ w)
    (hx : ∀ x w', fa ρ w = .ex x w' → PostE P (fun c d H' => Wi c d σ H') H G ws Q (.ex x w')) (hb : fa ρ w ≠ .bad)
    (hk : ∀ x w', fa ρ w = .ok x w' → ∀ v H' G' ws', Nx P.K P.C G H ws G' H' ws' w' → RV P.K G' H' ws' v x → NewOk H v x → Q v H') : ta σ H Q := by
  refine ha σ H G ws ρ w Q st ?_
  cases e : fa ρ w with
  | ok x w' => exact hk x w' e
  | ex x w' => exact hx x w' e
  | bad => exact absurd e hb
/-- a two-place operation upon values -/
def ROp (P : Pm) (r : R2) (g : Val → Val → W → R Val) : Prop := ∀ H G ws w vx vy x y (Q : VK), Sm G H → RelW P.K P.C G H ws w → RV P.K G H ws vx x → RV P.K G H ws vy y → PostE P (fun _ _ _ => False) H G ws Q (g x y w) → r vx vy H Q
def RUn (P : Pm) (r : V → Hp → VK → Prop) (g : Val → W → R Val) : Prop := ∀ H G ws w vx x (Q : VK), Sm G H → RelW P.K P.C G H ws w → RV P.K G H ws vx x → PostE P (fun _ _ _ => False) H G ws Q (g x w) → r vx H Q
def RCall (P : Pm) (r : List V → Hp → VK → Prop) (g : List Val → W → R Val) : Prop := ∀ H G ws w vs xs (Q : VK), Sm G H → RelW P.K P.C G H ws w → RVs P.K G H ws vs xs → PostE P (fun _ _ _ => False) H G ws Q (g xs w) → r vs H Q
/-- a field's thing that was seen ahead must stand as it stood -/
def chk {α : Type} (x : Val) (w w' : W) (r : R α) : R α := if x.m = .wd ∧ w'.n ≠ w.n then .bad else r
theorem chk_wd {α : Type} {x : Val} {w w' : W} {r : R α} (h : chk x w w' r ≠ .bad) : (x.m = .wd → w'.n = w.n) ∧ chk x w w' r = r := by
  unfold chk at h ⊢
  by_cases q : x.m = .wd ∧ w'.n ≠ w.n
  · rw [if_pos q] at h; exact absurd rfl h
  · rw [if_neg q]
    exact ⟨fun a => Classical.byContradiction fun b => q ⟨a, b⟩, rfl⟩
theorem PostE.chk {E : Value → Option Addr → Hp → Prop} {H G : Hp} {ws : Ws} {Q : VK} {x : Val} {w w' : W} {r : R Val} (h : PostE P E H G ws Q (DL.chk x w w' r)) : (x.m = .wd → w'.n = w.n) ∧ PostE P E H G ws Q r := by
  have hb : DL.chk x w w' r ≠ .bad := fun e => by rw [e] at h; exact h
  obtain ⟨a, b⟩ := chk_wd hb
  rw [b] at h
  exact ⟨a, h⟩
theorem PostA.chk {E : Value → Option Addr → Hp → Prop} {H G : Hp} {ws : Ws} {Q : List V → Hp → Prop} {x : Val} {w w' : W} {r : R (List Val)} (h : PostA P E H G ws Q (DL.chk x w w' r)) : (x.m = .wd → w'.n = w.n) ∧ PostA P E H G ws Q r := by
  have hb : DL.chk x w w' r ≠ .bad := fun e => by rw [e] at h; exact h
  obtain ⟨a, b⟩ := chk_wd hb
  rw [b] at h
  exact ⟨a, h⟩
theorem Nx.same {K : PySem.W.Frag} {C : Ca} {G H G' H' : Hp} {ws ws' : Ws} {w w' : W} (r : RelW K C G H ws w) (n : Nx K C G H ws G' H' ws' w') (h : w'.n = w.n) : ws'.n = ws.n := by rw [← r.nn, ← n.rw.nn]; exact h
def dOp (g : Val → Val → W → R Val) (fa fb : DE) : DE := fun ρ w => (fa ρ w).bind fun x w1 => (fb ρ w1).bind fun y w2 => chk x w1 w2 (g x y w2)
def dUn (g : Val → W → R Val) (fa : DE) : DE := fun ρ w => (fa ρ w).bind fun x w => g x w
def dCB (g : List Val → W → R Val) (fa : DA) : DE := fun ρ w => (fa ρ w).bind fun x w => g x w
theorem PostE.noex {E E' : Value → Option Addr → Hp → Prop} {H G : Hp} {ws : Ws} {Q : VK} {r : R Val} (h : PostE P E H G ws Q r) (n : ∀ x w, r ≠ .ex x w) : PostE P E' H G ws Q r := by
  cases r with
  | ok x w => exact h
  | ex x w => exact absurd rfl (n x w)
  | bad => exact h
theorem ev_op {r : R2} {g : Val → Val → W → R Val} (ha : EvE P H0 Wi ta fa) (hb : EvE P H0 Wi tb fb) (hr : ROp P r g) (hn : ∀ x y w e w', g x y w ≠ .ex e w') : EvE P H0 Wi (tOp r ta tb) (dOp g fa fb) := by
  intro σ H G ws ρ w Q st h
  unfold dOp at h
  refine ha σ H G ws ρ w _ st ?_
  cases e : fa ρ w with
  | bad => rw [e] at h; exact h
  | ex x w' => rw [e] at h; exact h
  | ok x w' =>
    intro v H1 G1 ws1 n1 r1 k1
    rw [e] at h
    have h : PostE P _ H G ws Q ((fb ρ w').bind fun y w2 => chk x w' w2 (g x y w2)) := h
    refine hb σ H1 G1 ws1 ρ w' _ (st.next n1) ?_
    cases e2 : fb ρ w' with
    | bad => rw [e2] at h; exact h
    | ex y w2 => rw [e2] at h; exact PostE.after n1 h
    | ok y w2 =>
      intro v2 H2 G2 ws2 n2 r2 k2
      rw [e2] at h
      obtain ⟨hx, h⟩ := PostE.chk h
      exact hr H2 G2 ws2 w2 v v2 x y Q n2.sub n2.rw (r1.move n2 fun z => n2.same n1.rw (hx z)) r2 ((PostE.after (n1.trans n2) h).noex fun _ _ => hn _ _ _ _ _)
theorem ev_un {r : V → Hp → VK → Prop} {g : Val → W → R Val} (ha : EvE P H0 Wi ta fa) (hr : RUn P r g) (hn : ∀ x w e w', g x w ≠ .ex e w') : EvE P H0 Wi (tUn r ta) (dUn g fa) := by
  intro σ H G ws ρ w Q st h
  unfold dUn at h
  refine ha σ H G ws ρ w _ st ?_
  cases e : fa ρ w with
  | bad => rw [e] at h; exact h
  | ex x w' => rw [e] at h; exact h
  | ok x w' =>
    intro v H1 G1 ws1 n1 r1 k1
    rw [e] at h
    exact hr H1 G1 ws1 w' v x Q n1.sub n1.rw r1 ((PostE.after n1 h).noex fun _ _ => hn _ _ _ _)
theorem ev_cb {r : List V → Hp → VK → Prop} {g : List Val → W → R Val} {ta : TA} {fa : DA} (ha : EvA P H0 Wi ta fa) (hr : RCall P r g) (hn : ∀ x w e w', g x w ≠ .ex e w') : EvE P H0 Wi (tCB r ta) (dCB g fa) := by
  intro σ H G ws ρ w Q st h
  unfold dCB at h
  refine ha σ H G ws ρ w _ st ?_
  cases e : fa ρ w with
  | bad => rw [e] at h; exact h
  | ex x w' => rw [e] at h; exact h
  | ok x w' =>
    intro v H1 G1 ws1 n1 r1 k1
    rw [e] at h
    exact hr H1 G1 ws1 w' v x Q n1.sub n1.rw r1 ((PostE.after n1 h).noex fun _ _ => hn _ _ _ _)
/-! names, constants -/
def dVar (i : Nat) : DE := fun ρ w => match ρ[i]? with
  | some (some x) => .ok ⟨if x.m = .nw then .bo else x.m, x.d⟩ w
  | _ => .bad
theorem fz_nw {H : Hp} {v : V} {d : D} : NewOk H v (fz d) := fun z => by cases z
def dC (d : D) : DE := fun _ w => .ok (fz d) w
theorem ev_var {i : Nat} : EvE P H0 Wi (tVar i) (dVar i) := by
  intro σ H G ws ρ w Q st h
  unfold dVar at h
  cases e : ρ[i]? with
  | none => rw [e] at h; exact h.elim
  | some o =>
    cases o with
    | none => rw [e] at h; exact h.elim
    | some x =>
      rw [e] at h
      obtain ⟨v, h1, h2, h3⟩ := st.sl i x e
      refine ⟨v, h1, h v H G ws st.nx ?_ ?_⟩
      · rcases h3 with z | z
        · rw [if_neg (by rw [z]; decide)]; exact h2
        · rw [if_pos z]
          unfold RV at h2 ⊢
          rw [z] at h2
          exact h2
      · intro q
        exfalso
        have q : (if x.m = .nw then Md.bo else x.m) = .nw := q
        rcases h3 with z | z
        · rw [if_neg (by rw [z]; decide), z] at q; cases q
        · rw [if_pos z] at q; cases q
theorem ev_c {v : V} {d : D} (h : ∀ G ι, Rep P.K G ι v d) : EvE P H0 Wi (tC v) (dC d) := fun σ H G ws ρ w Q st k => k v H G ws st.nx (h _ _) fz_nw
theorem ev_int {i : Int} : EvE P H0 Wi (tC (.int i)) (dC (.int i)) := ev_c fun _ _ => .int i
theorem ev_bl {i : Bool} : EvE P H0 Wi (tC (.bl i)) (dC (.bl i)) := ev_c fun _ _ => .bl i
theorem ev_str {i : Str} : EvE P H0 Wi (tC (.str i)) (dC (.str i)) := ev_c fun _ _ => .str i
theorem ev_non : EvE P H0 Wi (tC .non) (dC .non) := ev_c fun _ _ => .non
/-! ints -/
theorem fz_q {H G : Hp} {ws : Ws} {w : W} {Q : VK} {v : V} {d : D} {E : Value → Option Addr → Hp → Prop} (s : Sm G H) (r : RelW P.K P.C G H ws w) (h : PostE P E H G ws Q (.ok (fz d) w)) (k : Rep P.K G (io ws) v d) : Q v H := h v H G ws (Nx.refl s r) k fz_nw
def gI (c : Int → Int → Prop) [∀ i j, Decidable (c i j)] (g : Int → Int → D) : Val → Val → W → R Val := fun x y w => match x.d, y.d with
  | .int i, .int j => if c i j then .ok (fz (g i j)) w else .bad
  | _, _ => .bad
/-- the value seen as an int -/
theorem rv_int {K : PySem.W.Frag} {G H : Hp} {ws : Ws} {v : V} {m : Md} {i : Int} (h : RV K G H ws v ⟨m, .int i⟩) : v = .int i := by
  unfold RV at h
  cases m with
  | fz => cases h; rfl
  | nw => obtain ⟨a, _, _, _, u⟩ := h; cases u
  | bo => obtain ⟨a, _, _, _, u⟩ := h; cases u
  | wd => obtain ⟨a, _, _, _, u⟩ := h; cases u
theorem rv_str {K : PySem.W.Frag} {G H : Hp} {ws : Ws} {v : V} {m : Md} {i : Str} (h : RV K G H ws v ⟨m, .str i⟩) : v = .str i := by
  unfold RV at h
  cases m with
  | fz => cases h; rfl
  | nw => obtain ⟨a, _, _, _, u⟩ := h; cases u
  | bo => obtain ⟨a, _, _, _, u⟩ := h; cases u
  | wd => obtain ⟨a, _, _, _, u⟩ := h; cases u
theorem rv_bl {K : PySem.W.Frag} {G H : Hp} {ws : Ws} {v : V} {m : Md} {i : Bool} (h : RV K G H ws v ⟨m, .bl i⟩) : v = .bl i := by
  unfold RV at h
  cases m with
  | fz => cases h; rfl
  | nw => obtain ⟨a, _, _, _, u⟩ := h; cases u
  | bo => obtain ⟨a, _, _, _, u⟩ := h; cases u
  | wd => obtain ⟨a, _, _, _, u⟩ := h; cases u
theorem rv_non {K : PySem.W.Frag} {G H : Hp} {ws : Ws} {v : V} {m : Md} (h : RV K G H ws v ⟨m, .non⟩) : v = .non := by
  unfold RV at h
  cases m with
  | fz => cases h; rfl
  | nw => obtain ⟨a, _, _, _, u⟩ := h; cases u
  | bo => obtain ⟨a, _, _, _, u⟩ := h; cases u
  | wd => obtain ⟨a, _, _, _, u⟩ := h; cases u
theorem rv_tup {K : PySem.W.Frag} {G H : Hp} {ws : Ws} {v : V} {m : Md} {ds : List D} (s : Sm G H) (h : RV K G H ws v ⟨m, .tup ds⟩) : ∃ a vs, v = .ref a ∧ SqT K G a vs ∧ SqT K H a vs ∧ Reps K G (io ws) vs ds := by
  unfold RV at h
  cases m with
  | fz => cases h with | tup q r => exact ⟨_, _, rfl, q, s.sqT q, r⟩
  | nw => obtain ⟨a, _, _, _, u⟩ := h; cases u
  | bo => obtain ⟨a, _, _, _, u⟩ := h; cases u
  | wd => obtain ⟨a, _, _, _, u⟩ := h; cases u
theorem rv_lst {K : PySem.W.Frag} {G H : Hp} {ws : Ws} {v : V} {m : Md} {ds : List D} (s : Sm G H) (h : RV K G H ws v ⟨m, .lst ds⟩) : ∃ a vs, v = .ref a ∧ H a = some (.lst vs) ∧ Reps K G (io ws) vs ds := by
  unfold RV at h
  cases m with
  | fz => cases h with | lst q r => exact ⟨_, _, rfl, s.eq q, r⟩
  | nw => obtain ⟨a, e, _, _, u⟩ := h; cases u with | lst q r => exact ⟨a, _, e, q, r⟩
  | bo => obtain ⟨a, e, _, _, u⟩ := h; cases u with | lst q r => exact ⟨a, _, e, q, r⟩
  | wd => obtain ⟨a, e, _, _, u⟩ := h; cases u with | lst q r => exact ⟨a, _, e, q, r⟩
theorem rop_I {c : Int → Int → Prop} [∀ i j, Decidable (c i j)] {g : Int → Int → V} {gd : Int → Int → D} (hr : ∀ i j K G ι, Rep K G ι (g i j) (gd i j)) : ROp P (rI c g) (gI c gd) := by
  intro H G ws w vx vy x y Q s r hx hy h
  obtain ⟨m, d⟩ := x
  obtain ⟨m2, d2⟩ := y
  cases d <;> try exact h.elim
  cases d2 <;> try exact h.elim
  rename_i i j
  have ex := rv_int hx
  have ey := rv_int hy
  subst ex ey
  have h : PostE P _ H G ws Q (if c i j then .ok (fz (gd i j)) w else .bad) := h
  by_cases hc : c i j
  · rw [if_pos hc] at h
    exact ⟨i, j, rfl, rfl, hc, fz_q s r h (hr i j _ _ _)⟩
  · rw [if_neg hc] at h
    exact h.elim
def gI0 (g : Int → Int → D) : Val → Val → W → R Val := fun x y w => match x.d, y.d with
  | .int i, .int j => .ok (fz (g i j)) w
  | _, _ => .bad
theorem rop_I0 {g : Int → Int → V} {gd : Int → Int → D} (hr : ∀ i j K G ι, Rep K G ι (g i j) (gd i j)) : ROp P (rI0 g) (gI0 gd) := by
  intro H G ws w vx vy x y Q s r hx hy h
  obtain ⟨m, d⟩ := x
  obtain ⟨m2, d2⟩ := y
  cases d <;> try exact h.elim
  cases d2 <;> try exact h.elim
  rename_i i j
  have ex := rv_int hx
  have ey := rv_int hy
  subst ex ey
  exact ⟨i, j, rfl, rfl, fz_q s r h (hr i j _ _ _)⟩
theorem gI_nx {c : Int → Int → Prop} [∀ i j, Decidable (c i j)] {g : Int → Int → D} (x y : Val) (w : W) (e : Xc) (w' : W) : gI c g x y w ≠ .ex e w' := by
  unfold gI
  split
  · split <;> exact fun h => nomatch h
  · exact fun h => nomatch h
theorem gI0_nx {g : Int → Int → D} (x y : Val) (w : W) (e : Xc) (w' : W) : gI0 g x y w ≠ .ex e w' := by
  unfold gI0
  split <;> exact fun h => nomatch h
end
end DL
namespace DL
open PySem L2
section
variable {P : Pm}
/-- the plain data that == looks through: no dict, no object; at most n deep -/
def plN : Nat → D → Bool
  | _, .non | _, .bl _ | _, .int _ => true
  | _, .str x => PyData.strOk x
  | 0, _ => false
  | n + 1, .tup xs | n + 1, .lst xs => xs.all (plN n)
  | _ + 1, .scr _ => true
  | _, _ => false
def pl (d : D) : Bool := plN 10 d
mutual
def toP : D → PyData
  | .non => .none
  | .bl b => .bool b
  | .int i => .int i
  | .str x => .str x
  | .tup xs => .tuple (toPs xs)
  | .lst xs => .list (toPs xs)
  | .scr ns => .list (ns.map .int)
  | .dK _ => .none
  | .dT _ => .none
  | .obj _ => .none
  | .exc _ => .none
def toPs : List D → List PyData
  | [] => []
  | d :: ds => toP d :: toPs ds
end
theorem dpAll_ints {K : PySem.W.Frag} {H : Hp} : ∀ ns : List Int, DpAll K H (ns.map V.int) (ns.map .int)
  | [] => .nil
  | n :: r => .cons (.int n) (dpAll_ints r)
theorem pl_dp {K : PySem.W.Frag} {G H : Hp} {ι : List Addr} (s : Sm G H) : ∀ (n : Nat) {v : V} {d : D}, Rep K G ι v d → plN n d = true → Dp K H v (toP d) ∧ (toP d).canLay0 = true ∧ (toP d).depth ≤ n := by
  intro n
  induction n with
  | zero =>
    intro v d r h
    cases r with
    | non => exact ⟨.non, rfl, Nat.le_refl _⟩
    | bl b => exact ⟨.bl b, rfl, Nat.le_refl _⟩
    | int b => exact ⟨.int b, rfl, Nat.le_refl _⟩
    | str b => exact ⟨.str b, by simpa [plN, toP, PyData.canLay0] using h, Nat.le_refl _⟩
    | tup _ _ => simp [plN] at h
    | lst _ _ => simp [plN] at h
    | scr _ => simp [plN] at h
    | dK _ _ _ => simp [plN] at h
    | dT _ _ _ => simp [plN] at h
    | obj _ => simp [plN] at h
    | exc => simp [plN] at h
  | succ n ih =>
    intro v d r h
    have go : ∀ {vs : List V} {ds : List D}, Reps K G ι vs ds → ds.all (plN n) = true → DpAll K H vs (toPs ds) ∧ PyData.canLayAll0 (toPs ds) = true ∧ PyData.depthAll (toPs ds) ≤ n := by
      intro vs ds r
      induction ds generalizing vs with
      | nil => intro _; cases r; exact ⟨.nil, rfl, Nat.zero_le _⟩
      | cons d ds ih2 =>
        intro h
        cases r with
        | cons r1 r2 =>
          rw [List.all_cons, Bool.and_eq_true] at h
          obtain ⟨a1, a2, a3⟩ := ih r1 h.1
          obtain ⟨b1, b2, b3⟩ := ih2 r2 h.2
          refine ⟨.cons a1 b1, ?_, ?_⟩
          · simp [toPs, PyData.canLayAll0, a2, b2]
          · simp [toPs, PyData.depthAll]; omega
    cases r with
    | non => exact ⟨.non, rfl, Nat.zero_le _⟩
    | bl b => exact ⟨.bl b, rfl, Nat.zero_le _⟩
    | int b => exact ⟨.int b, rfl, Nat.zero_le _⟩
    | str b => exact ⟨.str b, by simpa [plN, toP, PyData.canLay0] using h, Nat.zero_le _⟩
    | tup q r =>
      obtain ⟨b1, b2, b3⟩ := go r (by simpa [plN] using h)
      exact ⟨.tup (s.sqT q) b1, by simpa [toP, PyData.canLay0] using b2, by simp [toP, PyData.depth]; omega⟩
    | lst q r =>
      obtain ⟨b1, b2, b3⟩ := go r (by simpa [plN] using h)
      exact ⟨.lst (SqL.of (s.eq q)) b1, by simpa [toP, PyData.canLay0] using b2, by simp [toP, PyData.depth]; omega⟩
    | @scr a ns q =>
      refine ⟨.lst (s.seq q) (dpAll_ints ns), ?_, ?_⟩
      · have : ∀ l : List Int, PyData.canLayAll0 (l.map .int) = true := by
          intro l
          induction l with
          | nil => rfl
          | cons a l ih => simp [PyData.canLayAll0, PyData.canLay0, ih]
        simpa [toP, PyData.canLay0] using this ns
      · have : ∀ l : List Int, PyData.depthAll (l.map .int) = 0 := by
          intro l
          induction l with
          | nil => rfl
          | cons a l ih => simp [PyData.depthAll, PyData.depth, ih]
        simp [toP, PyData.depth, this]
    | dK _ _ _ => simp [plN] at h
    | dT _ _ _ => simp [plN] at h
    | obj _ => simp [plN] at h
    | exc => simp [plN] at h
theorem reps_pl {K : PySem.W.Frag} {G H : Hp} {ι : List Addr} (s : Sm G H) {n : Nat} : ∀ {vs : List V} {ds : List D}, Reps K G ι vs ds → ds.all (plN n) = true → DpAll K H vs (toPs ds) ∧ PyData.canLayAll0 (toPs ds) = true ∧ PyData.depthAll (toPs ds) ≤ n
  | _, _, .nil, _ => ⟨.nil, rfl, Nat.zero_le _⟩
  | _, _, .cons r1 r2, h => by
    rw [List.all_cons, Bool.and_eq_true] at h
    obtain ⟨a1, a2, a3⟩ := pl_dp s n r1 h.1
    obtain ⟨b1, b2, b3⟩ := reps_pl s r2 h.2
    refine ⟨.cons a1 b1, ?_, ?_⟩
    · simp [toPs, PyData.canLayAll0, a2, b2]
    · simp [toPs, PyData.depthAll]; omega
/-- a value of any standing, as == sees it -/
theorem rv_dp {K : PySem.W.Frag} {G H : Hp} {ws : Ws} {v : V} {x : Val} (s : Sm G H) (h : RV K G H ws v x) (p : pl x.d = true) : Dp K H v (toP x.d) ∧ SeqAt.shaped (toP x.d) = true := by
  obtain ⟨m, d⟩ := x
  have fin : Dp K H v (toP d) ∧ (toP d).canLay0 = true ∧ (toP d).depth ≤ 10 → Dp K H v (toP d) ∧ SeqAt.shaped (toP d) = true := fun ⟨a, b, c⟩ => ⟨a, by
    unfold SeqAt.shaped
    rw [b, Bool.true_and]
    exact decide_eq_true (by omega)⟩
  have un : (∃ a, v = .ref a ∧ Unf K G H (io ws) a d) → Dp K H v (toP d) ∧ SeqAt.shaped (toP d) = true := by
    rintro ⟨a, rfl, u⟩
    have p : plN 10 d = true := p
    cases u with
    | lst q r =>
      obtain ⟨b1, b2, b3⟩ := reps_pl s (n := 9) r (by simpa [plN] using p)
      exact fin ⟨.lst (SqL.of q) b1, by simpa [toP, PyData.canLay0] using b2, by simp [toP, PyData.depth]; omega⟩
    | dK _ _ _ => simp [plN] at p
    | dT _ _ _ => simp [plN] at p
  unfold RV at h
  cases m with
  | fz => exact fin (pl_dp s 10 h p)
  | nw => obtain ⟨a, e, _, _, u⟩ := h; exact un ⟨a, e, u⟩
  | bo => obtain ⟨a, e, _, _, u⟩ := h; exact un ⟨a, e, u⟩
  | wd => obtain ⟨a, e, _, _, u⟩ := h; exact un ⟨a, e, u⟩
mutual
/-- == -/
def eqD : D → D → Bool
  | .non, .non => true
  | .bl a, .bl b => a == b
  | .bl a, .int j => (if a then 1 else 0) == j
  | .int i, .bl b => i == (if b then 1 else 0)
  | .int i, .int j => i == j
  | .str x, .str y => x == y
  | .lst xs, .lst ys => eqDs xs ys
  | .tup xs, .tup ys => eqDs xs ys
  | .scr ns, .scr ms => ns == ms
  | .scr ns, .lst ys => PyData.eqvAll (ns.map .int) (toPs ys)
  | .lst xs, .scr ms => PyData.eqvAll (toPs xs) (ms.map .int)
  | _, _ => false
def eqDs : List D → List D → Bool
  | [], [] => true
  | x :: xs, y :: ys => eqD x y && eqDs xs ys
  | _, _ => false
end
theorem toPs_ints : ∀ ns : List Int, toPs (ns.map .int) = ns.map .int
  | [] => rfl
  | n :: r => by rw [List.map_cons, List.map_cons, toPs, toPs_ints r]; rfl
theorem eqv_ints : ∀ ns ms : List Int, PyData.eqvAll (ns.map .int) (ms.map .int) = (ns == ms)
  | [], [] => rfl
  | [], _ :: _ => rfl
  | _ :: _, [] => rfl
  | n :: r, m :: q => by
    simp only [List.map_cons, PyData.eqvAll, PyData.eqv, eqv_ints r q]
    rfl
/-- a well-founded look at plain data -/
theorem eqD_of : ∀ (n : Nat) (x y : D), plN n x = true → plN n y = true → PyData.eqv (toP x) (toP y) = eqD x y := by
  intro n
  induction n with
  | zero =>
    intro x y hx hy
    cases x <;> (try simp [plN] at hx) <;> cases y <;> (try simp [plN] at hy) <;> first | rfl | (simp only [toP, PyData.eqv, eqD])
  | succ n ih =>
    have go : ∀ xs ys : List D, xs.all (plN n) = true → ys.all (plN n) = true → PyData.eqvAll (toPs xs) (toPs ys) = eqDs xs ys := by
      intro xs
      induction xs with
      | nil => intro ys _ _; cases ys <;> simp only [toPs, PyData.eqvAll, eqDs]
      | cons x xs ih2 =>
        intro ys hx hy
        rw [List.all_cons, Bool.and_eq_true] at hx
        cases ys with
        | nil => simp only [toPs, PyData.eqvAll, eqDs]
        | cons y ys =>
          rw [List.all_cons, Bool.and_eq_true] at hy
          simp only [toPs, PyData.eqvAll, eqDs, ih x y hx.1 hy.1, ih2 ys hx.2 hy.2]
    have hi : ∀ ns : List Int, (ns.map D.int).all (plN n) = true := fun ns => by
      rw [List.all_map]
      apply List.all_eq_true.mpr
      intro a _
      cases n <;> rfl
    intro x y hx hy
    cases x <;> (try (exfalso; simp [plN] at hx; done)) <;> cases y <;> (try (exfalso; simp [plN] at hy; done)) <;> first
      | rfl
      | (simp only [toP, PyData.eqv, eqD]; done)
      | (simp only [toP, PyData.eqv, eqD]; exact go _ _ (by simpa [plN] using hx) (by simpa [plN] using hy))
      | (simp only [toP, PyData.eqv, eqD]; rw [← toPs_ints]; exact go _ _ (by simpa [plN] using hx) (hi _))
      | (simp only [toP, PyData.eqv, eqD]; rw [← toPs_ints]; exact go _ _ (hi _) (by simpa [plN] using hy))
      | (simp only [toP, PyData.eqv, eqD]; exact eqv_ints _ _)
def gEq (neg : Bool) : Val → Val → W → R Val := fun x y w => if pl x.d && pl y.d then .ok (fz (.bl (neg != eqD x.d y.d))) w else .bad
theorem gEq_nx {neg : Bool} (x y : Val) (w : W) (e : Xc) (w' : W) : gEq neg x y w ≠ .ex e w' := by
  unfold gEq
  split <;> exact fun h => nomatch h
theorem rop_eq : ROp P (rEqD P.K) (gEq false) := by
  intro H G ws w vx vy x y Q s r hx hy h
  unfold gEq at h
  split at h
  · rename_i hp
    rw [Bool.and_eq_true] at hp
    obtain ⟨a1, a2⟩ := rv_dp s hx hp.1
    obtain ⟨b1, b2⟩ := rv_dp s hy hp.2
    refine ⟨_, _, a1, b1, a2, b2, ?_⟩
    rw [eqD_of 10 _ _ hp.1 hp.2]
    exact fz_q s r h (by simpa using Rep.bl _)
  · exact h.elim
theorem rop_ne : ROp P (rNeD P.K) (gEq true) := by
  intro H G ws w vx vy x y Q s r hx hy h
  unfold gEq at h
  split at h
  · rename_i hp
    rw [Bool.and_eq_true] at hp
    obtain ⟨a1, a2⟩ := rv_dp s hx hp.1
    obtain ⟨b1, b2⟩ := rv_dp s hy hp.2
    refine ⟨_, _, a1, b1, a2, b2, ?_⟩
    rw [eqD_of 10 _ _ hp.1 hp.2]
    exact fz_q s r h (by simpa using Rep.bl _)
  · exact h.elim
end
end DL
namespace DL
open PySem L2
section
variable {P : Pm} {H0 : En} {Wi : WX}
noncomputable instance (i j : Int) : Decidable (CMul i j) := Classical.propDecidable _
noncomputable instance (i j : Int) : Decidable (CDivW i j) := Classical.propDecidable _
noncomputable instance (i j : Int) : Decidable (CPow i j) := Classical.propDecidable _
/-- bounds that nothing is to count up to: a range's, a repeated list's -/
def RO (j : Int) : Prop := -(2 ^ 62) ≤ j ∧ j < 2 ^ 62
noncomputable instance (j : Int) : Decidable (RO j) := Classical.propDecidable _
def RO2 (i j : Int) : Prop := -(2 ^ 62) ≤ i ∧ i < 2 ^ 62 ∧ -(2 ^ 62) ≤ j ∧ j < 2 ^ 62
noncomputable instance (i j : Int) : Decidable (RO2 i j) := Classical.propDecidable _
def ROm (n : Nat) (k : Int) : Prop := -(2 ^ 63) ≤ k ∧ k < 2 ^ 63 ∧ n * k.toNat ≤ sizeLine
noncomputable instance (n : Nat) (k : Int) : Decidable (ROm n k) := Classical.propDecidable _
/-- a new list handed on -/
theorem nw_q {H G : Hp} {ws : Ws} {w : W} {Q : VK} {p : Addr} {vs : List V} {ds : List D} {E : Value → Option Addr → Hp → Prop} (s : Sm G H) (r : RelW P.K P.C G H ws w) (h : PostE P E H G ws Q (.ok ⟨.nw, .lst ds⟩ w)) (hp : H p = none) (k : Reps P.K G (io ws) vs ds) : Q (.ref p) (upd H p (.lst vs)) := by
  refine h (.ref p) (upd H p (.lst vs)) G ws (Nx.new s r hp) ?_ (fun _ a e => by cases e; exact Fr.of hp)
  refine ⟨p, rfl, s.free hp, fun hr => ?_, .lst upd_same k⟩
  obtain ⟨o, e, _⟩ := reg_there r hr
  rw [hp] at e; cases e
/-- a new tuple, frozen at once -/
theorem tup_q {H G : Hp} {ws : Ws} {w : W} {Q : VK} {p : Addr} {vs : List V} {ds : List D} {E : Value → Option Addr → Hp → Prop} (s : Sm G H) (r : RelW P.K P.C G H ws w) (h : PostE P E H G ws Q (.ok (fz (.tup ds)) w)) (hp : H p = none) (k : Reps P.K G (io ws) vs ds) : Q (.ref p) (upd H p (.tup vs)) := by
  have n := Nx.put s r (o := .tup vs) hp
  exact h (.ref p) (upd H p (.tup vs)) (upd G p (.tup vs)) ws n (.tup (.inl (.inl upd_same)) (k.mono n.gg (List.prefix_refl _))) fz_nw
/-- + -/
def gAdd : Val → Val → W → R Val := fun x y w => match x.d, y.d with
  | .int i, .int j => .ok (fz (.int (i + j))) w
  | .str a, .str b => if a.length + b.length ≤ sizeLine then .ok (fz (.str (a ++ b))) w else .bad
  | .lst xs, .lst ys => if xs.length + ys.length ≤ sizeLine then .ok ⟨.nw, .lst (xs ++ ys)⟩ w else .bad
  | .tup xs, .tup ys => if xs.isEmpty = false ∧ xs.length + ys.length ≤ sizeLine then .ok (fz (.tup (xs ++ ys))) w else .bad
  | _, _ => .bad
theorem gAdd_nx (x y : Val) (w : W) (e : Xc) (w' : W) : gAdd x y w ≠ .ex e w' := by
  unfold gAdd
  split <;> (try split) <;> exact fun h => nomatch h
def rAddA (K : PySem.W.Frag) : R2 := fun x y H Q => (rI0 (fun i j => .int (i + j))) x y H Q ∨ (fun x y H Q => ∃ i j, x = .str i ∧ y = .str j ∧ i.length + j.length ≤ sizeLine ∧ Q (.str (i ++ j)) H) x y H Q ∨ rCat x y H Q ∨ rCatT K x y H Q
theorem op_addA {X : Cx} : OpR X (binaryOp .Add) (rAddA X.K) := op_add.or (op_add_str.or (op_cat.or op_catT))
theorem Reps.nil_iff {K : PySem.W.Frag} {G : Hp} {ι : List Addr} {vs : List V} {ds : List D} (h : Reps K G ι vs ds) : vs = [] ↔ ds = [] := by
  cases h <;> simp
theorem rop_add : ROp P (rAddA P.K) gAdd := by
  intro H G ws w vx vy x y Q s r hx hy h
  obtain ⟨m, d⟩ := x
  obtain ⟨m2, d2⟩ := y
  cases d <;> try exact h.elim
  · cases d2 <;> try exact h.elim
    rename_i i j
    have ex := rv_int hx
    have ey := rv_int hy
    subst ex ey
    exact .inl ⟨i, j, rfl, rfl, fz_q s r h (.int _)⟩
  · cases d2 <;> try exact h.elim
    rename_i a b
    have ex := rv_str hx
    have ey := rv_str hy
    subst ex ey
    have h : PostE P _ H G ws Q (if a.length + b.length ≤ sizeLine then .ok (fz (.str (a ++ b))) w else .bad) := h
    split at h
    · rename_i hl
      exact .inr (.inl ⟨a, b, rfl, rfl, hl, fz_q s r h (.str _)⟩)
    · exact h.elim
  · cases d2 <;> try exact h.elim
    rename_i xs ys
    obtain ⟨a, vs, rfl, _, q1, r1⟩ := rv_tup s hx
    obtain ⟨b, us, rfl, _, q2, r2⟩ := rv_tup s hy
    have h : PostE P _ H G ws Q (if xs.isEmpty = false ∧ xs.length + ys.length ≤ sizeLine then .ok (fz (.tup (xs ++ ys))) w else .bad) := h
    split at h
    · rename_i hl
      refine .inr (.inr (.inr ⟨a, b, vs, us, rfl, rfl, q1, q2, fun z => ?_, by rw [r1.length, r2.length]; exact hl.2, ?_⟩))
      · rw [r1.nil_iff.mp z] at hl; simp at hl
      · first
          | exact ⟨fun z => fz_q s r h (by rw [r2.nil_iff.mp z, List.append_nil]; exact (by unfold RV at hx; cases m <;> first | exact hx | (obtain ⟨_, _, _, _, u⟩ := hx; cases u) )), fun _ p hp => tup_q s r h hp (r1.append r2)⟩
          | skip
    · exact h.elim
  · cases d2 <;> try exact h.elim
    rename_i xs ys
    obtain ⟨a, vs, rfl, q1, r1⟩ := rv_lst s hx
    obtain ⟨b, us, rfl, q2, r2⟩ := rv_lst s hy
    have h : PostE P _ H G ws Q (if xs.length + ys.length ≤ sizeLine then .ok ⟨.nw, .lst (xs ++ ys)⟩ w else .bad) := h
    split at h
    · rename_i hl
      exact .inr (.inr (.inl ⟨a, b, vs, us, rfl, rfl, q1, q2, by rw [r1.length, r2.length]; exact hl, fun p hp => nw_q s r h hp (r1.append r2)⟩))
    · exact h.elim
end
end DL
namespace DL
open PySem L2
section
variable {P : Pm} {H0 : En} {Wi : WX}
/-- * -/
noncomputable def gMul : Val → Val → W → R Val := fun x y w => match x.d, y.d with
  | .int i, .int j => if CMul i j then .ok (fz (.int (i * j))) w else .bad
  | .lst xs, .int k => if ROm xs.length k then .ok ⟨.nw, .lst (List.replicate k.toNat xs).flatten⟩ w else .bad
  | _, _ => .bad
theorem gMul_nx (x y : Val) (w : W) (e : Xc) (w' : W) : gMul x y w ≠ .ex e w' := by
  unfold gMul
  split <;> (try split) <;> exact fun h => nomatch h
def rMulA : R2 := fun x y H Q => (rI CMul (fun i j => .int (i * j))) x y H Q ∨ rRep x y H Q
theorem op_mulA {X : Cx} : OpR X (binaryOp .Mult) rMulA := op_mul.or op_rep
theorem Reps.rep {K : PySem.W.Frag} {G : Hp} {ι : List Addr} {vs : List V} {ds : List D} (h : Reps K G ι vs ds) : ∀ k : Nat, Reps K G ι (List.replicate k vs).flatten (List.replicate k ds).flatten
  | 0 => .nil
  | k + 1 => by rw [List.replicate_succ, List.replicate_succ, List.flatten_cons, List.flatten_cons]; exact h.append (Reps.rep h k)
theorem rop_mul : ROp P rMulA gMul := by
  intro H G ws w vx vy x y Q s r hx hy h
  obtain ⟨m, d⟩ := x
  obtain ⟨m2, d2⟩ := y
  cases d <;> try exact h.elim
  · cases d2 <;> try exact h.elim
    rename_i i j
    have ex := rv_int hx
    have ey := rv_int hy
    subst ex ey
    have h : PostE P _ H G ws Q (if CMul i j then .ok (fz (.int (i * j))) w else .bad) := h
    split at h
    · rename_i hc
      exact .inl ⟨i, j, rfl, rfl, hc, fz_q s r h (.int _)⟩
    · exact h.elim
  · cases d2 <;> try exact h.elim
    rename_i xs k
    obtain ⟨a, vs, rfl, q1, r1⟩ := rv_lst s hx
    have ey := rv_int hy
    subst ey
    have h : PostE P _ H G ws Q (if ROm xs.length k then .ok ⟨.nw, .lst (List.replicate k.toNat xs).flatten⟩ w else .bad) := h
    split at h
    · rename_i hc
      exact .inr ⟨a, k, vs, rfl, rfl, q1, hc.1, hc.2.1, by rw [r1.length]; exact hc.2.2, fun p hp => nw_q s r h hp (r1.rep _)⟩
    · exact h.elim
/-- in, not in -/
def flD : D → Bool
  | .non | .bl _ | .int _ | .str _ => true
  | _ => false
def sgn : D → Option Nat
  | .str x => if x.cps.size = 1 then x.cps[0]? else none
  | _ => none
def gIn (neg : Bool) : Val → Val → W → R Val := fun x y w => match y.d with
  | .lst ys => if pl x.d && pl (.lst ys) then .ok (fz (.bl (neg != ys.any fun z => eqD z x.d))) w else .bad
  | .tup ys => if flD x.d && ys.all flD then .ok (fz (.bl (neg != ys.any fun z => eqD z x.d))) w else .bad
  | .str z => match sgn x.d with
    | some c => .ok (fz (.bl (neg != decide (c ∈ z.cps.toList)))) w
    | none => .bad
  | _ => .bad
theorem gIn_nx {neg : Bool} (x y : Val) (w : W) (e : Xc) (w' : W) : gIn neg x y w ≠ .ex e w' := by
  unfold gIn
  split <;> (try split) <;> exact fun h => nomatch h
def rInA (K : PySem.W.Frag) : R2 := fun x y H Q => rInD K x y H Q ∨ rIn K false x y H Q ∨ (∃ (c : Nat) (z : Str), x = .str ⟨#[c]⟩ ∧ y = .str z ∧ Q (.bl (decide (c ∈ z.cps.toList))) H)
def rNinA (K : PySem.W.Frag) : R2 := fun x y H Q => rNotInD K x y H Q ∨ rIn K true x y H Q ∨ (∃ (c : Nat) (z : Str), x = .str ⟨#[c]⟩ ∧ y = .str z ∧ Q (.bl (!decide (c ∈ z.cps.toList))) H)
theorem op_inA {X : Cx} (hu : X.A.units + 65 < cLine) : OpR X (compareOp .In) (rInA X.K) := (op_inD hu).or (op_in_seq.or op_in_sign)
theorem op_ninA {X : Cx} (hu : X.A.units + 65 < cLine) : OpR X (compareOp .NotIn) (rNinA X.K) := (op_notInD hu).or (op_notIn_seq.or op_notIn_sign)
theorem any_pl {n : Nat} {d : D} (hd : plN n d = true) : ∀ {ys : List D}, ys.all (plN n) = true → ((toPs ys).any fun z => PyData.eqv z (toP d)) = ys.any fun z => eqD z d
  | [], _ => rfl
  | y :: ys, h => by
    rw [List.all_cons, Bool.and_eq_true] at h
    rw [toPs, List.any_cons, List.any_cons, eqD_of n y d h.1 hd, any_pl hd h.2]
theorem plN_mono : ∀ (n : Nat) (d : D), plN n d = true → plN (n + 1) d = true := by
  intro n
  induction n with
  | zero => intro d h; cases d <;> (try simp [plN] at h) <;> simp_all [plN]
  | succ n ih =>
    intro d h
    cases d with
    | tup xs => simp only [plN, List.all_eq_true] at h ⊢; exact fun x hx => ih x (h x hx)
    | lst xs => simp only [plN, List.all_eq_true] at h ⊢; exact fun x hx => ih x (h x hx)
    | _ => simp_all [plN]
theorem rv_flat {K : PySem.W.Frag} {G H : Hp} {ws : Ws} {v : V} {x : Val} (h : RV K G H ws v x) (p : flD x.d = true) : flatV v = true ∧ Rep K G (io ws) v x.d := by
  obtain ⟨m, d⟩ := x
  cases d <;> (try simp [flD] at p)
  · have e := rv_non h; subst e; exact ⟨rfl, .non⟩
  · have e := rv_bl h; subst e; exact ⟨rfl, .bl _⟩
  · have e := rv_int h; subst e; exact ⟨rfl, .int _⟩
  · have e := rv_str h; subst e; exact ⟨rfl, .str _⟩
theorem rep_flat {K : PySem.W.Frag} {G : Hp} {ι : List Addr} {v : V} {d : D} (h : Rep K G ι v d) (p : flD d = true) : flatV v = true := by
  cases h <;> first | rfl | (simp [flD] at p)
theorem reps_flat {K : PySem.W.Frag} {G : Hp} {ι : List Addr} : ∀ {vs : List V} {ds : List D}, Reps K G ι vs ds → ds.all flD = true → vs.all flatV = true
  | _, _, .nil, _ => rfl
  | _, _, .cons a b, h => by
    rw [List.all_cons, Bool.and_eq_true] at h ⊢
    exact ⟨rep_flat a h.1, reps_flat b h.2⟩
theorem eqV_flat {K : PySem.W.Frag} {G : Hp} {ι : List Addr} {v u : V} {d e : D} (h : Rep K G ι v d) (h2 : Rep K G ι u e) (p : flD d = true) (p2 : flD e = true) : eqV v u = eqD d e := by
  cases h <;> (try (simp [flD] at p; done)) <;> cases h2 <;> (try (simp [flD] at p2; done)) <;> first | rfl | (simp only [eqV, eqD]; done) | (simp [eqV, eqD]; done)
theorem inV_flat {K : PySem.W.Frag} {G : Hp} {ι : List Addr} {u : V} {e : D} (h2 : Rep K G ι u e) (p2 : flD e = true) : ∀ {vs : List V} {ds : List D}, Reps K G ι vs ds → ds.all flD = true → inV u vs = ds.any fun z => eqD z e
  | _, _, .nil, _ => rfl
  | _, _, .cons a b, h => by
    rw [List.all_cons, Bool.and_eq_true] at h
    have ih := inV_flat h2 p2 b h.2
    unfold inV at ih ⊢
    rw [List.any_cons, List.any_cons, eqV_flat a h2 h.1 p2, ih]
theorem sgn_of {d : D} {c : Nat} (h : sgn d = some c) : d = .str ⟨#[c]⟩ := by
  cases d <;> (try (simp [sgn] at h; done))
  rename_i x
  simp only [sgn] at h
  by_cases hs : x.cps.size = 1
  · rw [if_pos hs] at h
    obtain ⟨⟨l⟩⟩ := x
    match l, hs, h with
    | [a], _, h => simp at h; subst h; rfl
  · rw [if_neg hs] at h
    cases h
theorem rop_in : ROp P (rInA P.K) (gIn false) := by
  intro H G ws w vx vy x y Q s r hx hy h
  obtain ⟨m2, d2⟩ := y
  cases d2 <;> try exact h.elim
  · rename_i z
    have ey := rv_str hy
    subst ey
    unfold gIn at h
    dsimp only at h
    split at h
    · rename_i c hc
      obtain ⟨m, d⟩ := x
      have e := sgn_of hc
      simp only at e
      subst e
      have ex := rv_str hx
      subst ex
      exact .inr (.inr ⟨c, z, rfl, rfl, fz_q s r h (by simpa using Rep.bl _)⟩)
    · exact h.elim
  · rename_i ys
    unfold gIn at h
    dsimp only at h
    split at h
    · rename_i hp
      rw [Bool.and_eq_true] at hp
      obtain ⟨a, vs, rfl, _, q1, r1⟩ := rv_tup s hy
      obtain ⟨f1, f2⟩ := rv_flat hx hp.1
      refine .inr (.inl ⟨a, vs, rfl, .inr q1, f1, reps_flat r1 hp.2, ?_⟩)
      rw [inV_flat f2 hp.1 r1 hp.2]
      exact fz_q s r h (by simpa using Rep.bl _)
    · exact h.elim
  · rename_i ys
    unfold gIn at h
    dsimp only at h
    split at h
    · rename_i hp
      rw [Bool.and_eq_true] at hp
      obtain ⟨a1, a2⟩ := rv_dp s hx hp.1
      obtain ⟨b1, b2⟩ := rv_dp s hy hp.2
      refine .inl ⟨_, _, a1, b1, a2, b2, ?_⟩
      have hl : ys.all (plN 10) = true := List.all_eq_true.mpr fun z hz => plN_mono 9 z (by
        have : plN 10 (.lst ys) = true := hp.2
        simp only [plN, List.all_eq_true] at this
        exact this z hz)
      rw [any_pl (n := 10) hp.1 hl]
      exact fz_q s r h (by simpa using Rep.bl _)
    · exact h.elim
theorem rop_nin : ROp P (rNinA P.K) (gIn true) := by
  intro H G ws w vx vy x y Q s r hx hy h
  obtain ⟨m2, d2⟩ := y
  cases d2 <;> try exact h.elim
  · rename_i z
    have ey := rv_str hy
    subst ey
    unfold gIn at h
    dsimp only at h
    split at h
    · rename_i c hc
      obtain ⟨m, d⟩ := x
      have e := sgn_of hc
      simp only at e
      subst e
      have ex := rv_str hx
      subst ex
      exact .inr (.inr ⟨c, z, rfl, rfl, fz_q s r h (by simpa using Rep.bl _)⟩)
    · exact h.elim
  · rename_i ys
    unfold gIn at h
    dsimp only at h
    split at h
    · rename_i hp
      rw [Bool.and_eq_true] at hp
      obtain ⟨a, vs, rfl, _, q1, r1⟩ := rv_tup s hy
      obtain ⟨f1, f2⟩ := rv_flat hx hp.1
      refine .inr (.inl ⟨a, vs, rfl, .inr q1, f1, reps_flat r1 hp.2, ?_⟩)
      rw [inV_flat f2 hp.1 r1 hp.2]
      exact fz_q s r h (by simpa using Rep.bl _)
    · exact h.elim
  · rename_i ys
    unfold gIn at h
    dsimp only at h
    split at h
    · rename_i hp
      rw [Bool.and_eq_true] at hp
      obtain ⟨a1, a2⟩ := rv_dp s hx hp.1
      obtain ⟨b1, b2⟩ := rv_dp s hy hp.2
      refine .inl ⟨_, _, a1, b1, a2, b2, ?_⟩
      have hl : ys.all (plN 10) = true := List.all_eq_true.mpr fun z hz => plN_mono 9 z (by
        have : plN 10 (.lst ys) = true := hp.2
        simp only [plN, List.all_eq_true] at this
        exact this z hz)
      rw [any_pl (n := 10) hp.1 hl]
      exact fz_q s r h (by simpa using Rep.bl _)
    · exact h.elim
end
end DL
namespace DL
open PySem L2
section
variable {P : Pm} {H0 : En} {Wi : WX} {ta tb tc : TE} {fa fb fc : DE}
/-! ### is -/
def isNon : D → Bool
  | .non => true
  | _ => false
def gIsN (neg : Bool) : Val → W → R Val := fun x w => .ok (fz (.bl (neg != isNon x.d))) w
theorem rv_isN {K : PySem.W.Frag} {G H : Hp} {ws : Ws} {v : V} {x : Val} (h : RV K G H ws v x) : decide (v = .non) = isNon x.d := by
  obtain ⟨m, d⟩ := x
  have un : (∃ a, v = .ref a ∧ Unf K G H (io ws) a d) → decide (v = .non) = isNon d := by
    rintro ⟨a, rfl, u⟩
    cases u <;> rfl
  unfold RV at h
  cases m with
  | fz => cases h <;> rfl
  | nw => obtain ⟨a, e, _, _, u⟩ := h; exact un ⟨a, e, u⟩
  | bo => obtain ⟨a, e, _, _, u⟩ := h; exact un ⟨a, e, u⟩
  | wd => obtain ⟨a, e, _, _, u⟩ := h; exact un ⟨a, e, u⟩
theorem ev_isN (ha : EvE P H0 Wi ta fa) : EvE P H0 Wi (tIsN ta) (dUn (gIsN false) fa) :=
  ev_un (r := fun x H Q => Q (.bl (decide (x = .non))) H) ha (fun H G ws w vx x Q s r hx h => by
    show Q (.bl (decide (vx = .non))) H
    rw [rv_isN hx]
    exact fz_q s r h (by simpa using Rep.bl _)) (fun _ _ _ _ h => nomatch h)
theorem ev_notN (ha : EvE P H0 Wi ta fa) : EvE P H0 Wi (tNotN ta) (dUn (gIsN true) fa) :=
  ev_un (r := fun x H Q => Q (.bl (!decide (x = .non))) H) ha (fun H G ws w vx x Q s r hx h => by
    show Q (.bl (!decide (vx = .non))) H
    rw [rv_isN hx]
    exact fz_q s r h (by simpa using Rep.bl _)) (fun _ _ _ _ h => nomatch h)
/-! ### subscripts -/
def gIx : Val → Val → W → R Val := fun x y w => match x.d, y.d with
  | .lst ds, .int i => match atI ds i with
    | some d => .ok (fz d) w
    | none => .bad
  | .tup ds, .int i => match atI ds i with
    | some d => .ok (fz d) w
    | none => .bad
  | .scr ns, .int i => match atI ns i with
    | some n => .ok (fz (.int n)) w
    | none => .bad
  | .str z, .int i => if z.length ≤ sizeLine then (match atI z.cps.toList i with
    | some c => .ok (fz (.str ⟨#[c]⟩)) w
    | none => .bad) else .bad
  | _, _ => .bad
theorem gIx_nx (x y : Val) (w : W) (e : Xc) (w' : W) : gIx x y w ≠ .ex e w' := by
  unfold gIx
  split <;> (try split) <;> (try split) <;> exact fun h => nomatch h
theorem reps_atI {K : PySem.W.Frag} {G : Hp} {ι : List Addr} {vs : List V} {ds : List D} {i : Int} {d : D} (r : Reps K G ι vs ds) (h : atI ds i = some d) : ∃ v, atI vs i = some v ∧ Rep K G ι v d := by
  unfold atI at h ⊢
  rw [r.length]
  cases e : ixN ds.length i with
  | none => rw [e] at h; cases h
  | some j =>
    rw [e] at h
    exact r.getD h
theorem atI_map {α β : Type} (f : α → β) (xs : List α) (i : Int) : atI (xs.map f) i = (atI xs i).map f := by
  unfold atI
  rw [List.length_map]
  cases ixN xs.length i with
  | none => rfl
  | some j => simp
theorem rop_ix : ROp P (rIx P.K) gIx := by
  intro H G ws w vx vy x y Q s r hx hy h
  obtain ⟨m, d⟩ := x
  obtain ⟨m2, d2⟩ := y
  cases d2 <;> (try (cases d <;> exact h.elim))
  rename_i i
  have ey := rv_int hy
  subst ey
  cases d <;> try exact h.elim
  · rename_i z
    have ex := rv_str hx
    subst ex
    unfold gIx at h
    dsimp only at h
    split at h
    · rename_i hz
      split at h
      · rename_i c hc
        exact .inr (.inr ⟨z, i, c, rfl, rfl, hz, hc, fz_q s r h (.str _)⟩)
      · exact h.elim
    · exact h.elim
  · rename_i ds
    obtain ⟨a, vs, rfl, _, q1, r1⟩ := rv_tup s hx
    unfold gIx at h
    dsimp only at h
    split at h
    · rename_i d hd
      obtain ⟨v, hv, rv⟩ := reps_atI r1 hd
      exact .inr (.inl ⟨a, vs, i, v, rfl, rfl, q1, hv, fz_q s r h rv⟩)
    · exact h.elim
  · rename_i ds
    obtain ⟨a, vs, rfl, q1, r1⟩ := rv_lst s hx
    unfold gIx at h
    dsimp only at h
    split at h
    · rename_i d hd
      obtain ⟨v, hv, rv⟩ := reps_atI r1 hd
      exact .inl ⟨a, vs, i, v, rfl, rfl, SqL.of q1, hv, fz_q s r h rv⟩
    · exact h.elim
  · rename_i ns
    unfold gIx at h
    dsimp only at h
    split at h
    · rename_i n hn
      have hs : ∃ a, vx = .ref a ∧ SqZ P.K G a (ns.map V.int) := by
        unfold RV at hx
        cases m with
        | fz => cases hx with | scr q => exact ⟨_, rfl, q⟩
        | nw => obtain ⟨a, _, _, _, u⟩ := hx; cases u
        | bo => obtain ⟨a, _, _, _, u⟩ := hx; cases u
        | wd => obtain ⟨a, _, _, _, u⟩ := hx; cases u
      obtain ⟨a, rfl, q⟩ := hs
      exact .inl ⟨a, ns.map V.int, i, .int n, rfl, rfl, (s.seq q), by rw [atI_map, hn]; rfl, fz_q s r h (.int _)⟩
    · exact h.elim
/-! ### slices -/
def cutL {α : Type} (xs : List α) (lo hi : Option Int) : List α := (xs.drop (HT.sIx xs.length 0 lo)).take (HT.sIx xs.length xs.length hi - HT.sIx xs.length 0 lo)
theorem reps_cut {K : PySem.W.Frag} {G : Hp} {ι : List Addr} {vs : List V} {ds : List D} (r : Reps K G ι vs ds) (lo hi : Option Int) : Reps K G ι (cutV vs lo hi) (cutL ds lo hi) := by
  unfold cutV cutL
  rw [r.length]
  exact (r.drop _).take _
abbrev DO := Env → W → R (Option Int)
def dNo : DO := fun _ w => .ok none w
def dPart (f : DE) : DO := fun ρ w => (f ρ w).bind fun x w => match x.d with
  | .int i => .ok (some i) w
  | _ => .bad
def PostO (P : Pm) (E : Value → Option Addr → Hp → Prop) (H G : Hp) (ws : Ws) (Q : Option Int → Hp → Prop) : R (Option Int) → Prop
  | .ok b w' => ∀ H' G' ws', Nx P.K P.C G H ws G' H' ws' w' → Q b H'
  | .ex x w' => ∀ cls d H' G' ws', Nx P.K P.C G H ws G' H' ws' w' → XRel P.K P.cm G' H' (io ws') x cls d → E cls d H'
  | .bad => False
def EvO (P : Pm) (H0 : En) (Wi : WX) (te : TO) (f : DO) : Prop := ∀ σ H G ws ρ w (Q : Option Int → Hp → Prop), St P.K P.C H0 σ H G ws ρ w → PostO P (fun c d H' => Wi c d σ H') H G ws Q (f ρ w) → te σ H Q
theorem ev_no : EvO P H0 Wi tNoPart dNo := fun σ H G ws ρ w Q st h => h H G ws st.nx
theorem ev_part (ha : EvE P H0 Wi ta fa) : EvO P H0 Wi (tPart ta) (dPart fa) := by
  intro σ H G ws ρ w Q st h
  unfold dPart at h
  refine ha σ H G ws ρ w _ st ?_
  cases e : fa ρ w with
  | bad => rw [e] at h; exact h
  | ex x w' => rw [e] at h; exact h
  | ok x w' =>
    intro v H1 G1 ws1 n1 r1 k1
    rw [e] at h
    obtain ⟨m, d⟩ := x
    cases d <;> try exact h.elim
    have ex := rv_int r1
    subst ex
    exact ⟨_, rfl, h H1 G1 ws1 n1⟩
def gSl : Val → Option Int → Option Int → W → R Val := fun x lo hi w => match x.d with
  | .lst ds => .ok ⟨.nw, .lst (cutL ds lo hi)⟩ w
  | .tup ds => if HT.sIx ds.length 0 lo = 0 ∧ HT.sIx ds.length ds.length hi = ds.length then .bad else .ok (fz (.tup (cutL ds lo hi))) w
  | .str z => if z.length ≤ sizeLine then .ok (fz (.str (cutS z lo hi))) w else .bad
  | _ => .bad
def rSlA (K : PySem.W.Frag) : V → Option Int → Option Int → Hp → VK → Prop := fun x lo hi H Q => rSlL K x lo hi H Q ∨ rSlT K x lo hi H Q ∨ rSlS x lo hi H Q
theorem sl_A {X : Cx} : SlR X (rSlA X.K) := sl_list.or (sl_tup.or sl_str)
theorem sl_ok {H G : Hp} {ws : Ws} {w : W} {v : V} {x : Val} {lo hi : Option Int} {Q : VK} {E : Value → Option Addr → Hp → Prop} (s : Sm G H) (r : RelW P.K P.C G H ws w) (hx : RV P.K G H ws v x) (h : PostE P E H G ws Q (gSl x lo hi w)) : rSlA P.K v lo hi H Q := by
  obtain ⟨m, d⟩ := x
  cases d <;> try exact h.elim
  · rename_i z
    have ex := rv_str hx
    subst ex
    unfold gSl at h
    dsimp only at h
    split at h
    · rename_i hz
      exact .inr (.inr ⟨z, rfl, hz, fz_q s r h (.str _)⟩)
    · exact h.elim
  · rename_i ds
    obtain ⟨a, vs, rfl, _, q1, r1⟩ := rv_tup s hx
    unfold gSl at h
    dsimp only at h
    split at h
    · exact h.elim
    · rename_i hn
      exact .inr (.inl ⟨a, vs, rfl, q1, by rw [r1.length]; exact hn, fun p hp => tup_q s r h hp (reps_cut r1 lo hi)⟩)
  · rename_i ds
    obtain ⟨a, vs, rfl, q1, r1⟩ := rv_lst s hx
    exact .inl ⟨a, vs, rfl, SqL.of q1, fun p hp => nw_q s r h hp (reps_cut r1 lo hi)⟩
def dSl (fa : DE) (fl fh : DO) : DE := fun ρ w => (fa ρ w).bind fun x w1 => (fl ρ w1).bind fun lo w2 => (fh ρ w2).bind fun hi w3 => chk x w1 w3 (gSl x lo hi w3)
theorem ev_sl {tl th : TO} {fl fh : DO} (ha : EvE P H0 Wi ta fa) (hl : EvO P H0 Wi tl fl) (hh : EvO P H0 Wi th fh) : EvE P H0 Wi (tSl (rSlA P.K) ta tl th) (dSl fa fl fh) := by
  intro σ H G ws ρ w Q st h
  unfold dSl at h
  refine ha σ H G ws ρ w _ st ?_
  cases e : fa ρ w with
  | bad => rw [e] at h; exact h
  | ex x w' => rw [e] at h; exact h
  | ok x w' =>
    intro v H1 G1 ws1 n1 r1 k1
    rw [e] at h
    refine hl σ H1 G1 ws1 ρ w' _ (st.next n1) ?_
    have h : PostE P (fun c d H' => Wi c d σ H') H G ws Q ((fl ρ w').bind fun lo w2 => (fh ρ w2).bind fun hi w3 => chk x w' w3 (gSl x lo hi w3)) := h
    cases e2 : fl ρ w' with
    | bad => rw [e2] at h; exact h
    | ex y w2 => rw [e2] at h; exact PostE.after n1 h
    | ok lo w2 =>
      intro H2 G2 ws2 n2
      rw [e2] at h
      refine hh σ H2 G2 ws2 ρ w2 _ ((st.next n1).next n2) ?_
      have h : PostE P (fun c d H' => Wi c d σ H') H G ws Q ((fh ρ w2).bind fun hi w3 => chk x w' w3 (gSl x lo hi w3)) := h
      cases e3 : fh ρ w2 with
      | bad => rw [e3] at h; exact h
      | ex y w3 => rw [e3] at h; exact PostE.after (n1.trans n2) h
      | ok hi w3 =>
        intro H3 G3 ws3 n3
        rw [e3] at h
        obtain ⟨hx, h⟩ := PostE.chk h
        exact sl_ok n3.sub n3.rw (r1.move (n2.trans n3) fun z => (n2.trans n3).same n1.rw (hx z)) (PostE.after ((n1.trans n2).trans n3) h)
/-! ### tests -/
def tst (f : DE) : DT := fun ρ w => (f ρ w).bind fun x w => match x.d with
  | .bl b => .ok b w
  | _ => .bad
theorem ev_tst (ha : EvE P H0 Wi ta fa) : EvT P H0 Wi (tTest ta) (tst fa) := by
  intro σ H G ws ρ w Q st h
  unfold tst at h
  refine ha σ H G ws ρ w _ st ?_
  cases e : fa ρ w with
  | bad => rw [e] at h; exact h
  | ex x w' => rw [e] at h; exact h
  | ok x w' =>
    intro v H1 G1 ws1 n1 r1 k1
    rw [e] at h
    obtain ⟨m, d⟩ := x
    cases d <;> try exact h.elim
    have ex := rv_bl r1
    subst ex
    exact ⟨_, rfl, h H1 G1 ws1 n1⟩
theorem ev_tB (ha : EvE P H0 Wi ta fa) : EvT P H0 Wi (tB ta) (tst fa) := ev_tst ha
variable {tA tB' : TT} {fA fB : DT}
def dNot (f : DT) : DT := fun ρ w => (f ρ w).bind fun b w => .ok (!b) w
def dAnd (f g : DT) : DT := fun ρ w => (f ρ w).bind fun b w => if b then g ρ w else .ok false w
def dOr (f g : DT) : DT := fun ρ w => (f ρ w).bind fun b w => if b then .ok true w else g ρ w
theorem ev_not (ha : EvT P H0 Wi tA fA) : EvT P H0 Wi (tNot tA) (dNot fA) := by
  intro σ H G ws ρ w Q st h
  unfold dNot at h
  refine ha σ H G ws ρ w _ st ?_
  cases e : fA ρ w with
  | bad => rw [e] at h; exact h
  | ex x w' => rw [e] at h; exact h
  | ok b w' =>
    intro H1 G1 ws1 n1
    rw [e] at h
    exact h H1 G1 ws1 n1
theorem ev_and (ha : EvT P H0 Wi tA fA) (hb : EvT P H0 Wi tB' fB) : EvT P H0 Wi (tAnd tA tB') (dAnd fA fB) := by
  intro σ H G ws ρ w Q st h
  unfold dAnd at h
  refine ha σ H G ws ρ w _ st ?_
  cases e : fA ρ w with
  | bad => rw [e] at h; exact h
  | ex x w' => rw [e] at h; exact h
  | ok b w' =>
    intro H1 G1 ws1 n1
    rw [e] at h
    cases b with
    | true =>
      have h : PostT P _ H G ws Q (fB ρ w') := h
      exact hb σ H1 G1 ws1 ρ w' _ (st.next n1) (PostT.after n1 h)
    | false => exact h H1 G1 ws1 n1
theorem ev_or (ha : EvT P H0 Wi tA fA) (hb : EvT P H0 Wi tB' fB) : EvT P H0 Wi (tOr tA tB') (dOr fA fB) := by
  intro σ H G ws ρ w Q st h
  unfold dOr at h
  refine ha σ H G ws ρ w _ st ?_
  cases e : fA ρ w with
  | bad => rw [e] at h; exact h
  | ex x w' => rw [e] at h; exact h
  | ok b w' =>
    intro H1 G1 ws1 n1
    rw [e] at h
    cases b with
    | false =>
      have h : PostT P _ H G ws Q (fB ρ w') := h
      exact hb σ H1 G1 ws1 ρ w' _ (st.next n1) (PostT.after n1 h)
    | true => exact h H1 G1 ws1 n1
/-! .. as values -/
def dAndV (fa fb : DE) : DE := fun ρ w => (fa ρ w).bind fun x w => match x.d with
  | .bl true => fb ρ w
  | .bl false => .ok (fz (.bl false)) w
  | _ => .bad
def dOrV (fa fb : DE) : DE := fun ρ w => (fa ρ w).bind fun x w => match x.d with
  | .bl false => fb ρ w
  | .bl true => .ok (fz (.bl true)) w
  | _ => .bad
def dNotV (fa : DE) : DE := fun ρ w => (fa ρ w).bind fun x w => match x.d with
  | .bl b => .ok (fz (.bl (!b))) w
  | _ => .bad
theorem ev_andV (ha : EvE P H0 Wi ta fa) (hb : EvE P H0 Wi tb fb) : EvE P H0 Wi (tAndV ta tb) (dAndV fa fb) := by
  intro σ H G ws ρ w Q st h
  unfold dAndV at h
  refine ha σ H G ws ρ w _ st ?_
  cases e : fa ρ w with
  | bad => rw [e] at h; exact h
  | ex x w' => rw [e] at h; exact h
  | ok x w' =>
    intro v H1 G1 ws1 n1 r1 k1
    rw [e] at h
    obtain ⟨m, d⟩ := x
    cases d <;> try exact h.elim
    rename_i b
    have ex := rv_bl r1
    subst ex
    refine ⟨b, rfl, ?_⟩
    cases b with
    | true =>
      have h : PostE P _ H G ws Q (fb ρ w') := h
      exact iteT (hb σ H1 G1 ws1 ρ w' _ (st.next n1) (PostE.after n1 h))
    | false => exact iteF (h (.bl false) H1 G1 ws1 n1 (.bl false) fz_nw)
theorem ev_notV (ha : EvE P H0 Wi ta fa) : EvE P H0 Wi (tNotV ta) (dNotV fa) := by
  intro σ H G ws ρ w Q st h
  unfold dNotV at h
  refine ha σ H G ws ρ w _ st ?_
  cases e : fa ρ w with
  | bad => rw [e] at h; exact h
  | ex x w' => rw [e] at h; exact h
  | ok x w' =>
    intro v H1 G1 ws1 n1 r1 k1
    rw [e] at h
    obtain ⟨m, d⟩ := x
    cases d <;> try exact h.elim
    rename_i b
    have ex := rv_bl r1
    subst ex
    exact ⟨b, rfl, h (.bl (!b)) H1 G1 ws1 n1 (.bl _) fz_nw⟩
def dIf (c : DT) (fa fb : DE) : DE := fun ρ w => (c ρ w).bind fun b w => if b then fa ρ w else fb ρ w
theorem ev_if (hc : EvT P H0 Wi tA fA) (ha : EvE P H0 Wi ta fa) (hb : EvE P H0 Wi tb fb) : EvE P H0 Wi (tIf tA ta tb) (dIf fA fa fb) := by
  intro σ H G ws ρ w Q st h
  unfold dIf at h
  refine hc σ H G ws ρ w _ st ?_
  cases e : fA ρ w with
  | bad => rw [e] at h; exact h
  | ex x w' => rw [e] at h; exact h
  | ok b w' =>
    intro H1 G1 ws1 n1
    rw [e] at h
    cases b with
    | true =>
      have h : PostE P _ H G ws Q (fa ρ w') := h
      exact iteT (ha σ H1 G1 ws1 ρ w' _ (st.next n1) (PostE.after n1 h))
    | false =>
      have h : PostE P _ H G ws Q (fb ρ w') := h
      exact iteF (hb σ H1 G1 ws1 ρ w' _ (st.next n1) (PostE.after n1 h))
end
end DL
namespace DL
open PySem L2
section
variable {P : Pm} {H0 : En} {Wi : WX} {ta tb tc : TE} {fa fb fc : DE} {tr : TA} {fr : DA}
/-! ### arguments -/
def dNil : DA := fun _ w => .ok [] w
def dOne (f : DE) : DA := fun ρ w => (f ρ w).bind fun x w => .ok [x] w
def dCons (f : DE) (fs : DA) : DA := fun ρ w => (f ρ w).bind fun x w1 => (fs ρ w1).bind fun xs w2 => chk x w1 w2 (.ok (x :: xs) w2)
theorem ev_nil : EvA P H0 Wi tNil dNil := fun σ H G ws ρ w Q st h => h [] H G ws st.nx .nil trivial
theorem ev_one (ha : EvE P H0 Wi ta fa) : EvA P H0 Wi (tCons ta tNil) (dOne fa) := by
  intro σ H G ws ρ w Q st h
  unfold dOne at h
  refine ha σ H G ws ρ w _ st ?_
  cases e : fa ρ w with
  | bad => rw [e] at h; exact h
  | ex x w' => rw [e] at h; exact h
  | ok x w' =>
    intro v H1 G1 ws1 n1 r1 k1
    rw [e] at h
    exact h [v] H1 G1 ws1 n1 (.cons r1 .nil) ⟨k1, fun _ i y e => by simp at e, trivial⟩
theorem ev_cons (ha : EvE P H0 Wi ta fa) (hr : EvA P H0 Wi tr fr) : EvA P H0 Wi (tCons ta tr) (dCons fa fr) := by
  intro σ H G ws ρ w Q st h
  unfold dCons at h
  refine ha σ H G ws ρ w _ st ?_
  cases e : fa ρ w with
  | bad => rw [e] at h; exact h
  | ex x w' => rw [e] at h; exact h
  | ok x w' =>
    intro v H1 G1 ws1 n1 r1 k1
    rw [e] at h
    have h : PostA P (fun c d H' => Wi c d σ H') H G ws Q ((fr ρ w').bind fun xs w2 => chk x w' w2 (.ok (x :: xs) w2)) := h
    refine hr σ H1 G1 ws1 ρ w' _ (st.next n1) ?_
    cases e2 : fr ρ w' with
    | bad => rw [e2] at h; exact h
    | ex y w2 => rw [e2] at h; exact PostA.after n1 h
    | ok xs w2 =>
      intro vs H2 G2 ws2 n2 r2 k2
      rw [e2] at h
      obtain ⟨hx, h⟩ := PostA.chk h
      refine h (v :: vs) H2 G2 ws2 (n1.trans n2) (.cons (r1.move n2 fun z => n2.same n1.rw (hx z)) r2) ⟨k1, fun hm i y hy hym z => ?_, newsOk_back n1 k2⟩
      -- the first stands in H1; the later ones are new there
      have ha1 : ∃ a, v = .ref a ∧ ∃ o, H1 a = some o ∧ Nt o := by
        obtain ⟨m, d⟩ := x
        simp only at hm
        subst hm
        obtain ⟨a, e, _, _, u⟩ := r1
        obtain ⟨o, ho, hc⟩ := u.there
        obtain ⟨o1, e1, c1⟩ := ho.at' (nt_cont hc)
        exact ⟨a, e, o1, e1, c1⟩
      obtain ⟨a, rfl, o, ho, no⟩ := ha1
      have go : ∀ {vs : List V} {xs : List Val} (i : Nat), NewsOk H1 vs xs → xs[i]? = some y → vs[i]? = some (.ref a) → Fr H1 a := by
        intro vs
        induction vs with
        | nil => intro xs i _ _ e; simp at e
        | cons u us ih =>
          intro xs i k hy hv
          cases xs with
          | nil => simp at hy
          | cons z zs =>
            cases i with
            | zero =>
              simp at hy hv
              subst hy hv
              exact k.1 hym a rfl
            | succ i => exact ih i k.2.2 (by simpa using hy) (by simpa using hv)
      exact go i k2 hy z o ho no
/-! ### freezing what is new -/
def frzD : List Val → Option (List D)
  | [] => some []
  | x :: xs => match x.m, frzD xs with
    | .fz, some ds => some (x.d :: ds)
    | .nw, some ds => some (x.d :: ds)
    | _, _ => none
theorem Unf.rep {K : PySem.W.Frag} {G H : Hp} {ι : List Addr} {a : Addr} {d : D} (u : Unf K G H ι a d) (g : G a = none) : ∃ o, Lk H a o ∧ Nt o ∧ Rep K (upd G a o) ι (.ref a) d := by
  have sg : ∀ o, Same G (upd G a o) := fun o b v e => by rw [upd_ne (ne_of_none e g)]; exact e
  cases u with
  | lst q r => exact ⟨_, .inl q, nt_cont trivial, .lst upd_same (r.mono (sg _) (List.prefix_refl _))⟩
  | dK q k r => exact ⟨_, q, nt_cont trivial, .dK upd_same k (r.mono (sg _) (List.prefix_refl _))⟩
  | dT q k r => exact ⟨_, q, nt_cont trivial, .dT upd_same k (r.mono (sg _) (List.prefix_refl _))⟩
theorem Nx.freeze {K : PySem.W.Frag} {C : Ca} {G H G' H' : Hp} {ws ws' : Ws} {w' : W} {a : Addr} {o : HO} (n : Nx K C G H ws G' H' ws' w') (ha : Fr H a) (h : Lk H' a o) (no : Nt o) (g : G' a = none) (nr : a ∉ regs ws') : Nx K C G H ws (upd G' a o) H' ws' w' := by
  have sg : Same G' (upd G' a o) := fun b v e => by rw [upd_ne (ne_of_none e g)]; exact e
  refine ⟨n.gg.trans sg, fun b v e => ?_, ⟨paired_imp n.rw.obs fun q o hq ⟨e, p⟩ => ⟨e, paired_imp p fun x y hx ⟨e, f⟩ => ⟨e, f.move sg (List.prefix_refl _) fun _ _ _ h => h⟩⟩, n.rw.nn, n.rw.nd, fun b hb => ?_, n.rw.tb, fun b u e => ?_, fun a q u e hd => (n.rw.ul a q u e hd).imp (sg _ _) id, n.rw.lkw, n.rw.lkh⟩, n.keep, n.alive, fun b u hb nu gb => ?_, n.io, n.fresh, n.le, n.qt, n.stb⟩
  · by_cases hb : b = a
    · subst hb; rw [upd_same] at e; cases e; exact h
    · rw [upd_ne hb] at e; exact n.sub _ _ e
  · have hne : b ≠ a := fun e => nr (by rw [← e]; exact hb)
    rw [upd_ne hne]; exact n.rw.out b hb
  · by_cases hb : b = a
    · subst hb; rw [upd_same] at e; cases e; exact no
    · rw [upd_ne hb] at e; exact n.rw.nt b u e
  · have hne : b ≠ a := ha.ne hb nu
    rw [upd_ne hne]; exact n.nocap b u hb nu gb
theorem RV.gmono {K : PySem.W.Frag} {G G' H : Hp} {ws : Ws} {v : V} {x : Val} (h : RV K G H ws v x) (g : Same G G') (hn : x.m ≠ .fz → ∀ a, v = .ref a → G a = none → G' a = none) : RV K G' H ws v x := by
  obtain ⟨m, d⟩ := x
  unfold RV at h ⊢
  cases m with
  | fz => exact Rep.mono g (List.prefix_refl _) h
  | nw => obtain ⟨a, e, ga, nr, u⟩ := h; exact ⟨a, e, hn (by intro z; cases z) a e ga, nr, u.move g (List.prefix_refl _) fun _ h => h⟩
  | bo => obtain ⟨a, e, ga, nr, u⟩ := h; exact ⟨a, e, hn (by intro z; cases z) a e ga, nr, u.move g (List.prefix_refl _) fun _ h => h⟩
  | wd => obtain ⟨a, e, ga, nr, u⟩ := h; exact ⟨a, e, hn (by intro z; cases z) a e ga, nr, u.move g (List.prefix_refl _) fun _ h => h⟩
/-- one value frozen -/
theorem freeze1 {K : PySem.W.Frag} {C : Ca} {G H G' H' : Hp} {ws ws' : Ws} {w' : W} {v : V} {x : Val} (n : Nx K C G H ws G' H' ws' w') (r : RV K G' H' ws' v x) (k : NewOk H v x) (hm : x.m = .fz ∨ x.m = .nw) :
    ∃ G2, Same G' G2 ∧ Nx K C G H ws G2 H' ws' w' ∧ Rep K G2 (io ws') v x.d ∧ (∀ b, (x.m = .nw → v ≠ .ref b) → G' b = none → G2 b = none) := by
  obtain ⟨m, d⟩ := x
  rcases hm with z | z
  · simp only at z; subst z
    exact ⟨G', fun _ _ h => h, n, r, fun _ _ h => h⟩
  · simp only at z; subst z
    obtain ⟨a, rfl, ga, nr, u⟩ := r
    obtain ⟨o, ho, no, rp⟩ := u.rep ga
    refine ⟨upd G' a o, fun b v e => by rw [upd_ne (ne_of_none e ga)]; exact e, n.freeze (k rfl a rfl) ho no ga nr, rp, fun b hb gb => ?_⟩
    rw [upd_ne (fun e => hb rfl (by rw [e]))]; exact gb
theorem freezeAll {K : PySem.W.Frag} {C : Ca} {G H : Hp} {ws ws' : Ws} {w' : W} {H' : Hp} : ∀ {vs : List V} {xs : List Val} {ds : List D} {G' : Hp}, Nx K C G H ws G' H' ws' w' → RVs K G' H' ws' vs xs → NewsOk H vs xs → frzD xs = some ds →
    ∃ G2, Same G' G2 ∧ Nx K C G H ws G2 H' ws' w' ∧ Reps K G2 (io ws') vs ds
  | _, _, ds, G', n, .nil, _, e => by
    simp [frzD] at e
    subst e
    exact ⟨G', fun _ _ h => h, n, .nil⟩
  | _, _, ds, G', n, .cons (v := v) (x := x) (vs := vs) (xs := xs) r rs, k, e => by
    obtain ⟨m, d⟩ := x
    have hz : ∃ ds', frzD xs = some ds' ∧ ds = d :: ds' ∧ (m = .fz ∨ m = .nw) := by
      unfold frzD at e
      cases q : frzD xs with
      | none => rw [q] at e; cases m <;> cases e
      | some ds' => rw [q] at e; cases m <;> first | (cases e; exact ⟨ds', rfl, rfl, .inl rfl⟩) | (cases e; exact ⟨ds', rfl, rfl, .inr rfl⟩) | cases e
    obtain ⟨ds', e1, rfl, hm⟩ := hz
    obtain ⟨G2, s2, n2, r2, f2⟩ := freeze1 n r k.1 hm
    have go : ∀ {vs : List V} {xs : List Val}, RVs K G' H' ws' vs xs → (m = .nw → ∀ (i : Nat) y, xs[i]? = some y → y.m = .nw → vs[i]? ≠ some v) → (frzD xs).isSome = true → RVs K G2 H' ws' vs xs := by
      intro vs xs rs
      induction rs with
      | nil => intro _ _; exact .nil
      | @cons u y us ys ru rus ih =>
        intro hd hf
        have hfy : (y.m = .fz ∨ y.m = .nw) ∧ (frzD ys).isSome = true := by
          unfold frzD at hf
          obtain ⟨my, dy⟩ := y
          cases q : frzD ys with
          | none => rw [q] at hf; cases my <;> cases hf
          | some _ => rw [q] at hf; cases my <;> first | exact ⟨.inl rfl, rfl⟩ | exact ⟨.inr rfl, rfl⟩ | cases hf
        refine .cons (ru.gmono s2 fun hy a ea ga => f2 a (fun hm2 ev => ?_) ga) (ih (fun hm2 i z hz => by simpa using hd hm2 (i + 1) z (by simpa using hz)) hfy.2)
        have hyn : y.m = .nw := by rcases hfy.1 with z | z; exact absurd z hy; exact z
        exact hd hm2 0 y rfl hyn (by simp [ea, ev])
    have rs2 := go rs k.2.1 (by rw [e1]; rfl)
    obtain ⟨G3, s3, n3, r3⟩ := freezeAll n2 rs2 k.2.2 e1
    exact ⟨G3, s2.trans s3, n3, .cons (r2.mono s3 (List.prefix_refl _)) r3⟩
/-! ### displays -/
def dTup (fs : DA) : DE := fun ρ w => (fs ρ w).bind fun xs w => match frzD xs with
  | some ds => if ds.length ≤ sizeLine then .ok (fz (.tup ds)) w else .bad
  | none => .bad
def dLst (fs : DA) : DE := fun ρ w => (fs ρ w).bind fun xs w => match frzD xs with
  | some ds => if ds.length ≤ sizeLine then .ok ⟨.nw, .lst ds⟩ w else .bad
  | none => .bad
theorem ev_tup (h : EvA P H0 Wi tr fr) : EvE P H0 Wi (tTup tr) (dTup fr) := by
  intro σ H G ws ρ w Q st hq
  unfold dTup at hq
  refine h σ H G ws ρ w _ st ?_
  cases e : fr ρ w with
  | bad => rw [e] at hq; exact hq
  | ex x w' => rw [e] at hq; exact hq
  | ok xs w' =>
    intro vs H1 G1 ws1 n1 r1 k1
    rw [e] at hq
    have hq : PostE P _ H G ws Q (match frzD xs with | some ds => if ds.length ≤ sizeLine then .ok (fz (.tup ds)) w' else .bad | none => .bad) := hq
    cases e2 : frzD xs with
    | none => rw [e2] at hq; exact hq.elim
    | some ds =>
      rw [e2] at hq
      dsimp only at hq
      split at hq
      · rename_i hl
        obtain ⟨G2, s2, n2, r2⟩ := freezeAll n1 r1 k1 e2
        exact ⟨by rw [r2.length]; exact hl, fun p hp => tup_q n2.sub n2.rw (PostE.after n2 hq) hp r2⟩
      · exact hq.elim
theorem ev_lst (h : EvA P H0 Wi tr fr) : EvE P H0 Wi (tLst tr) (dLst fr) := by
  intro σ H G ws ρ w Q st hq
  unfold dLst at hq
  refine h σ H G ws ρ w _ st ?_
  cases e : fr ρ w with
  | bad => rw [e] at hq; exact hq
  | ex x w' => rw [e] at hq; exact hq
  | ok xs w' =>
    intro vs H1 G1 ws1 n1 r1 k1
    rw [e] at hq
    have hq : PostE P _ H G ws Q (match frzD xs with | some ds => if ds.length ≤ sizeLine then .ok ⟨.nw, .lst ds⟩ w' else .bad | none => .bad) := hq
    cases e2 : frzD xs with
    | none => rw [e2] at hq; exact hq.elim
    | some ds =>
      rw [e2] at hq
      dsimp only at hq
      split at hq
      · rename_i hl
        obtain ⟨G2, s2, n2, r2⟩ := freezeAll n1 r1 k1 e2
        exact ⟨by rw [r2.length]; exact hl, fun p hp => nw_q n2.sub n2.rw (PostE.after n2 hq) hp r2⟩
      · exact hq.elim
/-! ### a < b < c -/
def dChain (g g' : Val → Val → W → R Val) (fa fb fc : DE) : DE := fun ρ w => (fa ρ w).bind fun x w1 => (fb ρ w1).bind fun y w2 => chk x w1 w2 ((g x y w2).bind fun z w3 => match z.d with
  | .bl true => (fc ρ w3).bind fun u w4 => chk y w2 w4 (g' y u w4)
  | .bl false => .ok (fz (.bl false)) w3
  | _ => .bad)
theorem ev_chain {r r' : R2} {g g' : Val → Val → W → R Val} (ha : EvE P H0 Wi ta fa) (hb : EvE P H0 Wi tb fb) (hc : EvE P H0 Wi tc fc) (hr : ROp P r g) (hr' : ROp P r' g') (hn : ∀ x y w e w', g x y w ≠ .ex e w') (hn' : ∀ x y w e w', g' x y w ≠ .ex e w') : EvE P H0 Wi (tChain r r' ta tb tc) (dChain g g' fa fb fc) := by
  intro σ H G ws ρ w Q st h
  unfold dChain at h
  refine ha σ H G ws ρ w _ st ?_
  cases e : fa ρ w with
  | bad => rw [e] at h; exact h
  | ex x w' => rw [e] at h; exact h
  | ok x w' =>
    intro v H1 G1 ws1 n1 r1 k1
    rw [e] at h
    refine hb σ H1 G1 ws1 ρ w' _ (st.next n1) ?_
    have h : PostE P (fun c d H' => Wi c d σ H') H G ws Q ((fb ρ w').bind fun y w2 => chk x w' w2 ((g x y w2).bind fun z w3 => match z.d with
      | .bl true => (fc ρ w3).bind fun u w4 => chk y w2 w4 (g' y u w4)
      | .bl false => .ok (fz (.bl false)) w3
      | _ => .bad)) := h
    cases e2 : fb ρ w' with
    | bad => rw [e2] at h; exact h
    | ex y w2 => rw [e2] at h; exact PostE.after n1 h
    | ok y w2 =>
      intro v2 H2 G2 ws2 n2 r2 k2
      rw [e2] at h
      obtain ⟨hx, h⟩ := PostE.chk h
      refine hr H2 G2 ws2 w2 v v2 x y _ n2.sub n2.rw (r1.move n2 fun z => n2.same n1.rw (hx z)) r2 ?_
      cases e3 : g x y w2 with
      | bad => rw [e3] at h; exact h
      | ex z w3 => exact absurd e3 (hn _ _ _ _ _)
      | ok z w3 =>
        intro v3 H3 G3 ws3 n3 r3 k3
        rw [e3] at h
        obtain ⟨mz, dz⟩ := z
        cases dz <;> try exact h.elim
        rename_i b
        have ez := rv_bl r3
        subst ez
        have n13 := (n1.trans n2).trans n3
        refine ⟨b, rfl, ?_⟩
        cases b with
        | false => exact iteF (h (.bl false) H3 G3 ws3 n13 (.bl false) fz_nw)
        | true =>
          refine iteT ?_
          have h : PostE P (fun c d H' => Wi c d σ H') H G ws Q ((fc ρ w3).bind fun u w4 => chk y w2 w4 (g' y u w4)) := h
          refine hc σ H3 G3 ws3 ρ w3 _ (st.next n13) ?_
          cases e4 : fc ρ w3 with
          | bad => rw [e4] at h; exact h
          | ex u w4 => rw [e4] at h; exact PostE.after n13 h
          | ok u w4 =>
            intro v4 H4 G4 ws4 n4 r4 k4
            rw [e4] at h
            obtain ⟨hy, h⟩ := PostE.chk h
            exact hr' H4 G4 ws4 w4 v2 v4 y u Q n4.sub n4.rw (r2.move (n3.trans n4) fun z => (n3.trans n4).same n2.rw (hy z)) r4 ((PostE.after (n13.trans n4) h).noex fun _ _ => hn' _ _ _ _ _)
end
end DL
namespace DL
open PySem L2
section
variable {P : Pm} {H0 : En} {Wi : WX}
theorem rvs1 {K : PySem.W.Frag} {G H : Hp} {ws : Ws} {vs : List V} {x : Val} (h : RVs K G H ws vs [x]) : ∃ v, vs = [v] ∧ RV K G H ws v x := by
  cases h with
  | cons a b => cases b; exact ⟨_, rfl, a⟩
theorem rvs2 {K : PySem.W.Frag} {G H : Hp} {ws : Ws} {vs : List V} {x y : Val} (h : RVs K G H ws vs [x, y]) : ∃ v u, vs = [v, u] ∧ RV K G H ws v x ∧ RV K G H ws u y := by
  cases h with
  | cons a b => cases b with | cons c d => cases d; exact ⟨_, _, rfl, a, c⟩
/-! len -/
def gLen : List Val → W → R Val := fun xs w => match xs with
  | [x] => match x.d with
    | .lst ds => .ok (fz (.int ds.length)) w
    | .tup ds => .ok (fz (.int ds.length)) w
    | .scr ns => .ok (fz (.int ns.length)) w
    | .str z => if z.length ≤ sizeLine then .ok (fz (.int z.length)) w else .bad
    | _ => .bad
  | _ => .bad
def rLenA (K : PySem.W.Frag) : List V → Hp → VK → Prop := fun xs H Q => ∃ x n, xs = [x] ∧ LenV K x H n ∧ Q (.int n) H
theorem rv_scr {K : PySem.W.Frag} {G H : Hp} {ws : Ws} {v : V} {m : Md} {ns : List Int} (s : Sm G H) (hx : RV K G H ws v ⟨m, .scr ns⟩) : ∃ a, v = .ref a ∧ SqZ K H a (ns.map V.int) := by
  unfold RV at hx
  cases m with
  | fz => cases hx with | scr q => exact ⟨_, rfl, s.seq q⟩
  | nw => obtain ⟨a, _, _, _, u⟩ := hx; cases u
  | bo => obtain ⟨a, _, _, _, u⟩ := hx; cases u
  | wd => obtain ⟨a, _, _, _, u⟩ := hx; cases u
theorem gLen_nx (x : List Val) (w : W) (e : Xc) (w' : W) : gLen x w ≠ .ex e w' := by
  unfold gLen
  split <;> (try split) <;> (try split) <;> exact fun h => nomatch h
theorem rc_len : RCall P (rLenA P.K) gLen := by
  intro H G ws w vs xs Q s r hx h
  match xs, hx, h with
  | [⟨m, d⟩], hx, h =>
    obtain ⟨v, rfl, hv⟩ := rvs1 hx
    cases d <;> try exact h.elim
    · rename_i z
      have e := rv_str hv
      subst e
      unfold gLen at h
      dsimp only at h
      split at h
      · rename_i hz
        exact ⟨_, z.length, rfl, ⟨hz, rfl⟩, fz_q s r h (.int _)⟩
      · exact h.elim
    · obtain ⟨a, vs, rfl, _, q1, r1⟩ := rv_tup s hv
      exact ⟨_, vs.length, rfl, .inr ⟨vs, q1, rfl⟩, fz_q s r h (by rw [r1.length]; exact .int _)⟩
    · obtain ⟨a, vs, rfl, q1, r1⟩ := rv_lst s hv
      exact ⟨_, vs.length, rfl, .inl ⟨vs, SqL.of q1, rfl⟩, fz_q s r h (by rw [r1.length]; exact .int _)⟩
    · rename_i ns
      obtain ⟨a, rfl, q⟩ := rv_scr s hv
      exact ⟨_, _, rfl, .inl ⟨_, q, rfl⟩, fz_q s r h (by rw [List.length_map]; exact .int _)⟩
/-! max(a, b), min(a, b) -/
def gMax2 : List Val → W → R Val := fun xs w => match xs with
  | [x, y] => match x.d, y.d with
    | .int i, .int j => .ok (fz (.int (if j > i then j else i))) w
    | _, _ => .bad
  | _ => .bad
def gMin2 : List Val → W → R Val := fun xs w => match xs with
  | [x, y] => match x.d, y.d with
    | .int i, .int j => .ok (fz (.int (if j < i then j else i))) w
    | _, _ => .bad
  | _ => .bad
theorem gMax2_nx (x : List Val) (w : W) (e : Xc) (w' : W) : gMax2 x w ≠ .ex e w' := by
  unfold gMax2
  split <;> (try split) <;> exact fun h => nomatch h
theorem gMin2_nx (x : List Val) (w : W) (e : Xc) (w' : W) : gMin2 x w ≠ .ex e w' := by
  unfold gMin2
  split <;> (try split) <;> exact fun h => nomatch h
theorem rc_max2 : RCall P (fun xs H Q => ∃ i j, xs = [.int i, .int j] ∧ Q (.int (if j > i then j else i)) H) gMax2 := by
  intro H G ws w vs xs Q s r hx h
  match xs, hx, h with
  | [⟨m, d⟩, ⟨m2, d2⟩], hx, h =>
    obtain ⟨v, u, rfl, hv, hu⟩ := rvs2 hx
    cases d <;> try exact h.elim
    cases d2 <;> try exact h.elim
    have e := rv_int hv
    have e2 := rv_int hu
    subst e e2
    exact ⟨_, _, rfl, fz_q s r h (.int _)⟩
theorem rc_min2 : RCall P (fun xs H Q => ∃ i j, xs = [.int i, .int j] ∧ Q (.int (if j < i then j else i)) H) gMin2 := by
  intro H G ws w vs xs Q s r hx h
  match xs, hx, h with
  | [⟨m, d⟩, ⟨m2, d2⟩], hx, h =>
    obtain ⟨v, u, rfl, hv, hu⟩ := rvs2 hx
    cases d <;> try exact h.elim
    cases d2 <;> try exact h.elim
    have e := rv_int hv
    have e2 := rv_int hu
    subst e e2
    exact ⟨_, _, rfl, fz_q s r h (.int _)⟩
/-! lists of one kind -/
def intsOf : List D → Option (List Int)
  | [] => some []
  | .int i :: r => (intsOf r).map (i :: ·)
  | _ :: _ => none
def blsOf : List D → Option (List Bool)
  | [] => some []
  | .bl i :: r => (blsOf r).map (i :: ·)
  | _ :: _ => none
theorem intsOf_eq : ∀ {ds : List D} {ns : List Int}, intsOf ds = some ns → ds = ns.map .int
  | [], _, h => by simp [intsOf] at h; subst h; rfl
  | d :: r, ns, h => by
    cases d <;> try (simp [intsOf] at h; done)
    simp only [intsOf, Option.map_eq_some_iff] at h
    obtain ⟨a, h1, h2⟩ := h
    subst h2
    rw [intsOf_eq h1]; rfl
theorem blsOf_eq : ∀ {ds : List D} {ns : List Bool}, blsOf ds = some ns → ds = ns.map .bl
  | [], _, h => by simp [blsOf] at h; subst h; rfl
  | d :: r, ns, h => by
    cases d <;> try (simp [blsOf] at h; done)
    simp only [blsOf, Option.map_eq_some_iff] at h
    obtain ⟨a, h1, h2⟩ := h
    subst h2
    rw [blsOf_eq h1]; rfl
def onL (x : Val) (g : List D → R Val) : R Val := match x.d with
  | .lst ds => g ds
  | _ => .bad
def minI : List Int → Int
  | [] => 0
  | a :: r => r.foldl (fun m x => if x < m then x else m) a
def gAll : List Val → W → R Val := fun xs w => match xs with
  | [x] => onL x fun ds => match blsOf ds with
    | some bs => .ok (fz (.bl (bs.all id))) w
    | _ => .bad
  | _ => .bad
def gAny : List Val → W → R Val := fun xs w => match xs with
  | [x] => onL x fun ds => match blsOf ds with
    | some bs => .ok (fz (.bl (bs.any id))) w
    | _ => .bad
  | _ => .bad
theorem gAll_nx (x : List Val) (w : W) (e : Xc) (w' : W) : gAll x w ≠ .ex e w' := by
  unfold gAll onL
  split <;> (try dsimp only) <;> (try split) <;> (try dsimp only) <;> (try split) <;> exact fun h => nomatch h
theorem gAny_nx (x : List Val) (w : W) (e : Xc) (w' : W) : gAny x w ≠ .ex e w' := by
  unfold gAny onL
  split <;> (try dsimp only) <;> (try split) <;> (try dsimp only) <;> (try split) <;> exact fun h => nomatch h
theorem rc_all : RCall P (rAll P.K) gAll := by
  intro H G ws w vs xs Q s r hx h
  match xs, hx, h with
  | [⟨m, d⟩], hx, h =>
    obtain ⟨v, rfl, hv⟩ := rvs1 hx
    cases d <;> try exact h.elim
    rename_i ds
    obtain ⟨a, vs, rfl, q1, r1⟩ := rv_lst s hv
    unfold gAll onL at h
    dsimp only at h
    split at h
    · rename_i ns hn
      rw [blsOf_eq hn] at r1
      rw [r1.of_bls] at q1
      exact ⟨a, ns, rfl, SqL.of q1, fz_q s r h (.bl _)⟩
    · exact h.elim
theorem rc_any : RCall P (rAny P.K) gAny := by
  intro H G ws w vs xs Q s r hx h
  match xs, hx, h with
  | [⟨m, d⟩], hx, h =>
    obtain ⟨v, rfl, hv⟩ := rvs1 hx
    cases d <;> try exact h.elim
    rename_i ds
    obtain ⟨a, vs, rfl, q1, r1⟩ := rv_lst s hv
    unfold gAny onL at h
    dsimp only at h
    split at h
    · rename_i ns hn
      rw [blsOf_eq hn] at r1
      rw [r1.of_bls] at q1
      exact ⟨a, ns, rfl, SqL.of q1, fz_q s r h (.bl _)⟩
    · exact h.elim
/-! int(b), int(i); list(xs), list(t); tuple(xs) -/
def gInt : List Val → W → R Val := fun xs w => match xs with
  | [x] => match x.d with
    | .int i => .ok (fz (.int i)) w
    | .bl b => .ok (fz (.int (if b then 1 else 0))) w
    | _ => .bad
  | _ => .bad
def gList : List Val → W → R Val := fun xs w => match xs with
  | [x] => match x.d with
    | .lst ds => .ok ⟨.nw, .lst ds⟩ w
    | .tup ds => .ok ⟨.nw, .lst ds⟩ w
    | _ => .bad
  | _ => .bad
theorem gList_nx (x : List Val) (w : W) (e : Xc) (w' : W) : gList x w ≠ .ex e w' := by
  unfold gList
  split <;> (try split) <;> exact fun h => nomatch h
theorem rc_list : RCall P (fun xs H Q => ∃ p ys, xs = [.ref p] ∧ (SqL P.K H p ys ∨ SqT P.K H p ys) ∧ ∀ l, H l = none → Q (.ref l) (upd H l (.lst ys))) gList := by
  intro H G ws w vs xs Q s r hx h
  match xs, hx, h with
  | [⟨m, d⟩], hx, h =>
    obtain ⟨v, rfl, hv⟩ := rvs1 hx
    cases d <;> try exact h.elim
    · obtain ⟨a, vs, rfl, _, q1, r1⟩ := rv_tup s hv
      exact ⟨a, vs, rfl, .inr q1, fun l hl => nw_q s r h hl r1⟩
    · obtain ⟨a, vs, rfl, q1, r1⟩ := rv_lst s hv
      exact ⟨a, vs, rfl, .inl (SqL.of q1), fun l hl => nw_q s r h hl r1⟩
def gTuple : List Val → W → R Val := fun xs w => match xs with
  | [x] => match x.d with
    | .lst ds => .ok (fz (.tup ds)) w
    | _ => .bad
  | _ => .bad
theorem gTuple_nx (x : List Val) (w : W) (e : Xc) (w' : W) : gTuple x w ≠ .ex e w' := by
  unfold gTuple
  split <;> (try split) <;> exact fun h => nomatch h
theorem rc_tuple : RCall P (fun xs H Q => ∃ p ys, xs = [.ref p] ∧ ((SqL P.K H p ys ∧ ∀ l, H l = none → Q (.ref l) (upd H l (.tup ys))) ∨ (SqT P.K H p ys ∧ Q (.ref p) H))) gTuple := by
  intro H G ws w vs xs Q s r hx h
  match xs, hx, h with
  | [⟨m, d⟩], hx, h =>
    obtain ⟨v, rfl, hv⟩ := rvs1 hx
    cases d <;> try exact h.elim
    obtain ⟨a, vs, rfl, q1, r1⟩ := rv_lst s hv
    exact ⟨a, vs, rfl, .inl ⟨SqL.of q1, fun l hl => tup_q s r h hl r1⟩⟩
/-! isinstance(x, T), T a built-in class -/
def tyD : D → String
  | .non => "NoneType" | .bl _ => "bool" | .int _ => "int" | .str _ => "str" | .tup _ => "tuple" | .lst _ => "list" | .scr _ => "list" | .dK _ => "dict" | .dT _ => "dict" | .obj _ => "" | .exc _ => ""
def gIsi (T : String) : Val → W → R Val := fun x w => match kitB (tyD x.d) T with
  | some b => .ok (fz (.bl b)) w
  | none => .bad
end
end DL
namespace DL
open PySem L2
/-! ### statements -/
inductive Out where
  | next (ρ : Env) (w : W) | ret (x : Val) (w : W) | brk (ρ : Env) (w : W) | cont (ρ : Env) (w : W) | ex (x : Xc) (ρ : Env) (w : W) | bad
abbrev DS := Env → W → Out
/-- what was frozen stays so -/
def Mon (G : Hp) (ws : Ws) (G' : Hp) (ws' : Ws) : Prop := Same G G' ∧ io ws <+: io ws' ∧ Stab ws.l ws'.l ∧ ws.n ≤ ws'.n ∧ (ws'.n = ws.n → ws' = ws)
theorem Mon.refl {G : Hp} {ws : Ws} : Mon G ws G ws := ⟨fun _ _ h => h, List.prefix_refl _, Stab.refl _, Nat.le_refl _, fun _ => rfl⟩
theorem Mon.trans {G G1 G2 : Hp} {ws ws1 ws2 : Ws} (a : Mon G ws G1 ws1) (b : Mon G1 ws1 G2 ws2) : Mon G ws G2 ws2 := ⟨a.1.trans b.1, a.2.1.trans b.2.1, a.2.2.1.trans b.2.2.1, Nat.le_trans a.2.2.2.1 b.2.2.2.1, fun h => by
  have h1 := a.2.2.2.1
  have h2 := b.2.2.2.1
  rw [b.2.2.2.2 (by omega), a.2.2.2.2 (by omega)]⟩
theorem Nx.mon {K : PySem.W.Frag} {C : Ca} {G H G' H' : Hp} {ws ws' : Ws} {w' : W} (n : Nx K C G H ws G' H' ws' w') : Mon G ws G' ws' := ⟨n.gg, n.io, n.stb, n.le, fun h => (n.qt h).1⟩
def PostS (P : Pm) (e : En) (Wi : WX) (D : Ends) (G0 : Hp) (ws0 : Ws) : Out → Prop
  | .next ρ w => ∀ σ H G ws, St P.K P.C e σ H G ws ρ w → Mon G0 ws0 G ws → D.nx σ H
  | .brk ρ w => ∀ σ H G ws, St P.K P.C e σ H G ws ρ w → Mon G0 ws0 G ws → D.bk σ H
  | .cont ρ w => ∀ σ H G ws, St P.K P.C e σ H G ws ρ w → Mon G0 ws0 G ws → D.ct σ H
  | .ret x w => ∀ v H G ws, Nx P.K P.C e.G e.H e.ws G H ws w → RV P.K G H ws v x → NewOk e.H v x → (x.m = .fz ∨ x.m = .nw) → D.rt v H
  | .ex x ρ w => ∀ cls d σ H G ws, St P.K P.C e σ H G ws ρ w → XRel P.K P.cm G H (io ws) x cls d → Wi cls d σ H
  | .bad => False
def EvS (P : Pm) (e : En) (Wi : WX) (ts : TS) (g : DS) : Prop := ∀ σ H G ws ρ w (D : Ends), St P.K P.C e σ H G ws ρ w → PostS P e Wi D G ws (g ρ w) → ts D σ H
theorem PostS.after {P : Pm} {e : En} {Wi : WX} {D : Ends} {G G1 : Hp} {ws ws1 : Ws} {o : Out} (m : Mon G ws G1 ws1) (h : PostS P e Wi D G ws o) : PostS P e Wi D G1 ws1 o := by
  cases o with
  | next ρ w => exact fun σ H G2 ws2 st m2 => h σ H G2 ws2 st (m.trans m2)
  | brk ρ w => exact fun σ H G2 ws2 st m2 => h σ H G2 ws2 st (m.trans m2)
  | cont ρ w => exact fun σ H G2 ws2 st m2 => h σ H G2 ws2 st (m.trans m2)
  | ret x w => exact h
  | ex x ρ w => exact h
  | bad => exact h
def R.thn {α : Type} (r : R α) (ρ : Env) (f : α → W → Out) : Out := match r with
  | .ok a w => f a w
  | .ex x w => .ex x ρ w
  | .bad => .bad
def Out.thn (o : Out) (f : DS) : Out := match o with
  | .next ρ w => f ρ w
  | o => o
section
variable {P : Pm} {H0 : En} {Wi : WX} {ta tb tc : TE} {fa fb fc : DE} {ts us : TS} {gs hs : DS}
/-- an expression's end, for a statement -/
theorem postE_of {σ : L2.St} {H G : Hp} {ws : Ws} {ρ : Env} {w : W} {D : Ends} {Q : VK} {r : R Val} {f : Val → W → Out} (st : St P.K P.C H0 σ H G ws ρ w) (h : PostS P H0 Wi D G ws (r.thn ρ f))
    (k : ∀ x w', r = .ok x w' → PostS P H0 Wi D G ws (f x w') → ∀ v H' G' ws', Nx P.K P.C G H ws G' H' ws' w' → RV P.K G' H' ws' v x → NewOk H v x → Q v H') : PostE P (fun c d H' => Wi c d σ H') H G ws Q r := by
  cases r with
  | ok x w' => exact k x w' rfl h
  | ex x w' => exact fun cls d H' G' ws' n hx => h cls d σ H' G' ws' (st.next n) hx
  | bad => exact h
theorem postT_of {σ : L2.St} {H G : Hp} {ws : Ws} {ρ : Env} {w : W} {D : Ends} {Q : Bool → Hp → Prop} {r : R Bool} {f : Bool → W → Out} (st : St P.K P.C H0 σ H G ws ρ w) (h : PostS P H0 Wi D G ws (r.thn ρ f))
    (k : ∀ x w', r = .ok x w' → PostS P H0 Wi D G ws (f x w') → ∀ H' G' ws', Nx P.K P.C G H ws G' H' ws' w' → Q x H') : PostT P (fun c d H' => Wi c d σ H') H G ws Q r := by
  cases r with
  | ok x w' => exact k x w' rfl h
  | ex x w' => exact fun cls d H' G' ws' n hx => h cls d σ H' G' ws' (st.next n) hx
  | bad => exact h
theorem postA_of {σ : L2.St} {H G : Hp} {ws : Ws} {ρ : Env} {w : W} {D : Ends} {Q : List V → Hp → Prop} {r : R (List Val)} {f : List Val → W → Out} (st : St P.K P.C H0 σ H G ws ρ w) (h : PostS P H0 Wi D G ws (r.thn ρ f))
    (k : ∀ x w', r = .ok x w' → PostS P H0 Wi D G ws (f x w') → ∀ v H' G' ws', Nx P.K P.C G H ws G' H' ws' w' → RVs P.K G' H' ws' v x → NewsOk H v x → Q v H') : PostA P (fun c d H' => Wi c d σ H') H G ws Q r := by
  cases r with
  | ok x w' => exact k x w' rfl h
  | ex x w' => exact fun cls d H' G' ws' n hx => h cls d σ H' G' ws' (st.next n) hx
  | bad => exact h
def sNext : DS := fun ρ w => .next ρ w
def sSeq (g h : DS) : DS := fun ρ w => (g ρ w).thn h
theorem ev_next : EvS P H0 Wi tNext sNext := fun σ H G ws ρ w D st h => h σ H G ws st .refl
theorem ev_seq (h1 : EvS P H0 Wi ts gs) (h2 : EvS P H0 Wi us hs) : EvS P H0 Wi (tSeq ts us) (sSeq gs hs) := by
  intro σ H G ws ρ w D st h
  unfold sSeq at h
  refine h1 σ H G ws ρ w _ st ?_
  cases e : gs ρ w with
  | next ρ' w' =>
    rw [e] at h
    exact fun σ' H' G' ws' st' m => h2 σ' H' G' ws' ρ' w' D st' (PostS.after m h)
  | ret x w' => rw [e] at h; exact h
  | brk ρ' w' => rw [e] at h; exact h
  | cont ρ' w' => rw [e] at h; exact h
  | ex x ρ' w' => rw [e] at h; exact h
  | bad => rw [e] at h; exact h
/-! a name is stored -/
theorem St.set {e : En} {σ : L2.St} {H G : Hp} {ws : Ws} {ρ : Env} {w : W} {K : PySem.W.Frag} {C : Ca} {H1 G1 : Hp} {ws1 : Ws} {w1 : W} {i : Nat} {v : V} {x : Val} (st : St K C e σ H G ws ρ w) (n : Nx K C G H ws G1 H1 ws1 w1) (r : RV K G1 H1 ws1 v x) (k : NewOk H v x) (hm : x.m = .fz ∨ x.m = .nw) :
    St K C e (σ.set i (some v)) H1 G1 ws1 (ρ.set i (some x)) w1 := by
  have s1 := st.next n
  have back : ∀ a, (H a).isSome = true → (H a) ≠ none := fun a h z => by rw [z] at h; cases h
  refine ⟨s1.nx0, by rw [List.length_set, List.length_set]; exact s1.len, fun j y e => ?_, fun j y a e hy ea => ?_, fun j l y z a ej el hy hz aj al => ?_⟩
  · by_cases hj : i = j
    · subst hj
      rw [List.getElem?_set] at e ⊢
      rw [if_pos rfl] at e ⊢
      split at e
      · rename_i hl
        rw [if_pos (by rw [s1.len]; exact hl)]
        cases e
        exact ⟨v, rfl, r, hm⟩
      · cases e
    · rw [List.getElem?_set_ne hj] at e ⊢
      exact s1.sl j y e
  · by_cases hj : i = j
    · subst hj
      rw [List.getElem?_set] at e ea
      rw [if_pos rfl] at e ea
      split at e
      · rename_i hl
        rw [if_pos (by rw [s1.len]; exact hl)] at ea
        cases e
        cases ea
        have := k hy a rfl
        intro o q no
        obtain ⟨o', e', no'⟩ := st.nx0.alive a o q no
        exact this o' e' no'
      · cases e
    · rw [List.getElem?_set_ne hj] at e ea
      exact st.own j y a e hy ea
  · -- apart
    have key : ∀ (j : Nat) y a, ρ[j]? = some (some y) → y.m = .nw → σ[j]? = some (some (.ref a)) → ∃ o, H a = some o ∧ Nt o := fun j y a e hy ea => by
      obtain ⟨u, h1, h2, _⟩ := st.sl j y e
      rw [ea] at h1
      cases h1
      obtain ⟨m, d⟩ := y
      simp only at hy
      subst hy
      obtain ⟨b, eb, _, _, un⟩ := h2
      cases eb
      obtain ⟨o, ho, hc⟩ := un.there
      exact ho.at' (nt_cont hc)
    by_cases hj : i = j
    · by_cases hl : i = l
      · rw [← hj, ← hl]
      · exfalso
        subst hj
        rw [List.getElem?_set_ne hl] at el al
        rw [List.getElem?_set, if_pos rfl] at ej aj
        split at ej
        · rename_i hlt
          rw [if_pos (by rw [s1.len]; exact hlt)] at aj
          cases ej
          cases aj
          have h1 := k hy a rfl
          obtain ⟨o, h2, h3⟩ := key l z a el hz al
          exact h1 o h2 h3
        · cases ej
    · by_cases hl : i = l
      · exfalso
        subst hl
        rw [List.getElem?_set_ne hj] at ej aj
        rw [List.getElem?_set, if_pos rfl] at el al
        split at el
        · rename_i hlt
          rw [if_pos (by rw [s1.len]; exact hlt)] at al
          cases el
          cases al
          have h1 := k hz a rfl
          obtain ⟨o, h2, h3⟩ := key j y a ej hy aj
          exact h1 o h2 h3
        · cases el
      · rw [List.getElem?_set_ne hj] at ej aj
        rw [List.getElem?_set_ne hl] at el al
        exact st.ap j l y z a ej el hy hz aj al
def keepM (x : Val) : Bool := match x.m with
  | .fz | .nw => true
  | _ => false
theorem keepM_of {x : Val} (h : keepM x = true) : x.m = .fz ∨ x.m = .nw := by
  obtain ⟨m, d⟩ := x
  cases m <;> first | exact .inl rfl | exact .inr rfl | (simp [keepM] at h)
def sSet (i : Nat) (f : DE) : DS := fun ρ w => (f ρ w).thn ρ fun x w => if keepM x then .next (ρ.set i (some x)) w else .bad
theorem ev_set {i : Nat} (ha : EvE P H0 Wi ta fa) : EvS P H0 Wi (tAsg ta (gName i)) (sSet i fa) := by
  intro σ H G ws ρ w D st h
  unfold sSet at h
  refine ha σ H G ws ρ w _ st (postE_of st h fun x w' _ h v H1 G1 ws1 n r k => ?_)
  split at h
  · rename_i hm
    exact h _ _ _ _ (st.set n r k (keepM_of hm)) n.mon
  · exact h.elim
/-- a tuple's parts are stored -/
def gNames : List Nat → TGs
  | [] => gNil
  | i :: r => gCons (gName i) (gNames r)
def setAll : List Nat → List D → Env → Env
  | i :: is, d :: ds, ρ => setAll is ds (ρ.set i (some (fz d)))
  | _, _, ρ => ρ
theorem St.setAll {e : En} {H G : Hp} {ws : Ws} {w : W} {K : PySem.W.Frag} {C : Ca} : ∀ {is : List Nat} {vs : List V} {ds : List D} {σ : L2.St} {ρ : Env}, St K C e σ H G ws ρ w → Reps K G (io ws) vs ds → is.length = ds.length → ∀ Q : L2.St → Hp → Prop, (∀ σ', St K C e σ' H G ws (DL.setAll is ds ρ) w → Q σ' H) → gNames is vs σ H Q
  | [], _, _, σ, ρ, st, .nil, _, Q, h => ⟨rfl, h σ st⟩
  | [], _, _, _, _, _, .cons _ _, hl, _, _ => by simp at hl
  | _ :: _, _, _, _, _, _, .nil, hl, _, _ => by simp at hl
  | i :: is, v :: vs, d :: ds, σ, ρ, st, .cons a b, hl, Q, h => by
    refine ⟨v, vs, rfl, ?_⟩
    exact St.setAll (st.set (x := fz d) (i := i) st.nx a fz_nw (.inl rfl)) b (by simpa using hl) Q fun σ' s' => h σ' s'
def sSetT (is : List Nat) (f : DE) : DS := fun ρ w => (f ρ w).thn ρ fun x w => match x.d with
  | .tup ds => if is.length = ds.length then .next (setAll is ds ρ) w else .bad
  | _ => .bad
theorem ev_setT {is : List Nat} (ha : EvE P H0 Wi ta fa) : EvS P H0 Wi (tAsg ta (gTup P.K is.length (gNames is))) (sSetT is fa) := by
  intro σ H G ws ρ w D st h
  unfold sSetT at h
  refine ha σ H G ws ρ w _ st (postE_of st h fun x w' _ h v H1 G1 ws1 n r k => ?_)
  obtain ⟨m, d⟩ := x
  cases d <;> try exact h.elim
  rename_i ds
  obtain ⟨a, vs, rfl, _, q1, r1⟩ := rv_tup n.sub r
  dsimp only at h
  split at h
  · rename_i hl
    exact ⟨a, vs, rfl, q1, by rw [r1.length, hl], St.setAll (st.next n) r1 hl _ fun σ' s' => h σ' H1 G1 ws1 s' n.mon⟩
  · exact h.elim
def sExpr (f : DE) : DS := fun ρ w => (f ρ w).thn ρ fun _ w => .next ρ w
theorem ev_expr (ha : EvE P H0 Wi ta fa) : EvS P H0 Wi (tDrop ta) (sExpr fa) := by
  intro σ H G ws ρ w D st h
  unfold sExpr at h
  exact ha σ H G ws ρ w _ st (postE_of st h fun x w' _ h v H1 G1 ws1 n r k => h _ _ _ _ (st.next n) n.mon)
def sRet (f : DE) : DS := fun ρ w => (f ρ w).thn ρ fun x w => if keepM x then .ret x w else .bad
theorem ev_ret (ha : EvE P H0 Wi ta fa) : EvS P H0 Wi (tRet ta) (sRet fa) := by
  intro σ H G ws ρ w D st h
  unfold sRet at h
  refine ha σ H G ws ρ w _ st (postE_of st h fun x w' _ h v H1 G1 ws1 n r k => ?_)
  split at h
  · rename_i hm
    exact h v H1 G1 ws1 (st.nx0.trans n) r (newOk_back (P := P) st.nx0 k) (keepM_of hm)
  · exact h.elim
/-- return name -/
def sRetV (i : Nat) : DS := fun ρ w => match ρ[i]? with
  | some (some x) => .ret x w
  | _ => .bad
theorem ev_retV {i : Nat} : EvS P H0 Wi (tRet (tVar i)) (sRetV i) := by
  intro σ H G ws ρ w D st h
  unfold sRetV at h
  cases e : ρ[i]? with
  | none => rw [e] at h; exact h.elim
  | some o =>
    cases o with
    | none => rw [e] at h; exact h.elim
    | some x =>
      rw [e] at h
      obtain ⟨v, h1, h2, h3⟩ := st.sl i x e
      refine ⟨v, h1, h v H G ws st.nx0 h2 (fun hm a ea => ?_) h3⟩
      subst ea
      exact st.own i x a e hm h1
variable {tA : TT} {fA : DT}
def sIf (c : DT) (g h : DS) : DS := fun ρ w => (c ρ w).thn ρ fun b w => if b then g ρ w else h ρ w
theorem ev_sif (hc : EvT P H0 Wi tA fA) (h1 : EvS P H0 Wi ts gs) (h2 : EvS P H0 Wi us hs) : EvS P H0 Wi (tIfS tA ts us) (sIf fA gs hs) := by
  intro σ H G ws ρ w D st h
  unfold sIf at h
  refine hc σ H G ws ρ w _ st (postT_of st h fun b w' _ h H1 G1 ws1 n => ?_)
  cases b with
  | true => exact iteT (h1 σ H1 G1 ws1 ρ w' D (st.next n) (PostS.after n.mon h))
  | false => exact iteF (h2 σ H1 G1 ws1 ρ w' D (st.next n) (PostS.after n.mon h))
/-- a slot's own list is given away: from here on it stays as it is -/
def sFrz (i : Nat) (g : DS) : DS := fun ρ w => match ρ[i]? with
  | some (some x) => g (ρ.set i (some (fz x.d))) w
  | _ => .bad
theorem ev_frz {i : Nat} (h1 : EvS P H0 Wi ts gs) : EvS P H0 Wi ts (sFrz i gs) := by
  intro σ H G ws ρ w D st h
  unfold sFrz at h
  cases e : ρ[i]? with
  | none => rw [e] at h; exact h.elim
  | some o =>
    cases o with
    | none => rw [e] at h; exact h.elim
    | some x =>
      rw [e] at h
      dsimp only at h
      obtain ⟨v, e1, r, hm⟩ := st.sl i x e
      have hl : i < ρ.length := (List.getElem?_eq_some_iff.mp e).1
      -- the slot's value stays; the ghost heap takes it up
      obtain ⟨G2, sg, n2, rp, f2⟩ := freeze1 st.nx0 r (fun hm a ea => by subst ea; exact st.own i x a e hm e1) hm
      have nx : ∀ (j : Nat) y, ρ[j]? = some (some y) → j ≠ i → ∃ u, σ[j]? = some (some u) ∧ RV P.K G2 H ws u y ∧ (y.m = .fz ∨ y.m = .nw) := fun j y ej hj => by
        obtain ⟨u, h1, h2, h3⟩ := st.sl j y ej
        refine ⟨u, h1, h2.gmono sg fun hy a ea ga => f2 a (fun hx ev => hj ?_) ga, h3⟩
        subst ea
        have hyn : y.m = .nw := by rcases h3 with z | z; exact absurd z hy; exact z
        exact st.ap j i y x a ej e hyn hx h1 (by rw [e1, ev])
      refine h1 σ H G2 ws (ρ.set i (some (fz x.d))) w D ⟨n2, by rw [List.length_set]; exact st.len, fun j y ej => ?_, fun j y a ej hy ea => ?_, fun j l y z a ej el hy hz aj al => ?_⟩ (PostS.after ⟨sg, List.prefix_refl _, Stab.refl _, Nat.le_refl _, fun _ => rfl⟩ h)
      · by_cases hj : i = j
        · subst hj
          rw [List.getElem?_set, if_pos rfl, if_pos hl] at ej
          cases ej
          exact ⟨v, e1, rp, .inl rfl⟩
        · rw [List.getElem?_set_ne hj] at ej
          exact nx j y ej (Ne.symm hj)
      · by_cases hj : i = j
        · subst hj
          rw [List.getElem?_set, if_pos rfl, if_pos hl] at ej
          cases ej
          cases hy
        · rw [List.getElem?_set_ne hj] at ej
          exact st.own j y a ej hy ea
      · by_cases hj : i = j
        · subst hj
          rw [List.getElem?_set, if_pos rfl, if_pos hl] at ej
          cases ej
          cases hy
        · by_cases hk : i = l
          · subst hk
            rw [List.getElem?_set, if_pos rfl, if_pos hl] at el
            cases el
            cases hz
          · rw [List.getElem?_set_ne hj] at ej
            rw [List.getElem?_set_ne hk] at el
            exact st.ap j l y z a ej el hy hz aj al
end
end DL
namespace DL
open PySem L2
section
variable {P : Pm} {H0 : En} {Wi : WX} {ta tb tc : TE} {fa fb fc : DE} {ts us : TS} {gs hs : DS}
/-- the thing that a slot owns, changed -/
theorem St.mut {K : PySem.W.Frag} {C : Ca} {e : En} {σ : L2.St} {H G : Hp} {ws : Ws} {ρ : Env} {w : W} {i : Nat} {a : Addr} {x : Val} {d' : D} {o' : HO} (st : St K C e σ H G ws ρ w) (ei : ρ[i]? = some (some x)) (hm : x.m = .nw) (ea : σ[i]? = some (some (.ref a)))
    (hoa : ∃ o, H a = some o ∧ Cont o) (co' : Cont o') (u : Unf K G (upd H a o') (io ws) a d') : St K C e σ (upd H a o') G ws (ρ.set i (some ⟨.nw, d'⟩)) w := by
  obtain ⟨v, e1, r, _⟩ := st.sl i x ei
  rw [ea] at e1
  cases e1
  have e0 : Fr e.H a := st.own i x a ei hm ea
  have hr : G a = none ∧ a ∉ regs ws ∧ ∃ o, H a = some o ∧ Cont o := by
    obtain ⟨m, d⟩ := x
    simp only at hm
    subst hm
    obtain ⟨b, eb, g, nr, un⟩ := r
    cases eb
    exact ⟨g, nr, hoa⟩
  have no' : Nt o' := nt_cont co'
  obtain ⟨oa, ha1, ha2⟩ := hr.2.2
  have hl : i < ρ.length := (List.getElem?_eq_some_iff.mp ei).1
  have hne : ∀ b o, H b = some o → b ≠ a → upd H a o' b = some o := fun b o h n => by rw [upd_ne n]; exact h
  have hneL : ∀ b o, Lk H b o → b ≠ a → Lk (upd H a o') b o := fun b o h n => by
    rcases h with h | ⟨h, q, e⟩
    · exact .inl (hne b o h n)
    · exact .inr ⟨h, q, hne b _ e n⟩
  have nreg : ∀ b ∈ regs ws, b ≠ a := fun b hb z => hr.2.1 (by rw [← z]; exact hb)
  have ncap : ∀ b o, e.H b = some o → Nt o → e.G b = none → G b = none ∨ ∃ xs, upd H a o' b = some (.tup xs) := fun b o h no gb => by
    rcases st.nx0.nocap b o h no gb with z | ⟨xs, z⟩
    · exact .inl z
    · by_cases hba : b = a
      · subst hba; exact .inl hr.1
      · exact .inr ⟨xs, by rw [upd_ne hba]; exact z⟩
  refine ⟨⟨st.nx0.gg, fun b o h => ?_, ⟨paired_imp st.rw.obs fun q o hq ⟨⟨dx, e⟩, p⟩ => ⟨⟨dx, hne _ _ e (nreg _ (regs_mem hq).1)⟩, paired_imp p fun y z hy ⟨e, f⟩ => ⟨e, f.move (fun _ _ h => h) (List.prefix_refl _) fun b o eb hb => hneL b o hb (nreg b ((regs_mem hq).2 b (refs_mem hy eb)))⟩⟩, st.rw.nn, st.rw.nd, st.rw.out, tabs_upd st.rw.tb ha1 (nt_cont ha2) (nx_cont ha2), st.rw.nt, ul_upd st.rw (fun _ _ h => h) (nf_cont co'), st.rw.lkw, lkh_cont st.rw ha1 (nf_cont ha2)⟩, fun b o h no n => ?_, fun b o h no => ?_, fun b o h no gb => ncap b o h no gb, st.nx0.io, st.nx0.fresh, st.nx0.le, fun h => ?_, st.nx0.stb⟩, by rw [List.length_set]; exact st.len, fun j y ej => ?_, fun j y b ej hy eb => ?_, fun j l y z b ej el hy hz bj bl => ?_⟩
  · exact hneL b o (st.sub b o h) (ne_of_none h hr.1)
  · exact hneL b o (st.nx0.keep b o h no n) (by obtain ⟨o1, e1, n1⟩ := h.at' no; exact e0.ne e1 n1)
  · by_cases hb : b = a
    · subst hb; rw [upd_same]; exact ⟨o', rfl, no'⟩
    · rw [upd_ne hb]; exact st.nx0.alive b o h no
  · obtain ⟨e2, k⟩ := st.nx0.qt h
    exact ⟨e2, fun b hb o h => hneL b o (k b hb o h) (nreg b (e2 ▸ hb))⟩
  · by_cases hj : i = j
    · subst hj
      rw [List.getElem?_set, if_pos rfl, if_pos hl] at ej
      cases ej
      exact ⟨.ref a, ea, ⟨a, rfl, hr.1, hr.2.1, u⟩, .inr rfl⟩
    · rw [List.getElem?_set_ne hj] at ej
      obtain ⟨v, h1, h2, h3⟩ := st.sl j y ej
      refine ⟨v, h1, ?_, h3⟩
      obtain ⟨m, d⟩ := y
      rcases h3 with z | z
      · simp only at z; subst z; exact h2
      · simp only at z; subst z
        obtain ⟨b, eb, g, nr, un⟩ := h2
        subst eb
        exact ⟨b, rfl, g, nr, un.move (fun _ _ h => h) (List.prefix_refl _) fun o h => hneL b o h fun z => hj (st.ap i j x _ a ei ej hm rfl ea (by rw [h1, z]))⟩
  · by_cases hj : i = j
    · subst hj
      rw [ea] at eb
      cases eb
      exact e0
    · rw [List.getElem?_set_ne hj] at ej
      exact st.own j y b ej hy eb
  · by_cases hj : i = j
    · subst hj
      by_cases hk : i = l
      · exact hk
      · rw [List.getElem?_set_ne hk] at el
        rw [ea] at bj
        cases bj
        exact st.ap i l x z a ei el hm hz ea bl
    · by_cases hk : i = l
      · subst hk
        rw [List.getElem?_set_ne hj] at ej
        rw [ea] at bl
        cases bl
        exact st.ap j i y x a ej ei hy hm bj ea
      · rw [List.getElem?_set_ne hj] at ej
        rw [List.getElem?_set_ne hk] at el
        exact st.ap j l y z b ej el hy hz bj bl
/-- the list that slot i owns -/
def ownL (ρ : Env) (i : Nat) : Option (List D) := match ρ[i]? with
  | some (some ⟨.nw, .lst ds⟩) => some ds
  | _ => none
theorem ownL_of {ρ : Env} {i : Nat} {ds : List D} (h : ownL ρ i = some ds) : ρ[i]? = some (some ⟨.nw, .lst ds⟩) := by
  unfold ownL at h
  split at h
  · rename_i ds' e
    cases h
    exact e
  · cases h
theorem St.list {K : PySem.W.Frag} {C : Ca} {e : En} {σ : L2.St} {H G : Hp} {ws : Ws} {ρ : Env} {w : W} {i : Nat} {ds : List D} (st : St K C e σ H G ws ρ w) (h : ρ[i]? = some (some ⟨.nw, .lst ds⟩)) : ∃ a vs, σ[i]? = some (some (.ref a)) ∧ H a = some (.lst vs) ∧ Reps K G (io ws) vs ds ∧ G a = none ∧ a ∉ regs ws := by
  obtain ⟨v, e1, r, _⟩ := st.sl i _ h
  obtain ⟨a, rfl, g, nr, u⟩ := r
  cases u with
  | lst q r => exact ⟨a, _, e1, q, r, g, nr⟩
/-- xs.append(e) -/
def sApp (i : Nat) (f : DE) : DS := fun ρ w => match ownL ρ i with
  | some ds => (f ρ w).thn ρ fun x w => if keepM x ∧ ds.length < sizeLine then .next (ρ.set i (some ⟨.nw, .lst (ds ++ [x.d])⟩)) w else .bad
  | none => .bad
/-- a value frozen within a body -/
theorem St.frzV {e : En} {σ : L2.St} {H G : Hp} {ws : Ws} {ρ : Env} {w : W} {H1 G1 : Hp} {ws1 : Ws} {w1 : W} {v : V} {x : Val} (st : St P.K P.C e σ H G ws ρ w) (n : Nx P.K P.C G H ws G1 H1 ws1 w1) (r : RV P.K G1 H1 ws1 v x) (k : NewOk H v x) (hm : keepM x = true) :
    ∃ G2, Same G1 G2 ∧ Nx P.K P.C G H ws G2 H1 ws1 w1 ∧ Rep P.K G2 (io ws1) v x.d := by
  obtain ⟨G2, a, b, c, _⟩ := freeze1 n r k (keepM_of hm)
  exact ⟨G2, a, b, c⟩
theorem ev_app {i : Nat} (ha : EvE P H0 Wi ta fa) : EvS P H0 Wi (tDrop (tBM P.K "list" rAppend (tVar i) (tCons ta tNil))) (sApp i fa) := by
  intro σ H G ws ρ w D st h
  unfold sApp at h
  cases eo : ownL ρ i with
  | none => rw [eo] at h; exact h.elim
  | some ds =>
    rw [eo] at h
    dsimp only at h
    have ei := ownL_of eo
    obtain ⟨a, vs, ea, hH, _, _, _⟩ := st.list ei
    refine ⟨.ref a, ea, .inl ⟨rfl, vs, SqL.of hH⟩, ?_⟩
    refine ha σ H G ws ρ w _ st (postE_of st h fun x w' _ h v H1 G1 ws1 n r k => ?_)
    split at h
    · rename_i hc
      obtain ⟨G2, sg, n2, rp⟩ := st.frzV n r k hc.1
      have st2 := st.next n2
      obtain ⟨a2, vs2, ea2, hH2, rs2, _, _⟩ := st2.list ei
      rw [ea] at ea2
      cases ea2
      exact ⟨a, vs2, v, rfl, rfl, hH2, by rw [rs2.length]; exact hc.2, h σ _ G2 ws1 (st2.mut ei rfl ea ⟨_, hH2, trivial⟩ trivial (.lst upd_same (rs2.append (.cons rp .nil)))) n2.mon⟩
    · exact h.elim
/-- xs.extend(e), e a list -/
def sExt (i : Nat) (f : DE) : DS := fun ρ w => match ownL ρ i with
  | some ds => (f ρ w).thn ρ fun x w => match x.d with
    | .lst es => if ds.length + es.length ≤ sizeLine then .next (ρ.set i (some ⟨.nw, .lst (ds ++ es)⟩)) w else .bad
    | _ => .bad
  | none => .bad
theorem ev_ext {i : Nat} (ha : EvE P H0 Wi ta fa) : EvS P H0 Wi (tDrop (tBM P.K "list" rExtend (tVar i) (tCons ta tNil))) (sExt i fa) := by
  intro σ H G ws ρ w D st h
  unfold sExt at h
  cases eo : ownL ρ i with
  | none => rw [eo] at h; exact h.elim
  | some ds =>
    rw [eo] at h
    dsimp only at h
    have ei := ownL_of eo
    obtain ⟨a, vs, ea, hH, _, _, _⟩ := st.list ei
    refine ⟨.ref a, ea, .inl ⟨rfl, vs, SqL.of hH⟩, ?_⟩
    refine ha σ H G ws ρ w _ st (postE_of st h fun x w' _ h v H1 G1 ws1 n r k => ?_)
    obtain ⟨m, d⟩ := x
    cases d <;> try exact h.elim
    rename_i es
    obtain ⟨b, us, rfl, hb, rs⟩ := rv_lst n.sub r
    dsimp only at h
    split at h
    · rename_i hc
      have st2 := st.next n
      obtain ⟨a2, vs2, ea2, hH2, rs2, _, _⟩ := st2.list ei
      rw [ea] at ea2
      cases ea2
      exact ⟨a, b, vs2, us, rfl, rfl, hH2, hb, by rw [rs2.length, rs.length]; exact hc, h σ _ G1 ws1 (st2.mut ei rfl ea ⟨_, hH2, trivial⟩ trivial (.lst upd_same (rs2.append rs))) n.mon⟩
    · exact h.elim
/-- xs[k] = e -/
def sPut (i : Nat) (fk fv : DE) : DS := fun ρ w => (fv ρ w).thn ρ fun x w => match ownL ρ i with
  | some ds => if keepM x then (fk ρ w).thn ρ fun k w => match k.d with
    | .int j => match ixN ds.length j with
      | some n => .next (ρ.set i (some ⟨.nw, .lst (ds.set n x.d)⟩)) w
      | none => .bad
    | _ => .bad
    else .bad
  | none => .bad
end
end DL
namespace DL
open PySem L2
/-! ### what is walked -/
structure ItOk (P : Pm) (J : It) (Ok : Hp → Hp → Ws → Prop) (ds : List D) : Prop where
  go : ∀ G H ws (i : Nat) d, Ok G H ws → ds[i]? = some d → J.go i H
  yl : ∀ G H ws w (i : Nat) d x H', Ok G H ws → Sm G H → RelW P.K P.C G H ws w → ds[i]? = some d → J.yld i H x H' → ∃ G', Nx P.K P.C G H ws G' H' ws w ∧ Rep P.K G' (io ws) x d
  st : ∀ G H ws, Ok G H ws → J.stop ds.length H
def OkF (G1 : Hp) (ws1 : Ws) : Hp → Hp → Ws → Prop := fun G H ws => Same G1 G ∧ Sm G H ∧ io ws1 <+: io ws
def OkQ (P : Pm) (G1 H1 : Hp) (ws1 : Ws) : Hp → Hp → Ws → Prop := fun G H ws => ∃ w, Nx P.K P.C G1 H1 ws1 G H ws w ∧ ws.n = ws1.n
/-- frozen, or only as long as nothing is stored -/
def OkA (P : Pm) (fr : Bool) (G1 H1 : Hp) (ws1 : Ws) : Hp → Hp → Ws → Prop := if fr then OkF G1 ws1 else OkQ P G1 H1 ws1
abbrev DI := Env → W → R (List D × Bool)
def PostI (P : Pm) (E : Value → Option Addr → Hp → Prop) (H G : Hp) (ws : Ws) (Q : It → Hp → Prop) : R (List D × Bool) → Prop
  | .ok x w' => ∀ J H' G' ws', Nx P.K P.C G H ws G' H' ws' w' → ItOk P J (OkA P x.2 G' H' ws') x.1 → Q J H'
  | .ex x w' => ∀ cls d H' G' ws', Nx P.K P.C G H ws G' H' ws' w' → XRel P.K P.cm G' H' (io ws') x cls d → E cls d H'
  | .bad => False
def EvI (P : Pm) (H0 : En) (Wi : WX) (ti : TI) (f : DI) : Prop := ∀ σ H G ws ρ w (Q : It → Hp → Prop), St P.K P.C H0 σ H G ws ρ w → PostI P (fun c d H' => Wi c d σ H') H G ws Q (f ρ w) → ti σ H Q
section
variable {P : Pm} {H0 : En} {Wi : WX} {ta tb tc : TE} {fa fb fc : DE} {ts us : TS} {gs hs : DS} {tr : TA} {fr : DA}
/-- a list that is seen in every state that counts -/
theorem itl_ok {Ok : Hp → Hp → Ws → Prop} {a : Addr} {vs : List V} {ds : List D} (h : ∀ G H ws, Ok G H ws → SqL P.K H a vs ∧ Reps P.K G (io ws) vs ds) : ItOk P (Itl P.K a) Ok ds where
  go := fun G H ws i d ok e => by
    obtain ⟨h1, h2⟩ := h G H ws ok
    obtain ⟨v, hv, _⟩ := h2.getD e
    exact ⟨vs, v, h1, hv⟩
  yl := fun G H ws w i d x H' ok s r e y => by
    obtain ⟨h1, h2⟩ := h G H ws ok
    obtain ⟨v, hv, rp⟩ := h2.getD e
    obtain ⟨rfl, y⟩ := y
    have := y vs h1
    rw [hv] at this
    cases this
    exact ⟨G, Nx.refl s r, rp⟩
  st := fun G H ws ok => by
    obtain ⟨h1, h2⟩ := h G H ws ok
    exact ⟨vs, h1, by rw [h2.length]; exact Nat.le_refl _⟩
theorem itt_ok {Ok : Hp → Hp → Ws → Prop} {a : Addr} {vs : List V} {ds : List D} (h : ∀ G H ws, Ok G H ws → SqT P.K H a vs ∧ Reps P.K G (io ws) vs ds) : ItOk P (Itt P.K a) Ok ds where
  go := fun G H ws i d ok e => by
    obtain ⟨h1, h2⟩ := h G H ws ok
    obtain ⟨v, hv, _⟩ := h2.getD e
    exact ⟨vs, v, h1, hv⟩
  yl := fun G H ws w i d x H' ok s r e y => by
    obtain ⟨h1, h2⟩ := h G H ws ok
    obtain ⟨v, hv, rp⟩ := h2.getD e
    obtain ⟨rfl, y⟩ := y
    have := y vs h1
    rw [hv] at this
    cases this
    exact ⟨G, Nx.refl s r, rp⟩
  st := fun G H ws ok => by
    obtain ⟨h1, h2⟩ := h G H ws ok
    exact ⟨vs, h1, by rw [h2.length]; exact Nat.le_refl _⟩
/-- i, x of enumerate -/
def enumD : Nat → List D → List D
  | _, [] => []
  | i, d :: r => .tup [.int i, d] :: enumD (i + 1) r
theorem enumD_get : ∀ (ds : List D) (k i : Nat) (d : D), (enumD k ds)[i]? = some d → ∃ d', ds[i]? = some d' ∧ d = .tup [.int ((k + i : Nat) : Int), d']
  | [], _, _, _, h => by simp [enumD] at h
  | x :: r, k, 0, d, h => by simp [enumD] at h; subst h; exact ⟨x, rfl, rfl⟩
  | x :: r, k, i + 1, d, h => by
    obtain ⟨d', h1, h2⟩ := enumD_get r (k + 1) i d (by simpa [enumD] using h)
    refine ⟨d', by simpa using h1, ?_⟩
    rw [h2]
    congr 3
    omega
theorem enumD_len : ∀ (ds : List D) (k : Nat), (enumD k ds).length = ds.length
  | [], _ => rfl
  | x :: r, k => by simp [enumD, enumD_len r]
theorem ite_ok {Ok : Hp → Hp → Ws → Prop} {a : Addr} {vs : List V} {ds : List D} (h : ∀ G H ws, Ok G H ws → SqL P.K H a vs ∧ Reps P.K G (io ws) vs ds) : ItOk P (Ite P.K a) Ok (enumD 0 ds) where
  go := fun G H ws i d ok e => by
    obtain ⟨h1, h2⟩ := h G H ws ok
    obtain ⟨d', e1, _⟩ := enumD_get ds 0 i d e
    obtain ⟨v, hv, _⟩ := h2.getD e1
    exact ⟨vs, v, h1, hv⟩
  yl := fun G H ws w i d x H' ok s r e y => by
    obtain ⟨h1, h2⟩ := h G H ws ok
    obtain ⟨d', e1, rfl⟩ := enumD_get ds 0 i d e
    obtain ⟨v, hv, rp⟩ := h2.getD e1
    obtain ⟨T, u, rfl, hT, rfl, y⟩ := y
    have := y vs h1
    rw [hv] at this
    cases this
    have n := Nx.put s r (o := .tup [.int (i : Nat), v]) hT
    refine ⟨_, n, .tup (.inl (.inl upd_same)) (.cons ?_ (.cons (rp.mono n.gg (List.prefix_refl _)) .nil))⟩
    rw [Nat.zero_add]
    exact .int _
  st := fun G H ws ok => by
    obtain ⟨h1, h2⟩ := h G H ws ok
    exact ⟨vs, h1, by rw [h2.length, enumD_len]; exact Nat.le_refl _⟩
/-- a value's list, as it is walked -/
theorem rv_walk {H G H1 G1 : Hp} {ws ws1 : Ws} {w1 : W} {v : V} {m : Md} {ds : List D} (n : Nx P.K P.C G H ws G1 H1 ws1 w1) (r : RV P.K G1 H1 ws1 v ⟨m, .lst ds⟩) (k : NewOk H v ⟨m, .lst ds⟩) :
    ∃ a vs G2, v = .ref a ∧ H1 a = some (.lst vs) ∧ Nx P.K P.C G H ws G2 H1 ws1 w1 ∧ ∀ G' H' ws', OkA P (keepM ⟨m, .lst ds⟩) G2 H1 ws1 G' H' ws' → SqL P.K H' a vs ∧ Reps P.K G' (io ws') vs ds := by
  have fin : (m = .fz ∨ m = .nw) → ∃ a vs G2, v = .ref a ∧ H1 a = some (.lst vs) ∧ Nx P.K P.C G H ws G2 H1 ws1 w1 ∧ ∀ G' H' ws', OkF G2 ws1 G' H' ws' → SqL P.K H' a vs ∧ Reps P.K G' (io ws') vs ds := fun hm => by
    obtain ⟨G2, sg, n2, rp, _⟩ := freeze1 n r k hm
    cases rp with
    | lst q r2 => exact ⟨_, _, G2, rfl, n2.sub.eq q, n2, fun G' H' ws' ⟨s1, s2, io⟩ => ⟨SqL.of (s2.eq (s1 _ _ q)), r2.mono s1 io⟩⟩
  cases m with
  | fz => exact fin (.inl rfl)
  | nw => exact fin (.inr rfl)
  | bo =>
    obtain ⟨a, rfl, g, nr, u⟩ := r
    cases u with
    | lst q r2 =>
      refine ⟨a, _, G1, rfl, q, n, fun G' H' ws' ok => ?_⟩
      obtain ⟨w', n', _⟩ : OkQ P G1 H1 ws1 G' H' ws' := ok
      exact ⟨SqL.of (n'.keep _ _ (.inl q) nt_lst nr).eq, r2.mono n'.gg n'.io⟩
  | wd =>
    obtain ⟨a, rfl, g, hr, u⟩ := r
    cases u with
    | lst q r2 =>
      refine ⟨a, _, G1, rfl, q, n, fun G' H' ws' ok => ?_⟩
      obtain ⟨w', n', e⟩ : OkQ P G1 H1 ws1 G' H' ws' := ok
      exact ⟨SqL.of ((n'.qt e).2 a hr _ (.inl q)).eq, r2.mono n'.gg n'.io⟩
def iE (f : DE) : DI := fun ρ w => (f ρ w).bind fun x w => match x.d with
  | .lst ds => .ok (enumD 0 ds, keepM x) w
  | _ => .bad
theorem ev_iE (ha : EvE P H0 Wi ta fa) : EvI P H0 Wi (iEnum P.K (tCons ta tNil)) (iE fa) := by
  intro σ H G ws ρ w Q st h
  unfold iE at h
  refine ha σ H G ws ρ w _ st ?_
  cases e : fa ρ w with
  | bad => rw [e] at h; exact h
  | ex x w' => rw [e] at h; exact h
  | ok x w' =>
    intro v H1 G1 ws1 n1 r1 k1
    rw [e] at h
    obtain ⟨m, d⟩ := x
    cases d <;> try exact h.elim
    obtain ⟨a, vs, G2, rfl, hH, n2, hp⟩ := rv_walk n1 r1 k1
    exact ⟨a, vs, rfl, SqL.of hH, h (Ite P.K a) H1 G2 ws1 n2 (ite_ok hp)⟩
/-- range(j), range(i, j) -/
def rngD (lo : Int) (n : Nat) : List D := (List.range n).map fun (k : Nat) => .int (lo + (k : Int))
theorem itr_ok {Ok : Hp → Hp → Ws → Prop} (lo : Int) (n : Nat) : ItOk P (Itr lo n) Ok (rngD lo n) where
  go := fun G H ws i d ok e => by
    have := (List.getElem?_eq_some_iff.mp e).1
    show i < n
    simpa [rngD] using this
  yl := fun G H ws w i d x H' ok s r e y => by
    obtain ⟨rfl, rfl⟩ := y
    refine ⟨G, Nx.refl s r, ?_⟩
    have hi : i < n := by have := (List.getElem?_eq_some_iff.mp e).1; simpa [rngD] using this
    have : d = .int (lo + i) := by
      unfold rngD at e
      rw [List.getElem?_map, List.getElem?_range hi] at e
      exact (Option.some.inj e).symm
    rw [this]
    exact .int _
  st := fun G H ws ok => by
    show n ≤ (rngD lo n).length
    simp [rngD]
noncomputable def iR1 (f : DA) : DI := fun ρ w => (f ρ w).bind fun xs w => match xs with
  | [⟨_, .int j⟩] => if RO j then .ok (rngD 0 j.toNat, true) w else .bad
  | _ => .bad
noncomputable def iR2 (f : DA) : DI := fun ρ w => (f ρ w).bind fun xs w => match xs with
  | [⟨_, .int i⟩, ⟨_, .int j⟩] => if RO2 i j then .ok (rngD i (j - i).toNat, true) w else .bad
  | _ => .bad
theorem ev_iR1 (ha : EvA P H0 Wi tr fr) : EvI P H0 Wi (iRng1 tr) (iR1 fr) := by
  intro σ H G ws ρ w Q st h
  unfold iR1 at h
  refine ha σ H G ws ρ w _ st ?_
  cases e : fr ρ w with
  | bad => rw [e] at h; exact h
  | ex x w' => rw [e] at h; exact h
  | ok xs w' =>
    intro vs H1 G1 ws1 n1 r1 k1
    rw [e] at h
    match xs, r1, h with
    | [⟨m, .int j⟩], r1, h =>
      obtain ⟨v, rfl, hv⟩ := rvs1 r1
      have := rv_int hv
      subst this
      have h : PostI P (fun c d H' => Wi c d σ H') H G ws Q (if RO j then .ok (rngD 0 j.toNat, true) w' else .bad) := h
      split at h
      · rename_i hc
        exact ⟨j, rfl, hc.1, hc.2, h _ H1 G1 ws1 n1 (itr_ok 0 j.toNat)⟩
      · exact h.elim
/-- the signs of a text -/
def sgnD (x : Str) : List D := x.cps.toList.map fun c => .str ⟨#[c]⟩
theorem its_ok {Ok : Hp → Hp → Ws → Prop} (x : Str) : ItOk P (Its x) Ok (sgnD x) where
  go := fun G H ws i d ok e => by
    have := (List.getElem?_eq_some_iff.mp e).1
    show i < x.cps.size
    simpa [sgnD] using this
  yl := fun G H ws w i d v H' ok s r e y => by
    obtain ⟨rfl, c, hc, rfl⟩ := y
    refine ⟨G, Nx.refl s r, ?_⟩
    have : d = .str ⟨#[c]⟩ := by
      unfold sgnD at e
      rw [List.getElem?_map] at e
      have hc' : x.cps.toList[i]? = some c := by simpa using hc
      rw [hc'] at e
      exact (Option.some.inj e).symm
    rw [this]
    exact .str _
  st := fun G H ws ok => by
    show x.cps.size ≤ (sgnD x).length
    simp [sgnD]
/-! ### targets -/
inductive Tg where
  | nm (i : Nat) | tp (is : List Nat)
def gT (K : PySem.W.Frag) : Tg → TG
  | .nm i => gName i
  | .tp is => gTup K is.length (gNames is)
def setT : Tg → D → Env → Option Env
  | .nm i, d, ρ => some (ρ.set i (some (fz d)))
  | .tp is, .tup ds, ρ => if is.length = ds.length then some (setAll is ds ρ) else none
  | .tp _, _, _ => none
theorem ev_tg {e : En} {H G : Hp} {ws : Ws} {w : W} {σ : L2.St} {ρ ρ' : Env} {t : Tg} {v : V} {d : D} (st : St P.K P.C e σ H G ws ρ w) (r : Rep P.K G (io ws) v d) (h : setT t d ρ = some ρ') {Q : L2.St → Hp → Prop} (k : ∀ σ', St P.K P.C e σ' H G ws ρ' w → Q σ' H) : gT P.K t v σ H Q := by
  cases t with
  | nm i =>
    simp only [setT, Option.some.injEq] at h
    subst h
    exact k _ (st.set (x := fz d) (i := i) st.nx r fz_nw (.inl rfl))
  | tp is =>
    cases r <;> try (simp [setT] at h; done)
    rename_i a vs ds q rs
    simp only [setT] at h
    split at h
    · rename_i hl
      cases h
      exact ⟨a, vs, rfl, st.sub.sqT q, by rw [rs.length, hl], St.setAll st rs hl _ k⟩
    · cases h
/-! ### for -/
/-- the rest of a loop -/
def forL (t : Tg) (b : DS) : List D → Env → W → Out
  | [], ρ, w => .next ρ w
  | d :: ds, ρ, w => match setT t d ρ with
    | none => .bad
    | some ρ' => match b ρ' w with
      | .next ρ2 w2 => forL t b ds ρ2 w2
      | .cont ρ2 w2 => forL t b ds ρ2 w2
      | .brk ρ2 w2 => .next ρ2 w2
      | o => o
def sFor (f : DI) (t : Tg) (b : DS) : DS := fun ρ w => (f ρ w).thn ρ fun x w => if x.2 then forL t b x.1 ρ w else .bad
theorem ev_for {ti : TI} {fi : DI} {t : Tg} (hi : EvI P H0 Wi ti fi) (hb : EvS P H0 Wi ts gs) : EvS P H0 Wi (tFor ti (gT P.K t) ts) (sFor fi t gs) := by
  intro σ H G ws ρ w D st h
  unfold sFor at h
  refine hi σ H G ws ρ w _ st ?_
  cases e : fi ρ w with
  | bad => rw [e] at h; exact h
  | ex x w' => rw [e] at h; exact fun cls d H' G' ws' n hx => h cls d σ H' G' ws' (st.next n) hx
  | ok x w' =>
    intro J H1 G1 ws1 n1 ok
    rw [e] at h
    obtain ⟨ds, fr⟩ := x
    have h : PostS P H0 Wi D G ws (if fr = true then forL t gs ds ρ w' else .bad) := h
    cases fr with
    | false => exact h.elim
    | true =>
      have h : PostS P H0 Wi D G1 ws1 (forL t gs ds ρ w') := PostS.after n1.mon h
      have ok : ItOk P J (OkF G1 ws1) ds := ok
      -- the invariant: what is left to be run ends as the whole does
      refine ⟨fun i m σ' H' => m = ds.length - i ∧ i ≤ ds.length ∧ ∃ G' ws' ρ' w2, St P.K P.C H0 σ' H' G' ws' ρ' w2 ∧ Mon G1 ws1 G' ws' ∧ PostS P H0 Wi D G' ws' (forL t gs (ds.drop i) ρ' w2), ⟨ds.length, by simp, Nat.zero_le _, G1, ws1, ρ, w', st.next n1, .refl, h⟩, ?_⟩
      rintro i m σ' H' ⟨rfl, hi, G', ws', ρ', w2, st', mo, hp⟩
      by_cases hlt : i < ds.length
      · have ed : ds[i]? = some ds[i] := by simp [hlt]
        have edrop : ds.drop i = ds[i] :: ds.drop (i + 1) := List.drop_eq_getElem_cons hlt
        rw [edrop] at hp
        simp only [forL] at hp
        refine .inr ⟨ok.go G' H' ws' i _ ⟨mo.1, st'.sub, mo.2.1⟩ ed, fun σ3 H3 => ds.length - (i + 1) = ds.length - (i + 1) ∧ i + 1 ≤ ds.length ∧ ∃ G' ws' ρ' w2, St P.K P.C H0 σ3 H3 G' ws' ρ' w2 ∧ Mon G1 ws1 G' ws' ∧ PostS P H0 Wi D G' ws' (forL t gs (ds.drop (i + 1)) ρ' w2), fun σ3 H3 hn => ⟨ds.length - (i + 1), by omega, hn⟩, fun v H2 y => ?_⟩
        obtain ⟨G2, n2, rp⟩ := ok.yl G' H' ws' w2 i _ v H2 ⟨mo.1, st'.sub, mo.2.1⟩ st'.sub st'.rw ed y
        cases es : setT t ds[i] ρ' with
        | none => rw [es] at hp; exact hp.elim
        | some ρ3 =>
          rw [es] at hp
          dsimp only at hp
          refine ev_tg (st'.next n2) rp es fun σ3 st3 => ?_
          refine hb σ3 H2 G2 ws' ρ3 w2 _ st3 ?_
          have mo2 : Mon G1 ws1 G2 ws' := mo.trans n2.mon
          cases eb : gs ρ3 w2 with
          | bad => rw [eb] at hp; exact hp
          | ex x ρ4 w4 => rw [eb] at hp; exact hp
          | ret x w4 => rw [eb] at hp; exact hp
          | brk ρ4 w4 =>
            rw [eb] at hp
            exact fun σ4 H4 G4 ws4 st4 m4 => hp σ4 H4 G4 ws4 st4 (n2.mon.trans m4)
          | next ρ4 w4 =>
            rw [eb] at hp
            exact fun σ4 H4 G4 ws4 st4 m4 => ⟨rfl, hlt, G4, ws4, ρ4, w4, st4, mo2.trans m4, PostS.after (n2.mon.trans m4) hp⟩
          | cont ρ4 w4 =>
            rw [eb] at hp
            exact fun σ4 H4 G4 ws4 st4 m4 => ⟨rfl, hlt, G4, ws4, ρ4, w4, st4, mo2.trans m4, PostS.after (n2.mon.trans m4) hp⟩
      · have ei : i = ds.length := by omega
        subst ei
        refine .inl ⟨ok.st G' H' ws' ⟨mo.1, st'.sub, mo.2.1⟩, ?_⟩
        rw [List.drop_length] at hp
        exact hp σ' H' G' ws' st' .refl
end
end DL
namespace DL
open PySem L2
section
variable {P : Pm} {H0 : En} {Wi : WX} {ta tb tc : TE} {fa fb fc : DE} {ts us : TS} {gs hs : DS} {tA : TT} {fA : DT}
theorem ItOk.weak {J : It} {fr : Bool} {G1 H1 : Hp} {ws1 : Ws} {ds : List D} (h : ItOk P J (OkA P fr G1 H1 ws1) ds) : ItOk P J (OkQ P G1 H1 ws1) ds := by
  cases fr with
  | false => exact h
  | true =>
    have h : ItOk P J (OkF G1 ws1) ds := h
    have go : ∀ {G H ws}, OkQ P G1 H1 ws1 G H ws → OkF G1 ws1 G H ws := fun ⟨w, n, _⟩ => ⟨n.gg, n.sub, n.io⟩
    exact ⟨fun G H ws i d ok => h.go G H ws i d (go ok), fun G H ws w i d x H' ok => h.yl G H ws w i d x H' (go ok), fun G H ws ok => h.st G H ws (go ok)⟩
/-! ### comprehensions -/
def wipeD (ρ : Env) : List Nat → Env
  | [] => ρ
  | v :: vs => (wipeD ρ vs).set v none
theorem St.drop {K : PySem.W.Frag} {C : Ca} {e : En} {σ : L2.St} {H G : Hp} {ws : Ws} {ρ : Env} {w : W} (st : St K C e σ H G ws ρ w) (i : Nat) : St K C e (σ.set i none) H G ws (ρ.set i none) w := by
  have key : ∀ {j : Nat} {x : Val}, (ρ.set i none)[j]? = some (some x) → ρ[j]? = some (some x) ∧ i ≠ j := fun {j x} h => by
    by_cases hj : i = j
    · subst hj
      rw [List.getElem?_set, if_pos rfl] at h
      split at h <;> cases h
    · rw [List.getElem?_set_ne hj] at h
      exact ⟨h, hj⟩
  refine ⟨st.nx0, by rw [List.length_set, List.length_set]; exact st.len, fun j x h => ?_, fun j x a h hm ea => ?_, fun j l x y a hj hl hx hy aj al => ?_⟩
  · obtain ⟨h1, h2⟩ := key h
    rw [List.getElem?_set_ne h2]
    exact st.sl j x h1
  · obtain ⟨h1, h2⟩ := key h
    rw [List.getElem?_set_ne h2] at ea
    exact st.own j x a h1 hm ea
  · obtain ⟨h1, h2⟩ := key hj
    obtain ⟨h3, h4⟩ := key hl
    rw [List.getElem?_set_ne h2] at aj
    rw [List.getElem?_set_ne h4] at al
    exact st.ap j l x y a h1 h3 hx hy aj al
theorem St.wipe {K : PySem.W.Frag} {C : Ca} {e : En} {σ : L2.St} {H G : Hp} {ws : Ws} {ρ : Env} {w : W} (st : St K C e σ H G ws ρ w) : ∀ vs : List Nat, St K C e (L2.wipe σ vs) H G ws (wipeD ρ vs) w
  | [] => st
  | v :: vs => (St.wipe st vs).drop v
/-- what is stored into slots of vs does not count behind wipe -/
theorem wipe_set {σ : L2.St} {i : Nat} {x : Option V} : ∀ {vs : List Nat}, i ∈ vs → L2.wipe (σ.set i x) vs = L2.wipe σ vs
  | v :: vs, h => by
    unfold L2.wipe
    by_cases e : i = v
    · subst e
      by_cases hm : i ∈ vs
      · rw [wipe_set hm]
      · have go : ∀ (ws : List Nat), i ∉ ws → L2.wipe (σ.set i x) ws = (L2.wipe σ ws).set i x := by
          intro ws
          induction ws with
          | nil => intro _; rfl
          | cons u us ih =>
            intro hn
            unfold L2.wipe
            rw [ih (fun z => hn (List.mem_cons_of_mem _ z)), List.set_comm]
            intro z
            exact hn (by rw [z]; exact List.mem_cons_self)
        rw [go vs hm]
        simp
    · rw [wipe_set ((List.mem_cons.mp h).resolve_left e)]
theorem wipe_wipe {σ : L2.St} : ∀ (us vs : List Nat), (∀ i ∈ us, i ∈ vs) → L2.wipe (L2.wipe σ us) vs = L2.wipe σ vs
  | [], _, _ => rfl
  | u :: us, vs, h => by
    show L2.wipe ((L2.wipe σ us).set u none) vs = _
    rw [wipe_set (h u List.mem_cons_self)]
    exact wipe_wipe us vs fun i hi => h i (List.mem_cons_of_mem _ hi)
def tgs : Tg → List Nat
  | .nm i => [i]
  | .tp is => is
theorem gNames_w {is : List Nat} {σ : L2.St} {H : Hp} {Q : L2.St → Hp → Prop} {vs : List Nat} : ∀ {us : List V}, (∀ i ∈ is, i ∈ vs) → gNames is us σ H Q → gNames is us σ H (fun σ' H' => L2.wipe σ' vs = L2.wipe σ vs ∧ Q σ' H') := by
  induction is generalizing σ with
  | nil => intro us _ h; exact ⟨h.1, rfl, h.2⟩
  | cons i is ih =>
    intro us hs h
    obtain ⟨v, r, e, h⟩ := h
    refine ⟨v, r, e, ?_⟩
    have := ih (σ := σ.set i (some v)) (us := r) (fun j hj => hs j (List.mem_cons_of_mem _ hj)) h
    rw [wipe_set (hs i List.mem_cons_self)] at this
    exact this
theorem gT_w {K : PySem.W.Frag} {t : Tg} {v : V} {σ : L2.St} {H : Hp} {Q : L2.St → Hp → Prop} {vs : List Nat} (hs : ∀ i ∈ tgs t, i ∈ vs) (h : gT K t v σ H Q) : gT K t v σ H (fun σ' H' => L2.wipe σ' vs = L2.wipe σ vs ∧ Q σ' H') := by
  cases t with
  | nm i => exact ⟨wipe_set (hs i (by simp [tgs])), h⟩
  | tp is =>
    obtain ⟨a, xs, e, q, l, h⟩ := h
    exact ⟨a, xs, e, q, l, gNames_w hs h⟩
/-- the rest of a comprehension: what it makes; the world stays -/
def lcL (t : Tg) (c : DT) (f : DE) : List D → Env → W → R (List D)
  | [], _, w => .ok [] w
  | d :: ds, ρ, w => match setT t d ρ with
    | none => .bad
    | some ρ' => match c ρ' w with
      | .ok b w2 => if w2.n = w.n then (if b then (match f ρ' w2 with
        | .ok x w3 => if keepM x ∧ w3.n = w.n then (match lcL t c f ds ρ w3 with
          | .ok r w4 => .ok (x.d :: r) w4
          | _ => .bad) else .bad
        | _ => .bad) else lcL t c f ds ρ w2) else .bad
      | _ => .bad
def tYesD : DT := fun _ w => .ok true w
def dLc (fi : DI) (t : Tg) (c : DT) (f : DE) (vs : List Nat) : DE := fun ρ w => (fi ρ w).bind fun x w1 => if x.1.length ≤ sizeLine then (match lcL t c f x.1 (wipeD ρ vs) w1 with
  | .ok r w2 => .ok ⟨.nw, .lst r⟩ w2
  | _ => .bad) else .bad
theorem ev_lc {ti : TI} {fi : DI} {t : Tg} {vs : List Nat} (hi : EvI P H0 Wi ti fi) (hc : EvT P H0 (fun _ _ _ _ => False) tA fA) (he : EvE P H0 (fun _ _ _ _ => False) ta fa) (hv : ∀ i ∈ tgs t, i ∈ vs) : EvE P H0 Wi (tLc ti (gT P.K t) tA ta vs) (dLc fi t fA fa vs) := by
  intro σ H G ws ρ w Q st h
  unfold dLc at h
  refine hi σ H G ws ρ w _ st ?_
  cases e : fi ρ w with
  | bad => rw [e] at h; exact h
  | ex x w' => rw [e] at h; exact h
  | ok x w' =>
    intro J H1 G1 ws1 n1 ok D hD
    rw [e] at h
    obtain ⟨ds, fr⟩ := x
    have ok := ok.weak
    have h : PostE P (fun c d H' => Wi c d σ H') H G ws Q (if ds.length ≤ sizeLine then (match lcL t fA fa ds (wipeD ρ vs) w' with | .ok r w2 => .ok ⟨.nw, .lst r⟩ w2 | _ => .bad) else .bad) := h
    have hsz : ds.length ≤ sizeLine := Classical.byContradiction fun hsz => by rw [if_neg hsz] at h; exact h
    rw [if_pos hsz] at h
    cases er : lcL t fA fa ds (wipeD ρ vs) w' with
    | bad => rw [er] at h; exact h.elim
    | ex x w2 => rw [er] at h; exact h.elim
    | ok r w2 =>
      rw [er] at h
      dsimp only at h
      have gD : G1 D = none := n1.sub.free hD
      -- the invariant
      refine ⟨fun i m H' => m = ds.length - i ∧ i ≤ ds.length ∧ ∃ G' ws' w3 acc made rest, Nx P.K P.C G1 H1 ws1 G' H' ws' w3 ∧ ws'.n = ws1.n ∧ H' D = some (.lst acc) ∧ G' D = none ∧ D ∉ regs ws' ∧ acc.length ≤ i ∧ Reps P.K G' (io ws') acc made ∧ lcL t fA fa (ds.drop i) (wipeD ρ vs) w3 = .ok rest w2 ∧ made ++ rest = r, ⟨ds.length, by simp, Nat.zero_le _, G1, ws1, w', [], [], r, Nx.new n1.sub n1.rw hD, rfl, upd_same, gD, fun hr => ?_, Nat.le_refl _, .nil, er, rfl⟩, ?_⟩
      · obtain ⟨o, e, _⟩ := reg_there n1.rw hr
        rw [hD] at e; cases e
      rintro i m H' ⟨rfl, hi, G', ws', w3, acc, made, rest, n, cnt, hDD, gD', rD', hacc, rs, el, em⟩
      have stw : St P.K P.C H0 (L2.wipe σ vs) H' G' ws' (wipeD ρ vs) w3 := ((st.next n1).next n).wipe vs
      have okq : OkQ P G1 H1 ws1 G' H' ws' := ⟨w3, n, cnt⟩
      by_cases hlt : i < ds.length
      · have ed : ds[i]? = some ds[i] := by simp [hlt]
        have edrop : ds.drop i = ds[i] :: ds.drop (i + 1) := List.drop_eq_getElem_cons hlt
        rw [edrop] at el
        simp only [lcL] at el
        cases es : setT t ds[i] (wipeD ρ vs) with
        | none => rw [es] at el; cases el
        | some ρ' =>
          rw [es] at el
          dsimp only at el
          refine .inr ⟨ok.go G' H' ws' i _ okq ed, fun H'' => i + 1 ≤ ds.length ∧ ∃ G' ws' w3 acc made rest, Nx P.K P.C G1 H1 ws1 G' H'' ws' w3 ∧ ws'.n = ws1.n ∧ H'' D = some (.lst acc) ∧ G' D = none ∧ D ∉ regs ws' ∧ acc.length ≤ i + 1 ∧ Reps P.K G' (io ws') acc made ∧ lcL t fA fa (ds.drop (i + 1)) (wipeD ρ vs) w3 = .ok rest w2 ∧ made ++ rest = r, fun H'' hn => ⟨ds.length - (i + 1), by omega, rfl, hn⟩, fun v H2 y => ?_⟩
          obtain ⟨G2, n2, rp⟩ := ok.yl G' H' ws' w3 i _ v H2 okq stw.sub stw.rw ed y
          have hg := ev_tg (stw.next n2) rp es (Q := fun σ2 _ => St P.K P.C H0 σ2 H2 G2 ws' ρ' w3) fun σ2 st2 => st2
          have hg := gT_w hv hg
          have mono : ∀ {v : V} {σ0 : L2.St} {H0' : Hp} {Q1 Q2 : L2.St → Hp → Prop}, (∀ s, Q1 s H0' → Q2 s H0') → gT P.K t v σ0 H0' Q1 → gT P.K t v σ0 H0' Q2 := by
            intro v σ0 H0' Q1 Q2 hq hh
            cases t with
            | nm j => exact hq _ hh
            | tp is =>
              obtain ⟨a, xs, e, q, l, hh⟩ := hh
              refine ⟨a, xs, e, q, l, ?_⟩
              have go : ∀ (is : List Nat) (xs : List V) (σ0 : L2.St), gNames is xs σ0 H0' Q1 → gNames is xs σ0 H0' Q2 := by
                intro is
                induction is with
                | nil => intro xs σ0 hh; exact ⟨hh.1, hq _ hh.2⟩
                | cons j js ih =>
                  intro xs σ0 hh
                  obtain ⟨v, r, e, hh⟩ := hh
                  exact ⟨v, r, e, ih _ _ hh⟩
              exact go is xs σ0 hh
          refine mono (fun σ2 hσ => ?_) hg
          obtain ⟨hw, st2⟩ := hσ
          refine ⟨by rw [hw]; exact wipe_wipe vs vs fun _ h => h, ?_⟩
          refine hc σ2 H2 G2 ws' ρ' w3 _ st2 ?_
          cases ec : fA ρ' w3 with
          | bad => rw [ec] at el; cases el
          | ex x w4 => rw [ec] at el; cases el
          | ok b w4 =>
            rw [ec] at el
            dsimp only at el
            intro H3 G3 ws3 n3
            have hn4 : w4.n = w3.n := Classical.byContradiction fun z => by rw [if_neg z] at el; cases el
            rw [if_pos hn4] at el
            have n23 := n2.trans n3
            have c3 : ws3.n = ws1.n := (n23.same stw.rw hn4).trans cnt
            have d3 : H3 D = some (.lst acc) := (n23.keep D _ (.inl hDD) nt_lst rD').eq
            have g3 : G3 D = none := (n23.nocap D _ hDD nt_lst gD').resolve_right fun ⟨_, z⟩ => by rw [d3] at z; cases z
            have r3 : D ∉ regs ws3 := fun hr => by
              rcases n23.fresh D hr with z | z
              · exact rD' z
              · exact z _ hDD nt_lst
            cases b with
            | false =>
              refine iteF ?_
              exact ⟨hlt, G3, ws3, w4, acc, made, rest, n.trans n23, c3, d3, g3, r3, by omega, rs.mono n23.gg n23.io, el, em⟩
            | true =>
              refine iteT ?_
              rw [if_pos rfl] at el
              refine he σ2 H3 G3 ws3 ρ' w4 _ (st2.next n3) ?_
              cases ee : fa ρ' w4 with
              | bad => rw [ee] at el; cases el
              | ex x w5 => rw [ee] at el; cases el
              | ok x w5 =>
                rw [ee] at el
                dsimp only at el
                intro u H4 G4 ws4 n4 r4 k4
                have hx : keepM x = true ∧ w5.n = w3.n := Classical.byContradiction fun z => by rw [if_neg z] at el; cases el
                rw [if_pos hx] at el
                cases el2 : lcL t fA fa (ds.drop (i + 1)) (wipeD ρ vs) w5 with
                | bad => rw [el2] at el; cases el
                | ex z w6 => rw [el2] at el; cases el
                | ok rest' w6 =>
                  rw [el2] at el
                  simp only [R.ok.injEq] at el
                  obtain ⟨e1, rfl⟩ := el
                  have n24 := n23.trans n4
                  have nn := n.trans n24
                  have c4 : ws4.n = ws1.n := (n24.same stw.rw hx.2).trans cnt
                  have d4 : H4 D = some (.lst acc) := (n24.keep D _ (.inl hDD) nt_lst rD').eq
                  have g4 : G4 D = none := (n24.nocap D _ hDD nt_lst gD').resolve_right fun ⟨_, z⟩ => by rw [d4] at z; cases z
                  have r4' : D ∉ regs ws4 := fun hr => by
                    rcases n24.fresh D hr with z | z
                    · exact rD' z
                    · exact z _ hDD nt_lst
                  obtain ⟨G5, s5, n5, rp5, f5⟩ := freeze1 nn r4 (newOk_back (P := P) (n.trans n23) k4) (keepM_of hx.1)
                  have g5 : G5 D = none := f5 D (fun hm ev => by
                    exact k4 hm D ev _ d3 nt_lst) g4
                  refine ⟨acc, d4, by omega, hlt, G5, ws4, w5, acc ++ [u], made ++ [x.d], rest', ?_, c4, upd_same, g5, r4', by rw [List.length_append]; simp; omega, (rs.mono (n24.gg.trans s5) n24.io).append (.cons rp5 .nil), el2, by rw [← em, ← e1]; simp⟩
                  -- the list at D has grown
                  have hne : ∀ b o, H4 b = some o → b ≠ D → upd H4 D (.lst (acc ++ [u])) b = some o := fun b o h n => by rw [upd_ne n]; exact h
                  have nreg : ∀ b ∈ regs ws4, b ≠ D := fun b hb z => r4' (by rw [← z]; exact hb)
                  refine ⟨n5.gg, fun b o h => (n5.sub b o h).upd (ne_of_none h g5), ⟨paired_imp n5.rw.obs fun q o hq ⟨⟨dx, e⟩, p⟩ => ⟨⟨dx, hne _ _ e (nreg _ (regs_mem hq).1)⟩, paired_imp p fun y z hy ⟨e, f⟩ => ⟨e, f.move (fun _ _ h => h) (List.prefix_refl _) fun b o eb hb => hb.upd (nreg b ((regs_mem hq).2 b (refs_mem hy eb)))⟩⟩, n5.rw.nn, n5.rw.nd, n5.rw.out, tabs_upd n5.rw.tb d4 nt_lst (nx_cont trivial), n5.rw.nt, ul_upd n5.rw (fun _ _ h => h) (by intro _ _ h; cases h), n5.rw.lkw, lkh_cont n5.rw d4 (by intro _ _ z; cases z)⟩, fun b o h no nr => (n5.keep b o h no nr).upd (h.ne hD), fun b o h no => ?_, (fun b o h no gb => by
                    rcases n5.nocap b o h no gb with z | ⟨xs, z⟩
                    · exact .inl z
                    · by_cases hbD : b = D
                      · subst hbD; exact .inl g5
                      · exact .inr ⟨xs, by rw [upd_ne hbD]; exact z⟩), n5.io, n5.fresh, n5.le, fun h => ?_, n5.stb⟩
                  · by_cases hb : b = D
                    · rw [hb, upd_same]; exact ⟨_, rfl, nt_lst⟩
                    · rw [upd_ne hb]; exact n5.alive b o h no
                  · obtain ⟨e2, k⟩ := n5.qt h
                    exact ⟨e2, fun b hb o h => (k b hb o h).upd (h.ne hD)⟩
      · have ei : i = ds.length := by omega
        subst ei
        rw [List.drop_length] at el
        simp only [lcL, R.ok.injEq] at el
        obtain ⟨e1, rfl⟩ := el
        subst e1
        rw [List.append_nil] at em
        subst em
        refine .inl ⟨ok.st G' H' ws' okq, h (.ref D) H' G' ws' (n1.trans n) ⟨D, rfl, gD', rD', .lst hDD rs⟩ (fun _ a ea => ?_)⟩
        cases ea
        intro o q no
        obtain ⟨o', z, _⟩ := n1.alive D o q no
        rw [hD] at z; cases z
end
end DL
namespace DL
open PySem L2
section
variable {P : Pm} {H0 : En} {Wi : WX} {ta tb tc : TE} {fa fb fc : DE} {ts us : TS} {gs hs : DS} {tA : TT} {fA : DT} {tr : TA} {fr : DA}
/-! ### while -/
def whileL (c : DT) (b : DS) : Nat → Env → W → Out
  | 0, _, _ => .bad
  | n + 1, ρ, w => (c ρ w).thn ρ fun t w => if t then (match b ρ w with
    | .next ρ2 w2 => whileL c b n ρ2 w2
    | .cont ρ2 w2 => whileL c b n ρ2 w2
    | .brk ρ2 w2 => .next ρ2 w2
    | o => o) else .next ρ w
theorem ev_while {n : Nat} (hc : EvT P H0 Wi tA fA) (hb : EvS P H0 Wi ts gs) : EvS P H0 Wi (tWhile tA ts) (whileL fA gs n) := by
  intro σ H G ws ρ w D st h
  refine ⟨fun m σ' H' => ∃ G' ws' ρ' w', St P.K P.C H0 σ' H' G' ws' ρ' w' ∧ PostS P H0 Wi D G' ws' (whileL fA gs m ρ' w'), ⟨n, G, ws, ρ, w, st, h⟩, ?_⟩
  rintro m σ' H' ⟨G', ws', ρ', w', st', hp⟩
  cases m with
  | zero => exact hp.elim
  | succ m =>
    unfold whileL at hp
    refine hc σ' H' G' ws' ρ' w' _ st' (postT_of st' hp fun b w2 _ hp H1 G1 ws1 n1 => ?_)
    cases b with
    | false => exact iteF (hp σ' H1 G1 ws1 (st'.next n1) n1.mon)
    | true =>
      refine iteT ?_
      rw [if_pos rfl] at hp
      refine ⟨fun σ3 H3 => ∃ G' ws' ρ' w', St P.K P.C H0 σ3 H3 G' ws' ρ' w' ∧ PostS P H0 Wi D G' ws' (whileL fA gs m ρ' w'), fun σ3 H3 h3 => ⟨m, Nat.lt_succ_self _, h3⟩, ?_⟩
      refine hb σ' H1 G1 ws1 ρ' w2 _ (st'.next n1) ?_
      cases eb : gs ρ' w2 with
      | bad => rw [eb] at hp; exact hp
      | ex x ρ4 w4 => rw [eb] at hp; exact hp
      | ret x w4 => rw [eb] at hp; exact hp
      | brk ρ4 w4 =>
        rw [eb] at hp
        exact fun σ4 H4 G4 ws4 st4 m4 => hp σ4 H4 G4 ws4 st4 (n1.mon.trans m4)
      | next ρ4 w4 =>
        rw [eb] at hp
        exact fun σ4 H4 G4 ws4 st4 m4 => ⟨G4, ws4, ρ4, w4, st4, PostS.after (n1.mon.trans m4) hp⟩
      | cont ρ4 w4 =>
        rw [eb] at hp
        exact fun σ4 H4 G4 ws4 st4 m4 => ⟨G4, ws4, ρ4, w4, st4, PostS.after (n1.mon.trans m4) hp⟩
/-! ### a, b = x, y -/
theorem St.set' {K : PySem.W.Frag} {C : Ca} {e : En} {σ : L2.St} {H G : Hp} {ws : Ws} {ρ : Env} {w : W} {i : Nat} {v : V} {x : Val} (st : St K C e σ H G ws ρ w) (r : RV K G H ws v x) (hm : x.m = .fz ∨ x.m = .nw) (k0 : x.m = .nw → ∀ a, v = .ref a → Fr e.H a)
    (ka : x.m = .nw → ∀ (j : Nat) y, ρ[j]? = some (some y) → y.m = .nw → σ[j]? ≠ some (some v)) : St K C e (σ.set i (some v)) H G ws (ρ.set i (some x)) w := by
  refine ⟨st.nx0, by rw [List.length_set, List.length_set]; exact st.len, fun j y e => ?_, fun j y a e hy ea => ?_, fun j l y z a ej el hy hz aj al => ?_⟩
  · by_cases hj : i = j
    · subst hj
      rw [List.getElem?_set, if_pos rfl] at e ⊢
      split at e
      · rename_i hl
        rw [if_pos (by rw [st.len]; exact hl)]
        cases e
        exact ⟨v, rfl, r, hm⟩
      · cases e
    · rw [List.getElem?_set_ne hj] at e ⊢
      exact st.sl j y e
  · by_cases hj : i = j
    · subst hj
      rw [List.getElem?_set, if_pos rfl] at e ea
      split at e
      · rename_i hl
        rw [if_pos (by rw [st.len]; exact hl)] at ea
        cases e
        cases ea
        exact k0 hy a rfl
      · cases e
    · rw [List.getElem?_set_ne hj] at e ea
      exact st.own j y a e hy ea
  · by_cases hj : i = j
    · by_cases hl : i = l
      · rw [← hj, ← hl]
      · exfalso
        subst hj
        rw [List.getElem?_set_ne hl] at el al
        rw [List.getElem?_set, if_pos rfl] at ej aj
        split at ej
        · rename_i hlt
          rw [if_pos (by rw [st.len]; exact hlt)] at aj
          cases ej
          cases aj
          exact ka hy l z el hz al
        · cases ej
    · by_cases hl : i = l
      · exfalso
        subst hl
        rw [List.getElem?_set_ne hj] at ej aj
        rw [List.getElem?_set, if_pos rfl] at el al
        split at el
        · rename_i hlt
          rw [if_pos (by rw [st.len]; exact hlt)] at al
          cases el
          cases al
          exact ka hz j y ej hy aj
        · cases el
      · rw [List.getElem?_set_ne hj] at ej aj
        rw [List.getElem?_set_ne hl] at el al
        exact st.ap j l y z a ej el hy hz aj al
def setVs : List Nat → List V → L2.St → L2.St
  | i :: is, v :: vs, σ => setVs is vs (σ.set i (some v))
  | _, _, σ => σ
def setXs : List Nat → List Val → Env → Env
  | i :: is, x :: xs, ρ => setXs is xs (ρ.set i (some x))
  | _, _, ρ => ρ
theorem St.setXs {K : PySem.W.Frag} {C : Ca} {e : En} {H G : Hp} {ws : Ws} {w : W} : ∀ {is : List Nat} {vs : List V} {xs : List Val} {σ : L2.St} {ρ : Env}, St K C e σ H G ws ρ w → RVs K G H ws vs xs → NewsOk e.H vs xs → xs.all keepM = true →
    (∀ (i : Nat) x, xs[i]? = some x → x.m = .nw → ∀ (j : Nat) y v, ρ[j]? = some (some y) → y.m = .nw → vs[i]? = some v → σ[j]? ≠ some (some v)) → St K C e (setVs is vs σ) H G ws (DL.setXs is xs ρ) w
  | [], _, _, _, _, st, _, _, _, _ => st
  | _ :: _, _, _, _, _, st, .nil, _, _, _ => st
  | i :: is, _, _, σ, ρ, st, .cons (v := v) (x := x) (vs := vs) (xs := xs) r rs, k, hm, ka => by
    rw [List.all_cons, Bool.and_eq_true] at hm
    have st1 := st.set' (i := i) r (keepM_of hm.1) (fun hx a ea => k.1 hx a ea) (fun hx j y ej hy => ka 0 x rfl hx j y v ej hy rfl)
    refine St.setXs (is := is) st1 rs k.2.2 hm.2 fun l y el hy j z u ej hz eu => ?_
    by_cases hj : i = j
    · subst hj
      rw [List.getElem?_set, if_pos rfl] at ej
      split at ej
      · cases ej
        intro q
        rw [List.getElem?_set, if_pos rfl] at q
        split at q
        · cases q
          exact k.2.1 hz l y el hy eu
        · cases q
      · cases ej
    · rw [List.getElem?_set_ne hj] at ej ⊢
      exact ka (l + 1) y (by simpa using el) hy j z u ej hz (by simpa using eu)
theorem newsOk_get {H : Hp} : ∀ {vs : List V} {xs : List Val} (i : Nat) {x : Val} {a : Addr}, NewsOk H vs xs → xs[i]? = some x → x.m = .nw → vs[i]? = some (.ref a) → Fr H a
  | [], _, _, _, _, _, _, _, e => by simp at e
  | _ :: _, [], _, _, _, _, e, _, _ => by simp at e
  | _ :: _, _ :: _, 0, _, _, k, e, hm, ev => by simp at e ev; subst e ev; exact k.1 hm _ rfl
  | _ :: _, _ :: _, i + 1, _, _, k, e, hm, ev => newsOk_get i k.2.2 (by simpa using e) hm (by simpa using ev)
/-- the state behind several stores at once -/
theorem St.setAllX {e : En} {σ : L2.St} {H G : Hp} {ws : Ws} {ρ : Env} {w : W} {H1 G1 : Hp} {ws1 : Ws} {w1 : W} {vs : List V} {xs : List Val} (is : List Nat) (st : St P.K P.C e σ H G ws ρ w) (n : Nx P.K P.C G H ws G1 H1 ws1 w1) (r : RVs P.K G1 H1 ws1 vs xs) (k : NewsOk H vs xs) (hm : xs.all keepM = true) :
    St P.K P.C e (setVs is vs σ) H1 G1 ws1 (DL.setXs is xs ρ) w1 := by
  refine St.setXs (st.next n) r (newsOk_back (P := P) st.nx0 k) hm fun i x ex hx j y v ej hy ev ea => ?_
  obtain ⟨u, h1, h2, _⟩ := st.sl j y ej
  rw [ea] at h1
  cases h1
  obtain ⟨m, d⟩ := y
  simp only at hy
  subst hy
  obtain ⟨b, eb, _, _, un⟩ := h2
  subst eb
  obtain ⟨o, ho, hc⟩ := un.there
  obtain ⟨o1, e1, c1⟩ := ho.at' (nt_cont hc)
  exact newsOk_get i k ex hx ev o1 e1 c1
theorem RVs.length {K : PySem.W.Frag} {G H : Hp} {ws : Ws} : ∀ {vs : List V} {xs : List Val}, RVs K G H ws vs xs → vs.length = xs.length
  | _, _, .nil => rfl
  | _, _, .cons _ b => by rw [List.length_cons, List.length_cons, RVs.length b]
/-! ### defs -/
abbrev DF := List D → W → R Val
def spD (P : Pm) (F : DF) : Sp := fun vs H Q E => ∃ G ws w ds, Sm G H ∧ RelW P.K P.C G H ws w ∧ Reps P.K G (io ws) vs ds ∧ PostE P E H G ws Q (F ds w)
/-- a def: n parameters, N slots in all -/
def fnD (n N : Nat) (g : DS) : DF := fun ds w => if ds.length = n then (match g (ds.map (fun d => some (fz d)) ++ List.replicate (N - n) none) w with
  | .ret x w' => .ok x w'
  | .next _ w' => .ok (fz .non) w'
  | .ex x _ w' => .ex x w'
  | _ => .bad) else .bad
theorem spD_len {n N : Nat} {g : DS} {vs : List V} {H : Hp} {Q : VK} {E : XK} (h : spD P (fnD n N g) vs H Q E) : vs.length = n := by
  obtain ⟨G, ws, w, ds, _, _, r, p⟩ := h
  unfold fnD at p
  split at p
  · rename_i hl
    rw [r.length, hl]
  · exact p.elim
/-- the state at a def's entry -/
theorem st_start {G H : Hp} {ws : Ws} {w : W} {vs : List V} {ds : List D} {k : Nat} {K : PySem.W.Frag} {C : Ca} (s : Sm G H) (r : RelW K C G H ws w) (rs : Reps K G (io ws) vs ds) : St K C ⟨H, G, ws⟩ (vs.map some ++ List.replicate k none) H G ws (ds.map (fun d => some (fz d)) ++ List.replicate k none) w := by
  have key : ∀ {i : Nat} {x : Val}, (ds.map (fun d => some (fz d)) ++ List.replicate k none)[i]? = some (some x) → ∃ d v, ds[i]? = some d ∧ vs[i]? = some v ∧ x = fz d ∧ Rep K G (io ws) v d := fun {i x} h => by
    by_cases hi : i < ds.length
    · rw [List.getElem?_append_left (by simpa using hi)] at h
      rw [List.getElem?_map] at h
      obtain ⟨d, ed⟩ : ∃ d, ds[i]? = some d := ⟨ds[i], by simp [hi]⟩
      rw [ed] at h
      obtain ⟨v, ev, rp⟩ := rs.getD ed
      simp only [Option.map_some, Option.some.injEq] at h
      exact ⟨d, v, ed, ev, h.symm, rp⟩
    · rw [List.getElem?_append_right (by simp; omega)] at h
      rw [List.getElem?_replicate] at h
      split at h <;> cases h
  refine ⟨Nx.refl s r, by simp [rs.length], fun i x h => ?_, fun i x a h hm => ?_, fun i j x y a h _ hm => ?_⟩
  · obtain ⟨d, v, ed, ev, rfl, rp⟩ := key h
    refine ⟨v, ?_, rp, .inl rfl⟩
    have hi : i < vs.length := (List.getElem?_eq_some_iff.mp ev).1
    rw [List.getElem?_append_left (by simpa using hi), List.getElem?_map, ev]
    rfl
  · obtain ⟨d, v, ed, ev, rfl, rp⟩ := key h
    cases hm
  · obtain ⟨d, v, ed, ev, rfl, rp⟩ := key h
    cases hm
/-- from a body's walk to the def's promise -/
theorem def_ok {CXF : L2.CXT} {PP : Program} {w : World} {K : PySem.W.Frag} {mg : Str → Option Value} {base : Heap} {x qual : Str} {st : Stmt} {f : Addr} {fd : FuncData} {N ps : List Str} {k : Nat} {C : Ca} {cm : Cm} {g : DS} (F : Fun K x qual st f fd) (S : FnScope N ps (defScope st))
    (hb : ∀ (cdv : Value) (A : Around) (outer : List PySem.Env) (s : Shared) (H : Hp) (E : XK) (e : En), Room k (A.deeper (PyProof.Rows.envOfC qual (defScope st) s.heap.objs.size f cdv)) →
      ∃ t, PSs (cxOf CXF PP w K mg base N qual (defScope st) f cdv A outer s H E) (defBody st) t ∧ EvS ⟨K, C, cm⟩ e (fun cls d _ H' => E cls d H') t g) :
    FnOk PP w K mg base CXF (k + 1) f fd ps (spD ⟨K, C, cm⟩ (fnD ps.length N.length g)) := by
  obtain ⟨oc, od, kV, doc, pm, an, cdv, ct, osl, rfl, lk, hcd⟩ := F.ex
  refine fn_of lk hcd S (fun vs H Q E h => spD_len h) fun A outer s H vs Q E hr h => ?_
  have hl := spD_len h
  obtain ⟨G, ws, wd, ds, sm, rw, rs, p⟩ := h
  obtain ⟨t, h1, h2⟩ := hb cdv A outer s H E ⟨H, G, ws⟩ hr
  refine ⟨t, h1, ?_⟩
  unfold L2.start
  rw [hl]
  refine h2 _ H G ws (ds.map (fun d => some (fz d)) ++ List.replicate (N.length - ps.length) none) wd _ (st_start sm rw rs) ?_
  unfold fnD at p
  rw [if_pos (by rw [← rs.length]; exact hl)] at p
  cases eg : g (ds.map (fun d => some (fz d)) ++ List.replicate (N.length - ps.length) none) wd with
  | bad => rw [eg] at p; exact p
  | brk ρ w' => rw [eg] at p; exact p.elim
  | cont ρ w' => rw [eg] at p; exact p.elim
  | next ρ w' =>
    rw [eg] at p
    exact fun σ' H' G' ws' st' _ => p .non H' G' ws' st'.nx0 .non fz_nw
  | ret y w' =>
    rw [eg] at p
    exact fun v H' G' ws' n r k _ => p v H' G' ws' n r k
  | ex y ρ w' =>
    rw [eg] at p
    exact fun cls d σ' H' G' ws' st' hx => p cls d H' G' ws' st'.nx0 hx
/-! ### calls -/
def dCall (F : DF) (dds : List D) (fs : DA) : DE := fun ρ w => (fs ρ w).bind fun xs w => match frzD xs with
  | some ds => F (ds ++ dds) w
  | none => .bad
theorem ev_call {F : DF} {dvs : List V} {dds : List D} (ha : EvA P H0 Wi tr fr) (hd : ∀ G ι, Reps P.K G ι dvs dds) : EvE P H0 Wi (tCallSD (spD P F) dvs (WE Wi) tr) (dCall F dds fr) := by
  intro σ H G ws ρ w Q st h
  unfold dCall at h
  refine ha σ H G ws ρ w _ st ?_
  cases e : fr ρ w with
  | bad => rw [e] at h; exact h
  | ex x w' => rw [e] at h; exact h
  | ok xs w' =>
    intro vs H1 G1 ws1 n1 r1 k1
    rw [e] at h
    have h : PostE P (fun c d H' => Wi c d σ H') H G ws Q (match frzD xs with | some ds => F (ds ++ dds) w' | none => .bad) := h
    cases e2 : frzD xs with
    | none => rw [e2] at h; exact h.elim
    | some ds =>
      rw [e2] at h
      obtain ⟨G2, s2, n2, r2⟩ := freezeAll n1 r1 k1 e2
      exact ⟨G2, ws1, w', ds ++ dds, n2.sub, n2.rw, r2.append (hd _ _), PostE.after n2 h⟩
/-- a def that touches no object: its arguments may be things that a slot owns, if what it tells holds none of them -/
def borD : List Val → Option (List D)
  | [] => some []
  | x :: xs => match x.m, borD xs with
    | .wd, _ => none
    | _, some ds => some (x.d :: ds)
    | _, none => none
def imV (x : Val) : Bool := match x.m, x.d with
  | .fz, d => im d
  | .nw, .lst ds => ds.all im
  | _, _ => false
def dCallP (F : DF) (dds : List D) (fs : DA) : DE := fun ρ w => (fs ρ w).bind fun xs w => match borD xs with
  | some ds => (match F (ds ++ dds) w with
    | .ok x w2 => if imV x ∧ w2.n = w.n ∧ w2.lk = w.lk then .ok x w else .bad
    | .ex x w2 => if x.fs.isEmpty ∧ w2.n = w.n ∧ w2.lk = w.lk then .ex x w else .bad
    | .bad => .bad)
  | none => .bad
end
end DL
namespace DL
open PySem L2
/-- what takes any error takes those without a context -/
theorem sky_n {B : Heap} {l : List PySem.Env} {a : Addr} {cls : Value} {d : Option Addr} {L : Addr} {h : Heap} (s : Sky B l a (L2N.Zn cls d) L h) : Sky B l a (Zc cls d) L h := by
  rcases s with ⟨h1, h2, h3, oe, vs, h4, h5, h6⟩ | f | f
  · exact .inl ⟨h1, h2, h3, oe, vs, h4, h5.zc, h6⟩
  · exact .inr (.inl (L2H.flyingZ_imp (fun o z => z.zc) f))
  · exact .inr (.inr ⟨f.1, f.2.1, f.2.2.1, L2H.tracedZ_imp (fun o z => z.zc) f.2.2.2⟩)
theorem tkN {X : Cx} {W : WX} (t : L2.Takes X W) : L2N.Takes X W := fun u s' ⟨a, B, sI, pins, σ, H, cls, d, e, I, nb, up, sky, na, os, ag, w⟩ => t u s' ⟨a, B, sI, pins, σ, H, cls, d, e, I, nb, up, sky_n sky, na, os, ag, w⟩
structure Kx where
  C : Ca
  cm : Cm
  e : En
  Wi : WX
abbrev pm (X : Cx) (κ : Kx) : Pm := ⟨X.K, κ.C, κ.cm⟩
def XE (X : Cx) (κ : Kx) (e : Expr) (f : DE) : Prop := ∃ te, PE X e te ∧ EvE (pm X κ) κ.e κ.Wi te f
def XT (X : Cx) (κ : Kx) (e : Expr) (f : DT) : Prop := ∃ te, PT X e te ∧ EvT (pm X κ) κ.e κ.Wi te f
def XW (X : Cx) (κ : Kx) (e : Expr) (f : DT) : Prop := ∃ te, PW X e te ∧ EvT (pm X κ) κ.e κ.Wi te f
def XA (X : Cx) (κ : Kx) (es : List Expr) (f : DA) : Prop := ∃ te, PA X es te ∧ EvA (pm X κ) κ.e κ.Wi te f
def XO (X : Cx) (κ : Kx) (e : Option Expr) (f : DO) : Prop := ∃ te, PO X e te ∧ EvO (pm X κ) κ.e κ.Wi te f
def XI (X : Cx) (κ : Kx) (tg iter : Expr) (f : DI) : Prop := ∃ te, PI X tg iter te ∧ EvI (pm X κ) κ.e κ.Wi te f
def XS (X : Cx) (κ : Kx) (s : Stmt) (g : DS) : Prop := ∃ ts, PS X s ts ∧ EvS (pm X κ) κ.e κ.Wi ts g
def XB (X : Cx) (κ : Kx) (s : List Stmt) (g : DS) : Prop := ∃ ts, PSs X s ts ∧ EvS (pm X κ) κ.e κ.Wi ts g
/-- what is known of where one stands; k: room for so many calls -/
structure Fc (X : Cx) (κ : Kx) (k : Nat) : Prop where
  calm : X.calm = true
  nd : X.N.Nodup
  room : Room k X.A
  tk : L2N.Takes X κ.Wi
  pass : PassesOwn (model X.prog X.w) X.A X.env X.xe
/-- .. within an expression alone -/
structure Fe (X : Cx) (κ : Kx) (k : Nat) : Prop where
  calm : X.calm = true
  nd : X.N.Nodup
  room : Room k X.A
  tk : L2N.Takes X κ.Wi
theorem Fc.fe {X : Cx} {κ : Kx} {k : Nat} (c : Fc X κ k) : Fe X κ k := ⟨c.calm, c.nd, c.room, c.tk⟩
abbrev Kx.no (κ : Kx) : Kx := { κ with Wi := fun _ _ _ _ => False }
theorem Fe.blk {X : Cx} {κ : Kx} {k : Nat} (c : Fe X κ k) (s : Shared) (H : Hp) (scope : Scope) (env : PySem.Env) (fp : List Addr) : Fe (X.blk s H scope env fp) κ.no k := ⟨c.calm, c.nd, c.room, tkN takes0⟩
theorem Fe.u64 {X : Cx} {κ : Kx} {k : Nat} (c : Fe X κ k) : X.A.units + 64 < cLine := c.room.units
theorem Fe.u65 {X : Cx} {κ : Kx} {k : Nat} (c : Fe X κ k) : X.A.units + 65 < cLine := by have := c.room.un; omega
section
variable {X : Cx} {κ : Kx} {a b c : Expr} {fa fb fc : DE} {es : List Expr} {fr : DA} {pos p p2 p3 : Pos} {k : Nat}
/-! names, constants -/
theorem e_var (i : Nat) {x : Str} (hN : X.N[i]? = some x := by rfl) (hv : Vis X.env.scope x := by first | exact Or.inl rfl | exact Or.inr (Or.inl rfl) | exact Or.inr (Or.inr rfl)) (hd : (x == ("__debug__" : Str)) = false := by decide)
    (hcd : (x == ("__classdict__" : Str)) = false := by decide) : XE X κ (.Name x pos) (dVar i) := ⟨_, pe_var hN hv hd hcd, ev_var⟩
theorem e_int {i : Int} {j : Nat} : XE X κ (.Constant (.int i) j pos) (dC (.int i)) := ⟨_, pe_int, ev_int⟩
theorem e_bl {i : Bool} {j : Nat} : XE X κ (.Constant (.bool i) j pos) (dC (.bl i)) := ⟨_, pe_bl, ev_bl⟩
theorem e_str {i : Str} {j : Nat} : XE X κ (.Constant (.str i) j pos) (dC (.str i)) := ⟨_, pe_str, ev_str⟩
theorem e_non {j : Nat} : XE X κ (.Constant .none j pos) (dC .non) := ⟨_, pe_non, ev_non⟩
/-- a constant of the module -/
structure Cst (K : PySem.W.Frag) (mg : Str → Option Value) (x : Str) (d : D) : Prop where
  ex : ∃ u v, mg x = some u ∧ RelV v u ∧ ∀ G ι, Rep K G ι v d
theorem e_glob {x : Str} {d : D} (h : Cst X.K X.mg x d) (hg : Gl X x := by rfl) (hd : (x == ("__debug__" : Str)) = false := by decide) : XE X κ (.Name x pos) (dC d) := by
  obtain ⟨u, v, h1, h2, h3⟩ := h.ex
  exact ⟨_, pe_glob hg h1 h2 hd, ev_c h3⟩
/-! operators -/
theorem e_add (ha : XE X κ a fa) (hb : XE X κ b fb) : XE X κ (.BinOp a .Add b pos) (dOp gAdd fa fb) := by
  obtain ⟨ta, pa, ea⟩ := ha
  obtain ⟨tb, pb, eb⟩ := hb
  exact ⟨_, pe_op op_addA pa pb, ev_op ea eb rop_add gAdd_nx⟩
theorem e_sub (ha : XE X κ a fa) (hb : XE X κ b fb) : XE X κ (.BinOp a .Sub b pos) (dOp (gI0 fun i j => .int (i - j)) fa fb) := by
  obtain ⟨ta, pa, ea⟩ := ha
  obtain ⟨tb, pb, eb⟩ := hb
  exact ⟨_, pe_op op_sub pa pb, ev_op ea eb (rop_I0 fun _ _ _ _ _ => .int _) gI0_nx⟩
theorem e_mul (ha : XE X κ a fa) (hb : XE X κ b fb) : XE X κ (.BinOp a .Mult b pos) (dOp gMul fa fb) := by
  obtain ⟨ta, pa, ea⟩ := ha
  obtain ⟨tb, pb, eb⟩ := hb
  exact ⟨_, pe_op op_mulA pa pb, ev_op ea eb rop_mul gMul_nx⟩
theorem e_div (ha : XE X κ a fa) (hb : XE X κ b fb) : XE X κ (.BinOp a .FloorDiv b pos) (dOp (gI CDivW fun i j => .int (i / j)) fa fb) := by
  obtain ⟨ta, pa, ea⟩ := ha
  obtain ⟨tb, pb, eb⟩ := hb
  exact ⟨_, pe_op op_fdivW pa pb, ev_op ea eb (rop_I fun _ _ _ _ _ => .int _) gI_nx⟩
theorem e_mod (ha : XE X κ a fa) (hb : XE X κ b fb) : XE X κ (.BinOp a .Mod b pos) (dOp (gI (fun _ j => 0 < j) fun i j => .int (i % j)) fa fb) := by
  obtain ⟨ta, pa, ea⟩ := ha
  obtain ⟨tb, pb, eb⟩ := hb
  exact ⟨_, pe_op op_mod pa pb, ev_op ea eb (rop_I fun _ _ _ _ _ => .int _) gI_nx⟩
theorem e_pow (ha : XE X κ a fa) (hb : XE X κ b fb) : XE X κ (.BinOp a .Pow b pos) (dOp (gI CPow fun i j => .int (i ^ j.toNat)) fa fb) := by
  obtain ⟨ta, pa, ea⟩ := ha
  obtain ⟨tb, pb, eb⟩ := hb
  exact ⟨_, pe_op op_pow pa pb, ev_op ea eb (rop_I fun _ _ _ _ _ => .int _) gI_nx⟩
def gNeg : Val → W → R Val := fun x w => match x.d with
  | .int i => .ok (fz (.int (-i))) w
  | _ => .bad
theorem e_neg (ha : XE X κ a fa) : XE X κ (.UnaryOp .USub a pos) (dUn gNeg fa) := by
  obtain ⟨ta, pa, ea⟩ := ha
  refine ⟨_, pe_un un_neg pa, ev_un ea (fun H G ws w vx x Q s r hx h => ?_) fun x w e w' => ?_⟩
  · obtain ⟨m, d⟩ := x
    cases d <;> try exact h.elim
    have e := rv_int hx
    subst e
    exact ⟨_, rfl, fz_q s r h (.int _)⟩
  · unfold gNeg
    split <;> exact fun h => nomatch h
/-! comparisons -/
theorem e_cmp {op : CmpOp} {r : R2} {g : Val → Val → W → R Val} (ho : OpR X (compareOp op) r) (hr : ROp (pm X κ) r g) (hn : ∀ x y w e w', g x y w ≠ .ex e w') (ha : XE X κ a fa) (hb : XE X κ b fb) (hm : behindInMarks op b = false) : XE X κ (.Compare a [op] [b] pos) (dOp g fa fb) := by
  obtain ⟨ta, pa, ea⟩ := ha
  obtain ⟨tb, pb, eb⟩ := hb
  exact ⟨_, pe_cmpR ho pa pb hm, ev_op ea eb hr hn⟩
theorem t_cmp {op : CmpOp} {r : R2} {g : Val → Val → W → R Val} (ho : OpR X (compareOp op) r) (hr : ROp (pm X κ) r g) (hn : ∀ x y w e w', g x y w ≠ .ex e w') (ha : XE X κ a fa) (hb : XE X κ b fb) (hm : behindInMarks op b = false) : XT X κ (.Compare a [op] [b] pos) (tst (dOp g fa fb)) := by
  obtain ⟨ta, pa, ea⟩ := ha
  obtain ⟨tb, pb, eb⟩ := hb
  exact ⟨_, pt_cmpR ho pa pb hm, ev_tst (ev_op ea eb hr hn)⟩
abbrev gLt : Val → Val → W → R Val := gI0 fun i j => .bl (decide (i < j))
abbrev gLe : Val → Val → W → R Val := gI0 fun i j => .bl (decide (i ≤ j))
abbrev gGt : Val → Val → W → R Val := gI0 fun i j => .bl (decide (j < i))
abbrev gGe : Val → Val → W → R Val := gI0 fun i j => .bl (decide (j ≤ i))
theorem rop_lt {P : Pm} : ROp P (rI0 fun i j => .bl (decide (i < j))) gLt := rop_I0 fun _ _ _ _ _ => .bl _
theorem rop_le {P : Pm} : ROp P (rI0 fun i j => .bl (decide (i ≤ j))) gLe := rop_I0 fun _ _ _ _ _ => .bl _
theorem rop_gt {P : Pm} : ROp P (rI0 fun i j => .bl (decide (j < i))) gGt := rop_I0 fun _ _ _ _ _ => .bl _
theorem rop_ge {P : Pm} : ROp P (rI0 fun i j => .bl (decide (j ≤ i))) gGe := rop_I0 fun _ _ _ _ _ => .bl _
theorem e_lt (ha : XE X κ a fa) (hb : XE X κ b fb) : XE X κ (.Compare a [.Lt] [b] pos) (dOp gLt fa fb) := e_cmp op_lt rop_lt gI0_nx ha hb (nomark _)
theorem e_ge (ha : XE X κ a fa) (hb : XE X κ b fb) : XE X κ (.Compare a [.GtE] [b] pos) (dOp gGe fa fb) := e_cmp op_ge rop_ge gI0_nx ha hb (nomark _)
theorem t_lt (ha : XE X κ a fa) (hb : XE X κ b fb) : XT X κ (.Compare a [.Lt] [b] pos) (tst (dOp gLt fa fb)) := t_cmp op_lt rop_lt gI0_nx ha hb (nomark _)
theorem t_le (ha : XE X κ a fa) (hb : XE X κ b fb) : XT X κ (.Compare a [.LtE] [b] pos) (tst (dOp gLe fa fb)) := t_cmp op_le rop_le gI0_nx ha hb (nomark _)
theorem t_gt (ha : XE X κ a fa) (hb : XE X κ b fb) : XT X κ (.Compare a [.Gt] [b] pos) (tst (dOp gGt fa fb)) := t_cmp op_gt rop_gt gI0_nx ha hb (nomark _)
theorem t_ge (ha : XE X κ a fa) (hb : XE X κ b fb) : XT X κ (.Compare a [.GtE] [b] pos) (tst (dOp gGe fa fb)) := t_cmp op_ge rop_ge gI0_nx ha hb (nomark _)
theorem e_eq (c : Fe X κ k) (ha : XE X κ a fa) (hb : XE X κ b fb) : XE X κ (.Compare a [.Eq] [b] pos) (dOp (gEq false) fa fb) := e_cmp (op_eqD c.u64) rop_eq gEq_nx ha hb (nomark _)
theorem t_eq (c : Fe X κ k) (ha : XE X κ a fa) (hb : XE X κ b fb) : XT X κ (.Compare a [.Eq] [b] pos) (tst (dOp (gEq false) fa fb)) := t_cmp (op_eqD c.u64) rop_eq gEq_nx ha hb (nomark _)
theorem t_ne (c : Fe X κ k) (ha : XE X κ a fa) (hb : XE X κ b fb) : XT X κ (.Compare a [.NotEq] [b] pos) (tst (dOp (gEq true) fa fb)) := t_cmp (op_neD c.u64) rop_ne gEq_nx ha hb (nomark _)
theorem e_in (c : Fe X κ k) (ha : XE X κ a fa) (hb : XE X κ b fb) (hm : behindInMarks .In b = false := by rfl) : XE X κ (.Compare a [.In] [b] pos) (dOp (gIn false) fa fb) := e_cmp (op_inA c.u65) rop_in gIn_nx ha hb hm
theorem t_in (c : Fe X κ k) (ha : XE X κ a fa) (hb : XE X κ b fb) (hm : behindInMarks .In b = false := by rfl) : XT X κ (.Compare a [.In] [b] pos) (tst (dOp (gIn false) fa fb)) := t_cmp (op_inA c.u65) rop_in gIn_nx ha hb hm
theorem t_nin (c : Fe X κ k) (ha : XE X κ a fa) (hb : XE X κ b fb) (hm : behindInMarks .NotIn b = false := by rfl) : XT X κ (.Compare a [.NotIn] [b] pos) (tst (dOp (gIn true) fa fb)) := t_cmp (op_ninA c.u65) rop_nin gIn_nx ha hb hm
theorem t_isN {j : Nat} (ha : XE X κ a fa) : XT X κ (.Compare a [.Is] [.Constant .none j p] pos) (tst (dUn (gIsN false) fa)) := by
  obtain ⟨ta, pa, ea⟩ := ha
  exact ⟨_, pt_cmp (pc_isN pa), ev_tB (ev_isN ea)⟩
theorem t_notN {j : Nat} (ha : XE X κ a fa) : XT X κ (.Compare a [.IsNot] [.Constant .none j p] pos) (tst (dUn (gIsN true) fa)) := by
  obtain ⟨ta, pa, ea⟩ := ha
  exact ⟨_, pt_cmp (pc_notN pa), ev_tB (ev_notN ea)⟩
/-- a comparison's rule, for chains -/
structure Cm2 (X : Cx) (κ : Kx) (op : CmpOp) (g : Val → Val → W → R Val) : Prop where
  ex : ∃ r, OpR X (compareOp op) r ∧ ROp (pm X κ) r g ∧ ∀ x y w e w', g x y w ≠ .ex e w'
theorem c_lt : Cm2 X κ .Lt gLt := ⟨_, op_lt, rop_lt, gI0_nx⟩
theorem c_le : Cm2 X κ .LtE gLe := ⟨_, op_le, rop_le, gI0_nx⟩
theorem e_chain {op op' : CmpOp} {g g' : Val → Val → W → R Val} (h1 : Cm2 X κ op g) (h2 : Cm2 X κ op' g') (ha : XE X κ a fa) (hb : XE X κ b fb) (hc : XE X κ c fc) (hm : lastMarks [op, op'] [b, c] = false := by with_unfolding_all rfl) : XE X κ (.Compare a [op, op'] [b, c] pos) (dChain g g' fa fb fc) := by
  obtain ⟨ta, pa, ea⟩ := ha
  obtain ⟨tb, pb, eb⟩ := hb
  obtain ⟨tc, pc, ec⟩ := hc
  obtain ⟨r, o1, r1, n1⟩ := h1
  obtain ⟨r', o2, r2, n2⟩ := h2
  exact ⟨_, pe_chain o1 o2 pa pb pc hm, ev_chain ea eb ec r1 r2 n1 n2⟩
theorem t_chain {op op' : CmpOp} {g g' : Val → Val → W → R Val} (h1 : Cm2 X κ op g) (h2 : Cm2 X κ op' g') (ha : XE X κ a fa) (hb : XE X κ b fb) (hc : XE X κ c fc) (hm : lastMarks [op, op'] [b, c] = false := by with_unfolding_all rfl) : XT X κ (.Compare a [op, op'] [b, c] pos) (tst (dChain g g' fa fb fc)) := by
  obtain ⟨ta, pa, ea⟩ := ha
  obtain ⟨tb, pb, eb⟩ := hb
  obtain ⟨tc, pc, ec⟩ := hc
  obtain ⟨r, o1, r1, n1⟩ := h1
  obtain ⟨r', o2, r2, n2⟩ := h2
  exact ⟨_, pt_chain o1 o2 pa pb pc hm, ev_tst (ev_chain ea eb ec r1 r2 n1 n2)⟩
/-! tests -/
variable {fA fB : DT} {rest : List Expr}
theorem t_val (ha : XE X κ a fa) (he : ∀ whole, isTrue a X.env whole = (do let v ← whole; standAt a.pos; holding [v] (truthy v)) := by intro _; rfl) : XT X κ a (tst fa) := by
  obtain ⟨ta, pa, ea⟩ := ha
  exact ⟨_, pt_val pa he, ev_tB ea⟩
theorem t_not (ha : XT X κ a fA) : XT X κ (.UnaryOp .Not a pos) (dNot fA) := by
  obtain ⟨ta, pa, ea⟩ := ha
  exact ⟨_, pt_not pa, ev_not ea⟩
theorem w_and1 (ha : XT X κ a fA) : XW X κ (.BoolOp .And [a] pos) fA := by
  obtain ⟨ta, pa, ea⟩ := ha
  exact ⟨_, pw_and1 pa, ea⟩
theorem w_or1 (ha : XT X κ a fA) : XW X κ (.BoolOp .Or [a] pos) fA := by
  obtain ⟨ta, pa, ea⟩ := ha
  exact ⟨_, pw_or1 pa, ea⟩
theorem w_and (ha : XT X κ a fA) (hb : XW X κ (.BoolOp .And (b :: rest) pos) fB) : XW X κ (.BoolOp .And (a :: b :: rest) pos) (dAnd fA fB) := by
  obtain ⟨ta, pa, ea⟩ := ha
  obtain ⟨tb, pb, eb⟩ := hb
  exact ⟨_, pw_and pa pb, ev_and ea eb⟩
theorem w_or (ha : XT X κ a fA) (hb : XW X κ (.BoolOp .Or (b :: rest) pos) fB) : XW X κ (.BoolOp .Or (a :: b :: rest) pos) (dOr fA fB) := by
  obtain ⟨ta, pa, ea⟩ := ha
  obtain ⟨tb, pb, eb⟩ := hb
  exact ⟨_, pw_or pa pb, ev_or ea eb⟩
theorem t_w (h : XW X κ a fA) : XT X κ a fA := by
  obtain ⟨ta, pa, ea⟩ := h
  exact ⟨_, pa.pt, ea⟩
theorem e_one {op : BoolOp} (ha : XE X κ a fa) : XE X κ (.BoolOp op [a] pos) fa := by
  obtain ⟨ta, pa, ea⟩ := ha
  exact ⟨_, pe_one pa, ea⟩
theorem e_and (ha : XE X κ a fa) (hb : XE X κ (.BoolOp .And (b :: rest) pos) fb) : XE X κ (.BoolOp .And (a :: b :: rest) pos) (dAndV fa fb) := by
  obtain ⟨ta, pa, ea⟩ := ha
  obtain ⟨tb, pb, eb⟩ := hb
  exact ⟨_, pe_and pa pb, ev_andV ea eb⟩
theorem e_not (ha : XE X κ a fa) : XE X κ (.UnaryOp .Not a pos) (dNotV fa) := by
  obtain ⟨ta, pa, ea⟩ := ha
  exact ⟨_, pe_not pa, ev_notV ea⟩
theorem e_if (hc : XT X κ c fA) (ha : XE X κ a fa) (hb : XE X κ b fb) : XE X κ (.IfExp c a b pos) (dIf fA fa fb) := by
  obtain ⟨tc, pc, ec⟩ := hc
  obtain ⟨ta, pa, ea⟩ := ha
  obtain ⟨tb, pb, eb⟩ := hb
  exact ⟨_, pe_ifExp pc pa pb, ev_if ec ea eb⟩
/-! arguments, displays, subscripts -/
theorem a_nil : XA X κ [] dNil := ⟨_, pa_nil, ev_nil⟩
theorem a_one (ha : XE X κ a fa) (hs : starEach [a] X.env = (false, eval a X.env) :: starEach [] X.env := by rfl) : XA X κ [a] (dOne fa) := by
  obtain ⟨ta, pa, ea⟩ := ha
  exact ⟨_, pa_cons pa pa_nil hs, ev_one ea⟩
theorem a_cons (ha : XE X κ a fa) (hr : XA X κ es fr) (hs : starEach (a :: es) X.env = (false, eval a X.env) :: starEach es X.env := by rfl) : XA X κ (a :: es) (dCons fa fr) := by
  obtain ⟨ta, pa, ea⟩ := ha
  obtain ⟨tr, pr, er⟩ := hr
  exact ⟨_, pa_cons pa pr hs, ev_cons ea er⟩
theorem e_tup {x1 : Nat} (h : XA X κ es fr) : XE X κ (.Tuple es x1 pos) (dTup fr) := by
  obtain ⟨t, p, e⟩ := h
  exact ⟨_, pe_tup p, ev_tup e⟩
theorem e_lst (h : XA X κ es fr) : XE X κ (.List es pos) (dLst fr) := by
  obtain ⟨t, p, e⟩ := h
  exact ⟨_, pe_lst p, ev_lst e⟩
theorem e_ix (ha : XE X κ a fa) (hb : XE X κ b fb) (hs : PlainIx b := by intro _ _; rfl) : XE X κ (.Subscript a b pos) (dOp gIx fa fb) := by
  obtain ⟨ta, pa, ea⟩ := ha
  obtain ⟨tb, pb, eb⟩ := hb
  exact ⟨_, pe_ix ix_seq pa pb hs, ev_op ea eb rop_ix gIx_nx⟩
theorem o_no : XO X κ none dNo := ⟨_, po_none, ev_no⟩
theorem o_some (ha : XE X κ a fa) : XO X κ (some a) (dPart fa) := by
  obtain ⟨ta, pa, ea⟩ := ha
  exact ⟨_, po_some pa, ev_part ea⟩
theorem e_sl {lo hi : Option Expr} {fl fh : DO} (ha : XE X κ a fa) (hl : XO X κ lo fl) (hh : XO X κ hi fh) : XE X κ (.Subscript a (.Slice lo hi none p2) pos) (dSl fa fl fh) := by
  obtain ⟨ta, pa, ea⟩ := ha
  obtain ⟨tl, pl, el⟩ := hl
  obtain ⟨th, ph, eh⟩ := hh
  exact ⟨_, pe_slice sl_A pa pl ph, ev_sl ea el eh⟩
/-! built-ins -/
/-- a built-in by its name: f a function, or a class -/
theorem e_cb {id : String} {x : Str} {r : List V → Hp → VK → Prop} {g : List Val → W → R Val} (hc : CallR X (.builtin id) r) (hr : RCall (pm X κ) r g) (hn : ∀ x w e w', g x w ≠ .ex e w') (hm : X.mg x = none) (hv : bootBuiltins x = some (.builtin id)) (ha : XA X κ (a :: es) fr) (hg : Gl X x := by rfl)
    (hx : x ≠ "__name__" := by decide) (hdb : (x == ("__debug__" : Str)) = false := by decide) (he : starEach (a :: es) X.env = (false, eval a X.env) :: starEach es X.env := by rfl) (hpl : (backTo pos (starEach es X.env)).any (·.1) = false := by rfl) : XE X κ (.Call (.Name x p) (a :: es) [] pos) (dCB g fr) := by
  obtain ⟨t, pa, ea⟩ := ha
  exact ⟨_, pe_callB hc hg hm hv pa hx hdb he hpl, ev_cb ea hr hn⟩
theorem e_ct {T : String} {x : Str} {r : List V → Hp → VK → Prop} {g : List Val → W → R Val} (hc : CallR X (.type T) r) (hr : RCall (pm X κ) r g) (hn : ∀ x w e w', g x w ≠ .ex e w') (hm : X.mg x = none) (hv : bootBuiltins x = some (.type T)) (ha : XA X κ (a :: es) fr) (hg : Gl X x := by rfl)
    (hx : x ≠ "__name__" := by decide) (hdb : (x == ("__debug__" : Str)) = false := by decide) (he : starEach (a :: es) X.env = (false, eval a X.env) :: starEach es X.env := by rfl) (hpl : (backTo pos (starEach es X.env)).any (·.1) = false := by rfl) : XE X κ (.Call (.Name x p) (a :: es) [] pos) (dCB g fr) := by
  obtain ⟨t, pa, ea⟩ := ha
  exact ⟨_, pe_callTy hc hg hm hv pa hx hdb he hpl, ev_cb ea hr hn⟩
theorem e_len (hm : X.mg "len" = none) (ha : XA X κ [a] fr) (hg : Gl X "len" := by rfl) (he : starEach [a] X.env = (false, eval a X.env) :: starEach [] X.env := by rfl) : XE X κ (.Call (.Name "len" p) [a] [] pos) (dCB gLen fr) := e_cb call_len rc_len gLen_nx hm PySem.boot_len ha hg (by decide) (by decide) he
theorem e_max2 (c : Fe X κ k) (hm : X.mg "max" = none) (ha : XA X κ [a, b] fr) (hg : Gl X "max" := by rfl) (he : starEach [a, b] X.env = (false, eval a X.env) :: starEach [b] X.env := by rfl) (hpl : (backTo pos (starEach [b] X.env)).any (·.1) = false := by rfl) : XE X κ (.Call (.Name "max" p) [a, b] [] pos) (dCB gMax2 fr) := e_cb (call_max2 c.calm) rc_max2 gMax2_nx hm (by decide +kernel) ha hg (by decide) (by decide) he hpl
theorem e_min2 (c : Fe X κ k) (hm : X.mg "min" = none) (ha : XA X κ [a, b] fr) (hg : Gl X "min" := by rfl) (he : starEach [a, b] X.env = (false, eval a X.env) :: starEach [b] X.env := by rfl) (hpl : (backTo pos (starEach [b] X.env)).any (·.1) = false := by rfl) : XE X κ (.Call (.Name "min" p) [a, b] [] pos) (dCB gMin2 fr) := e_cb (call_min2 c.calm) rc_min2 gMin2_nx hm (by decide +kernel) ha hg (by decide) (by decide) he hpl
theorem e_all (c : Fe X κ k) (hm : X.mg "all" = none) (ha : XA X κ [a] fr) (hg : Gl X "all" := by rfl) (he : starEach [a] X.env = (false, eval a X.env) :: starEach [] X.env := by rfl) : XE X κ (.Call (.Name "all" p) [a] [] pos) (dCB gAll fr) := e_cb (cr_all c.calm) rc_all gAll_nx hm (by decide +kernel) ha hg (by decide) (by decide) he
theorem e_any (c : Fe X κ k) (hm : X.mg "any" = none) (ha : XA X κ [a] fr) (hg : Gl X "any" := by rfl) (he : starEach [a] X.env = (false, eval a X.env) :: starEach [] X.env := by rfl) : XE X κ (.Call (.Name "any" p) [a] [] pos) (dCB gAny fr) := e_cb (cr_any c.calm) rc_any gAny_nx hm (by decide +kernel) ha hg (by decide) (by decide) he
theorem e_clist (hm : X.mg "list" = none) (ha : XA X κ [a] fr) (hg : Gl X "list" := by rfl) (he : starEach [a] X.env = (false, eval a X.env) :: starEach [] X.env := by rfl) : XE X κ (.Call (.Name "list" p) [a] [] pos) (dCB gList fr) := e_ct call_list_of rc_list gList_nx hm (by decide +kernel) ha hg (by decide) (by decide) he
theorem e_ctup (hm : X.mg "tuple" = none) (ha : XA X κ [a] fr) (hg : Gl X "tuple" := by rfl) (he : starEach [a] X.env = (false, eval a X.env) :: starEach [] X.env := by rfl) : XE X κ (.Call (.Name "tuple" p) [a] [] pos) (dCB gTuple fr) := e_ct call_tuple_of rc_tuple gTuple_nx hm (by decide +kernel) ha hg (by decide) (by decide) he
/-! isinstance(x, T) -/
theorem rv_ty {K : PySem.W.Frag} {G H : Hp} {ws : Ws} {v : V} {x : Val} (s : Sm G H) (h : RV K G H ws v x) (hn : ∀ k, x.d ≠ .obj k) (hn2 : ∀ k, x.d ≠ .exc k) (hn3 : ∀ k, x.d ≠ .dK k) (hn4 : ∀ k, x.d ≠ .dT k) : TyX K H v (.type (tyD x.d)) := by
  obtain ⟨m, d⟩ := x
  have un : (∃ a, v = .ref a ∧ Unf K G H (io ws) a d) → TyX K H v (.type (tyD d)) := by
    rintro ⟨a, rfl, u⟩
    cases u with
    | lst q _ => exact .base (.lst q)
    | dK q _ _ => exact absurd rfl (hn3 _)
    | dT q _ _ => exact absurd rfl (hn4 _)
  unfold RV at h
  cases m with
  | nw => obtain ⟨a, e, _, _, u⟩ := h; exact un ⟨a, e, u⟩
  | bo => obtain ⟨a, e, _, _, u⟩ := h; exact un ⟨a, e, u⟩
  | wd => obtain ⟨a, e, _, _, u⟩ := h; exact un ⟨a, e, u⟩
  | fz =>
    cases h with
    | non => exact .base .non
    | bl b => exact .base (.bl b)
    | int b => exact .base (.int b)
    | str b => exact .base (.str b)
    | tup q _ =>
      rcases q with (q | ⟨o, q⟩) | ⟨o, its, n, q, c, _⟩
      · exact .base (.tup (s.eq q))
      · exact .fTuple (s.eq q)
      · exact .kTuple q c
    | lst q _ => exact .base (.lst (s.eq q))
    | scr q =>
      rcases q with (q | ⟨o, q⟩) | ⟨o, its, n, q, c, _⟩
      · exact .base (.lst (s.eq q))
      · exact .base (.frz (s.eq q))
      · exact .kList q c
    | dK q _ _ => exact absurd rfl (hn3 _)
    | dT q _ _ => exact absurd rfl (hn4 _)
    | obj q => exact absurd rfl (hn _)
    | exc => exact absurd rfl (hn2 _)
theorem e_isi (T : String) {x : Str} (hm : X.mg "isinstance" = none) (hmT : X.mg x = none) (hv : bootBuiltins x = some (.type T)) (ha : XE X κ a fa) (hg : Gl X "isinstance" := by rfl) (hgT : Gl X x := by rfl)
    (hx : x ≠ "__name__" := by decide) (hd : (x == ("__debug__" : Str)) = false := by decide) (hs : starEach [a, .Name x p2] X.env = (false, eval a X.env) :: starEach [.Name x p2] X.env := by rfl) (hs2 : starEach [.Name x p2] X.env = (false, eval (.Name x p2) X.env) :: starEach [] X.env := by rfl)
    (hpl : (backTo pos (starEach [.Name x p2] X.env)).any (·.1) = false := by rfl) : XE X κ (.Call (.Name "isinstance" p) [a, .Name x p2] [] pos) (dUn (fun y w => match y.d with | .obj _ => .bad | .exc _ => .bad | .dK _ => .bad | .dT _ => .bad | _ => gIsi T y w) fa) := by
  obtain ⟨ta, pa, ea⟩ := ha
  refine ⟨_, pe_callB call_isi hg hm (by decide +kernel) (pa_cons pa (pa_cons (pe_bltn (v := .ty T) hgT hmT hv rfl hx hd) pa_nil hs2) hs) (by decide) (by decide) hs hpl, ?_⟩
  intro σ H G ws ρ w Q st h
  unfold dUn at h
  refine ea σ H G ws ρ w _ st ?_
  cases e : fa ρ w with
  | bad => rw [e] at h; exact h
  | ex y w' => rw [e] at h; exact h
  | ok y w' =>
    intro v H1 G1 ws1 n1 r1 k1
    rw [e] at h
    have h : PostE (pm X κ) (fun c d H' => κ.Wi c d σ H') H G ws Q (match y.d with | .obj _ => .bad | .exc _ => .bad | .dK _ => .bad | .dT _ => .bad | _ => gIsi T y w') := h
    have hn : ∀ k, y.d ≠ .obj k := fun k z => by rw [z] at h; exact h
    have hn2 : ∀ k, y.d ≠ .exc k := fun k z => by rw [z] at h; exact h
    have hn3 : ∀ k, y.d ≠ .dK k := fun k z => by rw [z] at h; exact h
    have hn4 : ∀ k, y.d ≠ .dT k := fun k z => by rw [z] at h; exact h
    have h : PostE (pm X κ) (fun c d H' => κ.Wi c d σ H') H G ws Q (gIsi T y w') := by
      obtain ⟨m, d⟩ := y
      cases d <;> first | exact h | exact absurd rfl (hn _) | exact absurd rfl (hn2 _) | exact absurd rfl (hn3 _) | exact absurd rfl (hn4 _)
    unfold gIsi at h
    cases eb : kitB (tyD y.d) T with
    | none => rw [eb] at h; exact h.elim
    | some b =>
      rw [eb] at h
      exact ⟨v, .ty T, _, _, b, rfl, .ty T, rv_ty n1.sub r1 hn hn2 hn3 hn4, kit_ty eb, h (.bl b) H1 G1 ws1 n1 (.bl b) fz_nw⟩
end
end DL
namespace DL
open PySem L2
/-- the reading that a denotation gives -/
def cE (P : Pm) (H0 : En) (Wi : WX) (f : DE) : TE := fun σ H Q => ∃ G ws ρ w, St P.K P.C H0 σ H G ws ρ w ∧ PostE P (fun c d H' => Wi c d σ H') H G ws Q (f ρ w)
def cT (P : Pm) (H0 : En) (Wi : WX) (f : DT) : TT := fun σ H Q => ∃ G ws ρ w, St P.K P.C H0 σ H G ws ρ w ∧ PostT P (fun c d H' => Wi c d σ H') H G ws Q (f ρ w)
section
variable {X : Cx} {κ : Kx} {a b c : Expr} {fa fb fc : DE} {fA fB : DT} {es : List Expr} {fr : DA} {pos p p2 p3 : Pos} {k : Nat} {fi : DI} {gs hs : DS} {tg iter : Expr}
theorem XE.can (h : XE X κ a fa) : PE X a (cE (pm X κ) κ.e κ.Wi fa) := by
  obtain ⟨te, p, e⟩ := h
  exact ⟨fun pins s σ H Q I ⟨G, ws, ρ, w, st, q⟩ => p.run pins s σ H Q I (e σ H G ws ρ w Q st q)⟩
theorem XT.can (h : XT X κ a fA) : PT X a (cT (pm X κ) κ.e κ.Wi fA) := by
  obtain ⟨te, p, e⟩ := h
  exact ⟨fun pins s σ H Q I ⟨G, ws, ρ, w, st, q⟩ => p.run pins s σ H Q I (e σ H G ws ρ w Q st q)⟩
theorem ev_cE {P : Pm} {H0 : En} {Wi : WX} : EvE P H0 Wi (cE P H0 Wi fa) fa := fun σ H G ws ρ w Q st q => ⟨G, ws, ρ, w, st, q⟩
theorem ev_cT {P : Pm} {H0 : En} {Wi : WX} : EvT P H0 Wi (cT P H0 Wi fA) fA := fun σ H G ws ρ w Q st q => ⟨G, ws, ρ, w, st, q⟩
/-! what is walked -/
def iSeqT (K : PySem.W.Frag) (tl : TE) : TI := fun σ H R => tl σ H fun x H1 => (∃ a, x = .ref a ∧ (∃ xs, SqL K H1 a xs) ∧ R (Itl K a) H1) ∨ (∃ a, x = .ref a ∧ (∃ xs, SqT K H1 a xs) ∧ R (Itt K a) H1) ∨ (∃ z, x = .str z ∧ R (Its z) H1)
theorem pi_seq {l : Expr} {tl : TE} (hl : PE X l tl) : PI X tg l (iSeqT X.K tl) := by
  refine ⟨fun pins s σ H R I h => ?_⟩
  refine thn (hl.run pins s σ H _ I h) fun v s1 ⟨x, H1, I1, r1, q1⟩ => ?_
  rcases q1 with q | q | q
  · obtain ⟨a, e, ⟨xs, hq⟩, qq⟩ := q
    subst e
    cases r1
    obtain ⟨its, rv, p, hz⟩ := I1.list hq
    refine wpAny_pyIter_list p.isList ?_
    refine ⟨s1.heap.objs.size, [s1.heap.objs.size], _, _, H1, rfl, I1.kept (t' := s1.toks) fun b o e => Heap.get?_push_of_some _ e, turn_list a _, ⟨_, Heap.get?_push_size _ rfl, rfl, rfl⟩, fun b hb => ?_, qq⟩
    have e : b = s1.heap.objs.size := by simpa using hb
    subst e
    exact I1.fpOk (Nat.le_refl _) (I1.hok.fresh (Nat.le_refl _))
  · obtain ⟨a, e, ⟨xs, hq⟩, qq⟩ := q
    subst e
    cases r1
    obtain ⟨its, rv, p, hz⟩ := I1.tuple hq
    refine wpAny_pyIter_tuple (show s1.heap.IsTuple a its.toArray from p) ?_
    refine ⟨s1.heap.objs.size, [s1.heap.objs.size], _, _, H1, rfl, I1.kept (t' := s1.toks) fun b o e => Heap.get?_push_of_some _ e, turn_tuple a _, ⟨_, Heap.get?_push_size _ rfl, rfl, rfl⟩, fun b hb => ?_, qq⟩
    have e : b = s1.heap.objs.size := by simpa using hb
    subst e
    exact I1.fpOk (Nat.le_refl _) (I1.hok.fresh (Nat.le_refl _))
  · obtain ⟨z, e, qq⟩ := q
    subst e
    obtain ⟨t, rfl⟩ := r1
    cases ha : z.cps.all (· < 128)
    · exact wpAny_pyIter_wide ha (pi_one (tk := s1.toks) I1 _ (turn_str _ z t "str_iterator" (.inr rfl)) ⟨_, Heap.get?_push_size _ rfl, rfl, rfl⟩ qq)
    · exact wpAny_pyIter_ascii ha (pi_one (tk := s1.toks) I1 _ (turn_str _ z t "str_ascii_iterator" (.inl rfl)) ⟨_, Heap.get?_push_size _ rfl, rfl, rfl⟩ qq)
def iSq (f : DE) : DI := fun ρ w => (f ρ w).bind fun x w => match x.d with
  | .lst ds => .ok (ds, keepM x) w
  | .tup ds => .ok (ds, true) w
  | .str z => .ok (sgnD z, true) w
  | _ => .bad
theorem i_seq (ha : XE X κ iter fa) : XI X κ tg iter (iSq fa) := by
  obtain ⟨ta, pa, ea⟩ := ha
  refine ⟨_, pi_seq pa, ?_⟩
  intro σ H G ws ρ w Q st h
  unfold iSq at h
  refine ea σ H G ws ρ w _ st ?_
  cases e : fa ρ w with
  | bad => rw [e] at h; exact h
  | ex x w' => rw [e] at h; exact h
  | ok x w' =>
    intro v H1 G1 ws1 n1 r1 k1
    rw [e] at h
    obtain ⟨m, d⟩ := x
    cases d <;> try exact h.elim
    · have := rv_str r1
      subst this
      exact .inr (.inr ⟨_, rfl, h _ H1 G1 ws1 n1 (its_ok _)⟩)
    · obtain ⟨a, vs, rfl, q0, q1, rs⟩ := rv_tup n1.sub r1
      exact .inr (.inl ⟨a, rfl, ⟨vs, q1⟩, h (Itt X.K a) H1 G1 ws1 n1 (itt_ok fun G' H' ws' ⟨s1, s2, io⟩ => ⟨s2.sqT (sqT_mono s1 q0), rs.mono s1 io⟩)⟩)
    · obtain ⟨a, vs, G2, rfl, hH, n2, hp⟩ := rv_walk n1 r1 k1
      exact .inl ⟨a, rfl, ⟨vs, SqL.of hH⟩, h (Itl X.K a) H1 G2 ws1 n2 (itl_ok hp)⟩
theorem i_rng1 (hm : X.mg "range" = none) (ha : XA X κ [a] fr) (hg : Gl X "range" := by rfl) (hs : starEach [a] X.env = [(false, eval a X.env)] := by rfl) : XI X κ tg (.Call (.Name "range" p) [a] [] pos) (iR1 fr) := by
  obtain ⟨t, pa, ea⟩ := ha
  exact ⟨_, pi_range1 hg hm pa hs, ev_iR1 ea⟩
theorem i_enum {elts : List Expr} {kk : Nat} (hm : X.mg "enumerate" = none) (ha : XE X κ a fa) (hg : Gl X "enumerate" := by rfl) (hs : starEach [a] X.env = [(false, eval a X.env)] := by rfl) : XI X κ (.Tuple elts kk p3) (.Call (.Name "enumerate" p) [a] [] pos) (iE fa) := by
  obtain ⟨t, pa, ea⟩ := ha
  exact ⟨_, pi_enum hg hm (pa_cons pa pa_nil (by rw [hs]; rfl)) hs, ev_iE ea⟩
/-! comprehensions -/
theorem e_lc {elt : Expr} {ifs : List Expr} {scope : Scope} (own : List (Str × Nat)) (t : Tg) (c : Fe X κ k) (hi : XI X κ tg iter fi) (ok : blkC X.N X.env.scope scope own = true)
    (hg : ∀ (s : Shared) (H : Hp) (C : Addr) (cl : List (Str × Addr)) (fp : List Addr), PG (X.blk s H scope (PySem.compEnvC scope cl C X.env) fp) tg (gT X.K t))
    (ht : ∀ (s : Shared) (H : Hp) (C : Addr) (cl : List (Str × Addr)) (fp : List Addr), PTs (X.blk s H scope (PySem.compEnvC scope cl C X.env) fp) ifs (cT (pm X κ) κ.e κ.no.Wi fA))
    (he : ∀ (s : Shared) (H : Hp) (C : Addr) (cl : List (Str × Addr)) (fp : List Addr), XE (X.blk s H scope (PySem.compEnvC scope cl C X.env) fp) κ.no elt fa) (hv : ∀ i ∈ tgs t, i ∈ own.map (·.2) := by decide) (hs : ∀ x, foldedSetIterable iter X.env x = pure x := by intro _; rfl) :
    XE X κ (.ListComp elt [⟨tg, iter, ifs, 0⟩] scope pos) (dLc fi t fA fa (own.map (·.2))) := by
  obtain ⟨ti, pi, ei⟩ := hi
  exact ⟨_, pe_lc c.calm c.nd pi (blkOk_by ok) hg ht (fun s H C cl fp => (he s H C cl fp).can) hs, ev_lc ei ev_cT ev_cE hv⟩
theorem pts_no : PTs X [] (cT (pm X κ) κ.e κ.Wi tYesD) := ⟨fun _ _ _ H _ I ⟨G, ws, ρ, w, st, q⟩ => wpAny_tests_nil ⟨H, I, q H G ws st.nx⟩⟩
theorem pts_if (h : XT X κ a fA) : PTs X [a] (cT (pm X κ) κ.e κ.Wi fA) := pts_one h.can
theorem pts_ifB {s : Shared} {H : Hp} {sc : Scope} {ev : PySem.Env} {fp : List Addr} (h : XT (X.blk s H sc ev fp) κ.no a fA) : PTs (X.blk s H sc ev fp) [a] (cT (pm X κ) κ.e κ.no.Wi fA) := pts_if h
/-! statements -/
variable {st : Stmt} {sts : List Stmt}
theorem b_nil : XB X κ [] sNext := ⟨_, pss_nil, ev_next⟩
theorem b_one (h : XS X κ st gs) : XB X κ [st] gs := by
  obtain ⟨t, p, e⟩ := h
  exact ⟨_, pss_one p, e⟩
theorem b_cons (h : XS X κ st gs) (h2 : XB X κ sts hs) : XB X κ (st :: sts) (sSeq gs hs) := by
  obtain ⟨t, p, e⟩ := h
  obtain ⟨t2, p2, e2⟩ := h2
  exact ⟨_, pss_cons p p2, ev_seq e e2⟩
theorem s_frz (i : Nat) (h : XS X κ st gs) : XS X κ st (sFrz i gs) := by
  obtain ⟨t, p, e⟩ := h
  exact ⟨_, p, ev_frz e⟩
theorem s_set {x : Str} (i : Nat) (c : Fe X κ k) (ha : XE X κ a fa) (hi : X.N[i]? = some x := by rfl) (hx : Loc X.env.scope x := by first | exact Or.inl rfl | exact Or.inr rfl) (hs : swapsWith a (some (.Name x p)) pos.line X.env = pure false := by rfl)
    (hf : X.fn x = true ∨ X.env.scope.names.lookup x = some .local := by first | exact .inl rfl | exact .inr rfl) : XS X κ (.Assign [.Name x p] a pos) (sSet i fa) := by
  obtain ⟨t, pa, ea⟩ := ha
  exact ⟨_, ps_set c.nd hi hx pa hs hf, ev_set ea⟩
theorem s_setT {xs : List Expr} {kk : Nat} (is : List Nat) (c : Fe X κ k) (ha : XE X κ a fa) (hg : PGs X xs (gNames is)) (hn : (assignEach xs X.env).length = is.length := by rfl) (hst : (assignEach xs X.env).findIdx? (·.1) = none := by rfl)
    (hs : swapsWithSole [.Tuple xs kk p] a pos.line X.env = pure false := by rfl) (hw : swappedStores [.Tuple xs kk p] a X.env = pure none := by rfl) (h1 : (assignEach [.Tuple xs kk p] X.env).map (·.2) = [assign (.Tuple xs kk p) X.env] := by rfl) : XS X κ (.Assign [.Tuple xs kk p] a pos) (sSetT is fa) := by
  obtain ⟨t, pa, ea⟩ := ha
  exact ⟨_, ps_asg pa (pg_tup c.calm hg hn hst) hs hw h1, ev_setT ea⟩
theorem s_expr (ha : XE X κ a fa) (hs : swapsWith a none pos.line X.env = pure false := by rfl) : XS X κ (.Expr a pos) (sExpr fa) := by
  obtain ⟨t, pa, ea⟩ := ha
  exact ⟨_, ps_expr pa hs, ev_expr ea⟩
theorem s_ret (ha : XE X κ a fa) : XS X κ (.Return (some a) pos) (sRet fa) := by
  obtain ⟨t, pa, ea⟩ := ha
  exact ⟨_, ps_ret pa, ev_ret ea⟩
theorem s_retV (i : Nat) {x : Str} (hN : X.N[i]? = some x := by rfl) (hv : Vis X.env.scope x := by first | exact Or.inl rfl | exact Or.inr (Or.inl rfl) | exact Or.inr (Or.inr rfl)) (hd : (x == ("__debug__" : Str)) = false := by decide)
    (hcd : (x == ("__classdict__" : Str)) = false := by decide) : XS X κ (.Return (some (.Name x p)) pos) (sRetV i) := ⟨_, ps_ret (pe_var hN hv hd hcd), ev_retV⟩
theorem s_if {s1 s2 : List Stmt} (hc : XT X κ a fA) (h1 : XB X κ s1 gs) (h2 : XB X κ s2 hs) : XS X κ (.If a s1 s2 pos) (sIf fA gs hs) := by
  obtain ⟨t, pa, ea⟩ := hc
  obtain ⟨t1, p1, e1⟩ := h1
  obtain ⟨t2, p2, e2⟩ := h2
  exact ⟨_, ps_if pa p1 p2, ev_sif ea e1 e2⟩
theorem s_for {body : List Stmt} (t : Tg) (c : Fc X κ k) (hi : XI X κ tg iter fi) (hg : PG X tg (gT X.K t)) (hb : XB X κ body gs) (hs : ∀ x, foldedSetIterable iter X.env x = pure x := by intro _; rfl) : XS X κ (.For tg iter body [] pos) (sFor fi t gs) := by
  obtain ⟨ti, pi, ei⟩ := hi
  obtain ⟨tb, pb, eb⟩ := hb
  exact ⟨_, ps_for c.pass c.calm pi hg pb hs, ev_for ei eb⟩
theorem s_while {body : List Stmt} (n : Nat) (c : Fc X κ k) (hc : XT X κ a fA) (hb : XB X κ body gs) : XS X κ (.While a body [] pos) (whileL fA gs n) := by
  obtain ⟨ti, pi, ei⟩ := hc
  obtain ⟨tb, pb, eb⟩ := hb
  exact ⟨_, ps_while c.pass pi pb, ev_while ei eb⟩
/-- targets -/
theorem g_nm {x : Str} (i : Nat) (hN : X.N.Nodup) (hi : X.N[i]? = some x := by rfl) (hx : Loc X.env.scope x := by first | exact Or.inl rfl | exact Or.inr rfl) (hf : X.fn x = true ∨ X.env.scope.names.lookup x = some .local := by first | exact .inl rfl | exact .inr rfl) : PG X (.Name x p) (gT X.K (.nm i)) := pg_name hN hi hx hf
theorem gs_nil : PGs X [] (gNames []) := pgs_nil
theorem gs_cons {x : Str} (i : Nat) {is : List Nat} {xs : List Expr} (hN : X.N.Nodup) (h : PGs X xs (gNames is)) (hi : X.N[i]? = some x := by rfl) (hx : Loc X.env.scope x := by first | exact Or.inl rfl | exact Or.inr rfl) (hf : X.fn x = true ∨ X.env.scope.names.lookup x = some .local := by first | exact .inl rfl | exact .inr rfl)
    (hs : (assignEach (.Name x p :: xs) X.env).map (·.2) = assign (.Name x p) X.env :: (assignEach xs X.env).map (·.2) := by rfl) : PGs X (.Name x p :: xs) (gNames (i :: is)) := pgs_cons (pg_name hN hi hx hf) h hs
theorem g_tp {xs : List Expr} {kk : Nat} {is : List Nat} (hc : X.calm = true) (h : PGs X xs (gNames is)) (hn : (assignEach xs X.env).length = is.length := by rfl) (hst : (assignEach xs X.env).findIdx? (·.1) = none := by rfl) : PG X (.Tuple xs kk p) (gT X.K (.tp is)) := pg_tup hc h hn hst
/-! methods of lists that a slot owns -/
theorem s_app {x : Str} {apos cpos : Pos} (i : Nat) (ha : XE X κ a fa) (hN : X.N[i]? = some x := by rfl) (hv : Vis X.env.scope x := by first | exact Or.inl rfl | exact Or.inr (Or.inl rfl) | exact Or.inr (Or.inr rfl)) (hd : (x == ("__debug__" : Str)) = false := by decide)
    (hcd : (x == ("__classdict__" : Str)) = false := by decide) (hsw : swapsWith (.Call (.Attribute (.Name x p) "append" apos) [a] [] cpos) none pos.line X.env = pure false := by rfl)
    (hs1 : starEach [a] X.env = (false, eval a X.env) :: starEach [] X.env := by rfl)
    (hbase : attributeBase (.Name x p) "append" X.env (eval (.Name x p) X.env) = eval (.Name x p) X.env := by rfl)
    (hfew : ((backTo cpos (starEach [a] X.env)).all (fun x => !x.1) && (backToKw cpos (keywordEach [] X.env)).all (fun x => x.1.isSome)
      && decide ([a].length + ([] : List Keyword).length + (if ([] : List Keyword).isEmpty then 0 else 1) < 30)) = true := by rfl)
    (hline : (apos.endLine == cpos.line) = true := by rfl) : XS X κ (.Expr (.Call (.Attribute (.Name x p) "append" apos) [a] [] cpos) pos) (sApp i fa) := by
  obtain ⟨t, pa, ea⟩ := ha
  exact ⟨_, ps_expr (pe_bm PySem.F.plainAttrs_list PySem.F.slot_list_append PySem.F.type_list_append mt_append (pe_var hN hv hd hcd) (pa_cons pa pa_nil hs1) hbase hfew hline hs1) hsw, ev_app ea⟩
theorem s_ext {x : Str} {apos cpos : Pos} (i : Nat) (ha : XE X κ a fa) (hN : X.N[i]? = some x := by rfl) (hv : Vis X.env.scope x := by first | exact Or.inl rfl | exact Or.inr (Or.inl rfl) | exact Or.inr (Or.inr rfl)) (hd : (x == ("__debug__" : Str)) = false := by decide)
    (hcd : (x == ("__classdict__" : Str)) = false := by decide) (hsw : swapsWith (.Call (.Attribute (.Name x p) "extend" apos) [a] [] cpos) none pos.line X.env = pure false := by rfl)
    (hs1 : starEach [a] X.env = (false, eval a X.env) :: starEach [] X.env := by rfl)
    (hbase : attributeBase (.Name x p) "extend" X.env (eval (.Name x p) X.env) = eval (.Name x p) X.env := by rfl)
    (hfew : ((backTo cpos (starEach [a] X.env)).all (fun x => !x.1) && (backToKw cpos (keywordEach [] X.env)).all (fun x => x.1.isSome)
      && decide ([a].length + ([] : List Keyword).length + (if ([] : List Keyword).isEmpty then 0 else 1) < 30)) = true := by rfl)
    (hline : (apos.endLine == cpos.line) = true := by rfl) : XS X κ (.Expr (.Call (.Attribute (.Name x p) "extend" apos) [a] [] cpos) pos) (sExt i fa) := by
  obtain ⟨t, pa, ea⟩ := ha
  exact ⟨_, ps_expr (pe_bm PySem.F.plainAttrs_list PySem.F.slot_list_extend PySem.F.type_list_extend mt_extend (pe_var hN hv hd hcd) (pa_cons pa pa_nil hs1) hbase hfew hline hs1) hsw, ev_ext ea⟩
/-! defs -/
/-- the def called x keeps the promise of F, by at most j calls -/
structure Df (P : Program) (w : World) (K : PySem.W.Frag) (mg : Str → Option Value) (base : Heap) (C : Ca) (cm : Cm) (x : Str) (j : Nat) (F : DF) : Prop where
  ex : ∃ f fd ps, mg x = some (.ref f) ∧ PySem.W.keepIn K (.ref f) = true ∧ Binds K fd ps [] ∧ FnOk P w K mg base (L2N.CX P w) j f fd ps (spD ⟨K, C, cm⟩ F)
theorem e_call {x : Str} {j : Nat} {F : DF} (d : Df X.prog X.w X.K X.mg X.base κ.C κ.cm x j F) (c : Fe X κ k) (ha : XA X κ (a :: es) fr) (hj : j ≤ k := by decide) (hg : Gl X x := by rfl) (hdb : (x == ("__debug__" : Str)) = false := by decide) (he : starEach (a :: es) X.env = (false, eval a X.env) :: starEach es X.env := by rfl)
    (hpl : (backTo pos (starEach es X.env)).any (·.1) = false := by rfl) : XE X κ (.Call (.Name x p) (a :: es) [] pos) (dCall F [] fr) := by
  obtain ⟨f, fd, ps, hm, hk, hb, G⟩ := d.ex
  obtain ⟨t, pa, ea⟩ := ha
  exact ⟨_, pe_callSD G (c.room.mono hj) hg hm hk hb .nil (fun σ => L2N.passAt c.tk σ) pa hdb he hpl, ev_call ea fun _ _ => .nil⟩
end
/-- a def that lets out errors with a context -/
structure Df2 (P : Program) (w : World) (K : PySem.W.Frag) (mg : Str → Option Value) (base : Heap) (C : Ca) (cm : Cm) (x : Str) (j : Nat) (F : DF) : Prop where
  ex : ∃ f fd ps, mg x = some (.ref f) ∧ PySem.W.keepIn K (.ref f) = true ∧ Binds K fd ps [] ∧ FnOk P w K mg base (L2.CX P w) j f fd ps (spD ⟨K, C, cm⟩ F)
section
variable {X : Cx} {κ : Kx} {a : Expr} {es : List Expr} {fr : DA} {pos p : Pos} {k : Nat}
theorem e_call2 {x : Str} {j : Nat} {F : DF} (d : Df2 X.prog X.w X.K X.mg X.base κ.C κ.cm x j F) (c : Fe X κ k) (t2 : L2.Takes X κ.Wi) (ha : XA X κ (a :: es) fr) (hj : j ≤ k := by decide) (hg : Gl X x := by rfl) (hdb : (x == ("__debug__" : Str)) = false := by decide) (he : starEach (a :: es) X.env = (false, eval a X.env) :: starEach es X.env := by rfl)
    (hpl : (backTo pos (starEach es X.env)).any (·.1) = false := by rfl) : XE X κ (.Call (.Name x p) (a :: es) [] pos) (dCall F [] fr) := by
  obtain ⟨f, fd, ps, hm, hk, hb, G⟩ := d.ex
  obtain ⟨t, pa, ea⟩ := ha
  exact ⟨_, pe_callSD G (c.room.mono hj) hg hm hk hb .nil (fun σ => L2.passAt t2 σ) pa hdb he hpl, ev_call ea fun _ _ => .nil⟩
end
end DL
namespace DL
open PySem L2
section
variable {P : Pm} {H0 : En} {Wi : WX} {ta tb tc : TE} {fa fb fc : DE} {ts us : TS} {gs hs : DS} {tA : TT} {fA : DT} {tr : TA} {fr : DA}
/-- a slot's own thing is frozen -/
theorem St.frz {K : PySem.W.Frag} {C : Ca} {e : En} {σ : L2.St} {H G : Hp} {ws : Ws} {ρ : Env} {w : W} {i : Nat} {x : Val} (st : St K C e σ H G ws ρ w) (ei : ρ[i]? = some (some x)) : ∃ G2, Same G G2 ∧ St K C e σ H G2 ws (ρ.set i (some (fz x.d))) w := by
  obtain ⟨v, e1, r, hm⟩ := st.sl i x ei
  have hl : i < ρ.length := (List.getElem?_eq_some_iff.mp ei).1
  obtain ⟨G2, sg, n2, rp, f2⟩ := freeze1 st.nx0 r (fun hm a ea => by subst ea; exact st.own i x a ei hm e1) hm
  have nx : ∀ (j : Nat) y, ρ[j]? = some (some y) → j ≠ i → ∃ u, σ[j]? = some (some u) ∧ RV K G2 H ws u y ∧ (y.m = .fz ∨ y.m = .nw) := fun j y ej hj => by
    obtain ⟨u, h1, h2, h3⟩ := st.sl j y ej
    refine ⟨u, h1, h2.gmono sg fun hy a ea ga => f2 a (fun hx ev => hj ?_) ga, h3⟩
    subst ea
    have hyn : y.m = .nw := by rcases h3 with z | z; exact absurd z hy; exact z
    exact st.ap j i y x a ej ei hyn hx h1 (by rw [e1, ev])
  refine ⟨G2, sg, n2, by rw [List.length_set]; exact st.len, fun j y ej => ?_, fun j y a ej hy ea => ?_, fun j l y z a ej el hy hz aj al => ?_⟩
  · by_cases hj : i = j
    · subst hj
      rw [List.getElem?_set, if_pos rfl, if_pos hl] at ej
      cases ej
      exact ⟨v, e1, rp, .inl rfl⟩
    · rw [List.getElem?_set_ne hj] at ej
      exact nx j y ej (Ne.symm hj)
  · by_cases hj : i = j
    · subst hj
      rw [List.getElem?_set, if_pos rfl, if_pos hl] at ej
      cases ej
      cases hy
    · rw [List.getElem?_set_ne hj] at ej
      exact st.own j y a ej hy ea
  · by_cases hj : i = j
    · subst hj
      rw [List.getElem?_set, if_pos rfl, if_pos hl] at ej
      cases ej
      cases hy
    · by_cases hk : i = l
      · subst hk
        rw [List.getElem?_set, if_pos rfl, if_pos hl] at el
        cases el
        cases hz
      · rw [List.getElem?_set_ne hj] at ej
        rw [List.getElem?_set_ne hk] at el
        exact st.ap j l y z a ej el hy hz aj al
/-- stored and frozen at once (a name whose thing is never changed in place) -/
def sSetF (i : Nat) (f : DE) : DS := fun ρ w => (f ρ w).thn ρ fun x w => if keepM x then .next (ρ.set i (some (fz x.d))) w else .bad
theorem ev_setF {i : Nat} (ha : EvE P H0 Wi ta fa) : EvS P H0 Wi (tAsg ta (gName i)) (sSetF i fa) := by
  intro σ H G ws ρ w D st h
  unfold sSetF at h
  refine ha σ H G ws ρ w _ st (postE_of st h fun x w' _ h v H1 G1 ws1 n r k => ?_)
  split at h
  · rename_i hm
    obtain ⟨G2, s2, n2, rp, _⟩ := freeze1 n r k (keepM_of hm)
    exact h _ _ _ _ (st.set (x := fz x.d) n2 rp fz_nw (.inl rfl)) n2.mon
  · exact h.elim
/-- some of several values frozen -/
def frzF : List Bool → List Val → List Val
  | b :: bs, x :: xs => (if b then x else fz x.d) :: frzF bs xs
  | _, _ => []
theorem freezeSome {K : PySem.W.Frag} {C : Ca} {G H : Hp} {ws ws' : Ws} {w' : W} {H' : Hp} : ∀ {fl : List Bool} {vs : List V} {xs : List Val} {G' : Hp}, Nx K C G H ws G' H' ws' w' → RVs K G' H' ws' vs xs → NewsOk H vs xs → xs.all keepM = true → fl.length = xs.length →
    ∃ G2, Same G' G2 ∧ Nx K C G H ws G2 H' ws' w' ∧ RVs K G2 H' ws' vs (frzF fl xs) ∧ NewsOk H vs (frzF fl xs) ∧ (frzF fl xs).all keepM = true ∧ (frzF fl xs).length = xs.length ∧ ∀ b, (∀ (i : Nat) y, xs[i]? = some y → y.m = .nw → vs[i]? ≠ some (.ref b)) → G' b = none → G2 b = none
  | [], _, _, G', n, .nil, _, _, _ => ⟨G', fun _ _ h => h, n, .nil, trivial, rfl, rfl, fun _ _ h => h⟩
  | _ :: _, _, _, _, _, .nil, _, _, hl => by simp at hl
  | [], _, _, _, _, .cons _ _, _, _, hl => by simp at hl
  | b :: bs, _, _, G', n, .cons (v := v) (x := x) (vs := vs) (xs := xs) r rs, k, hk, hl => by
    rw [List.all_cons, Bool.and_eq_true] at hk
    obtain ⟨G2, s2, n2, r2, k2, a2, l2, f2⟩ := freezeSome (fl := bs) n rs k.2.2 hk.2 (by simpa using hl)
    have rh : RV K G2 H' ws' v x := r.gmono s2 fun hy a ea ga => f2 a (fun i y ey hy2 ev => by
      have hx : x.m = .nw := by rcases keepM_of hk.1 with z | z; exact absurd z hy; exact z
      exact k.2.1 hx i y ey hy2 (by rw [ev, ea])) ga
    have dist : ∀ (i : Nat) y, (frzF bs xs)[i]? = some y → y.m = .nw → ∃ z, xs[i]? = some z ∧ z.m = .nw := by
      have go : ∀ (bs : List Bool) (xs : List Val) (i : Nat) y, (frzF bs xs)[i]? = some y → y.m = .nw → ∃ z, xs[i]? = some z ∧ z.m = .nw := by
        intro bs
        induction bs with
        | nil => intro xs i y e; simp [frzF] at e
        | cons b bs ih =>
          intro xs i y e hy
          cases xs with
          | nil => simp [frzF] at e
          | cons x xs =>
            cases i with
            | zero =>
              simp only [frzF, List.getElem?_cons_zero, Option.some.injEq] at e
              subst e
              cases b with
              | true => exact ⟨x, rfl, hy⟩
              | false => cases hy
            | succ i => simpa using ih xs i y (by simpa [frzF] using e) hy
      exact go bs xs
    cases b with
    | true =>
      refine ⟨G2, s2, n2, .cons rh r2, ⟨k.1, fun hx i y ey hy => ?_, k2⟩, by simp only [frzF, List.all_cons, Bool.and_eq_true]; exact ⟨hk.1, a2⟩, by simp [frzF, l2], fun b hb gb => f2 b (fun i y ey hy ev => hb (i + 1) y (by simpa using ey) hy (by simpa using ev)) gb⟩
      obtain ⟨z, ez, hz⟩ := dist i y ey hy
      exact k.2.1 hx i z ez hz
    | false =>
      obtain ⟨G3, s3, n3, rp, f3⟩ := freeze1 n2 rh k.1 (keepM_of hk.1)
      have go : ∀ {vs : List V} {ys : List Val}, RVs K G2 H' ws' vs ys → (∀ (i : Nat) y, ys[i]? = some y → y.m = .nw → x.m = .nw → vs[i]? ≠ some v) → ys.all keepM = true → RVs K G3 H' ws' vs ys := by
        intro vs ys rs
        induction rs with
        | nil => intro _ _; exact .nil
        | @cons u y us ys ru rus ih =>
          intro hd hk2
          rw [List.all_cons, Bool.and_eq_true] at hk2
          refine .cons (ru.gmono s3 fun hy a ea ga => f3 a (fun hx ev => ?_) ga) (ih (fun i z hz => by simpa using hd (i + 1) z (by simpa using hz)) hk2.2)
          have hyn : y.m = .nw := by rcases keepM_of hk2.1 with z | z; exact absurd z hy; exact z
          exact hd 0 y rfl hyn hx (by simp [ea, ev])
      refine ⟨G3, s2.trans s3, n3, .cons rp (go r2 (fun i y ey hy hx => ?_) a2), ⟨fz_nw, fun hx => (by cases hx), k2⟩, by simp only [frzF, List.all_cons, Bool.and_eq_true]; exact ⟨rfl, a2⟩, by simp [frzF, l2], fun b hb gb => f3 b (fun hx ev => hb 0 x rfl hx (by simp [ev])) (f2 b (fun i y ey hy ev => hb (i + 1) y (by simpa using ey) hy (by simpa using ev)) gb)⟩
      obtain ⟨z, ez, hz⟩ := dist i y ey hy
      exact k.2.1 hx i z ez hz
/-- a, b = x, y; fl: whose thing is changed in place later -/
def sParF (is : List Nat) (fl : List Bool) (f : DA) : DS := fun ρ w => (f ρ w).thn ρ fun xs w => if is.length = xs.length ∧ fl.length = xs.length ∧ xs.all keepM then .next (setXs is (frzF fl xs) ρ) w else .bad
theorem ev_parF {i j : Nat} {fl : List Bool} (ha : EvA P H0 Wi tr fr) : EvS P H0 Wi (tPar i j tr) (sParF [i, j] fl fr) := by
  intro σ H G ws ρ w D st h
  unfold sParF at h
  refine ha σ H G ws ρ w _ st (postA_of st h fun xs w' _ h vs H1 G1 ws1 n r k => ?_)
  split at h
  · rename_i hc
    have hl := r.length
    obtain ⟨G2, s2, n2, r2, k2, a2, l2, _⟩ := freezeSome (fl := fl) n r k hc.2.2 hc.2.1
    have st2 := st.setAllX [i, j] n2 r2 k2 a2
    match vs, hl, st2 with
    | [v, u], hl, st2 => exact ⟨v, u, rfl, h _ _ _ _ st2 n2.mon⟩
    | [], hl, _ => rw [← hl] at hc; simp at hc
    | [_], hl, _ => rw [← hl] at hc; simp at hc
    | _ :: _ :: _ :: _, hl, _ => rw [← hl] at hc; simp at hc
  · exact h.elim
end
section
variable {X : Cx} {κ : Kx} {a b c : Expr} {fa fb fc : DE} {fA fB : DT} {es : List Expr} {fr : DA} {pos p p2 p3 : Pos} {k : Nat} {fi : DI} {gs hs : DS} {tg iter : Expr}
theorem s_setF {x : Str} (i : Nat) (c : Fe X κ k) (ha : XE X κ a fa) (hi : X.N[i]? = some x := by rfl) (hx : Loc X.env.scope x := by first | exact Or.inl rfl | exact Or.inr rfl) (hs : swapsWith a (some (.Name x p)) pos.line X.env = pure false := by rfl)
    (hf : X.fn x = true ∨ X.env.scope.names.lookup x = some .local := by first | exact .inl rfl | exact .inr rfl) : XS X κ (.Assign [.Name x p] a pos) (sSetF i fa) := by
  obtain ⟨t, pa, ea⟩ := ha
  exact ⟨_, ps_set c.nd hi hx pa hs hf, ev_setF ea⟩
theorem s_setLcF {i : Nat} {y : Str} {py spos : Pos} {elt : Expr} {ifs : List Expr} {scope : Scope} (own : List (Str × Nat)) (t : Tg) (c : Fe X κ k) (hy : X.N[i]? = some y) (hyl : X.env.scope.names.lookup y = some .local)
    (hsw : swapsWith (.ListComp elt [⟨tg, iter, ifs, 0⟩] scope pos) (some (.Name y py)) spos.line X.env = pure true) (hi : XI X κ tg iter fi) (ok : blkC X.N X.env.scope scope own = true)
    (hg : ∀ (s : Shared) (H : Hp) (C : Addr) (cl : List (Str × Addr)) (fp : List Addr), PG (X.blk s H scope (PySem.compEnvC scope cl C X.env) fp) tg (gT X.K t))
    (ht : ∀ (s : Shared) (H : Hp) (C : Addr) (cl : List (Str × Addr)) (fp : List Addr), PTs (X.blk s H scope (PySem.compEnvC scope cl C X.env) fp) ifs (cT (pm X κ) κ.e κ.no.Wi fA))
    (he : ∀ (s : Shared) (H : Hp) (C : Addr) (cl : List (Str × Addr)) (fp : List Addr), XE (X.blk s H scope (PySem.compEnvC scope cl C X.env) fp) κ.no elt fa) (hv : ∀ i ∈ tgs t, i ∈ own.map (·.2) := by decide) (hs : ∀ x, foldedSetIterable iter X.env x = pure x := by intro _; rfl) :
    XS X κ (.Assign [.Name y py] (.ListComp elt [⟨tg, iter, ifs, 0⟩] scope pos) spos) (sSetF i (dLc fi t fA fa (own.map (·.2)))) := by
  obtain ⟨ti, pi, ei⟩ := hi
  exact ⟨_, ps_setLc c.calm c.nd hy hyl hsw pi (blkOk_by ok) hg ht (fun s H C cl fp => (he s H C cl fp).can) hs, ev_setF (ev_lc ei ev_cT ev_cE hv)⟩
theorem s_parF {x y : Str} {px py pt pt2 : Pos} {kt k2 : Nat} (i j : Nat) (fl : List Bool) (c : Fe X κ k) (ha : XA X κ [a, b] fr) (hi : X.N[i]? = some x := by rfl) (hj : X.N[j]? = some y := by rfl) (hij : i ≠ j := by decide) (hx : X.env.scope.names.lookup x = some .local := by rfl) (hy : X.env.scope.names.lookup y = some .local := by rfl)
    (hw : swappedStores [.Tuple [.Name x px, .Name y py] kt pt] (.Tuple [a, b] k2 pt2) X.env = pure (some [x, y]) := by rfl) (hs : swapsWithSole [.Tuple [.Name x px, .Name y py] kt pt] (.Tuple [a, b] k2 pt2) pos.line X.env = pure false := by rfl) :
    XS X κ (.Assign [.Tuple [.Name x px, .Name y py] kt pt] (.Tuple [a, b] k2 pt2) pos) (sParF [i, j] fl fr) := by
  obtain ⟨t, pa, ea⟩ := ha
  exact ⟨_, ps_par c.calm c.nd hi hj hij hx hy pa hw hs, ev_parF ea⟩
end
/-! ### the law's end -/
/-- from what the law's def computes upon the script to the law; T: the tables of code objects -/
theorem law_sp {K : PySem.W.Frag} {C : Addr} {T : List (Addr × Str)} {cm : Cm} {F : DF} {H : Hp} {a : Addr} {ns : List Int} (hF : ∃ m w, F [.scr ns] W0 = .ok ⟨m, .bl true⟩ w) (hT : LamX.Tabs T H) (hS : SqL K H a (ns.map V.int)) : spD ⟨K, ⟨C, T⟩, cm⟩ F [.ref a] H (fun v _ => v = .bl true) fun _ _ _ => False := by
  have key : ∃ G : Hp, Sm G H ∧ SqL K G a (ns.map V.int) ∧ (∀ b o, G b = some o → Nt o) ∧ ∀ b o u, H b = some (.frz o u) → G b = some (.frz o u) := by
    have sub : ∀ p : HO → Bool, (∀ o, p o = true → Nt o) → (∀ o u, p (.frz o u) = true) → ∃ G : Hp, Sm G H ∧ (∀ b o, H b = some o → p o = true → G b = some o) ∧ (∀ b o, G b = some o → Nt o) ∧ ∀ b o u, H b = some (.frz o u) → G b = some (.frz o u) := fun p h1 h2 => by
      have at_ : ∀ b o, (H b).filter p = some o ↔ H b = some o ∧ p o = true := fun b o => by rw [Option.filter_eq_some_iff]
      exact ⟨fun b => (H b).filter p, fun b o e => .inl ((at_ b o).mp e).1, fun b o e q => (at_ b o).mpr ⟨e, q⟩, fun b o e => h1 o ((at_ b o).mp e).2, fun b o u e => (at_ b _).mpr ⟨e, h2 o u⟩⟩
    obtain ⟨G, g1, g2, g3, g4⟩ := sub (fun o => match o with | .frz _ _ => true | .lst _ => true | _ => false) (fun o h => by cases o <;> first | exact nt_lst | exact nt_frz | cases h) (fun _ _ => rfl)
    refine ⟨G, g1, ?_, g3, g4⟩
    rcases hS with (h | ⟨o, h⟩) | h
    · exact .inl (.inl (g2 _ _ h rfl))
    · exact .inl (.inr ⟨o, g2 _ _ h rfl⟩)
    · exact .inr h
  obtain ⟨G, sG, z, nt, hU⟩ := key
  obtain ⟨m, w, e⟩ := hF
  refine ⟨G, ⟨0, [], none⟩, W0, [.scr ns], sG, ⟨.nil, rfl, List.nodup_nil, fun a h => by simp [regs, regs0] at h, hT, nt, fun a o u e _ => .inl (hU a o u e), rfl, by intro _ _ _ z; cases z⟩, .cons (.scr z) .nil, ?_⟩
  rw [e]
  exact fun v H' G' ws' n r _ => rv_bl r
theorem cx_no {P : Program} {w : World} {H : Hp} {s : Shared} {e : Value} {s' : Shared} (h : L2.CX P w [] H s (fun _ _ _ => False) e s') : False := by
  obtain ⟨_, _, _, _, _, _, _, _, _, _, _, _, z⟩ := h
  exact z
end DL
namespace DL
open PySem L2
abbrev gSub : Val → Val → W → R Val := gI0 fun i j => .int (i - j)
noncomputable abbrev gDiv : Val → Val → W → R Val := gI CDivW fun i j => .int (i / j)
abbrev gMod : Val → Val → W → R Val := gI (fun _ j => 0 < j) fun i j => .int (i % j)
noncomputable abbrev gPow : Val → Val → W → R Val := gI CPow fun i j => .int (i ^ j.toNat)
def gIsiT (T : String) : Val → W → R Val := fun y w => match y.d with
  | .obj _ => .bad
  | .exc _ => .bad
  | .dK _ => .bad
  | .dT _ => .bad
  | _ => gIsi T y w
theorem e_isiT (T : String) {X : Cx} {κ : Kx} {a : Expr} {fa : DE} {pos p p2 : Pos} {x : Str} (hm : X.mg "isinstance" = none) (hmT : X.mg x = none) (hv : bootBuiltins x = some (.type T)) (ha : XE X κ a fa) (hg : Gl X "isinstance" := by rfl) (hgT : Gl X x := by rfl)
    (hx : x ≠ "__name__" := by decide) (hd : (x == ("__debug__" : Str)) = false := by decide) (hs : starEach [a, .Name x p2] X.env = (false, eval a X.env) :: starEach [.Name x p2] X.env := by rfl) (hs2 : starEach [.Name x p2] X.env = (false, eval (.Name x p2) X.env) :: starEach [] X.env := by rfl)
    (hpl : (backTo pos (starEach [.Name x p2] X.env)).any (·.1) = false := by rfl) : XE X κ (.Call (.Name "isinstance" p) [a, .Name x p2] [] pos) (dUn (gIsiT T) fa) := e_isi T hm hmT hv ha hg hgT hx hd hs hs2 hpl
/-- a def as it stands behind the top -/
def Fnx (K : PySem.W.Frag) (mg : Str → Option Value) (x : Str) (st : Stmt) (ps : List Str) : Prop := ∃ f fd, Fun K x x st f fd ∧ mg x = some (.ref f) ∧ Binds K fd ps []
theorem df_mk {P : Program} {w : World} {K : PySem.W.Frag} {mg : Str → Option Value} {base : Heap} {C : Ca} {cm : Cm} {x : Str} {st : Stmt} {N ps : List Str} {k : Nat} {g : DS} (F : Fnx K mg x st ps) (S : FnScope N ps (defScope st))
    (hb : ∀ (f : Addr) (cdv : Value) (A : Around) (outer : List PySem.Env) (s : Shared) (H : Hp) (E : XK) (e : En), Fc (cxOf (L2N.CX P w) P w K mg base N x (defScope st) f cdv A outer s H E) ⟨C, cm, e, fun cls d _ H' => E cls d H'⟩ k →
      XB (cxOf (L2N.CX P w) P w K mg base N x (defScope st) f cdv A outer s H E) ⟨C, cm, e, fun cls d _ H' => E cls d H'⟩ (defBody st) g) : Df P w K mg base C cm x (k + 1) (fnD ps.length N.length g) := by
  obtain ⟨f, fd, F, hm, hB⟩ := F
  exact ⟨f, fd, ps, hm, F.kp, hB, def_ok F S fun cdv A outer s H E e hr => hb f cdv A outer s H E e ⟨rfl, S.nd, hr, L2N.takes_of rfl rfl rfl rfl, passes_of rfl⟩⟩
theorem df_mk2 {P : Program} {w : World} {K : PySem.W.Frag} {mg : Str → Option Value} {base : Heap} {C : Ca} {cm : Cm} {x : Str} {st : Stmt} {N ps : List Str} {k : Nat} {g : DS} (F : Fnx K mg x st ps) (S : FnScope N ps (defScope st))
    (hb : ∀ (f : Addr) (cdv : Value) (A : Around) (outer : List PySem.Env) (s : Shared) (H : Hp) (E : XK) (e : En), Fc (cxOf (L2.CX P w) P w K mg base N x (defScope st) f cdv A outer s H E) ⟨C, cm, e, fun cls d _ H' => E cls d H'⟩ k → L2.Takes (cxOf (L2.CX P w) P w K mg base N x (defScope st) f cdv A outer s H E) (fun cls d _ H' => E cls d H') →
      XB (cxOf (L2.CX P w) P w K mg base N x (defScope st) f cdv A outer s H E) ⟨C, cm, e, fun cls d _ H' => E cls d H'⟩ (defBody st) g) : Df2 P w K mg base C cm x (k + 1) (fnD ps.length N.length g) := by
  obtain ⟨f, fd, F, hm, hB⟩ := F
  exact ⟨f, fd, ps, hm, F.kp, hB, def_ok F S fun cdv A outer s H E e hr => hb f cdv A outer s H E e ⟨rfl, S.nd, hr, tkN (takes_of rfl rfl rfl rfl), passes_of rfl⟩ (takes_of rfl rfl rfl rfl)⟩
end DL
namespace DL
open PySem L2
theorem cst_int {K : PySem.W.Frag} {mg : Str → Option Value} {x : Str} {i : Int} {t : Tok} (h : mg x = some (.int i t)) : Cst K mg x (.int i) := ⟨_, .int i, h, ⟨t, rfl⟩, fun _ _ => .int _⟩
theorem cst_str {K : PySem.W.Frag} {mg : Str → Option Value} {x : Str} {i : Str} {t : Tok} (h : mg x = some (.str i t)) : Cst K mg x (.str i) := ⟨_, .str i, h, ⟨t, rfl⟩, fun _ _ => .str _⟩
end DL
namespace DL
open PySem L2
/-! ### sorted(xs): any plain data -/
noncomputable def leD : D → D → Bool := PySem.W.dataLe false toP
structure SOk (ds : List D) : Prop where
  pl : ds.all (plN 9) = true
  al : PySem.W.AllAlike (ds.map toP)
  so : PySem.W.Sortable (ds.map toP)
  sz : ds.length ≤ sizeLine
noncomputable instance (ds : List D) : Decidable (SOk ds) := Classical.propDecidable _
noncomputable def gSorted : List Val → W → R Val := fun xs w => match xs with
  | [x] => match x.d with
    | .lst ds => if SOk ds then .ok ⟨.nw, .lst (ds.mergeSort leD)⟩ w else .bad
    | _ => .bad
  | _ => .bad
theorem gSorted_nx (x : List Val) (w : W) (e : Xc) (w' : W) : gSorted x w ≠ .ex e w' := by
  unfold gSorted
  split <;> (try split) <;> (try split) <;> exact fun h => nomatch h
/-- its reading: the items and what they stand for, side by side -/
def rSortD (K : PySem.W.Frag) : List V → Hp → VK → Prop := fun vs H Q => ∃ (a : Addr) (xs : List V) (ds : List D), vs = [.ref a] ∧ SqL K H a xs ∧ xs.length = ds.length ∧ DpAll K H xs (toPs ds) ∧ SOk ds ∧ PyData.depthAll (toPs ds) ≤ 9 ∧
  ∀ p, H p = none → Q (.ref p) (upd H p (.lst (((xs.zip ds).mergeSort (PySem.W.dataLe false fun z => toP z.2)).map (·.1))))
theorem dpAll_each {X : Cx} {pins : List (Addr × Obj)} {σ : L2.St} {H : Hp} {s : Shared} (I : Inv X pins σ H s) : ∀ {xs : List V} {ds : List D} {us : List Value}, DpAll X.K H xs (toPs ds) → Vals xs us → PySem.W.EachIs (fun v (z : V × D) => RelV z.1 v) us (xs.zip ds) ∧ PySem.W.EachIs (fun v (z : V × D) => ∃ as, Reads s.heap v (toP z.2) as) us (xs.zip ds)
  | [], [], _, _, r => by cases r; exact ⟨.nil, .nil⟩
  | [], d :: ds, _, h, _ => by rw [toPs] at h; cases h
  | x :: xs, [], _, h, _ => by rw [toPs] at h; cases h
  | x :: xs, d :: ds, _, h, r => by
    rw [toPs] at h
    cases h with
    | cons h1 h2 =>
      cases r with
      | cons r1 r2 =>
        obtain ⟨a, b⟩ := dpAll_each I h2 r2
        exact ⟨.cons r1 a, .cons (Dp.reads I _ _ _ h1 r1) b⟩
theorem each_vals : ∀ {us : List Value} {zs : List (V × D)}, PySem.W.EachIs (fun v (z : V × D) => RelV z.1 v) us zs → Vals (zs.map (·.1)) us
  | _, _, .nil => .nil
  | _, _, .cons h t => .cons h (each_vals t)
theorem depth_mem : ∀ {ds : List D} {d : D}, d ∈ ds → (toP d).depth ≤ PyData.depthAll (toPs ds)
  | x :: ds, d, h => by
    rw [toPs, PyData.depthAll]
    rcases List.mem_cons.mp h with rfl | h
    · exact Nat.le_max_left _ _
    · exact Nat.le_trans (depth_mem h) (Nat.le_max_right _ _)
theorem map_zip_snd {α β γ : Type} (f : β → γ) : ∀ (xs : List α) (ds : List β), xs.length = ds.length → (xs.zip ds).map (fun z => f z.2) = ds.map f
  | [], [], _ => rfl
  | [], _ :: _, h => by simp at h
  | _ :: _, [], h => by simp at h
  | x :: xs, d :: ds, h => by simp [map_zip_snd f xs ds (by simpa using h)]
theorem cr_sortD {X : Cx} (hu : X.A.units + 64 < cLine) : CallR X (.builtin "sorted") (rSortD X.K) := by
  intro pins s σ H vs us Q I r h
  obtain ⟨a, xs, ds, rfl, hs, hlen, hd, ok, hdep, q⟩ := h
  obtain ⟨its, rv, hl, _⟩ := I.list hs
  rw [Vals.ref1 r]
  obtain ⟨e1, e2⟩ := dpAll_each I hd rv
  have hz : (xs.zip ds).length = ds.length := by rw [List.length_zip, hlen, Nat.min_self]
  have hm := map_zip_snd toP xs ds hlen
  refine PySem.W.sorted_data hl.isList e1 e2 (by rw [hm]; exact ok.al) (by rw [hm]; exact ok.so) (by rw [hz]; exact ok.sz) (fun z hz => ?_) fun out ho hout => ?_
  · have : z.2 ∈ ds := (List.of_mem_zip hz).2
    have := depth_mem this
    omega
  · obtain ⟨ep, he'⟩ := PyProof.Rows.sortedAll_at s.heap its out.toArray
    have hv := each_vals hout
    have hn : (((xs.zip ds).mergeSort (PySem.W.dataLe false fun z => toP z.2)).map (·.1)).length ≤ sizeLine := by
      rw [List.length_map, List.length_mergeSort, hz]
      exact ok.sz
    exact ⟨.ref _, upd H (s.heap.objs.size + 1) (.lst (((xs.zip ds).mergeSort (PySem.W.dataLe false fun z => toP z.2)).map (·.1))), I.laid (t' := s.toks) (fun _ _ => PyProof.Rows.sortedAll_old) (Nat.le_succ _) ⟨hn, out, ep, hv, he'⟩, rfl, q _ (I.hok.fresh (Nat.le_succ _))⟩
theorem reps_zip {K : PySem.W.Frag} {G : Hp} {ι : List Addr} : ∀ {zs : List (V × D)}, (∀ z ∈ zs, Rep K G ι z.1 z.2) → Reps K G ι (zs.map (·.1)) (zs.map (·.2))
  | [], _ => .nil
  | z :: zs, h => .cons (h z List.mem_cons_self) (reps_zip fun y hy => h y (List.mem_cons_of_mem _ hy))
theorem zip_reps {K : PySem.W.Frag} {G : Hp} {ι : List Addr} : ∀ {vs : List V} {ds : List D}, Reps K G ι vs ds → ∀ z ∈ vs.zip ds, Rep K G ι z.1 z.2
  | _, _, .nil, z, h => by simp at h
  | _, _, .cons a b, z, h => by
    rw [List.zip_cons_cons] at h
    rcases List.mem_cons.mp h with rfl | h
    · exact a
    · exact zip_reps b z h
section
variable {P : Pm}
theorem rc_sortD : RCall P (rSortD P.K) gSorted := by
  intro H G ws w vs xs Q s r hx h
  match xs, hx, h with
  | [⟨m, d⟩], hx, h =>
    obtain ⟨v, rfl, hv⟩ := rvs1 hx
    cases d <;> try exact h.elim
    rename_i ds
    obtain ⟨a, vs, rfl, q1, r1⟩ := rv_lst s hv
    unfold gSorted at h
    dsimp only at h
    split at h
    · rename_i ok
      obtain ⟨b1, b2, b3⟩ := reps_pl s r1 ok.pl
      refine ⟨a, vs, ds, rfl, SqL.of q1, r1.length, b1, ok, b3, fun p hp => ?_⟩
      have hz := map_zip_snd (id : D → D) vs ds r1.length
      have e : ((vs.zip ds).mergeSort (PySem.W.dataLe false fun z => toP z.2)).map (·.2) = ds.mergeSort leD := by
        have := PySem.W.sort_maps (r := PySem.W.dataLe false fun z : V × D => toP z.2) (s := leD) (fun z : V × D => z.2) (l := vs.zip ds) (fun a _ b _ => rfl)
        rw [this]
        congr 1
        simpa using hz
      rw [← e] at h
      exact nw_q s r h hp (reps_zip fun z hz => zip_reps r1 z (List.mem_mergeSort.mp hz))
    · exact h.elim
end
end DL
namespace DL
open PySem L2
/-! ### min(xs, default=d), max(xs, default=d): ints -/
theorem dp_ints {X : Cx} {pins : List (Addr × Obj)} {σ : L2.St} {H : Hp} {s : Shared} (I : Inv X pins σ H s) {ns : List Int} {us : List Value} (r : Vals (ns.map V.int) us) : ∃ as, ReadsAll s.heap us (ns.map PyData.int) as := Dp.readsAll I _ _ _ (dpAll_ints ns) r
theorem alike_all_ints (ns : List Int) : PySem.W.AlikeAll (ns.map PyData.int) := by
  refine ⟨fun x hx y hy => ?_, fun x hx => ?_⟩
  · obtain ⟨a, _, rfl⟩ := List.mem_map.mp hx
    obtain ⟨b, _, rfl⟩ := List.mem_map.mp hy
    rfl
  · obtain ⟨a, _, rfl⟩ := List.mem_map.mp hx
    exact fun h => nomatch h
theorem foldl_min : ∀ (ns : List Int) (n : Int), ns.foldl min n = ns.foldl (fun m x => if x < m then x else m) n
  | [], _ => rfl
  | x :: ns, n => by
    rw [List.foldl_cons, List.foldl_cons, foldl_min ns]
    congr 1
    omega
theorem cr_minD {X : Cx} (hc : X.calm = true) (hu : X.A.units + 64 < cLine) : CallRK X (.builtin "min") [Str.ofString "default"] (fun vs zs H Q => ∃ (a : Addr) (ns : List Int) (d : Int), vs = [.ref a] ∧ zs = [.int d] ∧ SqL X.K H a (ns.map V.int) ∧ Q (.int (match ns with | [] => d | n :: r => minI (n :: r))) H) := by
  intro pins s σ H vs zs us ws Q I r rz h
  obtain ⟨a, ns, d, rfl, rfl, hs, q⟩ := h
  obtain ⟨its, rv, hl, _⟩ := I.list hs
  obtain rfl := Vals.ref1 r
  obtain ⟨w1, rfl, t, rfl⟩ := vals1 rz
  obtain ⟨as, ra⟩ := dp_ints I rv
  refine PySem.W.min_list_default (I.ok.hd hc) hl.isList ra (alike_all_ints ns) (by rw [PySem.W.depth_ints]; omega) (fun e h' tk hk => ?_) fun y ys i v h' tk bs e hv hr hk => ?_
  · cases ns with
    | nil => exact ⟨.int d, H, I.kept hk, ⟨t, rfl⟩, q⟩
    | cons n r => cases e
  · cases ns with
    | nil => cases e
    | cons n r =>
      rw [List.map_cons] at e
      injection e with e1 e2
      subst e1 e2
      rw [PySem.W.minD_ints, foldl_min] at hr
      cases hr with
      | int i t => exact ⟨.int _, H, I.kept hk, ⟨t, rfl⟩, q⟩
def gMinD : Val → Val → W → R Val := fun x y w => match x.d, y.d with
  | .lst ds, .int d => match intsOf ds with
    | some ns => .ok (fz (.int (match ns with | [] => d | n :: r => minI (n :: r)))) w
    | none => .bad
  | _, _ => .bad
section
variable {P : Pm}
theorem rop_minD : ROp P (fun x y H Q => ∃ (a : Addr) (ns : List Int) (d : Int), [x] = [.ref a] ∧ [y] = [.int d] ∧ SqL P.K H a (ns.map V.int) ∧ Q (.int (match ns with | [] => d | n :: r => minI (n :: r))) H) gMinD := by
  intro H G ws w vx vy x y Q s r hx hy h
  obtain ⟨m, d⟩ := x
  obtain ⟨m2, d2⟩ := y
  cases d <;> try exact h.elim
  cases d2 <;> try exact h.elim
  have ey := rv_int hy
  subst ey
  obtain ⟨a, vs, rfl, q1, r1⟩ := rv_lst s hx
  unfold gMinD at h
  dsimp only at h
  split at h
  · rename_i ns hn
    rw [intsOf_eq hn] at r1
    rw [r1.of_ints] at q1
    exact ⟨a, ns, _, rfl, rfl, SqL.of q1, fz_q s r h (.int _)⟩
  · exact h.elim
theorem gMinD_nx (x y : Val) (w : W) (e : Xc) (w' : W) : gMinD x y w ≠ .ex e w' := by
  unfold gMinD
  split <;> (try split) <;> exact fun h => nomatch h
end
section
variable {X : Cx} {κ : Kx} {k : Nat} {a b : Expr} {fa fb : DE} {fr : DA} {p pos kpos : Pos}
theorem e_minD (c : Fe X κ k) (hm : X.mg "min" = none) (ha : XE X κ a fa) (hb : XE X κ b fb) (hg : Gl X "min" := by rfl) (hs : starEach [a] X.env = (false, eval a X.env) :: starEach [] X.env := by rfl)
    (he : backTo pos (starEach [a] X.env) = (false, eval a X.env) :: backTo pos (starEach [] X.env) := by rfl) (hpl : (backTo pos (starEach [a] X.env)).any (·.1) = false := by rfl) :
    XE X κ (.Call (.Name "min" p) [a] [⟨some "default", b, kpos⟩] pos) (dOp gMinD fa fb) := by
  obtain ⟨ta, pa, ea⟩ := ha
  obtain ⟨tb, pb, eb⟩ := hb
  exact ⟨_, pe_callBK (cr_minD c.calm c.u64) hg hm (by decide +kernel) (pa_cons pa pa_nil hs) (pk_cons pb pk_nil) (by decide) (by decide) he hpl rfl rfl rfl, ev_op ea eb rop_minD gMinD_nx⟩
theorem e_sorted (c : Fe X κ k) (hm : X.mg "sorted" = none) (ha : XA X κ [a] fr) (hg : Gl X "sorted" := by rfl) (he : starEach [a] X.env = (false, eval a X.env) :: starEach [] X.env := by rfl) : XE X κ (.Call (.Name "sorted" p) [a] [] pos) (dCB gSorted fr) := e_cb (cr_sortD c.u64) rc_sortD gSorted_nx hm (by decide +kernel) ha hg (by decide) (by decide) he
end
end DL
namespace DL
open PySem L2 PyProof.Rows
/-! ### xs.remove(x): texts, x among them -/
end DL
/-! Errors of own classes: raised, caught, asked for their class. -/
namespace DL
open PySem L2
/-! ### the classes of errors; A: their base, over ValueError -/
structure ErrC (K : PySem.W.Frag) (A C : Addr) : Prop where
  cls : ∃ cd, PySem.W.clsIn K C = some cd ∧ cd.mro = [.ref C, .ref A, .type "ValueError", .type "Exception", .type "BaseException", .type "object"] ∧ cd.hasDict = true
  ty : PySem.W.typeIn K (.ref C) = some (.type "type")
  kp : PySem.W.keepIn K (.ref C) = true
  ga : PySem.W.findIn K (.ref C) "__getattribute__" = some (some (.builtin "BaseException.__getattribute__"))
  gt : PySem.W.findIn K (.ref C) "__getattr__" = some none
  ca : PySem.W.findIn K (.ref C) "__class__" = some (some (.builtin "object.__class__"))
/-- the classes of errors that the top has written -/
structure Ers (K : PySem.W.Frag) (mg : Str → Option Value) (cm : Cm) (A : Addr) : Prop where
  inj : ∀ x y a, cm x = some a → cm y = some a → x = y
  ne : ∀ x, cm x ≠ some A
  cl : ∀ x C, cm x = some C → ErrC K A C
  air : mg "AirError" = some (.ref A)
  airC : ∃ cd, PySem.W.clsIn K A = some cd ∧ cd.mro = [.ref A, .type "ValueError", .type "Exception", .type "BaseException", .type "object"] ∧ cd.hasDict = true
  airT : PySem.W.typeIn K (.ref A) = some (.type "type")
  sp : PySem.W.specialIn K (.builtin "object.__class__") "__get__" = some (some (.builtin "getset_descriptor.__get__"))
  tk : PySem.W.takesIn K (.builtin "object.__class__") = some true
section
variable {K : PySem.W.Frag} {A C : Addr}
theorem ErrC.sub (h : ErrC K A C) (v : Value) : PySem.W.subIn K (.ref C) v = some ([Value.ref C, .ref A, .type "ValueError", .type "Exception", .type "BaseException", .type "object"].contains v) := by
  obtain ⟨cd, h1, h2, _⟩ := h.cls
  show PySem.W.mroIn K C v = _
  unfold PySem.W.mroIn
  rw [h1, Option.bind_some, h2]
  rfl
theorem ErrC.base (h : ErrC K A C) : PySem.W.subIn K (.ref C) (.type "BaseException") = some true := (h.sub _).trans (by
  congr 1)
theorem ErrC.dict (h : ErrC K A C) : PySem.W.hasDictIn K C = true := by
  obtain ⟨cd, h1, _, h3⟩ := h.cls
  unfold PySem.W.hasDictIn
  rw [h1]
  exact h3
theorem ErrC.one (h : ErrC K A C) {C' : Addr} (h1 : (PySem.W.clsIn K C').isSome = true) (h2 : PySem.W.typeIn K (.ref C') = some (.type "type")) : PySem.W.kitOne K (.ref C) (.ref C') = some (decide (C' = C) || decide (C' = A)) := by
  unfold PySem.W.kitOne
  by_cases e : C = C'
  · subst e
    simp
  · have n1 : (Value.ref C == Value.ref C') = false := Bool.eq_false_iff.mpr fun q => e (Value.ref.inj (beq_iff_eq.mp q))
    rw [n1, if_neg Bool.false_ne_true]
    unfold PySem.W.kitCls
    dsimp only
    rw [h1, h2, h.sub]
    rw [if_pos (by rfl)]
    have n2 : (Value.ref C' == Value.ref C) = false := Bool.eq_false_iff.mpr fun q => e (Value.ref.inj (beq_iff_eq.mp q)).symm
    by_cases ea : C' = A
    · subst ea
      simp [List.contains_cons]
    · have n3 : (Value.ref C' == Value.ref A) = false := Bool.eq_false_iff.mpr fun q => ea (Value.ref.inj (beq_iff_eq.mp q))
      simp only [List.contains_cons, n2, n3, List.contains_nil]
      simp [Ne.symm e, ea]
theorem ErrC.oneV (h : ErrC K A C) : PySem.W.kitOne K (.ref C) (.type "ValueError") = some true := by
  unfold PySem.W.kitOne
  rw [if_neg (by simp)]
  unfold PySem.W.kitCls
  dsimp only
  rw [if_pos (by decide +kernel), h.sub]
  simp
theorem ErrC.exc {mg : Str → Option Value} {cm : Cm} (h : ErrC K A C) (E : Ers K mg cm A) : L2.ExcC K C :=
  ⟨h.ga, h.gt, h.base, h.dict, h.ca, E.sp, E.tk, (h.sub (.type "object")).trans (by simp)⟩
theorem Ers.catch {mg : Str → Option Value} {cm : Cm} (E : Ers K mg cm A) (h : ErrC K A C) : PySem.W.exmOne K (.ref C) (.ref A) = some true := by
  obtain ⟨cd, h1, h2, h3⟩ := E.airC
  refine PySem.W.exm_ref ?_ ?_ E.airT ((h.sub _).trans (by simp))
  · show PySem.W.mroIn K A _ = _
    unfold PySem.W.mroIn
    rw [h1, Option.bind_some, h2]
    simp
  · unfold PySem.W.hasDictIn
    rw [h1]
    exact h3
end
/-- some base -/
def ErsX (K : PySem.W.Frag) (mg : Str → Option Value) (cm : Cm) : Prop := ∃ A, Ers K mg cm A
/-- .. by a list of names and places -/
abbrev cmL (t : List (String × Addr)) : Cm := fun x => t.lookup x
theorem lookup_mem {t : List (String × Addr)} {x : String} {a : Addr} (h : t.lookup x = some a) : (x, a) ∈ t := by
  induction t with
  | nil => cases h
  | cons p t ih =>
    obtain ⟨y, b⟩ := p
    rw [List.lookup_cons] at h
    split at h
    · rename_i e
      have := beq_iff_eq.mp e
      subst this
      cases h
      exact List.mem_cons_self
    · exact List.mem_cons_of_mem _ (ih h)
theorem nodup_snd {t : List (String × Addr)} (h : (t.map (·.2)).Nodup) {x y : String} {a : Addr} (hx : (x, a) ∈ t) (hy : (y, a) ∈ t) : x = y := by
  induction t with
  | nil => cases hx
  | cons p t ih =>
    rw [List.map_cons, List.nodup_cons] at h
    rcases List.mem_cons.mp hx with e1 | m1
    · rcases List.mem_cons.mp hy with e2 | m2
      · rw [← e1] at e2; exact (Prod.mk.inj e2).1.symm
      · exact absurd (List.mem_map.mpr ⟨(y, a), m2, by rw [← e1]⟩) h.1
    · rcases List.mem_cons.mp hy with e2 | m2
      · exact absurd (List.mem_map.mpr ⟨(x, a), m1, by rw [← e2]⟩) h.1
      · exact ih h.2 m1 m2
theorem ers_mk {K : PySem.W.Frag} {mg : Str → Option Value} {A : Addr} {t : List (String × Addr)} (nd : (A :: t.map (·.2)).Nodup) (h : ∀ p ∈ t, ErrC K A p.2) (a1 : mg "AirError" = some (.ref A)) (a2 : ∃ cd, PySem.W.clsIn K A = some cd ∧ cd.mro = [.ref A, .type "ValueError", .type "Exception", .type "BaseException", .type "object"] ∧ cd.hasDict = true)
    (a3 : PySem.W.typeIn K (.ref A) = some (.type "type")) (a4 : PySem.W.specialIn K (.builtin "object.__class__") "__get__" = some (some (.builtin "getset_descriptor.__get__"))) (a5 : PySem.W.takesIn K (.builtin "object.__class__") = some true) : ErsX K mg (cmL t) := by
  rw [List.nodup_cons] at nd
  exact ⟨A, fun x y a hx hy => nodup_snd nd.2 (lookup_mem hx) (lookup_mem hy), fun x hx => nd.1 (List.mem_map.mpr ⟨(x, A), lookup_mem hx, rfl⟩), fun x C hx => h _ (lookup_mem hx), a1, a2, a3, a4, a5⟩
theorem cmL_names {t : List (String × Addr)} {c : String} (h : (cmL t c).isSome) : c ∈ t.map (·.1) := by
  obtain ⟨a, e⟩ := Option.isSome_iff_exists.mp h
  exact List.mem_map.mpr ⟨_, lookup_mem e, rfl⟩
/-! ### raise X('..') -/
structure Rcl (K : PySem.W.Frag) (mg : Str → Option Value) (cm : Cm) (x : String) : Prop where
  ex : ∃ C, mg x = some (.ref C) ∧ cm x = some C ∧ PySem.W.excIn K C [.type "ValueError", .type "Exception", .type "BaseException", .type "object"] "ValueError.__new__" = true
def sRaise (c : String) : DS := fun ρ w => .ex ⟨c, []⟩ ρ w
theorem s_raise {X : Cx} {κ : Kx} {k : Nat} {x : String} {m : Str} {j : Nat} {p p2 pos pos2 : Pos} (c : Fe X κ k) (E : ErsX X.K X.mg κ.cm) (r : Rcl X.K X.mg κ.cm x) (hg : Gl X x := by rfl) (hdb : ((x : Str) == ("__debug__" : Str)) = false := by decide) :
    XS X κ (.Raise (some (.Call (.Name x p) [.Constant (.str m) j p2] [] pos)) none pos2) (sRaise x) := by
  obtain ⟨C, h1, h2, h3⟩ := r.ex
  obtain ⟨A, E⟩ := E
  have hc := E.cl x C h2
  refine ⟨_, L2N.ps_raise c.calm c.tk (L2N.pmk_own PySem.F.excBase_ValueError h3 h1 hc.kp (raises_own hc.base hc.ty) hg hdb), ?_⟩
  intro σ H G ws ρ w D st h
  exact h (.ref C) none σ H G ws st ⟨C, h2, rfl, .inl ⟨rfl, rfl⟩⟩
end DL
/-! A def called in an except suite with the error that is handled. -/
namespace DL
open PySem PySem.Spec PyProof.Rows L2 L2H
abbrev Xz : L2.CXT := fun _ _ _ _ _ _ => False
abbrev Ez : XK := fun _ _ _ => False
/-- the def at f, called while the error p is handled; spx: its promise, of the error's place, class and dict -/
def HotOk (P : Program) (w : World) (K : PySem.W.Frag) (mg : Str → Option Value) (base : Heap) (k : Nat) (f : Addr) (fd : FuncData) (ps : List Str) (spx : Addr → Value → Option Addr → List V → Hp → VK → Prop) : Prop :=
  ∀ (A : Around) (outer : List PySem.Env) (s : Shared) (H : Hp) (args : Args) (us : List Value) (vs : List V) (Q : VK) (p : Addr × Obj) (cls : Value) (d : Option Addr), RoomH k A → PinOk outer H s p → Zc cls d p.2 → (∃ fs, p.2.data = .fields fs) →
    Env0 P w K mg base A outer s H → BindsTo s fd args (ps.zip us) → Vals vs us → vs.length = ps.length → spx p.1 cls d vs H Q → codeAny (model P w) A (.call (.ref f) args) (CR Xz outer P w H s Q Ez) s
/-- the context of such a body -/
def HotX (X : Cx) (p : Addr × Obj) (cls : Value) (d : Option Addr) : Prop := p ∈ X.pn ∧ Zc cls d p.2 ∧ ∃ fs, p.2.data = .fields fs
theorem hot_of {P : Program} {w : World} {K : PySem.W.Frag} {mg : Str → Option Value} {base : Heap} {k : Nat} {x qual : Str} {st : Stmt} {f : Addr} {fd : FuncData} {N ps : List Str} {spx : Addr → Value → Option Addr → List V → Hp → VK → Prop} (F : Fun K x qual st f fd) (S : FnScope N ps (defScope st))
    (hb : ∀ (cdv : Value) (A : Around) (outer : List PySem.Env) (s : Shared) (H : Hp) (vs : List V) (Q : VK) (p : Addr × Obj) (cls : Value) (d : Option Addr), RoomH k (A.deeper (envOfC qual (defScope st) s.heap.objs.size f cdv)) → HotX (cxH Xz P w K mg base N qual (defScope st) f cdv A outer s H Ez p) p cls d → spx p.1 cls d vs H Q →
      ∃ t, PSs (cxH Xz P w K mg base N qual (defScope st) f cdv A outer s H Ez p) (defBody st) t ∧ t { nx := fun _ H' => Q .non H', rt := Q } (L2.start N vs) H) : HotOk P w K mg base (k + 1) f fd ps spx := by
  obtain ⟨oc, od, kV, doc, pm, an, cdv, ct, osl, rfl, lk, hcd⟩ := F.ex
  intro A outer s H args us vs Q p cls d hr hp hz hf e0 hbi rv hl hsp
  have inK : K.In s.heap := e0.mod.kin.keeps fun b o z => (e0.bs b o z).1
  have lim : s.heap.NoLimit := e0.mod.nolimit.keeps fun b o z => (e0.bs b o z).1
  refine codeAny_call_function hr.depth (inK _ _ lk) rfl S.co S.gen rfl (PySem.W.codeRec_of inK hcd) (hbi _ _ _ _ ?_)
  refine wpAny_newFunctionEnv_cells S.kind ?_ ?_
  · rintro ⟨n, u⟩ hn
    rcases S.par n (List.of_mem_zip hn).1 with z | z
    · exact .inl z
    · exact .inr ⟨z, PySem.W.cellsFrom_some _ _ _ (.inl z)⟩
  · intro env he s1 xx
    subst he
    refine ⟨lim.keeps xx.toInCall.keep, codeAny_func ?_⟩
    obtain ⟨t, ht, hq⟩ := hb cdv A outer s H vs Q p cls d (hr.deeper _) ⟨List.mem_singleton.mpr rfl, hz, hf⟩ hsp
    have I := inv_startH (CX := Xz) (E := Ez) S hp e0 hl rv xx
    refine wpAny_mono (ht.run [] s1 _ H _ I hq) ?_ (fun e s' hs => hs)
    intro fl s' hs
    cases fl with
    | next =>
      obtain ⟨σ', H', J, q⟩ := hs
      exact ⟨.non, H', J.os, J.bare, J.base, J.hok, rfl, q⟩
    | ret u =>
      obtain ⟨v, σ', H', J, rv', q⟩ := hs
      exact ⟨v, H', J.os, J.bare, J.base, J.hok, rv', q⟩
    | brk => obtain ⟨_, _, _, q⟩ := hs; exact q.elim
    | cont => obtain ⟨_, _, _, q⟩ := hs; exact q.elim
/-- x(n), n the error that the suite holds -/
def tHot (i : Nat) (a : Addr) (cls : Value) (d : Option Addr) (spx : Addr → Value → Option Addr → List V → Hp → VK → Prop) : TE := fun σ H Q => (i < σ.length → σ[i]? = some (some (.ref a))) ∧ spx a cls d [.ref a] H Q
theorem pe_hot {X : Cx} {k i : Nat} {f : Addr} {fd : FuncData} {a n x : Str} {spx : Addr → Value → Option Addr → List V → Hp → VK → Prop} {p : Addr × Obj} {cls : Value} {d : Option Addr} {q q2 pos : Pos} (F : HotOk X.prog X.w X.K X.mg X.base k f fd [a] spx) (hr : RoomH k X.A) (hx : HotX X p cls d)
    (hm : X.mg x = some (.ref f)) (hk : PySem.W.keepIn X.K (.ref f) = true) (hb : Binds X.K fd [a] []) (hN : X.N[i]? = some n) (hv : Vis X.env.scope n) (hg : Gl X x) (hdb : (x == ("__debug__" : Str)) = false := by decide) (hd : (n == ("__debug__" : Str)) = false := by decide)
    (hcd : (n == ("__classdict__" : Str)) = false := by decide) : PE X (.Call (.Name x q) [.Name n q2] [] pos) (tHot i p.1 cls d spx) := by
  refine ⟨fun pins s σ H Q I h => ?_⟩
  obtain ⟨hs, hsp⟩ := h
  have hs := hs (by rw [I.len]; exact (List.getElem?_eq_some_iff.mp hN).1)
  have pa : PA X [.Name n q2] (tCons (tVar i) tNil) := pa_cons (pe_var hN hv hd hcd) pa_nil
  refine wpAny_Call_Name_kw (ld_glob I hg hm ?_ hdb)
  refine PySem.W.callWith_K (h₀ := X.base) I.ok.mod.kin hk (thn (pa.run pos pins s σ H (fun vs H1 => vs = [.ref p.1] ∧ H1 = H) I ⟨_, hs, rfl, rfl⟩) ?_) (by rfl) (by rfl)
  rintro us s1 ⟨vs, H1, I1, r, e1, e2⟩
  subst e1
  rw [e2] at I1
  refine ⟨I1.kIn, ?_⟩
  have P1 := I1.pin p (List.mem_append_left _ hx.1)
  have hl : us.length = 1 := by rw [← r.length]; rfl
  have b := hb s1 us I1.kIn (by rw [List.append_nil]; exact hl)
  rw [List.append_nil] at b
  have pin : PinOk X.stack H s1 p := ⟨P1.1, P1.2.1, fun hm => (List.mem_cons.mp (I1.stkSub p.1 hm)).elim P1.2.2.1 P1.2.2.2.1, P1.2.2.2.2⟩
  refine wpAny_call (codeAny_mono (F X.A X.stack s1 H ⟨us, []⟩ us [.ref p.1] Q p cls d hr pin hx.2.1 hx.2.2 I1.env0 b r rfl hsp) ?_)
  intro rr s' hq
  cases rr with
  | error e => exact hq.elim
  | ok fl =>
    cases fl with
    | ret u => exact I1.after hq
    | next => exact False.elim hq
    | brk => exact False.elim hq
    | cont => exact False.elim hq
/-! isinstance(n, C), n the error that is handled, with a dict or without -/
section
open PySem.W PySem.Calls
theorem findObj_data {K : PySem.W.Frag} {Cc : Addr} {nm : Str} {od : Option Obj} {at_ gt : Value} (h1 : (clsIn K Cc).isSome = true) (h2 : findIn K (.ref Cc) nm = some (some at_)) (h3 : specialIn K at_ "__get__" = some (some gt)) (h4 : takesIn K at_ = some true) : findObj K Cc od nm = some (.bind gt at_) := by
  obtain ⟨cd, hcd⟩ := Option.isSome_iff_exists.mp h1
  unfold findObj
  rw [hcd, Option.bind_some, h2, Option.bind_some]
  simp [h3, h4]
variable {prog : Program} {w : World} {A : Around} {E : Value → Shared → Prop} {K : PySem.W.Frag} {e D : Addr} {oe : Obj} {od : Option Obj}
theorem class_exc {s : Shared} {Q : Option Value → Shared → Prop} (Cx : ExcC K D) (inK : K.In s.heap) (ia : InstAt s.heap e oe D od) (hq : Q (some (.ref D)) { s with toks := s.toks + 1 }) : wpAny (model prog w) A (getAttr? (.ref e) "__class__") Q E s := by
  have fo : findObj K D od "__class__" = some (.bind (.builtin "getset_descriptor.__get__") (.builtin "object.__class__")) := findObj_data (by obtain ⟨cd, hc, _⟩ := any_some Cx.hd; rw [hc]; rfl) Cx.ha Cx.hn Cx.ht
  obtain ⟨hh, gg, dr, tk, os⟩ := s
  have la := ia.type (M := model prog w)
  have lb := looks_findIn (M := model prog w) inK Cx.hg
  have lc := looks_findIn (M := model prog w) inK Cx.hk
  have ld := looks_find (M := model prog w) inK ia fo
  have lsub : Looks (model prog w) hh (isInstance (.ref e) (.type "BaseException")) true := la.andThen (looks_subIn inK Cx.hs)
  have n0 : (false && onTheHeap (Value.builtin "BaseException.__getattribute__")) = false := rfl
  have n2 : (Value.builtin "BaseException.__getattribute__" == Value.builtin "object.__getattribute__") = false := by decide +kernel
  have n1 : (onTheHeap (Value.ref D) && Value.builtin "BaseException.__getattribute__" == Value.builtin "object.__getattribute__") = false := by rw [n2]; rfl
  unfold getAttr? getAttrBy? getAttrBy
  refine wpAny_bind (wpAny_mkText (wpAny_bind (wpAny_attempt (wpAny_holding (wpAny_bind (la.at (wpAny_bind (lb.at ?_))))))))
  show (wpAny _ _ (if (onTheHeap (Value.ref D) && Value.builtin "BaseException.__getattribute__" == Value.builtin "object.__getattribute__") = true then _ else _) _ _ _)
  rw [n1, if_neg Bool.false_ne_true]; unfold getAttrByItsOwn hookBefore
  refine wpAny_bind ?_
  rw [if_pos (show onTheHeap (Value.ref D) = true from rfl)]; refine lc.at ?_
  refine wpAny_bind (wpAny_attempt (wpAny_holding ?_)); unfold callGetattribute
  rw [n0, if_neg Bool.false_ne_true]; unfold boundAndCalled
  rw [PySem.F.excAttr_ValueError.ga.bind (.ref e)]; refine wpAny_bind (wpAny_pure ?_)
  show wpAny _ _ (call (.builtin "BaseException.__getattribute__") [.ref e, .str "__class__" tk]) _ _ _
  refine wpAny_call (codeAny_call_builtin PySem.F.excAttr_ValueError.ga.plain PySem.F.entry_bexc_ga ?_)
  refine @check_slot (model prog w) _ _ ⟨hh, gg, dr, tk + 1, os⟩ "BaseException.__getattribute__" "BaseException" "__getattribute__" (.ref e) [.str "__class__" tk] [] _ (by decide +kernel) (by decide +kernel) lsub (PySem.F.args_bexc_ga (.ref e) (.str "__class__" tk)) ?_
  unfold Builtin.«object.__getattribute__»
  refine wpAny_bind (wpAny_of_eq (a := ((Value.ref e : Value), [Value.str "__class__" tk])) (by first | rfl | (simp only [slotArgs]; rfl)) ?_)
  refine wpAny_bind (wpAny_pure (wpAny_bind (la.at (wpAny_bind (ld.at ?_)))))
  show wpAny _ _ (holding [Value.builtin "object.__class__"] (call (.builtin "getset_descriptor.__get__") [.builtin "object.__class__", .ref e, .ref D]) >>= ret) _ _ _
  refine wpAny_bind (wpAny_holding (wpAny_call (class_get (s := ⟨hh, gg, dr, tk + 1, os⟩) (ox := oe) (od := od) inK ia Cx.hm ?_)))
  refine wpAny_pure ?_
  show wpAny _ _ (handedOut (.ref D)) _ _ _
  rw [handedOut_of (v := .ref D) rfl]
  first
    | exact wpAny_pure (wpAny_pure hq)
    | exact wpAny_pure hq
    | exact wpAny_pure (wpAny_bind (wpAny_pure (wpAny_pure hq)))
theorem kit_exc (Cx : ExcC K D) : KitX K (.ref e) (.ref D) (fun h => InstAt h e oe D od) where
  ty := fun _ _ _ ia => ia.type
  it := fun _ _ inK _ => by
    obtain ⟨cdD, hcD, _⟩ := any_some Cx.hd
    unfold clsIn at hcD
    split at hcD
    · rename_i c1 d1 cd1 sl1 hob; intro A1 Q1 E1 s1 k1 q1; unfold isType loadHead; exact wpAny_bind (wpAny_loadPart (k1 _ _ (inK _ _ hob)) (wpAny_pure q1))
    · cases hcD
  ne := fun h tp dd its n sl inK htp => by
    obtain ⟨cdD, hcD, _⟩ := any_some Cx.hd
    refine Bool.eq_false_iff.mpr fun z => ?_
    have ez : D = tp := Value.ref.inj (beq_iff_eq.mp z)
    subst ez
    unfold clsIn at hcD
    split at hcD
    · rename_i c1 d1 cd1 sl1 hob; have z2 := (inK _ _ hob).symm.trans htp; cases z2
    · cases hcD
  ca := fun inK ia k => class_exc Cx inK ia k
end
/-- what stands where the error's dict is -/
def XdAt (d : Option Addr) (H : Hp) : Prop := ∀ dd, d = some dd → ∃ fs, H dd = some (.xd fs)
theorem call_isX {X : Cx} {p : Addr × Obj} {D : Addr} {d : Option Addr} (hx : HotX X p (.ref D) d) (C : ExcC X.K D) : CallR X (.builtin "isinstance") (fun vs H Q => XdAt d H ∧ rIsE X.K D p.1 vs H Q) := by
  intro pins s σ H xs us Q I r h
  obtain ⟨hxd, c, cv, b, rfl, hcv, e, q⟩ := h
  cases r with
  | cons rx rr => cases rr with
    | cons rt rr =>
      cases rr
      cases rx
      have ec := hcv _ rt
      subst ec
      obtain ⟨hget, _⟩ := I.pin p (List.mem_append_left _ hx.1)
      have J : ∃ od, PySem.W.InstAt s.heap p.1 p.2 D od := by
        obtain ⟨pa, oc, od, oda, osl⟩ := p
        obtain ⟨_, ⟨h1, h2⟩, vs, h3⟩ := hx
        dsimp only at h1 h2 h3
        subst h1 h2 h3
        cases od with
        | none => exact ⟨none, hget, rfl, rfl, trivial⟩
        | some dd =>
          obtain ⟨fs, hfs⟩ := hxd dd rfl
          obtain ⟨mA, hns, _⟩ := I.hok dd _ hfs
          obtain ⟨oD, _, _, e1, _⟩ := hns
          exact ⟨some oD, hget, rfl, rfl, e1⟩
      obtain ⟨od, J⟩ := J
      exact PySem.W.kia_one (kit_exc C) I.kIn J e (fun z => nomatch z) (fun tk => ⟨.bl b, H, I.kept (t' := tk) (fun _ _ z => z), rfl, q⟩)
end DL
namespace DL
open PySem PySem.Spec PyProof.Rows L2 L2H
/-! ### a built-in's method with one argument, as an expression -/
def RBm (P : Pm) (T : String) (r : V → List V → Hp → VK → Prop) (g : Val → Val → W → R Val) : Prop := ∀ H G ws w vx vy x y (Q : VK), Sm G H → RelW P.K P.C G H ws w → RV P.K G H ws vx x → RV P.K G H ws vy y → PostE P (fun _ _ _ => False) H G ws Q (g x y w) → r vx [vy] H Q
/-- what the receiver must be -/
def tyOk : String → D → Bool
  | "list", .lst _ => true
  | "str", .str _ => true
  | _, _ => false
def dBm (T : String) (g : Val → Val → W → R Val) (fa fb : DE) : DE := fun ρ w => (fa ρ w).bind fun x w1 => if tyOk T x.d then (fb ρ w1).bind fun y w2 => chk x w1 w2 (g x y w2) else .bad
theorem tyOk_v {K : PySem.W.Frag} {G H : Hp} {ws : Ws} {v : V} {x : Val} {T : String} (s : Sm G H) (r : RV K G H ws v x) (h : tyOk T x.d = true) : tyV K T v H := by
  obtain ⟨m, d⟩ := x
  unfold tyOk at h
  split at h
  · rename_i e; cases e
    obtain ⟨a, vs, rfl, q, _⟩ := rv_lst s r
    exact .inl ⟨rfl, _, SqL.of q⟩
  · rename_i e; cases e
    rw [rv_str r]
    rfl
  · cases h
theorem ev_bm {P : Pm} {H0 : En} {Wi : WX} {ta tb : TE} {fa fb : DE} {T : String} {r : V → List V → Hp → VK → Prop} {g : Val → Val → W → R Val} (ha : EvE P H0 Wi ta fa) (hb : EvE P H0 Wi tb fb) (hr : RBm P T r g) (hn : ∀ x y w e w', g x y w ≠ .ex e w') : EvE P H0 Wi (tBM P.K T r ta (tCons tb tNil)) (dBm T g fa fb) := by
  intro σ H G ws ρ w Q st h
  unfold dBm at h
  refine ha σ H G ws ρ w _ st ?_
  cases e : fa ρ w with
  | bad => rw [e] at h; exact h
  | ex x w' => rw [e] at h; exact h
  | ok x w' =>
    intro v H1 G1 ws1 n1 r1 k1
    rw [e] at h
    have h : PostE P (fun c d H' => Wi c d σ H') H G ws Q (if tyOk T x.d = true then (fb ρ w').bind fun y w2 => chk x w' w2 (g x y w2) else .bad) := h
    by_cases ht : tyOk T x.d = true
    · rw [if_pos ht] at h
      refine ⟨tyOk_v n1.sub r1 ht, ?_⟩
      refine hb σ H1 G1 ws1 ρ w' _ (st.next n1) ?_
      cases e2 : fb ρ w' with
      | bad => rw [e2] at h; exact h
      | ex y w2 => rw [e2] at h; exact PostE.after n1 h
      | ok y w2 =>
        intro v2 H2 G2 ws2 n2 r2 k2
        rw [e2] at h
        obtain ⟨hx, h⟩ := PostE.chk h
        exact hr H2 G2 ws2 w2 v v2 x y Q n2.sub n2.rw (r1.move n2 fun z => n2.same n1.rw (hx z)) r2 ((PostE.after (n1.trans n2) h).noex fun _ _ => hn _ _ _ _ _)
    · rw [if_neg ht] at h; exact h.elim
/-! ### xs.count(y), xs.index(y) -/
def rCntF (K : PySem.W.Frag) : V → List V → Hp → VK → Prop := fun x xs H Q => ∃ (p : Addr) (ys : List V) (y : V), x = .ref p ∧ xs = [y] ∧ SqL K H p ys ∧ flatV y = true ∧ ys.all flatV = true ∧ Q (.int (ys.countP (fun z => eqV z y) : Nat)) H
theorem count_flat {y : V} : ∀ {ys : List V} {us : List Value}, Vals ys us → ys.all flatV = true → us.countP (eqU y) = ys.countP (fun z => eqV z y)
  | _, _, .nil, _ => rfl
  | _, _, .cons r t, f => by
    rw [List.all_cons, Bool.and_eq_true] at f
    rw [List.countP_cons, List.countP_cons, count_flat t f.2, eqU_of r f.1]
theorem mt_countF {X : Cx} : MtR X "list.count" (rCntF X.K) := by
  intro pins s σ H x xs v us Q I rx rxs h
  obtain ⟨p, ys, y, rfl, rfl, hs, fy, fys, q⟩ := h
  cases rx
  obtain ⟨u, rfl, ru⟩ := rxs.one
  obtain ⟨its, rv, ⟨⟨cls, dd, data, sl⟩, n, ho, hc, hdn, hd⟩, hlen⟩ := I.list hs
  dsimp only at hc hd
  subst hc hd
  refine call_meets PySem.F.slot_list_count ⟨_, ho, rfl⟩ PySem.F.entry_list_count (PySem.F.args_list_count_2 _ _) (SeqAt.list_countAt p its.toArray n dd sl u (eqU y)) ⟨ho, fun z hz => mem_eqAt ru fy rv fys z (by simpa using hz), ?_⟩
  refine ⟨.int (ys.countP (fun z => eqV z y) : Nat), H, I.tok _, ⟨s.toks, ?_⟩, q⟩
  rw [← count_flat rv fys]
def gCnt : Val → Val → W → R Val := fun x y w => match x.d with
  | .lst ds => if ds.all flD && flD y.d then .ok (fz (.int (ds.countP fun z => eqD z y.d : Nat))) w else .bad
  | _ => .bad
def gIdx : Val → Val → W → R Val := fun x y w => match x.d with
  | .lst ds => if ds.all flD && flD y.d then (match ds.findIdx? (fun z => eqD z y.d) with | some j => .ok (fz (.int (j : Nat))) w | none => .bad) else .bad
  | _ => .bad
theorem countV_flat {K : PySem.W.Frag} {G : Hp} {ι : List Addr} {u : V} {e : D} (h2 : Rep K G ι u e) (p2 : flD e = true) : ∀ {vs : List V} {ds : List D}, Reps K G ι vs ds → ds.all flD = true → vs.countP (fun z => eqV z u) = ds.countP fun z => eqD z e
  | _, _, .nil, _ => rfl
  | _, _, .cons a b, h => by
    rw [List.all_cons, Bool.and_eq_true] at h
    rw [List.countP_cons, List.countP_cons, countV_flat h2 p2 b h.2, eqV_flat a h2 h.1 p2]
theorem rbm_cnt {P : Pm} : RBm P "list" (rCntF P.K) gCnt := by
  intro H G ws w vx vy x y Q s r hx hy h
  obtain ⟨m, d⟩ := x
  cases d <;> try exact h.elim
  rename_i ds
  have h : PostE P (fun _ _ _ => False) H G ws Q (if (ds.all flD && flD y.d) = true then .ok (fz (.int (ds.countP fun z => eqD z y.d : Nat))) w else .bad) := h
  by_cases hc : (ds.all flD && flD y.d) = true
  · rw [if_pos hc] at h
    rw [Bool.and_eq_true] at hc
    obtain ⟨a, vs, rfl, q, rs⟩ := rv_lst s hx
    obtain ⟨f1, ry⟩ := rv_flat hy hc.2
    refine ⟨a, vs, vy, rfl, rfl, SqL.of q, f1, reps_flat rs hc.1, ?_⟩
    rw [countV_flat ry hc.2 rs hc.1]
    exact fz_q s r h (.int _)
  · rw [if_neg hc] at h; exact h.elim
theorem rbm_idx {P : Pm} : RBm P "list" (rIndex P.K) gIdx := by
  intro H G ws w vx vy x y Q s r hx hy h
  obtain ⟨m, d⟩ := x
  cases d <;> try exact h.elim
  rename_i ds
  have h : PostE P (fun _ _ _ => False) H G ws Q (if (ds.all flD && flD y.d) = true then (match ds.findIdx? (fun z => eqD z y.d) with | some j => .ok (fz (.int (j : Nat))) w | none => .bad) else .bad) := h
  by_cases hc : (ds.all flD && flD y.d) = true
  · rw [if_pos hc] at h
    rw [Bool.and_eq_true] at hc
    obtain ⟨a, vs, rfl, q, rs⟩ := rv_lst s hx
    obtain ⟨f1, ry⟩ := rv_flat hy hc.2
    cases e : ds.findIdx? (fun z => eqD z y.d) with
    | none => rw [e] at h; exact h.elim
    | some j =>
      rw [e] at h
      obtain ⟨hj, h1, h2⟩ := List.findIdx?_eq_some_iff_getElem.mp e
      have hjv : j < vs.length := by rw [rs.length]; exact hj
      obtain ⟨dz, ez, rz⟩ := rs.get (List.getElem?_eq_getElem hjv)
      have ez' : ds[j] = dz := by rw [List.getElem?_eq_getElem hj] at ez; exact Option.some.inj ez
      have fl : ∀ d ∈ ds, flD d = true := fun d hd => List.all_eq_true.mp hc.1 d hd
      refine ⟨a, vs, vy, j, vs[j], rfl, rfl, SqL.of q, f1, reps_flat rs hc.1, List.getElem?_eq_getElem hjv, ?_, ?_, fz_q s r h (.int _)⟩
      · rw [eqV_flat rz ry (by rw [← ez']; exact fl _ (List.getElem_mem hj)) hc.2, ← ez']
        exact h1
      · intro m z' hm hz
        obtain ⟨dm, em, rm⟩ := rs.get hz
        have hmd : m < ds.length := by omega
        have em' : ds[m] = dm := by rw [List.getElem?_eq_getElem hmd] at em; exact Option.some.inj em
        rw [eqV_flat rm ry (by rw [← em']; exact fl _ (List.getElem_mem hmd)) hc.2, ← em']
        simpa using h2 m hm
  · rw [if_neg hc] at h; exact h.elim
theorem gCnt_nx (x y : Val) (w : W) (e : Xc) (w' : W) : gCnt x y w ≠ .ex e w' := by
  unfold gCnt
  repeat' split
  all_goals exact fun h => nomatch h
theorem gIdx_nx (x y : Val) (w : W) (e : Xc) (w' : W) : gIdx x y w ≠ .ex e w' := by
  unfold gIdx
  repeat' split
  all_goals exact fun h => nomatch h
section
variable {X : Cx} {κ : Kx} {o a : Expr} {fo fa : DE} {apos cpos : Pos}
theorem e_bm {T id : String} {name : Str} {r : V → List V → Hp → VK → Prop} {g : Val → Val → W → R Val} (pa : PlainAttrs T) (slot : Slot T name id) (hty : typeOf (.builtin id) = pure (.type "method_descriptor")) (hm : MtR X id r) (hr : RBm (pm X κ) T r g) (hn : ∀ x y w e w', g x y w ≠ .ex e w') (ho : XE X κ o fo) (ha : XE X κ a fa)
    (hbase : attributeBase o name X.env (eval o X.env) = eval o X.env := by rfl)
    (hfew : ((backTo cpos (starEach [a] X.env)).all (fun x => !x.1) && (backToKw cpos (keywordEach [] X.env)).all (fun x => x.1.isSome) && decide ([a].length + ([] : List Keyword).length + (if ([] : List Keyword).isEmpty then 0 else 1) < 30)) = true := by rfl)
    (hline : (apos.endLine == cpos.line) = true := by rfl) (hs : starEach [a] X.env = (false, eval a X.env) :: starEach [] X.env := by rfl) : XE X κ (.Call (.Attribute o name apos) [a] [] cpos) (dBm T g fo fa) := by
  obtain ⟨t1, p1, e1⟩ := ho
  obtain ⟨t2, p2, e2⟩ := ha
  exact ⟨_, pe_bm pa slot hty hm p1 (pa_cons p2 pa_nil hs) hbase hfew hline hs, ev_bm e1 e2 hr hn⟩
theorem e_cnt (ho : XE X κ o fo) (ha : XE X κ a fa) (hbase : attributeBase o "count" X.env (eval o X.env) = eval o X.env := by rfl)
    (hfew : ((backTo cpos (starEach [a] X.env)).all (fun x => !x.1) && (backToKw cpos (keywordEach [] X.env)).all (fun x => x.1.isSome) && decide ([a].length + ([] : List Keyword).length + (if ([] : List Keyword).isEmpty then 0 else 1) < 30)) = true := by rfl)
    (hline : (apos.endLine == cpos.line) = true := by rfl) (hs : starEach [a] X.env = (false, eval a X.env) :: starEach [] X.env := by rfl) : XE X κ (.Call (.Attribute o "count" apos) [a] [] cpos) (dBm "list" gCnt fo fa) :=
  e_bm PySem.F.plainAttrs_list PySem.F.slot_list_count PySem.F.type_list_count mt_countF rbm_cnt gCnt_nx ho ha hbase hfew hline hs
theorem e_idx (ho : XE X κ o fo) (ha : XE X κ a fa) (hbase : attributeBase o "index" X.env (eval o X.env) = eval o X.env := by rfl)
    (hfew : ((backTo cpos (starEach [a] X.env)).all (fun x => !x.1) && (backToKw cpos (keywordEach [] X.env)).all (fun x => x.1.isSome) && decide ([a].length + ([] : List Keyword).length + (if ([] : List Keyword).isEmpty then 0 else 1) < 30)) = true := by rfl)
    (hline : (apos.endLine == cpos.line) = true := by rfl) (hs : starEach [a] X.env = (false, eval a X.env) :: starEach [] X.env := by rfl) : XE X κ (.Call (.Attribute o "index" apos) [a] [] cpos) (dBm "list" gIdx fo fa) :=
  e_bm PySem.F.plainAttrs_list PySem.F.slot_list_index PySem.F.type_list_index mt_index rbm_idx gIdx_nx ho ha hbase hfew hline hs
end
end DL
namespace DL
open PySem PySem.Spec PyProof.Rows L2 L2H
/-! ### the def that tells an error's class; a: the error, c: its class -/
section
variable {X : Cx} {κ : Kx} {a b : Expr} {fa fb : DE} {pos p p2 : Pos}
theorem h_set {x : Str} (i : Nat) (nd : X.N.Nodup) (ha : XE X κ a fa) (hi : X.N[i]? = some x := by rfl) (hx : Loc X.env.scope x := by first | exact Or.inl rfl | exact Or.inr rfl) (hs : swapsWith a (some (.Name x p)) pos.line X.env = pure false := by rfl)
    (hf : X.fn x = true ∨ X.env.scope.names.lookup x = some .local := by first | exact .inl rfl | exact .inr rfl) : XS X κ (.Assign [.Name x p] a pos) (sSet i fa) := by
  obtain ⟨t, pa, ea⟩ := ha
  exact ⟨_, ps_set nd hi hx pa hs hf, ev_set ea⟩
theorem h_ne (u : X.A.units + 64 < cLine) (ha : XE X κ a fa) (hb : XE X κ b fb) : XT X κ (.Compare a [.NotEq] [b] pos) (tst (dOp (gEq true) fa fb)) := t_cmp (op_neD u) rop_ne gEq_nx ha hb (nomark _)
/-- a class of errors under its name -/
def Mcl (mg : Str → Option Value) (cm : Cm) (x : String) : Prop := ∃ C, mg x = some (.ref C) ∧ cm x = some C
def gIsX (a : Addr) (b : Bool) : Val → W → R Val := fun v w => match v.d with
  | .exc a' => if a' = a then .ok (fz (.bl b)) w else .bad
  | _ => .bad
theorem rv_exc {K : PySem.W.Frag} {G H : Hp} {ws : Ws} {v : V} {m : Md} {i : Addr} (h : RV K G H ws v ⟨m, .exc i⟩) : v = .ref i := by
  unfold RV at h
  cases m with
  | fz => cases h; rfl
  | nw => obtain ⟨a, _, _, _, u⟩ := h; cases u
  | bo => obtain ⟨a, _, _, _, u⟩ := h; cases u
  | wd => obtain ⟨a, _, _, _, u⟩ := h; cases u
/-- the error's dict stands at the entry, and no field holds it -/
def XdIn (d : Option Addr) (H : Hp) (ws : Ws) : Prop := ∀ dd, d = some dd → (∃ fs, H dd = some (.xd fs)) ∧ dd ∉ regs ws
theorem nt_xd {fs : List (Str × V)} : Nt (.xd fs) := fun _ h => nomatch h
theorem XdIn.later {K : PySem.W.Frag} {C : Ca} {G H G' H' : Hp} {ws ws' : Ws} {w' : W} {d : Option Addr} (h : XdIn d H ws) (n : Nx K C G H ws G' H' ws' w') : XdAt d H' := fun dd e => by
  obtain ⟨⟨fs, h1⟩, h2⟩ := h dd e
  exact ⟨fs, (n.keep dd _ (.inl h1) nt_xd h2).eq⟩
theorem ev_isX {P : Pm} {H0 : En} {Wi : WX} {D : Addr} {p : Addr} {d : Option Addr} {b : Bool} {cv : V} {cu : Value} {ta : TE} (ea : EvE P H0 Wi ta fa) (hd : XdIn d H0.H H0.ws) (hu : ∀ u, RelV cv u → u = cu) (hk : PySem.W.kitOne P.K (.ref D) cu = some b) :
    EvE P H0 Wi (tCB (fun vs H Q => XdAt d H ∧ rIsE P.K D p vs H Q) (tCons ta (tCons (tC cv) tNil))) (dUn (gIsX p b) fa) := by
  intro σ H G ws ρ w Q st h
  unfold dUn at h
  refine ea σ H G ws ρ w _ st ?_
  cases e : fa ρ w with
  | bad => rw [e] at h; exact h
  | ex x w' => rw [e] at h; exact h
  | ok x w' =>
    intro v H1 G1 ws1 n1 r1 k1
    rw [e] at h
    obtain ⟨m, d⟩ := x
    have h : PostE P _ H G ws Q (gIsX p b ⟨m, d⟩ w') := h
    unfold gIsX at h
    cases d <;> try exact h.elim
    rename_i a' _
    dsimp only at h
    by_cases ha : a' = p
    · subst ha
      rw [if_pos rfl] at h
      have := rv_exc r1
      subst this
      exact ⟨hd.later (st.next n1).nx0, cv, cu, b, rfl, hu, hk, h (.bl b) H1 G1 ws1 n1 (.bl b) fz_nw⟩
    · rw [if_neg ha] at h; exact h.elim
theorem h_isX {q : Addr × Obj} {D A : Addr} {c x : String} {d : Option Addr} (hx : HotX X q (.ref D) d) (hdi : XdIn d κ.e.H κ.e.ws) (E : Ers X.K X.mg κ.cm A) (hc : κ.cm c = some D) (m : Mcl X.mg κ.cm x) (hm : X.mg "isinstance" = none) (ha : XE X κ a fa) (hg : Gl X "isinstance" := by rfl) (hgx : Gl X x := by rfl) (hd : ((x : Str) == ("__debug__" : Str)) = false := by decide)
    (hs : starEach [a, .Name x p2] X.env = (false, eval a X.env) :: starEach [.Name x p2] X.env := by rfl) (hs2 : starEach [.Name x p2] X.env = (false, eval (.Name x p2) X.env) :: starEach [] X.env := by rfl)
    (hpl : (backTo pos (starEach [.Name x p2] X.env)).any (·.1) = false := by rfl) : XE X κ (.Call (.Name "isinstance" p) [a, .Name x p2] [] pos) (dUn (gIsX q.1 (decide (c = x))) fa) := by
  obtain ⟨ta, pa, ea⟩ := ha
  obtain ⟨C, m1, m2⟩ := m
  have eD := E.cl c D hc
  have eC := E.cl x C m2
  refine ⟨_, pe_callB (call_isX hx (eD.exc E)) hg hm (by decide +kernel) (pa_cons pa (pa_cons (pe_glob (v := .ref C) hgx m1 rfl hd) pa_nil hs2) hs) (by decide) (by decide) hs hpl, ?_⟩
  refine ev_isX (P := pm X κ) (D := D) (p := q.1) (cu := .ref C) ea hdi (fun u hu => hu) ?_
  obtain ⟨cd, h1, _⟩ := eC.cls
  rw [eD.one (by rw [h1]; rfl) eC.ty]
  congr 1
  have hA : C ≠ A := fun z => E.ne x (by rw [m2, z])
  by_cases hcx : c = x
  · subst hcx
    rw [hc] at m2
    cases m2
    simp
  · have hCD : C ≠ D := fun z => hcx (E.inj c x D hc (by rw [m2, z]))
    simp [hcx, hA, hCD]
theorem h_isV {q : Addr × Obj} {D A : Addr} {c : String} {d : Option Addr} (hx : HotX X q (.ref D) d) (hdi : XdIn d κ.e.H κ.e.ws) (E : Ers X.K X.mg κ.cm A) (hc : κ.cm c = some D) (hm : X.mg "isinstance" = none) (hm2 : X.mg "ValueError" = none) (ha : XE X κ a fa) (hg : Gl X "isinstance" := by rfl) (hgx : Gl X "ValueError" := by rfl)
    (hs : starEach [a, .Name "ValueError" p2] X.env = (false, eval a X.env) :: starEach [.Name "ValueError" p2] X.env := by rfl) (hs2 : starEach [.Name "ValueError" p2] X.env = (false, eval (.Name "ValueError" p2) X.env) :: starEach [] X.env := by rfl)
    (hpl : (backTo pos (starEach [.Name "ValueError" p2] X.env)).any (·.1) = false := by rfl) : XE X κ (.Call (.Name "isinstance" p) [a, .Name "ValueError" p2] [] pos) (dUn (gIsX q.1 true) fa) := by
  obtain ⟨ta, pa, ea⟩ := ha
  have eD := E.cl c D hc
  refine ⟨_, pe_callB (call_isX hx (eD.exc E)) hg hm (by decide +kernel) (pa_cons pa (pa_cons (pe_bltn (v := .ty "ValueError") hgx hm2 (by decide +kernel) rfl) pa_nil hs2) hs) (by decide) (by decide) hs hpl, ?_⟩
  exact ev_isX (P := pm X κ) (D := D) (p := q.1) (cu := .type "ValueError") ea hdi (fun u hu => hu) eD.oneV
end
/-- its promise, by a denotation that knows the error -/
def spX (P : Pm) (F : Addr → String → DF) : Addr → Value → Option Addr → List V → Hp → VK → Prop := fun a cls d vs H Q => ∃ c C G ws w, P.cm c = some C ∧ cls = .ref C ∧ XdIn d H ws ∧ vs = [.ref a] ∧ Sm G H ∧ RelW P.K P.C G H ws w ∧ PostE P (fun _ _ _ => False) H G ws Q (F a c [.exc a] w)
theorem hot_mk {P : Program} {w : World} {K : PySem.W.Frag} {mg : Str → Option Value} {base : Heap} {C : Ca} {cm : Cm} {x : Str} {st : Stmt} {f : Addr} {fd : FuncData} {N : List Str} {n : Str} {k : Nat} {g : Addr → String → DS} (F : Fun K x x st f fd) (S : FnScope N [n] (defScope st))
    (hb : ∀ (cdv : Value) (A : Around) (outer : List PySem.Env) (s : Shared) (H : Hp) (e : En) (p : Addr × Obj) (c : String) (Da : Addr) (d : Option Addr), cm c = some Da → HotX (cxH Xz P w K mg base N x (defScope st) f cdv A outer s H Ez p) p (.ref Da) d → XdIn d e.H e.ws →
      (cxH Xz P w K mg base N x (defScope st) f cdv A outer s H Ez p).A.units + 64 < cLine → XB (cxH Xz P w K mg base N x (defScope st) f cdv A outer s H Ez p) ⟨C, cm, e, fun _ _ _ _ => False⟩ (defBody st) (g p.1 c)) :
    HotOk P w K mg base (k + 1) f fd [n] (spX ⟨K, C, cm⟩ fun a c => fnD 1 N.length (g a c)) := by
  refine hot_of F S ?_
  intro cdv A outer s H vs Q p cls d hr hx hsp
  obtain ⟨c, Da, G, ws, wd, hc, rfl, hdi, rfl, sG, rw, hp⟩ := hsp
  obtain ⟨t, h1, h2⟩ := hb cdv A outer s H ⟨H, G, ws⟩ p c Da d hc hx hdi (by have := hr.un; show (A.deeper (envOfC x (defScope st) s.heap.objs.size f cdv)).units + 64 < cLine; omega)
  refine ⟨t, h1, ?_⟩
  have rs : Reps K G (io ws) [.ref p.1] [.exc p.1] := .cons .exc .nil
  refine h2 _ H G ws ([DL.D.exc p.1].map (fun d => some (fz d)) ++ List.replicate (N.length - 1) none) wd _ (st_start sG rw rs) ?_
  unfold fnD at hp
  dsimp only at hp
  rw [if_pos (by rfl)] at hp
  cases eg : g p.1 c ([DL.D.exc p.1].map (fun d => some (fz d)) ++ List.replicate (N.length - 1) none) wd with
  | bad => rw [eg] at hp; exact hp
  | brk ρ w' => rw [eg] at hp; exact hp.elim
  | cont ρ w' => rw [eg] at hp; exact hp.elim
  | next ρ w' =>
    rw [eg] at hp
    exact fun σ' H' G' ws' st' _ => hp .non H' G' ws' st'.nx0 .non fz_nw
  | ret y w' =>
    rw [eg] at hp
    exact fun v H' G' ws' n r k _ => hp v H' G' ws' n r k
  | ex y ρ w' =>
    rw [eg] at hp
    exact fun cls d σ' H' G' ws' st' hx => hp cls d H' G' ws' st'.nx0 hx
end DL
namespace DL
open PySem PySem.Spec PyProof.Rows L2 L2H LamX
/-! ### told(lambda: ..): what is told, or a pair of 'refused' and the error's class -/
/-- tables may change -/
theorem Nx.tab {K : PySem.W.Frag} {C : Ca} {G H H' : Hp} {ws : Ws} {w : W} (s : Sm G H) (r : RelW K C G H ws w) (e : LamX.ExtN H H') (t : LamX.Tabs C.T H') : ∃ G', Nx K C G H ws G' H' ws w := by
  classical
  have k : ∀ a o, H a = some o → Nt o → H' a = some o := fun a o h n => e a o h fun ps z => n ps z
  have kL : ∀ a o, Lk H a o → Nt o → Lk H' a o := fun a o h n => by
    rcases h with h | ⟨h, q, e⟩
    · exact .inl (k a o h n)
    · exact .inr ⟨h, q, k a _ e nt_frz⟩
  -- whatever is locked and new counts as frozen
  let G' : Hp := fun b => if (∃ o, H b = some o ∧ Nt o) then G b else (match H' b with | some (.frz o u) => some (.frz o u) | _ => none)
  have gi : ∀ b, (∃ o, H b = some o ∧ Nt o) → G' b = G b := fun b h => if_pos h
  have go : ∀ b, ¬ (∃ o, H b = some o ∧ Nt o) → G' b = (match H' b with | some (.frz o u) => some (.frz o u) | _ => none) := fun b h => if_neg h
  have gn : ∀ b o, ¬ (∃ o, H b = some o ∧ Nt o) → G' b = some o → H' b = some o ∧ ∃ q u, o = .frz q u := fun b o h e => by
    rw [go b h] at e
    split at e
    · rename_i q u e1
      cases e
      exact ⟨e1, q, u, rfl⟩
    · cases e
  have sg : Same G G' := fun b o h => by
    rw [gi b ((s b o h).at' (r.nt b o h))]
    exact h
  have cont : ∀ {ι : List Addr} {a : Addr} {d : D}, Unf K G H ι a d → Unf K G' H' ι a d := fun {ι a d} u => by
    obtain ⟨o, ho, hc⟩ := u.there
    exact u.move sg (List.prefix_refl _) fun o' h => kL a o' h (ho.nt2 (nt_cont hc) h)
  refine ⟨G', sg, fun b o h => ?_, ⟨paired_imp r.obs fun q o hq ⟨⟨dx, e⟩, p⟩ => ⟨⟨dx, k _ _ e nt_ins⟩, paired_imp p fun x y hx ⟨e, f⟩ => ⟨e, ?_⟩⟩, r.nn, r.nd, fun a ha => ?_, t, fun b o h => ?_, fun a q u e hd => ?_, r.lkw, fun a o u e => k _ _ (r.lkh a o u e) nt_frz⟩, fun a o h n _ => kL a o h n, fun a o h n => ⟨o, k a o h n, n⟩, fun a o h n g => ?_, List.prefix_refl _, fun _ h => .inl h, Nat.le_refl _, fun _ => ⟨rfl, fun a ha o h => ?_⟩, Stab.refl _⟩
  · by_cases q : ∃ o, H b = some o ∧ Nt o
    · rw [gi b q] at h; exact kL b o (s b o h) (r.nt b o h)
    · exact .inl (gn b o q h).1
  · rcases f with ⟨a, e, u⟩ | h
    · exact .inl ⟨a, e, cont u⟩
    · exact .inr h
  · rw [gi a (reg_there r ha)]; exact r.out a ha
  · by_cases q : ∃ o, H b = some o ∧ Nt o
    · rw [gi b q] at h; exact r.nt b o h
    · obtain ⟨_, q, u, rfl⟩ := gn b o q h
      exact nt_frz
  · by_cases z : ∃ o, H a = some o ∧ Nt o
    · rw [gi a z]
      obtain ⟨o, h1, h2⟩ := z
      have := k a o h1 h2
      rw [e] at this
      cases this
      exact r.ul a q u h1 hd
    · rw [go a z, e]; exact .inl rfl
  · rw [gi a ⟨o, h, n⟩]; exact .inl g
  · obtain ⟨o', h', n⟩ := reg_there r ha
    exact kL a o h (Lk.nt2 (.inl h') n h)
def toldX (x : Xc) (w : W) : R Val := .ok (fz (.tup [.str "refused", .str x.c])) w
theorem reg_not_xd {K : PySem.W.Frag} {C : Ca} {G H : Hp} {ws : Ws} {w : W} (r : RelW K C G H ws w) {a : Addr} {xs : List (Str × V)} (hx : H a = some (.xd xs)) : a ∉ regs ws := by
  have go : ∀ {l : Ws0} {m : List (List (Str × D))}, Paired (fun (q : Addr × List (Str × V)) (o : List (Str × D)) => (∃ dx, H q.1 = some (.ins C.a dx q.2)) ∧ Paired (fun (x : Str × V) (y : Str × D) => x.1 = y.1 ∧ Fld K G H (io ws) x.2 y.2) q.2 o) l m → a ∉ regs0 l := by
    intro l m p
    induction p with
    | nil => simp [regs0]
    | @cons q o l m p1 p2 ih =>
      intro h
      obtain ⟨p, fs⟩ := q
      rcases List.mem_cons.mp h with rfl | h
      · obtain ⟨⟨dx, e⟩, _⟩ := p1
        rw [hx] at e; cases e
      · rcases List.mem_append.mp h with h | h
        · have go2 : ∀ {fs : List (Str × V)} {o : List (Str × D)}, Paired (fun (x : Str × V) (y : Str × D) => x.1 = y.1 ∧ Fld K G H (io ws) x.2 y.2) fs o → a ∉ refs fs := by
            intro fs o p
            induction p with
            | nil => simp [refs]
            | @cons x y l m q1 q2 ih2 =>
              intro h
              obtain ⟨n, v⟩ := x
              rcases q1.2 with ⟨b, e, u⟩ | ⟨i, e, _⟩
              · simp only at e
                subst e
                rcases List.mem_cons.mp h with rfl | h
                · obtain ⟨o, e, c⟩ := u.there
                  rcases e with e | ⟨_, q, e⟩
                  · rw [hx] at e; cases e; exact c
                  · rw [hx] at e; cases e
                · exact ih2 h
              · simp only at e
                subst e
                exact ih2 h
          exact go2 p1.2 h
        · exact ih h
  exact go r.obs
def dTold (f : DE) : DE := fun ρ w => match f ρ w with
  | .ok x w => .ok x w
  | .ex x w => toldX x w
  | .bad => .bad
def TTl (P : Pm) : (XK → Hp → VK → Prop) → Hp → VK → Prop := fun tl H Q => tl (fun cls d H' => ∃ x w G ws, Sm G H' ∧ RelW P.K P.C G H' ws w ∧ XRel P.K P.cm G H' (io ws) x cls d ∧ PostE P (fun _ _ _ => False) H' G ws Q (toldX x w)) H Q
theorem ev_told {P : Pm} {H0 : En} {Wi : WX} {f : DE} : EvE P H0 Wi (tLam P.C.T (TTl P) fun E => cE P H0 (fun cls d _ H' => E cls d H') f) (dTold f) := by
  intro σ H G ws ρ w Q st h
  refine ⟨st.rw.tb, fun H1 eN t1 => ?_⟩
  obtain ⟨G1, n1⟩ := Nx.tab st.sub st.rw eN t1
  refine ⟨G1, ws, ρ, w, st.next n1, ?_⟩
  unfold dTold at h
  cases e : f ρ w with
  | bad => rw [e] at h; exact h
  | ok x w' => rw [e] at h; exact PostE.after n1 h
  | ex x w' =>
    rw [e] at h
    have h : PostE P (fun c d H' => Wi c d σ H') H G ws Q (toldX x w') := h
    intro cls d H' G' ws' n2 hx
    refine ⟨x, w', G', ws', n2.sub, n2.rw, hx, ?_⟩
    exact (PostE.after (n1.trans n2) h).noex fun y w2 h => nomatch h
/-- the def's text -/
abbrev toldB (p1 p2 p3 p4 p5 p6 p7 p8 p9 p10 p11 p12 : Pos) (j1 j2 : Nat) : List Stmt :=
  [.Try [.Return (some (.Call (.Name "deed" p1) [] [] p2)) p3] [.ExceptHandler (some (.Name "AirError" p4)) (some "e") [.Return (some (.Tuple [.Constant (.str "refused") j1 p5, .Call (.Name "_law_class" p6) [.Name "e" p7] [] p8] j2 p9)) p10] p11] [] [] p12]
/-- told, as it stands behind the top -/
def TldT (K : PySem.W.Frag) (mg : Str → Option Value) : Prop := ∃ (g : Addr) (oc : Value) (od : Option Addr) (pg : Arguments) (sg : Scope) (kV doc pm cdv ct : Value) (an : Option Addr) (osl : Array (Option Value)) (p1 p2 p3 p4 p5 p6 p7 p8 p9 p10 p11 p12 : Pos) (j1 j2 : Nat), mg "_law_told" = some (.ref g) ∧ PySem.W.keepIn K (.ref g) = true ∧
    K.lookup g = some ⟨oc, od, .func (PySem.W.fnOf "_law_told" "_law_told" pg (toldB p1 p2 p3 p4 p5 p6 p7 p8 p9 p10 p11 p12 j1 j2) sg .none kV doc pm an cdv ct), osl⟩ ∧ PySem.W.codeIn K cdv "_law_told" = true ∧
    Binds K (PySem.W.fnOf "_law_told" "_law_told" pg (toldB p1 p2 p3 p4 p5 p6 p7 p8 p9 p10 p11 p12 j1 j2) sg .none kV doc pm an cdv ct) ["deed"] [] ∧ FnScope ["deed", "e"] ["deed"] sg ∧ sg.names.lookup ("deed" : Str) = some .local ∧ sg.names.lookup ("e" : Str) = some .local ∧ sg.names.lookup ("AirError" : Str) = some .globalImplicit ∧ sg.names.lookup ("_law_class" : Str) = some .globalImplicit
structure Tld (P : Program) (w : World) (K : PySem.W.Frag) (mg : Str → Option Value) (base : Heap) (C : Ca) (cm : Cm) : Prop where
  er : ErsX K mg cm
  cl : ∃ f fd F, mg "_law_class" = some (.ref f) ∧ PySem.W.keepIn K (.ref f) = true ∧ Binds K fd ["e"] [] ∧ HotOk P w K mg base 1 f fd ["e"] (spX ⟨K, C, cm⟩ F) ∧ ∀ a c w, (cm c).isSome → F a c [.exc a] w = .ok (fz (.str c)) w
  tl : TldT K mg
theorem told_gives {X : Cx} {C : Ca} {cm : Cm} {A fc : Addr} {fdc : FuncData} {F : Addr → String → DF} {g : Addr} {cdg : Value} {sg : Scope} {q : Str} {k : Nat} {p1 p2 p3 p4 p5 p6 p7 p8 p9 p10 p11 p12 : Pos} {j1 j2 : Nat} (E : Ers X.K X.mg cm A)
    (mc : X.mg "_law_class" = some (.ref fc)) (kc : PySem.W.keepIn X.K (.ref fc) = true) (bc : Binds X.K fdc ["e"] []) (hc : HotOk X.prog X.w X.K X.mg X.base 1 fc fdc ["e"] (spX ⟨X.K, C, cm⟩ F)) (hF : ∀ a c w, (cm c).isSome → F a c [.exc a] w = .ok (fz (.str c)) w)
    (S : FnScope ["deed", "e"] ["deed"] sg) (s1 : sg.names.lookup ("deed" : Str) = some .local) (s2 : sg.names.lookup ("e" : Str) = some .local) (s3 : sg.names.lookup ("AirError" : Str) = some .globalImplicit) (s4 : sg.names.lookup ("_law_class" : Str) = some .globalImplicit) (hr : Room (k + 2) X.A) :
    GivesTo X ["deed", "e"] "_law_told" sg g cdg (toldB p1 p2 p3 p4 p5 p6 p7 p8 p9 p10 p11 p12 j1 j2) "deed" q (TTl ⟨X.K, C, cm⟩) := by
  intro f c' s H Q tl act hco h
  refine ⟨_, pss_one (ps_try_as (X := (cxOf C8.CX0 X.prog X.w X.K X.mg X.base ["deed", "e"] "_law_told" sg g cdg X.A X.stack s H C8.E0).nox) (c := .ref A) (i := 1)
      (tb := fun W D σ H => ∃ Ech : XK, (∀ cls d σ' H', Ech cls d H' → W cls d σ' H') ∧ σ[0]? = some (some (.ref f)) ∧ H c' = some (CodeO c' q) ∧ tl Ech H D.rt)
      (ts := fun a cls d D σ H => tRet (tTup (tCons (tC (.str "refused")) (tCons (tHot 1 a cls d (spX ⟨X.K, C, cm⟩ F)) tNil))) D σ H)
      rfl rfl S.nd rfl s2 ⟨s3, by decide, .inl E.air⟩ L2.takes0 (fun W pn xe tk _ => ?_) (fun a oe cls d pn hz hf => ?_)), ?_⟩
  · refine ⟨fun pins s' σ H' D I h' => ?_⟩
    obtain ⟨Ech, hW, h1, h2, h3⟩ := h'
    have hp := act W pn xe Ech p1 p2 tk hW
    exact (pss_one (ps_ret (pos := p3) hp)).run pins s' σ H' D I ⟨h1, h2, h3⟩
  · refine pss_one (ps_ret (pe_tup (pa_cons pe_str (pa_cons ?_ pa_nil))))
    have hr1 : Room (k + 1) (X.A.deeper (envOfC "_law_told" sg s.heap.objs.size g cdg)) := hr.deeper _
    have r0 := (roomH_of hr1).mono (show 1 ≤ k + 1 by omega)
    have rh : RoomH 1 (((cxOf C8.CX0 X.prog X.w X.K X.mg X.base ["deed", "e"] "_law_told" sg g cdg X.A X.stack s H C8.E0).nox).suite a ((a, oe) :: pn)).A := ⟨r0.dp, r0.un⟩
    exact pe_hot (X := ((cxOf C8.CX0 X.prog X.w X.K X.mg X.base ["deed", "e"] "_law_told" sg g cdg X.A X.stack s H C8.E0).nox).suite a ((a, oe) :: pn)) (p := (a, oe)) (n := "e") hc rh ⟨List.mem_cons_self, hz, hf⟩ mc kc bc (i := 1) rfl (Or.inl s2) s4
  · refine ⟨_, ?_, rfl, hco, h⟩
    rintro cls d σ' H' ⟨x, w, G, ws, sG, rw, ⟨c, hc1, rfl, hd⟩, hp⟩
    have eC := E.cl _ _ hc1
    refine ⟨true, E.catch eC, fun _ a na => ?_, fun z => nomatch z⟩
    unfold toldX at hp
    have hdi : XdIn d H' ws := fun dd e => by
      rcases hd with ⟨_, h2⟩ | ⟨_, d2, vfs, h2, h3, _⟩
      · rw [h2] at e; cases e
      · rw [h2] at e; cases e; exact ⟨⟨_, h3⟩, reg_not_xd rw h3⟩
    refine ⟨?_, x.c, c, G, ws, w, hc1, rfl, hdi, rfl, sG, rw, ?_⟩
    · intro hl
      rw [List.getElem?_set_self (by simpa using hl)]
    · show PostE _ _ _ _ _ _ (F a x.c [.exc a] w)
      rw [hF a x.c w (by rw [show cm x.c = some c from hc1]; rfl)]
      intro v H2 G2 ws2 n2 r2 k2
      have ev := rv_str r2
      subst ev
      refine ⟨by show 2 ≤ sizeLine; decide, fun p hp2 => ?_⟩
      exact tup_q (vs := [.str "refused", .str x.c]) n2.sub n2.rw (PostE.after n2 hp) hp2 (.cons (.str _) (.cons (.str _) .nil))
/-- a def that makes lambdas: its code object, its table -/
structure Mkr (X : Cx) (κ : Kx) : Prop where
  ex : ∃ cc P, TabB X.base X.mg cc P ∧ X.env.code = .ref cc ∧ (P, X.env.qual ++ "<lambda>") ∈ κ.C.T ∧ ∀ p ∈ κ.C.T, p.1 = P → p.2 = X.env.qual ++ "<lambda>"
theorem e_told {X : Cx} {κ : Kx} {k : Nat} {body : Expr} {scope : Scope} {params : Arguments} {fd : DE} {p lpos pos : Pos} (T : Tld X.prog X.w X.K X.mg X.base κ.C κ.cm) (m : Mkr X κ) (c : Fe X κ (k + 2)) (L : lamSB X.env.scope scope = true)
    (hb : ∀ (A : Around) (outer : List PySem.Env) (s : Shared) (H : Hp) (E : XK) (f c' : Addr), Fe (lamCx X A outer s H E scope f c') ⟨κ.C, κ.cm, κ.e, fun cls d _ H' => E cls d H'⟩ k → L2.Takes (lamCx X A outer s H E scope f c') (fun cls d _ H' => E cls d H') → XE (lamCx X A outer s H E scope f c') ⟨κ.C, κ.cm, κ.e, fun cls d _ H' => E cls d H'⟩ body fd)
    (hdef : defaultsOf params X.env = ([], []) := by rfl) (hbind : ∀ (q : Str) (cl : List (Str × Addr)) (pm cv ctv : Value), bindArgs (PySem.W.kla_fn "<lambda>" q params body scope cl pm cv ctv) ⟨[], []⟩ = pure [] := by intros; rfl) (hg : Gl X "_law_told" := by rfl) :
    XE X κ (.Call (.Name "_law_told" p) [.Lambda params body scope lpos] [] pos) (dTold fd) := by
  obtain ⟨A, E⟩ := T.er
  obtain ⟨fc, fdc, F, mc, kc, bc, hc, hF⟩ := T.cl
  obtain ⟨g, oc, od, pg, sg, kV, doc, pmv, cdv, ct, an, osl, p1, p2, p3, p4, p5, p6, p7, p8, p9, p10, p11, p12, j1, j2, mt, kt, lt, ht, bt, S, s1, s2, s3, s4⟩ := T.tl
  obtain ⟨cc, Pt, TB, hcode, hm, hu⟩ := m.ex
  refine ⟨_, pe_lamcall (T := κ.C.T) (TT := TTl (pm X κ)) (k := k) (t := fun E => cE (pm X κ) κ.e (fun cls d _ H' => E cls d H') fd) hg mt kt lt ht bt S rfl (Or.inl s1) (told_gives E mc kc bc hc hF S s1 s2 s3 s4 c.room) TB hcode hm hu c.room (lamS_by L) hdef hbind ?_, ev_told⟩
  intro A outer s H E f c' hr
  exact (hb A outer s H E f c' ⟨rfl, c.nd, hr, tkN (takes_of rfl rfl rfl rfl)⟩ (takes_of rfl rfl rfl rfl)).can
end DL
namespace DL
open PySem PySem.Spec PyProof.Rows L2 L2H LamX
/-! ### divmod -/
noncomputable def gDivmod : List Val → W → R Val := fun xs w => match xs with
  | [x, y] => (match x.d, y.d with
    | .int i, .int j => open Classical in if CDiv i j then .ok (fz (.tup [.int (i / j), .int (i % j)])) w else .bad
    | _, _ => .bad)
  | _ => .bad
theorem gDivmod_nx (x : List Val) (w : W) (e : Xc) (w' : W) : gDivmod x w ≠ .ex e w' := by
  unfold gDivmod
  repeat' split
  all_goals exact fun h => nomatch h
theorem rc_divmod {P : Pm} : RCall P (fun xs H Q => ∃ i j, xs = [.int i, .int j] ∧ CDiv i j ∧ ∀ p, H p = none → Q (.ref p) (upd H p (.tup [.int (i / j), .int (i % j)]))) gDivmod := by
  intro H G ws w vs xs Q s r hx h
  unfold gDivmod at h
  split at h
  · rename_i x y
    obtain ⟨v, u, rfl, rx, ry⟩ := rvs2 hx
    obtain ⟨m, d⟩ := x
    obtain ⟨m2, d2⟩ := y
    dsimp only at h
    cases d <;> try exact h.elim
    cases d2 <;> try exact h.elim
    rename_i i j
    dsimp only at h
    split at h
    · rename_i hc
      have e1 := rv_int rx
      have e2 := rv_int ry
      subst e1 e2
      exact ⟨i, j, rfl, hc, fun p hp => tup_q s r h hp (.cons (.int _) (.cons (.int _) .nil))⟩
    · exact h.elim
  · exact h.elim
theorem e_divmod {X : Cx} {κ : Kx} {a b : Expr} {fr : DA} {pos p : Pos} (hm : X.mg "divmod" = none) (ha : XA X κ [a, b] fr) (hg : Gl X "divmod" := by rfl) (he : starEach [a, b] X.env = (false, eval a X.env) :: starEach [b] X.env := by rfl) (hpl : (backTo pos (starEach [b] X.env)).any (·.1) = false := by rfl) :
    XE X κ (.Call (.Name "divmod" p) [a, b] [] pos) (dCB gDivmod fr) := e_cb call_divmod rc_divmod gDivmod_nx hm (by decide +kernel) ha hg (by decide) (by decide) he hpl
/-! ### defs that make lambdas; cc: the code object -/
structure FunL (K : PySem.W.Frag) (x qual : Str) (st : Stmt) (f : Addr) (fd : FuncData) (cc : Addr) : Prop where
  ex : ∃ (oc : Value) (od : Option Addr) (kV doc pm : Value) (an : Option Addr) (ct : Value) (osl : Array (Option Value)), fd = PySem.W.fnOf x qual (defArgs st) (defBody st) (defScope st) .none kV doc pm an (.ref cc) ct ∧ K.lookup f = some ⟨oc, od, .func fd, osl⟩ ∧ PySem.W.codeIn K (.ref cc) qual = true
  kp : PySem.W.keepIn K (.ref f) = true
def FnxL (K : PySem.W.Frag) (mg : Str → Option Value) (x : Str) (st : Stmt) (ps : List Str) (cc : Addr) : Prop := ∃ f fd, FunL K x x st f fd cc ∧ mg x = some (.ref f) ∧ Binds K fd ps []
theorem def_okL {PP : Program} {w : World} {K : PySem.W.Frag} {mg : Str → Option Value} {base : Heap} {x qual : Str} {st : Stmt} {f cc : Addr} {fd : FuncData} {N ps : List Str} {k : Nat} {C : Ca} {cm : Cm} {g : DS} (F : FunL K x qual st f fd cc) (S : FnScope N ps (defScope st))
    (hb : ∀ (A : Around) (outer : List PySem.Env) (s : Shared) (H : Hp) (E : XK) (e : En), Room k (A.deeper (envOfC qual (defScope st) s.heap.objs.size f (.ref cc))) →
      ∃ t, PSs (cxOf (L2.CX PP w) PP w K mg base N qual (defScope st) f (.ref cc) A outer s H E) (defBody st) t ∧ EvS ⟨K, C, cm⟩ e (fun cls d _ H' => E cls d H') t g) :
    FnOk PP w K mg base (L2.CX PP w) (k + 1) f fd ps (spD ⟨K, C, cm⟩ (fnD ps.length N.length g)) := by
  obtain ⟨oc, od, kV, doc, pm, an, ct, osl, rfl, lk, hcd⟩ := F.ex
  refine fn_of lk hcd S (fun vs H Q E h => spD_len h) fun A outer s H vs Q E hr h => ?_
  have hl := spD_len h
  obtain ⟨G, ws, wd, ds, sm, rw, rs, p⟩ := h
  obtain ⟨t, h1, h2⟩ := hb A outer s H E ⟨H, G, ws⟩ hr
  refine ⟨t, h1, ?_⟩
  unfold L2.start
  rw [hl]
  refine h2 _ H G ws (ds.map (fun d => some (fz d)) ++ List.replicate (N.length - ps.length) none) wd _ (st_start sm rw rs) ?_
  unfold fnD at p
  rw [if_pos (by rw [← rs.length]; exact hl)] at p
  cases eg : g (ds.map (fun d => some (fz d)) ++ List.replicate (N.length - ps.length) none) wd with
  | bad => rw [eg] at p; exact p
  | brk ρ w' => rw [eg] at p; exact p.elim
  | cont ρ w' => rw [eg] at p; exact p.elim
  | next ρ w' =>
    rw [eg] at p
    exact fun σ' H' G' ws' st' _ => p .non H' G' ws' st'.nx0 .non fz_nw
  | ret y w' =>
    rw [eg] at p
    exact fun v H' G' ws' n r k _ => p v H' G' ws' n r k
  | ex y ρ w' =>
    rw [eg] at p
    exact fun cls d σ' H' G' ws' st' hx => p cls d H' G' ws' st'.nx0 hx
/-- the qualified name of a def's lambdas -/
abbrev lamQ (x : Str) : Str := (envOfC x ⟨.function, [], false, false, []⟩ 0 0 .none).qual ++ "<lambda>"
structure Mkt (base : Heap) (mg : Str → Option Value) (C : Ca) (x : Str) (cc : Addr) : Prop where
  ex : ∃ P, TabB base mg cc P ∧ (P, lamQ x) ∈ C.T ∧ ∀ p ∈ C.T, p.1 = P → p.2 = lamQ x
theorem fn_mkL {P : Program} {w : World} {K : PySem.W.Frag} {mg : Str → Option Value} {base : Heap} {C : Ca} {cm : Cm} {x : Str} {st : Stmt} {f cc : Addr} {fd : FuncData} {N ps : List Str} {k : Nat} {g : DS} (F : FunL K x x st f fd cc) (S : FnScope N ps (defScope st)) (M : Mkt base mg C x cc)
    (hb : ∀ (f : Addr) (A : Around) (outer : List PySem.Env) (s : Shared) (H : Hp) (E : XK) (e : En), Fc (cxOf (L2.CX P w) P w K mg base N x (defScope st) f (.ref cc) A outer s H E) ⟨C, cm, e, fun cls d _ H' => E cls d H'⟩ k →
      Mkr (cxOf (L2.CX P w) P w K mg base N x (defScope st) f (.ref cc) A outer s H E) ⟨C, cm, e, fun cls d _ H' => E cls d H'⟩ → L2.Takes (cxOf (L2.CX P w) P w K mg base N x (defScope st) f (.ref cc) A outer s H E) (fun cls d _ H' => E cls d H') →
      XB (cxOf (L2.CX P w) P w K mg base N x (defScope st) f (.ref cc) A outer s H E) ⟨C, cm, e, fun cls d _ H' => E cls d H'⟩ (defBody st) g) : FnOk P w K mg base (L2.CX P w) (k + 1) f fd ps (spD ⟨K, C, cm⟩ (fnD ps.length N.length g)) := by
  obtain ⟨Pt, h1, h2, h3⟩ := M.ex
  exact def_okL F S fun A outer s H E e hr => hb f A outer s H E e ⟨rfl, S.nd, hr, tkN (takes_of rfl rfl rfl rfl), passes_of rfl⟩ ⟨cc, Pt, h1, rfl, h2, h3⟩ (takes_of rfl rfl rfl rfl)
end DL
/-! Objects of an own class: their fields, seen and stored. -/
namespace DL
open PySem PySem.Spec PyProof.Rows L2
def getF (w : W) (k : Nat) (f : Str) : Option D := (w.o[k]?).bind fun o => o.lookup f
def putD (f : Str) (d : D) : List (Str × D) → List (Str × D)
  | [] => [(f, d)]
  | (g, x) :: r => if g = f then (g, d) :: r else (g, x) :: putD f d r
def setF (w : W) (k : Nat) (f : Str) (d : D) : W := ⟨w.n + 1, w.o.set k (putD f d (w.o.getD k [])), w.lk⟩
def fval (d : D) : Val := match d with
  | .int i => fz (.int i)
  | d => ⟨.wd, d⟩
theorem paired_ix {α β : Type} {F : α → β → Prop} : ∀ {l : List α} {m : List β}, Paired F l m → l.length = m.length ∧ ∀ (i : Nat) x y, l[i]? = some x → m[i]? = some y → F x y
  | _, _, .nil => ⟨rfl, fun i x y h => by simp at h⟩
  | _, _, .cons a b => by
    obtain ⟨h1, h2⟩ := paired_ix b
    refine ⟨by rw [List.length_cons, List.length_cons, h1], fun i x y hx hy => ?_⟩
    cases i with
    | zero => simp at hx hy; subst hx hy; exact a
    | succ i => exact h2 i x y (by simpa using hx) (by simpa using hy)
theorem paired_of {α β : Type} {F : α → β → Prop} : ∀ {l : List α} {m : List β}, l.length = m.length → (∀ (i : Nat) x y, l[i]? = some x → m[i]? = some y → F x y) → Paired F l m
  | [], [], _, _ => .nil
  | [], _ :: _, h, _ => by simp at h
  | _ :: _, [], h, _ => by simp at h
  | a :: l, b :: m, h, f => .cons (f 0 a b rfl rfl) (paired_of (by simpa using h) fun i x y hx hy => f (i + 1) x y (by simpa using hx) (by simpa using hy))
theorem paired_at {α β : Type} {F : α → β → Prop} {l : List α} {m : List β} (h : Paired F l m) {i : Nat} {y : β} (e : m[i]? = some y) : ∃ x, l[i]? = some x ∧ F x y := by
  obtain ⟨h1, h2⟩ := paired_ix h
  have hi : i < l.length := by rw [h1]; exact (List.getElem?_eq_some_iff.mp e).1
  exact ⟨l[i], List.getElem?_eq_getElem hi, h2 i _ _ (List.getElem?_eq_getElem hi) e⟩
theorem refs_apart : ∀ {fs : List (Str × V)}, (refs fs).Nodup → ∀ {x y : Nat} {g g' : Str} {a : Addr}, fs[x]? = some (g, .ref a) → fs[y]? = some (g', .ref a) → x = y
  | [], _, x, _, _, _, _, h, _ => by simp at h
  | (n, v) :: r, nd, x, y, g, g', a, hx, hy => by
    have sub : (refs r).Nodup := by
      cases v <;> first | exact nd | exact (List.nodup_cons.mp nd).2
    cases x with
    | zero =>
      cases y with
      | zero => rfl
      | succ y =>
        simp at hx hy
        obtain ⟨rfl, rfl⟩ := hx
        exact absurd (refs_mem (List.mem_of_getElem? hy) rfl) (List.nodup_cons.mp nd).1
    | succ x =>
      cases y with
      | zero =>
        simp at hx hy
        obtain ⟨rfl, rfl⟩ := hy
        exact absurd (refs_mem (List.mem_of_getElem? hx) rfl) (List.nodup_cons.mp nd).1
      | succ y => rw [refs_apart sub (x := x) (y := y) (by simpa using hx) (by simpa using hy)]
theorem regs_apart : ∀ {l : Ws0}, (regs0 l).Nodup → ∀ {i k x y : Nat} {p p' : Addr} {fs fs' : List (Str × V)} {g g' : Str} {a : Addr}, l[i]? = some (p, fs) → l[k]? = some (p', fs') → fs[x]? = some (g, .ref a) → fs'[y]? = some (g', .ref a) → i = k ∧ x = y
  | [], _, i, _, _, _, _, _, _, _, _, _, _, h, _, _, _ => by simp at h
  | (q, zs) :: r, nd, i, k, x, y, p, p', fs, fs', g, g', a, hi, hk, hx, hy => by
    have nd2 := (List.nodup_cons.mp nd).2
    obtain ⟨n1, n2, n3⟩ := List.nodup_append.mp nd2
    cases i with
    | zero =>
      simp at hi
      obtain ⟨rfl, rfl⟩ := hi
      cases k with
      | zero =>
        simp at hk
        obtain ⟨rfl, rfl⟩ := hk
        exact ⟨rfl, refs_apart n1 hx hy⟩
      | succ k =>
        have m1 := refs_mem (List.mem_of_getElem? hx) rfl
        have m2 := (regs_mem (List.mem_of_getElem? (show r[k]? = some (p', fs') by simpa using hk))).2 a (refs_mem (List.mem_of_getElem? hy) rfl)
        exact absurd rfl (n3 a m1 a m2)
    | succ i =>
      cases k with
      | zero =>
        simp at hk
        obtain ⟨rfl, rfl⟩ := hk
        have m1 := refs_mem (List.mem_of_getElem? hy) rfl
        have m2 := (regs_mem (List.mem_of_getElem? (show r[i]? = some (p, fs) by simpa using hi))).2 a (refs_mem (List.mem_of_getElem? hx) rfl)
        exact absurd rfl (n3 a m1 a m2)
      | succ k =>
        obtain ⟨e1, e2⟩ := regs_apart n2 (i := i) (k := k) (by simpa using hi) (by simpa using hk) hx hy
        exact ⟨by rw [e1], e2⟩
theorem regs_objs : ∀ {l : Ws0}, (regs0 l).Nodup → ∀ {i k : Nat} {p : Addr} {fs fs' : List (Str × V)}, l[i]? = some (p, fs) → l[k]? = some (p, fs') → i = k
  | [], _, i, _, _, _, _, h, _ => by simp at h
  | (q, zs) :: r, nd, i, k, p, fs, fs', hi, hk => by
    have nd1 := List.nodup_cons.mp nd
    obtain ⟨n1, n2, n3⟩ := List.nodup_append.mp nd1.2
    cases i with
    | zero =>
      simp at hi
      obtain ⟨rfl, rfl⟩ := hi
      cases k with
      | zero => rfl
      | succ k => exact absurd (List.mem_append_right _ (regs_mem (List.mem_of_getElem? (show r[k]? = some (q, fs') by simpa using hk))).1) nd1.1
    | succ i =>
      cases k with
      | zero =>
        simp at hk
        obtain ⟨rfl, rfl⟩ := hk
        exact absurd (List.mem_append_right _ (regs_mem (List.mem_of_getElem? (show r[i]? = some (q, fs) by simpa using hi))).1) nd1.1
      | succ k => rw [regs_objs n2 (i := i) (k := k) (by simpa using hi) (by simpa using hk)]
theorem lookup_at {F : V → D → Prop} : ∀ {fs : List (Str × V)} {o : List (Str × D)} {f : Str} {d : D}, Paired (fun x y => x.1 = y.1 ∧ F x.2 y.2) fs o → o.lookup f = some d → ∃ x v, o[x]? = some (f, d) ∧ fs[x]? = some (f, v) ∧ fs.lookup f = some v ∧ F v d ∧ (∀ d', putD f d' o = o.set x (f, d')) ∧ ∀ v', putF f v' fs = fs.set x (f, v')
  | _, _, f, d, .nil, h => by cases h
  | _, _, f, d, .cons (a := (n, v)) (b := (g, e)) a b, h => by
    obtain ⟨a1, a2⟩ := a
    dsimp only at a1 a2
    subst a1
    rw [List.lookup_cons] at h
    by_cases hg : n = f
    · subst hg
      rw [beq_self_eq_true] at h
      cases h
      exact ⟨0, v, rfl, rfl, by rw [List.lookup_cons, beq_self_eq_true], a2, fun d' => by unfold putD; rw [if_pos rfl]; rfl, fun v' => by unfold putF; rw [if_pos rfl]; rfl⟩
    · have hb : (f == n) = false := by simpa using fun z => hg z.symm
      rw [hb] at h
      obtain ⟨x, v', h1, h2, h3, h4, h5, h6⟩ := lookup_at b h
      exact ⟨x + 1, v', by simpa using h1, by simpa using h2, by rw [List.lookup_cons, hb]; exact h3, h4, fun d' => by unfold putD; rw [if_neg hg, h5]; rfl, fun v' => by unfold putF; rw [if_neg hg, h6]; rfl⟩
section
variable {K : PySem.W.Frag} {C : Ca} {G H : Hp} {ws : Ws} {w : W} {k : Nat} {p : Addr} {f : Str} {d d' : D}
/-- a field of an object, as it stands -/
structure FAt (K : PySem.W.Frag) (C : Ca) (G H : Hp) (ws : Ws) (w : W) (k : Nat) (p : Addr) (f : Str) (d : D) (dx : Addr) (fs : List (Str × V)) (v : V) (o : List (Str × D)) (x : Nat) : Prop where
  at_ : ws.l[k]? = some (p, fs)
  ins : H p = some (.ins C.a dx fs)
  ok : w.o[k]? = some o
  ox : o[x]? = some (f, d)
  fx : fs[x]? = some (f, v)
  lk : fs.lookup f = some v
  fl : Fld K G H (io ws) v d
  put : ∀ d', putD f d' o = o.set x (f, d')
  putf : ∀ v', putF f v' fs = fs.set x (f, v')
theorem RelW.fld (r : RelW K C G H ws w) (hk : (io ws)[k]? = some p) (hg : getF w k f = some d) : ∃ dx fs v o x, FAt K C G H ws w k p f d dx fs v o x := by
  unfold getF at hg
  cases eo : w.o[k]? with
  | none => rw [eo] at hg; cases hg
  | some o =>
    rw [eo] at hg
    have hg : o.lookup f = some d := hg
    obtain ⟨⟨q, fs⟩, h1, ⟨⟨dx, h2⟩, h3⟩⟩ := paired_at r.obs eo
    have : q = p := by
      have : (io ws)[k]? = some q := by simp [io, h1]
      rw [hk] at this
      exact (Option.some.inj this).symm
    subst this
    obtain ⟨x, v, a1, a2, a3, a4, a5, a6⟩ := lookup_at h3 hg
    exact ⟨dx, fs, v, o, x, h1, h2, eo, a1, a2, a3, a4, a5, a6⟩
theorem setF_o {o : List (Str × D)} (h : w.o[k]? = some o) : (setF w k f d').o = w.o.set k (putD f d' o) := by
  show w.o.set k (putD f d' (w.o.getD k [])) = _
  rw [List.getD_eq_getElem?_getD, h]
  rfl
/-- a container that a field holds is changed in place -/
theorem Nx.fmut {dx a : Addr} {fs : List (Str × V)} {o : List (Str × D)} {x : Nat} {u u' : HO} (s : Sm G H) (r : RelW K C G H ws w) (A : FAt K C G H ws w k p f d dx fs (.ref a) o x) (hu : H a = some u) (cu : Cont u) (cu' : Cont u') (un : Unf K G (upd H a u') (DL.io ws) a d') :
    Nx K C G H ws G (upd H a u') ⟨ws.n + 1, ws.l, ws.lk⟩ (setF w k f d') := by
  have ha : a ∈ regs ws := (regs_mem (List.mem_of_getElem? A.at_)).2 a (refs_mem (List.mem_of_getElem? A.fx) rfl)
  have ga : G a = none := r.out a ha
  have nins : ∀ b C' dx' fs', H b = some (.ins C' dx' fs') → b ≠ a := fun b C' dx' fs' e z => by rw [z, hu] at e; cases e; exact cu
  have hlen : x < o.length := (List.getElem?_eq_some_iff.mp A.ox).1
  have hlen2 : k < w.o.length := (List.getElem?_eq_some_iff.mp A.ok).1
  refine ⟨fun _ _ h => h, fun b o h => (s b o h).upd (ne_of_none h ga), ⟨?_, ?_, r.nd, r.out, tabs_upd r.tb hu (nt_cont cu) (nx_cont cu), r.nt, ?_, r.lkw, lkh_cont r hu (nf_cont cu)⟩, fun b o h _ nr => h.upd (fun z => nr (z ▸ ha)), fun b o h no => ?_, fun _ _ _ _ h => .inl h, List.prefix_refl _, fun _ h => .inl h, Nat.le_succ _, fun h => absurd h (by show ws.n + 1 ≠ ws.n; omega), Stab.refl _⟩
  · rw [setF_o A.ok, A.put]
    obtain ⟨l1, l2⟩ := paired_ix r.obs
    refine paired_of (by rw [List.length_set]; exact l1) fun i q oi hi hoi => ?_
    obtain ⟨pi, fsi⟩ := q
    by_cases hik : k = i
    · subst hik
      rw [List.getElem?_set_self hlen2] at hoi
      cases hoi
      have e1 := A.at_
      rw [hi] at e1
      cases e1
      obtain ⟨⟨dx0, hp0⟩, pr⟩ := l2 k _ _ hi A.ok
      refine ⟨⟨dx0, by rw [upd_ne (nins _ _ _ _ hp0)]; exact hp0⟩, ?_⟩
      obtain ⟨f1, f2⟩ := paired_ix pr
      refine paired_of (by rw [List.length_set]; exact f1) fun j y z hy hz => ?_
      by_cases hj : x = j
      · subst hj
        rw [List.getElem?_set_self hlen] at hz
        cases hz
        have e2 := A.fx
        rw [hy] at e2
        cases e2
        exact ⟨rfl, .inl ⟨a, rfl, un⟩⟩
      · rw [List.getElem?_set_ne hj] at hz
        obtain ⟨g1, g2⟩ := f2 j y z hy hz
        refine ⟨g1, g2.move (fun _ _ h => h) (List.prefix_refl _) fun b ob eb hb => hb.upd fun zz => hj ?_⟩
        obtain ⟨yn, yv⟩ := y
        dsimp only at eb
        subst eb zz
        exact (regs_apart r.nd hi hi A.fx hy).2
    · rw [List.getElem?_set_ne hik] at hoi
      obtain ⟨⟨dx0, hp0⟩, pr⟩ := l2 i _ _ hi hoi
      refine ⟨⟨dx0, by rw [upd_ne (nins _ _ _ _ hp0)]; exact hp0⟩, ?_⟩
      obtain ⟨f1, f2⟩ := paired_ix pr
      refine paired_of f1 fun j y z hy hz => ?_
      obtain ⟨g1, g2⟩ := f2 j y z hy hz
      refine ⟨g1, g2.move (fun _ _ h => h) (List.prefix_refl _) fun b ob eb hb => hb.upd fun zz => hik ?_⟩
      obtain ⟨yn, yv⟩ := y
      dsimp only at eb
      subst eb zz
      exact (regs_apart r.nd A.at_ hi A.fx hy).1
  · show w.n + 1 = ws.n + 1
    rw [r.nn]
  · exact ul_upd r (fun _ _ h => h) (nf_cont cu')
  · by_cases hb : b = a
    · subst hb; rw [upd_same]; exact ⟨u', rfl, nt_cont cu'⟩
    · rw [upd_ne hb]; exact ⟨o, h, no⟩
theorem refs_set_int : ∀ {fs : List (Str × V)} {x : Nat} {g : Str} {i j : Int}, fs[x]? = some (g, .int i) → refs (fs.set x (g, .int j)) = refs fs
  | [], _, _, _, _, h => by simp at h
  | (n, v) :: r, 0, g, i, j, h => by simp at h; obtain ⟨rfl, rfl⟩ := h; rfl
  | (n, v) :: r, x + 1, g, i, j, h => by
    have ih := refs_set_int (fs := r) (x := x) (j := j) (by simpa using h)
    show refs ((n, v) :: r.set x (g, .int j)) = refs ((n, v) :: r)
    cases v <;> first | exact ih | (show _ :: refs _ = _ :: refs _; rw [ih])
theorem regs_set {fs fs' : List (Str × V)} (h : refs fs' = refs fs) : ∀ {l : Ws0} {k : Nat} {p : Addr}, l[k]? = some (p, fs) → regs0 (l.set k (p, fs')) = regs0 l
  | [], _, _, e => by simp at e
  | (q, zs) :: r, 0, p, e => by simp at e; obtain ⟨rfl, rfl⟩ := e; show q :: (refs fs' ++ _) = q :: (refs zs ++ _); rw [h]
  | (q, zs) :: r, k + 1, p, e => by
    have ih := regs_set h (l := r) (k := k) (p := p) (by simpa using e)
    show q :: (refs zs ++ regs0 (r.set k (p, fs'))) = _
    rw [ih]
    rfl
end
end DL
namespace DL
open PySem PySem.Spec PyProof.Rows L2
section
variable {K : PySem.W.Frag} {C : Ca} {G H : Hp} {ws : Ws} {w : W} {k : Nat} {p : Addr} {f : Str} {d d' : D}
theorem rv_obj {v : V} {m : Md} (h : RV K G H ws v ⟨m, .obj k⟩) : ∃ p, v = .ref p ∧ (io ws)[k]? = some p ∧ m = .fz := by
  unfold RV at h
  cases m with
  | fz => cases h with | obj e => exact ⟨_, rfl, e, rfl⟩
  | nw => obtain ⟨a, _, _, _, u⟩ := h; cases u
  | bo => obtain ⟨a, _, _, _, u⟩ := h; cases u
  | wd => obtain ⟨a, _, _, _, u⟩ := h; cases u
theorem FAt.val {dx : Addr} {fs : List (Str × V)} {v : V} {o : List (Str × D)} {x : Nat} (r : RelW K C G H ws w) (A : FAt K C G H ws w k p f d dx fs v o x) : RV K G H ws v (fval d) := by
  rcases A.fl with ⟨a, rfl, u⟩ | ⟨i, rfl, rfl⟩
  · have ha : a ∈ regs ws := (regs_mem (List.mem_of_getElem? A.at_)).2 a (refs_mem (List.mem_of_getElem? A.fx) rfl)
    have : fval d = ⟨.wd, d⟩ := by cases u <;> rfl
    rw [this]
    exact ⟨a, rfl, r.out a ha, ha, u⟩
  · exact .int i
theorem fval_nw {H : Hp} {v : V} : NewOk H v (fval d) := fun z => by cases d <;> cases z
/-- an int that a field holds is stored anew -/
theorem Nx.fint {dx : Addr} {fs : List (Str × V)} {o : List (Str × D)} {x : Nat} {i j : Int} (s : Sm G H) (r : RelW K C G H ws w) (A : FAt K C G H ws w k p f (.int i) dx fs (.int i) o x) :
    Nx K C G H ws G (upd H p (.ins C.a dx (putF f (.int j) fs))) ⟨ws.n + 1, ws.l.set k (p, putF f (.int j) fs), ws.lk⟩ (setF w k f (.int j)) := by
  have hp : p ∈ regs ws := (regs_mem (List.mem_of_getElem? A.at_)).1
  have gp : G p = none := r.out p hp
  have hlen : x < o.length := (List.getElem?_eq_some_iff.mp A.ox).1
  have hlenF : x < fs.length := (List.getElem?_eq_some_iff.mp A.fx).1
  have hlen2 : k < w.o.length := (List.getElem?_eq_some_iff.mp A.ok).1
  have hlen3 : k < ws.l.length := (List.getElem?_eq_some_iff.mp A.at_).1
  have hio : (ws.l.set k (p, putF f (.int j) fs)).map (·.1) = ws.l.map (·.1) := by
    apply List.ext_getElem?
    intro n
    rw [List.getElem?_map, List.getElem?_map]
    by_cases hn : k = n
    · subst hn; rw [List.getElem?_set_self hlen3, A.at_]; rfl
    · rw [List.getElem?_set_ne hn]
  have hrg : regs0 (ws.l.set k (p, putF f (.int j) fs)) = regs0 ws.l := regs_set (by rw [A.putf]; exact refs_set_int A.fx) A.at_
  have fldp : ∀ {v : V} {z : D}, Fld K G H (DL.io ws) v z → Fld K G (upd H p (.ins C.a dx (putF f (.int j) fs))) (DL.io ws) v z := fun {v z} h => by
    refine h.move (fun _ _ h => h) (List.prefix_refl _) fun b ob eb hb => hb.upd fun zz => ?_
    subst zz
    rcases h with ⟨b', e', u⟩ | ⟨_, e', _⟩
    · rw [eb] at e'
      cases e'
      obtain ⟨o1, h1, h2⟩ := u.there
      have := h1.uniq (.inl A.ins) (nf_cont h2) (by intro _ _ z; cases z)
      subst this
      exact h2
    · rw [eb] at e'; cases e'
  refine ⟨fun _ _ h => h, fun b o h => (s b o h).upd (ne_of_none h gp), ⟨?_, ?_, ?_, ?_, tabs_upd r.tb A.ins nt_ins (by intro _ z; cases z), r.nt, ul_upd r (fun _ _ h => h) (by intro _ _ z; cases z), r.lkw, lkh_cont r A.ins (by intro _ _ z; cases z)⟩, fun b o h _ nr => h.upd (fun z => nr (z ▸ hp)), fun b o h no => ?_, fun _ _ _ _ h => .inl h, ?_, fun a h => .inl ?_, Nat.le_succ _, fun h => absurd h (by show ws.n + 1 ≠ ws.n; omega), fun n q fq hq => ?_⟩
  · show Paired _ (ws.l.set k (p, putF f (.int j) fs)) _
    rw [setF_o A.ok, A.put]
    obtain ⟨l1, l2⟩ := paired_ix r.obs
    refine paired_of (by rw [List.length_set, List.length_set]; exact l1) fun n q on hn hon => ?_
    show (∃ dx, _) ∧ Paired (fun (x : Str × V) (y : Str × D) => x.1 = y.1 ∧ Fld K G _ ((ws.l.set k (p, putF f (.int j) fs)).map (·.1)) x.2 y.2) _ _
    rw [hio]
    by_cases hkn : k = n
    · subst hkn
      rw [List.getElem?_set_self hlen3] at hn
      rw [List.getElem?_set_self hlen2] at hon
      cases hn
      cases hon
      refine ⟨⟨dx, upd_same⟩, ?_⟩
      obtain ⟨_, pr⟩ := l2 k _ _ A.at_ A.ok
      obtain ⟨f1, f2⟩ := paired_ix pr
      have hpf := A.putf (.int j)
      refine paired_of (by show (putF f (.int j) fs).length = _; rw [hpf, List.length_set, List.length_set]; exact f1) fun m y z hy hz => ?_
      have hy : (putF f (.int j) fs)[m]? = some y := hy
      rw [hpf] at hy
      by_cases hm : x = m
      · subst hm
        rw [List.getElem?_set_self hlenF] at hy
        rw [List.getElem?_set_self hlen] at hz
        cases hy
        cases hz
        exact ⟨rfl, .inr ⟨j, rfl, rfl⟩⟩
      · rw [List.getElem?_set_ne hm] at hy hz
        obtain ⟨g1, g2⟩ := f2 m y z hy hz
        exact ⟨g1, fldp g2⟩
    · rw [List.getElem?_set_ne hkn] at hn hon
      obtain ⟨⟨dx0, hp0⟩, pr⟩ := l2 n _ _ hn hon
      have np : q.1 ≠ p := fun z => hkn (regs_objs r.nd A.at_ (show ws.l[n]? = some (p, q.2) by rw [← z]; exact hn))
      exact ⟨⟨dx0, by rw [upd_ne np]; exact hp0⟩, paired_imp pr fun y z _ ⟨g1, g2⟩ => ⟨g1, fldp g2⟩⟩
  · show w.n + 1 = ws.n + 1
    rw [r.nn]
  · show (regs0 (ws.l.set k (p, putF f (.int j) fs))).Nodup
    rw [hrg]; exact r.nd
  · intro a ha
    have ha : a ∈ regs0 (ws.l.set k (p, putF f (.int j) fs)) := ha
    rw [hrg] at ha
    exact r.out a ha
  · by_cases hb : b = p
    · subst hb; rw [upd_same]; exact ⟨_, rfl, nt_ins⟩
    · rw [upd_ne hb]; exact ⟨o, h, no⟩
  · show ws.l.map (·.1) <+: (ws.l.set k (p, putF f (.int j) fs)).map (·.1)
    rw [hio]
    exact List.prefix_refl _
  · have h : a ∈ regs0 (ws.l.set k (p, putF f (.int j) fs)) := h
    rw [hrg] at h
    exact h
  · show ∃ fs', (ws.l.set k (p, putF f (.int j) fs))[n]? = some (q, fs') ∧ _
    by_cases hn : k = n
    · subst hn
      rw [A.at_] at hq
      cases hq
      refine ⟨putF f (.int j) fs, List.getElem?_set_self hlen3, ?_, fun y g b hy => ?_⟩
      · rw [A.putf, List.map_set]
        apply List.ext_getElem?
        intro m
        by_cases hm : x = m
        · subst hm
          rw [List.getElem?_set_self (by simpa using hlenF), List.getElem?_map, A.fx]
          rfl
        · rw [List.getElem?_set_ne hm]
      · rw [A.putf]
        by_cases hm : x = y
        · subst hm; rw [A.fx] at hy; cases hy
        · rw [List.getElem?_set_ne hm]; exact hy
    · rw [List.getElem?_set_ne hn]
      exact ⟨fq, hq, rfl, fun _ _ _ h => h⟩
end
section
variable {P : Pm} {H0 : En} {Wi : WX} {to te : TE} {fo fe : DE}
/-! ### o.f -/
def dFld (f : Str) (fo : DE) : DE := fun ρ w => (fo ρ w).bind fun x w => match x.d with
  | .obj k => (match getF w k f with | some d => .ok (fval d) w | none => .bad)
  | _ => .bad
/-- an object's field is found -/
theorem obj_fld {σ : L2.St} {H G : Hp} {ws : Ws} {ρ : Env} {w : W} {Q : VK} {f : Str} {E : Value → Option Addr → Hp → Prop} {H1 G1 : Hp} {ws1 : Ws} {w1 : W} {v : V} {x : Val} (n1 : Nx P.K P.C G H ws G1 H1 ws1 w1) (r1 : RV P.K G1 H1 ws1 v x)
    {α : Type} {Z : R α → Prop} (hz : ¬ Z .bad) {g : Nat → D → R α} (h : Z (match x.d with | .obj k => (match getF w1 k f with | some d => g k d | none => .bad) | _ => .bad)) : ∃ k d p dx fs u o y, x = fz (.obj k) ∧ v = .ref p ∧ (io ws1)[k]? = some p ∧ getF w1 k f = some d ∧ FAt P.K P.C G1 H1 ws1 w1 k p f d dx fs u o y ∧ Z (g k d) := by
  obtain ⟨m, d⟩ := x
  cases d <;> try exact absurd h hz
  rename_i k
  obtain ⟨p, rfl, e1, rfl⟩ := rv_obj r1
  dsimp only at h
  cases eg : getF w1 k f with
  | none => rw [eg] at h; exact absurd h hz
  | some d =>
    rw [eg] at h
    obtain ⟨dx, fs, u, o, y, A⟩ := n1.rw.fld e1 eg
    exact ⟨k, d, p, dx, fs, u, o, y, rfl, rfl, e1, eg, A, h⟩
theorem ev_fld {f : Str} (c : Cls P.K P.C.a) (n : NoAttr P.K P.C.a f) (ho : EvE P H0 Wi to fo) : EvE P H0 Wi (tFld P.K to f) (dFld f fo) := by
  intro σ H G ws ρ w Q st h
  unfold dFld at h
  refine ho σ H G ws ρ w _ st ?_
  cases e : fo ρ w with
  | bad => rw [e] at h; exact h
  | ex x w' => rw [e] at h; exact h
  | ok x w' =>
    intro v H1 G1 ws1 n1 r1 k1
    rw [e] at h
    obtain ⟨k, d, p, dx, fs, u, o, y, rfl, rfl, e1, eg, A, hq⟩ := obj_fld (f := f) (σ := σ) (ρ := ρ) (w := w) (Q := Q) (E := fun c d H' => Wi c d σ H') n1 r1 (Z := PostE P (fun c d H' => Wi c d σ H') H G ws Q) id (g := fun k d => .ok (fval d) w') h
    exact ⟨p, P.C.a, dx, fs, u, rfl, A.ins, c, n, A.lk, hq u H1 G1 ws1 n1 (A.val n1.rw) fval_nw⟩
/-! ### o.f = e, an int -/
def sFst (f : Str) (fo fv : DE) : DS := fun ρ w => (fv ρ w).thn ρ fun y w => (fo ρ w).thn ρ fun x w => match x.d with
  | .obj k => (match getF w k f with | some (.int _) => (match y.d with | .int j => if (w.o.getD k []).length < 1000 then .next ρ (setF w k f (.int j)) else .bad | _ => .bad) | _ => .bad)
  | _ => .bad
theorem ev_fst {f : Str} (c : Cls P.K P.C.a) (n : NoAttr P.K P.C.a f) (ho : EvE P H0 Wi to fo) (hv : EvE P H0 Wi te fe) : EvS P H0 Wi (sFld P.K to te f) (sFst f fo fe) := by
  intro σ H G ws ρ w D st h
  unfold sFst at h
  refine hv σ H G ws ρ w _ st (postE_of st h fun y w1 _ h vy H1 G1 ws1 n1 ry ky => ?_)
  have st1 := st.next n1
  have h : PostS P H0 Wi D G1 ws1 _ := PostS.after n1.mon h
  refine ho σ H1 G1 ws1 ρ w1 _ st1 (postE_of st1 h fun x w2 _ h vx H2 G2 ws2 n2 rx kx => ?_)
  obtain ⟨m, dd⟩ := x
  cases dd with
  | obj k =>
    obtain ⟨p, rfl, e1, rfl⟩ := rv_obj rx
    dsimp only at h
    split at h
    · rename_i i eg
      obtain ⟨dx, fs, u, o, x, A⟩ := n2.rw.fld e1 eg
      obtain ⟨my, dy⟩ := y
      cases dy with
      | int j =>
        dsimp only at h
        split at h
        · rename_i hlt
          have e2 := rv_int ry
          subst e2
          have eu : u = .int i := by
            rcases A.fl with ⟨a, rfl, un⟩ | ⟨i', rfl, e⟩
            · cases un
            · cases e; rfl
          subst eu
          have hfl : fs.length < 1000 := by
            obtain ⟨_, l2⟩ := paired_ix n2.rw.obs
            obtain ⟨_, pr⟩ := l2 k _ _ A.at_ A.ok
            have : fs.length = o.length := (paired_ix pr).1
            rw [List.getD_eq_getElem?_getD, A.ok] at hlt
            rw [this]
            exact hlt
          refine ⟨p, P.C.a, dx, fs, rfl, A.ins, c, n, hfl, ?_⟩
          have n3 := Nx.fint (j := j) n2.sub n2.rw A
          exact h σ _ G2 _ ((st1.next n2).next n3) (n2.mon.trans n3.mon)
        · exact h.elim
      | _ => exact h.elim
    · exact h.elim
  | _ => exact h.elim
/-! ### o.f.append(e) -/
def sFapp (f : Str) (fo fe : DE) : DS := fun ρ w => (fo ρ w).thn ρ fun x w1 => match x.d with
  | .obj k => (match getF w1 k f with
    | some (.lst _) => (fe ρ w1).thn ρ fun y w2 => (match getF w2 k f with
      | some (.lst ds) => if keepM y ∧ w2.n = w1.n ∧ ds.length < sizeLine then .next ρ (setF w2 k f (.lst (ds ++ [y.d]))) else .bad
      | _ => .bad)
    | _ => .bad)
  | _ => .bad
/-- a field that is seen again: the same thing -/
theorem FAt.again {K : PySem.W.Frag} {C : Ca} {G H G' H' : Hp} {ws ws' : Ws} {w w' : W} {k : Nat} {p p' : Addr} {f : Str} {d d' : D} {dx dx' : Addr} {fs fs' : List (Str × V)} {v v' : V} {o o' : List (Str × D)} {x x' : Nat} (A : FAt K C G H ws w k p f d dx fs v o x) (B : FAt K C G' H' ws' w' k p' f d' dx' fs' v' o' x') (e : ws' = ws) : v' = v := by
  subst e
  have h1 := A.at_
  rw [B.at_] at h1
  cases h1
  have h2 := A.lk
  rw [B.lk] at h2
  exact Option.some.inj h2
theorem Fld.lst {K : PySem.W.Frag} {G H : Hp} {ι : List Addr} {v : V} {ds : List D} (h : Fld K G H ι v (.lst ds)) : ∃ a vs, v = .ref a ∧ H a = some (.lst vs) ∧ Reps K G ι vs ds := by
  rcases h with ⟨a, rfl, u⟩ | ⟨i, _, e⟩
  · cases u with | lst h1 h2 => exact ⟨a, _, rfl, h1, h2⟩
  · cases e
theorem ev_fapp {f : Str} (c : Cls P.K P.C.a) (n : NoAttr P.K P.C.a f) (ho : EvE P H0 Wi to fo) (hv : EvE P H0 Wi te fe) : EvS P H0 Wi (tDrop (tBM P.K "list" rAppend (tFld P.K to f) (tCons te tNil))) (sFapp f fo fe) := by
  intro σ H G ws ρ w D st h
  unfold sFapp at h
  refine ho σ H G ws ρ w _ st (postE_of st h fun x w1 _ h vx H1 G1 ws1 n1 rx kx => ?_)
  have st1 := st.next n1
  have h : PostS P H0 Wi D G1 ws1 _ := PostS.after n1.mon h
  obtain ⟨m, dd⟩ := x
  cases dd with
  | obj k =>
    obtain ⟨p, rfl, e1, rfl⟩ := rv_obj rx
    dsimp only at h
    split at h
    · rename_i ds0 eg
      obtain ⟨dx, fs, u, o, x, A⟩ := n1.rw.fld e1 eg
      obtain ⟨a, vs0, rfl, ha0, _⟩ := A.fl.lst
      refine ⟨p, P.C.a, dx, fs, .ref a, rfl, A.ins, c, n, A.lk, .inl ⟨rfl, _, SqL.of ha0⟩, ?_⟩
      refine hv σ H1 G1 ws1 ρ w1 _ st1 (postE_of st1 h fun y w2 _ h vy H2 G2 ws2 n2 ry ky => ?_)
      split at h
      · rename_i ds eg2
        split at h
        · rename_i hc
          obtain ⟨ew, _⟩ := n2.qt (n2.same n1.rw hc.2.1)
          obtain ⟨G3, s3, n3, rp⟩ := st1.frzV n2 ry ky hc.1
          have e2 : (DL.io ws2)[k]? = some p := by rw [ew]; exact e1
          obtain ⟨dx2, fs2, u2, o2, x2, B⟩ := n3.rw.fld e2 eg2
          have eu := A.again B ew
          subst eu
          obtain ⟨a2, vs, ea, ha, rs⟩ := B.fl.lst
          cases ea
          refine ⟨a, vs, vy, rfl, rfl, ha, by rw [rs.length]; exact hc.2.2, ?_⟩
          have n4 := Nx.fmut (d' := .lst (ds ++ [y.d])) (u' := .lst (vs ++ [vy])) n3.sub n3.rw B ha trivial trivial (.lst upd_same (rs.append (.cons rp .nil)))
          exact h σ _ G3 _ ((st1.next n3).next n4) (n3.mon.trans n4.mon)
        · exact h.elim
      · exact h.elim
    · exact h.elim
  | _ => exact h.elim
end
end DL
/-! Dicts. -/
namespace DL
open PySem PySem.Spec PyProof.Rows L2
section
variable {κ : Type} [DecidableEq κ]
def valD (kvs : List (κ × D)) (k : κ) : Option D := (kvs.find? fun kv => decide (kv.1 = k)).map (·.2)
def putKD (kvs : List (κ × D)) (k : κ) (v : D) : List (κ × D) :=
  if (kvs.any fun kv => decide (kv.1 = k)) = true then kvs.map (fun kv => if kv.1 = k then (kv.1, v) else kv) else kvs ++ [(k, v)]
variable {K : PySem.W.Frag} {G : Hp} {ι : List Addr}
theorem val_rel (k : κ) : ∀ {kvs : List (κ × V)} {ds : List (κ × D)}, kvs.map (·.1) = ds.map (·.1) → Reps K G ι (kvs.map (·.2)) (ds.map (·.2)) → (valD ds k = none ∧ valV kvs k = none) ∨ ∃ v d, valD ds k = some d ∧ valV kvs k = some v ∧ Rep K G ι v d
  | [], [], _, _ => .inl ⟨rfl, rfl⟩
  | [], _ :: _, h, _ => by simp at h
  | _ :: _, [], h, _ => by simp at h
  | (a, v) :: kvs, (b, d) :: ds, h, r => by
    simp only [List.map_cons, List.cons.injEq] at h
    obtain ⟨h1, h2⟩ := h
    subst h1
    cases r with
    | cons r1 r2 =>
      by_cases e : a = k
      · exact .inr ⟨v, d, by simp [valD, e], by simp [valV, e], r1⟩
      · rcases val_rel k h2 r2 with ⟨e1, e2⟩ | ⟨v', d', e1, e2, e3⟩
        · exact .inl ⟨by simpa [valD, e] using e1, by simpa [valV, e] using e2⟩
        · exact .inr ⟨v', d', by simpa [valD, e] using e1, by simpa [valV, e] using e2, e3⟩
theorem any_rel (k : κ) : ∀ {kvs : List (κ × V)} {ds : List (κ × D)}, kvs.map (·.1) = ds.map (·.1) → (kvs.any fun kv => decide (kv.1 = k)) = ds.any fun kv => decide (kv.1 = k)
  | [], [], _ => rfl
  | [], _ :: _, h => by simp at h
  | _ :: _, [], h => by simp at h
  | (a, v) :: kvs, (b, d) :: ds, h => by
    simp only [List.map_cons, List.cons.injEq] at h
    rw [List.any_cons, List.any_cons, any_rel k h.2]
    dsimp only at h ⊢
    rw [h.1]
theorem put_rel {k : κ} {v : V} {d : D} {kvs : List (κ × V)} {ds : List (κ × D)} (h : kvs.map (·.1) = ds.map (·.1)) (r : Reps K G ι (kvs.map (·.2)) (ds.map (·.2))) (rv : Rep K G ι v d) :
    (putK kvs k v).map (·.1) = (putKD ds k d).map (·.1) ∧ Reps K G ι ((putK kvs k v).map (·.2)) ((putKD ds k d).map (·.2)) := by
  unfold putK putKD
  rw [any_rel k h]
  split
  · have go : ∀ {kvs : List (κ × V)} {ds : List (κ × D)}, kvs.map (·.1) = ds.map (·.1) → Reps K G ι (kvs.map (·.2)) (ds.map (·.2)) → (kvs.map fun kv => if kv.1 = k then (kv.1, v) else kv).map (·.1) = (ds.map fun kv => if kv.1 = k then (kv.1, d) else kv).map (·.1) ∧ Reps K G ι ((kvs.map fun kv => if kv.1 = k then (kv.1, v) else kv).map (·.2)) ((ds.map fun kv => if kv.1 = k then (kv.1, d) else kv).map (·.2)) := by
      intro kvs
      induction kvs with
      | nil => intro ds h r; cases ds with | nil => exact ⟨rfl, .nil⟩ | cons _ _ => simp at h
      | cons p kvs ih =>
        intro ds h r
        cases ds with
        | nil => simp at h
        | cons q ds =>
          simp only [List.map_cons, List.cons.injEq] at h
          cases r with
          | cons r1 r2 =>
            obtain ⟨i1, i2⟩ := ih h.2 r2
            simp only [List.map_cons]
            by_cases e : p.1 = k
            · have e' : q.1 = k := h.1 ▸ e
              rw [if_pos e, if_pos e']
              exact ⟨by rw [i1, h.1], .cons rv i2⟩
            · have e' : ¬ q.1 = k := h.1 ▸ e
              rw [if_neg e, if_neg e']
              exact ⟨by rw [i1, h.1], .cons r1 i2⟩
    exact go h r
  · rw [List.map_append, List.map_append, List.map_append, List.map_append, h]
    exact ⟨rfl, r.append (.cons rv .nil)⟩
theorem len_rel {kvs : List (κ × V)} {ds : List (κ × D)} (h : kvs.map (·.1) = ds.map (·.1)) : kvs.length = ds.length := by
  have := congrArg List.length h
  simpa using this
end
/-- a key: an int or a text -/
def kD : D → Option Key
  | .int i => some (.inl i)
  | .str x => some (.inr x)
  | _ => none
/-- a key of such -/
def kDs : List D → Option (List Key)
  | [] => some []
  | d :: ds => match kD d, kDs ds with
    | some k, some ks => some (k :: ks)
    | _, _ => none
section
variable {K : PySem.W.Frag} {C : Ca} {G H : Hp} {ws : Ws} {w : W}
theorem rv_key {v : V} {x : Val} {k : Key} (h : RV K G H ws v x) (e : kD x.d = some k) : v = kV k := by
  obtain ⟨m, d⟩ := x
  unfold kD at e
  split at e
  · rename_i i e'; cases e'; cases e; exact rv_int h
  · rename_i i e'; cases e'; cases e; exact rv_str h
  · cases e
theorem rep_key {ι : List Addr} {v : V} {d : D} {k : Key} (h : Rep K G ι v d) (e : kD d = some k) : v = kV k := by
  cases h <;> first | (cases e; rfl) | cases e
theorem reps_keys {ι : List Addr} : ∀ {vs : List V} {ds : List D} {ks : List Key}, Reps K G ι vs ds → kDs ds = some ks → vs = ks.map kV
  | _, _, ks, .nil, e => by cases e; rfl
  | _, _, ks, .cons (d := d) (ds := ds) a b, e => by
    unfold kDs at e
    cases h1 : kD d with
    | none => rw [h1] at e; cases e
    | some k =>
      cases h2 : kDs ds with
      | none => rw [h1, h2] at e; cases e
      | some ks' =>
        rw [h1, h2] at e
        cases e
        rw [rep_key a h1, reps_keys b h2]
        rfl
theorem rv_dK {v : V} {m : Md} {ds : List (Key × D)} (s : Sm G H) (h : RV K G H ws v ⟨m, .dK ds⟩) : ∃ a kvs, v = .ref a ∧ Lk H a (.dK kvs) ∧ kvs.map (·.1) = ds.map (·.1) ∧ Reps K G (io ws) (kvs.map (·.2)) (ds.map (·.2)) := by
  unfold RV at h
  cases m with
  | fz => cases h with | dK q k r => exact ⟨_, _, rfl, s _ _ q, k, r⟩
  | nw => obtain ⟨a, e, _, _, u⟩ := h; cases u with | dK q k r => exact ⟨a, _, e, q, k, r⟩
  | bo => obtain ⟨a, e, _, _, u⟩ := h; cases u with | dK q k r => exact ⟨a, _, e, q, k, r⟩
  | wd => obtain ⟨a, e, _, _, u⟩ := h; cases u with | dK q k r => exact ⟨a, _, e, q, k, r⟩
theorem rv_dT {v : V} {m : Md} {ds : List (List Key × D)} (s : Sm G H) (h : RV K G H ws v ⟨m, .dT ds⟩) : ∃ a kvs, v = .ref a ∧ Lk H a (.dT kvs) ∧ kvs.map (·.1) = ds.map (·.1) ∧ Reps K G (io ws) (kvs.map (·.2)) (ds.map (·.2)) := by
  unfold RV at h
  cases m with
  | fz => cases h with | dT q k r => exact ⟨_, _, rfl, s _ _ q, k, r⟩
  | nw => obtain ⟨a, e, _, _, u⟩ := h; cases u with | dT q k r => exact ⟨a, _, e, q, k, r⟩
  | bo => obtain ⟨a, e, _, _, u⟩ := h; cases u with | dT q k r => exact ⟨a, _, e, q, k, r⟩
  | wd => obtain ⟨a, e, _, _, u⟩ := h; cases u with | dT q k r => exact ⟨a, _, e, q, k, r⟩
/-- what is not frozen is not locked, while no dict is walked -/
theorem Lk.free {a : Addr} {u : HO} (h : Lk H a u) (r : RelW K C G H ws w) (hl : w.lk = false) (g : G a = none) : H a = some u := by
  rcases h with h | ⟨hd, o, h⟩
  · exact h
  · have := r.ul0 hl h hd
    rw [g] at this
    cases this
end
section
variable {P : Pm} {H0 : En} {Wi : WX} {ta tb tc : TE} {fa fb fc : DE} {tr : TA} {fr : DA}
/-! ### d[k], k in d: k an int or a text -/
def gIxD : Val → Val → W → R Val := fun x y w => match x.d, kD y.d with
  | .dK kvs, some k => (match valD kvs k with | some d => .ok (fz d) w | none => .bad)
  | _, _ => .bad
def gInD (neg : Bool) : Val → Val → W → R Val := fun y x w => match x.d, kD y.d with
  | .dK kvs, some k => .ok (fz (.bl (neg != (valD kvs k).isSome))) w
  | _, _ => .bad
theorem gIxD_nx (x y : Val) (w : W) (e : Xc) (w' : W) : gIxD x y w ≠ .ex e w' := by
  unfold gIxD
  repeat' split
  all_goals exact fun h => nomatch h
theorem gInD_nx {neg : Bool} (x y : Val) (w : W) (e : Xc) (w' : W) : gInD neg x y w ≠ .ex e w' := by
  unfold gInD
  repeat' split
  all_goals exact fun h => nomatch h
theorem rop_ixD : ROp P (fun x y H Q => ∃ a v, x = .ref a ∧ DGet H a y (some v) ∧ Q v H) gIxD := by
  intro H G ws w vx vy x y Q s r hx hy h
  obtain ⟨m, d⟩ := x
  unfold gIxD at h
  dsimp only at h
  split at h
  · rename_i kvs k hk
    obtain ⟨a, ks, rfl, hl, k1, k2⟩ := rv_dK s hx
    have ey := rv_key hy hk
    subst ey
    rcases val_rel k k1 k2 with ⟨e1, e2⟩ | ⟨v, d, e1, e2, e3⟩
    · rw [e1] at h; exact h.elim
    · rw [e1] at h
      exact ⟨a, v, rfl, .inl ⟨ks, k, hl.rd, rfl, e2.symm⟩, fz_q s r h e3⟩
  · exact h.elim
theorem rop_inD : ROp P (fun y x H Q => ∃ a o, x = .ref a ∧ DGet H a y o ∧ Q (.bl o.isSome) H) (gInD false) := by
  intro H G ws w vy vx y x Q s r hy hx h
  obtain ⟨m, d⟩ := x
  unfold gInD at h
  dsimp only at h
  split at h
  · rename_i kvs k hk
    obtain ⟨a, ks, rfl, hl, k1, k2⟩ := rv_dK s hx
    have ey := rv_key hy hk
    subst ey
    refine ⟨a, valV ks k, rfl, .inl ⟨ks, k, hl.rd, rfl, rfl⟩, ?_⟩
    have : (valV ks k).isSome = (valD kvs k).isSome := by
      rcases val_rel k k1 k2 with ⟨e1, e2⟩ | ⟨v, d, e1, e2, e3⟩ <;> rw [e1, e2] <;> rfl
    rw [this]
    exact fz_q s r h (by simpa using Rep.bl _)
  · exact h.elim
theorem rop_ninD : ROp P (fun y x H Q => ∃ a o, x = .ref a ∧ DGet H a y o ∧ Q (.bl (!o.isSome)) H) (gInD true) := by
  intro H G ws w vy vx y x Q s r hy hx h
  obtain ⟨m, d⟩ := x
  unfold gInD at h
  dsimp only at h
  split at h
  · rename_i kvs k hk
    obtain ⟨a, ks, rfl, hl, k1, k2⟩ := rv_dK s hx
    have ey := rv_key hy hk
    subst ey
    refine ⟨a, valV ks k, rfl, .inl ⟨ks, k, hl.rd, rfl, rfl⟩, ?_⟩
    have : (valV ks k).isSome = (valD kvs k).isSome := by
      rcases val_rel k k1 k2 with ⟨e1, e2⟩ | ⟨v, d, e1, e2, e3⟩ <;> rw [e1, e2] <;> rfl
    rw [this]
    exact fz_q s r h (by simpa using Rep.bl _)
  · exact h.elim
/-! ### d[a, b], (a, b) in d -/
/-- a key that is written as a tuple -/
def keyT (f : DA) : Env → W → R (List Key) := fun ρ w => (f ρ w).bind fun xs w => match frzD xs with
  | some ds => (match kDs ds with | some ks => if ds.length ≤ sizeLine then .ok ks w else .bad | none => .bad)
  | none => .bad
def PostK (P : Pm) (E : Value → Option Addr → Hp → Prop) (H G : Hp) (ws : Ws) (Q : VK) : R (List Key) → Prop
  | .ok ks w' => ∀ p H' G' ws', Nx P.K P.C G H ws G' H' ws' w' → H' p = some (.tup (ks.map kV)) → Q (.ref p) H'
  | .ex x w' => ∀ cls d H' G' ws', Nx P.K P.C G H ws G' H' ws' w' → XRel P.K P.cm G' H' (io ws') x cls d → E cls d H'
  | .bad => False
def EvK (P : Pm) (H0 : En) (Wi : WX) (te : TE) (f : Env → W → R (List Key)) : Prop := ∀ σ H G ws ρ w (Q : VK), St P.K P.C H0 σ H G ws ρ w → PostK P (fun c d H' => Wi c d σ H') H G ws Q (f ρ w) → te σ H Q
theorem PostK.after {E : Value → Option Addr → Hp → Prop} {H G H1 G1 : Hp} {ws ws1 : Ws} {w1 : W} {Q : VK} {r : R (List Key)} (n : Nx P.K P.C G H ws G1 H1 ws1 w1) (h : PostK P E H G ws Q r) : PostK P E H1 G1 ws1 Q r := by
  cases r with
  | ok x w => exact fun v H' G' ws' n2 r => h v H' G' ws' (n.trans n2) r
  | ex x w => exact fun c d H' G' ws' n2 r => h c d H' G' ws' (n.trans n2) r
  | bad => exact h
theorem ev_keyT (h : EvA P H0 Wi tr fr) : EvK P H0 Wi (tTup tr) (keyT fr) := by
  intro σ H G ws ρ w Q st hq
  unfold keyT at hq
  refine h σ H G ws ρ w _ st ?_
  cases e : fr ρ w with
  | bad => rw [e] at hq; exact hq
  | ex x w' => rw [e] at hq; exact hq
  | ok xs w' =>
    intro vs H1 G1 ws1 n1 r1 k1
    rw [e] at hq
    have hq : PostK P _ H G ws Q (match frzD xs with | some ds => (match kDs ds with | some ks => if ds.length ≤ sizeLine then .ok ks w' else .bad | none => .bad) | none => .bad) := hq
    cases e2 : frzD xs with
    | none => rw [e2] at hq; exact hq.elim
    | some ds =>
      rw [e2] at hq
      dsimp only at hq
      cases e3 : kDs ds with
      | none => rw [e3] at hq; exact hq.elim
      | some ks =>
        rw [e3] at hq
        dsimp only at hq
        split at hq
        · rename_i hl
          obtain ⟨G2, s2, n2, r2⟩ := freezeAll n1 r1 k1 e2
          have ev := reps_keys r2 e3
          subst ev
          refine ⟨by rw [r2.length]; exact hl, fun p hp => ?_⟩
          have n3 := Nx.put (o := .tup (ks.map kV)) n2.sub n2.rw hp
          exact hq p _ _ _ (n2.trans n3) upd_same
        · exact hq.elim
def dIxT (fa : DE) (fk : Env → W → R (List Key)) : DE := fun ρ w => (fa ρ w).bind fun x w1 => (fk ρ w1).bind fun ks w2 => chk x w1 w2 (match x.d with
  | .dT kvs => (match valD kvs ks with | some d => .ok (fz d) w2 | none => .bad)
  | _ => .bad)
def dInT (neg : Bool) (fk : Env → W → R (List Key)) (fa : DE) : DE := fun ρ w => (fk ρ w).bind fun ks w1 => (fa ρ w1).bind fun x w2 => match x.d with
  | .dT kvs => .ok (fz (.bl (neg != (valD kvs ks).isSome))) w2
  | _ => .bad
/-- a tuple stays -/
theorem Nx.tup {K : PySem.W.Frag} {C : Ca} {G H G' H' : Hp} {ws ws' : Ws} {w w' : W} {p : Addr} {vs : List V} (r : RelW K C G H ws w) (n : Nx K C G H ws G' H' ws' w') (h : H p = some (.tup vs)) : H' p = some (.tup vs) := by
  refine (n.keep p _ (.inl h) nt_tup fun hr => ?_).eq
  have go : ∀ {l : Ws0} {m : List (List (Str × D))}, Paired (fun (q : Addr × List (Str × V)) (o : List (Str × D)) => (∃ dx, H q.1 = some (.ins C.a dx q.2)) ∧ Paired (fun (x : Str × V) (y : Str × D) => x.1 = y.1 ∧ Fld K G H (DL.io ws) x.2 y.2) q.2 o) l m → p ∈ regs0 l → False := by
    intro l m pr
    induction pr with
    | nil => intro h; simp [regs0] at h
    | @cons q o l m p1 p2 ih =>
      intro hm
      obtain ⟨q, fs⟩ := q
      obtain ⟨⟨dx, e⟩, pf⟩ := p1
      rcases List.mem_cons.mp hm with rfl | hm
      · rw [h] at e; cases e
      · rcases List.mem_append.mp hm with hm | hm
        · have go2 : ∀ {fs : List (Str × V)} {o : List (Str × D)}, Paired (fun (x : Str × V) (y : Str × D) => x.1 = y.1 ∧ Fld K G H (DL.io ws) x.2 y.2) fs o → p ∈ refs fs → False := by
            intro fs o pr
            induction pr with
            | nil => intro h; simp [refs] at h
            | @cons x y l m q1 q2 ih2 =>
              intro hm
              obtain ⟨n, v⟩ := x
              rcases q1.2 with ⟨b, e, u⟩ | ⟨i, e, _⟩
              · simp only at e
                subst e
                rcases List.mem_cons.mp hm with rfl | hm
                · obtain ⟨o, ho, hc⟩ := u.there
                  have := ho.uniq (.inl h) (nf_cont hc) (by intro _ _ z; cases z)
                  subst this
                  exact hc
                · exact ih2 hm
              · simp only at e
                subst e
                exact ih2 hm
          exact go2 pf hm
        · exact ih hm
  exact go r.obs hr
theorem ev_ixT {tk : TE} {fk : Env → W → R (List Key)} (ha : EvE P H0 Wi ta fa) (hk : EvK P H0 Wi tk fk) : EvE P H0 Wi (tDGet ta tk) (dIxT fa fk) := by
  intro σ H G ws ρ w Q st h
  unfold dIxT at h
  refine ha σ H G ws ρ w _ st ?_
  cases e : fa ρ w with
  | bad => rw [e] at h; exact h
  | ex x w' => rw [e] at h; exact h
  | ok x w1 =>
    intro v H1 G1 ws1 n1 r1 k1
    rw [e] at h
    have h : PostE P (fun c d H' => Wi c d σ H') H G ws Q ((fk ρ w1).bind fun ks w2 => chk x w1 w2 (match x.d with | .dT kvs => (match valD kvs ks with | some d => .ok (fz d) w2 | none => .bad) | _ => .bad)) := h
    refine hk σ H1 G1 ws1 ρ w1 _ (st.next n1) ?_
    cases e2 : fk ρ w1 with
    | bad => rw [e2] at h; exact h
    | ex y w2 => rw [e2] at h; exact PostE.after n1 h
    | ok ks w2 =>
      intro p H2 G2 ws2 n2 hp
      rw [e2] at h
      obtain ⟨hx, h⟩ := PostE.chk h
      have r2 := r1.move n2 fun z => n2.same n1.rw (hx z)
      obtain ⟨m, d⟩ := x
      cases d with
      | dT kvs =>
        obtain ⟨a, vs, rfl, hl, q1, q2⟩ := rv_dT n2.sub r2
        dsimp only at h
        rcases val_rel ks q1 q2 with ⟨a1, a2⟩ | ⟨v, d, a1, a2, a3⟩
        · rw [a1] at h; exact h.elim
        · rw [a1] at h
          exact ⟨a, v, rfl, .inr ⟨vs, ks, p, hl.rd, rfl, hp, a2.symm⟩, h v H2 G2 ws2 (n1.trans n2) a3 fz_nw⟩
      | _ => exact h.elim
theorem ev_inT {tk : TE} {fk : Env → W → R (List Key)} (hk : EvK P H0 Wi tk fk) (ha : EvE P H0 Wi ta fa) : EvE P H0 Wi (tDIn tk ta) (dInT false fk fa) := by
  intro σ H G ws ρ w Q st h
  unfold dInT at h
  refine hk σ H G ws ρ w _ st ?_
  cases e : fk ρ w with
  | bad => rw [e] at h; exact h
  | ex x w' => rw [e] at h; exact h
  | ok ks w1 =>
    intro p H1 G1 ws1 n1 hp
    rw [e] at h
    have h : PostE P (fun c d H' => Wi c d σ H') H G ws Q ((fa ρ w1).bind fun x w2 => match x.d with | .dT kvs => .ok (fz (.bl (false != (valD kvs ks).isSome))) w2 | _ => .bad) := h
    refine ha σ H1 G1 ws1 ρ w1 _ (st.next n1) ?_
    cases e2 : fa ρ w1 with
    | bad => rw [e2] at h; exact h
    | ex y w2 => rw [e2] at h; exact PostE.after n1 h
    | ok x w2 =>
      intro v H2 G2 ws2 n2 r2 k2
      rw [e2] at h
      obtain ⟨m, d⟩ := x
      cases d with
      | dT kvs =>
        obtain ⟨a, vs, rfl, hl, q1, q2⟩ := rv_dT n2.sub r2
        refine ⟨a, valV vs ks, rfl, .inr ⟨vs, ks, p, hl.rd, rfl, n2.tup n1.rw hp, rfl⟩, ?_⟩
        have : (valV vs ks).isSome = (valD kvs ks).isSome := by
          rcases val_rel ks q1 q2 with ⟨e1, e2⟩ | ⟨v, d, e1, e2, e3⟩ <;> rw [e1, e2] <;> rfl
        rw [this]
        exact h _ H2 G2 ws2 (n1.trans n2) (by show Rep _ _ _ _ _; simpa using Rep.bl _) fz_nw
      | _ => exact h.elim
/-! ### d.get(k, x) -/
def dGetT (fa : DE) (fk : Env → W → R (List Key)) (fx : DE) : DE := fun ρ w => (fa ρ w).bind fun x w1 => match x.d with
  | .dT _ => (fk ρ w1).bind fun ks w2 => (fx ρ w2).bind fun z w3 => chk x w1 w3 (match x.d with
    | .dT kvs => .ok (match valD kvs ks with | some d => fz d | none => z) w3
    | _ => .bad)
  | _ => .bad
theorem ev_getT {tk tx : TE} {fk : Env → W → R (List Key)} {fx : DE} (ha : EvE P H0 Wi ta fa) (hk : EvK P H0 Wi tk fk) (hx : EvE P H0 Wi tx fx) : EvE P H0 Wi (tDGet2 ta tk tx) (dGetT fa fk fx) := by
  intro σ H G ws ρ w Q st h
  unfold dGetT at h
  refine ha σ H G ws ρ w _ st ?_
  cases e : fa ρ w with
  | bad => rw [e] at h; exact h
  | ex x w' => rw [e] at h; exact h
  | ok x w1 =>
    intro v H1 G1 ws1 n1 r1 k1
    rw [e] at h
    obtain ⟨m, d⟩ := x
    cases d with
    | dT kvs =>
      obtain ⟨a, vs0, rfl, hl0, _, _⟩ := rv_dT n1.sub r1
      refine ⟨a, rfl, .inr ⟨_, hl0.rd⟩, ?_⟩
      have h : PostE P (fun c d H' => Wi c d σ H') H G ws Q ((fk ρ w1).bind fun ks w2 => (fx ρ w2).bind fun z w3 => chk ⟨m, .dT kvs⟩ w1 w3 (.ok (match valD kvs ks with | some d => fz d | none => z) w3)) := h
      refine hk σ H1 G1 ws1 ρ w1 _ (st.next n1) ?_
      cases e2 : fk ρ w1 with
      | bad => rw [e2] at h; exact h
      | ex y w2 => rw [e2] at h; exact PostE.after n1 h
      | ok ks w2 =>
        intro p H2 G2 ws2 n2 hp
        rw [e2] at h
        have h : PostE P (fun c d H' => Wi c d σ H') H G ws Q ((fx ρ w2).bind fun z w3 => chk ⟨m, .dT kvs⟩ w1 w3 (.ok (match valD kvs ks with | some d => fz d | none => z) w3)) := h
        refine hx σ H2 G2 ws2 ρ w2 _ (st.next (n1.trans n2)) ?_
        cases e3 : fx ρ w2 with
        | bad => rw [e3] at h; exact h
        | ex y w3 => rw [e3] at h; exact PostE.after (n1.trans n2) h
        | ok z w3 =>
          intro vz H3 G3 ws3 n3 r3 k3
          rw [e3] at h
          obtain ⟨hc, h⟩ := PostE.chk h
          have n23 := n2.trans n3
          have r2 := r1.move n23 fun z => n23.same n1.rw (hc z)
          obtain ⟨a', vs, ea, hl, q1, q2⟩ := rv_dT n3.sub r2
          cases ea
          refine ⟨valV vs ks, .inr ⟨vs, ks, p, hl.rd, rfl, n3.tup n2.rw hp, rfl⟩, ?_⟩
          have n13 := (n1.trans n2).trans n3
          rcases val_rel ks q1 q2 with ⟨a1, a2⟩ | ⟨v, d, a1, a2, a3⟩
          · rw [a1] at h
            rw [a2]
            exact h vz H3 G3 ws3 n13 r3 (newOk_back (n1.trans n2) k3)
          · rw [a1] at h
            rw [a2]
            exact h v H3 G3 ws3 n13 a3 fz_nw
    | _ => exact h.elim
end
end DL
/-! Stores into dicts. -/
namespace DL
open PySem PySem.Spec PyProof.Rows L2
section
variable {P : Pm} {H0 : En} {Wi : WX} {to tv tk : TE} {fo fv : DE}
/-! ### {} -/
def dDk : DE := fun _ w => .ok ⟨.nw, .dK []⟩ w
def dDt : DE := fun _ w => .ok ⟨.nw, .dT []⟩ w
theorem reg_ne {K : PySem.W.Frag} {C : Ca} {G H : Hp} {ws : Ws} {w : W} {p : Addr} (r : RelW K C G H ws w) (hp : H p = none) : p ∉ regs ws := fun h => by
  obtain ⟨o, e, _⟩ := reg_there r h
  rw [hp] at e
  cases e
/-! ### o.f[k] = e, x[k] = e: k an int or a text -/
def sFputK (f : Str) (fo : DE) (fk : DE) (fv : DE) : DS := fun ρ w => (fv ρ w).thn ρ fun y w1 => if keepM y then ((fo ρ w1).thn ρ fun x w2 => match x.d with
  | .obj k => (match getF w2 k f with
    | some (.dK _) => (fk ρ w2).thn ρ fun key w3 => (match kD key.d, getF w3 k f with
      | some kk, some (.dK kvs) => if w3.n = w2.n ∧ w3.lk = false ∧ kvs.length < sizeLine then .next ρ (setF w3 k f (.dK (putKD kvs kk y.d))) else .bad
      | _, _ => .bad)
    | _ => .bad)
  | _ => .bad) else .bad
theorem Fld.dK {K : PySem.W.Frag} {G H : Hp} {ι : List Addr} {v : V} {ds : List (Key × D)} (h : Fld K G H ι v (.dK ds)) : ∃ a kvs, v = .ref a ∧ Lk H a (.dK kvs) ∧ kvs.map (·.1) = ds.map (·.1) ∧ Reps K G ι (kvs.map (·.2)) (ds.map (·.2)) := by
  rcases h with ⟨a, rfl, u⟩ | ⟨i, _, e⟩
  · cases u with | dK h1 h2 h3 => exact ⟨a, _, rfl, h1, h2, h3⟩
  · cases e
theorem ev_fputK {f : Str} {fk : DE} (c : Cls P.K P.C.a) (n : NoAttr P.K P.C.a f) (ho : EvE P H0 Wi to fo) (hk : EvE P H0 Wi tk fk) (hv : EvE P H0 Wi tv fv) : EvS P H0 Wi (sDPut (tFld P.K to f) tk tv) (sFputK f fo fk fv) := by
  intro σ H G ws ρ w D st h
  unfold sFputK at h
  refine hv σ H G ws ρ w _ st (postE_of st h fun y w0 _ h vy H0' G0' ws0' n0 ry ky => ?_)
  by_cases hm : keepM y = true
  · rw [if_pos hm] at h
    obtain ⟨G0, s0, n0, rp⟩ := st.frzV n0 ry ky hm
    have st0 := st.next n0
    have h : PostS P H0 Wi D G0 ws0' _ := PostS.after n0.mon h
    refine ho σ H0' G0 ws0' ρ w0 _ st0 (postE_of st0 h fun x w1 _ h vx H1 G1 ws1 n1 rx kx => ?_)
    have st1 := st0.next n1
    have h : PostS P H0 Wi D G1 ws1 _ := PostS.after n1.mon h
    obtain ⟨m, dd⟩ := x
    cases dd with
    | obj k =>
      obtain ⟨p, rfl, e1, rfl⟩ := rv_obj rx
      dsimp only at h
      split at h
      · rename_i ds0 eg
        obtain ⟨dx, fs, u, o, x, A⟩ := n1.rw.fld e1 eg
        obtain ⟨a, vs0, rfl, ha0, _, _⟩ := A.fl.dK
        refine ⟨p, P.C.a, dx, fs, .ref a, rfl, A.ins, c, n, A.lk, ?_⟩
        refine hk σ H1 G1 ws1 ρ w1 _ st1 ?_
        cases ek : fk ρ w1 with
        | bad => rw [ek] at h; exact h
        | ex x w' => rw [ek] at h; exact fun cls d H' G' ws' n hx => h cls d σ H' G' ws' (st1.next n) hx
        | ok key w2 =>
          rw [ek] at h
          intro vk H2 G2 ws2 n2 rk kk2
          have h : PostS P H0 Wi D G1 ws1 (match kD key.d, getF w2 k f with | some kk, some (.dK kvs) => if w2.n = w1.n ∧ w2.lk = false ∧ kvs.length < sizeLine then .next ρ (setF w2 k f (.dK (putKD kvs kk y.d))) else .bad | _, _ => .bad) := h
          split at h
          · rename_i kk kvs ekk eg2
            split at h
            · rename_i hc
              obtain ⟨ew, _⟩ := n2.qt (n2.same n1.rw hc.1)
              have e2 : (DL.io ws2)[k]? = some p := by rw [ew]; exact e1
              obtain ⟨dx2, fs2, u2, o2, x2, Bx⟩ := n2.rw.fld e2 eg2
              have eu := A.again Bx ew
              subst eu
              obtain ⟨a2, vs, ea, ha, q1, q2⟩ := Bx.fl.dK
              cases ea
              have har : a ∈ regs ws2 := (regs_mem (List.mem_of_getElem? Bx.at_)).2 a (refs_mem (List.mem_of_getElem? Bx.fx) rfl)
              have hH := ha.free n2.rw hc.2.1 (n2.rw.out a har)
              have rp2 := rp.mono (n1.gg.trans n2.gg) (n1.io.trans n2.io)
              obtain ⟨p1, p2⟩ := put_rel (k := kk) q1 q2 rp2
              have ekv := rv_key rk ekk
              subst ekv
              refine ⟨a, _, rfl, .inl ⟨vs, kk, hH, rfl, by rw [len_rel q1]; exact hc.2.2, rfl⟩, ?_⟩
              have n4 := Nx.fmut (d' := .dK (putKD kvs kk y.d)) (u' := .dK (putK vs kk vy)) n2.sub n2.rw Bx hH trivial trivial (.dK (.inl upd_same) p1 p2)
              exact h σ _ G2 _ ((st1.next n2).next n4) (n2.mon.trans n4.mon)
            · exact h.elim
          · exact h.elim
      · exact h.elim
    | _ => exact h.elim
  · rw [if_neg hm] at h; exact h.elim
/-! ### o.f[k] = e, x[k] = e: k a tuple of such -/
def sFputT (f : Str) (fo : DE) (fk : Env → W → R (List Key)) (fv : DE) : DS := fun ρ w => (fv ρ w).thn ρ fun y w1 => if keepM y then ((fo ρ w1).thn ρ fun x w2 => match x.d with
  | .obj k => (match getF w2 k f with
    | some (.dT _) => (fk ρ w2).thn ρ fun key w3 => (match (some key : Option (List Key)), getF w3 k f with
      | some kk, some (.dT kvs) => if w3.n = w2.n ∧ w3.lk = false ∧ kvs.length < sizeLine then .next ρ (setF w3 k f (.dT (putKD kvs kk y.d))) else .bad
      | _, _ => .bad)
    | _ => .bad)
  | _ => .bad) else .bad
theorem Fld.dT {K : PySem.W.Frag} {G H : Hp} {ι : List Addr} {v : V} {ds : List (List Key × D)} (h : Fld K G H ι v (.dT ds)) : ∃ a kvs, v = .ref a ∧ Lk H a (.dT kvs) ∧ kvs.map (·.1) = ds.map (·.1) ∧ Reps K G ι (kvs.map (·.2)) (ds.map (·.2)) := by
  rcases h with ⟨a, rfl, u⟩ | ⟨i, _, e⟩
  · cases u with | dT h1 h2 h3 => exact ⟨a, _, rfl, h1, h2, h3⟩
  · cases e
theorem ev_fputT {f : Str} {fk : Env → W → R (List Key)} (c : Cls P.K P.C.a) (n : NoAttr P.K P.C.a f) (ho : EvE P H0 Wi to fo) (hk : EvK P H0 Wi tk fk) (hv : EvE P H0 Wi tv fv) : EvS P H0 Wi (sDPut (tFld P.K to f) tk tv) (sFputT f fo fk fv) := by
  intro σ H G ws ρ w D st h
  unfold sFputT at h
  refine hv σ H G ws ρ w _ st (postE_of st h fun y w0 _ h vy H0' G0' ws0' n0 ry ky => ?_)
  by_cases hm : keepM y = true
  · rw [if_pos hm] at h
    obtain ⟨G0, s0, n0, rp⟩ := st.frzV n0 ry ky hm
    have st0 := st.next n0
    have h : PostS P H0 Wi D G0 ws0' _ := PostS.after n0.mon h
    refine ho σ H0' G0 ws0' ρ w0 _ st0 (postE_of st0 h fun x w1 _ h vx H1 G1 ws1 n1 rx kx => ?_)
    have st1 := st0.next n1
    have h : PostS P H0 Wi D G1 ws1 _ := PostS.after n1.mon h
    obtain ⟨m, dd⟩ := x
    cases dd with
    | obj k =>
      obtain ⟨p, rfl, e1, rfl⟩ := rv_obj rx
      dsimp only at h
      split at h
      · rename_i ds0 eg
        obtain ⟨dx, fs, u, o, x, A⟩ := n1.rw.fld e1 eg
        obtain ⟨a, vs0, rfl, ha0, _, _⟩ := A.fl.dT
        refine ⟨p, P.C.a, dx, fs, .ref a, rfl, A.ins, c, n, A.lk, ?_⟩
        refine hk σ H1 G1 ws1 ρ w1 _ st1 ?_
        cases ek : fk ρ w1 with
        | bad => rw [ek] at h; exact h
        | ex x w' => rw [ek] at h; exact fun cls d H' G' ws' n hx => h cls d σ H' G' ws' (st1.next n) hx
        | ok key w2 =>
          rw [ek] at h
          intro pk H2 G2 ws2 n2 hpk
          have h : PostS P H0 Wi D G1 ws1 (match (some key : Option (List Key)), getF w2 k f with | some kk, some (.dT kvs) => if w2.n = w1.n ∧ w2.lk = false ∧ kvs.length < sizeLine then .next ρ (setF w2 k f (.dT (putKD kvs kk y.d))) else .bad | _, _ => .bad) := h
          split at h
          · rename_i kk kvs ekk eg2
            split at h
            · rename_i hc
              obtain ⟨ew, _⟩ := n2.qt (n2.same n1.rw hc.1)
              have e2 : (DL.io ws2)[k]? = some p := by rw [ew]; exact e1
              obtain ⟨dx2, fs2, u2, o2, x2, Bx⟩ := n2.rw.fld e2 eg2
              have eu := A.again Bx ew
              subst eu
              obtain ⟨a2, vs, ea, ha, q1, q2⟩ := Bx.fl.dT
              cases ea
              have har : a ∈ regs ws2 := (regs_mem (List.mem_of_getElem? Bx.at_)).2 a (refs_mem (List.mem_of_getElem? Bx.fx) rfl)
              have hH := ha.free n2.rw hc.2.1 (n2.rw.out a har)
              have rp2 := rp.mono (n1.gg.trans n2.gg) (n1.io.trans n2.io)
              obtain ⟨p1, p2⟩ := put_rel (k := kk) q1 q2 rp2
              have ekk : kk = key := (Option.some.inj ekk).symm
              refine ⟨a, _, rfl, .inr ⟨vs, kk, pk, hH, rfl, by rw [ekk]; exact hpk, by rw [len_rel q1]; exact hc.2.2, rfl⟩, ?_⟩
              have n4 := Nx.fmut (d' := .dT (putKD kvs kk y.d)) (u' := .dT (putK vs kk vy)) n2.sub n2.rw Bx hH trivial trivial (.dT (.inl upd_same) p1 p2)
              exact h σ _ G2 _ ((st1.next n2).next n4) (n2.mon.trans n4.mon)
            · exact h.elim
          · exact h.elim
      · exact h.elim
    | _ => exact h.elim
  · rw [if_neg hm] at h; exact h.elim
end
end DL
/-! Methods, objects made. -/
namespace DL
open PySem PySem.Spec PyProof.Rows L2
/-! ### arguments by place -/
def selV (ix : List Nat) (l : List V) : List V := ix.map fun i => l.getD i .non
def selU (ix : List Nat) (l : List Value) : List Value := ix.map fun i => l.getD i .none
def selD (ix : List Nat) (l : List D) : List D := ix.map fun i => l.getD i .non
theorem sel_vals {ix : List Nat} {vs : List V} {us : List Value} (h : Vals vs us) : Vals (selV ix vs) (selU ix us) := by
  have one : ∀ i, RelV (vs.getD i .non) (us.getD i .none) := fun i => by
    rw [List.getD_eq_getElem?_getD, List.getD_eq_getElem?_getD]
    cases e : vs[i]? with
    | some v => obtain ⟨u, hu, ru⟩ := h.get e; rw [hu]; exact ru
    | none =>
      have : us[i]? = none := by rw [List.getElem?_eq_none_iff] at e ⊢; rw [← h.length]; exact e
      rw [this]
      rfl
  induction ix with
  | nil => exact .nil
  | cons i ix ih => exact .cons (one i) ih
theorem sel_reps {K : PySem.W.Frag} {G : Hp} {ι : List Addr} {ix : List Nat} {vs : List V} {ds : List D} (h : Reps K G ι vs ds) : Reps K G ι (selV ix vs) (selD ix ds) := by
  have one : ∀ i, Rep K G ι (vs.getD i .non) (ds.getD i .non) := fun i => by
    rw [List.getD_eq_getElem?_getD, List.getD_eq_getElem?_getD]
    cases e : vs[i]? with
    | some v => obtain ⟨u, hu, ru⟩ := h.get e; rw [hu]; exact ru
    | none =>
      have : ds[i]? = none := by rw [List.getElem?_eq_none_iff] at e ⊢; rw [← h.length]; exact e
      rw [this]
      exact .non
  induction ix with
  | nil => exact .nil
  | cons i ix ih => exact .cons (one i) ih
/-- how a call of n values and the keywords ks binds; dds: the defaults -/
structure Shape where
  n : Nat
  ks : List Str
  ix : List Nat
  dds : List D
def Shp (K : PySem.W.Frag) (fd : FuncData) (ps : List Str) (h : Shape) : Prop := ∃ dvs dus, Vals dvs dus ∧ (∀ G ι, Reps K G ι dvs h.dds) ∧ ∀ (s : Shared) (us zs : List Value), K.In s.heap → us.length = h.n → zs.length = h.ks.length → BindsTo s fd ⟨us, h.ks.zip zs⟩ (ps.zip (selU h.ix (us ++ zs ++ dus)))
/-! ### defs with defaults -/
structure FunG (K : PySem.W.Frag) (x qual : Str) (st : Stmt) (f : Addr) (fd : FuncData) : Prop where
  ex : ∃ (oc : Value) (od : Option Addr) (dV kV doc pm : Value) (an : Option Addr) (cdv ct : Value) (osl : Array (Option Value)), fd = PySem.W.fnOf x qual (defArgs st) (defBody st) (defScope st) dV kV doc pm an cdv ct ∧ K.lookup f = some ⟨oc, od, .func fd, osl⟩ ∧ PySem.W.codeIn K cdv qual = true
theorem fn_mkG {P : Program} {w : World} {K : PySem.W.Frag} {mg : Str → Option Value} {base : Heap} {C : Ca} {cm : Cm} {x qual : Str} {st : Stmt} {f : Addr} {fd : FuncData} {N ps : List Str} {k : Nat} {g : DS} (F : FunG K x qual st f fd) (S : FnScope N ps (defScope st))
    (hb : ∀ (f : Addr) (cdv : Value) (A : Around) (outer : List PySem.Env) (s : Shared) (H : Hp) (E : XK) (e : En), Fc (cxOf (L2N.CX P w) P w K mg base N qual (defScope st) f cdv A outer s H E) ⟨C, cm, e, fun cls d _ H' => E cls d H'⟩ k →
      XB (cxOf (L2N.CX P w) P w K mg base N qual (defScope st) f cdv A outer s H E) ⟨C, cm, e, fun cls d _ H' => E cls d H'⟩ (defBody st) g) : FnOk P w K mg base (L2N.CX P w) (k + 1) f fd ps (spD ⟨K, C, cm⟩ (fnD ps.length N.length g)) := by
  obtain ⟨oc, od, dV, kV, doc, pm, an, cdv, ct, osl, rfl, lk, hcd⟩ := F.ex
  refine fn_of lk hcd S (fun vs H Q E h => spD_len h) fun A outer s H vs Q E hr h => ?_
  have hl := spD_len h
  obtain ⟨G, ws, wd, ds, sm, rw, rs, p⟩ := h
  obtain ⟨t, h1, h2⟩ := hb f cdv A outer s H E ⟨H, G, ws⟩ ⟨rfl, S.nd, hr, L2N.takes_of rfl rfl rfl rfl, passes_of rfl⟩
  refine ⟨t, h1, ?_⟩
  unfold L2.start
  rw [hl]
  refine h2 _ H G ws (ds.map (fun d => some (fz d)) ++ List.replicate (N.length - ps.length) none) wd _ (st_start sm rw rs) ?_
  unfold fnD at p
  rw [if_pos (by rw [← rs.length]; exact hl)] at p
  cases eg : g (ds.map (fun d => some (fz d)) ++ List.replicate (N.length - ps.length) none) wd with
  | bad => rw [eg] at p; exact p
  | brk ρ w' => rw [eg] at p; exact p.elim
  | cont ρ w' => rw [eg] at p; exact p.elim
  | next ρ w' => rw [eg] at p; exact fun σ' H' G' ws' st' _ => p .non H' G' ws' st'.nx0 .non fz_nw
  | ret y w' => rw [eg] at p; exact fun v H' G' ws' n r k _ => p v H' G' ws' n r k
  | ex y ρ w' => rw [eg] at p; exact fun cls d σ' H' G' ws' st' hx => p cls d H' G' ws' st'.nx0 hx
/-! ### o.m(..) -/
structure Mt (P : Program) (w : World) (K : PySem.W.Frag) (mg : Str → Option Value) (base : Heap) (C : Ca) (cm : Cm) (m : Str) (j : Nat) (F : DF) (sh : List Shape) : Prop where
  ex : ∃ f fd ps, Cls K C.a ∧ Meth K C.a m f ∧ FnOk P w K mg base (L2N.CX P w) j f fd ps (spD ⟨K, C, cm⟩ F) ∧ ∀ s ∈ sh, Shp K fd ps s
/-- a method as it stands behind the top -/
def FnxM (K : PySem.W.Frag) (C : Addr) (m qual : Str) (st : Stmt) (ps : List Str) (sh : List Shape) : Prop := ∃ f fd, FunG K m qual st f fd ∧ Meth K C m f ∧ ∀ s ∈ sh, Shp K fd ps s
theorem mt_mk {P : Program} {w : World} {K : PySem.W.Frag} {mg : Str → Option Value} {base : Heap} {C : Ca} {cm : Cm} {m qual : Str} {st : Stmt} {N ps : List Str} {k : Nat} {g : DS} {sh : List Shape} (c : Cls K C.a) (F : FnxM K C.a m qual st ps sh) (S : FnScope N ps (defScope st))
    (hb : ∀ (f : Addr) (cdv : Value) (A : Around) (outer : List PySem.Env) (s : Shared) (H : Hp) (E : XK) (e : En), Fc (cxOf (L2N.CX P w) P w K mg base N qual (defScope st) f cdv A outer s H E) ⟨C, cm, e, fun cls d _ H' => E cls d H'⟩ k →
      XB (cxOf (L2N.CX P w) P w K mg base N qual (defScope st) f cdv A outer s H E) ⟨C, cm, e, fun cls d _ H' => E cls d H'⟩ (defBody st) g) : Mt P w K mg base C cm m (k + 1) (fnD ps.length N.length g) sh := by
  obtain ⟨f, fd, F, hm, hs⟩ := F
  exact ⟨f, fd, ps, c, hm, fn_mkG F S hb, hs⟩
def dMt (F : DF) (m : Str) (n j : Nat) (ix : List Nat) (dds : List D) (fo : DE) (fr fk : DA) : DE := fun ρ w => (fo ρ w).bind fun x w1 => match x.d with
  | .obj k => if ((w1.o.getD k []).lookup m).isNone then ((fr ρ w1).bind fun xs w2 => match frzD xs with
    | some ds => ((fk ρ w2).bind fun zs w3 => match frzD zs with
      | some es => if ds.length = n ∧ es.length = j then F (selD ix (.obj k :: ds ++ es ++ dds)) w3 else .bad
      | none => .bad)
    | none => .bad) else .bad
  | _ => .bad
def tMt (C : Addr) (m : Str) (sp : Sp) (n j : Nat) (ix : List Nat) (dvs : List V) (E : L2.St → XK) (ta : TE) (t tk : TA) : TE := fun σ H Q => ta σ H fun x H1 => ∃ a dx fs, x = .ref a ∧ H1 a = some (.ins C dx fs) ∧ fs.lookup m = none ∧ t σ H1 fun vs H2 => tk σ H2 fun zs H3 => vs.length = n ∧ zs.length = j ∧ sp (selV ix (.ref a :: vs ++ zs ++ dvs)) H3 Q (E σ)
section
variable {X : Cx} {k : Nat} {f C : Addr} {fd : FuncData} {ps : List Str} {sp : Sp} {E : L2.St → XK} {m : Str} {p pos apos : Pos} {e o : Expr} {es : List Expr} {kws : List Keyword} {ta : TE} {t tk : TA} {dvs : List V} {dus : List Value} {ks : List Str} {ix : List Nat} {n : Nat}
theorem run_mt {pins : List (Addr × Obj)} {σ : L2.St} {H : Hp} {s : Shared} {Q : VK} {us zs : List Value} {vs ys : List V} {a : Addr} (F : FnOk X.prog X.w X.K X.mg X.base (L2N.CX X.prog X.w) k f fd ps sp) (hr : Room k X.A) (hd : Vals dvs dus)
    (hb : ∀ (s : Shared) (us zs : List Value), X.K.In s.heap → us.length = n + 1 → zs.length = ks.length → BindsTo s fd ⟨us, ks.zip zs⟩ (ps.zip (selU ix (us ++ zs ++ dus)))) (hx : PassesAt (L2N.CX X.prog X.w) X σ (E σ)) (I : Inv X pins σ H s) (r : Vals vs us) (rz : Vals ys zs) (l1 : vs.length = n) (l2 : ys.length = ks.length)
    (h : sp (selV ix (.ref a :: vs ++ ys ++ dvs)) H Q (E σ)) : wpAny (model X.prog X.w) X.A (call (.ref f) (.ref a :: us) (ks.zip zs)) (EP X pins σ Q) X.xe s := by
  have rr : Vals (.ref a :: vs) (.ref a :: us) := .cons rfl r
  have r2 : Vals (selV ix (.ref a :: vs ++ ys ++ dvs)) (selU ix (.ref a :: us ++ zs ++ dus)) := sel_vals ((rr.append rz).append hd)
  have b := hb s (.ref a :: us) zs I.kIn (by rw [List.length_cons, ← r.length, l1]) (by rw [← rz.length, l2])
  refine wpAny_call (codeAny_mono (F.run X.A X.stack s H ⟨.ref a :: us, ks.zip zs⟩ _ _ Q (E σ) hr I.env0 b r2 h) ?_)
  intro q s' hq
  cases q with
  | error e => exact hx pins H s e s' I hq
  | ok fl => cases fl with
    | ret u => exact I.after hq
    | next => exact False.elim hq
    | brk => exact False.elim hq
    | cont => exact False.elim hq
theorem pe_mt {pl : Sem Bool} (he : PE X o ta) (c : Cls X.K C) (hm : Meth X.K C m f) (F : FnOk X.prog X.w X.K X.mg X.base (L2N.CX X.prog X.w) k f fd ps sp) (hr : Room k X.A) (hd : Vals dvs dus)
    (hb : ∀ (s : Shared) (us zs : List Value), X.K.In s.heap → us.length = n + 1 → zs.length = ks.length → BindsTo s fd ⟨us, ks.zip zs⟩ (ps.zip (selU ix (us ++ zs ++ dus)))) (hx : ∀ σ, PassesAt (L2N.CX X.prog X.w) X σ (E σ)) (ha : PA X (e :: es) t) (hk : PK X kws tk)
    (hall : (backToKw pos (keywordEach kws X.env)).all (·.1.isSome) = true) (hks : (backToKw pos (keywordEach kws X.env)).filterMap (·.1) = ks)
    (hst : starEach (e :: es) X.env = (false, eval e X.env) :: starEach es X.env) (hpl : ((backTo pos (starEach (e :: es) X.env)).any (·.1) || (backToKw pos (keywordEach kws X.env)).any (·.1.isNone)) = false)
    (ht : eval (.Call (.Attribute o m apos) (e :: es) kws pos) X.env = (do
      let ov ← eval o X.env
      standAt apos.atName
      let (f, first) ← holding [ov] (getMethod ov m pl)
      callWith pos f first (backTo pos (starEach (e :: es) X.env)) (backToKw pos (keywordEach kws X.env)))) :
    PE X (.Call (.Attribute o m apos) (e :: es) kws pos) (tMt C m sp n ks.length ix dvs E ta t tk) := by
  refine ⟨fun pins s σ H Q I h => ?_⟩
  refine PySem.W.methodCall_KW (pl := pl) (thn (he.run pins s σ H _ I h) ?_) ht
  rintro u s1 ⟨x, H1, I1, rx, a, dx, fs, ex, ea, l, q⟩
  subst ex
  obtain rfl : u = Value.ref a := rx
  refine getmeth_ok I1 ea c hm l ?_
  refine PySem.W.callWith_KW (first := [.ref a]) (h₀ := X.base) I.ok.mod.kin hm.kp hall (thn (ha.run pos pins s1 σ H1 _ I1 q) ?_) hpl hst
  rintro us s2 ⟨vs, H2, I2, r, q2⟩
  refine thn (hk.run pos pins s2 σ H2 _ I2 q2) ?_
  rintro zs s3 ⟨ys, H3, I3, rz, l1, l2, q3⟩
  refine ⟨I3.kIn, ?_⟩
  rw [hks]
  exact run_mt F hr hd hb (hx σ) I3 r rz l1 l2 q3
theorem pe_mt0 {pl : Sem Bool} (he : PE X o ta) (c : Cls X.K C) (hm : Meth X.K C m f) (F : FnOk X.prog X.w X.K X.mg X.base (L2N.CX X.prog X.w) k f fd ps sp) (hr : Room k X.A) (hd : Vals dvs dus)
    (hb : ∀ (s : Shared) (us zs : List Value), X.K.In s.heap → us.length = 0 + 1 → zs.length = ks.length → BindsTo s fd ⟨us, ks.zip zs⟩ (ps.zip (selU ix (us ++ zs ++ dus)))) (hx : ∀ σ, PassesAt (L2N.CX X.prog X.w) X σ (E σ)) (hk : PK X kws tk)
    (hall : (backToKw pos (keywordEach kws X.env)).all (·.1.isSome) = true) (hks : (backToKw pos (keywordEach kws X.env)).filterMap (·.1) = ks)
    (hpl : ((backTo pos (starEach [] X.env)).any (·.1) || (backToKw pos (keywordEach kws X.env)).any (·.1.isNone)) = false)
    (ht : eval (.Call (.Attribute o m apos) [] kws pos) X.env = (do
      let ov ← eval o X.env
      standAt apos.atName
      let (f, first) ← holding [ov] (getMethod ov m pl)
      callWith pos f first (backTo pos (starEach [] X.env)) (backToKw pos (keywordEach kws X.env)))) :
    PE X (.Call (.Attribute o m apos) [] kws pos) (tMt C m sp 0 ks.length ix dvs E ta tNil tk) := by
  refine ⟨fun pins s σ H Q I h => ?_⟩
  refine PySem.W.methodCall_KW (pl := pl) (thn (he.run pins s σ H _ I h) ?_) ht
  rintro u s1 ⟨x, H1, I1, rx, a, dx, fs, ex, ea, l, q⟩
  subst ex
  obtain rfl : u = Value.ref a := rx
  refine getmeth_ok I1 ea c hm l ?_
  refine PySem.W.callWith_KW0 (first := [.ref a]) (h₀ := X.base) I.ok.mod.kin hm.kp hall (thn (hk.run pos pins s1 σ H1 _ I1 q) ?_) hpl
  rintro zs s3 ⟨ys, H3, I3, rz, l1, l2, q3⟩
  refine ⟨I3.kIn, ?_⟩
  rw [hks]
  exact run_mt (us := []) (vs := []) F hr hd hb (hx σ) I3 .nil rz l1 l2 q3
end
section
variable {P : Pm} {H0 : En} {Wi : WX} {ta : TE} {fa : DE} {tr tk : TA} {fr fk : DA}
theorem ev_mt {F : DF} {m : Str} {n j : Nat} {ix : List Nat} {dvs : List V} {dds : List D} (ho : EvE P H0 Wi ta fa) (hr : EvA P H0 Wi tr fr) (hk : EvA P H0 Wi tk fk) (hd : ∀ G ι, Reps P.K G ι dvs dds) : EvE P H0 Wi (tMt P.C.a m (spD P F) n j ix dvs (WE Wi) ta tr tk) (dMt F m n j ix dds fa fr fk) := by
  intro σ H G ws ρ w Q st h
  unfold dMt at h
  refine ho σ H G ws ρ w _ st ?_
  cases e : fa ρ w with
  | bad => rw [e] at h; exact h
  | ex x w' => rw [e] at h; exact h
  | ok x w1 =>
    intro v H1 G1 ws1 n1 r1 k1
    rw [e] at h
    obtain ⟨mm, dd⟩ := x
    cases dd with
    | obj k =>
      obtain ⟨p, rfl, e1, rfl⟩ := rv_obj r1
      have h : PostE P (fun c d H' => Wi c d σ H') H G ws Q (if ((w1.o.getD k []).lookup m).isNone = true then ((fr ρ w1).bind fun xs w2 => match frzD xs with | some ds => ((fk ρ w2).bind fun zs w3 => match frzD zs with | some es => if ds.length = n ∧ es.length = j then F (selD ix (.obj k :: ds ++ es ++ dds)) w3 else .bad | none => .bad) | none => .bad) else .bad) := h
      by_cases hl : ((w1.o.getD k []).lookup m).isNone = true
      · rw [if_pos hl] at h
        obtain ⟨q, hq, rfl⟩ : ∃ q, ws1.l[k]? = some q ∧ q.1 = p := by
          have : (ws1.l.map (·.1))[k]? = some p := e1
          rw [List.getElem?_map] at this
          cases eq : ws1.l[k]? with
          | none => rw [eq] at this; cases this
          | some q => rw [eq] at this; cases this; exact ⟨q, rfl, rfl⟩
        obtain ⟨l1, l2⟩ := paired_ix n1.rw.obs
        have hk1 : k < w1.o.length := by rw [← l1]; exact (List.getElem?_eq_some_iff.mp hq).1
        have ho1 : w1.o[k]? = some w1.o[k] := List.getElem?_eq_getElem hk1
        obtain ⟨⟨dx, hp⟩, pr⟩ := l2 k _ _ hq ho1
        rw [List.getD_eq_getElem?_getD, ho1] at hl
        have hno : q.2.lookup m = none := by
          have go : ∀ {fs : List (Str × V)} {o : List (Str × D)}, Paired (fun (x : Str × V) (y : Str × D) => x.1 = y.1 ∧ Fld P.K G1 H1 (io ws1) x.2 y.2) fs o → (o.lookup m).isNone = true → fs.lookup m = none := by
            intro fs o pr
            induction pr with
            | nil => intro _; rfl
            | @cons x y l mm q1 q2 ih =>
              obtain ⟨xn, xv⟩ := x
              obtain ⟨yn, yv⟩ := y
              obtain ⟨q1, _⟩ := q1
              dsimp only at q1
              subst q1
              intro hz
              rw [List.lookup_cons] at hz ⊢
              cases eb : (m == xn) with
              | true => rw [eb] at hz; cases hz
              | false => rw [eb] at hz; exact ih hz
          exact go pr hl
        refine ⟨q.1, dx, q.2, rfl, hp, hno, ?_⟩
        refine hr σ H1 G1 ws1 ρ w1 _ (st.next n1) ?_
        cases e2 : fr ρ w1 with
        | bad => rw [e2] at h; exact h
        | ex y w2 => rw [e2] at h; exact PostE.after n1 h
        | ok xs w2 =>
          intro vs H2 G2' ws2 n2 r2 k2
          rw [e2] at h
          have h : PostE P (fun c d H' => Wi c d σ H') H G ws Q (match frzD xs with | some ds => ((fk ρ w2).bind fun zs w3 => match frzD zs with | some es => if ds.length = n ∧ es.length = j then F (selD ix (.obj k :: ds ++ es ++ dds)) w3 else .bad | none => .bad) | none => .bad) := h
          cases e3 : frzD xs with
          | none => rw [e3] at h; exact h.elim
          | some ds =>
            rw [e3] at h
            obtain ⟨G2, s2, n2, rs⟩ := freezeAll n2 r2 k2 e3
            have n12 := n1.trans n2
            have h : PostE P (fun c d H' => Wi c d σ H') H G ws Q ((fk ρ w2).bind fun zs w3 => match frzD zs with | some es => if ds.length = n ∧ es.length = j then F (selD ix (.obj k :: ds ++ es ++ dds)) w3 else .bad | none => .bad) := h
            refine hk σ H2 G2 ws2 ρ w2 _ (st.next n12) ?_
            cases e4 : fk ρ w2 with
            | bad => rw [e4] at h; exact h
            | ex y w3 => rw [e4] at h; exact PostE.after n12 h
            | ok zs w3 =>
              intro ys H3 G3' ws3 n3 r3 k3
              rw [e4] at h
              have h : PostE P (fun c d H' => Wi c d σ H') H G ws Q (match frzD zs with | some es => if ds.length = n ∧ es.length = j then F (selD ix (.obj k :: ds ++ es ++ dds)) w3 else .bad | none => .bad) := h
              cases e5 : frzD zs with
              | none => rw [e5] at h; exact h.elim
              | some es =>
                rw [e5] at h
                dsimp only at h
                split at h
                · rename_i hlen
                  obtain ⟨G3, s3, n3, rz⟩ := freezeAll n3 r3 k3 e5
                  have n13 := n12.trans n3
                  refine ⟨by rw [rs.length]; exact hlen.1, by rw [rz.length]; exact hlen.2, G3, ws3, w3, _, n3.sub, n3.rw, sel_reps (((Reps.cons (.obj (pre_get (n2.io.trans n3.io) e1)) (rs.mono n3.gg n3.io)).append rz).append (hd _ _)), PostE.after n13 h⟩
                · exact h.elim
      · rw [if_neg hl] at h; exact h.elim
    | _ => exact h.elim
end
section
variable {X : Cx} {κ : Kx} {k : Nat} {o e : Expr} {es : List Expr} {fo : DE} {fr fk : DA} {m : Str} {pos apos : Pos} {j : Nat} {F : DF} {sh : List Shape}
def XK' (X : Cx) (κ : Kx) (kws : List Keyword) (f : DA) : Prop := ∃ te, PK X kws te ∧ EvA (pm X κ) κ.e κ.Wi te f
theorem k_nil : XK' X κ [] dNil := ⟨_, pk_nil, ev_nil⟩
theorem k_one {nm : Option Str} {kpos : Pos} (ha : XE X κ e fo) : XK' X κ [⟨nm, e, kpos⟩] (dOne fo) := by
  obtain ⟨t, pa, ea⟩ := ha
  exact ⟨_, pk_cons pa pk_nil, ev_one ea⟩
theorem k_cons {nm : Option Str} {kpos : Pos} {kws : List Keyword} (ha : XE X κ e fo) (hr : XK' X κ kws fk) : XK' X κ (⟨nm, e, kpos⟩ :: kws) (dCons fo fk) := by
  obtain ⟨t, pa, ea⟩ := ha
  obtain ⟨t2, p2, e2⟩ := hr
  exact ⟨_, pk_cons pa p2, ev_cons ea e2⟩
theorem e_mt {pl : Sem Bool} {kws : List Keyword} (h : Shape) (d : Mt X.prog X.w X.K X.mg X.base κ.C κ.cm m j F sh) (hs : h ∈ sh) (c : Fe X κ k) (ho : XE X κ o fo) (ha : XA X κ (e :: es) fr) (hk : XK' X κ kws fk) (hn : h.n = (e :: es).length + 1 := by rfl) (hj : j ≤ k := by decide)
    (hall : (backToKw pos (keywordEach kws X.env)).all (·.1.isSome) = true := by rfl) (hks : (backToKw pos (keywordEach kws X.env)).filterMap (·.1) = h.ks := by rfl)
    (hst : starEach (e :: es) X.env = (false, eval e X.env) :: starEach es X.env := by rfl) (hpl : ((backTo pos (starEach (e :: es) X.env)).any (·.1) || (backToKw pos (keywordEach kws X.env)).any (·.1.isNone)) = false := by rfl)
    (ht : eval (.Call (.Attribute o m apos) (e :: es) kws pos) X.env = (do
      let ov ← eval o X.env
      standAt apos.atName
      let (f, first) ← holding [ov] (getMethod ov m pl)
      callWith pos f first (backTo pos (starEach (e :: es) X.env)) (backToKw pos (keywordEach kws X.env))) := by rfl) :
    XE X κ (.Call (.Attribute o m apos) (e :: es) kws pos) (dMt F m (e :: es).length h.ks.length h.ix h.dds fo fr fk) := by
  obtain ⟨f, fd, ps, cl, hm, G, hsh⟩ := d.ex
  obtain ⟨dvs, dus, v1, v2, v3⟩ := hsh h hs
  obtain ⟨t1, p1, e1⟩ := ho
  obtain ⟨t2, p2, e2⟩ := ha
  obtain ⟨t3, p3, e3⟩ := hk
  exact ⟨_, pe_mt (E := WE κ.Wi) p1 cl hm G (c.room.mono hj) v1 (fun s us zs i l1 l2 => v3 s us zs i (by rw [hn]; exact l1) l2) (fun σ => L2N.passAt c.tk σ) p2 p3 hall hks hst hpl ht, ev_mt e1 e2 e3 v2⟩
theorem e_mt0 {pl : Sem Bool} {kws : List Keyword} (h : Shape) (d : Mt X.prog X.w X.K X.mg X.base κ.C κ.cm m j F sh) (hs : h ∈ sh) (c : Fe X κ k) (ho : XE X κ o fo) (hk : XK' X κ kws fk) (hn : h.n = 1 := by rfl) (hj : j ≤ k := by decide)
    (hall : (backToKw pos (keywordEach kws X.env)).all (·.1.isSome) = true := by rfl) (hks : (backToKw pos (keywordEach kws X.env)).filterMap (·.1) = h.ks := by rfl)
    (hpl : ((backTo pos (starEach [] X.env)).any (·.1) || (backToKw pos (keywordEach kws X.env)).any (·.1.isNone)) = false := by rfl)
    (ht : eval (.Call (.Attribute o m apos) [] kws pos) X.env = (do
      let ov ← eval o X.env
      standAt apos.atName
      let (f, first) ← holding [ov] (getMethod ov m pl)
      callWith pos f first (backTo pos (starEach [] X.env)) (backToKw pos (keywordEach kws X.env))) := by rfl) :
    XE X κ (.Call (.Attribute o m apos) [] kws pos) (dMt F m 0 h.ks.length h.ix h.dds fo dNil fk) := by
  obtain ⟨f, fd, ps, cl, hm, G, hsh⟩ := d.ex
  obtain ⟨dvs, dus, v1, v2, v3⟩ := hsh h hs
  obtain ⟨t1, p1, e1⟩ := ho
  obtain ⟨t3, p3, e3⟩ := hk
  exact ⟨_, pe_mt0 (E := WE κ.Wi) p1 cl hm G (c.room.mono hj) v1 (fun s us zs i l1 l2 => v3 s us zs i (by rw [hn]; exact l1) l2) (fun σ => L2N.passAt c.tk σ) p3 hall hks hpl ht, ev_mt e1 ev_nil e3 v2⟩
end
end DL
/-! An object is made. -/
namespace DL
open PySem PySem.Spec PyProof.Rows L2
def houseD : List (Str × D) := [("ranks", .lst []), ("seats", .dK []), ("known", .dK []), ("weeks", .lst []), ("plans", .dT []), ("cuts", .dT []), ("many", .int 0), ("done", .lst [])]
def houseV (a1 a2 a3 a4 a5 a6 a7 : Addr) : List (Str × V) := [("ranks", .ref a1), ("seats", .ref a2), ("known", .ref a3), ("weeks", .ref a4), ("plans", .ref a5), ("cuts", .ref a6), ("many", .int 0), ("done", .ref a7)]
/-- what __init__ leaves at x -/
structure InitP (C : Addr) (H Hf : Hp) (x dx a1 a2 a3 a4 a5 a6 a7 : Addr) : Prop where
  keep : ∀ b o, H b = some o → b ≠ x → Hf b = some o
  at_ : Hf x = some (.ins C dx (houseV a1 a2 a3 a4 a5 a6 a7))
  h1 : Hf a1 = some (.lst [])
  h2 : Hf a2 = some (.dK [])
  h3 : Hf a3 = some (.dK [])
  h4 : Hf a4 = some (.lst [])
  h5 : Hf a5 = some (.dT [])
  h6 : Hf a6 = some (.dT [])
  h7 : Hf a7 = some (.lst [])
  new : ∀ b ∈ [a1, a2, a3, a4, a5, a6, a7], H b = none
  nd : [x, a1, a2, a3, a4, a5, a6, a7].Nodup
  fr : ∀ b o u, Hf b = some (.frz o u) → H b = some (.frz o u)
def spInit (C : Addr) : Sp := fun vs H Q _ => ∃ x dx, vs = [.ref x] ∧ H x = some (.ins C dx []) ∧ ∀ Hf a1 a2 a3 a4 a5 a6 a7, InitP C H Hf x dx a1 a2 a3 a4 a5 a6 a7 → Q .non Hf
theorem upd_none {H : Hp} {p b : Addr} {o : HO} (h : upd H p o b = none) : b ≠ p ∧ H b = none := by
  by_cases e : b = p
  · subst e; rw [upd_same] at h; cases h
  · rw [upd_ne e] at h; exact ⟨e, h⟩
theorem upd_frz {H : Hp} {p b : Addr} {o : HO} {q : Obj} {u : HO} (n : ∀ q u, o ≠ .frz q u) (h : upd H p o b = some (.frz q u)) : H b = some (.frz q u) := by
  by_cases e : b = p
  · subst e; rw [upd_same] at h; cases h; exact absurd rfl (n _ _)
  · rw [upd_ne e] at h; exact h
theorem putF_len {f : Str} {v : V} : ∀ {fs : List (Str × V)} {n : Nat}, fs.length ≤ n → (putF f v fs).length ≤ n + 1
  | [], n, _ => by show 1 ≤ n + 1; omega
  | (g, x) :: r, n, h => by
    unfold putF
    split
    · exact Nat.le_succ_of_le h
    · cases n with
      | zero => simp at h
      | succ n => exact Nat.succ_le_succ (putF_len (by simpa using h))
/-- the body's reading -/
theorem init_read {K : PySem.W.Frag} {C : Addr} {N : List Str} {H : Hp} {vs : List V} {Q : VK} {E : XK} (hN : N = (["self"] : List Str)) (c : Cls K C) (na : ∀ f ∈ (["ranks", "seats", "known", "weeks", "plans", "cuts", "many", "done"] : List Str), NoAttr K C f) (h : spInit C vs H Q E) :
    tSeq (sFld K (tVar 0) (tLst tNil) "ranks") (tSeq (sFld K (tVar 0) tDNewK "seats") (tSeq (sFld K (tVar 0) tDNewK "known") (tSeq (sFld K (tVar 0) (tLst tNil) "weeks") (tSeq (sFld K (tVar 0) tDNewT "plans") (tSeq (sFld K (tVar 0) tDNewT "cuts") (tSeq (sFld K (tVar 0) (tC (.int 0)) "many") (sFld K (tVar 0) (tLst tNil) "done"))))))) { nx := fun _ H' => Q .non H', rt := Q } (L2.start N vs) H := by
  subst hN
  obtain ⟨x, dx, rfl, hx, hq⟩ := h
  have hz : ([] : List V).length ≤ sizeLine := Nat.zero_le _
  refine ⟨hz, fun a1 n1 => ⟨.ref x, rfl, x, C, dx, _, rfl, by rw [upd_ne (ne_of_none hx n1)]; exact hx, c, na _ (by simp), by decide, ?_⟩⟩
  refine fun a2 n2 => ⟨.ref x, rfl, x, C, dx, _, rfl, by rw [upd_ne (Ne.symm (upd_none n2).1), upd_same], c, na _ (by simp), Nat.lt_of_le_of_lt (putF_len (Nat.zero_le 0 : ([] : List (Str × V)).length ≤ 0)) (by decide), ?_⟩
  refine fun a3 n3 => ⟨.ref x, rfl, x, C, dx, _, rfl, by rw [upd_ne (Ne.symm (upd_none n3).1), upd_same], c, na _ (by simp), Nat.lt_of_le_of_lt (putF_len (putF_len (Nat.zero_le 0 : ([] : List (Str × V)).length ≤ 0))) (by decide), ?_⟩
  refine ⟨hz, fun a4 n4 => ⟨.ref x, rfl, x, C, dx, _, rfl, by rw [upd_ne (Ne.symm (upd_none n4).1), upd_same], c, na _ (by simp), Nat.lt_of_le_of_lt (putF_len (putF_len (putF_len (Nat.zero_le 0 : ([] : List (Str × V)).length ≤ 0)))) (by decide), ?_⟩⟩
  refine fun a5 n5 => ⟨.ref x, rfl, x, C, dx, _, rfl, by rw [upd_ne (Ne.symm (upd_none n5).1), upd_same], c, na _ (by simp), Nat.lt_of_le_of_lt (putF_len (putF_len (putF_len (putF_len (Nat.zero_le 0 : ([] : List (Str × V)).length ≤ 0))))) (by decide), ?_⟩
  refine fun a6 n6 => ⟨.ref x, rfl, x, C, dx, _, rfl, by rw [upd_ne (Ne.symm (upd_none n6).1), upd_same], c, na _ (by simp), Nat.lt_of_le_of_lt (putF_len (putF_len (putF_len (putF_len (putF_len (Nat.zero_le 0 : ([] : List (Str × V)).length ≤ 0)))))) (by decide), ?_⟩
  refine ⟨.ref x, rfl, x, C, dx, _, rfl, upd_same, c, na _ (by simp), Nat.lt_of_le_of_lt (putF_len (putF_len (putF_len (putF_len (putF_len (putF_len (Nat.zero_le 0 : ([] : List (Str × V)).length ≤ 0))))))) (by decide), ?_⟩
  refine ⟨hz, fun a7 n7 => ⟨.ref x, rfl, x, C, dx, _, rfl, by rw [upd_ne (Ne.symm (upd_none n7).1), upd_same], c, na _ (by simp), Nat.lt_of_le_of_lt (putF_len (putF_len (putF_len (putF_len (putF_len (putF_len (putF_len (Nat.zero_le 0 : ([] : List (Str × V)).length ≤ 0)))))))) (by decide), ?_⟩⟩
  have d1x := ne_of_none hx n1
  obtain ⟨d2x, n2⟩ := upd_none n2
  obtain ⟨d21, n2⟩ := upd_none n2
  obtain ⟨d3x, n3⟩ := upd_none n3
  obtain ⟨d32, n3⟩ := upd_none n3
  obtain ⟨_, n3⟩ := upd_none n3
  obtain ⟨d31, n3⟩ := upd_none n3
  obtain ⟨d4x, n4⟩ := upd_none n4
  obtain ⟨d43, n4⟩ := upd_none n4
  obtain ⟨_, n4⟩ := upd_none n4
  obtain ⟨d42, n4⟩ := upd_none n4
  obtain ⟨_, n4⟩ := upd_none n4
  obtain ⟨d41, n4⟩ := upd_none n4
  obtain ⟨d5x, n5⟩ := upd_none n5
  obtain ⟨d54, n5⟩ := upd_none n5
  obtain ⟨_, n5⟩ := upd_none n5
  obtain ⟨d53, n5⟩ := upd_none n5
  obtain ⟨_, n5⟩ := upd_none n5
  obtain ⟨d52, n5⟩ := upd_none n5
  obtain ⟨_, n5⟩ := upd_none n5
  obtain ⟨d51, n5⟩ := upd_none n5
  obtain ⟨d6x, n6⟩ := upd_none n6
  obtain ⟨d65, n6⟩ := upd_none n6
  obtain ⟨_, n6⟩ := upd_none n6
  obtain ⟨d64, n6⟩ := upd_none n6
  obtain ⟨_, n6⟩ := upd_none n6
  obtain ⟨d63, n6⟩ := upd_none n6
  obtain ⟨_, n6⟩ := upd_none n6
  obtain ⟨d62, n6⟩ := upd_none n6
  obtain ⟨_, n6⟩ := upd_none n6
  obtain ⟨d61, n6⟩ := upd_none n6
  obtain ⟨d7x, n7⟩ := upd_none n7
  obtain ⟨_, n7⟩ := upd_none n7
  obtain ⟨d76, n7⟩ := upd_none n7
  obtain ⟨_, n7⟩ := upd_none n7
  obtain ⟨d75, n7⟩ := upd_none n7
  obtain ⟨_, n7⟩ := upd_none n7
  obtain ⟨d74, n7⟩ := upd_none n7
  obtain ⟨_, n7⟩ := upd_none n7
  obtain ⟨d73, n7⟩ := upd_none n7
  obtain ⟨_, n7⟩ := upd_none n7
  obtain ⟨d72, n7⟩ := upd_none n7
  obtain ⟨_, n7⟩ := upd_none n7
  obtain ⟨d71, n7⟩ := upd_none n7
  refine hq _ a1 a2 a3 a4 a5 a6 a7 ⟨fun b o hb bx => ?_, ?_, ?_, ?_, ?_, ?_, ?_, ?_, ?_, ?_, ?_, fun b o u e => ?_⟩
  · have m1 := ne_of_none hb n1
    have m2 := ne_of_none hb n2
    have m3 := ne_of_none hb n3
    have m4 := ne_of_none hb n4
    have m5 := ne_of_none hb n5
    have m6 := ne_of_none hb n6
    have m7 := ne_of_none hb n7
    simp only [upd, bx, m1, m2, m3, m4, m5, m6, m7, if_false]
    exact hb
  · rw [upd_same]; rfl
  · simp [upd, d1x.symm, d21.symm, d31.symm, d41.symm, d51.symm, d61.symm, d71.symm]
  · simp [upd, d2x, d32.symm, d42.symm, d52.symm, d62.symm, d72.symm]
  · simp [upd, d3x, d43.symm, d53.symm, d63.symm, d73.symm]
  · simp [upd, d4x, d54.symm, d64.symm, d74.symm]
  · simp [upd, d5x, d65.symm, d75.symm]
  · simp [upd, d6x, d76.symm]
  · simp [upd, d7x]
  · intro b hb
    simp only [List.mem_cons, List.not_mem_nil, or_false] at hb
    rcases hb with rfl | rfl | rfl | rfl | rfl | rfl | rfl <;> assumption
  · simp only [List.nodup_cons, List.mem_cons, List.not_mem_nil, or_false, not_or, not_false_eq_true, and_true, List.nodup_nil]
    exact ⟨⟨d1x, d2x.symm, d3x.symm, d4x.symm, d5x.symm, d6x.symm, d7x.symm⟩, ⟨d21.symm, d31.symm, d41.symm, d51.symm, d61.symm, d71.symm⟩, ⟨d32.symm, d42.symm, d52.symm, d62.symm, d72.symm⟩, ⟨d43.symm, d53.symm, d63.symm, d73.symm⟩, ⟨d54.symm, d64.symm, d74.symm⟩, ⟨d65.symm, d75.symm⟩, d76.symm⟩
  · repeat (replace e := upd_frz (by intro _ _ z; cases z) e)
    exact e
/-! ### House() -/
def dNew : DE := fun _ w => .ok (fz (.obj w.o.length)) ⟨w.n + 1, w.o ++ [houseD], w.lk⟩
theorem regs_app : ∀ (l : Ws0) (p : Addr) (fs : List (Str × V)), regs0 (l ++ [(p, fs)]) = regs0 l ++ (p :: refs fs)
  | [], p, fs => by show p :: (refs fs ++ []) = p :: refs fs; rw [List.append_nil]
  | (q, zs) :: l, p, fs => by
    show q :: (refs zs ++ regs0 (l ++ [(p, fs)])) = q :: (refs zs ++ regs0 l) ++ (p :: refs fs)
    rw [regs_app l p fs, ← List.append_assoc]
    rfl
theorem Nx.made {K : PySem.W.Frag} {C : Ca} {G H Hf : Hp} {ws : Ws} {w : W} {x dx a1 a2 a3 a4 a5 a6 a7 : Addr} (s : Sm G H) (r : RelW K C G H ws w) (hx : H x = none) (hdx : H dx = none) (nx : dx ≠ x) (i : InitP C.a (upd (upd H dx (.own x)) x (.ins C.a dx [])) Hf x dx a1 a2 a3 a4 a5 a6 a7) :
    Nx K C G H ws G Hf ⟨ws.n + 1, ws.l ++ [(x, houseV a1 a2 a3 a4 a5 a6 a7)], ws.lk⟩ ⟨w.n + 1, w.o ++ [houseD], w.lk⟩ ∧ RV K G Hf ⟨ws.n + 1, ws.l ++ [(x, houseV a1 a2 a3 a4 a5 a6 a7)], ws.lk⟩ (.ref x) (fz (.obj w.o.length)) := by
  have sh : Same H Hf := fun b o h => i.keep b o (by rw [upd_ne (ne_of_none h hx), upd_ne (ne_of_none h hdx)]; exact h) (ne_of_none h hx)
  have new : ∀ b ∈ [a1, a2, a3, a4, a5, a6, a7], H b = none := fun b hb => (upd_none (upd_none (i.new b hb)).2).2
  have newx : ∀ b ∈ x :: refs (houseV a1 a2 a3 a4 a5 a6 a7), H b = none := fun b hb => by
    rcases List.mem_cons.mp hb with rfl | hb
    · exact hx
    · exact new b hb
  have fr : ∀ b o u, Hf b = some (.frz o u) → H b = some (.frz o u) := fun b o u e => by
    have := i.fr b o u e
    by_cases h1 : b = x
    · subst h1; rw [upd_same] at this; cases this
    · rw [upd_ne h1] at this
      by_cases h2 : b = dx
      · subst h2; rw [upd_same] at this; cases this
      · rw [upd_ne h2] at this; exact this
  have iop : DL.io ws <+: DL.io ⟨ws.n + 1, ws.l ++ [(x, houseV a1 a2 a3 a4 a5 a6 a7)], ws.lk⟩ := by
    show ws.l.map (·.1) <+: (ws.l ++ [(x, houseV a1 a2 a3 a4 a5 a6 a7)]).map (·.1)
    rw [List.map_append]
    exact List.prefix_append _ _
  refine ⟨⟨fun _ _ h => h, s.trans sh, ⟨?_, by show w.n + 1 = ws.n + 1; rw [r.nn], ?_, ?_, r.tb.ext sh, r.nt, fun a o u e hd => r.ul a o u (fr a o u e) hd, r.lkw, fun a o u e => sh _ _ (r.lkh a o u e)⟩, fun b o h _ _ => h.mono sh, fun b o h no => ⟨o, sh b o h, no⟩, fun _ _ _ _ h => .inl h, iop, ?_, Nat.le_succ _, fun h => absurd h (by show ws.n + 1 ≠ ws.n; omega), fun n q fq hq => ⟨fq, (by show (ws.l ++ [_])[n]? = _; rw [List.getElem?_append_left (List.getElem?_eq_some_iff.mp hq).1]; exact hq), rfl, fun _ _ _ h => h⟩⟩, ?_⟩
  · obtain ⟨l1, l2⟩ := paired_ix r.obs
    refine paired_of (by show (ws.l ++ [_]).length = (w.o ++ [_]).length; rw [List.length_append, List.length_append, l1]; rfl) fun n q o hq ho => ?_
    have hq : (ws.l ++ [(x, houseV a1 a2 a3 a4 a5 a6 a7)])[n]? = some q := hq
    have ho : (w.o ++ [houseD])[n]? = some o := ho
    by_cases hn : n < ws.l.length
    · rw [List.getElem?_append_left hn] at hq
      rw [List.getElem?_append_left (by rw [← l1]; exact hn)] at ho
      obtain ⟨⟨dx0, h0⟩, pr⟩ := l2 n q o hq ho
      exact ⟨⟨dx0, sh _ _ h0⟩, paired_imp pr fun y z _ ⟨g1, g2⟩ => ⟨g1, g2.move (fun _ _ h => h) iop fun b ob _ hb => hb.mono sh⟩⟩
    · rw [List.getElem?_append_right (by omega)] at hq
      rw [List.getElem?_append_right (by rw [← l1]; omega)] at ho
      have hn0 : n - ws.l.length = 0 := by
        have := (List.getElem?_eq_some_iff.mp hq).1
        simp at this
        omega
      rw [hn0] at hq
      rw [← l1, hn0] at ho
      simp at hq ho
      subst hq ho
      refine ⟨⟨dx, i.at_⟩, .cons ⟨rfl, .inl ⟨a1, rfl, .lst i.h1 .nil⟩⟩ (.cons ⟨rfl, .inl ⟨a2, rfl, .dK (.inl i.h2) rfl .nil⟩⟩ (.cons ⟨rfl, .inl ⟨a3, rfl, .dK (.inl i.h3) rfl .nil⟩⟩ (.cons ⟨rfl, .inl ⟨a4, rfl, .lst i.h4 .nil⟩⟩ (.cons ⟨rfl, .inl ⟨a5, rfl, .dT (.inl i.h5) rfl .nil⟩⟩ (.cons ⟨rfl, .inl ⟨a6, rfl, .dT (.inl i.h6) rfl .nil⟩⟩ (.cons ⟨rfl, .inr ⟨0, rfl, rfl⟩⟩ (.cons ⟨rfl, .inl ⟨a7, rfl, .lst i.h7 .nil⟩⟩ .nil)))))))⟩
  · show (regs0 (ws.l ++ [(x, houseV a1 a2 a3 a4 a5 a6 a7)])).Nodup
    rw [regs_app]
    refine List.nodup_append.mpr ⟨r.nd, i.nd, fun a ha b hb e => ?_⟩
    subst e
    exact reg_ne r (newx a hb) ha
  · intro a ha
    have ha : a ∈ regs0 (ws.l ++ [(x, houseV a1 a2 a3 a4 a5 a6 a7)]) := ha
    rw [regs_app] at ha
    rcases List.mem_append.mp ha with ha | ha
    · exact r.out a ha
    · exact s.free (newx a ha)
  · intro a ha
    have ha : a ∈ regs0 (ws.l ++ [(x, houseV a1 a2 a3 a4 a5 a6 a7)]) := ha
    rw [regs_app] at ha
    rcases List.mem_append.mp ha with ha | ha
    · exact .inl ha
    · exact .inr (Fr.of (newx a ha))
  · show Rep _ _ _ _ _
    refine .obj ?_
    show ((ws.l ++ [(x, houseV a1 a2 a3 a4 a5 a6 a7)]).map (·.1))[w.o.length]? = some x
    rw [List.map_append, List.getElem?_append_right (by rw [List.length_map, (paired_ix r.obs).1]; exact Nat.le_refl _), List.length_map, (paired_ix r.obs).1, Nat.sub_self]
    rfl
theorem ev_new {P : Pm} {H0 : En} {Wi : WX} {E : XK} : EvE P H0 Wi (tMake P.C.a (spInit P.C.a) [] E tNil) dNew := by
  intro σ H G ws ρ w Q st h x dx hx hdx nx
  refine ⟨x, dx, rfl, upd_same, fun Hf a1 a2 a3 a4 a5 a6 a7 i => ⟨rfl, ?_⟩⟩
  obtain ⟨n, rv⟩ := Nx.made st.sub st.rw hx hdx nx i
  exact h (.ref x) Hf G _ n rv fz_nw
/-- the class, as it stands behind the top -/
structure Hcl (P : Program) (w : World) (K : PySem.W.Frag) (mg : Str → Option Value) (base : Heap) (C : Ca) : Prop where
  cl : Cls K C.a
  na : ∀ f ∈ (["ranks", "seats", "known", "weeks", "plans", "cuts", "many", "done"] : List Str), NoAttr K C.a f
  mkh : ∃ f fd, Mk K C.a f ∧ mg "House" = some (.ref C.a) ∧ Binds K fd ["self"] [] ∧ FnOk P w K mg base (L2.CX P w) 1 f fd ["self"] (spInit C.a)
section
variable {X : Cx} {κ : Kx} {k : Nat} {p pos : Pos}
theorem e_new (h : Hcl X.prog X.w X.K X.mg X.base κ.C) (c : Fe X κ k) (hk : 2 ≤ k := by decide) (hg : Gl X "House" := by rfl) : XE X κ (.Call (.Name "House" p) [] [] pos) dNew := by
  obtain ⟨f, fd, M, hm, hb, F⟩ := h.mkh
  exact ⟨_, pe_make0 M F (c.room.mono hk) hg hm hb .nil passL, ev_new⟩
theorem e_fld {f : Str} {o : Expr} {fo : DE} (h : Hcl X.prog X.w X.K X.mg X.base κ.C) (ho : XE X κ o fo) (hf : f ∈ (["ranks", "seats", "known", "weeks", "plans", "cuts", "many", "done"] : List Str) := by decide) (hb : attributeBase o f X.env (eval o X.env) = eval o X.env := by rfl) : XE X κ (.Attribute o f pos) (dFld f fo) := by
  obtain ⟨t, pa, ea⟩ := ho
  exact ⟨_, pe_fld pa hb, ev_fld h.cl (h.na f hf) ea⟩
theorem s_fst {f : Str} {o e : Expr} {fo fe : DE} {pos' : Pos} (h : Hcl X.prog X.w X.K X.mg X.base κ.C) (ho : XE X κ o fo) (he : XE X κ e fe) (hf : f ∈ (["ranks", "seats", "known", "weeks", "plans", "cuts", "many", "done"] : List Str) := by decide)
    (hs : swapsWith e (some (.Attribute o f pos')) pos.line X.env = pure false := by rfl) : XS X κ (.Assign [.Attribute o f pos'] e pos) (sFst f fo fe) := by
  obtain ⟨t, pa, ea⟩ := ho
  obtain ⟨t2, p2, e2⟩ := he
  exact ⟨_, ps_fld pa p2 hs, ev_fst h.cl (h.na f hf) ea e2⟩
theorem s_fapp {f : Str} {o a : Expr} {fo fe : DE} {pos' apos cpos : Pos} (h : Hcl X.prog X.w X.K X.mg X.base κ.C) (ho : XE X κ o fo) (he : XE X κ a fe) (hf : f ∈ (["ranks", "seats", "known", "weeks", "plans", "cuts", "many", "done"] : List Str) := by decide)
    (hb : attributeBase o f X.env (eval o X.env) = eval o X.env := by rfl) (hsw : swapsWith (.Call (.Attribute (.Attribute o f pos') "append" apos) [a] [] cpos) none pos.line X.env = pure false := by rfl)
    (hs1 : starEach [a] X.env = (false, eval a X.env) :: starEach [] X.env := by rfl) (hbase : attributeBase (.Attribute o f pos') "append" X.env (eval (.Attribute o f pos') X.env) = eval (.Attribute o f pos') X.env := by rfl)
    (hfew : ((backTo cpos (starEach [a] X.env)).all (fun x => !x.1) && (backToKw cpos (keywordEach [] X.env)).all (fun x => x.1.isSome) && decide ([a].length + ([] : List Keyword).length + (if ([] : List Keyword).isEmpty then 0 else 1) < 30)) = true := by rfl)
    (hline : (apos.endLine == cpos.line) = true := by rfl) : XS X κ (.Expr (.Call (.Attribute (.Attribute o f pos') "append" apos) [a] [] cpos) pos) (sFapp f fo fe) := by
  obtain ⟨t, pa, ea⟩ := ho
  obtain ⟨t2, p2, e2⟩ := he
  exact ⟨_, ps_expr (pe_bm PySem.F.plainAttrs_list PySem.F.slot_list_append PySem.F.type_list_append mt_append (pe_fld pa hb) (pa_cons p2 pa_nil hs1) hbase hfew hline hs1) hsw, ev_fapp h.cl (h.na f hf) ea e2⟩
end
end DL
/-! Places of dicts; a look that may miss. -/
namespace DL
open PySem PySem.Spec PyProof.Rows L2 L2H
section
variable {X : Cx} {κ : Kx} {k : Nat} {a b o e : Expr} {fa fb fo fe : DE} {es : List Expr} {fr : DA} {pos p p2 p3 apos cpos : Pos} {kk : Nat}
theorem Fe.u1 (c : Fe X κ k) : X.A.units + 1 < cLine := hu_of c.room
/-! d[k] -/
theorem e_ixD (c : Fe X κ k) (ha : XE X κ a fa) (hb : XE X κ b fb) (hs : NoSl b := by exact fun _ _ => rfl) : XE X κ (.Subscript a b pos) (dOp gIxD fa fb) := by
  obtain ⟨t1, p1, e1⟩ := ha
  obtain ⟨t2, p2, e2⟩ := hb
  exact ⟨_, pe_dget c.u1 p1 p2 hs, ev_op e1 e2 rop_ixD gIxD_nx⟩
/-! k in d -/
theorem t_inD (c : Fe X κ k) (ha : XE X κ a fa) (hb : XE X κ b fb) (hm : behindInMarks .In b = false := by rfl) : XT X κ (.Compare a [.In] [b] pos) (tst (dOp (gInD false) fa fb)) := by
  obtain ⟨t1, p1, e1⟩ := ha
  obtain ⟨t2, p2, e2⟩ := hb
  exact ⟨_, pt_cmp (pc_din c.u1 p1 p2) hm, ev_tB (ev_op e1 e2 rop_inD gInD_nx)⟩
theorem t_ninD (c : Fe X κ k) (ha : XE X κ a fa) (hb : XE X κ b fb) (hm : behindInMarks .NotIn b = false := by rfl) : XT X κ (.Compare a [.NotIn] [b] pos) (tst (dOp (gInD true) fa fb)) := by
  obtain ⟨t1, p1, e1⟩ := ha
  obtain ⟨t2, p2, e2⟩ := hb
  exact ⟨_, pt_cmp (pc_dnotin c.u1 p1 p2) hm, ev_tB (ev_op e1 e2 rop_ninD gInD_nx)⟩
/-! d[a, b], (a, b) in d, d.get((a, b), x) -/
theorem e_ixT (c : Fe X κ k) (ha : XE X κ a fa) (hb : XA X κ es fr) (hs : NoSl (.Tuple es kk p) := by exact fun _ _ => rfl) : XE X κ (.Subscript a (.Tuple es kk p) pos) (dIxT fa (keyT fr)) := by
  obtain ⟨t1, p1, e1⟩ := ha
  obtain ⟨t2, p2, e2⟩ := hb
  exact ⟨_, pe_dget c.u1 p1 (pe_tup p2) hs, ev_ixT e1 (ev_keyT e2)⟩
theorem t_inT (c : Fe X κ k) (ha : XA X κ es fr) (hb : XE X κ b fb) (hm : behindInMarks .In b = false := by rfl) : XT X κ (.Compare (.Tuple es kk p) [.In] [b] pos) (tst (dInT false (keyT fr) fb)) := by
  obtain ⟨t1, p1, e1⟩ := ha
  obtain ⟨t2, p2, e2⟩ := hb
  exact ⟨_, pt_cmp (pc_din c.u1 (pe_tup p1) p2) hm, ev_tB (ev_inT (ev_keyT e1) e2)⟩
theorem e_getT (c : Fe X κ k) (ha : XE X κ a fa) (hb : XA X κ es fr) (he : XE X κ e fe) (m : M2 X a "get" apos (.Tuple es kk p) e cpos := by exact ⟨by rfl, by rfl, by rfl, by rfl⟩) : XE X κ (.Call (.Attribute a "get" apos) [.Tuple es kk p, e] [] cpos) (dGetT fa (keyT fr) fe) := by
  obtain ⟨t1, p1, e1⟩ := ha
  obtain ⟨t2, p2, e2⟩ := hb
  obtain ⟨t3, p3, e3⟩ := he
  exact ⟨_, pe_dget2 c.u1 p1 (pe_tup p2) p3 m, ev_getT e1 (ev_keyT e2) e3⟩
/-! stores -/
theorem s_fputK {f : Str} {pos' : Pos} (h : Hcl X.prog X.w X.K X.mg X.base κ.C) (c : Fe X κ k) (ho : XE X κ o fo) (hk : XE X κ a fa) (hv : XE X κ e fe) (hf : f ∈ (["ranks", "seats", "known", "weeks", "plans", "cuts", "many", "done"] : List Str) := by decide) (hb : attributeBase o f X.env (eval o X.env) = eval o X.env := by rfl)
    (hs : swapsWith e (some (.Subscript (.Attribute o f p) a pos')) pos.line X.env = pure false := by rfl) : XS X κ (.Assign [.Subscript (.Attribute o f p) a pos'] e pos) (sFputK f fo fa fe) := by
  obtain ⟨t1, p1, e1⟩ := ho
  obtain ⟨t2, p2, e2⟩ := hk
  obtain ⟨t3, p3, e3⟩ := hv
  exact ⟨_, ps_dput c.u1 (pe_fld p1 hb) p2 p3 hs, ev_fputK h.cl (h.na f hf) e1 e2 e3⟩
theorem s_fputT {f : Str} {pos' : Pos} (h : Hcl X.prog X.w X.K X.mg X.base κ.C) (c : Fe X κ k) (ho : XE X κ o fo) (hk : XA X κ es fr) (hv : XE X κ e fe) (hf : f ∈ (["ranks", "seats", "known", "weeks", "plans", "cuts", "many", "done"] : List Str) := by decide) (hb : attributeBase o f X.env (eval o X.env) = eval o X.env := by rfl)
    (hs : swapsWith e (some (.Subscript (.Attribute o f p) (.Tuple es kk p2) pos')) pos.line X.env = pure false := by rfl) : XS X κ (.Assign [.Subscript (.Attribute o f p) (.Tuple es kk p2) pos'] e pos) (sFputT f fo (keyT fr) fe) := by
  obtain ⟨t1, p1, e1⟩ := ho
  obtain ⟨t2, p2, e2⟩ := hk
  obtain ⟨t3, p3, e3⟩ := hv
  exact ⟨_, ps_dput c.u1 (pe_fld p1 hb) (pe_tup p2) p3 hs, ev_fputT h.cl (h.na f hf) e1 (ev_keyT e2) e3⟩
end
/-! ### try: return d[k], except KeyError: raise C('..') from None -/
theorem pmk5_o {X : Cx} {C : Addr} {bmB : List Value} {B newId initId : String} {x m : Str} {j : Nat} {p p2 pos : Pos} (F : ExcBaseFacts B newId initId bmB) (q : PySem.W.excIn X.K C bmB newId = true) (gC : X.mg x = some (.ref C)) (kC : PySem.W.keepIn X.K (.ref C) = true) (r : Raises X (.ref C)) (hg : Gl X x)
    (hdb : (x == ("__debug__" : Str)) = false) : PMk5 X (.Call (.Name x p) [.Constant (.str m) j p2] [] pos) (fun _ H Q => Q (.ref C) none H) := by
  intro pins s σ H Q I h
  have arg : PA X [.Constant (.str m) j p2] (tCons (tC (.str m)) tNil) := pa_cons pe_str pa_nil
  refine wpAny_Call_Name_kw (ld_glob I hg gC ?_ hdb)
  refine PySem.W.callWith_K (h₀ := X.base) I.ok.mod.kin kC (thn (arg.run pos pins s σ H (fun vs H1 => vs = [V.str m] ∧ H1 = H) I ⟨rfl, rfl⟩) ?_)
  rintro us s1 ⟨vs, H1, I1, r1, rfl, e2⟩
  rw [e2] at I1
  refine ⟨I1.kIn, ?_⟩
  obtain ⟨u, rfl, _⟩ := r1.one
  obtain ⟨bm, N, nm, qn, bs, hdct, sn, sub, ab, col, dd, k0, k1, k2, k3, k5, mN, hC, hN, hni, T⟩ := exc_obj I1.kIn q
  show wpAny _ _ (call (.ref C) [u]) _ _ _
  refine wpAny_call_exc_subT F T hC hN hni ?_ (by show 1 ≤ sizeLine; decide)
  intro h' e hm
  exact mk_of5 I1 hm r h (I1.hok.gone hm.new)
end DL
/-! Walks over what a field holds; xs[::-1]; a, b = x, y for names that are captured. -/
namespace DL
open PySem PySem.Spec PyProof.Rows L2
section
variable {P : Pm} {H0 : En} {Wi : WX} {to ta : TE} {fo fa : DE} {ts : TS} {gs : DS} {tr : TA} {fr : DA}
theorem itl_okV {Ok : Hp → Hp → Ws → Prop} {a : Addr} {ds : List D} (h : ∀ G H ws, Ok G H ws → ∃ vs, SqL P.K H a vs ∧ Reps P.K G (io ws) vs ds) : ItOk P (Itl P.K a) Ok ds where
  go := fun G H ws i d ok e => by
    obtain ⟨vs, h1, h2⟩ := h G H ws ok
    obtain ⟨v, hv, _⟩ := h2.getD e
    exact ⟨vs, v, h1, hv⟩
  yl := fun G H ws w i d x H' ok s r e y => by
    obtain ⟨vs, h1, h2⟩ := h G H ws ok
    obtain ⟨v, hv, rp⟩ := h2.getD e
    obtain ⟨rfl, y⟩ := y
    have := y vs h1
    rw [hv] at this
    cases this
    exact ⟨G, Nx.refl s r, rp⟩
  st := fun G H ws ok => by
    obtain ⟨vs, h1, h2⟩ := h G H ws ok
    exact ⟨vs, h1, by rw [h2.length]; exact Nat.le_refl _⟩
theorem stab_lookup {f : Str} {a : Addr} : ∀ {fs fs' : List (Str × V)}, fs'.map (·.1) = fs.map (·.1) → (∀ (x : Nat) f a, fs[x]? = some (f, V.ref a) → fs'[x]? = some (f, V.ref a)) → fs.lookup f = some (.ref a) → fs'.lookup f = some (.ref a)
  | [], _, _, _, h => by cases h
  | _ :: _, [], h, _, _ => by simp at h
  | (n, v) :: fs, (n', v') :: fs', hm, hk, hl => by
    simp only [List.map_cons, List.cons.injEq] at hm
    obtain ⟨rfl, hm⟩ := hm
    rw [List.lookup_cons] at hl ⊢
    cases e : (f == n') with
    | true =>
      rw [e] at hl
      cases hl
      have := hk 0 n' a rfl
      simp at this
      rw [this]
    | false =>
      rw [e] at hl
      exact stab_lookup hm (fun x g b hx => by simpa using hk (x + 1) g b (by simpa using hx)) hl
/-- .. while the world stays as it is -/
noncomputable def forLq (t : Tg) (b : DS) (w0 : W) : List D → Env → W → Out
  | [], ρ, w => .next ρ w
  | d :: ds, ρ, w => match setT t d ρ with
    | none => .bad
    | some ρ' => match b ρ' w with
      | .next ρ2 w2 => open Classical in if w2 = w0 then forLq t b w0 ds ρ2 w2 else .bad
      | .cont ρ2 w2 => open Classical in if w2 = w0 then forLq t b w0 ds ρ2 w2 else .bad
      | .brk ρ2 w2 => .next ρ2 w2
      | o => o
noncomputable def sForF (f : Str) (fo : DE) (t : Tg) (b : DS) : DS := fun ρ w => (fo ρ w).thn ρ fun x w1 => match x.d with
  | .obj k => (match getF w1 k f with | some (.lst ds) => forLq t b w1 ds ρ w1 | _ => .bad)
  | _ => .bad
theorem ev_forF {f : Str} {t : Tg} (c : Cls P.K P.C.a) (n : NoAttr P.K P.C.a f) (ho : EvE P H0 Wi to fo) (hb : EvS P H0 Wi ts gs) : EvS P H0 Wi (tFor (iList P.K (tFld P.K to f)) (gT P.K t) ts) (sForF f fo t gs) := by
  intro σ H G ws ρ w D st h
  unfold sForF at h
  refine ho σ H G ws ρ w _ st (postE_of st h fun x w1 _ h vx H1 G1 ws1 n1 rx kx => ?_)
  have st1 := st.next n1
  have h : PostS P H0 Wi D G1 ws1 _ := PostS.after n1.mon h
  obtain ⟨m, dd⟩ := x
  cases dd with
  | obj k =>
    obtain ⟨p, rfl, e1, rfl⟩ := rv_obj rx
    dsimp only at h
    split at h
    · rename_i ds eg
      obtain ⟨dx, fs, u, o, x, A⟩ := n1.rw.fld e1 eg
      obtain ⟨a, vs0, rfl, ha0, _⟩ := A.fl.lst
      refine ⟨p, P.C.a, dx, fs, .ref a, rfl, A.ins, c, n, A.lk, a, rfl, ⟨_, SqL.of ha0⟩, ?_⟩
      -- the list stands wherever the world is as it was
      have stands : ∀ {σ' : L2.St} {H' G' : Hp} {ws' : Ws} {ρ' : Env}, St P.K P.C H0 σ' H' G' ws' ρ' w1 → Mon G1 ws1 G' ws' → ∃ vs, SqL P.K H' a vs ∧ Reps P.K G' (io ws') vs ds := fun {σ' H' G' ws' ρ'} st' mo => by
        obtain ⟨dx2, fs2, u2, o2, x2, Bx⟩ := st'.rw.fld (pre_get mo.2.1 e1) eg
        obtain ⟨fs3, q1, q2, q3⟩ := mo.2.2.1 k p fs A.at_
        have h0 := Bx.at_
        rw [q1] at h0
        cases h0
        have hl := stab_lookup q2 q3 A.lk
        rw [Bx.lk] at hl
        cases hl
        obtain ⟨a2, vs, ea, hH, rs⟩ := Bx.fl.lst
        cases ea
        exact ⟨vs, SqL.of hH, rs⟩
      have ok : ItOk P (Itl P.K a) (fun G H ws => ∃ vs, SqL P.K H a vs ∧ Reps P.K G (io ws) vs ds) ds := itl_okV fun _ _ _ h => h
      refine ⟨fun i m σ' H' => m = ds.length - i ∧ i ≤ ds.length ∧ ∃ G' ws' ρ', St P.K P.C H0 σ' H' G' ws' ρ' w1 ∧ Mon G1 ws1 G' ws' ∧ PostS P H0 Wi D G' ws' (forLq t gs w1 (ds.drop i) ρ' w1), ⟨ds.length, by simp, Nat.zero_le _, G1, ws1, ρ, st1, .refl, h⟩, ?_⟩
      rintro i m σ' H' ⟨rfl, hi, G', ws', ρ', st', mo, hp⟩
      by_cases hlt : i < ds.length
      · have ed : ds[i]? = some ds[i] := by simp [hlt]
        rw [List.drop_eq_getElem_cons hlt] at hp
        simp only [forLq] at hp
        refine .inr ⟨ok.go G' H' ws' i _ (stands st' mo) ed, fun σ3 H3 => ds.length - (i + 1) = ds.length - (i + 1) ∧ i + 1 ≤ ds.length ∧ ∃ G' ws' ρ', St P.K P.C H0 σ3 H3 G' ws' ρ' w1 ∧ Mon G1 ws1 G' ws' ∧ PostS P H0 Wi D G' ws' (forLq t gs w1 (ds.drop (i + 1)) ρ' w1), fun σ3 H3 hn => ⟨ds.length - (i + 1), by omega, hn⟩, fun v H2 y => ?_⟩
        obtain ⟨G2, n2, rp⟩ := ok.yl G' H' ws' w1 i _ v H2 (stands st' mo) st'.sub st'.rw ed y
        cases es : setT t ds[i] ρ' with
        | none => rw [es] at hp; exact hp.elim
        | some ρ3 =>
          rw [es] at hp
          dsimp only at hp
          refine ev_tg (st'.next n2) rp es fun σ3 st3 => ?_
          refine hb σ3 H2 G2 ws' ρ3 w1 _ st3 ?_
          have mo2 : Mon G1 ws1 G2 ws' := mo.trans n2.mon
          have go : ∀ ρ4 w4, PostS P H0 Wi D G' ws' (open Classical in if w4 = w1 then forLq t gs w1 (ds.drop (i + 1)) ρ4 w4 else .bad) → ∀ σ4 H4 G4 ws4, St P.K P.C H0 σ4 H4 G4 ws4 ρ4 w4 → Mon G2 ws' G4 ws4 → ds.length - (i + 1) = ds.length - (i + 1) ∧ i + 1 ≤ ds.length ∧ ∃ G' ws' ρ', St P.K P.C H0 σ4 H4 G' ws' ρ' w1 ∧ Mon G1 ws1 G' ws' ∧ PostS P H0 Wi D G' ws' (forLq t gs w1 (ds.drop (i + 1)) ρ' w1) := by
            intro ρ4 w4 hq σ4 H4 G4 ws4 st4 m4
            by_cases hw : w4 = w1
            · subst hw
              rw [if_pos rfl] at hq
              exact ⟨rfl, hlt, G4, ws4, ρ4, st4, mo2.trans m4, PostS.after (n2.mon.trans m4) hq⟩
            · rw [if_neg hw] at hq; exact hq.elim
          cases eb : gs ρ3 w1 with
          | bad => rw [eb] at hp; exact hp
          | ex x ρ4 w4 => rw [eb] at hp; exact hp
          | ret x w4 => rw [eb] at hp; exact hp
          | brk ρ4 w4 => rw [eb] at hp; exact fun σ4 H4 G4 ws4 st4 m4 => hp σ4 H4 G4 ws4 st4 (n2.mon.trans m4)
          | next ρ4 w4 => rw [eb] at hp; exact go ρ4 w4 hp
          | cont ρ4 w4 => rw [eb] at hp; exact go ρ4 w4 hp
      · have ei : i = ds.length := by omega
        subst ei
        refine .inl ⟨ok.st G' H' ws' (stands st' mo), ?_⟩
        rw [List.drop_length] at hp
        exact hp σ' H' G' ws' st' .refl
    · exact h.elim
  | _ => exact h.elim
/-! ### xs[::-1] -/
/-! ### a, b, .. = x, y, .. by a tuple -/
theorem gNames_all {is : List Nat} : ∀ {vs : List V} {σ : L2.St} {H : Hp} {Q : L2.St → Hp → Prop}, is.length = vs.length → Q (setVs is vs σ) H → gNames is vs σ H Q := by
  induction is with
  | nil =>
    intro vs σ H Q hl hq
    cases vs with
    | nil => exact ⟨rfl, hq⟩
    | cons _ _ => simp at hl
  | cons i is ih =>
    intro vs σ H Q hl hq
    cases vs with
    | nil => simp at hl
    | cons v vs => exact ⟨v, vs, rfl, ih (by simpa using hl) hq⟩
theorem ev_parT {is : List Nat} {fl : List Bool} (hz : is.length ≤ sizeLine) (ha : EvA P H0 Wi tr fr) : EvS P H0 Wi (tAsg (tTup tr) (gTup P.K is.length (gNames is))) (sParF is fl fr) := by
  intro σ H G ws ρ w D st h
  unfold sParF at h
  refine ha σ H G ws ρ w _ st (postA_of st h fun xs w' _ h vs H1 G1 ws1 n r k => ?_)
  split at h
  · rename_i hc
    have hl := r.length
    obtain ⟨G2, s2, n2, r2, k2, a2, l2, _⟩ := freezeSome (fl := fl) n r k hc.2.2 hc.2.1
    have st2 := st.setAllX is n2 r2 k2 a2
    refine ⟨by rw [hl, ← hc.1]; exact hz, fun p hp => ⟨p, vs, rfl, SqT.of upd_same, by rw [hl, hc.1], ?_⟩⟩
    refine gNames_all (by rw [hl, hc.1]) ?_
    have n3 := Nx.new (o := .tup vs) st2.sub st2.rw hp
    exact h _ _ _ _ (st2.next n3) (n2.mon.trans n3.mon)
  · exact h.elim
end
section
variable {X : Cx} {κ : Kx} {k : Nat} {o a b : Expr} {fo fa : DE} {gs : DS} {es xs : List Expr} {fr : DA} {pos p p2 p3 pt pt2 : Pos} {kt k2 : Nat} {tg : Expr} {body : List Stmt}
theorem s_forF {f : Str} (t : Tg) (h : Hcl X.prog X.w X.K X.mg X.base κ.C) (c : Fc X κ k) (ho : XE X κ o fo) (hg : PG X tg (gT X.K t)) (hb : XB X κ body gs) (hf : f ∈ (["ranks", "seats", "known", "weeks", "plans", "cuts", "many", "done"] : List Str) := by decide) (hba : attributeBase o f X.env (eval o X.env) = eval o X.env := by rfl)
    (hs : ∀ x, foldedSetIterable (.Attribute o f p) X.env x = pure x := by intro _; rfl) : XS X κ (.For tg (.Attribute o f p) body [] pos) (sForF f fo t gs) := by
  obtain ⟨t1, p1, e1⟩ := ho
  obtain ⟨tb, pb, eb⟩ := hb
  exact ⟨_, ps_for c.pass c.calm (pi_list (pe_fld p1 hba)) hg pb hs, ev_forF h.cl (h.na f hf) e1 eb⟩
theorem s_parT (is : List Nat) (fl : List Bool) (c : Fe X κ k) (ha : XA X κ es fr) (hg : PGs X xs (gNames is)) (hz : is.length ≤ sizeLine := by decide) (hn : (assignEach xs X.env).length = is.length := by rfl) (hst : (assignEach xs X.env).findIdx? (·.1) = none := by rfl)
    (hs : swapsWithSole [.Tuple xs kt pt] (.Tuple es k2 pt2) pos.line X.env = pure false := by rfl) (hw : swappedStores [.Tuple xs kt pt] (.Tuple es k2 pt2) X.env = pure none := by rfl) : XS X κ (.Assign [.Tuple xs kt pt] (.Tuple es k2 pt2) pos) (sParF is fl fr) := by
  obtain ⟨t, pa, ea⟩ := ha
  exact ⟨_, ps_asg (pe_tup pa) (pg_tup c.calm hg hn hst) hs hw, ev_parT hz ea⟩
end
end DL
namespace DL
open PySem L2
/-! ### f(): no arguments -/
/-! ### a, b, .. = a list -/
def sSetU (is : List Nat) (f : DE) : DS := fun ρ w => (f ρ w).thn ρ fun x w => match x.d with
  | .lst ds => if is.length = ds.length then .next (setAll is ds ρ) w else .bad
  | _ => .bad
section
variable {P : Pm} {H0 : En} {Wi : WX} {ta : TE} {fa : DE}
theorem ev_setU {is : List Nat} (ha : EvE P H0 Wi ta fa) : EvS P H0 Wi (tAsg ta (gUnl P.K is.length (gNames is))) (sSetU is fa) := by
  intro σ H G ws ρ w D st h
  unfold sSetU at h
  refine ha σ H G ws ρ w _ st (postE_of st h fun x w' _ h v H1 G1 ws1 n r k => ?_)
  obtain ⟨m, d⟩ := x
  cases d <;> try exact h.elim
  rename_i ds
  obtain ⟨a, vs, rfl, q1, r1⟩ := rv_lst n.sub r
  dsimp only at h
  split at h
  · rename_i hl
    exact ⟨a, vs, rfl, .inl (.inl q1), by rw [r1.length, hl], St.setAll (st.next n) r1 hl _ fun σ' s' => h σ' H1 G1 ws1 s' n.mon⟩
  · exact h.elim
end
section
variable {X : Cx} {κ : Kx} {k : Nat} {p pos : Pos} {a : Expr} {fa : DE}
theorem s_setU {xs : List Expr} {kk : Nat} (is : List Nat) (c : Fe X κ k) (ha : XE X κ a fa) (hg : PGs X xs (gNames is)) (hn : (assignEach xs X.env).length = is.length := by rfl) (hst : (assignEach xs X.env).findIdx? (·.1) = none := by rfl)
    (hs : swapsWithSole [.Tuple xs kk p] a pos.line X.env = pure false := by rfl) (hw : swappedStores [.Tuple xs kk p] a X.env = pure none := by rfl) (h1 : (assignEach [.Tuple xs kk p] X.env).map (·.2) = [assign (.Tuple xs kk p) X.env] := by rfl) : XS X κ (.Assign [.Tuple xs kk p] a pos) (sSetU is fa) := by
  obtain ⟨t, pa, ea⟩ := ha
  exact ⟨_, ps_asg pa (pg_unl c.calm hg hn hst) hs hw h1, ev_setU ea⟩
end
/-! ### len(d), sorted(d): a dict by texts -/
def gLenD : List Val → W → R Val := fun xs w => match xs with
  | [x] => (match x.d with | .dK kvs => .ok (fz (.int kvs.length)) w | _ => .bad)
  | _ => .bad
theorem gLenD_nx (x : List Val) (w : W) (e : Xc) (w' : W) : gLenD x w ≠ .ex e w' := by
  unfold gLenD
  split <;> (try split) <;> exact fun h => nomatch h
def rLenDk : List V → Hp → VK → Prop := fun xs H Q => ∃ a kvs, xs = [V.ref a] ∧ Rd H a (.dK kvs) ∧ Q (.int kvs.length) H
theorem call_lenDk {X : Cx} : CallR X (.builtin "len") rLenDk := by
  intro pins s σ H xs us Q I r h
  obtain ⟨a, kvs, rfl, ha, q⟩ := h
  obtain ⟨u, rfl, ru⟩ := vals1 r
  cases ru
  exact d_len I ha fun t s' I' => ⟨.int kvs.length, H, I', ⟨t, rfl⟩, q⟩
section
variable {P : Pm}
theorem rc_lenD : RCall P rLenDk gLenD := by
  intro H G ws w vs xs Q s r hx h
  match xs, hx, h with
  | [⟨m, d⟩], hx, h =>
    obtain ⟨v, rfl, hv⟩ := rvs1 hx
    cases d <;> try exact h.elim
    rename_i kvs
    obtain ⟨a, ks, rfl, hl, k1, _⟩ := rv_dK s hv
    have e := congrArg List.length k1
    rw [List.length_map, List.length_map] at e
    exact ⟨a, ks, rfl, hl.rd, fz_q s r h (by rw [e]; exact .int _)⟩
end
section
variable {X : Cx} {κ : Kx} {k : Nat} {p pos : Pos} {a : Expr} {fr : DA}
theorem e_lenD (hm : X.mg "len" = none) (ha : XA X κ [a] fr) (hg : Gl X "len" := by rfl) (he : starEach [a] X.env = (false, eval a X.env) :: starEach [] X.env := by rfl) : XE X κ (.Call (.Name "len" p) [a] [] pos) (dCB gLenD fr) := e_cb call_lenDk rc_lenD gLenD_nx hm PySem.boot_len ha hg (by decide) (by decide) he
end
end DL
namespace DL
open PySem PySem.Spec PyProof.Rows L2
/-! ### list(d.values()) -/
end DL
/-! An own error class called with keywords; its __init__ calls the base's own. -/
namespace DL
section
open PySem PySem.Spec PySem.Calls PySem.HandSPX PyProof.Rows
variable {prog : Program} {w : World} {A : Around} {E : Value → Shared → Prop} {R : Result → Shared → Prop} {h : Heap} {g : Array GenState} {d : Drawn} {t : Nat} {os : OsState} {M : Model}
variable {nm q : Str} {C N : Addr} {bs bm bmB : List Value} {hdct : Bool} {sn : List Str} {sub : List Value} {ab : Bool} {col : Option Bool} {dd : Option Addr} {k0 k1 k2 k3 k5 : Option Value} {B newId initId : String}
theorem kw_check (FB : ExcBaseFacts B newId initId bmB) (hT : ∀ X : String, bm.contains (.type X) = bmB.contains (.type X)) {us : List Value} {kw : List (Str × Value)} {Q : Unit → Shared → Prop}
    (oC : h.get? C = some (excClassObj nm q C N bs bm hdct sn sub ab col dd k0 k1 k2 k3 k5 newId)) (hq : Q () ⟨h, g, d, t, os⟩) : wpAny M A (checkBuiltinCall newId ⟨.ref C :: us, kw⟩) Q E ⟨h, g, d, t, os⟩ := by
  have c1 : (Value.ref C :: bm).contains (.type B) = true := by rw [List.contains_cons, hT, FB.hasB, Bool.or_true]
  have c2 := FB.noStar
  simp only [checkBuiltinCall, FB.newKind, FB.newSplit, FB.newRow]
  repeat (first | refine wpAny_loadPart_at oC ?_ | (refine wpAny_isSubtype_exc oC ?_; rw [c1]) | refine wpAny_staticBase_exc oC ?_ | refine wpAny_madeBy_exc oC ?_ | simp only [bne_self_eq_false, Bool.false_eq_true, if_false] | wp_step)
  exact hq
theorem kw_new (FB : ExcBaseFacts B newId initId bmB) (hT : ∀ X : String, bm.contains (.type X) = bmB.contains (.type X)) {us : List Value} {kw : List (Str × Value)}
    (oC : h.get? C = some (excClassObj nm q C N bs bm hdct sn sub ab col dd k0 k1 k2 k3 k5 newId))
    (hq : R (.ok (.ret (.ref (h.objs.size + 1)))) ⟨(h.push (W.kdv_tup us)).push (excO C h.objs.size), g, d, t, os⟩) (hl : us.length ≤ sizeLine) :
    codeAny (model prog w) A (.builtin newId ⟨.ref C :: us, kw⟩) R ⟨h, g, d, t, os⟩ := by
  have c0 := FB.ends
  have c1 : (Value.ref C :: bm).contains (.type B) = true := by rw [List.contains_cons, hT, FB.hasB, Bool.or_true]
  have c2 : (Value.ref C :: bm).contains (.type "AttributeError") = false := by rw [List.contains_cons, hT, FB.noAttr]; rfl
  have c3 : (Value.ref C :: bm).contains (.type "NameError") = false := by rw [List.contains_cons, hT, FB.noName]; rfl
  refine codeAny_builtinAt FB.entry ?_
  unfold Builtin.«BaseException.__new__»
  refine PyProof.Rows.wpAt_bind ?_
  show PyProof.Rows.wpAt _ _ _ (stack >>= _) _ _ _
  refine PyProof.Rows.wpAt_bind (PyProof.Rows.wpAt_stack fun pp bb => wpAt_of_wpAny ?_)
  wp_walk
  refine wpAt_of_wpAny ?_
  rw [FB.owner]
  repeat (first | with_reducible refine wpAny_madeHere_exc FB.canon oC ?_ | with_reducible refine wpAny_loadPart_at oC ?_ | (with_reducible refine wpAny_isSubtype_exc oC ?_; first | rw [c1] | rw [c2] | rw [c3]) | wp_step)
  show R _ _
  rw [Heap.size_push]
  exact hq
theorem kw_tcall (FB : ExcBaseFacts B newId initId bmB) (hT : ∀ X : String, bm.contains (.type X) = bmB.contains (.type X)) {us : List Value} {kw : List (Str × Value)} {fI : Addr} {Q : Fin → Shared → Prop}
    (oC : h.get? C = some (excClassObj nm q C N bs bm hdct sn sub ab col dd k0 k1 k2 k3 k5 newId))
    (hi : W.Looks (model prog w) h (typeLookup (.ref C) "__init__") (some (.ref fI))) (hb : ∀ self, W.Looks (model prog w) h (bindSpecial (.ref fI) self) (.ref fI, [self])) (hl : us.length ≤ sizeLine)
    (hq : codeAny (model prog w) A (.call (.ref fI) ⟨.ref (h.objs.size + 1) :: us, kw⟩)
      (fun r s' => match r with | .ok (.ret v) => v = .none ∧ Q (.done (.ret (.ref (h.objs.size + 1)))) s' | .ok _ => False | .error e => E e s')
      ⟨(h.push (W.kdv_tup us)).push (excO C h.objs.size), g, d, t, os⟩) :
    wpAny (model prog w) A (Builtin.«type.__call__» ⟨.ref C :: us, kw⟩) Q E ⟨h, g, d, t, os⟩ := by
  repeat (first | with_reducible refine wpAny_loadPart_at oC ?_ | with_reducible refine wpAny_madeBy_exc oC ?_ | wp_step)
  refine codeAny_call_builtin_code (Code.quiet_builtin _ FB.quiet) (kw_check FB hT oC ?_)
  refine kw_new FB hT oC ?_ hl
  show wpAny _ _ _ _ _ _
  have k : ∀ b o, h.get? b = some o → ((h.push (W.kdv_tup us)).push (excO C h.objs.size)).get? b = some o := fun b o e => Heap.get?_push_of_some _ (Heap.get?_push_of_some _ e)
  have oC2 := k _ _ oC
  have ge : ((h.push (W.kdv_tup us)).push (excO C h.objs.size)).get? (h.objs.size + 1) = some (excO C h.objs.size) := by heap_get
  have cC : (Value.ref C :: bm).contains (.ref C) = true := by simp
  have i1 := hi.keeps k
  have b1 := (hb (.ref (h.objs.size + 1))).keeps k
  unfold isInstance
  repeat (first | with_reducible refine wpAny_loadPart_at ge ?_ | (with_reducible refine wpAny_isSubtype_exc oC2 ?_; rw [cC]) | wp_step)
  show wpAny _ _ (typeLookup (.ref C) _) _ _ _
  refine i1.at ?_
  refine wpAny_holding (wpAny_bind (b1.at ?_))
  refine wpAny_bind (wpAny_call (codeAny_mono hq fun r s' z => ?_))
  rcases r with e | (v | _ | _ | _) <;> first | exact z | exact z.elim | skip
  obtain ⟨rfl, z⟩ := z
  first
    | exact wpAny_pure (wpAny_pure z)
    | (wp_walk; exact z)
theorem kw_call (FB : ExcBaseFacts B newId initId bmB) (hT : ∀ X : String, bm.contains (.type X) = bmB.contains (.type X)) {us : List Value} {kw : List (Str × Value)} {fI : Addr}
    (oC : h.get? C = some (excClassObj nm q C N bs bm hdct sn sub ab col dd k0 k1 k2 k3 k5 newId))
    (hi : W.Looks (model prog w) h (typeLookup (.ref C) "__init__") (some (.ref fI))) (hb : ∀ self, W.Looks (model prog w) h (bindSpecial (.ref fI) self) (.ref fI, [self])) (hl : us.length ≤ sizeLine)
    (hq : codeAny (model prog w) (A.under (.builtin "type.__call__" ⟨.ref C :: us, kw⟩)) (.call (.ref fI) ⟨.ref (h.objs.size + 1) :: us, kw⟩) (W.InitBack (h.objs.size + 1) R)
      ⟨(h.push (W.kdv_tup us)).push (excO C h.objs.size), g, d, t, os⟩) :
    codeAny (model prog w) A (.call (.ref C) ⟨us, kw⟩) R ⟨h, g, d, t, os⟩ := by
  have f1 := tc_lookup
  have f2 := tc_bind (.ref C)
  have tC : (⟨h, g, d, t, os⟩ : Shared).TypeIs (.ref C) "type" := ⟨_, oC, rfl⟩
  refine codeAny_of_tree ?_
  show wpAny _ _ (callAny (.ref C) _) _ _ _
  repeat (any_goals (first | assumption | with_reducible refine wpAny_loadPart_at oC ?_ | wp_step))
  refine ⟨rfl, ?_⟩
  refine codeAny_call_builtin_at (Code.quiet_builtin _ (by decide +kernel)) entry_typeCall (wpAny_check_type_call_sub oC (kw_tcall FB hT oC hi hb hl ?_))
  refine codeAny_mono hq fun r s' z => ?_
  rcases r with e | (v | _ | _ | _) <;> exact z
end
open PySem PySem.Spec PyProof.Rows L2
/-! ### AirError.__init__(self, ..): the __init__ of a class of our own that is ValueError's -/
section
variable {X : Cx} {e : Expr} {es : List Expr} {ta : TA} {p1 p2 pos : Pos} {A : Addr} {x : Str} {mc : Value}
theorem pe_ownInit {pl : Sem Bool} (hg : Gl X x) (hm : X.mg x = some (.ref A)) (hga : PySem.W.specialIn X.K (.ref A) "__getattribute__" = some (some (.builtin "type.__getattribute__"))) (hr : PySem.W.readsIn X.K A mc = true)
    (vA : PySem.W.findCls X.K (.ref A) mc "__init__" = some (.val (.builtin "ValueError.__init__"))) (ha : PA X (e :: es) ta) (hdb : (x == ("__debug__" : Str)) = false := by decide)
    (hc : eval (.Call (.Attribute (.Name x p1) "__init__" p2) (e :: es) [] pos) X.env = (do
      let ov ← eval (.Name x p1) X.env
      standAt p2.atName
      let (f, first) ← holding [ov] (getMethod ov "__init__" pl)
      callWith pos f first (backTo pos (starEach (e :: es) X.env)) (backToKw pos (keywordEach [] X.env))) := by rfl)
    (he : starEach (e :: es) X.env = (false, eval e X.env) :: starEach es X.env := by rfl) (hpl : (backTo pos (starEach es X.env)).any (·.1) = false := by rfl) :
    PE X (.Call (.Attribute (.Name x p1) "__init__" p2) (e :: es) [] pos) (tVeI X.K ta) := by
  refine ⟨fun pins s σ H Q I h => ?_⟩
  refine PySem.W.methodCall_KW (ld_glob I hg hm ?_ hdb) hc
  refine PySem.W.method_cls I.kIn hga (PySem.W.cls_read I.kIn hr vA ?_)
  refine wpAny_pure ?_
  refine PySem.W.handed_on (by decide +kernel) ?_
  refine PyProof.Rows.callWith_method1 (thn (ha.run pos pins _ σ H _ (I.tok _) h) fun us s1 ⟨vs, H1, I1, r1, a, C, ws, ev, hl, T, ea, q⟩ => ?_) he hpl
  subst ev
  cases r1 with
  | @cons _ u0 _ ur ra rw' =>
    obtain rfl : u0 = Value.ref a := ra
    have hlen : ur.length ≤ sizeLine := by
      rw [← Paired.length rw', sizeLine_eq]
      omega
    exact oinit_ok T I1 ea hlen fun s' J => ⟨.non, H1, J, rfl, q⟩
end
theorem mkp_n {X : Cx} {pins : List (Addr × Obj)} {σ : L2.St} {Q : XK} {s' : Shared} {a C : Addr} {d : Option Addr} (m : L2.MkP X pins σ Q (.ref a) s') (o : ∃ t1 : Addr, s'.heap.get? a = some ({ cls := .ref C, dict := d, data := .fields #[.ref t1, .none, .none, .none, .bool false, .none] } : Obj)) : L2N.MkP X pins σ Q (.ref a) s' := by
  obtain ⟨a', oe, vs, sI, H', cls, d', e, J, k, hne, ha, hz, hd, h1, na, os, ag, r, q⟩ := m
  cases e
  obtain ⟨t1, ho⟩ := o
  refine ⟨a, oe, vs, sI, H', cls, d', rfl, J, k, hne, ha, ⟨hz.1, hz.2, fun vs' e' => ?_⟩, hd, h1, na, os, ag, r, q⟩
  rw [ha] at ho
  cases ho
  cases e'
  rfl
/-! ### X(a, .., k=b, ..): an error with fields -/
def tMkK (C : Addr) (sp : Sp) (n j : Nat) (ta tk : TA) : L2.St → Hp → XK → Prop := fun σ H Q => ta σ H fun vs H1 => tk σ H1 fun zs H2 => vs.length = n ∧ zs.length = j ∧ vs.length ≤ 1000 ∧ ∀ a, H2 a = none → sp (.ref a :: (vs ++ zs)) (upd H2 a (exo a C none))
  (fun v H3 => v = .non ∧ ∃ (d : Addr) (fs : List (Str × V)), H3 a = some (exo a C (some d)) ∧ H3 d = some (exd d fs) ∧ H2 d = none ∧ Q (.ref C) (some d) (upd (L2.del H3 a) d (.xd fs))) (fun _ _ _ => False)
section
variable {X : Cx} {e : Expr} {es : List Expr} {kws : List Keyword} {ta tk : TA} {p pos : Pos}
theorem run_mk {CX : CXT} {C fI : Addr} {k n : Nat} {ks : List Str} {fd : FuncData} {ps : List Str} {sp : Sp} {pins : List (Addr × Obj)} {σ : L2.St} {H : Hp} {s : Shared} {Q : XK} {us zs : List Value} {vs ys : List V} (T : OexC X.K C) (iC : PySem.W.findIn X.K (.ref C) "__init__" = some (some (.ref fI))) (tI : PySem.W.typeIn X.K (.ref fI) = some (.type "function"))
    (F1 : FnOk X.prog X.w X.K X.mg X.base CX k fI fd ps sp) (hr : Room (k + 1) X.A) (hb : ∀ (s : Shared) (us zs : List Value), us.length = n + 1 → zs.length = ks.length → BindsTo s fd ⟨us, ks.zip zs⟩ (ps.zip (us ++ zs))) (hx : Passes CX X (fun _ _ _ => False)) (I1 : Inv X pins σ H s) (r1 : Vals vs us) (rz : Vals ys zs) (l1 : vs.length = n) (l2 : ys.length = ks.length) (l3 : vs.length ≤ 1000)
    (h : ∀ a, H a = none → sp (.ref a :: (vs ++ ys)) (upd H a (exo a C none)) (fun v H3 => v = .non ∧ ∃ (d : Addr) (fs : List (Str × V)), H3 a = some (exo a C (some d)) ∧ H3 d = some (exd d fs) ∧ H d = none ∧ Q (.ref C) (some d) (upd (L2.del H3 a) d (.xd fs))) (fun _ _ _ => False)) :
    wpAny (model X.prog X.w) X.A (call (.ref C) us (ks.zip zs)) (L2N.MkP X pins σ Q) X.xe s := by
  obtain ⟨nm, q, N, bs, bm, sn, sub, ab, col, dd, k0, k1, k2, k3, k5, oC, hbm⟩ := T.cls
  obtain ⟨hp, g, dr, tt, os⟩ := s
  have sz : hp.objs.size ≤ hp.objs.size + 1 := Nat.le_succ _
  have hn : H (hp.objs.size + 1) = none := I1.hok.fresh sz
  have hq := h (hp.objs.size + 1) hn
  have kk : ∀ b o, hp.get? b = some o → ((hp.push (PySem.W.kdv_tup us)).push (PySem.HandSPX.excO C hp.objs.size)).get? b = some o := fun b o z => Heap.get?_push_of_some _ (Heap.get?_push_of_some _ z)
  have ge : ((hp.push (PySem.W.kdv_tup us)).push (PySem.HandSPX.excO C hp.objs.size)).get? (hp.objs.size + 1) = some (PySem.HandSPX.excO C hp.objs.size) := by heap_get
  have I2 : Inv X pins σ (upd H (hp.objs.size + 1) (exo (hp.objs.size + 1) C none)) ⟨(hp.push (PySem.W.kdv_tup us)).push (PySem.HandSPX.excO C hp.objs.size), g, dr, tt, os⟩ :=
    I1.laid (t' := tt) (a := hp.objs.size + 1) (o := exo (hp.objs.size + 1) C none) (h' := (hp.push (PySem.W.kdv_tup us)).push (PySem.HandSPX.excO C hp.objs.size)) kk sz (exo_ok ge)
  have r2 : Vals (V.ref (hp.objs.size + 1) :: (vs ++ ys)) (Value.ref (hp.objs.size + 1) :: us ++ zs) := .cons rfl (r1.append rz)
  have lu : us.length ≤ sizeLine := by
    rw [← Paired.length r1, sizeLine_eq]
    omega
  have b := hb ⟨(hp.push (PySem.W.kdv_tup us)).push (PySem.HandSPX.excO C hp.objs.size), g, dr, tt, os⟩ (Value.ref (hp.objs.size + 1) :: us) zs (by rw [List.length_cons, ← r1.length, l1]) (by rw [← rz.length, l2])
  refine wpAny_call (kw_call F.excBase_ValueError (fun Y => PySem.HandSPX.refsVE_contains Y bm hbm) (I1.kIn _ _ oC) (PySem.W.looks_findIn I1.kIn iC) (fun self => PySem.W.bind_fn I1.kIn self tI) lu (codeAny_mono (F1.run _ X.stack _ _ ⟨Value.ref (hp.objs.size + 1) :: us, ks.zip zs⟩ _ _ _ (fun _ _ _ => False) (hr.make C us (ks.zip zs)) (I2.env0.make C us (ks.zip zs)) b r2 hq) fun r s' hq' => ?_))
  cases r with
  | error er => exact hx pins σ _ _ er s' I2 hq'
  | ok fl =>
    cases fl with
    | ret u =>
      obtain ⟨v, H2, os2, bare2, un2, hok2, rv, ev, d, fs, ea, ed, hd1, q2⟩ := hq'
      subst ev
      obtain ⟨h2, g2, d2, t2, os'⟩ := s'
      exact ⟨rv, mkp_n (mk_end (raises_own T.exC T.tyC) I1 sz kk un2 hok2 os2 bare2 ea ed hd1 q2) (exo_at hok2 ea)⟩
    | next => exact False.elim hq'
    | brk => exact False.elim hq'
    | cont => exact False.elim hq'
theorem pmk_kw {CX : CXT} {x : Str} {C fI : Addr} {k n : Nat} {ks : List Str} {fd : FuncData} {ps : List Str} {sp : Sp} (T : OexC X.K C) (iC : PySem.W.findIn X.K (.ref C) "__init__" = some (some (.ref fI))) (tI : PySem.W.typeIn X.K (.ref fI) = some (.type "function"))
    (F1 : FnOk X.prog X.w X.K X.mg X.base CX k fI fd ps sp) (hr : Room (k + 1) X.A) (hb : ∀ (s : Shared) (us zs : List Value), us.length = n + 1 → zs.length = ks.length → BindsTo s fd ⟨us, ks.zip zs⟩ (ps.zip (us ++ zs))) (hx : Passes CX X (fun _ _ _ => False)) (hg : Gl X x) (hm : X.mg x = some (.ref C)) (ha : PA X (e :: es) ta) (hk : PK X kws tk)
    (hall : (backToKw pos (keywordEach kws X.env)).all (·.1.isSome) = true) (hks : (backToKw pos (keywordEach kws X.env)).filterMap (·.1) = ks) (hdb : (x == ("__debug__" : Str)) = false)
    (hst : starEach (e :: es) X.env = (false, eval e X.env) :: starEach es X.env) (hpl : ((backTo pos (starEach (e :: es) X.env)).any (·.1) || (backToKw pos (keywordEach kws X.env)).any (·.1.isNone)) = false) :
    L2N.PMk X (.Call (.Name x p) (e :: es) kws pos) (tMkK C sp n ks.length ta tk) := by
  intro pins s σ H Q I h
  refine wpAny_Call_Name_kw (ld_glob I hg hm ?_ hdb)
  refine PySem.W.callWith_KW (first := []) (h₀ := X.base) I.ok.mod.kin T.kC hall (thn (ha.run pos pins s σ H _ I h) ?_) hpl hst
  rintro us s2 ⟨vs, H2, I2, r, q2⟩
  refine thn (hk.run pos pins s2 σ H2 _ I2 q2) ?_
  rintro zs s3 ⟨ys, H3, I3, rz, l1, l2, l3, q3⟩
  refine ⟨I3.kIn, ?_⟩
  rw [hks]
  exact run_mk T iC tI F1 hr hb hx I3 r rz l1 l2 l3 q3
theorem pmk_kw0 {CX : CXT} {x : Str} {C fI : Addr} {k : Nat} {ks : List Str} {fd : FuncData} {ps : List Str} {sp : Sp} (T : OexC X.K C) (iC : PySem.W.findIn X.K (.ref C) "__init__" = some (some (.ref fI))) (tI : PySem.W.typeIn X.K (.ref fI) = some (.type "function"))
    (F1 : FnOk X.prog X.w X.K X.mg X.base CX k fI fd ps sp) (hr : Room (k + 1) X.A) (hb : ∀ (s : Shared) (us zs : List Value), us.length = 0 + 1 → zs.length = ks.length → BindsTo s fd ⟨us, ks.zip zs⟩ (ps.zip (us ++ zs))) (hx : Passes CX X (fun _ _ _ => False)) (hg : Gl X x) (hm : X.mg x = some (.ref C)) (hk : PK X kws tk)
    (hall : (backToKw pos (keywordEach kws X.env)).all (·.1.isSome) = true) (hks : (backToKw pos (keywordEach kws X.env)).filterMap (·.1) = ks) (hdb : (x == ("__debug__" : Str)) = false)
    (hpl : ((backTo pos (starEach [] X.env)).any (·.1) || (backToKw pos (keywordEach kws X.env)).any (·.1.isNone)) = false) :
    L2N.PMk X (.Call (.Name x p) [] kws pos) (tMkK C sp 0 ks.length tNil tk) := by
  intro pins s σ H Q I h
  refine wpAny_Call_Name_kw (ld_glob I hg hm ?_ hdb)
  refine PySem.W.callWith_KW0 (first := []) (h₀ := X.base) I.ok.mod.kin T.kC hall (thn (hk.run pos pins s σ H _ I h) ?_) hpl
  rintro zs s3 ⟨ys, H3, I3, rz, l1, l2, l3, q3⟩
  refine ⟨I3.kIn, ?_⟩
  rw [hks]
  exact run_mk (us := []) (vs := []) T iC tI F1 hr hb hx I3 .nil rz l1 l2 l3 q3
end
/-! ### what such an __init__ promises: fs its fields, in order -/
def spO (C : Addr) (fs : List Str) : Sp := fun vs H Q _ => ∃ (a : Addr) (ys : List V), vs = .ref a :: ys ∧ ys.length = fs.length ∧ H a = some (exo a C none) ∧ ∀ (H' : Hp) (dx : Addr), H dx = none → dx ≠ a → H' a = some (exo a C (some dx)) → H' dx = some (exd dx (fs.zip ys).reverse) → (∀ b, b ≠ a → b ≠ dx → H' b = H b) → Q .non H'
theorem oread1 {K : PySem.W.Frag} {C : Addr} {N : List Str} {f n1 : Str} {H : Hp} {vs : List V} {Q : VK} {E : XK} {m : Str} (hN : N = (["self", n1] : List Str)) (T : OexC K C) (n : PySem.W.findIn K (.ref C) f = some none) (h : spO C [f] vs H Q E) :
    tSeq (tDrop (tVeI K (tCons (tVar 0) (tCons (tC (.str m)) tNil)))) (tOst K f (tVar 0) (tVar 1)) { nx := fun _ H' => Q .non H', rt := Q } (L2.start N vs) H := by
  subst hN
  obtain ⟨a, ys, rfl, hl, ha, hq⟩ := h
  match ys, hl with
  | [y], _ =>
    refine ⟨_, rfl, a, C, [.str m], rfl, by simp, T, ha, ?_⟩
    refine ⟨_, rfl, _, rfl, a, C, rfl, T, n, .inl ⟨ha, fun dx hd ne => ?_⟩⟩
    refine hq _ dx hd ne (upd_same) (by rw [upd_ne ne, upd_same]; rfl) fun b h1 h2 => by rw [upd_ne h1, upd_ne h2]
theorem oread2 {K : PySem.W.Frag} {C : Addr} {N : List Str} {f f2 n1 n2 : Str} {H : Hp} {vs : List V} {Q : VK} {E : XK} {m : Str} (hN : N = (["self", n1, n2] : List Str)) (T : OexC K C) (n : PySem.W.findIn K (.ref C) f = some none) (n' : PySem.W.findIn K (.ref C) f2 = some none) (h : spO C [f, f2] vs H Q E) :
    tSeq (tDrop (tVeI K (tCons (tVar 0) (tCons (tC (.str m)) tNil)))) (tSeq (tOst K f (tVar 0) (tVar 1)) (tOst K f2 (tVar 0) (tVar 2))) { nx := fun _ H' => Q .non H', rt := Q } (L2.start N vs) H := by
  subst hN
  obtain ⟨a, ys, rfl, hl, ha, hq⟩ := h
  match ys, hl with
  | [y, z], _ =>
    refine ⟨_, rfl, a, C, [.str m], rfl, by simp, T, ha, ?_⟩
    refine ⟨_, rfl, _, rfl, a, C, rfl, T, n, .inl ⟨ha, fun dx hd ne => ?_⟩⟩
    refine ⟨_, rfl, _, rfl, a, C, rfl, T, n', .inr ⟨dx, [(f, y)], upd_same, by rw [upd_ne ne, upd_same], by simp, ?_⟩⟩
    refine hq _ dx hd ne (by rw [upd_ne (Ne.symm ne), upd_same]) (by rw [upd_same]; rfl) fun b h1 h2 => by rw [upd_ne h2, upd_ne h1, upd_ne h2]
/-- an error class with fields, as it stands behind the top -/
structure Ocl (P : Program) (w : World) (K : PySem.W.Frag) (mg : Str → Option Value) (base : Heap) (cm : Cm) (x : String) (fs : List Str) (sh : List (Nat × List Str)) : Prop where
  ex : ∃ C fI fd ps, mg x = some (.ref C) ∧ cm x = some C ∧ OexC K C ∧ PySem.W.findIn K (.ref C) "__init__" = some (some (.ref fI)) ∧ PySem.W.typeIn K (.ref fI) = some (.type "function") ∧ FnOk P w K mg base (L2.CX P w) 1 fI fd ps (spO C fs) ∧ (∀ q ∈ sh, q.1 + q.2.length = fs.length ∧ ∀ (s : Shared) (us zs : List Value), us.length = q.1 + 1 → zs.length = q.2.length → BindsTo s fd ⟨us, q.2.zip zs⟩ (ps.zip (us ++ zs)))
def sRaiseF (c : String) (fs : List Str) (n j : Nat) (fr fk : DA) : DS := fun ρ w => (fr ρ w).thn ρ fun xs w1 => match frzD xs with
  | some ds => (fk ρ w1).thn ρ fun zs w2 => match frzD zs with
    | some es => if ds.length = n ∧ es.length = j then .ex ⟨c, (fs.zip (ds ++ es)).reverse⟩ ρ w2 else .bad
    | none => .bad
  | none => .bad
theorem Nx.xd {K : PySem.W.Frag} {C : Ca} {G H : Hp} {ws : Ws} {w : W} {d : Addr} {fs : List (Str × V)} (s : Sm G H) (r : RelW K C G H ws w) (hd : H d = none) : Nx K C G H ws G (upd H d (.xd fs)) ws w := Nx.new s r hd
theorem zip_rep {K : PySem.W.Frag} {G : Hp} {ι : List Addr} : ∀ {fs : List Str} {vs : List V} {ds : List D}, Reps K G ι vs ds → Paired (fun (p : Str × V) (q : Str × D) => p.1 = q.1 ∧ Rep K G ι p.2 q.2) (fs.zip vs) (fs.zip ds)
  | [], _, _, _ => .nil
  | _ :: _, _, _, .nil => .nil
  | _ :: _, _, _, .cons a b => .cons ⟨rfl, a⟩ (zip_rep b)
theorem paired_app {α β : Type} {F : α → β → Prop} : ∀ {l : List α} {m : List β} {l' : List α} {m' : List β}, Paired F l m → Paired F l' m' → Paired F (l ++ l') (m ++ m')
  | _, _, _, _, .nil, h => h
  | _, _, _, _, .cons a b, h => .cons a (paired_app b h)
theorem paired_rev {α β : Type} {F : α → β → Prop} : ∀ {l : List α} {m : List β}, Paired F l m → Paired F l.reverse m.reverse
  | _, _, .nil => .nil
  | _, _, .cons a b => by rw [List.reverse_cons, List.reverse_cons]; exact paired_app (paired_rev b) (.cons a .nil)
theorem ev_raiseF {P : Pm} {H0 : En} {Wi : WX} {c : String} {C : Addr} {fs : List Str} {n j : Nat} {ta tk : TA} {fr fk : DA} (hc : P.cm c = some C) (hf : fs ≠ []) (hnj : n + j = fs.length) (hn : n ≤ 1000) (ha : EvA P H0 Wi ta fr) (hk : EvA P H0 Wi tk fk) :
    EvS P H0 Wi (fun _ σ H => tMkK C (spO C fs) n j ta tk σ H fun cls d H' => Wi cls d σ H') (sRaiseF c fs n j fr fk) := by
  intro σ H G ws ρ w D st h
  unfold sRaiseF at h
  refine ha σ H G ws ρ w _ st (postA_of st h fun xs w1 _ h vs H1 G1 ws1 n1 r1 k1 => ?_)
  cases e1 : frzD xs with
  | none => rw [e1] at h; exact h.elim
  | some ds =>
    rw [e1] at h
    obtain ⟨G2, s2, n2, rs⟩ := freezeAll n1 r1 k1 e1
    have h := PostS.after n2.mon h
    refine hk σ H1 G2 ws1 ρ w1 _ (st.next n2) (postA_of (st.next n2) h fun zs w2 _ h ys H2 G3 ws2 n3 r3 k3 => ?_)
    cases e2 : frzD zs with
    | none => rw [e2] at h; exact h.elim
    | some es =>
      rw [e2] at h
      dsimp only at h
      split at h
      · rename_i hl
        obtain ⟨G4, s4, n4, rz⟩ := freezeAll n3 r3 k3 e2
        have h : PostS P H0 Wi D G2 ws1 (.ex ⟨c, (fs.zip (ds ++ es)).reverse⟩ ρ w2) := h
        have lv : vs.length = n := by rw [rs.length]; exact hl.1
        have lz : ys.length = j := by rw [rz.length]; exact hl.2
        refine ⟨lv, lz, by omega, fun a hna => ?_⟩
        refine ⟨a, vs ++ ys, rfl, by rw [List.length_append]; omega, upd_same, fun H' dx hd ne ea ed eo => ⟨rfl, dx, _, ea, ed, ?_, ?_⟩⟩
        · rw [upd_ne ne] at hd; exact hd
        · rw [upd_ne ne] at hd
          have eF : upd (L2.del H' a) dx (.xd (fs.zip (vs ++ ys)).reverse) = upd H2 dx (.xd (fs.zip (vs ++ ys)).reverse) := by
            funext b
            by_cases hb : b = dx
            · subst hb; rw [upd_same, upd_same]
            · rw [upd_ne hb, upd_ne hb]
              by_cases hb2 : b = a
              · subst hb2; rw [L2.del_same, hna]
              · rw [L2.del_ne hb2, eo b hb2 hb, upd_ne hb2]
          rw [eF]
          have n5 := Nx.xd (fs := (fs.zip (vs ++ ys)).reverse) n4.sub n4.rw hd
          have rr : Reps P.K G4 (io ws2) (vs ++ ys) (ds ++ es) := (rs.mono n4.gg n4.io).append rz
          refine h (.ref C) (some dx) σ _ G4 ws2 ((st.next n2).next (n4.trans n5)) ⟨C, hc, rfl, .inr ⟨?_, dx, _, rfl, upd_same, paired_rev (zip_rep rr)⟩⟩
          intro z
          have z : (fs.zip (ds ++ es)).reverse = [] := z
          have : (fs.zip (ds ++ es)).length = 0 := by rw [← List.length_reverse, z]; rfl
          rw [List.length_zip, List.length_append] at this
          have : fs.length = 0 := by omega
          exact hf (List.eq_nil_of_length_eq_zero this)
      · exact h.elim
section
variable {X : Cx} {κ : Kx} {k : Nat} {e : Expr} {es : List Expr} {fr fk : DA} {p pos pos2 : Pos} {kws : List Keyword}
theorem s_raiseF {x : String} {fs : List Str} {sh : List (Nat × List Str)} (q : Nat × List Str) (c : Fe X κ k) (o : Ocl X.prog X.w X.K X.mg X.base κ.cm x fs sh) (hq : q ∈ sh) (ha : XA X κ (e :: es) fr) (hk : XK' X κ kws fk) (hf : fs ≠ [] := by decide) (hn : q.1 ≤ 1000 := by decide) (hk2 : 2 ≤ k := by decide) (hg : Gl X x := by rfl)
    (hall : (backToKw pos (keywordEach kws X.env)).all (·.1.isSome) = true := by rfl) (hks : (backToKw pos (keywordEach kws X.env)).filterMap (·.1) = q.2 := by rfl) (hdb : ((x : Str) == ("__debug__" : Str)) = false := by decide)
    (hst : starEach (e :: es) X.env = (false, eval e X.env) :: starEach es X.env := by rfl) (hpl : ((backTo pos (starEach (e :: es) X.env)).any (·.1) || (backToKw pos (keywordEach kws X.env)).any (·.1.isNone)) = false := by rfl) :
    XS X κ (.Raise (some (.Call (.Name x p) (e :: es) kws pos)) none pos2) (sRaiseF x fs q.1 q.2.length fr fk) := by
  obtain ⟨C, fI, fd, ps, h1, h2, T, iC, tI, F, hsh⟩ := o.ex
  obtain ⟨hl, hb⟩ := hsh q hq
  obtain ⟨t2, p2, e2⟩ := ha
  obtain ⟨t3, p3, e3⟩ := hk
  exact ⟨_, L2N.ps_raise c.calm c.tk (pmk_kw T iC tI F (c.room.mono hk2) hb passL hg h1 p2 p3 hall hks hdb hst hpl), ev_raiseF h2 hf hl hn e2 e3⟩
theorem s_raiseF0 {x : String} {fs : List Str} {sh : List (Nat × List Str)} (q : Nat × List Str) (c : Fe X κ k) (o : Ocl X.prog X.w X.K X.mg X.base κ.cm x fs sh) (hq : q ∈ sh) (hk : XK' X κ kws fk) (hq0 : q.1 = 0 := by rfl) (hf : fs ≠ [] := by decide) (hk2 : 2 ≤ k := by decide) (hg : Gl X x := by rfl)
    (hall : (backToKw pos (keywordEach kws X.env)).all (·.1.isSome) = true := by rfl) (hks : (backToKw pos (keywordEach kws X.env)).filterMap (·.1) = q.2 := by rfl) (hdb : ((x : Str) == ("__debug__" : Str)) = false := by decide)
    (hpl : ((backTo pos (starEach [] X.env)).any (·.1) || (backToKw pos (keywordEach kws X.env)).any (·.1.isNone)) = false := by rfl) :
    XS X κ (.Raise (some (.Call (.Name x p) [] kws pos)) none pos2) (sRaiseF x fs 0 q.2.length dNil fk) := by
  obtain ⟨C, fI, fd, ps, h1, h2, T, iC, tI, F, hsh⟩ := o.ex
  obtain ⟨hl, hb⟩ := hsh q hq
  rw [hq0] at hl hb
  obtain ⟨t3, p3, e3⟩ := hk
  exact ⟨_, L2N.ps_raise c.calm c.tk (pmk_kw0 T iC tI F (c.room.mono hk2) hb passL hg h1 p3 hall hks hdb hpl), ev_raiseF h2 hf hl (by decide) ev_nil e3⟩
end
end DL
/-! Walks over the keys of a dict: it is locked meanwhile. -/
namespace DL
open PySem PySem.Spec PyProof.Rows L2
theorem dct_nf {u : HO} (h : Dct u = true) : ∀ q z, u ≠ .frz q z := fun q z e => by subst e; cases h
theorem dct_nt {u : HO} (h : Dct u = true) : Nt u := fun ps e => by subst e; cases h
theorem dct_mut {u : HO} (h : Dct u = true) : Mut (some u) := by cases u <;> first | trivial | cases h
section
variable {K : PySem.W.Frag} {C : Ca} {G H G' H' GE HE : Hp} {ws wsE : Ws} {w w' : W} {a : Addr} {u : HO} {od : Obj}
theorem lk_lock (ha : H a = some u) (hd : Dct u = true) {b : Addr} {o : HO} (h : Lk H b o) : Lk (upd H a (.frz od u)) b o := by
  by_cases hb : b = a
  · subst hb
    rcases h with h | ⟨_, q, h⟩
    · rw [ha] at h; cases h; exact .inr ⟨hd, od, upd_same⟩
    · rw [ha] at h; exact absurd (Option.some.inj h) (dct_nf hd _ _)
  · exact h.upd hb
theorem Nx.lock (s : Sm G H) (r : RelW K C G H ws w) (hl : w.lk = false) (ha : H a = some u) (hd : Dct u = true) (od : Obj) : Nx K C G H ws G (upd H a (.frz od u)) ⟨ws.n + 1, ws.l, some (a, od, u)⟩ ⟨w.n + 1, w.o, true⟩ := by
  have up : ∀ {b o}, Lk H b o → Lk (upd H a (.frz od u)) b o := fun h => lk_lock ha hd h
  have ni : ∀ b C' dx fs, H b = some (.ins C' dx fs) → b ≠ a := fun b C' dx fs e z => by rw [z, ha] at e; cases e; cases hd
  refine ⟨fun _ _ h => h, fun b o h => up (s b o h), ⟨paired_imp r.obs fun q o hq ⟨⟨dx, e⟩, p⟩ => ⟨⟨dx, by rw [upd_ne (ni _ _ _ _ e)]; exact e⟩, paired_imp p fun x y hx ⟨e, f⟩ => ⟨e, f.move (fun _ _ h => h) (List.prefix_refl _) fun b o _ hb => up hb⟩⟩, ?_, r.nd, r.out, ?_, r.nt, fun b q z e hz => ?_, rfl, fun b q z e => ?_⟩, fun b o h _ _ => up h, fun b o h no => ?_, fun _ _ _ _ h => .inl h, List.prefix_refl _, fun _ h => .inl h, Nat.le_succ _, fun h => absurd h (by show ws.n + 1 ≠ ws.n; omega), Stab.refl _⟩
  · show w.n + 1 = ws.n + 1
    rw [r.nn]
  · exact tabs_upd r.tb ha (dct_nt hd) (fun f e => by subst e; cases hd)
  · by_cases hb : b = a
    · subst hb; rw [upd_same] at e; cases e; exact .inr rfl
    · rw [upd_ne hb] at e; exact .inl (r.ul0 hl e hz)
  · have e : some (a, od, u) = some (b, q, z) := e
    cases e
    exact upd_same
  · by_cases hb : b = a
    · subst hb; exact ⟨_, upd_same, nt_frz⟩
    · rw [upd_ne hb]; exact ⟨o, h, no⟩
theorem unf_unl {ι : List Addr} {b : Addr} {d : D} (hH : H' a = some (.frz od u)) (h : Unf K G' H' ι b d) : Unf K G' (upd H' a u) ι b d := by
  have cl : ∀ {o}, Lk H' b o → (∀ q z, o ≠ .frz q z) → Lk (upd H' a u) b o := fun {o} h nf => by
    by_cases hb : b = a
    · subst hb
      rcases h with h | ⟨_, q, h⟩
      · rw [hH] at h; exact absurd (Option.some.inj h).symm (nf _ _)
      · rw [hH] at h; cases h; exact .inl upd_same
    · exact h.upd hb
  cases h with
  | lst e r => exact .lst (cl (.inl e) (by intro _ _ z; cases z)).eq r
  | dK e k r => exact .dK (cl e (by intro _ _ z; cases z)) k r
  | dT e k r => exact .dT (cl e (by intro _ _ z; cases z)) k r
theorem Nx.unlock (n0 : Nx K C GE HE wsE G H ws w) (ha : H a = some u) (hd : Dct u = true) (hG : G a = some u ∨ a ∈ regs ws) (n : Nx K C GE HE wsE G' H' ⟨ws.n + 1, ws.l, some (a, od, u)⟩ w') (gg : Same G G') : Nx K C GE HE wsE G' (upd H' a u) ⟨ws.n + 2, ws.l, none⟩ ⟨w'.n + 1, w'.o, false⟩ := by
  have hH : H' a = some (.frz od u) := n.rw.lkh a od u rfl
  have gA : ∀ o, G' a = some o → o = u := fun o e => by
    rcases hG with h | h
    · rw [gg _ _ h] at e; exact (Option.some.inj e).symm
    · rw [n.rw.out a h] at e; cases e
  have ni : ∀ b C' dx fs, H' b = some (.ins C' dx fs) → b ≠ a := fun b C' dx fs e z => by rw [z, hH] at e; cases e
  refine ⟨n.gg, fun b o h => ?_, ⟨paired_imp n.rw.obs fun q o hq ⟨⟨dx, e⟩, p⟩ => ⟨⟨dx, by rw [upd_ne (ni _ _ _ _ e)]; exact e⟩, paired_imp p fun x y hx ⟨e, f⟩ => ⟨e, ?_⟩⟩, ?_, n.rw.nd, n.rw.out, ?_, n.rw.nt, fun b q z e hz => ?_, rfl, fun b q z e => ?_⟩, fun b o h no nr => ?_, fun b o h no => ?_, fun b o h no gb => ?_, n.io, n.fresh, ?_, fun h => ?_, n.stb⟩
  · by_cases hb : b = a
    · subst hb; rw [gA o h]; exact .inl upd_same
    · exact (n.sub b o h).upd hb
  · rcases f with ⟨b, e, v⟩ | h
    · exact .inl ⟨b, e, unf_unl hH v⟩
    · exact .inr h
  · show w'.n + 1 = ws.n + 2
    rw [n.rw.nn]
  · exact tabs_upd n.rw.tb hH nt_frz (by intro _ z; cases z)
  · by_cases hb : b = a
    · subst hb; rw [upd_same] at e; exact absurd (Option.some.inj e) (dct_nf hd _ _)
    · rw [upd_ne hb] at e
      rcases n.rw.ul b q z e hz with y | y
      · exact .inl y
      · have y : some (a, od, u) = some (b, q, z) := y
        cases y
        exact absurd rfl hb
  · cases e
  · by_cases hb : b = a
    · subst hb
      rcases n0.keep b o h no nr with z | ⟨_, q, z⟩
      · rw [ha] at z; cases z; exact .inl upd_same
      · rw [ha] at z; exact absurd (Option.some.inj z) (dct_nf hd _ _)
    · exact (n.keep b o h no nr).upd hb
  · by_cases hb : b = a
    · subst hb; exact ⟨_, upd_same, dct_nt hd⟩
    · rw [upd_ne hb]; exact n.alive b o h no
  · rcases n.nocap b o h no gb with z | ⟨xs, z⟩
    · exact .inl z
    · exact .inr ⟨xs, by rw [upd_ne (fun y => by rw [y, hH] at z; cases z)]; exact z⟩
  · have := n.le
    show wsE.n ≤ ws.n + 2
    have : wsE.n ≤ ws.n + 1 := this
    omega
  · exfalso
    have h1 : wsE.n ≤ ws.n + 1 := n.le
    have h : ws.n + 2 = wsE.n := h
    omega
theorem rv_unl {v : V} {x : Val} (hH : H' a = some (.frz od u)) (hm : x.m = .fz ∨ x.m = .nw) (h : RV K G' H' ⟨ws.n + 1, ws.l, some (a, od, u)⟩ v x) : RV K G' (upd H' a u) ⟨ws.n + 2, ws.l, none⟩ v x := by
  obtain ⟨m, d⟩ := x
  unfold RV at h ⊢
  rcases hm with z | z <;> (simp only at z; subst z)
  · exact h
  · obtain ⟨b, e, g, nr, v⟩ := h
    exact ⟨b, e, g, nr, unf_unl hH v⟩
theorem St.unlock {e : En} {σ σ' : L2.St} {ρ ρ' : Env} (st : St K C e σ H G ws ρ w) (ha : H a = some u) (hd : Dct u = true) (hG : G a = some u ∨ a ∈ regs ws) (st' : St K C e σ' H' G' ⟨ws.n + 1, ws.l, some (a, od, u)⟩ ρ' w') (gg : Same G G') : St K C e σ' (upd H' a u) G' ⟨ws.n + 2, ws.l, none⟩ ρ' ⟨w'.n + 1, w'.o, false⟩ where
  nx0 := Nx.unlock st.nx0 ha hd hG st'.nx0 gg
  len := st'.len
  sl := fun i x e => by
    obtain ⟨v, h1, h2, h3⟩ := st'.sl i x e
    exact ⟨v, h1, rv_unl (st'.rw.lkh a od u rfl) h3 h2, h3⟩
  own := st'.own
  ap := st'.ap
/-- a tuple that stands is taken as frozen -/
theorem Nx.cap {q : Addr} {vs : List V} (s : Sm G H) (r : RelW K C G H ws w) (hq : H q = some (.tup vs)) (g : G q = none) : Nx K C G H ws (upd G q (.tup vs)) H ws w := by
  have sg : Same G (upd G q (.tup vs)) := fun b v e => by rw [upd_ne (ne_of_none e g)]; exact e
  refine ⟨sg, fun b v e => ?_, ⟨paired_imp r.obs fun q o hq ⟨e, p⟩ => ⟨e, paired_imp p fun x y hx ⟨e, f⟩ => ⟨e, f.move sg (List.prefix_refl _) fun _ _ _ h => h⟩⟩, r.nn, r.nd, fun b hb => ?_, r.tb, fun b u e => ?_, fun b o u e hd => (r.ul b o u e hd).imp (sg _ _) id, r.lkw, r.lkh⟩, fun _ _ h _ _ => h, fun _ o h n => ⟨o, h, n⟩, fun b o h no gb => ?_, List.prefix_refl _, fun _ h => .inl h, Nat.le_refl _, fun _ => ⟨rfl, fun _ _ _ h => h⟩, Stab.refl _⟩
  · by_cases hb : b = q
    · subst hb; rw [upd_same] at e; cases e; exact .inl hq
    · rw [upd_ne hb] at e; exact s b v e
  · have hne : b ≠ q := fun z => reg_not_tup r hq (by rw [← z]; exact hb)
    rw [upd_ne hne]; exact r.out b hb
  · by_cases hb : b = q
    · subst hb; rw [upd_same] at e; cases e; exact nt_tup
    · rw [upd_ne hb] at e; exact r.nt b u e
  · by_cases hb : b = q
    · subst hb; exact .inr ⟨vs, hq⟩
    · rw [upd_ne hb]; exact .inl gb
end
/-! ### keys as data -/
def dKy : Key → D
  | .inl i => .int i
  | .inr x => .str x
theorem ky_rep {K : PySem.W.Frag} {G : Hp} {ι : List Addr} : ∀ k : Key, Rep K G ι (kV k) (dKy k)
  | .inl i => .int i
  | .inr x => .str x
theorem ky_reps {K : PySem.W.Frag} {G : Hp} {ι : List Addr} : ∀ ks : List Key, Reps K G ι (ks.map kV) (ks.map dKy)
  | [] => .nil
  | k :: ks => .cons (ky_rep k) (ky_reps ks)
def keysD : D → Option (List D)
  | .dK kvs => some (kvs.map fun p => dKy p.1)
  | .dT kvs => some (kvs.map fun p => .tup (p.1.map dKy))
  | _ => none
/-- the dict u is seen as d, by its keys -/
inductive KeyR : HO → D → Prop
  | dK {kvs : List (Key × V)} {ds : List (Key × D)} : kvs.map (·.1) = ds.map (·.1) → KeyR (.dK kvs) (.dK ds)
  | dT {kvs : List (List Key × V)} {ds : List (List Key × D)} : kvs.map (·.1) = ds.map (·.1) → KeyR (.dT kvs) (.dT ds)
theorem KeyR.dct {u : HO} {d : D} (h : KeyR u d) : Dct u = true := by cases h <;> rfl
/-- its iterator, while it is locked -/
def itD (a : Addr) (od : Obj) : HO → It
  | .dK kvs => Itk a od kvs
  | .dT kvs => Itkt a od kvs
  | _ => Itk a od []
theorem it_keys {P : Pm} {Ok : Hp → Hp → Ws → Prop} {a : Addr} {od : Obj} {u : HO} {d : D} {ks : List D} (k : KeyR u d) (hk : keysD d = some ks) (h : ∀ G H ws, Ok G H ws → H a = some (.frz od u)) : ItOk P (itD a od u) Ok ks := by
  cases k with
  | @dK kvs ds e =>
    cases hk
    have at_ : ∀ {i : Nat} {x : D}, (ds.map fun p => dKy p.1)[i]? = some x → ∃ k v, kvs[i]? = some (k, v) ∧ x = dKy k := fun {i x} ex => by
      have e2 : (kvs.map (·.1))[i]? = (ds.map (·.1))[i]? := by rw [e]
      rw [List.getElem?_map, List.getElem?_map] at e2
      rw [List.getElem?_map] at ex
      cases e3 : ds[i]? with
      | none => rw [e3] at ex; cases ex
      | some p =>
        rw [e3] at ex e2
        cases ex
        cases e4 : kvs[i]? with
        | none => rw [e4] at e2; cases e2
        | some q =>
          rw [e4] at e2
          simp only [Option.map_some, Option.some.injEq] at e2
          exact ⟨q.1, q.2, rfl, by rw [e2]⟩
    refine ⟨fun G H ws i x ok ex => ?_, fun G H ws w i x v H' ok s r ex y => ?_, fun G H ws ok => ?_⟩
    · obtain ⟨k, v, h1, _⟩ := at_ ex
      exact ⟨h G H ws ok, (List.getElem?_eq_some_iff.mp h1).1⟩
    · obtain ⟨k, v', h1, rfl⟩ := at_ ex
      obtain ⟨rfl, k2, v2, h2, rfl⟩ := y
      rw [h1] at h2
      cases h2
      exact ⟨G, Nx.refl s r, ky_rep k⟩
    · exact ⟨h G H ws ok, by rw [List.length_map, len_rel e]; exact Nat.le_refl _⟩
  | @dT kvs ds e =>
    cases hk
    have at_ : ∀ {i : Nat} {x : D}, (ds.map fun p => D.tup (p.1.map dKy))[i]? = some x → ∃ k v, kvs[i]? = some (k, v) ∧ x = .tup (k.map dKy) := fun {i x} ex => by
      have e2 : (kvs.map (·.1))[i]? = (ds.map (·.1))[i]? := by rw [e]
      rw [List.getElem?_map, List.getElem?_map] at e2
      rw [List.getElem?_map] at ex
      cases e3 : ds[i]? with
      | none => rw [e3] at ex; cases ex
      | some p =>
        rw [e3] at ex e2
        cases ex
        cases e4 : kvs[i]? with
        | none => rw [e4] at e2; cases e2
        | some q =>
          rw [e4] at e2
          simp only [Option.map_some, Option.some.injEq] at e2
          exact ⟨q.1, q.2, rfl, by rw [e2]⟩
    refine ⟨fun G H ws i x ok ex => ?_, fun G H ws w i x v H' ok s r ex y => ?_, fun G H ws ok => ?_⟩
    · obtain ⟨k, v, h1, _⟩ := at_ ex
      exact ⟨h G H ws ok, (List.getElem?_eq_some_iff.mp h1).1⟩
    · obtain ⟨k, v', h1, rfl⟩ := at_ ex
      obtain ⟨rfl, k2, v2, q, h2, rfl, hq⟩ := y
      rw [h1] at h2
      cases h2
      cases eg : G q with
      | none =>
        have n := Nx.cap s r hq eg
        exact ⟨_, n, .tup (.inl (.inl upd_same)) (ky_reps k)⟩
      | some o =>
        have := s q o eg
        rcases this with z | ⟨_, z2, z⟩
        · rw [hq] at z; cases z; exact ⟨G, Nx.refl s r, .tup (.inl (.inl eg)) (ky_reps k)⟩
        · rw [hq] at z; cases z
    · exact ⟨h G H ws ok, by rw [List.length_map, len_rel e]; exact Nat.le_refl _⟩
/-- where a dict is found: what te reads, while it is locked -/
def DRes (P : Pm) (H0 : En) (te : TE) (loc : Env → W → Option D) : Prop := ∀ σ H G ws ρ w d, St P.K P.C H0 σ H G ws ρ w → w.lk = false → loc ρ w = some d → (∃ ks, keysD d = some ks) →
  ∃ a u, H a = some u ∧ KeyR u d ∧ (G a = some u ∨ a ∈ regs ws) ∧ ∀ od (Q : VK), Q (.ref a) (upd H a (.frz od u)) → te σ (upd H a (.frz od u)) Q
def locK (ρ : Env) (w : W) (loc : Env → W → Option D) : Option (List D) := if w.lk = true then none else (loc ρ w).bind keysD
theorem locK_of {ρ : Env} {w : W} {loc : Env → W → Option D} {ks : List D} (h : locK ρ w loc = some ks) : w.lk = false ∧ ∃ d, loc ρ w = some d ∧ keysD d = some ks := by
  unfold locK at h
  split at h
  · cases h
  · rename_i hl
    refine ⟨by simpa using hl, ?_⟩
    cases e : loc ρ w with
    | none => rw [e] at h; cases h
    | some d => rw [e] at h; exact ⟨d, rfl, h⟩
theorem ikeys_of {td : TE} {σ : L2.St} {H : Hp} {R : It → Hp → Prop} {a : Addr} {od : Obj} {u : HO} {d : D} (k : KeyR u d) (ht : ∀ Q : VK, Q (.ref a) (upd H a (.frz od u)) → td σ (upd H a (.frz od u)) Q) (hR : R (itD a od u) (upd H a (.frz od u))) : iKeys td σ (upd H a (.frz od u)) R := by
  refine ht _ ⟨a, od, rfl, ?_⟩
  cases k with
  | dK e => exact .inl ⟨_, upd_same, hR⟩
  | dT e => exact .inr ⟨_, upd_same, hR⟩
section
variable {P : Pm} {H0 : En} {Wi : WX} {td ta : TE} {tA : TT} {fa : DE} {fA : DT} {ts : TS} {gs : DS} {loc : Env → W → Option D}
abbrev wLk (w : W) : W := ⟨w.n + 1, w.o, true⟩
abbrev wUn (w : W) : W := ⟨w.n + 2, w.o, false⟩
/-- [e for t in d if c] -/
noncomputable def dLcD (loc : Env → W → Option D) (t : Tg) (c : DT) (f : DE) (vs : List Nat) : DE := fun ρ w => match locK ρ w loc with
  | some ks => (match dLc (fun _ w => .ok (ks, false) w) t c f vs ρ (wLk w) with
    | .ok x w' => open Classical in if w' = wLk w then .ok x (wUn w) else .bad
    | _ => .bad)
  | none => .bad
theorem ev_lcD {t : Tg} {vs : List Nat} (hl : DRes P H0 td loc) (hc : EvT P H0 (fun _ _ _ _ => False) tA fA) (he : EvE P H0 (fun _ _ _ _ => False) ta fa) (hv : ∀ i ∈ tgs t, i ∈ vs) : EvE P H0 Wi (tLockE (tLc (iKeys td) (gT P.K t) tA ta vs)) (dLcD loc t fA fa vs) := by
  intro σ H G ws ρ w Q st h
  unfold dLcD at h
  cases ek : locK ρ w loc with
  | none => rw [ek] at h; exact h.elim
  | some ks =>
    rw [ek] at h
    dsimp only at h
    obtain ⟨hlk, d, hd, hks⟩ := locK_of ek
    obtain ⟨a, u, ha, kr, hG, ht⟩ := hl σ H G ws ρ w d st hlk hd ⟨ks, hks⟩
    refine ⟨a, u, ha, dct_mut kr.dct, fun od => ?_⟩
    have n1 := Nx.lock st.sub st.rw hlk ha kr.dct od
    have st1 := st.next n1
    -- the iterator stands wherever the heap is the locked one
    have hi : EvI P H0 Wi (fun σ' H' R => σ' = σ → H' = upd H a (.frz od u) → R (itD a od u) (upd H a (.frz od u))) (fun _ w => .ok (ks, false) w) := by
      intro σ' H' G' ws' ρ' w' Q' st' hq e1 e2
      subst e2
      have hq : ∀ J H' G' ws', _ → _ → Q' J H' := hq
      refine hq (itD a od u) _ G' ws' st'.nx ?_
      refine it_keys kr hks fun G2 H2 ws2 ok => ?_
      have ok : OkQ P G' (upd H a (.frz od u)) ws' G2 H2 ws2 := ok
      obtain ⟨w2, n2, hn⟩ := ok
      rcases st'.rw.ul a od u upd_same kr.dct with z | z
      · exact (n2.sub a _ (n2.gg _ _ z)).eq
      · have ew := (n2.qt hn).1
        subst ew
        exact n2.rw.lkh a od u z
    have key := ev_lc hi hc he hv σ (upd H a (.frz od u)) G _ ρ (wLk w) (fun v H' => H' a = some (.frz od u) ∧ Q v (upd H' a u)) st1 (by
      cases ed : dLc (fun _ w => .ok (ks, false) w) t fA fa vs ρ (wLk w) with
      | bad => rw [ed] at h; exact h
      | ex x w' => rw [ed] at h; exact h.elim
      | ok x w' =>
        rw [ed] at h
        dsimp only at h
        split at h
        · rename_i hw
          subst hw
          intro v H' G' ws' n r k
          have ew : ws' = ⟨ws.n + 1, ws.l, some (a, od, u)⟩ := (n.qt (n.same n1.rw rfl)).1
          subst ew
          refine ⟨n.rw.lkh a od u rfl, ?_⟩
          have n3 := Nx.unlock (Nx.refl st.sub st.rw) ha kr.dct hG (n1.trans n) n.gg
          have hm : x.m = .nw := by
            unfold dLc at ed
            simp only [R.bind] at ed
            split at ed
            · split at ed
              · cases ed; rfl
              · cases ed
            · cases ed
          refine h v _ G' _ n3 (rv_unl (n.rw.lkh a od u rfl) (.inr hm) r) (newOk_back (P := P) n1 k)
        · exact h.elim)
    exact ikeys_of kr (ht od) (key rfl rfl)
/-- for t in d: .. -/
noncomputable def sForD (loc : Env → W → Option D) (t : Tg) (b : DS) : DS := fun ρ w => match locK ρ w loc with
  | some ks => (match forLq t b (wLk w) ks ρ (wLk w) with
    | .next ρ' w' => open Classical in if w' = wLk w then .next ρ' (wUn w) else .bad
    | _ => .bad)
  | none => .bad
theorem ev_forD {t : Tg} (hl : DRes P H0 td loc) (hb : EvS P H0 Wi ts gs) : EvS P H0 Wi (tLock (tFor (iKeys td) (gT P.K t) ts)) (sForD loc t gs) := by
  intro σ H G ws ρ w D0 st h0
  unfold sForD at h0
  cases ek : locK ρ w loc with
  | none => rw [ek] at h0; exact h0.elim
  | some ds =>
    rw [ek] at h0
    dsimp only at h0
    obtain ⟨hlk, d, hd, hks⟩ := locK_of ek
    obtain ⟨a, u, ha, kr, hG, ht⟩ := hl σ H G ws ρ w d st hlk hd ⟨ds, hks⟩
    refine ⟨a, u, ha, dct_mut kr.dct, fun od => ?_⟩
    have n1 := Nx.lock st.sub st.rw hlk ha kr.dct od
    have st1 := st.next n1
    refine ikeys_of kr (ht od) ?_
    have ok : ItOk P (itD a od u) (fun G H ws => H a = some (.frz od u)) ds := it_keys kr hks fun _ _ _ h => h
    cases er : forLq t gs (wLk w) ds ρ (wLk w) with
    | bad => rw [er] at h0; exact h0.elim
    | ex x ρ' w' => rw [er] at h0; exact h0.elim
    | ret x w' => rw [er] at h0; exact h0.elim
    | brk ρ' w' => rw [er] at h0; exact h0.elim
    | cont ρ' w' => rw [er] at h0; exact h0.elim
    | next ρe we =>
      rw [er] at h0
      dsimp only at h0
      split at h0
      case isFalse => exact h0.elim
      rename_i hwe
      subst hwe
      have stands : ∀ {σ' : L2.St} {H' G' : Hp} {ws' : Ws} {ρ' : Env}, St P.K P.C H0 σ' H' G' ws' ρ' (wLk w) → Mon G ⟨ws.n + 1, ws.l, some (a, od, u)⟩ G' ws' → ws' = ⟨ws.n + 1, ws.l, some (a, od, u)⟩ ∧ H' a = some (.frz od u) := fun {σ' H' G' ws' ρ'} st' mo => by
        have hn : ws'.n = ws.n + 1 := by
          rw [← st'.rw.nn]
          show w.n + 1 = ws.n + 1
          rw [st.rw.nn]
        have ew := mo.2.2.2.2 hn
        subst ew
        exact ⟨rfl, st'.rw.lkh a od u rfl⟩
      refine ⟨fun i m σ' H' => m = ds.length - i ∧ i ≤ ds.length ∧ ∃ G' ws' ρ', St P.K P.C H0 σ' H' G' ws' ρ' (wLk w) ∧ Mon G ⟨ws.n + 1, ws.l, some (a, od, u)⟩ G' ws' ∧ forLq t gs (wLk w) (ds.drop i) ρ' (wLk w) = .next ρe (wLk w), ⟨ds.length, by simp, Nat.zero_le _, G, _, ρ, st1, .refl, by simpa using er⟩, ?_⟩
      rintro i m σ' H' ⟨rfl, hi, G', ws', ρ', st', mo, hp⟩
      obtain ⟨ew, hH⟩ := stands st' mo
      by_cases hlt : i < ds.length
      · have ed : ds[i]? = some ds[i] := by simp [hlt]
        rw [List.drop_eq_getElem_cons hlt] at hp
        simp only [forLq] at hp
        refine .inr ⟨ok.go G' H' ws' i _ hH ed, fun σ3 H3 => ds.length - (i + 1) = ds.length - (i + 1) ∧ i + 1 ≤ ds.length ∧ ∃ G' ws' ρ', St P.K P.C H0 σ3 H3 G' ws' ρ' (wLk w) ∧ Mon G ⟨ws.n + 1, ws.l, some (a, od, u)⟩ G' ws' ∧ forLq t gs (wLk w) (ds.drop (i + 1)) ρ' (wLk w) = .next ρe (wLk w), fun σ3 H3 hn => ⟨ds.length - (i + 1), by omega, hn⟩, fun v H2 y => ?_⟩
        obtain ⟨G2, n2, rp⟩ := ok.yl G' H' ws' (wLk w) i _ v H2 hH st'.sub st'.rw ed y
        cases es : setT t ds[i] ρ' with
        | none => rw [es] at hp; cases hp
        | some ρ3 =>
          rw [es] at hp
          dsimp only at hp
          refine ev_tg (st'.next n2) rp es fun σ3 st3 => ?_
          refine hb σ3 H2 G2 ws' ρ3 (wLk w) _ st3 ?_
          have mo2 : Mon G ⟨ws.n + 1, ws.l, some (a, od, u)⟩ G2 ws' := mo.trans n2.mon
          have go : ∀ ρ4 w4, (open Classical in if w4 = wLk w then forLq t gs (wLk w) (ds.drop (i + 1)) ρ4 w4 else .bad) = Out.next ρe (wLk w) → ∀ σ4 H4 G4 ws4, St P.K P.C H0 σ4 H4 G4 ws4 ρ4 w4 → Mon G2 ws' G4 ws4 → ds.length - (i + 1) = ds.length - (i + 1) ∧ i + 1 ≤ ds.length ∧ ∃ G' ws' ρ', St P.K P.C H0 σ4 H4 G' ws' ρ' (wLk w) ∧ Mon G ⟨ws.n + 1, ws.l, some (a, od, u)⟩ G' ws' ∧ forLq t gs (wLk w) (ds.drop (i + 1)) ρ' (wLk w) = .next ρe (wLk w) := by
            intro ρ4 w4 hq σ4 H4 G4 ws4 st4 m4
            by_cases hw : w4 = wLk w
            · subst hw
              rw [if_pos rfl] at hq
              exact ⟨rfl, hlt, G4, ws4, ρ4, st4, mo2.trans m4, hq⟩
            · rw [if_neg hw] at hq; cases hq
          cases eb : gs ρ3 (wLk w) with
          | bad => rw [eb] at hp; cases hp
          | ex x ρ4 w4 => rw [eb] at hp; cases hp
          | ret x w4 => rw [eb] at hp; cases hp
          | brk ρ4 w4 =>
            rw [eb] at hp
            cases hp
            intro σ4 H4 G4 ws4 st4 m4
            have mo4 := mo2.trans m4
            obtain ⟨ew4, hH4⟩ := stands st4 mo4
            subst ew4
            refine ⟨hH4, h0 σ4 _ G4 _ (st.unlock ha kr.dct hG st4 mo4.1) ?_⟩
            exact ⟨mo4.1, List.prefix_refl _, Stab.refl _, by show ws.n ≤ ws.n + 2; omega, fun h => absurd h (by show ws.n + 2 ≠ ws.n; omega)⟩
          | next ρ4 w4 => rw [eb] at hp; exact go ρ4 w4 hp
          | cont ρ4 w4 => rw [eb] at hp; exact go ρ4 w4 hp
      · have ei : i = ds.length := by omega
        subst ei
        rw [List.drop_length] at hp
        simp only [forLq] at hp
        cases hp
        subst ew
        refine .inl ⟨ok.st G' H' ws hH, hH, h0 σ' _ G' _ (st.unlock ha kr.dct hG st' mo.1) ?_⟩
        exact ⟨mo.1, List.prefix_refl _, Stab.refl _, by show ws.n ≤ ws.n + 2; omega, fun h => absurd h (by show ws.n + 2 ≠ ws.n; omega)⟩
end
/-! ### places of dicts: a field of what a name holds, a value of the dict that a name holds -/
def locF (i : Nat) (f : Str) : Env → W → Option D := fun ρ w => match ρ[i]? with
  | some (some x) => (match x.d with | .obj k => getF w k f | _ => none)
  | _ => none
theorem res_fld {P : Pm} {H0 : En} {i : Nat} {f : Str} (c : Cls P.K P.C.a) (n : NoAttr P.K P.C.a f) : DRes P H0 (tFld P.K (tVar i) f) (locF i f) := by
  intro σ H G ws ρ w d st hl hloc hk
  unfold locF at hloc
  split at hloc
  · rename_i x ex
    obtain ⟨m, dd⟩ := x
    cases dd with
    | obj k =>
      obtain ⟨v, hv, r, _⟩ := st.sl i _ ex
      obtain ⟨p, rfl, e1, rfl⟩ := rv_obj r
      obtain ⟨dx, fs, u, o, x, A⟩ := st.rw.fld e1 hloc
      obtain ⟨ks, hk⟩ := hk
      rcases A.fl with ⟨a, rfl, un⟩ | ⟨j, _, rfl⟩
      · have har : a ∈ regs ws := (regs_mem (List.mem_of_getElem? A.at_)).2 a (refs_mem (List.mem_of_getElem? A.fx) rfl)
        have fin : ∀ {u}, H a = some u → Dct u = true → ∀ od (Q : VK), Q (.ref a) (upd H a (.frz od u)) → tFld P.K (tVar i) f σ (upd H a (.frz od u)) Q := fun {u} hu hd od Q q => by
          have np : p ≠ a := fun z => by
            have := A.ins
            rw [z, hu] at this
            cases this
            cases hd
          exact ⟨.ref p, hv, p, P.C.a, dx, fs, .ref a, rfl, by rw [upd_ne np]; exact A.ins, c, n, A.lk, q⟩
        cases un with
        | lst e r => cases hk
        | dK e k r => have e := e.free st.rw hl (st.rw.out a har); exact ⟨a, _, e, .dK k, .inr har, fin e rfl⟩
        | dT e k r => have e := e.free st.rw hl (st.rw.out a har); exact ⟨a, _, e, .dT k, .inr har, fin e rfl⟩
      · cases hk
    | _ => cases hloc
  · cases hloc
section
variable {X : Cx} {κ : Kx} {k : Nat} {o e : Expr} {fa : DE} {fA : DT} {gs : DS} {pos p p2 : Pos} {tg : Expr} {body : List Stmt} {loc : Env → W → Option D}
/-- an expression where a dict stands -/
def XD (X : Cx) (κ : Kx) (e : Expr) (loc : Env → W → Option D) : Prop := ∃ td, PE X e td ∧ DRes (pm X κ) κ.e td loc
theorem x_fld {x f : Str} (i : Nat) (h : Hcl X.prog X.w X.K X.mg X.base κ.C) (hN : X.N[i]? = some x := by rfl) (hv : Vis X.env.scope x := by first | exact Or.inl rfl | exact Or.inr (Or.inl rfl) | exact Or.inr (Or.inr rfl)) (hd : (x == ("__debug__" : Str)) = false := by decide)
    (hcd : (x == ("__classdict__" : Str)) = false := by decide) (hf : f ∈ (["ranks", "seats", "known", "weeks", "plans", "cuts", "many", "done"] : List Str) := by decide) (hb : attributeBase (.Name x p) f X.env (eval (.Name x p) X.env) = eval (.Name x p) X.env := by rfl) : XD X κ (.Attribute (.Name x p) f pos) (locF i f) :=
  ⟨_, pe_fld (pe_var hN hv hd hcd) hb, res_fld h.cl (h.na f hf)⟩
theorem s_forD (t : Tg) (c : Fc X κ k) (hi : XD X κ e loc) (hg : PG X tg (gT X.K t)) (hb : XB X κ body gs) (hs : ∀ x, foldedSetIterable e X.env x = pure x := by intro _; rfl) : XS X κ (.For tg e body [] pos) (sForD loc t gs) := by
  obtain ⟨td, pd, rd⟩ := hi
  obtain ⟨tb, pb, eb⟩ := hb
  exact ⟨_, ps_lock (ps_for c.pass c.calm (pi_keys pd) hg pb hs), ev_forD rd eb⟩
theorem e_lcD {elt iter : Expr} {ifs : List Expr} {scope : Scope} (own : List (Str × Nat)) (t : Tg) (c : Fe X κ k) (hi : XD X κ iter loc) (ok : blkC X.N X.env.scope scope own = true)
    (hg : ∀ (s : Shared) (H : Hp) (C : Addr) (cl : List (Str × Addr)) (fp : List Addr), PG (X.blk s H scope (PySem.compEnvC scope cl C X.env) fp) tg (gT X.K t))
    (ht : ∀ (s : Shared) (H : Hp) (C : Addr) (cl : List (Str × Addr)) (fp : List Addr), PTs (X.blk s H scope (PySem.compEnvC scope cl C X.env) fp) ifs (cT (pm X κ) κ.e κ.no.Wi fA))
    (he : ∀ (s : Shared) (H : Hp) (C : Addr) (cl : List (Str × Addr)) (fp : List Addr), XE (X.blk s H scope (PySem.compEnvC scope cl C X.env) fp) κ.no elt fa) (hv : ∀ i ∈ tgs t, i ∈ own.map (·.2) := by decide) (hs : ∀ x, foldedSetIterable iter X.env x = pure x := by intro _; rfl) :
    XE X κ (.ListComp elt [⟨tg, iter, ifs, 0⟩] scope pos) (dLcD loc t fA fa (own.map (·.2))) := by
  obtain ⟨td, pd, rd⟩ := hi
  exact ⟨_, pe_lock (pe_lc c.calm c.nd (pi_keys pd) (blkOk_by ok) hg ht (fun s H C cl fp => (he s H C cl fp).can) hs), ev_lcD rd ev_cT ev_cE hv⟩
end
end DL
/-! len(o) of an object of the own class -/
namespace DL
open PySem L2
end DL
/-! several clauses `except x as n`, all of one name -/
namespace DL
open PySem PySem.Spec PyProof.Rows L2
/-! ### fields of a caught error -/
theorem ErrC.xf {K : PySem.W.Frag} {A C : Addr} (h : ErrC K A C) : XfC K C where
  ga := h.ga
  gg := h.gt
  exC := (h.sub _).trans (by simp)
  hdC := by
    obtain ⟨cd, h1, _, h3⟩ := h.cls
    unfold PySem.W.hasDictIn
    rw [h1]
    exact h3
theorem Ers.own {K : PySem.W.Frag} {mg : Str → Option Value} {cm : Cm} {A C D : Addr} {x y : String} (E : Ers K mg cm A) (hx : cm x = some C) (hy : cm y = some D) : PySem.W.exmOne K (.ref C) (.ref D) = some (decide (x = y)) := by
  have eC := E.cl x C hx
  have eD := E.cl y D hy
  have hA : D ≠ A := fun z => E.ne y (by rw [hy, z])
  refine PySem.W.exm_ref ((eD.sub _).trans (by simp)) eD.xf.hdC eD.ty ((eC.sub _).trans ?_)
  by_cases h : x = y
  · subst h
    rw [hx] at hy
    cases hy
    simp
  · have : C ≠ D := fun z => h (E.inj x y C hx (z ▸ hy))
    simp [h, this.symm, hA]
/-! ### try: return .., except X as e: return .. -/
end DL
namespace DL
open PySem L2
/-! ### defs with defaults, called by place and by keyword -/
end DL
namespace DL
open PySem L2
/-! ### sorted(set(xs)): ints, fewer than 64 -/
end DL
namespace DL
open PySem L2
/-! ### for x in xs: if C: return R (xs: a name's own list, which the loop only reads) -/
end DL
namespace DL
open PySem L2
/-! ### told = [e, ..]; for some in told: some.append(c): lists in a list, each of them new -/
section
variable {K : PySem.W.Frag} {C : Ca} {G H G1 H1 : Hp} {ws ws1 : Ws} {w1 : W}
theorem RVs.at' : ∀ {vs : List V} {xs : List Val}, RVs K G H ws vs xs → ∀ (k : Nat) x, xs[k]? = some x → ∃ v, vs[k]? = some v ∧ RV K G H ws v x
  | _, _, .nil, k, x, h => by simp at h
  | _, _, .cons r rs, 0, x, h => by
    simp only [List.getElem?_cons_zero, Option.some.injEq] at h
    subst h
    exact ⟨_, rfl, r⟩
  | _, _, .cons r rs, k + 1, x, h => by
    obtain ⟨v, h1, h2⟩ := rs.at' k x (by simpa using h)
    exact ⟨v, by simpa using h1, h2⟩
theorem RVs.len : ∀ {vs : List V} {xs : List Val}, RVs K G H ws vs xs → vs.length = xs.length
  | _, _, .nil => rfl
  | _, _, .cons r rs => by simp [rs.len]
theorem NewsOk.at' : ∀ {vs : List V} {xs : List Val}, NewsOk H vs xs → ∀ (k : Nat) x v, xs[k]? = some x → vs[k]? = some v → NewOk H v x
  | v :: vs, x :: xs, h, 0, y, u, h1, h2 => by
    simp only [List.getElem?_cons_zero, Option.some.injEq] at h1 h2
    subst h1; subst h2
    exact h.1
  | v :: vs, x :: xs, h, k + 1, y, u, h1, h2 => NewsOk.at' h.2.2 k y u (by simpa using h1) (by simpa using h2)
  | [], _, _, k, _, _, _, h2 => by simp at h2
  | _ :: _, [], _, k, _, _, h1, _ => by simp at h1
end
end DL
/-! What is never reached; chains of three; dicts written out and copied. -/
namespace DL
open PySem PySem.Spec PyProof.Rows L2
/-! ### what is never reached -/
/-! ### dict(d) -/
/-! ### {'x': .., ..} -/
def prs (ks : List Str) (vs : List V) : List (V × V) := (ks.zip vs).map fun p => (V.str p.1, p.2)
/-- the pairs of a display, evaluated -/
def EvP (P : Pm) (H0 : En) (Wi : WX) (ks : List Str) (trs : List (TE × TE)) (fr : DA) : Prop := ∀ σ H G ws ρ w (Q : List (V × V) → Hp → Prop), St P.K P.C H0 σ H G ws ρ w → PostA P (fun c d H' => Wi c d σ H') H G ws (fun vs H' => Q (prs ks vs) H') (fr ρ w) → tPairs trs σ H Q
section
variable {X : Cx} {κ : Kx} {e : Expr} {fe : DE} {pos p : Pos} {keys : List (Option Expr)} {values : List Expr} {ks : List Str} {fr : DA}
def XP (X : Cx) (κ : Kx) (pos : Pos) (keys : List (Option Expr)) (values : List Expr) (ks : List Str) (fr : DA) : Prop := ∃ trs, PPs X pos keys values trs ∧ EvP (pm X κ) κ.e κ.Wi ks trs fr
end
end DL
/-! made[k] = dict(S); made[k][K] = V -/
namespace DL
open PySem PySem.Spec PyProof.Rows L2
end DL
/-! A dict that a name holds, walked by its keys. -/
namespace DL
open PySem PySem.Spec PyProof.Rows L2
end DL
/-! dict(d), d with at most one key that is a tuple; made[kept] = dict(d); made[kept][t] = value. -/
namespace PySem
end PySem
namespace L2
open PySem PySem.Spec PyProof.Rows
end L2
namespace DL
open PySem PySem.Spec PyProof.Rows L2
/-! ### dict(d) -/
/-! ### a key that is cut out of a tuple -/
end DL
/-! written dicts of the module, a call of a name that holds a def, a try that runs through -/
namespace DL
open PySem PySem.Spec PyProof.Rows L2
/-- a written dict of whole numbers -/
structure WdI (K : PySem.W.Frag) (w : World) (mg : Str → Option Value) (x : Str) (tbl : List (Str × Int)) : Prop where
  ex : ∃ a es n, mg x = some (.ref a) ∧ KDict K w a es n ∧ (∀ z i, tbl.lookup z = some i → ∃ t, PySem.W.nsIn K a z = some (some (.int i t))) ∧ ∀ z, tbl.lookup z = none → PySem.W.nsIn K a z = some none
def dInW (tbl : List (Str × Int)) (fa : DE) : DE := fun ρ w => (fa ρ w).bind fun y w1 => match y.d with
  | .str z => .ok (fz (.bl (tbl.lookup z).isSome)) w1
  | _ => .bad
def dIxW (tbl : List (Str × Int)) (fa : DE) : DE := fun ρ w => (fa ρ w).bind fun y w1 => match y.d with
  | .str z => (match tbl.lookup z with
    | some i => .ok (fz (.int i)) w1
    | none => .bad)
  | _ => .bad
section
variable {X : Cx} {κ : Kx} {k : Nat} {a : Expr} {fa : DE} {x : Str} {tbl : List (Str × Int)} {p pos : Pos}
theorem e_inW (d : WdI X.K X.w X.mg x tbl) (ha : XE X κ a fa) (hg : Gl X x := by rfl) (hd : (x == ("__debug__" : Str)) = false := by decide) (hm : behindInMarks .In (.Name x p) = false := by rfl) : XE X κ (.Compare a [.In] [.Name x p] pos) (dInW tbl fa) := by
  obtain ⟨b, es, n, h1, D, hy, hn⟩ := d.ex
  obtain ⟨ta, pa, ea⟩ := ha
  refine ⟨_, pe_cmpR (op_in_kd D) pa (pe_glob (v := .ref b) hg h1 rfl hd) hm, ?_⟩
  intro σ H G ws ρ w Q st h
  unfold dInW at h
  refine ea σ H G ws ρ w _ st ?_
  cases e : fa ρ w with
  | bad => rw [e] at h; exact h
  | ex y w' => rw [e] at h; exact h
  | ok y w' =>
    rw [e] at h
    intro v H1 G1 ws1 n1 r1 k1
    obtain ⟨m, dd⟩ := y
    cases dd <;> try exact h.elim
    rename_i z
    have := rv_str r1
    subst this
    have h : PostE (pm X κ) (fun c d H' => κ.Wi c d σ H') H G ws Q (.ok (fz (.bl (tbl.lookup z).isSome)) w') := h
    cases el : tbl.lookup z with
    | none =>
      rw [el] at h
      exact ⟨z, none, rfl, rfl, hn z el, h _ H1 G1 ws1 n1 (.bl _) fz_nw⟩
    | some i =>
      rw [el] at h
      obtain ⟨t, ht⟩ := hy z i el
      exact ⟨z, _, rfl, rfl, ht, h _ H1 G1 ws1 n1 (.bl _) fz_nw⟩
theorem e_ixW (d : WdI X.K X.w X.mg x tbl) (ha : XE X κ a fa) (hg : Gl X x := by rfl) (hd : (x == ("__debug__" : Str)) = false := by decide) (hs : PlainIx a := by intro _ _; rfl) : XE X κ (.Subscript (.Name x p) a pos) (dIxW tbl fa) := by
  obtain ⟨b, es, n, h1, D, hy, hn⟩ := d.ex
  obtain ⟨ta, pa, ea⟩ := ha
  refine ⟨_, pe_ix ix_kdict (pe_glob (v := .ref b) hg h1 rfl hd) pa hs, ?_⟩
  intro σ H G ws ρ w Q st h
  unfold dIxW at h
  refine ea σ H G ws ρ w _ st ?_
  cases e : fa ρ w with
  | bad => rw [e] at h; exact h
  | ex y w' => rw [e] at h; exact h
  | ok y w' =>
    rw [e] at h
    intro v H1 G1 ws1 n1 r1 k1
    obtain ⟨m, dd⟩ := y
    cases dd <;> try exact h.elim
    rename_i z
    have := rv_str r1
    subst this
    have h : PostE (pm X κ) (fun c d H' => κ.Wi c d σ H') H G ws Q (match tbl.lookup z with | some i => .ok (fz (.int i)) w' | none => .bad) := h
    cases el : tbl.lookup z with
    | none => rw [el] at h; exact h.elim
    | some i =>
      rw [el] at h
      obtain ⟨t, ht⟩ := hy z i el
      exact ⟨b, z, .int i, rfl, rfl, ⟨es, n, _, D.at_, D.lit, ht, t, rfl⟩, h _ H1 G1 ws1 n1 (.int _) fz_nw⟩
end
/-- a written dict of defs -/
structure WdF (P : Program) (w : World) (K : PySem.W.Frag) (mg : Str → Option Value) (base : Heap) (C : Ca) (cm : Cm) (x : Str) (j : Nat) (tbl : List (Str × DF)) : Prop where
  ex : ∃ a es n, mg x = some (.ref a) ∧ KDict K w a es n ∧ ∀ z F, tbl.lookup z = some F → ∃ f fd ps j', PySem.W.nsIn K a z = some (some (.ref f)) ∧ j' ≤ j ∧ PySem.W.keepIn K (.ref f) = true ∧ Binds K fd ps [] ∧ FnOk P w K mg base (L2N.CX P w) j' f fd ps (spD ⟨K, C, cm⟩ F)
def Hdn (P : Program) (w : World) (K : PySem.W.Frag) (mg : Str → Option Value) (base : Heap) (C : Ca) (cm : Cm) (j : Nat) (f : Addr) (F : DF) : Prop := ∃ fd ps j', j' ≤ j ∧ PySem.W.keepIn K (.ref f) = true ∧ Binds K fd ps [] ∧ FnOk P w K mg base (L2N.CX P w) j' f fd ps (spD ⟨K, C, cm⟩ F)
def tCallN (i : Nat) (Hd : Addr → DF → Prop) (P : Pm) (E : L2.St → XK) (t : TA) : TE := fun σ H Q => ∃ f F, σ[i]? = some (some (.ref f)) ∧ Hd f F ∧ t σ H fun vs H1 => spD P F vs H1 Q (E σ)
theorem pe_callN {X : Cx} {C : Ca} {cm : Cm} {i j : Nat} {x : Str} {p pos : Pos} {e : Expr} {es : List Expr} {t : TA} {E : L2.St → XK} (hr : Room j X.A) (hN : X.N[i]? = some x) (hv : Vis X.env.scope x) (hx : ∀ σ, PassesAt (L2N.CX X.prog X.w) X σ (E σ)) (ha : PA X (e :: es) t)
    (hdb : (x == ("__debug__" : Str)) = false := by decide) (hcd : (x == ("__classdict__" : Str)) = false := by decide)
    (he : starEach (e :: es) X.env = (false, eval e X.env) :: starEach es X.env := by rfl) (hpl : (backTo pos (starEach es X.env)).any (·.1) = false := by rfl) :
    PE X (.Call (.Name x p) (e :: es) [] pos) (tCallN i (Hdn X.prog X.w X.K X.mg X.base C cm j) ⟨X.K, C, cm⟩ E t) := by
  refine ⟨fun pins s σ H Q I h => ?_⟩
  obtain ⟨f, F, hs, ⟨fd, ps, j', hjj, hk, hb, hF⟩, ht⟩ := h
  refine wpAny_Call_Name_kw (thn ((pe_var (pos := p) hN hv hdb hcd).run pins s σ H (fun v H1 => v = .ref f ∧ H1 = H) I ⟨.ref f, hs, rfl, rfl⟩) fun u s1 ⟨v, H1, I1, r1, q1⟩ => ?_)
  obtain ⟨rfl, rfl⟩ := q1
  cases r1
  refine PySem.W.callWith_K (h₀ := X.base) I.ok.mod.kin hk (thn (ha.run pos pins s1 σ _ _ I1 ht) fun us s2 ⟨vs, H2, I2, r, q⟩ => ⟨I2.kIn, ?_⟩) he hpl
  refine run_fnSD (dvs := []) (ds := []) (E := E) hF (hr.mono hjj) hb .nil (hx σ) I2 r ?_
  rw [List.append_nil]
  exact q
/-- x = TABLE[key]; x(..) -/
def sDo (i : Nat) (tbl : List (Str × DF)) (fk : DE) (fr : DA) : DS := fun ρ w => if ρ.length ≤ i then .bad else match fk ρ w with
  | .ok y w1 => (match y.d with
    | .str z => (match tbl.lookup z with
      | some F => (dCall F [] fr (ρ.set i none) w1).thn (ρ.set i none) fun _ w => .next (ρ.set i none) w
      | none => .bad)
    | _ => .bad)
  | .ex x w1 => .ex x ρ w1
  | .bad => .bad
theorem St.fget {K : PySem.W.Frag} {C : Ca} {e : En} {σ : L2.St} {H G : Hp} {ws : Ws} {ρ : Env} {w : W} {v : V} (st : St K C e σ H G ws ρ w) (i : Nat) : St K C e (σ.set i (some v)) H G ws (ρ.set i none) w := by
  have st' := st.drop i
  have ne : ∀ {j : Nat} {y : Val}, (ρ.set i none)[j]? = some (some y) → i ≠ j := fun {j y} h z => by
    subst z
    rw [List.getElem?_set, if_pos rfl] at h
    split at h <;> cases h
  have eq : ∀ {j : Nat}, i ≠ j → (σ.set i (some v))[j]? = (σ.set i none)[j]? := fun {j} h => by rw [List.getElem?_set_ne h, List.getElem?_set_ne h]
  refine ⟨st'.nx0, by simpa using st'.len, fun j y h => ?_, fun j y a h hm ha => ?_, fun j l y z a h1 h2 m1 m2 e1 e2 => ?_⟩
  · rw [eq (ne h)]; exact st'.sl j y h
  · rw [eq (ne h)] at ha; exact st'.own j y a h hm ha
  · rw [eq (ne h1)] at e1; rw [eq (ne h2)] at e2; exact st'.ap j l y z a h1 h2 m1 m2 e1 e2
section
variable {X : Cx} {κ : Kx} {k j : Nat} {b a : Expr} {es : List Expr} {fb : DE} {fr : DA} {x y : Str} {tbl : List (Str × DF)} {p p2 p3 pos pos2 pos3 pos4 : Pos}
theorem b_do (i : Nat) (d : WdF X.prog X.w X.K X.mg X.base κ.C κ.cm x j tbl) (c : Fe X κ k) (hk : XE X κ b fb) (ha : XA X κ (a :: es) fr) (hj : j ≤ k := by decide) (hg : Gl X x := by rfl) (hd : (x == ("__debug__" : Str)) = false := by decide) (hs : PlainIx b := by intro _ _; rfl)
    (hi : X.N[i]? = some y := by rfl) (hx : Loc X.env.scope y := by first | exact Or.inl rfl | exact Or.inr rfl) (hsw : swapsWith (.Subscript (.Name x p) b pos) (some (.Name y p2)) pos2.line X.env = pure false := by rfl)
    (hf : X.fn y = true ∨ X.env.scope.names.lookup y = some .local := by first | exact .inl rfl | exact .inr rfl) (hv : Vis X.env.scope y := by first | exact Or.inl rfl | exact Or.inr (Or.inl rfl) | exact Or.inr (Or.inr rfl))
    (hdb : (y == ("__debug__" : Str)) = false := by decide) (hcd : (y == ("__classdict__" : Str)) = false := by decide) (he : starEach (a :: es) X.env = (false, eval a X.env) :: starEach es X.env := by rfl) (hpl : (backTo pos3 (starEach es X.env)).any (·.1) = false := by rfl)
    (hs2 : swapsWith (.Call (.Name y p3) (a :: es) [] pos3) none pos4.line X.env = pure false := by rfl) :
    XB X κ [.Assign [.Name y p2] (.Subscript (.Name x p) b pos) pos2, .Expr (.Call (.Name y p3) (a :: es) [] pos3) pos4] (sDo i tbl fb fr) := by
  obtain ⟨A, en, n, h1, D, hl⟩ := d.ex
  obtain ⟨tb, pb, eb⟩ := hk
  obtain ⟨ta, pa, ea⟩ := ha
  refine ⟨_, pss_cons (ps_set c.nd hi hx (pe_ix ix_kdict (pe_glob (v := .ref A) hg h1 rfl hd) pb hs) hsw hf) (pss_one (ps_expr (pe_callN (C := κ.C) (cm := κ.cm) (E := WE κ.Wi) (c.room.mono hj) hi hv (fun σ => L2N.passAt c.tk σ) pa hdb hcd he hpl) hs2)), ?_⟩
  intro σ H G ws ρ w D' st h
  unfold sDo at h
  split at h
  · exact h.elim
  rename_i hln
  refine eb σ H G ws ρ w _ st ?_
  cases e : fb ρ w with
  | bad => rw [e] at h; exact h
  | ex q w' =>
    rw [e] at h
    exact fun cls d H' G' ws' n hx => h cls d σ H' G' ws' (st.next n) hx
  | ok q w1 =>
    rw [e] at h
    intro v H1 G1 ws1 n1 r1 k1
    obtain ⟨m, dd⟩ := q
    cases dd <;> try exact h.elim
    rename_i z
    have := rv_str r1
    subst this
    have h : PostS (pm X κ) κ.e κ.Wi D' G ws (match tbl.lookup z with | some F => (dCall F [] fr (ρ.set i none) w1).thn (ρ.set i none) fun _ w => .next (ρ.set i none) w | none => .bad) := h
    cases el : tbl.lookup z with
    | none => rw [el] at h; exact h.elim
    | some F =>
      rw [el] at h
      obtain ⟨f, fd, ps, j', hns, hjj, hkp, hb, hF⟩ := hl z F el
      refine ⟨A, z, .ref f, rfl, rfl, ⟨en, n, _, D.at_, D.lit, hns, rfl⟩, ?_⟩
      have st2 : St X.K κ.C κ.e (σ.set i (some (.ref f))) H1 G1 ws1 (ρ.set i none) w1 := (st.next n1).fget i
      have hlen : i < σ.length := by rw [st.len]; omega
      refine ⟨f, F, by rw [List.getElem?_set, if_pos rfl, if_pos hlen], ⟨fd, ps, j', hjj, hkp, hb, hF⟩, ?_⟩
      have h2 := PostS.after n1.mon h
      refine ea _ H1 G1 ws1 _ w1 _ st2 ?_
      unfold dCall at h2
      cases e2 : fr (ρ.set i none) w1 with
      | bad => rw [e2] at h2; exact h2
      | ex q w' =>
        rw [e2] at h2
        exact fun cls d H' G' ws' n hx => h2 cls d _ H' G' ws' (st2.next n) hx
      | ok xs w2 =>
        rw [e2] at h2
        intro vs H2 G2 ws2 n2 r2 k2
        have h2 : PostS (pm X κ) κ.e κ.Wi D' G1 ws1 ((match frzD xs with | some ds => F (ds ++ []) w2 | none => .bad : R Val).thn (ρ.set i none) fun _ w => .next (ρ.set i none) w) := h2
        cases e3 : frzD xs with
        | none => rw [e3] at h2; exact h2.elim
        | some ds =>
          rw [e3] at h2
          obtain ⟨G3, s3, n3, r3⟩ := freezeAll n2 r2 k2 e3
          dsimp only at h2
          rw [List.append_nil] at h2
          refine ⟨G3, ws2, w2, ds, n3.sub, n3.rw, r3, ?_⟩
          exact postE_of (st2.next n3) (PostS.after n3.mon h2) fun q w' _ h v H4 G4 ws4 n4 r4 k4 => h _ _ _ _ ((st2.next n3).next n4) n4.mon
end
/-! ### a try that runs through -/
def sTry0 (g : DS) : DS := fun ρ w => match g ρ w with
  | .ex _ _ _ => .bad
  | o => o
theorem Fc.nox {X : Cx} {κ : Kx} {k : Nat} (c : Fc X κ k) : Fc X.nox κ.no k := ⟨c.calm, c.nd, c.room, tkN takes0, PassesOwn.never⟩
theorem s_try0 {X : Cx} {κ : Kx} {body : List Stmt} {h₀ : ExceptHandler} {hs : List ExceptHandler} {pos : Pos} {g : DS} (hb : XB X.nox κ.no body g) : XS X κ (.Try body (h₀ :: hs) [] [] pos) (sTry0 g) := by
  obtain ⟨t, pt, et⟩ := hb
  refine ⟨_, ps_try_thru0 pt, ?_⟩
  intro σ H G ws ρ w D st h
  unfold sTry0 at h
  refine et σ H G ws ρ w D st ?_
  cases e : g ρ w with
  | ex => rw [e] at h; exact h.elim
  | next => rw [e] at h; exact h
  | brk => rw [e] at h; exact h
  | cont => rw [e] at h; exact h
  | ret => rw [e] at h; exact h
  | bad => rw [e] at h; exact h
end DL
/-! range with a step -/
namespace DL
open PySem PySem.Spec PyProof.Rows L2
end DL
/-! try: .. except X as e: raise Y('..') from e -/
namespace DL
open PySem PySem.Spec PyProof.Rows L2 L2H HotX
/-- the heap behind «from c» -/
def fromH (h : Heap) (a : Addr) (c : Value) : Heap := (h.update a (Obj.mapFields (·.setIfInBounds 3 c))).update a (Obj.mapFields (·.setIfInBounds 4 (.bool true)))
theorem fromH_at {h : Heap} {a : Addr} {oe : Obj} {vs : Array Value} {c : Value} (ha : h.get? a = some oe) (hd : oe.data = .fields vs) :
    ∃ o2, (fromH h a c).get? a = some o2 ∧ o2.data = .fields ((vs.setIfInBounds 3 c).setIfInBounds 4 (.bool true)) ∧ o2.cls = oe.cls ∧ o2.dict = oe.dict := by
  have d3 := Obj.data_mapFields hd (·.setIfInBounds 3 c)
  have a3 := Heap.get?_update_self (Obj.mapFields (·.setIfInBounds 3 c)) ha (Obj.isFreed_of_fields d3)
  have d4 := Obj.data_mapFields d3 (·.setIfInBounds 4 (.bool true))
  refine ⟨_, Heap.get?_update_self (Obj.mapFields (·.setIfInBounds 4 (.bool true))) a3 (Obj.isFreed_of_fields d4), d4, ?_, ?_⟩
  · rw [Obj.cls_mapFields, Obj.cls_mapFields]
  · rw [HandSPX.dict_mapFields, HandSPX.dict_mapFields]
theorem fromH_ne {h : Heap} {a b : Addr} {c : Value} (n : a ≠ b) : (fromH h a c).get? b = h.get? b := by
  unfold fromH
  rw [Heap.get?_update_other _ _ n, Heap.get?_update_other _ _ n]
/-- what is asked of a made error and of its cause, ahead of the raise -/
structure FromC (prog : Program) (w : World) (A : Around) (E : Value → Shared → Prop) (c : Sem Value) (x1 a : Addr) (oe o1 : Obj) (vs vs1 : Array Value) (s : Shared) : Prop where
  ha : s.heap.get? a = some oe
  hd : oe.data = .fields vs
  tb : vs[1]? = some .none
  six : 4 < vs.size
  ne : x1 ≠ a
  hh : A.handled = some (.ref x1)
  h1 : s.heap.get? x1 = some o1
  d1 : o1.data = .fields vs1
  c1 : vs1[2]? = some .none
  cs : ∀ Q : Value → Shared → Prop, Q (.ref x1) s → wpAny (model prog w) A c Q E s
  l0 : PySem.W.Looks (model prog w) s.heap (isSubtype o1.cls (.type "BaseException")) true
  l1 : PySem.W.Looks (model prog w) s.heap (isSubtype oe.cls (.type "BaseException")) true
  l2 : PySem.W.Looks (model prog w) (fromH s.heap a (.ref x1)) (typeOf oe.cls) (.type "type")
  fin : E (.ref a) { s with heap := (fromH s.heap a (.ref x1)).update a (Obj.mapFields (·.setIfInBounds 2 (.ref x1))) }
theorem raise_fromC {prog : Program} {w : World} {A : Around} {E : Value → Shared → Prop} {env : PySem.Env} {s : Shared} {x c : Sem Value} {Q : Flow → Shared → Prop} {x1 : Addr}
    (h : wpAny (model prog w) A x (fun v s₁ => ∃ a oe o1 vs vs1, v = .ref a ∧ FromC prog w A E c x1 a oe o1 vs vs1 s₁) E s) : wpAny (model prog w) A (raiseStmt env (some x) (some c)) Q E s := by
  unfold raiseStmt
  dsimp only
  refine wpAny_bind (wpAny_mono h (fun v s₁ h₁ => ?_) fun _ _ x => x)
  obtain ⟨a, oe, o1, vs, vs1, rfl, F⟩ := h₁
  obtain ⟨ha, hd, tb, six, ne, hh, h1, d1, c1, cs, l0, l1, l2, fin⟩ := F
  have isE : ∀ {h : Heap} {b : Addr} {o : Obj} {ws : Array Value} {s : Shared}, s.heap = h → h.get? b = some o → o.data = .fields ws → PySem.W.Looks (model prog w) h (isSubtype o.cls (.type "BaseException")) true → ∀ {m : String} {Q' : Value → Shared → Prop}, Q' (.ref b) s → wpAny (model prog w) A (excFromValue (.ref b) m) Q' E s := by
    intro h b o ws s es hb db lb m Q' hq
    subst es
    have LT : PySem.W.Looks (model prog w) s.heap (typeOf (.ref b)) o.cls := fun A Q E s k q => wpAny_typeOf_ref (k _ _ hb) q
    have LI : PySem.W.Looks (model prog w) s.heap (isInstance (.ref b) (.type "BaseException")) true := LT.andThen lb
    have hnt : ∀ {Q' : Bool → Shared → Prop}, Q' false s → wpAny (model prog w) A (isType (.ref b)) Q' E s := by
      intro Q' hq
      simp only [isType, loadHead]
      refine wpAny_bind (wpAny_loadPart hb ?_)
      rw [db]; exact wpAny_pure hq
    unfold excFromValue isExcClass
    refine wpAny_bind (wpAny_bind (hnt ?_))
    simp only [Bool.false_eq_true, if_false]
    refine wpAny_pure ?_
    simp only [Bool.false_eq_true, if_false]
    refine wpAny_bind (LI.here ?_)
    simp only [if_true]
    exact wpAny_pure hq
  obtain ⟨o4, a4, d4, e4, i4⟩ := fromH_at (c := .ref x1) ha hd
  have d3 := Obj.data_mapFields hd (·.setIfInBounds 3 (.ref x1))
  have a3 := Heap.get?_update_self (Obj.mapFields (·.setIfInBounds 3 (.ref x1))) ha (Obj.isFreed_of_fields d3)
  have s3 : 3 < vs.size := by omega
  have s4 : 4 < (vs.setIfInBounds 3 (Value.ref x1)).size := by rw [set_size]; exact six
  have s2 : 2 < ((vs.setIfInBounds 3 (Value.ref x1)).setIfInBounds 4 (Value.bool true)).size := by rw [set_size, set_size]; omega
  have t4 : ((vs.setIfInBounds 3 (Value.ref x1)).setIfInBounds 4 (Value.bool true))[1]? = some Value.none := set_other (by decide) (set_other (by decide) tb)
  have LT4 : PySem.W.Looks (model prog w) (fromH s₁.heap a (.ref x1)) (typeOf (.ref a)) oe.cls := fun A Q E s k q => wpAny_typeOf_ref (k _ _ a4) (by rw [e4]; exact q)
  have hot4 : HotAt A x1 (fromH s₁.heap a (.ref x1)) := ⟨hh, o1, vs1, by rw [fromH_ne (Ne.symm ne)]; exact h1, d1, c1⟩
  have hnt4 : ∀ {Q' : Bool → Shared → Prop}, Q' false { s₁ with heap := fromH s₁.heap a (.ref x1) } → wpAny (model prog w) A (isType (.ref a)) Q' E { s₁ with heap := fromH s₁.heap a (.ref x1) } := by
    intro Q' hq
    simp only [isType, loadHead]
    refine wpAny_bind (wpAny_loadPart a4 ?_)
    rw [d4]; exact wpAny_pure hq
  have rest : wpAny (model prog w) A (do
      let b ← isType (.ref a)
      if b = true then do
        let e ← holding [.ref a] (raisedFor (.ref a) (.ref a))
        setFlight e none
        raiseNew e
      else do
        let e ← raisedInstance (.ref a)
        setFlight e none
        raiseNew e : Sem Flow) Q E { s₁ with heap := fromH s₁.heap a (.ref x1) } := by
    refine wpAny_bind (hnt4 ?_)
    simp only [Bool.false_eq_true, if_false]
    unfold raisedInstance
    refine wpAny_bind (wpAny_bind (LT4.here (wpAny_bind (l2.here ?_))))
    rw [if_pos (beq_self_eq_true _)]
    refine wpAny_pure ?_
    unfold setFlight
    refine wpAny_bind (wpAny_bind (wpAny_field a4 d4 t4 ?_))
    rw [if_neg (by decide)]
    refine wpAny_pure ?_
    exact raiseNew_hot hot4 ne a4 d4 s2 fin
  refine wpAny_bind (wpAny_holding (cs _ (wpAny_bind (wpAny_pure ?_))))
  dsimp only
  refine wpAny_bind (wpAny_holding (isE rfl ha hd l1 ?_))
  have nn : ¬ ((Value.ref x1 == Value.none) = true) := by simp
  first
  | rw [if_neg nn]
  | (show wpAny _ _ (if (Value.ref x1 == Value.none) = true then _ else _) _ _ _; rw [if_neg nn])
  | simp only [nn, if_false]
  refine wpAny_bind (wpAny_holding (isE rfl h1 d1 l0 ?_))
  refine wpAny_bind (wpAny_setField ha hd s3 (wpAny_bind (wpAny_setField a3 d3 s4 ?_)))
  exact rest
/-! ### the statement in an except suite -/
section
variable {X : Cx} {W : WX} {e : Expr} {t : L2.St → Hp → XK → Prop} {n : Str} {i : Nat} {x1 : Addr} {o1 : Obj} {vs1 : Array Value} {cpos pos : Pos}
theorem ps_raiseHC (hh : X.A.handled = some (.ref x1)) (hp : (x1, o1) ∈ X.pn) (d1 : o1.data = .fields vs1) (c1 : vs1[2]? = some .none) (hx : X.N[i]? = some n) (hl : X.env.kindOf n = some .local) (hdb : (n == ("__debug__" : Str)) = false)
    (tk : L2.Takes X W) (he : PMk5 X e t) : PS X (.Raise (some e) (some (.Name n cpos)) pos) (fun _ σ H => (∀ h : Heap, X.K.In h → PySem.W.Looks (model X.prog X.w) h (isSubtype o1.cls (.type "BaseException")) true) ∧ (i < σ.length → σ[i]? = some (some (.ref x1))) ∧ t σ H fun cls d H' => W cls d σ H') := by
  refine ⟨fun pins s σ H D I h => ?_⟩
  obtain ⟨l0, hs, h⟩ := h
  have hi : i < σ.length := by rw [I.len]; exact (List.getElem?_eq_some_iff.mp hx).1
  have hs := hs hi
  show wpAny _ _ (do standAt pos; raiseStmt X.env (some (do let v ← eval e X.env; standAt pos; pure v)) (some (do let v ← eval (.Name n cpos) X.env; standAt pos; pure v))) _ _ _
  refine wpAny_bind (wpAny_standAt (raise_fromC (x1 := x1) (wpAny_bind (wpAny_mono (he pins s σ H _ I h) (fun u s1 hu => wpAny_bind (wpAny_standAt (wpAny_pure ?_))) fun _ _ x => x))))
  obtain ⟨⟨a, oe, vs, sI, H', cls, d, rfl, J, k, hne, ha, hz, hd, h1, na, os, ag, r, q⟩, h5⟩ := hu
  have six : 4 < vs.size := h5 a oe vs rfl ha hd
  have P1 := (J.pin (x1, o1) (List.mem_append_left _ hp)).1
  have nap : x1 ≠ a := fun z => by
    dsimp only at P1
    rw [z, hne] at P1
    cases P1
  have k4 : ∀ b u, sI.heap.get? b = some u → (fromH s1.heap a (.ref x1)).get? b = some u := fun b u z => by
    have nab : a ≠ b := fun y => by
      rw [← y, hne] at z
      cases z
    rw [fromH_ne nab]
    exact k b u z
  obtain ⟨r1, _⟩ := r (model X.prog X.w) s1.heap (J.kIn.keeps k)
  obtain ⟨_, r2⟩ := r (model X.prog X.w) (fromH s1.heap a (.ref x1)) (J.kIn.keeps k4)
  obtain ⟨o4, a4, d4, e4, i4⟩ := fromH_at (c := .ref x1) ha hd
  have J1 : Inv X pins σ H' s1 := J.landed (B := sI.heap) (fun b o e _ => e) k (Heap.UpToSlots.of_keeps k) os ag
  have h12 : (((vs.setIfInBounds 3 (Value.ref x1)).setIfInBounds 4 (Value.bool true)).setIfInBounds 2 (Value.ref x1))[1]? = some Value.none := set_other (by decide) (set_other (by decide) (set_other (by decide) h1))
  have hcs : oe.cls = cls := hz.1
  refine ⟨a, oe, o1, vs, vs1, rfl, ha, hd, h1, six, nap, hh, k _ _ P1, d1, c1, fun Q' hq => ?_, l0 _ (J.kIn.keeps k), by rw [hcs]; exact r1, by rw [hcs]; exact r2, tk _ _ (L2.XE.new J (fun b u z => ?_) hne (Heap.get?_update_self _ a4 (Obj.isFreed_of_fields (Obj.data_mapFields d4 _)))
    ⟨by rw [Obj.cls_mapFields, e4]; exact hz.1, by rw [HandSPX.dict_mapFields, i4]; exact hz.2.1⟩ (Obj.data_mapFields d4 _) h12 na os ag q)⟩
  · obtain ⟨m, hn, hlk⟩ := J1.loc
    obtain ⟨u, ru, l⟩ := hlk i n (.ref x1) hx hs (.inl hl)
    obtain rfl : u = Value.ref x1 := ru
    rcases l with ⟨hk, hm⟩ | ⟨hk, _⟩
    · exact wpAny_bind (wpAny_Name (wpAny_loadName_local J1.ok.kind hk hn hm (wpAny_bind (wpAny_standAt (wpAny_pure hq)))) hdb)
    · rcases hk with z | z <;> rw [hl] at z <;> cases z
  · have nab : a ≠ b := fun y => by
      rw [← y, hne] at z
      cases z
    show ((fromH s1.heap a (.ref x1)).update a (Obj.mapFields (·.setIfInBounds 2 (.ref x1)))).get? b = some u
    rw [Heap.get?_update_other _ _ nab]
    exact k4 b u z
end
end DL
/-! an error that leaves the suite of except X as e: the name goes, the error goes on -/
namespace DL
open PySem PySem.Spec PyProof.Rows L2 L2H HotX
section
variable {X : Cx} {pins : List (Addr × Obj)} {σ : L2.St} {H : Hp} {sI : Shared}
/-- a state without its locals' values, the namespace as another heap has it -/
theorem inv_bare (J : Inv X pins σ H sI) {G : Heap} {m : Str → Option Value} (hn : G.Ns X.env.locals m) (gO : ∀ b, b ≠ X.env.locals → G.get? b = sI.heap.get? b) : Inv X pins (σ.map fun _ => none) H { sI with heap := G } := by
  have neL : ∀ b o, X.s_0.heap.get? b = some o → b ≠ X.env.locals := fun b o e => Nat.ne_of_lt (Nat.lt_of_lt_of_le (Heap.lt_size e) J.ok.above)
  refine ⟨J.ok, J.os, J.bare, ⟨fun b o e n hb hx => (gO b (neL b o e)).trans (J.base.keep b o e n hb hx), fun b o e n hb hx => ?_, J.base.free, fun b o e hx => ?_, J.base.tups, J.base.frzs, J.base.tbls⟩,
    ⟨m, hn, fun j y v _ e _ => ?_⟩, fun y c e => ?_, J.free, J.freeC, fun p hp => ?_, fun b ob e => ?_, by simpa using J.len⟩
  · obtain ⟨sl, e1⟩ := J.base.slot b o e n hb hx
    exact ⟨sl, (gO b (neL b o e)).trans e1⟩
  · obtain ⟨o', e1⟩ := J.base.there b o e hx
    exact ⟨o', (gO b (neL b o e)).trans e1⟩
  · rw [List.getElem?_map] at e
    cases h : σ[j]? <;> rw [h] at e <;> cases e
  · obtain ⟨w', o, ho, hd⟩ := J.cell y c e
    exact ⟨w', o, (gO c (J.cne y c e)).trans ho, hd⟩
  · obtain ⟨e, n, ne, nf, d⟩ := J.pin p hp
    exact ⟨(gO p.1 ne).trans e, n, ne, nf, d⟩
  · refine (J.hok b ob e).stay (fun c w' hc q => (gO c fun z => ?_).trans q) (fun _ q => q) fun _ _ q => q
    subst z
    rcases hc with hc | hc
    · rw [← hc, J.free] at e; cases e
    · rw [J.free] at hc; cases hc
end
section
variable {X : Cx} {pins : List (Addr × Obj)} {a : Addr} {q : Addr × Obj} {n : Str} {pos' : Pos} {Wout : WX} {N : Value → Shared → Prop}
/-- the context of such a suite -/
abbrev asX (X : Cx) (a : Addr) (pn : List (Addr × Obj)) (xe : Value → Shared → Prop) : Cx := { suiteX X a pn with xe := xe }
theorem takes_as (hs : X.stack = X.env :: X.outer) (hf : X.env.frame = some X.env.locals) (hln : X.env.kindOf n = some .local) (ok : X.Ok) (hN : ∀ y s, X.xe y s → N y s) (tk : L2.Takes X Wout) :
    L2.Takes (asX X a (q :: (X.pn ++ pins)) fun x s₃ => AsSuiteRaised (model X.prog X.w) (X.A.mark (some (.ref a))) X.env n pos' N x s₃) (fun cls d σ H => Wout cls d (σ.map fun _ => none) H) := by
  intro u s' xx
  obtain ⟨a2, B, sI, pn2, σ, H, cls, d, rfl, J', nb, up, sky, na, os, ag, w⟩ := xx
  have J : Inv X pins σ H sI := unsuiteX (a := a) (q := q) (pn' := pn2) (Inv.unwish (X := suiteX X a (q :: (X.pn ++ pins))) J') ok
  have sky' : Sky B (X.env :: X.outer) a2 (Zc cls d) X.env.locals s'.heap := by rw [← hs]; exact sky
  have hfr : (X.A.mark (some (.ref a))).frames = some (X.env :: X.outer) := by
    show X.A.frames = _
    rw [ok.frames, hs]
  have key : ∀ h1, HandSPX.HeldZ B (X.env :: X.outer) a2 (Zc cls d) X.env.locals h1 → s'.heap.UpToSlots h1 →
      wpAny (model X.prog X.w) (X.A.mark (some (.ref a))) (do bindName X.env n .none; unbindBehindTheSuite X.env n pos')
        (fun _ s₂ => wpAny (model X.prog X.w) (X.A.mark (some (.ref a))) (passOn "try.except-as" (.ref a2) X.env : Sem Flow) (fun _ _ => False) N s₂)
        (fun y s₂ => wpAny (model X.prog X.w) (X.A.mark (some (.ref a))) (setFlight (.ref a2) none) (fun _ s₃ => N y s₃) N s₂) { s' with heap := h1 } := by
    intro h1 hh u1
    have J1 : Inv X pins σ H { s' with heap := h1 } := J.landed nb hh.1 (up.trans u1) os ag
    obtain ⟨m, hn, _⟩ := J1.loc
    have hcls : (X.env.scope.kind == .class || (X.env.scope.kind == .module && X.env.locals != X.env.globals)) = false := by rw [ok.kind]; rfl
    refine wpAny_nameGoes_keeps hln hn hcls fun h2 v hn2 hs2 => ?_
    obtain ⟨b1, b0, f1, t1⟩ := hh
    have hbL : B.get? X.env.locals = none := by
      obtain ⟨_, ⟨L', _, hf', hb', _⟩, _⟩ := f1
      rw [hf] at hf'
      rw [Option.some.inj hf']
      exact hb'
    have b2 : B.StaysIn h2 := fun b o hb => (hs2.2 b fun q => by rw [q, hbL] at hb; cases hb).trans (b1 b o hb)
    have f2 : h2.FunFrames B (X.env :: X.outer) := Heap.FunFrames.sameBut hs2 hn2 f1
    obtain ⟨oe, vs, T, oT, ts, he, hz, hd, h1', hnT, hTe, hT, hdT, h3⟩ := t1
    have notL : ∀ {b : Addr} {o : Obj} {ws : Array Value}, h1.get? b = some o → o.data = .fields ws → b ≠ X.env.locals := fun {b o ws} hb hd z => by
      obtain ⟨oL, es, ep, hoL, hdL, _⟩ := hn
      have hoL : h1.get? X.env.locals = some oL := hoL
      rw [z, hoL] at hb
      cases hb
      rw [hdL] at hd
      cases hd
    have he2 : h2.get? a2 = some oe := (hs2.2 a2 (notL he hd)).trans he
    have hT2 : h2.get? T = some oT := (hs2.2 T (notL hT hdT)).trans hT
    unfold PySem.passOn
    refine wpAny_bind (wpAny_field he2 hd h1' ?_)
    rw [if_neg (show ¬ ((Value.ref T == Value.none) = true) from by simp)]
    have fin : wpAny (model X.prog X.w) (X.A.mark (some (.ref a))) (setFlight (.ref a2) X.env.frame) (fun _ s4 => wpAny (model X.prog X.w) (X.A.mark (some (.ref a))) (throw (.ref a2) : Sem Flow) (fun _ _ => False) N s4) N { { s' with heap := h1 } with heap := h2, toks := s'.toks + 1 } := by
      rw [hf]
      refine HandSPX.setFlight_anyZ (Z := Zc cls d) b2 f2 ⟨oe, vs, T, oT, ts, he2, hz, hd, h1', hnT, hTe, hT2, hdT, h3⟩ fun h3' b3 f3 t3 k3 => wpAny_throw (hN _ _ (tk _ _ ?_))
      obtain ⟨oL2, esL, epL, hoL2, hdL2, rL⟩ := hn2
      obtain ⟨mI, ⟨oLI, esI, epI, hoLI, hdLI, _⟩, _⟩ := J.loc
      have fr2 : oL2.isFreed = false := (Heap.get?_some_iff.mp hoL2).2
      have gL : (sI.heap.update X.env.locals fun _ => oL2).get? X.env.locals = some oL2 := Heap.get?_update_self _ hoLI fr2
      have gO : ∀ b, b ≠ X.env.locals → (sI.heap.update X.env.locals fun _ => oL2).get? b = sI.heap.get? b := fun b hb => Heap.get?_update_other _ _ (Ne.symm hb)
      have J2 := inv_bare J ⟨oL2, esL, epL, gL, hdL2, rL⟩ gO
      refine ⟨a2, B, _, pins, _, H, cls, d, rfl, J2, fun b o e hb => ?_, fun b o e hnf => ?_, .inr (.inr (by rw [hs]; exact ⟨b3, b0, f3, t3⟩)), na, os, ag, w⟩
      · refine nb b o ?_ hb
        have hbl : b ≠ X.env.locals := fun z => hb (List.mem_filterMap.mpr ⟨X.env, by rw [hs]; exact List.mem_cons_self, by rw [hf, z]⟩)
        rw [← gO b hbl]
        exact e
      · by_cases hbl : b = X.env.locals
        · subst hbl
          have e : (sI.heap.update X.env.locals fun _ => oL2).get? X.env.locals = some o := e
          rw [gL] at e
          cases e
          exact k3 _ _ hoL2 hnf
        · have e : (sI.heap.update X.env.locals fun _ => oL2).get? b = some o := e
          rw [gO b hbl] at e
          obtain ⟨sl, e1⟩ := (up.trans u1) b o e hnf
          have e2 : h2.get? b = some { o with slots := sl } := (hs2.2 b hbl).trans e1
          obtain ⟨sl2, e3⟩ := k3 b { o with slots := sl } e2 hnf
          exact ⟨sl2, e3⟩
    first
      | exact wpAny_bind (wpAny_pure (wpAny_bind fin))
      | exact wpAny_bind fin
  show wpAny _ (X.A.mark (some (.ref a))) (noteFrame (.ref a2) X.env) _ _ s'
  rcases sky' with ⟨hB, hn, hl, oe, vs, he, hz, hd, h1⟩ | fl | hh
  · exact HandSPX.look_newZ Zc.steady hfr hl hf he hB hn hd h1 hz key
  · exact HandSPX.looks_onZ Zc.steady hfr hf fl key
  · exact HandSPX.againZ hf hh.2.2.2 (key s'.heap hh (Heap.UpToSlots.refl _))
end
/-! ### the try -/
abbrev noE : Ends := { nx := fun _ _ => False, rt := fun _ _ => False, bk := fun _ _ => False, ct := fun _ _ => False }
/-- what the clause wishes of an error of the body, whose suite raises -/
def wAsF (K : PySem.W.Frag) (c : Value) (i : Nat) (ts : Addr → Value → TS) : WX := fun cls _ σ H => PySem.W.exmOne K cls c = some true ∧ ∀ a, H a = none → ts a cls noE (σ.set i (some (.ref a))) H
section
variable {X : Cx} {x n : Str} {c : Value} {i : Nat} {body suite : List Stmt} {b₀ : Stmt} {np pos pos' : Pos} {tb : WX → TS} {ts : Addr → Value → TS} {Wout : WX}
theorem ps_try_asF (hs : X.stack = X.env :: X.outer) (hf : X.env.frame = some X.env.locals) (hN : X.N.Nodup) (hi : X.N[i]? = some n) (hln : X.env.kindOf n = some .local) (hc : Names X x c) (hpa : ∀ hd : Option Value, PassesOwnAt (model X.prog X.w) (X.A.mark hd) X.A X.env X.xe) (tk : L2.Takes X Wout)
    (hb : ∀ (W : WX) (pn : List (Addr × Obj)) (xe : Value → Shared → Prop), L2N.Takes (X.tr pn xe) W → PassesOwn (model X.prog X.w) X.A X.env xe → PSs (X.tr pn xe) body (tb W))
    (hsu : ∀ (a : Addr) (oe : Obj) (cls : Value) (d : Option Addr) (pn : List (Addr × Obj)) (xe : Value → Shared → Prop), L2N.Zn cls d oe → (∃ vs, oe.data = .fields vs) → L2.Takes (asX X a ((a, oe) :: pn) xe) (fun cls d σ H => Wout cls d (σ.map fun _ => none) H) →
      PSs (asX X a ((a, oe) :: pn) xe) (b₀ :: suite) (ts a cls)) :
    PS X (.Try body [.ExceptHandler (some (.Name x np)) (some n) (b₀ :: suite) pos'] [] [] pos) (fun D σ H => tb (wAsF X.K c i ts) D σ H) := by
  refine ⟨fun pins s σ H D I h => ?_⟩
  have ok := I.ok
  have hfr : X.A.frames = some (X.env :: X.outer) := by rw [ok.frames, hs]
  have hloc : Loc X.env.scope n := .inl hln
  refine wpAny_Try_except ?_
  refine wpAny_mono ((hb (wAsF X.K c i ts) (X.pn ++ pins) (fun e s₁ => wpAny (model X.prog X.w) X.A (noteFrame e X.env) (fun _ s₂ => wpAny (model X.prog X.w) X.A (setFlight e none) (fun _ s₃ =>
    wpAny (model X.prog X.w) X.A (handleBy e X.env [.ExceptHandler (some (.Name x np)) (some n) (b₀ :: suite) pos']) (SP X pins D) X.xe s₃) X.xe s₂) X.xe s₁) (fun u s' xx => ?_) PassesOwn.looking).run [] s σ H D (I.toTry _) h) (fun f s1 hsp => ?_) (fun e s1 he => he)
  · obtain ⟨a, B, sI, pins', σ', H', cls, d, rfl, J', nb, up, sky, na, os, ag, hb1, hyes⟩ := xx
    have J : Inv X pins σ' H' sI := J'.ofTry ok
    have sky' : Sky B (X.env :: X.outer) a (L2N.Zn cls d) X.env.locals s'.heap := by rw [← hs]; exact sky
    show wpAny _ X.A (noteFrame (.ref a) X.env) _ _ _
    refine L2N.Sky.land L2N.Zn.steady hfr hf sky' fun h3 fl3 up3 => ?_
    have J3 : Inv X pins σ' H' { s' with heap := h3 } := J.landed nb fl3.1 (up.trans up3) os ag
    obtain ⟨oe3, vs3, he3, hz3, hd3⟩ := fl3.there
    have nfr : a ∉ frs (X.env :: X.outer) := fun hm => by
      obtain ⟨_, o', e', hnf⟩ := fl3.2.2.1.mem hm
      rw [he3] at e'; cases e'
      exact hnf _ hd3
    have nL : a ≠ X.env.locals := fun z => nfr (List.mem_filterMap.mpr ⟨X.env, List.mem_cons_self, by rw [hf, z]⟩)
    have nF : a ∉ X.fs := fun hm => by
      obtain ⟨e, he, q⟩ := List.mem_filterMap.mp hm
      exact nfr (List.mem_filterMap.mpr ⟨e, List.mem_cons_of_mem _ he, q⟩)
    have S3 := J3.suite he3 hd3 na nL nF
    refine wpAny_handleBy_cons (codeAny_handlers_test ?_) (by intro q; cases q)
    have LT : PySem.W.Looks (model X.prog X.w) h3 (typeOf (.ref a)) cls := fun A Q E s k q => wpAny_typeOf_ref (k _ _ he3) (by rw [hz3.1]; exact q)
    have LM := PySem.W.exm_one (M := model X.prog X.w) (J3.kIn) LT hb1
    have test : ∀ {Q : Value → Shared → Prop} {E : Value → Shared → Prop}, Q c { s' with heap := h3 } → wpAny (model X.prog X.w) (X.A.mark (some (.ref a))) (eval (.Name x np) X.env) Q E { s' with heap := h3 } := fun {Q E} q => by
      obtain ⟨hg, hdbg, hm | ⟨hm, hv, hnn⟩⟩ := hc
      · exact ld_glob (X := X.suite a ((a, oe3) :: (X.pn ++ pins))) S3 hg hm q hdbg
      · exact ld_blt (X := X.suite a ((a, oe3) :: (X.pn ++ pins))) S3 hg hm hv q hnn hdbg
    refine test (LM.here ?_)
    refine codeAny_handlers_suite_as ?_
    refine HandSPX.lands_againZ fl3 fun h4 fl4 up4 => ?_
    have J4 : Inv X pins σ' H' { s' with heap := h4 } := J.landed nb fl4.1 ((up.trans up3).trans up4) os ag
    obtain ⟨oe4, vs4, he4, hz4, hd4⟩ := fl4.there
    have S4 := J4.suite he4 hd4 na nL nF
    refine store_ok (X := X.suite a ((a, oe4) :: (X.pn ++ pins))) (v := .ref a) S4 hN hi hloc rfl (fun s5 S5 => ?_) (.inr hln)
    have tkS := takes_as (X := X) (pins := pins) (a := a) (q := (a, oe4)) (n := n) (pos' := pos') (N := notedBy (model X.prog X.w) (X.A.mark (some (.ref a))) X.env (cameBackBy (model X.prog X.w) X.A X.env X.xe)) hs hf hln ok (fun y s z => hpa (some (.ref a)) y s z) tk
    have S6 := (suiteX_of S5).wish fun x s₃ => AsSuiteRaised (model X.prog X.w) (X.A.mark (some (.ref a))) X.env n pos' (notedBy (model X.prog X.w) (X.A.mark (some (.ref a))) X.env (cameBackBy (model X.prog X.w) X.A X.env X.xe)) x s₃
    refine wpAny_mono ((hsu a oe4 cls d (X.pn ++ pins) _ hz4 ⟨_, hd4⟩ tkS).run [] s5 _ H' _ S6 (hyes a na)) (fun f s6 hsp => ?_) (fun _ _ z => z)
    cases f with
    | next => obtain ⟨_, _, _, q6⟩ := hsp; exact q6.elim
    | brk => obtain ⟨_, _, _, q6⟩ := hsp; exact q6.elim
    | cont => obtain ⟨_, _, _, q6⟩ := hsp; exact q6.elim
    | ret u => obtain ⟨_, _, _, _, _, q6⟩ := hsp; exact q6.elim
  · cases f with
    | next =>
      obtain ⟨σ', H', J', q⟩ := hsp
      exact wpAny_execs_nil ⟨σ', H', J'.ofTry ok, q⟩
    | brk =>
      obtain ⟨σ', H', J', q⟩ := hsp
      exact ⟨σ', H', J'.ofTry ok, q⟩
    | cont =>
      obtain ⟨σ', H', J', q⟩ := hsp
      exact ⟨σ', H', J'.ofTry ok, q⟩
    | ret u =>
      obtain ⟨v, σ', H', J', r, q⟩ := hsp
      exact ⟨v, σ', H', J'.ofTry ok, r, q⟩
end
end DL
/-! try: .. except AirError as e: raise Y('..') from e, as a denotation -/
namespace DL
open PySem PySem.Spec PyProof.Rows L2 L2H HotX
def cS (P : Pm) (H0 : En) (Wi : WX) (g : DS) : TS := fun D σ H => ∃ G ws ρ w, St P.K P.C H0 σ H G ws ρ w ∧ PostS P H0 Wi D G ws (g ρ w)
theorem XB.canS {X : Cx} {κ : Kx} {b : List Stmt} {g : DS} (h : XB X κ b g) : PSs X b (cS (pm X κ) κ.e κ.Wi g) := by
  obtain ⟨ts, p, e⟩ := h
  exact ⟨fun pins s σ H D I ⟨G, ws, ρ, w, st, q⟩ => p.run pins s σ H D I (e σ H G ws ρ w D st q)⟩
def sTryF (c : String) (g : DS) : DS := fun ρ w => match g ρ w with
  | .ex _ ρ' w' => .ex ⟨c, []⟩ (ρ'.map fun _ => none) w'
  | o => o
theorem St.wiped {K : PySem.W.Frag} {C : Ca} {e : En} {σ : L2.St} {H G : Hp} {ws : Ws} {ρ : Env} {w : W} (st : St K C e σ H G ws ρ w) {i : Nat} {v : Option V} : St K C e ((σ.set i v).map fun _ => none) H G ws (ρ.map fun _ => none) w := by
  have no : ∀ {j : Nat} {y : Val}, (ρ.map fun _ => (none : Option Val))[j]? = some (some y) → False := fun {j y} h => by
    rw [List.getElem?_map] at h
    cases hj : ρ[j]? <;> rw [hj] at h <;> cases h
  exact ⟨st.nx0, by simpa using st.len, fun j y h => (no h).elim, fun j y a h _ _ => (no h).elim, fun j l y z a h _ _ _ _ _ => (no h).elim⟩
section
variable {X : Cx} {κ : Kx} {kx : Nat} {body : List Stmt} {g : DS} {y : String} {n m : Str} {j : Nat} {p1 p2 p3 p4 p5 p6 p7 p8 : Pos}
theorem s_tryF (i : Nat) (c : Fc X κ kx) (t2 : L2.Takes X κ.Wi) (E : ErsX X.K X.mg κ.cm) (r : Rcl X.K X.mg κ.cm y)
    (hb : ∀ (W : WX) (pn : List (Addr × Obj)) (xe : Value → Shared → Prop), Fc (X.tr pn xe) { κ with Wi := W } kx → XB (X.tr pn xe) { κ with Wi := W } body g)
    (hi : X.N[i]? = some n := by rfl) (hln : X.env.kindOf n = some .local := by rfl) (hst : X.stack = X.env :: X.outer := by rfl) (hfr : X.env.frame = some X.env.locals := by rfl)
    (hpa : ∀ hd : Option Value, PassesOwnAt (model X.prog X.w) (X.A.mark hd) X.A X.env X.xe := by exact L2H.passesAt_of rfl) (hga : Gl X "AirError" := by rfl) (hg : Gl X y := by rfl) (hdb : ((y : Str) == ("__debug__" : Str)) = false := by decide) (hdn : (n == ("__debug__" : Str)) = false := by decide) :
    XS X κ (.Try body [.ExceptHandler (some (.Name "AirError" p1)) (some n) [.Raise (some (.Call (.Name y p2) [.Constant (.str m) j p3] [] p4)) (some (.Name n p5)) p6] p7] [] [] p8) (sTryF y g) := by
  obtain ⟨C, h1, h2, h3⟩ := r.ex
  obtain ⟨A, E⟩ := E
  have hc := E.cl y C h2
  refine ⟨_, ps_try_asF (c := .ref A) (Wout := κ.Wi) (tb := fun W => cS (pm X κ) κ.e W g) (ts := fun a cls _ σ H => (∀ h : Heap, X.K.In h → PySem.W.Looks (model X.prog X.w) h (isSubtype cls (.type "BaseException")) true) ∧ (i < σ.length → σ[i]? = some (some (.ref a))) ∧ κ.Wi (.ref C) none (σ.map fun _ => none) H)
    hst hfr c.nd hi hln ⟨hga, by decide, .inl E.air⟩ hpa t2 (fun W pn xe tk ps => ?_) (fun a oe cls d pn xe hz hf tkS => ?_), ?_⟩
  · exact (hb W pn xe ⟨c.calm, c.nd, c.room, tk, ps⟩).canS
  · obtain ⟨vs, hd⟩ := hf
    have hz1 : oe.cls = cls := hz.1
    refine pss_one ⟨fun pins s σ H D I h => ?_⟩
    refine (ps_raiseHC (X := asX X a ((a, oe) :: pn) xe) (W := fun cls d σ H => κ.Wi cls d (σ.map fun _ => none) H) (i := i) (x1 := a) (o1 := oe) rfl List.mem_cons_self hd (hz.2.2 vs hd) hi hln hdn tkS (pmk5_o (X := asX X a ((a, oe) :: pn) xe) PySem.F.excBase_ValueError h3 h1 hc.kp (raises_own hc.base hc.ty) hg hdb)).run pins s σ H D I ?_
    rw [hz1]
    exact h
  · intro σ H G ws ρ w D st h
    refine ⟨G, ws, ρ, w, st, ?_⟩
    unfold sTryF at h
    cases e : g ρ w with
    | next => rw [e] at h; exact h
    | brk => rw [e] at h; exact h
    | cont => rw [e] at h; exact h
    | ret => rw [e] at h; exact h
    | bad => rw [e] at h; exact h
    | ex x ρ' w1 =>
      rw [e] at h
      intro cls d σ' H' G' ws' st' hx
      obtain ⟨cx, hcx, rfl, _⟩ := id hx
      have eC := E.cl _ _ hcx
      refine ⟨E.catch eC, fun a na => ⟨fun h hK => ((raises_own (X := X) eC.base eC.ty) (model X.prog X.w) h hK).1, fun hl => ?_, ?_⟩⟩
      · rw [List.getElem?_set_self (by simpa using hl)]
      · exact h (.ref C) none _ H' G' ws' st'.wiped ⟨C, h2, rfl, .inl ⟨rfl, rfl⟩⟩
end
@[simp] theorem sTryF_s (c : String) (g : DS) (ρ : Env) (w : W) : sTryF c g ρ w = match g ρ w with
  | .ex _ ρ' w' => .ex ⟨c, []⟩ (ρ'.map fun _ => none) w'
  | o => o := rfl
end DL
/-! The head: what the top leaves, by one run; facts of it as tests upon a part of the heap. -/
namespace DH
open PySem PySem.Spec PyProof.Rows L2 DL
section
variable {fa : List (Frag → Bool)} {fn : List He.DefD} {K : Frag}
theorem SaysQ.all (c : SaysQ fa fn K) : (fa.all fun f => f K) = true ∧ (fn.all fun d => d.ok K) = true := He.ba (show ((fa.all fun f => f K) && fn.all fun d => d.ok K) = true from congrArg (fun z : He.AlD => z.1) c)
theorem SaysQ.fact (c : SaysQ fa fn K) (i : Nat) {f : Frag → Bool} (h : fa[i]? = some f := by rfl) : f K = true := List.all_eq_true.mp c.all.1 f (List.mem_of_getElem? h)
theorem SaysQ.def_ (c : SaysQ fa fn K) (i : Nat) {d : He.DefD} (h : fn[i]? = some d := by rfl) : ∃ fd, FunD K d.name d.qual d.params d.body d.scope (d.dvs K) (d.kws K) (He.fAd K d.at_) fd := by
  have e : fn.map (fun d => He.fnW K d.at_) = fn.map He.DefD.val := congrArg (fun z : He.AlD => z.2) c
  have e2 : (fn.map fun d => He.fnW K d.at_)[i]? = (fn.map He.DefD.val)[i]? := by rw [e]
  rw [List.getElem?_map, List.getElem?_map, h] at e2
  exact He.DefD.funD (Option.some.inj e2) (List.all_eq_true.mp c.all.2 d (List.mem_of_getElem? h))
end
/-! ### tests -/
section
variable {K : Frag} {h : Heap} {mg : Str → Option Value}
theorem free_ok (X : K.In h) (G : h.Ns mainGlobals mg) {x : Str} (c : bFree x K = true) : mg x = none := PySem.W.mg_none_of X G (He.eqO_ok c)
theorem glo_ok (X : K.In h) (G : h.Ns mainGlobals mg) {x : Str} (c : bGlo x K = true) : mg x = some (.ref (ga K x)) := PySem.W.mg_of X G (He.eqO_ok c)
theorem int_ok (X : K.In h) (G : h.Ns mainGlobals mg) {x : Str} {i : Int} (c : bInt x i K = true) : Cst K mg x (.int i) := by
  obtain ⟨t, e⟩ := He.int_ok X G c
  exact cst_int e
theorem str_ok (X : K.In h) (G : h.Ns mainGlobals mg) {x z : Str} (c : bStr x z K = true) : Cst K mg x (.str z) := by
  obtain ⟨t, e⟩ := He.str_ok X G c
  exact cst_str e
theorem tup_ok (X : K.In h) (G : h.Ns mainGlobals mg) {x : Str} {vs : List He.Dv} {ds : List D} (c : bTup x vs K = true) (hr : ∀ G ι, Reps K G ι (vs.map (He.Dv.v K)) ds) : Cst K mg x (.tup ds) := by
  obtain ⟨c1, c2⟩ := He.ba c
  exact ⟨.ref (ga K x), .ref (ga K x), glo_ok X G c1, rfl, fun G ι => .tup (He.tupB_ok c2 G) (hr G ι)⟩
/-! ### defs -/
theorem fun_of {x qual : Str} {st : Stmt} {f : Addr} {fd : FuncData} (F : FunD K x qual (defArgs st) (defBody st) (defScope st) [] [] f fd) : Fun K x qual st f fd := by
  obtain ⟨oc, od, dV, kV, doc, pm, an, cdv, ct, osl, e, lk, hcd, hD, hK⟩ := F.ex
  rcases hD with ⟨_, rfl⟩ | ⟨z, _⟩
  · exact ⟨⟨oc, od, kV, doc, pm, an, cdv, ct, osl, e, lk, hcd⟩, F.kp⟩
  · exact absurd rfl z
theorem fnx_of (X : K.In h) (G : h.Ns mainGlobals mg) {x : Str} {st : Stmt} {ps : List Str} (g : bGlo x K = true) (F : ∃ fd, FunD K x x (defArgs st) (defBody st) (defScope st) [] [] (ga K x) fd)
    (hb : ∀ (kV doc pm : Value) (an : Option Addr) (cdv ct : Value) (us : List Value), us.length = ps.length → bindArgs (PySem.W.fnOf x x (defArgs st) (defBody st) (defScope st) .none kV doc pm an cdv ct) ⟨us, []⟩ = pure (ps.zip us)) : Fnx K mg x st ps := by
  obtain ⟨fd, F⟩ := F
  exact ⟨_, fd, fun_of F, glo_ok X G g, F.bindsN hb⟩
theorem mk_ok {x : Str} (c : bMk x K = true) : PySem.W.tabIn K x = some (cA K x, pA K x) ∧ K.lookup (pA K x) = none ∧ ∀ oc od fd sl, K.lookup (ga K x) = some ⟨oc, od, .func fd, sl⟩ → fd.code = .ref (cA K x) := by
  unfold bMk at c
  unfold cA pA
  cases e : PySem.W.tabIn K x with
  | none => rw [e] at c; cases c
  | some p =>
    rw [e] at c
    obtain ⟨c1, c2⟩ := He.ba c
    refine ⟨rfl, Option.isNone_iff_eq_none.mp c1, fun oc od fd sl hl => ?_⟩
    rw [hl] at c2
    exact of_decide_eq_true c2
theorem funL_of {x : Str} {st : Stmt} {fd : FuncData} (c : bMk x K = true) (F : FunD K x x (defArgs st) (defBody st) (defScope st) [] [] (ga K x) fd) : FunL K x x st (ga K x) fd (cA K x) := by
  obtain ⟨oc, od, dV, kV, doc, pm, an, cdv, ct, osl, rfl, lk, hcd, hD, hK⟩ := F.ex
  have e : cdv = .ref (cA K x) := (mk_ok c).2.2 _ _ _ _ lk
  subst e
  rcases hD with ⟨_, rfl⟩ | ⟨z, _⟩
  · exact ⟨⟨oc, od, kV, doc, pm, an, ct, osl, rfl, lk, hcd⟩, F.kp⟩
  · exact absurd rfl z
theorem fnxL_of (X : K.In h) (G : h.Ns mainGlobals mg) {x : Str} {st : Stmt} {ps : List Str} (g : bGlo x K = true) (c : bMk x K = true) (F : ∃ fd, FunD K x x (defArgs st) (defBody st) (defScope st) [] [] (ga K x) fd)
    (hb : ∀ (kV doc pm : Value) (an : Option Addr) (cdv ct : Value) (us : List Value), us.length = ps.length → bindArgs (PySem.W.fnOf x x (defArgs st) (defBody st) (defScope st) .none kV doc pm an cdv ct) ⟨us, []⟩ = pure (ps.zip us)) : FnxL K mg x st ps (cA K x) := by
  obtain ⟨fd, F⟩ := F
  exact ⟨_, fd, funL_of c F, glo_ok X G g, F.bindsN hb⟩
theorem funG_of {x qual : Str} {st : Stmt} {dvs : List V} {f : Addr} {fd : FuncData} (F : FunD K x qual (defArgs st) (defBody st) (defScope st) dvs [] f fd) : FunG K x qual st f fd := by
  obtain ⟨oc, od, dV, kV, doc, pm, an, cdv, ct, osl, e, lk, hcd, _, _⟩ := F.ex
  exact ⟨oc, od, dV, kV, doc, pm, an, cdv, ct, osl, e, lk, hcd⟩
theorem shp0 {x qual : Str} {st : Stmt} {f : Addr} {fd : FuncData} {ps : List Str} (F : FunD K x qual (defArgs st) (defBody st) (defScope st) [] [] f fd) (s : DL.Shape) (hs : s.dds = [])
    (hb : ∀ (kV doc pm : Value) (an : Option Addr) (cdv ct : Value) (us zs : List Value), us.length = s.n → zs.length = s.ks.length → bindArgs (PySem.W.fnOf x qual (defArgs st) (defBody st) (defScope st) .none kV doc pm an cdv ct) ⟨us, s.ks.zip zs⟩ = pure (ps.zip (selU s.ix (us ++ zs ++ [])))) : Shp K fd ps s := by
  obtain ⟨oc, od, dV, kV, doc, pm, an, cdv, ct, osl, rfl, lk, hcd, hD, hK⟩ := F.ex
  rcases hD with ⟨_, rfl⟩ | ⟨z, _⟩
  · exact ⟨[], [], .nil, fun _ _ => by rw [hs]; exact .nil, fun sh us zs X l1 l2 => .of_eq (hb kV doc pm an cdv ct us zs l1 l2)⟩
  · exact absurd rfl z
theorem shpD {x qual : Str} {st : Stmt} {dvs : List V} {f : Addr} {fd : FuncData} {ps : List Str} (F : FunD K x qual (defArgs st) (defBody st) (defScope st) dvs [] f fd) (hne : dvs ≠ []) (s : DL.Shape) (hr : ∀ G ι, Reps K G ι dvs s.dds)
    (hb : ∀ (T : Addr) (kV doc pm : Value) (an : Option Addr) (cdv ct : Value) (us zs its : List Value), us.length = s.n → zs.length = s.ks.length → its.length = dvs.length → ∃ k, bindArgs (PySem.W.fnOf x qual (defArgs st) (defBody st) (defScope st) (.ref T) kV doc pm an cdv ct) ⟨us, s.ks.zip zs⟩ = seqItems? (.ref T) >>= k ∧ k (some its.toArray) = pure (ps.zip (selU s.ix (us ++ zs ++ its)))) : Shp K fd ps s := by
  obtain ⟨oc, od, dV, kV, doc, pm, an, cdv, ct, osl, rfl, lk, hcd, hD, hK⟩ := F.ex
  rcases hD with ⟨z, _⟩ | ⟨_, T, o, its, n, rfl, hT, hd, hv⟩
  · exact absurd z hne
  · refine ⟨dvs, its, hv, hr, fun sh us zs X l1 l2 => ?_⟩
    obtain ⟨k, h1, h2⟩ := hb T kV doc pm an cdv ct us zs its l1 l2 hv.length.symm
    exact PySem.W.binds_K X rfl hT hd h1 h2
/-! ### classes of errors -/
abbrev cmK (K : Frag) (xs : List String) : Cm := cmL (xs.map fun x => (x, ga K x))
theorem err_ok {x : Str} (c : bErr x K = true) : bGlo x K = true ∧ ErrC K (ga K "AirError") (ga K x) := by
  obtain ⟨c0, c⟩ := He.ba c
  obtain ⟨c1, c⟩ := He.ba c
  obtain ⟨c2, c⟩ := He.ba c
  obtain ⟨c3, c⟩ := He.ba c
  obtain ⟨c4, c⟩ := He.ba c
  obtain ⟨c5, c6⟩ := He.ba c
  refine ⟨c0, ?_, of_decide_eq_true c2, c3, He.eqO_ok c4, He.eqO_ok c5, He.eqO_ok c6⟩
  cases e : PySem.W.clsIn K (ga K x) with
  | none => rw [e] at c1; cases c1
  | some cd =>
    rw [e] at c1
    obtain ⟨h1, h2⟩ := He.ba c1
    exact ⟨cd, rfl, of_decide_eq_true h1, h2⟩
theorem ers_ok (X : K.In h) (G : h.Ns mainGlobals mg) {xs : List String} (a : bAir K = true) (n : bNd xs K = true) (e : (xs.all fun x => bErr x K) = true) : ErsX K mg (cmK K xs) := by
  obtain ⟨a0, a⟩ := He.ba a
  obtain ⟨a1, a⟩ := He.ba a
  obtain ⟨a2, a⟩ := He.ba a
  obtain ⟨a3, a4⟩ := He.ba a
  have hc : ∃ cd, PySem.W.clsIn K (ga K "AirError") = some cd ∧ cd.mro = [.ref (ga K "AirError"), .type "ValueError", .type "Exception", .type "BaseException", .type "object"] ∧ cd.hasDict = true := by
    cases e : PySem.W.clsIn K (ga K "AirError") with
    | none => rw [e] at a1; cases a1
    | some cd =>
      rw [e] at a1
      obtain ⟨h1, h2⟩ := He.ba a1
      exact ⟨cd, rfl, of_decide_eq_true h1, h2⟩
  refine ers_mk (A := ga K "AirError") ?_ ?_ (glo_ok X G a0) hc (of_decide_eq_true a2) (He.eqO_ok a3) (of_decide_eq_true a4)
  · have := of_decide_eq_true n
    rw [List.map_map]
    exact this
  · intro p hp
    obtain ⟨x, hx, rfl⟩ := List.mem_map.mp hp
    exact (err_ok (List.all_eq_true.mp e x hx)).2
theorem lookup_map {xs : List String} {g : String → Addr} {x : String} (h : x ∈ xs) : (xs.map fun x => (x, g x)).lookup x = some (g x) := by
  induction xs with
  | nil => cases h
  | cons y xs ih =>
    rw [List.map_cons, List.lookup_cons]
    by_cases e : x = y
    · subst e; simp
    · have : (x == y) = false := by simpa using e
      rw [this]
      exact ih ((List.mem_cons.mp h).resolve_left e)
theorem cmK_names {xs : List String} {c : String} (h : (cmK K xs c).isSome) : c ∈ xs := by
  have := cmL_names h
  simpa using this
theorem mcl_ok (X : K.In h) (G : h.Ns mainGlobals mg) {xs : List String} {x : String} (e : (xs.all fun x => bErr x K) = true) (hx : x ∈ xs) : Mcl mg (cmK K xs) x :=
  ⟨_, glo_ok X G (err_ok (List.all_eq_true.mp e x hx)).1, lookup_map hx⟩
theorem rcl_ok (X : K.In h) (G : h.Ns mainGlobals mg) {xs : List String} {x : String} (e : (xs.all fun x => bErr x K) = true) (c : bRai x K = true) (hx : x ∈ xs) : Rcl K mg (cmK K xs) x :=
  ⟨⟨_, glo_ok X G (err_ok (List.all_eq_true.mp e x hx)).1, lookup_map hx, c⟩⟩
theorem base_ok (c : bBase K = true) : PySem.W.specialIn K (.ref (ga K "AirError")) "__getattribute__" = some (some (.builtin "type.__getattribute__")) ∧ PySem.W.readsIn K (ga K "AirError") (.type "type") = true ∧ PySem.W.findCls K (.ref (ga K "AirError")) (.type "type") "__init__" = some (.val (.builtin "ValueError.__init__")) := by
  obtain ⟨c1, c⟩ := He.ba c
  obtain ⟨c2, c3⟩ := He.ba c
  refine ⟨He.eqO_ok c1, c2, ?_⟩
  split at c3
  · rename_i n e
    rw [e, of_decide_eq_true c3]
  · cases c3
theorem own_ok {x : Str} {fs : List Str} (e : bErr x K = true) (c : bOwn x fs K = true) : OexC K (ga K x) ∧ PySem.W.findIn K (.ref (ga K x)) "__init__" = some (some (.ref (He.ma K (ga K x) "__init__"))) ∧ PySem.W.typeIn K (.ref (He.ma K (ga K x) "__init__")) = some (.type "function") ∧ ∀ f ∈ fs, PySem.W.findIn K (.ref (ga K x)) f = some none := by
  have ec := (err_ok e).2
  obtain ⟨c1, c⟩ := He.ba c
  obtain ⟨c2, c⟩ := He.ba c
  obtain ⟨c3, c⟩ := He.ba c
  obtain ⟨c4, c⟩ := He.ba c
  obtain ⟨c5, c6⟩ := He.ba c
  refine ⟨⟨?_, He.eqO_ok c2, of_decide_eq_true c3, ec.ty, ec.kp⟩, He.eqO_ok c4, of_decide_eq_true c5, fun f hf => He.eqO_ok (List.all_eq_true.mp c6 f hf)⟩
  split at c1
  · rename_i dd cd sl hl
    split at c1
    · rename_i C' bm k0 k1 k2 k3 n k5 hm hs
      obtain ⟨d1, c1⟩ := He.ba c1
      obtain ⟨d2, c1⟩ := He.ba c1
      obtain ⟨d3, c1⟩ := He.ba c1
      obtain ⟨d4, d5⟩ := He.ba c1
      have d1 := of_decide_eq_true d1
      have d2 := of_decide_eq_true d2
      subst d2
      obtain ⟨nm, bs, mro, ns, qn, hd, sn, sb, ab, col, del⟩ := cd
      obtain ⟨sl⟩ := sl
      dsimp only at hm hs d3 d4
      subst hm hs d4
      have d3 : del = false := by simpa using d3
      subst d3
      rw [d1] at hl
      exact ⟨nm, qn, ns, bs, bm, sn, sb, ab, col, dd, k0, k1, k2, k3, k5, hl, d5⟩
    · cases c1
  · cases c1
def OclT (K : Frag) (mg : Str → Option Value) (cm : Cm) (x : String) (st : Stmt) (ps : List Str) (fs : List Str) (sh : List (Nat × List Str)) : Prop := ∃ C fI fd A, mg x = some (.ref C) ∧ cm x = some C ∧ OexC K C ∧ PySem.W.findIn K (.ref C) "__init__" = some (some (.ref fI)) ∧ PySem.W.typeIn K (.ref fI) = some (.type "function") ∧
  Fun K "__init__" ((x : Str) ++ ".__init__") st fI fd ∧ (∀ f ∈ fs, PySem.W.findIn K (.ref C) f = some none) ∧ (∀ q ∈ sh, q.1 + q.2.length = fs.length ∧ ∀ (s : Shared) (us zs : List Value), us.length = q.1 + 1 → zs.length = q.2.length → BindsTo s fd ⟨us, q.2.zip zs⟩ (ps.zip (us ++ zs))) ∧
  mg "AirError" = some (.ref A) ∧ PySem.W.specialIn K (.ref A) "__getattribute__" = some (some (.builtin "type.__getattribute__")) ∧ PySem.W.readsIn K A (.type "type") = true ∧ PySem.W.findCls K (.ref A) (.type "type") "__init__" = some (.val (.builtin "ValueError.__init__"))
theorem oclT_ok (X : K.In h) (G : h.Ns mainGlobals mg) {xs : List String} {x : String} {st : Stmt} {ps fs : List Str} {sh : List (Nat × List Str)} (a : bAir K = true) (b : bBase K = true) (e : (xs.all fun x => bErr x K) = true) (c : bOwn x fs K = true) (hx : x ∈ xs)
    (F : ∃ fd, FunD K "__init__" ((x : Str) ++ ".__init__") (defArgs st) (defBody st) (defScope st) [] [] (He.ma K (ga K x) "__init__") fd)
    (hs : ∀ q ∈ sh, q.1 + q.2.length = fs.length ∧ ∀ (kV doc pm : Value) (an : Option Addr) (cdv ct : Value) (us zs : List Value), us.length = q.1 + 1 → zs.length = q.2.length → bindArgs (PySem.W.fnOf "__init__" ((x : Str) ++ ".__init__") (defArgs st) (defBody st) (defScope st) .none kV doc pm an cdv ct) ⟨us, q.2.zip zs⟩ = pure (ps.zip (us ++ zs))) : OclT K mg (cmK K xs) x st ps fs sh := by
  obtain ⟨fd, F⟩ := F
  have he := List.all_eq_true.mp e x hx
  obtain ⟨o1, o2, o3, o4⟩ := own_ok he c
  obtain ⟨b1, b2, b3⟩ := base_ok b
  have F2 := fun_of F
  refine ⟨_, _, fd, _, glo_ok X G (err_ok he).1, lookup_map hx, o1, o2, o3, F2, o4, fun q hq => ⟨(hs q hq).1, fun s us zs l1 l2 => ?_⟩, glo_ok X G (He.ba a).1, b1, b2, b3⟩
  obtain ⟨oc, od, kV, doc, pm, an, cdv, ct, osl, rfl, _, _⟩ := F2.ex
  exact .of_eq ((hs q hq).2 kV doc pm an cdv ct us zs l1 l2)
end
/-! ### the end -/
end DH
/-! clauses for errors with fields, from what the top leaves -/
/-! The head with written dicts: their keys, with the hashes of a world. -/
namespace DH
open PySem PySem.Spec PyProof.Rows L2 DL
theorem SaysT.tab {fa : List (Frag → Bool)} {fn : List He.DefD} {ts : List (Str × List Str)} {P : Params} {K : Frag} (c : SaysT fa fn ts P K) (i : Nat) {t : Str × List Str} (h : ts[i]? = some t := by rfl) : He.dicW K (ga K t.1) = some (He.keysIn P t.2) := by
  have e : (tabT ts K)[i]? = (tabV ts P)[i]? := by rw [c.t]
  unfold tabT tabV at e
  rw [List.getElem?_map, List.getElem?_map, h] at e
  exact Option.some.inj e
/-! ### a world by what it says of one row: the kernel can not run a text's hash otherwise -/
/-! ### what a written dict holds -/
theorem dic_keys {K : Frag} {w : World} {a : Addr} {ks : List Str} (h : He.dicW K a = some (He.keysIn w.params ks)) : ∃ es n, KDict K w a es n ∧ es.toList.map He.keyOf = He.keysIn w.params ks := by
  obtain ⟨es, n, D⟩ := He.dicW_ok h
  refine ⟨es, n, D, ?_⟩
  unfold He.dicW at h
  rw [D.at_] at h
  dsimp only at h
  split at h
  · exact Option.some.inj h
  · cases h
theorem keys_miss {P : Params} {z : Str} : ∀ {l : List DictEntry} {ks : List Str}, l.map He.keyOf = He.keysIn P ks → z ∉ ks → l.find? (·.key.isStr z) = none ∧ l.any (·.refKey) = false
  | [], _, _, _ => ⟨rfl, rfl⟩
  | e :: r, [], h, _ => by cases h
  | e :: r, k :: ks, h, hz => by
    have h1 : He.keyOf e :: r.map He.keyOf = some (k, PyData.keyHash P k) :: He.keysIn P ks := h
    injection h1 with h2 h3
    obtain ⟨i1, i2⟩ := keys_miss h3 fun q => hz (List.mem_cons_of_mem _ q)
    obtain ⟨hash, key, val⟩ := e
    unfold He.keyOf at h2
    dsimp only at h2
    cases key with
    | str x t =>
      dsimp only at h2
      have h4 := Option.some.inj h2
      obtain ⟨h5, _⟩ := Prod.mk.inj h4
      have ne : x ≠ z := fun q => hz (by rw [← q, h5]; exact List.mem_cons_self)
      have s1 : (Value.str x t).isStr z = false := by simp [Value.isStr, ne]
      refine ⟨?_, ?_⟩
      · rw [List.find?_cons]
        simp only [s1]
        exact i1
      · rw [List.any_cons, i2]
        rfl
    | _ => cases h2
theorem dic_miss {K : Frag} {w : World} {a : Addr} {es : Array DictEntry} {n : Nat} {ks : List Str} {z : Str} (D : KDict K w a es n) (h : es.toList.map He.keyOf = He.keysIn w.params ks) (hz : z ∉ ks) : PySem.W.nsIn K a z = some none := by
  obtain ⟨h1, h2⟩ := keys_miss h hz
  unfold PySem.W.nsIn
  rw [D.at_]
  dsimp only
  rw [h1, h2]
  rfl
theorem lookup_mem {β : Type} {z : Str} {v : β} : ∀ {l : List (Str × β)}, l.lookup z = some v → (z, v) ∈ l
  | [], h => by cases h
  | (y, u) :: l, h => by
    rw [List.lookup_cons] at h
    by_cases e : z = y
    · subst e
      simp at h
      subst h
      exact List.mem_cons_self
    · have : (z == y) = false := by simpa using e
      rw [this] at h
      exact List.mem_cons_of_mem _ (lookup_mem h)
theorem lookup_no {β : Type} {z : Str} : ∀ {l : List (Str × β)}, l.lookup z = none → z ∉ l.map (·.1)
  | [], _ => by simp
  | (y, u) :: l, h => by
    rw [List.lookup_cons] at h
    by_cases e : z = y
    · subst e
      simp at h
    · have : (z == y) = false := by simpa using e
      rw [this] at h
      have := lookup_no h
      simp only [List.map_cons, List.mem_cons, not_or]
      exact ⟨e, this⟩
section
variable {K : Frag} {h : Heap} {mg : Str → Option Value} {w : World}
theorem wdI_ok (X : K.In h) (G : h.Ns mainGlobals mg) {x : Str} {tbl : List (Str × Int)} (g : bGlo x K = true) (t : He.dicW K (ga K x) = some (He.keysIn w.params (tbl.map (·.1)))) (v : bVals x tbl K = true) : WdI K w mg x tbl := by
  obtain ⟨es, n, D, e⟩ := dic_keys t
  refine ⟨ga K x, es, n, glo_ok X G g, D, fun z i hl => ?_, fun z hl => dic_miss D e (lookup_no hl)⟩
  obtain ⟨u, h1, h2⟩ := He.valsB_ok v (List.mem_map_of_mem (f := fun q : Str × Int => (q.1, He.Dv.int q.2)) (lookup_mem hl))
  obtain ⟨t, rfl⟩ := h2
  exact ⟨t, h1⟩
inductive Dfs (P : Program) (w : World) (K : Frag) (mg : Str → Option Value) (base : Heap) (C : Ca) (cm : Cm) (j : Nat) : List (Str × Str) → List (Str × DF) → Prop
  | nil : Dfs P w K mg base C cm j [] []
  | cons {z y : Str} {F : DF} {i : Nat} {l : List (Str × Str)} {t : List (Str × DF)} : Df P w K mg base C cm y i F → i ≤ j → Dfs P w K mg base C cm j l t → Dfs P w K mg base C cm j ((z, y) :: l) ((z, F) :: t)
theorem Dfs.get {P : Program} {base : Heap} {C : Ca} {cm : Cm} {j : Nat} {l : List (Str × Str)} {t : List (Str × DF)} (d : Dfs P w K mg base C cm j l t) {z : Str} {F : DF} : t.lookup z = some F → ∃ y i, (z, y) ∈ l ∧ i ≤ j ∧ Df P w K mg base C cm y i F := by
  induction d with
  | nil => intro h; cases h
  | @cons z' y F' i l t d hi r ih =>
    intro h
    rw [List.lookup_cons] at h
    by_cases e : z = z'
    · subst e
      simp at h
      subst h
      exact ⟨y, i, List.mem_cons_self, hi, d⟩
    · have : (z == z') = false := by simpa using e
      rw [this] at h
      obtain ⟨y, i, h1, h2, h3⟩ := ih h
      exact ⟨y, i, List.mem_cons_of_mem _ h1, h2, h3⟩
theorem wdF_ok (X : K.In h) (G : h.Ns mainGlobals mg) {P : Program} {base : Heap} {C : Ca} {cm : Cm} {j : Nat} {x : Str} {ks : List Str} {l : List (Str × Str)} {t : List (Str × DF)} (g : bGlo x K = true) (gs : ∀ q ∈ l, bGlo q.2 K = true) (tb : He.dicW K (ga K x) = some (He.keysIn w.params ks)) (v : bFns x l K = true) (d : Dfs P w K mg base C cm j l t) : WdF P w K mg base C cm x j t := by
  obtain ⟨es, n, D, e⟩ := dic_keys tb
  refine ⟨ga K x, es, n, glo_ok X G g, D, fun z F hl => ?_⟩
  obtain ⟨y, i, h1, h2, h3⟩ := d.get hl
  obtain ⟨f, fd, ps, m1, m2, m3, m4⟩ := h3.ex
  have hn := He.eqO_ok (List.all_eq_true.mp v (z, y) h1)
  have hy := glo_ok X G (gs (z, y) h1)
  dsimp only at hn hy
  rw [hy] at m1
  cases m1
  exact ⟨_, fd, ps, i, hn, h2, m2, m3, m4⟩
end
/-! ### the end -/
theorem walkT {l : PySem.W.OpenLaw} {k n : Nat} {q : Program} {loose : List Str} {XP : (Str → Option Value) → Heap → Prop} {d : DefRec} {facts : List (Frag → Bool)} {defs : List He.DefD} {tbs : List (Str × List Str)} {F : DF} (hn : l.most = some 63) (hdf : d.params.defaults = []) (hr : Room k callerA)
    (hF : ∀ (w : World) (mg : Str → Option Value) (fa : Addr) (h : Heap) (K : Frag), K.In h → h.Ns mainGlobals mg → mg d.name = some (.ref fa) → SaysT facts defs tbs w.params K →
      ∃ (fd : FuncData) (cs : List (Addr × Addr)) (T : List (Addr × Str)) (C : Addr) (cm : Cm), (∀ (s : Shared) (u : Value), BindsTo s fd ⟨[u], []⟩ [("script", u)]) ∧
        (∀ p ∈ cs, (∃ x, ((PyProof.Rows.recsOf q).any fun e => e.name == x) = true ∧ PySem.W.tabIn K x = some p) ∧ K.lookup p.2 = none) ∧ (∀ t ∈ T, ∃ p ∈ cs, p.2 = t.1) ∧
        ∀ base : Heap, K.In base → base.Ns mainGlobals mg → (∀ p ∈ cs, LamX.TabB base mg p.1 p.2) → FnOk l.prog w K mg base (L2.CX l.prog w) k fa fd ["script"] (spD ⟨K, ⟨C, T⟩, cm⟩ F))
    (ht : ∀ ns : List Int, ns.length ≤ 63 → ∃ m w, F [.scr ns] W0 = .ok ⟨m, .bl true⟩ w) : PySem.W.WalkO q loose XP (hookT n facts defs tbs).says l.row.toRowW d [] (fun f vs => PySem.call f vs) := by
  refine Att.attach_callB hn hdf ?_
  intro w s₀ s₁ mg mb fa o pm cd doc a vs ns Gd Y ho hd hcd hmg hobj hints hlen hbits hg
  obtain ⟨K, KX, hs⟩ := Y
  obtain ⟨fd, cs, T, C, cm, hb, hcs, hT, hF⟩ := hF w mg fa _ K KX Gd.T.g hmg hs
  have tabs : ∀ p ∈ cs, PySem.W.CodeHd s₁.heap p.1 p.2 ∧ s₁.heap.get? p.2 = some (PySem.W.tabObj #[]) := fun p hp => by
    obtain ⟨⟨x, h1, h2⟩, _⟩ := hcs p hp
    obtain ⟨dr, hdr⟩ : ∃ dr, (PyProof.Rows.recsOf q).find? (fun e => e.name == x) = some dr := by
      obtain ⟨e, he, hx⟩ := List.any_eq_true.mp h1
      cases h : (PyProof.Rows.recsOf q).find? (fun e => e.name == x) with
      | some dr => exact ⟨dr, rfl⟩
      | none => exact absurd hx (by simpa using List.find?_eq_none.mp h e he)
    exact PySem.W.tab_of Gd.T KX hdr h2
  refine LamX.law_callTs KX Gd.T.g Gd.T.b Gd.T.builtins Gd.T.nolimit hg (fun p hp => (tabs p hp).2) (fun p hp => (hcs p hp).2) (fun p hp => (tabs p hp).1) Gd.T.bmain hobj hints (Nat.le_trans hlen (by decide)) hr hF hb ?_ ?_
  · intro H hH hS
    refine law_sp (ht ns hlen) ?_ hS
    intro t htm
    obtain ⟨p, hp, e⟩ := hT t htm
    exact .nil (e ▸ hH p hp)
  · intro H e s' z
    exact cx_no z
end DH
namespace DL
open PySem L2
theorem ro {j : Int} (h : -10000 ≤ j) (h2 : j ≤ 10000) : RO j := by unfold RO; omega
noncomputable def rng1 : List Val → W → R (List D × Bool) := fun xs w => match xs with | [⟨_, .int j⟩] => if RO j then .ok (rngD 0 j.toNat, true) w else .bad | _ => .bad
noncomputable def rng2 : List Val → W → R (List D × Bool) := fun xs w => match xs with | [⟨_, .int i⟩, ⟨_, .int j⟩] => if RO2 i j then .ok (rngD i (j - i).toNat, true) w else .bad | _ => .bad
section
variable (ρ : Env) (w : W) (fa fb fc : DE) (g g' : Val → Val → W → R Val) (fA fB : DT) (fr : DA) (s s' : DS) (x y : Val) (m m' : Md)
@[simp] theorem bind_ok {α β : Type} (a : α) (f : α → W → R β) : (R.ok a w).bind f = f a w := rfl
@[simp] theorem rthn_ok {α : Type} (a : α) (f : α → W → Out) : (R.ok a w).thn ρ f = f a w := rfl
@[simp] theorem othn_next (f : DS) : (Out.next ρ w).thn f = f ρ w := rfl
@[simp] theorem othn_ret (f : DS) : (Out.ret x w).thn f = .ret x w := rfl
@[simp] theorem chk_eq {α : Type} (r : R α) : chk x w w r = r := by simp [chk]
@[simp] theorem dVar_s (i : Nat) : dVar i ρ w = match ρ[i]? with | some (some x) => .ok ⟨if x.m = .nw then .bo else x.m, x.d⟩ w | _ => .bad := rfl
@[simp] theorem dC_s (d : D) : dC d ρ w = .ok (fz d) w := rfl
@[simp] theorem dOp_s : dOp g fa fb ρ w = (fa ρ w).bind fun x w1 => (fb ρ w1).bind fun y w2 => chk x w1 w2 (g x y w2) := rfl
@[simp] theorem dUn_s (g : Val → W → R Val) : dUn g fa ρ w = (fa ρ w).bind fun x w => g x w := rfl
@[simp] theorem dCB_s (g : List Val → W → R Val) : dCB g fr ρ w = (fr ρ w).bind fun x w => g x w := rfl
@[simp] theorem tst_s : tst fa ρ w = (fa ρ w).bind fun x w => match x.d with | .bl b => .ok b w | _ => .bad := rfl
@[simp] theorem dNot_s : dNot fA ρ w = (fA ρ w).bind fun b w => .ok (!b) w := rfl
@[simp] theorem dAnd_s : dAnd fA fB ρ w = (fA ρ w).bind fun b w => if b then fB ρ w else .ok false w := rfl
@[simp] theorem dOr_s : dOr fA fB ρ w = (fA ρ w).bind fun b w => if b then .ok true w else fB ρ w := rfl
@[simp] theorem dAndV_s : dAndV fa fb ρ w = (fa ρ w).bind fun x w => match x.d with | .bl true => fb ρ w | .bl false => .ok (fz (.bl false)) w | _ => .bad := rfl
@[simp] theorem dOrV_s : dOrV fa fb ρ w = (fa ρ w).bind fun x w => match x.d with | .bl false => fb ρ w | .bl true => .ok (fz (.bl true)) w | _ => .bad := rfl
@[simp] theorem dNotV_s : dNotV fa ρ w = (fa ρ w).bind fun x w => match x.d with | .bl b => .ok (fz (.bl (!b))) w | _ => .bad := rfl
@[simp] theorem dIf_s : dIf fA fa fb ρ w = (fA ρ w).bind fun b w => if b then fa ρ w else fb ρ w := rfl
@[simp] theorem dNil_s : dNil ρ w = .ok [] w := rfl
@[simp] theorem dOne_s : dOne fa ρ w = (fa ρ w).bind fun x w => .ok [x] w := rfl
@[simp] theorem dCons_s : dCons fa fr ρ w = (fa ρ w).bind fun x w1 => (fr ρ w1).bind fun xs w2 => chk x w1 w2 (.ok (x :: xs) w2) := rfl
@[simp] theorem dTup_s : dTup fr ρ w = (fr ρ w).bind fun xs w => match frzD xs with | some ds => if ds.length ≤ sizeLine then .ok (fz (.tup ds)) w else .bad | none => .bad := rfl
@[simp] theorem dLst_s : dLst fr ρ w = (fr ρ w).bind fun xs w => match frzD xs with | some ds => if ds.length ≤ sizeLine then .ok ⟨.nw, .lst ds⟩ w else .bad | none => .bad := rfl
@[simp] theorem frzD_nil : frzD [] = some [] := rfl
@[simp] theorem frzD_fz (d : D) (xs : List Val) : frzD (⟨.fz, d⟩ :: xs) = (frzD xs).map (d :: ·) := by simp only [frzD]; cases frzD xs <;> rfl
@[simp] theorem frzD_nw (d : D) (xs : List Val) : frzD (⟨.nw, d⟩ :: xs) = (frzD xs).map (d :: ·) := by simp only [frzD]; cases frzD xs <;> rfl
@[simp] theorem dChain_s : dChain g g' fa fb fc ρ w = (fa ρ w).bind fun x w1 => (fb ρ w1).bind fun y w2 => chk x w1 w2 ((g x y w2).bind fun z w3 => match z.d with | .bl true => (fc ρ w3).bind fun u w4 => chk y w2 w4 (g' y u w4) | .bl false => .ok (fz (.bl false)) w3 | _ => .bad) := rfl
@[simp] theorem dCall_s (F : DF) (dds : List D) : dCall F dds fr ρ w = (fr ρ w).bind fun xs w => match frzD xs with | some ds => F (ds ++ dds) w | none => .bad := rfl
@[simp] theorem dCallP_s (F : DF) (dds : List D) : dCallP F dds fr ρ w = (fr ρ w).bind fun xs w => match borD xs with
  | some ds => (match F (ds ++ dds) w with
    | .ok x w2 => if imV x ∧ w2.n = w.n ∧ w2.lk = w.lk then .ok x w else .bad
    | .ex x w2 => if x.fs.isEmpty ∧ w2.n = w.n ∧ w2.lk = w.lk then .ex x w else .bad
    | .bad => .bad)
  | none => .bad := rfl
@[simp] theorem dNo_s : dNo ρ w = .ok none w := rfl
@[simp] theorem dPart_s : dPart fa ρ w = (fa ρ w).bind fun x w => match x.d with | .int i => .ok (some i) w | _ => .bad := rfl
@[simp] theorem dSl_s (fl fh : DO) : dSl fa fl fh ρ w = (fa ρ w).bind fun x w1 => (fl ρ w1).bind fun lo w2 => (fh ρ w2).bind fun hi w3 => chk x w1 w3 (gSl x lo hi w3) := rfl
/-! statements -/
@[simp] theorem sNext_s : sNext ρ w = .next ρ w := rfl
@[simp] theorem sSeq_s : sSeq s s' ρ w = (s ρ w).thn s' := rfl
@[simp] theorem sSet_s (i : Nat) : sSet i fa ρ w = (fa ρ w).thn ρ fun x w => if keepM x then .next (ρ.set i (some x)) w else .bad := rfl
@[simp] theorem sSetF_s (i : Nat) : sSetF i fa ρ w = (fa ρ w).thn ρ fun x w => if keepM x then .next (ρ.set i (some (fz x.d))) w else .bad := rfl
@[simp] theorem sParF_s (is : List Nat) (fl : List Bool) : sParF is fl fr ρ w = (fr ρ w).thn ρ fun xs w => if is.length = xs.length ∧ fl.length = xs.length ∧ xs.all keepM then .next (setXs is (frzF fl xs) ρ) w else .bad := rfl
@[simp] theorem sSetT_s (is : List Nat) : sSetT is fa ρ w = (fa ρ w).thn ρ fun x w => match x.d with | .tup ds => if is.length = ds.length then .next (setAll is ds ρ) w else .bad | _ => .bad := rfl
@[simp] theorem sRet_s : sRet fa ρ w = (fa ρ w).thn ρ fun x w => if keepM x then .ret x w else .bad := rfl
@[simp] theorem sRetV_s (i : Nat) : sRetV i ρ w = match ρ[i]? with | some (some x) => .ret x w | _ => .bad := rfl
@[simp] theorem sIf_s : sIf fA s s' ρ w = (fA ρ w).thn ρ fun b w => if b then s ρ w else s' ρ w := rfl
@[simp] theorem sFrz_s (i : Nat) : sFrz i s ρ w = match ρ[i]? with | some (some x) => s (ρ.set i (some (fz x.d))) w | _ => .bad := rfl
@[simp] theorem sApp_s (i : Nat) : sApp i fa ρ w = match ownL ρ i with | some ds => (fa ρ w).thn ρ fun x w => if keepM x ∧ ds.length < sizeLine then .next (ρ.set i (some ⟨.nw, .lst (ds ++ [x.d])⟩)) w else .bad | none => .bad := rfl
@[simp] theorem sExt_s (i : Nat) : sExt i fa ρ w = match ownL ρ i with | some ds => ((fa ρ w).thn ρ fun x w => match x.d with | .lst es => if ds.length + es.length ≤ sizeLine then .next (ρ.set i (some ⟨.nw, .lst (ds ++ es)⟩)) w else .bad | _ => .bad) | none => .bad := rfl
@[simp] theorem ownL_s (i : Nat) : ownL ρ i = match ρ[i]? with | some (some ⟨.nw, .lst ds⟩) => some ds | _ => none := rfl
@[simp] theorem sFor_s (f : DI) (t : Tg) : sFor f t s ρ w = (f ρ w).thn ρ fun x w => if x.2 then forL t s x.1 ρ w else .bad := rfl
@[simp] theorem iSq_fz (ds : List D) (h : fa ρ w = .ok ⟨.fz, .lst ds⟩ w) : iSq fa ρ w = .ok (ds, true) w := by simp [iSq, h, keepM]
@[simp] theorem iR1_s : iR1 fr ρ w = (fr ρ w).bind rng1 := rfl
@[simp] theorem iR2_s : iR2 fr ρ w = (fr ρ w).bind rng2 := rfl
@[simp] theorem rng1_s {j : Int} (h : RO j) : rng1 [⟨m, .int j⟩] w = .ok (rngD 0 j.toNat, true) w := if_pos h
@[simp] theorem rng2_s {i j : Int} (h : RO2 i j) : rng2 [⟨m, .int i⟩, ⟨m', .int j⟩] w = .ok (rngD i (j - i).toNat, true) w := if_pos h
@[simp] theorem keepM_fz (d : D) : keepM ⟨.fz, d⟩ = true := rfl
@[simp] theorem keepM_nw (d : D) : keepM ⟨.nw, d⟩ = true := rfl
@[simp] theorem setXs_nil (xs : List Val) : setXs [] xs ρ = ρ := rfl
@[simp] theorem setAll_nil (xs : List D) : setAll [] xs ρ = ρ := rfl
@[simp] theorem setAll_cons (i : Nat) (is : List Nat) (d : D) (ds : List D) : setAll (i :: is) (d :: ds) ρ = setAll is ds (ρ.set i (some (fz d))) := rfl
@[simp] theorem setXs_cons (i : Nat) (is : List Nat) (v : Val) (xs : List Val) : setXs (i :: is) (v :: xs) ρ = setXs is xs (ρ.set i (some v)) := rfl
@[simp] theorem frzF_nil : frzF [] [] = [] := rfl
@[simp] theorem frzF_cons (b : Bool) (bs : List Bool) (v : Val) (xs : List Val) : frzF (b :: bs) (v :: xs) = (if b then v else fz v.d) :: frzF bs xs := rfl
@[simp] theorem sz_0 : (0 : Nat) ≤ sizeLine := by decide
@[simp] theorem sz_1 : (1 : Nat) ≤ sizeLine := by decide
@[simp] theorem sz_2 : (2 : Nat) ≤ sizeLine := by decide
@[simp] theorem sz_3 : (3 : Nat) ≤ sizeLine := by decide
@[simp] theorem sz_4 : (4 : Nat) ≤ sizeLine := by decide
@[simp] theorem sz_5 : (5 : Nat) ≤ sizeLine := by decide
@[simp] theorem sz_6 : (6 : Nat) ≤ sizeLine := by decide
@[simp] theorem sz_7 : (7 : Nat) ≤ sizeLine := by decide
@[simp] theorem sz_8 : (8 : Nat) ≤ sizeLine := by decide
@[simp] theorem sz_9 : (9 : Nat) ≤ sizeLine := by decide
@[simp] theorem sz_10 : (10 : Nat) ≤ sizeLine := by decide
@[simp] theorem sz_11 : (11 : Nat) ≤ sizeLine := by decide
@[simp] theorem sz_12 : (12 : Nat) ≤ sizeLine := by decide
@[simp] theorem sz_13 : (13 : Nat) ≤ sizeLine := by decide
@[simp] theorem sz_14 : (14 : Nat) ≤ sizeLine := by decide
@[simp] theorem sz_15 : (15 : Nat) ≤ sizeLine := by decide
@[simp] theorem sz_16 : (16 : Nat) ≤ sizeLine := by decide
@[simp] theorem sz_17 : (17 : Nat) ≤ sizeLine := by decide
@[simp] theorem sz_18 : (18 : Nat) ≤ sizeLine := by decide
@[simp] theorem sz_19 : (19 : Nat) ≤ sizeLine := by decide
@[simp] theorem sz_20 : (20 : Nat) ≤ sizeLine := by decide
@[simp] theorem sz_21 : (21 : Nat) ≤ sizeLine := by decide
@[simp] theorem sz_22 : (22 : Nat) ≤ sizeLine := by decide
@[simp] theorem sz_23 : (23 : Nat) ≤ sizeLine := by decide
@[simp] theorem sz_24 : (24 : Nat) ≤ sizeLine := by decide
@[simp] theorem sz_25 : (25 : Nat) ≤ sizeLine := by decide
@[simp] theorem sz_26 : (26 : Nat) ≤ sizeLine := by decide
@[simp] theorem sz_27 : (27 : Nat) ≤ sizeLine := by decide
@[simp] theorem sz_28 : (28 : Nat) ≤ sizeLine := by decide
@[simp] theorem sz_29 : (29 : Nat) ≤ sizeLine := by decide
@[simp] theorem sz_30 : (30 : Nat) ≤ sizeLine := by decide
@[simp] theorem sz_31 : (31 : Nat) ≤ sizeLine := by decide
@[simp] theorem sz_32 : (32 : Nat) ≤ sizeLine := by decide
@[simp] theorem sz_33 : (33 : Nat) ≤ sizeLine := by decide
@[simp] theorem sz_34 : (34 : Nat) ≤ sizeLine := by decide
@[simp] theorem sz_35 : (35 : Nat) ≤ sizeLine := by decide
@[simp] theorem sz_36 : (36 : Nat) ≤ sizeLine := by decide
@[simp] theorem sz_37 : (37 : Nat) ≤ sizeLine := by decide
@[simp] theorem sz_38 : (38 : Nat) ≤ sizeLine := by decide
@[simp] theorem sz_39 : (39 : Nat) ≤ sizeLine := by decide
@[simp] theorem sz_40 : (40 : Nat) ≤ sizeLine := by decide
@[simp] theorem szl_0 : (0 : Nat) < sizeLine := by decide
@[simp] theorem szl_1 : (1 : Nat) < sizeLine := by decide
@[simp] theorem szl_2 : (2 : Nat) < sizeLine := by decide
@[simp] theorem szl_3 : (3 : Nat) < sizeLine := by decide
@[simp] theorem szl_4 : (4 : Nat) < sizeLine := by decide
@[simp] theorem szl_5 : (5 : Nat) < sizeLine := by decide
@[simp] theorem szl_6 : (6 : Nat) < sizeLine := by decide
@[simp] theorem szl_7 : (7 : Nat) < sizeLine := by decide
@[simp] theorem szl_8 : (8 : Nat) < sizeLine := by decide
@[simp] theorem szl_9 : (9 : Nat) < sizeLine := by decide
@[simp] theorem szl_10 : (10 : Nat) < sizeLine := by decide
@[simp] theorem szl_11 : (11 : Nat) < sizeLine := by decide
@[simp] theorem szl_12 : (12 : Nat) < sizeLine := by decide
@[simp] theorem szl_13 : (13 : Nat) < sizeLine := by decide
@[simp] theorem szl_14 : (14 : Nat) < sizeLine := by decide
@[simp] theorem szl_15 : (15 : Nat) < sizeLine := by decide
@[simp] theorem szl_16 : (16 : Nat) < sizeLine := by decide
@[simp] theorem szl_17 : (17 : Nat) < sizeLine := by decide
@[simp] theorem szl_18 : (18 : Nat) < sizeLine := by decide
@[simp] theorem szl_19 : (19 : Nat) < sizeLine := by decide
@[simp] theorem szl_20 : (20 : Nat) < sizeLine := by decide
@[simp] theorem szl_21 : (21 : Nat) < sizeLine := by decide
@[simp] theorem szl_22 : (22 : Nat) < sizeLine := by decide
@[simp] theorem szl_23 : (23 : Nat) < sizeLine := by decide
@[simp] theorem szl_24 : (24 : Nat) < sizeLine := by decide
@[simp] theorem szl_25 : (25 : Nat) < sizeLine := by decide
@[simp] theorem szl_26 : (26 : Nat) < sizeLine := by decide
@[simp] theorem szl_27 : (27 : Nat) < sizeLine := by decide
@[simp] theorem szl_28 : (28 : Nat) < sizeLine := by decide
@[simp] theorem szl_29 : (29 : Nat) < sizeLine := by decide
@[simp] theorem szl_30 : (30 : Nat) < sizeLine := by decide
@[simp] theorem szl_31 : (31 : Nat) < sizeLine := by decide
@[simp] theorem szl_32 : (32 : Nat) < sizeLine := by decide
@[simp] theorem szl_33 : (33 : Nat) < sizeLine := by decide
@[simp] theorem szl_34 : (34 : Nat) < sizeLine := by decide
@[simp] theorem szl_35 : (35 : Nat) < sizeLine := by decide
@[simp] theorem szl_36 : (36 : Nat) < sizeLine := by decide
@[simp] theorem szl_37 : (37 : Nat) < sizeLine := by decide
@[simp] theorem szl_38 : (38 : Nat) < sizeLine := by decide
@[simp] theorem szl_39 : (39 : Nat) < sizeLine := by decide
@[simp] theorem szl_40 : (40 : Nat) < sizeLine := by decide
theorem sz_le {n : Nat} (h : n ≤ 10000) : n ≤ sizeLine := Nat.le_trans h (by decide)
theorem sz_lt {n : Nat} (h : n ≤ 10000) : n < sizeLine := Nat.lt_of_le_of_lt h (by decide)
/-! operations -/
@[simp] theorem gAdd_ii (i j : Int) : gAdd ⟨m, .int i⟩ ⟨m', .int j⟩ w = .ok (fz (.int (i + j))) w := rfl
@[simp] theorem gMul_ii (i j : Int) (h : CMul i j) : gMul ⟨m, .int i⟩ ⟨m', .int j⟩ w = .ok (fz (.int (i * j))) w := by simp [gMul, h]
@[simp] theorem gI0_ii (f : Int → Int → D) (i j : Int) : gI0 f ⟨m, .int i⟩ ⟨m', .int j⟩ w = .ok (fz (f i j)) w := rfl
@[simp] theorem gDiv_ii (i j : Int) (h : CDivW i j) : gDiv ⟨m, .int i⟩ ⟨m', .int j⟩ w = .ok (fz (.int (i / j))) w := by simp [gDiv, gI, h]
@[simp] theorem gMod_ii (i j : Int) (h : 0 < j) : gMod ⟨m, .int i⟩ ⟨m', .int j⟩ w = .ok (fz (.int (i % j))) w := by simp [gMod, gI, h]
@[simp] theorem gPow_ii (i j : Int) (h : CPow i j) : gPow ⟨m, .int i⟩ ⟨m', .int j⟩ w = .ok (fz (.int (i ^ j.toNat))) w := by simp [gPow, gI, h]
@[simp] theorem gNeg_i (i : Int) : gNeg ⟨m, .int i⟩ w = .ok (fz (.int (-i))) w := rfl
@[simp] theorem gEq_ii (b : Bool) (i j : Int) : gEq b ⟨m, .int i⟩ ⟨m', .int j⟩ w = .ok (fz (.bl (b != (i == j)))) w := rfl
@[simp] theorem gMax2_ii (i j : Int) : gMax2 [⟨m, .int i⟩, ⟨m', .int j⟩] w = .ok (fz (.int (if j > i then j else i))) w := rfl
@[simp] theorem gMin2_ii (i j : Int) : gMin2 [⟨m, .int i⟩, ⟨m', .int j⟩] w = .ok (fz (.int (if j < i then j else i))) w := rfl
@[simp] theorem gLen_l (ds : List D) : gLen [⟨m, .lst ds⟩] w = .ok (fz (.int ds.length)) w := rfl
@[simp] theorem gLen_t (ds : List D) : gLen [⟨m, .tup ds⟩] w = .ok (fz (.int ds.length)) w := rfl
@[simp] theorem gLen_s (ns : List Int) : gLen [⟨m, .scr ns⟩] w = .ok (fz (.int ns.length)) w := rfl
@[simp] theorem gIx_l (ds : List D) (i : Int) : gIx ⟨m, .lst ds⟩ ⟨m', .int i⟩ w = match atI ds i with | some d => .ok (fz d) w | none => .bad := rfl
@[simp] theorem gIx_t (ds : List D) (i : Int) : gIx ⟨m, .tup ds⟩ ⟨m', .int i⟩ w = match atI ds i with | some d => .ok (fz d) w | none => .bad := rfl
theorem gIx_scr (ns : List Int) (i : Int) : gIx ⟨m, .scr ns⟩ ⟨m', .int i⟩ w = match atI ns i with | some n => .ok (fz (.int n)) w | none => .bad := rfl
@[simp] theorem gSl_l (ds : List D) (lo hi : Option Int) : gSl ⟨m, .lst ds⟩ lo hi w = .ok ⟨.nw, .lst (cutL ds lo hi)⟩ w := rfl
@[simp] theorem gAdd_ll (xs ys : List D) (h : xs.length + ys.length ≤ sizeLine) : gAdd ⟨m, .lst xs⟩ ⟨m', .lst ys⟩ w = .ok ⟨.nw, .lst (xs ++ ys)⟩ w := by simp [gAdd, h]
@[simp] theorem gInt_b (b : Bool) : gInt [⟨m, .bl b⟩] w = .ok (fz (.int (if b then 1 else 0))) w := rfl
@[simp] theorem gInt_i (i : Int) : gInt [⟨m, .int i⟩] w = .ok (fz (.int i)) w := rfl
@[simp] theorem gList_l (ds : List D) : gList [⟨m, .lst ds⟩] w = .ok ⟨.nw, .lst ds⟩ w := rfl
theorem gEq_scrN (ns : List Int) : gEq true ⟨m, .scr ns⟩ ⟨m', .lst []⟩ w = .ok (fz (.bl (ns != []))) w := by
  cases ns <;> rfl
end
theorem atI_pos {α : Type} {xs : List α} {i : Int} (h0 : 0 ≤ i) (h1 : i < xs.length) : atI xs i = xs[i.toNat]? := by
  unfold atI ixN
  rw [if_pos h0, if_pos h1]
  rfl
theorem cdiv (i j : Int) (h : 0 < j) (h2 : j < 2 ^ 64) : CDivW i j := by
  refine ⟨h, ?_⟩
  have h3 : j.natAbs < 2 ^ 64 := by omega
  by_cases hz : j.natAbs = 0
  · rw [hz]; decide
  · have := (Nat.log2_lt hz).mpr h3
    omega
theorem cpow_10_18 : CPow 10 18 := ⟨by decide, by decide, by decide⟩
theorem cmulR (i j : Int) (h : -(2 ^ 64) < j) (h2 : j < 2 ^ 64) : CMul i j := .inr ⟨h, h2⟩
theorem cmulL (i j : Int) (h : -(2 ^ 64) < i) (h2 : i < 2 ^ 64) : CMul i j := .inl ⟨h, h2⟩
/-- a loop that leaves the world as it is -/
theorem forL_pure {t : Tg} {b : DS} (I : Nat → Env → Prop) : ∀ (ds : List D) (k : Nat) (ρ : Env), I k ρ → (∀ (i : Nat) (d : D) (ρ : Env), ds[i]? = some d → I (k + i) ρ → ∃ ρ1 ρ2, setT t d ρ = some ρ1 ∧ (∀ w, b ρ1 w = .next ρ2 w) ∧ I (k + i + 1) ρ2) →
    ∃ ρ', (∀ w, forL t b ds ρ w = .next ρ' w) ∧ I (k + ds.length) ρ'
  | [], k, ρ, h0, _ => ⟨ρ, fun _ => rfl, h0⟩
  | d :: ds, k, ρ, h0, hs => by
    obtain ⟨ρ1, ρ2, e1, e2, h1⟩ := hs 0 d ρ rfl h0
    obtain ⟨ρ', e, h⟩ := forL_pure I ds (k + 1) ρ2 h1 fun i d' ρ hd hi => by
      have := hs (i + 1) d' ρ (by simpa using hd) (by rw [show k + (i + 1) = k + 1 + i by omega]; exact hi)
      rw [show k + (i + 1) + 1 = k + 1 + i + 1 by omega] at this
      exact this
    refine ⟨ρ', fun w => ?_, by rw [show k + (d :: ds).length = k + 1 + ds.length by simp; omega]; exact h⟩
    unfold forL
    rw [e1]
    simp only [e2]
    exact e w
theorem rngD_get {lo : Int} {n i : Nat} {d : D} (h : (rngD lo n)[i]? = some d) : i < n ∧ d = .int (lo + i) := by
  have hi : i < n := by have := (List.getElem?_eq_some_iff.mp h).1; simpa [rngD] using this
  refine ⟨hi, ?_⟩
  unfold rngD at h
  rw [List.getElem?_map, List.getElem?_range hi] at h
  exact (Option.some.inj h).symm
@[simp] theorem rngD_length (lo : Int) (n : Nat) : (rngD lo n).length = n := by simp [rngD]
@[simp] theorem setT_nm (i : Nat) (d : D) (ρ : Env) : setT (.nm i) d ρ = some (ρ.set i (some (fz d))) := rfl
theorem atI_ints (vs : List Int) (p : Int) (h0 : 0 ≤ p) (h1 : p < vs.length) : ∃ v ∈ vs, atI (vs.map D.int) p = some (.int v) := by
  have hp : p.toNat < vs.length := by omega
  refine ⟨vs[p.toNat], List.getElem_mem hp, ?_⟩
  rw [atI_pos h0 (by simpa using h1), List.getElem?_map, List.getElem?_eq_getElem hp]
  rfl
/-- a text by its signs -/
def nm (cs : List Nat) : Str := ⟨cs.toArray⟩
theorem nm_app (a b : List Nat) : nm a ++ nm b = nm (a ++ b) := by
  show Str.append (nm a) (nm b) = _
  simp [Str.append, nm]
theorem nm_len (a : List Nat) : (nm a).length = a.length := by simp [nm, Str.length]
theorem nm_inj {a b : List Nat} (h : nm a = nm b) : a = b := by
  have := congrArg (fun s : Str => s.cps.toList) h
  simpa [nm] using this
/-- a small letter -/
def Lt (c : Nat) : Prop := 97 ≤ c ∧ c ≤ 122
theorem letters_ix {p : Int} (h0 : 0 ≤ p) (h1 : p < 26) (m m' : Md) (w : W) : gIx ⟨m, .str "abcdefghijklmnopqrstuvwxyz"⟩ ⟨m', .int p⟩ w = .ok (fz (.str (nm [97 + p.toNat]))) w := by
  have key : ∀ q : Fin 26, (Str.ofString "abcdefghijklmnopqrstuvwxyz").cps.toList[q.1]? = some (97 + q.1) := by decide +kernel
  have hl : (Str.ofString "abcdefghijklmnopqrstuvwxyz").cps.toList.length = 26 := by decide +kernel
  have hs : (Str.ofString "abcdefghijklmnopqrstuvwxyz").length ≤ sizeLine := by decide +kernel
  simp only [gIx, hs, if_true]
  rw [atI_pos h0 (by rw [hl]; exact h1), key ⟨p.toNat, by omega⟩]
  rfl
/-! ### comprehensions -/
theorem lcL_map {α : Type} (dd : α → D) (p : α → Bool) (g : α → D) {t : Tg} {c : DT} {f : DE} {ρ : Env} : ∀ (as : List α),
    (∀ a ∈ as, ∃ ρ', setT t (dd a) ρ = some ρ' ∧ (∀ w, c ρ' w = .ok (p a) w) ∧ (p a = true → ∃ m, keepM ⟨m, g a⟩ = true ∧ ∀ w, f ρ' w = .ok ⟨m, g a⟩ w)) → ∀ w, lcL t c f (as.map dd) ρ w = .ok ((as.filter p).map g) w
  | [], _, w => rfl
  | a :: as, h, w => by
    obtain ⟨ρ', e1, e2, e3⟩ := h a List.mem_cons_self
    have ih := lcL_map dd p g (t := t) (c := c) (f := f) (ρ := ρ) as (fun b hb => h b (List.mem_cons_of_mem _ hb)) w
    rw [List.map_cons]
    unfold lcL
    rw [e1]
    simp only [e2, if_true]
    cases hp : p a with
    | false =>
      simp only [Bool.false_eq_true, if_false]
      rw [ih, List.filter_cons, hp]
      rfl
    | true =>
      obtain ⟨m, k1, k2⟩ := e3 hp
      simp only [if_true, k2, k1]
      rw [ih, List.filter_cons, hp]
      simp
theorem lcL_all {α : Type} (dd : α → D) (g : α → D) {t : Tg} {f : DE} {ρ : Env} (as : List α) (h : ∀ a ∈ as, ∃ ρ', setT t (dd a) ρ = some ρ' ∧ ∃ m, keepM ⟨m, g a⟩ = true ∧ ∀ w, f ρ' w = .ok ⟨m, g a⟩ w) (w : W) : lcL t tYesD f (as.map dd) ρ w = .ok (as.map g) w := by
  have := lcL_map dd (fun _ => true) g (t := t) (c := tYesD) (f := f) (ρ := ρ) as (fun a ha => by
    obtain ⟨ρ', e1, m, k1, k2⟩ := h a ha
    exact ⟨ρ', e1, fun _ => rfl, fun _ => ⟨m, k1, k2⟩⟩) w
  rw [this, List.filter_eq_self.mpr (fun _ _ => rfl)]
theorem dLc_s (fi : DI) (t : Tg) (c : DT) (f : DE) (vs : List Nat) (ρ : Env) (w : W) : dLc fi t c f vs ρ w = (fi ρ w).bind fun x w1 => if x.1.length ≤ sizeLine then (match lcL t c f x.1 (wipeD ρ vs) w1 with | .ok r w2 => .ok ⟨.nw, .lst r⟩ w2 | _ => .bad) else .bad := rfl
theorem dLc_ok {fi : DI} {t : Tg} {c : DT} {f : DE} {vs : List Nat} {ρ : Env} {w : W} {ds r : List D} {b : Bool} (hi : fi ρ w = .ok (ds, b) w) (hs : ds.length ≤ sizeLine) (h : lcL t c f ds (wipeD ρ vs) w = .ok r w) : dLc fi t c f vs ρ w = .ok ⟨.nw, .lst r⟩ w := by
  rw [dLc_s, hi]
  simp [hs, h]
@[simp] theorem wipeD_nil (ρ : Env) : wipeD ρ [] = ρ := rfl
@[simp] theorem wipeD_cons (ρ : Env) (v : Nat) (vs : List Nat) : wipeD ρ (v :: vs) = (wipeD ρ vs).set v none := rfl
@[simp] theorem tYesD_s (ρ : Env) (w : W) : tYesD ρ w = .ok true w := rfl
theorem blsOf_mapF {α : Type} (f : α → Bool) : ∀ as : List α, blsOf (as.map fun a => D.bl (f a)) = some (as.map f)
  | [] => rfl
  | a :: as => by simp only [List.map_cons, blsOf, blsOf_mapF f as]; rfl
theorem intsOf_mapF {α : Type} (f : α → Int) : ∀ as : List α, intsOf (as.map fun a => D.int (f a)) = some (as.map f)
  | [] => rfl
  | a :: as => by simp only [List.map_cons, intsOf, intsOf_mapF f as]; rfl
theorem gAll_map {α : Type} (f : α → Bool) (as : List α) (m : Md) (w : W) : gAll [⟨m, .lst (as.map fun a => D.bl (f a))⟩] w = .ok (fz (.bl (as.all f))) w := by
  simp [gAll, onL, blsOf_mapF]
@[simp] theorem atI3_0 {α : Type} (a b c : α) : atI [a, b, c] 0 = some a := rfl
@[simp] theorem atI3_1 {α : Type} (a b c : α) : atI [a, b, c] 1 = some b := rfl
@[simp] theorem atI3_2 {α : Type} (a b c : α) : atI [a, b, c] 2 = some c := rfl
end DL
namespace DL
open PySem L2
theorem eqDs_refl : ∀ {ds : List D}, (∀ d ∈ ds, eqD d d = true) → eqDs ds ds = true
  | [], _ => rfl
  | d :: ds, h => by
    unfold eqDs
    rw [h d List.mem_cons_self, eqDs_refl fun x hx => h x (List.mem_cons_of_mem _ hx)]
    rfl
theorem eqD_refl : ∀ (n : Nat) (d : D), plN n d = true → eqD d d = true := by
  intro n
  induction n with
  | zero =>
    intro d h
    cases d <;> first | (unfold eqD; simp; done) | (simp [plN] at h; done)
  | succ n ih =>
    intro d h
    cases d <;> try (first | (unfold eqD; simp; done) | (simp [plN] at h; done))
    · rename_i xs
      unfold eqD
      refine eqDs_refl fun d hd => ih d ?_
      simp only [plN, List.all_eq_true] at h
      exact h d hd
    · rename_i xs
      unfold eqD
      refine eqDs_refl fun d hd => ih d ?_
      simp only [plN, List.all_eq_true] at h
      exact h d hd
theorem gEq_same {d : D} (h : pl d = true) (b : Bool) (m m' : Md) (w : W) : gEq b ⟨m, d⟩ ⟨m', d⟩ w = .ok (fz (.bl (!b))) w := by
  unfold gEq
  simp only [h, Bool.and_self, if_true, eqD_refl 10 d h]
  cases b <;> rfl
/-- the signs of a text that stands for one -/
def NOk (x : List Nat) : Prop := ∀ c ∈ x, c < 0x110000
theorem strOk_nm {x : List Nat} (h : NOk x) : PyData.strOk (nm x) = true := by
  unfold PyData.strOk nm
  rw [Array.all_eq_true_iff_forall_mem]
  intro c hc
  have := h c (by simpa using hc)
  simpa using this
theorem cutL_to {α : Type} (xs : List α) (k : Nat) : cutL xs none (some (k : Int)) = xs.take k := by
  unfold cutL
  rw [HT.sIx_none, HT.sIx_nat]
  simp
theorem cutL_from {α : Type} (xs : List α) (k : Nat) : cutL xs (some (k : Int)) none = xs.drop k := by
  unfold cutL
  rw [HT.sIx_none, HT.sIx_nat]
  by_cases h : k ≤ xs.length
  · rw [Nat.min_eq_left h, List.take_of_length_le (by simp)]
  · rw [Nat.min_eq_right (by omega)]
    rw [List.drop_eq_nil_of_le (by omega : xs.length ≤ k), List.drop_eq_nil_of_le (Nat.le_refl _)]
    simp
theorem cutL_one {α : Type} (xs : List α) (k : Nat) (x : α) (h : xs[k]? = some x) : cutL xs (some (k : Int)) (some ((k : Int) + 1)) = [x] := by
  have hk : k < xs.length := (List.getElem?_eq_some_iff.mp h).1
  have e : (k : Int) + 1 = ((k + 1 : Nat) : Int) := by omega
  unfold cutL
  rw [e, HT.sIx_nat, HT.sIx_nat, Nat.min_eq_left (by omega), Nat.min_eq_left (by omega), show k + 1 - k = 1 by omega, List.drop_eq_getElem_cons hk]
  have := (List.getElem?_eq_some_iff.mp h).2
  simp [this]
theorem cutL_m1 {α : Type} (xs : List α) (x : α) : cutL (xs ++ [x]) none (some (-1)) = xs := by
  unfold cutL
  rw [HT.sIx_none]
  have : HT.sIx (xs ++ [x]).length (xs ++ [x]).length (some (-1)) = xs.length := by
    show (if (-1 : Int) < 0 then ((-1 : Int) + ((xs ++ [x]).length : Int)).toNat else min (-1 : Int).toNat (xs ++ [x]).length) = xs.length
    rw [if_pos (by decide)]
    simp
    omega
  rw [this]
  simp
@[simp] theorem bind_ex {α β : Type} (x : Xc) (w : W) (f : α → W → R β) : (R.ex x w : R α).bind f = .ex x w := rfl
@[simp] theorem rthn_ex {α : Type} (x : Xc) (w : W) (ρ : Env) (f : α → W → Out) : (R.ex x w : R α).thn ρ f = .ex x ρ w := rfl
@[simp] theorem othn_ex (x : Xc) (ρ : Env) (w : W) (f : DS) : (Out.ex x ρ w).thn f = .ex x ρ w := rfl
@[simp] theorem dTold_s (f : DE) (ρ : Env) (w : W) : dTold f ρ w = match f ρ w with | .ok x w => .ok x w | .ex x w => toldX x w | .bad => .bad := rfl
@[simp] theorem toldX_s (c : String) (fs : List (Str × D)) (w : W) : toldX ⟨c, fs⟩ w = .ok (fz (.tup [.str "refused", .str c])) w := rfl
@[simp] theorem sRaise_s (c : String) (ρ : Env) (w : W) : sRaise c ρ w = .ex ⟨c, []⟩ ρ w := rfl
@[simp] theorem sExpr_s (f : DE) (ρ : Env) (w : W) : sExpr f ρ w = (f ρ w).thn ρ fun _ w => .next ρ w := rfl
@[simp] theorem strOk_of (x : String) : PyData.strOk (Str.ofString x) = true := by
  rw [Str.ofString_eq_toList]
  unfold PyData.strOk
  rw [Array.all_eq_true_iff_forall_mem]
  intro c hc
  simp only [List.mem_toArray, List.mem_map] at hc
  obtain ⟨z, _, rfl⟩ := hc
  have : z.toNat < 0x110000 := by
    rcases z.valid with h | h
    · have : z.toNat < 0xd800 := h
      omega
    · exact h.2
  simpa using this
theorem toNats_inj : ∀ {a b : List Char}, a.map Char.toNat = b.map Char.toNat → a = b
  | [], [], _ => rfl
  | [], _ :: _, h => by simp at h
  | _ :: _, [], h => by simp at h
  | x :: a, y :: b, h => by
    simp only [List.map_cons, List.cons.injEq] at h
    have e : x = y := Char.ext (UInt32.toNat_inj.mp h.1)
    rw [e, toNats_inj h.2]
theorem ofString_inj {x y : String} (h : Str.ofString x = Str.ofString y) : x = y := by
  rw [Str.ofString_eq_toList, Str.ofString_eq_toList] at h
  have h1 := congrArg (fun s : Str => s.cps.toList) h
  exact String.toList_inj.mp (toNats_inj h1)
theorem ofString_beq (x y : String) : (Str.ofString x == Str.ofString y) = (x == y) := by
  by_cases h : x = y
  · subst h; simp
  · have h1 : ¬ Str.ofString x = Str.ofString y := fun z => h (ofString_inj z)
    rw [Bool.eq_iff_iff]
    constructor
    · intro q; exact absurd (beq_iff_eq.mp q) h1
    · intro q; exact absurd (beq_iff_eq.mp q) h
@[simp] theorem pl_ref (x : String) : pl (.tup [.str "refused", .str x]) = true := by simp [pl, plN]
@[simp] theorem gEq_ref (x y : String) (b : Bool) (m m' : Md) (w : W) : gEq b ⟨m, .tup [.str "refused", .str x]⟩ ⟨m', .tup [.str "refused", .str y]⟩ w = .ok (fz (.bl (b != (x == y)))) w := by
  unfold gEq
  simp only [pl_ref, Bool.and_self, if_true]
  simp [eqD, eqDs, ofString_beq]
theorem gDivmod_ii {i j : Int} {m m' : Md} {w : W} (h : 0 < j) (h2 : j < 1000000000) : gDivmod [⟨m, .int i⟩, ⟨m', .int j⟩] w = .ok (fz (.tup [.int (i / j), .int (i % j)])) w := by
  have : CDiv i j := ⟨h, by omega⟩
  simp [gDivmod, this]
theorem fnD_ret {n N : Nat} {g : DS} {ds : List D} {w w' : W} {x : Val} (hl : ds.length = n) (h : g (ds.map (fun d => some (fz d)) ++ List.replicate (N - n) none) w = .ret x w') : fnD n N g ds w = .ok x w' := by
  unfold fnD
  rw [if_pos hl, h]
@[simp] theorem kb_NoneType_str : kitB "NoneType" "str" = some false := by decide +kernel
@[simp] theorem kb_bool_str : kitB "bool" "str" = some false := by decide +kernel
@[simp] theorem kb_int_str : kitB "int" "str" = some false := by decide +kernel
@[simp] theorem kb_str_str : kitB "str" "str" = some true := by decide +kernel
@[simp] theorem kb_tuple_str : kitB "tuple" "str" = some false := by decide +kernel
@[simp] theorem kb_list_str : kitB "list" "str" = some false := by decide +kernel
@[simp] theorem kb_dict_str : kitB "dict" "str" = some false := by decide +kernel
@[simp] theorem kb_NoneType_tuple : kitB "NoneType" "tuple" = some false := by decide +kernel
@[simp] theorem kb_bool_tuple : kitB "bool" "tuple" = some false := by decide +kernel
@[simp] theorem kb_int_tuple : kitB "int" "tuple" = some false := by decide +kernel
@[simp] theorem kb_str_tuple : kitB "str" "tuple" = some false := by decide +kernel
@[simp] theorem kb_tuple_tuple : kitB "tuple" "tuple" = some true := by decide +kernel
@[simp] theorem kb_list_tuple : kitB "list" "tuple" = some false := by decide +kernel
@[simp] theorem kb_dict_tuple : kitB "dict" "tuple" = some false := by decide +kernel
@[simp] theorem kb_NoneType_bool : kitB "NoneType" "bool" = some false := by decide +kernel
@[simp] theorem kb_bool_bool : kitB "bool" "bool" = some true := by decide +kernel
@[simp] theorem kb_int_bool : kitB "int" "bool" = some false := by decide +kernel
@[simp] theorem kb_str_bool : kitB "str" "bool" = some false := by decide +kernel
@[simp] theorem kb_tuple_bool : kitB "tuple" "bool" = some false := by decide +kernel
@[simp] theorem kb_list_bool : kitB "list" "bool" = some false := by decide +kernel
@[simp] theorem kb_dict_bool : kitB "dict" "bool" = some false := by decide +kernel
@[simp] theorem kb_NoneType_int : kitB "NoneType" "int" = some false := by decide +kernel
@[simp] theorem kb_bool_int : kitB "bool" "int" = some true := by decide +kernel
@[simp] theorem kb_int_int : kitB "int" "int" = some true := by decide +kernel
@[simp] theorem kb_str_int : kitB "str" "int" = some false := by decide +kernel
@[simp] theorem kb_tuple_int : kitB "tuple" "int" = some false := by decide +kernel
@[simp] theorem kb_list_int : kitB "list" "int" = some false := by decide +kernel
@[simp] theorem kb_dict_int : kitB "dict" "int" = some false := by decide +kernel
@[simp] theorem kb_NoneType_list : kitB "NoneType" "list" = some false := by decide +kernel
@[simp] theorem kb_bool_list : kitB "bool" "list" = some false := by decide +kernel
@[simp] theorem kb_int_list : kitB "int" "list" = some false := by decide +kernel
@[simp] theorem kb_str_list : kitB "str" "list" = some false := by decide +kernel
@[simp] theorem kb_tuple_list : kitB "tuple" "list" = some false := by decide +kernel
@[simp] theorem kb_list_list : kitB "list" "list" = some true := by decide +kernel
@[simp] theorem kb_dict_list : kitB "dict" "list" = some false := by decide +kernel
end DL
namespace DL
open PySem L2
/-! ### one house alone -/
structure Hs where
  ranks : List D
  seats : List (Key × D)
  known : List (Key × D)
  weeks : List D
  plans : List (List Key × D)
  cuts : List (List Key × D)
  many : Int
  done : List D
def hsD (h : Hs) : List (Str × D) := [("ranks", .lst h.ranks), ("seats", .dK h.seats), ("known", .dK h.known), ("weeks", .lst h.weeks), ("plans", .dT h.plans), ("cuts", .dT h.cuts), ("many", .int h.many), ("done", .lst h.done)]
/-- k houses that came before -/
structure Pre (k : Nat) where
  l : List (List (Str × D))
  len : l.length = k
  r : List (List (Str × D))
def p0 : Pre 0 := ⟨[], rfl, []⟩
def Pre.push {k : Nat} (p : Pre k) (h : Hs) : Pre (k + 1) := ⟨p.l ++ [hsD h], by simp [p.len], []⟩
@[simp] theorem p0_r : p0.r = [] := rfl
@[simp] theorem push_r {k : Nat} (p : Pre k) (h : Hs) : (p.push h).r = [] := rfl
/-- a house, behind others and ahead of others -/
def wP {k : Nat} (p : Pre k) (n : Nat) (h : Hs) : W := ⟨n, p.l ++ hsD h :: p.r, false⟩
theorem wP_at {k : Nat} (p : Pre k) (n : Nat) (h : Hs) : (wP p n h).o[k]? = some (hsD h) := by
  unfold wP
  simp [← p.len]
theorem wP_set {k : Nat} (p : Pre k) (n : Nat) (h : Hs) (x : List (Str × D)) : (wP p n h).o.set k x = p.l ++ x :: p.r := by
  unfold wP
  dsimp only
  rw [List.set_append_right _ _ (by rw [p.len]; exact Nat.le_refl _)]
  simp [p.len]
def hs0 : Hs := ⟨[], [], [], [], [], [], 0, []⟩
theorem sne' (x y : String) (h : x ≠ y) : Str.ofString x ≠ Str.ofString y := fun e => h (ofString_inj e)
section
variable {k : Nat} (p : Pre k) (n : Nat) (h : Hs) (ρ : Env) (w : W)
@[simp] theorem wP_n : (wP p n h).n = n := rfl
@[simp] theorem wP_lk : (wP p n h).lk = false := rfl
@[simp] theorem wP_len : (((wP p n h).o)[k]?.getD []).length = 8 := by rw [wP_at]; rfl
@[simp] theorem gF_ranks : getF (wP p n h) k "ranks" = some (.lst h.ranks) := by simp [getF, wP_at, hsD, List.lookup, ofString_beq]
@[simp] theorem gF_seats : getF (wP p n h) k "seats" = some (.dK h.seats) := by simp [getF, wP_at, hsD, List.lookup, ofString_beq]
@[simp] theorem gF_known : getF (wP p n h) k "known" = some (.dK h.known) := by simp [getF, wP_at, hsD, List.lookup, ofString_beq]
@[simp] theorem gF_weeks : getF (wP p n h) k "weeks" = some (.lst h.weeks) := by simp [getF, wP_at, hsD, List.lookup, ofString_beq]
@[simp] theorem gF_plans : getF (wP p n h) k "plans" = some (.dT h.plans) := by simp [getF, wP_at, hsD, List.lookup, ofString_beq]
@[simp] theorem gF_cuts : getF (wP p n h) k "cuts" = some (.dT h.cuts) := by simp [getF, wP_at, hsD, List.lookup, ofString_beq]
@[simp] theorem gF_many : getF (wP p n h) k "many" = some (.int h.many) := by simp [getF, wP_at, hsD, List.lookup, ofString_beq]
@[simp] theorem gF_done : getF (wP p n h) k "done" = some (.lst h.done) := by simp [getF, wP_at, hsD, List.lookup, ofString_beq]
theorem ofs_eq (x y : String) : (Str.ofString x = Str.ofString y) = (x = y) := propext ⟨ofString_inj, fun e => by rw [e]⟩
@[simp] theorem sF_ranks (x : List D) : setF (wP p n h) k "ranks" (.lst x) = wP p (n + 1) { h with ranks := x } := by rw [setF, wP_set, List.getD_eq_getElem?_getD, wP_at]; simp [wP, hsD, putD, ofs_eq]
@[simp] theorem sF_seats (x : List (Key × D)) : setF (wP p n h) k "seats" (.dK x) = wP p (n + 1) { h with seats := x } := by rw [setF, wP_set, List.getD_eq_getElem?_getD, wP_at]; simp [wP, hsD, putD, ofs_eq]
@[simp] theorem sF_known (x : List (Key × D)) : setF (wP p n h) k "known" (.dK x) = wP p (n + 1) { h with known := x } := by rw [setF, wP_set, List.getD_eq_getElem?_getD, wP_at]; simp [wP, hsD, putD, ofs_eq]
@[simp] theorem sF_weeks (x : List D) : setF (wP p n h) k "weeks" (.lst x) = wP p (n + 1) { h with weeks := x } := by rw [setF, wP_set, List.getD_eq_getElem?_getD, wP_at]; simp [wP, hsD, putD, ofs_eq]
@[simp] theorem sF_plans (x : List (List Key × D)) : setF (wP p n h) k "plans" (.dT x) = wP p (n + 1) { h with plans := x } := by rw [setF, wP_set, List.getD_eq_getElem?_getD, wP_at]; simp [wP, hsD, putD, ofs_eq]
@[simp] theorem sF_cuts (x : List (List Key × D)) : setF (wP p n h) k "cuts" (.dT x) = wP p (n + 1) { h with cuts := x } := by rw [setF, wP_set, List.getD_eq_getElem?_getD, wP_at]; simp [wP, hsD, putD, ofs_eq]
@[simp] theorem sF_many (x : Int) : setF (wP p n h) k "many" (.int x) = wP p (n + 1) { h with many := x } := by rw [setF, wP_set, List.getD_eq_getElem?_getD, wP_at]; simp [wP, hsD, putD, ofs_eq]
@[simp] theorem sF_done (x : List D) : setF (wP p n h) k "done" (.lst x) = wP p (n + 1) { h with done := x } := by rw [setF, wP_set, List.getD_eq_getElem?_getD, wP_at]; simp [wP, hsD, putD, ofs_eq]
/-- no field's name -/
def noF (m : String) : Bool := !(["ranks", "seats", "known", "weeks", "plans", "cuts", "many", "done"].contains m)
@[simp] theorem noF_s (m : String) : noF m = !(["ranks", "seats", "known", "weeks", "plans", "cuts", "many", "done"].contains m) := rfl
@[simp] theorem selD_s (ix : List Nat) (l : List D) : selD ix l = ix.map fun i => l.getD i .non := rfl
theorem noF_of {m : String} (q : noF m = true) : (((wP p n h).o.getD k []).lookup (Str.ofString m)).isNone = true := by
  rw [List.getD_eq_getElem?_getD, wP_at]
  simp [noF] at q
  obtain ⟨q1, q2, q3, q4, q5, q6, q7, q8⟩ := q
  simp [hsD, List.lookup, ofString_beq, beq_false_of_ne q1, beq_false_of_ne q2, beq_false_of_ne q3, beq_false_of_ne q4, beq_false_of_ne q5, beq_false_of_ne q6, beq_false_of_ne q7, beq_false_of_ne q8]
@[simp] theorem dNew_0 (k : Nat) : dNew ρ ⟨k, [], false⟩ = .ok (fz (.obj 0)) (wP p0 (k + 1) hs0) := rfl
@[simp] theorem dNew_k (hr : p.r = []) : dNew ρ (wP p n h) = .ok (fz (.obj (k + 1))) (wP (p.push h) (n + 1) hs0) := by
  obtain ⟨l, len, r⟩ := p
  dsimp only at hr
  subst hr
  show R.ok (fz (.obj (l ++ [hsD h]).length)) _ = _
  rw [show (l ++ [hsD h]).length = k + 1 by simp [len]]
  rfl
@[simp] theorem dFld_s (f : Str) (fo : DE) : dFld f fo ρ w = (fo ρ w).bind fun x w => match x.d with
  | .obj k => (match getF w k f with | some d => .ok (fval d) w | none => .bad)
  | _ => .bad := rfl
@[simp] theorem fval_int (i : Int) : fval (.int i) = fz (.int i) := rfl
@[simp] theorem fval_lst (x : List D) : fval (.lst x) = ⟨.wd, .lst x⟩ := rfl
@[simp] theorem fval_dK (x : List (Key × D)) : fval (.dK x) = ⟨.wd, .dK x⟩ := rfl
@[simp] theorem fval_dT (x : List (List Key × D)) : fval (.dT x) = ⟨.wd, .dT x⟩ := rfl
theorem dMt_s {fo : DE} {m : String} {F : DF} {q j : Nat} {ix : List Nat} {dds : List D} {fr fk : DA} {md : Md} (e : fo ρ w = .ok ⟨md, .obj k⟩ (wP p n h)) (hm : noF m = true) : dMt F m q j ix dds fo fr fk ρ w = ((fr ρ (wP p n h)).bind fun xs w2 => match frzD xs with
    | some ds => ((fk ρ w2).bind fun zs w3 => match frzD zs with
      | some es => if ds.length = q ∧ es.length = j then F (selD ix (.obj k :: ds ++ es ++ dds)) w3 else .bad
      | none => .bad)
    | none => .bad) := by
  unfold dMt
  rw [e]
  show (if _ then _ else _) = _
  exact (if_pos (noF_of p n h hm)).trans rfl
/-- a slot holds the house -/
def isH (k : Nat) : Option (Option Val) → Bool
  | some (some ⟨_, .obj j⟩) => j == k
  | _ => false
@[simp] theorem isH_s (m : Md) (k : Nat) : isH k (some (some ⟨m, .obj k⟩)) = true := by simp [isH]
@[simp] theorem dMt_v {i : Nat} {m : String} {F : DF} {q j : Nat} {ix : List Nat} {dds : List D} {fr fk : DA} (e : isH k ρ[i]? = true) (hm : noF m = true) : dMt F m q j ix dds (dVar i) fr fk ρ (wP p n h) = ((fr ρ (wP p n h)).bind fun xs w2 => match frzD xs with
    | some ds => ((fk ρ w2).bind fun zs w3 => match frzD zs with
      | some es => if ds.length = q ∧ es.length = j then F (selD ix (.obj k :: ds ++ es ++ dds)) w3 else .bad
      | none => .bad)
    | none => .bad) := by
  unfold isH at e
  split at e
  · rename_i md z c
    have : z = k := by simpa using e
    subst this
    exact dMt_s p n h ρ _ (by rw [dVar_s, c]) hm
  · cases e
@[simp] theorem sFst_s (f : Str) (fo fv : DE) : sFst f fo fv ρ w = (fv ρ w).thn ρ fun y w => (fo ρ w).thn ρ fun x w => match x.d with
  | .obj k => (match getF w k f with | some (.int _) => (match y.d with | .int j => if (w.o.getD k []).length < 1000 then .next ρ (setF w k f (.int j)) else .bad | _ => .bad) | _ => .bad)
  | _ => .bad := rfl
@[simp] theorem sFapp_s (f : Str) (fo fe : DE) : sFapp f fo fe ρ w = (fo ρ w).thn ρ fun x w1 => match x.d with
  | .obj k => (match getF w1 k f with
    | some (.lst _) => (fe ρ w1).thn ρ fun y w2 => (match getF w2 k f with
      | some (.lst ds) => if keepM y ∧ w2.n = w1.n ∧ ds.length < sizeLine then .next ρ (setF w2 k f (.lst (ds ++ [y.d]))) else .bad
      | _ => .bad)
    | _ => .bad)
  | _ => .bad := rfl
@[simp] theorem sFputK_s (f : Str) (fo fk fv : DE) : sFputK f fo fk fv ρ w = (fv ρ w).thn ρ fun y w1 => if keepM y then ((fo ρ w1).thn ρ fun x w2 => match x.d with
  | .obj k => (match getF w2 k f with
    | some (.dK _) => (fk ρ w2).thn ρ fun key w3 => (match kD key.d, getF w3 k f with
      | some kk, some (.dK kvs) => if w3.n = w2.n ∧ w3.lk = false ∧ kvs.length < sizeLine then .next ρ (setF w3 k f (.dK (putKD kvs kk y.d))) else .bad
      | _, _ => .bad)
    | _ => .bad)
  | _ => .bad) else .bad := rfl
@[simp] theorem sFputT_s (f : Str) (fo : DE) (fk : Env → W → R (List Key)) (fv : DE) : sFputT f fo fk fv ρ w = (fv ρ w).thn ρ fun y w1 => if keepM y then ((fo ρ w1).thn ρ fun x w2 => match x.d with
  | .obj k => (match getF w2 k f with
    | some (.dT _) => (fk ρ w2).thn ρ fun key w3 => (match (some key : Option (List Key)), getF w3 k f with
      | some kk, some (.dT kvs) => if w3.n = w2.n ∧ w3.lk = false ∧ kvs.length < sizeLine then .next ρ (setF w3 k f (.dT (putKD kvs kk y.d))) else .bad
      | _, _ => .bad)
    | _ => .bad)
  | _ => .bad) else .bad := rfl
@[simp] theorem kD_int (i : Int) : kD (.int i) = some (.inl i) := rfl
@[simp] theorem kD_str (x : Str) : kD (.str x) = some (.inr x) := rfl
@[simp] theorem kDs_nil : kDs [] = some [] := rfl
@[simp] theorem kDs_cons (d : D) (ds : List D) : kDs (d :: ds) = match kD d, kDs ds with
    | some k, some ks => some (k :: ks)
    | _, _ => none := rfl
@[simp] theorem keyT_s (f : DA) : keyT f ρ w = (f ρ w).bind fun xs w => match frzD xs with
  | some ds => (match kDs ds with | some ks => if ds.length ≤ sizeLine then .ok ks w else .bad | none => .bad)
  | none => .bad := rfl
@[simp] theorem gIxD_s (m m' : Md) (kvs : List (Key × D)) (d : D) : gIxD ⟨m, .dK kvs⟩ ⟨m', d⟩ w = match kD d with | some k => (match valD kvs k with | some d => .ok (fz d) w | none => .bad) | none => .bad := by
  unfold gIxD
  cases kD d <;> rfl
@[simp] theorem gInD_s (b : Bool) (m m' : Md) (kvs : List (Key × D)) (d : D) : gInD b ⟨m', d⟩ ⟨m, .dK kvs⟩ w = match kD d with | some k => .ok (fz (.bl (b != (valD kvs k).isSome))) w | none => .bad := by
  unfold gInD
  cases kD d <;> rfl
@[simp] theorem dIxT_s (fa : DE) (fk : Env → W → R (List Key)) : dIxT fa fk ρ w = (fa ρ w).bind fun x w1 => (fk ρ w1).bind fun ks w2 => chk x w1 w2 (match x.d with
  | .dT kvs => (match valD kvs ks with | some d => .ok (fz d) w2 | none => .bad)
  | _ => .bad) := rfl
@[simp] theorem dInT_s (b : Bool) (fk : Env → W → R (List Key)) (fa : DE) : dInT b fk fa ρ w = (fk ρ w).bind fun ks w1 => (fa ρ w1).bind fun x w2 => match x.d with
  | .dT kvs => .ok (fz (.bl (b != (valD kvs ks).isSome))) w2
  | _ => .bad := rfl
@[simp] theorem dGetT_s (fa : DE) (fk : Env → W → R (List Key)) (fx : DE) : dGetT fa fk fx ρ w = (fa ρ w).bind fun x w1 => match x.d with
  | .dT _ => (fk ρ w1).bind fun ks w2 => (fx ρ w2).bind fun z w3 => chk x w1 w3 (match x.d with
    | .dT kvs => .ok (match valD kvs ks with | some d => fz d | none => z) w3
    | _ => .bad)
  | _ => .bad := rfl
@[simp] theorem sForF_s (f : Str) (fo : DE) (t : Tg) (b : DS) : sForF f fo t b ρ w = (fo ρ w).thn ρ fun x w1 => match x.d with
  | .obj k => (match getF w1 k f with | some (.lst ds) => forLq t b w1 ds ρ w1 | _ => .bad)
  | _ => .bad := rfl
@[simp] theorem sPut_s (i : Nat) (fk fv : DE) : sPut i fk fv ρ w = (fv ρ w).thn ρ fun x w => match ownL ρ i with
  | some ds => if keepM x then (fk ρ w).thn ρ fun k w => match k.d with
    | .int j => match ixN ds.length j with
      | some n => .next (ρ.set i (some ⟨.nw, .lst (ds.set n x.d)⟩)) w
      | none => .bad
    | _ => .bad
    else .bad
  | none => .bad := rfl
@[simp] theorem dDk_s : dDk ρ w = .ok ⟨.nw, .dK []⟩ w := rfl
@[simp] theorem dDt_s : dDt ρ w = .ok ⟨.nw, .dT []⟩ w := rfl
end
theorem lcL_mapW {α : Type} (dd : α → D) (p : α → Bool) (g : α → D) {t : Tg} {c : DT} {f : DE} {ρ : Env} {w : W} : ∀ (as : List α),
    (∀ a ∈ as, ∃ ρ', setT t (dd a) ρ = some ρ' ∧ c ρ' w = .ok (p a) w ∧ (p a = true → ∃ m, keepM ⟨m, g a⟩ = true ∧ f ρ' w = .ok ⟨m, g a⟩ w)) → lcL t c f (as.map dd) ρ w = .ok ((as.filter p).map g) w
  | [], _ => rfl
  | a :: as, h => by
    obtain ⟨ρ', e1, e2, e3⟩ := h a List.mem_cons_self
    have ih := lcL_mapW dd p g (t := t) (c := c) (f := f) (ρ := ρ) as (fun b hb => h b (List.mem_cons_of_mem _ hb))
    rw [List.map_cons]
    unfold lcL
    rw [e1]
    cases hp : p a with
    | true =>
      obtain ⟨m, k1, k2⟩ := e3 hp
      simp [e2, hp, k1, k2, ih]
    | false => simp [e2, hp, ih]
theorem lcL_allW {α : Type} (dd : α → D) (g : α → D) {t : Tg} {f : DE} {ρ : Env} {w : W} (as : List α) (h : ∀ a ∈ as, ∃ ρ', setT t (dd a) ρ = some ρ' ∧ ∃ m, keepM ⟨m, g a⟩ = true ∧ f ρ' w = .ok ⟨m, g a⟩ w) : lcL t tYesD f (as.map dd) ρ w = .ok (as.map g) w := by
  have := lcL_mapW dd (fun _ => true) g (t := t) (c := tYesD) (f := f) (ρ := ρ) (w := w) as (fun a ha => by
    obtain ⟨ρ', e1, m, k1, k2⟩ := h a ha
    exact ⟨ρ', e1, rfl, fun _ => ⟨m, k1, k2⟩⟩)
  rw [this, List.filter_eq_self.mpr (fun _ _ => rfl)]
/-- a loop by an invariant of slots and world -/
theorem forL_inv {t : Tg} {b : DS} (I : Nat → Env → W → Prop) : ∀ (ds : List D) (k : Nat) (ρ : Env) (w : W), I k ρ w → (∀ (i : Nat) (d : D) (ρ : Env) (w : W), ds[i]? = some d → I (k + i) ρ w → ∃ ρ1 ρ2 w2, setT t d ρ = some ρ1 ∧ b ρ1 w = .next ρ2 w2 ∧ I (k + i + 1) ρ2 w2) →
    ∃ ρ' w', forL t b ds ρ w = .next ρ' w' ∧ I (k + ds.length) ρ' w'
  | [], k, ρ, w, h0, _ => ⟨ρ, w, rfl, h0⟩
  | d :: ds, k, ρ, w, h0, hs => by
    obtain ⟨ρ1, ρ2, w2, e1, e2, h1⟩ := hs 0 d ρ w rfl h0
    obtain ⟨ρ', w', e, h⟩ := forL_inv I ds (k + 1) ρ2 w2 h1 fun i d' ρ w hd hi => by
      have := hs (i + 1) d' ρ w (by simpa using hd) (by rw [show k + (i + 1) = k + 1 + i by omega]; exact hi)
      rw [show k + (i + 1) + 1 = k + 1 + i + 1 by omega] at this
      exact this
    refine ⟨ρ', w', ?_, by rw [show k + (d :: ds).length = k + 1 + ds.length by simp; omega]; exact h⟩
    unfold forL
    rw [e1]
    simp only [e2]
    exact e
/-- a loop that only looks, at one world -/
theorem forL_look {i : Nat} {b : DS} {ρ : Env} {w : W} : ∀ {ds : List D} (z0 : Option Val), (∀ d ∈ ds, b (ρ.set i (some (fz d))) w = .next (ρ.set i (some (fz d))) w) → ∃ z, forL (.nm i) b ds (ρ.set i z0) w = .next (ρ.set i z) w
  | [], z0, _ => ⟨z0, rfl⟩
  | d :: ds, z0, h => by
    obtain ⟨z, hz⟩ := forL_look (ds := ds) (some (fz d)) fun x hx => h x (List.mem_cons_of_mem _ hx)
    refine ⟨z, ?_⟩
    unfold forL
    simp only [setT_nm, List.set_set, h d List.mem_cons_self]
    exact hz
end DL
/-! Denotations evaluated: walks over dicts, errors with fields. -/
namespace DL
open PySem L2
section
variable {k : Nat} {p : Pre k} {n : Nat} {h : Hs} {ρ : Env} {w : W}
/-- the world while a dict is walked -/
def wL (p : Pre k) (n : Nat) (h : Hs) : W := ⟨n + 1, p.l ++ hsD h :: p.r, true⟩
theorem wLk_s : wLk (wP p n h) = wL p n h := rfl
theorem wUn_s : wUn (wP p n h) = wP p (n + 2) h := rfl
@[simp] theorem wL_n : (wL p n h).n = n + 1 := rfl
@[simp] theorem wL_lk : (wL p n h).lk = true := rfl
@[simp] theorem gL_f (f : Str) : getF (wL p n h) k f = getF (wP p n h) k f := rfl
theorem forLq_inv {t : Tg} {b : DS} {w0 : W} (I : Nat → Env → Prop) : ∀ (ds : List D) (k : Nat) (ρ : Env), I k ρ → (∀ (i : Nat) (d : D) (ρ : Env), ds[i]? = some d → I (k + i) ρ → ∃ ρ1 ρ2, setT t d ρ = some ρ1 ∧ b ρ1 w0 = .next ρ2 w0 ∧ I (k + i + 1) ρ2) → ∃ ρ', forLq t b w0 ds ρ w0 = .next ρ' w0 ∧ I (k + ds.length) ρ'
  | [], k, ρ, h0, _ => ⟨ρ, rfl, h0⟩
  | d :: ds, k, ρ, h0, hs => by
    obtain ⟨ρ1, ρ2, e1, e2, h1⟩ := hs 0 d ρ rfl h0
    obtain ⟨ρ', e, h⟩ := forLq_inv I ds (k + 1) ρ2 h1 fun i d' ρ hd hi => by
      have := hs (i + 1) d' ρ (by simpa using hd) (by rw [show k + (i + 1) = k + 1 + i by omega]; exact hi)
      rw [show k + (i + 1) + 1 = k + 1 + i + 1 by omega] at this
      exact this
    refine ⟨ρ', ?_, by rw [List.length_cons, show k + (ds.length + 1) = k + 1 + ds.length by omega]; exact h⟩
    simp only [forLq, e1, e2, if_true]
    exact e
theorem sForD_ok {loc : Env → W → Option D} {t : Tg} {b : DS} {ks : List D} {ρ' : Env} (hk : locK ρ (wP p n h) loc = some ks) (e : forLq t b (wL p n h) ks ρ (wL p n h) = .next ρ' (wL p n h)) : sForD loc t b ρ (wP p n h) = .next ρ' (wP p (n + 2) h) := by
  unfold sForD
  rw [hk]
  dsimp only
  rw [wLk_s, e]
  dsimp only
  rw [if_pos rfl, wUn_s]
theorem dLcD_ok {loc : Env → W → Option D} {t : Tg} {c : DT} {f : DE} {vs : List Nat} {ks r : List D} (hk : locK ρ (wP p n h) loc = some ks) (hs : ks.length ≤ sizeLine) (e : lcL t c f ks (wipeD ρ vs) (wL p n h) = .ok r (wL p n h)) : dLcD loc t c f vs ρ (wP p n h) = .ok ⟨.nw, .lst r⟩ (wP p (n + 2) h) := by
  unfold dLcD
  rw [hk]
  dsimp only
  rw [wLk_s, dLc_ok (ds := ks) (r := r) (b := false) rfl hs e]
  dsimp only
  rw [if_pos rfl, wUn_s]
theorem locF_plans {i : Nat} {m : Md} (e : ρ[i]? = some (some ⟨m, .obj k⟩)) : locK ρ (wP p n h) (locF i "plans") = some (h.plans.map fun q => .tup (q.1.map dKy)) := by
  simp [locK, locF, e, keysD]
theorem locF_known {i : Nat} {m : Md} (e : ρ[i]? = some (some ⟨m, .obj k⟩)) : locK ρ (wP p n h) (locF i "known") = some (h.known.map fun q => dKy q.1) := by
  simp [locK, locF, e, keysD]
@[simp] theorem sRaiseF_s (c : String) (fs : List Str) (a b : Nat) (fr fk : DA) : sRaiseF c fs a b fr fk ρ w = (fr ρ w).thn ρ fun xs w1 => match frzD xs with
  | some ds => (fk ρ w1).thn ρ fun zs w2 => (match frzD zs with
    | some es => if ds.length = a ∧ es.length = b then .ex ⟨c, (fs.zip (ds ++ es)).reverse⟩ ρ w2 else .bad
    | none => .bad)
  | none => .bad := rfl
@[simp] theorem dKy_i (i : Int) : dKy (.inl i) = .int i := rfl
@[simp] theorem dKy_s (x : Str) : dKy (.inr x) = .str x := rfl
end
end DL
namespace LK
open PySem L2 DL
/-! ### the text by places -/
/-! ### what each def computes -/
abbrev dfl_add_show : List D := []
abbrev sh_add_show_0 : Shape := ⟨2, [], [0, 1], dfl_add_show⟩
abbrev sh_add_show : List Shape := [sh_add_show_0]
abbrev dfl_break_in : List D := []
abbrev sh_break_in_0 : Shape := ⟨5, [], [0, 1, 2, 3, 4], dfl_break_in⟩
abbrev sh_break_in : List Shape := [sh_break_in_0]
abbrev dfl_breaks : List D := []
abbrev sh_breaks_0 : Shape := ⟨3, [], [0, 1, 2], dfl_breaks⟩
abbrev sh_breaks : List Shape := [sh_breaks_0]
abbrev dfl_clear_week : List D := [(.int 0), (.int 24), (.int 0)]
abbrev sh_clear_week_0 : Shape := ⟨5, ["starting"], [0, 1, 2, 3, 4, 5], dfl_clear_week⟩
abbrev sh_clear_week : List Shape := [sh_clear_week_0]
abbrev dfl_deeds : List D := []
abbrev sh_deeds_0 : Shape := ⟨1, [], [0], dfl_deeds⟩
abbrev sh_deeds : List Shape := [sh_deeds_0]
abbrev dfl_drop : List D := []
abbrev sh_drop_0 : Shape := ⟨4, [], [0, 1, 2, 3], dfl_drop⟩
abbrev sh_drop : List Shape := [sh_drop_0]
abbrev dfl_look_since : List D := []
abbrev sh_look_since_0 : Shape := ⟨4, [], [0, 1, 2, 3], dfl_look_since⟩
abbrev sh_look_since : List Shape := [sh_look_since_0]
abbrev dfl_look_station : List D := []
abbrev sh_look_station_0 : Shape := ⟨2, [], [0, 1], dfl_look_station⟩
abbrev sh_look_station : List Shape := [sh_look_station_0]
abbrev dfl_now : List D := []
abbrev sh_now_0 : Shape := ⟨1, [], [0], dfl_now⟩
abbrev sh_now : List Shape := [sh_now_0]
abbrev dfl_open_station : List D := [.non, (.int 0), (.int 24), (.str "join")]
abbrev sh_open_station_0 : Shape := ⟨2, ["upper", "opening", "closing", "manner"], [0, 1, 2, 3, 4, 5], dfl_open_station⟩
abbrev sh_open_station : List Shape := [sh_open_station_0]
abbrev dfl_overrun : List D := [(.int 1)]
abbrev sh_overrun_0 : Shape := ⟨4, ["extra"], [0, 1, 2, 3, 4], dfl_overrun⟩
abbrev sh_overrun : List Shape := [sh_overrun_0]
abbrev dfl_own_rows : List D := []
abbrev sh_own_rows_0 : Shape := ⟨3, [], [0, 1, 2], dfl_own_rows⟩
abbrev sh_own_rows : List Shape := [sh_own_rows_0]
abbrev dfl_put : List D := []
abbrev sh_put_0 : Shape := ⟨5, [], [0, 1, 2, 3, 4], dfl_put⟩
abbrev sh_put : List Shape := [sh_put_0]
abbrev dfl_put_week : List D := [(.int 0)]
abbrev sh_put_week_0 : Shape := ⟨5, ["starting"], [0, 1, 2, 3, 4, 5], dfl_put_week⟩
abbrev sh_put_week : List Shape := [sh_put_week_0]
abbrev dfl_row_at : List D := []
abbrev sh_row_at_0 : Shape := ⟨4, [], [0, 1, 2, 3], dfl_row_at⟩
abbrev sh_row_at : List Shape := [sh_row_at_0]
abbrev dfl_rows_by_week : List D := []
abbrev sh_rows_by_week_0 : Shape := ⟨4, [], [0, 1, 2, 3], dfl_rows_by_week⟩
abbrev sh_rows_by_week : List Shape := [sh_rows_by_week_0]
abbrev dfl_show : List D := []
abbrev sh_show_0 : Shape := ⟨2, [], [0, 1], dfl_show⟩
abbrev sh_show : List Shape := [sh_show_0]
abbrev dfl_station : List D := []
abbrev sh_station_0 : Shape := ⟨2, [], [0, 1], dfl_station⟩
abbrev sh_station : List Shape := [sh_station_0]
abbrev dfl_tick : List D := [(.int 1)]
abbrev sh_tick_0 : Shape := ⟨2, [], [0, 1], dfl_tick⟩
abbrev sh_tick : List Shape := [sh_tick_0]
abbrev dfl_times : List D := []
abbrev sh_times_0 : Shape := ⟨2, [], [0, 1], dfl_times⟩
abbrev sh_times : List Shape := [sh_times_0]
abbrev dfl_week_rows : List D := []
abbrev sh_week_rows_0 : Shape := ⟨3, [], [0, 1, 2], dfl_week_rows⟩
abbrev sh_week_rows : List Shape := [sh_week_rows_0]
abbrev wd_LENGTHS : List (Str × Int) := [("open", 6), ("show", 6), ("week", 6), ("clear", 6), ("put", 5), ("drop", 4), ("over", 5), ("break", 5), ("tick", 2)]
abbrev law_class_N : List Str := ["e", "kinds", "some"]
noncomputable def law_class_s1 (a : Addr) (c : String) : DS := (sSet 1 (dLst (dCons (dUn (gIsX a (decide (c = "NoName"))) (dVar 0)) (dCons (dUn (gIsX a (decide (c = "NoDay"))) (dVar 0)) (dCons (dUn (gIsX a (decide (c = "NoHour"))) (dVar 0)) (dOne (dUn (gIsX a (decide (c = "NoMore"))) (dVar 0))))))))
noncomputable def law_class_s2 (a : Addr) (c : String) : DS := (sExt 1 (dLst (dCons (dUn (gIsX a (decide (c = "NoShow"))) (dVar 0)) (dCons (dUn (gIsX a (decide (c = "NoSort"))) (dVar 0)) (dCons (dUn (gIsX a (decide (c = "NoStation"))) (dVar 0)) (dOne (dUn (gIsX a (decide (c = "NoRule"))) (dVar 0))))))))
noncomputable def law_class_s3 (a : Addr) (c : String) : DS := (sExt 1 (dLst (dCons (dUn (gIsX a (decide (c = "Full"))) (dVar 0)) (dCons (dUn (gIsX a (decide (c = "Taken"))) (dVar 0)) (dCons (dUn (gIsX a (decide (c = "NoRights"))) (dVar 0)) (dOne (dUn (gIsX a (decide (c = "Settled"))) (dVar 0))))))))
noncomputable def law_class_s4 (a : Addr) (c : String) : DS := (sExt 1 (dLst (dCons (dUn (gIsX a (decide (c = "TooLate"))) (dVar 0)) (dCons (dUn (gIsX a (decide (c = "NoRow"))) (dVar 0)) (dCons (dUn (gIsX a (decide (c = "NotLive"))) (dVar 0)) (dOne (dUn (gIsX a (decide (c = "TooLong"))) (dVar 0))))))))
noncomputable def law_class_s5 (a : Addr) (c : String) : DS := (sExt 1 (dLst (dCons (dUn (gIsX a (decide (c = "NewsAhead"))) (dVar 0)) (dCons (dUn (gIsX a (decide (c = "Clash"))) (dVar 0)) (dCons (dUn (gIsX a (decide (c = "NoWish"))) (dVar 0)) (dOne (dUn (gIsX a (decide (c = "NoDeeds"))) (dVar 0))))))))
noncomputable def law_class_s6 (a : Addr) (c : String) : DS := (sApp 1 (dUn (gIsX a (decide (c = "NoText"))) (dVar 0)))
noncomputable def law_class_s7 (a : Addr) (c : String) : DS := (sIf (dOr (tst (dOp (gEq true) (dBm "list" gCnt (dVar 1) (dC (.bl true))) (dC (.int 1)))) (dNot (tst (dUn (gIsX a true) (dVar 0))))) (sRet (dC (.str "wrong"))) sNext)
noncomputable def law_class_s8 (a : Addr) (c : String) : DS := (sSet 2 (dLst (dCons (dC (.str "NoName")) (dCons (dC (.str "NoDay")) (dCons (dC (.str "NoHour")) (dCons (dC (.str "NoMore")) (dCons (dC (.str "NoShow")) (dCons (dC (.str "NoSort")) (dCons (dC (.str "NoStation")) (dCons (dC (.str "NoRule")) (dCons (dC (.str "Full")) (dOne (dC (.str "Taken"))))))))))))))
noncomputable def law_class_s9 (a : Addr) (c : String) : DS := (sExt 2 (dLst (dCons (dC (.str "NoRights")) (dCons (dC (.str "Settled")) (dCons (dC (.str "TooLate")) (dCons (dC (.str "NoRow")) (dCons (dC (.str "NotLive")) (dCons (dC (.str "TooLong")) (dCons (dC (.str "NewsAhead")) (dCons (dC (.str "Clash")) (dOne (dC (.str "NoWish")))))))))))))
noncomputable def law_class_s10 (a : Addr) (c : String) : DS := (sExt 2 (dLst (dCons (dC (.str "NoDeeds")) (dOne (dC (.str "NoText"))))))
noncomputable def law_class_s11 (a : Addr) (c : String) : DS := (sRet (dOp gIx (dVar 2) (dBm "list" gIdx (dVar 1) (dC (.bl true)))))
noncomputable def law_class_b (a : Addr) (c : String) : DS := (sSeq (law_class_s1 a c)
    (sSeq (law_class_s2 a c)
    (sSeq (law_class_s3 a c)
    (sSeq (law_class_s4 a c)
    (sSeq (law_class_s5 a c)
    (sSeq (law_class_s6 a c)
    (sSeq (law_class_s7 a c)
    (sSeq (law_class_s8 a c)
    (sSeq (law_class_s9 a c)
    (sSeq (law_class_s10 a c)
    (law_class_s11 a c)))))))))))
noncomputable def law_class (a : Addr) (c : String) : DF := fnD 1 3 (law_class_b a c)
abbrev law_pick_N : List Str := ["script", "k", "many", "cell", "drawn", "rest", "turn"]
noncomputable def law_pick_l1 : DS := (sParF [5, 6] [false, false] (dCons (dOp gDiv (dVar 5) (dC (.int 840))) (dOne (dOp gSub (dVar 6) (dC (.int 1))))))
noncomputable def law_pick_l2 : DT := (dAnd (tst (dOp gGt (dVar 5) (dC (.int 0)))) (tst (dOp gGt (dVar 6) (dC (.int 0)))))
noncomputable def law_pick_b : DS := (sSeq (sSetF 3 (dIf (tst (dOp (gEq true) (dVar 0) (dLst dNil))) (dOp gIx (dVar 0) (dOp gMod (dVar 1) (dCB gLen (dOne (dVar 0))))) (dC (.int 0))))
    (sSeq (sParF [5, 6] [false, false] (dCons (dOp gDiv (dVar 3) (dOp gPow (dC (.int 10)) (dC (.int 18)))) (dOne (dOp gDiv (dVar 1) (dCB gMax2 (dCons (dCB gLen (dOne (dVar 0))) (dOne (dC (.int 1)))))))))
    (sSeq (whileL law_pick_l2 law_pick_l1 100000)
    (sSeq (sIf (tst (dOp gGt (dVar 5) (dC (.int 0)))) (sRet (dOp gMod (dOp gMod (dVar 5) (dC (.int 840))) (dVar 2))) sNext)
    (sSeq (sSetF 4 (dOp gMod (dOp gMul (dOp gAdd (dOp gMul (dVar 3) (dC (.int 31))) (dOp gMul (dC (.int 6151)) (dOp gAdd (dVar 1) (dC (.int 1))))) (dC (.int 40692))) (dC (.int 2147483399))))
    (sRet (dOp gMod (dOp gMod (dOp gAdd (dOp gMul (dVar 4) (dVar 4)) (dOp gDiv (dVar 4) (dC (.int 31)))) (dC (.int 2147483629))) (dVar 2))))))))
noncomputable def law_pick : DF := fnD 3 7 (law_pick_b)
abbrev law_names_N : List Str := ["script", "at", "many", "k", "letters", "made", "rest", "j", "mark"]
noncomputable def law_names_l1 : DS := (sSetF 6 (dOp gAdd (dVar 6) (dOp gIx (dVar 4) (dCall law_pick [] (dCons (dVar 0) (dCons (dOp gAdd (dOp gAdd (dOp gAdd (dVar 1) (dOp gMul (dC (.int 7)) (dVar 3))) (dVar 7)) (dC (.int 1))) (dOne (dC (.int 26)))))))))
noncomputable def law_names_l2 : DS := (sSeq (sSetF 6 (dC (.str "")))
    (sSeq (sFor (iR1 (dOne (dOp gIx (dLst (dCons (dC (.int 0)) (dCons (dC (.int 0)) (dCons (dC (.int 1)) (dCons (dC (.int 2)) (dOne (dC (.int 5)))))))) (dCall law_pick [] (dCons (dVar 0) (dCons (dOp gAdd (dVar 1) (dOp gMul (dC (.int 7)) (dVar 3))) (dOne (dC (.int 5))))))))) (.nm 7) law_names_l1)
    (sSeq (sSetF 8 (dOp gIx (dVar 4) (dOp gMod (dOp gAdd (dCall law_pick [] (dCons (dVar 0) (dCons (dOp gAdd (dVar 1) (dC (.int 60))) (dOne (dC (.int 26)))))) (dVar 3)) (dC (.int 26)))))
    (sApp 5 (dIf (tst (dOp (gEq false) (dCall law_pick [] (dCons (dVar 0) (dCons (dOp gAdd (dVar 1) (dC (.int 61))) (dOne (dC (.int 2)))))) (dC (.int 0)))) (dOp gAdd (dVar 6) (dVar 8)) (dOp gAdd (dVar 8) (dVar 6)))))))
noncomputable def law_names_b : DS := (sSeq (sParF [4, 5] [false, true] (dCons (dC (.str "abcdefghijklmnopqrstuvwxyz")) (dOne (dLst dNil))))
    (sSeq (sFor (iR1 (dOne (dVar 2))) (.nm 3) law_names_l2)
    (sRetV 5)))
noncomputable def law_names : DF := fnD 3 9 (law_names_b)
abbrev House_deeds_N : List Str := ["self"]
noncomputable def House_deeds_b : DS := (sRet (dCB gList (dOne (dFld "done" (dVar 0)))))
noncomputable def House_deeds : DF := fnD 1 1 (House_deeds_b)
abbrev is_deed_N : List Str := ["thing"]
noncomputable def is_deed_b : DS := (sSeq (sIf (dOr (dNot (tst (dUn (gIsiT "tuple") (dVar 0)))) (dOr (tst (dOp (gEq false) (dVar 0) (dTup dNil))) (dNot (tst (dUn (gIsiT "str") (dOp gIx (dVar 0) (dC (.int 0)))))))) (sRet (dC (.bl false))) sNext)
    (sRet (dAndV (dInW wd_LENGTHS (dOp gIx (dVar 0) (dC (.int 0)))) (dOp (gEq false) (dCB gLen (dOne (dVar 0))) (dIxW wd_LENGTHS (dOp gIx (dVar 0) (dC (.int 0))))))))
noncomputable def is_deed : DF := fnD 1 1 (is_deed_b)
abbrev is_name_N : List Str := ["thing", "sign"]
noncomputable def is_name_b : DS := (sRet (dAndV (dUn (gIsiT "str") (dVar 0)) (dAndV (dChain gLe gLe (dC (.int 1)) (dCB gLen (dOne (dVar 0))) (dC (.int 6))) (dCB gAll (dOne (dLc (iSq (dVar 0)) (.nm 1) tYesD (dOp (gIn false) (dVar 1) (dC (.str "abcdefghijklmnopqrstuvwxyz"))) [1]))))))
noncomputable def is_name : DF := fnD 1 2 (is_name_b)
abbrev House_look_station_N : List Str := ["self", "name"]
noncomputable def House_look_station_b : DS := (sIf (dOr (dNot (tst (dCall is_name [] (dOne (dVar 1))))) (tst (dOp (gInD true) (dVar 1) (dFld "seats" (dVar 0))))) (sRaise "NoStation") sNext)
noncomputable def House_look_station : DF := fnD 2 2 (House_look_station_b)
abbrev is_number_N : List Str := ["thing", "least", "most"]
noncomputable def is_number_b : DS := (sRet (dAndV (dUn (gIsiT "int") (dVar 0)) (dAndV (dNotV (dUn (gIsiT "bool") (dVar 0))) (dChain gLe gLe (dVar 1) (dVar 0) (dVar 2)))))
noncomputable def is_number : DF := fnD 3 3 (is_number_b)
abbrev look_span_N : List Str := ["begin", "end", "least", "most"]
noncomputable def look_span_b : DS := (sIf (dOr (dNot (tst (dCall is_number [] (dCons (dVar 0) (dCons (dVar 2) (dOne (dVar 3))))))) (dOr (dNot (tst (dCall is_number [] (dCons (dVar 1) (dCons (dVar 2) (dOne (dVar 3))))))) (tst (dOp gGe (dVar 0) (dVar 1))))) (sRaise "NoHour") sNext)
noncomputable def look_span : DF := fnD 4 4 (look_span_b)
abbrev House_open_station_N : List Str := ["self", "name", "upper", "opening", "closing", "manner"]
noncomputable def House_open_station_s1 : DS := (sIf (dNot (tst (dCall is_name [] (dOne (dVar 1))))) (sRaise "NoName") sNext)
noncomputable def House_open_station_s2 : DS := (sIf (tst (dOp (gInD false) (dVar 1) (dFld "seats" (dVar 0)))) (sRaise "Taken") sNext)
noncomputable def House_open_station_s3 : DS := (sIf (tst (dUn (gIsN true) (dVar 2))) (sExpr (dMt House_look_station "look_station" 1 0 [0, 1] dfl_look_station (dVar 0) (dOne (dVar 2)) dNil)) sNext)
noncomputable def House_open_station_s4 : DS := (sExpr (dCall look_span [] (dCons (dVar 3) (dCons (dVar 4) (dCons (dC (.int 0)) (dOne (dC (.int 24))))))))
noncomputable def House_open_station_s5 : DS := (sIf (dOr (dNot (tst (dUn (gIsiT "str") (dVar 5)))) (tst (dOp (gIn true) (dVar 5) (dC (.tup [(.str "join"), (.str "push")]))))) (sRaise "NoRule") sNext)
noncomputable def House_open_station_s6 : DS := (sIf (tst (dOp (gEq false) (dCB gLen (dOne (dFld "ranks" (dVar 0)))) (dC (.int 6)))) (sRaise "Full") sNext)
noncomputable def House_open_station_s7 : DS := (sFapp "ranks" (dVar 0) (dVar 1))
noncomputable def House_open_station_s8 : DS := (sFputK "seats" (dVar 0) (dVar 1) (dTup (dCons (dVar 2) (dCons (dVar 3) (dCons (dVar 4) (dOne (dVar 5)))))))
noncomputable def House_open_station_s9 : DS := (sFapp "done" (dVar 0) (dTup (dCons (dC (.str "open")) (dCons (dVar 1) (dCons (dVar 2) (dCons (dVar 3) (dCons (dVar 4) (dOne (dVar 5)))))))))
noncomputable def House_open_station_s10 : DS := (sRet (dCB gLen (dOne (dFld "ranks" (dVar 0)))))
noncomputable def House_open_station_b : DS := (sSeq House_open_station_s1
    (sSeq House_open_station_s2
    (sSeq House_open_station_s3
    (sSeq House_open_station_s4
    (sSeq House_open_station_s5
    (sSeq House_open_station_s6
    (sSeq House_open_station_s7
    (sSeq House_open_station_s8
    (sSeq House_open_station_s9
    House_open_station_s10)))))))))
noncomputable def House_open_station : DF := fnD 6 6 (House_open_station_b)
abbrev do_open_N : List Str := ["house", "deed"]
noncomputable def do_open_b : DS := (sExpr (dMt House_open_station "open_station" 1 4 [0, 1, 2, 3, 4, 5] dfl_open_station (dVar 0) (dOne (dOp gIx (dVar 1) (dC (.int 1)))) (dCons (dOp gIx (dVar 1) (dC (.int 2))) (dCons (dOp gIx (dVar 1) (dC (.int 3))) (dCons (dOp gIx (dVar 1) (dC (.int 4))) (dOne (dOp gIx (dVar 1) (dC (.int 5)))))))))
noncomputable def do_open : DF := fnD 2 2 (do_open_b)
abbrev is_sort_N : List Str := ["thing"]
noncomputable def is_sort_b : DS := (sRet (dAndV (dUn (gIsiT "str") (dVar 0)) (dOp (gIn false) (dVar 0) (dC (.tup [(.str "news"), (.str "talk"), (.str "tune")])))))
noncomputable def is_sort : DF := fnD 1 1 (is_sort_b)
abbrev is_show_N : List Str := ["thing", "name", "sort", "long", "live", "most"]
noncomputable def is_show_b : DS := (sSeq (sIf (dOr (dNot (tst (dUn (gIsiT "tuple") (dVar 0)))) (tst (dOp (gEq true) (dCB gLen (dOne (dVar 0))) (dC (.int 5))))) (sRet (dC (.bl false))) sNext)
    (sSeq (sSetT [1, 2, 3, 4, 5] (dVar 0))
    (sSeq (sIf (dOr (dNot (tst (dCall is_name [] (dOne (dVar 1))))) (dOr (dNot (tst (dCall is_sort [] (dOne (dVar 2))))) (dNot (tst (dCall is_number [] (dCons (dVar 3) (dCons (dC (.int 1)) (dOne (dC (.int 8)))))))))) (sRet (dC (.bl false))) sNext)
    (sRet (dAndV (dUn (gIsiT "bool") (dVar 4)) (dCall is_number [] (dCons (dVar 5) (dCons (dC (.int 0)) (dOne (dC (.int 9)))))))))))
noncomputable def is_show : DF := fnD 1 6 (is_show_b)
abbrev House_add_show_N : List Str := ["self", "show"]
noncomputable def House_add_show_b : DS := (sSeq (sIf (dNot (tst (dCall is_show [] (dOne (dVar 1))))) (sRaise "NoShow") sNext)
    (sSeq (sIf (tst (dOp (gInD false) (dOp gIx (dVar 1) (dC (.int 0))) (dFld "known" (dVar 0)))) (sRaise "Taken") sNext)
    (sSeq (sFputK "known" (dVar 0) (dOp gIx (dVar 1) (dC (.int 0))) (dVar 1))
    (sSeq (sFapp "done" (dVar 0) (dOp gAdd (dTup (dOne (dC (.str "show")))) (dVar 1)))
    (sRet (dCB gLenD (dOne (dFld "known" (dVar 0)))))))))
noncomputable def House_add_show : DF := fnD 2 2 (House_add_show_b)
abbrev do_show_N : List Str := ["house", "deed"]
noncomputable def do_show_b : DS := (sExpr (dMt House_add_show "add_show" 1 0 [0, 1] dfl_add_show (dVar 0) (dOne (dSl (dVar 1) (dPart (dC (.int 1))) dNo)) dNil))
noncomputable def do_show : DF := fnD 2 2 (do_show_b)
abbrev House_station_N : List Str := ["self", "name"]
noncomputable def House_station_b : DS := (sSeq (sExpr (dMt House_look_station "look_station" 1 0 [0, 1] dfl_look_station (dVar 0) (dOne (dVar 1)) dNil))
    (sRet (dOp gIxD (dFld "seats" (dVar 0)) (dVar 1))))
noncomputable def House_station : DF := fnD 2 2 (House_station_b)
abbrev House_show_N : List Str := ["self", "name"]
noncomputable def House_show_b : DS := (sSeq (sIf (dNot (tst (dCall is_name [] (dOne (dVar 1))))) (sRaise "NoShow") sNext)
    (sTry0 (sRet (dOp gIxD (dFld "known" (dVar 0)) (dVar 1)))))
noncomputable def House_show : DF := fnD 2 2 (House_show_b)
abbrev is_day_N : List Str := ["thing"]
noncomputable def is_day_b : DS := (sRet (dCall is_number [] (dCons (dVar 0) (dCons (dC (.int 0)) (dOne (dOp gSub (dC (.int 100)) (dC (.int 1))))))))
noncomputable def is_day : DF := fnD 1 1 (is_day_b)
abbrev look_day_N : List Str := ["day"]
noncomputable def look_day_b : DS := (sIf (dNot (tst (dCall is_day [] (dOne (dVar 0))))) (sRaise "NoDay") sNext)
noncomputable def look_day : DF := fnD 1 1 (look_day_b)
abbrev House_look_since_N : List Str := ["self", "station", "weekday", "since", "at"]
noncomputable def House_look_since_b : DS := (sSeq (sIf (tst (dOp gLt (dOp gMul (dVar 3) (dC (.int 24))) (dFld "many" (dVar 0)))) (sRaise "TooLate") sNext)
    (sIf (tst (dCB gAny (dOne (dLcD (locF 0 "plans") (.nm 4) tYesD (dAndV (dOp (gEq false) (dOp gIx (dVar 4) (dC (.int 0))) (dVar 1)) (dAndV (dOp gGe (dOp gIx (dVar 4) (dC (.int 1))) (dVar 3)) (dOp (gEq false) (dOp gMod (dOp gIx (dVar 4) (dC (.int 1))) (dC (.int 5))) (dVar 2)))) [4])))) (sRaise "Settled") sNext))
noncomputable def House_look_since : DF := fnD 4 5 (House_look_since_b)
abbrev House_put_week_N : List Str := ["self", "station", "weekday", "hour", "name", "starting", "show", "first", "last"]
noncomputable def House_put_week_s1 : DS := (sSetT [7, 8] (dSl (dMt House_station "station" 1 0 [0, 1] dfl_station (dVar 0) (dOne (dVar 1)) dNil) (dPart (dC (.int 1))) (dPart (dC (.int 3)))))
noncomputable def House_put_week_s2 : DS := (sIf (dNot (tst (dCall is_number [] (dCons (dVar 2) (dCons (dC (.int 0)) (dOne (dOp gSub (dC (.int 5)) (dC (.int 1))))))))) (sRaise "NoDay") sNext)
noncomputable def House_put_week_s3 : DS := (sSetF 6 (dMt House_show "show" 1 0 [0, 1] dfl_show (dVar 0) (dOne (dVar 4)) dNil))
noncomputable def House_put_week_s4 : DS := (sExpr (dCall look_day [] (dOne (dVar 5))))
noncomputable def House_put_week_s5 : DS := (sIf (dNot (tst (dCall is_number [] (dCons (dVar 3) (dCons (dVar 7) (dOne (dOp gSub (dVar 8) (dOp gIx (dVar 6) (dC (.int 2)))))))))) (sRaise "NoHour") sNext)
noncomputable def House_put_week_s6 : DS := (sIf (tst (dOp gGt (dOp gIx (dVar 6) (dC (.int 4))) (dC (.int 0)))) (sRaiseF "NoRights" ["most"] 1 0 (dOne (dOp gIx (dVar 6) (dC (.int 4)))) dNil) sNext)
noncomputable def House_put_week_s7 : DS := (sExpr (dMt House_look_since "look_since" 3 0 [0, 1, 2, 3] dfl_look_since (dVar 0) (dCons (dVar 1) (dCons (dVar 2) (dOne (dVar 5)))) dNil))
noncomputable def House_put_week_s8 : DS := (sFapp "weeks" (dVar 0) (dTup (dCons (dVar 1) (dCons (dVar 2) (dCons (dVar 5) (dCons (dVar 3) (dCons (dOp gAdd (dVar 3) (dOp gIx (dVar 6) (dC (.int 2)))) (dOne (dVar 4)))))))))
noncomputable def House_put_week_s9 : DS := (sFapp "done" (dVar 0) (dTup (dCons (dC (.str "week")) (dCons (dVar 1) (dCons (dVar 2) (dCons (dVar 3) (dCons (dVar 4) (dOne (dVar 5)))))))))
noncomputable def House_put_week_b : DS := (sSeq House_put_week_s1
    (sSeq House_put_week_s2
    (sSeq House_put_week_s3
    (sSeq House_put_week_s4
    (sSeq House_put_week_s5
    (sSeq House_put_week_s6
    (sSeq House_put_week_s7
    (sSeq House_put_week_s8
    House_put_week_s9))))))))
noncomputable def House_put_week : DF := fnD 6 9 (House_put_week_b)
abbrev do_week_N : List Str := ["house", "deed"]
noncomputable def do_week_b : DS := (sExpr (dMt House_put_week "put_week" 4 1 [0, 1, 2, 3, 4, 5] dfl_put_week (dVar 0) (dCons (dOp gIx (dVar 1) (dC (.int 1))) (dCons (dOp gIx (dVar 1) (dC (.int 2))) (dCons (dOp gIx (dVar 1) (dC (.int 3))) (dOne (dOp gIx (dVar 1) (dC (.int 4))))))) (dOne (dOp gIx (dVar 1) (dC (.int 5))))))
noncomputable def do_week : DF := fnD 2 2 (do_week_b)
abbrev House_clear_week_N : List Str := ["self", "station", "weekday", "opening", "closing", "starting"]
noncomputable def House_clear_week_s1 : DS := (sExpr (dMt House_look_station "look_station" 1 0 [0, 1] dfl_look_station (dVar 0) (dOne (dVar 1)) dNil))
noncomputable def House_clear_week_s2 : DS := (sIf (dNot (tst (dCall is_number [] (dCons (dVar 2) (dCons (dC (.int 0)) (dOne (dOp gSub (dC (.int 5)) (dC (.int 1))))))))) (sRaise "NoDay") sNext)
noncomputable def House_clear_week_s3 : DS := (sExpr (dCall look_day [] (dOne (dVar 5))))
noncomputable def House_clear_week_s4 : DS := (sExpr (dCall look_span [] (dCons (dVar 3) (dCons (dVar 4) (dCons (dC (.int 0)) (dOne (dC (.int 24))))))))
noncomputable def House_clear_week_s5 : DS := (sExpr (dMt House_look_since "look_since" 3 0 [0, 1, 2, 3] dfl_look_since (dVar 0) (dCons (dVar 1) (dCons (dVar 2) (dOne (dVar 5)))) dNil))
noncomputable def House_clear_week_s6 : DS := (sFapp "weeks" (dVar 0) (dTup (dCons (dVar 1) (dCons (dVar 2) (dCons (dVar 5) (dCons (dVar 3) (dCons (dVar 4) (dOne (dC .non)))))))))
noncomputable def House_clear_week_s7 : DS := (sFapp "done" (dVar 0) (dTup (dCons (dC (.str "clear")) (dCons (dVar 1) (dCons (dVar 2) (dCons (dVar 3) (dCons (dVar 4) (dOne (dVar 5)))))))))
noncomputable def House_clear_week_b : DS := (sSeq House_clear_week_s1
    (sSeq House_clear_week_s2
    (sSeq House_clear_week_s3
    (sSeq House_clear_week_s4
    (sSeq House_clear_week_s5
    (sSeq House_clear_week_s6
    House_clear_week_s7))))))
noncomputable def House_clear_week : DF := fnD 6 6 (House_clear_week_b)
abbrev do_clear_N : List Str := ["house", "deed"]
noncomputable def do_clear_b : DS := (sExpr (dMt House_clear_week "clear_week" 4 1 [0, 1, 2, 3, 4, 5] dfl_clear_week (dVar 0) (dCons (dOp gIx (dVar 1) (dC (.int 1))) (dCons (dOp gIx (dVar 1) (dC (.int 2))) (dCons (dOp gIx (dVar 1) (dC (.int 3))) (dOne (dOp gIx (dVar 1) (dC (.int 4))))))) (dOne (dOp gIx (dVar 1) (dC (.int 5))))))
noncomputable def do_clear : DF := fnD 2 2 (do_clear_b)
abbrev laid_N : List Str := ["rows", "begin", "end", "made", "row"]
noncomputable def laid_l1 : DS := (sIf (dOr (tst (dOp gLe (dOp gIx (dVar 4) (dC (.int 1))) (dVar 1))) (tst (dOp gGe (dOp gIx (dVar 4) (dC (.int 0))) (dVar 2)))) (sApp 3 (dVar 4)) (sIf (tst (dOp gLt (dOp gIx (dVar 4) (dC (.int 0))) (dVar 1))) (sApp 3 (dTup (dCons (dOp gIx (dVar 4) (dC (.int 0))) (dCons (dVar 1) (dOne (dOp gIx (dVar 4) (dC (.int 2)))))))) sNext))
noncomputable def laid_b : DS := (sSeq (sSet 3 (dLst dNil))
    (sSeq (sFor (iSq (dVar 0)) (.nm 4) laid_l1)
    (sRetV 3)))
noncomputable def laid : DF := fnD 3 5 (laid_b)
abbrev laid_with_N : List Str := ["rows", "begin", "end", "name"]
noncomputable def laid_with_b : DS := (sRet (dCB gSorted (dOne (dOp gAdd (dCall laid [] (dCons (dVar 0) (dCons (dVar 1) (dOne (dVar 2))))) (dLst (dOne (dTup (dCons (dVar 1) (dCons (dVar 2) (dOne (dVar 3)))))))))))
noncomputable def laid_with : DF := fnD 4 4 (laid_with_b)
abbrev House_rows_by_week_N : List Str := ["self", "station", "day", "weekday", "rows", "place", "when", "since", "begin", "end", "name"]
noncomputable def House_rows_by_week_l1 : DS := (sIf (dAnd (tst (dOp (gEq false) (dVar 5) (dVar 1))) (dAnd (tst (dOp (gEq false) (dVar 6) (dVar 3))) (tst (dOp gLe (dVar 7) (dVar 2))))) (sSetF 4 (dIf (tst (dUn (gIsN false) (dVar 10))) (dCall laid [] (dCons (dVar 4) (dCons (dVar 8) (dOne (dVar 9))))) (dCall laid_with [] (dCons (dVar 4) (dCons (dVar 8) (dCons (dVar 9) (dOne (dVar 10)))))))) sNext)
noncomputable def House_rows_by_week_b : DS := (sSeq (sSetF 4 (dLst dNil))
    (sSeq (sForF "weeks" (dVar 0) (.tp [5, 6, 7, 8, 9, 10]) House_rows_by_week_l1)
    (sRetV 4)))
noncomputable def House_rows_by_week : DF := fnD 4 11 (House_rows_by_week_b)
abbrev House_week_rows_N : List Str := ["self", "station", "day"]
noncomputable def House_week_rows_b : DS := (sSeq (sExpr (dMt House_look_station "look_station" 1 0 [0, 1] dfl_look_station (dVar 0) (dOne (dVar 1)) dNil))
    (sSeq (sExpr (dCall look_day [] (dOne (dVar 2))))
    (sRet (dMt House_rows_by_week "rows_by_week" 3 0 [0, 1, 2, 3] dfl_rows_by_week (dVar 0) (dCons (dVar 1) (dCons (dVar 2) (dOne (dOp gMod (dVar 2) (dC (.int 5)))))) dNil))))
noncomputable def House_week_rows : DF := fnD 3 3 (House_week_rows_b)
abbrev House_own_rows_N : List Str := ["self", "station", "day", "made"]
noncomputable def House_own_rows_b : DS := (sSeq (sSetF 3 (dMt House_week_rows "week_rows" 2 0 [0, 1, 2] dfl_week_rows (dVar 0) (dCons (dVar 1) (dOne (dVar 2))) dNil))
    (sRet (dIf (tst (dInT false (keyT (dCons (dVar 1) (dOne (dVar 2)))) (dFld "plans" (dVar 0)))) (dCB gList (dOne (dIxT (dFld "plans" (dVar 0)) (keyT (dCons (dVar 1) (dOne (dVar 2))))))) (dVar 3))))
noncomputable def House_own_rows : DF := fnD 3 4 (House_own_rows_b)
abbrev House_times_N : List Str := ["self", "name", "made", "station", "day", "row"]
noncomputable def House_times_l1 : DS := (sExt 2 (dLc (iSq (dIxT (dFld "plans" (dVar 0)) (keyT (dCons (dVar 3) (dOne (dVar 4)))))) (.nm 5) (tst (dOp (gEq false) (dOp gIx (dVar 5) (dC (.int 2))) (dVar 1))) (dTup (dCons (dVar 4) (dCons (dVar 3) (dOne (dOp gIx (dVar 5) (dC (.int 0))))))) [5]))
noncomputable def House_times_b : DS := (sSeq (sExpr (dMt House_show "show" 1 0 [0, 1] dfl_show (dVar 0) (dOne (dVar 1)) dNil))
    (sSeq (sSet 2 (dLst dNil))
    (sSeq (sForD (locF 0 "plans") (.tp [3, 4]) House_times_l1)
    (sRet (dCB gSorted (dOne (dVar 2)))))))
noncomputable def House_times : DF := fnD 2 6 (House_times_b)
abbrev House_put_N : List Str := ["self", "station", "day", "hour", "name", "show", "old", "rows", "here", "first", "last", "row"]
noncomputable def House_put_s1 : DS := (sSetT [9, 10] (dSl (dMt House_station "station" 1 0 [0, 1] dfl_station (dVar 0) (dOne (dVar 1)) dNil) (dPart (dC (.int 1))) (dPart (dC (.int 3)))))
noncomputable def House_put_s2 : DS := (sExpr (dCall look_day [] (dOne (dVar 2))))
noncomputable def House_put_s3 : DS := (sSetF 5 (dMt House_show "show" 1 0 [0, 1] dfl_show (dVar 0) (dOne (dVar 4)) dNil))
noncomputable def House_put_s4 : DS := (sIf (dNot (tst (dCall is_number [] (dCons (dVar 3) (dCons (dVar 9) (dOne (dOp gSub (dVar 10) (dOp gIx (dVar 5) (dC (.int 2)))))))))) (sRaise "NoHour") sNext)
noncomputable def House_put_s5 : DS := (sIf (tst (dOp gLt (dOp gAdd (dOp gMul (dVar 2) (dC (.int 24))) (dVar 3)) (dFld "many" (dVar 0)))) (sRaise "TooLate") sNext)
noncomputable def House_put_s6 : DS := (sSetF 6 (dMt House_own_rows "own_rows" 2 0 [0, 1, 2] dfl_own_rows (dVar 0) (dCons (dVar 1) (dOne (dVar 2))) dNil))
noncomputable def House_put_s7 : DS := (sSetF 7 (dCall laid_with [] (dCons (dVar 6) (dCons (dVar 3) (dCons (dOp gAdd (dVar 3) (dOp gIx (dVar 5) (dC (.int 2)))) (dOne (dVar 4)))))))
noncomputable def House_put_s8 : DS := (sSetF 8 (dOp gSub (dCB gLen (dOne (dLc (iSq (dVar 7)) (.nm 11) (tst (dOp (gEq false) (dOp gIx (dVar 11) (dC (.int 2))) (dVar 4))) (dVar 11) [11]))) (dCB gLen (dOne (dLc (iSq (dVar 6)) (.nm 11) (tst (dOp (gEq false) (dOp gIx (dVar 11) (dC (.int 2))) (dVar 4))) (dVar 11) [11])))))
noncomputable def House_put_s9 : DS := (sIf (dAnd (tst (dOp gGt (dOp gIx (dVar 5) (dC (.int 4))) (dC (.int 0)))) (tst (dOp gGt (dOp gAdd (dCB gLen (dOne (dMt House_times "times" 1 0 [0, 1] dfl_times (dVar 0) (dOne (dVar 4)) dNil))) (dVar 8)) (dOp gIx (dVar 5) (dC (.int 4)))))) (sRaiseF "NoRights" ["most"] 1 0 (dOne (dOp gIx (dVar 5) (dC (.int 4)))) dNil) sNext)
noncomputable def House_put_s10 : DS := (sFputT "plans" (dVar 0) (keyT (dCons (dVar 1) (dOne (dVar 2)))) (dVar 7))
noncomputable def House_put_s11 : DS := (sFapp "done" (dVar 0) (dTup (dCons (dC (.str "put")) (dCons (dVar 1) (dCons (dVar 2) (dCons (dVar 3) (dOne (dVar 4))))))))
noncomputable def House_put_s12 : DS := (sRet (dCB gLen (dOne (dVar 7))))
noncomputable def House_put_b : DS := (sSeq House_put_s1
    (sSeq House_put_s2
    (sSeq House_put_s3
    (sSeq House_put_s4
    (sSeq House_put_s5
    (sSeq House_put_s6
    (sSeq House_put_s7
    (sSeq House_put_s8
    (sSeq House_put_s9
    (sSeq House_put_s10
    (sSeq House_put_s11
    House_put_s12)))))))))))
noncomputable def House_put : DF := fnD 5 12 (House_put_b)
abbrev do_put_N : List Str := ["house", "deed"]
noncomputable def do_put_b : DS := (sExpr (dMt House_put "put" 4 0 [0, 1, 2, 3, 4] dfl_put (dVar 0) (dCons (dOp gIx (dVar 1) (dC (.int 1))) (dCons (dOp gIx (dVar 1) (dC (.int 2))) (dCons (dOp gIx (dVar 1) (dC (.int 3))) (dOne (dOp gIx (dVar 1) (dC (.int 4))))))) dNil))
noncomputable def do_put : DF := fnD 2 2 (do_put_b)
abbrev look_hour_N : List Str := ["hour"]
noncomputable def look_hour_b : DS := (sIf (dNot (tst (dCall is_number [] (dCons (dVar 0) (dCons (dC (.int 0)) (dOne (dOp gSub (dC (.int 24)) (dC (.int 1))))))))) (sRaise "NoHour") sNext)
noncomputable def look_hour : DF := fnD 1 1 (look_hour_b)
abbrev House_row_at_N : List Str := ["self", "station", "day", "hour", "all_rows", "rows", "row"]
noncomputable def House_row_at_b : DS := (sSeq (sSetF 4 (dMt House_own_rows "own_rows" 2 0 [0, 1, 2] dfl_own_rows (dVar 0) (dCons (dVar 1) (dOne (dVar 2))) dNil))
    (sSeq (sExpr (dCall look_hour [] (dOne (dVar 3))))
    (sSeq (sSetF 5 (dLc (iSq (dVar 4)) (.nm 6) (tst (dOp (gEq false) (dOp gIx (dVar 6) (dC (.int 0))) (dVar 3))) (dVar 6) [6]))
    (sSeq (sIf (tst (dOp (gEq false) (dVar 5) (dLst dNil))) (sRaiseF "NoRow" ["hour"] 1 0 (dOne (dVar 3)) dNil) sNext)
    (sRet (dOp gIx (dVar 5) (dC (.int 0))))))))
noncomputable def House_row_at : DF := fnD 4 7 (House_row_at_b)
abbrev House_drop_N : List Str := ["self", "station", "day", "hour", "row", "one"]
noncomputable def House_drop_b : DS := (sSeq (sSetF 4 (dMt House_row_at "row_at" 3 0 [0, 1, 2, 3] dfl_row_at (dVar 0) (dCons (dVar 1) (dCons (dVar 2) (dOne (dVar 3)))) dNil))
    (sSeq (sIf (tst (dOp gLt (dOp gAdd (dOp gMul (dVar 2) (dC (.int 24))) (dVar 3)) (dFld "many" (dVar 0)))) (sRaise "TooLate") sNext)
    (sSeq (sFputT "plans" (dVar 0) (keyT (dCons (dVar 1) (dOne (dVar 2)))) (dLc (iSq (dMt House_own_rows "own_rows" 2 0 [0, 1, 2] dfl_own_rows (dVar 0) (dCons (dVar 1) (dOne (dVar 2))) dNil)) (.nm 5) (tst (dOp (gEq true) (dVar 5) (dVar 4))) (dVar 5) [5]))
    (sSeq (sFapp "done" (dVar 0) (dTup (dCons (dC (.str "drop")) (dCons (dVar 1) (dCons (dVar 2) (dOne (dVar 3)))))))
    (sRetV 4)))))
noncomputable def House_drop : DF := fnD 4 6 (House_drop_b)
abbrev do_drop_N : List Str := ["house", "deed"]
noncomputable def do_drop_b : DS := (sExpr (dMt House_drop "drop" 3 0 [0, 1, 2, 3] dfl_drop (dVar 0) (dCons (dOp gIx (dVar 1) (dC (.int 1))) (dCons (dOp gIx (dVar 1) (dC (.int 2))) (dOne (dOp gIx (dVar 1) (dC (.int 3)))))) dNil))
noncomputable def do_drop : DF := fnD 2 2 (do_drop_b)
abbrev joined_N : List Str := ["rows", "begin", "end", "made", "row"]
noncomputable def joined_l1 : DS := (sIf (tst (dOp (gEq false) (dOp gIx (dVar 4) (dC (.int 0))) (dVar 1))) (sApp 3 (dTup (dCons (dVar 1) (dCons (dVar 2) (dOne (dOp gIx (dVar 4) (dC (.int 2)))))))) (sIf (dOr (tst (dOp gLt (dOp gIx (dVar 4) (dC (.int 0))) (dVar 1))) (tst (dOp gGe (dOp gIx (dVar 4) (dC (.int 0))) (dVar 2)))) (sApp 3 (dVar 4)) (sIf (tst (dOp gGt (dOp gIx (dVar 4) (dC (.int 1))) (dVar 2))) (sApp 3 (dTup (dCons (dVar 2) (dCons (dOp gIx (dVar 4) (dC (.int 1))) (dOne (dOp gIx (dVar 4) (dC (.int 2)))))))) sNext)))
noncomputable def joined_b : DS := (sSeq (sSet 3 (dLst dNil))
    (sSeq (sFor (iSq (dVar 0)) (.nm 4) joined_l1)
    (sRetV 3)))
noncomputable def joined : DF := fnD 3 5 (joined_b)
abbrev next_fixed_N : List Str := ["rows", "at", "last", "fixed", "row"]
noncomputable def next_fixed_b : DS := (sRet (dOp gMinD (dLc (iSq (dVar 0)) (.nm 4) (dAnd (tst (dOp gGe (dOp gIx (dVar 4) (dC (.int 0))) (dVar 1))) (tst (dOp (gIn false) (dOp gIx (dVar 4) (dC (.int 2))) (dVar 3)))) (dOp gIx (dVar 4) (dC (.int 0))) [4]) (dVar 2)))
noncomputable def next_fixed : DF := fnD 4 5 (next_fixed_b)
abbrev pushed_N : List Str := ["rows", "begin", "end", "last", "fixed", "row", "made", "at", "stop"]
noncomputable def pushed_l1 : DS := (sIf (tst (dOp (gEq false) (dOp gIx (dVar 5) (dC (.int 0))) (dVar 1))) (sSeq (sApp 6 (dTup (dCons (dVar 1) (dCons (dVar 2) (dOne (dOp gIx (dVar 5) (dC (.int 2))))))))
    (sSetF 7 (dVar 2))) (sIf (tst (dOp gGe (dOp gIx (dVar 5) (dC (.int 0))) (dVar 7))) (sSeq (sApp 6 (dVar 5))
    (sSetF 7 (dOp gIx (dVar 5) (dC (.int 1))))) (sSeq (sSetF 8 (dCB gMin2 (dCons (dOp gSub (dOp gAdd (dVar 7) (dOp gIx (dVar 5) (dC (.int 1)))) (dOp gIx (dVar 5) (dC (.int 0)))) (dOne (dCall next_fixed [] (dCons (dVar 0) (dCons (dOp gIx (dVar 5) (dC (.int 0))) (dCons (dVar 3) (dOne (dVar 4))))))))))
    (sIf (tst (dOp gGt (dVar 8) (dVar 7))) (sSeq (sApp 6 (dTup (dCons (dVar 7) (dCons (dVar 8) (dOne (dOp gIx (dVar 5) (dC (.int 2))))))))
    (sSetF 7 (dVar 8))) sNext))))
noncomputable def pushed_b : DS := (sSeq (sParF [6, 7] [true, false] (dCons (dLst dNil) (dOne (dC (.int 0)))))
    (sSeq (sFor (iSq (dVar 0)) (.nm 5) pushed_l1)
    (sRetV 6)))
noncomputable def pushed : DF := fnD 5 9 (pushed_b)
abbrev House_overrun_N : List Str := ["self", "station", "day", "hour", "extra", "row", "news", "ahead", "made", "above", "first", "last", "rule", "end", "rows", "name", "one"]
noncomputable def House_overrun_s1 : DS := (sSetF 5 (dMt House_row_at "row_at" 3 0 [0, 1, 2, 3] dfl_row_at (dVar 0) (dCons (dVar 1) (dCons (dVar 2) (dOne (dVar 3)))) dNil))
noncomputable def House_overrun_s2 : DS := (sIf (dNot (tst (dCall is_number [] (dCons (dVar 4) (dCons (dC (.int 1)) (dOne (dC (.int 8)))))))) (sRaise "NoMore") sNext)
noncomputable def House_overrun_s3 : DS := (sSetT [9, 10, 11, 12] (dOp gIxD (dFld "seats" (dVar 0)) (dVar 1)))
noncomputable def House_overrun_s4 : DS := (sIf (dNot (tst (dOp gIx (dOp gIxD (dFld "known" (dVar 0)) (dOp gIx (dVar 5) (dC (.int 2)))) (dC (.int 3))))) (sRaise "NotLive") sNext)
noncomputable def House_overrun_s5 : DS := (sParF [13, 14] [false, false] (dCons (dOp gAdd (dOp gIx (dVar 5) (dC (.int 1))) (dVar 4)) (dOne (dMt House_own_rows "own_rows" 2 0 [0, 1, 2] dfl_own_rows (dVar 0) (dCons (dVar 1) (dOne (dVar 2))) dNil))))
noncomputable def House_overrun_s6 : DS := (sIf (tst (dOp gGt (dVar 13) (dVar 11))) (sRaiseF "TooLong" ["last"] 1 0 (dOne (dVar 11)) dNil) sNext)
noncomputable def House_overrun_s7 : DS := (sSetF 6 (dLcD (locF 0 "known") (.nm 15) (tst (dOp (gEq false) (dOp gIx (dOp gIxD (dFld "known" (dVar 0)) (dVar 15)) (dC (.int 1))) (dC (.str "news")))) (dVar 15) [15]))
noncomputable def House_overrun_s8 : DS := (sSetF 7 (dLc (iSq (dVar 14)) (.nm 16) (dAnd (tst (dChain gLt gLt (dVar 3) (dOp gIx (dVar 16) (dC (.int 0))) (dVar 13))) (tst (dOp (gIn false) (dOp gIx (dVar 16) (dC (.int 2))) (dVar 6)))) (dVar 16) [16]))
noncomputable def House_overrun_s9 : DS := (sIf (tst (dOp (gEq true) (dVar 7) (dLst dNil))) (sRaiseF "NewsAhead" ["hour", "name"] 1 1 (dOne (dOp gIx (dOp gIx (dVar 7) (dC (.int 0))) (dC (.int 0)))) (dOne (dOp gIx (dOp gIx (dVar 7) (dC (.int 0))) (dC (.int 2))))) sNext)
noncomputable def House_overrun_s10 : DS := (sIf (tst (dOp gLt (dOp gAdd (dOp gMul (dVar 2) (dC (.int 24))) (dOp gIx (dVar 5) (dC (.int 1)))) (dFld "many" (dVar 0)))) (sRaise "TooLate") sNext)
noncomputable def House_overrun_s11 : DS := (sSetF 8 (dIf (tst (dOp (gEq false) (dVar 12) (dC (.str "join")))) (dCall joined [] (dCons (dVar 14) (dCons (dVar 3) (dOne (dVar 13))))) (dCall pushed [] (dCons (dVar 14) (dCons (dVar 3) (dCons (dVar 13) (dCons (dVar 11) (dOne (dVar 6)))))))))
noncomputable def House_overrun_s12 : DS := (sFputT "plans" (dVar 0) (keyT (dCons (dVar 1) (dOne (dVar 2)))) (dVar 8))
noncomputable def House_overrun_s13 : DS := (sFapp "done" (dVar 0) (dTup (dCons (dC (.str "over")) (dCons (dVar 1) (dCons (dVar 2) (dCons (dVar 3) (dOne (dVar 4))))))))
noncomputable def House_overrun_s14 : DS := (sRet (dTup (dCons (dVar 3) (dCons (dVar 13) (dOne (dOp gIx (dVar 5) (dC (.int 2))))))))
noncomputable def House_overrun_b : DS := (sSeq House_overrun_s1
    (sSeq House_overrun_s2
    (sSeq House_overrun_s3
    (sSeq House_overrun_s4
    (sSeq House_overrun_s5
    (sSeq House_overrun_s6
    (sSeq House_overrun_s7
    (sSeq House_overrun_s8
    (sSeq House_overrun_s9
    (sSeq House_overrun_s10
    (sSeq House_overrun_s11
    (sSeq House_overrun_s12
    (sSeq House_overrun_s13
    House_overrun_s14)))))))))))))
noncomputable def House_overrun : DF := fnD 5 17 (House_overrun_b)
abbrev do_over_N : List Str := ["house", "deed"]
noncomputable def do_over_b : DS := (sExpr (dMt House_overrun "overrun" 3 1 [0, 1, 2, 3, 4] dfl_overrun (dVar 0) (dCons (dOp gIx (dVar 1) (dC (.int 1))) (dCons (dOp gIx (dVar 1) (dC (.int 2))) (dOne (dOp gIx (dVar 1) (dC (.int 3)))))) (dOne (dOp gIx (dVar 1) (dC (.int 4))))))
noncomputable def do_over : DF := fnD 2 2 (do_over_b)
abbrev House_breaks_N : List Str := ["self", "station", "day"]
noncomputable def House_breaks_b : DS := (sSeq (sExpr (dMt House_look_station "look_station" 1 0 [0, 1] dfl_look_station (dVar 0) (dOne (dVar 1)) dNil))
    (sSeq (sExpr (dCall look_day [] (dOne (dVar 2))))
    (sRet (dCB gList (dOne (dGetT (dFld "cuts" (dVar 0)) (keyT (dCons (dVar 1) (dOne (dVar 2)))) (dLst dNil)))))))
noncomputable def House_breaks : DF := fnD 3 3 (House_breaks_b)
abbrev do_meet_N : List Str := ["one", "other"]
noncomputable def do_meet_b : DS := (sRet (dAndV (dOp gLt (dOp gIx (dVar 0) (dC (.int 0))) (dOp gIx (dVar 1) (dC (.int 1)))) (dOp gLt (dOp gIx (dVar 1) (dC (.int 0))) (dOp gIx (dVar 0) (dC (.int 1))))))
noncomputable def do_meet : DF := fnD 2 2 (do_meet_b)
abbrev House_break_in_N : List Str := ["self", "station", "day", "begin", "end", "old", "some", "first", "last", "one"]
noncomputable def House_break_in_s1 : DS := (sSetT [7, 8] (dSl (dMt House_station "station" 1 0 [0, 1] dfl_station (dVar 0) (dOne (dVar 1)) dNil) (dPart (dC (.int 1))) (dPart (dC (.int 3)))))
noncomputable def House_break_in_s2 : DS := (sExpr (dCall look_day [] (dOne (dVar 2))))
noncomputable def House_break_in_s3 : DS := (sExpr (dCall look_span [] (dCons (dVar 3) (dCons (dVar 4) (dCons (dVar 7) (dOne (dVar 8)))))))
noncomputable def House_break_in_s4 : DS := (sIf (tst (dOp gLt (dOp gAdd (dOp gMul (dVar 2) (dC (.int 24))) (dVar 3)) (dFld "many" (dVar 0)))) (sRaise "TooLate") sNext)
noncomputable def House_break_in_s5 : DS := (sSetF 5 (dMt House_breaks "breaks" 2 0 [0, 1, 2] dfl_breaks (dVar 0) (dCons (dVar 1) (dOne (dVar 2))) dNil))
noncomputable def House_break_in_s6 : DS := (sSetF 6 (dLc (iSq (dVar 5)) (.nm 9) (tst (dCall do_meet [] (dCons (dTup (dCons (dVar 3) (dOne (dVar 4)))) (dOne (dVar 9))))) (dVar 9) [9]))
noncomputable def House_break_in_s7 : DS := (sIf (tst (dOp (gEq true) (dVar 6) (dLst dNil))) (sRaiseF "Clash" ["begin", "end"] 0 2 dNil (dCons (dOp gIx (dOp gIx (dVar 6) (dC (.int 0))) (dC (.int 0))) (dOne (dOp gIx (dOp gIx (dVar 6) (dC (.int 0))) (dC (.int 1)))))) sNext)
noncomputable def House_break_in_s8 : DS := (sFputT "cuts" (dVar 0) (keyT (dCons (dVar 1) (dOne (dVar 2)))) (dCB gSorted (dOne (dOp gAdd (dVar 5) (dLst (dOne (dTup (dCons (dVar 3) (dOne (dVar 4))))))))))
noncomputable def House_break_in_s9 : DS := (sFapp "done" (dVar 0) (dTup (dCons (dC (.str "break")) (dCons (dVar 1) (dCons (dVar 2) (dCons (dVar 3) (dOne (dVar 4))))))))
noncomputable def House_break_in_s10 : DS := (sRet (dOp gAdd (dCB gLen (dOne (dVar 5))) (dC (.int 1))))
noncomputable def House_break_in_b : DS := (sSeq House_break_in_s1
    (sSeq House_break_in_s2
    (sSeq House_break_in_s3
    (sSeq House_break_in_s4
    (sSeq House_break_in_s5
    (sSeq House_break_in_s6
    (sSeq House_break_in_s7
    (sSeq House_break_in_s8
    (sSeq House_break_in_s9
    House_break_in_s10)))))))))
noncomputable def House_break_in : DF := fnD 5 10 (House_break_in_b)
abbrev do_break_N : List Str := ["house", "deed"]
noncomputable def do_break_b : DS := (sExpr (dMt House_break_in "break_in" 4 0 [0, 1, 2, 3, 4] dfl_break_in (dVar 0) (dCons (dOp gIx (dVar 1) (dC (.int 1))) (dCons (dOp gIx (dVar 1) (dC (.int 2))) (dCons (dOp gIx (dVar 1) (dC (.int 3))) (dOne (dOp gIx (dVar 1) (dC (.int 4))))))) dNil))
noncomputable def do_break : DF := fnD 2 2 (do_break_b)
abbrev House_now_N : List Str := ["self"]
noncomputable def House_now_b : DS := (sRet (dCB gDivmod (dCons (dFld "many" (dVar 0)) (dOne (dC (.int 24))))))
noncomputable def House_now : DF := fnD 1 1 (House_now_b)
abbrev House_tick_N : List Str := ["self", "elapsed"]
noncomputable def House_tick_b : DS := (sSeq (sIf (dNot (tst (dCall is_number [] (dCons (dVar 1) (dCons (dC (.int 1)) (dOne (dC (.int 24)))))))) (sRaise "NoMore") sNext)
    (sSeq (sIf (tst (dOp gGe (dOp gAdd (dFld "many" (dVar 0)) (dVar 1)) (dOp gMul (dC (.int 100)) (dC (.int 24))))) (sRaise "NoDay") sNext)
    (sSeq (sFst "many" (dVar 0) (dOp gAdd (dFld "many" (dVar 0)) (dVar 1)))
    (sSeq (sFapp "done" (dVar 0) (dTup (dCons (dC (.str "tick")) (dOne (dVar 1)))))
    (sRet (dMt House_now "now" 0 0 [0] dfl_now (dVar 0) dNil dNil))))))
noncomputable def House_tick : DF := fnD 2 2 (House_tick_b)
abbrev do_tick_N : List Str := ["house", "deed"]
noncomputable def do_tick_b : DS := (sExpr (dMt House_tick "tick" 1 0 [0, 1] dfl_tick (dVar 0) (dOne (dOp gIx (dVar 1) (dC (.int 1)))) dNil))
noncomputable def do_tick : DF := fnD 2 2 (do_tick_b)
noncomputable abbrev wd_DOERS : List (Str × DF) := [("open", do_open), ("show", do_show), ("week", do_week), ("clear", do_clear), ("put", do_put), ("drop", do_drop), ("over", do_over), ("break", do_break), ("tick", do_tick)]
abbrev replayed_N : List Str := ["deeds", "house", "e", "deed", "doer"]
noncomputable def replayed_l1 : DS := (sDo 4 wd_DOERS (dOp gIx (dVar 3) (dC (.int 0))) (dCons (dVar 1) (dOne (dVar 3))))
noncomputable def replayed_b : DS := (sSeq (sIf (dOr (dNot (tst (dUn (gIsiT "list") (dVar 0)))) (dNot (tst (dCB gAll (dOne (dLc (iSq (dVar 0)) (.nm 3) tYesD (dCall is_deed [] (dOne (dVar 3))) [3])))))) (sRaise "NoDeeds") sNext)
    (sSeq (sSetF 1 dNew)
    (sSeq (sTryF "NoDeeds" (sFor (iSq (dVar 0)) (.nm 3) replayed_l1))
    (sRetV 1))))
noncomputable def replayed : DF := fnD 1 5 (replayed_b)
abbrev law_N : List Str := ["script", "hour", "deeds", "thing", "some", "one", "other", "third", "k", "deed", "bad", "j", "one_bad"]
noncomputable def law_l1 : DS := (sIf (tst (dOp (gEq true) (dTold (dCall replayed [] (dOne (dVar 3)))) (dTup (dCons (dC (.str "refused")) (dOne (dC (.str "NoDeeds"))))))) (sRet (dC (.bl false))) sNext)
noncomputable def law_l2 : DS := (sExt 10 (dLc (iSq (dLst (dCons (dC (.str "")) (dCons (dLst (dOne (dC (.int 1)))) (dCons (dUn gNeg (dC (.int 1))) (dCons (dC (.int 2400)) (dOne (dC (.str "A"))))))))) (.nm 4) tYesD (dOp gAdd (dOp gAdd (dSl (dVar 9) dNo (dPart (dVar 11))) (dTup (dOne (dVar 4)))) (dSl (dVar 9) (dPart (dOp gAdd (dVar 11) (dC (.int 1)))) dNo)) [4]))
noncomputable def law_l3 : DS := (sSeq (sSetF 4 (dOp gAdd (dOp gAdd (dSl (dVar 2) dNo (dPart (dVar 8))) (dLst (dOne (dVar 12)))) (dSl (dVar 2) (dPart (dOp gAdd (dVar 8) (dC (.int 1)))) dNo)))
    (sIf (dOr (tst (dOp (gEq true) (dTold (dCall replayed [] (dOne (dVar 4)))) (dTup (dCons (dC (.str "refused")) (dOne (dC (.str "NoDeeds"))))))) (tst (dOp (gEq true) (dSl (dVar 4) (dPart (dOp gAdd (dVar 8) (dC (.int 1)))) dNo) (dSl (dVar 2) (dPart (dOp gAdd (dVar 8) (dC (.int 1)))) dNo)))) (sRet (dC (.bl false))) sNext))
noncomputable def law_l4 : DS := (sSeq (sSet 10 (dLst (dCons (dC .non) (dCons (dOp gAdd (dVar 9) (dTup (dOne (dC (.int 0))))) (dCons (dSl (dVar 9) dNo (dPart (dUn gNeg (dC (.int 1))))) (dCons (dCB gList (dOne (dVar 9))) (dCons (dTup dNil) (dOne (dOp gAdd (dTup (dOne (dC (.str "none")))) (dSl (dVar 9) (dPart (dC (.int 1))) dNo))))))))))
    (sSeq (sExt 10 (dLst (dCons (dOp gAdd (dTup (dOne (dC .non))) (dSl (dVar 9) (dPart (dC (.int 1))) dNo)) (dOne (dOp gAdd (dTup (dOne (dLst (dOne (dC (.int 1)))))) (dSl (dVar 9) (dPart (dC (.int 1))) dNo))))))
    (sSeq (sFor (iSq (dLst (dOne (dOp gAdd (dC (.int 1)) (dCall law_pick [] (dCons (dVar 0) (dCons (dOp gAdd (dC (.int 101)) (dVar 8)) (dOne (dOp gSub (dCB gLen (dOne (dVar 9))) (dC (.int 1))))))))))) (.nm 11) law_l2)
    (sSeq (sIf (dAnd (tst (dOp (gIn true) (dOp gIx (dVar 9) (dC (.int 0))) (dLst (dCons (dC (.str "open")) (dOne (dC (.str "show"))))))) (tst (dOp gGt (dVar 8) (dC (.int 0))))) (sApp 10 (dOp gAdd (dOp gAdd (dSl (dVar 9) dNo (dPart (dC (.int 1)))) (dTup (dOne (dC (.str "zzzzzzz"))))) (dSl (dVar 9) (dPart (dC (.int 2))) dNo))) sNext)
    (sFrz 10 (sFor (iSq (dVar 10)) (.nm 12) law_l3))))))
noncomputable def law_l5 : DS := (sIf (tst (dOp (gEq true) (dTold (dCall replayed [] (dOne (dVar 4)))) (dTup (dCons (dC (.str "refused")) (dOne (dC (.str "NoDeeds"))))))) (sRet (dC (.bl false))) sNext)
noncomputable def law_s1 : DS := (sSetU [5, 6, 7] (dCall law_names [] (dCons (dVar 0) (dCons (dC (.int 0)) (dOne (dC (.int 3)))))))
noncomputable def law_s2 : DS := (sSetF 1 (dOp gAdd (dC (.int 2)) (dCall law_pick [] (dCons (dVar 0) (dCons (dC (.int 100)) (dOne (dC (.int 18))))))))
noncomputable def law_s3 : DS := (sSet 2 (dLst (dCons (dTup (dCons (dC (.str "open")) (dCons (dVar 5) (dCons (dC .non) (dCons (dC (.int 1)) (dCons (dC (.int 24)) (dOne (dC (.str "push"))))))))) (dOne (dTup (dCons (dC (.str "show")) (dCons (dVar 6) (dCons (dC (.str "talk")) (dCons (dC (.int 1)) (dCons (dC (.bl true)) (dOne (dC (.int 2)))))))))))))
noncomputable def law_s4 : DS := (sApp 2 (dTup (dCons (dC (.str "show")) (dCons (dVar 7) (dCons (dC (.str "tune")) (dCons (dC (.int 2)) (dCons (dC (.bl false)) (dOne (dC (.int 0))))))))))
noncomputable def law_s5 : DS := (sExt 2 (dLst (dCons (dTup (dCons (dC (.str "put")) (dCons (dVar 5) (dCons (dC (.int 1)) (dCons (dVar 1) (dOne (dVar 6))))))) (dCons (dTup (dCons (dC (.str "week")) (dCons (dVar 5) (dCons (dC (.int 2)) (dCons (dVar 1) (dCons (dVar 7) (dOne (dC (.int 0))))))))) (dOne (dTup (dCons (dC (.str "clear")) (dCons (dVar 5) (dCons (dC (.int 2)) (dCons (dVar 1) (dCons (dOp gAdd (dVar 1) (dC (.int 1))) (dOne (dC (.int 1))))))))))))))
noncomputable def law_s6 : DS := (sExt 2 (dLst (dCons (dTup (dCons (dC (.str "break")) (dCons (dVar 5) (dCons (dC (.int 1)) (dCons (dC (.int 1)) (dOne (dC (.int 24)))))))) (dCons (dTup (dCons (dC (.str "over")) (dCons (dVar 5) (dCons (dC (.int 1)) (dCons (dVar 1) (dOne (dC (.int 1)))))))) (dCons (dTup (dCons (dC (.str "tick")) (dOne (dC (.int 24))))) (dOne (dTup (dCons (dC (.str "drop")) (dCons (dVar 5) (dCons (dC (.int 1)) (dOne (dVar 1))))))))))))
noncomputable def law_s7 : DS := (sFrz 2 (sIf (dOr (tst (dOp (gEq true) (dMt House_deeds "deeds" 0 0 [0] dfl_deeds (dCall replayed [] (dOne (dVar 2))) dNil dNil) (dVar 2))) (tst (dOp (gEq true) (dMt House_deeds "deeds" 0 0 [0] dfl_deeds (dCall replayed [] (dOne (dLst dNil))) dNil dNil) (dLst dNil)))) (sRet (dC (.bl false))) sNext))
noncomputable def law_s8 : DS := (sFor (iSq (dLst (dCons (dC .non) (dCons (dC (.bl true)) (dCons (dC (.str "")) (dCons (dC (.str "ab")) (dCons (dC (.int 3)) (dCons (dTup dNil) (dCons (dCB gTuple (dOne (dVar 2))) (dOne (dOp gIx (dVar 2) (dC (.int 0))))))))))))) (.nm 3) law_l1)
noncomputable def law_s9 : DS := (sFor (iE (dVar 2)) (.tp [8, 9]) law_l4)
noncomputable def law_s10 : DS := (sFor (iSq (dTup (dCons (dSl (dVar 2) (dPart (dC (.int 1))) dNo) (dCons (dOp gAdd (dVar 2) (dLst (dOne (dOp gIx (dVar 2) (dC (.int 0)))))) (dCons (dOp gAdd (dVar 2) (dLst (dOne (dOp gIx (dVar 2) (dC (.int 1)))))) (dCons (dOp gAdd (dSl (dVar 2) dNo (dPart (dC (.int 3)))) (dSl (dVar 2) (dPart (dC (.int 6))) dNo)) (dOne (dOp gAdd (dVar 2) (dSl (dVar 2) (dPart (dC (.int 7))) (dPart (dC (.int 8)))))))))))) (.nm 4) law_l5)
noncomputable def law_s11 : DS := (sRet (dC (.bl true)))
noncomputable def law_b : DS := (sSeq law_s1
    (sSeq law_s2
    (sSeq law_s3
    (sSeq law_s4
    (sSeq law_s5
    (sSeq law_s6
    (sSeq law_s7
    (sSeq law_s8
    (sSeq law_s9
    (sSeq law_s10
    law_s11))))))))))
noncomputable def law : DF := fnD 1 13 (law_b)
abbrev osh_Clash : List (Nat × List Str) := [(0, ["begin", "end"])]
abbrev osh_NewsAhead : List (Nat × List Str) := [(1, ["name"])]
abbrev osh_NoRights : List (Nat × List Str) := [(1, [])]
abbrev osh_NoRow : List (Nat × List Str) := [(1, [])]
abbrev osh_TooLong : List (Nat × List Str) := [(1, [])]
theorem law_class_eq : ∀ (a : Addr) (c : String) (w : W), c ∈ (["NoName", "NoDay", "NoHour", "NoMore", "NoShow", "NoSort", "NoStation", "NoRule", "Full", "Taken", "NoRights", "Settled", "TooLate", "NoRow", "NotLive", "TooLong", "NewsAhead", "Clash", "NoWish", "NoDeeds", "NoText"] : List String) → law_class a c [.exc a] w = .ok (fz (.str c)) w := by
  intro a c w h
  simp only [List.mem_cons, List.not_mem_nil, or_false] at h
  rcases h with rfl | rfl | rfl | rfl | rfl | rfl | rfl | rfl | rfl | rfl | rfl | rfl | rfl | rfl | rfl | rfl | rfl | rfl | rfl | rfl | rfl <;> (refine fnD_ret rfl ?_; simp [law_class_b, law_class_s1, law_class_s2, law_class_s3, law_class_s4, law_class_s5, law_class_s6, law_class_s7, law_class_s8, law_class_s9, law_class_s10, law_class_s11, gIsX, dBm, tyOk, gCnt, gIdx, flD, eqD, List.findIdx?_cons, pl, plN, gEq, sz_le]; try (first | rfl | decide))
/-! ### what the top has written -/
structure Txt (K : PySem.W.Frag) (mg : Str → Option Value) (cm : Cm) (hC : Addr) (cc_law : Addr) : Prop where
  b_ValueError : mg "ValueError" = none
  b_all : mg "all" = none
  b_any : mg "any" = none
  b_bool : mg "bool" = none
  b_divmod : mg "divmod" = none
  b_enumerate : mg "enumerate" = none
  b_int : mg "int" = none
  b_isinstance : mg "isinstance" = none
  b_len : mg "len" = none
  b_list : mg "list" = none
  b_max : mg "max" = none
  b_min : mg "min" = none
  b_range : mg "range" = none
  b_sorted : mg "sorted" = none
  b_str : mg "str" = none
  b_tuple : mg "tuple" = none
  c_DAYS : Cst K mg "DAYS" (.int 100)
  c_HOURS : Cst K mg "HOURS" (.int 24)
  c_LETTERS : Cst K mg "LETTERS" (.str "abcdefghijklmnopqrstuvwxyz")
  c_LONGEST : Cst K mg "LONGEST" (.int 8)
  c_LONGEST_NAME : Cst K mg "LONGEST_NAME" (.int 6)
  c_MOST_OVER : Cst K mg "MOST_OVER" (.int 8)
  c_MOST_STATIONS : Cst K mg "MOST_STATIONS" (.int 6)
  c_MOST_TIMES : Cst K mg "MOST_TIMES" (.int 9)
  c_RULES : Cst K mg "RULES" (.tup [(.str "join"), (.str "push")])
  c_SORTS : Cst K mg "SORTS" (.tup [(.str "news"), (.str "talk"), (.str "tune")])
  c_WEEK : Cst K mg "WEEK" (.int 5)
  er : ErsX K mg cm
  en : ∀ c, (cm c).isSome → c ∈ (["NoName", "NoDay", "NoHour", "NoMore", "NoShow", "NoSort", "NoStation", "NoRule", "Full", "Taken", "NoRights", "Settled", "TooLate", "NoRow", "NotLive", "TooLong", "NewsAhead", "Clash", "NoWish", "NoDeeds", "NoText"] : List String)
  m_Clash : Mcl mg cm "Clash"
  m_Full : Mcl mg cm "Full"
  m_NewsAhead : Mcl mg cm "NewsAhead"
  m_NoDay : Mcl mg cm "NoDay"
  m_NoDeeds : Mcl mg cm "NoDeeds"
  m_NoHour : Mcl mg cm "NoHour"
  m_NoMore : Mcl mg cm "NoMore"
  m_NoName : Mcl mg cm "NoName"
  m_NoRights : Mcl mg cm "NoRights"
  m_NoRow : Mcl mg cm "NoRow"
  m_NoRule : Mcl mg cm "NoRule"
  m_NoShow : Mcl mg cm "NoShow"
  m_NoSort : Mcl mg cm "NoSort"
  m_NoStation : Mcl mg cm "NoStation"
  m_NoText : Mcl mg cm "NoText"
  m_NoWish : Mcl mg cm "NoWish"
  m_NotLive : Mcl mg cm "NotLive"
  m_Settled : Mcl mg cm "Settled"
  m_Taken : Mcl mg cm "Taken"
  m_TooLate : Mcl mg cm "TooLate"
  m_TooLong : Mcl mg cm "TooLong"
  r_Full : Rcl K mg cm "Full"
  r_NoDay : Rcl K mg cm "NoDay"
  r_NoDeeds : Rcl K mg cm "NoDeeds"
  r_NoHour : Rcl K mg cm "NoHour"
  r_NoMore : Rcl K mg cm "NoMore"
  r_NoName : Rcl K mg cm "NoName"
  r_NoRule : Rcl K mg cm "NoRule"
  r_NoShow : Rcl K mg cm "NoShow"
  r_NoStation : Rcl K mg cm "NoStation"
  r_NotLive : Rcl K mg cm "NotLive"
  r_Settled : Rcl K mg cm "Settled"
  r_Taken : Rcl K mg cm "Taken"
  r_TooLate : Rcl K mg cm "TooLate"
  o_Clash : DH.OclT K mg cm "Clash" s_o_Clash ["self", "begin", "end"] ["begin", "end"] osh_Clash
  o_NewsAhead : DH.OclT K mg cm "NewsAhead" s_o_NewsAhead ["self", "hour", "name"] ["hour", "name"] osh_NewsAhead
  o_NoRights : DH.OclT K mg cm "NoRights" s_o_NoRights ["self", "most"] ["most"] osh_NoRights
  o_NoRow : DH.OclT K mg cm "NoRow" s_o_NoRow ["self", "hour"] ["hour"] osh_NoRow
  o_TooLong : DH.OclT K mg cm "TooLong" s_o_TooLong ["self", "last"] ["last"] osh_TooLong
  told : TldT K mg
  cl : Cls K hC
  na : ∀ f ∈ (["ranks", "seats", "known", "weeks", "plans", "cuts", "many", "done"] : List Str), NoAttr K hC f
  mgH : mg "House" = some (.ref hC)
  ini : ∃ f fd, Mk K hC f ∧ Fun K "__init__" "House.__init__" s_init f fd ∧ Binds K fd ["self"] []
  f_law_class : Fnx K mg "_law_class" s_law_class ["e"]
  f_law_pick : Fnx K mg "_law_pick" s_law_pick ["script", "k", "many"]
  f_law_names : Fnx K mg "_law_names" s_law_names ["script", "at", "many"]
  f_House_deeds : FnxM K hC "deeds" "House.deeds" s_House_deeds ["self"] sh_deeds
  f_is_deed : Fnx K mg "is_deed" s_is_deed ["thing"]
  f_is_name : Fnx K mg "is_name" s_is_name ["thing"]
  f_House_look_station : FnxM K hC "look_station" "House.look_station" s_House_look_station ["self", "name"] sh_look_station
  f_is_number : Fnx K mg "is_number" s_is_number ["thing", "least", "most"]
  f_look_span : Fnx K mg "look_span" s_look_span ["begin", "end", "least", "most"]
  f_House_open_station : FnxM K hC "open_station" "House.open_station" s_House_open_station ["self", "name", "upper", "opening", "closing", "manner"] sh_open_station
  f_do_open : Fnx K mg "do_open" s_do_open ["house", "deed"]
  f_is_sort : Fnx K mg "is_sort" s_is_sort ["thing"]
  f_is_show : Fnx K mg "is_show" s_is_show ["thing"]
  f_House_add_show : FnxM K hC "add_show" "House.add_show" s_House_add_show ["self", "show"] sh_add_show
  f_do_show : Fnx K mg "do_show" s_do_show ["house", "deed"]
  f_House_station : FnxM K hC "station" "House.station" s_House_station ["self", "name"] sh_station
  f_House_show : FnxM K hC "show" "House.show" s_House_show ["self", "name"] sh_show
  f_is_day : Fnx K mg "is_day" s_is_day ["thing"]
  f_look_day : Fnx K mg "look_day" s_look_day ["day"]
  f_House_look_since : FnxM K hC "look_since" "House.look_since" s_House_look_since ["self", "station", "weekday", "since"] sh_look_since
  f_House_put_week : FnxM K hC "put_week" "House.put_week" s_House_put_week ["self", "station", "weekday", "hour", "name", "starting"] sh_put_week
  f_do_week : Fnx K mg "do_week" s_do_week ["house", "deed"]
  f_House_clear_week : FnxM K hC "clear_week" "House.clear_week" s_House_clear_week ["self", "station", "weekday", "opening", "closing", "starting"] sh_clear_week
  f_do_clear : Fnx K mg "do_clear" s_do_clear ["house", "deed"]
  f_laid : Fnx K mg "laid" s_laid ["rows", "begin", "end"]
  f_laid_with : Fnx K mg "laid_with" s_laid_with ["rows", "begin", "end", "name"]
  f_House_rows_by_week : FnxM K hC "rows_by_week" "House.rows_by_week" s_House_rows_by_week ["self", "station", "day", "weekday"] sh_rows_by_week
  f_House_week_rows : FnxM K hC "week_rows" "House.week_rows" s_House_week_rows ["self", "station", "day"] sh_week_rows
  f_House_own_rows : FnxM K hC "own_rows" "House.own_rows" s_House_own_rows ["self", "station", "day"] sh_own_rows
  f_House_times : FnxM K hC "times" "House.times" s_House_times ["self", "name"] sh_times
  f_House_put : FnxM K hC "put" "House.put" s_House_put ["self", "station", "day", "hour", "name"] sh_put
  f_do_put : Fnx K mg "do_put" s_do_put ["house", "deed"]
  f_look_hour : Fnx K mg "look_hour" s_look_hour ["hour"]
  f_House_row_at : FnxM K hC "row_at" "House.row_at" s_House_row_at ["self", "station", "day", "hour"] sh_row_at
  f_House_drop : FnxM K hC "drop" "House.drop" s_House_drop ["self", "station", "day", "hour"] sh_drop
  f_do_drop : Fnx K mg "do_drop" s_do_drop ["house", "deed"]
  f_joined : Fnx K mg "joined" s_joined ["rows", "begin", "end"]
  f_next_fixed : Fnx K mg "next_fixed" s_next_fixed ["rows", "at", "last", "fixed"]
  f_pushed : Fnx K mg "pushed" s_pushed ["rows", "begin", "end", "last", "fixed"]
  f_House_overrun : FnxM K hC "overrun" "House.overrun" s_House_overrun ["self", "station", "day", "hour", "extra"] sh_overrun
  f_do_over : Fnx K mg "do_over" s_do_over ["house", "deed"]
  f_House_breaks : FnxM K hC "breaks" "House.breaks" s_House_breaks ["self", "station", "day"] sh_breaks
  f_do_meet : Fnx K mg "do_meet" s_do_meet ["one", "other"]
  f_House_break_in : FnxM K hC "break_in" "House.break_in" s_House_break_in ["self", "station", "day", "begin", "end"] sh_break_in
  f_do_break : Fnx K mg "do_break" s_do_break ["house", "deed"]
  f_House_now : FnxM K hC "now" "House.now" s_House_now ["self"] sh_now
  f_House_tick : FnxM K hC "tick" "House.tick" s_House_tick ["self", "elapsed"] sh_tick
  f_do_tick : Fnx K mg "do_tick" s_do_tick ["house", "deed"]
  f_replayed : Fnx K mg "replayed" s_replayed ["deeds"]
  f_law : FnxL K mg "law" s_law ["script"] cc_law
/-! ### each def -/
section
variable {P : Program} {w : World} {K : PySem.W.Frag} {mg : Str → Option Value} {base : Heap} {cm : Cm} {TT : List (Addr × Str)} {hC cc_law : Addr}
theorem sc_init : FnScope ["self"] ["self"] (defScope s_init) := ⟨rfl, rfl, rfl, by decide +kernel, rfl, by decide +kernel, by decide +kernel⟩
theorem d_init (T : Txt K mg cm hC cc_law) : Hcl P w K mg base ⟨hC, TT⟩ := by
  obtain ⟨f, fd, M, F, hB⟩ := T.ini
  refine ⟨T.cl, T.na, f, fd, M, T.mgH, hB, F.okX sc_init (fun vs H Q E h => by obtain ⟨x, dx, rfl, _⟩ := h; rfl) fun cdv A outer s H vs Q E hr h => ⟨_, ?_, init_read (N := ["self"]) rfl T.cl T.na h⟩⟩
  exact pss_cons (ps_fld (pv 0) (pe_lst pa_nil) rfl) (pss_cons (ps_fld (pv 0) pe_dnewK rfl) (pss_cons (ps_fld (pv 0) pe_dnewK rfl) (pss_cons (ps_fld (pv 0) (pe_lst pa_nil) rfl) (pss_cons (ps_fld (pv 0) pe_dnewT rfl) (pss_cons (ps_fld (pv 0) pe_dnewT rfl) (pss_cons (ps_fld (pv 0) pe_int rfl) (pss_one (ps_fld (pv 0) (pe_lst pa_nil) rfl))))))))
theorem sc_o_Clash : FnScope ["self", "begin", "end"] ["self", "begin", "end"] (defScope s_o_Clash) := ⟨rfl, rfl, rfl, by decide +kernel, rfl, by decide +kernel, by decide +kernel⟩
theorem d_o_Clash (T : Txt K mg cm hC cc_law) : Ocl P w K mg base cm "Clash" ["begin", "end"] osh_Clash := by
  obtain ⟨C, fI, fd, A, h1, h2, h3, h4, h5, F, hn, hs, hA, b1, b2, b3⟩ := T.o_Clash
  refine ⟨C, fI, fd, _, h1, h2, h3, h4, h5, F.okX sc_o_Clash (fun vs H Q E h => by obtain ⟨a, ys, rfl, hl, _⟩ := h; rw [List.length_cons, hl]; rfl) fun cdv A2 outer s H vs Q E hr h => ⟨_, ?_, oread2 (m := "news breaks in then") rfl h3 (hn _ (.head _)) (hn _ (.tail _ (.head _))) h⟩, hs⟩
  exact pss_cons (ps_expr (pe_ownInit rfl hA b1 b2 b3 (pa_cons (pv 0) (pa_cons pe_str pa_nil)))) (pss_cons (ps_ost (pv 0) (pv 1)) (pss_one (ps_ost (pv 0) (pv 2))))
theorem sc_o_NewsAhead : FnScope ["self", "hour", "name"] ["self", "hour", "name"] (defScope s_o_NewsAhead) := ⟨rfl, rfl, rfl, by decide +kernel, rfl, by decide +kernel, by decide +kernel⟩
theorem d_o_NewsAhead (T : Txt K mg cm hC cc_law) : Ocl P w K mg base cm "NewsAhead" ["hour", "name"] osh_NewsAhead := by
  obtain ⟨C, fI, fd, A, h1, h2, h3, h4, h5, F, hn, hs, hA, b1, b2, b3⟩ := T.o_NewsAhead
  refine ⟨C, fI, fd, _, h1, h2, h3, h4, h5, F.okX sc_o_NewsAhead (fun vs H Q E h => by obtain ⟨a, ys, rfl, hl, _⟩ := h; rw [List.length_cons, hl]; rfl) fun cdv A2 outer s H vs Q E hr h => ⟨_, ?_, oread2 (m := "news comes ahead of its end") rfl h3 (hn _ (.head _)) (hn _ (.tail _ (.head _))) h⟩, hs⟩
  exact pss_cons (ps_expr (pe_ownInit rfl hA b1 b2 b3 (pa_cons (pv 0) (pa_cons pe_str pa_nil)))) (pss_cons (ps_ost (pv 0) (pv 1)) (pss_one (ps_ost (pv 0) (pv 2))))
theorem sc_o_NoRights : FnScope ["self", "most"] ["self", "most"] (defScope s_o_NoRights) := ⟨rfl, rfl, rfl, by decide +kernel, rfl, by decide +kernel, by decide +kernel⟩
theorem d_o_NoRights (T : Txt K mg cm hC cc_law) : Ocl P w K mg base cm "NoRights" ["most"] osh_NoRights := by
  obtain ⟨C, fI, fd, A, h1, h2, h3, h4, h5, F, hn, hs, hA, b1, b2, b3⟩ := T.o_NoRights
  refine ⟨C, fI, fd, _, h1, h2, h3, h4, h5, F.okX sc_o_NoRights (fun vs H Q E h => by obtain ⟨a, ys, rfl, hl, _⟩ := h; rw [List.length_cons, hl]; rfl) fun cdv A2 outer s H vs Q E hr h => ⟨_, ?_, oread1 (m := "not so often") rfl h3 (hn _ (.head _)) h⟩, hs⟩
  exact pss_cons (ps_expr (pe_ownInit rfl hA b1 b2 b3 (pa_cons (pv 0) (pa_cons pe_str pa_nil)))) (pss_one (ps_ost (pv 0) (pv 1)))
theorem sc_o_NoRow : FnScope ["self", "hour"] ["self", "hour"] (defScope s_o_NoRow) := ⟨rfl, rfl, rfl, by decide +kernel, rfl, by decide +kernel, by decide +kernel⟩
theorem d_o_NoRow (T : Txt K mg cm hC cc_law) : Ocl P w K mg base cm "NoRow" ["hour"] osh_NoRow := by
  obtain ⟨C, fI, fd, A, h1, h2, h3, h4, h5, F, hn, hs, hA, b1, b2, b3⟩ := T.o_NoRow
  refine ⟨C, fI, fd, _, h1, h2, h3, h4, h5, F.okX sc_o_NoRow (fun vs H Q E h => by obtain ⟨a, ys, rfl, hl, _⟩ := h; rw [List.length_cons, hl]; rfl) fun cdv A2 outer s H vs Q E hr h => ⟨_, ?_, oread1 (m := "no row begins then") rfl h3 (hn _ (.head _)) h⟩, hs⟩
  exact pss_cons (ps_expr (pe_ownInit rfl hA b1 b2 b3 (pa_cons (pv 0) (pa_cons pe_str pa_nil)))) (pss_one (ps_ost (pv 0) (pv 1)))
theorem sc_o_TooLong : FnScope ["self", "last"] ["self", "last"] (defScope s_o_TooLong) := ⟨rfl, rfl, rfl, by decide +kernel, rfl, by decide +kernel, by decide +kernel⟩
theorem d_o_TooLong (T : Txt K mg cm hC cc_law) : Ocl P w K mg base cm "TooLong" ["last"] osh_TooLong := by
  obtain ⟨C, fI, fd, A, h1, h2, h3, h4, h5, F, hn, hs, hA, b1, b2, b3⟩ := T.o_TooLong
  refine ⟨C, fI, fd, _, h1, h2, h3, h4, h5, F.okX sc_o_TooLong (fun vs H Q E h => by obtain ⟨a, ys, rfl, hl, _⟩ := h; rw [List.length_cons, hl]; rfl) fun cdv A2 outer s H vs Q E hr h => ⟨_, ?_, oread1 (m := "beyond the station's hours") rfl h3 (hn _ (.head _)) h⟩, hs⟩
  exact pss_cons (ps_expr (pe_ownInit rfl hA b1 b2 b3 (pa_cons (pv 0) (pa_cons pe_str pa_nil)))) (pss_one (ps_ost (pv 0) (pv 1)))
theorem sc_law_class : FnScope law_class_N ["e"] (defScope s_law_class) := ⟨rfl, rfl, rfl, by decide +kernel, rfl, by decide +kernel, by decide +kernel⟩
theorem d_law_class (T : Txt K mg cm hC cc_law) : ∃ f fd F, mg "_law_class" = some (.ref f) ∧ PySem.W.keepIn K (.ref f) = true ∧ Binds K fd ["e"] [] ∧ HotOk P w K mg base 1 f fd ["e"] (spX ⟨K, ⟨hC, TT⟩, cm⟩ F) ∧ ∀ a c w, (cm c).isSome → F a c [.exc a] w = .ok (fz (.str c)) w := by
  obtain ⟨f, fd, F, hm, hB⟩ := T.f_law_class
  refine ⟨f, fd, law_class, hm, F.kp, hB, ?_, fun a c w h => law_class_eq a c w (T.en c h)⟩
  refine hot_mk F sc_law_class fun cdv A outer s H e p c Da d hc hx hdi hu => ?_
  obtain ⟨Ab, E⟩ := T.er
  exact (b_cons (h_set 1 sc_law_class.nd (e_lst (a_cons (h_isX hx hdi E hc T.m_NoName T.b_isinstance (e_var 0)) (a_cons (h_isX hx hdi E hc T.m_NoDay T.b_isinstance (e_var 0)) (a_cons (h_isX hx hdi E hc T.m_NoHour T.b_isinstance (e_var 0)) (a_one (h_isX hx hdi E hc T.m_NoMore T.b_isinstance (e_var 0))))))))
    (b_cons (s_ext 1 (e_lst (a_cons (h_isX hx hdi E hc T.m_NoShow T.b_isinstance (e_var 0)) (a_cons (h_isX hx hdi E hc T.m_NoSort T.b_isinstance (e_var 0)) (a_cons (h_isX hx hdi E hc T.m_NoStation T.b_isinstance (e_var 0)) (a_one (h_isX hx hdi E hc T.m_NoRule T.b_isinstance (e_var 0))))))))
    (b_cons (s_ext 1 (e_lst (a_cons (h_isX hx hdi E hc T.m_Full T.b_isinstance (e_var 0)) (a_cons (h_isX hx hdi E hc T.m_Taken T.b_isinstance (e_var 0)) (a_cons (h_isX hx hdi E hc T.m_NoRights T.b_isinstance (e_var 0)) (a_one (h_isX hx hdi E hc T.m_Settled T.b_isinstance (e_var 0))))))))
    (b_cons (s_ext 1 (e_lst (a_cons (h_isX hx hdi E hc T.m_TooLate T.b_isinstance (e_var 0)) (a_cons (h_isX hx hdi E hc T.m_NoRow T.b_isinstance (e_var 0)) (a_cons (h_isX hx hdi E hc T.m_NotLive T.b_isinstance (e_var 0)) (a_one (h_isX hx hdi E hc T.m_TooLong T.b_isinstance (e_var 0))))))))
    (b_cons (s_ext 1 (e_lst (a_cons (h_isX hx hdi E hc T.m_NewsAhead T.b_isinstance (e_var 0)) (a_cons (h_isX hx hdi E hc T.m_Clash T.b_isinstance (e_var 0)) (a_cons (h_isX hx hdi E hc T.m_NoWish T.b_isinstance (e_var 0)) (a_one (h_isX hx hdi E hc T.m_NoDeeds T.b_isinstance (e_var 0))))))))
    (b_cons (s_app 1 (h_isX hx hdi E hc T.m_NoText T.b_isinstance (e_var 0)))
    (b_cons (s_if (t_w (w_or (h_ne hu (e_cnt (e_var 1) e_bl) e_int) (w_or1 (t_not (t_val (h_isV hx hdi E hc T.b_isinstance T.b_ValueError (e_var 0))))))) (b_one (s_ret e_str)) b_nil)
    (b_cons (h_set 2 sc_law_class.nd (e_lst (a_cons e_str (a_cons e_str (a_cons e_str (a_cons e_str (a_cons e_str (a_cons e_str (a_cons e_str (a_cons e_str (a_cons e_str (a_one e_str))))))))))))
    (b_cons (s_ext 2 (e_lst (a_cons e_str (a_cons e_str (a_cons e_str (a_cons e_str (a_cons e_str (a_cons e_str (a_cons e_str (a_cons e_str (a_one e_str)))))))))))
    (b_cons (s_ext 2 (e_lst (a_cons e_str (a_one e_str))))
    (b_one (s_ret (e_ix (e_var 2) (e_idx (e_var 1) e_bl))))))))))))))
theorem sc_law_pick : FnScope law_pick_N ["script", "k", "many"] (defScope s_law_pick) := ⟨rfl, rfl, rfl, by decide +kernel, rfl, by decide +kernel, by decide +kernel⟩
theorem d_law_pick (T : Txt K mg cm hC cc_law)  : Df P w K mg base ⟨hC, TT⟩ cm "_law_pick" 1 law_pick :=
  df_mk T.f_law_pick sc_law_pick fun f cdv A outer s H E e c => by
    have c0 := c.fe
    exact (b_cons (s_setF 3 c0 (e_if (t_ne c0 (e_var 0) (e_lst a_nil)) (e_ix (e_var 0) (e_mod (e_var 1) (e_len T.b_len (a_one (e_var 0))))) e_int))
    (b_cons (s_parF 5 6 [false, false] c0 (a_cons (e_div (e_var 3) (e_pow e_int e_int)) (a_one (e_div (e_var 1) (e_max2 c0 T.b_max (a_cons (e_len T.b_len (a_one (e_var 0))) (a_one e_int)))))))
    (b_cons (s_while 100000 c (t_w (w_and (t_gt (e_var 5) e_int) (w_and1 (t_gt (e_var 6) e_int)))) (b_one (s_parF 5 6 [false, false] c0 (a_cons (e_div (e_var 5) e_int) (a_one (e_sub (e_var 6) e_int))))))
    (b_cons (s_if (t_gt (e_var 5) e_int) (b_one (s_ret (e_mod (e_mod (e_var 5) e_int) (e_var 2)))) b_nil)
    (b_cons (s_setF 4 c0 (e_mod (e_mul (e_add (e_mul (e_var 3) e_int) (e_mul e_int (e_add (e_var 1) e_int))) e_int) e_int))
    (b_one (s_ret (e_mod (e_mod (e_add (e_mul (e_var 4) (e_var 4)) (e_div (e_var 4) e_int)) e_int) (e_var 2)))))))))
theorem sc_law_names : FnScope law_names_N ["script", "at", "many"] (defScope s_law_names) := ⟨rfl, rfl, rfl, by decide +kernel, rfl, by decide +kernel, by decide +kernel⟩
theorem d_law_names (T : Txt K mg cm hC cc_law) (h_law_pick : Df P w K mg base ⟨hC, TT⟩ cm "_law_pick" 1 law_pick) : Df P w K mg base ⟨hC, TT⟩ cm "_law_names" 2 law_names :=
  df_mk T.f_law_names sc_law_names fun f cdv A outer s H E e c => by
    have c0 := c.fe
    exact (b_cons (s_parF 4 5 [false, true] c0 (a_cons e_str (a_one (e_lst a_nil))))
    (b_cons (s_for (.nm 3) c (i_rng1 T.b_range (a_one (e_var 2))) (g_nm 3 c0.nd) (b_cons (s_setF 6 c0 e_str)
    (b_cons (s_for (.nm 7) c (i_rng1 T.b_range (a_one (e_ix (e_lst (a_cons e_int (a_cons e_int (a_cons e_int (a_cons e_int (a_one e_int)))))) (e_call h_law_pick c0 (a_cons (e_var 0) (a_cons (e_add (e_var 1) (e_mul e_int (e_var 3))) (a_one e_int))))))) (g_nm 7 c0.nd) (b_one (s_setF 6 c0 (e_add (e_var 6) (e_ix (e_var 4) (e_call h_law_pick c0 (a_cons (e_var 0) (a_cons (e_add (e_add (e_add (e_var 1) (e_mul e_int (e_var 3))) (e_var 7)) e_int) (a_one e_int)))))))))
    (b_cons (s_setF 8 c0 (e_ix (e_var 4) (e_mod (e_add (e_call h_law_pick c0 (a_cons (e_var 0) (a_cons (e_add (e_var 1) e_int) (a_one e_int)))) (e_var 3)) e_int)))
    (b_one (s_app 5 (e_if (t_eq c0 (e_call h_law_pick c0 (a_cons (e_var 0) (a_cons (e_add (e_var 1) e_int) (a_one e_int)))) e_int) (e_add (e_var 6) (e_var 8)) (e_add (e_var 8) (e_var 6)))))))))
    (b_one (s_retV 5))))
theorem sc_House_deeds : FnScope House_deeds_N ["self"] (defScope s_House_deeds) := ⟨rfl, rfl, rfl, by decide +kernel, rfl, by decide +kernel, by decide +kernel⟩
theorem d_House_deeds (T : Txt K mg cm hC cc_law) (hcl : Hcl P w K mg base ⟨hC, TT⟩)  : Mt P w K mg base ⟨hC, TT⟩ cm "deeds" 1 House_deeds sh_deeds :=
  mt_mk T.cl T.f_House_deeds sc_House_deeds fun f cdv A outer s H E e c => by
    have c0 := c.fe
    exact (b_one (s_ret (e_clist T.b_list (a_one (e_fld hcl (e_var 0))))))
theorem sc_is_deed : FnScope is_deed_N ["thing"] (defScope s_is_deed) := ⟨rfl, rfl, rfl, by decide +kernel, rfl, by decide +kernel, by decide +kernel⟩
theorem d_is_deed (T : Txt K mg cm hC cc_law)  (w_LENGTHS : WdI K w mg "LENGTHS" wd_LENGTHS) : Df P w K mg base ⟨hC, TT⟩ cm "is_deed" 1 is_deed :=
  df_mk T.f_is_deed sc_is_deed fun f cdv A outer s H E e c => by
    have c0 := c.fe
    exact (b_cons (s_if (t_w (w_or (t_not (t_val (e_isiT "tuple" T.b_isinstance T.b_tuple (by decide +kernel) (e_var 0)))) (w_or (t_eq c0 (e_var 0) (e_tup a_nil)) (w_or1 (t_not (t_val (e_isiT "str" T.b_isinstance T.b_str (by decide +kernel) (e_ix (e_var 0) e_int)))))))) (b_one (s_ret e_bl)) b_nil)
    (b_one (s_ret (e_and (e_inW w_LENGTHS (e_ix (e_var 0) e_int)) (e_one (e_eq c0 (e_len T.b_len (a_one (e_var 0))) (e_ixW w_LENGTHS (e_ix (e_var 0) e_int))))))))
theorem sc_is_name : FnScope is_name_N ["thing"] (defScope s_is_name) := ⟨rfl, rfl, rfl, by decide +kernel, rfl, by decide +kernel, by decide +kernel⟩
theorem d_is_name (T : Txt K mg cm hC cc_law)  : Df P w K mg base ⟨hC, TT⟩ cm "is_name" 1 is_name :=
  df_mk T.f_is_name sc_is_name fun f cdv A outer s H E e c => by
    have c0 := c.fe
    exact (b_one (s_ret (e_and (e_isiT "str" T.b_isinstance T.b_str (by decide +kernel) (e_var 0)) (e_and (e_chain c_le c_le e_int (e_len T.b_len (a_one (e_var 0))) (e_glob T.c_LONGEST_NAME)) (e_one (e_all c0 T.b_all (a_one (e_lc (own := [("sign", 1)]) (t := (.nm 1)) c0 (i_seq (e_var 0)) (by show blkC is_name_N (defScope s_is_name) _ _ = true; decide +kernel) (by exact fun s H C cl fp => (g_nm 1 c0.nd)) (by exact fun s H C cl fp => pts_no) (by exact fun s H C cl fp => (e_in (c0.blk s H _ _ fp) (e_var 1) (e_glob T.c_LETTERS)))))))))))
theorem sc_House_look_station : FnScope House_look_station_N ["self", "name"] (defScope s_House_look_station) := ⟨rfl, rfl, rfl, by decide +kernel, rfl, by decide +kernel, by decide +kernel⟩
theorem d_House_look_station (T : Txt K mg cm hC cc_law) (hcl : Hcl P w K mg base ⟨hC, TT⟩) (h_is_name : Df P w K mg base ⟨hC, TT⟩ cm "is_name" 1 is_name) : Mt P w K mg base ⟨hC, TT⟩ cm "look_station" 2 House_look_station sh_look_station :=
  mt_mk T.cl T.f_House_look_station sc_House_look_station fun f cdv A outer s H E e c => by
    have c0 := c.fe
    exact (b_one (s_if (t_w (w_or (t_not (t_val (e_call h_is_name c0 (a_one (e_var 1))))) (w_or1 (t_ninD c0 (e_var 1) (e_fld hcl (e_var 0)))))) (b_one (s_raise c0 T.er T.r_NoStation)) b_nil))
theorem sc_is_number : FnScope is_number_N ["thing", "least", "most"] (defScope s_is_number) := ⟨rfl, rfl, rfl, by decide +kernel, rfl, by decide +kernel, by decide +kernel⟩
theorem d_is_number (T : Txt K mg cm hC cc_law)  : Df P w K mg base ⟨hC, TT⟩ cm "is_number" 1 is_number :=
  df_mk T.f_is_number sc_is_number fun f cdv A outer s H E e c => by
    have c0 := c.fe
    exact (b_one (s_ret (e_and (e_isiT "int" T.b_isinstance T.b_int (by decide +kernel) (e_var 0)) (e_and (e_not (e_isiT "bool" T.b_isinstance T.b_bool (by decide +kernel) (e_var 0))) (e_one (e_chain c_le c_le (e_var 1) (e_var 0) (e_var 2)))))))
theorem sc_look_span : FnScope look_span_N ["begin", "end", "least", "most"] (defScope s_look_span) := ⟨rfl, rfl, rfl, by decide +kernel, rfl, by decide +kernel, by decide +kernel⟩
theorem d_look_span (T : Txt K mg cm hC cc_law) (h_is_number : Df P w K mg base ⟨hC, TT⟩ cm "is_number" 1 is_number) : Df P w K mg base ⟨hC, TT⟩ cm "look_span" 2 look_span :=
  df_mk T.f_look_span sc_look_span fun f cdv A outer s H E e c => by
    have c0 := c.fe
    exact (b_one (s_if (t_w (w_or (t_not (t_val (e_call h_is_number c0 (a_cons (e_var 0) (a_cons (e_var 2) (a_one (e_var 3))))))) (w_or (t_not (t_val (e_call h_is_number c0 (a_cons (e_var 1) (a_cons (e_var 2) (a_one (e_var 3))))))) (w_or1 (t_ge (e_var 0) (e_var 1)))))) (b_one (s_raise c0 T.er T.r_NoHour)) b_nil))
theorem sc_House_open_station : FnScope House_open_station_N ["self", "name", "upper", "opening", "closing", "manner"] (defScope s_House_open_station) := ⟨rfl, rfl, rfl, by decide +kernel, rfl, by decide +kernel, by decide +kernel⟩
theorem d_House_open_station (T : Txt K mg cm hC cc_law) (hcl : Hcl P w K mg base ⟨hC, TT⟩) (h_is_name : Df P w K mg base ⟨hC, TT⟩ cm "is_name" 1 is_name) (h_House_look_station : Mt P w K mg base ⟨hC, TT⟩ cm "look_station" 2 House_look_station sh_look_station) (h_look_span : Df P w K mg base ⟨hC, TT⟩ cm "look_span" 2 look_span) : Mt P w K mg base ⟨hC, TT⟩ cm "open_station" 3 House_open_station sh_open_station :=
  mt_mk T.cl T.f_House_open_station sc_House_open_station fun f cdv A outer s H E e c => by
    have c0 := c.fe
    exact (b_cons (s_if (t_not (t_val (e_call h_is_name c0 (a_one (e_var 1))))) (b_one (s_raise c0 T.er T.r_NoName)) b_nil)
    (b_cons (s_if (t_inD c0 (e_var 1) (e_fld hcl (e_var 0))) (b_one (s_raise c0 T.er T.r_Taken)) b_nil)
    (b_cons (s_if (t_notN (e_var 2)) (b_one (s_expr (e_mt sh_look_station_0 h_House_look_station (.head _) c0 (e_var 0) (a_one (e_var 2)) k_nil))) b_nil)
    (b_cons (s_expr (e_call h_look_span c0 (a_cons (e_var 3) (a_cons (e_var 4) (a_cons e_int (a_one (e_glob T.c_HOURS)))))))
    (b_cons (s_if (t_w (w_or (t_not (t_val (e_isiT "str" T.b_isinstance T.b_str (by decide +kernel) (e_var 5)))) (w_or1 (t_nin c0 (e_var 5) (e_glob T.c_RULES))))) (b_one (s_raise c0 T.er T.r_NoRule)) b_nil)
    (b_cons (s_if (t_eq c0 (e_len T.b_len (a_one (e_fld hcl (e_var 0)))) (e_glob T.c_MOST_STATIONS)) (b_one (s_raise c0 T.er T.r_Full)) b_nil)
    (b_cons (s_fapp hcl (e_var 0) (e_var 1))
    (b_cons (s_fputK hcl c0 (e_var 0) (e_var 1) (e_tup (a_cons (e_var 2) (a_cons (e_var 3) (a_cons (e_var 4) (a_one (e_var 5)))))))
    (b_cons (s_fapp hcl (e_var 0) (e_tup (a_cons e_str (a_cons (e_var 1) (a_cons (e_var 2) (a_cons (e_var 3) (a_cons (e_var 4) (a_one (e_var 5)))))))))
    (b_one (s_ret (e_len T.b_len (a_one (e_fld hcl (e_var 0)))))))))))))))
theorem sc_do_open : FnScope do_open_N ["house", "deed"] (defScope s_do_open) := ⟨rfl, rfl, rfl, by decide +kernel, rfl, by decide +kernel, by decide +kernel⟩
theorem d_do_open (T : Txt K mg cm hC cc_law) (h_House_open_station : Mt P w K mg base ⟨hC, TT⟩ cm "open_station" 3 House_open_station sh_open_station) : Df P w K mg base ⟨hC, TT⟩ cm "do_open" 4 do_open :=
  df_mk T.f_do_open sc_do_open fun f cdv A outer s H E e c => by
    have c0 := c.fe
    exact (b_one (s_expr (e_mt sh_open_station_0 h_House_open_station (.head _) c0 (e_var 0) (a_one (e_ix (e_var 1) e_int)) (k_cons (e_ix (e_var 1) e_int) (k_cons (e_ix (e_var 1) e_int) (k_cons (e_ix (e_var 1) e_int) (k_one (e_ix (e_var 1) e_int))))))))
theorem sc_is_sort : FnScope is_sort_N ["thing"] (defScope s_is_sort) := ⟨rfl, rfl, rfl, by decide +kernel, rfl, by decide +kernel, by decide +kernel⟩
theorem d_is_sort (T : Txt K mg cm hC cc_law)  : Df P w K mg base ⟨hC, TT⟩ cm "is_sort" 1 is_sort :=
  df_mk T.f_is_sort sc_is_sort fun f cdv A outer s H E e c => by
    have c0 := c.fe
    exact (b_one (s_ret (e_and (e_isiT "str" T.b_isinstance T.b_str (by decide +kernel) (e_var 0)) (e_one (e_in c0 (e_var 0) (e_glob T.c_SORTS))))))
theorem sc_is_show : FnScope is_show_N ["thing"] (defScope s_is_show) := ⟨rfl, rfl, rfl, by decide +kernel, rfl, by decide +kernel, by decide +kernel⟩
theorem d_is_show (T : Txt K mg cm hC cc_law) (h_is_name : Df P w K mg base ⟨hC, TT⟩ cm "is_name" 1 is_name) (h_is_sort : Df P w K mg base ⟨hC, TT⟩ cm "is_sort" 1 is_sort) (h_is_number : Df P w K mg base ⟨hC, TT⟩ cm "is_number" 1 is_number) : Df P w K mg base ⟨hC, TT⟩ cm "is_show" 2 is_show :=
  df_mk T.f_is_show sc_is_show fun f cdv A outer s H E e c => by
    have c0 := c.fe
    exact (b_cons (s_if (t_w (w_or (t_not (t_val (e_isiT "tuple" T.b_isinstance T.b_tuple (by decide +kernel) (e_var 0)))) (w_or1 (t_ne c0 (e_len T.b_len (a_one (e_var 0))) e_int)))) (b_one (s_ret e_bl)) b_nil)
    (b_cons (s_setT [1, 2, 3, 4, 5] c0 (e_var 0) (gs_cons 1 c0.nd (gs_cons 2 c0.nd (gs_cons 3 c0.nd (gs_cons 4 c0.nd (gs_cons 5 c0.nd gs_nil))))))
    (b_cons (s_if (t_w (w_or (t_not (t_val (e_call h_is_name c0 (a_one (e_var 1))))) (w_or (t_not (t_val (e_call h_is_sort c0 (a_one (e_var 2))))) (w_or1 (t_not (t_val (e_call h_is_number c0 (a_cons (e_var 3) (a_cons e_int (a_one (e_glob T.c_LONGEST))))))))))) (b_one (s_ret e_bl)) b_nil)
    (b_one (s_ret (e_and (e_isiT "bool" T.b_isinstance T.b_bool (by decide +kernel) (e_var 4)) (e_one (e_call h_is_number c0 (a_cons (e_var 5) (a_cons e_int (a_one (e_glob T.c_MOST_TIMES))))))))))))
theorem sc_House_add_show : FnScope House_add_show_N ["self", "show"] (defScope s_House_add_show) := ⟨rfl, rfl, rfl, by decide +kernel, rfl, by decide +kernel, by decide +kernel⟩
theorem d_House_add_show (T : Txt K mg cm hC cc_law) (hcl : Hcl P w K mg base ⟨hC, TT⟩) (h_is_show : Df P w K mg base ⟨hC, TT⟩ cm "is_show" 2 is_show) : Mt P w K mg base ⟨hC, TT⟩ cm "add_show" 3 House_add_show sh_add_show :=
  mt_mk T.cl T.f_House_add_show sc_House_add_show fun f cdv A outer s H E e c => by
    have c0 := c.fe
    exact (b_cons (s_if (t_not (t_val (e_call h_is_show c0 (a_one (e_var 1))))) (b_one (s_raise c0 T.er T.r_NoShow)) b_nil)
    (b_cons (s_if (t_inD c0 (e_ix (e_var 1) e_int) (e_fld hcl (e_var 0))) (b_one (s_raise c0 T.er T.r_Taken)) b_nil)
    (b_cons (s_fputK hcl c0 (e_var 0) (e_ix (e_var 1) e_int) (e_var 1))
    (b_cons (s_fapp hcl (e_var 0) (e_add (e_tup (a_one e_str)) (e_var 1)))
    (b_one (s_ret (e_lenD T.b_len (a_one (e_fld hcl (e_var 0))))))))))
theorem sc_do_show : FnScope do_show_N ["house", "deed"] (defScope s_do_show) := ⟨rfl, rfl, rfl, by decide +kernel, rfl, by decide +kernel, by decide +kernel⟩
theorem d_do_show (T : Txt K mg cm hC cc_law) (h_House_add_show : Mt P w K mg base ⟨hC, TT⟩ cm "add_show" 3 House_add_show sh_add_show) : Df P w K mg base ⟨hC, TT⟩ cm "do_show" 4 do_show :=
  df_mk T.f_do_show sc_do_show fun f cdv A outer s H E e c => by
    have c0 := c.fe
    exact (b_one (s_expr (e_mt sh_add_show_0 h_House_add_show (.head _) c0 (e_var 0) (a_one (e_sl (e_var 1) (o_some e_int) o_no)) k_nil)))
theorem sc_House_station : FnScope House_station_N ["self", "name"] (defScope s_House_station) := ⟨rfl, rfl, rfl, by decide +kernel, rfl, by decide +kernel, by decide +kernel⟩
theorem d_House_station (T : Txt K mg cm hC cc_law) (hcl : Hcl P w K mg base ⟨hC, TT⟩) (h_House_look_station : Mt P w K mg base ⟨hC, TT⟩ cm "look_station" 2 House_look_station sh_look_station) : Mt P w K mg base ⟨hC, TT⟩ cm "station" 3 House_station sh_station :=
  mt_mk T.cl T.f_House_station sc_House_station fun f cdv A outer s H E e c => by
    have c0 := c.fe
    exact (b_cons (s_expr (e_mt sh_look_station_0 h_House_look_station (.head _) c0 (e_var 0) (a_one (e_var 1)) k_nil))
    (b_one (s_ret (e_ixD c0 (e_fld hcl (e_var 0)) (e_var 1)))))
theorem sc_House_show : FnScope House_show_N ["self", "name"] (defScope s_House_show) := ⟨rfl, rfl, rfl, by decide +kernel, rfl, by decide +kernel, by decide +kernel⟩
theorem d_House_show (T : Txt K mg cm hC cc_law) (hcl : Hcl P w K mg base ⟨hC, TT⟩) (h_is_name : Df P w K mg base ⟨hC, TT⟩ cm "is_name" 1 is_name) : Mt P w K mg base ⟨hC, TT⟩ cm "show" 2 House_show sh_show :=
  mt_mk T.cl T.f_House_show sc_House_show fun f cdv A outer s H E e c => by
    have c0 := c.fe
    exact (b_cons (s_if (t_not (t_val (e_call h_is_name c0 (a_one (e_var 1))))) (b_one (s_raise c0 T.er T.r_NoShow)) b_nil)
    (b_one (s_try0 (by have c := c.nox; have c0 := c.fe; exact (b_one (s_ret (e_ixD c0 (e_fld hcl (e_var 0)) (e_var 1))))))))
theorem sc_is_day : FnScope is_day_N ["thing"] (defScope s_is_day) := ⟨rfl, rfl, rfl, by decide +kernel, rfl, by decide +kernel, by decide +kernel⟩
theorem d_is_day (T : Txt K mg cm hC cc_law) (h_is_number : Df P w K mg base ⟨hC, TT⟩ cm "is_number" 1 is_number) : Df P w K mg base ⟨hC, TT⟩ cm "is_day" 2 is_day :=
  df_mk T.f_is_day sc_is_day fun f cdv A outer s H E e c => by
    have c0 := c.fe
    exact (b_one (s_ret (e_call h_is_number c0 (a_cons (e_var 0) (a_cons e_int (a_one (e_sub (e_glob T.c_DAYS) e_int)))))))
theorem sc_look_day : FnScope look_day_N ["day"] (defScope s_look_day) := ⟨rfl, rfl, rfl, by decide +kernel, rfl, by decide +kernel, by decide +kernel⟩
theorem d_look_day (T : Txt K mg cm hC cc_law) (h_is_day : Df P w K mg base ⟨hC, TT⟩ cm "is_day" 2 is_day) : Df P w K mg base ⟨hC, TT⟩ cm "look_day" 3 look_day :=
  df_mk T.f_look_day sc_look_day fun f cdv A outer s H E e c => by
    have c0 := c.fe
    exact (b_one (s_if (t_not (t_val (e_call h_is_day c0 (a_one (e_var 0))))) (b_one (s_raise c0 T.er T.r_NoDay)) b_nil))
theorem sc_House_look_since : FnScope House_look_since_N ["self", "station", "weekday", "since"] (defScope s_House_look_since) := ⟨rfl, rfl, rfl, by decide +kernel, rfl, by decide +kernel, by decide +kernel⟩
theorem d_House_look_since (T : Txt K mg cm hC cc_law) (hcl : Hcl P w K mg base ⟨hC, TT⟩)  : Mt P w K mg base ⟨hC, TT⟩ cm "look_since" 1 House_look_since sh_look_since :=
  mt_mk T.cl T.f_House_look_since sc_House_look_since fun f cdv A outer s H E e c => by
    have c0 := c.fe
    exact (b_cons (s_if (t_lt (e_mul (e_var 3) (e_glob T.c_HOURS)) (e_fld hcl (e_var 0))) (b_one (s_raise c0 T.er T.r_TooLate)) b_nil)
    (b_one (s_if (t_val (e_any c0 T.b_any (a_one (e_lcD (own := [("at", 4)]) (t := (.nm 4)) c0 (x_fld 0 hcl) (by show blkC House_look_since_N (defScope s_House_look_since) _ _ = true; decide +kernel) (by exact fun s H C cl fp => (g_nm 4 c0.nd)) (by exact fun s H C cl fp => pts_no) (by exact fun s H C cl fp => (e_and (e_eq (c0.blk s H _ _ fp) (e_ix (e_var 4) e_int) (e_var 1)) (e_and (e_ge (e_ix (e_var 4) e_int) (e_var 3)) (e_one (e_eq (c0.blk s H _ _ fp) (e_mod (e_ix (e_var 4) e_int) (e_glob T.c_WEEK)) (e_var 2)))))))))) (b_one (s_raise c0 T.er T.r_Settled)) b_nil)))
theorem sc_House_put_week : FnScope House_put_week_N ["self", "station", "weekday", "hour", "name", "starting"] (defScope s_House_put_week) := ⟨rfl, rfl, rfl, by decide +kernel, rfl, by decide +kernel, by decide +kernel⟩
theorem d_House_put_week (T : Txt K mg cm hC cc_law) (hcl : Hcl P w K mg base ⟨hC, TT⟩) (o_NoRights : Ocl P w K mg base cm "NoRights" ["most"] osh_NoRights) (h_House_station : Mt P w K mg base ⟨hC, TT⟩ cm "station" 3 House_station sh_station) (h_is_number : Df P w K mg base ⟨hC, TT⟩ cm "is_number" 1 is_number) (h_House_show : Mt P w K mg base ⟨hC, TT⟩ cm "show" 2 House_show sh_show) (h_look_day : Df P w K mg base ⟨hC, TT⟩ cm "look_day" 3 look_day) (h_House_look_since : Mt P w K mg base ⟨hC, TT⟩ cm "look_since" 1 House_look_since sh_look_since) : Mt P w K mg base ⟨hC, TT⟩ cm "put_week" 4 House_put_week sh_put_week :=
  mt_mk T.cl T.f_House_put_week sc_House_put_week fun f cdv A outer s H E e c => by
    have c0 := c.fe
    exact (b_cons (s_setT [7, 8] c0 (e_sl (e_mt sh_station_0 h_House_station (.head _) c0 (e_var 0) (a_one (e_var 1)) k_nil) (o_some e_int) (o_some e_int)) (gs_cons 7 c0.nd (gs_cons 8 c0.nd gs_nil)))
    (b_cons (s_if (t_not (t_val (e_call h_is_number c0 (a_cons (e_var 2) (a_cons e_int (a_one (e_sub (e_glob T.c_WEEK) e_int))))))) (b_one (s_raise c0 T.er T.r_NoDay)) b_nil)
    (b_cons (s_setF 6 c0 (e_mt sh_show_0 h_House_show (.head _) c0 (e_var 0) (a_one (e_var 4)) k_nil))
    (b_cons (s_expr (e_call h_look_day c0 (a_one (e_var 5))))
    (b_cons (s_if (t_not (t_val (e_call h_is_number c0 (a_cons (e_var 3) (a_cons (e_var 7) (a_one (e_sub (e_var 8) (e_ix (e_var 6) e_int)))))))) (b_one (s_raise c0 T.er T.r_NoHour)) b_nil)
    (b_cons (s_if (t_gt (e_ix (e_var 6) e_int) e_int) (b_one (s_raiseF (1, []) c0 o_NoRights (.head _) (a_one (e_ix (e_var 6) e_int)) k_nil)) b_nil)
    (b_cons (s_expr (e_mt sh_look_since_0 h_House_look_since (.head _) c0 (e_var 0) (a_cons (e_var 1) (a_cons (e_var 2) (a_one (e_var 5)))) k_nil))
    (b_cons (s_fapp hcl (e_var 0) (e_tup (a_cons (e_var 1) (a_cons (e_var 2) (a_cons (e_var 5) (a_cons (e_var 3) (a_cons (e_add (e_var 3) (e_ix (e_var 6) e_int)) (a_one (e_var 4)))))))))
    (b_one (s_fapp hcl (e_var 0) (e_tup (a_cons e_str (a_cons (e_var 1) (a_cons (e_var 2) (a_cons (e_var 3) (a_cons (e_var 4) (a_one (e_var 5))))))))))))))))))
theorem sc_do_week : FnScope do_week_N ["house", "deed"] (defScope s_do_week) := ⟨rfl, rfl, rfl, by decide +kernel, rfl, by decide +kernel, by decide +kernel⟩
theorem d_do_week (T : Txt K mg cm hC cc_law) (h_House_put_week : Mt P w K mg base ⟨hC, TT⟩ cm "put_week" 4 House_put_week sh_put_week) : Df P w K mg base ⟨hC, TT⟩ cm "do_week" 5 do_week :=
  df_mk T.f_do_week sc_do_week fun f cdv A outer s H E e c => by
    have c0 := c.fe
    exact (b_one (s_expr (e_mt sh_put_week_0 h_House_put_week (.head _) c0 (e_var 0) (a_cons (e_ix (e_var 1) e_int) (a_cons (e_ix (e_var 1) e_int) (a_cons (e_ix (e_var 1) e_int) (a_one (e_ix (e_var 1) e_int))))) (k_one (e_ix (e_var 1) e_int)))))
theorem sc_House_clear_week : FnScope House_clear_week_N ["self", "station", "weekday", "opening", "closing", "starting"] (defScope s_House_clear_week) := ⟨rfl, rfl, rfl, by decide +kernel, rfl, by decide +kernel, by decide +kernel⟩
theorem d_House_clear_week (T : Txt K mg cm hC cc_law) (hcl : Hcl P w K mg base ⟨hC, TT⟩) (h_House_look_station : Mt P w K mg base ⟨hC, TT⟩ cm "look_station" 2 House_look_station sh_look_station) (h_is_number : Df P w K mg base ⟨hC, TT⟩ cm "is_number" 1 is_number) (h_look_day : Df P w K mg base ⟨hC, TT⟩ cm "look_day" 3 look_day) (h_look_span : Df P w K mg base ⟨hC, TT⟩ cm "look_span" 2 look_span) (h_House_look_since : Mt P w K mg base ⟨hC, TT⟩ cm "look_since" 1 House_look_since sh_look_since) : Mt P w K mg base ⟨hC, TT⟩ cm "clear_week" 4 House_clear_week sh_clear_week :=
  mt_mk T.cl T.f_House_clear_week sc_House_clear_week fun f cdv A outer s H E e c => by
    have c0 := c.fe
    exact (b_cons (s_expr (e_mt sh_look_station_0 h_House_look_station (.head _) c0 (e_var 0) (a_one (e_var 1)) k_nil))
    (b_cons (s_if (t_not (t_val (e_call h_is_number c0 (a_cons (e_var 2) (a_cons e_int (a_one (e_sub (e_glob T.c_WEEK) e_int))))))) (b_one (s_raise c0 T.er T.r_NoDay)) b_nil)
    (b_cons (s_expr (e_call h_look_day c0 (a_one (e_var 5))))
    (b_cons (s_expr (e_call h_look_span c0 (a_cons (e_var 3) (a_cons (e_var 4) (a_cons e_int (a_one (e_glob T.c_HOURS)))))))
    (b_cons (s_expr (e_mt sh_look_since_0 h_House_look_since (.head _) c0 (e_var 0) (a_cons (e_var 1) (a_cons (e_var 2) (a_one (e_var 5)))) k_nil))
    (b_cons (s_fapp hcl (e_var 0) (e_tup (a_cons (e_var 1) (a_cons (e_var 2) (a_cons (e_var 5) (a_cons (e_var 3) (a_cons (e_var 4) (a_one e_non))))))))
    (b_one (s_fapp hcl (e_var 0) (e_tup (a_cons e_str (a_cons (e_var 1) (a_cons (e_var 2) (a_cons (e_var 3) (a_cons (e_var 4) (a_one (e_var 5))))))))))))))))
theorem sc_do_clear : FnScope do_clear_N ["house", "deed"] (defScope s_do_clear) := ⟨rfl, rfl, rfl, by decide +kernel, rfl, by decide +kernel, by decide +kernel⟩
theorem d_do_clear (T : Txt K mg cm hC cc_law) (h_House_clear_week : Mt P w K mg base ⟨hC, TT⟩ cm "clear_week" 4 House_clear_week sh_clear_week) : Df P w K mg base ⟨hC, TT⟩ cm "do_clear" 5 do_clear :=
  df_mk T.f_do_clear sc_do_clear fun f cdv A outer s H E e c => by
    have c0 := c.fe
    exact (b_one (s_expr (e_mt sh_clear_week_0 h_House_clear_week (.head _) c0 (e_var 0) (a_cons (e_ix (e_var 1) e_int) (a_cons (e_ix (e_var 1) e_int) (a_cons (e_ix (e_var 1) e_int) (a_one (e_ix (e_var 1) e_int))))) (k_one (e_ix (e_var 1) e_int)))))
theorem sc_laid : FnScope laid_N ["rows", "begin", "end"] (defScope s_laid) := ⟨rfl, rfl, rfl, by decide +kernel, rfl, by decide +kernel, by decide +kernel⟩
theorem d_laid (T : Txt K mg cm hC cc_law)  : Df P w K mg base ⟨hC, TT⟩ cm "laid" 1 laid :=
  df_mk T.f_laid sc_laid fun f cdv A outer s H E e c => by
    have c0 := c.fe
    exact (b_cons (s_set 3 c0 (e_lst a_nil))
    (b_cons (s_for (.nm 4) c (i_seq (e_var 0)) (g_nm 4 c0.nd) (b_one (s_if (t_w (w_or (t_le (e_ix (e_var 4) e_int) (e_var 1)) (w_or1 (t_ge (e_ix (e_var 4) e_int) (e_var 2))))) (b_one (s_app 3 (e_var 4))) (b_one (s_if (t_lt (e_ix (e_var 4) e_int) (e_var 1)) (b_one (s_app 3 (e_tup (a_cons (e_ix (e_var 4) e_int) (a_cons (e_var 1) (a_one (e_ix (e_var 4) e_int))))))) b_nil)))))
    (b_one (s_retV 3))))
theorem sc_laid_with : FnScope laid_with_N ["rows", "begin", "end", "name"] (defScope s_laid_with) := ⟨rfl, rfl, rfl, by decide +kernel, rfl, by decide +kernel, by decide +kernel⟩
theorem d_laid_with (T : Txt K mg cm hC cc_law) (h_laid : Df P w K mg base ⟨hC, TT⟩ cm "laid" 1 laid) : Df P w K mg base ⟨hC, TT⟩ cm "laid_with" 2 laid_with :=
  df_mk T.f_laid_with sc_laid_with fun f cdv A outer s H E e c => by
    have c0 := c.fe
    exact (b_one (s_ret (e_sorted c0 T.b_sorted (a_one (e_add (e_call h_laid c0 (a_cons (e_var 0) (a_cons (e_var 1) (a_one (e_var 2))))) (e_lst (a_one (e_tup (a_cons (e_var 1) (a_cons (e_var 2) (a_one (e_var 3))))))))))))
theorem sc_House_rows_by_week : FnScope House_rows_by_week_N ["self", "station", "day", "weekday"] (defScope s_House_rows_by_week) := ⟨rfl, rfl, rfl, by decide +kernel, rfl, by decide +kernel, by decide +kernel⟩
theorem d_House_rows_by_week (T : Txt K mg cm hC cc_law) (hcl : Hcl P w K mg base ⟨hC, TT⟩) (h_laid : Df P w K mg base ⟨hC, TT⟩ cm "laid" 1 laid) (h_laid_with : Df P w K mg base ⟨hC, TT⟩ cm "laid_with" 2 laid_with) : Mt P w K mg base ⟨hC, TT⟩ cm "rows_by_week" 3 House_rows_by_week sh_rows_by_week :=
  mt_mk T.cl T.f_House_rows_by_week sc_House_rows_by_week fun f cdv A outer s H E e c => by
    have c0 := c.fe
    exact (b_cons (s_setF 4 c0 (e_lst a_nil))
    (b_cons (s_forF (.tp [5, 6, 7, 8, 9, 10]) hcl c (e_var 0) (g_tp c0.calm (gs_cons 5 c0.nd (gs_cons 6 c0.nd (gs_cons 7 c0.nd (gs_cons 8 c0.nd (gs_cons 9 c0.nd (gs_cons 10 c0.nd gs_nil))))))) (b_one (s_if (t_w (w_and (t_eq c0 (e_var 5) (e_var 1)) (w_and (t_eq c0 (e_var 6) (e_var 3)) (w_and1 (t_le (e_var 7) (e_var 2)))))) (b_one (s_setF 4 c0 (e_if (t_isN (e_var 10)) (e_call h_laid c0 (a_cons (e_var 4) (a_cons (e_var 8) (a_one (e_var 9))))) (e_call h_laid_with c0 (a_cons (e_var 4) (a_cons (e_var 8) (a_cons (e_var 9) (a_one (e_var 10))))))))) b_nil)))
    (b_one (s_retV 4))))
theorem sc_House_week_rows : FnScope House_week_rows_N ["self", "station", "day"] (defScope s_House_week_rows) := ⟨rfl, rfl, rfl, by decide +kernel, rfl, by decide +kernel, by decide +kernel⟩
theorem d_House_week_rows (T : Txt K mg cm hC cc_law) (h_House_look_station : Mt P w K mg base ⟨hC, TT⟩ cm "look_station" 2 House_look_station sh_look_station) (h_look_day : Df P w K mg base ⟨hC, TT⟩ cm "look_day" 3 look_day) (h_House_rows_by_week : Mt P w K mg base ⟨hC, TT⟩ cm "rows_by_week" 3 House_rows_by_week sh_rows_by_week) : Mt P w K mg base ⟨hC, TT⟩ cm "week_rows" 4 House_week_rows sh_week_rows :=
  mt_mk T.cl T.f_House_week_rows sc_House_week_rows fun f cdv A outer s H E e c => by
    have c0 := c.fe
    exact (b_cons (s_expr (e_mt sh_look_station_0 h_House_look_station (.head _) c0 (e_var 0) (a_one (e_var 1)) k_nil))
    (b_cons (s_expr (e_call h_look_day c0 (a_one (e_var 2))))
    (b_one (s_ret (e_mt sh_rows_by_week_0 h_House_rows_by_week (.head _) c0 (e_var 0) (a_cons (e_var 1) (a_cons (e_var 2) (a_one (e_mod (e_var 2) (e_glob T.c_WEEK))))) k_nil)))))
theorem sc_House_own_rows : FnScope House_own_rows_N ["self", "station", "day"] (defScope s_House_own_rows) := ⟨rfl, rfl, rfl, by decide +kernel, rfl, by decide +kernel, by decide +kernel⟩
theorem d_House_own_rows (T : Txt K mg cm hC cc_law) (hcl : Hcl P w K mg base ⟨hC, TT⟩) (h_House_week_rows : Mt P w K mg base ⟨hC, TT⟩ cm "week_rows" 4 House_week_rows sh_week_rows) : Mt P w K mg base ⟨hC, TT⟩ cm "own_rows" 5 House_own_rows sh_own_rows :=
  mt_mk T.cl T.f_House_own_rows sc_House_own_rows fun f cdv A outer s H E e c => by
    have c0 := c.fe
    exact (b_cons (s_setF 3 c0 (e_mt sh_week_rows_0 h_House_week_rows (.head _) c0 (e_var 0) (a_cons (e_var 1) (a_one (e_var 2))) k_nil))
    (b_one (s_ret (e_if (t_inT c0 (a_cons (e_var 1) (a_one (e_var 2))) (e_fld hcl (e_var 0))) (e_clist T.b_list (a_one (e_ixT c0 (e_fld hcl (e_var 0)) (a_cons (e_var 1) (a_one (e_var 2)))))) (e_var 3)))))
theorem sc_House_times : FnScope House_times_N ["self", "name"] (defScope s_House_times) := ⟨rfl, rfl, rfl, by decide +kernel, rfl, by decide +kernel, by decide +kernel⟩
theorem d_House_times (T : Txt K mg cm hC cc_law) (hcl : Hcl P w K mg base ⟨hC, TT⟩) (h_House_show : Mt P w K mg base ⟨hC, TT⟩ cm "show" 2 House_show sh_show) : Mt P w K mg base ⟨hC, TT⟩ cm "times" 3 House_times sh_times :=
  mt_mk T.cl T.f_House_times sc_House_times fun f cdv A outer s H E e c => by
    have c0 := c.fe
    exact (b_cons (s_expr (e_mt sh_show_0 h_House_show (.head _) c0 (e_var 0) (a_one (e_var 1)) k_nil))
    (b_cons (s_set 2 c0 (e_lst a_nil))
    (b_cons (s_forD (.tp [3, 4]) c (x_fld 0 hcl) (g_tp c0.calm (gs_cons 3 c0.nd (gs_cons 4 c0.nd gs_nil))) (b_one (s_ext 2 (e_lc (own := [("row", 5)]) (t := (.nm 5)) c0 (i_seq (e_ixT c0 (e_fld hcl (e_var 0)) (a_cons (e_var 3) (a_one (e_var 4))))) (by show blkC House_times_N (defScope s_House_times) _ _ = true; decide +kernel) (by exact fun s H C cl fp => (g_nm 5 c0.nd)) (by exact fun s H C cl fp => (pts_ifB (t_eq (c0.blk s H _ _ fp) (e_ix (e_var 5) e_int) (e_var 1)))) (by exact fun s H C cl fp => (e_tup (a_cons (e_var 4) (a_cons (e_var 3) (a_one (e_ix (e_var 5) e_int))))))))))
    (b_one (s_ret (e_sorted c0 T.b_sorted (a_one (e_var 2))))))))
theorem sc_House_put : FnScope House_put_N ["self", "station", "day", "hour", "name"] (defScope s_House_put) := ⟨rfl, rfl, rfl, by decide +kernel, rfl, by decide +kernel, by decide +kernel⟩
theorem d_House_put (T : Txt K mg cm hC cc_law) (hcl : Hcl P w K mg base ⟨hC, TT⟩) (o_NoRights : Ocl P w K mg base cm "NoRights" ["most"] osh_NoRights) (h_House_station : Mt P w K mg base ⟨hC, TT⟩ cm "station" 3 House_station sh_station) (h_look_day : Df P w K mg base ⟨hC, TT⟩ cm "look_day" 3 look_day) (h_House_show : Mt P w K mg base ⟨hC, TT⟩ cm "show" 2 House_show sh_show) (h_is_number : Df P w K mg base ⟨hC, TT⟩ cm "is_number" 1 is_number) (h_House_own_rows : Mt P w K mg base ⟨hC, TT⟩ cm "own_rows" 5 House_own_rows sh_own_rows) (h_laid_with : Df P w K mg base ⟨hC, TT⟩ cm "laid_with" 2 laid_with) (h_House_times : Mt P w K mg base ⟨hC, TT⟩ cm "times" 3 House_times sh_times) : Mt P w K mg base ⟨hC, TT⟩ cm "put" 6 House_put sh_put :=
  mt_mk T.cl T.f_House_put sc_House_put fun f cdv A outer s H E e c => by
    have c0 := c.fe
    exact (b_cons (s_setT [9, 10] c0 (e_sl (e_mt sh_station_0 h_House_station (.head _) c0 (e_var 0) (a_one (e_var 1)) k_nil) (o_some e_int) (o_some e_int)) (gs_cons 9 c0.nd (gs_cons 10 c0.nd gs_nil)))
    (b_cons (s_expr (e_call h_look_day c0 (a_one (e_var 2))))
    (b_cons (s_setF 5 c0 (e_mt sh_show_0 h_House_show (.head _) c0 (e_var 0) (a_one (e_var 4)) k_nil))
    (b_cons (s_if (t_not (t_val (e_call h_is_number c0 (a_cons (e_var 3) (a_cons (e_var 9) (a_one (e_sub (e_var 10) (e_ix (e_var 5) e_int)))))))) (b_one (s_raise c0 T.er T.r_NoHour)) b_nil)
    (b_cons (s_if (t_lt (e_add (e_mul (e_var 2) (e_glob T.c_HOURS)) (e_var 3)) (e_fld hcl (e_var 0))) (b_one (s_raise c0 T.er T.r_TooLate)) b_nil)
    (b_cons (s_setF 6 c0 (e_mt sh_own_rows_0 h_House_own_rows (.head _) c0 (e_var 0) (a_cons (e_var 1) (a_one (e_var 2))) k_nil))
    (b_cons (s_setF 7 c0 (e_call h_laid_with c0 (a_cons (e_var 6) (a_cons (e_var 3) (a_cons (e_add (e_var 3) (e_ix (e_var 5) e_int)) (a_one (e_var 4)))))))
    (b_cons (s_setF 8 c0 (e_sub (e_len T.b_len (a_one (e_lc (own := [("row", 11)]) (t := (.nm 11)) c0 (i_seq (e_var 7)) (by show blkC House_put_N (defScope s_House_put) _ _ = true; decide +kernel) (by exact fun s H C cl fp => (g_nm 11 c0.nd)) (by exact fun s H C cl fp => (pts_ifB (t_eq (c0.blk s H _ _ fp) (e_ix (e_var 11) e_int) (e_var 4)))) (by exact fun s H C cl fp => (e_var 11))))) (e_len T.b_len (a_one (e_lc (own := [("row", 11)]) (t := (.nm 11)) c0 (i_seq (e_var 6)) (by show blkC House_put_N (defScope s_House_put) _ _ = true; decide +kernel) (by exact fun s H C cl fp => (g_nm 11 c0.nd)) (by exact fun s H C cl fp => (pts_ifB (t_eq (c0.blk s H _ _ fp) (e_ix (e_var 11) e_int) (e_var 4)))) (by exact fun s H C cl fp => (e_var 11)))))))
    (b_cons (s_if (t_w (w_and (t_gt (e_ix (e_var 5) e_int) e_int) (w_and1 (t_gt (e_add (e_len T.b_len (a_one (e_mt sh_times_0 h_House_times (.head _) c0 (e_var 0) (a_one (e_var 4)) k_nil))) (e_var 8)) (e_ix (e_var 5) e_int))))) (b_one (s_raiseF (1, []) c0 o_NoRights (.head _) (a_one (e_ix (e_var 5) e_int)) k_nil)) b_nil)
    (b_cons (s_fputT hcl c0 (e_var 0) (a_cons (e_var 1) (a_one (e_var 2))) (e_var 7))
    (b_cons (s_fapp hcl (e_var 0) (e_tup (a_cons e_str (a_cons (e_var 1) (a_cons (e_var 2) (a_cons (e_var 3) (a_one (e_var 4))))))))
    (b_one (s_ret (e_len T.b_len (a_one (e_var 7))))))))))))))))
theorem sc_do_put : FnScope do_put_N ["house", "deed"] (defScope s_do_put) := ⟨rfl, rfl, rfl, by decide +kernel, rfl, by decide +kernel, by decide +kernel⟩
theorem d_do_put (T : Txt K mg cm hC cc_law) (h_House_put : Mt P w K mg base ⟨hC, TT⟩ cm "put" 6 House_put sh_put) : Df P w K mg base ⟨hC, TT⟩ cm "do_put" 7 do_put :=
  df_mk T.f_do_put sc_do_put fun f cdv A outer s H E e c => by
    have c0 := c.fe
    exact (b_one (s_expr (e_mt sh_put_0 h_House_put (.head _) c0 (e_var 0) (a_cons (e_ix (e_var 1) e_int) (a_cons (e_ix (e_var 1) e_int) (a_cons (e_ix (e_var 1) e_int) (a_one (e_ix (e_var 1) e_int))))) k_nil)))
theorem sc_look_hour : FnScope look_hour_N ["hour"] (defScope s_look_hour) := ⟨rfl, rfl, rfl, by decide +kernel, rfl, by decide +kernel, by decide +kernel⟩
theorem d_look_hour (T : Txt K mg cm hC cc_law) (h_is_number : Df P w K mg base ⟨hC, TT⟩ cm "is_number" 1 is_number) : Df P w K mg base ⟨hC, TT⟩ cm "look_hour" 2 look_hour :=
  df_mk T.f_look_hour sc_look_hour fun f cdv A outer s H E e c => by
    have c0 := c.fe
    exact (b_one (s_if (t_not (t_val (e_call h_is_number c0 (a_cons (e_var 0) (a_cons e_int (a_one (e_sub (e_glob T.c_HOURS) e_int))))))) (b_one (s_raise c0 T.er T.r_NoHour)) b_nil))
theorem sc_House_row_at : FnScope House_row_at_N ["self", "station", "day", "hour"] (defScope s_House_row_at) := ⟨rfl, rfl, rfl, by decide +kernel, rfl, by decide +kernel, by decide +kernel⟩
theorem d_House_row_at (T : Txt K mg cm hC cc_law) (o_NoRow : Ocl P w K mg base cm "NoRow" ["hour"] osh_NoRow) (h_House_own_rows : Mt P w K mg base ⟨hC, TT⟩ cm "own_rows" 5 House_own_rows sh_own_rows) (h_look_hour : Df P w K mg base ⟨hC, TT⟩ cm "look_hour" 2 look_hour) : Mt P w K mg base ⟨hC, TT⟩ cm "row_at" 6 House_row_at sh_row_at :=
  mt_mk T.cl T.f_House_row_at sc_House_row_at fun f cdv A outer s H E e c => by
    have c0 := c.fe
    exact (b_cons (s_setF 4 c0 (e_mt sh_own_rows_0 h_House_own_rows (.head _) c0 (e_var 0) (a_cons (e_var 1) (a_one (e_var 2))) k_nil))
    (b_cons (s_expr (e_call h_look_hour c0 (a_one (e_var 3))))
    (b_cons (s_setLcF (i := 5) (own := [("row", 6)]) (t := (.nm 6)) c0 (hy := rfl) (hyl := rfl) (hsw := sw_true rfl rfl rfl (by decide +kernel)) (i_seq (e_var 4)) (by show blkC House_row_at_N (defScope s_House_row_at) _ _ = true; decide +kernel) (by exact fun s H C cl fp => (g_nm 6 c0.nd)) (by exact fun s H C cl fp => (pts_ifB (t_eq (c0.blk s H _ _ fp) (e_ix (e_var 6) e_int) (e_var 3)))) (by exact fun s H C cl fp => (e_var 6)))
    (b_cons (s_if (t_eq c0 (e_var 5) (e_lst a_nil)) (b_one (s_raiseF (1, []) c0 o_NoRow (.head _) (a_one (e_var 3)) k_nil)) b_nil)
    (b_one (s_ret (e_ix (e_var 5) e_int)))))))
theorem sc_House_drop : FnScope House_drop_N ["self", "station", "day", "hour"] (defScope s_House_drop) := ⟨rfl, rfl, rfl, by decide +kernel, rfl, by decide +kernel, by decide +kernel⟩
theorem d_House_drop (T : Txt K mg cm hC cc_law) (hcl : Hcl P w K mg base ⟨hC, TT⟩) (h_House_row_at : Mt P w K mg base ⟨hC, TT⟩ cm "row_at" 6 House_row_at sh_row_at) (h_House_own_rows : Mt P w K mg base ⟨hC, TT⟩ cm "own_rows" 5 House_own_rows sh_own_rows) : Mt P w K mg base ⟨hC, TT⟩ cm "drop" 7 House_drop sh_drop :=
  mt_mk T.cl T.f_House_drop sc_House_drop fun f cdv A outer s H E e c => by
    have c0 := c.fe
    exact (b_cons (s_setF 4 c0 (e_mt sh_row_at_0 h_House_row_at (.head _) c0 (e_var 0) (a_cons (e_var 1) (a_cons (e_var 2) (a_one (e_var 3)))) k_nil))
    (b_cons (s_if (t_lt (e_add (e_mul (e_var 2) (e_glob T.c_HOURS)) (e_var 3)) (e_fld hcl (e_var 0))) (b_one (s_raise c0 T.er T.r_TooLate)) b_nil)
    (b_cons (s_fputT hcl c0 (e_var 0) (a_cons (e_var 1) (a_one (e_var 2))) (e_lc (own := [("one", 5)]) (t := (.nm 5)) c0 (i_seq (e_mt sh_own_rows_0 h_House_own_rows (.head _) c0 (e_var 0) (a_cons (e_var 1) (a_one (e_var 2))) k_nil)) (by show blkC House_drop_N (defScope s_House_drop) _ _ = true; decide +kernel) (by exact fun s H C cl fp => (g_nm 5 c0.nd)) (by exact fun s H C cl fp => (pts_ifB (t_ne (c0.blk s H _ _ fp) (e_var 5) (e_var 4)))) (by exact fun s H C cl fp => (e_var 5))))
    (b_cons (s_fapp hcl (e_var 0) (e_tup (a_cons e_str (a_cons (e_var 1) (a_cons (e_var 2) (a_one (e_var 3)))))))
    (b_one (s_retV 4))))))
theorem sc_do_drop : FnScope do_drop_N ["house", "deed"] (defScope s_do_drop) := ⟨rfl, rfl, rfl, by decide +kernel, rfl, by decide +kernel, by decide +kernel⟩
theorem d_do_drop (T : Txt K mg cm hC cc_law) (h_House_drop : Mt P w K mg base ⟨hC, TT⟩ cm "drop" 7 House_drop sh_drop) : Df P w K mg base ⟨hC, TT⟩ cm "do_drop" 8 do_drop :=
  df_mk T.f_do_drop sc_do_drop fun f cdv A outer s H E e c => by
    have c0 := c.fe
    exact (b_one (s_expr (e_mt sh_drop_0 h_House_drop (.head _) c0 (e_var 0) (a_cons (e_ix (e_var 1) e_int) (a_cons (e_ix (e_var 1) e_int) (a_one (e_ix (e_var 1) e_int)))) k_nil)))
theorem sc_joined : FnScope joined_N ["rows", "begin", "end"] (defScope s_joined) := ⟨rfl, rfl, rfl, by decide +kernel, rfl, by decide +kernel, by decide +kernel⟩
theorem d_joined (T : Txt K mg cm hC cc_law)  : Df P w K mg base ⟨hC, TT⟩ cm "joined" 1 joined :=
  df_mk T.f_joined sc_joined fun f cdv A outer s H E e c => by
    have c0 := c.fe
    exact (b_cons (s_set 3 c0 (e_lst a_nil))
    (b_cons (s_for (.nm 4) c (i_seq (e_var 0)) (g_nm 4 c0.nd) (b_one (s_if (t_eq c0 (e_ix (e_var 4) e_int) (e_var 1)) (b_one (s_app 3 (e_tup (a_cons (e_var 1) (a_cons (e_var 2) (a_one (e_ix (e_var 4) e_int))))))) (b_one (s_if (t_w (w_or (t_lt (e_ix (e_var 4) e_int) (e_var 1)) (w_or1 (t_ge (e_ix (e_var 4) e_int) (e_var 2))))) (b_one (s_app 3 (e_var 4))) (b_one (s_if (t_gt (e_ix (e_var 4) e_int) (e_var 2)) (b_one (s_app 3 (e_tup (a_cons (e_var 2) (a_cons (e_ix (e_var 4) e_int) (a_one (e_ix (e_var 4) e_int))))))) b_nil)))))))
    (b_one (s_retV 3))))
theorem sc_next_fixed : FnScope next_fixed_N ["rows", "at", "last", "fixed"] (defScope s_next_fixed) := ⟨rfl, rfl, rfl, by decide +kernel, rfl, by decide +kernel, by decide +kernel⟩
theorem d_next_fixed (T : Txt K mg cm hC cc_law)  : Df P w K mg base ⟨hC, TT⟩ cm "next_fixed" 1 next_fixed :=
  df_mk T.f_next_fixed sc_next_fixed fun f cdv A outer s H E e c => by
    have c0 := c.fe
    exact (b_one (s_ret (e_minD c0 T.b_min (e_lc (own := [("row", 4)]) (t := (.nm 4)) c0 (i_seq (e_var 0)) (by show blkC next_fixed_N (defScope s_next_fixed) _ _ = true; decide +kernel) (by exact fun s H C cl fp => (g_nm 4 c0.nd)) (by exact fun s H C cl fp => (pts_ifB (t_w (w_and (t_ge (e_ix (e_var 4) e_int) (e_var 1)) (w_and1 (t_in (c0.blk s H _ _ fp) (e_ix (e_var 4) e_int) (e_var 3))))))) (by exact fun s H C cl fp => (e_ix (e_var 4) e_int))) (e_var 2))))
theorem sc_pushed : FnScope pushed_N ["rows", "begin", "end", "last", "fixed"] (defScope s_pushed) := ⟨rfl, rfl, rfl, by decide +kernel, rfl, by decide +kernel, by decide +kernel⟩
theorem d_pushed (T : Txt K mg cm hC cc_law) (h_next_fixed : Df P w K mg base ⟨hC, TT⟩ cm "next_fixed" 1 next_fixed) : Df P w K mg base ⟨hC, TT⟩ cm "pushed" 2 pushed :=
  df_mk T.f_pushed sc_pushed fun f cdv A outer s H E e c => by
    have c0 := c.fe
    exact (b_cons (s_parF 6 7 [true, false] c0 (a_cons (e_lst a_nil) (a_one e_int)))
    (b_cons (s_for (.nm 5) c (i_seq (e_var 0)) (g_nm 5 c0.nd) (b_one (s_if (t_eq c0 (e_ix (e_var 5) e_int) (e_var 1)) (b_cons (s_app 6 (e_tup (a_cons (e_var 1) (a_cons (e_var 2) (a_one (e_ix (e_var 5) e_int))))))
    (b_one (s_setF 7 c0 (e_var 2)))) (b_one (s_if (t_ge (e_ix (e_var 5) e_int) (e_var 7)) (b_cons (s_app 6 (e_var 5))
    (b_one (s_setF 7 c0 (e_ix (e_var 5) e_int)))) (b_cons (s_setF 8 c0 (e_min2 c0 T.b_min (a_cons (e_sub (e_add (e_var 7) (e_ix (e_var 5) e_int)) (e_ix (e_var 5) e_int)) (a_one (e_call h_next_fixed c0 (a_cons (e_var 0) (a_cons (e_ix (e_var 5) e_int) (a_cons (e_var 3) (a_one (e_var 4))))))))))
    (b_one (s_if (t_gt (e_var 8) (e_var 7)) (b_cons (s_app 6 (e_tup (a_cons (e_var 7) (a_cons (e_var 8) (a_one (e_ix (e_var 5) e_int))))))
    (b_one (s_setF 7 c0 (e_var 8)))) b_nil))))))))
    (b_one (s_retV 6))))
theorem sc_House_overrun : FnScope House_overrun_N ["self", "station", "day", "hour", "extra"] (defScope s_House_overrun) := ⟨rfl, rfl, rfl, by decide +kernel, rfl, by decide +kernel, by decide +kernel⟩
theorem d_House_overrun (T : Txt K mg cm hC cc_law) (hcl : Hcl P w K mg base ⟨hC, TT⟩) (o_TooLong : Ocl P w K mg base cm "TooLong" ["last"] osh_TooLong) (o_NewsAhead : Ocl P w K mg base cm "NewsAhead" ["hour", "name"] osh_NewsAhead) (h_House_row_at : Mt P w K mg base ⟨hC, TT⟩ cm "row_at" 6 House_row_at sh_row_at) (h_is_number : Df P w K mg base ⟨hC, TT⟩ cm "is_number" 1 is_number) (h_House_own_rows : Mt P w K mg base ⟨hC, TT⟩ cm "own_rows" 5 House_own_rows sh_own_rows) (h_joined : Df P w K mg base ⟨hC, TT⟩ cm "joined" 1 joined) (h_pushed : Df P w K mg base ⟨hC, TT⟩ cm "pushed" 2 pushed) : Mt P w K mg base ⟨hC, TT⟩ cm "overrun" 7 House_overrun sh_overrun :=
  mt_mk T.cl T.f_House_overrun sc_House_overrun fun f cdv A outer s H E e c => by
    have c0 := c.fe
    exact (b_cons (s_setF 5 c0 (e_mt sh_row_at_0 h_House_row_at (.head _) c0 (e_var 0) (a_cons (e_var 1) (a_cons (e_var 2) (a_one (e_var 3)))) k_nil))
    (b_cons (s_if (t_not (t_val (e_call h_is_number c0 (a_cons (e_var 4) (a_cons e_int (a_one (e_glob T.c_MOST_OVER))))))) (b_one (s_raise c0 T.er T.r_NoMore)) b_nil)
    (b_cons (s_setT [9, 10, 11, 12] c0 (e_ixD c0 (e_fld hcl (e_var 0)) (e_var 1)) (gs_cons 9 c0.nd (gs_cons 10 c0.nd (gs_cons 11 c0.nd (gs_cons 12 c0.nd gs_nil)))))
    (b_cons (s_if (t_not (t_val (e_ix (e_ixD c0 (e_fld hcl (e_var 0)) (e_ix (e_var 5) e_int)) e_int))) (b_one (s_raise c0 T.er T.r_NotLive)) b_nil)
    (b_cons (s_parT [13, 14] [false, false] c0 (a_cons (e_add (e_ix (e_var 5) e_int) (e_var 4)) (a_one (e_mt sh_own_rows_0 h_House_own_rows (.head _) c0 (e_var 0) (a_cons (e_var 1) (a_one (e_var 2))) k_nil))) (gs_cons 13 c0.nd (gs_cons 14 c0.nd gs_nil)))
    (b_cons (s_if (t_gt (e_var 13) (e_var 11)) (b_one (s_raiseF (1, []) c0 o_TooLong (.head _) (a_one (e_var 11)) k_nil)) b_nil)
    (b_cons (s_setF 6 c0 (e_lcD (own := [("name", 15)]) (t := (.nm 15)) c0 (x_fld 0 hcl) (by show blkC House_overrun_N (defScope s_House_overrun) _ _ = true; decide +kernel) (by exact fun s H C cl fp => (g_nm 15 c0.nd)) (by exact fun s H C cl fp => (pts_ifB (t_eq (c0.blk s H _ _ fp) (e_ix (e_ixD (c0.blk s H _ _ fp) (e_fld hcl (e_var 0)) (e_var 15)) e_int) e_str))) (by exact fun s H C cl fp => (e_var 15))))
    (b_cons (s_setLcF (i := 7) (own := [("one", 16)]) (t := (.nm 16)) c0 (hy := rfl) (hyl := rfl) (hsw := sw_true rfl rfl rfl (by decide +kernel)) (i_seq (e_var 14)) (by show blkC House_overrun_N (defScope s_House_overrun) _ _ = true; decide +kernel) (by exact fun s H C cl fp => (g_nm 16 c0.nd)) (by exact fun s H C cl fp => (pts_ifB (t_w (w_and (t_chain c_lt c_lt (e_var 3) (e_ix (e_var 16) e_int) (e_var 13)) (w_and1 (t_in (c0.blk s H _ _ fp) (e_ix (e_var 16) e_int) (e_var 6))))))) (by exact fun s H C cl fp => (e_var 16)))
    (b_cons (s_if (t_ne c0 (e_var 7) (e_lst a_nil)) (b_one (s_raiseF (1, ["name"]) c0 o_NewsAhead (.head _) (a_one (e_ix (e_ix (e_var 7) e_int) e_int)) (k_one (e_ix (e_ix (e_var 7) e_int) e_int)))) b_nil)
    (b_cons (s_if (t_lt (e_add (e_mul (e_var 2) (e_glob T.c_HOURS)) (e_ix (e_var 5) e_int)) (e_fld hcl (e_var 0))) (b_one (s_raise c0 T.er T.r_TooLate)) b_nil)
    (b_cons (s_setF 8 c0 (e_if (t_eq c0 (e_var 12) e_str) (e_call h_joined c0 (a_cons (e_var 14) (a_cons (e_var 3) (a_one (e_var 13))))) (e_call h_pushed c0 (a_cons (e_var 14) (a_cons (e_var 3) (a_cons (e_var 13) (a_cons (e_var 11) (a_one (e_var 6)))))))))
    (b_cons (s_fputT hcl c0 (e_var 0) (a_cons (e_var 1) (a_one (e_var 2))) (e_var 8))
    (b_cons (s_fapp hcl (e_var 0) (e_tup (a_cons e_str (a_cons (e_var 1) (a_cons (e_var 2) (a_cons (e_var 3) (a_one (e_var 4))))))))
    (b_one (s_ret (e_tup (a_cons (e_var 3) (a_cons (e_var 13) (a_one (e_ix (e_var 5) e_int))))))))))))))))))))
theorem sc_do_over : FnScope do_over_N ["house", "deed"] (defScope s_do_over) := ⟨rfl, rfl, rfl, by decide +kernel, rfl, by decide +kernel, by decide +kernel⟩
theorem d_do_over (T : Txt K mg cm hC cc_law) (h_House_overrun : Mt P w K mg base ⟨hC, TT⟩ cm "overrun" 7 House_overrun sh_overrun) : Df P w K mg base ⟨hC, TT⟩ cm "do_over" 8 do_over :=
  df_mk T.f_do_over sc_do_over fun f cdv A outer s H E e c => by
    have c0 := c.fe
    exact (b_one (s_expr (e_mt sh_overrun_0 h_House_overrun (.head _) c0 (e_var 0) (a_cons (e_ix (e_var 1) e_int) (a_cons (e_ix (e_var 1) e_int) (a_one (e_ix (e_var 1) e_int)))) (k_one (e_ix (e_var 1) e_int)))))
theorem sc_House_breaks : FnScope House_breaks_N ["self", "station", "day"] (defScope s_House_breaks) := ⟨rfl, rfl, rfl, by decide +kernel, rfl, by decide +kernel, by decide +kernel⟩
theorem d_House_breaks (T : Txt K mg cm hC cc_law) (hcl : Hcl P w K mg base ⟨hC, TT⟩) (h_House_look_station : Mt P w K mg base ⟨hC, TT⟩ cm "look_station" 2 House_look_station sh_look_station) (h_look_day : Df P w K mg base ⟨hC, TT⟩ cm "look_day" 3 look_day) : Mt P w K mg base ⟨hC, TT⟩ cm "breaks" 4 House_breaks sh_breaks :=
  mt_mk T.cl T.f_House_breaks sc_House_breaks fun f cdv A outer s H E e c => by
    have c0 := c.fe
    exact (b_cons (s_expr (e_mt sh_look_station_0 h_House_look_station (.head _) c0 (e_var 0) (a_one (e_var 1)) k_nil))
    (b_cons (s_expr (e_call h_look_day c0 (a_one (e_var 2))))
    (b_one (s_ret (e_clist T.b_list (a_one (e_getT c0 (e_fld hcl (e_var 0)) (a_cons (e_var 1) (a_one (e_var 2))) (e_lst a_nil))))))))
theorem sc_do_meet : FnScope do_meet_N ["one", "other"] (defScope s_do_meet) := ⟨rfl, rfl, rfl, by decide +kernel, rfl, by decide +kernel, by decide +kernel⟩
theorem d_do_meet (T : Txt K mg cm hC cc_law)  : Df P w K mg base ⟨hC, TT⟩ cm "do_meet" 1 do_meet :=
  df_mk T.f_do_meet sc_do_meet fun f cdv A outer s H E e c => by
    have c0 := c.fe
    exact (b_one (s_ret (e_and (e_lt (e_ix (e_var 0) e_int) (e_ix (e_var 1) e_int)) (e_one (e_lt (e_ix (e_var 1) e_int) (e_ix (e_var 0) e_int))))))
theorem sc_House_break_in : FnScope House_break_in_N ["self", "station", "day", "begin", "end"] (defScope s_House_break_in) := ⟨rfl, rfl, rfl, by decide +kernel, rfl, by decide +kernel, by decide +kernel⟩
theorem d_House_break_in (T : Txt K mg cm hC cc_law) (hcl : Hcl P w K mg base ⟨hC, TT⟩) (o_Clash : Ocl P w K mg base cm "Clash" ["begin", "end"] osh_Clash) (h_House_station : Mt P w K mg base ⟨hC, TT⟩ cm "station" 3 House_station sh_station) (h_look_day : Df P w K mg base ⟨hC, TT⟩ cm "look_day" 3 look_day) (h_look_span : Df P w K mg base ⟨hC, TT⟩ cm "look_span" 2 look_span) (h_House_breaks : Mt P w K mg base ⟨hC, TT⟩ cm "breaks" 4 House_breaks sh_breaks) (h_do_meet : Df P w K mg base ⟨hC, TT⟩ cm "do_meet" 1 do_meet) : Mt P w K mg base ⟨hC, TT⟩ cm "break_in" 5 House_break_in sh_break_in :=
  mt_mk T.cl T.f_House_break_in sc_House_break_in fun f cdv A outer s H E e c => by
    have c0 := c.fe
    exact (b_cons (s_setT [7, 8] c0 (e_sl (e_mt sh_station_0 h_House_station (.head _) c0 (e_var 0) (a_one (e_var 1)) k_nil) (o_some e_int) (o_some e_int)) (gs_cons 7 c0.nd (gs_cons 8 c0.nd gs_nil)))
    (b_cons (s_expr (e_call h_look_day c0 (a_one (e_var 2))))
    (b_cons (s_expr (e_call h_look_span c0 (a_cons (e_var 3) (a_cons (e_var 4) (a_cons (e_var 7) (a_one (e_var 8)))))))
    (b_cons (s_if (t_lt (e_add (e_mul (e_var 2) (e_glob T.c_HOURS)) (e_var 3)) (e_fld hcl (e_var 0))) (b_one (s_raise c0 T.er T.r_TooLate)) b_nil)
    (b_cons (s_setF 5 c0 (e_mt sh_breaks_0 h_House_breaks (.head _) c0 (e_var 0) (a_cons (e_var 1) (a_one (e_var 2))) k_nil))
    (b_cons (s_setLcF (i := 6) (own := [("one", 9)]) (t := (.nm 9)) c0 (hy := rfl) (hyl := rfl) (hsw := sw_true rfl rfl rfl (by decide +kernel)) (i_seq (e_var 5)) (by show blkC House_break_in_N (defScope s_House_break_in) _ _ = true; decide +kernel) (by exact fun s H C cl fp => (g_nm 9 c0.nd)) (by exact fun s H C cl fp => (pts_ifB (t_val (e_call h_do_meet (c0.blk s H _ _ fp) (a_cons (e_tup (a_cons (e_var 3) (a_one (e_var 4)))) (a_one (e_var 9))))))) (by exact fun s H C cl fp => (e_var 9)))
    (b_cons (s_if (t_ne c0 (e_var 6) (e_lst a_nil)) (b_one (s_raiseF0 (0, ["begin", "end"]) c0 o_Clash (.head _) (k_cons (e_ix (e_ix (e_var 6) e_int) e_int) (k_one (e_ix (e_ix (e_var 6) e_int) e_int))))) b_nil)
    (b_cons (s_fputT hcl c0 (e_var 0) (a_cons (e_var 1) (a_one (e_var 2))) (e_sorted c0 T.b_sorted (a_one (e_add (e_var 5) (e_lst (a_one (e_tup (a_cons (e_var 3) (a_one (e_var 4))))))))))
    (b_cons (s_fapp hcl (e_var 0) (e_tup (a_cons e_str (a_cons (e_var 1) (a_cons (e_var 2) (a_cons (e_var 3) (a_one (e_var 4))))))))
    (b_one (s_ret (e_add (e_len T.b_len (a_one (e_var 5))) e_int))))))))))))
theorem sc_do_break : FnScope do_break_N ["house", "deed"] (defScope s_do_break) := ⟨rfl, rfl, rfl, by decide +kernel, rfl, by decide +kernel, by decide +kernel⟩
theorem d_do_break (T : Txt K mg cm hC cc_law) (h_House_break_in : Mt P w K mg base ⟨hC, TT⟩ cm "break_in" 5 House_break_in sh_break_in) : Df P w K mg base ⟨hC, TT⟩ cm "do_break" 6 do_break :=
  df_mk T.f_do_break sc_do_break fun f cdv A outer s H E e c => by
    have c0 := c.fe
    exact (b_one (s_expr (e_mt sh_break_in_0 h_House_break_in (.head _) c0 (e_var 0) (a_cons (e_ix (e_var 1) e_int) (a_cons (e_ix (e_var 1) e_int) (a_cons (e_ix (e_var 1) e_int) (a_one (e_ix (e_var 1) e_int))))) k_nil)))
theorem sc_House_now : FnScope House_now_N ["self"] (defScope s_House_now) := ⟨rfl, rfl, rfl, by decide +kernel, rfl, by decide +kernel, by decide +kernel⟩
theorem d_House_now (T : Txt K mg cm hC cc_law) (hcl : Hcl P w K mg base ⟨hC, TT⟩)  : Mt P w K mg base ⟨hC, TT⟩ cm "now" 1 House_now sh_now :=
  mt_mk T.cl T.f_House_now sc_House_now fun f cdv A outer s H E e c => by
    have c0 := c.fe
    exact (b_one (s_ret (e_divmod T.b_divmod (a_cons (e_fld hcl (e_var 0)) (a_one (e_glob T.c_HOURS))))))
theorem sc_House_tick : FnScope House_tick_N ["self", "elapsed"] (defScope s_House_tick) := ⟨rfl, rfl, rfl, by decide +kernel, rfl, by decide +kernel, by decide +kernel⟩
theorem d_House_tick (T : Txt K mg cm hC cc_law) (hcl : Hcl P w K mg base ⟨hC, TT⟩) (h_is_number : Df P w K mg base ⟨hC, TT⟩ cm "is_number" 1 is_number) (h_House_now : Mt P w K mg base ⟨hC, TT⟩ cm "now" 1 House_now sh_now) : Mt P w K mg base ⟨hC, TT⟩ cm "tick" 2 House_tick sh_tick :=
  mt_mk T.cl T.f_House_tick sc_House_tick fun f cdv A outer s H E e c => by
    have c0 := c.fe
    exact (b_cons (s_if (t_not (t_val (e_call h_is_number c0 (a_cons (e_var 1) (a_cons e_int (a_one (e_glob T.c_HOURS))))))) (b_one (s_raise c0 T.er T.r_NoMore)) b_nil)
    (b_cons (s_if (t_ge (e_add (e_fld hcl (e_var 0)) (e_var 1)) (e_mul (e_glob T.c_DAYS) (e_glob T.c_HOURS))) (b_one (s_raise c0 T.er T.r_NoDay)) b_nil)
    (b_cons (s_fst hcl (e_var 0) (e_add (e_fld hcl (e_var 0)) (e_var 1)))
    (b_cons (s_fapp hcl (e_var 0) (e_tup (a_cons e_str (a_one (e_var 1)))))
    (b_one (s_ret (e_mt0 sh_now_0 h_House_now (.head _) c0 (e_var 0) k_nil)))))))
theorem sc_do_tick : FnScope do_tick_N ["house", "deed"] (defScope s_do_tick) := ⟨rfl, rfl, rfl, by decide +kernel, rfl, by decide +kernel, by decide +kernel⟩
theorem d_do_tick (T : Txt K mg cm hC cc_law) (h_House_tick : Mt P w K mg base ⟨hC, TT⟩ cm "tick" 2 House_tick sh_tick) : Df P w K mg base ⟨hC, TT⟩ cm "do_tick" 3 do_tick :=
  df_mk T.f_do_tick sc_do_tick fun f cdv A outer s H E e c => by
    have c0 := c.fe
    exact (b_one (s_expr (e_mt sh_tick_0 h_House_tick (.head _) c0 (e_var 0) (a_one (e_ix (e_var 1) e_int)) k_nil)))
theorem sc_replayed : FnScope replayed_N ["deeds"] (defScope s_replayed) := ⟨rfl, rfl, rfl, by decide +kernel, rfl, by decide +kernel, by decide +kernel⟩
theorem d_replayed (T : Txt K mg cm hC cc_law) (hcl : Hcl P w K mg base ⟨hC, TT⟩) (h_is_deed : Df P w K mg base ⟨hC, TT⟩ cm "is_deed" 1 is_deed) (h_do_open : Df P w K mg base ⟨hC, TT⟩ cm "do_open" 4 do_open) (h_do_show : Df P w K mg base ⟨hC, TT⟩ cm "do_show" 4 do_show) (h_do_week : Df P w K mg base ⟨hC, TT⟩ cm "do_week" 5 do_week) (h_do_clear : Df P w K mg base ⟨hC, TT⟩ cm "do_clear" 5 do_clear) (h_do_put : Df P w K mg base ⟨hC, TT⟩ cm "do_put" 7 do_put) (h_do_drop : Df P w K mg base ⟨hC, TT⟩ cm "do_drop" 8 do_drop) (h_do_over : Df P w K mg base ⟨hC, TT⟩ cm "do_over" 8 do_over) (h_do_break : Df P w K mg base ⟨hC, TT⟩ cm "do_break" 6 do_break) (h_do_tick : Df P w K mg base ⟨hC, TT⟩ cm "do_tick" 3 do_tick) (w_DOERS : WdF P w K mg base ⟨hC, TT⟩ cm "DOERS" 8 wd_DOERS) : Df2 P w K mg base ⟨hC, TT⟩ cm "replayed" 9 replayed :=
  df_mk2 T.f_replayed sc_replayed fun f cdv A outer s H E e c t2 => by
    have c0 := c.fe
    exact (b_cons (s_if (t_w (w_or (t_not (t_val (e_isiT "list" T.b_isinstance T.b_list (by decide +kernel) (e_var 0)))) (w_or1 (t_not (t_val (e_all c0 T.b_all (a_one (e_lc (own := [("deed", 3)]) (t := (.nm 3)) c0 (i_seq (e_var 0)) (by show blkC replayed_N (defScope s_replayed) _ _ = true; decide +kernel) (by exact fun s H C cl fp => (g_nm 3 c0.nd)) (by exact fun s H C cl fp => pts_no) (by exact fun s H C cl fp => (e_call h_is_deed (c0.blk s H _ _ fp) (a_one (e_var 3)))))))))))) (b_one (s_raise c0 T.er T.r_NoDeeds)) b_nil)
    (b_cons (s_setF 1 c0 (e_new hcl c0))
    (b_cons (s_tryF 2 c t2 T.er T.r_NoDeeds (by intro W pn xe c; have c0 := c.fe; exact (b_one (s_for (.nm 3) c (i_seq (e_var 0)) (g_nm 3 c0.nd) (b_do 4 w_DOERS c0 (e_ix (e_var 3) e_int) (a_cons (e_var 1) (a_one (e_var 3))))))))
    (b_one (s_retV 1)))))
theorem sc_law : FnScope law_N ["script"] (defScope s_law) := ⟨rfl, rfl, rfl, by decide +kernel, rfl, by decide +kernel, by decide +kernel⟩
theorem d_law (T : Txt K mg cm hC cc_law) (tld : Tld P w K mg base ⟨hC, TT⟩ cm) (mk_ : Mkt base mg ⟨hC, TT⟩ "law" cc_law) (h_law_names : Df P w K mg base ⟨hC, TT⟩ cm "_law_names" 2 law_names) (h_law_pick : Df P w K mg base ⟨hC, TT⟩ cm "_law_pick" 1 law_pick) (h_House_deeds : Mt P w K mg base ⟨hC, TT⟩ cm "deeds" 1 House_deeds sh_deeds) (h_replayed : Df2 P w K mg base ⟨hC, TT⟩ cm "replayed" 9 replayed) {f : Addr} {fd : FuncData} (F : FunL K "law" "law" s_law f fd cc_law) : FnOk P w K mg base (L2.CX P w) 12 f fd ["script"] (spD ⟨K, ⟨hC, TT⟩, cm⟩ law) :=
  fn_mkL F sc_law mk_ fun f A outer s H E e c mk t2 => by
    have c0 := c.fe
    exact (b_cons (s_setU [5, 6, 7] c0 (e_call h_law_names c0 (a_cons (e_var 0) (a_cons e_int (a_one e_int)))) (gs_cons 5 c0.nd (gs_cons 6 c0.nd (gs_cons 7 c0.nd gs_nil))))
    (b_cons (s_setF 1 c0 (e_add e_int (e_call h_law_pick c0 (a_cons (e_var 0) (a_cons e_int (a_one e_int))))))
    (b_cons (s_set 2 c0 (e_lst (a_cons (e_tup (a_cons e_str (a_cons (e_var 5) (a_cons e_non (a_cons e_int (a_cons e_int (a_one e_str))))))) (a_one (e_tup (a_cons e_str (a_cons (e_var 6) (a_cons e_str (a_cons e_int (a_cons e_bl (a_one e_int)))))))))))
    (b_cons (s_app 2 (e_tup (a_cons e_str (a_cons (e_var 7) (a_cons e_str (a_cons e_int (a_cons e_bl (a_one e_int))))))))
    (b_cons (s_ext 2 (e_lst (a_cons (e_tup (a_cons e_str (a_cons (e_var 5) (a_cons e_int (a_cons (e_var 1) (a_one (e_var 6))))))) (a_cons (e_tup (a_cons e_str (a_cons (e_var 5) (a_cons e_int (a_cons (e_var 1) (a_cons (e_var 7) (a_one e_int))))))) (a_one (e_tup (a_cons e_str (a_cons (e_var 5) (a_cons e_int (a_cons (e_var 1) (a_cons (e_add (e_var 1) e_int) (a_one e_int))))))))))))
    (b_cons (s_ext 2 (e_lst (a_cons (e_tup (a_cons e_str (a_cons (e_var 5) (a_cons e_int (a_cons e_int (a_one e_int)))))) (a_cons (e_tup (a_cons e_str (a_cons (e_var 5) (a_cons e_int (a_cons (e_var 1) (a_one e_int)))))) (a_cons (e_tup (a_cons e_str (a_one e_int))) (a_one (e_tup (a_cons e_str (a_cons (e_var 5) (a_cons e_int (a_one (e_var 1))))))))))))
    (b_cons (s_frz 2 (s_if (t_w (w_or (t_ne c0 (e_mt0 sh_deeds_0 h_House_deeds (.head _) c0 (e_call2 h_replayed c0 t2 (a_one (e_var 2))) k_nil) (e_var 2)) (w_or1 (t_ne c0 (e_mt0 sh_deeds_0 h_House_deeds (.head _) c0 (e_call2 h_replayed c0 t2 (a_one (e_lst a_nil))) k_nil) (e_lst a_nil))))) (b_one (s_ret e_bl)) b_nil))
    (b_cons (s_for (.nm 3) c (i_seq (e_lst (a_cons e_non (a_cons e_bl (a_cons e_str (a_cons e_str (a_cons e_int (a_cons (e_tup a_nil) (a_cons (e_ctup T.b_tuple (a_one (e_var 2))) (a_one (e_ix (e_var 2) e_int))))))))))) (g_nm 3 c0.nd) (b_one (s_if (t_ne c0 (e_told tld mk c0 (by show LamX.lamSB (defScope s_law) _ = true; decide +kernel) (by exact fun A outer s H E f c' cl t2 => (e_call2 h_replayed cl t2 (a_one (e_var 3))))) (e_tup (a_cons e_str (a_one e_str)))) (b_one (s_ret e_bl)) b_nil)))
    (b_cons (s_for (.tp [8, 9]) c (i_enum T.b_enumerate (e_var 2)) (g_tp c0.calm (gs_cons 8 c0.nd (gs_cons 9 c0.nd gs_nil))) (b_cons (s_set 10 c0 (e_lst (a_cons e_non (a_cons (e_add (e_var 9) (e_tup (a_one e_int))) (a_cons (e_sl (e_var 9) o_no (o_some (e_neg e_int))) (a_cons (e_clist T.b_list (a_one (e_var 9))) (a_cons (e_tup a_nil) (a_one (e_add (e_tup (a_one e_str)) (e_sl (e_var 9) (o_some e_int) o_no))))))))))
    (b_cons (s_ext 10 (e_lst (a_cons (e_add (e_tup (a_one e_non)) (e_sl (e_var 9) (o_some e_int) o_no)) (a_one (e_add (e_tup (a_one (e_lst (a_one e_int)))) (e_sl (e_var 9) (o_some e_int) o_no))))))
    (b_cons (s_for (.nm 11) c (i_seq (e_lst (a_one (e_add e_int (e_call h_law_pick c0 (a_cons (e_var 0) (a_cons (e_add e_int (e_var 8)) (a_one (e_sub (e_len T.b_len (a_one (e_var 9))) e_int))))))))) (g_nm 11 c0.nd) (b_one (s_ext 10 (e_lc (own := [("some", 4)]) (t := (.nm 4)) c0 (i_seq (e_lst (a_cons e_str (a_cons (e_lst (a_one e_int)) (a_cons (e_neg e_int) (a_cons e_int (a_one e_str))))))) (by show blkC law_N (defScope s_law) _ _ = true; decide +kernel) (by exact fun s H C cl fp => (g_nm 4 c0.nd)) (by exact fun s H C cl fp => pts_no) (by exact fun s H C cl fp => (e_add (e_add (e_sl (e_var 9) o_no (o_some (e_var 11))) (e_tup (a_one (e_var 4)))) (e_sl (e_var 9) (o_some (e_add (e_var 11) e_int)) o_no)))))))
    (b_cons (s_if (t_w (w_and (t_nin c0 (e_ix (e_var 9) e_int) (e_lst (a_cons e_str (a_one e_str)))) (w_and1 (t_gt (e_var 8) e_int)))) (b_one (s_app 10 (e_add (e_add (e_sl (e_var 9) o_no (o_some e_int)) (e_tup (a_one e_str))) (e_sl (e_var 9) (o_some e_int) o_no)))) b_nil)
    (b_one (s_frz 10 (s_for (.nm 12) c (i_seq (e_var 10)) (g_nm 12 c0.nd) (b_cons (s_setF 4 c0 (e_add (e_add (e_sl (e_var 2) o_no (o_some (e_var 8))) (e_lst (a_one (e_var 12)))) (e_sl (e_var 2) (o_some (e_add (e_var 8) e_int)) o_no)))
    (b_one (s_if (t_w (w_or (t_ne c0 (e_told tld mk c0 (by show LamX.lamSB (defScope s_law) _ = true; decide +kernel) (by exact fun A outer s H E f c' cl t2 => (e_call2 h_replayed cl t2 (a_one (e_var 4))))) (e_tup (a_cons e_str (a_one e_str)))) (w_or1 (t_ne c0 (e_sl (e_var 4) (o_some (e_add (e_var 8) e_int)) o_no) (e_sl (e_var 2) (o_some (e_add (e_var 8) e_int)) o_no))))) (b_one (s_ret e_bl)) b_nil)))))))))))
    (b_cons (s_for (.nm 4) c (i_seq (e_tup (a_cons (e_sl (e_var 2) (o_some e_int) o_no) (a_cons (e_add (e_var 2) (e_lst (a_one (e_ix (e_var 2) e_int)))) (a_cons (e_add (e_var 2) (e_lst (a_one (e_ix (e_var 2) e_int)))) (a_cons (e_add (e_sl (e_var 2) o_no (o_some e_int)) (e_sl (e_var 2) (o_some e_int) o_no)) (a_one (e_add (e_var 2) (e_sl (e_var 2) (o_some e_int) (o_some e_int)))))))))) (g_nm 4 c0.nd) (b_one (s_if (t_ne c0 (e_told tld mk c0 (by show LamX.lamSB (defScope s_law) _ = true; decide +kernel) (by exact fun A outer s H E f c' cl t2 => (e_call2 h_replayed cl t2 (a_one (e_var 4))))) (e_tup (a_cons e_str (a_one e_str)))) (b_one (s_ret e_bl)) b_nil)))
    (b_one (s_ret e_bl))))))))))))
end
/-! ### the head: what the top leaves -/
theorem txt {K : PySem.W.Frag} {h : Heap} {mg : Str → Option Value} (X : K.In h) (G : h.Ns mainGlobals mg) (c : DH.SaysQ facts defs K) : Txt K mg (DH.cmK K ["NoName", "NoDay", "NoHour", "NoMore", "NoShow", "NoSort", "NoStation", "NoRule", "Full", "Taken", "NoRights", "Settled", "TooLate", "NoRow", "NotLive", "TooLong", "NewsAhead", "Clash", "NoWish", "NoDeeds", "NoText"]) (He.ga K "House") (DH.cA K "law") := ⟨DH.free_ok X G (c.fact 0),
  DH.free_ok X G (c.fact 1),
  DH.free_ok X G (c.fact 2),
  DH.free_ok X G (c.fact 3),
  DH.free_ok X G (c.fact 4),
  DH.free_ok X G (c.fact 5),
  DH.free_ok X G (c.fact 6),
  DH.free_ok X G (c.fact 7),
  DH.free_ok X G (c.fact 8),
  DH.free_ok X G (c.fact 9),
  DH.free_ok X G (c.fact 10),
  DH.free_ok X G (c.fact 11),
  DH.free_ok X G (c.fact 12),
  DH.free_ok X G (c.fact 13),
  DH.free_ok X G (c.fact 14),
  DH.free_ok X G (c.fact 15),
  DH.int_ok X G (c.fact 16),
  DH.int_ok X G (c.fact 17),
  DH.str_ok X G (c.fact 18),
  DH.int_ok X G (c.fact 19),
  DH.int_ok X G (c.fact 20),
  DH.int_ok X G (c.fact 21),
  DH.int_ok X G (c.fact 22),
  DH.int_ok X G (c.fact 23),
  DH.tup_ok X G (c.fact 24) (fun _ _ => (.cons (.str _) (.cons (.str _) .nil))),
  DH.tup_ok X G (c.fact 25) (fun _ _ => (.cons (.str _) (.cons (.str _) (.cons (.str _) .nil)))),
  DH.int_ok X G (c.fact 26),
  DH.ers_ok X G (c.fact 27) (c.fact 28) (c.fact 29),
  fun c h => DH.cmK_names h,
  DH.mcl_ok X G (c.fact 29) (by decide),
  DH.mcl_ok X G (c.fact 29) (by decide),
  DH.mcl_ok X G (c.fact 29) (by decide),
  DH.mcl_ok X G (c.fact 29) (by decide),
  DH.mcl_ok X G (c.fact 29) (by decide),
  DH.mcl_ok X G (c.fact 29) (by decide),
  DH.mcl_ok X G (c.fact 29) (by decide),
  DH.mcl_ok X G (c.fact 29) (by decide),
  DH.mcl_ok X G (c.fact 29) (by decide),
  DH.mcl_ok X G (c.fact 29) (by decide),
  DH.mcl_ok X G (c.fact 29) (by decide),
  DH.mcl_ok X G (c.fact 29) (by decide),
  DH.mcl_ok X G (c.fact 29) (by decide),
  DH.mcl_ok X G (c.fact 29) (by decide),
  DH.mcl_ok X G (c.fact 29) (by decide),
  DH.mcl_ok X G (c.fact 29) (by decide),
  DH.mcl_ok X G (c.fact 29) (by decide),
  DH.mcl_ok X G (c.fact 29) (by decide),
  DH.mcl_ok X G (c.fact 29) (by decide),
  DH.mcl_ok X G (c.fact 29) (by decide),
  DH.mcl_ok X G (c.fact 29) (by decide),
  DH.rcl_ok X G (c.fact 29) (c.fact 30) (by decide),
  DH.rcl_ok X G (c.fact 29) (c.fact 31) (by decide),
  DH.rcl_ok X G (c.fact 29) (c.fact 32) (by decide),
  DH.rcl_ok X G (c.fact 29) (c.fact 33) (by decide),
  DH.rcl_ok X G (c.fact 29) (c.fact 34) (by decide),
  DH.rcl_ok X G (c.fact 29) (c.fact 35) (by decide),
  DH.rcl_ok X G (c.fact 29) (c.fact 36) (by decide),
  DH.rcl_ok X G (c.fact 29) (c.fact 37) (by decide),
  DH.rcl_ok X G (c.fact 29) (c.fact 38) (by decide),
  DH.rcl_ok X G (c.fact 29) (c.fact 39) (by decide),
  DH.rcl_ok X G (c.fact 29) (c.fact 40) (by decide),
  DH.rcl_ok X G (c.fact 29) (c.fact 41) (by decide),
  DH.rcl_ok X G (c.fact 29) (c.fact 42) (by decide),
  DH.oclT_ok X G (c.fact 27) (c.fact 43) (c.fact 29) (c.fact 44) (by decide) (c.def_ 0) (List.forall_mem_cons.mpr ⟨⟨rfl, fun _ _ _ _ _ _ us zs l1 l2 => match us, zs, l1, l2 with | [_], [_, _], _, _ => rfl⟩, (List.forall_mem_nil _)⟩),
  DH.oclT_ok X G (c.fact 27) (c.fact 43) (c.fact 29) (c.fact 45) (by decide) (c.def_ 1) (List.forall_mem_cons.mpr ⟨⟨rfl, fun _ _ _ _ _ _ us zs l1 l2 => match us, zs, l1, l2 with | [_, _], [_], _, _ => rfl⟩, (List.forall_mem_nil _)⟩),
  DH.oclT_ok X G (c.fact 27) (c.fact 43) (c.fact 29) (c.fact 46) (by decide) (c.def_ 2) (List.forall_mem_cons.mpr ⟨⟨rfl, fun _ _ _ _ _ _ us zs l1 l2 => match us, zs, l1, l2 with | [_, _], [], _, _ => rfl⟩, (List.forall_mem_nil _)⟩),
  DH.oclT_ok X G (c.fact 27) (c.fact 43) (c.fact 29) (c.fact 47) (by decide) (c.def_ 3) (List.forall_mem_cons.mpr ⟨⟨rfl, fun _ _ _ _ _ _ us zs l1 l2 => match us, zs, l1, l2 with | [_, _], [], _, _ => rfl⟩, (List.forall_mem_nil _)⟩),
  DH.oclT_ok X G (c.fact 27) (c.fact 43) (c.fact 29) (c.fact 48) (by decide) (c.def_ 4) (List.forall_mem_cons.mpr ⟨⟨rfl, fun _ _ _ _ _ _ us zs l1 l2 => match us, zs, l1, l2 with | [_, _], [], _, _ => rfl⟩, (List.forall_mem_nil _)⟩),
  (by obtain ⟨fd, F⟩ : ∃ fd, FunD K "_law_told" "_law_told" (defArgs s_law_told) (defBody s_law_told) (defScope s_law_told) [] [] _ fd := (c.def_ 5); have F := DH.fun_of F; obtain ⟨oc, od, kV, doc, pm, an, cdv, ct, osl, rfl, lk, hcd⟩ := F.ex; exact ⟨_, oc, od, _, _, kV, doc, pm, cdv, ct, an, osl, _, _, _, _, _, _, _, _, _, _, _, _, _, _, DH.glo_ok X G (c.fact 111), F.kp, lk, hcd, Binds.all fun us hl => (match us, hl with | [_], _ => rfl), ⟨rfl, rfl, rfl, by decide +kernel, rfl, by decide +kernel, by decide +kernel⟩, rfl, rfl, rfl, rfl⟩),
  He.cls_ok (c.fact 49),
  (List.forall_mem_cons.mpr ⟨(He.noat_ok (c.fact 50)), (List.forall_mem_cons.mpr ⟨(He.noat_ok (c.fact 51)), (List.forall_mem_cons.mpr ⟨(He.noat_ok (c.fact 52)), (List.forall_mem_cons.mpr ⟨(He.noat_ok (c.fact 53)), (List.forall_mem_cons.mpr ⟨(He.noat_ok (c.fact 54)), (List.forall_mem_cons.mpr ⟨(He.noat_ok (c.fact 55)), (List.forall_mem_cons.mpr ⟨(He.noat_ok (c.fact 56)), (List.forall_mem_cons.mpr ⟨(He.noat_ok (c.fact 57)), (List.forall_mem_nil _)⟩)⟩)⟩)⟩)⟩)⟩)⟩)⟩),
  DH.glo_ok X G (c.fact 58),
  (by obtain ⟨fd, F⟩ : ∃ fd, FunD K "__init__" "House.__init__" (defArgs s_init) (defBody s_init) (defScope s_init) [] [] _ fd := (c.def_ 6); exact ⟨_, fd, He.mkr_ok (c.fact 59), DH.fun_of F, F.bindsN fun _ _ _ _ _ _ us hl => match us, hl with | [_], _ => rfl⟩),
  DH.fnx_of X G (c.fact 60) (c.def_ 7) (fun _ _ _ _ _ _ us hl => match us, hl with | [_], _ => rfl),
  DH.fnx_of X G (c.fact 61) (c.def_ 8) (fun _ _ _ _ _ _ us hl => match us, hl with | [_, _, _], _ => rfl),
  DH.fnx_of X G (c.fact 62) (c.def_ 9) (fun _ _ _ _ _ _ us hl => match us, hl with | [_, _, _], _ => rfl),
  (by obtain ⟨fd, F⟩ : ∃ fd, FunD K "deeds" "House.deeds" (defArgs s_House_deeds) (defBody s_House_deeds) (defScope s_House_deeds) [] [] _ fd := (c.def_ 10); exact ⟨_, fd, DH.funG_of F, He.meth_ok (c.fact 63), (List.forall_mem_cons.mpr ⟨(DH.shp0 F sh_deeds_0 rfl fun _ _ _ _ _ _ us zs l1 l2 => match us, zs, l1, l2 with | [_], [], _, _ => rfl), (List.forall_mem_nil _)⟩)⟩),
  DH.fnx_of X G (c.fact 64) (c.def_ 11) (fun _ _ _ _ _ _ us hl => match us, hl with | [_], _ => rfl),
  DH.fnx_of X G (c.fact 65) (c.def_ 12) (fun _ _ _ _ _ _ us hl => match us, hl with | [_], _ => rfl),
  (by obtain ⟨fd, F⟩ : ∃ fd, FunD K "look_station" "House.look_station" (defArgs s_House_look_station) (defBody s_House_look_station) (defScope s_House_look_station) [] [] _ fd := (c.def_ 13); exact ⟨_, fd, DH.funG_of F, He.meth_ok (c.fact 66), (List.forall_mem_cons.mpr ⟨(DH.shp0 F sh_look_station_0 rfl fun _ _ _ _ _ _ us zs l1 l2 => match us, zs, l1, l2 with | [_, _], [], _, _ => rfl), (List.forall_mem_nil _)⟩)⟩),
  DH.fnx_of X G (c.fact 67) (c.def_ 14) (fun _ _ _ _ _ _ us hl => match us, hl with | [_, _, _], _ => rfl),
  DH.fnx_of X G (c.fact 68) (c.def_ 15) (fun _ _ _ _ _ _ us hl => match us, hl with | [_, _, _, _], _ => rfl),
  (by obtain ⟨fd, F⟩ : ∃ fd, FunD K "open_station" "House.open_station" (defArgs s_House_open_station) (defBody s_House_open_station) (defScope s_House_open_station) [.non, .int 0, .int 24, .str "join"] [] _ fd := (c.def_ 16); exact ⟨_, fd, DH.funG_of F, He.meth_ok (c.fact 69), (List.forall_mem_cons.mpr ⟨(DH.shpD F (List.cons_ne_nil _ _) sh_open_station_0 (fun _ _ => (.cons .non (.cons (.int _) (.cons (.int _) (.cons (.str _) .nil))))) fun _ _ _ _ _ _ _ us zs its l1 l2 l3 => match us, zs, its, l1, l2, l3 with | [_, _], [_, _, _, _], [_, _, _, _], _, _, _ => ⟨_, rfl, rfl⟩), (List.forall_mem_nil _)⟩)⟩),
  DH.fnx_of X G (c.fact 70) (c.def_ 17) (fun _ _ _ _ _ _ us hl => match us, hl with | [_, _], _ => rfl),
  DH.fnx_of X G (c.fact 71) (c.def_ 18) (fun _ _ _ _ _ _ us hl => match us, hl with | [_], _ => rfl),
  DH.fnx_of X G (c.fact 72) (c.def_ 19) (fun _ _ _ _ _ _ us hl => match us, hl with | [_], _ => rfl),
  (by obtain ⟨fd, F⟩ : ∃ fd, FunD K "add_show" "House.add_show" (defArgs s_House_add_show) (defBody s_House_add_show) (defScope s_House_add_show) [] [] _ fd := (c.def_ 20); exact ⟨_, fd, DH.funG_of F, He.meth_ok (c.fact 73), (List.forall_mem_cons.mpr ⟨(DH.shp0 F sh_add_show_0 rfl fun _ _ _ _ _ _ us zs l1 l2 => match us, zs, l1, l2 with | [_, _], [], _, _ => rfl), (List.forall_mem_nil _)⟩)⟩),
  DH.fnx_of X G (c.fact 74) (c.def_ 21) (fun _ _ _ _ _ _ us hl => match us, hl with | [_, _], _ => rfl),
  (by obtain ⟨fd, F⟩ : ∃ fd, FunD K "station" "House.station" (defArgs s_House_station) (defBody s_House_station) (defScope s_House_station) [] [] _ fd := (c.def_ 22); exact ⟨_, fd, DH.funG_of F, He.meth_ok (c.fact 75), (List.forall_mem_cons.mpr ⟨(DH.shp0 F sh_station_0 rfl fun _ _ _ _ _ _ us zs l1 l2 => match us, zs, l1, l2 with | [_, _], [], _, _ => rfl), (List.forall_mem_nil _)⟩)⟩),
  (by obtain ⟨fd, F⟩ : ∃ fd, FunD K "show" "House.show" (defArgs s_House_show) (defBody s_House_show) (defScope s_House_show) [] [] _ fd := (c.def_ 23); exact ⟨_, fd, DH.funG_of F, He.meth_ok (c.fact 76), (List.forall_mem_cons.mpr ⟨(DH.shp0 F sh_show_0 rfl fun _ _ _ _ _ _ us zs l1 l2 => match us, zs, l1, l2 with | [_, _], [], _, _ => rfl), (List.forall_mem_nil _)⟩)⟩),
  DH.fnx_of X G (c.fact 77) (c.def_ 24) (fun _ _ _ _ _ _ us hl => match us, hl with | [_], _ => rfl),
  DH.fnx_of X G (c.fact 78) (c.def_ 25) (fun _ _ _ _ _ _ us hl => match us, hl with | [_], _ => rfl),
  (by obtain ⟨fd, F⟩ : ∃ fd, FunD K "look_since" "House.look_since" (defArgs s_House_look_since) (defBody s_House_look_since) (defScope s_House_look_since) [] [] _ fd := (c.def_ 26); exact ⟨_, fd, DH.funG_of F, He.meth_ok (c.fact 79), (List.forall_mem_cons.mpr ⟨(DH.shp0 F sh_look_since_0 rfl fun _ _ _ _ _ _ us zs l1 l2 => match us, zs, l1, l2 with | [_, _, _, _], [], _, _ => rfl), (List.forall_mem_nil _)⟩)⟩),
  (by obtain ⟨fd, F⟩ : ∃ fd, FunD K "put_week" "House.put_week" (defArgs s_House_put_week) (defBody s_House_put_week) (defScope s_House_put_week) [.int 0] [] _ fd := (c.def_ 27); exact ⟨_, fd, DH.funG_of F, He.meth_ok (c.fact 80), (List.forall_mem_cons.mpr ⟨(DH.shpD F (List.cons_ne_nil _ _) sh_put_week_0 (fun _ _ => (.cons (.int _) .nil)) fun _ _ _ _ _ _ _ us zs its l1 l2 l3 => match us, zs, its, l1, l2, l3 with | [_, _, _, _, _], [_], [_], _, _, _ => ⟨_, rfl, rfl⟩), (List.forall_mem_nil _)⟩)⟩),
  DH.fnx_of X G (c.fact 81) (c.def_ 28) (fun _ _ _ _ _ _ us hl => match us, hl with | [_, _], _ => rfl),
  (by obtain ⟨fd, F⟩ : ∃ fd, FunD K "clear_week" "House.clear_week" (defArgs s_House_clear_week) (defBody s_House_clear_week) (defScope s_House_clear_week) [.int 0, .int 24, .int 0] [] _ fd := (c.def_ 29); exact ⟨_, fd, DH.funG_of F, He.meth_ok (c.fact 82), (List.forall_mem_cons.mpr ⟨(DH.shpD F (List.cons_ne_nil _ _) sh_clear_week_0 (fun _ _ => (.cons (.int _) (.cons (.int _) (.cons (.int _) .nil)))) fun _ _ _ _ _ _ _ us zs its l1 l2 l3 => match us, zs, its, l1, l2, l3 with | [_, _, _, _, _], [_], [_, _, _], _, _, _ => ⟨_, rfl, rfl⟩), (List.forall_mem_nil _)⟩)⟩),
  DH.fnx_of X G (c.fact 83) (c.def_ 30) (fun _ _ _ _ _ _ us hl => match us, hl with | [_, _], _ => rfl),
  DH.fnx_of X G (c.fact 84) (c.def_ 31) (fun _ _ _ _ _ _ us hl => match us, hl with | [_, _, _], _ => rfl),
  DH.fnx_of X G (c.fact 85) (c.def_ 32) (fun _ _ _ _ _ _ us hl => match us, hl with | [_, _, _, _], _ => rfl),
  (by obtain ⟨fd, F⟩ : ∃ fd, FunD K "rows_by_week" "House.rows_by_week" (defArgs s_House_rows_by_week) (defBody s_House_rows_by_week) (defScope s_House_rows_by_week) [] [] _ fd := (c.def_ 33); exact ⟨_, fd, DH.funG_of F, He.meth_ok (c.fact 86), (List.forall_mem_cons.mpr ⟨(DH.shp0 F sh_rows_by_week_0 rfl fun _ _ _ _ _ _ us zs l1 l2 => match us, zs, l1, l2 with | [_, _, _, _], [], _, _ => rfl), (List.forall_mem_nil _)⟩)⟩),
  (by obtain ⟨fd, F⟩ : ∃ fd, FunD K "week_rows" "House.week_rows" (defArgs s_House_week_rows) (defBody s_House_week_rows) (defScope s_House_week_rows) [] [] _ fd := (c.def_ 34); exact ⟨_, fd, DH.funG_of F, He.meth_ok (c.fact 87), (List.forall_mem_cons.mpr ⟨(DH.shp0 F sh_week_rows_0 rfl fun _ _ _ _ _ _ us zs l1 l2 => match us, zs, l1, l2 with | [_, _, _], [], _, _ => rfl), (List.forall_mem_nil _)⟩)⟩),
  (by obtain ⟨fd, F⟩ : ∃ fd, FunD K "own_rows" "House.own_rows" (defArgs s_House_own_rows) (defBody s_House_own_rows) (defScope s_House_own_rows) [] [] _ fd := (c.def_ 35); exact ⟨_, fd, DH.funG_of F, He.meth_ok (c.fact 88), (List.forall_mem_cons.mpr ⟨(DH.shp0 F sh_own_rows_0 rfl fun _ _ _ _ _ _ us zs l1 l2 => match us, zs, l1, l2 with | [_, _, _], [], _, _ => rfl), (List.forall_mem_nil _)⟩)⟩),
  (by obtain ⟨fd, F⟩ : ∃ fd, FunD K "times" "House.times" (defArgs s_House_times) (defBody s_House_times) (defScope s_House_times) [] [] _ fd := (c.def_ 36); exact ⟨_, fd, DH.funG_of F, He.meth_ok (c.fact 89), (List.forall_mem_cons.mpr ⟨(DH.shp0 F sh_times_0 rfl fun _ _ _ _ _ _ us zs l1 l2 => match us, zs, l1, l2 with | [_, _], [], _, _ => rfl), (List.forall_mem_nil _)⟩)⟩),
  (by obtain ⟨fd, F⟩ : ∃ fd, FunD K "put" "House.put" (defArgs s_House_put) (defBody s_House_put) (defScope s_House_put) [] [] _ fd := (c.def_ 37); exact ⟨_, fd, DH.funG_of F, He.meth_ok (c.fact 90), (List.forall_mem_cons.mpr ⟨(DH.shp0 F sh_put_0 rfl fun _ _ _ _ _ _ us zs l1 l2 => match us, zs, l1, l2 with | [_, _, _, _, _], [], _, _ => rfl), (List.forall_mem_nil _)⟩)⟩),
  DH.fnx_of X G (c.fact 91) (c.def_ 38) (fun _ _ _ _ _ _ us hl => match us, hl with | [_, _], _ => rfl),
  DH.fnx_of X G (c.fact 92) (c.def_ 39) (fun _ _ _ _ _ _ us hl => match us, hl with | [_], _ => rfl),
  (by obtain ⟨fd, F⟩ : ∃ fd, FunD K "row_at" "House.row_at" (defArgs s_House_row_at) (defBody s_House_row_at) (defScope s_House_row_at) [] [] _ fd := (c.def_ 40); exact ⟨_, fd, DH.funG_of F, He.meth_ok (c.fact 93), (List.forall_mem_cons.mpr ⟨(DH.shp0 F sh_row_at_0 rfl fun _ _ _ _ _ _ us zs l1 l2 => match us, zs, l1, l2 with | [_, _, _, _], [], _, _ => rfl), (List.forall_mem_nil _)⟩)⟩),
  (by obtain ⟨fd, F⟩ : ∃ fd, FunD K "drop" "House.drop" (defArgs s_House_drop) (defBody s_House_drop) (defScope s_House_drop) [] [] _ fd := (c.def_ 41); exact ⟨_, fd, DH.funG_of F, He.meth_ok (c.fact 94), (List.forall_mem_cons.mpr ⟨(DH.shp0 F sh_drop_0 rfl fun _ _ _ _ _ _ us zs l1 l2 => match us, zs, l1, l2 with | [_, _, _, _], [], _, _ => rfl), (List.forall_mem_nil _)⟩)⟩),
  DH.fnx_of X G (c.fact 95) (c.def_ 42) (fun _ _ _ _ _ _ us hl => match us, hl with | [_, _], _ => rfl),
  DH.fnx_of X G (c.fact 96) (c.def_ 43) (fun _ _ _ _ _ _ us hl => match us, hl with | [_, _, _], _ => rfl),
  DH.fnx_of X G (c.fact 97) (c.def_ 44) (fun _ _ _ _ _ _ us hl => match us, hl with | [_, _, _, _], _ => rfl),
  DH.fnx_of X G (c.fact 98) (c.def_ 45) (fun _ _ _ _ _ _ us hl => match us, hl with | [_, _, _, _, _], _ => rfl),
  (by obtain ⟨fd, F⟩ : ∃ fd, FunD K "overrun" "House.overrun" (defArgs s_House_overrun) (defBody s_House_overrun) (defScope s_House_overrun) [.int 1] [] _ fd := (c.def_ 46); exact ⟨_, fd, DH.funG_of F, He.meth_ok (c.fact 99), (List.forall_mem_cons.mpr ⟨(DH.shpD F (List.cons_ne_nil _ _) sh_overrun_0 (fun _ _ => (.cons (.int _) .nil)) fun _ _ _ _ _ _ _ us zs its l1 l2 l3 => match us, zs, its, l1, l2, l3 with | [_, _, _, _], [_], [_], _, _, _ => ⟨_, rfl, rfl⟩), (List.forall_mem_nil _)⟩)⟩),
  DH.fnx_of X G (c.fact 100) (c.def_ 47) (fun _ _ _ _ _ _ us hl => match us, hl with | [_, _], _ => rfl),
  (by obtain ⟨fd, F⟩ : ∃ fd, FunD K "breaks" "House.breaks" (defArgs s_House_breaks) (defBody s_House_breaks) (defScope s_House_breaks) [] [] _ fd := (c.def_ 48); exact ⟨_, fd, DH.funG_of F, He.meth_ok (c.fact 101), (List.forall_mem_cons.mpr ⟨(DH.shp0 F sh_breaks_0 rfl fun _ _ _ _ _ _ us zs l1 l2 => match us, zs, l1, l2 with | [_, _, _], [], _, _ => rfl), (List.forall_mem_nil _)⟩)⟩),
  DH.fnx_of X G (c.fact 102) (c.def_ 49) (fun _ _ _ _ _ _ us hl => match us, hl with | [_, _], _ => rfl),
  (by obtain ⟨fd, F⟩ : ∃ fd, FunD K "break_in" "House.break_in" (defArgs s_House_break_in) (defBody s_House_break_in) (defScope s_House_break_in) [] [] _ fd := (c.def_ 50); exact ⟨_, fd, DH.funG_of F, He.meth_ok (c.fact 103), (List.forall_mem_cons.mpr ⟨(DH.shp0 F sh_break_in_0 rfl fun _ _ _ _ _ _ us zs l1 l2 => match us, zs, l1, l2 with | [_, _, _, _, _], [], _, _ => rfl), (List.forall_mem_nil _)⟩)⟩),
  DH.fnx_of X G (c.fact 104) (c.def_ 51) (fun _ _ _ _ _ _ us hl => match us, hl with | [_, _], _ => rfl),
  (by obtain ⟨fd, F⟩ : ∃ fd, FunD K "now" "House.now" (defArgs s_House_now) (defBody s_House_now) (defScope s_House_now) [] [] _ fd := (c.def_ 52); exact ⟨_, fd, DH.funG_of F, He.meth_ok (c.fact 105), (List.forall_mem_cons.mpr ⟨(DH.shp0 F sh_now_0 rfl fun _ _ _ _ _ _ us zs l1 l2 => match us, zs, l1, l2 with | [_], [], _, _ => rfl), (List.forall_mem_nil _)⟩)⟩),
  (by obtain ⟨fd, F⟩ : ∃ fd, FunD K "tick" "House.tick" (defArgs s_House_tick) (defBody s_House_tick) (defScope s_House_tick) [.int 1] [] _ fd := (c.def_ 53); exact ⟨_, fd, DH.funG_of F, He.meth_ok (c.fact 106), (List.forall_mem_cons.mpr ⟨(DH.shpD F (List.cons_ne_nil _ _) sh_tick_0 (fun _ _ => (.cons (.int _) .nil)) fun _ _ _ _ _ _ _ us zs its l1 l2 l3 => match us, zs, its, l1, l2, l3 with | [_, _], [], [_], _, _, _ => ⟨_, rfl, rfl⟩), (List.forall_mem_nil _)⟩)⟩),
  DH.fnx_of X G (c.fact 107) (c.def_ 54) (fun _ _ _ _ _ _ us hl => match us, hl with | [_, _], _ => rfl),
  DH.fnx_of X G (c.fact 108) (c.def_ 55) (fun _ _ _ _ _ _ us hl => match us, hl with | [_], _ => rfl),
  DH.fnxL_of X G (c.fact 109) (c.fact 110) (c.def_ 56) (fun _ _ _ _ _ _ us hl => match us, hl with | [_], _ => rfl)⟩
theorem all_mk {P qq : Program} {w : World} {K : PySem.W.Frag} {h : Heap} {mg : Str → Option Value} {fa : Addr} (X : K.In h) (G : h.Ns mainGlobals mg) (hfa : mg "law" = some (.ref fa)) (ct : DH.SaysT facts defs tabs w.params K) (hq : ∀ x ∈ (["law"] : List Str), ((PyProof.Rows.recsOf qq).any fun e => e.name == x) = true)
    : ∃ (fd : FuncData) (cs : List (Addr × Addr)) (T : List (Addr × Str)) (C : Addr) (cm : Cm), (∀ (s : Shared) (u : Value), BindsTo s fd ⟨[u], []⟩ [("script", u)]) ∧
      (∀ p ∈ cs, (∃ x, ((PyProof.Rows.recsOf qq).any fun e => e.name == x) = true ∧ PySem.W.tabIn K x = some p) ∧ K.lookup p.2 = none) ∧ (∀ t ∈ T, ∃ p ∈ cs, p.2 = t.1) ∧
      ∀ base : Heap, K.In base → base.Ns mainGlobals mg → (∀ p ∈ cs, LamX.TabB base mg p.1 p.2) → FnOk P w K mg base (L2.CX P w) 12 fa fd ["script"] (spD ⟨K, ⟨C, T⟩, cm⟩ law) := by
  have c := ct.q
  have T := txt X G c
  have e := hfa.symm.trans (DH.glo_ok X G (c.fact 109))
  cases e
  obtain ⟨fd, F⟩ : ∃ fd, FunD K "law" "law" (defArgs s_law) (defBody s_law) (defScope s_law) [] [] (He.ga K "law") fd := (c.def_ 56)
  refine ⟨fd, [(DH.cA K "law", DH.pA K "law")], [(DH.pA K "law", lamQ "law")], (He.ga K "House"), (DH.cmK K ["NoName", "NoDay", "NoHour", "NoMore", "NoShow", "NoSort", "NoStation", "NoRule", "Full", "Taken", "NoRights", "Settled", "TooLate", "NoRow", "NotLive", "TooLong", "NewsAhead", "Clash", "NoWish", "NoDeeds", "NoText"]), fun s v => (F.bindsA (ps := ["script"]) (fun _ _ _ _ _ _ us hl => match us, hl with | [_], _ => rfl)) s [v] rfl, ?_, ?_, fun base _ _ TB => ?_⟩
  · exact (List.forall_mem_cons.mpr ⟨⟨⟨"law", hq _ (.head _), (DH.mk_ok (c.fact 110)).1⟩, (DH.mk_ok (c.fact 110)).2.1⟩, (List.forall_mem_nil _)⟩)
  · exact (List.forall_mem_cons.mpr ⟨⟨_, (.head _), rfl⟩, (List.forall_mem_nil _)⟩)
  have hcl : Hcl P w K mg base ⟨(He.ga K "House"), [(DH.pA K "law", lamQ "law")]⟩ := d_init T
  have tld : Tld P w K mg base ⟨(He.ga K "House"), [(DH.pA K "law", lamQ "law")]⟩ (DH.cmK K ["NoName", "NoDay", "NoHour", "NoMore", "NoShow", "NoSort", "NoStation", "NoRule", "Full", "Taken", "NoRights", "Settled", "TooLate", "NoRow", "NotLive", "TooLong", "NewsAhead", "Clash", "NoWish", "NoDeeds", "NoText"]) := ⟨T.er, d_law_class T, T.told⟩
  have M_law : Mkt base mg ⟨(He.ga K "House"), [(DH.pA K "law", lamQ "law")]⟩ "law" (DH.cA K "law") := ⟨DH.pA K "law", TB _ (.head _), (.head _), by intro p hp hq; rw [List.mem_singleton] at hp; rw [hp]⟩
  have o_Clash : Ocl P w K mg base (DH.cmK K ["NoName", "NoDay", "NoHour", "NoMore", "NoShow", "NoSort", "NoStation", "NoRule", "Full", "Taken", "NoRights", "Settled", "TooLate", "NoRow", "NotLive", "TooLong", "NewsAhead", "Clash", "NoWish", "NoDeeds", "NoText"]) "Clash" ["begin", "end"] osh_Clash := d_o_Clash T
  have o_NewsAhead : Ocl P w K mg base (DH.cmK K ["NoName", "NoDay", "NoHour", "NoMore", "NoShow", "NoSort", "NoStation", "NoRule", "Full", "Taken", "NoRights", "Settled", "TooLate", "NoRow", "NotLive", "TooLong", "NewsAhead", "Clash", "NoWish", "NoDeeds", "NoText"]) "NewsAhead" ["hour", "name"] osh_NewsAhead := d_o_NewsAhead T
  have o_NoRights : Ocl P w K mg base (DH.cmK K ["NoName", "NoDay", "NoHour", "NoMore", "NoShow", "NoSort", "NoStation", "NoRule", "Full", "Taken", "NoRights", "Settled", "TooLate", "NoRow", "NotLive", "TooLong", "NewsAhead", "Clash", "NoWish", "NoDeeds", "NoText"]) "NoRights" ["most"] osh_NoRights := d_o_NoRights T
  have o_NoRow : Ocl P w K mg base (DH.cmK K ["NoName", "NoDay", "NoHour", "NoMore", "NoShow", "NoSort", "NoStation", "NoRule", "Full", "Taken", "NoRights", "Settled", "TooLate", "NoRow", "NotLive", "TooLong", "NewsAhead", "Clash", "NoWish", "NoDeeds", "NoText"]) "NoRow" ["hour"] osh_NoRow := d_o_NoRow T
  have o_TooLong : Ocl P w K mg base (DH.cmK K ["NoName", "NoDay", "NoHour", "NoMore", "NoShow", "NoSort", "NoStation", "NoRule", "Full", "Taken", "NoRights", "Settled", "TooLate", "NoRow", "NotLive", "TooLong", "NewsAhead", "Clash", "NoWish", "NoDeeds", "NoText"]) "TooLong" ["last"] osh_TooLong := d_o_TooLong T
  have h_law_pick : Df P w K mg base ⟨(He.ga K "House"), [(DH.pA K "law", lamQ "law")]⟩ (DH.cmK K ["NoName", "NoDay", "NoHour", "NoMore", "NoShow", "NoSort", "NoStation", "NoRule", "Full", "Taken", "NoRights", "Settled", "TooLate", "NoRow", "NotLive", "TooLong", "NewsAhead", "Clash", "NoWish", "NoDeeds", "NoText"]) "_law_pick" 1 law_pick := d_law_pick T 
  have h_law_names : Df P w K mg base ⟨(He.ga K "House"), [(DH.pA K "law", lamQ "law")]⟩ (DH.cmK K ["NoName", "NoDay", "NoHour", "NoMore", "NoShow", "NoSort", "NoStation", "NoRule", "Full", "Taken", "NoRights", "Settled", "TooLate", "NoRow", "NotLive", "TooLong", "NewsAhead", "Clash", "NoWish", "NoDeeds", "NoText"]) "_law_names" 2 law_names := d_law_names T h_law_pick
  have h_House_deeds : Mt P w K mg base ⟨(He.ga K "House"), [(DH.pA K "law", lamQ "law")]⟩ (DH.cmK K ["NoName", "NoDay", "NoHour", "NoMore", "NoShow", "NoSort", "NoStation", "NoRule", "Full", "Taken", "NoRights", "Settled", "TooLate", "NoRow", "NotLive", "TooLong", "NewsAhead", "Clash", "NoWish", "NoDeeds", "NoText"]) "deeds" 1 House_deeds sh_deeds := d_House_deeds T hcl 
  have w_LENGTHS : WdI K w mg "LENGTHS" wd_LENGTHS := DH.wdI_ok X G (c.fact 114) (ct.tab 1) (c.fact 115)
  have h_is_deed : Df P w K mg base ⟨(He.ga K "House"), [(DH.pA K "law", lamQ "law")]⟩ (DH.cmK K ["NoName", "NoDay", "NoHour", "NoMore", "NoShow", "NoSort", "NoStation", "NoRule", "Full", "Taken", "NoRights", "Settled", "TooLate", "NoRow", "NotLive", "TooLong", "NewsAhead", "Clash", "NoWish", "NoDeeds", "NoText"]) "is_deed" 1 is_deed := d_is_deed T w_LENGTHS
  have h_is_name : Df P w K mg base ⟨(He.ga K "House"), [(DH.pA K "law", lamQ "law")]⟩ (DH.cmK K ["NoName", "NoDay", "NoHour", "NoMore", "NoShow", "NoSort", "NoStation", "NoRule", "Full", "Taken", "NoRights", "Settled", "TooLate", "NoRow", "NotLive", "TooLong", "NewsAhead", "Clash", "NoWish", "NoDeeds", "NoText"]) "is_name" 1 is_name := d_is_name T 
  have h_House_look_station : Mt P w K mg base ⟨(He.ga K "House"), [(DH.pA K "law", lamQ "law")]⟩ (DH.cmK K ["NoName", "NoDay", "NoHour", "NoMore", "NoShow", "NoSort", "NoStation", "NoRule", "Full", "Taken", "NoRights", "Settled", "TooLate", "NoRow", "NotLive", "TooLong", "NewsAhead", "Clash", "NoWish", "NoDeeds", "NoText"]) "look_station" 2 House_look_station sh_look_station := d_House_look_station T hcl h_is_name
  have h_is_number : Df P w K mg base ⟨(He.ga K "House"), [(DH.pA K "law", lamQ "law")]⟩ (DH.cmK K ["NoName", "NoDay", "NoHour", "NoMore", "NoShow", "NoSort", "NoStation", "NoRule", "Full", "Taken", "NoRights", "Settled", "TooLate", "NoRow", "NotLive", "TooLong", "NewsAhead", "Clash", "NoWish", "NoDeeds", "NoText"]) "is_number" 1 is_number := d_is_number T 
  have h_look_span : Df P w K mg base ⟨(He.ga K "House"), [(DH.pA K "law", lamQ "law")]⟩ (DH.cmK K ["NoName", "NoDay", "NoHour", "NoMore", "NoShow", "NoSort", "NoStation", "NoRule", "Full", "Taken", "NoRights", "Settled", "TooLate", "NoRow", "NotLive", "TooLong", "NewsAhead", "Clash", "NoWish", "NoDeeds", "NoText"]) "look_span" 2 look_span := d_look_span T h_is_number
  have h_House_open_station : Mt P w K mg base ⟨(He.ga K "House"), [(DH.pA K "law", lamQ "law")]⟩ (DH.cmK K ["NoName", "NoDay", "NoHour", "NoMore", "NoShow", "NoSort", "NoStation", "NoRule", "Full", "Taken", "NoRights", "Settled", "TooLate", "NoRow", "NotLive", "TooLong", "NewsAhead", "Clash", "NoWish", "NoDeeds", "NoText"]) "open_station" 3 House_open_station sh_open_station := d_House_open_station T hcl h_is_name h_House_look_station h_look_span
  have h_do_open : Df P w K mg base ⟨(He.ga K "House"), [(DH.pA K "law", lamQ "law")]⟩ (DH.cmK K ["NoName", "NoDay", "NoHour", "NoMore", "NoShow", "NoSort", "NoStation", "NoRule", "Full", "Taken", "NoRights", "Settled", "TooLate", "NoRow", "NotLive", "TooLong", "NewsAhead", "Clash", "NoWish", "NoDeeds", "NoText"]) "do_open" 4 do_open := d_do_open T h_House_open_station
  have h_is_sort : Df P w K mg base ⟨(He.ga K "House"), [(DH.pA K "law", lamQ "law")]⟩ (DH.cmK K ["NoName", "NoDay", "NoHour", "NoMore", "NoShow", "NoSort", "NoStation", "NoRule", "Full", "Taken", "NoRights", "Settled", "TooLate", "NoRow", "NotLive", "TooLong", "NewsAhead", "Clash", "NoWish", "NoDeeds", "NoText"]) "is_sort" 1 is_sort := d_is_sort T 
  have h_is_show : Df P w K mg base ⟨(He.ga K "House"), [(DH.pA K "law", lamQ "law")]⟩ (DH.cmK K ["NoName", "NoDay", "NoHour", "NoMore", "NoShow", "NoSort", "NoStation", "NoRule", "Full", "Taken", "NoRights", "Settled", "TooLate", "NoRow", "NotLive", "TooLong", "NewsAhead", "Clash", "NoWish", "NoDeeds", "NoText"]) "is_show" 2 is_show := d_is_show T h_is_name h_is_sort h_is_number
  have h_House_add_show : Mt P w K mg base ⟨(He.ga K "House"), [(DH.pA K "law", lamQ "law")]⟩ (DH.cmK K ["NoName", "NoDay", "NoHour", "NoMore", "NoShow", "NoSort", "NoStation", "NoRule", "Full", "Taken", "NoRights", "Settled", "TooLate", "NoRow", "NotLive", "TooLong", "NewsAhead", "Clash", "NoWish", "NoDeeds", "NoText"]) "add_show" 3 House_add_show sh_add_show := d_House_add_show T hcl h_is_show
  have h_do_show : Df P w K mg base ⟨(He.ga K "House"), [(DH.pA K "law", lamQ "law")]⟩ (DH.cmK K ["NoName", "NoDay", "NoHour", "NoMore", "NoShow", "NoSort", "NoStation", "NoRule", "Full", "Taken", "NoRights", "Settled", "TooLate", "NoRow", "NotLive", "TooLong", "NewsAhead", "Clash", "NoWish", "NoDeeds", "NoText"]) "do_show" 4 do_show := d_do_show T h_House_add_show
  have h_House_station : Mt P w K mg base ⟨(He.ga K "House"), [(DH.pA K "law", lamQ "law")]⟩ (DH.cmK K ["NoName", "NoDay", "NoHour", "NoMore", "NoShow", "NoSort", "NoStation", "NoRule", "Full", "Taken", "NoRights", "Settled", "TooLate", "NoRow", "NotLive", "TooLong", "NewsAhead", "Clash", "NoWish", "NoDeeds", "NoText"]) "station" 3 House_station sh_station := d_House_station T hcl h_House_look_station
  have h_House_show : Mt P w K mg base ⟨(He.ga K "House"), [(DH.pA K "law", lamQ "law")]⟩ (DH.cmK K ["NoName", "NoDay", "NoHour", "NoMore", "NoShow", "NoSort", "NoStation", "NoRule", "Full", "Taken", "NoRights", "Settled", "TooLate", "NoRow", "NotLive", "TooLong", "NewsAhead", "Clash", "NoWish", "NoDeeds", "NoText"]) "show" 2 House_show sh_show := d_House_show T hcl h_is_name
  have h_is_day : Df P w K mg base ⟨(He.ga K "House"), [(DH.pA K "law", lamQ "law")]⟩ (DH.cmK K ["NoName", "NoDay", "NoHour", "NoMore", "NoShow", "NoSort", "NoStation", "NoRule", "Full", "Taken", "NoRights", "Settled", "TooLate", "NoRow", "NotLive", "TooLong", "NewsAhead", "Clash", "NoWish", "NoDeeds", "NoText"]) "is_day" 2 is_day := d_is_day T h_is_number
  have h_look_day : Df P w K mg base ⟨(He.ga K "House"), [(DH.pA K "law", lamQ "law")]⟩ (DH.cmK K ["NoName", "NoDay", "NoHour", "NoMore", "NoShow", "NoSort", "NoStation", "NoRule", "Full", "Taken", "NoRights", "Settled", "TooLate", "NoRow", "NotLive", "TooLong", "NewsAhead", "Clash", "NoWish", "NoDeeds", "NoText"]) "look_day" 3 look_day := d_look_day T h_is_day
  have h_House_look_since : Mt P w K mg base ⟨(He.ga K "House"), [(DH.pA K "law", lamQ "law")]⟩ (DH.cmK K ["NoName", "NoDay", "NoHour", "NoMore", "NoShow", "NoSort", "NoStation", "NoRule", "Full", "Taken", "NoRights", "Settled", "TooLate", "NoRow", "NotLive", "TooLong", "NewsAhead", "Clash", "NoWish", "NoDeeds", "NoText"]) "look_since" 1 House_look_since sh_look_since := d_House_look_since T hcl 
  have h_House_put_week : Mt P w K mg base ⟨(He.ga K "House"), [(DH.pA K "law", lamQ "law")]⟩ (DH.cmK K ["NoName", "NoDay", "NoHour", "NoMore", "NoShow", "NoSort", "NoStation", "NoRule", "Full", "Taken", "NoRights", "Settled", "TooLate", "NoRow", "NotLive", "TooLong", "NewsAhead", "Clash", "NoWish", "NoDeeds", "NoText"]) "put_week" 4 House_put_week sh_put_week := d_House_put_week T hcl o_NoRights h_House_station h_is_number h_House_show h_look_day h_House_look_since
  have h_do_week : Df P w K mg base ⟨(He.ga K "House"), [(DH.pA K "law", lamQ "law")]⟩ (DH.cmK K ["NoName", "NoDay", "NoHour", "NoMore", "NoShow", "NoSort", "NoStation", "NoRule", "Full", "Taken", "NoRights", "Settled", "TooLate", "NoRow", "NotLive", "TooLong", "NewsAhead", "Clash", "NoWish", "NoDeeds", "NoText"]) "do_week" 5 do_week := d_do_week T h_House_put_week
  have h_House_clear_week : Mt P w K mg base ⟨(He.ga K "House"), [(DH.pA K "law", lamQ "law")]⟩ (DH.cmK K ["NoName", "NoDay", "NoHour", "NoMore", "NoShow", "NoSort", "NoStation", "NoRule", "Full", "Taken", "NoRights", "Settled", "TooLate", "NoRow", "NotLive", "TooLong", "NewsAhead", "Clash", "NoWish", "NoDeeds", "NoText"]) "clear_week" 4 House_clear_week sh_clear_week := d_House_clear_week T hcl h_House_look_station h_is_number h_look_day h_look_span h_House_look_since
  have h_do_clear : Df P w K mg base ⟨(He.ga K "House"), [(DH.pA K "law", lamQ "law")]⟩ (DH.cmK K ["NoName", "NoDay", "NoHour", "NoMore", "NoShow", "NoSort", "NoStation", "NoRule", "Full", "Taken", "NoRights", "Settled", "TooLate", "NoRow", "NotLive", "TooLong", "NewsAhead", "Clash", "NoWish", "NoDeeds", "NoText"]) "do_clear" 5 do_clear := d_do_clear T h_House_clear_week
  have h_laid : Df P w K mg base ⟨(He.ga K "House"), [(DH.pA K "law", lamQ "law")]⟩ (DH.cmK K ["NoName", "NoDay", "NoHour", "NoMore", "NoShow", "NoSort", "NoStation", "NoRule", "Full", "Taken", "NoRights", "Settled", "TooLate", "NoRow", "NotLive", "TooLong", "NewsAhead", "Clash", "NoWish", "NoDeeds", "NoText"]) "laid" 1 laid := d_laid T 
  have h_laid_with : Df P w K mg base ⟨(He.ga K "House"), [(DH.pA K "law", lamQ "law")]⟩ (DH.cmK K ["NoName", "NoDay", "NoHour", "NoMore", "NoShow", "NoSort", "NoStation", "NoRule", "Full", "Taken", "NoRights", "Settled", "TooLate", "NoRow", "NotLive", "TooLong", "NewsAhead", "Clash", "NoWish", "NoDeeds", "NoText"]) "laid_with" 2 laid_with := d_laid_with T h_laid
  have h_House_rows_by_week : Mt P w K mg base ⟨(He.ga K "House"), [(DH.pA K "law", lamQ "law")]⟩ (DH.cmK K ["NoName", "NoDay", "NoHour", "NoMore", "NoShow", "NoSort", "NoStation", "NoRule", "Full", "Taken", "NoRights", "Settled", "TooLate", "NoRow", "NotLive", "TooLong", "NewsAhead", "Clash", "NoWish", "NoDeeds", "NoText"]) "rows_by_week" 3 House_rows_by_week sh_rows_by_week := d_House_rows_by_week T hcl h_laid h_laid_with
  have h_House_week_rows : Mt P w K mg base ⟨(He.ga K "House"), [(DH.pA K "law", lamQ "law")]⟩ (DH.cmK K ["NoName", "NoDay", "NoHour", "NoMore", "NoShow", "NoSort", "NoStation", "NoRule", "Full", "Taken", "NoRights", "Settled", "TooLate", "NoRow", "NotLive", "TooLong", "NewsAhead", "Clash", "NoWish", "NoDeeds", "NoText"]) "week_rows" 4 House_week_rows sh_week_rows := d_House_week_rows T h_House_look_station h_look_day h_House_rows_by_week
  have h_House_own_rows : Mt P w K mg base ⟨(He.ga K "House"), [(DH.pA K "law", lamQ "law")]⟩ (DH.cmK K ["NoName", "NoDay", "NoHour", "NoMore", "NoShow", "NoSort", "NoStation", "NoRule", "Full", "Taken", "NoRights", "Settled", "TooLate", "NoRow", "NotLive", "TooLong", "NewsAhead", "Clash", "NoWish", "NoDeeds", "NoText"]) "own_rows" 5 House_own_rows sh_own_rows := d_House_own_rows T hcl h_House_week_rows
  have h_House_times : Mt P w K mg base ⟨(He.ga K "House"), [(DH.pA K "law", lamQ "law")]⟩ (DH.cmK K ["NoName", "NoDay", "NoHour", "NoMore", "NoShow", "NoSort", "NoStation", "NoRule", "Full", "Taken", "NoRights", "Settled", "TooLate", "NoRow", "NotLive", "TooLong", "NewsAhead", "Clash", "NoWish", "NoDeeds", "NoText"]) "times" 3 House_times sh_times := d_House_times T hcl h_House_show
  have h_House_put : Mt P w K mg base ⟨(He.ga K "House"), [(DH.pA K "law", lamQ "law")]⟩ (DH.cmK K ["NoName", "NoDay", "NoHour", "NoMore", "NoShow", "NoSort", "NoStation", "NoRule", "Full", "Taken", "NoRights", "Settled", "TooLate", "NoRow", "NotLive", "TooLong", "NewsAhead", "Clash", "NoWish", "NoDeeds", "NoText"]) "put" 6 House_put sh_put := d_House_put T hcl o_NoRights h_House_station h_look_day h_House_show h_is_number h_House_own_rows h_laid_with h_House_times
  have h_do_put : Df P w K mg base ⟨(He.ga K "House"), [(DH.pA K "law", lamQ "law")]⟩ (DH.cmK K ["NoName", "NoDay", "NoHour", "NoMore", "NoShow", "NoSort", "NoStation", "NoRule", "Full", "Taken", "NoRights", "Settled", "TooLate", "NoRow", "NotLive", "TooLong", "NewsAhead", "Clash", "NoWish", "NoDeeds", "NoText"]) "do_put" 7 do_put := d_do_put T h_House_put
  have h_look_hour : Df P w K mg base ⟨(He.ga K "House"), [(DH.pA K "law", lamQ "law")]⟩ (DH.cmK K ["NoName", "NoDay", "NoHour", "NoMore", "NoShow", "NoSort", "NoStation", "NoRule", "Full", "Taken", "NoRights", "Settled", "TooLate", "NoRow", "NotLive", "TooLong", "NewsAhead", "Clash", "NoWish", "NoDeeds", "NoText"]) "look_hour" 2 look_hour := d_look_hour T h_is_number
  have h_House_row_at : Mt P w K mg base ⟨(He.ga K "House"), [(DH.pA K "law", lamQ "law")]⟩ (DH.cmK K ["NoName", "NoDay", "NoHour", "NoMore", "NoShow", "NoSort", "NoStation", "NoRule", "Full", "Taken", "NoRights", "Settled", "TooLate", "NoRow", "NotLive", "TooLong", "NewsAhead", "Clash", "NoWish", "NoDeeds", "NoText"]) "row_at" 6 House_row_at sh_row_at := d_House_row_at T o_NoRow h_House_own_rows h_look_hour
  have h_House_drop : Mt P w K mg base ⟨(He.ga K "House"), [(DH.pA K "law", lamQ "law")]⟩ (DH.cmK K ["NoName", "NoDay", "NoHour", "NoMore", "NoShow", "NoSort", "NoStation", "NoRule", "Full", "Taken", "NoRights", "Settled", "TooLate", "NoRow", "NotLive", "TooLong", "NewsAhead", "Clash", "NoWish", "NoDeeds", "NoText"]) "drop" 7 House_drop sh_drop := d_House_drop T hcl h_House_row_at h_House_own_rows
  have h_do_drop : Df P w K mg base ⟨(He.ga K "House"), [(DH.pA K "law", lamQ "law")]⟩ (DH.cmK K ["NoName", "NoDay", "NoHour", "NoMore", "NoShow", "NoSort", "NoStation", "NoRule", "Full", "Taken", "NoRights", "Settled", "TooLate", "NoRow", "NotLive", "TooLong", "NewsAhead", "Clash", "NoWish", "NoDeeds", "NoText"]) "do_drop" 8 do_drop := d_do_drop T h_House_drop
  have h_joined : Df P w K mg base ⟨(He.ga K "House"), [(DH.pA K "law", lamQ "law")]⟩ (DH.cmK K ["NoName", "NoDay", "NoHour", "NoMore", "NoShow", "NoSort", "NoStation", "NoRule", "Full", "Taken", "NoRights", "Settled", "TooLate", "NoRow", "NotLive", "TooLong", "NewsAhead", "Clash", "NoWish", "NoDeeds", "NoText"]) "joined" 1 joined := d_joined T 
  have h_next_fixed : Df P w K mg base ⟨(He.ga K "House"), [(DH.pA K "law", lamQ "law")]⟩ (DH.cmK K ["NoName", "NoDay", "NoHour", "NoMore", "NoShow", "NoSort", "NoStation", "NoRule", "Full", "Taken", "NoRights", "Settled", "TooLate", "NoRow", "NotLive", "TooLong", "NewsAhead", "Clash", "NoWish", "NoDeeds", "NoText"]) "next_fixed" 1 next_fixed := d_next_fixed T 
  have h_pushed : Df P w K mg base ⟨(He.ga K "House"), [(DH.pA K "law", lamQ "law")]⟩ (DH.cmK K ["NoName", "NoDay", "NoHour", "NoMore", "NoShow", "NoSort", "NoStation", "NoRule", "Full", "Taken", "NoRights", "Settled", "TooLate", "NoRow", "NotLive", "TooLong", "NewsAhead", "Clash", "NoWish", "NoDeeds", "NoText"]) "pushed" 2 pushed := d_pushed T h_next_fixed
  have h_House_overrun : Mt P w K mg base ⟨(He.ga K "House"), [(DH.pA K "law", lamQ "law")]⟩ (DH.cmK K ["NoName", "NoDay", "NoHour", "NoMore", "NoShow", "NoSort", "NoStation", "NoRule", "Full", "Taken", "NoRights", "Settled", "TooLate", "NoRow", "NotLive", "TooLong", "NewsAhead", "Clash", "NoWish", "NoDeeds", "NoText"]) "overrun" 7 House_overrun sh_overrun := d_House_overrun T hcl o_TooLong o_NewsAhead h_House_row_at h_is_number h_House_own_rows h_joined h_pushed
  have h_do_over : Df P w K mg base ⟨(He.ga K "House"), [(DH.pA K "law", lamQ "law")]⟩ (DH.cmK K ["NoName", "NoDay", "NoHour", "NoMore", "NoShow", "NoSort", "NoStation", "NoRule", "Full", "Taken", "NoRights", "Settled", "TooLate", "NoRow", "NotLive", "TooLong", "NewsAhead", "Clash", "NoWish", "NoDeeds", "NoText"]) "do_over" 8 do_over := d_do_over T h_House_overrun
  have h_House_breaks : Mt P w K mg base ⟨(He.ga K "House"), [(DH.pA K "law", lamQ "law")]⟩ (DH.cmK K ["NoName", "NoDay", "NoHour", "NoMore", "NoShow", "NoSort", "NoStation", "NoRule", "Full", "Taken", "NoRights", "Settled", "TooLate", "NoRow", "NotLive", "TooLong", "NewsAhead", "Clash", "NoWish", "NoDeeds", "NoText"]) "breaks" 4 House_breaks sh_breaks := d_House_breaks T hcl h_House_look_station h_look_day
  have h_do_meet : Df P w K mg base ⟨(He.ga K "House"), [(DH.pA K "law", lamQ "law")]⟩ (DH.cmK K ["NoName", "NoDay", "NoHour", "NoMore", "NoShow", "NoSort", "NoStation", "NoRule", "Full", "Taken", "NoRights", "Settled", "TooLate", "NoRow", "NotLive", "TooLong", "NewsAhead", "Clash", "NoWish", "NoDeeds", "NoText"]) "do_meet" 1 do_meet := d_do_meet T 
  have h_House_break_in : Mt P w K mg base ⟨(He.ga K "House"), [(DH.pA K "law", lamQ "law")]⟩ (DH.cmK K ["NoName", "NoDay", "NoHour", "NoMore", "NoShow", "NoSort", "NoStation", "NoRule", "Full", "Taken", "NoRights", "Settled", "TooLate", "NoRow", "NotLive", "TooLong", "NewsAhead", "Clash", "NoWish", "NoDeeds", "NoText"]) "break_in" 5 House_break_in sh_break_in := d_House_break_in T hcl o_Clash h_House_station h_look_day h_look_span h_House_breaks h_do_meet
  have h_do_break : Df P w K mg base ⟨(He.ga K "House"), [(DH.pA K "law", lamQ "law")]⟩ (DH.cmK K ["NoName", "NoDay", "NoHour", "NoMore", "NoShow", "NoSort", "NoStation", "NoRule", "Full", "Taken", "NoRights", "Settled", "TooLate", "NoRow", "NotLive", "TooLong", "NewsAhead", "Clash", "NoWish", "NoDeeds", "NoText"]) "do_break" 6 do_break := d_do_break T h_House_break_in
  have h_House_now : Mt P w K mg base ⟨(He.ga K "House"), [(DH.pA K "law", lamQ "law")]⟩ (DH.cmK K ["NoName", "NoDay", "NoHour", "NoMore", "NoShow", "NoSort", "NoStation", "NoRule", "Full", "Taken", "NoRights", "Settled", "TooLate", "NoRow", "NotLive", "TooLong", "NewsAhead", "Clash", "NoWish", "NoDeeds", "NoText"]) "now" 1 House_now sh_now := d_House_now T hcl 
  have h_House_tick : Mt P w K mg base ⟨(He.ga K "House"), [(DH.pA K "law", lamQ "law")]⟩ (DH.cmK K ["NoName", "NoDay", "NoHour", "NoMore", "NoShow", "NoSort", "NoStation", "NoRule", "Full", "Taken", "NoRights", "Settled", "TooLate", "NoRow", "NotLive", "TooLong", "NewsAhead", "Clash", "NoWish", "NoDeeds", "NoText"]) "tick" 2 House_tick sh_tick := d_House_tick T hcl h_is_number h_House_now
  have h_do_tick : Df P w K mg base ⟨(He.ga K "House"), [(DH.pA K "law", lamQ "law")]⟩ (DH.cmK K ["NoName", "NoDay", "NoHour", "NoMore", "NoShow", "NoSort", "NoStation", "NoRule", "Full", "Taken", "NoRights", "Settled", "TooLate", "NoRow", "NotLive", "TooLong", "NewsAhead", "Clash", "NoWish", "NoDeeds", "NoText"]) "do_tick" 3 do_tick := d_do_tick T h_House_tick
  have w_DOERS : WdF P w K mg base ⟨(He.ga K "House"), [(DH.pA K "law", lamQ "law")]⟩ (DH.cmK K ["NoName", "NoDay", "NoHour", "NoMore", "NoShow", "NoSort", "NoStation", "NoRule", "Full", "Taken", "NoRights", "Settled", "TooLate", "NoRow", "NotLive", "TooLong", "NewsAhead", "Clash", "NoWish", "NoDeeds", "NoText"]) "DOERS" 8 wd_DOERS := DH.wdF_ok (l := [("open", "do_open"), ("show", "do_show"), ("week", "do_week"), ("clear", "do_clear"), ("put", "do_put"), ("drop", "do_drop"), ("over", "do_over"), ("break", "do_break"), ("tick", "do_tick")]) X G (c.fact 112) (List.forall_mem_cons.mpr ⟨(c.fact 70), (List.forall_mem_cons.mpr ⟨(c.fact 74), (List.forall_mem_cons.mpr ⟨(c.fact 81), (List.forall_mem_cons.mpr ⟨(c.fact 83), (List.forall_mem_cons.mpr ⟨(c.fact 91), (List.forall_mem_cons.mpr ⟨(c.fact 95), (List.forall_mem_cons.mpr ⟨(c.fact 100), (List.forall_mem_cons.mpr ⟨(c.fact 104), (List.forall_mem_cons.mpr ⟨(c.fact 107), (List.forall_mem_nil _)⟩)⟩)⟩)⟩)⟩)⟩)⟩)⟩)⟩) (ct.tab 0) (c.fact 113) (.cons h_do_open (by decide) (.cons h_do_show (by decide) (.cons h_do_week (by decide) (.cons h_do_clear (by decide) (.cons h_do_put (by decide) (.cons h_do_drop (by decide) (.cons h_do_over (by decide) (.cons h_do_break (by decide) (.cons h_do_tick (by decide) .nil)))))))))
  have h_replayed : Df2 P w K mg base ⟨(He.ga K "House"), [(DH.pA K "law", lamQ "law")]⟩ (DH.cmK K ["NoName", "NoDay", "NoHour", "NoMore", "NoShow", "NoSort", "NoStation", "NoRule", "Full", "Taken", "NoRights", "Settled", "TooLate", "NoRow", "NotLive", "TooLong", "NewsAhead", "Clash", "NoWish", "NoDeeds", "NoText"]) "replayed" 9 replayed := d_replayed T hcl h_is_deed h_do_open h_do_show h_do_week h_do_clear h_do_put h_do_drop h_do_over h_do_break h_do_tick w_DOERS
  exact d_law T tld M_law h_law_names h_law_pick h_House_deeds h_replayed (DH.funL_of (c.fact 110) F)
end LK
namespace LK
open PySem L2 DL
/-! ### _law_pick -/
theorem pk_while (a b c d e : Option Val) : ∀ (n : Nat) (r t : Int), t < n → ∃ r' t', ∀ w, whileL law_pick_l2 law_pick_l1 (n + 1) [a, b, c, d, e, some (fz (.int r)), some (fz (.int t))] w = .next [a, b, c, d, e, some (fz (.int r')), some (fz (.int t'))] w := by
  intro n
  induction n with
  | zero =>
    intro r t h
    refine ⟨r, t, fun w => ?_⟩
    have h0 : ¬ (t > 0) := by omega
    by_cases hr : r > 0
    · simp [whileL, law_pick_l2, hr, h0]
    · simp [whileL, law_pick_l2, hr]
  | succ n ih =>
    intro r t h
    by_cases hr : r > 0
    · by_cases ht : t > 0
      · obtain ⟨r', t', e⟩ := ih (r / 840) (t - 1) (by omega)
        refine ⟨r', t', fun w => ?_⟩
        rw [whileL]
        have := cdiv r 840 (by decide) (by decide)
        simp [law_pick_l2, hr, ht]
        simp [law_pick_l1, this]
        exact e w
      · refine ⟨r, t, fun w => ?_⟩
        simp [whileL, law_pick_l2, hr, ht]
    · refine ⟨r, t, fun w => ?_⟩
      simp [whileL, law_pick_l2, hr]
noncomputable def pkR : DS := sSeq (whileL law_pick_l2 law_pick_l1 100000)
    (sSeq (sIf (tst (dOp gGt (dVar 5) (dC (.int 0)))) (sRet (dOp gMod (dOp gMod (dVar 5) (dC (.int 840))) (dVar 2))) sNext)
    (sSeq (sSetF 4 (dOp gMod (dOp gMul (dOp gAdd (dOp gMul (dVar 3) (dC (.int 31))) (dOp gMul (dC (.int 6151)) (dOp gAdd (dVar 1) (dC (.int 1))))) (dC (.int 40692))) (dC (.int 2147483399))))
    (sRet (dOp gMod (dOp gMod (dOp gAdd (dOp gMul (dVar 4) (dVar 4)) (dOp gDiv (dVar 4) (dC (.int 31)))) (dC (.int 2147483629))) (dVar 2)))))
theorem pick_tail (ns : List Int) (k m cell r0 t0 : Int) (ht : t0 < 90000) (hm : 0 < m) : ∃ p, 0 ≤ p ∧ p < m ∧ ∀ w, pkR [some (fz (.scr ns)), some (fz (.int k)), some (fz (.int m)), some (fz (.int cell)), none, some (fz (.int r0)), some (fz (.int t0))] w = .ret (fz (.int p)) w := by
  obtain ⟨r, t, e⟩ := pk_while (some (fz (.scr ns))) (some (fz (.int k))) (some (fz (.int m))) (some (fz (.int cell))) none 99999 r0 t0 (by omega)
  by_cases hr : r > 0
  · refine ⟨r % 840 % m, Int.emod_nonneg _ (by omega), Int.emod_lt_of_pos _ hm, fun w => ?_⟩
    simp only [pkR, sSeq_s]
    rw [e w]
    simp [hr, hm]
  · have a1 := cmulR cell 31 (by decide) (by decide)
    have a2 := cmulL 6151 (k + 1) (by decide) (by decide)
    have a3 := cmulR (cell * 31 + 6151 * (k + 1)) 40692 (by decide) (by decide)
    have h1 : 0 ≤ (cell * 31 + 6151 * (k + 1)) * 40692 % 2147483399 := Int.emod_nonneg _ (by decide)
    have h2 : (cell * 31 + 6151 * (k + 1)) * 40692 % 2147483399 < 2147483399 := Int.emod_lt_of_pos _ (by decide)
    obtain ⟨dr, hdr⟩ : ∃ dr, dr = (cell * 31 + 6151 * (k + 1)) * 40692 % 2147483399 := ⟨_, rfl⟩
    rw [← hdr] at h1 h2
    have a4 := cmulR dr dr (by omega) (by omega)
    have a5 := cdiv dr 31 (by decide) (by decide)
    refine ⟨(dr * dr + dr / 31) % 2147483629 % m, Int.emod_nonneg _ (by omega), Int.emod_lt_of_pos _ hm, fun w => ?_⟩
    simp only [pkR, sSeq_s]
    rw [e w]
    simp [hr, hm, a1, a2, a3, ← hdr, a4, a5]
theorem pick_ex (ns : List Int) (k m : Int) (hl : ns.length ≤ 63) (hk : 0 ≤ k) (hk2 : k < 90000) (hm : 0 < m) : ∃ p, 0 ≤ p ∧ p < m ∧ ∀ w, law_pick [.scr ns, .int k, .int m] w = .ok (fz (.int p)) w := by
  have c2 := cpow_10_18
  cases ns with
  | nil =>
    obtain ⟨p, h1, h2, e⟩ := pick_tail [] k m 0 0 k (by omega) hm
    refine ⟨p, h1, h2, fun w => ?_⟩
    have e := e w
    unfold pkR at e
    have c3 := cdiv 0 1000000000000000000 (by decide) (by decide)
    have c4 := cdiv k 1 (by decide) (by decide)
    simp [law_pick, fnD, law_pick_b, gEq_scrN, c2, c3, c4]
    simp at e
    rw [e]
  | cons n r =>
    have hL : (0 : Int) < (n :: r).length := by simp
    have i0 : 0 ≤ k % ((n :: r).length : Int) := Int.emod_nonneg _ (by omega)
    have i1 : k % ((n :: r).length : Int) < (n :: r).length := Int.emod_lt_of_pos _ hL
    obtain ⟨cell, hc⟩ : ∃ c, (n :: r)[(k % ((n :: r).length : Int)).toNat]? = some c := ⟨_, List.getElem?_eq_getElem (by omega)⟩
    obtain ⟨p, h1, h2, e⟩ := pick_tail (n :: r) k m cell (cell / 1000000000000000000) (k / ((n :: r).length : Int)) (by have := Int.ediv_le_self ((n :: r).length : Int) hk; omega) hm
    refine ⟨p, h1, h2, fun w => ?_⟩
    have e := e w
    unfold pkR at e
    have ha := atI_pos i0 i1
    rw [hc] at ha
    have hd := cdiv k ((n :: r).length) hL (by omega)
    have c3 := cdiv cell 1000000000000000000 (by decide) (by decide)
    have hmx : ¬ ((1 : Int) > ((n :: r).length : Int)) := by omega
    generalize (n :: r) = ns at *
    have hne : ns ≠ [] := by intro z; rw [z] at hL; simp at hL
    have hne2 : (ns != []) = true := by simp [hne]
    have hg : ∀ m m', gMod ⟨m, .int k⟩ ⟨m', .int ns.length⟩ w = .ok (fz (.int (k % (ns.length : Int)))) w := fun m m' => gMod_ii w m m' _ _ hL
    simp only [law_pick, fnD, law_pick_b]
    simp [gEq_scrN, gIx_scr, hne, hg, ha, hd, hmx, c2, c3]
    simp at e
    rw [e]
open Classical in
/-- the number drawn at k below m -/
noncomputable def pick (ns : List Int) (k m : Int) : Int := if h : ns.length ≤ 63 ∧ 0 ≤ k ∧ k < 90000 ∧ 0 < m then choose (pick_ex ns k m h.1 h.2.1 h.2.2.1 h.2.2.2) else 0
theorem pick_ok {ns : List Int} {k m : Int} (hl : ns.length ≤ 63) (hk : 0 ≤ k) (hk2 : k < 90000) (hm : 0 < m) : 0 ≤ pick ns k m ∧ pick ns k m < m ∧ ∀ w, law_pick [.scr ns, .int k, .int m] w = .ok (fz (.int (pick ns k m))) w := by
  unfold pick
  rw [dif_pos ⟨hl, hk, hk2, hm⟩]
  exact Classical.choose_spec (pick_ex ns k m hl hk hk2 hm)
/-! ### _law_names -/
/-- a drawn name: some letters and a mark, behind them or ahead -/
def NmK (fl : Bool) (c : Nat) (x : List Nat) : Prop := ∃ r : List Nat, r.length ≤ 5 ∧ (∀ z ∈ r, Lt z) ∧ Lt c ∧ x = if fl then r ++ [c] else c :: r
theorem names_rest (ns : List Int) (hl : ns.length ≤ 63) (at' k : Int) (h0 : 0 ≤ at') (h1 : at' < 1000) (k0 : 0 ≤ k) (k1 : k < 26) (a c e f : Option Val) (v : Int) (v0 : 0 ≤ v) (v5 : v ≤ 5) :
    ∃ (r : List Nat) (z : Option Val), r.length ≤ 5 ∧ (∀ z ∈ r, Lt z) ∧ ∀ w, forL (.nm 7) law_names_l1 (rngD 0 v.toNat) [some (fz (.scr ns)), some (fz (.int at')), a, some (fz (.int k)), some (fz (.str "abcdefghijklmnopqrstuvwxyz")), c, some (fz (.str "")), e, f] w =
      .next [some (fz (.scr ns)), some (fz (.int at')), a, some (fz (.int k)), some (fz (.str "abcdefghijklmnopqrstuvwxyz")), c, some (fz (.str (nm r))), z, f] w := by
  obtain ⟨ρ', h, r, z, hr, hz, e'⟩ := forL_pure (t := .nm 7) (b := law_names_l1) (I := fun i ρ => ∃ (r : List Nat) (z : Option Val), r.length = i ∧ (∀ z ∈ r, Lt z) ∧ ρ = [some (fz (.scr ns)), some (fz (.int at')), a, some (fz (.int k)), some (fz (.str "abcdefghijklmnopqrstuvwxyz")), c, some (fz (.str (nm r))), z, f])
    (rngD 0 v.toNat) 0 [some (fz (.scr ns)), some (fz (.int at')), a, some (fz (.int k)), some (fz (.str "abcdefghijklmnopqrstuvwxyz")), c, some (fz (.str "")), e, f] ⟨[], e, rfl, by simp, rfl⟩ (by
      rintro i d ρ hd ⟨r, z, hr, hz, rfl⟩
      obtain ⟨hi, rfl⟩ := rngD_get hd
      have p1 := pick_ok (ns := ns) (k := at' + 7 * k + (0 + (i : Int)) + 1) (m := 26) hl (by omega) (by omega) (by decide)
      generalize pick ns (at' + 7 * k + (0 + (i : Int)) + 1) 26 = p at p1
      have c1 := cmulL 7 k (by decide) (by decide)
      have l1 := letters_ix p1.1 p1.2.1
      have q := p1.2.2
      have hn : (nm r).length + (nm [97 + p.toNat]).length ≤ sizeLine := sz_le (by rw [nm_len, nm_len]; simp; omega)
      have ga : ∀ m m' w, gAdd ⟨m, .str (nm r)⟩ ⟨m', .str (nm [97 + p.toNat])⟩ w = .ok (fz (.str (nm (r ++ [97 + p.toNat])))) w := fun m m' w => by simp [gAdd, hn, nm_app]
      refine ⟨_, [some (fz (.scr ns)), some (fz (.int at')), a, some (fz (.int k)), some (fz (.str "abcdefghijklmnopqrstuvwxyz")), c, some (fz (.str (nm (r ++ [97 + p.toNat])))), some (fz (.int (0 + (i : Int)))), f], rfl, fun w => ?_, r ++ [97 + p.toNat], some (fz (.int (0 + (i : Int)))), ?_, ?_, rfl⟩
      · simp only [law_names_l1]
        simp at q
        simp [c1, q, l1, ga]
      · simp; omega
      · intro y hy
        rcases List.mem_append.mp hy with hy | hy
        · exact hz y hy
        · simp at hy; subst hy; unfold Lt; omega)
  refine ⟨r, z, ?_, hz, fun w => by rw [h w, e']⟩
  rw [hr]
  simp
  omega
theorem names_ex (ns : List Int) (hl : ns.length ≤ 63) (at' : Int) (h0 : 0 ≤ at') (h1 : at' < 1000) (many : Nat) (hm : many ≤ 26) :
    ∃ xs : List (List Nat), xs.length = many ∧ (∀ k (h : k < xs.length), NmK (decide (pick ns (at' + 61) 2 = 0)) (97 + ((pick ns (at' + 60) 26 + k) % 26).toNat) xs[k]) ∧ ∀ w, law_names [.scr ns, .int at', .int many] w = .ok ⟨.nw, .lst (xs.map fun x => .str (nm x))⟩ w := by
  have p2 := pick_ok (ns := ns) (k := at' + 60) (m := 26) hl (by omega) (by omega) (by decide)
  have p3 := pick_ok (ns := ns) (k := at' + 61) (m := 2) hl (by omega) (by omega) (by decide)
  obtain ⟨ρ', h, xs, z1, z2, z3, z4, hr, hz, e'⟩ := forL_pure (t := .nm 3) (b := law_names_l2) (I := fun i ρ => ∃ (xs : List (List Nat)) (z1 z2 z3 z4 : Option Val), xs.length = i ∧ (∀ k (h : k < xs.length), NmK (decide (pick ns (at' + 61) 2 = 0)) (97 + ((pick ns (at' + 60) 26 + k) % 26).toNat) xs[k]) ∧ ρ = [some (fz (.scr ns)), some (fz (.int at')), some (fz (.int many)), z1, some (fz (.str "abcdefghijklmnopqrstuvwxyz")), some ⟨.nw, .lst (xs.map fun x => .str (nm x))⟩, z2, z3, z4])
    (rngD 0 many) 0 [some (fz (.scr ns)), some (fz (.int at')), some (fz (.int many)), none, some (fz (.str "abcdefghijklmnopqrstuvwxyz")), some ⟨.nw, .lst []⟩, none, none, none] ⟨[], none, none, none, none, rfl, by simp, rfl⟩ (by
      rintro i d ρ hd ⟨xs, z1, z2, z3, z4, hx, hz, rfl⟩
      obtain ⟨hi, rfl⟩ := rngD_get hd
      have p1 := pick_ok (ns := ns) (k := at' + 7 * (0 + (i : Int))) (m := 5) hl (by omega) (by omega) (by decide)
      generalize pick ns (at' + 7 * (0 + (i : Int))) 5 = p at p1
      generalize hp2 : pick ns (at' + 60) 26 = q2 at p2 hz ⊢
      generalize hp3 : pick ns (at' + 61) 2 = q3 at p3 hz ⊢
      have c1 := cmulL 7 (i : Int) (by decide) (by decide)
      obtain ⟨v, hv, ev⟩ : ∃ v ∈ [0, 0, 1, 2, 5], atI [D.int 0, D.int 0, D.int 1, D.int 2, D.int 5] p = some (.int v) := atI_ints [0, 0, 1, 2, 5] p p1.1 p1.2.1
      have hv5 : 0 ≤ v ∧ v ≤ 5 := by simp at hv; omega
      have i0 : 0 ≤ (q2 + (i : Int)) % 26 := Int.emod_nonneg _ (by decide)
      have i1 : (q2 + (i : Int)) % 26 < 26 := Int.emod_lt_of_pos _ (by decide)
      obtain ⟨r, zz, r5, rl, er⟩ := names_rest ns hl at' (0 + (i : Int)) h0 h1 (by omega) (by omega) (some (fz (.int many))) (some ⟨.nw, .lst (xs.map fun x => .str (nm x))⟩) z3 z4 v hv5.1 hv5.2
      have l1 := letters_ix i0 i1
      have q1 := p1.2.2
      have w2 := p2.2.2
      have w3 := p3.2.2
      generalize hcc : 97 + ((q2 + (i : Int)) % 26).toNat = cc at l1
      have ltc : Lt cc := by unfold Lt; omega
      have hn : (nm r).length + (nm [cc]).length ≤ sizeLine := sz_le (by rw [nm_len, nm_len]; simp; omega)
      have hn' : (nm [cc]).length + (nm r).length ≤ sizeLine := sz_le (by rw [nm_len, nm_len]; simp; omega)
      have ga : ∀ m m' w, gAdd ⟨m, .str (nm r)⟩ ⟨m', .str (nm [cc])⟩ w = .ok (fz (.str (nm (r ++ [cc])))) w := fun m m' w => by simp [gAdd, hn, nm_app]
      have gb : ∀ m m' w, gAdd ⟨m, .str (nm [cc])⟩ ⟨m', .str (nm r)⟩ w = .ok (fz (.str (nm (cc :: r)))) w := fun m m' w => by simp [gAdd, hn', nm_app]
      have hsz : xs.length < sizeLine := sz_lt (by omega)
      have hv2 : RO v := ro (by omega) (by omega)
      refine ⟨_, [some (fz (.scr ns)), some (fz (.int at')), some (fz (.int many)), some (fz (.int (0 + (i : Int)))), some (fz (.str "abcdefghijklmnopqrstuvwxyz")), some ⟨.nw, .lst ((xs ++ [if decide (q3 = 0) then r ++ [cc] else cc :: r]).map fun x => .str (nm x))⟩, some (fz (.str (nm r))), zz, some (fz (.str (nm [cc])))], rfl, fun w => ?_, xs ++ [if decide (q3 = 0) then r ++ [cc] else cc :: r], some (fz (.int (0 + (i : Int)))), some (fz (.str (nm r))), zz, some (fz (.str (nm [cc]))), by simp; omega, ?_, rfl⟩
      · simp only [law_names_l2]
        simp at q1 er
        by_cases hq : q3 = 0
        · simp [c1, q1, ev, hv2, er, w2, w3, l1, ga, hq, hsz]
        · simp [c1, q1, ev, hv2, er, w2, w3, l1, gb, hq, hsz]
      · intro k hk
        by_cases hk2 : k < xs.length
        · rw [List.getElem_append_left hk2]
          exact hz k hk2
        · have : k = xs.length := by simp at hk; omega
          subst this
          simp only [List.getElem_concat_length]
          refine ⟨r, r5, rl, ?_, ?_⟩
          · rw [hx, Nat.zero_add, hcc]; exact ltc
          · rw [hx, Nat.zero_add, hcc])
  refine ⟨xs, by rw [hr]; simp, hz, fun w => ?_⟩
  have hro : RO (many : Int) := ro (by omega) (by omega)
  simp [law_names, fnD, law_names_b, hro]
  rw [h w, e']
  rfl
/-! ### is_number -/
def numB (d : D) (lo hi : Int) : Bool := match d with
  | .int i => decide (lo ≤ i) && decide (i ≤ hi)
  | _ => false
/-- data that a look may take: no object, no text too long -/
def okD (d : D) : Bool := match d with
  | .str x => decide (x.length ≤ 10000)
  | .obj _ => false
  | .exc _ => false
  | .dK _ => false
  | .dT _ => false
  | _ => true
theorem is_number_ok (d : D) (lo hi : Int) (h : okD d = true) (w : W) : is_number [d, .int lo, .int hi] w = .ok (fz (.bl (numB d lo hi))) w := by
  cases d <;> simp [is_number, fnD, is_number_b, gIsiT, gIsi, tyD, numB] <;> try (simp [okD] at h; done)
  rename_i i
  by_cases h1 : lo ≤ i
  · simp [h1]
  · simp [h1]
/-! ### days and hours -/
theorem is_day_ok (d : D) (h : okD d = true) (w : W) : is_day [d] w = .ok (fz (.bl (numB d 0 99))) w := by
  have := is_number_ok d 0 99 h w
  simp [is_day, fnD, is_day_b, this]
theorem look_day_ok (d : D) (h : okD d = true) (w : W) : look_day [d] w = if numB d 0 99 then .ok (fz .non) w else .ex ⟨"NoDay", []⟩ w := by
  have := is_day_ok d h w
  cases q : numB d 0 99 <;> simp [look_day, fnD, look_day_b, this, q]
theorem look_hour_ok (d : D) (h : okD d = true) (w : W) : look_hour [d] w = if numB d 0 23 then .ok (fz .non) w else .ex ⟨"NoHour", []⟩ w := by
  have := is_number_ok d 0 23 h w
  cases q : numB d 0 23 <;> simp [look_hour, fnD, look_hour_b, this, q]
/-! ### is_name -/
def isL (c : Nat) : Bool := decide (97 ≤ c) && decide (c ≤ 122)
def nameL (cs : List Nat) : Bool := decide (1 ≤ cs.length) && decide (cs.length ≤ 6) && cs.all isL
def nameB (d : D) : Bool := match d with
  | .str x => nameL x.cps.toList
  | _ => false
theorem letters_mem (c : Nat) : (c ∈ (Str.ofString "abcdefghijklmnopqrstuvwxyz").cps.toList) ↔ isL c = true := by
  have e : (Str.ofString "abcdefghijklmnopqrstuvwxyz").cps.toList = List.range' 97 26 := by decide +kernel
  rw [e, List.mem_range'_1]
  unfold isL
  simp
  omega
theorem is_name_ok (d : D) (h : okD d = true) (w : W) : is_name [d] w = .ok (fz (.bl (nameB d))) w := by
  cases d <;> simp [is_name, fnD, is_name_b, gIsiT, gIsi, tyD, nameB] <;> try (simp [okD] at h; done)
  rename_i x
  have hs : x.length ≤ sizeLine := sz_le (by simpa [okD] using h)
  have hl : x.length = x.cps.toList.length := by simp [Str.length]
  have gl : ∀ m w, gLen [⟨m, .str x⟩] w = .ok (fz (.int x.length)) w := fun m w => by simp [gLen, hs]
  have e1 : dLc (iSq (dVar 0)) (.nm 1) tYesD (dOp (gIn false) (dVar 1) (dC (.str "abcdefghijklmnopqrstuvwxyz"))) [1] [some (fz (.str x)), none] w = .ok ⟨.nw, .lst (x.cps.toList.map fun c => .bl (isL c))⟩ w := by
    refine dLc_ok (b := true) (ds := sgnD x) (by simp [iSq]) (by simpa [sgnD, Str.length] using hs) ?_
    refine lcL_all (fun c : Nat => D.str ⟨#[c]⟩) (fun c => .bl (isL c)) x.cps.toList (fun c _ => ⟨_, rfl, .fz, rfl, fun w => ?_⟩) w
    simp only [dOp_s, dVar_s, List.set_cons_succ, List.set_cons_zero, wipeD_cons, wipeD_nil]
    simp [gIn, sgn]
    have := letters_mem c
    simp at this
    by_cases hc : isL c = true
    · simp [hc, this]
    · simp [hc, this]
  have a1 := gAll_map isL x.cps.toList .nw
  unfold nameL
  rw [← hl]
  by_cases h1 : 1 ≤ x.length
  · have h1' : (1 : Int) ≤ (x.length : Int) := by omega
    by_cases h2 : x.length ≤ 6
    · have h2' : (x.length : Int) ≤ 6 := by omega
      simp [gl, h1, h2, h1', h2', e1, a1]
    · have h2' : ¬ (x.length : Int) ≤ 6 := by omega
      simp [gl, h1, h2, h1', h2']
  · have h1' : ¬ (1 : Int) ≤ (x.length : Int) := by omega
    simp [gl, h1, h1']
/-! ### is_sort, is_show -/
def sortB (d : D) : Bool := match d with
  | .str x => x == "news" || x == "talk" || x == "tune"
  | _ => false
def boolB (d : D) : Bool := match d with
  | .bl _ => true
  | _ => false
def showB (d : D) : Bool := match d with
  | .tup [a, b, c, l, e] => nameB a && sortB b && numB c 1 8 && boolB l && numB e 0 9
  | _ => false
theorem is_sort_ok (d : D) (h : okD d = true) (w : W) : is_sort [d] w = .ok (fz (.bl (sortB d))) w := by
  cases d <;> simp [is_sort, fnD, is_sort_b, gIsiT, gIsi, tyD, sortB] <;> try (simp [okD] at h; done)
  rename_i x
  simp [gIn, flD, eqD]
  have c : ∀ a b : Str, (a == b) = (b == a) := fun a b => by
    rw [Bool.eq_iff_iff, beq_iff_eq, beq_iff_eq]
    exact ⟨Eq.symm, Eq.symm⟩
  rw [c "news" x, c "talk" x, c "tune" x, Bool.or_assoc]
/-- data that is_show may take -/
def okS (d : D) : Bool := match d with
  | .tup ds => ds.all okD
  | .obj _ => false
  | .exc _ => false
  | .dK _ => false
  | .dT _ => false
  | _ => true
theorem is_show_ok (d : D) (h : okS d = true) (w : W) : is_show [d] w = .ok (fz (.bl (showB d))) w := by
  cases d <;> try (simp [okS] at h; done)
  case tup ds =>
    by_cases hl : ds.length = 5
    · match ds, hl with
      | [a, b, c, l, e], _ =>
        simp [okS] at h
        obtain ⟨ha, hb, hc, hd, he⟩ := h
        have n1 := is_name_ok a ha
        have n2 := is_sort_ok b hb
        have n3 := is_number_ok c 1 8 hc
        have n4 := is_number_ok e 0 9 he
        have n5 : ∀ m w, gIsiT "bool" ⟨m, l⟩ w = .ok (fz (.bl (boolB l))) w := by
          intro m w
          cases l <;> simp [gIsiT, gIsi, tyD, boolB] <;> simp [okD] at hd
        have n6 : ∀ w, gIsiT "tuple" ⟨.fz, .tup [a, b, c, l, e]⟩ w = .ok (fz (.bl true)) w := fun w => by simp [gIsiT, gIsi, tyD]
        simp only [is_show, fnD, is_show_b, showB]
        cases q1 : nameB a <;> cases q2 : sortB b <;> cases q3 : numB c 1 8 <;> cases q4 : boolB l <;> simp [n1, n2, n3, n4, n5, n6, q1, q2, q3, q4]
    · have : showB (.tup ds) = false := by
        unfold showB
        split
        · rename_i e; cases e; simp at hl
        · rfl
      rw [this]
      have hl2 : ¬ (ds.length : Int) = 5 := by omega
      simp [is_show, fnD, is_show_b, gIsiT, gIsi, tyD, hl2]
  all_goals simp [is_show, fnD, is_show_b, gIsiT, gIsi, tyD, showB]
/-! ### stations -/
theorem okD_name {d : D} (q : nameB d = true) : okD d = true := by
  cases d <;> simp [nameB] at q
  rename_i x
  simp [nameL] at q
  have h6 := q.1.2
  refine decide_eq_true ?_
  show x.cps.size ≤ 10000
  omega
theorem lookst_ok {k : Nat} (p : Pre k) (n : Nat) (h : Hs) (x : Str) (q : nameB (.str x) = true) (s : (valD h.seats (.inr x)).isSome = true) : House_look_station [.obj k, .str x] (wP p n h) = .ok (fz .non) (wP p n h) := by
  have e := is_name_ok (.str x) (okD_name q)
  simp [House_look_station, fnD, House_look_station_b, e, q, s]
theorem lookst_no {k : Nat} (p : Pre k) (n : Nat) (h : Hs) (d : D) (o : okD d = true) (q : nameB d = false) : House_look_station [.obj k, d] (wP p n h) = .ex ⟨"NoStation", []⟩ (wP p n h) := by
  have e := is_name_ok d o
  simp [House_look_station, fnD, House_look_station_b, e, q]
theorem lookst_none {k : Nat} (p : Pre k) (n : Nat) (h : Hs) (x : Str) (q : nameB (.str x) = true) (s : valD h.seats (.inr x) = none) : House_look_station [.obj k, .str x] (wP p n h) = .ex ⟨"NoStation", []⟩ (wP p n h) := by
  have e := is_name_ok (.str x) (okD_name q)
  simp [House_look_station, fnD, House_look_station_b, e, q, s]
def spanB (a b : D) (lo hi : Int) : Bool := match a, b with
  | .int i, .int j => decide (lo ≤ i) && decide (i ≤ hi) && decide (lo ≤ j) && decide (j ≤ hi) && decide (i < j)
  | _, _ => false
theorem span_ok (a b : D) (lo hi : Int) (oa : okD a = true) (ob : okD b = true) (w : W) : look_span [a, b, .int lo, .int hi] w = if spanB a b lo hi then .ok (fz .non) w else .ex ⟨"NoHour", []⟩ w := by
  have e1 := is_number_ok a lo hi oa
  have e2 := is_number_ok b lo hi ob
  cases q1 : numB a lo hi
  · have : spanB a b lo hi = false := by
      cases a <;> simp [spanB]
      rename_i i
      cases b <;> simp
      simp [numB] at q1
      omega
    simp [look_span, fnD, look_span_b, e1, q1, this]
  · cases q2 : numB b lo hi
    · have : spanB a b lo hi = false := by
        cases a <;> simp [spanB]
        rename_i i
        cases b <;> simp
        simp [numB] at q2
        omega
      simp [look_span, fnD, look_span_b, e1, e2, q1, q2, this]
    · cases a <;> simp [numB] at q1
      rename_i i
      cases b <;> simp [numB] at q2
      rename_i j
      by_cases hij : i < j
      · have : ¬ (j ≤ i) := by omega
        simp [look_span, fnD, look_span_b, e1, e2, numB, q1, q2, spanB, hij, this]
      · have : j ≤ i := by omega
        simp [look_span, fnD, look_span_b, e1, e2, numB, q1, q2, spanB, hij, this]
/-- whom a station may take over from -/
def upB (h : Hs) (u : D) : Bool := match u with
  | .non => true
  | .str y => nameB (.str y) && (valD h.seats (.inr y)).isSome
  | _ => false
theorem open_ok {k : Nat} (p : Pre k) (n : Nat) (h : Hs) (x : Str) (u : D) (i j : Int) (mn : Str) (q : nameB (.str x) = true) (s : valD h.seats (.inr x) = none) (hu : upB h u = true) (hs : spanB (.int i) (.int j) 0 24 = true) (hm : mn = "join" ∨ mn = "push") (hr : h.ranks.length < 6) (hz : h.seats.length < 1000) (hd : h.done.length < 1000) :
    House_open_station [.obj k, .str x, u, .int i, .int j, .str mn] (wP p n h) = .ok (fz (.int (h.ranks.length + 1))) (wP p (n + 3) { h with ranks := h.ranks ++ [.str x], seats := putKD h.seats (.inr x) (.tup [u, .int i, .int j, .str mn]), done := h.done ++ [.tup [.str "open", .str x, u, .int i, .int j, .str mn]] }) := by
  have e := is_name_ok (.str x) (okD_name q)
  have sp := span_ok (.int i) (.int j) 0 24 rfl rfl
  have z1 : h.ranks.length < sizeLine := sz_lt (by omega)
  have z2 : h.seats.length < sizeLine := sz_lt (by omega)
  have z3 : h.done.length < sizeLine := sz_lt (by omega)
  have r6 : ¬ ((h.ranks.length : Int) = 6) := by omega
  have gm : ∀ w, gIn true ⟨.fz, .str mn⟩ ⟨.fz, .tup [.str "join", .str "push"]⟩ w = .ok (fz (.bl false)) w := by
    intro w
    rcases hm with rfl | rfl <;> simp [gIn, flD, eqD, ofString_beq]
  have s3 : ∀ ρ : DL.Env, ρ = [some (fz (.obj k)), some (fz (.str x)), some (fz u), some (fz (.int i)), some (fz (.int j)), some (fz (.str mn))] → House_open_station_s3 ρ (wP p n h) = .next ρ (wP p n h) := by
    intro ρ hρ
    subst hρ
    cases u <;> simp [upB] at hu
    · simp [House_open_station_s3, gIsN, DL.isNon]
    · have := lookst_ok p n h _ hu.1 hu.2
      simp [House_open_station_s3, gIsN, DL.isNon, this]
  simp only [House_open_station, fnD, House_open_station_b]
  simp [House_open_station_s1, House_open_station_s2, e, q, s]
  simp [s3 _ rfl]
  simp [House_open_station_s4, House_open_station_s5, House_open_station_s6, House_open_station_s7, House_open_station_s8, House_open_station_s9, House_open_station_s10, sp, hs, gm, r6, z1, z2, z3, gIsiT, gIsi, tyD]
theorem station_ok {k : Nat} (p : Pre k) (n : Nat) (h : Hs) (x : Str) (d : D) (q : nameB (.str x) = true) (s : valD h.seats (.inr x) = some d) : House_station [.obj k, .str x] (wP p n h) = .ok (fz d) (wP p n h) := by
  have e := lookst_ok p n h x q (by simp [s])
  simp [House_station, fnD, House_station_b, e, s]
/-! ### shows that are known -/
section
variable {k : Nat} (p : Pre k) (n : Nat) (h : Hs)
theorem show_no (d : D) (o : okD d = true) (q : nameB d = false) : House_show [.obj k, d] (wP p n h) = .ex ⟨"NoShow", []⟩ (wP p n h) := by
  have e := is_name_ok d o
  simp [House_show, fnD, House_show_b, e, q]
theorem show_ok (x : Str) (d : D) (q : nameB (.str x) = true) (s : valD h.known (.inr x) = some d) : House_show [.obj k, .str x] (wP p n h) = .ok (fz d) (wP p n h) := by
  have e := is_name_ok (.str x) (okD_name q)
  simp [House_show, fnD, House_show_b, e, q, sTry0, s]
theorem addshow_no (d : D) (o : okS d = true) (q : showB d = false) : House_add_show [.obj k, d] (wP p n h) = .ex ⟨"NoShow", []⟩ (wP p n h) := by
  have e := is_show_ok d o
  simp [House_add_show, fnD, House_add_show_b, e, q]
def shD (x so : Str) (l : Int) (lv : Bool) (m : Int) : D := .tup [.str x, .str so, .int l, .bl lv, .int m]
theorem okS_sh {x so : Str} {l : Int} {lv : Bool} {m : Int} (hx : nameB (.str x) = true) (hs : okD (.str so) = true) : okS (shD x so l lv m) = true := by
  have := okD_name hx
  simp [okS, shD, this, hs]
  exact ⟨rfl, rfl, rfl⟩
theorem addshow_taken (x so : Str) (l : Int) (lv : Bool) (m : Int) (hx : nameB (.str x) = true) (hs : okD (.str so) = true) (q : showB (shD x so l lv m) = true) (s : (valD h.known (.inr x)).isSome = true) : House_add_show [.obj k, shD x so l lv m] (wP p n h) = .ex ⟨"Taken", []⟩ (wP p n h) := by
  have e := is_show_ok _ (okS_sh (l := l) (lv := lv) (m := m) hx hs)
  have a0 : atI [D.str x, .str so, .int l, .bl lv, .int m] 0 = some (.str x) := rfl
  rw [q] at e
  unfold shD at *
  simp [House_add_show, fnD, House_add_show_b, e, a0, s]
theorem addshow_ok (x so : Str) (l : Int) (lv : Bool) (m : Int) (hx : nameB (.str x) = true) (hs : okD (.str so) = true) (q : showB (shD x so l lv m) = true) (s : valD h.known (.inr x) = none) (hk : h.known.length < 1000) (hd : h.done.length < 1000) : House_add_show [.obj k, shD x so l lv m] (wP p n h) = .ok (fz (.int (putKD h.known (.inr x) (shD x so l lv m)).length)) (wP p (n + 2) { h with known := putKD h.known (.inr x) (shD x so l lv m), done := h.done ++ [.tup [.str "show", .str x, .str so, .int l, .bl lv, .int m]] }) := by
  have e := is_show_ok _ (okS_sh (l := l) (lv := lv) (m := m) hx hs)
  have a0 : atI [D.str x, .str so, .int l, .bl lv, .int m] 0 = some (.str x) := rfl
  have z1 : h.known.length < sizeLine := sz_lt (by omega)
  have z2 : h.done.length < sizeLine := sz_lt (by omega)
  have ga : ∀ m1 m2 w, gAdd ⟨m1, .tup [.str "show"]⟩ ⟨m2, .tup [.str x, .str so, .int l, .bl lv, .int m]⟩ w = .ok (fz (.tup [.str "show", .str x, .str so, .int l, .bl lv, .int m])) w := fun m1 m2 w => by simp [gAdd]
  rw [q] at e
  unfold shD at *
  simp [House_add_show, fnD, House_add_show_b, e, a0, s, z1, z2, ga, gLenD]
end
/-! ### rows -/
structure Row where
  b : Int
  e : Int
  n : List Nat
  deriving DecidableEq
def rowD (r : Row) : D := .tup [.int r.b, .int r.e, .str (nm r.n)]
/-- the rows lie apart, from lo on; hi: the last end, or lo -/
def Ap : Int → List Row → Int → Prop
  | lo, [], hi => lo = hi
  | lo, r :: rs, hi => lo ≤ r.b ∧ r.b < r.e ∧ Ap r.e rs hi
theorem Ap.le {lo hi : Int} {rs : List Row} (h : Ap lo rs hi) : lo ≤ hi := by
  induction rs generalizing lo with
  | nil => cases h; exact Int.le_refl _
  | cons x xs ih => have := ih h.2.2; have := h.1; have := h.2.1; omega
/-! ### rows that are laid over others -/
theorem nm_of (x : Str) : nm x.cps.toList = x := by
  obtain ⟨⟨l⟩⟩ := x
  rfl
def layR (b e : Int) (r : Row) : List Row := if r.e ≤ b ∨ e ≤ r.b then [r] else if r.b < b then [⟨r.b, b, r.n⟩] else []
def layF (b e : Int) (rs : List Row) : List Row := rs.flatMap (layR b e)
theorem layR_le (b e : Int) (r : Row) : (layR b e r).length ≤ 1 := by unfold layR; split <;> (try split) <;> simp
theorem layF_le (b e : Int) : ∀ rs : List Row, (layF b e rs).length ≤ rs.length
  | [] => by simp [layF]
  | r :: rs => by
    have h1 := layR_le b e r
    have h2 := layF_le b e rs
    simp only [layF, List.flatMap_cons, List.length_append, List.length_cons] at h2 ⊢
    omega
theorem laid_loop (R : Option Val) (b e : Int) : ∀ (rs acc : List Row) (z : Option Val), acc.length + rs.length ≤ 1000 → ∃ z', ∀ w, forL (.nm 4) laid_l1 (rs.map rowD) [R, some (fz (.int b)), some (fz (.int e)), some ⟨.nw, .lst (acc.map rowD)⟩, z] w =
    .next [R, some (fz (.int b)), some (fz (.int e)), some ⟨.nw, .lst ((acc ++ layF b e rs).map rowD)⟩, z'] w
  | [], acc, z, _ => ⟨z, fun w => by simp [forL, layF]⟩
  | r :: rs, acc, z, h => by
    have h' : acc.length + rs.length + 1 ≤ 1000 := by simp at h; omega
    have hsz : acc.length < sizeLine := sz_lt (by omega)
    have go : ∀ (k : List Row) , k.length ≤ 1 → layR b e r = k → (∀ w, laid_l1 [R, some (fz (.int b)), some (fz (.int e)), some ⟨.nw, .lst (acc.map rowD)⟩, some (fz (rowD r))] w = .next [R, some (fz (.int b)), some (fz (.int e)), some ⟨.nw, .lst ((acc ++ k).map rowD)⟩, some (fz (rowD r))] w) →
        ∃ z', ∀ w, forL (.nm 4) laid_l1 ((r :: rs).map rowD) [R, some (fz (.int b)), some (fz (.int e)), some ⟨.nw, .lst (acc.map rowD)⟩, z] w = .next [R, some (fz (.int b)), some (fz (.int e)), some ⟨.nw, .lst ((acc ++ layF b e (r :: rs)).map rowD)⟩, z'] w := fun k hk ek hw => by
      obtain ⟨z', hz⟩ := laid_loop R b e rs (acc ++ k) (some (fz (rowD r))) (by simp; omega)
      refine ⟨z', fun w => ?_⟩
      have := hz w
      rw [List.map_cons]
      simp only [forL, setT_nm, List.set_cons_succ, List.set_cons_zero, hw]
      rw [this]
      simp [layF, ek]
    have a0 : atI [D.int r.b, .int r.e, .str (nm r.n)] 0 = some (.int r.b) := rfl
    have a1 : atI [D.int r.b, .int r.e, .str (nm r.n)] 1 = some (.int r.e) := rfl
    have a2 : atI [D.int r.b, .int r.e, .str (nm r.n)] 2 = some (.str (nm r.n)) := rfl
    by_cases h1 : r.e ≤ b
    · exact go [r] (by simp) (by simp [layR, h1]) fun w => by simp [laid_l1, rowD, a0, a1, a2, h1, hsz]
    · by_cases h2 : e ≤ r.b
      · exact go [r] (by simp) (by simp [layR, h2]) fun w => by simp [laid_l1, rowD, a0, a1, a2, h1, h2, hsz]
      · by_cases h3 : r.b < b
        · exact go [⟨r.b, b, r.n⟩] (by simp) (by simp [layR, h1, h2, h3]) fun w => by simp [laid_l1, rowD, a0, a1, a2, h1, h2, h3, hsz]
        · exact go [] (by simp) (by simp [layR, h1, h2, h3]) fun w => by simp [laid_l1, rowD, a0, a1, a2, h1, h2, h3, hsz]
theorem laid_ok (rs : List Row) (b e : Int) (hl : rs.length ≤ 1000) (w : W) : laid [.lst (rs.map rowD), .int b, .int e] w = .ok ⟨.nw, .lst ((layF b e rs).map rowD)⟩ w := by
  obtain ⟨z', h⟩ := laid_loop (some (fz (.lst (rs.map rowD)))) b e rs [] none (by simpa using hl)
  have h := h w
  simp only [List.map_nil, List.nil_append] at h
  simp [laid, fnD, laid_b]
  rw [h]
  simp
/-! ### their order -/
theorem le_rows {r s : Row} (h : r.b < s.b) : leD (rowD r) (rowD s) = true ∧ leD (rowD s) (rowD r) = false := by
  have h2 : ¬ s.b < r.b := by omega
  constructor <;> simp [leD, PySem.W.dataLe, PySem.W.sortLe, rowD, toP, toPs, PySem.W.keyToks, PySem.W.keyToksAll, PyProof.Rows.listOrd, PyProof.Rows.lexLt, PyProof.Rows.itemOrd, PyProof.Rows.itemLt, h, h2]
def Srt (rs : List Row) : Prop := rs.Pairwise fun r s => r.b < s.b
theorem srt_le {rs : List Row} (h : Srt rs) : (rs.map rowD).Pairwise fun a b => leD a b = true := List.Pairwise.map _ (fun _ _ h => (le_rows h).1) h
theorem sort_rows {l : List D} {rs : List Row} (h : Srt rs) (p : l.Perm (rs.map rowD)) : l.mergeSort leD = rs.map rowD := by
  have T := PySem.W.sortLe_total (PyProof.Rows.listOrd PyProof.Rows.itemOrd) false fun b : D => PySem.W.keyToks (toP b)
  refine List.Perm.eq_of_pairwise (le := fun a b => leD a b = true) ?_ (List.pairwise_mergeSort T.trans (fun a b => by simpa using T.total a b) l) (srt_le h) ((List.mergeSort_perm l leD).trans p)
  intro a b ha hb h1 h2
  have ha := p.mem_iff.mp (List.mem_mergeSort.mp ha)
  obtain ⟨r, hr, rfl⟩ := List.mem_map.mp ha
  obtain ⟨s, hs, rfl⟩ := List.mem_map.mp hb
  rcases Int.lt_trichotomy r.b s.b with q | q | q
  · rw [(le_rows q).2] at h2; cases h2
  · have : r = s := by
      have go : ∀ {l : List Row}, Srt l → r ∈ l → s ∈ l → r = s := by
        intro l hl
        induction hl with
        | nil => intro h; cases h
        | @cons a l h1 h2 ih =>
          intro hr hs
          rcases List.mem_cons.mp hr with e1 | m1 <;> rcases List.mem_cons.mp hs with e2 | m2
          · rw [e1, e2]
          · have := h1 _ m2; rw [← e1] at this; omega
          · have := h1 _ m1; rw [← e2] at this; omega
          · exact ih m1 m2
      exact go h hr hs
    rw [this]
  · rw [(le_rows q).2] at h1; cases h1
theorem sok_rows (l : List Row) (hl : l.length ≤ 1000) (hn : ∀ r ∈ l, PyData.strOk (nm r.n) = true) : SOk (l.map rowD) where
  pl := by
    simp only [List.all_eq_true, List.mem_map]
    rintro d ⟨r, hr, rfl⟩
    simp [plN, rowD, hn r hr]
  al := by
    intro d hd d' hd'
    simp only [List.mem_map] at hd hd'
    obtain ⟨_, ⟨p, _, rfl⟩, rfl⟩ := hd
    obtain ⟨_, ⟨q, _, rfl⟩, rfl⟩ := hd'
    simp [toP, toPs, rowD, PySem.W.alike, PySem.W.alikeAll]
  so := by
    refine .inl fun d hd => ?_
    simp only [List.mem_map] at hd
    obtain ⟨_, ⟨p, _, rfl⟩, rfl⟩ := hd
    exact ⟨_, _, rfl⟩
  sz := sz_le (by simp; omega)
/-- rows of a day: they rise, lie apart, and are texts -/
structure Rows (rs : List Row) : Prop where
  srt : rs.Pairwise fun r s => r.e ≤ s.b
  pos : ∀ r ∈ rs, r.b < r.e
  txt : ∀ r ∈ rs, PyData.strOk (nm r.n) = true
theorem Rows.sr {rs : List Row} (h : Rows rs) : Srt rs := by
  have := h.pos
  have h1 := h.srt
  clear h
  induction h1 with
  | nil => exact .nil
  | @cons r rs a b ih =>
    refine .cons (fun s hs => ?_) (ih fun r hr => this r (List.mem_cons_of_mem _ hr))
    have := this r List.mem_cons_self
    have := a s hs
    omega
theorem layR_mem {b e : Int} {r s : Row} (h : s ∈ layR b e r) : s.b = r.b ∧ s.e ≤ r.e ∧ s.n = r.n ∧ (s.e ≤ b ∨ e ≤ s.b) ∧ (s = r ∨ (s.b < b ∧ s.e = b)) := by
  unfold layR at h
  split at h
  · simp at h; subst h; rename_i q; exact ⟨rfl, Int.le_refl _, rfl, q, .inl rfl⟩
  · split at h
    · simp at h; subst h; rename_i q1 q2; simp only [not_or] at q1; refine ⟨rfl, ?_, rfl, .inl (Int.le_refl _), .inr ⟨q2, rfl⟩⟩; show b ≤ r.e; omega
    · simp at h
theorem lay_rows {b e : Int} {rs : List Row} (h : Rows rs) : Rows (layF b e rs) := by
  refine ⟨?_, ?_, ?_⟩
  · have h1 := h.srt
    clear h
    induction h1 with
    | nil => exact .nil
    | @cons r rs a bb ih =>
      simp only [layF, List.flatMap_cons]
      refine List.pairwise_append.mpr ⟨?_, ih, ?_⟩
      · have := layR_le b e r
        cases hh : layR b e r with
        | nil => exact .nil
        | cons x xs => rw [hh] at this; simp at this; subst this; simp
      · intro x hx y hy
        obtain ⟨s, hs, hy⟩ := List.mem_flatMap.mp hy
        have p1 := layR_mem hx
        have p2 := layR_mem hy
        have := a s hs
        omega
  · intro s hs
    obtain ⟨r, hr, hs⟩ := List.mem_flatMap.mp hs
    have p := layR_mem hs
    have := h.pos r hr
    rcases p.2.2.2.2 with rfl | q
    · exact this
    · omega
  · intro s hs
    obtain ⟨r, hr, hs⟩ := List.mem_flatMap.mp hs
    rw [(layR_mem hs).2.2.1]
    exact h.txt r hr
/-- the row x among the others -/
def layW (x : Row) (rs : List Row) : List Row := (layF x.b x.e rs).filter (fun r => decide (r.b < x.b)) ++ x :: (layF x.b x.e rs).filter (fun r => !decide (r.b < x.b))
theorem layW_rows {x : Row} {rs : List Row} (h : Rows rs) (hx : x.b < x.e) (ht : PyData.strOk (nm x.n) = true) : Rows (layW x rs) := by
  have L := lay_rows (b := x.b) (e := x.e) h
  have sp : ∀ r ∈ layF x.b x.e rs, r.e ≤ x.b ∨ x.e ≤ r.b := fun s hs => by
    obtain ⟨r, hr, hs⟩ := List.mem_flatMap.mp hs
    exact (layR_mem hs).2.2.2.1
  refine ⟨?_, ?_, ?_⟩
  · refine List.pairwise_append.mpr ⟨L.srt.filter _, .cons (fun s hs => ?_) (L.srt.filter _), fun r hr s hs => ?_⟩
    · simp only [List.mem_filter] at hs
      have := sp s hs.1
      have := L.pos s hs.1
      have : ¬ s.b < x.b := by simpa using hs.2
      omega
    · simp only [List.mem_filter] at hr
      have h1 : r.b < x.b := by simpa using hr.2
      have h2 := sp r hr.1
      have h3 := L.pos r hr.1
      rcases List.mem_cons.mp hs with rfl | hs
      · omega
      · simp only [List.mem_filter] at hs
        have := sp s hs.1
        have := L.pos s hs.1
        have : ¬ s.b < x.b := by simpa using hs.2
        omega
  · intro r hr
    simp only [layW, List.mem_append, List.mem_cons, List.mem_filter] at hr
    rcases hr with hr | rfl | hr
    · exact L.pos r hr.1
    · exact hx
    · exact L.pos r hr.1
  · intro r hr
    simp only [layW, List.mem_append, List.mem_cons, List.mem_filter] at hr
    rcases hr with hr | rfl | hr
    · exact L.txt r hr.1
    · exact ht
    · exact L.txt r hr.1
theorem layW_perm (x : Row) (rs : List Row) : (layF x.b x.e rs ++ [x]).Perm (layW x rs) := by
  have h1 := List.filter_append_perm (fun r : Row => decide (r.b < x.b)) (layF x.b x.e rs)
  refine (List.Perm.append_right _ h1.symm).trans ?_
  unfold layW
  rw [List.append_assoc]
  exact List.Perm.append_left _ (List.perm_append_comm.trans (by simp))
theorem layW_len (x : Row) (rs : List Row) : (layW x rs).length ≤ rs.length + 1 := by
  rw [← (layW_perm x rs).length_eq]
  have := layF_le x.b x.e rs
  simp
  omega
theorem laidw_ok (rs : List Row) (b e : Int) (n : Str) (h : Rows rs) (hb : b < e) (ht : PyData.strOk n = true) (hl : rs.length ≤ 900) (w : W) : laid_with [.lst (rs.map rowD), .int b, .int e, .str n] w = .ok ⟨.nw, .lst ((layW ⟨b, e, n.cps.toList⟩ rs).map rowD)⟩ w := by
  have e1 := laid_ok rs b e (by omega) w
  have hL := layF_le b e rs
  have z : (layF b e rs).length + 1 ≤ sizeLine := sz_le (by omega)
  have W := layW_rows (x := ⟨b, e, n.cps.toList⟩) h hb (by rw [nm_of]; exact ht)
  have er : (D.tup [.int b, .int e, .str n]) = rowD ⟨b, e, n.cps.toList⟩ := by simp [rowD, nm_of]
  have ea : (layF b e rs).map rowD ++ [D.tup [.int b, .int e, .str n]] = (layF b e rs ++ [(⟨b, e, n.cps.toList⟩ : Row)]).map rowD := by rw [er]; simp
  have so : SOk ((layF b e rs).map rowD ++ [D.tup [.int b, .int e, .str n]]) := by
    rw [ea]
    refine sok_rows _ (by simp; omega) fun r hr => ?_
    exact W.txt r ((layW_perm ⟨b, e, n.cps.toList⟩ rs).mem_iff.mp hr)
  have sr : ((layF b e rs).map rowD ++ [D.tup [.int b, .int e, .str n]]).mergeSort leD = (layW ⟨b, e, n.cps.toList⟩ rs).map rowD := by
    rw [ea]
    exact sort_rows W.sr ((layW_perm ⟨b, e, n.cps.toList⟩ rs).map rowD)
  simp [laid_with, fnD, laid_with_b, e1, z, gSorted, so, sr]
/-! ### what is asked of a station, a day, a show -/
def stB (h : Hs) (d : D) : Bool := match d with
  | .str x => nameB (.str x) && (valD h.seats (.inr x)).isSome
  | _ => false
section
variable {k : Nat} (p : Pre k) (n : Nat) (h : Hs)
theorem lookst (d : D) (o : okD d = true) : House_look_station [.obj k, d] (wP p n h) = if stB h d then .ok (fz .non) (wP p n h) else .ex ⟨"NoStation", []⟩ (wP p n h) := by
  cases q : nameB d with
  | false =>
    have : stB h d = false := by cases d <;> simp [stB] <;> simp [q]
    rw [this]
    simpa using lookst_no p n h d o q
  | true =>
    cases d <;> simp [nameB] at q
    rename_i x
    have q : nameB (.str x) = true := by simpa [nameB] using q
    cases s : valD h.seats (.inr x) with
    | none => simpa [stB, q, s] using lookst_none p n h x q s
    | some v => simpa [stB, q, s] using lookst_ok p n h x q (by simp [s])
theorem week_rows_no (d e : D) (o : okD d = true) (q : stB h d = false) : House_week_rows [.obj k, d, e] (wP p n h) = .ex ⟨"NoStation", []⟩ (wP p n h) := by
  have := lookst p n h d o
  simp [House_week_rows, fnD, House_week_rows_b, this, q]
theorem week_rows_no_day (d e : D) (o : okD d = true) (q : stB h d = true) (o2 : okD e = true) (q2 : numB e 0 99 = false) : House_week_rows [.obj k, d, e] (wP p n h) = .ex ⟨"NoDay", []⟩ (wP p n h) := by
  have := lookst p n h d o
  have e2 := look_day_ok e o2
  simp [House_week_rows, fnD, House_week_rows_b, this, q, e2, q2]
theorem own_no (d e : D) (o : okD d = true) (q : stB h d = false) : House_own_rows [.obj k, d, e] (wP p n h) = .ex ⟨"NoStation", []⟩ (wP p n h) := by
  have := week_rows_no p n h d e o q
  simp [House_own_rows, fnD, House_own_rows_b, this]
theorem own_no_day (d e : D) (o : okD d = true) (q : stB h d = true) (o2 : okD e = true) (q2 : numB e 0 99 = false) : House_own_rows [.obj k, d, e] (wP p n h) = .ex ⟨"NoDay", []⟩ (wP p n h) := by
  have := week_rows_no_day p n h d e o q o2 q2
  simp [House_own_rows, fnD, House_own_rows_b, this]
end
/-! ### the week's plan -/
structure Wk where
  s : Str
  d : Int
  f : Int
  b : Int
  e : Int
  n : Option Str
def nmD : Option Str → D
  | none => .non
  | some x => .str x
def wkD (w : Wk) : D := .tup [.str w.s, .int w.d, .int w.f, .int w.b, .int w.e, nmD w.n]
def wkS (x : Str) (day wd : Int) (rs : List Row) (w : Wk) : List Row := if w.s = x ∧ w.d = wd ∧ w.f ≤ day then (match w.n with | none => layF w.b w.e rs | some y => layW ⟨w.b, w.e, y.cps.toList⟩ rs) else rs
def wkF (x : Str) (day wd : Int) (ws : List Wk) : List Row := ws.foldl (wkS x day wd) []
def WksOk (ws : List Wk) : Prop := ws.length ≤ 800 ∧ ∀ w ∈ ws, w.b < w.e ∧ PyData.strOk w.s = true ∧ ∀ y, w.n = some y → PyData.strOk y = true
def WkOk (h : Hs) : Prop := ∃ ws, h.weeks = ws.map wkD ∧ WksOk ws
theorem name_ok {x : Str} (h : nameB (.str x) = true) : PyData.strOk x = true := by
  rw [← nm_of x]
  refine strOk_nm fun c hc => ?_
  simp only [nameB, nameL, Bool.and_eq_true, List.all_eq_true] at h
  have := h.2 c hc
  simp only [isL, Bool.and_eq_true, decide_eq_true_eq] at this
  omega
theorem gEq_s2 (x y : Str) (hx : PyData.strOk x = true) (hy : PyData.strOk y = true) (b : Bool) (m m' : Md) (w : W) : gEq b ⟨m, .str x⟩ ⟨m', .str y⟩ w = .ok (fz (.bl (b != decide (x = y)))) w := by
  have e : (x == y) = decide (x = y) := by by_cases h : x = y <;> simp [h]
  simp [gEq, pl, plN, eqD, hx, hy, e]
theorem gEq_i2 (i j : Int) (b : Bool) (m m' : Md) (w : W) : gEq b ⟨m, .int i⟩ ⟨m', .int j⟩ w = .ok (fz (.bl (b != decide (i = j)))) w := by
  have e : (i == j) = decide (i = j) := by by_cases h : i = j <;> simp [h]
  simp [gEq, pl, plN, eqD, e]
theorem wkS_ok {x : Str} {day wd : Int} {rs : List Row} {w : Wk} (R : Rows rs) (hb : w.b < w.e) (hn : ∀ y, w.n = some y → PyData.strOk y = true) : Rows (wkS x day wd rs w) ∧ (wkS x day wd rs w).length ≤ rs.length + 1 := by
  unfold wkS
  split
  · cases e : w.n with
    | none => exact ⟨lay_rows R, by have := layF_le w.b w.e rs; simp only; omega⟩
    | some y => exact ⟨layW_rows R hb (by rw [nm_of]; exact hn y e), layW_len _ rs⟩
  · exact ⟨R, by omega⟩
theorem wk_loop (z0 : Option Val) (x : Str) (day wd : Int) (ox : PyData.strOk x = true) (w0 : W) : ∀ (ws : List Wk) (rs : List Row) (z5 z6 z7 z8 z9 z10 : Option Val), Rows rs → rs.length + ws.length ≤ 850 → (∀ w ∈ ws, w.b < w.e ∧ PyData.strOk w.s = true ∧ ∀ y, w.n = some y → PyData.strOk y = true) →
    ∃ y5 y6 y7 y8 y9 y10, forLq (.tp [5, 6, 7, 8, 9, 10]) House_rows_by_week_l1 w0 (ws.map wkD) [z0, some (fz (.str x)), some (fz (.int day)), some (fz (.int wd)), some (fz (.lst (rs.map rowD))), z5, z6, z7, z8, z9, z10] w0 =
      .next [z0, some (fz (.str x)), some (fz (.int day)), some (fz (.int wd)), some (fz (.lst ((ws.foldl (wkS x day wd) rs).map rowD))), y5, y6, y7, y8, y9, y10] w0
  | [], rs, z5, z6, z7, z8, z9, z10, _, _, _ => ⟨z5, z6, z7, z8, z9, z10, rfl⟩
  | w :: ws, rs, z5, z6, z7, z8, z9, z10, R, hl, hw => by
    obtain ⟨hb, os, on⟩ := hw w List.mem_cons_self
    obtain ⟨R2, l2⟩ := wkS_ok (x := x) (day := day) (wd := wd) (w := w) R hb on
    have hl' : rs.length + (ws.length + 1) ≤ 850 := by simpa using hl
    obtain ⟨y5, y6, y7, y8, y9, y10, ih⟩ := wk_loop z0 x day wd ox w0 ws (wkS x day wd rs w) (some (fz (.str w.s))) (some (fz (.int w.d))) (some (fz (.int w.f))) (some (fz (.int w.b))) (some (fz (.int w.e))) (some (fz (nmD w.n))) R2 (by omega) (fun v hv => hw v (List.mem_cons_of_mem _ hv))
    refine ⟨y5, y6, y7, y8, y9, y10, ?_⟩
    have sT : setT (.tp [5, 6, 7, 8, 9, 10]) (wkD w) [z0, some (fz (.str x)), some (fz (.int day)), some (fz (.int wd)), some (fz (.lst (rs.map rowD))), z5, z6, z7, z8, z9, z10] = some [z0, some (fz (.str x)), some (fz (.int day)), some (fz (.int wd)), some (fz (.lst (rs.map rowD))), some (fz (.str w.s)), some (fz (.int w.d)), some (fz (.int w.f)), some (fz (.int w.b)), some (fz (.int w.e)), some (fz (nmD w.n))] := rfl
    have e1 := fun w' => laid_ok rs w.b w.e (by omega) w'
    have q1 := fun m m' w' => gEq_s2 w.s x os ox false m m' w'
    have q2 := fun m m' w' => gEq_i2 w.d wd false m m' w'
    have q1x := fun m m' w' => gEq_s2 x x ox ox false m m' w'
    have q2x := fun m m' w' => gEq_i2 wd wd false m m' w'
    have st : House_rows_by_week_l1 [z0, some (fz (.str x)), some (fz (.int day)), some (fz (.int wd)), some (fz (.lst (rs.map rowD))), some (fz (.str w.s)), some (fz (.int w.d)), some (fz (.int w.f)), some (fz (.int w.b)), some (fz (.int w.e)), some (fz (nmD w.n))] w0 = .next [z0, some (fz (.str x)), some (fz (.int day)), some (fz (.int wd)), some (fz (.lst ((wkS x day wd rs w).map rowD))), some (fz (.str w.s)), some (fz (.int w.d)), some (fz (.int w.f)), some (fz (.int w.b)), some (fz (.int w.e)), some (fz (nmD w.n))] w0 := by
      by_cases h1 : w.s = x
      · by_cases h2 : w.d = wd
        · by_cases h3 : w.f ≤ day
          · cases en : w.n with
            | none => simp [House_rows_by_week_l1, q1, q2, q1x, q2x, h1, h2, h3, wkS, en, nmD, gIsN, DL.isNon, e1]
            | some y =>
              have e2 := fun w' => laidw_ok rs w.b w.e y R hb (on y en) (by omega) w'
              simp [House_rows_by_week_l1, q1, q2, q1x, q2x, h1, h2, h3, wkS, en, nmD, gIsN, DL.isNon, e2]
          · simp [House_rows_by_week_l1, q1, q2, q1x, q2x, h1, h2, h3, wkS]
        · simp [House_rows_by_week_l1, q1, q2, q1x, q2x, h1, h2, wkS]
      · simp [House_rows_by_week_l1, q1, h1, wkS]
    rw [List.map_cons]
    simp only [forLq, sT, st, if_true]
    exact ih
section
variable {k : Nat} (p : Pre k) (n : Nat) (h : Hs)
theorem week_rows_ok (x : Str) (i : Int) (q : stB h (.str x) = true) (i0 : 0 ≤ i) (i1 : i < 100) {ws : List Wk} (hw : h.weeks = ws.map wkD) (W : WksOk ws) : House_week_rows [.obj k, .str x, .int i] (wP p n h) = .ok (fz (.lst ((wkF x i (i % 5) ws).map rowD))) (wP p n h) := by
  have o : okD (.str x) = true := okD_name (by simp [stB] at q; exact q.1)
  have ox : PyData.strOk x = true := name_ok (by simp [stB] at q; exact q.1)
  have := lookst p n h (.str x) o
  have e2 := look_day_ok (.int i) rfl
  have b2 : numB (.int i) 0 99 = true := by simp [numB]; omega
  obtain ⟨y5, y6, y7, y8, y9, y10, e3⟩ := wk_loop (some (fz (.obj k))) x i (i % 5) ox (wP p n h) ws [] none none none none none none ⟨by simp, by simp, by simp⟩ (by have := W.1; simp; omega) W.2
  have e4 : House_rows_by_week [.obj k, .str x, .int i, .int (i % 5)] (wP p n h) = .ok (fz (.lst ((wkF x i (i % 5) ws).map rowD))) (wP p n h) := by
    simp only [List.map_nil] at e3
    simp [House_rows_by_week, fnD, House_rows_by_week_b, hw]
    rw [e3]
    simp [wkF]
  simp [House_week_rows, fnD, House_week_rows_b, this, q, e2, b2, e4]
/-- the rows of a day -/
def rowsAt (h : Hs) (x : Str) (i : Int) (rs : List Row) : Prop := match valD h.plans [.inr x, .inl i] with
  | some d => d = .lst (rs.map rowD)
  | none => ∃ ws, h.weeks = ws.map wkD ∧ WksOk ws ∧ rs = wkF x i (i % 5) ws
theorem own_ok (x : Str) (i : Int) (rs : List Row) (q : stB h (.str x) = true) (i0 : 0 ≤ i) (i1 : i < 100) (hw : WkOk h) (hr : rowsAt h x i rs) : ∃ m, keepM ⟨m, .lst (rs.map rowD)⟩ = true ∧ House_own_rows [.obj k, .str x, .int i] (wP p n h) = .ok ⟨m, .lst (rs.map rowD)⟩ (wP p n h) := by
  unfold rowsAt at hr
  cases e : valD h.plans [.inr x, .inl i] with
  | none =>
    rw [e] at hr
    obtain ⟨ws, hws, W, rfl⟩ := hr
    have := week_rows_ok p n h x i q i0 i1 hws W
    exact ⟨.fz, rfl, by simp [House_own_rows, fnD, House_own_rows_b, this, e]⟩
  | some d =>
    rw [e] at hr
    subst hr
    obtain ⟨ws, hws, W⟩ := hw
    have := week_rows_ok p n h x i q i0 i1 hws W
    exact ⟨.nw, rfl, by simp [House_own_rows, fnD, House_own_rows_b, this, e]⟩
end
/-! ### plans of days -/
abbrev Pln := List ((Str × Int) × List Row)
def plK (q : Str × Int) : List Key := [.inr q.1, .inl q.2]
def plD (P : Pln) : List (List Key × D) := P.map fun q => (plK q.1, .lst (q.2.map rowD))
theorem plK_inj {a b : Str × Int} (h : plK a = plK b) : a = b := by
  obtain ⟨a1, a2⟩ := a
  obtain ⟨b1, b2⟩ := b
  simp [plK] at h
  rw [h.1, h.2]
/-- the plans of a house -/
structure Plans (h : Hs) (P : Pln) : Prop where
  eq : h.plans = plD P
  nd : (P.map (·.1)).Nodup
  ok : ∀ q ∈ P, Rows q.2 ∧ q.2.length ≤ 24 ∧ PyData.strOk q.1.1 = true
  le : P.length ≤ 100
theorem val_pl : ∀ {P : Pln}, (P.map (·.1)).Nodup → ∀ q ∈ P, valD (plD P) (plK q.1) = some (.lst (q.2.map rowD))
  | [], _, q, h => by cases h
  | a :: P, nd, q, h => by
    rw [List.map_cons, List.nodup_cons] at nd
    rcases List.mem_cons.mp h with rfl | h
    · simp [plD, valD]
    · have ne : ¬ plK a.1 = plK q.1 := fun e => nd.1 (by rw [plK_inj e]; exact List.mem_map.mpr ⟨q, h, rfl⟩)
      have ih := val_pl nd.2 q h
      simp only [plD, valD, List.map_cons, List.find?_cons] at ih ⊢
      simp only [ne, decide_false]
      exact ih
def tmR (x : Str) (q : (Str × Int) × List Row) : List D := (q.2.filter fun r => decide (nm r.n = x)).map fun r => .tup [.int q.1.2, .str q.1.1, .int r.b]
def tmF (P : Pln) (x : Str) : List D := P.flatMap (tmR x)
theorem gEq_ss (x y : Str) (hx : PyData.strOk x = true) (hy : PyData.strOk y = true) (b : Bool) (m m' : Md) (w : W) : gEq b ⟨m, .str x⟩ ⟨m', .str y⟩ w = .ok (fz (.bl (b != decide (x = y)))) w := by
  have e : (x == y) = decide (x = y) := by rw [Bool.eq_iff_iff]; simp
  simp [gEq, pl, plN, hx, hy, eqD, e]
theorem sok_tm {l : List D} (hl : l.length ≤ 10000) (h : ∀ d ∈ l, ∃ (i j : Int) (x : Str), d = .tup [.int i, .str x, .int j] ∧ PyData.strOk x = true) : SOk l where
  pl := by
    simp only [List.all_eq_true]
    intro d hd
    obtain ⟨i, j, x, rfl, hx⟩ := h d hd
    simp [plN, hx]
  al := by
    intro d hd d' hd'
    simp only [List.mem_map] at hd hd'
    obtain ⟨a, ha, rfl⟩ := hd
    obtain ⟨b, hb, rfl⟩ := hd'
    obtain ⟨i, j, x, rfl, hx⟩ := h a ha
    obtain ⟨i', j', x', rfl, hx'⟩ := h b hb
    simp [toP, toPs, PySem.W.alike, PySem.W.alikeAll]
  so := by
    refine .inl fun d hd => ?_
    simp only [List.mem_map] at hd
    obtain ⟨a, ha, rfl⟩ := hd
    obtain ⟨i, j, x, rfl, hx⟩ := h a ha
    exact ⟨_, _, rfl⟩
  sz := sz_le (by omega)
theorem tmR_mem {x : Str} {q : (Str × Int) × List Row} {d : D} (h : d ∈ tmR x q) : ∃ (i j : Int) (y : Str), d = .tup [.int i, .str y, .int j] ∧ y = q.1.1 := by
  obtain ⟨r, _, rfl⟩ := List.mem_map.mp h
  exact ⟨_, _, _, rfl, rfl⟩
theorem tmF_le (x : Str) : ∀ P : Pln, (∀ q ∈ P, q.2.length ≤ 24) → (tmF P x).length ≤ 24 * P.length
  | [], _ => by simp [tmF]
  | q :: P, h => by
    have h1 := h q List.mem_cons_self
    have h2 := tmF_le x P fun a ha => h a (List.mem_cons_of_mem _ ha)
    have h3 : (tmR x q).length ≤ q.2.length := by simp [tmR]; exact List.length_filter_le _ _
    simp only [tmF, List.flatMap_cons, List.length_append, List.length_cons] at h2 ⊢
    omega
section
variable {k : Nat} (p : Pre k) (n : Nat) (h : Hs)
theorem times_ok (x : Str) (P : Pln) (S : D) (q : nameB (.str x) = true) (ox : PyData.strOk x = true) (s : valD h.known (.inr x) = some S) (hP : Plans h P) : House_times [.obj k, .str x] (wP p n h) = .ok ⟨.nw, .lst ((tmF P x).mergeSort leD)⟩ (wP p (n + 2) h) := by
  have e1 := show_ok p n h x S q s
  have hlen := tmF_le x P fun q hq => (hP.ok q hq).2.1
  have hPl := hP.le
  have so : SOk (tmF P x) := sok_tm (by omega) fun d hd => by
    obtain ⟨q, hq, hd⟩ := List.mem_flatMap.mp hd
    obtain ⟨i, j, y, e, ey⟩ := tmR_mem hd
    exact ⟨i, j, y, e, by rw [ey]; exact (hP.ok q hq).2.2⟩
  have key : ∃ z3 z4 z5, forLq (.tp [3, 4]) House_times_l1 (wL p n h) ((plD P).map fun q => .tup (q.1.map dKy)) [some (fz (.obj k)), some (fz (.str x)), some ⟨.nw, .lst []⟩, none, none, none] (wL p n h) = .next [some (fz (.obj k)), some (fz (.str x)), some ⟨.nw, .lst (tmF P x)⟩, z3, z4, z5] (wL p n h) := by
    obtain ⟨ρ', e, z3, z4, z5, rfl⟩ := forLq_inv (t := .tp [3, 4]) (b := House_times_l1) (w0 := wL p n h) (fun i ρ => ∃ z3 z4 z5, ρ = [some (fz (.obj k)), some (fz (.str x)), some ⟨.nw, .lst (tmF (P.take i) x)⟩, z3, z4, z5]) ((plD P).map fun q => .tup (q.1.map dKy)) 0 [some (fz (.obj k)), some (fz (.str x)), some ⟨.nw, .lst []⟩, none, none, none] ⟨none, none, none, by simp [tmF]⟩ (by
      rintro i d ρ hd ⟨z3, z4, z5, rfl⟩
      simp only [Nat.zero_add] at *
      simp only [plD, List.map_map, List.getElem?_map] at hd
      cases ep : P[i]? with
      | none => rw [ep] at hd; simp at hd
      | some a =>
        rw [ep] at hd
        simp [plK] at hd
        subst hd
        have ha : a ∈ P := List.mem_of_getElem? ep
        have hv := val_pl hP.nd a ha
        simp only [plK] at hv
        obtain ⟨hr, hl, ht⟩ := hP.ok a ha
        have hT : tmF (P.take (i + 1)) x = tmF (P.take i) x ++ tmR x a := by
          rw [List.take_add_one, ep]
          simp [tmF]
        have z1 : a.2.length ≤ sizeLine := sz_le (by omega)
        have ln : (tmF (P.take i) x).length + (tmR x a).length ≤ 10000 := by
          have h1 := tmF_le x (P.take (i + 1)) fun q hq => (hP.ok q (List.mem_of_mem_take hq)).2.1
          rw [hT, List.length_append] at h1
          have : (P.take (i + 1)).length ≤ P.length := by rw [List.length_take]; omega
          omega
        have z2 : (tmF (P.take i) x).length + (tmR x a).length ≤ sizeLine := sz_le ln
        have lc : dLc (iSq (dIxT (dFld "plans" (dVar 0)) (keyT (dCons (dVar 3) (dOne (dVar 4)))))) (.nm 5) (tst (dOp (gEq false) (dOp gIx (dVar 5) (dC (.int 2))) (dVar 1))) (dTup (dCons (dVar 4) (dCons (dVar 3) (dOne (dOp gIx (dVar 5) (dC (.int 0))))))) [5] [some (fz (.obj k)), some (fz (.str x)), some ⟨.nw, .lst (tmF (P.take i) x)⟩, some (fz (.str a.1.1)), some (fz (.int a.1.2)), z5] (wL p n h) = .ok ⟨.nw, .lst (tmR x a)⟩ (wL p n h) := by
          refine dLc_ok (ds := a.2.map rowD) (b := true) (by simp [iSq, hP.eq, hv]) (by simpa using z1) ?_
          refine lcL_mapW rowD (fun r => decide (nm r.n = x)) (fun r => .tup [.int a.1.2, .str a.1.1, .int r.b]) a.2 fun r hr' => ?_
          have a2 : atI [D.int r.b, .int r.e, .str (nm r.n)] 2 = some (.str (nm r.n)) := rfl
          have a0 : atI [D.int r.b, .int r.e, .str (nm r.n)] 0 = some (.int r.b) := rfl
          exact ⟨_, rfl, by simp [rowD, a2, gEq_ss _ _ (hr.txt r hr') ox], fun _ => ⟨.fz, rfl, by simp [rowD, a0]⟩⟩
        refine ⟨[some (fz (.obj k)), some (fz (.str x)), some ⟨.nw, .lst (tmF (P.take i) x)⟩, some (fz (.str a.1.1)), some (fz (.int a.1.2)), z5], [some (fz (.obj k)), some (fz (.str x)), some ⟨.nw, .lst (tmF (P.take (i + 1)) x)⟩, some (fz (.str a.1.1)), some (fz (.int a.1.2)), z5], by simp [setT, setAll], ?_, _, _, _, rfl⟩
        simp [House_times_l1, sExt, lc, z2, hT])
    refine ⟨z3, z4, z5, ?_⟩
    rw [e]
    simp [plD, List.take_of_length_le]
  obtain ⟨z3, z4, z5, key⟩ := key
  rw [← hP.eq] at key
  have fd := sForD_ok (p := p) (n := n) (h := h) (loc := locF 0 "plans") (locF_plans (ρ := [some (fz (.obj k)), some (fz (.str x)), some ⟨.nw, .lst []⟩, none, none, none]) (m := .fz) rfl) key
  simp [House_times, fnD, House_times_b, e1, fd, gSorted, so]
end
/-! ### put -/
section
variable {k : Nat} (p : Pre k) (n : Nat) (h : Hs)
theorem station_st (d : D) (o : okD d = true) (q : stB h d = false) : House_station [.obj k, d] (wP p n h) = .ex ⟨"NoStation", []⟩ (wP p n h) := by
  have := lookst p n h d o
  simp [House_station, fnD, House_station_b, this, q]
theorem st_seat {x : Str} {S : D} (q : nameB (.str x) = true) (s : valD h.seats (.inr x) = some S) : stB h (.str x) = true := by simp [stB, q, s]
theorem gSl_seat (u a b m : D) (md : Md) (w : W) : gSl ⟨md, .tup [u, a, b, m]⟩ (some 1) (some 3) w = .ok (fz (.tup [a, b])) w := by
  have cu : cutL [u, a, b, m] (some 1) (some 3) = [a, b] := rfl
  simp [gSl, cu]; decide
theorem put_no (d a b c : D) (o : okD d = true) (q : stB h d = false) : House_put [.obj k, d, a, b, c] (wP p n h) = .ex ⟨"NoStation", []⟩ (wP p n h) := by
  have e1 := station_st p n h d o q
  simp [House_put, fnD, House_put_b, House_put_s1, e1]
variable {x : Str} {u m : D} {f l : Int} (q : nameB (.str x) = true) (s : valD h.seats (.inr x) = some (.tup [u, .int f, .int l, m]))
include q s
theorem put_no_day (a b c : D) (o : okD a = true) (na : numB a 0 99 = false) : House_put [.obj k, .str x, a, b, c] (wP p n h) = .ex ⟨"NoDay", []⟩ (wP p n h) := by
  have e1 := station_ok p n h x _ q s
  have e2 := look_day_ok a o
  simp [House_put, fnD, House_put_b, House_put_s1, House_put_s2, e1, gSl_seat, e2, na]
theorem put_no_show (i : Int) (b c : D) (i0 : 0 ≤ i) (i1 : i < 100) (hs : House_show [.obj k, c] (wP p n h) = .ex ⟨"NoShow", []⟩ (wP p n h)) : House_put [.obj k, .str x, .int i, b, c] (wP p n h) = .ex ⟨"NoShow", []⟩ (wP p n h) := by
  have e1 := station_ok p n h x _ q s
  have e2 := look_day_ok (.int i) rfl
  have b2 : numB (.int i) 0 99 = true := by simp [numB]; omega
  simp [House_put, fnD, House_put_b, House_put_s1, House_put_s2, House_put_s3, e1, gSl_seat, e2, b2, hs]
variable {y so : Str} {lg mo : Int} {lv : Bool} (qy : nameB (.str y) = true) (sy : valD h.known (.inr y) = some (shD y so lg lv mo))
include qy sy
theorem put_no_hour (i : Int) (b : D) (i0 : 0 ≤ i) (i1 : i < 100) (o : okD b = true) (nb : numB b f (l - lg) = false) : House_put [.obj k, .str x, .int i, b, .str y] (wP p n h) = .ex ⟨"NoHour", []⟩ (wP p n h) := by
  have e1 := station_ok p n h x _ q s
  have e2 := look_day_ok (.int i) rfl
  have b2 : numB (.int i) 0 99 = true := by simp [numB]; omega
  have e3 := show_ok p n h y _ qy sy
  have e4 := is_number_ok b f (l - lg) o
  have a2 : atI [D.str y, .str so, .int lg, .bl lv, .int mo] 2 = some (.int lg) := rfl
  unfold shD at e3
  simp [House_put, fnD, House_put_b, House_put_s1, House_put_s2, House_put_s3, House_put_s4, e1, gSl_seat, e2, b2, e3, a2, e4, nb]
theorem put_lc {rs : List Row} (hr : Rows rs) (hl : rs.length ≤ 1000) (oy : PyData.strOk y = true) {ρ : DL.Env} {j : Nat} {w : W} (hj : ρ[j]? = some (some (fz (.lst (rs.map rowD))))) (h4 : ρ[4]? = some (some (fz (.str y)))) (h11 : 11 < ρ.length) : dLc (iSq (dVar j)) (.nm 11) (tst (dOp (gEq false) (dOp gIx (dVar 11) (dC (.int 2))) (dVar 4))) (dVar 11) [11] ρ w = .ok ⟨.nw, .lst ((rs.filter fun r => decide (nm r.n = y)).map rowD)⟩ w := by
  refine dLc_ok (ds := rs.map rowD) (b := true) (by simp [iSq, hj]) (by simpa using sz_le (by omega)) ?_
  refine lcL_mapW rowD (fun r => decide (nm r.n = y)) rowD rs fun r hr' => ?_
  have a2 : atI [D.int r.b, .int r.e, .str (nm r.n)] 2 = some (.str (nm r.n)) := rfl
  refine ⟨(wipeD ρ [11]).set 11 (some (fz (rowD r))), rfl, ?_, fun _ => ⟨.fz, rfl, ?_⟩⟩
  · simp [rowD, a2, h4, h11, List.getElem?_set, gEq_ss _ _ (hr.txt r hr') oy]
  · simp [h11, List.getElem?_set]
end
/-! ### put with rights -/
section
variable {k : Nat} (p : Pre k) (n : Nat) (h : Hs)
variable {x : Str} {u m : D} {f l : Int} (q : nameB (.str x) = true) (s : valD h.seats (.inr x) = some (.tup [u, .int f, .int l, m]))
variable {y so : Str} {lg mo : Int} {lv : Bool} (qy : nameB (.str y) = true) (sy : valD h.known (.inr y) = some (shD y so lg lv mo))
include q s qy sy
theorem put_okR (i b : Int) (rs : List Row) (i0 : 0 ≤ i) (i1 : i < 100) (oy : PyData.strOk y = true) (nb : numB (.int b) f (l - lg) = true) (lg0 : 0 < lg) (hm : h.many ≤ i * 24 + b) (hmo : 0 < mo) (P : Pln) (hP : Plans h P) (hn : ((tmF P y).length : Int) + ((((layW ⟨b, b + lg, y.cps.toList⟩ rs).filter fun r => decide (nm r.n = y)).length : Int) - ((rs.filter fun r => decide (nm r.n = y)).length : Int)) ≤ mo) (hw : WkOk h) (hr : rowsAt h x i rs) (R : Rows rs) (hl : rs.length ≤ 100) (hp : h.plans.length < 1000) (hd : h.done.length < 1000) :
    House_put [.obj k, .str x, .int i, .int b, .str y] (wP p n h) = .ok (fz (.int (layW ⟨b, b + lg, y.cps.toList⟩ rs).length)) (wP p (n + 4) { h with plans := putKD h.plans [.inr x, .inl i] (.lst ((layW ⟨b, b + lg, y.cps.toList⟩ rs).map rowD)), done := h.done ++ [.tup [.str "put", .str x, .int i, .int b, .str y]] }) := by
  have e1 := station_ok p n h x _ q s
  have e2 := look_day_ok (.int i) rfl
  have b2 : numB (.int i) 0 99 = true := by simp [numB]; omega
  have e3 := show_ok p n h y _ qy sy
  have e4 := is_number_ok (.int b) f (l - lg) rfl
  have a2 : atI [D.str y, .str so, .int lg, .bl lv, .int mo] 2 = some (.int lg) := rfl
  have a4 : atI [D.str y, .str so, .int lg, .bl lv, .int mo] 4 = some (.int mo) := rfl
  have c1 := cmulR i 24 (by decide) (by decide)
  have hm' : ¬ (i * 24 + b < h.many) := by omega
  obtain ⟨md, km, e5⟩ := own_ok p n h x i rs (st_seat h q s) i0 i1 hw hr
  have e6 := laidw_ok rs b (b + lg) y R (by omega) oy (by omega)
  have W := layW_rows (x := ⟨b, b + lg, y.cps.toList⟩) R (by show b < b + lg; omega) (by rw [nm_of]; exact oy)
  have wl := layW_len ⟨b, b + lg, y.cps.toList⟩ rs
  generalize layW ⟨b, b + lg, y.cps.toList⟩ rs = ws at *
  have z1 : h.plans.length < sizeLine := sz_lt (by omega)
  have z2 : h.done.length < sizeLine := sz_lt (by omega)
  have z3 : ws.length ≤ sizeLine := sz_le (by omega)
  have z4 : (ws.filter fun r => decide (nm r.n = y)).length ≤ sizeLine := sz_le (by have := List.length_filter_le (fun r : Row => decide (nm r.n = y)) ws; omega)
  have z5 : (rs.filter fun r => decide (nm r.n = y)).length ≤ sizeLine := sz_le (by have := List.length_filter_le (fun r : Row => decide (nm r.n = y)) rs; omega)
  have l7 : ∀ z11 w, dLc (iSq (dVar 7)) (.nm 11) (tst (dOp (gEq false) (dOp gIx (dVar 11) (dC (.int 2))) (dVar 4))) (dVar 11) [11] [some (fz (.obj k)), some (fz (.str x)), some (fz (.int i)), some (fz (.int b)), some (fz (.str y)), some (fz (shD y so lg lv mo)), some (fz (.lst (rs.map rowD))), some (fz (.lst (ws.map rowD))), none, some (fz (.int f)), some (fz (.int l)), z11] w = _ := fun z11 w => put_lc h q s qy sy W (by omega) oy (j := 7) rfl rfl (by simp)
  have l6 : ∀ z11 w, dLc (iSq (dVar 6)) (.nm 11) (tst (dOp (gEq false) (dOp gIx (dVar 11) (dC (.int 2))) (dVar 4))) (dVar 11) [11] [some (fz (.obj k)), some (fz (.str x)), some (fz (.int i)), some (fz (.int b)), some (fz (.str y)), some (fz (shD y so lg lv mo)), some (fz (.lst (rs.map rowD))), some (fz (.lst (ws.map rowD))), none, some (fz (.int f)), some (fz (.int l)), z11] w = _ := fun z11 w => put_lc h q s qy sy R (by omega) oy (j := 6) rfl rfl (by simp)
  have e9 := times_ok p n h y P _ qy oy sy hP
  have tl := tmF_le y P fun q hq => (hP.ok q hq).2.1
  have pl := hP.le
  have z9 : (tmF P y).length ≤ sizeLine := sz_le (by omega)
  have ml : ((tmF P y).mergeSort leD).length = (tmF P y).length := List.length_mergeSort _
  generalize (tmF P y).mergeSort leD = tm at *
  have hn' : ¬ (((tmF P y).length : Int) + (((ws.filter fun r => decide (nm r.n = y)).length : Int) - ((rs.filter fun r => decide (nm r.n = y)).length : Int)) > mo) := by omega
  unfold shD at e3 l6 l7
  have km2 : md = .fz ∨ md = .nw := by cases md <;> simp [keepM] at km ⊢
  simp only [House_put, fnD, House_put_b]
  simp [House_put_s1, House_put_s2, House_put_s3, House_put_s4, House_put_s5, House_put_s6, House_put_s7, e1, gSl_seat, e2, b2, e3, a2, e4, nb, c1, hm', e5, km, e6]
  simp [House_put_s8, l6, l7, gLen, z4, z5]
  simp [House_put_s9, a4, hmo, e9, gLen, ml, z9, hn']
  simp [House_put_s10, House_put_s11, House_put_s12, gLen, z1, z2, z3]
end
/-! ### joined -/
def joinR (b e : Int) (r : Row) : List Row := if r.b = b then [⟨b, e, r.n⟩] else if r.b < b ∨ r.b ≥ e then [r] else if r.e > e then [⟨e, r.e, r.n⟩] else []
def joinF (b e : Int) (rs : List Row) : List Row := rs.flatMap (joinR b e)
theorem joined_loop (R : Option Val) (b e : Int) : ∀ (rs acc : List Row) (z : Option Val), acc.length + rs.length ≤ 1000 → ∃ z', ∀ w, forL (.nm 4) joined_l1 (rs.map rowD) [R, some (fz (.int b)), some (fz (.int e)), some ⟨.nw, .lst (acc.map rowD)⟩, z] w =
    .next [R, some (fz (.int b)), some (fz (.int e)), some ⟨.nw, .lst ((acc ++ joinF b e rs).map rowD)⟩, z'] w
  | [], acc, z, _ => ⟨z, fun w => by simp [forL, joinF]⟩
  | r :: rs, acc, z, h => by
    have h' : acc.length + rs.length + 1 ≤ 1000 := by simp at h; omega
    have hsz : acc.length < sizeLine := sz_lt (by omega)
    have go : ∀ (k : List Row) , k.length ≤ 1 → joinR b e r = k → (∀ w, joined_l1 [R, some (fz (.int b)), some (fz (.int e)), some ⟨.nw, .lst (acc.map rowD)⟩, some (fz (rowD r))] w = .next [R, some (fz (.int b)), some (fz (.int e)), some ⟨.nw, .lst ((acc ++ k).map rowD)⟩, some (fz (rowD r))] w) →
        ∃ z', ∀ w, forL (.nm 4) joined_l1 ((r :: rs).map rowD) [R, some (fz (.int b)), some (fz (.int e)), some ⟨.nw, .lst (acc.map rowD)⟩, z] w = .next [R, some (fz (.int b)), some (fz (.int e)), some ⟨.nw, .lst ((acc ++ joinF b e (r :: rs)).map rowD)⟩, z'] w := fun k hk ek hw => by
      obtain ⟨z', hz⟩ := joined_loop R b e rs (acc ++ k) (some (fz (rowD r))) (by simp; omega)
      refine ⟨z', fun w => ?_⟩
      have := hz w
      rw [List.map_cons]
      simp only [forL, setT_nm, List.set_cons_succ, List.set_cons_zero, hw]
      rw [this]
      simp [joinF, ek]
    by_cases h1 : r.b = b
    · exact go [⟨b, e, r.n⟩] (by simp) (by simp [joinR, h1]) fun w => by simp [joined_l1, rowD, h1, hsz]
    · by_cases h2 : r.b < b ∨ r.b ≥ e
      · refine go [r] (by simp) (by simp [joinR, h1, h2]) fun w => ?_
        by_cases h3 : r.b < b
        · simp [joined_l1, rowD, h1, h3, hsz]
        · have h4 : r.b ≥ e := by omega
          simp [joined_l1, rowD, h1, h3, h4, hsz]
      · have h3 : ¬ r.b < b := fun z => h2 (.inl z)
        have h4 : ¬ r.b ≥ e := fun z => h2 (.inr z)
        by_cases h5 : r.e > e
        · exact go [⟨e, r.e, r.n⟩] (by simp) (by simp [joinR, h1, h2, h5]) fun w => by simp [joined_l1, rowD, h1, h3, h4, h5, hsz]
        · exact go [] (by simp) (by simp [joinR, h1, h2, h5]) fun w => by simp [joined_l1, rowD, h1, h3, h4, h5, hsz]
theorem joined_ok (b e : Int) (rs : List Row) (h : rs.length ≤ 1000) (w : W) : joined [.lst (rs.map rowD), .int b, .int e] w = .ok ⟨.nw, .lst ((joinF b e rs).map rowD)⟩ w := by
  obtain ⟨z', hz⟩ := joined_loop (some (fz (.lst (rs.map rowD)))) b e rs [] none (by simpa using h)
  have := hz w
  simp at this
  simp [joined, fnD, joined_b]
  rw [this]
  simp
/-! ### comprehensions over rows -/
theorem lc_rows {i j : Nat} {cond : DT} {elem : DE} (p : Row → Bool) (g : Row → D) {ρ : DL.Env} {rs : List Row} (hj : ρ[i]? = some (some (fz (.lst (rs.map rowD))))) (hsz : rs.length ≤ 1000)
    (hc : ∀ r ∈ rs, ∀ w, cond (ρ.set j (some (fz (rowD r)))) w = .ok (p r) w) (he : ∀ r ∈ rs, p r = true → ∀ w, elem (ρ.set j (some (fz (rowD r)))) w = .ok (fz (g r)) w) (w : W) :
    dLc (iSq (dVar i)) (.nm j) cond elem [j] ρ w = .ok ⟨.nw, .lst ((rs.filter p).map g)⟩ w := by
  refine dLc_ok (b := true) (ds := rs.map rowD) (by simp [iSq, hj]) (by simpa using sz_le (by omega)) (lcL_map rowD p g rs (fun r hr => ⟨_, rfl, fun w => ?_, fun hp => ⟨.fz, rfl, fun w => ?_⟩⟩) w)
  · simpa using hc r hr w
  · simpa using he r hr hp w
/-! ### names that are fixed -/
def strD (x : List Nat) : D := .str (nm x)
def inF (F : List (List Nat)) (r : Row) : Bool := F.contains r.n
theorem eqD_nm (x y : List Nat) : eqD (.str (nm x)) (.str (nm y)) = (x == y) := by
  unfold eqD
  rw [Bool.eq_iff_iff, beq_iff_eq, beq_iff_eq]
  exact ⟨nm_inj, fun h => by rw [h]⟩
theorem pl_strs {F : List (List Nat)} (h : ∀ x ∈ F, NOk x) : pl (.lst (F.map strD)) = true := by
  show (F.map strD).all (plN 9) = true
  simp only [List.all_map, List.all_eq_true]
  intro r hr
  have := strOk_nm (h r hr)
  simp [strD, plN, this]
theorem gIn_F {F : List (List Nat)} {x : List Nat} (hF : ∀ x ∈ F, NOk x) (hx : NOk x) (m m' : Md) (w : W) : gIn false ⟨m, .str (nm x)⟩ ⟨m', .lst (F.map strD)⟩ w = .ok (fz (.bl (F.contains x))) w := by
  have h1 := pl_strs hF
  have h2 : pl (.str (nm x)) = true := by simp [pl, plN, strOk_nm hx]
  simp only [gIn, h1, h2, Bool.and_self, if_true]
  congr 3
  rw [List.any_map]
  have : (fun z => eqD z (D.str (nm x))) ∘ strD = fun y => y == x := by
    funext y
    exact eqD_nm y x
  rw [this]
  simp only [bne_iff_ne, Bool.false_bne]
  rw [Bool.eq_iff_iff, List.any_eq_true, List.contains_iff_mem]
  constructor
  · rintro ⟨y, hy, e⟩
    rw [beq_iff_eq] at e
    exact e ▸ hy
  · exact fun h => ⟨x, h, by simp⟩
/-! ### next_fixed -/
def minOr (ns : List Int) (d : Int) : Int := match ns with
  | [] => d
  | n :: r => minI (n :: r)
theorem gMinD_ints {ds : List D} {ns : List Int} {d : Int} {m m' : Md} {w : W} (h : intsOf ds = some ns) : gMinD ⟨m, .lst ds⟩ ⟨m', .int d⟩ w = .ok (fz (.int (minOr ns d))) w := by
  simp only [gMinD, h]
  cases ns <;> rfl
def nextF (rows : List Row) (F : List (List Nat)) (last at' : Int) : Int := minOr ((rows.filter fun r => decide (r.b ≥ at') && inF F r).map (·.b)) last
theorem next_fixed_ok {rows : List Row} {F : List (List Nat)} (hl : rows.length ≤ 1000) (hr : ∀ r ∈ rows, NOk r.n) (hF : ∀ x ∈ F, NOk x) (at' last : Int) (w : W) : next_fixed [.lst (rows.map rowD), .int at', .int last, .lst (F.map strD)] w = .ok (fz (.int (nextF rows F last at'))) w := by
  have lc := lc_rows (i := 0) (j := 4) (cond := dAnd (tst (dOp gGe (dOp gIx (dVar 4) (dC (.int 0))) (dVar 1))) (tst (dOp (gIn false) (dOp gIx (dVar 4) (dC (.int 2))) (dVar 3)))) (elem := dOp gIx (dVar 4) (dC (.int 0))) (fun r => decide (r.b ≥ at') && inF F r) (fun r => .int r.b)
    (ρ := [some (fz (.lst (rows.map rowD))), some (fz (.int at')), some (fz (.int last)), some (fz (.lst (F.map strD))), none]) (rs := rows) rfl hl (fun r h w => by
      have := gIn_F hF (hr r h) .fz .fz w
      by_cases hb : r.b ≥ at'
      · simp [rowD, hb, this, inF]
      · simp [rowD, hb]) (fun r h _ w => by simp [rowD]) w
  simp only [next_fixed]
  refine fnD_ret rfl ?_
  show next_fixed_b [some (fz (.lst (rows.map rowD))), some (fz (.int at')), some (fz (.int last)), some (fz (.lst (F.map strD))), none] w = _
  have := intsOf_mapF (fun r : Row => r.b) (rows.filter fun r => decide (r.b ≥ at') && inF F r)
  have := fun m m' => gMinD_ints (d := last) (m := m) (m' := m') (w := w) this
  simp only [next_fixed_b, sRet_s, dOp_s, lc, bind_ok, dVar_s]
  simp [this, nextF]
/-! ### pushed -/
def mn2 (x y : Int) : Int := if y < x then y else x
def pushL (rows : List Row) (b e last : Int) (F : List (List Nat)) : Int → List Row → List Row
  | _, [] => []
  | at', r :: rs => if r.b = b then ⟨b, e, r.n⟩ :: pushL rows b e last F e rs else if r.b ≥ at' then r :: pushL rows b e last F r.e rs else
    if mn2 (at' + r.e - r.b) (nextF rows F last r.b) > at' then ⟨at', mn2 (at' + r.e - r.b) (nextF rows F last r.b), r.n⟩ :: pushL rows b e last F (mn2 (at' + r.e - r.b) (nextF rows F last r.b)) rs else pushL rows b e last F at' rs
theorem pushed_loop {rows : List Row} {F : List (List Nat)} (hl : rows.length ≤ 1000) (hr : ∀ r ∈ rows, NOk r.n) (hF : ∀ x ∈ F, NOk x) (b e last : Int) : ∀ (rs acc : List Row) (at' : Int) (z5 z8 : Option Val), acc.length + rs.length ≤ 1000 → ∃ z5' z7' z8', ∀ w,
    forL (.nm 5) pushed_l1 (rs.map rowD) [some (fz (.lst (rows.map rowD))), some (fz (.int b)), some (fz (.int e)), some (fz (.int last)), some (fz (.lst (F.map strD))), z5, some ⟨.nw, .lst (acc.map rowD)⟩, some (fz (.int at')), z8] w =
      .next [some (fz (.lst (rows.map rowD))), some (fz (.int b)), some (fz (.int e)), some (fz (.int last)), some (fz (.lst (F.map strD))), z5', some ⟨.nw, .lst ((acc ++ pushL rows b e last F at' rs).map rowD)⟩, z7', z8'] w
  | [], acc, at', z5, z8, _ => ⟨z5, some (fz (.int at')), z8, fun w => by simp [forL, pushL]⟩
  | r :: rs, acc, at', z5, z8, h => by
    have h' : acc.length + rs.length + 1 ≤ 1000 := by simp at h; omega
    have hsz : acc.length < sizeLine := sz_lt (by omega)
    have go : ∀ (k : List Row) (a2 : Int) (z8' : Option Val), k.length ≤ 1 → pushL rows b e last F at' (r :: rs) = k ++ pushL rows b e last F a2 rs → (∀ w, pushed_l1 [some (fz (.lst (rows.map rowD))), some (fz (.int b)), some (fz (.int e)), some (fz (.int last)), some (fz (.lst (F.map strD))), some (fz (rowD r)), some ⟨.nw, .lst (acc.map rowD)⟩, some (fz (.int at')), z8] w = .next [some (fz (.lst (rows.map rowD))), some (fz (.int b)), some (fz (.int e)), some (fz (.int last)), some (fz (.lst (F.map strD))), some (fz (rowD r)), some ⟨.nw, .lst ((acc ++ k).map rowD)⟩, some (fz (.int a2)), z8'] w) →
        ∃ z5' z7' z8', ∀ w, forL (.nm 5) pushed_l1 ((r :: rs).map rowD) [some (fz (.lst (rows.map rowD))), some (fz (.int b)), some (fz (.int e)), some (fz (.int last)), some (fz (.lst (F.map strD))), z5, some ⟨.nw, .lst (acc.map rowD)⟩, some (fz (.int at')), z8] w =
          .next [some (fz (.lst (rows.map rowD))), some (fz (.int b)), some (fz (.int e)), some (fz (.int last)), some (fz (.lst (F.map strD))), z5', some ⟨.nw, .lst ((acc ++ pushL rows b e last F at' (r :: rs)).map rowD)⟩, z7', z8'] w := fun k a2 z8' hk ek hw => by
      obtain ⟨y5, y7, y8, hz⟩ := pushed_loop hl hr hF b e last rs (acc ++ k) a2 (some (fz (rowD r))) z8' (by simp; omega)
      refine ⟨y5, y7, y8, fun w => ?_⟩
      rw [List.map_cons]
      simp only [forL, setT_nm, List.set_cons_succ, List.set_cons_zero, hw]
      rw [hz w, ek, List.append_assoc]
    by_cases h1 : r.b = b
    · exact go [⟨b, e, r.n⟩] e z8 (by simp) (by simp [pushL, h1]) fun w => by simp [pushed_l1, rowD, h1, hsz]
    · by_cases h2 : r.b ≥ at'
      · exact go [r] r.e z8 (by simp) (by simp [pushL, h1, h2]) fun w => by simp [pushed_l1, rowD, h1, h2, hsz]
      · have nf := next_fixed_ok hl hr hF r.b last
        obtain ⟨st, hst⟩ : ∃ st, st = mn2 (at' + r.e - r.b) (nextF rows F last r.b) := ⟨_, rfl⟩
        have hst' : (if nextF rows F last r.b < at' + r.e - r.b then nextF rows F last r.b else at' + r.e - r.b) = st := by rw [hst]; rfl
        by_cases h3 : st > at'
        · exact go [⟨at', st, r.n⟩] st (some (fz (.int st))) (by simp) (by simp only [pushL, if_neg h1, if_neg h2, ← hst, if_pos h3]; rfl) fun w => by simp [pushed_l1, rowD, h1, h2, nf, hst', h3, hsz]
        · exact go [] at' (some (fz (.int st))) (by simp) (by simp only [pushL, if_neg h1, if_neg h2, ← hst, if_neg h3]; rfl) fun w => by simp [pushed_l1, rowD, h1, h2, nf, hst', h3, hsz]
theorem pushed_ok {rows : List Row} {F : List (List Nat)} (hl : rows.length ≤ 1000) (hr : ∀ r ∈ rows, NOk r.n) (hF : ∀ x ∈ F, NOk x) (b e last : Int) (w : W) : pushed [.lst (rows.map rowD), .int b, .int e, .int last, .lst (F.map strD)] w = .ok ⟨.nw, .lst ((pushL rows b e last F 0 rows).map rowD)⟩ w := by
  obtain ⟨z5, z7, z8, hz⟩ := pushed_loop hl hr hF b e last rows [] 0 none none (by simpa using hl)
  have := hz w
  simp at this
  simp [pushed, fnD, pushed_b]
  rw [this]
  simp
/-! ### row_at, drop, overrun -/
theorem nok_of {x : List Nat} (h : PyData.strOk (nm x) = true) : NOk x := by
  intro c hc
  unfold PyData.strOk at h
  have h2 := Array.all_eq_true_iff_forall_mem.mp h c (by simpa [nm] using hc)
  simpa using h2
theorem pl_rowsT {rs : List Row} (h : ∀ r ∈ rs, PyData.strOk (nm r.n) = true) : pl (.lst (rs.map rowD)) = true := by
  show (rs.map rowD).all (plN 9) = true
  simp only [List.all_map, List.all_eq_true]
  intro r hr
  simp [rowD, plN, h r hr]
theorem gEq_nil {rs : List Row} (h : ∀ r ∈ rs, PyData.strOk (nm r.n) = true) (b : Bool) (m m' : Md) (w : W) : gEq b ⟨m, .lst (rs.map rowD)⟩ ⟨m', .lst []⟩ w = .ok (fz (.bl (b != decide (rs = [])))) w := by
  have h1 := pl_rowsT h
  have h2 : pl (.lst []) = true := rfl
  cases rs with
  | nil => rfl
  | cons r rs => simp only [gEq, h1, h2, Bool.and_self, if_true]; simp [eqD, eqDs]
theorem gEq_e (b : Bool) (m m' : Md) (w : W) : gEq b ⟨m, .lst []⟩ ⟨m', .lst []⟩ w = .ok (fz (.bl (!b))) w := by cases b <;> rfl
structure Sh where
  n : List Nat
  so : Str
  lg : Int
  lv : Bool
  mo : Int
def Sh.d (s : Sh) : D := shD (nm s.n) s.so s.lg s.lv s.mo
def knD (S : List Sh) : List (Key × D) := S.map fun s => (.inr (nm s.n), s.d)
structure Kn (h : Hs) (S : List Sh) : Prop where
  eq : h.known = knD S
  nd : (S.map (·.n)).Nodup
  ok : ∀ s ∈ S, NOk s.n ∧ PyData.strOk s.so = true
  le : S.length ≤ 100
theorem val_kn : ∀ {S : List Sh}, (S.map (·.n)).Nodup → ∀ s ∈ S, valD (knD S) (.inr (nm s.n)) = some s.d
  | [], _, q, h => by cases h
  | a :: P, nd, q, h => by
    rw [List.map_cons, List.nodup_cons] at nd
    rcases List.mem_cons.mp h with rfl | h
    · simp [knD, valD]
    · have ne : ¬ (nm a.n = nm q.n) := fun e => nd.1 (by rw [nm_inj e]; exact List.mem_map.mpr ⟨q, h, rfl⟩)
      have ih := val_kn nd.2 q h
      simp only [knD, valD, List.map_cons, List.find?_cons] at ih ⊢
      simp only [Sum.inr.injEq, ne, decide_false]
      exact ih
def newsF (S : List Sh) : List (List Nat) := (S.filter fun s => decide (s.so = Str.ofString "news")).map (·.n)
section
variable {k : Nat} (p : Pre k) (n : Nat) (h : Hs)
theorem row_no (d e f : D) (o : okD d = true) (q : stB h d = false) : House_row_at [.obj k, d, e, f] (wP p n h) = .ex ⟨"NoStation", []⟩ (wP p n h) := by
  have e1 := own_no p n h d e o q
  simp [House_row_at, fnD, House_row_at_b, e1]
theorem row_no_day (d e f : D) (o : okD d = true) (q : stB h d = true) (o2 : okD e = true) (q2 : numB e 0 99 = false) : House_row_at [.obj k, d, e, f] (wP p n h) = .ex ⟨"NoDay", []⟩ (wP p n h) := by
  have e1 := own_no_day p n h d e o q o2 q2
  simp [House_row_at, fnD, House_row_at_b, e1]
theorem over_of {a b c f : D} {x : Xc} (e : House_row_at [.obj k, a, b, c] (wP p n h) = .ex x (wP p n h)) : House_overrun [.obj k, a, b, c, f] (wP p n h) = .ex x (wP p n h) := by
  simp [House_overrun, fnD, House_overrun_b, House_overrun_s1, e]
variable {x : Str} {i : Int} {rs : List Row} (q : stB h (.str x) = true) (i0 : 0 ≤ i) (i1 : i < 100) (hw : WkOk h) (hr : rowsAt h x i rs)
include q i0 i1 hw hr
theorem row_no_hour (d : D) (o : okD d = true) (nb : numB d 0 23 = false) : House_row_at [.obj k, .str x, .int i, d] (wP p n h) = .ex ⟨"NoHour", []⟩ (wP p n h) := by
  obtain ⟨md, km, e1⟩ := own_ok p n h x i rs q i0 i1 hw hr
  have e2 := look_hour_ok d o
  simp [House_row_at, fnD, House_row_at_b, e1, km, e2, nb]
theorem row_ok (R : Rows rs) (hl : rs.length ≤ 1000) (r : Row) (rt : List Row) (b0 : 0 ≤ r.b) (b1 : r.b < 24) (hf : rs.filter (fun s => decide (s.b = r.b)) = r :: rt) : House_row_at [.obj k, .str x, .int i, .int r.b] (wP p n h) = .ok (fz (rowD r)) (wP p n h) := by
  obtain ⟨md, km, e1⟩ := own_ok p n h x i rs q i0 i1 hw hr
  have e2 := look_hour_ok (.int r.b) rfl
  have nb : numB (.int r.b) 0 23 = true := by simp [numB]; omega
  have lc : dLc (iSq (dVar 4)) (.nm 6) (tst (dOp (gEq false) (dOp gIx (dVar 6) (dC (.int 0))) (dVar 3))) (dVar 6) [6] [some (fz (.obj k)), some (fz (.str x)), some (fz (.int i)), some (fz (.int r.b)), some (fz (.lst (rs.map rowD))), none, none] (wP p n h) = .ok ⟨.nw, .lst ((r :: rt).map rowD)⟩ (wP p n h) := by
    rw [← hf]
    refine dLc_ok (ds := rs.map rowD) (b := true) (by simp [iSq]) (by simpa using sz_le (by omega)) ?_
    refine lcL_mapW rowD (fun s => decide (s.b = r.b)) rowD rs fun s hs' => ?_
    have a0 : atI [D.int s.b, .int s.e, .str (nm s.n)] 0 = some (.int s.b) := rfl
    exact ⟨_, rfl, by simp [rowD, a0]; rw [Bool.eq_iff_iff]; simp, fun _ => ⟨.fz, rfl, by simp⟩⟩
  have hm : ∀ s ∈ r :: rt, PyData.strOk (nm s.n) = true := fun s hs => R.txt s (List.mem_filter.mp (hf ▸ hs)).1
  have a0 : atI ((r :: rt).map rowD) 0 = some (rowD r) := by simp [atI, ixN]
  have ne : r :: rt ≠ [] := List.cons_ne_nil _ _
  generalize r :: rt = ws at *
  simp [House_row_at, fnD, House_row_at_b, e1, km, e2, nb, lc, gEq_nil hm, ne, a0]
variable (R : Rows rs) (hl : rs.length ≤ 100) (r : Row) (rt : List Row) (b0 : 0 ≤ r.b) (b1 : r.b < 24) (hf : rs.filter (fun s => decide (s.b = r.b)) = r :: rt)
include R hl b0 b1 hf
theorem over_no_more (d : D) (o : okD d = true) (nb : numB d 1 8 = false) : House_overrun [.obj k, .str x, .int i, .int r.b, d] (wP p n h) = .ex ⟨"NoMore", []⟩ (wP p n h) := by
  have e1 := row_ok p n h q i0 i1 hw hr R (by omega) r rt b0 b1 hf
  have e2 := is_number_ok d 1 8 o
  simp [House_overrun, fnD, House_overrun_b, House_overrun_s1, House_overrun_s2, e1, e2, nb]
variable {u : D} {f l : Int} {mn : Str} (s : valD h.seats (.inr x) = some (.tup [u, .int f, .int l, .str mn])) {S : List Sh} (K : Kn h S) (sh : Sh) (hsh : sh ∈ S) (hn : sh.n = r.n) (ex : Int) (x0 : 1 ≤ ex) (x1 : ex ≤ 8)
include s K hsh hn x0 x1
def ahF (S : List Sh) (b e : Int) (rs : List Row) : List Row := rs.filter fun o => (decide (b < o.b) && decide (o.b < e)) && inF (newsF S) o
theorem over_pre (lv : sh.lv = true) (hl2 : r.e + ex ≤ l) : House_overrun [.obj k, .str x, .int i, .int r.b, .int ex] (wP p n h) =
    (match ((sSeq House_overrun_s9 (sSeq House_overrun_s10 (sSeq House_overrun_s11 (sSeq House_overrun_s12 (sSeq House_overrun_s13 House_overrun_s14))))) [some (fz (.obj k)), some (fz (.str x)), some (fz (.int i)), some (fz (.int r.b)), some (fz (.int ex)), some (fz (rowD r)), some (fz (.lst ((newsF S).map strD))), some (fz (.lst ((ahF S r.b (r.e + ex) rs).map rowD))), none, some (fz u), some (fz (.int f)), some (fz (.int l)), some (fz (.str mn)), some (fz (.int (r.e + ex))), some (fz (.lst (rs.map rowD))), none, none] (wP p (n + 2) h)) with
    | Out.ret x w' => DL.R.ok x w'
    | Out.next ρ w' => DL.R.ok (fz D.non) w'
    | Out.ex x ρ w' => DL.R.ex x w'
    | x => DL.R.bad) := by
  have e1 := row_ok p n h q i0 i1 hw hr R (by omega) r rt b0 b1 hf
  have e2 := is_number_ok (.int ex) 1 8 rfl
  have nb : numB (.int ex) 1 8 = true := by simp [numB]; omega
  have kv := val_kn K.nd sh hsh
  have a1 : atI [D.int r.b, .int r.e, .str (nm r.n)] 1 = some (.int r.e) := rfl
  have a2 : atI [D.int r.b, .int r.e, .str (nm r.n)] 2 = some (.str (nm r.n)) := rfl
  have a3 : atI [D.str (nm r.n), .str sh.so, .int sh.lg, .bl true, .int sh.mo] 3 = some (.bl true) := rfl
  rw [← K.eq, hn] at kv
  unfold Sh.d shD at kv
  rw [hn, lv] at kv
  obtain ⟨md, km, e5⟩ := own_ok p n h x i rs q i0 i1 hw hr
  have hl3 : ¬ (r.e + ex > l) := by omega
  have Kl := K.le
  have e7 : dLcD (locF 0 "known") (.nm 15) (tst (dOp (gEq false) (dOp gIx (dOp gIxD (dFld "known" (dVar 0)) (dVar 15)) (dC (.int 1))) (dC (.str "news")))) (dVar 15) [15] [some (fz (.obj k)), some (fz (.str x)), some (fz (.int i)), some (fz (.int r.b)), some (fz (.int ex)), some (fz (rowD r)), none, none, none, some (fz u), some (fz (.int f)), some (fz (.int l)), some (fz (.str mn)), some (fz (.int (r.e + ex))), some (fz (.lst (rs.map rowD))), none, none] (wP p n h) = .ok ⟨.nw, .lst ((newsF S).map strD)⟩ (wP p (n + 2) h) := by
    refine dLcD_ok (locF_known (m := .fz) rfl) (by rw [K.eq]; simpa [knD] using sz_le (by omega)) ?_
    have e : (h.known.map fun q => dKy q.1) = S.map fun s => .str (nm s.n) := by rw [K.eq]; simp [knD]
    rw [e]
    have := lcL_mapW (fun s : Sh => D.str (nm s.n)) (fun s => decide (s.so = Str.ofString "news")) (fun s => D.str (nm s.n)) (t := .nm 15) (c := tst (dOp (gEq false) (dOp gIx (dOp gIxD (dFld "known" (dVar 0)) (dVar 15)) (dC (.int 1))) (dC (.str "news")))) (f := dVar 15) (ρ := wipeD [some (fz (.obj k)), some (fz (.str x)), some (fz (.int i)), some (fz (.int r.b)), some (fz (.int ex)), some (fz (rowD r)), none, none, none, some (fz u), some (fz (.int f)), some (fz (.int l)), some (fz (.str mn)), some (fz (.int (r.e + ex))), some (fz (.lst (rs.map rowD))), none, none] [15]) (w := wL p n h) S fun s' hs' => by
      have kv' := val_kn K.nd s' hs'
      rw [← K.eq] at kv'
      have b1 : atI [D.str (nm s'.n), .str s'.so, .int s'.lg, .bl s'.lv, .int s'.mo] 1 = some (.str s'.so) := rfl
      unfold Sh.d shD at kv'
      exact ⟨_, rfl, by simp [kv', b1, gEq_ss _ _ (K.ok s' hs').2 (show PyData.strOk (Str.ofString "news") = true by decide +kernel)], fun _ => ⟨.fz, rfl, by simp⟩⟩
    rw [this]
    simp [newsF, strD]
  have hF : ∀ y ∈ newsF S, NOk y := by
    intro y hy
    obtain ⟨s', hs', rfl⟩ := List.mem_map.mp hy
    exact (K.ok s' (List.mem_filter.mp hs').1).1
  have e8 : dLc (iSq (dVar 14)) (.nm 16) (dAnd (tst (dChain gLt gLt (dVar 3) (dOp gIx (dVar 16) (dC (.int 0))) (dVar 13))) (tst (dOp (gIn false) (dOp gIx (dVar 16) (dC (.int 2))) (dVar 6)))) (dVar 16) [16] [some (fz (.obj k)), some (fz (.str x)), some (fz (.int i)), some (fz (.int r.b)), some (fz (.int ex)), some (fz (rowD r)), some (fz (.lst ((newsF S).map strD))), none, none, some (fz u), some (fz (.int f)), some (fz (.int l)), some (fz (.str mn)), some (fz (.int (r.e + ex))), some (fz (.lst (rs.map rowD))), none, none] (wP p (n + 2) h) = .ok ⟨.nw, .lst ((ahF S r.b (r.e + ex) rs).map rowD)⟩ (wP p (n + 2) h) := by
    refine dLc_ok (ds := rs.map rowD) (b := true) (by simp [iSq]) (by simpa using sz_le (by omega)) ?_
    refine lcL_mapW rowD (fun o => (decide (r.b < o.b) && decide (o.b < r.e + ex)) && inF (newsF S) o) rowD rs fun o ho => ?_
    have a0 : atI [D.int o.b, .int o.e, .str (nm o.n)] 0 = some (.int o.b) := rfl
    have a2 : atI [D.int o.b, .int o.e, .str (nm o.n)] 2 = some (.str (nm o.n)) := rfl
    have gi := gIn_F (x := o.n) hF (nok_of (R.txt o ho)) .fz .fz (wP p (n + 2) h)
    refine ⟨_, rfl, ?_, fun _ => ⟨.fz, rfl, by simp⟩⟩
    by_cases c1 : r.b < o.b <;> by_cases c2 : o.b < r.e + ex <;> simp [rowD, a0, a2, c1, c2, gi, inF]
  have rd : rowD r = .tup [.int r.b, .int r.e, .str (nm r.n)] := rfl
  rw [rd] at e1 e7 e8
  simp only [House_overrun, fnD, House_overrun_b]
  simp [House_overrun_s1, House_overrun_s2, House_overrun_s3, House_overrun_s4, House_overrun_s5, House_overrun_s6, e1, e2, nb, s, a1, a2, kv, a3, e5, km, hl3]
  simp [House_overrun_s7, House_overrun_s8, e7, e8, rd]
  all_goals rfl
def ovrF (mn : Str) (S : List Sh) (b e l : Int) (rs : List Row) : List Row := if mn = Str.ofString "join" then joinF b e rs else pushL rs b e l (newsF S) 0 rs
theorem over_ok (lv : sh.lv = true) (hl2 : r.e + ex ≤ l) (ha : ahF S r.b (r.e + ex) rs = []) (hm : h.many ≤ i * 24 + r.e) (hmn : PyData.strOk mn = true) (hp : h.plans.length < 1000) (hd : h.done.length < 1000) : House_overrun [.obj k, .str x, .int i, .int r.b, .int ex] (wP p n h) = .ok (fz (.tup [.int r.b, .int (r.e + ex), .str (nm r.n)])) (wP p (n + 4) { h with plans := putKD h.plans [.inr x, .inl i] (.lst ((ovrF mn S r.b (r.e + ex) l rs).map rowD)), done := h.done ++ [.tup [.str "over", .str x, .int i, .int r.b, .int ex]] }) := by
  have e := over_pre p n h q i0 i1 hw hr R hl r rt b0 b1 hf s K sh hsh hn ex x0 x1 lv hl2
  rw [e, ha]
  have c1 := cmulR i 24 (by decide) (by decide)
  have a1 : atI [D.int r.b, .int r.e, .str (nm r.n)] 1 = some (.int r.e) := rfl
  have a2 : atI [D.int r.b, .int r.e, .str (nm r.n)] 2 = some (.str (nm r.n)) := rfl
  have rd : rowD r = .tup [.int r.b, .int r.e, .str (nm r.n)] := rfl
  have hm' : ¬ (i * 24 + r.e < h.many) := by omega
  have hF : ∀ y ∈ newsF S, NOk y := by
    intro y hy
    obtain ⟨s', hs', rfl⟩ := List.mem_map.mp hy
    exact (K.ok s' (List.mem_filter.mp hs').1).1
  have j1 := joined_ok r.b (r.e + ex) rs (by omega)
  have j2 := pushed_ok (rows := rs) (F := newsF S) (by omega) (fun o ho => nok_of (R.txt o ho)) hF r.b (r.e + ex) l
  have z1 : h.plans.length < sizeLine := sz_lt (by omega)
  have z2 : h.done.length < sizeLine := sz_lt (by omega)
  have gm := gEq_ss mn (Str.ofString "join") hmn (by decide +kernel) false
  by_cases cm : mn = Str.ofString "join"
  · have ov : ovrF mn S r.b (r.e + ex) l rs = joinF r.b (r.e + ex) rs := by simp [ovrF, cm]
    rw [ov]
    subst cm
    generalize joinF r.b (r.e + ex) rs = ws at *
    simp [House_overrun_s9, House_overrun_s10, House_overrun_s11, gEq_e, rd, a1, c1, hm', gm, j1]
    simp [House_overrun_s12, House_overrun_s13, House_overrun_s14, z1, z2, a2, rd]
  · have ov : ovrF mn S r.b (r.e + ex) l rs = pushL rs r.b (r.e + ex) l (newsF S) 0 rs := by simp [ovrF, cm]
    rw [ov]
    generalize pushL rs r.b (r.e + ex) l (newsF S) 0 rs = ws at *
    simp [House_overrun_s9, House_overrun_s10, House_overrun_s11, gEq_e, rd, a1, c1, hm', gm, cm, j2]
    simp [House_overrun_s12, House_overrun_s13, House_overrun_s14, z1, z2, a2, rd]
end
/-! ### row_at without a row, an overrun that is too long -/
section
variable {k : Nat} (p : Pre k) (n : Nat) (h : Hs)
variable {x : Str} {i : Int} {rs : List Row} (q : stB h (.str x) = true) (i0 : 0 ≤ i) (i1 : i < 100) (hw : WkOk h) (hr : rowsAt h x i rs)
include q i0 i1 hw hr
theorem row_none (hl : rs.length ≤ 1000) (t : Int) (b0 : 0 ≤ t) (b1 : t < 24) (hf : rs.filter (fun s => decide (s.b = t)) = []) : House_row_at [.obj k, .str x, .int i, .int t] (wP p n h) = .ex ⟨"NoRow", [(Str.ofString "hour", .int t)]⟩ (wP p n h) := by
  obtain ⟨md, km, e1⟩ := own_ok p n h x i rs q i0 i1 hw hr
  have e2 := look_hour_ok (.int t) rfl
  have nb : numB (.int t) 0 23 = true := by simp [numB]; omega
  have lc : dLc (iSq (dVar 4)) (.nm 6) (tst (dOp (gEq false) (dOp gIx (dVar 6) (dC (.int 0))) (dVar 3))) (dVar 6) [6] [some (fz (.obj k)), some (fz (.str x)), some (fz (.int i)), some (fz (.int t)), some (fz (.lst (rs.map rowD))), none, none] (wP p n h) = .ok ⟨.nw, .lst []⟩ (wP p n h) := by
    have : ([] : List D) = (rs.filter (fun s => decide (s.b = t))).map rowD := by rw [hf]; rfl
    rw [this]
    refine dLc_ok (ds := rs.map rowD) (b := true) (by simp [iSq]) (by simpa using sz_le (by omega)) ?_
    refine lcL_mapW rowD (fun s => decide (s.b = t)) rowD rs fun s hs' => ?_
    have a0 : atI [D.int s.b, .int s.e, .str (nm s.n)] 0 = some (.int s.b) := rfl
    exact ⟨_, rfl, by simp [rowD, a0]; rw [Bool.eq_iff_iff]; simp, fun _ => ⟨.fz, rfl, by simp⟩⟩
  simp [House_row_at, fnD, House_row_at_b, e1, km, e2, nb, lc, gEq_e, frzD]
variable (R : Rows rs) (hl : rs.length ≤ 100) (r : Row) (rt : List Row) (b0 : 0 ≤ r.b) (b1 : r.b < 24) (hf : rs.filter (fun s => decide (s.b = r.b)) = r :: rt)
include R hl b0 b1 hf
variable {u : D} {f l : Int} {mn : Str} (s : valD h.seats (.inr x) = some (.tup [u, .int f, .int l, .str mn])) {S : List Sh} (K : Kn h S) (sh : Sh) (hsh : sh ∈ S) (hn : sh.n = r.n) (ex : Int) (x0 : 1 ≤ ex) (x1 : ex ≤ 8)
include s K hsh hn x0 x1
end
/-! ### break-ins -/
theorem breaks_none {k : Nat} (p : Pre k) (n : Nat) (h : Hs) (x : Str) (i : Int) (q : nameB (.str x) = true) (s : (valD h.seats (.inr x)).isSome = true) (i0 : 0 ≤ i) (i1 : i < 100) (c : valD h.cuts [.inr x, .inl i] = none) : House_breaks [.obj k, .str x, .int i] (wP p n h) = .ok ⟨.nw, .lst []⟩ (wP p n h) := by
  have e := lookst_ok p n h x q s
  have a := look_day_ok (.int i) rfl
  have b : numB (.int i) 0 99 = true := by simp [numB]; omega
  simp [House_breaks, fnD, House_breaks_b, e, a, b, c]
def prD (p : Int × Int) : D := .tup [.int p.1, .int p.2]
theorem sok_pairs (l : List (Int × Int)) (hl : l.length ≤ 1000) : SOk (l.map prD) where
  pl := by simp [plN, prD]
  al := by
    intro d hd d' hd'
    simp only [List.mem_map] at hd hd'
    obtain ⟨_, ⟨p, _, rfl⟩, rfl⟩ := hd
    obtain ⟨_, ⟨q, _, rfl⟩, rfl⟩ := hd'
    simp [toP, toPs, prD, PySem.W.alike, PySem.W.alikeAll]
  so := by
    refine .inl fun d hd => ?_
    simp only [List.mem_map] at hd
    obtain ⟨_, ⟨p, _, rfl⟩, rfl⟩ := hd
    exact ⟨_, _, rfl⟩
  sz := sz_le (by simp; omega)
/-- the first break-in of a day -/
theorem break_new {k : Nat} (p : Pre k) (n : Nat) (h : Hs) (x : Str) (i b e f l : Int) (u m : D) (q : nameB (.str x) = true) (s : valD h.seats (.inr x) = some (.tup [u, .int f, .int l, m])) (i0 : 0 ≤ i) (i1 : i < 100) (hs : spanB (.int b) (.int e) f l = true) (hm : h.many ≤ i * 24 + b) (c : valD h.cuts [.inr x, .inl i] = none) (hc : h.cuts.length < 1000) (hd : h.done.length < 1000) :
    House_break_in [.obj k, .str x, .int i, .int b, .int e] (wP p n h) = .ok (fz (.int 1)) (wP p (n + 2) { h with cuts := putKD h.cuts [.inr x, .inl i] (.lst [.tup [.int b, .int e]]), done := h.done ++ [.tup [.str "break", .str x, .int i, .int b, .int e]] }) := by
  have e1 := station_ok p n h x _ q s
  have e2 := look_day_ok (.int i) rfl
  have b2 : numB (.int i) 0 99 = true := by simp [numB]; omega
  have e3 := span_ok (.int b) (.int e) f l rfl rfl
  have c1 := cmulR i 24 (by decide) (by decide)
  have e5 := breaks_none p n h x i q (by simp [s]) i0 i1 c
  have g4 : ¬ (i * 24 + b < h.many) := by omega
  have z1 : h.cuts.length < sizeLine := sz_lt (by omega)
  have z2 : h.done.length < sizeLine := sz_lt (by omega)
  have so : SOk [.tup [.int b, .int e]] := sok_pairs [(b, e)] (by simp)
  have cu : cutL [u, .int f, .int l, m] (some 1) (some 3) = [.int f, .int l] := rfl
  have gs : ∀ md w, gSl ⟨md, .tup [u, .int f, .int l, m]⟩ (some 1) (some 3) w = .ok (fz (.tup [.int f, .int l])) w := fun md w => by simp [gSl, cu]; decide
  simp only [House_break_in, fnD, House_break_in_b]
  simp [House_break_in_s1, House_break_in_s2, House_break_in_s3, House_break_in_s4, House_break_in_s5, e1, e2, b2, e3, hs, c1, g4, e5, gs]
  have lc : ∀ ρ w, ρ[5]? = some (some (fz (.lst []))) → dLc (iSq (dVar 5)) (.nm 9) (tst (dCall do_meet [] (dCons (dTup (dCons (dVar 3) (dOne (dVar 4)))) (dOne (dVar 9))))) (dVar 9) [9] ρ w = .ok ⟨.nw, .lst []⟩ w := fun ρ w hr => by
    refine dLc_ok (ds := []) (b := true) (by simp [iSq, hr]) (by simp) ?_
    simp [lcL]
  have eE : ∀ m m' w, gEq true ⟨m, .lst []⟩ ⟨m', .lst []⟩ w = .ok (fz (.bl false)) w := fun m m' w => rfl
  simp [House_break_in_s6, lc, eE, House_break_in_s7, House_break_in_s8, House_break_in_s9, House_break_in_s10, gEq_same, pl, plN, gSorted, so, z1, z2]
/-! ### break_in behind other breaks -/
/-! ### the clock of one house -/
theorem now_ok {k : Nat} (p : Pre k) (n : Nat) (h : Hs) : House_now [.obj k] (wP p n h) = .ok (fz (.tup [.int (h.many / 24), .int (h.many % 24)])) (wP p n h) := by
  simp [House_now, fnD, House_now_b, gDivmod_ii]
theorem tick_no {k : Nat} (p : Pre k) (n : Nat) (h : Hs) (d : D) (o : okD d = true) (q : numB d 1 24 = false) : House_tick [.obj k, d] (wP p n h) = .ex ⟨"NoMore", []⟩ (wP p n h) := by
  have e := is_number_ok d 1 24 o
  simp [House_tick, fnD, House_tick_b, e, q]
theorem tick_ok {k : Nat} (p : Pre k) (n : Nat) (h : Hs) (i : Int) (q0 : 1 ≤ i) (q1 : i ≤ 24) (q2 : h.many + i < 2400) (q3 : h.done.length < 1000) : House_tick [.obj k, .int i] (wP p n h) = .ok (fz (.tup [.int ((h.many + i) / 24), .int ((h.many + i) % 24)])) (wP p (n + 2) { h with many := h.many + i, done := h.done ++ [.tup [.str "tick", .int i]] }) := by
  have e := is_number_ok (.int i) 1 24 rfl
  have q : numB (.int i) 1 24 = true := by simp [numB]; omega
  have c := cmulR 100 24 (by decide) (by decide)
  have hz : h.done.length < sizeLine := sz_lt (by omega)
  have g : ¬ (2400 ≤ h.many + i) := by omega
  simp [House_tick, fnD, House_tick_b, e, q, c, g, hz, now_ok]
/-! ### rows, dropped -/
theorem Rows.uniq {rs : List Row} (R : Rows rs) {o r : Row} (ho : o ∈ rs) (hr : r ∈ rs) (h : o.b = r.b) : o = r := by
  obtain ⟨i, hi, rfl⟩ := List.mem_iff_getElem.mp ho
  obtain ⟨j, hj, rfl⟩ := List.mem_iff_getElem.mp hr
  have s := List.pairwise_iff_getElem.mp R.sr
  rcases Nat.lt_trichotomy i j with c | c | c
  · have := s i j hi hj c; omega
  · subst c; rfl
  · have := s j i hj hi c; omega
theorem eqD_row {rs : List Row} (R : Rows rs) {o r : Row} (ho : o ∈ rs) (hr : r ∈ rs) : eqD (rowD o) (rowD r) = decide (o.b = r.b) := by
  by_cases h : o.b = r.b
  · have := R.uniq ho hr h
    subst this
    simp [rowD, eqD, eqDs]
  · simp [rowD, eqD, eqDs, h]
theorem pl_row {r : Row} (h : PyData.strOk (nm r.n) = true) : pl (rowD r) = true := by simp [pl, plN, rowD, h]
theorem gEq_row {rs : List Row} (R : Rows rs) {o r : Row} (ho : o ∈ rs) (hr : r ∈ rs) (b : Bool) (m m' : Md) (w : W) : gEq b ⟨m, rowD o⟩ ⟨m', rowD r⟩ w = .ok (fz (.bl (b != decide (o.b = r.b)))) w := by
  simp only [gEq, pl_row (R.txt o ho), pl_row (R.txt r hr), Bool.and_self, if_true, eqD_row R ho hr]
theorem filt_one {rs : List Row} (R : Rows rs) {r : Row} (hr : r ∈ rs) : ∃ rt, rs.filter (fun s => decide (s.b = r.b)) = r :: rt := by
  cases hf : rs.filter (fun s => decide (s.b = r.b)) with
  | nil =>
    have : r ∈ rs.filter (fun s => decide (s.b = r.b)) := List.mem_filter.mpr ⟨hr, by simp⟩
    rw [hf] at this
    cases this
  | cons a rt =>
    have ha : a ∈ rs.filter (fun s => decide (s.b = r.b)) := by rw [hf]; exact List.mem_cons_self
    rw [List.mem_filter] at ha
    have := R.uniq ha.1 hr (by simpa using ha.2)
    subst this
    exact ⟨rt, rfl⟩
/-- the rows without the one that begins then -/
def dropF (b : Int) (rs : List Row) : List Row := rs.filter fun o => !decide (o.b = b)
section
variable {k : Nat} (p : Pre k) (n : Nat) (h : Hs)
theorem drop_of {a b c : D} {x : Xc} (e : House_row_at [.obj k, a, b, c] (wP p n h) = .ex x (wP p n h)) : House_drop [.obj k, a, b, c] (wP p n h) = .ex x (wP p n h) := by
  simp [House_drop, fnD, House_drop_b, e]
variable {x : Str} {i : Int} {rs : List Row} (q : stB h (.str x) = true) (i0 : 0 ≤ i) (i1 : i < 100) (hw : WkOk h) (hr : rowsAt h x i rs) (R : Rows rs) (hl : rs.length ≤ 100) (r : Row) (hrm : r ∈ rs) (b0 : 0 ≤ r.b) (b1 : r.b < 24)
include q i0 i1 hw hr R hl hrm b0 b1
theorem drop_ok (hm : h.many ≤ i * 24 + r.b) (hp : h.plans.length < 1000) (hd : h.done.length < 1000) : House_drop [.obj k, .str x, .int i, .int r.b] (wP p n h) = .ok (fz (rowD r)) (wP p (n + 2) { h with plans := putKD h.plans [.inr x, .inl i] (.lst ((dropF r.b rs).map rowD)), done := h.done ++ [.tup [.str "drop", .str x, .int i, .int r.b]] }) := by
  obtain ⟨rt, hf⟩ := filt_one R hrm
  have e1 := row_ok p n h q i0 i1 hw hr R (by omega) r rt b0 b1 hf
  have c1 := cmulR i 24 (by decide) (by decide)
  have hm' : ¬ (i * 24 + r.b < h.many) := by omega
  obtain ⟨md, km, e5⟩ := own_ok p n h x i rs q i0 i1 hw hr
  have z1 : h.plans.length < sizeLine := sz_lt (by omega)
  have z2 : h.done.length < sizeLine := sz_lt (by omega)
  have lc : dLc (iSq (dMt House_own_rows "own_rows" 2 0 [0, 1, 2] dfl_own_rows (dVar 0) (dCons (dVar 1) (dOne (dVar 2))) dNil)) (.nm 5) (tst (dOp (gEq true) (dVar 5) (dVar 4))) (dVar 5) [5] [some (fz (.obj k)), some (fz (.str x)), some (fz (.int i)), some (fz (.int r.b)), some (fz (rowD r)), none] (wP p n h) = .ok ⟨.nw, .lst ((dropF r.b rs).map rowD)⟩ (wP p n h) := by
    refine dLc_ok (ds := rs.map rowD) (b := true) (by simp [iSq, e5, km]) (by simpa using sz_le (by omega)) ?_
    refine lcL_mapW rowD (fun s => !decide (s.b = r.b)) rowD rs fun s hs' => ?_
    have g := gEq_row R hs' hrm true
    exact ⟨_, rfl, by simp [g], fun _ => ⟨.fz, rfl, by simp⟩⟩
  generalize hD : dropF r.b rs = ws at *
  simp [House_drop, fnD, House_drop_b, e1, c1, hm', lc, z1, z2]
end
/-! ### put_week and clear_week, where days have plans -/
section
variable {k : Nat} (p : Pre k) (n : Nat) (h : Hs)
theorem since_P (x : Str) (wd st : Int) (P : Pln) (hm : h.many ≤ st * 24) (ox : PyData.strOk x = true) (hP : h.plans = plD P) (hl : P.length ≤ 100) (hok : ∀ e ∈ P, PyData.strOk e.1.1 = true) (hno : ∀ e ∈ P, ¬ (e.1.1 = x ∧ st ≤ e.1.2 ∧ e.1.2 % 5 = wd)) : House_look_since [.obj k, .str x, .int wd, .int st] (wP p n h) = .ok (fz .non) (wP p (n + 2) h) := by
  have hm' : ¬ (st * 24 < h.many) := by omega
  have c1 := cmulR st 24 (by decide) (by decide)
  have lc : dLcD (locF 0 "plans") (.nm 4) tYesD (dAndV (dOp (gEq false) (dOp gIx (dVar 4) (dC (.int 0))) (dVar 1)) (dAndV (dOp gGe (dOp gIx (dVar 4) (dC (.int 1))) (dVar 3)) (dOp (gEq false) (dOp gMod (dOp gIx (dVar 4) (dC (.int 1))) (dC (.int 5))) (dVar 2)))) [4] [some (fz (.obj k)), some (fz (.str x)), some (fz (.int wd)), some (fz (.int st)), none] (wP p n h) = .ok ⟨.nw, .lst (P.map fun _ => .bl false)⟩ (wP p (n + 2) h) := by
    have ek : (h.plans.map fun q => D.tup (q.1.map dKy)) = P.map fun e => .tup [.str e.1.1, .int e.1.2] := by rw [hP]; simp [plD, plK, dKy, Function.comp_def]
    have lk := locF_plans (i := 0) (p := p) (n := n) (h := h) (ρ := [some (fz (.obj k)), some (fz (.str x)), some (fz (.int wd)), some (fz (.int st)), none]) (m := .fz) rfl
    rw [ek] at lk
    refine dLcD_ok (ks := P.map fun e => .tup [.str e.1.1, .int e.1.2]) lk (sz_le (by simp; omega)) ?_
    refine lcL_allW (fun e : (Str × Int) × List Row => D.tup [.str e.1.1, .int e.1.2]) (fun _ => .bl false) P fun e he => ⟨_, rfl, .fz, rfl, ?_⟩
    have h1 := hno e he
    have q1 := fun m m' w' => gEq_s2 e.1.1 x (hok e he) ox false m m' w'
    have q2 := fun m m' w' => gEq_i2 (e.1.2 % 5) wd false m m' w'
    have a0 : ∀ z : Str, atI [D.str z, .int e.1.2] 0 = some (.str z) := fun _ => rfl
    have a1 : ∀ z : Str, atI [D.str z, .int e.1.2] 1 = some (.int e.1.2) := fun _ => rfl
    have q1x := fun m m' w' => gEq_s2 x x ox ox false m m' w'
    by_cases g1 : e.1.1 = x
    · by_cases g2 : st ≤ e.1.2
      · have g3 : ¬ (e.1.2 % 5 = wd) := fun z => h1 ⟨g1, g2, z⟩
        simp [wipeD, a0, a1, q1, q1x, g1, g2, g3, q2]
      · simp [wipeD, a0, a1, q1, q1x, g1, g2]
    · simp [wipeD, a0, q1, g1]
  have an : ∀ (m : Md) (w : W), gAny [⟨m, .lst (P.map fun _ => D.bl false)⟩] w = .ok (fz (.bl false)) w := fun m w => by
    have e := blsOf_mapF (fun _ : (Str × Int) × List Row => false) P
    simp only [gAny, onL, e]
    congr 2
    simp
  simp [House_look_since, fnD, House_look_since_b, c1, hm', lc, an]
theorem clear_okP (x : Str) (wd b e st : Int) (P : Pln) (q : stB h (.str x) = true) (w0 : 0 ≤ wd) (w1 : wd < 5) (s0 : 0 ≤ st) (s1 : st < 100) (nb : spanB (.int b) (.int e) 0 24 = true) (hm : h.many ≤ st * 24) (hP : h.plans = plD P) (hl : P.length ≤ 100) (hok : ∀ e ∈ P, PyData.strOk e.1.1 = true) (hno : ∀ e ∈ P, ¬ (e.1.1 = x ∧ st ≤ e.1.2 ∧ e.1.2 % 5 = wd)) (hwl : h.weeks.length < 1000) (hd : h.done.length < 1000) : House_clear_week [.obj k, .str x, .int wd, .int b, .int e, .int st] (wP p n h) = .ok (fz .non) (wP p (n + 4) { h with weeks := h.weeks ++ [wkD ⟨x, wd, st, b, e, none⟩], done := h.done ++ [.tup [.str "clear", .str x, .int wd, .int b, .int e, .int st]] }) := by
  have qn : nameB (.str x) = true := by simp [stB] at q; exact q.1
  have o : okD (.str x) = true := okD_name qn
  have e1 := lookst p n h (.str x) o
  have e2 := is_number_ok (.int wd) 0 4 rfl
  have b2 : numB (.int wd) 0 4 = true := by simp [numB]; omega
  have e4 := look_day_ok (.int st) rfl
  have b4 : numB (.int st) 0 99 = true := by simp [numB]; omega
  have sp := span_ok (.int b) (.int e) 0 24 rfl rfl
  have e5 := since_P p n h x wd st P hm (name_ok qn) hP hl hok hno
  have z1 : h.weeks.length < sizeLine := sz_lt (by omega)
  have z2 : h.done.length < sizeLine := sz_lt (by omega)
  simp [House_clear_week, fnD, House_clear_week_b, House_clear_week_s1, House_clear_week_s2, House_clear_week_s3, House_clear_week_s4, House_clear_week_s5, House_clear_week_s6, House_clear_week_s7, e1, q, e2, b2, e4, b4, sp, nb, e5, z1, z2, wkD, nmD]
variable {x y : Str} {u mn : D} {f l : Int} (q : nameB (.str x) = true) (s : valD h.seats (.inr x) = some (.tup [u, .int f, .int l, mn])) (qy : nameB (.str y) = true) {so : Str} {lg : Int} {lv : Bool} (sy : valD h.known (.inr y) = some (shD y so lg lv 0))
include q s qy sy
theorem pw_okP (wd b st : Int) (P : Pln) (w0 : 0 ≤ wd) (w1 : wd < 5) (s0 : 0 ≤ st) (s1 : st < 100) (nb : numB (.int b) f (l - lg) = true) (hm : h.many ≤ st * 24) (hP : h.plans = plD P) (hl : P.length ≤ 100) (hok : ∀ e ∈ P, PyData.strOk e.1.1 = true) (hno : ∀ e ∈ P, ¬ (e.1.1 = x ∧ st ≤ e.1.2 ∧ e.1.2 % 5 = wd)) (hwl : h.weeks.length < 1000) (hd : h.done.length < 1000) :
    House_put_week [.obj k, .str x, .int wd, .int b, .str y, .int st] (wP p n h) = .ok (fz .non) (wP p (n + 4) { h with weeks := h.weeks ++ [wkD ⟨x, wd, st, b, b + lg, some y⟩], done := h.done ++ [.tup [.str "week", .str x, .int wd, .int b, .str y, .int st]] }) := by
  have e1 := station_ok p n h x _ q s
  have e2 := is_number_ok (.int wd) 0 4 rfl
  have b2 : numB (.int wd) 0 4 = true := by simp [numB]; omega
  have e3 := show_ok p n h y _ qy sy
  have e4 := look_day_ok (.int st) rfl
  have b4 : numB (.int st) 0 99 = true := by simp [numB]; omega
  have e5 := is_number_ok (.int b) f (l - lg) rfl
  have a2 : atI [D.str y, .str so, .int lg, .bl lv, .int 0] 2 = some (.int lg) := rfl
  have a4 : atI [D.str y, .str so, .int lg, .bl lv, .int 0] 4 = some (.int 0) := rfl
  have e6 := since_P p n h x wd st P hm (name_ok q) hP hl hok hno
  have z1 : h.weeks.length < sizeLine := sz_lt (by omega)
  have z2 : h.done.length < sizeLine := sz_lt (by omega)
  unfold shD at e3
  simp [House_put_week, fnD, House_put_week_b, House_put_week_s1, House_put_week_s2, House_put_week_s3, House_put_week_s4, House_put_week_s5, House_put_week_s6, House_put_week_s7, House_put_week_s8, House_put_week_s9, e1, gSl_seat, e2, b2, e3, e4, b4, a2, a4, e5, nb, e6, z1, z2, wkD, nmD]
omit qy sy
theorem pw_no_wd (d b y st : D) (o : okD d = true) (nb : numB d 0 4 = false) : House_put_week [.obj k, .str x, d, b, y, st] (wP p n h) = .ex ⟨"NoDay", []⟩ (wP p n h) := by
  have e1 := station_ok p n h x _ q s
  have e2 := is_number_ok d 0 4 o
  simp [House_put_week, fnD, House_put_week_b, House_put_week_s1, House_put_week_s2, e1, gSl_seat, e2, nb]
theorem pw_no_show (wd : Int) (b y st : D) (w0 : 0 ≤ wd) (w1 : wd < 5) (hs : House_show [.obj k, y] (wP p n h) = .ex ⟨"NoShow", []⟩ (wP p n h)) : House_put_week [.obj k, .str x, .int wd, b, y, st] (wP p n h) = .ex ⟨"NoShow", []⟩ (wP p n h) := by
  have e1 := station_ok p n h x _ q s
  have e2 := is_number_ok (.int wd) 0 4 rfl
  have b2 : numB (.int wd) 0 4 = true := by simp [numB]; omega
  simp [House_put_week, fnD, House_put_week_b, House_put_week_s1, House_put_week_s2, House_put_week_s3, e1, gSl_seat, e2, b2, hs]
include qy sy
theorem pw_no_since (wd : Int) (b st : D) (w0 : 0 ≤ wd) (w1 : wd < 5) (o : okD st = true) (nb : numB st 0 99 = false) : House_put_week [.obj k, .str x, .int wd, b, .str y, st] (wP p n h) = .ex ⟨"NoDay", []⟩ (wP p n h) := by
  have e1 := station_ok p n h x _ q s
  have e2 := is_number_ok (.int wd) 0 4 rfl
  have b2 : numB (.int wd) 0 4 = true := by simp [numB]; omega
  have e3 := show_ok p n h y _ qy sy
  have e4 := look_day_ok st o
  simp [House_put_week, fnD, House_put_week_b, House_put_week_s1, House_put_week_s2, House_put_week_s3, House_put_week_s4, e1, gSl_seat, e2, b2, e3, e4, nb]
theorem pw_no_hourD (wd st : Int) (b : D) (w0 : 0 ≤ wd) (w1 : wd < 5) (s0 : 0 ≤ st) (s1 : st < 100) (o : okD b = true) (nb : numB b f (l - lg) = false) : House_put_week [.obj k, .str x, .int wd, b, .str y, .int st] (wP p n h) = .ex ⟨"NoHour", []⟩ (wP p n h) := by
  have e1 := station_ok p n h x _ q s
  have e2 := is_number_ok (.int wd) 0 4 rfl
  have b2 : numB (.int wd) 0 4 = true := by simp [numB]; omega
  have e3 := show_ok p n h y _ qy sy
  have e4 := look_day_ok (.int st) rfl
  have b4 : numB (.int st) 0 99 = true := by simp [numB]; omega
  have e5 := is_number_ok b f (l - lg) o
  have a2 : atI [D.str y, .str so, .int lg, .bl lv, .int 0] 2 = some (.int lg) := rfl
  unfold shD at e3
  simp [House_put_week, fnD, House_put_week_b, House_put_week_s1, House_put_week_s2, House_put_week_s3, House_put_week_s4, House_put_week_s5, e1, gSl_seat, e2, b2, e3, e4, b4, a2, e5, nb]
end
section
variable {k : Nat} (p : Pre k) (n : Nat) (h : Hs)
theorem pw_no (d a b y st : D) (o : okD d = true) (q : stB h d = false) : House_put_week [.obj k, d, a, b, y, st] (wP p n h) = .ex ⟨"NoStation", []⟩ (wP p n h) := by
  have e1 := station_st p n h d o q
  simp [House_put_week, fnD, House_put_week_b, House_put_week_s1, e1]
theorem clear_no (d a b e st : D) (o : okD d = true) (q : stB h d = false) : House_clear_week [.obj k, d, a, b, e, st] (wP p n h) = .ex ⟨"NoStation", []⟩ (wP p n h) := by
  have e1 := lookst p n h d o
  simp [House_clear_week, fnD, House_clear_week_b, House_clear_week_s1, e1, q]
variable {x : Str} (q : stB h (.str x) = true)
include q
theorem clear_no_wd (d b e st : D) (o : okD d = true) (nb : numB d 0 4 = false) : House_clear_week [.obj k, .str x, d, b, e, st] (wP p n h) = .ex ⟨"NoDay", []⟩ (wP p n h) := by
  have e1 := lookst p n h (.str x) (okD_name (by simp [stB] at q; exact q.1))
  have e2 := is_number_ok d 0 4 o
  simp [House_clear_week, fnD, House_clear_week_b, House_clear_week_s1, House_clear_week_s2, e1, q, e2, nb]
theorem clear_no_since (wd : Int) (b e st : D) (w0 : 0 ≤ wd) (w1 : wd < 5) (o : okD st = true) (nb : numB st 0 99 = false) : House_clear_week [.obj k, .str x, .int wd, b, e, st] (wP p n h) = .ex ⟨"NoDay", []⟩ (wP p n h) := by
  have e1 := lookst p n h (.str x) (okD_name (by simp [stB] at q; exact q.1))
  have e2 := is_number_ok (.int wd) 0 4 rfl
  have b2 : numB (.int wd) 0 4 = true := by simp [numB]; omega
  have e4 := look_day_ok st o
  simp [House_clear_week, fnD, House_clear_week_b, House_clear_week_s1, House_clear_week_s2, House_clear_week_s3, e1, q, e2, b2, e4, nb]
theorem clear_no_span (wd st : Int) (b e : D) (w0 : 0 ≤ wd) (w1 : wd < 5) (s0 : 0 ≤ st) (s1 : st < 100) (ob : okD b = true) (oe : okD e = true) (nb : spanB b e 0 24 = false) : House_clear_week [.obj k, .str x, .int wd, b, e, .int st] (wP p n h) = .ex ⟨"NoHour", []⟩ (wP p n h) := by
  have e1 := lookst p n h (.str x) (okD_name (by simp [stB] at q; exact q.1))
  have e2 := is_number_ok (.int wd) 0 4 rfl
  have b2 : numB (.int wd) 0 4 = true := by simp [numB]; omega
  have e4 := look_day_ok (.int st) rfl
  have b4 : numB (.int st) 0 99 = true := by simp [numB]; omega
  have sp := span_ok b e 0 24 ob oe
  simp [House_clear_week, fnD, House_clear_week_b, House_clear_week_s1, House_clear_week_s2, House_clear_week_s3, House_clear_week_s4, e1, q, e2, b2, e4, b4, sp, nb]
end
/-! ### stations and breaks that are refused -/
section
variable {k : Nat} (p : Pre k) (n : Nat) (h : Hs)
theorem open_no_name (d u i j m : D) (o : okD d = true) (q : nameB d = false) : House_open_station [.obj k, d, u, i, j, m] (wP p n h) = .ex ⟨"NoName", []⟩ (wP p n h) := by
  have e := is_name_ok d o
  simp [House_open_station, fnD, House_open_station_b, House_open_station_s1, e, q]
theorem open_taken (x : Str) (u i j m : D) (q : nameB (.str x) = true) (s : (valD h.seats (.inr x)).isSome = true) : House_open_station [.obj k, .str x, u, i, j, m] (wP p n h) = .ex ⟨"Taken", []⟩ (wP p n h) := by
  have e := is_name_ok (.str x) (okD_name q)
  simp [House_open_station, fnD, House_open_station_b, House_open_station_s1, House_open_station_s2, e, q, s]
variable (x : Str) (q : nameB (.str x) = true) (s : valD h.seats (.inr x) = none)
include q s
theorem open_no_upper (u i j m : D) (o : okD u = true) (nn : nameB u = false) (nz : u ≠ .non) : House_open_station [.obj k, .str x, u, i, j, m] (wP p n h) = .ex ⟨"NoStation", []⟩ (wP p n h) := by
  have e := is_name_ok (.str x) (okD_name q)
  have e2 := lookst_no p n h u o nn
  have nz' : DL.isNon u = false := by cases u <;> first | rfl | exact absurd rfl nz
  simp [House_open_station, fnD, House_open_station_b, House_open_station_s1, House_open_station_s2, House_open_station_s3, e, q, s, gIsN, nz', e2]
theorem open_no_span (i j m : D) (oi : okD i = true) (oj : okD j = true) (nb : spanB i j 0 24 = false) : House_open_station [.obj k, .str x, .non, i, j, m] (wP p n h) = .ex ⟨"NoHour", []⟩ (wP p n h) := by
  have e := is_name_ok (.str x) (okD_name q)
  have sp := span_ok i j 0 24 oi oj
  simp [House_open_station, fnD, House_open_station_b, House_open_station_s1, House_open_station_s2, House_open_station_s3, House_open_station_s4, e, q, s, gIsN, DL.isNon, sp, nb]
/-- whether it is a rule -/
def ruleB (d : D) : Bool := match d with
  | .str z => z == "join" || z == "push"
  | _ => false
theorem open_no_rule (m : D) (om : okD m = true) (nr : ruleB m = false) : House_open_station [.obj k, .str x, .non, .int 1, .int 24, m] (wP p n h) = .ex ⟨"NoRule", []⟩ (wP p n h) := by
  have e := is_name_ok (.str x) (okD_name q)
  have sp := span_ok (.int 1) (.int 24) 0 24 rfl rfl
  have nb : spanB (.int 1) (.int 24) 0 24 = true := by decide
  have gi : ∀ z : Str, m = .str z → ∀ (m1 m2 : Md) (w : W), gIn true ⟨m1, .str z⟩ ⟨m2, .tup [.str "join", .str "push"]⟩ w = .ok (fz (.bl true)) w := fun z hz m1 m2 w => by
    subst hz
    have c : ∀ a b : Str, (a == b) = (b == a) := fun a b => by
      rw [Bool.eq_iff_iff, beq_iff_eq, beq_iff_eq]
      exact ⟨Eq.symm, Eq.symm⟩
    simp only [ruleB, Bool.or_eq_false_iff] at nr
    simp [gIn, flD, eqD, c "join" z, c "push" z, nr.1, nr.2]
  cases m <;> simp [okD] at om
  case str z =>
    have g := gi z rfl
    simp [House_open_station, fnD, House_open_station_b, House_open_station_s1, House_open_station_s2, House_open_station_s3, House_open_station_s4, House_open_station_s5, e, q, s, gIsN, DL.isNon, sp, nb, gIsiT, gIsi, tyD, g]
  all_goals simp [House_open_station, fnD, House_open_station_b, House_open_station_s1, House_open_station_s2, House_open_station_s3, House_open_station_s4, House_open_station_s5, e, q, s, gIsN, DL.isNon, sp, nb, gIsiT, gIsi, tyD]
end
section
variable {k : Nat} (p : Pre k) (n : Nat) (h : Hs)
theorem break_no (d a b c : D) (o : okD d = true) (q : stB h d = false) : House_break_in [.obj k, d, a, b, c] (wP p n h) = .ex ⟨"NoStation", []⟩ (wP p n h) := by
  have e1 := station_st p n h d o q
  simp [House_break_in, fnD, House_break_in_b, House_break_in_s1, e1]
variable {x : Str} {u m : D} {f l : Int} (q : nameB (.str x) = true) (s : valD h.seats (.inr x) = some (.tup [u, .int f, .int l, m]))
include q s
theorem break_no_day (a b c : D) (o : okD a = true) (na : numB a 0 99 = false) : House_break_in [.obj k, .str x, a, b, c] (wP p n h) = .ex ⟨"NoDay", []⟩ (wP p n h) := by
  have e1 := station_ok p n h x _ q s
  have e2 := look_day_ok a o
  simp [House_break_in, fnD, House_break_in_b, House_break_in_s1, House_break_in_s2, e1, gSl_seat, e2, na]
theorem break_no_hour (i : Int) (b c : D) (i0 : 0 ≤ i) (i1 : i < 100) (ob : okD b = true) (oc : okD c = true) (hs : spanB b c f l = false) : House_break_in [.obj k, .str x, .int i, b, c] (wP p n h) = .ex ⟨"NoHour", []⟩ (wP p n h) := by
  have e1 := station_ok p n h x _ q s
  have e2 := look_day_ok (.int i) rfl
  have b2 : numB (.int i) 0 99 = true := by simp [numB]; omega
  have e3 := span_ok b c f l ob oc
  simp [House_break_in, fnD, House_break_in_b, House_break_in_s1, House_break_in_s2, House_break_in_s3, e1, gSl_seat, e2, b2, e3, hs]
end
/-! ### deeds done -/
theorem ix_0 (a : D) (l : List D) : atI (a :: l) 0 = some a := by rw [atI_pos (by decide) (by simp)]; rfl
theorem ix_1 (a b : D) (l : List D) : atI (a :: b :: l) 1 = some b := by rw [atI_pos (by decide) (by simp; omega)]; rfl
theorem ix_2 (a b c : D) (l : List D) : atI (a :: b :: c :: l) 2 = some c := by rw [atI_pos (by decide) (by simp; omega)]; rfl
theorem ix_3 (a b c d : D) (l : List D) : atI (a :: b :: c :: d :: l) 3 = some d := by rw [atI_pos (by decide) (by simp; omega)]; rfl
theorem ix_4 (a b c d e : D) (l : List D) : atI (a :: b :: c :: d :: e :: l) 4 = some e := by rw [atI_pos (by decide) (by simp; omega)]; rfl
theorem ix_5 (a b c d e f : D) (l : List D) : atI (a :: b :: c :: d :: e :: f :: l) 5 = some f := by rw [atI_pos (by decide) (by simp; omega)]; rfl
section
variable {k : Nat} (p : Pre k) (n : Nat) (h : Hs)
@[simp] theorem bind_bad {α β : Type} (f : α → W → DL.R β) : (DL.R.bad : DL.R α).bind f = .bad := rfl
@[simp] theorem rthn_bad {α : Type} (ρ : DL.Env) (f : α → W → Out) : (DL.R.bad : DL.R α).thn ρ f = .bad := rfl
def thnN (r : DL.R Val) : DL.R Val := r.bind fun _ w => .ok (fz .non) w
theorem do_open_s (x u i j m : D) : do_open [.obj k, .tup [.str "open", x, u, i, j, m]] (wP p n h) = thnN (House_open_station [.obj k, x, u, i, j, m] (wP p n h)) := by
  cases e : House_open_station [.obj k, x, u, i, j, m] (wP p n h) <;> simp [do_open, fnD, do_open_b, ix_1, ix_2, ix_3, ix_4, ix_5, e, thnN, dfl_open_station]
theorem do_show_s (ds : List D) : do_show [.obj k, .tup (.str "show" :: ds)] (wP p n h) = thnN (House_add_show [.obj k, .tup ds] (wP p n h)) := by
  have cu : ∀ m w, gSl ⟨m, .tup (.str "show" :: ds)⟩ (some 1) none w = .ok (fz (.tup ds)) w := fun m w => by
    have c1 : cutL (D.str "show" :: ds) (some 1) none = ds := cutL_from (D.str "show" :: ds) 1
    have s1 : HT.sIx (ds.length + 1) 0 (some (1 : Int)) = 1 := by
      rw [show (1 : Int) = ((1 : Nat) : Int) from rfl, HT.sIx_nat]
      omega
    simp [gSl, c1, s1]
  cases e : House_add_show [.obj k, .tup ds] (wP p n h) <;> simp [do_show, fnD, do_show_b, cu, e, thnN]
theorem do_week_s (x a b y st : D) : do_week [.obj k, .tup [.str "week", x, a, b, y, st]] (wP p n h) = thnN (House_put_week [.obj k, x, a, b, y, st] (wP p n h)) := by
  cases e : House_put_week [.obj k, x, a, b, y, st] (wP p n h) <;> simp [do_week, fnD, do_week_b, ix_1, ix_2, ix_3, ix_4, ix_5, e, thnN]
theorem do_clear_s (x a b y st : D) : do_clear [.obj k, .tup [.str "clear", x, a, b, y, st]] (wP p n h) = thnN (House_clear_week [.obj k, x, a, b, y, st] (wP p n h)) := by
  cases e : House_clear_week [.obj k, x, a, b, y, st] (wP p n h) <;> simp [do_clear, fnD, do_clear_b, ix_1, ix_2, ix_3, ix_4, ix_5, e, thnN]
theorem do_put_s (x a b y : D) : do_put [.obj k, .tup [.str "put", x, a, b, y]] (wP p n h) = thnN (House_put [.obj k, x, a, b, y] (wP p n h)) := by
  cases e : House_put [.obj k, x, a, b, y] (wP p n h) <;> simp [do_put, fnD, do_put_b, ix_1, ix_2, ix_3, ix_4, e, thnN]
theorem do_break_s (x a b y : D) : do_break [.obj k, .tup [.str "break", x, a, b, y]] (wP p n h) = thnN (House_break_in [.obj k, x, a, b, y] (wP p n h)) := by
  cases e : House_break_in [.obj k, x, a, b, y] (wP p n h) <;> simp [do_break, fnD, do_break_b, ix_1, ix_2, ix_3, ix_4, e, thnN]
theorem do_over_s (x a b y : D) : do_over [.obj k, .tup [.str "over", x, a, b, y]] (wP p n h) = thnN (House_overrun [.obj k, x, a, b, y] (wP p n h)) := by
  cases e : House_overrun [.obj k, x, a, b, y] (wP p n h) <;> simp [do_over, fnD, do_over_b, ix_1, ix_2, ix_3, ix_4, e, thnN]
theorem do_drop_s (x a b : D) : do_drop [.obj k, .tup [.str "drop", x, a, b]] (wP p n h) = thnN (House_drop [.obj k, x, a, b] (wP p n h)) := by
  cases e : House_drop [.obj k, x, a, b] (wP p n h) <;> simp [do_drop, fnD, do_drop_b, ix_1, ix_2, ix_3, e, thnN]
theorem do_tick_s (x : D) : do_tick [.obj k, .tup [.str "tick", x]] (wP p n h) = thnN (House_tick [.obj k, x] (wP p n h)) := by
  cases e : House_tick [.obj k, x] (wP p n h) <;> simp [do_tick, fnD, do_tick_b, ix_1, e, thnN]
end
/-- who does a deed -/
def StepOk (h : Hs) (d : D) (h' : Hs) : Prop := ∃ (z : Str) (ds : List D) (F : DF), d = .tup (.str z :: ds) ∧ wd_DOERS.lookup z = some F ∧ ∀ (k : Nat) (p : Pre k) (n : Nat), ∃ v n', F [.obj k, d] (wP p n h) = .ok v (wP p n' h')
def StepEx (h : Hs) (d : D) : Prop := ∃ (z : Str) (ds : List D) (F : DF), d = .tup (.str z :: ds) ∧ wd_DOERS.lookup z = some F ∧ ∀ (k : Nat) (p : Pre k) (n : Nat), ∃ x n' h', F [.obj k, d] (wP p n h) = .ex x (wP p n' h')
theorem l1_ok {h h' : Hs} {d : D} (S : StepOk h d h') {k : Nat} (p : Pre k) (n : Nat) (s0 s2 s4 : Option Val) : ∃ n', replayed_l1 [s0, some (fz (.obj k)), s2, some (fz d), s4] (wP p n h) = .next [s0, some (fz (.obj k)), s2, some (fz d), none] (wP p n' h') := by
  obtain ⟨z, ds, F, rfl, hF, hs⟩ := S
  obtain ⟨v, n', e⟩ := hs k p n
  refine ⟨n', ?_⟩
  unfold replayed_l1 sDo
  generalize wd_DOERS = tbl at *
  simp [ix_0, hF, e]
theorem l1_ex {h : Hs} {d : D} (S : StepEx h d) {k : Nat} (p : Pre k) (n : Nat) (s0 s2 s4 : Option Val) : ∃ x ρ n' h', replayed_l1 [s0, some (fz (.obj k)), s2, some (fz d), s4] (wP p n h) = .ex x ρ (wP p n' h') := by
  obtain ⟨z, ds, F, rfl, hF, hs⟩ := S
  obtain ⟨x, n', h', e⟩ := hs k p n
  refine ⟨x, [s0, some (fz (.obj k)), s2, some (fz (.tup (.str z :: ds))), none], n', h', ?_⟩
  unfold replayed_l1 sDo
  generalize wd_DOERS = tbl at *
  simp [ix_0, hF, e]
inductive Path : Hs → List D → Hs → Prop
  | nil {h : Hs} : Path h [] h
  | cons {h h1 h2 : Hs} {d : D} {ds : List D} : StepOk h d h1 → Path h1 ds h2 → Path h (d :: ds) h2
theorem Path.app {h1 h2 h3 : Hs} {a b : List D} (p : Path h1 a h2) (q : Path h2 b h3) : Path h1 (a ++ b) h3 := by
  induction p with
  | nil => exact q
  | cons s _ ih => exact .cons s (ih q)
theorem run_ok {h h' : Hs} {ds : List D} (P : Path h ds h') : ∀ {k : Nat} (p : Pre k) (n : Nat) (s0 s2 s3 s4 : Option Val), ∃ n' s3' s4', ∀ rest, forL (.nm 3) replayed_l1 (ds ++ rest) [s0, some (fz (.obj k)), s2, s3, s4] (wP p n h) = forL (.nm 3) replayed_l1 rest [s0, some (fz (.obj k)), s2, s3', s4'] (wP p n' h') := by
  induction P with
  | nil => exact fun p n s0 s2 s3 s4 => ⟨n, s3, s4, fun _ => rfl⟩
  | @cons h h1 h2 d ds s _ ih =>
    intro k p n s0 s2 s3 s4
    obtain ⟨n1, e1⟩ := l1_ok s p n s0 s2 s4
    obtain ⟨n2, s3', s4', e2⟩ := ih p n1 s0 s2 (some (fz d)) none
    refine ⟨n2, s3', s4', fun rest => ?_⟩
    rw [List.cons_append, ← e2 rest]
    conv => lhs; unfold forL
    simp only [setT_nm, List.set_cons_succ, List.set_cons_zero, e1]
theorem run_ex {h h' : Hs} {ds : List D} {d : D} (P : Path h ds h') (S : StepEx h' d) {k : Nat} (p : Pre k) (n : Nat) (s0 s2 s3 s4 : Option Val) (rest : List D) : ∃ x ρ n' h'', forL (.nm 3) replayed_l1 (ds ++ d :: rest) [s0, some (fz (.obj k)), s2, s3, s4] (wP p n h) = .ex x ρ (wP p n' h'') := by
  obtain ⟨n1, s3', s4', e1⟩ := run_ok P p n s0 s2 s3 s4
  obtain ⟨x, ρ, n2, h2, e2⟩ := l1_ex S p n1 s0 s2 s4'
  refine ⟨x, ρ, n2, h2, ?_⟩
  rw [e1]
  unfold forL
  simp only [setT_nm, List.set_cons_succ, List.set_cons_zero, e2]
/-! ### the form of a deed -/
def deedB (d : D) : Bool := match d with
  | .tup (.str z :: ds) => wd_LENGTHS.lookup z == some ((ds.length : Int) + 1)
  | _ => false
/-- what can be asked of a thing -/
def okDe (d : D) : Bool := match d with
  | .tup [] => true
  | .tup (x :: ds) => okD x && pl (.tup (x :: ds)) && decide (ds.length ≤ 100)
  | d => okD d
theorem is_deed_ok (d : D) (o : okDe d = true) (w : W) : is_deed [d] w = .ok (fz (.bl (deedB d))) w := by
  cases d <;> try (simp [okDe, okD] at o; done)
  case tup ds =>
    cases ds with
    | nil =>
      have ge : ∀ m m' w, gEq false ⟨m, .tup []⟩ ⟨m', .tup []⟩ w = .ok (fz (.bl true)) w := fun m m' w => rfl
      simp [is_deed, fnD, is_deed_b, gIsiT, gIsi, tyD, ge, deedB]
    | cons x ds =>
      simp only [okDe, Bool.and_eq_true, decide_eq_true_eq] at o
      obtain ⟨⟨ox, op⟩, ol⟩ := o
      have ge : ∀ m m' w, gEq false ⟨m, .tup (x :: ds)⟩ ⟨m', .tup []⟩ w = .ok (fz (.bl false)) w := fun m m' w => by
        have h2 : pl (.tup []) = true := rfl
        simp only [gEq, op, h2, Bool.and_self, if_true]
        simp [eqD, eqDs]
      have gt : ∀ m w, gIsiT "tuple" ⟨m, .tup (x :: ds)⟩ w = .ok (fz (.bl true)) w := fun m w => by simp [gIsiT, gIsi, tyD]
      have gl : ∀ m w, gLen [⟨m, .tup (x :: ds)⟩] w = .ok (fz (.int ((ds.length : Int) + 1))) w := fun m w => by simp
      cases x <;> simp [okD] at ox
      case str z =>
        have gs : ∀ m w, gIsiT "str" ⟨m, .str z⟩ w = .ok (fz (.bl true)) w := fun m w => by simp [gIsiT, gIsi, tyD]
        simp only [is_deed, fnD, is_deed_b, deedB]
        unfold dInW dIxW
        generalize wd_LENGTHS = tbl
        cases el : tbl.lookup z with
        | none => simp [gt, ge, ix_0, gs, el, gl]
        | some i => 
          have c : ((ds.length : Int) + 1 == i) = (i == (ds.length : Int) + 1) := by
            rw [Bool.eq_iff_iff, beq_iff_eq, beq_iff_eq]
            exact ⟨Eq.symm, Eq.symm⟩
          simp [gt, ge, ix_0, gs, el, gl, c]
      all_goals simp [is_deed, fnD, is_deed_b, gt, ge, ix_0, gIsiT, gIsi, tyD, deedB]
  all_goals simp [is_deed, fnD, is_deed_b, gIsiT, gIsi, tyD, deedB]
/-! ### played again -/
def Good (w : W) : Prop := (∃ n, w = ⟨n, [], false⟩) ∨ ∃ (k : Nat) (p : Pre k) (n : Nat) (h : Hs), p.r = [] ∧ w = wP p n h
theorem Good.new {w : W} (g : Good w) : ∃ (k : Nat) (p : Pre k) (n : Nat), p.r = [] ∧ ∀ ρ, dNew ρ w = .ok (fz (.obj k)) (wP p n hs0) := by
  rcases g with ⟨n, rfl⟩ | ⟨k, p, n, h, hr, rfl⟩
  · exact ⟨0, p0, n + 1, rfl, fun ρ => dNew_0 ρ n⟩
  · exact ⟨k + 1, p.push h, n + 1, rfl, fun ρ => dNew_k p n h ρ hr⟩
theorem rep_no (d : D) (o : okD d = true) (nl : ∀ ds, d ≠ .lst ds) (ns : ∀ ds, d ≠ .scr ds) (w : W) : replayed [d] w = .ex ⟨"NoDeeds", []⟩ w := by
  cases d <;> simp [okD] at o <;> first
    | exact absurd rfl (nl _)
    | exact absurd rfl (ns _)
    | simp [replayed, fnD, replayed_b, gIsiT, gIsi, tyD]
section
variable (L : List D) (hl : L.length ≤ 100) (ho : ∀ d ∈ L, okDe d = true)
include hl ho
theorem deeds_lc (z1 z2 z3 z4 : Option Val) (w : W) : dLc (iSq (dVar 0)) (.nm 3) tYesD (dCall is_deed [] (dOne (dVar 3))) [3] [some (fz (.lst L)), z1, z2, z3, z4] w = .ok ⟨.nw, .lst (L.map fun d => .bl (deedB d))⟩ w := by
  refine dLc_ok (ds := L) (b := true) (by simp [iSq]) (sz_le (by omega)) ?_
  have := lcL_allW (id : D → D) (fun d => .bl (deedB d)) (t := .nm 3) (f := dCall is_deed [] (dOne (dVar 3))) (ρ := wipeD [some (fz (.lst L)), z1, z2, z3, z4] [3]) (w := w) L fun d hd => by
    have := is_deed_ok d (ho d hd)
    exact ⟨_, rfl, .fz, rfl, by simp [this]⟩
  simpa using this
theorem rep_bad (hb : L.all deedB = false) (w : W) : replayed [.lst L] w = .ex ⟨"NoDeeds", []⟩ w := by
  have lc := deeds_lc L hl ho none none none none w
  simp [replayed, fnD, replayed_b, gIsiT, gIsi, tyD, lc, gAll_map, hb]
theorem rep_ok (hb : L.all deedB = true) {h : Hs} (P : Path hs0 L h) {w : W} (g : Good w) : ∃ (k : Nat) (p : Pre k) (n : Nat), p.r = [] ∧ replayed [.lst L] w = .ok (fz (.obj k)) (wP p n h) := by
  have lc := deeds_lc L hl ho none none none none w
  obtain ⟨k, p, n, pr, en⟩ := g.new
  obtain ⟨n', s3, s4, e⟩ := run_ok P p n (some (fz (.lst L))) none none none
  have e := e []
  rw [List.append_nil] at e
  have e : forL (.nm 3) replayed_l1 L [some (fz (.lst L)), some (fz (.obj k)), none, none, none] (wP p n hs0) = .next [some (fz (.lst L)), some (fz (.obj k)), none, s3, s4] (wP p n' h) := by rw [e]; rfl
  refine ⟨k, p, n', pr, ?_⟩
  refine fnD_ret rfl ?_
  show replayed_b [some (fz (.lst L)), none, none, none, none] w = _
  simp only [replayed_b]
  simp [gIsiT, gIsi, tyD, lc, gAll_map, hb, en, e]
end
theorem rep_ex (A B : List D) (d : D) (hl : (A ++ d :: B).length ≤ 100) (ho : ∀ x ∈ A ++ d :: B, okDe x = true) (hb : (A ++ d :: B).all deedB = true) {h : Hs} (P : Path hs0 A h) (S : StepEx h d) {w : W} (g : Good w) : ∃ w', Good w' ∧ replayed [.lst (A ++ d :: B)] w = .ex ⟨"NoDeeds", []⟩ w' := by
  have lc := deeds_lc _ hl ho none none none none w
  obtain ⟨k, p, n, pr, en⟩ := g.new
  obtain ⟨x, ρ, n', h', e⟩ := run_ex P S p n (some (fz (.lst (A ++ d :: B)))) none none none B
  refine ⟨_, .inr ⟨k, p, n', h', pr, rfl⟩, ?_⟩
  generalize A ++ d :: B = L at *
  simp [replayed, fnD, replayed_b, gIsiT, gIsi, tyD, lc, gAll_map, hb, en, e]
/-! ### the house, deed by deed -/
def shB (b : Str) : Sh := ⟨b.cps.toList, Str.ofString "talk", 1, true, 2⟩
def shC (c : Str) : Sh := ⟨c.cps.toList, Str.ofString "tune", 2, false, 0⟩
def seA : D := .tup [.non, .int 1, .int 24, .str "push"]
def HA (a : Str) (S : List Sh) (ws : List Wk) (P : Pln) (C : List (List Key × D)) (m : Int) (dn : List D) : Hs := ⟨[.str a], [(.inr a, seA)], knD S, ws.map wkD, plD P, C, m, dn⟩
def e0 (a : Str) : D := .tup [.str "open", .str a, .non, .int 1, .int 24, .str "push"]
def e1 (b : Str) : D := .tup [.str "show", .str b, .str "talk", .int 1, .bl true, .int 2]
def e2 (c : Str) : D := .tup [.str "show", .str c, .str "tune", .int 2, .bl false, .int 0]
def e3 (a b : Str) (t : Int) : D := .tup [.str "put", .str a, .int 1, .int t, .str b]
def e4 (a c : Str) (t : Int) : D := .tup [.str "week", .str a, .int 2, .int t, .str c, .int 0]
def e5 (a : Str) (t : Int) : D := .tup [.str "clear", .str a, .int 2, .int t, .int (t + 1), .int 1]
def e6 (a : Str) : D := .tup [.str "break", .str a, .int 1, .int 1, .int 24]
def e7 (a : Str) (t : Int) : D := .tup [.str "over", .str a, .int 1, .int t, .int 1]
def e8 : D := .tup [.str "tick", .int 24]
def e9 (a : Str) (t : Int) : D := .tup [.str "drop", .str a, .int 1, .int t]
def r1 (b : Str) (t : Int) : Row := ⟨t, t + 1, b.cps.toList⟩
def r2 (b : Str) (t : Int) : Row := ⟨t, t + 2, b.cps.toList⟩
def wk1 (a c : Str) (t : Int) : Wk := ⟨a, 2, 0, t, t + 2, some c⟩
def wk2 (a : Str) (t : Int) : Wk := ⟨a, 2, 1, t, t + 1, none⟩
def ctA (a : Str) : List (List Key × D) := putKD [] [.inr a, .inl 1] (.lst [.tup [.int 1, .int 24]])
structure Ok3 (a b c : Str) (t : Int) : Prop where
  na : nameB (.str a) = true
  nb : nameB (.str b) = true
  nc : nameB (.str c) = true
  bc : b ≠ c
  t0 : 2 ≤ t
  t1 : t ≤ 19
theorem cps_ne {a b : Str} (h : a ≠ b) : ¬ (a.cps.toList = b.cps.toList) := fun e => h (by rw [← nm_of a, ← nm_of b, e])
theorem nok_nm {x : Str} (h : nameB (.str x) = true) : NOk x.cps.toList := nok_of (by rw [nm_of]; exact name_ok h)
section
variable {a b c : Str} {t : Int} {S : List Sh} {ws : List Wk} {P : Pln} {C : List (List Key × D)} {m : Int} {dn : List D}
theorem HA_seat : valD (HA a S ws P C m dn).seats (.inr a) = some (.tup [.non, .int 1, .int 24, .str (Str.ofString "push")]) := by simp [HA, valD, seA]
theorem HA_st (na : nameB (.str a) = true) : stB (HA a S ws P C m dn) (.str a) = true := by simp [stB, na, HA, valD]
theorem kn_put {S : List Sh} {s : Sh} (hn : ∀ q ∈ S, nm q.n ≠ nm s.n) : putKD (knD S) (.inr (nm s.n)) s.d = knD (S ++ [s]) := by
  have e : ((knD S).any fun kv => decide (kv.1 = Sum.inr (nm s.n))) = false := by
    rw [List.any_eq_false]
    intro kv hkv
    obtain ⟨q, hq, rfl⟩ := List.mem_map.mp hkv
    simpa using hn q hq
  unfold putKD
  rw [e]
  simp [knD]
theorem kn_no {S : List Sh} {x : Str} (hn : ∀ q ∈ S, nm q.n ≠ x) : valD (knD S) (.inr x) = none := by
  unfold valD
  have : (knD S).find? (fun kv => decide (kv.1 = Sum.inr x)) = none := by
    rw [List.find?_eq_none]
    intro kv hkv
    obtain ⟨q, hq, rfl⟩ := List.mem_map.mp hkv
    simpa using hn q hq
  rw [this]
  rfl
theorem step_show (h : Hs) (s : Sh) (S : List Sh) (hk : h.known = knD S) (hx : nameB (.str (nm s.n)) = true) (hs : okD (.str s.so) = true) (q : showB s.d = true) (hn : ∀ q ∈ S, nm q.n ≠ nm s.n) (hl : S.length < 1000) (hd : h.done.length < 1000) :
    StepOk h (.tup [.str "show", .str (nm s.n), .str s.so, .int s.lg, .bl s.lv, .int s.mo]) { h with known := knD (S ++ [s]), done := h.done ++ [.tup [.str "show", .str (nm s.n), .str s.so, .int s.lg, .bl s.lv, .int s.mo]] } := by
  refine ⟨_, _, do_show, rfl, rfl, fun k p n => ⟨fz .non, n + 2, ?_⟩⟩
  have o := addshow_ok p n h (nm s.n) s.so s.lg s.lv s.mo hx hs q (by rw [hk]; exact kn_no hn) (by rw [hk]; simpa [knD] using hl) hd
  have e : putKD h.known (.inr (nm s.n)) (shD (nm s.n) s.so s.lg s.lv s.mo) = knD (S ++ [s]) := by rw [hk]; exact kn_put hn
  rw [e] at o
  unfold shD at o
  rw [do_show_s, o]
  rfl
theorem step0 (na : nameB (.str a) = true) : StepOk hs0 (e0 a) (HA a [] [] [] [] 0 [e0 a]) := by
  refine ⟨_, _, do_open, rfl, rfl, fun k p n => ⟨fz .non, n + 3, ?_⟩⟩
  have o := open_ok p n hs0 a .non 1 24 (Str.ofString "push") na rfl rfl (by decide) (.inr rfl) (by decide) (by decide) (by decide)
  unfold e0
  rw [do_open_s, o]
  rfl
theorem WksOk.two (na : nameB (.str a) = true) (nc : nameB (.str c) = true) : WksOk [wk1 a c t, wk2 a t] := by
  refine ⟨by simp, fun w hw => ?_⟩
  simp only [List.mem_cons, List.not_mem_nil, or_false] at hw
  rcases hw with rfl | rfl
  · exact ⟨by show t < t + 2; omega, name_ok na, fun y hy => by cases hy; exact name_ok nc⟩
  · exact ⟨by show t < t + 1; omega, name_ok na, fun y hy => by cases hy⟩
theorem WksOk.one (na : nameB (.str a) = true) (nc : nameB (.str c) = true) : WksOk [wk1 a c t] := ⟨by simp, fun w hw => (WksOk.two (t := t) na nc).2 w (by rw [List.mem_singleton] at hw; subst hw; exact List.mem_cons_self)⟩
theorem WksOk.nil : WksOk [] := ⟨by simp, by simp⟩
theorem rows_one {r : Row} (h : r.b < r.e) (ht : PyData.strOk (nm r.n) = true) : Rows [r] := ⟨by simp, fun q hq => by rw [List.mem_singleton] at hq; subst hq; exact h, fun q hq => by rw [List.mem_singleton] at hq; subst hq; exact ht⟩
theorem rows_nil : Rows [] := ⟨by simp, by simp, by simp⟩
theorem pl_put (rs rs' : List Row) : putKD (plD [((a, 1), rs)]) [.inr a, .inl 1] (.lst (rs'.map rowD)) = plD [((a, 1), rs')] := by simp [plD, plK, putKD]
theorem pl_val (rs : List Row) : valD (plD [((a, 1), rs)]) [.inr a, .inl 1] = some (.lst (rs.map rowD)) := by simp [plD, plK, valD]
theorem HA_rows (rs : List Row) : rowsAt (HA a S ws [((a, 1), rs)] C m dn) a 1 rs := by
  unfold rowsAt
  have : valD (HA a S ws [((a, 1), rs)] C m dn).plans [.inr a, .inl 1] = some (.lst (rs.map rowD)) := pl_val rs
  rw [this]
theorem HA_rows0 : rowsAt (HA a S [] [] C m dn) a 1 [] := by
  unfold rowsAt
  have : valD (HA a S [] [] C m dn).plans [.inr a, .inl 1] = none := rfl
  rw [this]
  exact ⟨[], rfl, WksOk.nil, rfl⟩
theorem HA_wk (W : WksOk ws) : WkOk (HA a S ws P C m dn) := ⟨ws, rfl, W⟩
theorem kn_BC (K : Ok3 a b c t) : Kn (HA a [shB b, shC c] ws P C m dn) [shB b, shC c] where
  eq := rfl
  nd := by simp [shB, shC, cps_ne K.bc]
  ok := fun s hs => by
    simp only [List.mem_cons, List.not_mem_nil, or_false] at hs
    rcases hs with rfl | rfl
    · exact ⟨nok_nm K.nb, by show PyData.strOk (Str.ofString "talk") = true; exact strOk_of _⟩
    · exact ⟨nok_nm K.nc, by show PyData.strOk (Str.ofString "tune") = true; exact strOk_of _⟩
  le := by simp
theorem kB (K : Ok3 a b c t) : valD (HA a [shB b, shC c] ws P C m dn).known (.inr b) = some (shD b (Str.ofString "talk") 1 true 2) := by
  have := val_kn (kn_BC K (ws := ws) (P := P) (C := C) (m := m) (dn := dn)).nd (shB b) List.mem_cons_self
  simpa [shB, Sh.d, nm_of, HA] using this
theorem kC (K : Ok3 a b c t) : valD (HA a [shB b, shC c] ws P C m dn).known (.inr c) = some (shD c (Str.ofString "tune") 2 false 0) := by
  have := val_kn (kn_BC K (ws := ws) (P := P) (C := C) (m := m) (dn := dn)).nd (shC c) (List.mem_cons_of_mem _ List.mem_cons_self)
  simpa [shC, Sh.d, nm_of, HA] using this
/-! steps -/
theorem step3 (K : Ok3 a b c t) (hd : dn.length < 900) : StepOk (HA a [shB b, shC c] [] [] [] 0 dn) (e3 a b t) (HA a [shB b, shC c] [] [((a, 1), [r1 b t])] [] 0 (dn ++ [e3 a b t])) := by
  obtain ⟨na, nb, nc, bc, t0, t1⟩ := id K
  refine ⟨_, _, do_put, rfl, rfl, fun k p n => ⟨fz .non, n + 4, ?_⟩⟩
  have lw : layW ⟨t, t + 1, b.cps.toList⟩ [] = [r1 b t] := rfl
  have o := put_okR p n (HA a [shB b, shC c] [] [] [] 0 dn) na HA_seat nb (kB K) 1 t [] (by decide) (by decide) (name_ok nb) (by simp [numB]; omega) (by decide) (by show (0 : Int) ≤ 1 * 24 + t; omega) (by decide) [] ⟨rfl, .nil, by simp, by simp⟩ (by rw [lw]; simp [tmF, r1, nm_of]) (HA_wk WksOk.nil) HA_rows0 rows_nil (by simp) (by show 0 < 1000; decide) (by show dn.length < 1000; omega)
  unfold e3
  rw [do_put_s, o, lw]
  rfl
theorem step4 (K : Ok3 a b c t) (hd : dn.length < 900) : StepOk (HA a [shB b, shC c] [] [((a, 1), [r1 b t])] [] 0 dn) (e4 a c t) (HA a [shB b, shC c] [wk1 a c t] [((a, 1), [r1 b t])] [] 0 (dn ++ [e4 a c t])) := by
  obtain ⟨na, nb, nc, bc, t0, t1⟩ := id K
  refine ⟨_, _, do_week, rfl, rfl, fun k p n => ⟨fz .non, n + 4, ?_⟩⟩
  have o := pw_okP p n (HA a [shB b, shC c] [] [((a, 1), [r1 b t])] [] 0 dn) na HA_seat nc (kC K) 2 t 0 [((a, 1), [r1 b t])] (by decide) (by decide) (by decide) (by decide) (by simp [numB]; omega) (by show (0 : Int) ≤ 0 * 24; decide) rfl (by simp) (by simp [name_ok na]) (by simp) (by show 0 < 1000; decide) (by show dn.length < 1000; omega)
  unfold e4
  rw [do_week_s, o]
  rfl
theorem step5 (K : Ok3 a b c t) (hd : dn.length < 900) : StepOk (HA a [shB b, shC c] [wk1 a c t] [((a, 1), [r1 b t])] [] 0 dn) (e5 a t) (HA a [shB b, shC c] [wk1 a c t, wk2 a t] [((a, 1), [r1 b t])] [] 0 (dn ++ [e5 a t])) := by
  obtain ⟨na, nb, nc, bc, t0, t1⟩ := id K
  refine ⟨_, _, do_clear, rfl, rfl, fun k p n => ⟨fz .non, n + 4, ?_⟩⟩
  have o := clear_okP p n (HA a [shB b, shC c] [wk1 a c t] [((a, 1), [r1 b t])] [] 0 dn) a 2 t (t + 1) 1 [((a, 1), [r1 b t])] (HA_st na) (by decide) (by decide) (by decide) (by decide) (by simp [spanB]; omega) (by show (0 : Int) ≤ 1 * 24; decide) rfl (by simp) (by simp [name_ok na]) (by simp) (by show 1 < 1000; decide) (by show dn.length < 1000; omega)
  unfold e5
  rw [do_clear_s, o]
  rfl
theorem step6 (na : nameB (.str a) = true) (hd : dn.length < 900) : StepOk (HA a S ws P [] 0 dn) (e6 a) (HA a S ws P (ctA a) 0 (dn ++ [e6 a])) := by
  refine ⟨_, _, do_break, rfl, rfl, fun k p n => ⟨fz .non, n + 2, ?_⟩⟩
  have o := break_new p n (HA a S ws P [] 0 dn) a 1 1 24 1 24 _ _ na HA_seat (by decide) (by decide) (by decide) (by show (0 : Int) ≤ 1 * 24 + 1; decide) rfl (by show 0 < 1000; decide) (by show dn.length < 1000; omega)
  unfold e6
  rw [do_break_s, o]
  rfl
theorem step7 (K : Ok3 a b c t) (hd : dn.length < 900) : StepOk (HA a [shB b, shC c] [wk1 a c t, wk2 a t] [((a, 1), [r1 b t])] C 0 dn) (e7 a t) (HA a [shB b, shC c] [wk1 a c t, wk2 a t] [((a, 1), [r2 b t])] C 0 (dn ++ [e7 a t])) := by
  obtain ⟨na, nb, nc, bc, t0, t1⟩ := id K
  refine ⟨_, _, do_over, rfl, rfl, fun k p n => ⟨fz .non, n + 4, ?_⟩⟩
  have ov : ovrF (Str.ofString "push") [shB b, shC c] t (t + 1 + 1) 24 [r1 b t] = [r2 b t] := by
    have nj : ¬ (Str.ofString "push" = Str.ofString "join") := sne' _ _ (by decide)
    unfold ovrF
    rw [if_neg nj]
    simp [pushL, r1, r2]
    omega
  have o := over_ok p n (HA a [shB b, shC c] [wk1 a c t, wk2 a t] [((a, 1), [r1 b t])] C 0 dn) (HA_st na) (i := 1) (by decide) (by decide) (HA_wk (WksOk.two na nc)) (HA_rows [r1 b t]) (rows_one (by show t < t + 1; omega) (by show PyData.strOk (nm b.cps.toList) = true; rw [nm_of]; exact name_ok nb)) (by simp) (r1 b t) [] (by show 0 ≤ t; omega) (by show t < 24; omega) (by simp)
    HA_seat (kn_BC K) (shB b) List.mem_cons_self rfl 1 (by decide) (by decide) rfl (by show t + 1 + 1 ≤ 24; omega) (by simp [ahF, r1]) (by show (0 : Int) ≤ 1 * 24 + (t + 1); omega) (strOk_of _) (by show 1 < 1000; decide) (by show dn.length < 1000; omega)
  unfold e7
  have o : House_overrun [.obj k, .str a, .int 1, .int t, .int 1] (wP p n (HA a [shB b, shC c] [wk1 a c t, wk2 a t] [((a, 1), [r1 b t])] C 0 dn)) = _ := o
  rw [do_over_s, o]
  have ov : ovrF (Str.ofString "push") [shB b, shC c] (r1 b t).b ((r1 b t).e + 1) 24 [r1 b t] = [r2 b t] := ov
  have pp : putKD (HA a [shB b, shC c] [wk1 a c t, wk2 a t] [((a, 1), [r1 b t])] C 0 dn).plans [.inr a, .inl 1] (.lst ([r2 b t].map rowD)) = plD [((a, 1), [r2 b t])] := pl_put _ _
  rw [ov, pp]
  rfl
theorem step8 (hd : dn.length < 900) : StepOk (HA a S ws P C 0 dn) e8 (HA a S ws P C 24 (dn ++ [e8])) := by
  refine ⟨_, _, do_tick, rfl, rfl, fun k p n => ⟨fz .non, n + 2, ?_⟩⟩
  have o := tick_ok p n (HA a S ws P C 0 dn) 24 (by decide) (by decide) (by show (0 : Int) + 24 < 2400; decide) (by show dn.length < 1000; omega)
  unfold e8
  rw [do_tick_s, o]
  rfl
theorem step9 (K : Ok3 a b c t) (hd : dn.length < 900) : StepOk (HA a [shB b, shC c] [wk1 a c t, wk2 a t] [((a, 1), [r2 b t])] C 24 dn) (e9 a t) (HA a [shB b, shC c] [wk1 a c t, wk2 a t] [((a, 1), [])] C 24 (dn ++ [e9 a t])) := by
  obtain ⟨na, nb, nc, bc, t0, t1⟩ := id K
  refine ⟨_, _, do_drop, rfl, rfl, fun k p n => ⟨fz .non, n + 2, ?_⟩⟩
  have o := drop_ok p n (HA a [shB b, shC c] [wk1 a c t, wk2 a t] [((a, 1), [r2 b t])] C 24 dn) (HA_st na) (i := 1) (by decide) (by decide) (HA_wk (WksOk.two na nc)) (HA_rows [r2 b t]) (rows_one (by show t < t + 2; omega) (by show PyData.strOk (nm b.cps.toList) = true; rw [nm_of]; exact name_ok nb)) (by simp) (r2 b t) List.mem_cons_self (by show 0 ≤ t; omega) (by show t < 24; omega) (by show (24 : Int) ≤ 1 * 24 + t; omega) (by show 1 < 1000; decide) (by show dn.length < 1000; omega)
  unfold e9
  have o : House_drop [.obj k, .str a, .int 1, .int t] (wP p n (HA a [shB b, shC c] [wk1 a c t, wk2 a t] [((a, 1), [r2 b t])] C 24 dn)) = _ := o
  rw [do_drop_s, o]
  have dr : dropF (r2 b t).b [r2 b t] = [] := by simp [dropF]
  have pp : putKD (HA a [shB b, shC c] [wk1 a c t, wk2 a t] [((a, 1), [r2 b t])] C 24 dn).plans [.inr a, .inl 1] (.lst (([] : List Row).map rowD)) = plD [((a, 1), [])] := pl_put _ _
  rw [dr, pp]
  rfl
end
/-! ### deeds that are refused -/
structure BadP (x : D) : Prop where
  ok : okD x = true
  nn : nameB x = false
  nu : ∀ lo hi : Int, 0 ≤ lo → hi ≤ 999 → numB x lo hi = false
  bo : boolB x = false
  so : sortB x = false
  ru : ruleB x = false
  pl : plN 9 x = true
  nz : x ≠ .non
def bad5 : List D := [.str "", .lst [.int 1], .int (-1), .int 2400, .str "A"]
def zzz : D := .str "zzzzzzz"
theorem badp (x : D) (h : x ∈ bad5 ∨ x = zzz) : BadP x := by
  simp only [bad5, zzz, List.mem_cons, List.not_mem_nil, or_false] at h
  rcases h with (rfl | rfl | rfl | rfl | rfl) | rfl
  · exact ⟨by decide +kernel, by decide +kernel, fun _ _ _ _ => rfl, rfl, by decide +kernel, by decide +kernel, by decide +kernel, by simp⟩
  · exact ⟨by decide +kernel, by decide +kernel, fun _ _ _ _ => rfl, rfl, rfl, rfl, by decide +kernel, by simp⟩
  · exact ⟨rfl, rfl, fun lo hi h1 h2 => by simp [numB]; omega, rfl, rfl, rfl, rfl, by simp⟩
  · exact ⟨rfl, rfl, fun lo hi h1 h2 => by simp [numB]; omega, rfl, rfl, rfl, rfl, by simp⟩
  · exact ⟨by decide +kernel, by decide +kernel, fun _ _ _ _ => rfl, rfl, by decide +kernel, by decide +kernel, by decide +kernel, by simp⟩
  · exact ⟨by decide +kernel, by decide +kernel, fun _ _ _ _ => rfl, rfl, by decide +kernel, by decide +kernel, by decide +kernel, by simp⟩
theorem span1 {x e : D} {lo hi : Int} (h : numB x lo hi = false) : spanB x e lo hi = false := by
  cases x <;> simp [spanB]
  rename_i i
  cases e <;> simp
  simp [numB] at h
  omega
theorem span2 {x e : D} {lo hi : Int} (h : numB x lo hi = false) : spanB e x lo hi = false := by
  cases e <;> simp [spanB]
  rename_i i
  cases x <;> simp
  simp [numB] at h
  omega
theorem stB_bad (h : Hs) {x : D} (q : nameB x = false) : stB h x = false := by
  cases x <;> simp [stB]
  simp [q]
theorem ex_mk {h : Hs} {z : Str} {ds : List D} {F : DF} (hF : wd_DOERS.lookup z = some F) (e : ∀ (k : Nat) (p : Pre k) (n : Nat), ∃ c, F [.obj k, .tup (.str z :: ds)] (wP p n h) = .ex c (wP p n h)) : StepEx h (.tup (.str z :: ds)) :=
  ⟨z, ds, F, rfl, hF, fun k p n => by
    obtain ⟨c, e⟩ := e k p n
    exact ⟨c, n, h, e⟩⟩
section
variable {a b c : Str} {t : Int} {S : List Sh} {ws : List Wk} {P : Pln} {C : List (List Key × D)} {m : Int} {dn : List D} {x : D}
theorem bad0 (na : nameB (.str a) = true) (B : BadP x) (j : Nat) (h1 : 1 ≤ j) (h2 : j ≤ 5) : StepEx hs0 (.tup ([.str "open", .str a, .non, .int 1, .int 24, .str "push"].set j x)) := by
  rcases (by omega : j = 1 ∨ j = 2 ∨ j = 3 ∨ j = 4 ∨ j = 5) with rfl | rfl | rfl | rfl | rfl
  · exact ex_mk (F := do_open) rfl fun k p n => ⟨_, by simp only [List.set_cons_succ, List.set_cons_zero]; rw [do_open_s, open_no_name p n hs0 x _ _ _ _ B.ok B.nn]; rfl⟩
  · exact ex_mk (F := do_open) rfl fun k p n => ⟨_, by simp only [List.set_cons_succ, List.set_cons_zero]; rw [do_open_s, open_no_upper p n hs0 a na rfl x _ _ _ B.ok B.nn B.nz]; rfl⟩
  · exact ex_mk (F := do_open) rfl fun k p n => ⟨_, by simp only [List.set_cons_succ, List.set_cons_zero]; rw [do_open_s, open_no_span p n hs0 a na rfl x _ _ B.ok rfl (span1 (B.nu 0 24 (by decide) (by decide)))]; rfl⟩
  · exact ex_mk (F := do_open) rfl fun k p n => ⟨_, by simp only [List.set_cons_succ, List.set_cons_zero]; rw [do_open_s, open_no_span p n hs0 a na rfl _ x _ rfl B.ok (span2 (B.nu 0 24 (by decide) (by decide)))]; rfl⟩
  · exact ex_mk (F := do_open) rfl fun k p n => ⟨_, by simp only [List.set_cons_succ, List.set_cons_zero]; rw [do_open_s, open_no_rule p n hs0 a na rfl x B.ok B.ru]; rfl⟩
theorem bad1 (h : Hs) (s : Sh) (hx : nameB (.str (nm s.n)) = true) (hs : okD (.str s.so) = true) (B : BadP x) (j : Nat) (h1 : 1 ≤ j) (h2 : j ≤ 5) : StepEx h (.tup ([.str "show", .str (nm s.n), .str s.so, .int s.lg, .bl s.lv, .int s.mo].set j x)) := by
  have on := okD_name hx
  have key : ∀ ds : List D, ds.all okD = true → showB (.tup ds) = false → StepEx h (.tup (.str "show" :: ds)) := fun ds q1 q2 => ex_mk (F := do_show) rfl fun k p n => ⟨_, by rw [do_show_s, addshow_no p n h (.tup ds) q1 q2]; rfl⟩
  rcases (by omega : j = 1 ∨ j = 2 ∨ j = 3 ∨ j = 4 ∨ j = 5) with rfl | rfl | rfl | rfl | rfl
  · exact key _ (by simp [B.ok, hs]; exact ⟨rfl, rfl, rfl⟩) (by simp [showB, B.nn])
  · exact key _ (by simp [B.ok, on]; exact ⟨rfl, rfl, rfl⟩) (by simp [showB, B.so])
  · exact key _ (by simp [B.ok, on, hs]; exact ⟨rfl, rfl⟩) (by simp [showB, B.nu 1 8 (by decide) (by decide)])
  · exact key _ (by simp [B.ok, on, hs]; exact ⟨rfl, rfl⟩) (by simp [showB, B.bo])
  · exact key _ (by simp [B.ok, on, hs]; exact ⟨rfl, rfl⟩) (by simp [showB, B.nu 0 9 (by decide) (by decide)])
theorem bad3 (K : Ok3 a b c t) (B : BadP x) (j : Nat) (h1 : 1 ≤ j) (h2 : j ≤ 4) : StepEx (HA a [shB b, shC c] ws P C m dn) (.tup ([.str "put", .str a, .int 1, .int t, .str b].set j x)) := by
  rcases (by omega : j = 1 ∨ j = 2 ∨ j = 3 ∨ j = 4) with rfl | rfl | rfl | rfl
  · exact ex_mk (F := do_put) rfl fun k p n => ⟨_, by simp only [List.set_cons_succ, List.set_cons_zero]; rw [do_put_s, put_no p n _ x _ _ _ B.ok (stB_bad _ B.nn)]; rfl⟩
  · exact ex_mk (F := do_put) rfl fun k p n => ⟨_, by simp only [List.set_cons_succ, List.set_cons_zero]; rw [do_put_s, put_no_day p n _ K.na HA_seat x _ _ B.ok (B.nu 0 99 (by decide) (by decide))]; rfl⟩
  · exact ex_mk (F := do_put) rfl fun k p n => ⟨_, by simp only [List.set_cons_succ, List.set_cons_zero]; rw [do_put_s, put_no_hour p n _ K.na HA_seat K.nb (kB K) 1 x (by decide) (by decide) B.ok (B.nu 1 _ (by decide) (by decide))]; rfl⟩
  · exact ex_mk (F := do_put) rfl fun k p n => ⟨_, by simp only [List.set_cons_succ, List.set_cons_zero]; rw [do_put_s, put_no_show p n _ K.na HA_seat 1 _ x (by decide) (by decide) (show_no p n _ x B.ok B.nn)]; rfl⟩
theorem bad4 (K : Ok3 a b c t) (B : BadP x) (j : Nat) (h1 : 1 ≤ j) (h2 : j ≤ 5) : StepEx (HA a [shB b, shC c] ws P C m dn) (.tup ([.str "week", .str a, .int 2, .int t, .str c, .int 0].set j x)) := by
  rcases (by omega : j = 1 ∨ j = 2 ∨ j = 3 ∨ j = 4 ∨ j = 5) with rfl | rfl | rfl | rfl | rfl
  · exact ex_mk (F := do_week) rfl fun k p n => ⟨_, by simp only [List.set_cons_succ, List.set_cons_zero]; rw [do_week_s, pw_no p n _ x _ _ _ _ B.ok (stB_bad _ B.nn)]; rfl⟩
  · exact ex_mk (F := do_week) rfl fun k p n => ⟨_, by simp only [List.set_cons_succ, List.set_cons_zero]; rw [do_week_s, pw_no_wd p n _ K.na HA_seat x _ _ _ B.ok (B.nu 0 4 (by decide) (by decide))]; rfl⟩
  · exact ex_mk (F := do_week) rfl fun k p n => ⟨_, by simp only [List.set_cons_succ, List.set_cons_zero]; rw [do_week_s, pw_no_hourD p n _ K.na HA_seat K.nc (kC K) 2 0 x (by decide) (by decide) (by decide) (by decide) B.ok (B.nu 1 _ (by decide) (by decide))]; rfl⟩
  · exact ex_mk (F := do_week) rfl fun k p n => ⟨_, by simp only [List.set_cons_succ, List.set_cons_zero]; rw [do_week_s, pw_no_show p n _ K.na HA_seat 2 _ x _ (by decide) (by decide) (show_no p n _ x B.ok B.nn)]; rfl⟩
  · exact ex_mk (F := do_week) rfl fun k p n => ⟨_, by simp only [List.set_cons_succ, List.set_cons_zero]; rw [do_week_s, pw_no_since p n _ K.na HA_seat K.nc (kC K) 2 _ x (by decide) (by decide) B.ok (B.nu 0 99 (by decide) (by decide))]; rfl⟩
theorem bad5d (na : nameB (.str a) = true) (B : BadP x) (j : Nat) (h1 : 1 ≤ j) (h2 : j ≤ 5) : StepEx (HA a S ws P C m dn) (.tup ([.str "clear", .str a, .int 2, .int t, .int (t + 1), .int 1].set j x)) := by
  rcases (by omega : j = 1 ∨ j = 2 ∨ j = 3 ∨ j = 4 ∨ j = 5) with rfl | rfl | rfl | rfl | rfl
  · exact ex_mk (F := do_clear) rfl fun k p n => ⟨_, by simp only [List.set_cons_succ, List.set_cons_zero]; rw [do_clear_s, clear_no p n _ x _ _ _ _ B.ok (stB_bad _ B.nn)]; rfl⟩
  · exact ex_mk (F := do_clear) rfl fun k p n => ⟨_, by simp only [List.set_cons_succ, List.set_cons_zero]; rw [do_clear_s, clear_no_wd p n _ (HA_st na) x _ _ _ B.ok (B.nu 0 4 (by decide) (by decide))]; rfl⟩
  · exact ex_mk (F := do_clear) rfl fun k p n => ⟨_, by simp only [List.set_cons_succ, List.set_cons_zero]; rw [do_clear_s, clear_no_span p n _ (HA_st na) 2 1 x _ (by decide) (by decide) (by decide) (by decide) B.ok rfl (span1 (B.nu 0 24 (by decide) (by decide)))]; rfl⟩
  · exact ex_mk (F := do_clear) rfl fun k p n => ⟨_, by simp only [List.set_cons_succ, List.set_cons_zero]; rw [do_clear_s, clear_no_span p n _ (HA_st na) 2 1 _ x (by decide) (by decide) (by decide) (by decide) rfl B.ok (span2 (B.nu 0 24 (by decide) (by decide)))]; rfl⟩
  · exact ex_mk (F := do_clear) rfl fun k p n => ⟨_, by simp only [List.set_cons_succ, List.set_cons_zero]; rw [do_clear_s, clear_no_since p n _ (HA_st na) 2 _ _ x (by decide) (by decide) B.ok (B.nu 0 99 (by decide) (by decide))]; rfl⟩
theorem bad6 (na : nameB (.str a) = true) (B : BadP x) (j : Nat) (h1 : 1 ≤ j) (h2 : j ≤ 4) : StepEx (HA a S ws P C m dn) (.tup ([.str "break", .str a, .int 1, .int 1, .int 24].set j x)) := by
  rcases (by omega : j = 1 ∨ j = 2 ∨ j = 3 ∨ j = 4) with rfl | rfl | rfl | rfl
  · exact ex_mk (F := do_break) rfl fun k p n => ⟨_, by simp only [List.set_cons_succ, List.set_cons_zero]; rw [do_break_s, break_no p n _ x _ _ _ B.ok (stB_bad _ B.nn)]; rfl⟩
  · exact ex_mk (F := do_break) rfl fun k p n => ⟨_, by simp only [List.set_cons_succ, List.set_cons_zero]; rw [do_break_s, break_no_day p n _ na HA_seat x _ _ B.ok (B.nu 0 99 (by decide) (by decide))]; rfl⟩
  · exact ex_mk (F := do_break) rfl fun k p n => ⟨_, by simp only [List.set_cons_succ, List.set_cons_zero]; rw [do_break_s, break_no_hour p n _ na HA_seat 1 x _ (by decide) (by decide) B.ok rfl (span1 (B.nu 1 24 (by decide) (by decide)))]; rfl⟩
  · exact ex_mk (F := do_break) rfl fun k p n => ⟨_, by simp only [List.set_cons_succ, List.set_cons_zero]; rw [do_break_s, break_no_hour p n _ na HA_seat 1 _ x (by decide) (by decide) rfl B.ok (span2 (B.nu 1 24 (by decide) (by decide)))]; rfl⟩
theorem row_bad (na : nameB (.str a) = true) (W : WksOk ws) {rs : List Row} (hr : rowsAt (HA a S ws P C m dn) a 1 rs) (B : BadP x) (y z : D) {k : Nat} (p : Pre k) (n : Nat) : House_row_at [.obj k, x, y, z] (wP p n (HA a S ws P C m dn)) = .ex ⟨"NoStation", []⟩ (wP p n (HA a S ws P C m dn)) ∧ House_row_at [.obj k, .str a, x, z] (wP p n (HA a S ws P C m dn)) = .ex ⟨"NoDay", []⟩ (wP p n (HA a S ws P C m dn)) ∧ House_row_at [.obj k, .str a, .int 1, x] (wP p n (HA a S ws P C m dn)) = .ex ⟨"NoHour", []⟩ (wP p n (HA a S ws P C m dn)) :=
  ⟨row_no p n _ x y z B.ok (stB_bad _ B.nn), row_no_day p n _ (.str a) x z (okD_name na) (HA_st na) B.ok (B.nu 0 99 (by decide) (by decide)), row_no_hour p n _ (HA_st na) (i := 1) (by decide) (by decide) (HA_wk W) hr x B.ok (B.nu 0 23 (by decide) (by decide))⟩
theorem bad7 (K : Ok3 a b c t) (B : BadP x) (j : Nat) (h1 : 1 ≤ j) (h2 : j ≤ 4) : StepEx (HA a S [wk1 a c t, wk2 a t] [((a, 1), [r1 b t])] C m dn) (.tup ([.str "over", .str a, .int 1, .int t, .int 1].set j x)) := by
  have W := WksOk.two (t := t) K.na K.nc
  have hr : rowsAt (HA a S [wk1 a c t, wk2 a t] [((a, 1), [r1 b t])] C m dn) a 1 [r1 b t] := HA_rows _
  rcases (by omega : j = 1 ∨ j = 2 ∨ j = 3 ∨ j = 4) with rfl | rfl | rfl | rfl
  · exact ex_mk (F := do_over) rfl fun k p n => ⟨_, by simp only [List.set_cons_succ, List.set_cons_zero]; rw [do_over_s, over_of p n _ (row_bad K.na W hr B _ _ p n).1]; rfl⟩
  · exact ex_mk (F := do_over) rfl fun k p n => ⟨_, by simp only [List.set_cons_succ, List.set_cons_zero]; rw [do_over_s, over_of p n _ (row_bad K.na W hr B .non _ p n).2.1]; rfl⟩
  · exact ex_mk (F := do_over) rfl fun k p n => ⟨_, by simp only [List.set_cons_succ, List.set_cons_zero]; rw [do_over_s, over_of p n _ (row_bad K.na W hr B .non .non p n).2.2]; rfl⟩
  · refine ex_mk (F := do_over) rfl fun k p n => ⟨⟨"NoMore", []⟩, ?_⟩
    have o := over_no_more p n _ (HA_st K.na) (i := 1) (by decide) (by decide) (HA_wk W) hr (rows_one (by show t < t + 1; omega) (by show PyData.strOk (nm b.cps.toList) = true; rw [nm_of]; exact name_ok K.nb)) (by simp) (r1 b t) [] (by show 0 ≤ t; have := K.t0; omega) (by show t < 24; have := K.t1; omega) (by simp) x B.ok (B.nu 1 8 (by decide) (by decide))
    have o : House_overrun [.obj k, .str a, .int 1, .int t, x] (wP p n (HA a S [wk1 a c t, wk2 a t] [((a, 1), [r1 b t])] C m dn)) = _ := o
    simp only [List.set_cons_succ, List.set_cons_zero]
    rw [do_over_s, o]
    rfl
theorem bad8 (h : Hs) (B : BadP x) (j : Nat) (h1 : 1 ≤ j) (h2 : j ≤ 1) : StepEx h (.tup ([.str "tick", .int 24].set j x)) := by
  obtain rfl : j = 1 := by omega
  exact ex_mk (F := do_tick) rfl fun k p n => ⟨_, by simp only [List.set_cons_succ, List.set_cons_zero]; rw [do_tick_s, tick_no p n h x B.ok (B.nu 1 24 (by decide) (by decide))]; rfl⟩
theorem bad9 (na : nameB (.str a) = true) (W : WksOk ws) {rs : List Row} (B : BadP x) (j : Nat) (h1 : 1 ≤ j) (h2 : j ≤ 3) : StepEx (HA a S ws [((a, 1), rs)] C m dn) (.tup ([.str "drop", .str a, .int 1, .int t].set j x)) := by
  have hr : rowsAt (HA a S ws [((a, 1), rs)] C m dn) a 1 rs := HA_rows _
  rcases (by omega : j = 1 ∨ j = 2 ∨ j = 3) with rfl | rfl | rfl
  · exact ex_mk (F := do_drop) rfl fun k p n => ⟨_, by simp only [List.set_cons_succ, List.set_cons_zero]; rw [do_drop_s, drop_of p n _ (row_bad na W hr B _ _ p n).1]; rfl⟩
  · exact ex_mk (F := do_drop) rfl fun k p n => ⟨_, by simp only [List.set_cons_succ, List.set_cons_zero]; rw [do_drop_s, drop_of p n _ (row_bad na W hr B .non _ p n).2.1]; rfl⟩
  · exact ex_mk (F := do_drop) rfl fun k p n => ⟨_, by simp only [List.set_cons_succ, List.set_cons_zero]; rw [do_drop_s, drop_of p n _ (row_bad na W hr B .non .non p n).2.2]; rfl⟩
/-! out of their order -/
theorem late3 (h : Hs) (na : nameB (.str a) = true) (hs : valD h.seats (.inr a) = none) : StepEx h (e3 a b t) :=
  ex_mk (F := do_put) rfl fun k p n => ⟨_, by rw [do_put_s, put_no p n h (.str a) _ _ _ (okD_name na) (by simp [stB, hs])]; rfl⟩
theorem again0 (na : nameB (.str a) = true) : StepEx (HA a S ws P C m dn) (e0 a) :=
  ex_mk (F := do_open) rfl fun k p n => ⟨_, by rw [do_open_s, open_taken p n _ a _ _ _ _ na (by rw [HA_seat]; rfl)]; rfl⟩
theorem again1 (K : Ok3 a b c t) : StepEx (HA a [shB b, shC c] ws P C m dn) (e1 b) := by
  refine ex_mk (F := do_show) rfl fun k p n => ⟨⟨"Taken", []⟩, ?_⟩
  have o := addshow_taken p n (HA a [shB b, shC c] ws P C m dn) b (Str.ofString "talk") 1 true 2 K.nb (by decide +kernel) (by simp [showB, shD, K.nb]; decide +kernel) (by rw [kB K]; rfl)
  unfold shD at o
  rw [do_show_s, o]
  rfl
theorem none7 (K : Ok3 a b c t) (W : WksOk ws) (hr : rowsAt (HA a S ws P C m dn) a 1 []) : StepEx (HA a S ws P C m dn) (e7 a t) := by
  have t0 := K.t0
  have t1 := K.t1
  refine ex_mk (F := do_over) rfl fun k p n => ⟨⟨"NoRow", [(Str.ofString "hour", .int t)]⟩, ?_⟩
  have o := over_of (f := .int 1) p n _ (row_none p n (HA a S ws P C m dn) (HA_st K.na) (i := 1) (by decide) (by decide) (HA_wk W) hr (by simp) t (by omega) (by omega) rfl)
  rw [do_over_s, o]
  rfl
end
/-! ### the paths -/
section
variable {a b c : Str} {t : Int}
def T1 (a : Str) : Hs := HA a [] [] [] [] 0 [e0 a]
def T2 (a b : Str) : Hs := HA a [shB b] [] [] [] 0 [e0 a, e1 b]
def T3 (a b c : Str) : Hs := HA a [shB b, shC c] [] [] [] 0 [e0 a, e1 b, e2 c]
def T4 (a b c : Str) (t : Int) : Hs := HA a [shB b, shC c] [] [((a, 1), [r1 b t])] [] 0 [e0 a, e1 b, e2 c, e3 a b t]
def T5 (a b c : Str) (t : Int) : Hs := HA a [shB b, shC c] [wk1 a c t] [((a, 1), [r1 b t])] [] 0 [e0 a, e1 b, e2 c, e3 a b t, e4 a c t]
def T6 (a b c : Str) (t : Int) : Hs := HA a [shB b, shC c] [wk1 a c t, wk2 a t] [((a, 1), [r1 b t])] [] 0 [e0 a, e1 b, e2 c, e3 a b t, e4 a c t, e5 a t]
def T7 (a b c : Str) (t : Int) : Hs := HA a [shB b, shC c] [wk1 a c t, wk2 a t] [((a, 1), [r1 b t])] (ctA a) 0 [e0 a, e1 b, e2 c, e3 a b t, e4 a c t, e5 a t, e6 a]
def T8 (a b c : Str) (t : Int) : Hs := HA a [shB b, shC c] [wk1 a c t, wk2 a t] [((a, 1), [r2 b t])] (ctA a) 0 [e0 a, e1 b, e2 c, e3 a b t, e4 a c t, e5 a t, e6 a, e7 a t]
def T9 (a b c : Str) (t : Int) : Hs := HA a [shB b, shC c] [wk1 a c t, wk2 a t] [((a, 1), [r2 b t])] (ctA a) 24 [e0 a, e1 b, e2 c, e3 a b t, e4 a c t, e5 a t, e6 a, e7 a t, e8]
def T10 (a b c : Str) (t : Int) : Hs := HA a [shB b, shC c] [wk1 a c t, wk2 a t] [((a, 1), [])] (ctA a) 24 [e0 a, e1 b, e2 c, e3 a b t, e4 a c t, e5 a t, e6 a, e7 a t, e8, e9 a t]
theorem soB : okD (.str (shB b).so) = true := by
  show okD (.str (Str.ofString "talk")) = true
  decide +kernel
theorem soC : okD (.str (shC c).so) = true := by
  show okD (.str (Str.ofString "tune")) = true
  decide +kernel
theorem shwB (nb : nameB (.str b) = true) : showB (shB b).d = true := by
  have e : nm (shB b).n = b := nm_of b
  have s1 : sortB (.str (Str.ofString "talk")) = true := by decide +kernel
  have s2 : numB (.int 1) 1 8 = true := by decide
  have s3 : numB (.int 2) 0 9 = true := by decide
  show (nameB (.str (nm (shB b).n)) && sortB (.str (Str.ofString "talk")) && numB (.int 1) 1 8 && boolB (.bl true) && numB (.int 2) 0 9) = true
  rw [e, nb, s1, s2, s3]
  rfl
theorem shwC (nc : nameB (.str c) = true) : showB (shC c).d = true := by
  have e : nm (shC c).n = c := nm_of c
  have s1 : sortB (.str (Str.ofString "tune")) = true := by decide +kernel
  have s2 : numB (.int 2) 1 8 = true := by decide
  have s3 : numB (.int 0) 0 9 = true := by decide
  show (nameB (.str (nm (shC c).n)) && sortB (.str (Str.ofString "tune")) && numB (.int 2) 1 8 && boolB (.bl false) && numB (.int 0) 0 9) = true
  rw [e, nc, s1, s2, s3]
  rfl
theorem shB_ok (h : Hs) (S : List Sh) (nb : nameB (.str b) = true) (hk : h.known = knD S) (hn : ∀ q ∈ S, nm q.n ≠ b) (hl : S.length < 1000) (hd : h.done.length < 1000) : StepOk h (e1 b) { h with known := knD (S ++ [shB b]), done := h.done ++ [e1 b] } := by
  have e : nm (shB b).n = b := nm_of b
  have := step_show h (shB b) S hk (by rw [e]; exact nb) soB (shwB nb) (by rw [e]; exact hn) hl hd
  rw [e] at this
  exact this
theorem shC_ok (h : Hs) (S : List Sh) (nc : nameB (.str c) = true) (hk : h.known = knD S) (hn : ∀ q ∈ S, nm q.n ≠ c) (hl : S.length < 1000) (hd : h.done.length < 1000) : StepOk h (e2 c) { h with known := knD (S ++ [shC c]), done := h.done ++ [e2 c] } := by
  have e : nm (shC c).n = c := nm_of c
  have := step_show h (shC c) S hk (by rw [e]; exact nc) soC (shwC nc) (by rw [e]; exact hn) hl hd
  rw [e] at this
  exact this
theorem nB_ne (bc : b ≠ c) : ∀ q ∈ [shB b], nm q.n ≠ c := fun q hq => by
  rw [List.mem_singleton] at hq
  subst hq
  show nm b.cps.toList ≠ c
  rw [nm_of]
  exact bc
theorem path1 (K : Ok3 a b c t) : Path hs0 [e0 a] (T1 a) := .cons (step0 K.na) .nil
theorem path2 (K : Ok3 a b c t) : Path hs0 [e0 a, e1 b] (T2 a b) := (path1 K).app (.cons (h1 := T2 a b) (shB_ok (T1 a) [] K.nb rfl (by simp) (by decide) (by show 1 < 1000; decide)) .nil)
theorem path3 (K : Ok3 a b c t) : Path hs0 [e0 a, e1 b, e2 c] (T3 a b c) := (path2 K).app (.cons (h1 := T3 a b c) (shC_ok (T2 a b) [shB b] K.nc rfl (nB_ne K.bc) (by simp) (by show 2 < 1000; decide)) .nil)
theorem path4 (K : Ok3 a b c t) : Path hs0 [e0 a, e1 b, e2 c, e3 a b t] (T4 a b c t) := (path3 K).app (.cons (step3 K (by simp)) .nil)
theorem path5 (K : Ok3 a b c t) : Path hs0 [e0 a, e1 b, e2 c, e3 a b t, e4 a c t] (T5 a b c t) := (path4 K).app (.cons (step4 K (by simp)) .nil)
theorem path6 (K : Ok3 a b c t) : Path hs0 [e0 a, e1 b, e2 c, e3 a b t, e4 a c t, e5 a t] (T6 a b c t) := (path5 K).app (.cons (step5 K (by simp)) .nil)
theorem path7 (K : Ok3 a b c t) : Path hs0 [e0 a, e1 b, e2 c, e3 a b t, e4 a c t, e5 a t, e6 a] (T7 a b c t) := (path6 K).app (.cons (step6 K.na (by simp)) .nil)
theorem path8 (K : Ok3 a b c t) : Path hs0 [e0 a, e1 b, e2 c, e3 a b t, e4 a c t, e5 a t, e6 a, e7 a t] (T8 a b c t) := (path7 K).app (.cons (step7 K (by simp)) .nil)
theorem path9 (K : Ok3 a b c t) : Path hs0 [e0 a, e1 b, e2 c, e3 a b t, e4 a c t, e5 a t, e6 a, e7 a t, e8] (T9 a b c t) := (path8 K).app (.cons (step8 (by simp)) .nil)
def dL (a b c : Str) (t : Int) : List D := [e0 a, e1 b, e2 c, e3 a b t, e4 a c t, e5 a t, e6 a, e7 a t, e8, e9 a t]
theorem path10 (K : Ok3 a b c t) : Path hs0 (dL a b c t) (T10 a b c t) := (path9 K).app (.cons (step9 K (by simp)) .nil)
/-- without the station -/
theorem pathN (K : Ok3 a b c t) : ∃ h, Path hs0 [e1 b, e2 c] h ∧ h.seats = [] := ⟨_, .cons (shB_ok hs0 [] K.nb rfl (by simp) (by decide) (by decide)) (.cons (shC_ok _ [shB b] K.nc rfl (nB_ne K.bc) (by simp) (by show 1 < 1000; decide)) .nil), rfl⟩
/-- a break-in at once -/
theorem pathB (K : Ok3 a b c t) : Path hs0 [e0 a, e1 b, e2 c, e6 a] (HA a [shB b, shC c] [] [] (ctA a) 0 [e0 a, e1 b, e2 c, e6 a]) := (path3 K).app (.cons (step6 K.na (by simp)) .nil)
/-! each of them -/
structure Each (L : List D) (i : Nat) (d : D) : Prop where
  ex : ∃ (A B : List D) (z : Str) (ds : List D) (T : Hs), L = A ++ d :: B ∧ A.length = i ∧ d = .tup (.str z :: ds) ∧ 1 ≤ ds.length ∧ ds.length ≤ 5 ∧ Path hs0 A T ∧ ∀ x, BadP x → ∀ j, 1 ≤ j → j ≤ ds.length → StepEx T (.tup ((.str z :: ds).set j x))
theorem each (K : Ok3 a b c t) (i : Nat) (d : D) (h : (dL a b c t)[i]? = some d) : Each (dL a b c t) i d := by
  have hi : i < 10 := (List.getElem?_eq_some_iff.mp h).1
  have eb : nm (shB b).n = b := nm_of b
  have ec : nm (shC c).n = c := nm_of c
  rcases (by omega : i = 0 ∨ i = 1 ∨ i = 2 ∨ i = 3 ∨ i = 4 ∨ i = 5 ∨ i = 6 ∨ i = 7 ∨ i = 8 ∨ i = 9) with rfl | rfl | rfl | rfl | rfl | rfl | rfl | rfl | rfl | rfl <;> cases h
  · exact ⟨[], _, _, _, hs0, rfl, rfl, rfl, by simp, by simp, .nil, fun x B j h1 h2 => bad0 K.na B j h1 (by simpa using h2)⟩
  · exact ⟨[e0 a], _, _, _, T1 a, rfl, rfl, rfl, by simp, by simp, path1 K, fun x B j h1 h2 => by
      have := bad1 (T1 a) (shB b) (by rw [eb]; exact K.nb) soB B j h1 (by simpa using h2)
      rw [eb] at this
      exact this⟩
  · exact ⟨[e0 a, e1 b], _, _, _, T2 a b, rfl, rfl, rfl, by simp, by simp, path2 K, fun x B j h1 h2 => by
      have := bad1 (T2 a b) (shC c) (by rw [ec]; exact K.nc) soC B j h1 (by simpa using h2)
      rw [ec] at this
      exact this⟩
  · exact ⟨[e0 a, e1 b, e2 c], _, _, _, T3 a b c, rfl, rfl, rfl, by simp, by simp, path3 K, fun x B j h1 h2 => bad3 K B j h1 (by simpa using h2)⟩
  · exact ⟨[e0 a, e1 b, e2 c, e3 a b t], _, _, _, T4 a b c t, rfl, rfl, rfl, by simp, by simp, path4 K, fun x B j h1 h2 => bad4 K B j h1 (by simpa using h2)⟩
  · exact ⟨[e0 a, e1 b, e2 c, e3 a b t, e4 a c t], _, _, _, T5 a b c t, rfl, rfl, rfl, by simp, by simp, path5 K, fun x B j h1 h2 => bad5d K.na B j h1 (by simpa using h2)⟩
  · exact ⟨[e0 a, e1 b, e2 c, e3 a b t, e4 a c t, e5 a t], _, _, _, T6 a b c t, rfl, rfl, rfl, by simp, by simp, path6 K, fun x B j h1 h2 => bad6 K.na B j h1 (by simpa using h2)⟩
  · exact ⟨[e0 a, e1 b, e2 c, e3 a b t, e4 a c t, e5 a t, e6 a], _, _, _, T7 a b c t, rfl, rfl, rfl, by simp, by simp, path7 K, fun x B j h1 h2 => bad7 K B j h1 (by simpa using h2)⟩
  · exact ⟨[e0 a, e1 b, e2 c, e3 a b t, e4 a c t, e5 a t, e6 a, e7 a t], _, _, _, T8 a b c t, rfl, rfl, rfl, by simp, by simp, path8 K, fun x B j h1 h2 => bad8 (T8 a b c t) B j h1 (by simpa using h2)⟩
  · exact ⟨[e0 a, e1 b, e2 c, e3 a b t, e4 a c t, e5 a t, e6 a, e7 a t, e8], _, _, _, T9 a b c t, rfl, rfl, rfl, by simp, by simp, path9 K, fun x B j h1 h2 => bad9 K.na (WksOk.two K.na K.nc) B j h1 (by simpa using h2)⟩
/-! their form -/
theorem okDe_all (K : Ok3 a b c t) (d : D) (h : d ∈ dL a b c t) : okDe d = true ∧ deedB d = true := by
  have oa := name_ok K.na
  have ob := name_ok K.nb
  have oc := name_ok K.nc
  simp only [dL, List.mem_cons, List.not_mem_nil, or_false] at h
  rcases h with rfl | rfl | rfl | rfl | rfl | rfl | rfl | rfl | rfl | rfl
  all_goals refine ⟨?_, by rfl⟩
  all_goals simp [e0, e1, e2, e3, e4, e5, e6, e7, e8, e9, okDe, pl, plN, oa, ob, oc]
  all_goals decide +kernel
end
/-! ### one deed otherwise -/
theorem set_take {x : D} {l : List D} {j : Nat} (h : j < l.length) : l.take j ++ [x] ++ l.drop (j + 1) = l.set j x := by
  rw [List.set_eq_take_append_cons_drop, if_pos h]
  simp
/-- the forms that are none -/
def bad8L (z : Str) (ds : List D) : List D := [.non, .tup (.str z :: ds ++ [.int 0]), .tup (.str z :: ds).dropLast, .lst (.str z :: ds), .tup [], .tup (.str "none" :: ds), .tup (.non :: ds), .tup (.lst [.int 1] :: ds)]
theorem pl_tup {xs : List D} (h : ∀ x ∈ xs, plN 9 x = true) : pl (.tup xs) = true := by
  show xs.all (plN 9) = true
  rw [List.all_eq_true]
  exact h
theorem tup_pl {xs : List D} (h : pl (.tup xs) = true) : ∀ x ∈ xs, plN 9 x = true := by
  have h : xs.all (plN 9) = true := h
  rw [List.all_eq_true] at h
  exact h
section
variable {z : Str} {ds : List D} (o : okDe (.tup (.str z :: ds)) = true) (db : deedB (.tup (.str z :: ds)) = true) (l1 : 1 ≤ ds.length) (l5 : ds.length ≤ 5)
include o l5
theorem deed_pl : okD (.str z) = true ∧ plN 9 (.str z) = true ∧ ∀ x ∈ ds, plN 9 x = true := by
  simp only [okDe, Bool.and_eq_true, decide_eq_true_eq] at o
  have h := tup_pl o.1.2
  exact ⟨o.1.1, h _ List.mem_cons_self, fun x hx => h x (List.mem_cons_of_mem _ hx)⟩
include db l1
theorem bad8_ok (x : D) (hx : x ∈ bad8L z ds) : okDe x = true ∧ deedB x = false := by
  obtain ⟨oz, pz, pd⟩ := deed_pl o l5
  have dq : wd_LENGTHS.lookup z = some ((ds.length : Int) + 1) := by simpa [deedB] using db
  have pN : ∀ (y : D) (es : List D), plN 9 y = true → (∀ e ∈ es, plN 9 e = true) → pl (.tup (y :: es)) = true := fun y es h1 h2 => pl_tup fun q hq => by
    rcases List.mem_cons.mp hq with rfl | hq
    · exact h1
    · exact h2 q hq
  simp only [bad8L, List.mem_cons, List.not_mem_nil, or_false] at hx
  rcases hx with rfl | rfl | rfl | rfl | rfl | rfl | rfl | rfl
  · exact ⟨rfl, rfl⟩
  · refine ⟨?_, ?_⟩
    · have := pN (.str z) (ds ++ [.int 0]) pz (fun e he => by
        rcases List.mem_append.mp he with he | he
        · exact pd e he
        · rw [List.mem_singleton] at he; subst he; rfl)
      show okDe (.tup (.str z :: (ds ++ [.int 0]))) = true
      simp only [okDe, oz, this, Bool.true_and, decide_eq_true_eq, List.length_append, List.length_singleton]
      omega
    · show deedB (.tup (.str z :: (ds ++ [.int 0]))) = false
      simp only [deedB, dq]
      simp
      omega
  · have e : (D.str z :: ds).dropLast = .str z :: ds.dropLast := by cases ds with
      | nil => simp at l1
      | cons q qs => rfl
    rw [e]
    refine ⟨?_, ?_⟩
    · have := pN (.str z) ds.dropLast pz (fun e he => pd e (List.dropLast_subset ds he))
      simp only [okDe, oz, this, Bool.true_and, decide_eq_true_eq, List.length_dropLast]
      omega
    · simp only [deedB, dq]
      simp
      omega
  · exact ⟨rfl, rfl⟩
  · exact ⟨rfl, rfl⟩
  · refine ⟨?_, ?_⟩
    · have := pN (.str "none") ds (by decide +kernel) pd
      have on : okD (.str "none") = true := by decide +kernel
      simp only [okDe, on, this, Bool.true_and, decide_eq_true_eq]
      omega
    · have : wd_LENGTHS.lookup (Str.ofString "none") = none := by decide +kernel
      simp only [deedB, this]
      rfl
  · refine ⟨?_, rfl⟩
    have := pN .non ds rfl pd
    simp only [okDe, this, decide_eq_true_eq, Bool.and_eq_true]
    exact ⟨⟨rfl, trivial⟩, by omega⟩
  · refine ⟨?_, rfl⟩
    have := pN (.lst [.int 1]) ds rfl pd
    simp only [okDe, this, decide_eq_true_eq, Bool.and_eq_true]
    exact ⟨⟨rfl, trivial⟩, by omega⟩
omit l1
theorem set_ok {x : D} (B : BadP x) (j : Nat) (h1 : 1 ≤ j) (h2 : j ≤ ds.length) : okDe (.tup ((.str z :: ds).set j x)) = true ∧ deedB (.tup ((.str z :: ds).set j x)) = true := by
  obtain ⟨oz, pz, pd⟩ := deed_pl o l5
  obtain ⟨i, rfl⟩ : ∃ i, j = i + 1 := ⟨j - 1, by omega⟩
  have e : (D.str z :: ds).set (i + 1) x = .str z :: ds.set i x := rfl
  rw [e]
  refine ⟨?_, ?_⟩
  · have := pl_tup (xs := .str z :: ds.set i x) fun q hq => by
      rcases List.mem_cons.mp hq with rfl | hq
      · exact pz
      · rcases List.mem_or_eq_of_mem_set hq with hq | rfl
        · exact pd q hq
        · exact B.pl
    simp only [okDe, oz, this, Bool.true_and, decide_eq_true_eq, List.length_set]
    omega
  · simpa [deedB] using db
end
section
variable {L A B : List D} {d : D} {z : Str} {ds : List D} {T : Hs}
/-- what is told of the deeds with one otherwise -/
theorem one_bad (hL : L = A ++ d :: B) (hll : L.length ≤ 50) (hf : ∀ x ∈ L, okDe x = true ∧ deedB x = true) (hd : d = .tup (.str z :: ds)) (l1 : 1 ≤ ds.length) (l5 : ds.length ≤ 5) (P : Path hs0 A T) (S : ∀ x, BadP x → ∀ j, 1 ≤ j → j ≤ ds.length → StepEx T (.tup ((.str z :: ds).set j x)))
    (v : D) (hv : v ∈ bad8L z ds ∨ ∃ x j, BadP x ∧ 1 ≤ j ∧ j ≤ ds.length ∧ v = .tup ((.str z :: ds).set j x)) {w : W} (g : Good w) : ∃ w', Good w' ∧ replayed [.lst (A ++ v :: B)] w = .ex ⟨"NoDeeds", []⟩ w' := by
  subst hL hd
  have hdd := hf (.tup (.str z :: ds)) (by simp)
  have others : ∀ x ∈ A ++ v :: B, x = v ∨ (okDe x = true ∧ deedB x = true) := fun x hx => by
    rcases List.mem_append.mp hx with hx | hx
    · exact .inr (hf x (List.mem_append_left _ hx))
    · rcases List.mem_cons.mp hx with rfl | hx
      · exact .inl rfl
      · exact .inr (hf x (List.mem_append_right _ (List.mem_cons_of_mem _ hx)))
  have hlen : (A ++ v :: B).length ≤ 100 := by simp at hll ⊢; omega
  rcases hv with hv | ⟨x, j, Bx, h1, h2, rfl⟩
  · obtain ⟨q1, q2⟩ := bad8_ok hdd.1 hdd.2 l1 l5 v hv
    refine ⟨w, g, rep_bad _ hlen (fun x hx => ?_) ?_ w⟩
    · rcases others x hx with rfl | h
      · exact q1
      · exact h.1
    · rw [List.all_eq_false]
      exact ⟨v, by simp, by rw [q2]; decide⟩
  · obtain ⟨q1, q2⟩ := set_ok hdd.1 hdd.2 l5 Bx j h1 h2
    refine rep_ex A B _ hlen (fun x hx => ?_) ?_ P (S x Bx j h1 h2) g
    · rcases others x hx with rfl | h
      · exact q1
      · exact h.1
    · rw [List.all_eq_true]
      intro x hx
      rcases others x hx with rfl | h
      · exact q2
      · exact h.2
end
/-! ### the law's loops -/
section
variable {L A B : List D} {d : D} {z : Str} {ds : List D}
theorem l3_ok (hL : L = A ++ d :: B) (hll : L.length ≤ 50) (hp : ∀ x ∈ L, plN 9 x = true) (v : D) (kv : keepM (fz v) = true) (s0 s1 s3 s4 s5 s6 s7 s9 s10 s11 : Option Val) {w w' : W} (e : replayed [.lst (A ++ v :: B)] w = .ex ⟨"NoDeeds", []⟩ w') :
    law_l3 [s0, s1, some (fz (.lst L)), s3, s4, s5, s6, s7, some (fz (.int A.length)), s9, s10, s11, some (fz v)] w = .next [s0, s1, some (fz (.lst L)), s3, some (fz (.lst (A ++ v :: B))), s5, s6, s7, some (fz (.int A.length)), s9, s10, s11, some (fz v)] w' := by
  have c1 : cutL L none (some (A.length : Int)) = A := by rw [cutL_to, hL, List.take_left]
  have c2 : cutL L (some ((A.length : Int) + 1)) none = B := by
    rw [show (A.length : Int) + 1 = ((A.length + 1 : Nat) : Int) by omega, cutL_from, hL]
    simp
  have c3 : cutL (A ++ v :: B) (some ((A.length : Int) + 1)) none = B := by
    rw [show (A.length : Int) + 1 = ((A.length + 1 : Nat) : Int) by omega, cutL_from]
    simp
  have hl2 : A.length + 1 + B.length ≤ 50 := by rw [hL] at hll; simp at hll; omega
  have z1 : A.length + 1 ≤ sizeLine := sz_le (by omega)
  have z2 : A.length + 1 + B.length ≤ sizeLine := sz_le (by omega)
  have ap : A ++ v :: B = A ++ [v] ++ B := by simp
  have plB : pl (.lst B) = true := by
    show B.all (plN 9) = true
    rw [List.all_eq_true]
    exact fun x hx => hp x (by rw [hL]; simp [hx])
  have ge : ∀ m m' w, gEq true ⟨m, .lst B⟩ ⟨m', .lst B⟩ w = .ok (fz (.bl false)) w := fun m m' w => gEq_same plB true m m' w
  have u1 : (sSetF 4 (dOp gAdd (dOp gAdd (dSl (dVar 2) dNo (dPart (dVar 8))) (dLst (dOne (dVar 12)))) (dSl (dVar 2) (dPart (dOp gAdd (dVar 8) (dC (.int 1)))) dNo))) [s0, s1, some (fz (.lst L)), s3, s4, s5, s6, s7, some (fz (.int A.length)), s9, s10, s11, some (fz v)] w = .next [s0, s1, some (fz (.lst L)), s3, some (fz (.lst (A ++ v :: B))), s5, s6, s7, some (fz (.int A.length)), s9, s10, s11, some (fz v)] w := by
    rw [ap]
    simp [c1, c2, gAdd, z1, z2, chk]
  rw [law_l3, sSeq_s, u1, othn_next]
  generalize A ++ v :: B = M at *
  simp [e, c3, c2, ge]
theorem l2_ok (z : Str) (ds : List D) (j : Nat) (h1 : 1 ≤ j) (h2 : j ≤ ds.length) (l5 : ds.length ≤ 5) (X : List D) (hX : X.length ≤ 50) (s0 s1 s2 s3 s4 s5 s6 s7 s8 s12 : Option Val) (w : W) :
    law_l2 [s0, s1, s2, s3, s4, s5, s6, s7, s8, some (fz (.tup (.str z :: ds))), some ⟨.nw, .lst X⟩, some (fz (.int j)), s12] w = .next [s0, s1, s2, s3, s4, s5, s6, s7, s8, some (fz (.tup (.str z :: ds))), some ⟨.nw, .lst (X ++ bad5.map fun x => .tup ((.str z :: ds).set j x))⟩, some (fz (.int j)), s12] w := by
  have hj : j < (D.str z :: ds).length := by simp; omega
  have ll : (D.str z :: ds).length = ds.length + 1 := rfl
  have c1 : cutL (D.str z :: ds) none (some (j : Int)) = (D.str z :: ds).take j := cutL_to _ _
  have c2 : cutL (D.str z :: ds) (some ((j : Int) + 1)) none = (D.str z :: ds).drop (j + 1) := by
    rw [show (j : Int) + 1 = ((j + 1 : Nat) : Int) by omega, cutL_from]
  have i1 : HT.sIx (ds.length + 1) (ds.length + 1) (some (j : Int)) = j := by rw [HT.sIx_nat]; omega
  have i2 : HT.sIx (ds.length + 1) 0 (some ((j : Int) + 1)) = j + 1 := by
    rw [show (j : Int) + 1 = ((j + 1 : Nat) : Int) by omega, HT.sIx_nat]; omega
  have g1 : ∀ m w, gSl ⟨m, .tup (.str z :: ds)⟩ none (some (j : Int)) w = .ok (fz (.tup ((D.str z :: ds).take j))) w := fun m w => by
    simp only [gSl, ll, i1, c1]
    rw [if_neg (by omega)]
  have g2 : ∀ m w, gSl ⟨m, .tup (.str z :: ds)⟩ (some ((j : Int) + 1)) none w = .ok (fz (.tup ((D.str z :: ds).drop (j + 1)))) w := fun m w => by
    simp only [gSl, ll, i2, c2]
    rw [if_neg (by omega)]
  have tk : ((D.str z :: ds).take j).length = j := by rw [List.length_take]; omega
  have dr : ((D.str z :: ds).drop (j + 1)).length ≤ 5 := by rw [List.length_drop]; omega
  have ne : ((D.str z :: ds).take j).isEmpty = false := by
    rw [List.isEmpty_eq_false_iff_exists_mem]
    obtain ⟨i, rfl⟩ : ∃ i, j = i + 1 := ⟨j - 1, by omega⟩
    exact ⟨.str z, by simp⟩
  have a1 : ∀ (x : D) m m' w, gAdd ⟨m, .tup ((D.str z :: ds).take j)⟩ ⟨m', .tup [x]⟩ w = .ok (fz (.tup ((D.str z :: ds).take j ++ [x]))) w := fun x m m' w => by
    have : j + 1 ≤ sizeLine := sz_le (by omega)
    simp only [gAdd, ne, tk, List.length_singleton]
    rw [if_pos ⟨trivial, this⟩]
  have a2 : ∀ (x : D) m m' w, gAdd ⟨m, .tup ((D.str z :: ds).take j ++ [x])⟩ ⟨m', .tup ((D.str z :: ds).drop (j + 1))⟩ w = .ok (fz (.tup ((D.str z :: ds).set j x))) w := fun x m m' w => by
    have ne2 : ((D.str z :: ds).take j ++ [x]).isEmpty = false := by simp
    have : ((D.str z :: ds).take j ++ [x]).length + ((D.str z :: ds).drop (j + 1)).length ≤ sizeLine := sz_le (by rw [List.length_append, tk]; simp only [List.length_singleton]; omega)
    simp only [gAdd]
    rw [if_pos ⟨ne2, this⟩, set_take hj]
  have a2' : ∀ (x : D) m m' w, gAdd ⟨m, .tup ((D.str z :: ds).take j ++ [x])⟩ ⟨m', .tup (ds.drop j)⟩ w = .ok (fz (.tup ((D.str z :: ds).set j x))) w := a2
  have lc : dLc (iSq (dLst (dCons (dC (.str "")) (dCons (dLst (dOne (dC (.int 1)))) (dCons (dUn gNeg (dC (.int 1))) (dCons (dC (.int 2400)) (dOne (dC (.str "A"))))))))) (.nm 4) tYesD (dOp gAdd (dOp gAdd (dSl (dVar 9) dNo (dPart (dVar 11))) (dTup (dOne (dVar 4)))) (dSl (dVar 9) (dPart (dOp gAdd (dVar 11) (dC (.int 1)))) dNo)) [4] [s0, s1, s2, s3, s4, s5, s6, s7, s8, some (fz (.tup (.str z :: ds))), some ⟨.nw, .lst X⟩, some (fz (.int j)), s12] w = .ok ⟨.nw, .lst (bad5.map fun x => .tup ((.str z :: ds).set j x))⟩ w := by
    refine dLc_ok (ds := bad5) (b := true) (by simp [iSq, bad5]) (by decide) ?_
    have := lcL_allW (id : D → D) (fun x => .tup ((.str z :: ds).set j x)) (t := .nm 4) (f := dOp gAdd (dOp gAdd (dSl (dVar 9) dNo (dPart (dVar 11))) (dTup (dOne (dVar 4)))) (dSl (dVar 9) (dPart (dOp gAdd (dVar 11) (dC (.int 1)))) dNo)) (ρ := wipeD [s0, s1, s2, s3, s4, s5, s6, s7, s8, some (fz (.tup (.str z :: ds))), some ⟨.nw, .lst X⟩, some (fz (.int j)), s12] [4]) (w := w) bad5 fun x hx =>
      ⟨_, rfl, .fz, rfl, by simp [wipeD, g1, g2, a1, a2']⟩
    simpa using this
  have zz : X.length + 5 ≤ sizeLine := sz_le (by omega)
  have z5 : (bad5.map fun x => D.tup ((.str z :: ds).set j x)).length = 5 := rfl
  generalize bad5.map (fun x => D.tup ((.str z :: ds).set j x)) = M at *
  rw [law_l2]
  simp [lc, z5, zz]
end
/-! ### the loop over the deeds -/
theorem gAddT (x : D) (xs ys : List D) (h : xs.length + ys.length ≤ 100) (m m' : Md) (w : W) : gAdd ⟨m, .tup (x :: xs)⟩ ⟨m', .tup ys⟩ w = .ok (fz (.tup (x :: (xs ++ ys)))) w := by
  have : (x :: xs).length + ys.length ≤ sizeLine := sz_le (by simp only [List.length_cons]; omega)
  simp only [gAdd]
  rw [if_pos ⟨rfl, this⟩]
  rfl
section
variable {L A B : List D} {d : D} {z : Str} {y : D} {ys : List D} {T : Hs}
theorem l4_ok (ns : List Int) (hns : ns.length ≤ 63) (hL : L = A ++ .tup (.str z :: y :: ys) :: B) (hll : L.length ≤ 50) (hf : ∀ x ∈ L, okDe x = true ∧ deedB x = true) (hp : ∀ x ∈ L, plN 9 x = true) (l5 : ys.length ≤ 4) (P : Path hs0 A T) (S : ∀ x, BadP x → ∀ j, 1 ≤ j → j ≤ (y :: ys).length → StepEx T (.tup ((.str z :: y :: ys).set j x))) (s1 s3 s4 s5 s6 s7 s10 s11 s12 : Option Val) {w : W} (g : Good w) :
    ∃ s4' s10' s11' s12' w', Good w' ∧ law_l4 [some (fz (.scr ns)), s1, some (fz (.lst L)), s3, s4, s5, s6, s7, some (fz (.int A.length)), some (fz (.tup (.str z :: y :: ys))), s10, s11, s12] w = .next [some (fz (.scr ns)), s1, some (fz (.lst L)), s3, s4', s5, s6, s7, some (fz (.int A.length)), some (fz (.tup (.str z :: y :: ys))), s10', s11', s12'] w' := by
  have hdd := hf (.tup (.str z :: y :: ys)) (by rw [hL]; simp)
  obtain ⟨oz, pz, pd⟩ := deed_pl hdd.1 (by simp; omega)
  have dlen : ((D.str z :: y :: ys).length : Int) = ys.length + 2 := by simp; omega
  have gm1 : ∀ m w, gSl ⟨m, .tup (.str z :: y :: ys)⟩ none (some (-1)) w = .ok (fz (.tup (D.str z :: y :: ys).dropLast)) w := fun m w => by
    have i1 : HT.sIx (D.str z :: y :: ys).length (D.str z :: y :: ys).length (some (-1)) = ys.length + 1 := by
      unfold HT.sIx
      simp only []
      rw [if_pos (by decide), dlen]
      omega
    have c1 : cutL (D.str z :: y :: ys) none (some (-1)) = (D.str z :: y :: ys).dropLast := by
      have e := List.dropLast_concat_getLast (l := D.str z :: y :: ys) (by simp)
      have := cutL_m1 (D.str z :: y :: ys).dropLast ((D.str z :: y :: ys).getLast (by simp))
      rw [e] at this
      exact this
    simp only [gSl, i1, c1]
    rw [if_neg (by simp only [List.length_cons]; omega)]
  have g1n : ∀ m w, gSl ⟨m, .tup (.str z :: y :: ys)⟩ (some 1) none w = .ok (fz (.tup (y :: ys))) w := fun m w => by
    have i1 : HT.sIx (D.str z :: y :: ys).length 0 (some (1 : Int)) = 1 := by
      rw [show (1 : Int) = ((1 : Nat) : Int) from rfl, HT.sIx_nat]; simp only [List.length_cons]; omega
    have c1 : cutL (D.str z :: y :: ys) (some 1) none = y :: ys := cutL_from (D.str z :: y :: ys) 1
    simp only [gSl, i1, c1]
    rw [if_neg (by omega)]
  have g2n : ∀ m w, gSl ⟨m, .tup (.str z :: y :: ys)⟩ (some 2) none w = .ok (fz (.tup ys)) w := fun m w => by
    have i1 : HT.sIx (D.str z :: y :: ys).length 0 (some (2 : Int)) = 2 := by
      rw [show (2 : Int) = ((2 : Nat) : Int) from rfl, HT.sIx_nat]; simp only [List.length_cons]; omega
    have c1 : cutL (D.str z :: y :: ys) (some 2) none = ys := cutL_from (D.str z :: y :: ys) 2
    simp only [gSl, i1, c1]
    rw [if_neg (by omega)]
  have gn1 : ∀ m w, gSl ⟨m, .tup (.str z :: y :: ys)⟩ none (some 1) w = .ok (fz (.tup [.str z])) w := fun m w => by
    have i1 : HT.sIx (D.str z :: y :: ys).length (D.str z :: y :: ys).length (some (1 : Int)) = 1 := by
      rw [show (1 : Int) = ((1 : Nat) : Int) from rfl, HT.sIx_nat]; simp only [List.length_cons]; omega
    have c1 : cutL (D.str z :: y :: ys) none (some 1) = [.str z] := cutL_to (D.str z :: y :: ys) 1
    simp only [gSl, i1, c1]
    rw [if_neg (by simp only [List.length_cons]; omega)]
  have a0 : ∀ m m' w, gAdd ⟨m, .tup (.str z :: y :: ys)⟩ ⟨m', .tup [.int 0]⟩ w = .ok (fz (.tup (.str z :: y :: (ys ++ [.int 0])))) w := fun m m' w => gAddT _ (y :: ys) [.int 0] (by simp; omega) m m' w
  have a1 : ∀ (x : D) m m' w, gAdd ⟨m, .tup [x]⟩ ⟨m', .tup (y :: ys)⟩ w = .ok (fz (.tup (x :: y :: ys))) w := fun x m m' w => gAddT x [] (y :: ys) (by simp; omega) m m' w
  have a2 : ∀ m m' w, gAdd ⟨m, .tup [.str z]⟩ ⟨m', .tup [.str "zzzzzzz"]⟩ w = .ok (fz (.tup [.str z, .str "zzzzzzz"])) w := fun m m' w => gAddT _ [] [.str "zzzzzzz"] (by simp) m m' w
  have a3 : ∀ m m' w, gAdd ⟨m, .tup [.str z, .str "zzzzzzz"]⟩ ⟨m', .tup ys⟩ w = .ok (fz (.tup (.str z :: .str "zzzzzzz" :: ys))) w := fun m m' w => gAddT _ [.str "zzzzzzz"] ys (by simp; omega) m m' w
  have u1 : (sSet 10 (dLst (dCons (dC .non) (dCons (dOp gAdd (dVar 9) (dTup (dOne (dC (.int 0))))) (dCons (dSl (dVar 9) dNo (dPart (dUn gNeg (dC (.int 1))))) (dCons (dCB gList (dOne (dVar 9))) (dCons (dTup dNil) (dOne (dOp gAdd (dTup (dOne (dC (.str "none")))) (dSl (dVar 9) (dPart (dC (.int 1))) dNo)))))))))) [some (fz (.scr ns)), s1, some (fz (.lst L)), s3, s4, s5, s6, s7, some (fz (.int A.length)), some (fz (.tup (.str z :: y :: ys))), s10, s11, s12] w = .next [some (fz (.scr ns)), s1, some (fz (.lst L)), s3, s4, s5, s6, s7, some (fz (.int A.length)), some (fz (.tup (.str z :: y :: ys))), some ⟨.nw, .lst ([.non, .tup (.str z :: y :: (ys ++ [.int 0])), .tup (D.str z :: y :: ys).dropLast, .lst (.str z :: y :: ys), .tup [], .tup (.str "none" :: y :: ys)])⟩, s11, s12] w := by
    simp [gm1, g1n, a0, a1, gList]
  have u2 : (sExt 10 (dLst (dCons (dOp gAdd (dTup (dOne (dC .non))) (dSl (dVar 9) (dPart (dC (.int 1))) dNo)) (dOne (dOp gAdd (dTup (dOne (dLst (dOne (dC (.int 1)))))) (dSl (dVar 9) (dPart (dC (.int 1))) dNo)))))) [some (fz (.scr ns)), s1, some (fz (.lst L)), s3, s4, s5, s6, s7, some (fz (.int A.length)), some (fz (.tup (.str z :: y :: ys))), some ⟨.nw, .lst ([.non, .tup (.str z :: y :: (ys ++ [.int 0])), .tup (D.str z :: y :: ys).dropLast, .lst (.str z :: y :: ys), .tup [], .tup (.str "none" :: y :: ys)])⟩, s11, s12] w = .next [some (fz (.scr ns)), s1, some (fz (.lst L)), s3, s4, s5, s6, s7, some (fz (.int A.length)), some (fz (.tup (.str z :: y :: ys))), some ⟨.nw, .lst ([.non, .tup (.str z :: y :: (ys ++ [.int 0])), .tup (D.str z :: y :: ys).dropLast, .lst (.str z :: y :: ys), .tup [], .tup (.str "none" :: y :: ys), .tup (.non :: y :: ys), .tup (.lst [.int 1] :: y :: ys)])⟩, s11, s12] w := by
    simp [g1n, a1]
  have hk : A.length < 100 := by rw [hL] at hll; simp at hll; omega
  obtain ⟨k0, k1, ek⟩ := pick_ok (ns := ns) (k := 101 + A.length) (m := (ys.length : Int) + 1) hns (by omega) (by omega) (by omega)
  obtain ⟨j, hj⟩ : ∃ j : Nat, 1 + pick ns (101 + A.length) ((ys.length : Int) + 1) = j := ⟨(1 + pick ns (101 + A.length) ((ys.length : Int) + 1)).toNat, by omega⟩
  have j1 : 1 ≤ j := by omega
  have j2 : j ≤ (y :: ys).length := by simp only [List.length_cons]; omega
  have e2 := l2_ok z (y :: ys) j j1 j2 (by simp; omega) ([.non, .tup (.str z :: y :: (ys ++ [.int 0])), .tup (D.str z :: y :: ys).dropLast, .lst (.str z :: y :: ys), .tup [], .tup (.str "none" :: y :: ys), .tup (.non :: y :: ys), .tup (.lst [.int 1] :: y :: ys)]) (by simp) (some (fz (.scr ns))) s1 (some (fz (.lst L))) s3 s4 s5 s6 s7 (some (fz (.int A.length))) s12 w
  have ln : ∀ (m : Md) (w : W), gLen [⟨m, .tup (.str z :: y :: ys)⟩] w = .ok (fz (.int ((ys.length : Int) + 1 + 1))) w := fun m w => by simp
  have u3 : (sFor (iSq (dLst (dOne (dOp gAdd (dC (.int 1)) (dCall law_pick [] (dCons (dVar 0) (dCons (dOp gAdd (dC (.int 101)) (dVar 8)) (dOne (dOp gSub (dCB gLen (dOne (dVar 9))) (dC (.int 1))))))))))) (.nm 11) law_l2) [some (fz (.scr ns)), s1, some (fz (.lst L)), s3, s4, s5, s6, s7, some (fz (.int A.length)), some (fz (.tup (.str z :: y :: ys))), some ⟨.nw, .lst ([.non, .tup (.str z :: y :: (ys ++ [.int 0])), .tup (D.str z :: y :: ys).dropLast, .lst (.str z :: y :: ys), .tup [], .tup (.str "none" :: y :: ys), .tup (.non :: y :: ys), .tup (.lst [.int 1] :: y :: ys)])⟩, s11, s12] w = .next [some (fz (.scr ns)), s1, some (fz (.lst L)), s3, s4, s5, s6, s7, some (fz (.int A.length)), some (fz (.tup (.str z :: y :: ys))), some ⟨.nw, .lst (([.non, .tup (.str z :: y :: (ys ++ [.int 0])), .tup (D.str z :: y :: ys).dropLast, .lst (.str z :: y :: ys), .tup [], .tup (.str "none" :: y :: ys), .tup (.non :: y :: ys), .tup (.lst [.int 1] :: y :: ys)]) ++ bad5.map fun x => .tup ((.str z :: y :: ys).set j x))⟩, some (fz (.int j)), s12] w := by
    generalize ([.non, .tup (.str z :: y :: (ys ++ [.int 0])), .tup (D.str z :: y :: ys).dropLast, .lst (.str z :: y :: ys), .tup [], .tup (.str "none" :: y :: ys), .tup (.non :: y :: ys), .tup (.lst [.int 1] :: y :: ys)] : List D) = X at *
    have q : (ys.length : Int) + 1 + 1 - 1 = (ys.length : Int) + 1 := by omega
    simp [ln, q, ek, hj, iSq, forL, e2]
  generalize hX : ([.non, .tup (.str z :: y :: (ys ++ [.int 0])), .tup (D.str z :: y :: ys).dropLast, .lst (.str z :: y :: ys), .tup [], .tup (.str "none" :: y :: ys), .tup (.non :: y :: ys), .tup (.lst [.int 1] :: y :: ys)] : List D) ++ bad5.map (fun x => D.tup ((.str z :: y :: ys).set j x)) = X at *
  have xl : X.length = 13 := by rw [← hX]; rfl
  have hX2 : ∀ v ∈ X, v ∈ bad8L z (y :: ys) ∨ ∃ x j, BadP x ∧ 1 ≤ j ∧ j ≤ (y :: ys).length ∧ v = .tup ((.str z :: y :: ys).set j x) := fun v hv => by
    rw [← hX] at hv
    rcases List.mem_append.mp hv with hv | hv
    · exact .inl hv
    · obtain ⟨x, hx, rfl⟩ := List.mem_map.mp hv
      exact .inr ⟨x, j, badp x (.inl hx), j1, j2, rfl⟩
  obtain ⟨q, gi⟩ : ∃ q : Bool, ∀ m m' w, gIn true ⟨m, .str z⟩ ⟨m', .lst [.str "open", .str "show"]⟩ w = .ok (fz (.bl q)) w := by
    have p1 : pl (.str z) = true := pz
    have p2 : pl (.lst [.str "open", .str "show"]) = true := by decide +kernel
    exact ⟨true != ([.str "open", .str "show"] : List D).any (fun x => eqD x (.str z)), fun m m' w => by simp only [gIn, p1, p2, Bool.and_self, if_true]⟩
  have x14 : 13 < sizeLine := sz_lt (by omega)
  obtain ⟨Y, hY, u4⟩ : ∃ Y : List D, (∀ v ∈ Y, v ∈ bad8L z (y :: ys) ∨ ∃ x j, BadP x ∧ 1 ≤ j ∧ j ≤ (y :: ys).length ∧ v = .tup ((.str z :: y :: ys).set j x)) ∧ (sIf (dAnd (tst (dOp (gIn true) (dOp gIx (dVar 9) (dC (.int 0))) (dLst (dCons (dC (.str "open")) (dOne (dC (.str "show"))))))) (tst (dOp gGt (dVar 8) (dC (.int 0))))) (sApp 10 (dOp gAdd (dOp gAdd (dSl (dVar 9) dNo (dPart (dC (.int 1)))) (dTup (dOne (dC (.str "zzzzzzz"))))) (dSl (dVar 9) (dPart (dC (.int 2))) dNo))) sNext) [some (fz (.scr ns)), s1, some (fz (.lst L)), s3, s4, s5, s6, s7, some (fz (.int A.length)), some (fz (.tup (.str z :: y :: ys))), some ⟨.nw, .lst (X)⟩, some (fz (.int j)), s12] w = .next [some (fz (.scr ns)), s1, some (fz (.lst L)), s3, s4, s5, s6, s7, some (fz (.int A.length)), some (fz (.tup (.str z :: y :: ys))), some ⟨.nw, .lst (Y)⟩, some (fz (.int j)), s12] w := by
    cases q with
    | false => exact ⟨X, hX2, by simp [ix_0, gi]⟩
    | true =>
      by_cases c : (A.length : Int) > 0
      · have cn : ¬ A = [] := fun e => by rw [e] at c; simp at c
        refine ⟨X ++ [.tup (.str z :: .str "zzzzzzz" :: ys)], fun v hv => ?_, by simp [ix_0, gi, cn, gn1, g2n, a2, a3, xl, x14]⟩
        rcases List.mem_append.mp hv with hv | hv
        · exact hX2 v hv
        · rw [List.mem_singleton] at hv
          exact .inr ⟨zzz, 1, badp zzz (.inr rfl), Nat.le_refl _, by simp, hv⟩
      · have c0 : A.length = 0 := by omega
        exact ⟨X, hX2, by simp [ix_0, gi, c0]⟩
  obtain ⟨ρ', w', e5, ⟨t4, t12, rfl⟩, g5⟩ := forL_inv (t := .nm 12) (b := law_l3) (fun _ ρ w => (∃ t4 t12, ρ = [some (fz (.scr ns)), s1, some (fz (.lst L)), s3, t4, s5, s6, s7, some (fz (.int A.length)), some (fz (.tup (.str z :: y :: ys))), some (fz (.lst Y)), some (fz (.int j)), t12]) ∧ Good w) Y 0 [some (fz (.scr ns)), s1, some (fz (.lst L)), s3, s4, s5, s6, s7, some (fz (.int A.length)), some (fz (.tup (.str z :: y :: ys))), some (fz (.lst Y)), some (fz (.int j)), s12] w ⟨⟨s4, s12, rfl⟩, g⟩ (by
    rintro i v ρ w1 hv ⟨⟨t4, t12, rfl⟩, g1⟩
    obtain ⟨w2, g2, er⟩ := one_bad hL hll hf rfl (by simp) (by simp; omega) P S v (hY v (List.mem_of_getElem? hv)) g1
    have := l3_ok hL hll hp v rfl (some (fz (.scr ns))) s1 s3 t4 s5 s6 s7 (some (fz (.tup (.str z :: y :: ys)))) (some (fz (.lst Y))) (some (fz (.int j))) er
    exact ⟨_, _, w2, rfl, this, ⟨_, _, rfl⟩, g2⟩)
  have u5 : (sFrz 10 (sFor (iSq (dVar 10)) (.nm 12) law_l3)) [some (fz (.scr ns)), s1, some (fz (.lst L)), s3, s4, s5, s6, s7, some (fz (.int A.length)), some (fz (.tup (.str z :: y :: ys))), some ⟨.nw, .lst (Y)⟩, some (fz (.int j)), s12] w = .next [some (fz (.scr ns)), s1, some (fz (.lst L)), s3, t4, s5, s6, s7, some (fz (.int A.length)), some (fz (.tup (.str z :: y :: ys))), some (fz (.lst Y)), some (fz (.int j)), t12] w' := by
    simp [sFrz, iSq, e5]
  refine ⟨t4, some (fz (.lst Y)), some (fz (.int j)), t12, w', g5, ?_⟩
  rw [law_l4, sSeq_s, u1, othn_next, sSeq_s, u2, othn_next, sSeq_s, u3, othn_next, sSeq_s, u4, othn_next, u5]
end
theorem nmK_name {fl : Bool} {c : Nat} {x : List Nat} (h : NmK fl c x) : nameL x = true := by
  obtain ⟨r, hr, hl, hc, rfl⟩ := h
  have : ∀ z, Lt z → isL z = true := fun z hz => by unfold isL; have := hz.1; have := hz.2; simp; omega
  have hr' : r.all isL = true := List.all_eq_true.mpr fun z hz => this z (hl z hz)
  have hc' := this c hc
  have h5 : r.length ≤ 5 := hr
  cases fl
  · simp only [nameL, Bool.false_eq_true, if_false, List.length_cons, List.all_cons, hc', hr']
    simp; omega
  · simp only [nameL, if_true, List.length_append, List.length_cons, List.length_nil, List.all_append, List.all_cons, List.all_nil, hc', hr']
    simp; omega
theorem nm_cps (x : List Nat) : (nm x).cps.toList = x := by simp [nm]
theorem nmK_ne {fl : Bool} {c c' : Nat} {x y : List Nat} (h : NmK fl c x) (h' : NmK fl c' y) (n : c ≠ c') : nm x ≠ nm y := by
  intro e
  have e := nm_inj e
  obtain ⟨r, _, _, _, rfl⟩ := h
  obtain ⟨r', _, _, _, rfl⟩ := h'
  cases fl
  · simp at e
    exact n e.1
  · simp at e
    exact n e.2
structure Nms (ns : List Int) (a b c : Str) : Prop where
  n1 : nameB (.str a) = true
  n2 : nameB (.str b) = true
  n3 : nameB (.str c) = true
  ab : a ≠ b
  ac : a ≠ c
  bc : b ≠ c
  o1 : PyData.strOk a = true
  o2 : PyData.strOk b = true
  o3 : PyData.strOk c = true
theorem names3 (ns : List Int) (hl : ns.length ≤ 63) : ∃ a b c, Nms ns a b c ∧ ∀ w, law_names [.scr ns, .int 0, .int 3] w = .ok ⟨.nw, .lst [.str a, .str b, .str c]⟩ w := by
  obtain ⟨xs, h3, hk, e⟩ := names_ex ns hl 0 (by decide) (by decide) 3 (by decide)
  match xs, h3, hk, e with
  | [x, y, z], _, hk, e =>
    have k0 := hk 0 (by simp)
    have k1 := hk 1 (by simp)
    have k2 := hk 2 (by simp)
    have p2 := pick_ok (ns := ns) (k := 0 + 60) (m := 26) hl (by decide) (by decide) (by decide)
    simp only [List.getElem_cons_zero, List.getElem_cons_succ] at k0 k1 k2
    generalize pick ns (0 + 60) 26 = p at *
    have ok : ∀ {fl c x}, NmK fl c x → PyData.strOk (nm x) = true := fun {fl c x} h => by
      refine strOk_nm fun z hz => ?_
      obtain ⟨r, _, hr, hc, rfl⟩ := h
      have : z ∈ r ∨ z = c := by cases fl <;> simp at hz <;> rcases hz with h | h <;> simp [h]
      rcases this with h | h
      · have := (hr z h).2; omega
      · rw [h]; have := hc.2; omega
    refine ⟨nm x, nm y, nm z, ⟨?_, ?_, ?_, nmK_ne k0 k1 (by omega), nmK_ne k0 k2 (by omega), nmK_ne k1 k2 (by omega), ok k0, ok k1, ok k2⟩, fun w => by rw [show ((3 : Nat) : Int) = 3 from rfl] at e; exact e w⟩
    · simp only [nameB, nm_cps]; exact nmK_name k0
    · simp only [nameB, nm_cps]; exact nmK_name k1
    · simp only [nameB, nm_cps]; exact nmK_name k2
/-! ### open_station refused -/

/-! ### the law -/
section
variable {a b c : Str} {t : Int}
theorem dL_get (K : Ok3 a b c t) (x : D) (h : x ∈ dL a b c t) : plN 9 x = true := by
  have oa := name_ok K.na
  have ob := name_ok K.nb
  have oc := name_ok K.nc
  simp only [dL, List.mem_cons, List.not_mem_nil, or_false] at h
  rcases h with rfl | rfl | rfl | rfl | rfl | rfl | rfl | rfl | rfl | rfl <;> simp [e0, e1, e2, e3, e4, e5, e6, e7, e8, e9, plN, oa, ob, oc]
theorem dL_len : (dL a b c t).length = 10 := rfl
def five (a b c : Str) (t : Int) : List (List D) := [[e1 b, e2 c, e3 a b t, e4 a c t, e5 a t, e6 a, e7 a t, e8, e9 a t], dL a b c t ++ [e0 a], dL a b c t ++ [e1 b], [e0 a, e1 b, e2 c, e6 a, e7 a t, e8, e9 a t], dL a b c t ++ [e7 a t]]
theorem five_ok (K : Ok3 a b c t) (M : List D) (hM : M ∈ five a b c t) {w : W} (g : Good w) : ∃ w', Good w' ∧ replayed [.lst M] w = .ex ⟨"NoDeeds", []⟩ w' := by
  have sub : ∀ M ∈ five a b c t, ∀ x ∈ M, okDe x = true ∧ deedB x = true := fun M hM x hx => by
    refine okDe_all K x ?_
    simp only [five, List.mem_cons, List.not_mem_nil, or_false] at hM
    have mem : ∀ y, y = e0 a ∨ y = e1 b ∨ y = e2 c ∨ y = e3 a b t ∨ y = e4 a c t ∨ y = e5 a t ∨ y = e6 a ∨ y = e7 a t ∨ y = e8 ∨ y = e9 a t → y ∈ dL a b c t := fun y hy => by simpa [dL] using hy
    rcases hM with rfl | rfl | rfl | rfl | rfl
    · simp only [List.mem_cons, List.not_mem_nil, or_false] at hx
      exact mem x (.inr hx)
    · rcases List.mem_append.mp hx with hx | hx
      · exact hx
      · rw [List.mem_singleton] at hx; exact mem x (.inl hx)
    · rcases List.mem_append.mp hx with hx | hx
      · exact hx
      · rw [List.mem_singleton] at hx; exact mem x (.inr (.inl hx))
    · simp only [List.mem_cons, List.not_mem_nil, or_false] at hx
      rcases hx with h | h | h | h | h | h | h <;> subst h <;> simp [dL]
    · rcases List.mem_append.mp hx with hx | hx
      · exact hx
      · rw [List.mem_singleton] at hx; subst hx; simp [dL]
  have go : ∀ (A B : List D) (d : D) (T : Hs), A ++ d :: B ∈ five a b c t → (A ++ d :: B).length ≤ 100 → Path hs0 A T → StepEx T d → ∃ w', Good w' ∧ replayed [.lst (A ++ d :: B)] w = .ex ⟨"NoDeeds", []⟩ w' := fun A B d T hm hl P S =>
    rep_ex A B d hl (fun x hx => (sub _ hm x hx).1) (by rw [List.all_eq_true]; exact fun x hx => (sub _ hm x hx).2) P S g
  have hM' := hM
  simp only [five, List.mem_cons, List.not_mem_nil, or_false] at hM
  rcases hM with rfl | rfl | rfl | rfl | rfl
  · obtain ⟨h, P, hs⟩ := pathN K
    exact go [e1 b, e2 c] _ (e3 a b t) h hM' (by simp) P (late3 h K.na (by rw [hs]; rfl))
  · exact go (dL a b c t) [] (e0 a) _ hM' (by simp [dL]) (path10 K) (again0 K.na)
  · exact go (dL a b c t) [] (e1 b) _ hM' (by simp [dL]) (path10 K) (again1 K)
  · exact go [e0 a, e1 b, e2 c, e6 a] [e8, e9 a t] (e7 a t) _ hM' (by simp) (pathB K) (none7 K WksOk.nil HA_rows0)
  · exact go (dL a b c t) [] (e7 a t) _ hM' (by simp [dL]) (path10 K) (none7 K (WksOk.two K.na K.nc) (HA_rows []))
end
theorem deeds_m {k : Nat} (p : Pre k) (n : Nat) (h : Hs) : House_deeds [.obj k] (wP p n h) = .ok ⟨.nw, .lst h.done⟩ (wP p n h) := by
  simp [House_deeds, fnD, House_deeds_b, gList]
theorem law_true (ns : List Int) (hl : ns.length ≤ 63) : ∃ m w, law [.scr ns] W0 = .ok ⟨m, .bl true⟩ w := by
  obtain ⟨a, b, c, N, en⟩ := names3 ns hl
  obtain ⟨n1, n2, n3, ab, ac, bc, s1, s2, s3⟩ := N
  obtain ⟨u0, u1, eu⟩ := pick_ok (ns := ns) (k := 100) (m := 18) hl (by decide) (by decide) (by decide)
  generalize pick ns 100 18 = u at *
  obtain ⟨t, et⟩ : ∃ t : Int, 2 + u = t := ⟨_, rfl⟩
  have K : Ok3 a b c t := ⟨n1, n2, n3, bc, by omega, by omega⟩
  let ρ (z1 z2 z3 z4 z8 z9 z10 z11 z12 : Option Val) : DL.Env := [some (fz (.scr ns)), z1, z2, z3, z4, some (fz (.str a)), some (fz (.str b)), some (fz (.str c)), z8, z9, z10, z11, z12]
  let T1 : Option Val := some (fz (.int t))
  let LN : Option Val := some ⟨.nw, .lst (dL a b c t)⟩
  let LF : Option Val := some (fz (.lst (dL a b c t)))
  have st1 : law_s1 [some (fz (.scr ns)), none, none, none, none, none, none, none, none, none, none, none, none] W0 = .next (ρ none none none none none none none none none) W0 := by
    simp [law_s1, sSetU, en, ρ]
  have st2 : law_s2 (ρ none none none none none none none none none) W0 = .next (ρ T1 none none none none none none none none) W0 := by
    simp [law_s2, eu, ρ, T1, et]
  have st3 : law_s3 (ρ T1 none none none none none none none none) W0 = .next (ρ T1 (some ⟨.nw, .lst [e0 a, e1 b]⟩) none none none none none none none) W0 := by
    simp [law_s3, ρ, T1, e0, e1]
  have st4 : law_s4 (ρ T1 (some ⟨.nw, .lst [e0 a, e1 b]⟩) none none none none none none none) W0 = .next (ρ T1 (some ⟨.nw, .lst [e0 a, e1 b, e2 c]⟩) none none none none none none none) W0 := by
    simp [law_s4, ρ, T1, e2]
  have st5 : law_s5 (ρ T1 (some ⟨.nw, .lst [e0 a, e1 b, e2 c]⟩) none none none none none none none) W0 = .next (ρ T1 (some ⟨.nw, .lst [e0 a, e1 b, e2 c, e3 a b t, e4 a c t, e5 a t]⟩) none none none none none none none) W0 := by
    simp [law_s5, ρ, T1, e3, e4, e5]
  have st6 : law_s6 (ρ T1 (some ⟨.nw, .lst [e0 a, e1 b, e2 c, e3 a b t, e4 a c t, e5 a t]⟩) none none none none none none none) W0 = .next (ρ T1 LN none none none none none none none) W0 := by
    simp [law_s6, ρ, T1, LN, dL, e6, e7, e8, e9]
  have g0 : Good W0 := .inl ⟨_, rfl⟩
  have fo := okDe_all K
  have hp := dL_get K
  obtain ⟨k1, p1, m1, pr1, r1⟩ := rep_ok (dL a b c t) (by simp [dL]) (fun d h => (fo d h).1) (by rw [List.all_eq_true]; exact fun d h => (fo d h).2) (path10 K) g0
  have g1 : Good (wP p1 m1 (T10 a b c t)) := .inr ⟨k1, p1, m1, _, pr1, rfl⟩
  obtain ⟨k2, p2, m2, pr2, r2⟩ := rep_ok [] (by simp) (by simp) rfl .nil g1
  have g2 : Good (wP p2 m2 hs0) := .inr ⟨k2, p2, m2, _, pr2, rfl⟩
  have plL : pl (.lst (dL a b c t)) = true := by
    show (dL a b c t).all (plN 9) = true
    rw [List.all_eq_true]
    exact hp
  have q7 : ∀ m m' w, gEq true ⟨m, .lst (dL a b c t)⟩ ⟨m', .lst (dL a b c t)⟩ w = .ok (fz (.bl false)) w := fun m m' w => gEq_same plL true m m' w
  have q7' : ∀ m m' w, gEq true ⟨m, .lst []⟩ ⟨m', .lst []⟩ w = .ok (fz (.bl false)) w := fun m m' w => rfl
  have dT : (T10 a b c t).done = dL a b c t := rfl
  have dm1 : dMt House_deeds "deeds" 0 0 [0] dfl_deeds (dCall replayed [] (dOne (dVar 2))) dNil dNil (ρ T1 LF none none none none none none none) W0 = .ok ⟨.nw, .lst (dL a b c t)⟩ (wP p1 m1 (T10 a b c t)) := by
    rw [dMt_s p1 m1 (T10 a b c t) _ _ (md := .fz) (by simp [ρ, LF, r1]) (by decide)]
    simp [deeds_m, dT]
  have dm2 : dMt House_deeds "deeds" 0 0 [0] dfl_deeds (dCall replayed [] (dOne (dLst dNil))) dNil dNil (ρ T1 LF none none none none none none none) (wP p1 m1 (T10 a b c t)) = .ok ⟨.nw, .lst []⟩ (wP p2 m2 hs0) := by
    rw [dMt_s p2 m2 hs0 _ _ (md := .fz) (by simp [ρ, LF, r2]) (by decide)]
    simp [deeds_m]
    rfl
  have st7 : law_s7 (ρ T1 LN none none none none none none none) W0 = .next (ρ T1 LF none none none none none none none) (wP p2 m2 hs0) := by
    have fr : ∀ s : DS, sFrz 2 s (ρ T1 LN none none none none none none none) W0 = s (ρ T1 LF none none none none none none none) W0 := fun s => by simp [sFrz, ρ, LN, LF]
    rw [law_s7, fr]
    simp only [sIf_s, dOr_s, tst_s, dOp_s, dm1, bind_ok]
    simp [ρ, LF, q7]
    simp only [ρ, LF] at dm2
    simp [dm2, q7']
  generalize wP p2 m2 hs0 = w2 at *
  have rn : ∀ x ∈ [D.non, .bl true, .str "", .str "ab", .int 3, .tup [], .tup (dL a b c t), e0 a], replayed [x] w2 = .ex ⟨"NoDeeds", []⟩ w2 := fun x hx => by
    simp only [List.mem_cons, List.not_mem_nil, or_false] at hx
    rcases hx with rfl | rfl | rfl | rfl | rfl | rfl | rfl | rfl
    all_goals exact rep_no _ (by first | rfl | decide +kernel) (fun _ z => by cases z) (fun _ z => by cases z) w2
  obtain ⟨z3, h8⟩ := forL_look (i := 3) (b := law_l1) (ρ := ρ T1 LF none none none none none none none) (w := w2) (ds := [D.non, .bl true, .str "", .str "ab", .int 3, .tup [], .tup (dL a b c t), e0 a]) none fun x hx => by
    have := rn x hx
    simp [law_l1, ρ, this]
  have at0 : atI (dL a b c t) 0 = some (e0 a) := ix_0 _ _
  have at1 : atI (dL a b c t) 1 = some (e1 b) := ix_1 _ _ _
  have st8 : law_s8 (ρ T1 LF none none none none none none none) w2 = .next (ρ T1 LF z3 none none none none none none) w2 := by
    simp only [ρ, List.set_cons_succ, List.set_cons_zero] at h8
    simp [law_s8, ρ, LF, iSq, gTuple, at0]
    exact h8
  obtain ⟨ρ', w3, h9, ⟨z4, z8, z9, z10, z11, z12, rfl⟩, g3⟩ := forL_inv (t := .tp [8, 9]) (b := law_l4) (fun _ ρ' w => (∃ z4 z8 z9 z10 z11 z12, ρ' = ρ T1 LF z3 z4 z8 z9 z10 z11 z12) ∧ Good w) (enumD 0 (dL a b c t)) 0 (ρ T1 LF z3 none none none none none none) w2 ⟨⟨_, _, _, _, _, _, rfl⟩, g2⟩ (by
    rintro i x ρ' w hx ⟨⟨z4, z8, z9, z10, z11, z12, rfl⟩, g⟩
    obtain ⟨d, hd, rfl⟩ := enumD_get _ _ _ _ hx
    obtain ⟨A, B, z, ds, T, hL, hA, rfl, l1, l5, P, S⟩ := (each K i d hd).ex
    obtain ⟨y, ys, rfl⟩ : ∃ y ys, ds = y :: ys := by
      cases ds with
      | nil => simp at l1
      | cons y ys => exact ⟨y, ys, rfl⟩
    subst hA
    obtain ⟨t4, t10, t11, t12, w', g', e'⟩ := l4_ok ns hl hL (by simp [dL]) fo hp (by simp at l5; omega) P S T1 z3 z4 (some (fz (.str a))) (some (fz (.str b))) (some (fz (.str c))) z10 z11 z12 g
    exact ⟨_, _, w', rfl, by simp only [Nat.zero_add]; exact e', ⟨_, _, _, _, _, _, rfl⟩, g'⟩)
  have st9 : law_s9 (ρ T1 LF z3 none none none none none none) w2 = .next (ρ T1 LF z3 z4 z8 z9 z10 z11 z12) w3 := by
    simp only [ρ, LF] at h9
    simp [law_s9, ρ, LF, iE]
    exact h9
  obtain ⟨ρ', w4, h10, ⟨y4, rfl⟩, g4⟩ := forL_inv (t := .nm 4) (b := law_l5) (fun _ ρ' w => (∃ y4, ρ' = ρ T1 LF z3 y4 z8 z9 z10 z11 z12) ∧ Good w) ((five a b c t).map .lst) 0 (ρ T1 LF z3 z4 z8 z9 z10 z11 z12) w3 ⟨⟨_, rfl⟩, g3⟩ (by
    rintro i x ρ' w hx ⟨⟨y4, rfl⟩, g⟩
    obtain ⟨M, hM, rfl⟩ := List.mem_map.mp (List.mem_of_getElem? hx)
    obtain ⟨w', g', e'⟩ := five_ok K M hM g
    exact ⟨_, ρ T1 LF z3 (some (fz (.lst M))) z8 z9 z10 z11 z12, w', rfl, by simp [law_l5, ρ, e'], ⟨_, rfl⟩, g'⟩)
  have c1 : cutL (dL a b c t) (some 1) none = [e1 b, e2 c, e3 a b t, e4 a c t, e5 a t, e6 a, e7 a t, e8, e9 a t] := cutL_from _ 1
  have c3 : cutL (dL a b c t) none (some 3) = [e0 a, e1 b, e2 c] := cutL_to _ 3
  have c6 : cutL (dL a b c t) (some 6) none = [e6 a, e7 a t, e8, e9 a t] := cutL_from _ 6
  have c7 : cutL (dL a b c t) (some 7) (some 8) = [e7 a t] := cutL_one (dL a b c t) 7 (e7 a t) rfl
  have st10 : law_s10 (ρ T1 LF z3 z4 z8 z9 z10 z11 z12) w3 = .next (ρ T1 LF z3 y4 z8 z9 z10 z11 z12) w4 := by
    simp only [ρ, LF, five, List.map_cons, List.map_nil] at h10
    simp [law_s10, ρ, LF, iSq, at0, at1, c1, c3, c6, c7, gAdd, dL_len]
    exact h10
  have st11 : law_s11 (ρ T1 LF z3 y4 z8 z9 z10 z11 z12) w4 = .ret (fz (.bl true)) w4 := by
    simp [law_s11]
  refine ⟨.fz, w4, ?_⟩
  refine fnD_ret rfl ?_
  show law_b [some (fz (.scr ns)), none, none, none, none, none, none, none, none, none, none, none, none] W0 = _
  rw [law_b, sSeq_s, st1, othn_next, sSeq_s, st2, othn_next, sSeq_s, st3, othn_next, sSeq_s, st4, othn_next, sSeq_s, st5, othn_next, sSeq_s, st6, othn_next, sSeq_s, st7, othn_next, sSeq_s, st8, othn_next, sSeq_s, st9, othn_next, sSeq_s, st10, othn_next, st11]
end LK
open PySem PySem.W PySem.Calls PyProof.Rows
set_option maxRecDepth 100000 in
set_option maxHeartbeats 0 in
theorem PySem.Challenge.cw_airhours_k79_no_deeds_holds : PySem.Challenge.rw_airhours_k79_no_deeds.Holds := by
  w_on; o_law
  refine HandSHeadRun.head_any (r := OpenLaw.row PySem.Challenge.rw_airhours_k79_no_deeds) (q := view (OpenLaw.row PySem.Challenge.rw_airhours_k79_no_deeds).prog [75]) (H := LK.hk) (ob := LK.ob) (M := 100000) (loose := LK.loose) (d := HandSHeadRun.topDef (OpenLaw.row PySem.Challenge.rw_airhours_k79_no_deeds).prog 75) (kwd := []) LK.ob_eq
    (by kernel_rfl) (fun s => by kernel_rfl) LK.run (by kernel_rfl) (by kernel_rfl) (by kernel_rfl) (by rfl) (by first | assumption | decide +kernel) (by decide +kernel) ⟨rfl, rfl, rfl, rfl, rfl, by decide +kernel⟩ ?hw ?hc
  case hw => w_witness2
  case hc =>
    refine DH.walkT (l := PySem.Challenge.rw_airhours_k79_no_deeds) (k := 12) (n := 6) (F := LK.law) rfl (by kernel_rfl) ⟨rfl, by decide, by decide⟩ ?F LK.law_true
    intro w mg fa h K KX G hmg0 c
    have hmg : mg ("law" : PySem.Str) = some (.ref fa) := by
      have e : (HandSHeadRun.topDef (OpenLaw.row PySem.Challenge.rw_airhours_k79_no_deeds).prog 75).name = ("law" : PySem.Str) := by kernel_rfl
      rw [← e]; exact hmg0
    exact LK.all_mk KX G hmg c (by decide +kernel)
