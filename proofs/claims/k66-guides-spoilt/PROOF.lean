import PyProof.Rows.All
import PyProof.Rows.StrSplitCount
import PyProof.Rows.StrSplitJoin
import Wide.All
import OpenK.AllK
import Wide.FinOn
import HandS.ForMost
import HandS.Exc
import HandS.TryOnly
import HandS.ExcOwn
import HandS.WordsExc
import HandS.CallSlots
import HandS.Wide
import HandS.IsInst
import HandS.Lambda
import HandS.Style
import HandS.Deep
import HandS.EndBits
import HandS.EndTab
import HandS.SortKw
import KE.SortData
import KE.DatumOrd
import HandS.Remove
import KE.KIndexOf
import HandS.ExcIs
import HandS.HotCalls
import HandS.Dict
import HandS.Defaults
import HandS.SuiteRaise
import HandS.RaiseFrom
import HandS.RaiseOp
import HandS.NoneIn
import HandS.WordsDict
import HandS.More
import HandS.ListItems
import KE.KDictList
import HandS.ExcInit
import HandS.Iter
import PyProof.InstSpecial
import HandS.ExcField
import HandS.SetFor
import KE.KDictCopyH
import HandS.Text
import HandS.StrMore
import PyProof.CompFree
import HandS.Head0
import HandS.Head1
import HandS.Head2
import HandS.HeadHook1
import HandS.HeadHook2
import PySem.Challenge.RW_airhours_k66_whole_guides_spoilt
set_option Elab.async false
set_option linter.all false
set_option maxRecDepth 100000
set_option maxHeartbeats 4000000
namespace DH
open PySem PySem.Spec PyProof.Rows L2
abbrev Frag := PySem.W.Frag
def apart (g : Addr → Option Obj) (as : List Addr) : List Addr := as.filter fun a => match g a with
  | some ⟨.none, _, _, _⟩ => false
  | _ => true
def grA {β : Type} (bs : List Addr) (m : Nat) (acc : List Addr) (K : Nat → List Addr → β) : β := match bs with
  | [] => K m acc
  | b :: bs => match Nat.beq (Nat.land (Nat.shiftRight m b) 1) 0 with
    | true => HandSHeadRun.frNat (Nat.lor m (Nat.shiftLeft 1 b)) fun m => grA bs m (b :: acc) K
    | false => grA bs m acc K
def grL {β : Type} (g : Addr → Option Obj) (as : List Addr) (m : Nat) (acc : List Addr) (K : Nat → List Addr → β) : β := match as with
  | [] => K m acc
  | a :: as => match g a with
    | some o => grA (He.refsD o) m acc fun m acc => grL g as m acc K
    | none => grL g as m acc K
def lvs (g : Addr → Option Obj) : Nat → List Addr → Nat → List Addr → List Addr
  | 0, as, _, all => all ++ as
  | n + 1, as, m, all => grL g as m [] fun m' as' => lvs g n as' m' (all ++ as)
def asM (g : Addr → Option Obj) (n : Nat) : List Addr := lvs g n [mainGlobals] (Nat.shiftLeft 1 mainGlobals) []
def obsQ (fa : List (Frag → Bool)) (fn : List He.DefD) (K : Frag) : He.AlD := ((fa.all fun f => f K) && fn.all fun d => d.ok K, fn.map fun d => He.fnW K d.at_)
def obsQG (n : Nat) (fa : List (Frag → Bool)) (fn : List He.DefD) (g : Addr → Option Obj) : He.AlD := obsQ fa fn (He.frG g (apart g (asM g n) ++ [PySem.cStatics]))
def SaysQ (fa : List (Frag → Bool)) (fn : List He.DefD) (K : Frag) : Prop := obsQ fa fn K = He.valD fn
def hookQ (n : Nat) (fa : List (Frag → Bool)) (fn : List He.DefD) : PySem.W.Hook where
  α := He.AlD
  obs := fun s => obsQG n fa fn s.heap.get?
  val := fun _ => He.valD fn
  says := fun _ h => ∃ K : Frag, K.In h ∧ SaysQ fa fn K
  of := fun _ _ e => ⟨_, He.frG_in, e⟩
  keeps := fun _ _ _ ⟨K, hK, c⟩ k => ⟨K, PySem.W.Frag.In.keeps hK k, c⟩
theorem obsQG_eq {n : Nat} {fa : List (Frag → Bool)} {fn : List He.DefD} {g : Addr → Option Obj} {s : Shared} (h : ∀ a, g a = s.heap.get? a) : obsQG n fa fn g = (hookQ n fa fn).obs s := by
  have e : g = s.heap.get? := funext h
  rw [e]; rfl
abbrev ga := He.ga
def bFree (x : Str) (K : Frag) : Bool := He.eqO (PySem.W.nsIn K mainGlobals x) (some none)
def bGlo (x : Str) (K : Frag) : Bool := He.eqO (PySem.W.nsIn K mainGlobals x) (some (some (.ref (ga K x))))
def bInt (x : Str) (i : Int) (K : Frag) : Bool := (He.Fa.int x i).ok K
def bStr (x z : Str) (K : Frag) : Bool := (He.Fa.str x z).ok K
def cA (K : Frag) (x : Str) : Addr := match PySem.W.tabIn K x with
  | some p => p.1
  | none => 0
def pA (K : Frag) (x : Str) : Addr := match PySem.W.tabIn K x with
  | some p => p.2
  | none => 0
def bMk (x : Str) (K : Frag) : Bool := match PySem.W.tabIn K x with
  | some p => (K.lookup p.2).isNone && (match K.lookup (ga K x) with
    | some ⟨_, _, .func fd, _⟩ => decide (fd.code = .ref p.1)
    | _ => false)
  | none => false
def bErr (x : Str) (K : Frag) : Bool := bGlo x K && ((match PySem.W.clsIn K (ga K x) with
  | some cd => decide (cd.mro = [.ref (ga K x), .ref (ga K "AirError"), .type "ValueError", .type "Exception", .type "BaseException", .type "object"]) && cd.hasDict
  | none => false) && (decide (PySem.W.typeIn K (.ref (ga K x)) = some (.type "type")) && (PySem.W.keepIn K (.ref (ga K x)) && (He.eqO (PySem.W.findIn K (.ref (ga K x)) "__getattribute__") (some (some (.builtin "BaseException.__getattribute__"))) &&
  (He.eqO (PySem.W.findIn K (.ref (ga K x)) "__getattr__") (some none) && He.eqO (PySem.W.findIn K (.ref (ga K x)) "__class__") (some (some (.builtin "object.__class__"))))))))
def bAir (K : Frag) : Bool := bGlo "AirError" K && ((match PySem.W.clsIn K (ga K "AirError") with
  | some cd => decide (cd.mro = [.ref (ga K "AirError"), .type "ValueError", .type "Exception", .type "BaseException", .type "object"]) && cd.hasDict
  | none => false) && (decide (PySem.W.typeIn K (.ref (ga K "AirError")) = some (.type "type")) && (He.eqO (PySem.W.specialIn K (.builtin "object.__class__") "__get__") (some (some (.builtin "getset_descriptor.__get__"))) && decide (PySem.W.takesIn K (.builtin "object.__class__") = some true))))
def bNd (xs : List String) (K : Frag) : Bool := decide ((ga K "AirError" :: xs.map fun (x : String) => ga K x).Nodup)
def bRai (x : Str) (K : Frag) : Bool := PySem.W.excIn K (ga K x) [.type "ValueError", .type "Exception", .type "BaseException", .type "object"] "ValueError.__new__"
end DH
namespace LK
open PySem L2
def top (i : Nat) : Stmt := PySem.Challenge.pw_airhours_k66_whole_guides_spoilt.main.body.getD i (.Pass ⟨0, 0, 0, 0⟩)
abbrev s_law_class : Stmt := top 43
abbrev s_law_pick : Stmt := top 45
abbrev s_law_names : Stmt := top 46
abbrev s_law_drawn_rows : Stmt := top 47
abbrev s_law_guide_rows : Stmt := top 48
abbrev s_is_name : Stmt := top 32
abbrev s_is_number : Stmt := top 26
abbrev s_is_day : Stmt := top 27
abbrev s_is_guide_row : Stmt := top 35
abbrev s_do_follow : Stmt := top 36
abbrev s_is_guide : Stmt := top 37
abbrev s_guide_text : Stmt := top 38
abbrev s_number_in : Stmt := top 39
abbrev s_row_in : Stmt := top 40
abbrev s_read_guide : Stmt := top 41
abbrev s_law_is_well_read : Stmt := top 49
abbrev s_law_spoilt_rows : Stmt := top 50
abbrev s_law : Stmt := top 51
abbrev s_law_told : Stmt := top 44
def facts : List (PySem.W.Frag → Bool) := [DH.bFree "ValueError",
  DH.bFree "all",
  DH.bFree "bool",
  DH.bFree "enumerate",
  DH.bFree "int",
  DH.bFree "isinstance",
  DH.bFree "len",
  DH.bFree "list",
  DH.bFree "max",
  DH.bFree "range",
  DH.bFree "str",
  DH.bFree "tuple",
  DH.bFree "zip",
  DH.bStr "BREAK" "!",
  DH.bInt "DAYS" 100,
  DH.bStr "FIGURES" "0123456789",
  DH.bInt "HOURS" 24,
  DH.bStr "LETTERS" "abcdefghijklmnopqrstuvwxyz",
  DH.bInt "LONGEST_NAME" 6,
  DH.bAir,
  DH.bNd ["NoName", "NoDay", "NoHour", "NoMore", "NoShow", "NoSort", "NoStation", "NoRule", "Full", "Taken", "NoRights", "Settled", "TooLate", "NoRow", "NotLive", "TooLong", "NewsAhead", "Clash", "NoWish", "NoDeeds", "NoText"],
  (fun K => (["NoName", "NoDay", "NoHour", "NoMore", "NoShow", "NoSort", "NoStation", "NoRule", "Full", "Taken", "NoRights", "Settled", "TooLate", "NoRow", "NotLive", "TooLong", "NewsAhead", "Clash", "NoWish", "NoDeeds", "NoText"] : List String).all fun x => DH.bErr x K),
  DH.bRai "NoText",
  DH.bGlo "_law_class",
  DH.bGlo "_law_pick",
  DH.bGlo "_law_names",
  DH.bGlo "_law_drawn_rows",
  DH.bGlo "_law_guide_rows",
  DH.bGlo "is_name",
  DH.bGlo "is_number",
  DH.bGlo "is_day",
  DH.bGlo "is_guide_row",
  DH.bGlo "do_follow",
  DH.bGlo "is_guide",
  DH.bGlo "guide_text",
  DH.bGlo "number_in",
  DH.bGlo "row_in",
  DH.bGlo "read_guide",
  DH.bGlo "_law_is_well_read",
  DH.bMk "_law_is_well_read",
  DH.bGlo "_law_spoilt_rows",
  DH.bGlo "law",
  DH.bMk "law",
  (fun K => decide (([DH.pA K "_law_is_well_read", DH.pA K "law"] : List Addr).Nodup)),
  DH.bGlo "_law_told"]
def defs : List He.DefD := [⟨("_law_told", none), "_law_told", "_law_told", defArgs s_law_told, defBody s_law_told, defScope s_law_told, [], []⟩,
  ⟨("_law_class", none), "_law_class", "_law_class", defArgs s_law_class, defBody s_law_class, defScope s_law_class, [], []⟩,
  ⟨("_law_pick", none), "_law_pick", "_law_pick", defArgs s_law_pick, defBody s_law_pick, defScope s_law_pick, [], []⟩,
  ⟨("_law_names", none), "_law_names", "_law_names", defArgs s_law_names, defBody s_law_names, defScope s_law_names, [], []⟩,
  ⟨("_law_drawn_rows", none), "_law_drawn_rows", "_law_drawn_rows", defArgs s_law_drawn_rows, defBody s_law_drawn_rows, defScope s_law_drawn_rows, [], []⟩,
  ⟨("_law_guide_rows", none), "_law_guide_rows", "_law_guide_rows", defArgs s_law_guide_rows, defBody s_law_guide_rows, defScope s_law_guide_rows, [], []⟩,
  ⟨("is_name", none), "is_name", "is_name", defArgs s_is_name, defBody s_is_name, defScope s_is_name, [], []⟩,
  ⟨("is_number", none), "is_number", "is_number", defArgs s_is_number, defBody s_is_number, defScope s_is_number, [], []⟩,
  ⟨("is_day", none), "is_day", "is_day", defArgs s_is_day, defBody s_is_day, defScope s_is_day, [], []⟩,
  ⟨("is_guide_row", none), "is_guide_row", "is_guide_row", defArgs s_is_guide_row, defBody s_is_guide_row, defScope s_is_guide_row, [], []⟩,
  ⟨("do_follow", none), "do_follow", "do_follow", defArgs s_do_follow, defBody s_do_follow, defScope s_do_follow, [], []⟩,
  ⟨("is_guide", none), "is_guide", "is_guide", defArgs s_is_guide, defBody s_is_guide, defScope s_is_guide, [], []⟩,
  ⟨("guide_text", none), "guide_text", "guide_text", defArgs s_guide_text, defBody s_guide_text, defScope s_guide_text, [], []⟩,
  ⟨("number_in", none), "number_in", "number_in", defArgs s_number_in, defBody s_number_in, defScope s_number_in, [], []⟩,
  ⟨("row_in", none), "row_in", "row_in", defArgs s_row_in, defBody s_row_in, defScope s_row_in, [], []⟩,
  ⟨("read_guide", none), "read_guide", "read_guide", defArgs s_read_guide, defBody s_read_guide, defScope s_read_guide, [], []⟩,
  ⟨("_law_is_well_read", none), "_law_is_well_read", "_law_is_well_read", defArgs s_law_is_well_read, defBody s_law_is_well_read, defScope s_law_is_well_read, [], []⟩,
  ⟨("_law_spoilt_rows", none), "_law_spoilt_rows", "_law_spoilt_rows", defArgs s_law_spoilt_rows, defBody s_law_spoilt_rows, defScope s_law_spoilt_rows, [], []⟩,
  ⟨("law", none), "law", "law", defArgs s_law, defBody s_law, defScope s_law, [], []⟩]
def lo0 : List Str := ["AirError", "NoName", "NoDay", "NoHour", "NoMore", "NoShow", "NoSort", "NoStation", "NoRule", "Full", "Taken", "NoRights", "Settled", "TooLate", "NoRow", "NotLive", "TooLong", "NewsAhead", "Clash", "NoWish", "NoDeeds", "NoText", "DAYS", "HOURS", "is_number", "is_day", "BREAK", "LETTERS", "LONGEST_NAME", "is_name"]
def lo1 : List Str := ["FIGURES", "is_guide_row", "do_follow", "is_guide", "guide_text", "number_in", "row_in", "read_guide", "_law_class", "_law_told", "_law_pick", "_law_names", "_law_drawn_rows", "_law_guide_rows", "_law_spoilt_rows"]
def loose : List Str := lo0 ++ lo1
abbrev hk : PySem.W.Hook := DH.hookQ 6 facts defs
def ob (s : PySem.W.SharedT) : He.AlD := DH.obsQG 6 facts defs (HandSHeadRun.getT s)
theorem ob_eq (s : PySem.W.SharedT) : ob s = hk.obs s.abs := DH.obsQG_eq (HandSHeadRun.getT_eq s)
set_option maxHeartbeats 0 in
theorem run (w : World) : HandSHeadRun.RunEq (PySem.W.OpenLaw.row PySem.Challenge.rw_airhours_k66_whole_guides_spoilt) (PySem.W.view (PySem.W.OpenLaw.row PySem.Challenge.rw_airhours_k66_whole_guides_spoilt).prog [49, 51]) hk ob 100000 loose w := by
  intro os
  kernel_rfl
end LK
/-! A layer of plain data over the hand layer: what an expression or a statement makes of plain data, with the heap left out. -/
namespace DL
open PySem L2
/-- plain data -/
inductive D where
  | non | bl (b : Bool) | int (i : Int) | str (x : Str) | tup (xs : List D) | lst (xs : List D)
  | dK (kvs : List (Key × D)) | dT (kvs : List (List Key × D)) | obj (k : Nat) | scr (ns : List Int) | exc (a : Addr)
  deriving Inhabited
/-- the objects of own classes that stand, by their fields; n: how often they were changed; lk: a dict is walked -/
structure W where
  n : Nat
  o : List (List (Str × D))
  lk : Bool
/-- an error: its class, its fields -/
structure Xc where
  c : String
  fs : List (Str × D)
inductive R (α : Type) where
  | ok (a : α) (w : W) | ex (x : Xc) (w : W) | bad
def R.bind {α β : Type} : R α → (α → W → R β) → R β
  | .ok a w, f => f a w
  | .ex x w, _ => .ex x w
  | .bad, _ => .bad
/-- how a value stands: frozen; new (whoever gets it owns it); a slot's own, seen; a field's -/
inductive Md where
  | fz | nw | bo | wd
  deriving DecidableEq
structure Val where
  m : Md
  d : D
abbrev Env := List (Option Val)
abbrev DE := Env → W → R Val
abbrev DT := Env → W → R Bool
abbrev DA := Env → W → R (List Val)
abbrev fz (d : D) : Val := ⟨.fz, d⟩
abbrev W0 : W := ⟨0, [], false⟩
/-! ### what is walked is locked -/
def Dct : HO → Bool
  | .dK _ | .dT _ => true
  | _ => false
/-- u stands at a, or it is a dict that is locked -/
def Lk (H : Hp) (a : Addr) (u : HO) : Prop := H a = some u ∨ (Dct u = true ∧ ∃ o, H a = some (.frz o u))
/-- what is frozen stands in the heap -/
def Sm (G H : Hp) : Prop := ∀ b u, G b = some u → Lk H b u
section
variable {G G' H H' : Hp} {a : Addr} {u : HO} {K : PySem.W.Frag} {xs : List V}
theorem Lk.eq (h : Lk H a u) (n : Dct u = false := by rfl) : H a = some u := by
  rcases h with h | ⟨h, _⟩
  · exact h
  · rw [n] at h; cases h
theorem Lk.mono (s : Same H H') (h : Lk H a u) : Lk H' a u := by
  rcases h with h | ⟨h, o, e⟩
  · exact .inl (s _ _ h)
  · exact .inr ⟨h, o, s _ _ e⟩
theorem Lk.some_ (h : Lk H a u) : H a ≠ none := by
  rcases h with h | ⟨_, o, h⟩ <;> rw [h] <;> exact fun z => nomatch z
theorem Lk.upd {b : Addr} {o : HO} (h : Lk H a u) (n : a ≠ b) : Lk (upd H b o) a u := by
  rcases h with h | ⟨h, q, e⟩
  · exact .inl (by rw [upd_ne n]; exact h)
  · exact .inr ⟨h, q, by rw [upd_ne n]; exact e⟩
theorem Lk.ne {b : Addr} (h : Lk H a u) (n : H b = none) : a ≠ b := fun z => h.some_ (z ▸ n)
/-- the thing that stands at a, by itself or locked, is one -/
theorem Lk.uniq {o : HO} (h : Lk H a u) (h2 : Lk H a o) (n : ∀ q z, u ≠ .frz q z) (n2 : ∀ q z, o ≠ .frz q z) : u = o := by
  rcases h with h | ⟨_, q, h⟩ <;> rcases h2 with h2 | ⟨_, q2, h2⟩ <;> rw [h] at h2
  · exact Option.some.inj h2
  · exact absurd (Option.some.inj h2) (n _ _)
  · exact absurd (Option.some.inj h2).symm (n2 _ _)
  · cases h2; rfl
theorem Sm.eq (s : Sm G H) (e : G a = some u) (n : Dct u = false := by rfl) : H a = some u := (s a u e).eq n
theorem Sm.seq (s : Sm G H) (h : SqL K G a xs) : SqL K H a xs := by
  rcases h with (h | ⟨o, h⟩) | h
  · exact .inl (.inl (s.eq h))
  · exact .inl (.inr ⟨o, s.eq h⟩)
  · exact .inr h
theorem Sm.sqT (s : Sm G H) (h : SqT K G a xs) : SqT K H a xs := by
  rcases h with (h | ⟨o, h⟩) | h
  · exact .inl (.inl (s.eq h))
  · exact .inl (.inr ⟨o, s.eq h⟩)
  · exact .inr h
theorem Sm.free (s : Sm G H) (h : H a = none) : G a = none := by
  cases e : G a with
  | none => rfl
  | some u => exact absurd h (s a u e).some_
theorem Sm.trans (s : Sm G H) (h : Same H H') : Sm G H' := fun b u e => (s b u e).mono h
end
/-! ### data in the heap -/
/-- the script: a list that is never changed -/
abbrev SqZ (K : PySem.W.Frag) (G : Hp) (a : Addr) (xs : List V) : Prop := SqL K G a xs
mutual
inductive Rep (K : PySem.W.Frag) (G : Hp) (ι : List Addr) : V → D → Prop
  | non : Rep K G ι .non .non
  | bl (b : Bool) : Rep K G ι (.bl b) (.bl b)
  | int (i : Int) : Rep K G ι (.int i) (.int i)
  | str (x : Str) : Rep K G ι (.str x) (.str x)
  | tup {a : Addr} {vs : List V} {ds : List D} : SqT K G a vs → Reps K G ι vs ds → Rep K G ι (.ref a) (.tup ds)
  | lst {a : Addr} {vs : List V} {ds : List D} : G a = some (.lst vs) → Reps K G ι vs ds → Rep K G ι (.ref a) (.lst ds)
  | scr {a : Addr} {ns : List Int} : SqZ K G a (ns.map V.int) → Rep K G ι (.ref a) (.scr ns)
  | dK {a : Addr} {kvs : List (Key × V)} {ds : List (Key × D)} : G a = some (.dK kvs) → kvs.map (·.1) = ds.map (·.1) → Reps K G ι (kvs.map (·.2)) (ds.map (·.2)) → Rep K G ι (.ref a) (.dK ds)
  | dT {a : Addr} {kvs : List (List Key × V)} {ds : List (List Key × D)} : G a = some (.dT kvs) → kvs.map (·.1) = ds.map (·.1) → Reps K G ι (kvs.map (·.2)) (ds.map (·.2)) → Rep K G ι (.ref a) (.dT ds)
  | obj {p : Addr} {k : Nat} : ι[k]? = some p → Rep K G ι (.ref p) (.obj k)
  | exc {a : Addr} : Rep K G ι (.ref a) (.exc a)
inductive Reps (K : PySem.W.Frag) (G : Hp) (ι : List Addr) : List V → List D → Prop
  | nil : Reps K G ι [] []
  | cons {v : V} {d : D} {vs : List V} {ds : List D} : Rep K G ι v d → Reps K G ι vs ds → Reps K G ι (v :: vs) (d :: ds)
end
section
variable {K : PySem.W.Frag} {G G' : Hp} {ι ι' : List Addr}
theorem sqT_mono {a : Addr} {vs : List V} (e : Same G G') (h : SqT K G a vs) : SqT K G' a vs := by
  rcases h with (h | ⟨o, h⟩) | h
  · exact .inl (.inl (e _ _ h))
  · exact .inl (.inr ⟨o, e _ _ h⟩)
  · exact .inr h
theorem pre_get {k : Nat} {p : Addr} (h : ι <+: ι') (e : ι[k]? = some p) : ι'[k]? = some p := by
  obtain ⟨t, rfl⟩ := h
  have := (List.getElem?_eq_some_iff.mp e).1
  rw [List.getElem?_append_left this]
  exact e
mutual
theorem Rep.mono (e : Same G G') (i : ι <+: ι') : ∀ {v : V} {d : D}, Rep K G ι v d → Rep K G' ι' v d
  | _, _, .non => .non
  | _, _, .bl b => .bl b
  | _, _, .int b => .int b
  | _, _, .str b => .str b
  | _, _, .tup q r => .tup (sqT_mono e q) (Reps.mono e i r)
  | _, _, .lst q r => .lst (e _ _ q) (Reps.mono e i r)
  | _, _, .scr q => .scr (e.seq q)
  | _, _, .dK q k r => .dK (e _ _ q) k (Reps.mono e i r)
  | _, _, .dT q k r => .dT (e _ _ q) k (Reps.mono e i r)
  | _, _, .obj h => .obj (pre_get i h)
  | _, _, .exc => .exc
theorem Reps.mono (e : Same G G') (i : ι <+: ι') : ∀ {vs : List V} {ds : List D}, Reps K G ι vs ds → Reps K G' ι' vs ds
  | _, _, .nil => .nil
  | _, _, .cons a b => .cons (Rep.mono e i a) (Reps.mono e i b)
end
theorem Reps.length : ∀ {vs : List V} {ds : List D}, Reps K G ι vs ds → vs.length = ds.length
  | _, _, .nil => rfl
  | _, _, .cons _ b => by rw [List.length_cons, List.length_cons, Reps.length b]
theorem Reps.get : ∀ {vs : List V} {ds : List D} {i : Nat} {v : V}, Reps K G ι vs ds → vs[i]? = some v → ∃ d, ds[i]? = some d ∧ Rep K G ι v d
  | _, _, _, _, .nil, e => by simp at e
  | _, _, 0, _, .cons a _, e => by simp at e; subst e; exact ⟨_, rfl, a⟩
  | _, _, i + 1, _, .cons _ b, e => by
    obtain ⟨d, h1, h2⟩ := Reps.get (i := i) b (by simpa using e)
    exact ⟨d, by simpa using h1, h2⟩
theorem Reps.getD : ∀ {vs : List V} {ds : List D} {i : Nat} {d : D}, Reps K G ι vs ds → ds[i]? = some d → ∃ v, vs[i]? = some v ∧ Rep K G ι v d
  | _, _, _, _, .nil, e => by simp at e
  | _, _, 0, _, .cons a _, e => by simp at e; subst e; exact ⟨_, rfl, a⟩
  | _, _, i + 1, _, .cons _ b, e => by
    obtain ⟨d, h1, h2⟩ := Reps.getD (i := i) b (by simpa using e)
    exact ⟨d, by simpa using h1, h2⟩
theorem Reps.append : ∀ {vs ws : List V} {ds es : List D}, Reps K G ι vs ds → Reps K G ι ws es → Reps K G ι (vs ++ ws) (ds ++ es)
  | _, _, _, _, .nil, h => h
  | _, _, _, _, .cons a b, h => .cons a (Reps.append b h)
theorem Reps.take : ∀ {vs : List V} {ds : List D} (n : Nat), Reps K G ι vs ds → Reps K G ι (vs.take n) (ds.take n)
  | _, _, 0, _ => .nil
  | _, _, _ + 1, .nil => .nil
  | _, _, n + 1, .cons a b => .cons a (Reps.take n b)
theorem Reps.drop : ∀ {vs : List V} {ds : List D} (n : Nat), Reps K G ι vs ds → Reps K G ι (vs.drop n) (ds.drop n)
  | _, _, 0, h => h
  | _, _, _ + 1, .nil => .nil
  | _, _, n + 1, .cons _ b => Reps.drop n b
theorem Reps.set {v : V} {d : D} (h : Rep K G ι v d) : ∀ {vs : List V} {ds : List D} (i : Nat), Reps K G ι vs ds → Reps K G ι (vs.set i v) (ds.set i d)
  | _, _, _, .nil => .nil
  | _, _, 0, .cons _ b => .cons h b
  | _, _, i + 1, .cons a b => .cons a (Reps.set h i b)
theorem Reps.reverse : ∀ {vs : List V} {ds : List D}, Reps K G ι vs ds → Reps K G ι vs.reverse ds.reverse
  | _, _, .nil => .nil
  | _, _, .cons a b => by rw [List.reverse_cons, List.reverse_cons]; exact (Reps.reverse b).append (.cons a .nil)
theorem Reps.of_bls : ∀ {ns : List Bool} {vs : List V}, Reps K G ι vs (ns.map D.bl) → vs = ns.map V.bl
  | [], _, .nil => rfl
  | _ :: _, _, .cons a b => by cases a; rw [Reps.of_bls b]; rfl
end
/-- what no store can change: no list, no dict within -/
def imN : Nat → D → Bool
  | _, .non | _, .bl _ | _, .int _ | _, .str _ | _, .obj _ => true
  | 0, _ => false
  | n + 1, .tup xs => xs.all (imN n)
  | _, _ => false
def im (d : D) : Bool := imN 8 d
/-- a list, a dict: whatever is changed in place -/
def Cont : HO → Prop
  | .lst _ | .dK _ | .dT _ => True
  | _ => False
end DL
namespace DL
open PySem L2
/-! ### the world of objects -/
/-- the class of the objects, and the tables of code objects (a lambda's code is kept in one) -/
structure Ca where
  a : Addr
  T : List (Addr × Str)
/-- no table -/
def Nt (o : HO) : Prop := ∀ ps, o ≠ .tbl ps
/-- nothing stands there, or a table -/
def Fr (H : Hp) (a : Addr) : Prop := ∀ o, H a = some o → ¬ Nt o
theorem Fr.of {H : Hp} {a : Addr} (h : H a = none) : Fr H a := fun o e => by rw [h] at e; cases e
theorem Fr.ne {H : Hp} {a b : Addr} {o : HO} (h : Fr H a) (e : H b = some o) (n : Nt o) : b ≠ a := fun z => h o (z ▸ e) n
theorem nt_lst {xs : List V} : Nt (.lst xs) := fun _ h => nomatch h
theorem nt_tup {xs : List V} : Nt (.tup xs) := fun _ h => nomatch h
theorem nt_cont {o : HO} (h : Cont o) : Nt o := fun ps e => by subst e; exact h
theorem nx_cont {o : HO} (h : Cont o) : ∀ f, o ≠ .ext f := fun f e => by subst e; exact h
theorem nt_frz {o : Obj} {u : HO} : Nt (.frz o u) := fun _ h => nomatch h
theorem Lk.at' {H : Hp} {a : Addr} {u : HO} (h : Lk H a u) (n : Nt u) : ∃ o, H a = some o ∧ Nt o := by
  rcases h with h | ⟨_, o, h⟩
  · exact ⟨_, h, n⟩
  · exact ⟨_, h, nt_frz⟩
theorem Lk.nt2 {H : Hp} {a : Addr} {u o : HO} (h : Lk H a u) (n : Nt u) (h2 : Lk H a o) : Nt o := by
  obtain ⟨x, hx, nx⟩ := h.at' n
  rcases h2 with h2 | ⟨d, _, _⟩
  · rw [hx] at h2; cases h2; exact nx
  · intro ps z; subst z; cases d
theorem nf_cont {o : HO} (h : Cont o) : ∀ q z, o ≠ .frz q z := fun q z e => by subst e; exact h
theorem nt_ins {C dx : Addr} {fs : List (Str × V)} : Nt (.ins C dx fs) := fun _ h => nomatch h
abbrev Ws0 := List (Addr × List (Str × V))
structure Ws where
  n : Nat
  l : Ws0
  lk : Option (Addr × Obj × HO)
def refs : List (Str × V) → List Addr
  | [] => []
  | (_, .ref a) :: r => a :: refs r
  | _ :: r => refs r
def regs0 : Ws0 → List Addr
  | [] => []
  | (p, fs) :: r => p :: (refs fs ++ regs0 r)
abbrev regs (ws : Ws) : List Addr := regs0 ws.l
abbrev io (ws : Ws) : List Addr := ws.l.map (·.1)
/-- a thing that may change, as it stands -/
inductive Unf (K : PySem.W.Frag) (G H : Hp) (ι : List Addr) (a : Addr) : D → Prop
  | lst {vs : List V} {ds : List D} : H a = some (.lst vs) → Reps K G ι vs ds → Unf K G H ι a (.lst ds)
  | dK {kvs : List (Key × V)} {ds : List (Key × D)} : Lk H a (.dK kvs) → kvs.map (·.1) = ds.map (·.1) → Reps K G ι (kvs.map (·.2)) (ds.map (·.2)) → Unf K G H ι a (.dK ds)
  | dT {kvs : List (List Key × V)} {ds : List (List Key × D)} : Lk H a (.dT kvs) → kvs.map (·.1) = ds.map (·.1) → Reps K G ι (kvs.map (·.2)) (ds.map (·.2)) → Unf K G H ι a (.dT ds)
def Fld (K : PySem.W.Frag) (G H : Hp) (ι : List Addr) (v : V) (d : D) : Prop := (∃ a, v = .ref a ∧ Unf K G H ι a d) ∨ (∃ i, v = .int i ∧ d = .int i)
structure RelW (K : PySem.W.Frag) (C : Ca) (G H : Hp) (ws : Ws) (w : W) : Prop where
  obs : Paired (fun (q : Addr × List (Str × V)) (o : List (Str × D)) => (∃ dx, H q.1 = some (.ins C.a dx q.2)) ∧ Paired (fun (x : Str × V) (y : Str × D) => x.1 = y.1 ∧ Fld K G H (io ws) x.2 y.2) q.2 o) ws.l w.o
  nn : w.n = ws.n
  nd : (regs ws).Nodup
  out : ∀ a ∈ regs ws, G a = none
  tb : LamX.Tabs C.T H
  nt : ∀ b o, G b = some o → Nt o
  ul : ∀ a o u, H a = some (.frz o u) → Dct u = true → G a = some (.frz o u) ∨ ws.lk = some (a, o, u)
  lkw : w.lk = ws.lk.isSome
  lkh : ∀ a o u, ws.lk = some (a, o, u) → H a = some (.frz o u)
/-- a value -/
def RV (K : PySem.W.Frag) (G H : Hp) (ws : Ws) (v : V) (x : Val) : Prop := match x.m with
  | .fz => Rep K G (io ws) v x.d
  | .wd => ∃ a, v = .ref a ∧ G a = none ∧ a ∈ regs ws ∧ Unf K G H (io ws) a x.d
  | _ => ∃ a, v = .ref a ∧ G a = none ∧ a ∉ regs ws ∧ Unf K G H (io ws) a x.d
/-- the objects stay where they are, and so do the containers of their fields -/
def Stab (l l' : Ws0) : Prop := ∀ (k : Nat) p fs, l[k]? = some (p, fs) → ∃ fs', l'[k]? = some (p, fs') ∧ fs'.map (·.1) = fs.map (·.1) ∧ ∀ (x : Nat) f a, fs[x]? = some (f, V.ref a) → fs'[x]? = some (f, V.ref a)
theorem Stab.refl (l : Ws0) : Stab l l := fun k p fs h => ⟨fs, h, rfl, fun _ _ _ h => h⟩
theorem Stab.trans {a b c : Ws0} (h : Stab a b) (g : Stab b c) : Stab a c := fun k p fs e => by
  obtain ⟨f1, e1, m1, k1⟩ := h k p fs e
  obtain ⟨f2, e2, m2, k2⟩ := g k p f1 e1
  exact ⟨f2, e2, m2.trans m1, fun x f a z => k2 x f a (k1 x f a z)⟩
/-- from one state to a later one -/
structure Nx (K : PySem.W.Frag) (C : Ca) (G H : Hp) (ws : Ws) (G' H' : Hp) (ws' : Ws) (w' : W) : Prop where
  gg : Same G G'
  sub : Sm G' H'
  rw : RelW K C G' H' ws' w'
  keep : ∀ a o, Lk H a o → Nt o → a ∉ regs ws → Lk H' a o
  alive : ∀ a o, H a = some o → Nt o → ∃ o', H' a = some o' ∧ Nt o'
  nocap : ∀ a o, H a = some o → Nt o → G a = none → G' a = none ∨ ∃ xs, H' a = some (.tup xs)
  io : io ws <+: io ws'
  fresh : ∀ a ∈ regs ws', a ∈ regs ws ∨ Fr H a
  le : ws.n ≤ ws'.n
  qt : ws'.n = ws.n → ws' = ws ∧ ∀ a ∈ regs ws, ∀ o, Lk H a o → Lk H' a o
  stb : Stab ws.l ws'.l
section
variable {K : PySem.W.Frag} {C : Ca} {G H G' H' G2 H2 : Hp} {ws ws' ws2 : Ws} {w w' w2 : W}
theorem paired_imp {α β : Type} {F F' : α → β → Prop} : ∀ {l : List α} {m : List β}, Paired F l m → (∀ a b, a ∈ l → F a b → F' a b) → Paired F' l m
  | _, _, .nil, _ => .nil
  | _, _, .cons a b, h => .cons (h _ _ List.mem_cons_self a) (paired_imp b fun x y hx => h x y (List.mem_cons_of_mem _ hx))
theorem refs_mem : ∀ {fs : List (Str × V)} {x : Str × V} {a : Addr}, x ∈ fs → x.2 = .ref a → a ∈ refs fs
  | (n, v) :: r, x, a, h, e => by
    rcases List.mem_cons.mp h with rfl | h
    · simp only at e; subst e; exact List.mem_cons_self
    · have := refs_mem h e
      cases v <;> first | exact List.mem_cons_of_mem _ this | exact this
theorem regs_mem : ∀ {ws : Ws0} {q : Addr × List (Str × V)}, q ∈ ws → q.1 ∈ regs0 ws ∧ ∀ a ∈ refs q.2, a ∈ regs0 ws
  | (p, fs) :: r, q, h => by
    rcases List.mem_cons.mp h with rfl | h
    · exact ⟨List.mem_cons_self, fun a ha => List.mem_cons_of_mem _ (List.mem_append_left _ ha)⟩
    · have := regs_mem h
      exact ⟨List.mem_cons_of_mem _ (List.mem_append_right _ this.1), fun a ha => List.mem_cons_of_mem _ (List.mem_append_right _ (this.2 a ha))⟩
theorem Unf.there {ι : List Addr} {a : Addr} {d : D} (h : Unf K G H ι a d) : ∃ o, Lk H a o ∧ Cont o := by
  cases h with
  | lst e _ => exact ⟨_, .inl e, trivial⟩
  | dK e _ _ => exact ⟨_, e, trivial⟩
  | dT e _ _ => exact ⟨_, e, trivial⟩
theorem Unf.move {ι ι' : List Addr} {a : Addr} {d : D} (h : Unf K G H ι a d) (g : Same G G') (i : ι <+: ι') (k : ∀ o, Lk H a o → Lk H' a o) : Unf K G' H' ι' a d := by
  cases h with
  | lst e r => exact .lst (k _ (.inl e)).eq (r.mono g i)
  | dK e k1 r => exact .dK (k _ e) k1 (r.mono g i)
  | dT e k1 r => exact .dT (k _ e) k1 (r.mono g i)
theorem Fld.move {ι ι' : List Addr} {v : V} {d : D} (h : Fld K G H ι v d) (g : Same G G') (i : ι <+: ι') (k : ∀ a o, v = .ref a → Lk H a o → Lk H' a o) : Fld K G' H' ι' v d := by
  rcases h with ⟨a, e, u⟩ | h
  · exact .inl ⟨a, e, u.move g i fun o => k a o e⟩
  · exact .inr h
theorem reg_there (r : RelW K C G H ws w) {a : Addr} (h : a ∈ regs ws) : ∃ o, H a = some o ∧ Nt o := by
  have go : ∀ {l : Ws0} {m : List (List (Str × D))}, Paired (fun (q : Addr × List (Str × V)) (o : List (Str × D)) => (∃ dx, H q.1 = some (.ins C.a dx q.2)) ∧ Paired (fun (x : Str × V) (y : Str × D) => x.1 = y.1 ∧ Fld K G H (io ws) x.2 y.2) q.2 o) l m → a ∈ regs0 l → ∃ o, H a = some o ∧ Nt o := by
    intro l m p
    induction p with
    | nil => intro h; exact absurd h (by simp [regs0])
    | @cons q o l m p1 p2 ih =>
      intro h
      obtain ⟨p, fs⟩ := q
      rcases List.mem_cons.mp h with rfl | h
      · obtain ⟨⟨dx, e⟩, _⟩ := p1
        exact ⟨_, e, nt_ins⟩
      · rcases List.mem_append.mp h with h | h
        · have go2 : ∀ {fs : List (Str × V)} {o : List (Str × D)}, Paired (fun (x : Str × V) (y : Str × D) => x.1 = y.1 ∧ Fld K G H (io ws) x.2 y.2) fs o → a ∈ refs fs → ∃ o, H a = some o ∧ Nt o := by
            intro fs o p
            induction p with
            | nil => intro h; exact absurd h (by simp [refs])
            | @cons x y l m q1 q2 ih2 =>
              intro h
              obtain ⟨n, v⟩ := x
              rcases q1.2 with ⟨b, e, u⟩ | ⟨i, e, _⟩
              · simp only at e
                subst e
                rcases List.mem_cons.mp h with rfl | h
                · obtain ⟨o, e, c⟩ := u.there
                  exact e.at' (nt_cont c)
                · exact ih2 h
              · simp only at e
                subst e
                exact ih2 h
          exact go2 p1.2 h
        · exact ih h
  exact go r.obs h
theorem reg_not_tup (r : RelW K C G H ws w) {a : Addr} {xs : List V} (hx : H a = some (.tup xs)) : a ∉ regs ws := by
  have go : ∀ {l : Ws0} {m : List (List (Str × D))}, Paired (fun (q : Addr × List (Str × V)) (o : List (Str × D)) => (∃ dx, H q.1 = some (.ins C.a dx q.2)) ∧ Paired (fun (x : Str × V) (y : Str × D) => x.1 = y.1 ∧ Fld K G H (io ws) x.2 y.2) q.2 o) l m → a ∉ regs0 l := by
    intro l m p
    induction p with
    | nil => simp [regs0]
    | @cons q o l m p1 p2 ih =>
      intro h
      obtain ⟨p, fs⟩ := q
      rcases List.mem_cons.mp h with rfl | h
      · obtain ⟨⟨dx, e⟩, _⟩ := p1
        rw [hx] at e; cases e
      · rcases List.mem_append.mp h with h | h
        · have go2 : ∀ {fs : List (Str × V)} {o : List (Str × D)}, Paired (fun (x : Str × V) (y : Str × D) => x.1 = y.1 ∧ Fld K G H (io ws) x.2 y.2) fs o → a ∉ refs fs := by
            intro fs o p
            induction p with
            | nil => simp [refs]
            | @cons x y l m q1 q2 ih2 =>
              intro h
              obtain ⟨n, v⟩ := x
              rcases q1.2 with ⟨b, e, u⟩ | ⟨i, e, _⟩
              · simp only at e
                subst e
                rcases List.mem_cons.mp h with rfl | h
                · obtain ⟨o, e, c⟩ := u.there
                  rcases e with e | ⟨_, q, e⟩
                  · rw [hx] at e; cases e; exact c
                  · rw [hx] at e; cases e
                · exact ih2 h
              · simp only at e
                subst e
                exact ih2 h
          exact go2 p1.2 h
        · exact ih h
  exact go r.obs
/-- nothing is locked -/
theorem RelW.ul0 (r : RelW K C G H ws w) (hl : w.lk = false) {a : Addr} {o : Obj} {u : HO} (h : H a = some (.frz o u)) (hd : Dct u = true) : G a = some (.frz o u) := by
  rcases r.ul a o u h hd with z | z
  · exact z
  · have := r.lkw
    rw [hl, z] at this
    cases this
theorem Nx.refl (s : Sm G H) (r : RelW K C G H ws w) : Nx K C G H ws G H ws w := ⟨fun _ _ h => h, s, r, fun _ _ h _ _ => h, fun _ o h n => ⟨o, h, n⟩, fun _ _ _ _ h => .inl h, List.prefix_refl _, fun _ h => .inl h, Nat.le_refl _, fun _ => ⟨rfl, fun _ _ _ h => h⟩, Stab.refl _⟩
theorem Nx.trans (a : Nx K C G H ws G' H' ws' w') (b : Nx K C G' H' ws' G2 H2 ws2 w2) : Nx K C G H ws G2 H2 ws2 w2 where
  gg := a.gg.trans b.gg
  sub := b.sub
  rw := b.rw
  keep := fun c o e nt n => b.keep c o (a.keep c o e nt n) nt fun h => by
    rcases a.fresh c h with z | z
    · exact n z
    · obtain ⟨o1, e1, n1⟩ := e.at' nt
      exact z o1 e1 n1
  alive := fun c o e nt => by
    obtain ⟨o', e', nt'⟩ := a.alive c o e nt
    exact b.alive c o' e' nt'
  nocap := fun c o e nt n => by
    obtain ⟨o', e', nt'⟩ := a.alive c o e nt
    rcases a.nocap c o e nt n with z | ⟨xs, z⟩
    · exact b.nocap c o' e' nt' z
    · exact .inr ⟨xs, (b.keep c _ (.inl z) nt_tup (reg_not_tup a.rw z)).eq⟩
  io := a.io.trans b.io
  fresh := fun c h => by
    rcases b.fresh c h with z | z
    · exact a.fresh c z
    · refine .inr fun o e nt => ?_
      obtain ⟨o', e', nt'⟩ := a.alive c o e nt
      exact z o' e' nt'
  le := Nat.le_trans a.le b.le
  stb := a.stb.trans b.stb
  qt := fun h => by
    have h1 := a.le
    have h2 := b.le
    obtain ⟨e1, k1⟩ := a.qt (by omega)
    obtain ⟨e2, k2⟩ := b.qt (by omega)
    subst e1
    exact ⟨e2, fun c hc o e => k2 c hc o (k1 c hc o e)⟩
/-- a frozen world: H may grow, G may grow by what is new -/
theorem RelW.grow (r : RelW K C G H ws w) (g : Same G G') (h : Same H H') (n : ∀ a o, H a = some o → Nt o → G a = none → G' a = none) (nt : ∀ b o, G' b = some o → Nt o) (ul : ∀ a o u, H' a = some (.frz o u) → Dct u = true → G' a = some (.frz o u) ∨ ws.lk = some (a, o, u)) : RelW K C G' H' ws w where
  obs := paired_imp r.obs fun q o hq ⟨⟨dx, e⟩, p⟩ => ⟨⟨dx, h _ _ e⟩, paired_imp p fun x y hx ⟨e, f⟩ => ⟨e, f.move g (List.prefix_refl _) fun a o _ e => e.mono h⟩⟩
  ul := ul
  lkw := r.lkw
  lkh := fun a o u e => h _ _ (r.lkh a o u e)
  nn := r.nn
  nd := r.nd
  out := fun a ha => by
    obtain ⟨o, e, no⟩ := reg_there r ha
    exact n a o e no (r.out a ha)
  tb := r.tb.ext h
  nt := nt
/-- a table is none of what changes -/
theorem tabs_upd {T : List (Addr × Str)} {H : Hp} {a : Addr} {o o' : HO} (t : LamX.Tabs T H) (h : H a = some o) (n : Nt o) (nx : ∀ f, o ≠ .ext f) : LamX.Tabs T (upd H a o') := by
  intro p hp
  obtain ⟨ps, h1, h2, h3⟩ := t p hp
  refine ⟨ps, ?_, h2, fun pos cv hc => ?_⟩
  · rw [upd_ne]
    · exact h1
    · intro z; rw [z, h] at h1; cases h1; exact n _ rfl
  · obtain ⟨c, e1, e2⟩ := h3 pos cv hc
    refine ⟨c, e1, ?_⟩
    rw [upd_ne]
    · exact e2
    · intro z; rw [z, h] at e2; cases e2; exact nx _ rfl
theorem lkh_upd (r : RelW K C G H ws w) {p : Addr} {o' : HO} (hp : ∀ q u, H p ≠ some (.frz q u)) : ∀ a o u, ws.lk = some (a, o, u) → upd H p o' a = some (.frz o u) := fun a o u e => by
  have := r.lkh a o u e
  rw [upd_ne (fun z => by rw [z] at this; exact hp _ _ this)]
  exact this
theorem lkh_cont (r : RelW K C G H ws w) {p : Addr} {o o' : HO} (hp : H p = some o) (c : ∀ q u, o ≠ .frz q u) : ∀ a o u, ws.lk = some (a, o, u) → upd H p o' a = some (.frz o u) := lkh_upd r fun q u z => by rw [hp] at z; cases z; exact c _ _ rfl
theorem ul_upd (r : RelW K C G H ws w) {p : Addr} {o : HO} (g : Same G G') (nf : ∀ q u, o ≠ .frz q u) : ∀ a q u, upd H p o a = some (.frz q u) → Dct u = true → G' a = some (.frz q u) ∨ ws.lk = some (a, q, u) := fun a q u e hd => by
  by_cases hb : a = p
  · subst hb; rw [upd_same] at e; cases e; exact absurd rfl (nf _ _)
  · rw [upd_ne hb] at e; exact (r.ul a q u e hd).imp (g _ _) id
/-- one new object, frozen -/
theorem Nx.put (s : Sm G H) (r : RelW K C G H ws w) {p : Addr} {o : HO} (hp : H p = none) (no : Nt o := by intro _ h; cases h) (nf : ∀ q u, o ≠ .frz q u := by intro _ _ h; cases h) : Nx K C G H ws (upd G p o) (upd H p o) ws w := by
  have gp : G p = none := s.free hp
  have sg : Same G (upd G p o) := fun b u e => by rw [upd_ne (ne_of_none e gp)]; exact e
  have sh : Same H (upd H p o) := fun b u e => by rw [upd_ne (ne_of_none e hp)]; exact e
  have nc : ∀ a u, H a = some u → Nt u → G a = none → upd G p o a = none := fun a u h _ n => by
    rw [upd_ne (ne_of_none h hp)]
    exact n
  refine ⟨sg, fun b u e => ?_, r.grow sg sh nc (fun b u e => ?_) (ul_upd r sg nf), fun a o e _ _ => e.mono sh, fun a u h nu => ⟨u, sh a u h, nu⟩, fun a u h nu g => .inl (nc a u h nu g), List.prefix_refl _, fun _ h => .inl h, Nat.le_refl _, fun _ => ⟨rfl, fun a _ o e => e.mono sh⟩, Stab.refl _⟩
  · by_cases hb : b = p
    · subst hb; rw [upd_same] at e; exact .inl (by rw [upd_same]; exact e)
    · rw [upd_ne hb] at e; exact (s _ _ e).mono sh
  · by_cases hb : b = p
    · subst hb; rw [upd_same] at e; cases e; exact no
    · rw [upd_ne hb] at e; exact r.nt b u e
/-- one new object, not frozen -/
theorem Nx.new (s : Sm G H) (r : RelW K C G H ws w) {p : Addr} {o : HO} (hp : H p = none) (nf : ∀ q u, o ≠ .frz q u := by intro _ _ h; cases h) : Nx K C G H ws G (upd H p o) ws w := by
  have sh : Same H (upd H p o) := fun b u e => by rw [upd_ne (ne_of_none e hp)]; exact e
  exact ⟨fun _ _ h => h, s.trans sh, r.grow (fun _ _ h => h) sh (fun _ _ _ _ h => h) r.nt (ul_upd r (fun _ _ h => h) nf), fun a o e _ _ => e.mono sh, fun a u h nu => ⟨u, sh a u h, nu⟩, fun _ _ _ _ h => .inl h, List.prefix_refl _, fun _ h => .inl h, Nat.le_refl _, fun _ => ⟨rfl, fun a _ o e => e.mono sh⟩, Stab.refl _⟩
theorem RV.move {v : V} {x : Val} (h : RV K G H ws v x) (n : Nx K C G H ws G' H' ws' w') (hx : x.m = .wd → ws'.n = ws.n) : RV K G' H' ws' v x := by
  unfold RV at h ⊢
  obtain ⟨m, d⟩ := x
  have go : (∃ a, v = .ref a ∧ G a = none ∧ a ∉ regs ws ∧ Unf K G H (io ws) a d) → ∃ a, v = .ref a ∧ G' a = none ∧ a ∉ regs ws' ∧ Unf K G' H' (io ws') a d := by
    rintro ⟨a, e, g, nr, u⟩
    obtain ⟨o, ho, c⟩ := u.there
    obtain ⟨o1, e1, c1⟩ := ho.at' (nt_cont c)
    have kp := n.keep a o ho (nt_cont c) nr
    have gn : G' a = none := by
      rcases n.nocap a o1 e1 c1 g with z | ⟨xs, z⟩
      · exact z
      · rcases kp with kp | ⟨_, q, kp⟩
        · rw [kp] at z; cases z; exact c.elim
        · rw [kp] at z; cases z
    refine ⟨a, e, gn, fun hr => ?_, u.move n.gg n.io fun o' e => n.keep a o' e (ho.nt2 (nt_cont c) e) nr⟩
    rcases n.fresh a hr with z | z
    · exact nr z
    · exact z o1 e1 c1
  cases m with
  | fz => exact Rep.mono n.gg n.io h
  | nw => exact go h
  | bo => exact go h
  | wd =>
    obtain ⟨a, e, g, hr, u⟩ := h
    obtain ⟨e2, k⟩ := n.qt (hx rfl)
    obtain ⟨o, ho, c⟩ := u.there
    obtain ⟨o1, e1, c1⟩ := ho.at' (nt_cont c)
    subst e2
    exact ⟨a, e, n.rw.out a hr, hr, u.move n.gg n.io fun o e' => k a hr o e'⟩
end
/-! ### the state of a body -/
/-- the state at the entry -/
structure En where
  H : Hp
  G : Hp
  ws : Ws
structure St (K : PySem.W.Frag) (C : Ca) (e : En) (σ : L2.St) (H G : Hp) (ws : Ws) (ρ : Env) (w : W) : Prop where
  nx0 : Nx K C e.G e.H e.ws G H ws w
  len : σ.length = ρ.length
  sl : ∀ (i : Nat) x, ρ[i]? = some (some x) → ∃ v, σ[i]? = some (some v) ∧ RV K G H ws v x ∧ (x.m = .fz ∨ x.m = .nw)
  own : ∀ (i : Nat) x a, ρ[i]? = some (some x) → x.m = .nw → σ[i]? = some (some (.ref a)) → Fr e.H a
  ap : ∀ (i j : Nat) x y a, ρ[i]? = some (some x) → ρ[j]? = some (some y) → x.m = .nw → y.m = .nw → σ[i]? = some (some (.ref a)) → σ[j]? = some (some (.ref a)) → i = j
section
variable {K : PySem.W.Frag} {C : Ca} {e : En} {G H G' H' : Hp} {ws ws' : Ws} {w w' : W} {σ : L2.St} {ρ : Env}
theorem St.sub (s : St K C e σ H G ws ρ w) : Sm G H := s.nx0.sub
theorem St.rw (s : St K C e σ H G ws ρ w) : RelW K C G H ws w := s.nx0.rw
theorem St.next (s : St K C e σ H G ws ρ w) (n : Nx K C G H ws G' H' ws' w') : St K C e σ H' G' ws' ρ w' where
  nx0 := s.nx0.trans n
  len := s.len
  sl := fun i x e => by
    obtain ⟨v, h1, h2, h3⟩ := s.sl i x e
    exact ⟨v, h1, h2.move n (fun q => by rcases h3 with z | z <;> rw [z] at q <;> cases q), h3⟩
  own := s.own
  ap := s.ap
theorem St.nx (s : St K C e σ H G ws ρ w) : Nx K C G H ws G H ws w := Nx.refl s.sub s.rw
end
/-! ### what an error is -/
/-- where the classes of errors stand -/
abbrev Cm := String → Option Addr
def XRel (K : PySem.W.Frag) (cm : Cm) (G H : Hp) (ι : List Addr) (x : Xc) (cls : Value) (d : Option Addr) : Prop :=
  ∃ c, cm x.c = some c ∧ cls = .ref c ∧ (x.fs = [] ∧ d = none ∨ x.fs ≠ [] ∧ ∃ dd vfs, d = some dd ∧ H dd = some (.xd vfs) ∧ Paired (fun (p : Str × V) (q : Str × D) => p.1 = q.1 ∧ Rep K G ι p.2 q.2) vfs x.fs)
/-- the parameters of all that follows: the written part, the class of objects, the classes of errors -/
structure Pm where
  K : PySem.W.Frag
  C : Ca
  cm : Cm
def NewOk (H : Hp) (v : V) (x : Val) : Prop := x.m = .nw → ∀ a, v = .ref a → Fr H a
/-- what an expression promises: E: what is wanted of an error -/
def PostE (P : Pm) (E : Value → Option Addr → Hp → Prop) (H G : Hp) (ws : Ws) (Q : VK) : R Val → Prop
  | .ok x w' => ∀ v H' G' ws', Nx P.K P.C G H ws G' H' ws' w' → RV P.K G' H' ws' v x → NewOk H v x → Q v H'
  | .ex x w' => ∀ cls d H' G' ws', Nx P.K P.C G H ws G' H' ws' w' → XRel P.K P.cm G' H' (io ws') x cls d → E cls d H'
  | .bad => False
def PostT (P : Pm) (E : Value → Option Addr → Hp → Prop) (H G : Hp) (ws : Ws) (Q : Bool → Hp → Prop) : R Bool → Prop
  | .ok b w' => ∀ H' G' ws', Nx P.K P.C G H ws G' H' ws' w' → Q b H'
  | .ex x w' => ∀ cls d H' G' ws', Nx P.K P.C G H ws G' H' ws' w' → XRel P.K P.cm G' H' (io ws') x cls d → E cls d H'
  | .bad => False
inductive RVs (K : PySem.W.Frag) (G H : Hp) (ws : Ws) : List V → List Val → Prop
  | nil : RVs K G H ws [] []
  | cons {v : V} {x : Val} {vs : List V} {xs : List Val} : RV K G H ws v x → RVs K G H ws vs xs → RVs K G H ws (v :: vs) (x :: xs)
/-- the new ones stand apart, and are new -/
def NewsOk (H : Hp) : List V → List Val → Prop
  | v :: vs, x :: xs => NewOk H v x ∧ (x.m = .nw → ∀ (i : Nat) y, xs[i]? = some y → y.m = .nw → vs[i]? ≠ some v) ∧ NewsOk H vs xs
  | _, _ => True
def PostA (P : Pm) (E : Value → Option Addr → Hp → Prop) (H G : Hp) (ws : Ws) (Q : List V → Hp → Prop) : R (List Val) → Prop
  | .ok xs w' => ∀ vs H' G' ws', Nx P.K P.C G H ws G' H' ws' w' → RVs P.K G' H' ws' vs xs → NewsOk H vs xs → Q vs H'
  | .ex x w' => ∀ cls d H' G' ws', Nx P.K P.C G H ws G' H' ws' w' → XRel P.K P.cm G' H' (io ws') x cls d → E cls d H'
  | .bad => False
def EvE (P : Pm) (H0 : En) (Wi : WX) (te : TE) (f : DE) : Prop := ∀ σ H G ws ρ w (Q : VK), St P.K P.C H0 σ H G ws ρ w → PostE P (fun c d H' => Wi c d σ H') H G ws Q (f ρ w) → te σ H Q
def EvT (P : Pm) (H0 : En) (Wi : WX) (te : TT) (f : DT) : Prop := ∀ σ H G ws ρ w (Q : Bool → Hp → Prop), St P.K P.C H0 σ H G ws ρ w → PostT P (fun c d H' => Wi c d σ H') H G ws Q (f ρ w) → te σ H Q
def EvA (P : Pm) (H0 : En) (Wi : WX) (te : TA) (f : DA) : Prop := ∀ σ H G ws ρ w (Q : List V → Hp → Prop), St P.K P.C H0 σ H G ws ρ w → PostA P (fun c d H' => Wi c d σ H') H G ws Q (f ρ w) → te σ H Q
end DL
namespace DL
open PySem L2
section
variable {P : Pm} {E : Value → Option Addr → Hp → Prop} {H G H1 G1 : Hp} {ws ws1 : Ws} {w1 : W}
theorem newOk_back {v : V} {x : Val} (n : Nx P.K P.C G H ws G1 H1 ws1 w1) (h : NewOk H1 v x) : NewOk H v x := fun e a ea => by
  have := h e a ea
  intro o q nt
  obtain ⟨o', e', nt'⟩ := n.alive a o q nt
  exact this o' e' nt'
theorem newsOk_back (n : Nx P.K P.C G H ws G1 H1 ws1 w1) : ∀ {vs : List V} {xs : List Val}, NewsOk H1 vs xs → NewsOk H vs xs
  | [], _, _ => trivial
  | _ :: _, [], _ => trivial
  | _ :: _, _ :: _, h => ⟨newOk_back n h.1, h.2.1, newsOk_back n h.2.2⟩
theorem PostE.after {Q : VK} {r : R Val} (n : Nx P.K P.C G H ws G1 H1 ws1 w1) (h : PostE P E H G ws Q r) : PostE P E H1 G1 ws1 Q r := by
  cases r with
  | ok x w => exact fun v H' G' ws' n2 r k => h v H' G' ws' (n.trans n2) r (newOk_back n k)
  | ex x w => exact fun c d H' G' ws' n2 r => h c d H' G' ws' (n.trans n2) r
  | bad => exact h
theorem PostT.after {Q : Bool → Hp → Prop} {r : R Bool} (n : Nx P.K P.C G H ws G1 H1 ws1 w1) (h : PostT P E H G ws Q r) : PostT P E H1 G1 ws1 Q r := by
  cases r with
  | ok x w => exact fun H' G' ws' n2 => h H' G' ws' (n.trans n2)
  | ex x w => exact fun c d H' G' ws' n2 r => h c d H' G' ws' (n.trans n2) r
  | bad => exact h
theorem PostA.after {Q : List V → Hp → Prop} {r : R (List Val)} (n : Nx P.K P.C G H ws G1 H1 ws1 w1) (h : PostA P E H G ws Q r) : PostA P E H1 G1 ws1 Q r := by
  cases r with
  | ok x w => exact fun v H' G' ws' n2 r k => h v H' G' ws' (n.trans n2) r (newsOk_back n k)
  | ex x w => exact fun c d H' G' ws' n2 r => h c d H' G' ws' (n.trans n2) r
  | bad => exact h
end
section
variable {P : Pm} {H0 : En} {Wi : WX} {ta tb tc : TE} {fa fb fc : DE}
/-- go on behind an expression -/
theorem EvE.thn (ha : EvE P H0 Wi ta fa) {σ : L2.St} {H G : Hp} {ws : Ws} {ρ : Env} {w : W} {Q : VK} (st : St P.K P.C H0 σ H G ws ρ w)
    (hx : ∀ x w', fa ρ w = .ex x w' → PostE P (fun c d H' => Wi c d σ H') H G ws Q (.ex x w')) (hb : fa ρ w ≠ .bad)
    (hk : ∀ x w', fa ρ w = .ok x w' → ∀ v H' G' ws', Nx P.K P.C G H ws G' H' ws' w' → RV P.K G' H' ws' v x → NewOk H v x → Q v H') : ta σ H Q := by
  refine ha σ H G ws ρ w Q st ?_
  cases e : fa ρ w with
  | ok x w' => exact hk x w' e
  | ex x w' => exact hx x w' e
  | bad => exact absurd e hb
/-- a two-place operation upon values -/
def ROp (P : Pm) (r : R2) (g : Val → Val → W → R Val) : Prop := ∀ H G ws w vx vy x y (Q : VK), Sm G H → RelW P.K P.C G H ws w → RV P.K G H ws vx x → RV P.K G H ws vy y → PostE P (fun _ _ _ => False) H G ws Q (g x y w) → r vx vy H Q
def RUn (P : Pm) (r : V → Hp → VK → Prop) (g : Val → W → R Val) : Prop := ∀ H G ws w vx x (Q : VK), Sm G H → RelW P.K P.C G H ws w → RV P.K G H ws vx x → PostE P (fun _ _ _ => False) H G ws Q (g x w) → r vx H Q
def RCall (P : Pm) (r : List V → Hp → VK → Prop) (g : List Val → W → R Val) : Prop := ∀ H G ws w vs xs (Q : VK), Sm G H → RelW P.K P.C G H ws w → RVs P.K G H ws vs xs → PostE P (fun _ _ _ => False) H G ws Q (g xs w) → r vs H Q
/-- a field's thing that was seen ahead must stand as it stood -/
def chk {α : Type} (x : Val) (w w' : W) (r : R α) : R α := if x.m = .wd ∧ w'.n ≠ w.n then .bad else r
theorem chk_wd {α : Type} {x : Val} {w w' : W} {r : R α} (h : chk x w w' r ≠ .bad) : (x.m = .wd → w'.n = w.n) ∧ chk x w w' r = r := by
  unfold chk at h ⊢
  by_cases q : x.m = .wd ∧ w'.n ≠ w.n
  · rw [if_pos q] at h; exact absurd rfl h
  · rw [if_neg q]
    exact ⟨fun a => Classical.byContradiction fun b => q ⟨a, b⟩, rfl⟩
theorem PostE.chk {E : Value → Option Addr → Hp → Prop} {H G : Hp} {ws : Ws} {Q : VK} {x : Val} {w w' : W} {r : R Val} (h : PostE P E H G ws Q (DL.chk x w w' r)) : (x.m = .wd → w'.n = w.n) ∧ PostE P E H G ws Q r := by
  have hb : DL.chk x w w' r ≠ .bad := fun e => by rw [e] at h; exact h
  obtain ⟨a, b⟩ := chk_wd hb
  rw [b] at h
  exact ⟨a, h⟩
theorem PostA.chk {E : Value → Option Addr → Hp → Prop} {H G : Hp} {ws : Ws} {Q : List V → Hp → Prop} {x : Val} {w w' : W} {r : R (List Val)} (h : PostA P E H G ws Q (DL.chk x w w' r)) : (x.m = .wd → w'.n = w.n) ∧ PostA P E H G ws Q r := by
  have hb : DL.chk x w w' r ≠ .bad := fun e => by rw [e] at h; exact h
  obtain ⟨a, b⟩ := chk_wd hb
  rw [b] at h
  exact ⟨a, h⟩
theorem Nx.same {K : PySem.W.Frag} {C : Ca} {G H G' H' : Hp} {ws ws' : Ws} {w w' : W} (r : RelW K C G H ws w) (n : Nx K C G H ws G' H' ws' w') (h : w'.n = w.n) : ws'.n = ws.n := by rw [← r.nn, ← n.rw.nn]; exact h
def dOp (g : Val → Val → W → R Val) (fa fb : DE) : DE := fun ρ w => (fa ρ w).bind fun x w1 => (fb ρ w1).bind fun y w2 => chk x w1 w2 (g x y w2)
def dUn (g : Val → W → R Val) (fa : DE) : DE := fun ρ w => (fa ρ w).bind fun x w => g x w
def dCB (g : List Val → W → R Val) (fa : DA) : DE := fun ρ w => (fa ρ w).bind fun x w => g x w
theorem PostE.noex {E E' : Value → Option Addr → Hp → Prop} {H G : Hp} {ws : Ws} {Q : VK} {r : R Val} (h : PostE P E H G ws Q r) (n : ∀ x w, r ≠ .ex x w) : PostE P E' H G ws Q r := by
  cases r with
  | ok x w => exact h
  | ex x w => exact absurd rfl (n x w)
  | bad => exact h
theorem ev_op {r : R2} {g : Val → Val → W → R Val} (ha : EvE P H0 Wi ta fa) (hb : EvE P H0 Wi tb fb) (hr : ROp P r g) (hn : ∀ x y w e w', g x y w ≠ .ex e w') : EvE P H0 Wi (tOp r ta tb) (dOp g fa fb) := by
  intro σ H G ws ρ w Q st h
  unfold dOp at h
  refine ha σ H G ws ρ w _ st ?_
  cases e : fa ρ w with
  | bad => rw [e] at h; exact h
  | ex x w' => rw [e] at h; exact h
  | ok x w' =>
    intro v H1 G1 ws1 n1 r1 k1
    rw [e] at h
    have h : PostE P _ H G ws Q ((fb ρ w').bind fun y w2 => chk x w' w2 (g x y w2)) := h
    refine hb σ H1 G1 ws1 ρ w' _ (st.next n1) ?_
    cases e2 : fb ρ w' with
    | bad => rw [e2] at h; exact h
    | ex y w2 => rw [e2] at h; exact PostE.after n1 h
    | ok y w2 =>
      intro v2 H2 G2 ws2 n2 r2 k2
      rw [e2] at h
      obtain ⟨hx, h⟩ := PostE.chk h
      exact hr H2 G2 ws2 w2 v v2 x y Q n2.sub n2.rw (r1.move n2 fun z => n2.same n1.rw (hx z)) r2 ((PostE.after (n1.trans n2) h).noex fun _ _ => hn _ _ _ _ _)
theorem ev_un {r : V → Hp → VK → Prop} {g : Val → W → R Val} (ha : EvE P H0 Wi ta fa) (hr : RUn P r g) (hn : ∀ x w e w', g x w ≠ .ex e w') : EvE P H0 Wi (tUn r ta) (dUn g fa) := by
  intro σ H G ws ρ w Q st h
  unfold dUn at h
  refine ha σ H G ws ρ w _ st ?_
  cases e : fa ρ w with
  | bad => rw [e] at h; exact h
  | ex x w' => rw [e] at h; exact h
  | ok x w' =>
    intro v H1 G1 ws1 n1 r1 k1
    rw [e] at h
    exact hr H1 G1 ws1 w' v x Q n1.sub n1.rw r1 ((PostE.after n1 h).noex fun _ _ => hn _ _ _ _)
theorem ev_cb {r : List V → Hp → VK → Prop} {g : List Val → W → R Val} {ta : TA} {fa : DA} (ha : EvA P H0 Wi ta fa) (hr : RCall P r g) (hn : ∀ x w e w', g x w ≠ .ex e w') : EvE P H0 Wi (tCB r ta) (dCB g fa) := by
  intro σ H G ws ρ w Q st h
  unfold dCB at h
  refine ha σ H G ws ρ w _ st ?_
  cases e : fa ρ w with
  | bad => rw [e] at h; exact h
  | ex x w' => rw [e] at h; exact h
  | ok x w' =>
    intro v H1 G1 ws1 n1 r1 k1
    rw [e] at h
    exact hr H1 G1 ws1 w' v x Q n1.sub n1.rw r1 ((PostE.after n1 h).noex fun _ _ => hn _ _ _ _)
/-! names, constants -/
def dVar (i : Nat) : DE := fun ρ w => match ρ[i]? with
  | some (some x) => .ok ⟨if x.m = .nw then .bo else x.m, x.d⟩ w
  | _ => .bad
theorem fz_nw {H : Hp} {v : V} {d : D} : NewOk H v (fz d) := fun z => by cases z
def dC (d : D) : DE := fun _ w => .ok (fz d) w
theorem ev_var {i : Nat} : EvE P H0 Wi (tVar i) (dVar i) := by
  intro σ H G ws ρ w Q st h
  unfold dVar at h
  cases e : ρ[i]? with
  | none => rw [e] at h; exact h.elim
  | some o =>
    cases o with
    | none => rw [e] at h; exact h.elim
    | some x =>
      rw [e] at h
      obtain ⟨v, h1, h2, h3⟩ := st.sl i x e
      refine ⟨v, h1, h v H G ws st.nx ?_ ?_⟩
      · rcases h3 with z | z
        · rw [if_neg (by rw [z]; decide)]; exact h2
        · rw [if_pos z]
          unfold RV at h2 ⊢
          rw [z] at h2
          exact h2
      · intro q
        exfalso
        have q : (if x.m = .nw then Md.bo else x.m) = .nw := q
        rcases h3 with z | z
        · rw [if_neg (by rw [z]; decide), z] at q; cases q
        · rw [if_pos z] at q; cases q
theorem ev_c {v : V} {d : D} (h : ∀ G ι, Rep P.K G ι v d) : EvE P H0 Wi (tC v) (dC d) := fun σ H G ws ρ w Q st k => k v H G ws st.nx (h _ _) fz_nw
theorem ev_int {i : Int} : EvE P H0 Wi (tC (.int i)) (dC (.int i)) := ev_c fun _ _ => .int i
theorem ev_bl {i : Bool} : EvE P H0 Wi (tC (.bl i)) (dC (.bl i)) := ev_c fun _ _ => .bl i
theorem ev_str {i : Str} : EvE P H0 Wi (tC (.str i)) (dC (.str i)) := ev_c fun _ _ => .str i
theorem ev_non : EvE P H0 Wi (tC .non) (dC .non) := ev_c fun _ _ => .non
/-! ints -/
theorem fz_q {H G : Hp} {ws : Ws} {w : W} {Q : VK} {v : V} {d : D} {E : Value → Option Addr → Hp → Prop} (s : Sm G H) (r : RelW P.K P.C G H ws w) (h : PostE P E H G ws Q (.ok (fz d) w)) (k : Rep P.K G (io ws) v d) : Q v H := h v H G ws (Nx.refl s r) k fz_nw
def gI (c : Int → Int → Prop) [∀ i j, Decidable (c i j)] (g : Int → Int → D) : Val → Val → W → R Val := fun x y w => match x.d, y.d with
  | .int i, .int j => if c i j then .ok (fz (g i j)) w else .bad
  | _, _ => .bad
/-- the value seen as an int -/
theorem rv_int {K : PySem.W.Frag} {G H : Hp} {ws : Ws} {v : V} {m : Md} {i : Int} (h : RV K G H ws v ⟨m, .int i⟩) : v = .int i := by
  unfold RV at h
  cases m with
  | fz => cases h; rfl
  | nw => obtain ⟨a, _, _, _, u⟩ := h; cases u
  | bo => obtain ⟨a, _, _, _, u⟩ := h; cases u
  | wd => obtain ⟨a, _, _, _, u⟩ := h; cases u
theorem rv_str {K : PySem.W.Frag} {G H : Hp} {ws : Ws} {v : V} {m : Md} {i : Str} (h : RV K G H ws v ⟨m, .str i⟩) : v = .str i := by
  unfold RV at h
  cases m with
  | fz => cases h; rfl
  | nw => obtain ⟨a, _, _, _, u⟩ := h; cases u
  | bo => obtain ⟨a, _, _, _, u⟩ := h; cases u
  | wd => obtain ⟨a, _, _, _, u⟩ := h; cases u
theorem rv_bl {K : PySem.W.Frag} {G H : Hp} {ws : Ws} {v : V} {m : Md} {i : Bool} (h : RV K G H ws v ⟨m, .bl i⟩) : v = .bl i := by
  unfold RV at h
  cases m with
  | fz => cases h; rfl
  | nw => obtain ⟨a, _, _, _, u⟩ := h; cases u
  | bo => obtain ⟨a, _, _, _, u⟩ := h; cases u
  | wd => obtain ⟨a, _, _, _, u⟩ := h; cases u
theorem rv_non {K : PySem.W.Frag} {G H : Hp} {ws : Ws} {v : V} {m : Md} (h : RV K G H ws v ⟨m, .non⟩) : v = .non := by
  unfold RV at h
  cases m with
  | fz => cases h; rfl
  | nw => obtain ⟨a, _, _, _, u⟩ := h; cases u
  | bo => obtain ⟨a, _, _, _, u⟩ := h; cases u
  | wd => obtain ⟨a, _, _, _, u⟩ := h; cases u
theorem rv_tup {K : PySem.W.Frag} {G H : Hp} {ws : Ws} {v : V} {m : Md} {ds : List D} (s : Sm G H) (h : RV K G H ws v ⟨m, .tup ds⟩) : ∃ a vs, v = .ref a ∧ SqT K G a vs ∧ SqT K H a vs ∧ Reps K G (io ws) vs ds := by
  unfold RV at h
  cases m with
  | fz => cases h with | tup q r => exact ⟨_, _, rfl, q, s.sqT q, r⟩
  | nw => obtain ⟨a, _, _, _, u⟩ := h; cases u
  | bo => obtain ⟨a, _, _, _, u⟩ := h; cases u
  | wd => obtain ⟨a, _, _, _, u⟩ := h; cases u
theorem rv_lst {K : PySem.W.Frag} {G H : Hp} {ws : Ws} {v : V} {m : Md} {ds : List D} (s : Sm G H) (h : RV K G H ws v ⟨m, .lst ds⟩) : ∃ a vs, v = .ref a ∧ H a = some (.lst vs) ∧ Reps K G (io ws) vs ds := by
  unfold RV at h
  cases m with
  | fz => cases h with | lst q r => exact ⟨_, _, rfl, s.eq q, r⟩
  | nw => obtain ⟨a, e, _, _, u⟩ := h; cases u with | lst q r => exact ⟨a, _, e, q, r⟩
  | bo => obtain ⟨a, e, _, _, u⟩ := h; cases u with | lst q r => exact ⟨a, _, e, q, r⟩
  | wd => obtain ⟨a, e, _, _, u⟩ := h; cases u with | lst q r => exact ⟨a, _, e, q, r⟩
theorem rop_I {c : Int → Int → Prop} [∀ i j, Decidable (c i j)] {g : Int → Int → V} {gd : Int → Int → D} (hr : ∀ i j K G ι, Rep K G ι (g i j) (gd i j)) : ROp P (rI c g) (gI c gd) := by
  intro H G ws w vx vy x y Q s r hx hy h
  obtain ⟨m, d⟩ := x
  obtain ⟨m2, d2⟩ := y
  cases d <;> try exact h.elim
  cases d2 <;> try exact h.elim
  rename_i i j
  have ex := rv_int hx
  have ey := rv_int hy
  subst ex ey
  have h : PostE P _ H G ws Q (if c i j then .ok (fz (gd i j)) w else .bad) := h
  by_cases hc : c i j
  · rw [if_pos hc] at h
    exact ⟨i, j, rfl, rfl, hc, fz_q s r h (hr i j _ _ _)⟩
  · rw [if_neg hc] at h
    exact h.elim
def gI0 (g : Int → Int → D) : Val → Val → W → R Val := fun x y w => match x.d, y.d with
  | .int i, .int j => .ok (fz (g i j)) w
  | _, _ => .bad
theorem rop_I0 {g : Int → Int → V} {gd : Int → Int → D} (hr : ∀ i j K G ι, Rep K G ι (g i j) (gd i j)) : ROp P (rI0 g) (gI0 gd) := by
  intro H G ws w vx vy x y Q s r hx hy h
  obtain ⟨m, d⟩ := x
  obtain ⟨m2, d2⟩ := y
  cases d <;> try exact h.elim
  cases d2 <;> try exact h.elim
  rename_i i j
  have ex := rv_int hx
  have ey := rv_int hy
  subst ex ey
  exact ⟨i, j, rfl, rfl, fz_q s r h (hr i j _ _ _)⟩
theorem gI_nx {c : Int → Int → Prop} [∀ i j, Decidable (c i j)] {g : Int → Int → D} (x y : Val) (w : W) (e : Xc) (w' : W) : gI c g x y w ≠ .ex e w' := by
  unfold gI
  split
  · split <;> exact fun h => nomatch h
  · exact fun h => nomatch h
theorem gI0_nx {g : Int → Int → D} (x y : Val) (w : W) (e : Xc) (w' : W) : gI0 g x y w ≠ .ex e w' := by
  unfold gI0
  split <;> exact fun h => nomatch h
end
end DL
namespace DL
open PySem L2
section
variable {P : Pm}
/-- the plain data that == looks through: no dict, no object; at most n deep -/
def plN : Nat → D → Bool
  | _, .non | _, .bl _ | _, .int _ => true
  | _, .str x => PyData.strOk x
  | 0, _ => false
  | n + 1, .tup xs | n + 1, .lst xs => xs.all (plN n)
  | _ + 1, .scr _ => true
  | _, _ => false
def pl (d : D) : Bool := plN 10 d
mutual
def toP : D → PyData
  | .non => .none
  | .bl b => .bool b
  | .int i => .int i
  | .str x => .str x
  | .tup xs => .tuple (toPs xs)
  | .lst xs => .list (toPs xs)
  | .scr ns => .list (ns.map .int)
  | .dK _ => .none
  | .dT _ => .none
  | .obj _ => .none
  | .exc _ => .none
def toPs : List D → List PyData
  | [] => []
  | d :: ds => toP d :: toPs ds
end
theorem dpAll_ints {K : PySem.W.Frag} {H : Hp} : ∀ ns : List Int, DpAll K H (ns.map V.int) (ns.map .int)
  | [] => .nil
  | n :: r => .cons (.int n) (dpAll_ints r)
theorem pl_dp {K : PySem.W.Frag} {G H : Hp} {ι : List Addr} (s : Sm G H) : ∀ (n : Nat) {v : V} {d : D}, Rep K G ι v d → plN n d = true → Dp K H v (toP d) ∧ (toP d).canLay0 = true ∧ (toP d).depth ≤ n := by
  intro n
  induction n with
  | zero =>
    intro v d r h
    cases r with
    | non => exact ⟨.non, rfl, Nat.le_refl _⟩
    | bl b => exact ⟨.bl b, rfl, Nat.le_refl _⟩
    | int b => exact ⟨.int b, rfl, Nat.le_refl _⟩
    | str b => exact ⟨.str b, by simpa [plN, toP, PyData.canLay0] using h, Nat.le_refl _⟩
    | tup _ _ => simp [plN] at h
    | lst _ _ => simp [plN] at h
    | scr _ => simp [plN] at h
    | dK _ _ _ => simp [plN] at h
    | dT _ _ _ => simp [plN] at h
    | obj _ => simp [plN] at h
    | exc => simp [plN] at h
  | succ n ih =>
    intro v d r h
    have go : ∀ {vs : List V} {ds : List D}, Reps K G ι vs ds → ds.all (plN n) = true → DpAll K H vs (toPs ds) ∧ PyData.canLayAll0 (toPs ds) = true ∧ PyData.depthAll (toPs ds) ≤ n := by
      intro vs ds r
      induction ds generalizing vs with
      | nil => intro _; cases r; exact ⟨.nil, rfl, Nat.zero_le _⟩
      | cons d ds ih2 =>
        intro h
        cases r with
        | cons r1 r2 =>
          rw [List.all_cons, Bool.and_eq_true] at h
          obtain ⟨a1, a2, a3⟩ := ih r1 h.1
          obtain ⟨b1, b2, b3⟩ := ih2 r2 h.2
          refine ⟨.cons a1 b1, ?_, ?_⟩
          · simp [toPs, PyData.canLayAll0, a2, b2]
          · simp [toPs, PyData.depthAll]; omega
    cases r with
    | non => exact ⟨.non, rfl, Nat.zero_le _⟩
    | bl b => exact ⟨.bl b, rfl, Nat.zero_le _⟩
    | int b => exact ⟨.int b, rfl, Nat.zero_le _⟩
    | str b => exact ⟨.str b, by simpa [plN, toP, PyData.canLay0] using h, Nat.zero_le _⟩
    | tup q r =>
      obtain ⟨b1, b2, b3⟩ := go r (by simpa [plN] using h)
      exact ⟨.tup (s.sqT q) b1, by simpa [toP, PyData.canLay0] using b2, by simp [toP, PyData.depth]; omega⟩
    | lst q r =>
      obtain ⟨b1, b2, b3⟩ := go r (by simpa [plN] using h)
      exact ⟨.lst (SqL.of (s.eq q)) b1, by simpa [toP, PyData.canLay0] using b2, by simp [toP, PyData.depth]; omega⟩
    | @scr a ns q =>
      refine ⟨.lst (s.seq q) (dpAll_ints ns), ?_, ?_⟩
      · have : ∀ l : List Int, PyData.canLayAll0 (l.map .int) = true := by
          intro l
          induction l with
          | nil => rfl
          | cons a l ih => simp [PyData.canLayAll0, PyData.canLay0, ih]
        simpa [toP, PyData.canLay0] using this ns
      · have : ∀ l : List Int, PyData.depthAll (l.map .int) = 0 := by
          intro l
          induction l with
          | nil => rfl
          | cons a l ih => simp [PyData.depthAll, PyData.depth, ih]
        simp [toP, PyData.depth, this]
    | dK _ _ _ => simp [plN] at h
    | dT _ _ _ => simp [plN] at h
    | obj _ => simp [plN] at h
    | exc => simp [plN] at h
theorem reps_pl {K : PySem.W.Frag} {G H : Hp} {ι : List Addr} (s : Sm G H) {n : Nat} : ∀ {vs : List V} {ds : List D}, Reps K G ι vs ds → ds.all (plN n) = true → DpAll K H vs (toPs ds) ∧ PyData.canLayAll0 (toPs ds) = true ∧ PyData.depthAll (toPs ds) ≤ n
  | _, _, .nil, _ => ⟨.nil, rfl, Nat.zero_le _⟩
  | _, _, .cons r1 r2, h => by
    rw [List.all_cons, Bool.and_eq_true] at h
    obtain ⟨a1, a2, a3⟩ := pl_dp s n r1 h.1
    obtain ⟨b1, b2, b3⟩ := reps_pl s r2 h.2
    refine ⟨.cons a1 b1, ?_, ?_⟩
    · simp [toPs, PyData.canLayAll0, a2, b2]
    · simp [toPs, PyData.depthAll]; omega
/-- a value of any standing, as == sees it -/
theorem rv_dp {K : PySem.W.Frag} {G H : Hp} {ws : Ws} {v : V} {x : Val} (s : Sm G H) (h : RV K G H ws v x) (p : pl x.d = true) : Dp K H v (toP x.d) ∧ SeqAt.shaped (toP x.d) = true := by
  obtain ⟨m, d⟩ := x
  have fin : Dp K H v (toP d) ∧ (toP d).canLay0 = true ∧ (toP d).depth ≤ 10 → Dp K H v (toP d) ∧ SeqAt.shaped (toP d) = true := fun ⟨a, b, c⟩ => ⟨a, by
    unfold SeqAt.shaped
    rw [b, Bool.true_and]
    exact decide_eq_true (by omega)⟩
  have un : (∃ a, v = .ref a ∧ Unf K G H (io ws) a d) → Dp K H v (toP d) ∧ SeqAt.shaped (toP d) = true := by
    rintro ⟨a, rfl, u⟩
    have p : plN 10 d = true := p
    cases u with
    | lst q r =>
      obtain ⟨b1, b2, b3⟩ := reps_pl s (n := 9) r (by simpa [plN] using p)
      exact fin ⟨.lst (SqL.of q) b1, by simpa [toP, PyData.canLay0] using b2, by simp [toP, PyData.depth]; omega⟩
    | dK _ _ _ => simp [plN] at p
    | dT _ _ _ => simp [plN] at p
  unfold RV at h
  cases m with
  | fz => exact fin (pl_dp s 10 h p)
  | nw => obtain ⟨a, e, _, _, u⟩ := h; exact un ⟨a, e, u⟩
  | bo => obtain ⟨a, e, _, _, u⟩ := h; exact un ⟨a, e, u⟩
  | wd => obtain ⟨a, e, _, _, u⟩ := h; exact un ⟨a, e, u⟩
mutual
/-- == -/
def eqD : D → D → Bool
  | .non, .non => true
  | .bl a, .bl b => a == b
  | .bl a, .int j => (if a then 1 else 0) == j
  | .int i, .bl b => i == (if b then 1 else 0)
  | .int i, .int j => i == j
  | .str x, .str y => x == y
  | .lst xs, .lst ys => eqDs xs ys
  | .tup xs, .tup ys => eqDs xs ys
  | .scr ns, .scr ms => ns == ms
  | .scr ns, .lst ys => PyData.eqvAll (ns.map .int) (toPs ys)
  | .lst xs, .scr ms => PyData.eqvAll (toPs xs) (ms.map .int)
  | _, _ => false
def eqDs : List D → List D → Bool
  | [], [] => true
  | x :: xs, y :: ys => eqD x y && eqDs xs ys
  | _, _ => false
end
theorem toPs_ints : ∀ ns : List Int, toPs (ns.map .int) = ns.map .int
  | [] => rfl
  | n :: r => by rw [List.map_cons, List.map_cons, toPs, toPs_ints r]; rfl
theorem eqv_ints : ∀ ns ms : List Int, PyData.eqvAll (ns.map .int) (ms.map .int) = (ns == ms)
  | [], [] => rfl
  | [], _ :: _ => rfl
  | _ :: _, [] => rfl
  | n :: r, m :: q => by
    simp only [List.map_cons, PyData.eqvAll, PyData.eqv, eqv_ints r q]
    rfl
/-- a well-founded look at plain data -/
theorem eqD_of : ∀ (n : Nat) (x y : D), plN n x = true → plN n y = true → PyData.eqv (toP x) (toP y) = eqD x y := by
  intro n
  induction n with
  | zero =>
    intro x y hx hy
    cases x <;> (try simp [plN] at hx) <;> cases y <;> (try simp [plN] at hy) <;> first | rfl | (simp only [toP, PyData.eqv, eqD])
  | succ n ih =>
    have go : ∀ xs ys : List D, xs.all (plN n) = true → ys.all (plN n) = true → PyData.eqvAll (toPs xs) (toPs ys) = eqDs xs ys := by
      intro xs
      induction xs with
      | nil => intro ys _ _; cases ys <;> simp only [toPs, PyData.eqvAll, eqDs]
      | cons x xs ih2 =>
        intro ys hx hy
        rw [List.all_cons, Bool.and_eq_true] at hx
        cases ys with
        | nil => simp only [toPs, PyData.eqvAll, eqDs]
        | cons y ys =>
          rw [List.all_cons, Bool.and_eq_true] at hy
          simp only [toPs, PyData.eqvAll, eqDs, ih x y hx.1 hy.1, ih2 ys hx.2 hy.2]
    have hi : ∀ ns : List Int, (ns.map D.int).all (plN n) = true := fun ns => by
      rw [List.all_map]
      apply List.all_eq_true.mpr
      intro a _
      cases n <;> rfl
    intro x y hx hy
    cases x <;> (try (exfalso; simp [plN] at hx; done)) <;> cases y <;> (try (exfalso; simp [plN] at hy; done)) <;> first
      | rfl
      | (simp only [toP, PyData.eqv, eqD]; done)
      | (simp only [toP, PyData.eqv, eqD]; exact go _ _ (by simpa [plN] using hx) (by simpa [plN] using hy))
      | (simp only [toP, PyData.eqv, eqD]; rw [← toPs_ints]; exact go _ _ (by simpa [plN] using hx) (hi _))
      | (simp only [toP, PyData.eqv, eqD]; rw [← toPs_ints]; exact go _ _ (hi _) (by simpa [plN] using hy))
      | (simp only [toP, PyData.eqv, eqD]; exact eqv_ints _ _)
def gEq (neg : Bool) : Val → Val → W → R Val := fun x y w => if pl x.d && pl y.d then .ok (fz (.bl (neg != eqD x.d y.d))) w else .bad
theorem gEq_nx {neg : Bool} (x y : Val) (w : W) (e : Xc) (w' : W) : gEq neg x y w ≠ .ex e w' := by
  unfold gEq
  split <;> exact fun h => nomatch h
theorem rop_eq : ROp P (rEqD P.K) (gEq false) := by
  intro H G ws w vx vy x y Q s r hx hy h
  unfold gEq at h
  split at h
  · rename_i hp
    rw [Bool.and_eq_true] at hp
    obtain ⟨a1, a2⟩ := rv_dp s hx hp.1
    obtain ⟨b1, b2⟩ := rv_dp s hy hp.2
    refine ⟨_, _, a1, b1, a2, b2, ?_⟩
    rw [eqD_of 10 _ _ hp.1 hp.2]
    exact fz_q s r h (by simpa using Rep.bl _)
  · exact h.elim
theorem rop_ne : ROp P (rNeD P.K) (gEq true) := by
  intro H G ws w vx vy x y Q s r hx hy h
  unfold gEq at h
  split at h
  · rename_i hp
    rw [Bool.and_eq_true] at hp
    obtain ⟨a1, a2⟩ := rv_dp s hx hp.1
    obtain ⟨b1, b2⟩ := rv_dp s hy hp.2
    refine ⟨_, _, a1, b1, a2, b2, ?_⟩
    rw [eqD_of 10 _ _ hp.1 hp.2]
    exact fz_q s r h (by simpa using Rep.bl _)
  · exact h.elim
end
end DL
namespace DL
open PySem L2
section
variable {P : Pm} {H0 : En} {Wi : WX}
noncomputable instance (i j : Int) : Decidable (CMul i j) := Classical.propDecidable _
noncomputable instance (i j : Int) : Decidable (CDivW i j) := Classical.propDecidable _
noncomputable instance (i j : Int) : Decidable (CPow i j) := Classical.propDecidable _
/-- bounds that nothing is to count up to: a range's, a repeated list's -/
def RO (j : Int) : Prop := -(2 ^ 62) ≤ j ∧ j < 2 ^ 62
noncomputable instance (j : Int) : Decidable (RO j) := Classical.propDecidable _
def RO2 (i j : Int) : Prop := -(2 ^ 62) ≤ i ∧ i < 2 ^ 62 ∧ -(2 ^ 62) ≤ j ∧ j < 2 ^ 62
noncomputable instance (i j : Int) : Decidable (RO2 i j) := Classical.propDecidable _
def ROm (n : Nat) (k : Int) : Prop := -(2 ^ 63) ≤ k ∧ k < 2 ^ 63 ∧ n * k.toNat ≤ sizeLine
noncomputable instance (n : Nat) (k : Int) : Decidable (ROm n k) := Classical.propDecidable _
/-- a new list handed on -/
theorem nw_q {H G : Hp} {ws : Ws} {w : W} {Q : VK} {p : Addr} {vs : List V} {ds : List D} {E : Value → Option Addr → Hp → Prop} (s : Sm G H) (r : RelW P.K P.C G H ws w) (h : PostE P E H G ws Q (.ok ⟨.nw, .lst ds⟩ w)) (hp : H p = none) (k : Reps P.K G (io ws) vs ds) : Q (.ref p) (upd H p (.lst vs)) := by
  refine h (.ref p) (upd H p (.lst vs)) G ws (Nx.new s r hp) ?_ (fun _ a e => by cases e; exact Fr.of hp)
  refine ⟨p, rfl, s.free hp, fun hr => ?_, .lst upd_same k⟩
  obtain ⟨o, e, _⟩ := reg_there r hr
  rw [hp] at e; cases e
/-- a new tuple, frozen at once -/
theorem tup_q {H G : Hp} {ws : Ws} {w : W} {Q : VK} {p : Addr} {vs : List V} {ds : List D} {E : Value → Option Addr → Hp → Prop} (s : Sm G H) (r : RelW P.K P.C G H ws w) (h : PostE P E H G ws Q (.ok (fz (.tup ds)) w)) (hp : H p = none) (k : Reps P.K G (io ws) vs ds) : Q (.ref p) (upd H p (.tup vs)) := by
  have n := Nx.put s r (o := .tup vs) hp
  exact h (.ref p) (upd H p (.tup vs)) (upd G p (.tup vs)) ws n (.tup (.inl (.inl upd_same)) (k.mono n.gg (List.prefix_refl _))) fz_nw
/-- + -/
def gAdd : Val → Val → W → R Val := fun x y w => match x.d, y.d with
  | .int i, .int j => .ok (fz (.int (i + j))) w
  | .str a, .str b => if a.length + b.length ≤ sizeLine then .ok (fz (.str (a ++ b))) w else .bad
  | .lst xs, .lst ys => if xs.length + ys.length ≤ sizeLine then .ok ⟨.nw, .lst (xs ++ ys)⟩ w else .bad
  | .tup xs, .tup ys => if xs.isEmpty = false ∧ xs.length + ys.length ≤ sizeLine then .ok (fz (.tup (xs ++ ys))) w else .bad
  | _, _ => .bad
theorem gAdd_nx (x y : Val) (w : W) (e : Xc) (w' : W) : gAdd x y w ≠ .ex e w' := by
  unfold gAdd
  split <;> (try split) <;> exact fun h => nomatch h
def rAddA (K : PySem.W.Frag) : R2 := fun x y H Q => (rI0 (fun i j => .int (i + j))) x y H Q ∨ (fun x y H Q => ∃ i j, x = .str i ∧ y = .str j ∧ i.length + j.length ≤ sizeLine ∧ Q (.str (i ++ j)) H) x y H Q ∨ rCat x y H Q ∨ rCatT K x y H Q
theorem op_addA {X : Cx} : OpR X (binaryOp .Add) (rAddA X.K) := op_add.or (op_add_str.or (op_cat.or op_catT))
theorem Reps.nil_iff {K : PySem.W.Frag} {G : Hp} {ι : List Addr} {vs : List V} {ds : List D} (h : Reps K G ι vs ds) : vs = [] ↔ ds = [] := by
  cases h <;> simp
theorem rop_add : ROp P (rAddA P.K) gAdd := by
  intro H G ws w vx vy x y Q s r hx hy h
  obtain ⟨m, d⟩ := x
  obtain ⟨m2, d2⟩ := y
  cases d <;> try exact h.elim
  · cases d2 <;> try exact h.elim
    rename_i i j
    have ex := rv_int hx
    have ey := rv_int hy
    subst ex ey
    exact .inl ⟨i, j, rfl, rfl, fz_q s r h (.int _)⟩
  · cases d2 <;> try exact h.elim
    rename_i a b
    have ex := rv_str hx
    have ey := rv_str hy
    subst ex ey
    have h : PostE P _ H G ws Q (if a.length + b.length ≤ sizeLine then .ok (fz (.str (a ++ b))) w else .bad) := h
    split at h
    · rename_i hl
      exact .inr (.inl ⟨a, b, rfl, rfl, hl, fz_q s r h (.str _)⟩)
    · exact h.elim
  · cases d2 <;> try exact h.elim
    rename_i xs ys
    obtain ⟨a, vs, rfl, _, q1, r1⟩ := rv_tup s hx
    obtain ⟨b, us, rfl, _, q2, r2⟩ := rv_tup s hy
    have h : PostE P _ H G ws Q (if xs.isEmpty = false ∧ xs.length + ys.length ≤ sizeLine then .ok (fz (.tup (xs ++ ys))) w else .bad) := h
    split at h
    · rename_i hl
      refine .inr (.inr (.inr ⟨a, b, vs, us, rfl, rfl, q1, q2, fun z => ?_, by rw [r1.length, r2.length]; exact hl.2, ?_⟩))
      · rw [r1.nil_iff.mp z] at hl; simp at hl
      · first
          | exact ⟨fun z => fz_q s r h (by rw [r2.nil_iff.mp z, List.append_nil]; exact (by unfold RV at hx; cases m <;> first | exact hx | (obtain ⟨_, _, _, _, u⟩ := hx; cases u) )), fun _ p hp => tup_q s r h hp (r1.append r2)⟩
          | skip
    · exact h.elim
  · cases d2 <;> try exact h.elim
    rename_i xs ys
    obtain ⟨a, vs, rfl, q1, r1⟩ := rv_lst s hx
    obtain ⟨b, us, rfl, q2, r2⟩ := rv_lst s hy
    have h : PostE P _ H G ws Q (if xs.length + ys.length ≤ sizeLine then .ok ⟨.nw, .lst (xs ++ ys)⟩ w else .bad) := h
    split at h
    · rename_i hl
      exact .inr (.inr (.inl ⟨a, b, vs, us, rfl, rfl, q1, q2, by rw [r1.length, r2.length]; exact hl, fun p hp => nw_q s r h hp (r1.append r2)⟩))
    · exact h.elim
end
end DL
namespace DL
open PySem L2
section
variable {P : Pm} {H0 : En} {Wi : WX}
/-- * -/
noncomputable def gMul : Val → Val → W → R Val := fun x y w => match x.d, y.d with
  | .int i, .int j => if CMul i j then .ok (fz (.int (i * j))) w else .bad
  | .lst xs, .int k => if ROm xs.length k then .ok ⟨.nw, .lst (List.replicate k.toNat xs).flatten⟩ w else .bad
  | _, _ => .bad
theorem gMul_nx (x y : Val) (w : W) (e : Xc) (w' : W) : gMul x y w ≠ .ex e w' := by
  unfold gMul
  split <;> (try split) <;> exact fun h => nomatch h
def rMulA : R2 := fun x y H Q => (rI CMul (fun i j => .int (i * j))) x y H Q ∨ rRep x y H Q
theorem op_mulA {X : Cx} : OpR X (binaryOp .Mult) rMulA := op_mul.or op_rep
theorem Reps.rep {K : PySem.W.Frag} {G : Hp} {ι : List Addr} {vs : List V} {ds : List D} (h : Reps K G ι vs ds) : ∀ k : Nat, Reps K G ι (List.replicate k vs).flatten (List.replicate k ds).flatten
  | 0 => .nil
  | k + 1 => by rw [List.replicate_succ, List.replicate_succ, List.flatten_cons, List.flatten_cons]; exact h.append (Reps.rep h k)
theorem rop_mul : ROp P rMulA gMul := by
  intro H G ws w vx vy x y Q s r hx hy h
  obtain ⟨m, d⟩ := x
  obtain ⟨m2, d2⟩ := y
  cases d <;> try exact h.elim
  · cases d2 <;> try exact h.elim
    rename_i i j
    have ex := rv_int hx
    have ey := rv_int hy
    subst ex ey
    have h : PostE P _ H G ws Q (if CMul i j then .ok (fz (.int (i * j))) w else .bad) := h
    split at h
    · rename_i hc
      exact .inl ⟨i, j, rfl, rfl, hc, fz_q s r h (.int _)⟩
    · exact h.elim
  · cases d2 <;> try exact h.elim
    rename_i xs k
    obtain ⟨a, vs, rfl, q1, r1⟩ := rv_lst s hx
    have ey := rv_int hy
    subst ey
    have h : PostE P _ H G ws Q (if ROm xs.length k then .ok ⟨.nw, .lst (List.replicate k.toNat xs).flatten⟩ w else .bad) := h
    split at h
    · rename_i hc
      exact .inr ⟨a, k, vs, rfl, rfl, q1, hc.1, hc.2.1, by rw [r1.length]; exact hc.2.2, fun p hp => nw_q s r h hp (r1.rep _)⟩
    · exact h.elim
/-- in, not in -/
def flD : D → Bool
  | .non | .bl _ | .int _ | .str _ => true
  | _ => false
def sgn : D → Option Nat
  | .str x => if x.cps.size = 1 then x.cps[0]? else none
  | _ => none
def gIn (neg : Bool) : Val → Val → W → R Val := fun x y w => match y.d with
  | .lst ys => if pl x.d && pl (.lst ys) then .ok (fz (.bl (neg != ys.any fun z => eqD z x.d))) w else .bad
  | .tup ys => if flD x.d && ys.all flD then .ok (fz (.bl (neg != ys.any fun z => eqD z x.d))) w else .bad
  | .str z => match sgn x.d with
    | some c => .ok (fz (.bl (neg != decide (c ∈ z.cps.toList)))) w
    | none => .bad
  | _ => .bad
theorem gIn_nx {neg : Bool} (x y : Val) (w : W) (e : Xc) (w' : W) : gIn neg x y w ≠ .ex e w' := by
  unfold gIn
  split <;> (try split) <;> exact fun h => nomatch h
def rInA (K : PySem.W.Frag) : R2 := fun x y H Q => rInD K x y H Q ∨ rIn K false x y H Q ∨ (∃ (c : Nat) (z : Str), x = .str ⟨#[c]⟩ ∧ y = .str z ∧ Q (.bl (decide (c ∈ z.cps.toList))) H)
theorem op_inA {X : Cx} (hu : X.A.units + 65 < cLine) : OpR X (compareOp .In) (rInA X.K) := (op_inD hu).or (op_in_seq.or op_in_sign)
theorem any_pl {n : Nat} {d : D} (hd : plN n d = true) : ∀ {ys : List D}, ys.all (plN n) = true → ((toPs ys).any fun z => PyData.eqv z (toP d)) = ys.any fun z => eqD z d
  | [], _ => rfl
  | y :: ys, h => by
    rw [List.all_cons, Bool.and_eq_true] at h
    rw [toPs, List.any_cons, List.any_cons, eqD_of n y d h.1 hd, any_pl hd h.2]
theorem plN_mono : ∀ (n : Nat) (d : D), plN n d = true → plN (n + 1) d = true := by
  intro n
  induction n with
  | zero => intro d h; cases d <;> (try simp [plN] at h) <;> simp_all [plN]
  | succ n ih =>
    intro d h
    cases d with
    | tup xs => simp only [plN, List.all_eq_true] at h ⊢; exact fun x hx => ih x (h x hx)
    | lst xs => simp only [plN, List.all_eq_true] at h ⊢; exact fun x hx => ih x (h x hx)
    | _ => simp_all [plN]
theorem rv_flat {K : PySem.W.Frag} {G H : Hp} {ws : Ws} {v : V} {x : Val} (h : RV K G H ws v x) (p : flD x.d = true) : flatV v = true ∧ Rep K G (io ws) v x.d := by
  obtain ⟨m, d⟩ := x
  cases d <;> (try simp [flD] at p)
  · have e := rv_non h; subst e; exact ⟨rfl, .non⟩
  · have e := rv_bl h; subst e; exact ⟨rfl, .bl _⟩
  · have e := rv_int h; subst e; exact ⟨rfl, .int _⟩
  · have e := rv_str h; subst e; exact ⟨rfl, .str _⟩
theorem rep_flat {K : PySem.W.Frag} {G : Hp} {ι : List Addr} {v : V} {d : D} (h : Rep K G ι v d) (p : flD d = true) : flatV v = true := by
  cases h <;> first | rfl | (simp [flD] at p)
theorem reps_flat {K : PySem.W.Frag} {G : Hp} {ι : List Addr} : ∀ {vs : List V} {ds : List D}, Reps K G ι vs ds → ds.all flD = true → vs.all flatV = true
  | _, _, .nil, _ => rfl
  | _, _, .cons a b, h => by
    rw [List.all_cons, Bool.and_eq_true] at h ⊢
    exact ⟨rep_flat a h.1, reps_flat b h.2⟩
theorem eqV_flat {K : PySem.W.Frag} {G : Hp} {ι : List Addr} {v u : V} {d e : D} (h : Rep K G ι v d) (h2 : Rep K G ι u e) (p : flD d = true) (p2 : flD e = true) : eqV v u = eqD d e := by
  cases h <;> (try (simp [flD] at p; done)) <;> cases h2 <;> (try (simp [flD] at p2; done)) <;> first | rfl | (simp only [eqV, eqD]; done) | (simp [eqV, eqD]; done)
theorem inV_flat {K : PySem.W.Frag} {G : Hp} {ι : List Addr} {u : V} {e : D} (h2 : Rep K G ι u e) (p2 : flD e = true) : ∀ {vs : List V} {ds : List D}, Reps K G ι vs ds → ds.all flD = true → inV u vs = ds.any fun z => eqD z e
  | _, _, .nil, _ => rfl
  | _, _, .cons a b, h => by
    rw [List.all_cons, Bool.and_eq_true] at h
    have ih := inV_flat h2 p2 b h.2
    unfold inV at ih ⊢
    rw [List.any_cons, List.any_cons, eqV_flat a h2 h.1 p2, ih]
theorem sgn_of {d : D} {c : Nat} (h : sgn d = some c) : d = .str ⟨#[c]⟩ := by
  cases d <;> (try (simp [sgn] at h; done))
  rename_i x
  simp only [sgn] at h
  by_cases hs : x.cps.size = 1
  · rw [if_pos hs] at h
    obtain ⟨⟨l⟩⟩ := x
    match l, hs, h with
    | [a], _, h => simp at h; subst h; rfl
  · rw [if_neg hs] at h
    cases h
theorem rop_in : ROp P (rInA P.K) (gIn false) := by
  intro H G ws w vx vy x y Q s r hx hy h
  obtain ⟨m2, d2⟩ := y
  cases d2 <;> try exact h.elim
  · rename_i z
    have ey := rv_str hy
    subst ey
    unfold gIn at h
    dsimp only at h
    split at h
    · rename_i c hc
      obtain ⟨m, d⟩ := x
      have e := sgn_of hc
      simp only at e
      subst e
      have ex := rv_str hx
      subst ex
      exact .inr (.inr ⟨c, z, rfl, rfl, fz_q s r h (by simpa using Rep.bl _)⟩)
    · exact h.elim
  · rename_i ys
    unfold gIn at h
    dsimp only at h
    split at h
    · rename_i hp
      rw [Bool.and_eq_true] at hp
      obtain ⟨a, vs, rfl, _, q1, r1⟩ := rv_tup s hy
      obtain ⟨f1, f2⟩ := rv_flat hx hp.1
      refine .inr (.inl ⟨a, vs, rfl, .inr q1, f1, reps_flat r1 hp.2, ?_⟩)
      rw [inV_flat f2 hp.1 r1 hp.2]
      exact fz_q s r h (by simpa using Rep.bl _)
    · exact h.elim
  · rename_i ys
    unfold gIn at h
    dsimp only at h
    split at h
    · rename_i hp
      rw [Bool.and_eq_true] at hp
      obtain ⟨a1, a2⟩ := rv_dp s hx hp.1
      obtain ⟨b1, b2⟩ := rv_dp s hy hp.2
      refine .inl ⟨_, _, a1, b1, a2, b2, ?_⟩
      have hl : ys.all (plN 10) = true := List.all_eq_true.mpr fun z hz => plN_mono 9 z (by
        have : plN 10 (.lst ys) = true := hp.2
        simp only [plN, List.all_eq_true] at this
        exact this z hz)
      rw [any_pl (n := 10) hp.1 hl]
      exact fz_q s r h (by simpa using Rep.bl _)
    · exact h.elim
end
end DL
namespace DL
open PySem L2
section
variable {P : Pm} {H0 : En} {Wi : WX} {ta tb tc : TE} {fa fb fc : DE}
/-! ### is -/
/-! ### subscripts -/
def gIx : Val → Val → W → R Val := fun x y w => match x.d, y.d with
  | .lst ds, .int i => match atI ds i with
    | some d => .ok (fz d) w
    | none => .bad
  | .tup ds, .int i => match atI ds i with
    | some d => .ok (fz d) w
    | none => .bad
  | .scr ns, .int i => match atI ns i with
    | some n => .ok (fz (.int n)) w
    | none => .bad
  | .str z, .int i => if z.length ≤ sizeLine then (match atI z.cps.toList i with
    | some c => .ok (fz (.str ⟨#[c]⟩)) w
    | none => .bad) else .bad
  | _, _ => .bad
theorem gIx_nx (x y : Val) (w : W) (e : Xc) (w' : W) : gIx x y w ≠ .ex e w' := by
  unfold gIx
  split <;> (try split) <;> (try split) <;> exact fun h => nomatch h
theorem reps_atI {K : PySem.W.Frag} {G : Hp} {ι : List Addr} {vs : List V} {ds : List D} {i : Int} {d : D} (r : Reps K G ι vs ds) (h : atI ds i = some d) : ∃ v, atI vs i = some v ∧ Rep K G ι v d := by
  unfold atI at h ⊢
  rw [r.length]
  cases e : ixN ds.length i with
  | none => rw [e] at h; cases h
  | some j =>
    rw [e] at h
    exact r.getD h
theorem atI_map {α β : Type} (f : α → β) (xs : List α) (i : Int) : atI (xs.map f) i = (atI xs i).map f := by
  unfold atI
  rw [List.length_map]
  cases ixN xs.length i with
  | none => rfl
  | some j => simp
theorem rop_ix : ROp P (rIx P.K) gIx := by
  intro H G ws w vx vy x y Q s r hx hy h
  obtain ⟨m, d⟩ := x
  obtain ⟨m2, d2⟩ := y
  cases d2 <;> (try (cases d <;> exact h.elim))
  rename_i i
  have ey := rv_int hy
  subst ey
  cases d <;> try exact h.elim
  · rename_i z
    have ex := rv_str hx
    subst ex
    unfold gIx at h
    dsimp only at h
    split at h
    · rename_i hz
      split at h
      · rename_i c hc
        exact .inr (.inr ⟨z, i, c, rfl, rfl, hz, hc, fz_q s r h (.str _)⟩)
      · exact h.elim
    · exact h.elim
  · rename_i ds
    obtain ⟨a, vs, rfl, _, q1, r1⟩ := rv_tup s hx
    unfold gIx at h
    dsimp only at h
    split at h
    · rename_i d hd
      obtain ⟨v, hv, rv⟩ := reps_atI r1 hd
      exact .inr (.inl ⟨a, vs, i, v, rfl, rfl, q1, hv, fz_q s r h rv⟩)
    · exact h.elim
  · rename_i ds
    obtain ⟨a, vs, rfl, q1, r1⟩ := rv_lst s hx
    unfold gIx at h
    dsimp only at h
    split at h
    · rename_i d hd
      obtain ⟨v, hv, rv⟩ := reps_atI r1 hd
      exact .inl ⟨a, vs, i, v, rfl, rfl, SqL.of q1, hv, fz_q s r h rv⟩
    · exact h.elim
  · rename_i ns
    unfold gIx at h
    dsimp only at h
    split at h
    · rename_i n hn
      have hs : ∃ a, vx = .ref a ∧ SqZ P.K G a (ns.map V.int) := by
        unfold RV at hx
        cases m with
        | fz => cases hx with | scr q => exact ⟨_, rfl, q⟩
        | nw => obtain ⟨a, _, _, _, u⟩ := hx; cases u
        | bo => obtain ⟨a, _, _, _, u⟩ := hx; cases u
        | wd => obtain ⟨a, _, _, _, u⟩ := hx; cases u
      obtain ⟨a, rfl, q⟩ := hs
      exact .inl ⟨a, ns.map V.int, i, .int n, rfl, rfl, (s.seq q), by rw [atI_map, hn]; rfl, fz_q s r h (.int _)⟩
    · exact h.elim
/-! ### slices -/
def cutL {α : Type} (xs : List α) (lo hi : Option Int) : List α := (xs.drop (HT.sIx xs.length 0 lo)).take (HT.sIx xs.length xs.length hi - HT.sIx xs.length 0 lo)
theorem reps_cut {K : PySem.W.Frag} {G : Hp} {ι : List Addr} {vs : List V} {ds : List D} (r : Reps K G ι vs ds) (lo hi : Option Int) : Reps K G ι (cutV vs lo hi) (cutL ds lo hi) := by
  unfold cutV cutL
  rw [r.length]
  exact (r.drop _).take _
abbrev DO := Env → W → R (Option Int)
def dNo : DO := fun _ w => .ok none w
def dPart (f : DE) : DO := fun ρ w => (f ρ w).bind fun x w => match x.d with
  | .int i => .ok (some i) w
  | _ => .bad
def PostO (P : Pm) (E : Value → Option Addr → Hp → Prop) (H G : Hp) (ws : Ws) (Q : Option Int → Hp → Prop) : R (Option Int) → Prop
  | .ok b w' => ∀ H' G' ws', Nx P.K P.C G H ws G' H' ws' w' → Q b H'
  | .ex x w' => ∀ cls d H' G' ws', Nx P.K P.C G H ws G' H' ws' w' → XRel P.K P.cm G' H' (io ws') x cls d → E cls d H'
  | .bad => False
def EvO (P : Pm) (H0 : En) (Wi : WX) (te : TO) (f : DO) : Prop := ∀ σ H G ws ρ w (Q : Option Int → Hp → Prop), St P.K P.C H0 σ H G ws ρ w → PostO P (fun c d H' => Wi c d σ H') H G ws Q (f ρ w) → te σ H Q
theorem ev_no : EvO P H0 Wi tNoPart dNo := fun σ H G ws ρ w Q st h => h H G ws st.nx
theorem ev_part (ha : EvE P H0 Wi ta fa) : EvO P H0 Wi (tPart ta) (dPart fa) := by
  intro σ H G ws ρ w Q st h
  unfold dPart at h
  refine ha σ H G ws ρ w _ st ?_
  cases e : fa ρ w with
  | bad => rw [e] at h; exact h
  | ex x w' => rw [e] at h; exact h
  | ok x w' =>
    intro v H1 G1 ws1 n1 r1 k1
    rw [e] at h
    obtain ⟨m, d⟩ := x
    cases d <;> try exact h.elim
    have ex := rv_int r1
    subst ex
    exact ⟨_, rfl, h H1 G1 ws1 n1⟩
def gSl : Val → Option Int → Option Int → W → R Val := fun x lo hi w => match x.d with
  | .lst ds => .ok ⟨.nw, .lst (cutL ds lo hi)⟩ w
  | .tup ds => if HT.sIx ds.length 0 lo = 0 ∧ HT.sIx ds.length ds.length hi = ds.length then .bad else .ok (fz (.tup (cutL ds lo hi))) w
  | .str z => if z.length ≤ sizeLine then .ok (fz (.str (cutS z lo hi))) w else .bad
  | _ => .bad
def rSlA (K : PySem.W.Frag) : V → Option Int → Option Int → Hp → VK → Prop := fun x lo hi H Q => rSlL K x lo hi H Q ∨ rSlT K x lo hi H Q ∨ rSlS x lo hi H Q
theorem sl_A {X : Cx} : SlR X (rSlA X.K) := sl_list.or (sl_tup.or sl_str)
theorem sl_ok {H G : Hp} {ws : Ws} {w : W} {v : V} {x : Val} {lo hi : Option Int} {Q : VK} {E : Value → Option Addr → Hp → Prop} (s : Sm G H) (r : RelW P.K P.C G H ws w) (hx : RV P.K G H ws v x) (h : PostE P E H G ws Q (gSl x lo hi w)) : rSlA P.K v lo hi H Q := by
  obtain ⟨m, d⟩ := x
  cases d <;> try exact h.elim
  · rename_i z
    have ex := rv_str hx
    subst ex
    unfold gSl at h
    dsimp only at h
    split at h
    · rename_i hz
      exact .inr (.inr ⟨z, rfl, hz, fz_q s r h (.str _)⟩)
    · exact h.elim
  · rename_i ds
    obtain ⟨a, vs, rfl, _, q1, r1⟩ := rv_tup s hx
    unfold gSl at h
    dsimp only at h
    split at h
    · exact h.elim
    · rename_i hn
      exact .inr (.inl ⟨a, vs, rfl, q1, by rw [r1.length]; exact hn, fun p hp => tup_q s r h hp (reps_cut r1 lo hi)⟩)
  · rename_i ds
    obtain ⟨a, vs, rfl, q1, r1⟩ := rv_lst s hx
    exact .inl ⟨a, vs, rfl, SqL.of q1, fun p hp => nw_q s r h hp (reps_cut r1 lo hi)⟩
def dSl (fa : DE) (fl fh : DO) : DE := fun ρ w => (fa ρ w).bind fun x w1 => (fl ρ w1).bind fun lo w2 => (fh ρ w2).bind fun hi w3 => chk x w1 w3 (gSl x lo hi w3)
theorem ev_sl {tl th : TO} {fl fh : DO} (ha : EvE P H0 Wi ta fa) (hl : EvO P H0 Wi tl fl) (hh : EvO P H0 Wi th fh) : EvE P H0 Wi (tSl (rSlA P.K) ta tl th) (dSl fa fl fh) := by
  intro σ H G ws ρ w Q st h
  unfold dSl at h
  refine ha σ H G ws ρ w _ st ?_
  cases e : fa ρ w with
  | bad => rw [e] at h; exact h
  | ex x w' => rw [e] at h; exact h
  | ok x w' =>
    intro v H1 G1 ws1 n1 r1 k1
    rw [e] at h
    refine hl σ H1 G1 ws1 ρ w' _ (st.next n1) ?_
    have h : PostE P (fun c d H' => Wi c d σ H') H G ws Q ((fl ρ w').bind fun lo w2 => (fh ρ w2).bind fun hi w3 => chk x w' w3 (gSl x lo hi w3)) := h
    cases e2 : fl ρ w' with
    | bad => rw [e2] at h; exact h
    | ex y w2 => rw [e2] at h; exact PostE.after n1 h
    | ok lo w2 =>
      intro H2 G2 ws2 n2
      rw [e2] at h
      refine hh σ H2 G2 ws2 ρ w2 _ ((st.next n1).next n2) ?_
      have h : PostE P (fun c d H' => Wi c d σ H') H G ws Q ((fh ρ w2).bind fun hi w3 => chk x w' w3 (gSl x lo hi w3)) := h
      cases e3 : fh ρ w2 with
      | bad => rw [e3] at h; exact h
      | ex y w3 => rw [e3] at h; exact PostE.after (n1.trans n2) h
      | ok hi w3 =>
        intro H3 G3 ws3 n3
        rw [e3] at h
        obtain ⟨hx, h⟩ := PostE.chk h
        exact sl_ok n3.sub n3.rw (r1.move (n2.trans n3) fun z => (n2.trans n3).same n1.rw (hx z)) (PostE.after ((n1.trans n2).trans n3) h)
/-! ### tests -/
def tst (f : DE) : DT := fun ρ w => (f ρ w).bind fun x w => match x.d with
  | .bl b => .ok b w
  | _ => .bad
theorem ev_tst (ha : EvE P H0 Wi ta fa) : EvT P H0 Wi (tTest ta) (tst fa) := by
  intro σ H G ws ρ w Q st h
  unfold tst at h
  refine ha σ H G ws ρ w _ st ?_
  cases e : fa ρ w with
  | bad => rw [e] at h; exact h
  | ex x w' => rw [e] at h; exact h
  | ok x w' =>
    intro v H1 G1 ws1 n1 r1 k1
    rw [e] at h
    obtain ⟨m, d⟩ := x
    cases d <;> try exact h.elim
    have ex := rv_bl r1
    subst ex
    exact ⟨_, rfl, h H1 G1 ws1 n1⟩
theorem ev_tB (ha : EvE P H0 Wi ta fa) : EvT P H0 Wi (tB ta) (tst fa) := ev_tst ha
variable {tA tB' : TT} {fA fB : DT}
def dNot (f : DT) : DT := fun ρ w => (f ρ w).bind fun b w => .ok (!b) w
def dAnd (f g : DT) : DT := fun ρ w => (f ρ w).bind fun b w => if b then g ρ w else .ok false w
def dOr (f g : DT) : DT := fun ρ w => (f ρ w).bind fun b w => if b then .ok true w else g ρ w
theorem ev_not (ha : EvT P H0 Wi tA fA) : EvT P H0 Wi (tNot tA) (dNot fA) := by
  intro σ H G ws ρ w Q st h
  unfold dNot at h
  refine ha σ H G ws ρ w _ st ?_
  cases e : fA ρ w with
  | bad => rw [e] at h; exact h
  | ex x w' => rw [e] at h; exact h
  | ok b w' =>
    intro H1 G1 ws1 n1
    rw [e] at h
    exact h H1 G1 ws1 n1
theorem ev_and (ha : EvT P H0 Wi tA fA) (hb : EvT P H0 Wi tB' fB) : EvT P H0 Wi (tAnd tA tB') (dAnd fA fB) := by
  intro σ H G ws ρ w Q st h
  unfold dAnd at h
  refine ha σ H G ws ρ w _ st ?_
  cases e : fA ρ w with
  | bad => rw [e] at h; exact h
  | ex x w' => rw [e] at h; exact h
  | ok b w' =>
    intro H1 G1 ws1 n1
    rw [e] at h
    cases b with
    | true =>
      have h : PostT P _ H G ws Q (fB ρ w') := h
      exact hb σ H1 G1 ws1 ρ w' _ (st.next n1) (PostT.after n1 h)
    | false => exact h H1 G1 ws1 n1
theorem ev_or (ha : EvT P H0 Wi tA fA) (hb : EvT P H0 Wi tB' fB) : EvT P H0 Wi (tOr tA tB') (dOr fA fB) := by
  intro σ H G ws ρ w Q st h
  unfold dOr at h
  refine ha σ H G ws ρ w _ st ?_
  cases e : fA ρ w with
  | bad => rw [e] at h; exact h
  | ex x w' => rw [e] at h; exact h
  | ok b w' =>
    intro H1 G1 ws1 n1
    rw [e] at h
    cases b with
    | false =>
      have h : PostT P _ H G ws Q (fB ρ w') := h
      exact hb σ H1 G1 ws1 ρ w' _ (st.next n1) (PostT.after n1 h)
    | true => exact h H1 G1 ws1 n1
/-! .. as values -/
def dAndV (fa fb : DE) : DE := fun ρ w => (fa ρ w).bind fun x w => match x.d with
  | .bl true => fb ρ w
  | .bl false => .ok (fz (.bl false)) w
  | _ => .bad
def dOrV (fa fb : DE) : DE := fun ρ w => (fa ρ w).bind fun x w => match x.d with
  | .bl false => fb ρ w
  | .bl true => .ok (fz (.bl true)) w
  | _ => .bad
def dNotV (fa : DE) : DE := fun ρ w => (fa ρ w).bind fun x w => match x.d with
  | .bl b => .ok (fz (.bl (!b))) w
  | _ => .bad
theorem ev_andV (ha : EvE P H0 Wi ta fa) (hb : EvE P H0 Wi tb fb) : EvE P H0 Wi (tAndV ta tb) (dAndV fa fb) := by
  intro σ H G ws ρ w Q st h
  unfold dAndV at h
  refine ha σ H G ws ρ w _ st ?_
  cases e : fa ρ w with
  | bad => rw [e] at h; exact h
  | ex x w' => rw [e] at h; exact h
  | ok x w' =>
    intro v H1 G1 ws1 n1 r1 k1
    rw [e] at h
    obtain ⟨m, d⟩ := x
    cases d <;> try exact h.elim
    rename_i b
    have ex := rv_bl r1
    subst ex
    refine ⟨b, rfl, ?_⟩
    cases b with
    | true =>
      have h : PostE P _ H G ws Q (fb ρ w') := h
      exact iteT (hb σ H1 G1 ws1 ρ w' _ (st.next n1) (PostE.after n1 h))
    | false => exact iteF (h (.bl false) H1 G1 ws1 n1 (.bl false) fz_nw)
theorem ev_orV (ha : EvE P H0 Wi ta fa) (hb : EvE P H0 Wi tb fb) : EvE P H0 Wi (tOrV ta tb) (dOrV fa fb) := by
  intro σ H G ws ρ w Q st h
  unfold dOrV at h
  refine ha σ H G ws ρ w _ st ?_
  cases e : fa ρ w with
  | bad => rw [e] at h; exact h
  | ex x w' => rw [e] at h; exact h
  | ok x w' =>
    intro v H1 G1 ws1 n1 r1 k1
    rw [e] at h
    obtain ⟨m, d⟩ := x
    cases d <;> try exact h.elim
    rename_i b
    have ex := rv_bl r1
    subst ex
    refine ⟨b, rfl, ?_⟩
    cases b with
    | false =>
      have h : PostE P _ H G ws Q (fb ρ w') := h
      exact iteF (hb σ H1 G1 ws1 ρ w' _ (st.next n1) (PostE.after n1 h))
    | true => exact iteT (h (.bl true) H1 G1 ws1 n1 (.bl true) fz_nw)
theorem ev_notV (ha : EvE P H0 Wi ta fa) : EvE P H0 Wi (tNotV ta) (dNotV fa) := by
  intro σ H G ws ρ w Q st h
  unfold dNotV at h
  refine ha σ H G ws ρ w _ st ?_
  cases e : fa ρ w with
  | bad => rw [e] at h; exact h
  | ex x w' => rw [e] at h; exact h
  | ok x w' =>
    intro v H1 G1 ws1 n1 r1 k1
    rw [e] at h
    obtain ⟨m, d⟩ := x
    cases d <;> try exact h.elim
    rename_i b
    have ex := rv_bl r1
    subst ex
    exact ⟨b, rfl, h (.bl (!b)) H1 G1 ws1 n1 (.bl _) fz_nw⟩
def dIf (c : DT) (fa fb : DE) : DE := fun ρ w => (c ρ w).bind fun b w => if b then fa ρ w else fb ρ w
theorem ev_if (hc : EvT P H0 Wi tA fA) (ha : EvE P H0 Wi ta fa) (hb : EvE P H0 Wi tb fb) : EvE P H0 Wi (tIf tA ta tb) (dIf fA fa fb) := by
  intro σ H G ws ρ w Q st h
  unfold dIf at h
  refine hc σ H G ws ρ w _ st ?_
  cases e : fA ρ w with
  | bad => rw [e] at h; exact h
  | ex x w' => rw [e] at h; exact h
  | ok b w' =>
    intro H1 G1 ws1 n1
    rw [e] at h
    cases b with
    | true =>
      have h : PostE P _ H G ws Q (fa ρ w') := h
      exact iteT (ha σ H1 G1 ws1 ρ w' _ (st.next n1) (PostE.after n1 h))
    | false =>
      have h : PostE P _ H G ws Q (fb ρ w') := h
      exact iteF (hb σ H1 G1 ws1 ρ w' _ (st.next n1) (PostE.after n1 h))
end
end DL
namespace DL
open PySem L2
section
variable {P : Pm} {H0 : En} {Wi : WX} {ta tb tc : TE} {fa fb fc : DE} {tr : TA} {fr : DA}
/-! ### arguments -/
def dNil : DA := fun _ w => .ok [] w
def dOne (f : DE) : DA := fun ρ w => (f ρ w).bind fun x w => .ok [x] w
def dCons (f : DE) (fs : DA) : DA := fun ρ w => (f ρ w).bind fun x w1 => (fs ρ w1).bind fun xs w2 => chk x w1 w2 (.ok (x :: xs) w2)
theorem ev_nil : EvA P H0 Wi tNil dNil := fun σ H G ws ρ w Q st h => h [] H G ws st.nx .nil trivial
theorem ev_one (ha : EvE P H0 Wi ta fa) : EvA P H0 Wi (tCons ta tNil) (dOne fa) := by
  intro σ H G ws ρ w Q st h
  unfold dOne at h
  refine ha σ H G ws ρ w _ st ?_
  cases e : fa ρ w with
  | bad => rw [e] at h; exact h
  | ex x w' => rw [e] at h; exact h
  | ok x w' =>
    intro v H1 G1 ws1 n1 r1 k1
    rw [e] at h
    exact h [v] H1 G1 ws1 n1 (.cons r1 .nil) ⟨k1, fun _ i y e => by simp at e, trivial⟩
theorem ev_cons (ha : EvE P H0 Wi ta fa) (hr : EvA P H0 Wi tr fr) : EvA P H0 Wi (tCons ta tr) (dCons fa fr) := by
  intro σ H G ws ρ w Q st h
  unfold dCons at h
  refine ha σ H G ws ρ w _ st ?_
  cases e : fa ρ w with
  | bad => rw [e] at h; exact h
  | ex x w' => rw [e] at h; exact h
  | ok x w' =>
    intro v H1 G1 ws1 n1 r1 k1
    rw [e] at h
    have h : PostA P (fun c d H' => Wi c d σ H') H G ws Q ((fr ρ w').bind fun xs w2 => chk x w' w2 (.ok (x :: xs) w2)) := h
    refine hr σ H1 G1 ws1 ρ w' _ (st.next n1) ?_
    cases e2 : fr ρ w' with
    | bad => rw [e2] at h; exact h
    | ex y w2 => rw [e2] at h; exact PostA.after n1 h
    | ok xs w2 =>
      intro vs H2 G2 ws2 n2 r2 k2
      rw [e2] at h
      obtain ⟨hx, h⟩ := PostA.chk h
      refine h (v :: vs) H2 G2 ws2 (n1.trans n2) (.cons (r1.move n2 fun z => n2.same n1.rw (hx z)) r2) ⟨k1, fun hm i y hy hym z => ?_, newsOk_back n1 k2⟩
      -- the first stands in H1; the later ones are new there
      have ha1 : ∃ a, v = .ref a ∧ ∃ o, H1 a = some o ∧ Nt o := by
        obtain ⟨m, d⟩ := x
        simp only at hm
        subst hm
        obtain ⟨a, e, _, _, u⟩ := r1
        obtain ⟨o, ho, hc⟩ := u.there
        obtain ⟨o1, e1, c1⟩ := ho.at' (nt_cont hc)
        exact ⟨a, e, o1, e1, c1⟩
      obtain ⟨a, rfl, o, ho, no⟩ := ha1
      have go : ∀ {vs : List V} {xs : List Val} (i : Nat), NewsOk H1 vs xs → xs[i]? = some y → vs[i]? = some (.ref a) → Fr H1 a := by
        intro vs
        induction vs with
        | nil => intro xs i _ _ e; simp at e
        | cons u us ih =>
          intro xs i k hy hv
          cases xs with
          | nil => simp at hy
          | cons z zs =>
            cases i with
            | zero =>
              simp at hy hv
              subst hy hv
              exact k.1 hym a rfl
            | succ i => exact ih i k.2.2 (by simpa using hy) (by simpa using hv)
      exact go i k2 hy z o ho no
/-! ### freezing what is new -/
def frzD : List Val → Option (List D)
  | [] => some []
  | x :: xs => match x.m, frzD xs with
    | .fz, some ds => some (x.d :: ds)
    | .nw, some ds => some (x.d :: ds)
    | _, _ => none
theorem Unf.rep {K : PySem.W.Frag} {G H : Hp} {ι : List Addr} {a : Addr} {d : D} (u : Unf K G H ι a d) (g : G a = none) : ∃ o, Lk H a o ∧ Nt o ∧ Rep K (upd G a o) ι (.ref a) d := by
  have sg : ∀ o, Same G (upd G a o) := fun o b v e => by rw [upd_ne (ne_of_none e g)]; exact e
  cases u with
  | lst q r => exact ⟨_, .inl q, nt_cont trivial, .lst upd_same (r.mono (sg _) (List.prefix_refl _))⟩
  | dK q k r => exact ⟨_, q, nt_cont trivial, .dK upd_same k (r.mono (sg _) (List.prefix_refl _))⟩
  | dT q k r => exact ⟨_, q, nt_cont trivial, .dT upd_same k (r.mono (sg _) (List.prefix_refl _))⟩
theorem Nx.freeze {K : PySem.W.Frag} {C : Ca} {G H G' H' : Hp} {ws ws' : Ws} {w' : W} {a : Addr} {o : HO} (n : Nx K C G H ws G' H' ws' w') (ha : Fr H a) (h : Lk H' a o) (no : Nt o) (g : G' a = none) (nr : a ∉ regs ws') : Nx K C G H ws (upd G' a o) H' ws' w' := by
  have sg : Same G' (upd G' a o) := fun b v e => by rw [upd_ne (ne_of_none e g)]; exact e
  refine ⟨n.gg.trans sg, fun b v e => ?_, ⟨paired_imp n.rw.obs fun q o hq ⟨e, p⟩ => ⟨e, paired_imp p fun x y hx ⟨e, f⟩ => ⟨e, f.move sg (List.prefix_refl _) fun _ _ _ h => h⟩⟩, n.rw.nn, n.rw.nd, fun b hb => ?_, n.rw.tb, fun b u e => ?_, fun a q u e hd => (n.rw.ul a q u e hd).imp (sg _ _) id, n.rw.lkw, n.rw.lkh⟩, n.keep, n.alive, fun b u hb nu gb => ?_, n.io, n.fresh, n.le, n.qt, n.stb⟩
  · by_cases hb : b = a
    · subst hb; rw [upd_same] at e; cases e; exact h
    · rw [upd_ne hb] at e; exact n.sub _ _ e
  · have hne : b ≠ a := fun e => nr (by rw [← e]; exact hb)
    rw [upd_ne hne]; exact n.rw.out b hb
  · by_cases hb : b = a
    · subst hb; rw [upd_same] at e; cases e; exact no
    · rw [upd_ne hb] at e; exact n.rw.nt b u e
  · have hne : b ≠ a := ha.ne hb nu
    rw [upd_ne hne]; exact n.nocap b u hb nu gb
theorem RV.gmono {K : PySem.W.Frag} {G G' H : Hp} {ws : Ws} {v : V} {x : Val} (h : RV K G H ws v x) (g : Same G G') (hn : x.m ≠ .fz → ∀ a, v = .ref a → G a = none → G' a = none) : RV K G' H ws v x := by
  obtain ⟨m, d⟩ := x
  unfold RV at h ⊢
  cases m with
  | fz => exact Rep.mono g (List.prefix_refl _) h
  | nw => obtain ⟨a, e, ga, nr, u⟩ := h; exact ⟨a, e, hn (by intro z; cases z) a e ga, nr, u.move g (List.prefix_refl _) fun _ h => h⟩
  | bo => obtain ⟨a, e, ga, nr, u⟩ := h; exact ⟨a, e, hn (by intro z; cases z) a e ga, nr, u.move g (List.prefix_refl _) fun _ h => h⟩
  | wd => obtain ⟨a, e, ga, nr, u⟩ := h; exact ⟨a, e, hn (by intro z; cases z) a e ga, nr, u.move g (List.prefix_refl _) fun _ h => h⟩
/-- one value frozen -/
theorem freeze1 {K : PySem.W.Frag} {C : Ca} {G H G' H' : Hp} {ws ws' : Ws} {w' : W} {v : V} {x : Val} (n : Nx K C G H ws G' H' ws' w') (r : RV K G' H' ws' v x) (k : NewOk H v x) (hm : x.m = .fz ∨ x.m = .nw) :
    ∃ G2, Same G' G2 ∧ Nx K C G H ws G2 H' ws' w' ∧ Rep K G2 (io ws') v x.d ∧ (∀ b, (x.m = .nw → v ≠ .ref b) → G' b = none → G2 b = none) := by
  obtain ⟨m, d⟩ := x
  rcases hm with z | z
  · simp only at z; subst z
    exact ⟨G', fun _ _ h => h, n, r, fun _ _ h => h⟩
  · simp only at z; subst z
    obtain ⟨a, rfl, ga, nr, u⟩ := r
    obtain ⟨o, ho, no, rp⟩ := u.rep ga
    refine ⟨upd G' a o, fun b v e => by rw [upd_ne (ne_of_none e ga)]; exact e, n.freeze (k rfl a rfl) ho no ga nr, rp, fun b hb gb => ?_⟩
    rw [upd_ne (fun e => hb rfl (by rw [e]))]; exact gb
theorem freezeAll {K : PySem.W.Frag} {C : Ca} {G H : Hp} {ws ws' : Ws} {w' : W} {H' : Hp} : ∀ {vs : List V} {xs : List Val} {ds : List D} {G' : Hp}, Nx K C G H ws G' H' ws' w' → RVs K G' H' ws' vs xs → NewsOk H vs xs → frzD xs = some ds →
    ∃ G2, Same G' G2 ∧ Nx K C G H ws G2 H' ws' w' ∧ Reps K G2 (io ws') vs ds
  | _, _, ds, G', n, .nil, _, e => by
    simp [frzD] at e
    subst e
    exact ⟨G', fun _ _ h => h, n, .nil⟩
  | _, _, ds, G', n, .cons (v := v) (x := x) (vs := vs) (xs := xs) r rs, k, e => by
    obtain ⟨m, d⟩ := x
    have hz : ∃ ds', frzD xs = some ds' ∧ ds = d :: ds' ∧ (m = .fz ∨ m = .nw) := by
      unfold frzD at e
      cases q : frzD xs with
      | none => rw [q] at e; cases m <;> cases e
      | some ds' => rw [q] at e; cases m <;> first | (cases e; exact ⟨ds', rfl, rfl, .inl rfl⟩) | (cases e; exact ⟨ds', rfl, rfl, .inr rfl⟩) | cases e
    obtain ⟨ds', e1, rfl, hm⟩ := hz
    obtain ⟨G2, s2, n2, r2, f2⟩ := freeze1 n r k.1 hm
    have go : ∀ {vs : List V} {xs : List Val}, RVs K G' H' ws' vs xs → (m = .nw → ∀ (i : Nat) y, xs[i]? = some y → y.m = .nw → vs[i]? ≠ some v) → (frzD xs).isSome = true → RVs K G2 H' ws' vs xs := by
      intro vs xs rs
      induction rs with
      | nil => intro _ _; exact .nil
      | @cons u y us ys ru rus ih =>
        intro hd hf
        have hfy : (y.m = .fz ∨ y.m = .nw) ∧ (frzD ys).isSome = true := by
          unfold frzD at hf
          obtain ⟨my, dy⟩ := y
          cases q : frzD ys with
          | none => rw [q] at hf; cases my <;> cases hf
          | some _ => rw [q] at hf; cases my <;> first | exact ⟨.inl rfl, rfl⟩ | exact ⟨.inr rfl, rfl⟩ | cases hf
        refine .cons (ru.gmono s2 fun hy a ea ga => f2 a (fun hm2 ev => ?_) ga) (ih (fun hm2 i z hz => by simpa using hd hm2 (i + 1) z (by simpa using hz)) hfy.2)
        have hyn : y.m = .nw := by rcases hfy.1 with z | z; exact absurd z hy; exact z
        exact hd hm2 0 y rfl hyn (by simp [ea, ev])
    have rs2 := go rs k.2.1 (by rw [e1]; rfl)
    obtain ⟨G3, s3, n3, r3⟩ := freezeAll n2 rs2 k.2.2 e1
    exact ⟨G3, s2.trans s3, n3, .cons (r2.mono s3 (List.prefix_refl _)) r3⟩
/-! ### displays -/
def dTup (fs : DA) : DE := fun ρ w => (fs ρ w).bind fun xs w => match frzD xs with
  | some ds => if ds.length ≤ sizeLine then .ok (fz (.tup ds)) w else .bad
  | none => .bad
def dLst (fs : DA) : DE := fun ρ w => (fs ρ w).bind fun xs w => match frzD xs with
  | some ds => if ds.length ≤ sizeLine then .ok ⟨.nw, .lst ds⟩ w else .bad
  | none => .bad
theorem ev_tup (h : EvA P H0 Wi tr fr) : EvE P H0 Wi (tTup tr) (dTup fr) := by
  intro σ H G ws ρ w Q st hq
  unfold dTup at hq
  refine h σ H G ws ρ w _ st ?_
  cases e : fr ρ w with
  | bad => rw [e] at hq; exact hq
  | ex x w' => rw [e] at hq; exact hq
  | ok xs w' =>
    intro vs H1 G1 ws1 n1 r1 k1
    rw [e] at hq
    have hq : PostE P _ H G ws Q (match frzD xs with | some ds => if ds.length ≤ sizeLine then .ok (fz (.tup ds)) w' else .bad | none => .bad) := hq
    cases e2 : frzD xs with
    | none => rw [e2] at hq; exact hq.elim
    | some ds =>
      rw [e2] at hq
      dsimp only at hq
      split at hq
      · rename_i hl
        obtain ⟨G2, s2, n2, r2⟩ := freezeAll n1 r1 k1 e2
        exact ⟨by rw [r2.length]; exact hl, fun p hp => tup_q n2.sub n2.rw (PostE.after n2 hq) hp r2⟩
      · exact hq.elim
theorem ev_lst (h : EvA P H0 Wi tr fr) : EvE P H0 Wi (tLst tr) (dLst fr) := by
  intro σ H G ws ρ w Q st hq
  unfold dLst at hq
  refine h σ H G ws ρ w _ st ?_
  cases e : fr ρ w with
  | bad => rw [e] at hq; exact hq
  | ex x w' => rw [e] at hq; exact hq
  | ok xs w' =>
    intro vs H1 G1 ws1 n1 r1 k1
    rw [e] at hq
    have hq : PostE P _ H G ws Q (match frzD xs with | some ds => if ds.length ≤ sizeLine then .ok ⟨.nw, .lst ds⟩ w' else .bad | none => .bad) := hq
    cases e2 : frzD xs with
    | none => rw [e2] at hq; exact hq.elim
    | some ds =>
      rw [e2] at hq
      dsimp only at hq
      split at hq
      · rename_i hl
        obtain ⟨G2, s2, n2, r2⟩ := freezeAll n1 r1 k1 e2
        exact ⟨by rw [r2.length]; exact hl, fun p hp => nw_q n2.sub n2.rw (PostE.after n2 hq) hp r2⟩
      · exact hq.elim
/-! ### a < b < c -/
def dChain (g g' : Val → Val → W → R Val) (fa fb fc : DE) : DE := fun ρ w => (fa ρ w).bind fun x w1 => (fb ρ w1).bind fun y w2 => chk x w1 w2 ((g x y w2).bind fun z w3 => match z.d with
  | .bl true => (fc ρ w3).bind fun u w4 => chk y w2 w4 (g' y u w4)
  | .bl false => .ok (fz (.bl false)) w3
  | _ => .bad)
theorem ev_chain {r r' : R2} {g g' : Val → Val → W → R Val} (ha : EvE P H0 Wi ta fa) (hb : EvE P H0 Wi tb fb) (hc : EvE P H0 Wi tc fc) (hr : ROp P r g) (hr' : ROp P r' g') (hn : ∀ x y w e w', g x y w ≠ .ex e w') (hn' : ∀ x y w e w', g' x y w ≠ .ex e w') : EvE P H0 Wi (tChain r r' ta tb tc) (dChain g g' fa fb fc) := by
  intro σ H G ws ρ w Q st h
  unfold dChain at h
  refine ha σ H G ws ρ w _ st ?_
  cases e : fa ρ w with
  | bad => rw [e] at h; exact h
  | ex x w' => rw [e] at h; exact h
  | ok x w' =>
    intro v H1 G1 ws1 n1 r1 k1
    rw [e] at h
    refine hb σ H1 G1 ws1 ρ w' _ (st.next n1) ?_
    have h : PostE P (fun c d H' => Wi c d σ H') H G ws Q ((fb ρ w').bind fun y w2 => chk x w' w2 ((g x y w2).bind fun z w3 => match z.d with
      | .bl true => (fc ρ w3).bind fun u w4 => chk y w2 w4 (g' y u w4)
      | .bl false => .ok (fz (.bl false)) w3
      | _ => .bad)) := h
    cases e2 : fb ρ w' with
    | bad => rw [e2] at h; exact h
    | ex y w2 => rw [e2] at h; exact PostE.after n1 h
    | ok y w2 =>
      intro v2 H2 G2 ws2 n2 r2 k2
      rw [e2] at h
      obtain ⟨hx, h⟩ := PostE.chk h
      refine hr H2 G2 ws2 w2 v v2 x y _ n2.sub n2.rw (r1.move n2 fun z => n2.same n1.rw (hx z)) r2 ?_
      cases e3 : g x y w2 with
      | bad => rw [e3] at h; exact h
      | ex z w3 => exact absurd e3 (hn _ _ _ _ _)
      | ok z w3 =>
        intro v3 H3 G3 ws3 n3 r3 k3
        rw [e3] at h
        obtain ⟨mz, dz⟩ := z
        cases dz <;> try exact h.elim
        rename_i b
        have ez := rv_bl r3
        subst ez
        have n13 := (n1.trans n2).trans n3
        refine ⟨b, rfl, ?_⟩
        cases b with
        | false => exact iteF (h (.bl false) H3 G3 ws3 n13 (.bl false) fz_nw)
        | true =>
          refine iteT ?_
          have h : PostE P (fun c d H' => Wi c d σ H') H G ws Q ((fc ρ w3).bind fun u w4 => chk y w2 w4 (g' y u w4)) := h
          refine hc σ H3 G3 ws3 ρ w3 _ (st.next n13) ?_
          cases e4 : fc ρ w3 with
          | bad => rw [e4] at h; exact h
          | ex u w4 => rw [e4] at h; exact PostE.after n13 h
          | ok u w4 =>
            intro v4 H4 G4 ws4 n4 r4 k4
            rw [e4] at h
            obtain ⟨hy, h⟩ := PostE.chk h
            exact hr' H4 G4 ws4 w4 v2 v4 y u Q n4.sub n4.rw (r2.move (n3.trans n4) fun z => (n3.trans n4).same n2.rw (hy z)) r4 ((PostE.after (n13.trans n4) h).noex fun _ _ => hn' _ _ _ _ _)
end
end DL
namespace DL
open PySem L2
section
variable {P : Pm} {H0 : En} {Wi : WX}
theorem rvs1 {K : PySem.W.Frag} {G H : Hp} {ws : Ws} {vs : List V} {x : Val} (h : RVs K G H ws vs [x]) : ∃ v, vs = [v] ∧ RV K G H ws v x := by
  cases h with
  | cons a b => cases b; exact ⟨_, rfl, a⟩
theorem rvs2 {K : PySem.W.Frag} {G H : Hp} {ws : Ws} {vs : List V} {x y : Val} (h : RVs K G H ws vs [x, y]) : ∃ v u, vs = [v, u] ∧ RV K G H ws v x ∧ RV K G H ws u y := by
  cases h with
  | cons a b => cases b with | cons c d => cases d; exact ⟨_, _, rfl, a, c⟩
/-! len -/
def gLen : List Val → W → R Val := fun xs w => match xs with
  | [x] => match x.d with
    | .lst ds => .ok (fz (.int ds.length)) w
    | .tup ds => .ok (fz (.int ds.length)) w
    | .scr ns => .ok (fz (.int ns.length)) w
    | .str z => if z.length ≤ sizeLine then .ok (fz (.int z.length)) w else .bad
    | _ => .bad
  | _ => .bad
def rLenA (K : PySem.W.Frag) : List V → Hp → VK → Prop := fun xs H Q => ∃ x n, xs = [x] ∧ LenV K x H n ∧ Q (.int n) H
theorem rv_scr {K : PySem.W.Frag} {G H : Hp} {ws : Ws} {v : V} {m : Md} {ns : List Int} (s : Sm G H) (hx : RV K G H ws v ⟨m, .scr ns⟩) : ∃ a, v = .ref a ∧ SqZ K H a (ns.map V.int) := by
  unfold RV at hx
  cases m with
  | fz => cases hx with | scr q => exact ⟨_, rfl, s.seq q⟩
  | nw => obtain ⟨a, _, _, _, u⟩ := hx; cases u
  | bo => obtain ⟨a, _, _, _, u⟩ := hx; cases u
  | wd => obtain ⟨a, _, _, _, u⟩ := hx; cases u
theorem gLen_nx (x : List Val) (w : W) (e : Xc) (w' : W) : gLen x w ≠ .ex e w' := by
  unfold gLen
  split <;> (try split) <;> (try split) <;> exact fun h => nomatch h
theorem rc_len : RCall P (rLenA P.K) gLen := by
  intro H G ws w vs xs Q s r hx h
  match xs, hx, h with
  | [⟨m, d⟩], hx, h =>
    obtain ⟨v, rfl, hv⟩ := rvs1 hx
    cases d <;> try exact h.elim
    · rename_i z
      have e := rv_str hv
      subst e
      unfold gLen at h
      dsimp only at h
      split at h
      · rename_i hz
        exact ⟨_, z.length, rfl, ⟨hz, rfl⟩, fz_q s r h (.int _)⟩
      · exact h.elim
    · obtain ⟨a, vs, rfl, _, q1, r1⟩ := rv_tup s hv
      exact ⟨_, vs.length, rfl, .inr ⟨vs, q1, rfl⟩, fz_q s r h (by rw [r1.length]; exact .int _)⟩
    · obtain ⟨a, vs, rfl, q1, r1⟩ := rv_lst s hv
      exact ⟨_, vs.length, rfl, .inl ⟨vs, SqL.of q1, rfl⟩, fz_q s r h (by rw [r1.length]; exact .int _)⟩
    · rename_i ns
      obtain ⟨a, rfl, q⟩ := rv_scr s hv
      exact ⟨_, _, rfl, .inl ⟨_, q, rfl⟩, fz_q s r h (by rw [List.length_map]; exact .int _)⟩
/-! max(a, b), min(a, b) -/
def gMax2 : List Val → W → R Val := fun xs w => match xs with
  | [x, y] => match x.d, y.d with
    | .int i, .int j => .ok (fz (.int (if j > i then j else i))) w
    | _, _ => .bad
  | _ => .bad
def gMin2 : List Val → W → R Val := fun xs w => match xs with
  | [x, y] => match x.d, y.d with
    | .int i, .int j => .ok (fz (.int (if j < i then j else i))) w
    | _, _ => .bad
  | _ => .bad
theorem gMax2_nx (x : List Val) (w : W) (e : Xc) (w' : W) : gMax2 x w ≠ .ex e w' := by
  unfold gMax2
  split <;> (try split) <;> exact fun h => nomatch h
theorem rc_max2 : RCall P (fun xs H Q => ∃ i j, xs = [.int i, .int j] ∧ Q (.int (if j > i then j else i)) H) gMax2 := by
  intro H G ws w vs xs Q s r hx h
  match xs, hx, h with
  | [⟨m, d⟩, ⟨m2, d2⟩], hx, h =>
    obtain ⟨v, u, rfl, hv, hu⟩ := rvs2 hx
    cases d <;> try exact h.elim
    cases d2 <;> try exact h.elim
    have e := rv_int hv
    have e2 := rv_int hu
    subst e e2
    exact ⟨_, _, rfl, fz_q s r h (.int _)⟩
/-! lists of one kind -/
def blsOf : List D → Option (List Bool)
  | [] => some []
  | .bl i :: r => (blsOf r).map (i :: ·)
  | _ :: _ => none
theorem blsOf_eq : ∀ {ds : List D} {ns : List Bool}, blsOf ds = some ns → ds = ns.map .bl
  | [], _, h => by simp [blsOf] at h; subst h; rfl
  | d :: r, ns, h => by
    cases d <;> try (simp [blsOf] at h; done)
    simp only [blsOf, Option.map_eq_some_iff] at h
    obtain ⟨a, h1, h2⟩ := h
    subst h2
    rw [blsOf_eq h1]; rfl
def onL (x : Val) (g : List D → R Val) : R Val := match x.d with
  | .lst ds => g ds
  | _ => .bad
def gAll : List Val → W → R Val := fun xs w => match xs with
  | [x] => onL x fun ds => match blsOf ds with
    | some bs => .ok (fz (.bl (bs.all id))) w
    | _ => .bad
  | _ => .bad
theorem gAll_nx (x : List Val) (w : W) (e : Xc) (w' : W) : gAll x w ≠ .ex e w' := by
  unfold gAll onL
  split <;> (try dsimp only) <;> (try split) <;> (try dsimp only) <;> (try split) <;> exact fun h => nomatch h
theorem rc_all : RCall P (rAll P.K) gAll := by
  intro H G ws w vs xs Q s r hx h
  match xs, hx, h with
  | [⟨m, d⟩], hx, h =>
    obtain ⟨v, rfl, hv⟩ := rvs1 hx
    cases d <;> try exact h.elim
    rename_i ds
    obtain ⟨a, vs, rfl, q1, r1⟩ := rv_lst s hv
    unfold gAll onL at h
    dsimp only at h
    split at h
    · rename_i ns hn
      rw [blsOf_eq hn] at r1
      rw [r1.of_bls] at q1
      exact ⟨a, ns, rfl, SqL.of q1, fz_q s r h (.bl _)⟩
    · exact h.elim
/-! int(b), int(i); list(xs), list(t); tuple(xs) -/
def gInt : List Val → W → R Val := fun xs w => match xs with
  | [x] => match x.d with
    | .int i => .ok (fz (.int i)) w
    | .bl b => .ok (fz (.int (if b then 1 else 0))) w
    | _ => .bad
  | _ => .bad
def gList : List Val → W → R Val := fun xs w => match xs with
  | [x] => match x.d with
    | .lst ds => .ok ⟨.nw, .lst ds⟩ w
    | .tup ds => .ok ⟨.nw, .lst ds⟩ w
    | _ => .bad
  | _ => .bad
def gTuple : List Val → W → R Val := fun xs w => match xs with
  | [x] => match x.d with
    | .lst ds => .ok (fz (.tup ds)) w
    | _ => .bad
  | _ => .bad
theorem gTuple_nx (x : List Val) (w : W) (e : Xc) (w' : W) : gTuple x w ≠ .ex e w' := by
  unfold gTuple
  split <;> (try split) <;> exact fun h => nomatch h
theorem rc_tuple : RCall P (fun xs H Q => ∃ p ys, xs = [.ref p] ∧ ((SqL P.K H p ys ∧ ∀ l, H l = none → Q (.ref l) (upd H l (.tup ys))) ∨ (SqT P.K H p ys ∧ Q (.ref p) H))) gTuple := by
  intro H G ws w vs xs Q s r hx h
  match xs, hx, h with
  | [⟨m, d⟩], hx, h =>
    obtain ⟨v, rfl, hv⟩ := rvs1 hx
    cases d <;> try exact h.elim
    obtain ⟨a, vs, rfl, q1, r1⟩ := rv_lst s hv
    exact ⟨a, vs, rfl, .inl ⟨SqL.of q1, fun l hl => tup_q s r h hl r1⟩⟩
/-! isinstance(x, T), T a built-in class -/
def tyD : D → String
  | .non => "NoneType" | .bl _ => "bool" | .int _ => "int" | .str _ => "str" | .tup _ => "tuple" | .lst _ => "list" | .scr _ => "list" | .dK _ => "dict" | .dT _ => "dict" | .obj _ => "" | .exc _ => ""
def gIsi (T : String) : Val → W → R Val := fun x w => match kitB (tyD x.d) T with
  | some b => .ok (fz (.bl b)) w
  | none => .bad
end
end DL
namespace DL
open PySem L2
/-! ### statements -/
inductive Out where
  | next (ρ : Env) (w : W) | ret (x : Val) (w : W) | brk (ρ : Env) (w : W) | cont (ρ : Env) (w : W) | ex (x : Xc) (ρ : Env) (w : W) | bad
abbrev DS := Env → W → Out
/-- what was frozen stays so -/
def Mon (G : Hp) (ws : Ws) (G' : Hp) (ws' : Ws) : Prop := Same G G' ∧ io ws <+: io ws' ∧ Stab ws.l ws'.l ∧ ws.n ≤ ws'.n ∧ (ws'.n = ws.n → ws' = ws)
theorem Mon.refl {G : Hp} {ws : Ws} : Mon G ws G ws := ⟨fun _ _ h => h, List.prefix_refl _, Stab.refl _, Nat.le_refl _, fun _ => rfl⟩
theorem Mon.trans {G G1 G2 : Hp} {ws ws1 ws2 : Ws} (a : Mon G ws G1 ws1) (b : Mon G1 ws1 G2 ws2) : Mon G ws G2 ws2 := ⟨a.1.trans b.1, a.2.1.trans b.2.1, a.2.2.1.trans b.2.2.1, Nat.le_trans a.2.2.2.1 b.2.2.2.1, fun h => by
  have h1 := a.2.2.2.1
  have h2 := b.2.2.2.1
  rw [b.2.2.2.2 (by omega), a.2.2.2.2 (by omega)]⟩
theorem Nx.mon {K : PySem.W.Frag} {C : Ca} {G H G' H' : Hp} {ws ws' : Ws} {w' : W} (n : Nx K C G H ws G' H' ws' w') : Mon G ws G' ws' := ⟨n.gg, n.io, n.stb, n.le, fun h => (n.qt h).1⟩
def PostS (P : Pm) (e : En) (Wi : WX) (D : Ends) (G0 : Hp) (ws0 : Ws) : Out → Prop
  | .next ρ w => ∀ σ H G ws, St P.K P.C e σ H G ws ρ w → Mon G0 ws0 G ws → D.nx σ H
  | .brk ρ w => ∀ σ H G ws, St P.K P.C e σ H G ws ρ w → Mon G0 ws0 G ws → D.bk σ H
  | .cont ρ w => ∀ σ H G ws, St P.K P.C e σ H G ws ρ w → Mon G0 ws0 G ws → D.ct σ H
  | .ret x w => ∀ v H G ws, Nx P.K P.C e.G e.H e.ws G H ws w → RV P.K G H ws v x → NewOk e.H v x → (x.m = .fz ∨ x.m = .nw) → D.rt v H
  | .ex x ρ w => ∀ cls d σ H G ws, St P.K P.C e σ H G ws ρ w → XRel P.K P.cm G H (io ws) x cls d → Wi cls d σ H
  | .bad => False
def EvS (P : Pm) (e : En) (Wi : WX) (ts : TS) (g : DS) : Prop := ∀ σ H G ws ρ w (D : Ends), St P.K P.C e σ H G ws ρ w → PostS P e Wi D G ws (g ρ w) → ts D σ H
theorem PostS.after {P : Pm} {e : En} {Wi : WX} {D : Ends} {G G1 : Hp} {ws ws1 : Ws} {o : Out} (m : Mon G ws G1 ws1) (h : PostS P e Wi D G ws o) : PostS P e Wi D G1 ws1 o := by
  cases o with
  | next ρ w => exact fun σ H G2 ws2 st m2 => h σ H G2 ws2 st (m.trans m2)
  | brk ρ w => exact fun σ H G2 ws2 st m2 => h σ H G2 ws2 st (m.trans m2)
  | cont ρ w => exact fun σ H G2 ws2 st m2 => h σ H G2 ws2 st (m.trans m2)
  | ret x w => exact h
  | ex x ρ w => exact h
  | bad => exact h
def R.thn {α : Type} (r : R α) (ρ : Env) (f : α → W → Out) : Out := match r with
  | .ok a w => f a w
  | .ex x w => .ex x ρ w
  | .bad => .bad
def Out.thn (o : Out) (f : DS) : Out := match o with
  | .next ρ w => f ρ w
  | o => o
section
variable {P : Pm} {H0 : En} {Wi : WX} {ta tb tc : TE} {fa fb fc : DE} {ts us : TS} {gs hs : DS}
/-- an expression's end, for a statement -/
theorem postE_of {σ : L2.St} {H G : Hp} {ws : Ws} {ρ : Env} {w : W} {D : Ends} {Q : VK} {r : R Val} {f : Val → W → Out} (st : St P.K P.C H0 σ H G ws ρ w) (h : PostS P H0 Wi D G ws (r.thn ρ f))
    (k : ∀ x w', r = .ok x w' → PostS P H0 Wi D G ws (f x w') → ∀ v H' G' ws', Nx P.K P.C G H ws G' H' ws' w' → RV P.K G' H' ws' v x → NewOk H v x → Q v H') : PostE P (fun c d H' => Wi c d σ H') H G ws Q r := by
  cases r with
  | ok x w' => exact k x w' rfl h
  | ex x w' => exact fun cls d H' G' ws' n hx => h cls d σ H' G' ws' (st.next n) hx
  | bad => exact h
theorem postT_of {σ : L2.St} {H G : Hp} {ws : Ws} {ρ : Env} {w : W} {D : Ends} {Q : Bool → Hp → Prop} {r : R Bool} {f : Bool → W → Out} (st : St P.K P.C H0 σ H G ws ρ w) (h : PostS P H0 Wi D G ws (r.thn ρ f))
    (k : ∀ x w', r = .ok x w' → PostS P H0 Wi D G ws (f x w') → ∀ H' G' ws', Nx P.K P.C G H ws G' H' ws' w' → Q x H') : PostT P (fun c d H' => Wi c d σ H') H G ws Q r := by
  cases r with
  | ok x w' => exact k x w' rfl h
  | ex x w' => exact fun cls d H' G' ws' n hx => h cls d σ H' G' ws' (st.next n) hx
  | bad => exact h
theorem postA_of {σ : L2.St} {H G : Hp} {ws : Ws} {ρ : Env} {w : W} {D : Ends} {Q : List V → Hp → Prop} {r : R (List Val)} {f : List Val → W → Out} (st : St P.K P.C H0 σ H G ws ρ w) (h : PostS P H0 Wi D G ws (r.thn ρ f))
    (k : ∀ x w', r = .ok x w' → PostS P H0 Wi D G ws (f x w') → ∀ v H' G' ws', Nx P.K P.C G H ws G' H' ws' w' → RVs P.K G' H' ws' v x → NewsOk H v x → Q v H') : PostA P (fun c d H' => Wi c d σ H') H G ws Q r := by
  cases r with
  | ok x w' => exact k x w' rfl h
  | ex x w' => exact fun cls d H' G' ws' n hx => h cls d σ H' G' ws' (st.next n) hx
  | bad => exact h
def sNext : DS := fun ρ w => .next ρ w
def sSeq (g h : DS) : DS := fun ρ w => (g ρ w).thn h
theorem ev_next : EvS P H0 Wi tNext sNext := fun σ H G ws ρ w D st h => h σ H G ws st .refl
theorem ev_seq (h1 : EvS P H0 Wi ts gs) (h2 : EvS P H0 Wi us hs) : EvS P H0 Wi (tSeq ts us) (sSeq gs hs) := by
  intro σ H G ws ρ w D st h
  unfold sSeq at h
  refine h1 σ H G ws ρ w _ st ?_
  cases e : gs ρ w with
  | next ρ' w' =>
    rw [e] at h
    exact fun σ' H' G' ws' st' m => h2 σ' H' G' ws' ρ' w' D st' (PostS.after m h)
  | ret x w' => rw [e] at h; exact h
  | brk ρ' w' => rw [e] at h; exact h
  | cont ρ' w' => rw [e] at h; exact h
  | ex x ρ' w' => rw [e] at h; exact h
  | bad => rw [e] at h; exact h
/-! a name is stored -/
theorem St.set {e : En} {σ : L2.St} {H G : Hp} {ws : Ws} {ρ : Env} {w : W} {K : PySem.W.Frag} {C : Ca} {H1 G1 : Hp} {ws1 : Ws} {w1 : W} {i : Nat} {v : V} {x : Val} (st : St K C e σ H G ws ρ w) (n : Nx K C G H ws G1 H1 ws1 w1) (r : RV K G1 H1 ws1 v x) (k : NewOk H v x) (hm : x.m = .fz ∨ x.m = .nw) :
    St K C e (σ.set i (some v)) H1 G1 ws1 (ρ.set i (some x)) w1 := by
  have s1 := st.next n
  have back : ∀ a, (H a).isSome = true → (H a) ≠ none := fun a h z => by rw [z] at h; cases h
  refine ⟨s1.nx0, by rw [List.length_set, List.length_set]; exact s1.len, fun j y e => ?_, fun j y a e hy ea => ?_, fun j l y z a ej el hy hz aj al => ?_⟩
  · by_cases hj : i = j
    · subst hj
      rw [List.getElem?_set] at e ⊢
      rw [if_pos rfl] at e ⊢
      split at e
      · rename_i hl
        rw [if_pos (by rw [s1.len]; exact hl)]
        cases e
        exact ⟨v, rfl, r, hm⟩
      · cases e
    · rw [List.getElem?_set_ne hj] at e ⊢
      exact s1.sl j y e
  · by_cases hj : i = j
    · subst hj
      rw [List.getElem?_set] at e ea
      rw [if_pos rfl] at e ea
      split at e
      · rename_i hl
        rw [if_pos (by rw [s1.len]; exact hl)] at ea
        cases e
        cases ea
        have := k hy a rfl
        intro o q no
        obtain ⟨o', e', no'⟩ := st.nx0.alive a o q no
        exact this o' e' no'
      · cases e
    · rw [List.getElem?_set_ne hj] at e ea
      exact st.own j y a e hy ea
  · -- apart
    have key : ∀ (j : Nat) y a, ρ[j]? = some (some y) → y.m = .nw → σ[j]? = some (some (.ref a)) → ∃ o, H a = some o ∧ Nt o := fun j y a e hy ea => by
      obtain ⟨u, h1, h2, _⟩ := st.sl j y e
      rw [ea] at h1
      cases h1
      obtain ⟨m, d⟩ := y
      simp only at hy
      subst hy
      obtain ⟨b, eb, _, _, un⟩ := h2
      cases eb
      obtain ⟨o, ho, hc⟩ := un.there
      exact ho.at' (nt_cont hc)
    by_cases hj : i = j
    · by_cases hl : i = l
      · rw [← hj, ← hl]
      · exfalso
        subst hj
        rw [List.getElem?_set_ne hl] at el al
        rw [List.getElem?_set, if_pos rfl] at ej aj
        split at ej
        · rename_i hlt
          rw [if_pos (by rw [s1.len]; exact hlt)] at aj
          cases ej
          cases aj
          have h1 := k hy a rfl
          obtain ⟨o, h2, h3⟩ := key l z a el hz al
          exact h1 o h2 h3
        · cases ej
    · by_cases hl : i = l
      · exfalso
        subst hl
        rw [List.getElem?_set_ne hj] at ej aj
        rw [List.getElem?_set, if_pos rfl] at el al
        split at el
        · rename_i hlt
          rw [if_pos (by rw [s1.len]; exact hlt)] at al
          cases el
          cases al
          have h1 := k hz a rfl
          obtain ⟨o, h2, h3⟩ := key j y a ej hy aj
          exact h1 o h2 h3
        · cases el
      · rw [List.getElem?_set_ne hj] at ej aj
        rw [List.getElem?_set_ne hl] at el al
        exact st.ap j l y z a ej el hy hz aj al
def keepM (x : Val) : Bool := match x.m with
  | .fz | .nw => true
  | _ => false
theorem keepM_of {x : Val} (h : keepM x = true) : x.m = .fz ∨ x.m = .nw := by
  obtain ⟨m, d⟩ := x
  cases m <;> first | exact .inl rfl | exact .inr rfl | (simp [keepM] at h)
def sSet (i : Nat) (f : DE) : DS := fun ρ w => (f ρ w).thn ρ fun x w => if keepM x then .next (ρ.set i (some x)) w else .bad
theorem ev_set {i : Nat} (ha : EvE P H0 Wi ta fa) : EvS P H0 Wi (tAsg ta (gName i)) (sSet i fa) := by
  intro σ H G ws ρ w D st h
  unfold sSet at h
  refine ha σ H G ws ρ w _ st (postE_of st h fun x w' _ h v H1 G1 ws1 n r k => ?_)
  split at h
  · rename_i hm
    exact h _ _ _ _ (st.set n r k (keepM_of hm)) n.mon
  · exact h.elim
/-- a tuple's parts are stored -/
def gNames : List Nat → TGs
  | [] => gNil
  | i :: r => gCons (gName i) (gNames r)
def setAll : List Nat → List D → Env → Env
  | i :: is, d :: ds, ρ => setAll is ds (ρ.set i (some (fz d)))
  | _, _, ρ => ρ
theorem St.setAll {e : En} {H G : Hp} {ws : Ws} {w : W} {K : PySem.W.Frag} {C : Ca} : ∀ {is : List Nat} {vs : List V} {ds : List D} {σ : L2.St} {ρ : Env}, St K C e σ H G ws ρ w → Reps K G (io ws) vs ds → is.length = ds.length → ∀ Q : L2.St → Hp → Prop, (∀ σ', St K C e σ' H G ws (DL.setAll is ds ρ) w → Q σ' H) → gNames is vs σ H Q
  | [], _, _, σ, ρ, st, .nil, _, Q, h => ⟨rfl, h σ st⟩
  | [], _, _, _, _, _, .cons _ _, hl, _, _ => by simp at hl
  | _ :: _, _, _, _, _, _, .nil, hl, _, _ => by simp at hl
  | i :: is, v :: vs, d :: ds, σ, ρ, st, .cons a b, hl, Q, h => by
    refine ⟨v, vs, rfl, ?_⟩
    exact St.setAll (st.set (x := fz d) (i := i) st.nx a fz_nw (.inl rfl)) b (by simpa using hl) Q fun σ' s' => h σ' s'
def sSetT (is : List Nat) (f : DE) : DS := fun ρ w => (f ρ w).thn ρ fun x w => match x.d with
  | .tup ds => if is.length = ds.length then .next (setAll is ds ρ) w else .bad
  | _ => .bad
theorem ev_setT {is : List Nat} (ha : EvE P H0 Wi ta fa) : EvS P H0 Wi (tAsg ta (gTup P.K is.length (gNames is))) (sSetT is fa) := by
  intro σ H G ws ρ w D st h
  unfold sSetT at h
  refine ha σ H G ws ρ w _ st (postE_of st h fun x w' _ h v H1 G1 ws1 n r k => ?_)
  obtain ⟨m, d⟩ := x
  cases d <;> try exact h.elim
  rename_i ds
  obtain ⟨a, vs, rfl, _, q1, r1⟩ := rv_tup n.sub r
  dsimp only at h
  split at h
  · rename_i hl
    exact ⟨a, vs, rfl, q1, by rw [r1.length, hl], St.setAll (st.next n) r1 hl _ fun σ' s' => h σ' H1 G1 ws1 s' n.mon⟩
  · exact h.elim
def sExpr (f : DE) : DS := fun ρ w => (f ρ w).thn ρ fun _ w => .next ρ w
def sRet (f : DE) : DS := fun ρ w => (f ρ w).thn ρ fun x w => if keepM x then .ret x w else .bad
theorem ev_ret (ha : EvE P H0 Wi ta fa) : EvS P H0 Wi (tRet ta) (sRet fa) := by
  intro σ H G ws ρ w D st h
  unfold sRet at h
  refine ha σ H G ws ρ w _ st (postE_of st h fun x w' _ h v H1 G1 ws1 n r k => ?_)
  split at h
  · rename_i hm
    exact h v H1 G1 ws1 (st.nx0.trans n) r (newOk_back (P := P) st.nx0 k) (keepM_of hm)
  · exact h.elim
/-- return name -/
def sRetV (i : Nat) : DS := fun ρ w => match ρ[i]? with
  | some (some x) => .ret x w
  | _ => .bad
theorem ev_retV {i : Nat} : EvS P H0 Wi (tRet (tVar i)) (sRetV i) := by
  intro σ H G ws ρ w D st h
  unfold sRetV at h
  cases e : ρ[i]? with
  | none => rw [e] at h; exact h.elim
  | some o =>
    cases o with
    | none => rw [e] at h; exact h.elim
    | some x =>
      rw [e] at h
      obtain ⟨v, h1, h2, h3⟩ := st.sl i x e
      refine ⟨v, h1, h v H G ws st.nx0 h2 (fun hm a ea => ?_) h3⟩
      subst ea
      exact st.own i x a e hm h1
variable {tA : TT} {fA : DT}
def sIf (c : DT) (g h : DS) : DS := fun ρ w => (c ρ w).thn ρ fun b w => if b then g ρ w else h ρ w
theorem ev_sif (hc : EvT P H0 Wi tA fA) (h1 : EvS P H0 Wi ts gs) (h2 : EvS P H0 Wi us hs) : EvS P H0 Wi (tIfS tA ts us) (sIf fA gs hs) := by
  intro σ H G ws ρ w D st h
  unfold sIf at h
  refine hc σ H G ws ρ w _ st (postT_of st h fun b w' _ h H1 G1 ws1 n => ?_)
  cases b with
  | true => exact iteT (h1 σ H1 G1 ws1 ρ w' D (st.next n) (PostS.after n.mon h))
  | false => exact iteF (h2 σ H1 G1 ws1 ρ w' D (st.next n) (PostS.after n.mon h))
/-- a slot's own list is given away: from here on it stays as it is -/
def sFrz (i : Nat) (g : DS) : DS := fun ρ w => match ρ[i]? with
  | some (some x) => g (ρ.set i (some (fz x.d))) w
  | _ => .bad
theorem ev_frz {i : Nat} (h1 : EvS P H0 Wi ts gs) : EvS P H0 Wi ts (sFrz i gs) := by
  intro σ H G ws ρ w D st h
  unfold sFrz at h
  cases e : ρ[i]? with
  | none => rw [e] at h; exact h.elim
  | some o =>
    cases o with
    | none => rw [e] at h; exact h.elim
    | some x =>
      rw [e] at h
      dsimp only at h
      obtain ⟨v, e1, r, hm⟩ := st.sl i x e
      have hl : i < ρ.length := (List.getElem?_eq_some_iff.mp e).1
      -- the slot's value stays; the ghost heap takes it up
      obtain ⟨G2, sg, n2, rp, f2⟩ := freeze1 st.nx0 r (fun hm a ea => by subst ea; exact st.own i x a e hm e1) hm
      have nx : ∀ (j : Nat) y, ρ[j]? = some (some y) → j ≠ i → ∃ u, σ[j]? = some (some u) ∧ RV P.K G2 H ws u y ∧ (y.m = .fz ∨ y.m = .nw) := fun j y ej hj => by
        obtain ⟨u, h1, h2, h3⟩ := st.sl j y ej
        refine ⟨u, h1, h2.gmono sg fun hy a ea ga => f2 a (fun hx ev => hj ?_) ga, h3⟩
        subst ea
        have hyn : y.m = .nw := by rcases h3 with z | z; exact absurd z hy; exact z
        exact st.ap j i y x a ej e hyn hx h1 (by rw [e1, ev])
      refine h1 σ H G2 ws (ρ.set i (some (fz x.d))) w D ⟨n2, by rw [List.length_set]; exact st.len, fun j y ej => ?_, fun j y a ej hy ea => ?_, fun j l y z a ej el hy hz aj al => ?_⟩ (PostS.after ⟨sg, List.prefix_refl _, Stab.refl _, Nat.le_refl _, fun _ => rfl⟩ h)
      · by_cases hj : i = j
        · subst hj
          rw [List.getElem?_set, if_pos rfl, if_pos hl] at ej
          cases ej
          exact ⟨v, e1, rp, .inl rfl⟩
        · rw [List.getElem?_set_ne hj] at ej
          exact nx j y ej (Ne.symm hj)
      · by_cases hj : i = j
        · subst hj
          rw [List.getElem?_set, if_pos rfl, if_pos hl] at ej
          cases ej
          cases hy
        · rw [List.getElem?_set_ne hj] at ej
          exact st.own j y a ej hy ea
      · by_cases hj : i = j
        · subst hj
          rw [List.getElem?_set, if_pos rfl, if_pos hl] at ej
          cases ej
          cases hy
        · by_cases hk : i = l
          · subst hk
            rw [List.getElem?_set, if_pos rfl, if_pos hl] at el
            cases el
            cases hz
          · rw [List.getElem?_set_ne hj] at ej
            rw [List.getElem?_set_ne hk] at el
            exact st.ap j l y z a ej el hy hz aj al
end
end DL
namespace DL
open PySem L2
section
variable {P : Pm} {H0 : En} {Wi : WX} {ta tb tc : TE} {fa fb fc : DE} {ts us : TS} {gs hs : DS}
/-- the thing that a slot owns, changed -/
theorem St.mut {K : PySem.W.Frag} {C : Ca} {e : En} {σ : L2.St} {H G : Hp} {ws : Ws} {ρ : Env} {w : W} {i : Nat} {a : Addr} {x : Val} {d' : D} {o' : HO} (st : St K C e σ H G ws ρ w) (ei : ρ[i]? = some (some x)) (hm : x.m = .nw) (ea : σ[i]? = some (some (.ref a)))
    (hoa : ∃ o, H a = some o ∧ Cont o) (co' : Cont o') (u : Unf K G (upd H a o') (io ws) a d') : St K C e σ (upd H a o') G ws (ρ.set i (some ⟨.nw, d'⟩)) w := by
  obtain ⟨v, e1, r, _⟩ := st.sl i x ei
  rw [ea] at e1
  cases e1
  have e0 : Fr e.H a := st.own i x a ei hm ea
  have hr : G a = none ∧ a ∉ regs ws ∧ ∃ o, H a = some o ∧ Cont o := by
    obtain ⟨m, d⟩ := x
    simp only at hm
    subst hm
    obtain ⟨b, eb, g, nr, un⟩ := r
    cases eb
    exact ⟨g, nr, hoa⟩
  have no' : Nt o' := nt_cont co'
  obtain ⟨oa, ha1, ha2⟩ := hr.2.2
  have hl : i < ρ.length := (List.getElem?_eq_some_iff.mp ei).1
  have hne : ∀ b o, H b = some o → b ≠ a → upd H a o' b = some o := fun b o h n => by rw [upd_ne n]; exact h
  have hneL : ∀ b o, Lk H b o → b ≠ a → Lk (upd H a o') b o := fun b o h n => by
    rcases h with h | ⟨h, q, e⟩
    · exact .inl (hne b o h n)
    · exact .inr ⟨h, q, hne b _ e n⟩
  have nreg : ∀ b ∈ regs ws, b ≠ a := fun b hb z => hr.2.1 (by rw [← z]; exact hb)
  have ncap : ∀ b o, e.H b = some o → Nt o → e.G b = none → G b = none ∨ ∃ xs, upd H a o' b = some (.tup xs) := fun b o h no gb => by
    rcases st.nx0.nocap b o h no gb with z | ⟨xs, z⟩
    · exact .inl z
    · by_cases hba : b = a
      · subst hba; exact .inl hr.1
      · exact .inr ⟨xs, by rw [upd_ne hba]; exact z⟩
  refine ⟨⟨st.nx0.gg, fun b o h => ?_, ⟨paired_imp st.rw.obs fun q o hq ⟨⟨dx, e⟩, p⟩ => ⟨⟨dx, hne _ _ e (nreg _ (regs_mem hq).1)⟩, paired_imp p fun y z hy ⟨e, f⟩ => ⟨e, f.move (fun _ _ h => h) (List.prefix_refl _) fun b o eb hb => hneL b o hb (nreg b ((regs_mem hq).2 b (refs_mem hy eb)))⟩⟩, st.rw.nn, st.rw.nd, st.rw.out, tabs_upd st.rw.tb ha1 (nt_cont ha2) (nx_cont ha2), st.rw.nt, ul_upd st.rw (fun _ _ h => h) (nf_cont co'), st.rw.lkw, lkh_cont st.rw ha1 (nf_cont ha2)⟩, fun b o h no n => ?_, fun b o h no => ?_, fun b o h no gb => ncap b o h no gb, st.nx0.io, st.nx0.fresh, st.nx0.le, fun h => ?_, st.nx0.stb⟩, by rw [List.length_set]; exact st.len, fun j y ej => ?_, fun j y b ej hy eb => ?_, fun j l y z b ej el hy hz bj bl => ?_⟩
  · exact hneL b o (st.sub b o h) (ne_of_none h hr.1)
  · exact hneL b o (st.nx0.keep b o h no n) (by obtain ⟨o1, e1, n1⟩ := h.at' no; exact e0.ne e1 n1)
  · by_cases hb : b = a
    · subst hb; rw [upd_same]; exact ⟨o', rfl, no'⟩
    · rw [upd_ne hb]; exact st.nx0.alive b o h no
  · obtain ⟨e2, k⟩ := st.nx0.qt h
    exact ⟨e2, fun b hb o h => hneL b o (k b hb o h) (nreg b (e2 ▸ hb))⟩
  · by_cases hj : i = j
    · subst hj
      rw [List.getElem?_set, if_pos rfl, if_pos hl] at ej
      cases ej
      exact ⟨.ref a, ea, ⟨a, rfl, hr.1, hr.2.1, u⟩, .inr rfl⟩
    · rw [List.getElem?_set_ne hj] at ej
      obtain ⟨v, h1, h2, h3⟩ := st.sl j y ej
      refine ⟨v, h1, ?_, h3⟩
      obtain ⟨m, d⟩ := y
      rcases h3 with z | z
      · simp only at z; subst z; exact h2
      · simp only at z; subst z
        obtain ⟨b, eb, g, nr, un⟩ := h2
        subst eb
        exact ⟨b, rfl, g, nr, un.move (fun _ _ h => h) (List.prefix_refl _) fun o h => hneL b o h fun z => hj (st.ap i j x _ a ei ej hm rfl ea (by rw [h1, z]))⟩
  · by_cases hj : i = j
    · subst hj
      rw [ea] at eb
      cases eb
      exact e0
    · rw [List.getElem?_set_ne hj] at ej
      exact st.own j y b ej hy eb
  · by_cases hj : i = j
    · subst hj
      by_cases hk : i = l
      · exact hk
      · rw [List.getElem?_set_ne hk] at el
        rw [ea] at bj
        cases bj
        exact st.ap i l x z a ei el hm hz ea bl
    · by_cases hk : i = l
      · subst hk
        rw [List.getElem?_set_ne hj] at ej
        rw [ea] at bl
        cases bl
        exact st.ap j i y x a ej ei hy hm bj ea
      · rw [List.getElem?_set_ne hj] at ej
        rw [List.getElem?_set_ne hk] at el
        exact st.ap j l y z b ej el hy hz bj bl
/-- the list that slot i owns -/
def ownL (ρ : Env) (i : Nat) : Option (List D) := match ρ[i]? with
  | some (some ⟨.nw, .lst ds⟩) => some ds
  | _ => none
theorem ownL_of {ρ : Env} {i : Nat} {ds : List D} (h : ownL ρ i = some ds) : ρ[i]? = some (some ⟨.nw, .lst ds⟩) := by
  unfold ownL at h
  split at h
  · rename_i ds' e
    cases h
    exact e
  · cases h
theorem St.list {K : PySem.W.Frag} {C : Ca} {e : En} {σ : L2.St} {H G : Hp} {ws : Ws} {ρ : Env} {w : W} {i : Nat} {ds : List D} (st : St K C e σ H G ws ρ w) (h : ρ[i]? = some (some ⟨.nw, .lst ds⟩)) : ∃ a vs, σ[i]? = some (some (.ref a)) ∧ H a = some (.lst vs) ∧ Reps K G (io ws) vs ds ∧ G a = none ∧ a ∉ regs ws := by
  obtain ⟨v, e1, r, _⟩ := st.sl i _ h
  obtain ⟨a, rfl, g, nr, u⟩ := r
  cases u with
  | lst q r => exact ⟨a, _, e1, q, r, g, nr⟩
/-- xs.append(e) -/
def sApp (i : Nat) (f : DE) : DS := fun ρ w => match ownL ρ i with
  | some ds => (f ρ w).thn ρ fun x w => if keepM x ∧ ds.length < sizeLine then .next (ρ.set i (some ⟨.nw, .lst (ds ++ [x.d])⟩)) w else .bad
  | none => .bad
/-- a value frozen within a body -/
theorem St.frzV {e : En} {σ : L2.St} {H G : Hp} {ws : Ws} {ρ : Env} {w : W} {H1 G1 : Hp} {ws1 : Ws} {w1 : W} {v : V} {x : Val} (st : St P.K P.C e σ H G ws ρ w) (n : Nx P.K P.C G H ws G1 H1 ws1 w1) (r : RV P.K G1 H1 ws1 v x) (k : NewOk H v x) (hm : keepM x = true) :
    ∃ G2, Same G1 G2 ∧ Nx P.K P.C G H ws G2 H1 ws1 w1 ∧ Rep P.K G2 (io ws1) v x.d := by
  obtain ⟨G2, a, b, c, _⟩ := freeze1 n r k (keepM_of hm)
  exact ⟨G2, a, b, c⟩
theorem ev_app {i : Nat} (ha : EvE P H0 Wi ta fa) : EvS P H0 Wi (tDrop (tBM P.K "list" rAppend (tVar i) (tCons ta tNil))) (sApp i fa) := by
  intro σ H G ws ρ w D st h
  unfold sApp at h
  cases eo : ownL ρ i with
  | none => rw [eo] at h; exact h.elim
  | some ds =>
    rw [eo] at h
    dsimp only at h
    have ei := ownL_of eo
    obtain ⟨a, vs, ea, hH, _, _, _⟩ := st.list ei
    refine ⟨.ref a, ea, .inl ⟨rfl, vs, SqL.of hH⟩, ?_⟩
    refine ha σ H G ws ρ w _ st (postE_of st h fun x w' _ h v H1 G1 ws1 n r k => ?_)
    split at h
    · rename_i hc
      obtain ⟨G2, sg, n2, rp⟩ := st.frzV n r k hc.1
      have st2 := st.next n2
      obtain ⟨a2, vs2, ea2, hH2, rs2, _, _⟩ := st2.list ei
      rw [ea] at ea2
      cases ea2
      exact ⟨a, vs2, v, rfl, rfl, hH2, by rw [rs2.length]; exact hc.2, h σ _ G2 ws1 (st2.mut ei rfl ea ⟨_, hH2, trivial⟩ trivial (.lst upd_same (rs2.append (.cons rp .nil)))) n2.mon⟩
    · exact h.elim
/-- xs.extend(e), e a list -/
def sExt (i : Nat) (f : DE) : DS := fun ρ w => match ownL ρ i with
  | some ds => (f ρ w).thn ρ fun x w => match x.d with
    | .lst es => if ds.length + es.length ≤ sizeLine then .next (ρ.set i (some ⟨.nw, .lst (ds ++ es)⟩)) w else .bad
    | _ => .bad
  | none => .bad
theorem ev_ext {i : Nat} (ha : EvE P H0 Wi ta fa) : EvS P H0 Wi (tDrop (tBM P.K "list" rExtend (tVar i) (tCons ta tNil))) (sExt i fa) := by
  intro σ H G ws ρ w D st h
  unfold sExt at h
  cases eo : ownL ρ i with
  | none => rw [eo] at h; exact h.elim
  | some ds =>
    rw [eo] at h
    dsimp only at h
    have ei := ownL_of eo
    obtain ⟨a, vs, ea, hH, _, _, _⟩ := st.list ei
    refine ⟨.ref a, ea, .inl ⟨rfl, vs, SqL.of hH⟩, ?_⟩
    refine ha σ H G ws ρ w _ st (postE_of st h fun x w' _ h v H1 G1 ws1 n r k => ?_)
    obtain ⟨m, d⟩ := x
    cases d <;> try exact h.elim
    rename_i es
    obtain ⟨b, us, rfl, hb, rs⟩ := rv_lst n.sub r
    dsimp only at h
    split at h
    · rename_i hc
      have st2 := st.next n
      obtain ⟨a2, vs2, ea2, hH2, rs2, _, _⟩ := st2.list ei
      rw [ea] at ea2
      cases ea2
      exact ⟨a, b, vs2, us, rfl, rfl, hH2, hb, by rw [rs2.length, rs.length]; exact hc, h σ _ G1 ws1 (st2.mut ei rfl ea ⟨_, hH2, trivial⟩ trivial (.lst upd_same (rs2.append rs))) n.mon⟩
    · exact h.elim
/-- xs[k] = e -/
def sPut (i : Nat) (fk fv : DE) : DS := fun ρ w => (fv ρ w).thn ρ fun x w => match ownL ρ i with
  | some ds => if keepM x then (fk ρ w).thn ρ fun k w => match k.d with
    | .int j => match ixN ds.length j with
      | some n => .next (ρ.set i (some ⟨.nw, .lst (ds.set n x.d)⟩)) w
      | none => .bad
    | _ => .bad
    else .bad
  | none => .bad
end
end DL
namespace DL
open PySem L2
/-! ### what is walked -/
structure ItOk (P : Pm) (J : It) (Ok : Hp → Hp → Ws → Prop) (ds : List D) : Prop where
  go : ∀ G H ws (i : Nat) d, Ok G H ws → ds[i]? = some d → J.go i H
  yl : ∀ G H ws w (i : Nat) d x H', Ok G H ws → Sm G H → RelW P.K P.C G H ws w → ds[i]? = some d → J.yld i H x H' → ∃ G', Nx P.K P.C G H ws G' H' ws w ∧ Rep P.K G' (io ws) x d
  st : ∀ G H ws, Ok G H ws → J.stop ds.length H
def OkF (G1 : Hp) (ws1 : Ws) : Hp → Hp → Ws → Prop := fun G H ws => Same G1 G ∧ Sm G H ∧ io ws1 <+: io ws
def OkQ (P : Pm) (G1 H1 : Hp) (ws1 : Ws) : Hp → Hp → Ws → Prop := fun G H ws => ∃ w, Nx P.K P.C G1 H1 ws1 G H ws w ∧ ws.n = ws1.n
/-- frozen, or only as long as nothing is stored -/
def OkA (P : Pm) (fr : Bool) (G1 H1 : Hp) (ws1 : Ws) : Hp → Hp → Ws → Prop := if fr then OkF G1 ws1 else OkQ P G1 H1 ws1
abbrev DI := Env → W → R (List D × Bool)
def PostI (P : Pm) (E : Value → Option Addr → Hp → Prop) (H G : Hp) (ws : Ws) (Q : It → Hp → Prop) : R (List D × Bool) → Prop
  | .ok x w' => ∀ J H' G' ws', Nx P.K P.C G H ws G' H' ws' w' → ItOk P J (OkA P x.2 G' H' ws') x.1 → Q J H'
  | .ex x w' => ∀ cls d H' G' ws', Nx P.K P.C G H ws G' H' ws' w' → XRel P.K P.cm G' H' (io ws') x cls d → E cls d H'
  | .bad => False
def EvI (P : Pm) (H0 : En) (Wi : WX) (ti : TI) (f : DI) : Prop := ∀ σ H G ws ρ w (Q : It → Hp → Prop), St P.K P.C H0 σ H G ws ρ w → PostI P (fun c d H' => Wi c d σ H') H G ws Q (f ρ w) → ti σ H Q
section
variable {P : Pm} {H0 : En} {Wi : WX} {ta tb tc : TE} {fa fb fc : DE} {ts us : TS} {gs hs : DS} {tr : TA} {fr : DA}
/-- a list that is seen in every state that counts -/
theorem itl_ok {Ok : Hp → Hp → Ws → Prop} {a : Addr} {vs : List V} {ds : List D} (h : ∀ G H ws, Ok G H ws → SqL P.K H a vs ∧ Reps P.K G (io ws) vs ds) : ItOk P (Itl P.K a) Ok ds where
  go := fun G H ws i d ok e => by
    obtain ⟨h1, h2⟩ := h G H ws ok
    obtain ⟨v, hv, _⟩ := h2.getD e
    exact ⟨vs, v, h1, hv⟩
  yl := fun G H ws w i d x H' ok s r e y => by
    obtain ⟨h1, h2⟩ := h G H ws ok
    obtain ⟨v, hv, rp⟩ := h2.getD e
    obtain ⟨rfl, y⟩ := y
    have := y vs h1
    rw [hv] at this
    cases this
    exact ⟨G, Nx.refl s r, rp⟩
  st := fun G H ws ok => by
    obtain ⟨h1, h2⟩ := h G H ws ok
    exact ⟨vs, h1, by rw [h2.length]; exact Nat.le_refl _⟩
theorem itt_ok {Ok : Hp → Hp → Ws → Prop} {a : Addr} {vs : List V} {ds : List D} (h : ∀ G H ws, Ok G H ws → SqT P.K H a vs ∧ Reps P.K G (io ws) vs ds) : ItOk P (Itt P.K a) Ok ds where
  go := fun G H ws i d ok e => by
    obtain ⟨h1, h2⟩ := h G H ws ok
    obtain ⟨v, hv, _⟩ := h2.getD e
    exact ⟨vs, v, h1, hv⟩
  yl := fun G H ws w i d x H' ok s r e y => by
    obtain ⟨h1, h2⟩ := h G H ws ok
    obtain ⟨v, hv, rp⟩ := h2.getD e
    obtain ⟨rfl, y⟩ := y
    have := y vs h1
    rw [hv] at this
    cases this
    exact ⟨G, Nx.refl s r, rp⟩
  st := fun G H ws ok => by
    obtain ⟨h1, h2⟩ := h G H ws ok
    exact ⟨vs, h1, by rw [h2.length]; exact Nat.le_refl _⟩
/-- i, x of enumerate -/
def enumD : Nat → List D → List D
  | _, [] => []
  | i, d :: r => .tup [.int i, d] :: enumD (i + 1) r
theorem enumD_get : ∀ (ds : List D) (k i : Nat) (d : D), (enumD k ds)[i]? = some d → ∃ d', ds[i]? = some d' ∧ d = .tup [.int ((k + i : Nat) : Int), d']
  | [], _, _, _, h => by simp [enumD] at h
  | x :: r, k, 0, d, h => by simp [enumD] at h; subst h; exact ⟨x, rfl, rfl⟩
  | x :: r, k, i + 1, d, h => by
    obtain ⟨d', h1, h2⟩ := enumD_get r (k + 1) i d (by simpa [enumD] using h)
    refine ⟨d', by simpa using h1, ?_⟩
    rw [h2]
    congr 3
    omega
theorem enumD_len : ∀ (ds : List D) (k : Nat), (enumD k ds).length = ds.length
  | [], _ => rfl
  | x :: r, k => by simp [enumD, enumD_len r]
theorem ite_ok {Ok : Hp → Hp → Ws → Prop} {a : Addr} {vs : List V} {ds : List D} (h : ∀ G H ws, Ok G H ws → SqL P.K H a vs ∧ Reps P.K G (io ws) vs ds) : ItOk P (Ite P.K a) Ok (enumD 0 ds) where
  go := fun G H ws i d ok e => by
    obtain ⟨h1, h2⟩ := h G H ws ok
    obtain ⟨d', e1, _⟩ := enumD_get ds 0 i d e
    obtain ⟨v, hv, _⟩ := h2.getD e1
    exact ⟨vs, v, h1, hv⟩
  yl := fun G H ws w i d x H' ok s r e y => by
    obtain ⟨h1, h2⟩ := h G H ws ok
    obtain ⟨d', e1, rfl⟩ := enumD_get ds 0 i d e
    obtain ⟨v, hv, rp⟩ := h2.getD e1
    obtain ⟨T, u, rfl, hT, rfl, y⟩ := y
    have := y vs h1
    rw [hv] at this
    cases this
    have n := Nx.put s r (o := .tup [.int (i : Nat), v]) hT
    refine ⟨_, n, .tup (.inl (.inl upd_same)) (.cons ?_ (.cons (rp.mono n.gg (List.prefix_refl _)) .nil))⟩
    rw [Nat.zero_add]
    exact .int _
  st := fun G H ws ok => by
    obtain ⟨h1, h2⟩ := h G H ws ok
    exact ⟨vs, h1, by rw [h2.length, enumD_len]; exact Nat.le_refl _⟩
/-- a value's list, as it is walked -/
theorem rv_walk {H G H1 G1 : Hp} {ws ws1 : Ws} {w1 : W} {v : V} {m : Md} {ds : List D} (n : Nx P.K P.C G H ws G1 H1 ws1 w1) (r : RV P.K G1 H1 ws1 v ⟨m, .lst ds⟩) (k : NewOk H v ⟨m, .lst ds⟩) :
    ∃ a vs G2, v = .ref a ∧ H1 a = some (.lst vs) ∧ Nx P.K P.C G H ws G2 H1 ws1 w1 ∧ ∀ G' H' ws', OkA P (keepM ⟨m, .lst ds⟩) G2 H1 ws1 G' H' ws' → SqL P.K H' a vs ∧ Reps P.K G' (io ws') vs ds := by
  have fin : (m = .fz ∨ m = .nw) → ∃ a vs G2, v = .ref a ∧ H1 a = some (.lst vs) ∧ Nx P.K P.C G H ws G2 H1 ws1 w1 ∧ ∀ G' H' ws', OkF G2 ws1 G' H' ws' → SqL P.K H' a vs ∧ Reps P.K G' (io ws') vs ds := fun hm => by
    obtain ⟨G2, sg, n2, rp, _⟩ := freeze1 n r k hm
    cases rp with
    | lst q r2 => exact ⟨_, _, G2, rfl, n2.sub.eq q, n2, fun G' H' ws' ⟨s1, s2, io⟩ => ⟨SqL.of (s2.eq (s1 _ _ q)), r2.mono s1 io⟩⟩
  cases m with
  | fz => exact fin (.inl rfl)
  | nw => exact fin (.inr rfl)
  | bo =>
    obtain ⟨a, rfl, g, nr, u⟩ := r
    cases u with
    | lst q r2 =>
      refine ⟨a, _, G1, rfl, q, n, fun G' H' ws' ok => ?_⟩
      obtain ⟨w', n', _⟩ : OkQ P G1 H1 ws1 G' H' ws' := ok
      exact ⟨SqL.of (n'.keep _ _ (.inl q) nt_lst nr).eq, r2.mono n'.gg n'.io⟩
  | wd =>
    obtain ⟨a, rfl, g, hr, u⟩ := r
    cases u with
    | lst q r2 =>
      refine ⟨a, _, G1, rfl, q, n, fun G' H' ws' ok => ?_⟩
      obtain ⟨w', n', e⟩ : OkQ P G1 H1 ws1 G' H' ws' := ok
      exact ⟨SqL.of ((n'.qt e).2 a hr _ (.inl q)).eq, r2.mono n'.gg n'.io⟩
def iE (f : DE) : DI := fun ρ w => (f ρ w).bind fun x w => match x.d with
  | .lst ds => .ok (enumD 0 ds, keepM x) w
  | _ => .bad
theorem ev_iE (ha : EvE P H0 Wi ta fa) : EvI P H0 Wi (iEnum P.K (tCons ta tNil)) (iE fa) := by
  intro σ H G ws ρ w Q st h
  unfold iE at h
  refine ha σ H G ws ρ w _ st ?_
  cases e : fa ρ w with
  | bad => rw [e] at h; exact h
  | ex x w' => rw [e] at h; exact h
  | ok x w' =>
    intro v H1 G1 ws1 n1 r1 k1
    rw [e] at h
    obtain ⟨m, d⟩ := x
    cases d <;> try exact h.elim
    obtain ⟨a, vs, G2, rfl, hH, n2, hp⟩ := rv_walk n1 r1 k1
    exact ⟨a, vs, rfl, SqL.of hH, h (Ite P.K a) H1 G2 ws1 n2 (ite_ok hp)⟩
/-- range(j), range(i, j) -/
def rngD (lo : Int) (n : Nat) : List D := (List.range n).map fun (k : Nat) => .int (lo + (k : Int))
theorem itr_ok {Ok : Hp → Hp → Ws → Prop} (lo : Int) (n : Nat) : ItOk P (Itr lo n) Ok (rngD lo n) where
  go := fun G H ws i d ok e => by
    have := (List.getElem?_eq_some_iff.mp e).1
    show i < n
    simpa [rngD] using this
  yl := fun G H ws w i d x H' ok s r e y => by
    obtain ⟨rfl, rfl⟩ := y
    refine ⟨G, Nx.refl s r, ?_⟩
    have hi : i < n := by have := (List.getElem?_eq_some_iff.mp e).1; simpa [rngD] using this
    have : d = .int (lo + i) := by
      unfold rngD at e
      rw [List.getElem?_map, List.getElem?_range hi] at e
      exact (Option.some.inj e).symm
    rw [this]
    exact .int _
  st := fun G H ws ok => by
    show n ≤ (rngD lo n).length
    simp [rngD]
noncomputable def iR1 (f : DA) : DI := fun ρ w => (f ρ w).bind fun xs w => match xs with
  | [⟨_, .int j⟩] => if RO j then .ok (rngD 0 j.toNat, true) w else .bad
  | _ => .bad
noncomputable def iR2 (f : DA) : DI := fun ρ w => (f ρ w).bind fun xs w => match xs with
  | [⟨_, .int i⟩, ⟨_, .int j⟩] => if RO2 i j then .ok (rngD i (j - i).toNat, true) w else .bad
  | _ => .bad
theorem ev_iR1 (ha : EvA P H0 Wi tr fr) : EvI P H0 Wi (iRng1 tr) (iR1 fr) := by
  intro σ H G ws ρ w Q st h
  unfold iR1 at h
  refine ha σ H G ws ρ w _ st ?_
  cases e : fr ρ w with
  | bad => rw [e] at h; exact h
  | ex x w' => rw [e] at h; exact h
  | ok xs w' =>
    intro vs H1 G1 ws1 n1 r1 k1
    rw [e] at h
    match xs, r1, h with
    | [⟨m, .int j⟩], r1, h =>
      obtain ⟨v, rfl, hv⟩ := rvs1 r1
      have := rv_int hv
      subst this
      have h : PostI P (fun c d H' => Wi c d σ H') H G ws Q (if RO j then .ok (rngD 0 j.toNat, true) w' else .bad) := h
      split at h
      · rename_i hc
        exact ⟨j, rfl, hc.1, hc.2, h _ H1 G1 ws1 n1 (itr_ok 0 j.toNat)⟩
      · exact h.elim
/-- the signs of a text -/
def sgnD (x : Str) : List D := x.cps.toList.map fun c => .str ⟨#[c]⟩
theorem its_ok {Ok : Hp → Hp → Ws → Prop} (x : Str) : ItOk P (Its x) Ok (sgnD x) where
  go := fun G H ws i d ok e => by
    have := (List.getElem?_eq_some_iff.mp e).1
    show i < x.cps.size
    simpa [sgnD] using this
  yl := fun G H ws w i d v H' ok s r e y => by
    obtain ⟨rfl, c, hc, rfl⟩ := y
    refine ⟨G, Nx.refl s r, ?_⟩
    have : d = .str ⟨#[c]⟩ := by
      unfold sgnD at e
      rw [List.getElem?_map] at e
      have hc' : x.cps.toList[i]? = some c := by simpa using hc
      rw [hc'] at e
      exact (Option.some.inj e).symm
    rw [this]
    exact .str _
  st := fun G H ws ok => by
    show x.cps.size ≤ (sgnD x).length
    simp [sgnD]
/-! ### targets -/
inductive Tg where
  | nm (i : Nat) | tp (is : List Nat) | np (k : Nat) (is : List Nat)
def gT (K : PySem.W.Frag) : Tg → TG
  | .nm i => gName i
  | .tp is => gTup K is.length (gNames is)
  | .np k is => gTup K 2 (gCons (gName k) (gCons (gTup K is.length (gNames is)) gNil))
def npD : D → Option (Int × List D)
  | .tup [.int i, .tup ds] => some (i, ds)
  | _ => none
def setT : Tg → D → Env → Option Env
  | .nm i, d, ρ => some (ρ.set i (some (fz d)))
  | .tp is, .tup ds, ρ => if is.length = ds.length then some (setAll is ds ρ) else none
  | .tp _, _, _ => none
  | .np k is, d, ρ => match npD d with
    | some (i, ds) => if is.length = ds.length then some (setAll is ds (ρ.set k (some (fz (.int i))))) else none
    | none => none
theorem ev_tg {e : En} {H G : Hp} {ws : Ws} {w : W} {σ : L2.St} {ρ ρ' : Env} {t : Tg} {v : V} {d : D} (st : St P.K P.C e σ H G ws ρ w) (r : Rep P.K G (io ws) v d) (h : setT t d ρ = some ρ') {Q : L2.St → Hp → Prop} (k : ∀ σ', St P.K P.C e σ' H G ws ρ' w → Q σ' H) : gT P.K t v σ H Q := by
  cases t with
  | nm i =>
    simp only [setT, Option.some.injEq] at h
    subst h
    exact k _ (st.set (x := fz d) (i := i) st.nx r fz_nw (.inl rfl))
  | tp is =>
    cases r <;> try (simp [setT] at h; done)
    rename_i a vs ds q rs
    simp only [setT] at h
    split at h
    · rename_i hl
      cases h
      exact ⟨a, vs, rfl, st.sub.sqT q, by rw [rs.length, hl], St.setAll st rs hl _ k⟩
    · cases h
  | np j is =>
    simp only [setT] at h
    cases e : npD d with
    | none => rw [e] at h; cases h
    | some z =>
      obtain ⟨i, ds⟩ := z
      rw [e] at h
      dsimp only at h
      split at h
      case isFalse => cases h
      rename_i hl
      cases h
      have ed : d = .tup [.int i, .tup ds] := by
        unfold npD at e
        split at e
        · cases e; rfl
        · cases e
      subst ed
      cases r with
      | tup q rs =>
        cases rs with
        | cons r1 rs => cases rs with
          | cons r2 rs =>
            cases rs
            cases r1
            cases r2 with
            | tup q2 rs2 =>
              refine ⟨_, _, rfl, st.sub.sqT q, rfl, ?_⟩
              refine ⟨_, _, rfl, ⟨_, _, rfl, ⟨_, _, rfl, st.sub.sqT q2, by rw [rs2.length, hl], ?_⟩⟩⟩
              have st2 := st.set (x := fz (.int i)) (i := j) st.nx (.int i) fz_nw (.inl rfl)
              exact St.setAll st2 rs2 hl _ fun σ' st' => ⟨rfl, k σ' st'⟩
/-! ### for -/
/-- the rest of a loop -/
def forL (t : Tg) (b : DS) : List D → Env → W → Out
  | [], ρ, w => .next ρ w
  | d :: ds, ρ, w => match setT t d ρ with
    | none => .bad
    | some ρ' => match b ρ' w with
      | .next ρ2 w2 => forL t b ds ρ2 w2
      | .cont ρ2 w2 => forL t b ds ρ2 w2
      | .brk ρ2 w2 => .next ρ2 w2
      | o => o
def sFor (f : DI) (t : Tg) (b : DS) : DS := fun ρ w => (f ρ w).thn ρ fun x w => if x.2 then forL t b x.1 ρ w else .bad
theorem ev_for {ti : TI} {fi : DI} {t : Tg} (hi : EvI P H0 Wi ti fi) (hb : EvS P H0 Wi ts gs) : EvS P H0 Wi (tFor ti (gT P.K t) ts) (sFor fi t gs) := by
  intro σ H G ws ρ w D st h
  unfold sFor at h
  refine hi σ H G ws ρ w _ st ?_
  cases e : fi ρ w with
  | bad => rw [e] at h; exact h
  | ex x w' => rw [e] at h; exact fun cls d H' G' ws' n hx => h cls d σ H' G' ws' (st.next n) hx
  | ok x w' =>
    intro J H1 G1 ws1 n1 ok
    rw [e] at h
    obtain ⟨ds, fr⟩ := x
    have h : PostS P H0 Wi D G ws (if fr = true then forL t gs ds ρ w' else .bad) := h
    cases fr with
    | false => exact h.elim
    | true =>
      have h : PostS P H0 Wi D G1 ws1 (forL t gs ds ρ w') := PostS.after n1.mon h
      have ok : ItOk P J (OkF G1 ws1) ds := ok
      -- the invariant: what is left to be run ends as the whole does
      refine ⟨fun i m σ' H' => m = ds.length - i ∧ i ≤ ds.length ∧ ∃ G' ws' ρ' w2, St P.K P.C H0 σ' H' G' ws' ρ' w2 ∧ Mon G1 ws1 G' ws' ∧ PostS P H0 Wi D G' ws' (forL t gs (ds.drop i) ρ' w2), ⟨ds.length, by simp, Nat.zero_le _, G1, ws1, ρ, w', st.next n1, .refl, h⟩, ?_⟩
      rintro i m σ' H' ⟨rfl, hi, G', ws', ρ', w2, st', mo, hp⟩
      by_cases hlt : i < ds.length
      · have ed : ds[i]? = some ds[i] := by simp [hlt]
        have edrop : ds.drop i = ds[i] :: ds.drop (i + 1) := List.drop_eq_getElem_cons hlt
        rw [edrop] at hp
        simp only [forL] at hp
        refine .inr ⟨ok.go G' H' ws' i _ ⟨mo.1, st'.sub, mo.2.1⟩ ed, fun σ3 H3 => ds.length - (i + 1) = ds.length - (i + 1) ∧ i + 1 ≤ ds.length ∧ ∃ G' ws' ρ' w2, St P.K P.C H0 σ3 H3 G' ws' ρ' w2 ∧ Mon G1 ws1 G' ws' ∧ PostS P H0 Wi D G' ws' (forL t gs (ds.drop (i + 1)) ρ' w2), fun σ3 H3 hn => ⟨ds.length - (i + 1), by omega, hn⟩, fun v H2 y => ?_⟩
        obtain ⟨G2, n2, rp⟩ := ok.yl G' H' ws' w2 i _ v H2 ⟨mo.1, st'.sub, mo.2.1⟩ st'.sub st'.rw ed y
        cases es : setT t ds[i] ρ' with
        | none => rw [es] at hp; exact hp.elim
        | some ρ3 =>
          rw [es] at hp
          dsimp only at hp
          refine ev_tg (st'.next n2) rp es fun σ3 st3 => ?_
          refine hb σ3 H2 G2 ws' ρ3 w2 _ st3 ?_
          have mo2 : Mon G1 ws1 G2 ws' := mo.trans n2.mon
          cases eb : gs ρ3 w2 with
          | bad => rw [eb] at hp; exact hp
          | ex x ρ4 w4 => rw [eb] at hp; exact hp
          | ret x w4 => rw [eb] at hp; exact hp
          | brk ρ4 w4 =>
            rw [eb] at hp
            exact fun σ4 H4 G4 ws4 st4 m4 => hp σ4 H4 G4 ws4 st4 (n2.mon.trans m4)
          | next ρ4 w4 =>
            rw [eb] at hp
            exact fun σ4 H4 G4 ws4 st4 m4 => ⟨rfl, hlt, G4, ws4, ρ4, w4, st4, mo2.trans m4, PostS.after (n2.mon.trans m4) hp⟩
          | cont ρ4 w4 =>
            rw [eb] at hp
            exact fun σ4 H4 G4 ws4 st4 m4 => ⟨rfl, hlt, G4, ws4, ρ4, w4, st4, mo2.trans m4, PostS.after (n2.mon.trans m4) hp⟩
      · have ei : i = ds.length := by omega
        subst ei
        refine .inl ⟨ok.st G' H' ws' ⟨mo.1, st'.sub, mo.2.1⟩, ?_⟩
        rw [List.drop_length] at hp
        exact hp σ' H' G' ws' st' .refl
end
end DL
namespace DL
open PySem L2
section
variable {P : Pm} {H0 : En} {Wi : WX} {ta tb tc : TE} {fa fb fc : DE} {ts us : TS} {gs hs : DS} {tA : TT} {fA : DT}
theorem ItOk.weak {J : It} {fr : Bool} {G1 H1 : Hp} {ws1 : Ws} {ds : List D} (h : ItOk P J (OkA P fr G1 H1 ws1) ds) : ItOk P J (OkQ P G1 H1 ws1) ds := by
  cases fr with
  | false => exact h
  | true =>
    have h : ItOk P J (OkF G1 ws1) ds := h
    have go : ∀ {G H ws}, OkQ P G1 H1 ws1 G H ws → OkF G1 ws1 G H ws := fun ⟨w, n, _⟩ => ⟨n.gg, n.sub, n.io⟩
    exact ⟨fun G H ws i d ok => h.go G H ws i d (go ok), fun G H ws w i d x H' ok => h.yl G H ws w i d x H' (go ok), fun G H ws ok => h.st G H ws (go ok)⟩
/-! ### comprehensions -/
def wipeD (ρ : Env) : List Nat → Env
  | [] => ρ
  | v :: vs => (wipeD ρ vs).set v none
theorem St.drop {K : PySem.W.Frag} {C : Ca} {e : En} {σ : L2.St} {H G : Hp} {ws : Ws} {ρ : Env} {w : W} (st : St K C e σ H G ws ρ w) (i : Nat) : St K C e (σ.set i none) H G ws (ρ.set i none) w := by
  have key : ∀ {j : Nat} {x : Val}, (ρ.set i none)[j]? = some (some x) → ρ[j]? = some (some x) ∧ i ≠ j := fun {j x} h => by
    by_cases hj : i = j
    · subst hj
      rw [List.getElem?_set, if_pos rfl] at h
      split at h <;> cases h
    · rw [List.getElem?_set_ne hj] at h
      exact ⟨h, hj⟩
  refine ⟨st.nx0, by rw [List.length_set, List.length_set]; exact st.len, fun j x h => ?_, fun j x a h hm ea => ?_, fun j l x y a hj hl hx hy aj al => ?_⟩
  · obtain ⟨h1, h2⟩ := key h
    rw [List.getElem?_set_ne h2]
    exact st.sl j x h1
  · obtain ⟨h1, h2⟩ := key h
    rw [List.getElem?_set_ne h2] at ea
    exact st.own j x a h1 hm ea
  · obtain ⟨h1, h2⟩ := key hj
    obtain ⟨h3, h4⟩ := key hl
    rw [List.getElem?_set_ne h2] at aj
    rw [List.getElem?_set_ne h4] at al
    exact st.ap j l x y a h1 h3 hx hy aj al
theorem St.wipe {K : PySem.W.Frag} {C : Ca} {e : En} {σ : L2.St} {H G : Hp} {ws : Ws} {ρ : Env} {w : W} (st : St K C e σ H G ws ρ w) : ∀ vs : List Nat, St K C e (L2.wipe σ vs) H G ws (wipeD ρ vs) w
  | [] => st
  | v :: vs => (St.wipe st vs).drop v
/-- what is stored into slots of vs does not count behind wipe -/
theorem wipe_set {σ : L2.St} {i : Nat} {x : Option V} : ∀ {vs : List Nat}, i ∈ vs → L2.wipe (σ.set i x) vs = L2.wipe σ vs
  | v :: vs, h => by
    unfold L2.wipe
    by_cases e : i = v
    · subst e
      by_cases hm : i ∈ vs
      · rw [wipe_set hm]
      · have go : ∀ (ws : List Nat), i ∉ ws → L2.wipe (σ.set i x) ws = (L2.wipe σ ws).set i x := by
          intro ws
          induction ws with
          | nil => intro _; rfl
          | cons u us ih =>
            intro hn
            unfold L2.wipe
            rw [ih (fun z => hn (List.mem_cons_of_mem _ z)), List.set_comm]
            intro z
            exact hn (by rw [z]; exact List.mem_cons_self)
        rw [go vs hm]
        simp
    · rw [wipe_set ((List.mem_cons.mp h).resolve_left e)]
theorem wipe_wipe {σ : L2.St} : ∀ (us vs : List Nat), (∀ i ∈ us, i ∈ vs) → L2.wipe (L2.wipe σ us) vs = L2.wipe σ vs
  | [], _, _ => rfl
  | u :: us, vs, h => by
    show L2.wipe ((L2.wipe σ us).set u none) vs = _
    rw [wipe_set (h u List.mem_cons_self)]
    exact wipe_wipe us vs fun i hi => h i (List.mem_cons_of_mem _ hi)
def tgs : Tg → List Nat
  | .nm i => [i]
  | .tp is => is
  | .np k is => k :: is
theorem gNames_w {is : List Nat} {σ : L2.St} {H : Hp} {Q : L2.St → Hp → Prop} {vs : List Nat} : ∀ {us : List V}, (∀ i ∈ is, i ∈ vs) → gNames is us σ H Q → gNames is us σ H (fun σ' H' => L2.wipe σ' vs = L2.wipe σ vs ∧ Q σ' H') := by
  induction is generalizing σ with
  | nil => intro us _ h; exact ⟨h.1, rfl, h.2⟩
  | cons i is ih =>
    intro us hs h
    obtain ⟨v, r, e, h⟩ := h
    refine ⟨v, r, e, ?_⟩
    have := ih (σ := σ.set i (some v)) (us := r) (fun j hj => hs j (List.mem_cons_of_mem _ hj)) h
    rw [wipe_set (hs i List.mem_cons_self)] at this
    exact this
theorem gT_w {K : PySem.W.Frag} {t : Tg} {v : V} {σ : L2.St} {H : Hp} {Q : L2.St → Hp → Prop} {vs : List Nat} (hs : ∀ i ∈ tgs t, i ∈ vs) (h : gT K t v σ H Q) : gT K t v σ H (fun σ' H' => L2.wipe σ' vs = L2.wipe σ vs ∧ Q σ' H') := by
  cases t with
  | nm i => exact ⟨wipe_set (hs i (by simp [tgs])), h⟩
  | tp is =>
    obtain ⟨a, xs, e, q, l, h⟩ := h
    exact ⟨a, xs, e, q, l, gNames_w hs h⟩
  | np j is =>
    obtain ⟨a, xs, e, q, l, v1, r1, e1, v2, r2, e2, a2, xs2, e3, q3, l3, h⟩ := h
    refine ⟨a, xs, e, q, l, v1, r1, e1, v2, r2, e2, a2, xs2, e3, q3, l3, ?_⟩
    have hj : L2.wipe (σ.set j (some v1)) vs = L2.wipe σ vs := wipe_set (hs j (by simp [tgs]))
    have := gNames_w (vs := vs) (fun i hi => hs i (by simp [tgs, hi])) h
    rw [hj] at this
    have mono : ∀ (is : List Nat) (us : List V) (σ0 : L2.St) (Q1 Q2 : L2.St → Hp → Prop), (∀ s, Q1 s H → Q2 s H) → gNames is us σ0 H Q1 → gNames is us σ0 H Q2 := by
      intro is
      induction is with
      | nil => intro us σ0 Q1 Q2 hq hh; exact ⟨hh.1, hq _ hh.2⟩
      | cons j js ih =>
        intro us σ0 Q1 Q2 hq hh
        obtain ⟨v, r, e, hh⟩ := hh
        exact ⟨v, r, e, ih _ _ _ _ hq hh⟩
    exact mono _ _ _ _ _ (fun s hs' => ⟨hs'.2.1, hs'.1, hs'.2.2⟩) this
/-- the rest of a comprehension: what it makes; the world stays -/
def lcL (t : Tg) (c : DT) (f : DE) : List D → Env → W → R (List D)
  | [], _, w => .ok [] w
  | d :: ds, ρ, w => match setT t d ρ with
    | none => .bad
    | some ρ' => match c ρ' w with
      | .ok b w2 => if w2.n = w.n then (if b then (match f ρ' w2 with
        | .ok x w3 => if keepM x ∧ w3.n = w.n then (match lcL t c f ds ρ w3 with
          | .ok r w4 => .ok (x.d :: r) w4
          | _ => .bad) else .bad
        | _ => .bad) else lcL t c f ds ρ w2) else .bad
      | _ => .bad
def tYesD : DT := fun _ w => .ok true w
def dLc (fi : DI) (t : Tg) (c : DT) (f : DE) (vs : List Nat) : DE := fun ρ w => (fi ρ w).bind fun x w1 => if x.1.length ≤ sizeLine then (match lcL t c f x.1 (wipeD ρ vs) w1 with
  | .ok r w2 => .ok ⟨.nw, .lst r⟩ w2
  | _ => .bad) else .bad
theorem ev_yes : EvT P H0 Wi tYes tYesD := fun σ H G ws ρ w Q st h => h H G ws st.nx
theorem ev_lc {ti : TI} {fi : DI} {t : Tg} {vs : List Nat} (hi : EvI P H0 Wi ti fi) (hc : EvT P H0 (fun _ _ _ _ => False) tA fA) (he : EvE P H0 (fun _ _ _ _ => False) ta fa) (hv : ∀ i ∈ tgs t, i ∈ vs) : EvE P H0 Wi (tLc ti (gT P.K t) tA ta vs) (dLc fi t fA fa vs) := by
  intro σ H G ws ρ w Q st h
  unfold dLc at h
  refine hi σ H G ws ρ w _ st ?_
  cases e : fi ρ w with
  | bad => rw [e] at h; exact h
  | ex x w' => rw [e] at h; exact h
  | ok x w' =>
    intro J H1 G1 ws1 n1 ok D hD
    rw [e] at h
    obtain ⟨ds, fr⟩ := x
    have ok := ok.weak
    have h : PostE P (fun c d H' => Wi c d σ H') H G ws Q (if ds.length ≤ sizeLine then (match lcL t fA fa ds (wipeD ρ vs) w' with | .ok r w2 => .ok ⟨.nw, .lst r⟩ w2 | _ => .bad) else .bad) := h
    have hsz : ds.length ≤ sizeLine := Classical.byContradiction fun hsz => by rw [if_neg hsz] at h; exact h
    rw [if_pos hsz] at h
    cases er : lcL t fA fa ds (wipeD ρ vs) w' with
    | bad => rw [er] at h; exact h.elim
    | ex x w2 => rw [er] at h; exact h.elim
    | ok r w2 =>
      rw [er] at h
      dsimp only at h
      have gD : G1 D = none := n1.sub.free hD
      -- the invariant
      refine ⟨fun i m H' => m = ds.length - i ∧ i ≤ ds.length ∧ ∃ G' ws' w3 acc made rest, Nx P.K P.C G1 H1 ws1 G' H' ws' w3 ∧ ws'.n = ws1.n ∧ H' D = some (.lst acc) ∧ G' D = none ∧ D ∉ regs ws' ∧ acc.length ≤ i ∧ Reps P.K G' (io ws') acc made ∧ lcL t fA fa (ds.drop i) (wipeD ρ vs) w3 = .ok rest w2 ∧ made ++ rest = r, ⟨ds.length, by simp, Nat.zero_le _, G1, ws1, w', [], [], r, Nx.new n1.sub n1.rw hD, rfl, upd_same, gD, fun hr => ?_, Nat.le_refl _, .nil, er, rfl⟩, ?_⟩
      · obtain ⟨o, e, _⟩ := reg_there n1.rw hr
        rw [hD] at e; cases e
      rintro i m H' ⟨rfl, hi, G', ws', w3, acc, made, rest, n, cnt, hDD, gD', rD', hacc, rs, el, em⟩
      have stw : St P.K P.C H0 (L2.wipe σ vs) H' G' ws' (wipeD ρ vs) w3 := ((st.next n1).next n).wipe vs
      have okq : OkQ P G1 H1 ws1 G' H' ws' := ⟨w3, n, cnt⟩
      by_cases hlt : i < ds.length
      · have ed : ds[i]? = some ds[i] := by simp [hlt]
        have edrop : ds.drop i = ds[i] :: ds.drop (i + 1) := List.drop_eq_getElem_cons hlt
        rw [edrop] at el
        simp only [lcL] at el
        cases es : setT t ds[i] (wipeD ρ vs) with
        | none => rw [es] at el; cases el
        | some ρ' =>
          rw [es] at el
          dsimp only at el
          refine .inr ⟨ok.go G' H' ws' i _ okq ed, fun H'' => i + 1 ≤ ds.length ∧ ∃ G' ws' w3 acc made rest, Nx P.K P.C G1 H1 ws1 G' H'' ws' w3 ∧ ws'.n = ws1.n ∧ H'' D = some (.lst acc) ∧ G' D = none ∧ D ∉ regs ws' ∧ acc.length ≤ i + 1 ∧ Reps P.K G' (io ws') acc made ∧ lcL t fA fa (ds.drop (i + 1)) (wipeD ρ vs) w3 = .ok rest w2 ∧ made ++ rest = r, fun H'' hn => ⟨ds.length - (i + 1), by omega, rfl, hn⟩, fun v H2 y => ?_⟩
          obtain ⟨G2, n2, rp⟩ := ok.yl G' H' ws' w3 i _ v H2 okq stw.sub stw.rw ed y
          have hg := ev_tg (stw.next n2) rp es (Q := fun σ2 _ => St P.K P.C H0 σ2 H2 G2 ws' ρ' w3) fun σ2 st2 => st2
          have hg := gT_w hv hg
          have mono : ∀ {v : V} {σ0 : L2.St} {H0' : Hp} {Q1 Q2 : L2.St → Hp → Prop}, (∀ s, Q1 s H0' → Q2 s H0') → gT P.K t v σ0 H0' Q1 → gT P.K t v σ0 H0' Q2 := by
            intro v σ0 H0' Q1 Q2 hq hh
            cases t with
            | nm j => exact hq _ hh
            | tp is =>
              obtain ⟨a, xs, e, q, l, hh⟩ := hh
              refine ⟨a, xs, e, q, l, ?_⟩
              have go : ∀ (is : List Nat) (xs : List V) (σ0 : L2.St), gNames is xs σ0 H0' Q1 → gNames is xs σ0 H0' Q2 := by
                intro is
                induction is with
                | nil => intro xs σ0 hh; exact ⟨hh.1, hq _ hh.2⟩
                | cons j js ih =>
                  intro xs σ0 hh
                  obtain ⟨v, r, e, hh⟩ := hh
                  exact ⟨v, r, e, ih _ _ hh⟩
              exact go is xs σ0 hh
            | np j is =>
              obtain ⟨a, xs, e, q, l, v1, r1, e1, v2, r2, e2, a2, xs2, e3, q3, l3, hh⟩ := hh
              refine ⟨a, xs, e, q, l, v1, r1, e1, v2, r2, e2, a2, xs2, e3, q3, l3, ?_⟩
              have go : ∀ (is : List Nat) (xs : List V) (σ0 : L2.St) (Q1 Q2 : L2.St → Hp → Prop), (∀ s, Q1 s H0' → Q2 s H0') → gNames is xs σ0 H0' Q1 → gNames is xs σ0 H0' Q2 := by
                intro is
                induction is with
                | nil => intro xs σ0 Q1 Q2 hq hh; exact ⟨hh.1, hq _ hh.2⟩
                | cons j js ih =>
                  intro xs σ0 Q1 Q2 hq hh
                  obtain ⟨v, r, e, hh⟩ := hh
                  exact ⟨v, r, e, ih _ _ _ _ hq hh⟩
              exact go _ _ _ _ _ (fun s hs' => ⟨hs'.1, hq _ hs'.2⟩) hh
          refine mono (fun σ2 hσ => ?_) hg
          obtain ⟨hw, st2⟩ := hσ
          refine ⟨by rw [hw]; exact wipe_wipe vs vs fun _ h => h, ?_⟩
          refine hc σ2 H2 G2 ws' ρ' w3 _ st2 ?_
          cases ec : fA ρ' w3 with
          | bad => rw [ec] at el; cases el
          | ex x w4 => rw [ec] at el; cases el
          | ok b w4 =>
            rw [ec] at el
            dsimp only at el
            intro H3 G3 ws3 n3
            have hn4 : w4.n = w3.n := Classical.byContradiction fun z => by rw [if_neg z] at el; cases el
            rw [if_pos hn4] at el
            have n23 := n2.trans n3
            have c3 : ws3.n = ws1.n := (n23.same stw.rw hn4).trans cnt
            have d3 : H3 D = some (.lst acc) := (n23.keep D _ (.inl hDD) nt_lst rD').eq
            have g3 : G3 D = none := (n23.nocap D _ hDD nt_lst gD').resolve_right fun ⟨_, z⟩ => by rw [d3] at z; cases z
            have r3 : D ∉ regs ws3 := fun hr => by
              rcases n23.fresh D hr with z | z
              · exact rD' z
              · exact z _ hDD nt_lst
            cases b with
            | false =>
              refine iteF ?_
              exact ⟨hlt, G3, ws3, w4, acc, made, rest, n.trans n23, c3, d3, g3, r3, by omega, rs.mono n23.gg n23.io, el, em⟩
            | true =>
              refine iteT ?_
              rw [if_pos rfl] at el
              refine he σ2 H3 G3 ws3 ρ' w4 _ (st2.next n3) ?_
              cases ee : fa ρ' w4 with
              | bad => rw [ee] at el; cases el
              | ex x w5 => rw [ee] at el; cases el
              | ok x w5 =>
                rw [ee] at el
                dsimp only at el
                intro u H4 G4 ws4 n4 r4 k4
                have hx : keepM x = true ∧ w5.n = w3.n := Classical.byContradiction fun z => by rw [if_neg z] at el; cases el
                rw [if_pos hx] at el
                cases el2 : lcL t fA fa (ds.drop (i + 1)) (wipeD ρ vs) w5 with
                | bad => rw [el2] at el; cases el
                | ex z w6 => rw [el2] at el; cases el
                | ok rest' w6 =>
                  rw [el2] at el
                  simp only [R.ok.injEq] at el
                  obtain ⟨e1, rfl⟩ := el
                  have n24 := n23.trans n4
                  have nn := n.trans n24
                  have c4 : ws4.n = ws1.n := (n24.same stw.rw hx.2).trans cnt
                  have d4 : H4 D = some (.lst acc) := (n24.keep D _ (.inl hDD) nt_lst rD').eq
                  have g4 : G4 D = none := (n24.nocap D _ hDD nt_lst gD').resolve_right fun ⟨_, z⟩ => by rw [d4] at z; cases z
                  have r4' : D ∉ regs ws4 := fun hr => by
                    rcases n24.fresh D hr with z | z
                    · exact rD' z
                    · exact z _ hDD nt_lst
                  obtain ⟨G5, s5, n5, rp5, f5⟩ := freeze1 nn r4 (newOk_back (P := P) (n.trans n23) k4) (keepM_of hx.1)
                  have g5 : G5 D = none := f5 D (fun hm ev => by
                    exact k4 hm D ev _ d3 nt_lst) g4
                  refine ⟨acc, d4, by omega, hlt, G5, ws4, w5, acc ++ [u], made ++ [x.d], rest', ?_, c4, upd_same, g5, r4', by rw [List.length_append]; simp; omega, (rs.mono (n24.gg.trans s5) n24.io).append (.cons rp5 .nil), el2, by rw [← em, ← e1]; simp⟩
                  -- the list at D has grown
                  have hne : ∀ b o, H4 b = some o → b ≠ D → upd H4 D (.lst (acc ++ [u])) b = some o := fun b o h n => by rw [upd_ne n]; exact h
                  have nreg : ∀ b ∈ regs ws4, b ≠ D := fun b hb z => r4' (by rw [← z]; exact hb)
                  refine ⟨n5.gg, fun b o h => (n5.sub b o h).upd (ne_of_none h g5), ⟨paired_imp n5.rw.obs fun q o hq ⟨⟨dx, e⟩, p⟩ => ⟨⟨dx, hne _ _ e (nreg _ (regs_mem hq).1)⟩, paired_imp p fun y z hy ⟨e, f⟩ => ⟨e, f.move (fun _ _ h => h) (List.prefix_refl _) fun b o eb hb => hb.upd (nreg b ((regs_mem hq).2 b (refs_mem hy eb)))⟩⟩, n5.rw.nn, n5.rw.nd, n5.rw.out, tabs_upd n5.rw.tb d4 nt_lst (nx_cont trivial), n5.rw.nt, ul_upd n5.rw (fun _ _ h => h) (by intro _ _ h; cases h), n5.rw.lkw, lkh_cont n5.rw d4 (by intro _ _ z; cases z)⟩, fun b o h no nr => (n5.keep b o h no nr).upd (h.ne hD), fun b o h no => ?_, (fun b o h no gb => by
                    rcases n5.nocap b o h no gb with z | ⟨xs, z⟩
                    · exact .inl z
                    · by_cases hbD : b = D
                      · subst hbD; exact .inl g5
                      · exact .inr ⟨xs, by rw [upd_ne hbD]; exact z⟩), n5.io, n5.fresh, n5.le, fun h => ?_, n5.stb⟩
                  · by_cases hb : b = D
                    · rw [hb, upd_same]; exact ⟨_, rfl, nt_lst⟩
                    · rw [upd_ne hb]; exact n5.alive b o h no
                  · obtain ⟨e2, k⟩ := n5.qt h
                    exact ⟨e2, fun b hb o h => (k b hb o h).upd (h.ne hD)⟩
      · have ei : i = ds.length := by omega
        subst ei
        rw [List.drop_length] at el
        simp only [lcL, R.ok.injEq] at el
        obtain ⟨e1, rfl⟩ := el
        subst e1
        rw [List.append_nil] at em
        subst em
        refine .inl ⟨ok.st G' H' ws' okq, h (.ref D) H' G' ws' (n1.trans n) ⟨D, rfl, gD', rD', .lst hDD rs⟩ (fun _ a ea => ?_)⟩
        cases ea
        intro o q no
        obtain ⟨o', z, _⟩ := n1.alive D o q no
        rw [hD] at z; cases z
end
end DL
namespace DL
open PySem L2
section
variable {P : Pm} {H0 : En} {Wi : WX} {ta tb tc : TE} {fa fb fc : DE} {ts us : TS} {gs hs : DS} {tA : TT} {fA : DT} {tr : TA} {fr : DA}
/-! ### while -/
def whileL (c : DT) (b : DS) : Nat → Env → W → Out
  | 0, _, _ => .bad
  | n + 1, ρ, w => (c ρ w).thn ρ fun t w => if t then (match b ρ w with
    | .next ρ2 w2 => whileL c b n ρ2 w2
    | .cont ρ2 w2 => whileL c b n ρ2 w2
    | .brk ρ2 w2 => .next ρ2 w2
    | o => o) else .next ρ w
theorem ev_while {n : Nat} (hc : EvT P H0 Wi tA fA) (hb : EvS P H0 Wi ts gs) : EvS P H0 Wi (tWhile tA ts) (whileL fA gs n) := by
  intro σ H G ws ρ w D st h
  refine ⟨fun m σ' H' => ∃ G' ws' ρ' w', St P.K P.C H0 σ' H' G' ws' ρ' w' ∧ PostS P H0 Wi D G' ws' (whileL fA gs m ρ' w'), ⟨n, G, ws, ρ, w, st, h⟩, ?_⟩
  rintro m σ' H' ⟨G', ws', ρ', w', st', hp⟩
  cases m with
  | zero => exact hp.elim
  | succ m =>
    unfold whileL at hp
    refine hc σ' H' G' ws' ρ' w' _ st' (postT_of st' hp fun b w2 _ hp H1 G1 ws1 n1 => ?_)
    cases b with
    | false => exact iteF (hp σ' H1 G1 ws1 (st'.next n1) n1.mon)
    | true =>
      refine iteT ?_
      rw [if_pos rfl] at hp
      refine ⟨fun σ3 H3 => ∃ G' ws' ρ' w', St P.K P.C H0 σ3 H3 G' ws' ρ' w' ∧ PostS P H0 Wi D G' ws' (whileL fA gs m ρ' w'), fun σ3 H3 h3 => ⟨m, Nat.lt_succ_self _, h3⟩, ?_⟩
      refine hb σ' H1 G1 ws1 ρ' w2 _ (st'.next n1) ?_
      cases eb : gs ρ' w2 with
      | bad => rw [eb] at hp; exact hp
      | ex x ρ4 w4 => rw [eb] at hp; exact hp
      | ret x w4 => rw [eb] at hp; exact hp
      | brk ρ4 w4 =>
        rw [eb] at hp
        exact fun σ4 H4 G4 ws4 st4 m4 => hp σ4 H4 G4 ws4 st4 (n1.mon.trans m4)
      | next ρ4 w4 =>
        rw [eb] at hp
        exact fun σ4 H4 G4 ws4 st4 m4 => ⟨G4, ws4, ρ4, w4, st4, PostS.after (n1.mon.trans m4) hp⟩
      | cont ρ4 w4 =>
        rw [eb] at hp
        exact fun σ4 H4 G4 ws4 st4 m4 => ⟨G4, ws4, ρ4, w4, st4, PostS.after (n1.mon.trans m4) hp⟩
/-! ### a, b = x, y -/
theorem St.set' {K : PySem.W.Frag} {C : Ca} {e : En} {σ : L2.St} {H G : Hp} {ws : Ws} {ρ : Env} {w : W} {i : Nat} {v : V} {x : Val} (st : St K C e σ H G ws ρ w) (r : RV K G H ws v x) (hm : x.m = .fz ∨ x.m = .nw) (k0 : x.m = .nw → ∀ a, v = .ref a → Fr e.H a)
    (ka : x.m = .nw → ∀ (j : Nat) y, ρ[j]? = some (some y) → y.m = .nw → σ[j]? ≠ some (some v)) : St K C e (σ.set i (some v)) H G ws (ρ.set i (some x)) w := by
  refine ⟨st.nx0, by rw [List.length_set, List.length_set]; exact st.len, fun j y e => ?_, fun j y a e hy ea => ?_, fun j l y z a ej el hy hz aj al => ?_⟩
  · by_cases hj : i = j
    · subst hj
      rw [List.getElem?_set, if_pos rfl] at e ⊢
      split at e
      · rename_i hl
        rw [if_pos (by rw [st.len]; exact hl)]
        cases e
        exact ⟨v, rfl, r, hm⟩
      · cases e
    · rw [List.getElem?_set_ne hj] at e ⊢
      exact st.sl j y e
  · by_cases hj : i = j
    · subst hj
      rw [List.getElem?_set, if_pos rfl] at e ea
      split at e
      · rename_i hl
        rw [if_pos (by rw [st.len]; exact hl)] at ea
        cases e
        cases ea
        exact k0 hy a rfl
      · cases e
    · rw [List.getElem?_set_ne hj] at e ea
      exact st.own j y a e hy ea
  · by_cases hj : i = j
    · by_cases hl : i = l
      · rw [← hj, ← hl]
      · exfalso
        subst hj
        rw [List.getElem?_set_ne hl] at el al
        rw [List.getElem?_set, if_pos rfl] at ej aj
        split at ej
        · rename_i hlt
          rw [if_pos (by rw [st.len]; exact hlt)] at aj
          cases ej
          cases aj
          exact ka hy l z el hz al
        · cases ej
    · by_cases hl : i = l
      · exfalso
        subst hl
        rw [List.getElem?_set_ne hj] at ej aj
        rw [List.getElem?_set, if_pos rfl] at el al
        split at el
        · rename_i hlt
          rw [if_pos (by rw [st.len]; exact hlt)] at al
          cases el
          cases al
          exact ka hz j y ej hy aj
        · cases el
      · rw [List.getElem?_set_ne hj] at ej aj
        rw [List.getElem?_set_ne hl] at el al
        exact st.ap j l y z a ej el hy hz aj al
def setVs : List Nat → List V → L2.St → L2.St
  | i :: is, v :: vs, σ => setVs is vs (σ.set i (some v))
  | _, _, σ => σ
def setXs : List Nat → List Val → Env → Env
  | i :: is, x :: xs, ρ => setXs is xs (ρ.set i (some x))
  | _, _, ρ => ρ
theorem St.setXs {K : PySem.W.Frag} {C : Ca} {e : En} {H G : Hp} {ws : Ws} {w : W} : ∀ {is : List Nat} {vs : List V} {xs : List Val} {σ : L2.St} {ρ : Env}, St K C e σ H G ws ρ w → RVs K G H ws vs xs → NewsOk e.H vs xs → xs.all keepM = true →
    (∀ (i : Nat) x, xs[i]? = some x → x.m = .nw → ∀ (j : Nat) y v, ρ[j]? = some (some y) → y.m = .nw → vs[i]? = some v → σ[j]? ≠ some (some v)) → St K C e (setVs is vs σ) H G ws (DL.setXs is xs ρ) w
  | [], _, _, _, _, st, _, _, _, _ => st
  | _ :: _, _, _, _, _, st, .nil, _, _, _ => st
  | i :: is, _, _, σ, ρ, st, .cons (v := v) (x := x) (vs := vs) (xs := xs) r rs, k, hm, ka => by
    rw [List.all_cons, Bool.and_eq_true] at hm
    have st1 := st.set' (i := i) r (keepM_of hm.1) (fun hx a ea => k.1 hx a ea) (fun hx j y ej hy => ka 0 x rfl hx j y v ej hy rfl)
    refine St.setXs (is := is) st1 rs k.2.2 hm.2 fun l y el hy j z u ej hz eu => ?_
    by_cases hj : i = j
    · subst hj
      rw [List.getElem?_set, if_pos rfl] at ej
      split at ej
      · cases ej
        intro q
        rw [List.getElem?_set, if_pos rfl] at q
        split at q
        · cases q
          exact k.2.1 hz l y el hy eu
        · cases q
      · cases ej
    · rw [List.getElem?_set_ne hj] at ej ⊢
      exact ka (l + 1) y (by simpa using el) hy j z u ej hz (by simpa using eu)
theorem newsOk_get {H : Hp} : ∀ {vs : List V} {xs : List Val} (i : Nat) {x : Val} {a : Addr}, NewsOk H vs xs → xs[i]? = some x → x.m = .nw → vs[i]? = some (.ref a) → Fr H a
  | [], _, _, _, _, _, _, _, e => by simp at e
  | _ :: _, [], _, _, _, _, e, _, _ => by simp at e
  | _ :: _, _ :: _, 0, _, _, k, e, hm, ev => by simp at e ev; subst e ev; exact k.1 hm _ rfl
  | _ :: _, _ :: _, i + 1, _, _, k, e, hm, ev => newsOk_get i k.2.2 (by simpa using e) hm (by simpa using ev)
/-- the state behind several stores at once -/
theorem St.setAllX {e : En} {σ : L2.St} {H G : Hp} {ws : Ws} {ρ : Env} {w : W} {H1 G1 : Hp} {ws1 : Ws} {w1 : W} {vs : List V} {xs : List Val} (is : List Nat) (st : St P.K P.C e σ H G ws ρ w) (n : Nx P.K P.C G H ws G1 H1 ws1 w1) (r : RVs P.K G1 H1 ws1 vs xs) (k : NewsOk H vs xs) (hm : xs.all keepM = true) :
    St P.K P.C e (setVs is vs σ) H1 G1 ws1 (DL.setXs is xs ρ) w1 := by
  refine St.setXs (st.next n) r (newsOk_back (P := P) st.nx0 k) hm fun i x ex hx j y v ej hy ev ea => ?_
  obtain ⟨u, h1, h2, _⟩ := st.sl j y ej
  rw [ea] at h1
  cases h1
  obtain ⟨m, d⟩ := y
  simp only at hy
  subst hy
  obtain ⟨b, eb, _, _, un⟩ := h2
  subst eb
  obtain ⟨o, ho, hc⟩ := un.there
  obtain ⟨o1, e1, c1⟩ := ho.at' (nt_cont hc)
  exact newsOk_get i k ex hx ev o1 e1 c1
theorem RVs.length {K : PySem.W.Frag} {G H : Hp} {ws : Ws} : ∀ {vs : List V} {xs : List Val}, RVs K G H ws vs xs → vs.length = xs.length
  | _, _, .nil => rfl
  | _, _, .cons _ b => by rw [List.length_cons, List.length_cons, RVs.length b]
/-! ### defs -/
abbrev DF := List D → W → R Val
def spD (P : Pm) (F : DF) : Sp := fun vs H Q E => ∃ G ws w ds, Sm G H ∧ RelW P.K P.C G H ws w ∧ Reps P.K G (io ws) vs ds ∧ PostE P E H G ws Q (F ds w)
/-- a def: n parameters, N slots in all -/
def fnD (n N : Nat) (g : DS) : DF := fun ds w => if ds.length = n then (match g (ds.map (fun d => some (fz d)) ++ List.replicate (N - n) none) w with
  | .ret x w' => .ok x w'
  | .next _ w' => .ok (fz .non) w'
  | .ex x _ w' => .ex x w'
  | _ => .bad) else .bad
theorem spD_len {n N : Nat} {g : DS} {vs : List V} {H : Hp} {Q : VK} {E : XK} (h : spD P (fnD n N g) vs H Q E) : vs.length = n := by
  obtain ⟨G, ws, w, ds, _, _, r, p⟩ := h
  unfold fnD at p
  split at p
  · rename_i hl
    rw [r.length, hl]
  · exact p.elim
/-- the state at a def's entry -/
theorem st_start {G H : Hp} {ws : Ws} {w : W} {vs : List V} {ds : List D} {k : Nat} {K : PySem.W.Frag} {C : Ca} (s : Sm G H) (r : RelW K C G H ws w) (rs : Reps K G (io ws) vs ds) : St K C ⟨H, G, ws⟩ (vs.map some ++ List.replicate k none) H G ws (ds.map (fun d => some (fz d)) ++ List.replicate k none) w := by
  have key : ∀ {i : Nat} {x : Val}, (ds.map (fun d => some (fz d)) ++ List.replicate k none)[i]? = some (some x) → ∃ d v, ds[i]? = some d ∧ vs[i]? = some v ∧ x = fz d ∧ Rep K G (io ws) v d := fun {i x} h => by
    by_cases hi : i < ds.length
    · rw [List.getElem?_append_left (by simpa using hi)] at h
      rw [List.getElem?_map] at h
      obtain ⟨d, ed⟩ : ∃ d, ds[i]? = some d := ⟨ds[i], by simp [hi]⟩
      rw [ed] at h
      obtain ⟨v, ev, rp⟩ := rs.getD ed
      simp only [Option.map_some, Option.some.injEq] at h
      exact ⟨d, v, ed, ev, h.symm, rp⟩
    · rw [List.getElem?_append_right (by simp; omega)] at h
      rw [List.getElem?_replicate] at h
      split at h <;> cases h
  refine ⟨Nx.refl s r, by simp [rs.length], fun i x h => ?_, fun i x a h hm => ?_, fun i j x y a h _ hm => ?_⟩
  · obtain ⟨d, v, ed, ev, rfl, rp⟩ := key h
    refine ⟨v, ?_, rp, .inl rfl⟩
    have hi : i < vs.length := (List.getElem?_eq_some_iff.mp ev).1
    rw [List.getElem?_append_left (by simpa using hi), List.getElem?_map, ev]
    rfl
  · obtain ⟨d, v, ed, ev, rfl, rp⟩ := key h
    cases hm
  · obtain ⟨d, v, ed, ev, rfl, rp⟩ := key h
    cases hm
/-- from a body's walk to the def's promise -/
theorem def_ok {PP : Program} {w : World} {K : PySem.W.Frag} {mg : Str → Option Value} {base : Heap} {x qual : Str} {st : Stmt} {f : Addr} {fd : FuncData} {N ps : List Str} {k : Nat} {C : Ca} {cm : Cm} {g : DS} (F : Fun K x qual st f fd) (S : FnScope N ps (defScope st))
    (hb : ∀ (cdv : Value) (A : Around) (outer : List PySem.Env) (s : Shared) (H : Hp) (E : XK) (e : En), Room k (A.deeper (PyProof.Rows.envOfC qual (defScope st) s.heap.objs.size f cdv)) →
      ∃ t, PSs (cxOf (L2.CX PP w) PP w K mg base N qual (defScope st) f cdv A outer s H E) (defBody st) t ∧ EvS ⟨K, C, cm⟩ e (fun cls d _ H' => E cls d H') t g) :
    FnOk PP w K mg base (L2.CX PP w) (k + 1) f fd ps (spD ⟨K, C, cm⟩ (fnD ps.length N.length g)) := by
  refine F.okX S (fun vs H Q E h => spD_len h) fun cdv A outer s H vs Q E hr h => ?_
  have hl := spD_len h
  obtain ⟨G, ws, wd, ds, sm, rw, rs, p⟩ := h
  obtain ⟨t, h1, h2⟩ := hb cdv A outer s H E ⟨H, G, ws⟩ hr
  refine ⟨t, h1, ?_⟩
  unfold L2.start
  rw [hl]
  refine h2 _ H G ws (ds.map (fun d => some (fz d)) ++ List.replicate (N.length - ps.length) none) wd _ (st_start sm rw rs) ?_
  unfold fnD at p
  rw [if_pos (by rw [← rs.length]; exact hl)] at p
  cases eg : g (ds.map (fun d => some (fz d)) ++ List.replicate (N.length - ps.length) none) wd with
  | bad => rw [eg] at p; exact p
  | brk ρ w' => rw [eg] at p; exact p.elim
  | cont ρ w' => rw [eg] at p; exact p.elim
  | next ρ w' =>
    rw [eg] at p
    exact fun σ' H' G' ws' st' _ => p .non H' G' ws' st'.nx0 .non fz_nw
  | ret y w' =>
    rw [eg] at p
    exact fun v H' G' ws' n r k _ => p v H' G' ws' n r k
  | ex y ρ w' =>
    rw [eg] at p
    exact fun cls d σ' H' G' ws' st' hx => p cls d H' G' ws' st'.nx0 hx
/-! ### calls -/
def dCall (F : DF) (dds : List D) (fs : DA) : DE := fun ρ w => (fs ρ w).bind fun xs w => match frzD xs with
  | some ds => F (ds ++ dds) w
  | none => .bad
theorem ev_call {F : DF} {dvs : List V} {dds : List D} (ha : EvA P H0 Wi tr fr) (hd : ∀ G ι, Reps P.K G ι dvs dds) : EvE P H0 Wi (tCallSD (spD P F) dvs (WE Wi) tr) (dCall F dds fr) := by
  intro σ H G ws ρ w Q st h
  unfold dCall at h
  refine ha σ H G ws ρ w _ st ?_
  cases e : fr ρ w with
  | bad => rw [e] at h; exact h
  | ex x w' => rw [e] at h; exact h
  | ok xs w' =>
    intro vs H1 G1 ws1 n1 r1 k1
    rw [e] at h
    have h : PostE P (fun c d H' => Wi c d σ H') H G ws Q (match frzD xs with | some ds => F (ds ++ dds) w' | none => .bad) := h
    cases e2 : frzD xs with
    | none => rw [e2] at h; exact h.elim
    | some ds =>
      rw [e2] at h
      obtain ⟨G2, s2, n2, r2⟩ := freezeAll n1 r1 k1 e2
      exact ⟨G2, ws1, w', ds ++ dds, n2.sub, n2.rw, r2.append (hd _ _), PostE.after n2 h⟩
/-- a def that touches no object: its arguments may be things that a slot owns, if what it tells holds none of them -/
def borD : List Val → Option (List D)
  | [] => some []
  | x :: xs => match x.m, borD xs with
    | .wd, _ => none
    | _, some ds => some (x.d :: ds)
    | _, none => none
def imV (x : Val) : Bool := match x.m, x.d with
  | .fz, d => im d
  | .nw, .lst ds => ds.all im
  | _, _ => false
def dCallP (F : DF) (dds : List D) (fs : DA) : DE := fun ρ w => (fs ρ w).bind fun xs w => match borD xs with
  | some ds => (match F (ds ++ dds) w with
    | .ok x w2 => if imV x ∧ w2.n = w.n ∧ w2.lk = w.lk then .ok x w else .bad
    | .ex x w2 => if x.fs.isEmpty ∧ w2.n = w.n ∧ w2.lk = w.lk then .ex x w else .bad
    | .bad => .bad)
  | none => .bad
end
end DL
namespace DL
open PySem L2
structure Kx where
  C : Ca
  cm : Cm
  e : En
  Wi : WX
abbrev pm (X : Cx) (κ : Kx) : Pm := ⟨X.K, κ.C, κ.cm⟩
def XE (X : Cx) (κ : Kx) (e : Expr) (f : DE) : Prop := ∃ te, PE X e te ∧ EvE (pm X κ) κ.e κ.Wi te f
def XT (X : Cx) (κ : Kx) (e : Expr) (f : DT) : Prop := ∃ te, PT X e te ∧ EvT (pm X κ) κ.e κ.Wi te f
def XW (X : Cx) (κ : Kx) (e : Expr) (f : DT) : Prop := ∃ te, PW X e te ∧ EvT (pm X κ) κ.e κ.Wi te f
def XA (X : Cx) (κ : Kx) (es : List Expr) (f : DA) : Prop := ∃ te, PA X es te ∧ EvA (pm X κ) κ.e κ.Wi te f
def XO (X : Cx) (κ : Kx) (e : Option Expr) (f : DO) : Prop := ∃ te, PO X e te ∧ EvO (pm X κ) κ.e κ.Wi te f
def XI (X : Cx) (κ : Kx) (tg iter : Expr) (f : DI) : Prop := ∃ te, PI X tg iter te ∧ EvI (pm X κ) κ.e κ.Wi te f
def XS (X : Cx) (κ : Kx) (s : Stmt) (g : DS) : Prop := ∃ ts, PS X s ts ∧ EvS (pm X κ) κ.e κ.Wi ts g
def XB (X : Cx) (κ : Kx) (s : List Stmt) (g : DS) : Prop := ∃ ts, PSs X s ts ∧ EvS (pm X κ) κ.e κ.Wi ts g
/-- what is known of where one stands; k: room for so many calls -/
structure Fc (X : Cx) (κ : Kx) (k : Nat) : Prop where
  calm : X.calm = true
  nd : X.N.Nodup
  room : Room k X.A
  tk : Takes X κ.Wi
  pass : PassesOwn (model X.prog X.w) X.A X.env X.xe
/-- .. within an expression alone -/
structure Fe (X : Cx) (κ : Kx) (k : Nat) : Prop where
  calm : X.calm = true
  nd : X.N.Nodup
  room : Room k X.A
  tk : Takes X κ.Wi
theorem Fc.fe {X : Cx} {κ : Kx} {k : Nat} (c : Fc X κ k) : Fe X κ k := ⟨c.calm, c.nd, c.room, c.tk⟩
abbrev Kx.no (κ : Kx) : Kx := { κ with Wi := fun _ _ _ _ => False }
theorem Fe.blk {X : Cx} {κ : Kx} {k : Nat} (c : Fe X κ k) (s : Shared) (H : Hp) (scope : Scope) (env : PySem.Env) (fp : List Addr) : Fe (X.blk s H scope env fp) κ.no k := ⟨c.calm, c.nd, c.room, takes0⟩
theorem Fe.u64 {X : Cx} {κ : Kx} {k : Nat} (c : Fe X κ k) : X.A.units + 64 < cLine := c.room.units
theorem Fe.u65 {X : Cx} {κ : Kx} {k : Nat} (c : Fe X κ k) : X.A.units + 65 < cLine := by have := c.room.un; omega
section
variable {X : Cx} {κ : Kx} {a b c : Expr} {fa fb fc : DE} {es : List Expr} {fr : DA} {pos p p2 p3 : Pos} {k : Nat}
/-! names, constants -/
theorem e_var (i : Nat) {x : Str} (hN : X.N[i]? = some x := by rfl) (hv : Vis X.env.scope x := by first | exact Or.inl rfl | exact Or.inr (Or.inl rfl) | exact Or.inr (Or.inr rfl)) (hd : (x == ("__debug__" : Str)) = false := by decide)
    (hcd : (x == ("__classdict__" : Str)) = false := by decide) : XE X κ (.Name x pos) (dVar i) := ⟨_, pe_var hN hv hd hcd, ev_var⟩
theorem e_int {i : Int} {j : Nat} : XE X κ (.Constant (.int i) j pos) (dC (.int i)) := ⟨_, pe_int, ev_int⟩
theorem e_bl {i : Bool} {j : Nat} : XE X κ (.Constant (.bool i) j pos) (dC (.bl i)) := ⟨_, pe_bl, ev_bl⟩
theorem e_str {i : Str} {j : Nat} : XE X κ (.Constant (.str i) j pos) (dC (.str i)) := ⟨_, pe_str, ev_str⟩
theorem e_non {j : Nat} : XE X κ (.Constant .none j pos) (dC .non) := ⟨_, pe_non, ev_non⟩
/-- a constant of the module -/
structure Cst (K : PySem.W.Frag) (mg : Str → Option Value) (x : Str) (d : D) : Prop where
  ex : ∃ u v, mg x = some u ∧ RelV v u ∧ ∀ G ι, Rep K G ι v d
theorem e_glob {x : Str} {d : D} (h : Cst X.K X.mg x d) (hg : Gl X x := by rfl) (hd : (x == ("__debug__" : Str)) = false := by decide) : XE X κ (.Name x pos) (dC d) := by
  obtain ⟨u, v, h1, h2, h3⟩ := h.ex
  exact ⟨_, pe_glob hg h1 h2 hd, ev_c h3⟩
/-! operators -/
theorem e_add (ha : XE X κ a fa) (hb : XE X κ b fb) : XE X κ (.BinOp a .Add b pos) (dOp gAdd fa fb) := by
  obtain ⟨ta, pa, ea⟩ := ha
  obtain ⟨tb, pb, eb⟩ := hb
  exact ⟨_, pe_op op_addA pa pb, ev_op ea eb rop_add gAdd_nx⟩
theorem e_sub (ha : XE X κ a fa) (hb : XE X κ b fb) : XE X κ (.BinOp a .Sub b pos) (dOp (gI0 fun i j => .int (i - j)) fa fb) := by
  obtain ⟨ta, pa, ea⟩ := ha
  obtain ⟨tb, pb, eb⟩ := hb
  exact ⟨_, pe_op op_sub pa pb, ev_op ea eb (rop_I0 fun _ _ _ _ _ => .int _) gI0_nx⟩
theorem e_mul (ha : XE X κ a fa) (hb : XE X κ b fb) : XE X κ (.BinOp a .Mult b pos) (dOp gMul fa fb) := by
  obtain ⟨ta, pa, ea⟩ := ha
  obtain ⟨tb, pb, eb⟩ := hb
  exact ⟨_, pe_op op_mulA pa pb, ev_op ea eb rop_mul gMul_nx⟩
theorem e_div (ha : XE X κ a fa) (hb : XE X κ b fb) : XE X κ (.BinOp a .FloorDiv b pos) (dOp (gI CDivW fun i j => .int (i / j)) fa fb) := by
  obtain ⟨ta, pa, ea⟩ := ha
  obtain ⟨tb, pb, eb⟩ := hb
  exact ⟨_, pe_op op_fdivW pa pb, ev_op ea eb (rop_I fun _ _ _ _ _ => .int _) gI_nx⟩
theorem e_mod (ha : XE X κ a fa) (hb : XE X κ b fb) : XE X κ (.BinOp a .Mod b pos) (dOp (gI (fun _ j => 0 < j) fun i j => .int (i % j)) fa fb) := by
  obtain ⟨ta, pa, ea⟩ := ha
  obtain ⟨tb, pb, eb⟩ := hb
  exact ⟨_, pe_op op_mod pa pb, ev_op ea eb (rop_I fun _ _ _ _ _ => .int _) gI_nx⟩
theorem e_pow (ha : XE X κ a fa) (hb : XE X κ b fb) : XE X κ (.BinOp a .Pow b pos) (dOp (gI CPow fun i j => .int (i ^ j.toNat)) fa fb) := by
  obtain ⟨ta, pa, ea⟩ := ha
  obtain ⟨tb, pb, eb⟩ := hb
  exact ⟨_, pe_op op_pow pa pb, ev_op ea eb (rop_I fun _ _ _ _ _ => .int _) gI_nx⟩
def gNeg : Val → W → R Val := fun x w => match x.d with
  | .int i => .ok (fz (.int (-i))) w
  | _ => .bad
theorem e_neg (ha : XE X κ a fa) : XE X κ (.UnaryOp .USub a pos) (dUn gNeg fa) := by
  obtain ⟨ta, pa, ea⟩ := ha
  refine ⟨_, pe_un un_neg pa, ev_un ea (fun H G ws w vx x Q s r hx h => ?_) fun x w e w' => ?_⟩
  · obtain ⟨m, d⟩ := x
    cases d <;> try exact h.elim
    have e := rv_int hx
    subst e
    exact ⟨_, rfl, fz_q s r h (.int _)⟩
  · unfold gNeg
    split <;> exact fun h => nomatch h
/-! comparisons -/
theorem e_cmp {op : CmpOp} {r : R2} {g : Val → Val → W → R Val} (ho : OpR X (compareOp op) r) (hr : ROp (pm X κ) r g) (hn : ∀ x y w e w', g x y w ≠ .ex e w') (ha : XE X κ a fa) (hb : XE X κ b fb) (hm : behindInMarks op b = false) : XE X κ (.Compare a [op] [b] pos) (dOp g fa fb) := by
  obtain ⟨ta, pa, ea⟩ := ha
  obtain ⟨tb, pb, eb⟩ := hb
  exact ⟨_, pe_cmpR ho pa pb hm, ev_op ea eb hr hn⟩
theorem t_cmp {op : CmpOp} {r : R2} {g : Val → Val → W → R Val} (ho : OpR X (compareOp op) r) (hr : ROp (pm X κ) r g) (hn : ∀ x y w e w', g x y w ≠ .ex e w') (ha : XE X κ a fa) (hb : XE X κ b fb) (hm : behindInMarks op b = false) : XT X κ (.Compare a [op] [b] pos) (tst (dOp g fa fb)) := by
  obtain ⟨ta, pa, ea⟩ := ha
  obtain ⟨tb, pb, eb⟩ := hb
  exact ⟨_, pt_cmpR ho pa pb hm, ev_tst (ev_op ea eb hr hn)⟩
abbrev gLt : Val → Val → W → R Val := gI0 fun i j => .bl (decide (i < j))
abbrev gLe : Val → Val → W → R Val := gI0 fun i j => .bl (decide (i ≤ j))
abbrev gGt : Val → Val → W → R Val := gI0 fun i j => .bl (decide (j < i))
abbrev gGe : Val → Val → W → R Val := gI0 fun i j => .bl (decide (j ≤ i))
theorem rop_lt {P : Pm} : ROp P (rI0 fun i j => .bl (decide (i < j))) gLt := rop_I0 fun _ _ _ _ _ => .bl _
theorem rop_le {P : Pm} : ROp P (rI0 fun i j => .bl (decide (i ≤ j))) gLe := rop_I0 fun _ _ _ _ _ => .bl _
theorem rop_gt {P : Pm} : ROp P (rI0 fun i j => .bl (decide (j < i))) gGt := rop_I0 fun _ _ _ _ _ => .bl _
theorem rop_ge {P : Pm} : ROp P (rI0 fun i j => .bl (decide (j ≤ i))) gGe := rop_I0 fun _ _ _ _ _ => .bl _
theorem e_lt (ha : XE X κ a fa) (hb : XE X κ b fb) : XE X κ (.Compare a [.Lt] [b] pos) (dOp gLt fa fb) := e_cmp op_lt rop_lt gI0_nx ha hb (nomark _)
theorem t_lt (ha : XE X κ a fa) (hb : XE X κ b fb) : XT X κ (.Compare a [.Lt] [b] pos) (tst (dOp gLt fa fb)) := t_cmp op_lt rop_lt gI0_nx ha hb (nomark _)
theorem t_le (ha : XE X κ a fa) (hb : XE X κ b fb) : XT X κ (.Compare a [.LtE] [b] pos) (tst (dOp gLe fa fb)) := t_cmp op_le rop_le gI0_nx ha hb (nomark _)
theorem t_gt (ha : XE X κ a fa) (hb : XE X κ b fb) : XT X κ (.Compare a [.Gt] [b] pos) (tst (dOp gGt fa fb)) := t_cmp op_gt rop_gt gI0_nx ha hb (nomark _)
theorem t_ge (ha : XE X κ a fa) (hb : XE X κ b fb) : XT X κ (.Compare a [.GtE] [b] pos) (tst (dOp gGe fa fb)) := t_cmp op_ge rop_ge gI0_nx ha hb (nomark _)
theorem e_eq (c : Fe X κ k) (ha : XE X κ a fa) (hb : XE X κ b fb) : XE X κ (.Compare a [.Eq] [b] pos) (dOp (gEq false) fa fb) := e_cmp (op_eqD c.u64) rop_eq gEq_nx ha hb (nomark _)
theorem e_ne (c : Fe X κ k) (ha : XE X κ a fa) (hb : XE X κ b fb) : XE X κ (.Compare a [.NotEq] [b] pos) (dOp (gEq true) fa fb) := e_cmp (op_neD c.u64) rop_ne gEq_nx ha hb (nomark _)
theorem t_eq (c : Fe X κ k) (ha : XE X κ a fa) (hb : XE X κ b fb) : XT X κ (.Compare a [.Eq] [b] pos) (tst (dOp (gEq false) fa fb)) := t_cmp (op_eqD c.u64) rop_eq gEq_nx ha hb (nomark _)
theorem t_ne (c : Fe X κ k) (ha : XE X κ a fa) (hb : XE X κ b fb) : XT X κ (.Compare a [.NotEq] [b] pos) (tst (dOp (gEq true) fa fb)) := t_cmp (op_neD c.u64) rop_ne gEq_nx ha hb (nomark _)
theorem e_in (c : Fe X κ k) (ha : XE X κ a fa) (hb : XE X κ b fb) (hm : behindInMarks .In b = false := by rfl) : XE X κ (.Compare a [.In] [b] pos) (dOp (gIn false) fa fb) := e_cmp (op_inA c.u65) rop_in gIn_nx ha hb hm
/-- a comparison's rule, for chains -/
structure Cm2 (X : Cx) (κ : Kx) (op : CmpOp) (g : Val → Val → W → R Val) : Prop where
  ex : ∃ r, OpR X (compareOp op) r ∧ ROp (pm X κ) r g ∧ ∀ x y w e w', g x y w ≠ .ex e w'
theorem c_le : Cm2 X κ .LtE gLe := ⟨_, op_le, rop_le, gI0_nx⟩
theorem e_chain {op op' : CmpOp} {g g' : Val → Val → W → R Val} (h1 : Cm2 X κ op g) (h2 : Cm2 X κ op' g') (ha : XE X κ a fa) (hb : XE X κ b fb) (hc : XE X κ c fc) (hm : lastMarks [op, op'] [b, c] = false := by with_unfolding_all rfl) : XE X κ (.Compare a [op, op'] [b, c] pos) (dChain g g' fa fb fc) := by
  obtain ⟨ta, pa, ea⟩ := ha
  obtain ⟨tb, pb, eb⟩ := hb
  obtain ⟨tc, pc, ec⟩ := hc
  obtain ⟨r, o1, r1, n1⟩ := h1
  obtain ⟨r', o2, r2, n2⟩ := h2
  exact ⟨_, pe_chain o1 o2 pa pb pc hm, ev_chain ea eb ec r1 r2 n1 n2⟩
theorem t_chain {op op' : CmpOp} {g g' : Val → Val → W → R Val} (h1 : Cm2 X κ op g) (h2 : Cm2 X κ op' g') (ha : XE X κ a fa) (hb : XE X κ b fb) (hc : XE X κ c fc) (hm : lastMarks [op, op'] [b, c] = false := by with_unfolding_all rfl) : XT X κ (.Compare a [op, op'] [b, c] pos) (tst (dChain g g' fa fb fc)) := by
  obtain ⟨ta, pa, ea⟩ := ha
  obtain ⟨tb, pb, eb⟩ := hb
  obtain ⟨tc, pc, ec⟩ := hc
  obtain ⟨r, o1, r1, n1⟩ := h1
  obtain ⟨r', o2, r2, n2⟩ := h2
  exact ⟨_, pt_chain o1 o2 pa pb pc hm, ev_tst (ev_chain ea eb ec r1 r2 n1 n2)⟩
/-! tests -/
variable {fA fB : DT} {rest : List Expr}
theorem t_val (ha : XE X κ a fa) (he : ∀ whole, isTrue a X.env whole = (do let v ← whole; standAt a.pos; holding [v] (truthy v)) := by intro _; rfl) : XT X κ a (tst fa) := by
  obtain ⟨ta, pa, ea⟩ := ha
  exact ⟨_, pt_val pa he, ev_tB ea⟩
theorem t_not (ha : XT X κ a fA) : XT X κ (.UnaryOp .Not a pos) (dNot fA) := by
  obtain ⟨ta, pa, ea⟩ := ha
  exact ⟨_, pt_not pa, ev_not ea⟩
theorem w_and1 (ha : XT X κ a fA) : XW X κ (.BoolOp .And [a] pos) fA := by
  obtain ⟨ta, pa, ea⟩ := ha
  exact ⟨_, pw_and1 pa, ea⟩
theorem w_or1 (ha : XT X κ a fA) : XW X κ (.BoolOp .Or [a] pos) fA := by
  obtain ⟨ta, pa, ea⟩ := ha
  exact ⟨_, pw_or1 pa, ea⟩
theorem w_and (ha : XT X κ a fA) (hb : XW X κ (.BoolOp .And (b :: rest) pos) fB) : XW X κ (.BoolOp .And (a :: b :: rest) pos) (dAnd fA fB) := by
  obtain ⟨ta, pa, ea⟩ := ha
  obtain ⟨tb, pb, eb⟩ := hb
  exact ⟨_, pw_and pa pb, ev_and ea eb⟩
theorem w_or (ha : XT X κ a fA) (hb : XW X κ (.BoolOp .Or (b :: rest) pos) fB) : XW X κ (.BoolOp .Or (a :: b :: rest) pos) (dOr fA fB) := by
  obtain ⟨ta, pa, ea⟩ := ha
  obtain ⟨tb, pb, eb⟩ := hb
  exact ⟨_, pw_or pa pb, ev_or ea eb⟩
theorem t_w (h : XW X κ a fA) : XT X κ a fA := by
  obtain ⟨ta, pa, ea⟩ := h
  exact ⟨_, pa.pt, ea⟩
theorem e_one {op : BoolOp} (ha : XE X κ a fa) : XE X κ (.BoolOp op [a] pos) fa := by
  obtain ⟨ta, pa, ea⟩ := ha
  exact ⟨_, pe_one pa, ea⟩
theorem e_and (ha : XE X κ a fa) (hb : XE X κ (.BoolOp .And (b :: rest) pos) fb) : XE X κ (.BoolOp .And (a :: b :: rest) pos) (dAndV fa fb) := by
  obtain ⟨ta, pa, ea⟩ := ha
  obtain ⟨tb, pb, eb⟩ := hb
  exact ⟨_, pe_and pa pb, ev_andV ea eb⟩
theorem e_or (ha : XE X κ a fa) (hb : XE X κ (.BoolOp .Or (b :: rest) pos) fb) : XE X κ (.BoolOp .Or (a :: b :: rest) pos) (dOrV fa fb) := by
  obtain ⟨ta, pa, ea⟩ := ha
  obtain ⟨tb, pb, eb⟩ := hb
  exact ⟨_, pe_or pa pb, ev_orV ea eb⟩
theorem e_not (ha : XE X κ a fa) : XE X κ (.UnaryOp .Not a pos) (dNotV fa) := by
  obtain ⟨ta, pa, ea⟩ := ha
  exact ⟨_, pe_not pa, ev_notV ea⟩
theorem e_if (hc : XT X κ c fA) (ha : XE X κ a fa) (hb : XE X κ b fb) : XE X κ (.IfExp c a b pos) (dIf fA fa fb) := by
  obtain ⟨tc, pc, ec⟩ := hc
  obtain ⟨ta, pa, ea⟩ := ha
  obtain ⟨tb, pb, eb⟩ := hb
  exact ⟨_, pe_ifExp pc pa pb, ev_if ec ea eb⟩
/-! arguments, displays, subscripts -/
theorem a_nil : XA X κ [] dNil := ⟨_, pa_nil, ev_nil⟩
theorem a_one (ha : XE X κ a fa) (hs : starEach [a] X.env = (false, eval a X.env) :: starEach [] X.env := by rfl) : XA X κ [a] (dOne fa) := by
  obtain ⟨ta, pa, ea⟩ := ha
  exact ⟨_, pa_cons pa pa_nil hs, ev_one ea⟩
theorem a_cons (ha : XE X κ a fa) (hr : XA X κ es fr) (hs : starEach (a :: es) X.env = (false, eval a X.env) :: starEach es X.env := by rfl) : XA X κ (a :: es) (dCons fa fr) := by
  obtain ⟨ta, pa, ea⟩ := ha
  obtain ⟨tr, pr, er⟩ := hr
  exact ⟨_, pa_cons pa pr hs, ev_cons ea er⟩
theorem e_tup {x1 : Nat} (h : XA X κ es fr) : XE X κ (.Tuple es x1 pos) (dTup fr) := by
  obtain ⟨t, p, e⟩ := h
  exact ⟨_, pe_tup p, ev_tup e⟩
theorem e_lst (h : XA X κ es fr) : XE X κ (.List es pos) (dLst fr) := by
  obtain ⟨t, p, e⟩ := h
  exact ⟨_, pe_lst p, ev_lst e⟩
theorem e_ix (ha : XE X κ a fa) (hb : XE X κ b fb) (hs : PlainIx b := by intro _ _; rfl) : XE X κ (.Subscript a b pos) (dOp gIx fa fb) := by
  obtain ⟨ta, pa, ea⟩ := ha
  obtain ⟨tb, pb, eb⟩ := hb
  exact ⟨_, pe_ix ix_seq pa pb hs, ev_op ea eb rop_ix gIx_nx⟩
theorem o_no : XO X κ none dNo := ⟨_, po_none, ev_no⟩
theorem o_some (ha : XE X κ a fa) : XO X κ (some a) (dPart fa) := by
  obtain ⟨ta, pa, ea⟩ := ha
  exact ⟨_, po_some pa, ev_part ea⟩
theorem e_sl {lo hi : Option Expr} {fl fh : DO} (ha : XE X κ a fa) (hl : XO X κ lo fl) (hh : XO X κ hi fh) : XE X κ (.Subscript a (.Slice lo hi none p2) pos) (dSl fa fl fh) := by
  obtain ⟨ta, pa, ea⟩ := ha
  obtain ⟨tl, pl, el⟩ := hl
  obtain ⟨th, ph, eh⟩ := hh
  exact ⟨_, pe_slice sl_A pa pl ph, ev_sl ea el eh⟩
/-! built-ins -/
/-- a built-in by its name: f a function, or a class -/
theorem e_cb {id : String} {x : Str} {r : List V → Hp → VK → Prop} {g : List Val → W → R Val} (hc : CallR X (.builtin id) r) (hr : RCall (pm X κ) r g) (hn : ∀ x w e w', g x w ≠ .ex e w') (hm : X.mg x = none) (hv : bootBuiltins x = some (.builtin id)) (ha : XA X κ (a :: es) fr) (hg : Gl X x := by rfl)
    (hx : x ≠ "__name__" := by decide) (hdb : (x == ("__debug__" : Str)) = false := by decide) (he : starEach (a :: es) X.env = (false, eval a X.env) :: starEach es X.env := by rfl) (hpl : (backTo pos (starEach es X.env)).any (·.1) = false := by rfl) : XE X κ (.Call (.Name x p) (a :: es) [] pos) (dCB g fr) := by
  obtain ⟨t, pa, ea⟩ := ha
  exact ⟨_, pe_callB hc hg hm hv pa hx hdb he hpl, ev_cb ea hr hn⟩
theorem e_ct {T : String} {x : Str} {r : List V → Hp → VK → Prop} {g : List Val → W → R Val} (hc : CallR X (.type T) r) (hr : RCall (pm X κ) r g) (hn : ∀ x w e w', g x w ≠ .ex e w') (hm : X.mg x = none) (hv : bootBuiltins x = some (.type T)) (ha : XA X κ (a :: es) fr) (hg : Gl X x := by rfl)
    (hx : x ≠ "__name__" := by decide) (hdb : (x == ("__debug__" : Str)) = false := by decide) (he : starEach (a :: es) X.env = (false, eval a X.env) :: starEach es X.env := by rfl) (hpl : (backTo pos (starEach es X.env)).any (·.1) = false := by rfl) : XE X κ (.Call (.Name x p) (a :: es) [] pos) (dCB g fr) := by
  obtain ⟨t, pa, ea⟩ := ha
  exact ⟨_, pe_callTy hc hg hm hv pa hx hdb he hpl, ev_cb ea hr hn⟩
theorem e_len (hm : X.mg "len" = none) (ha : XA X κ [a] fr) (hg : Gl X "len" := by rfl) (he : starEach [a] X.env = (false, eval a X.env) :: starEach [] X.env := by rfl) : XE X κ (.Call (.Name "len" p) [a] [] pos) (dCB gLen fr) := e_cb call_len rc_len gLen_nx hm PySem.boot_len ha hg (by decide) (by decide) he
theorem e_max2 (c : Fe X κ k) (hm : X.mg "max" = none) (ha : XA X κ [a, b] fr) (hg : Gl X "max" := by rfl) (he : starEach [a, b] X.env = (false, eval a X.env) :: starEach [b] X.env := by rfl) (hpl : (backTo pos (starEach [b] X.env)).any (·.1) = false := by rfl) : XE X κ (.Call (.Name "max" p) [a, b] [] pos) (dCB gMax2 fr) := e_cb (call_max2 c.calm) rc_max2 gMax2_nx hm (by decide +kernel) ha hg (by decide) (by decide) he hpl
theorem e_all (c : Fe X κ k) (hm : X.mg "all" = none) (ha : XA X κ [a] fr) (hg : Gl X "all" := by rfl) (he : starEach [a] X.env = (false, eval a X.env) :: starEach [] X.env := by rfl) : XE X κ (.Call (.Name "all" p) [a] [] pos) (dCB gAll fr) := e_cb (cr_all c.calm) rc_all gAll_nx hm (by decide +kernel) ha hg (by decide) (by decide) he
theorem e_ctup (hm : X.mg "tuple" = none) (ha : XA X κ [a] fr) (hg : Gl X "tuple" := by rfl) (he : starEach [a] X.env = (false, eval a X.env) :: starEach [] X.env := by rfl) : XE X κ (.Call (.Name "tuple" p) [a] [] pos) (dCB gTuple fr) := e_ct call_tuple_of rc_tuple gTuple_nx hm (by decide +kernel) ha hg (by decide) (by decide) he
/-! isinstance(x, T) -/
theorem rv_ty {K : PySem.W.Frag} {G H : Hp} {ws : Ws} {v : V} {x : Val} (s : Sm G H) (h : RV K G H ws v x) (hn : ∀ k, x.d ≠ .obj k) (hn2 : ∀ k, x.d ≠ .exc k) (hn3 : ∀ k, x.d ≠ .dK k) (hn4 : ∀ k, x.d ≠ .dT k) : TyX K H v (.type (tyD x.d)) := by
  obtain ⟨m, d⟩ := x
  have un : (∃ a, v = .ref a ∧ Unf K G H (io ws) a d) → TyX K H v (.type (tyD d)) := by
    rintro ⟨a, rfl, u⟩
    cases u with
    | lst q _ => exact .base (.lst q)
    | dK q _ _ => exact absurd rfl (hn3 _)
    | dT q _ _ => exact absurd rfl (hn4 _)
  unfold RV at h
  cases m with
  | nw => obtain ⟨a, e, _, _, u⟩ := h; exact un ⟨a, e, u⟩
  | bo => obtain ⟨a, e, _, _, u⟩ := h; exact un ⟨a, e, u⟩
  | wd => obtain ⟨a, e, _, _, u⟩ := h; exact un ⟨a, e, u⟩
  | fz =>
    cases h with
    | non => exact .base .non
    | bl b => exact .base (.bl b)
    | int b => exact .base (.int b)
    | str b => exact .base (.str b)
    | tup q _ =>
      rcases q with (q | ⟨o, q⟩) | ⟨o, its, n, q, c, _⟩
      · exact .base (.tup (s.eq q))
      · exact .fTuple (s.eq q)
      · exact .kTuple q c
    | lst q _ => exact .base (.lst (s.eq q))
    | scr q =>
      rcases q with (q | ⟨o, q⟩) | ⟨o, its, n, q, c, _⟩
      · exact .base (.lst (s.eq q))
      · exact .base (.frz (s.eq q))
      · exact .kList q c
    | dK q _ _ => exact absurd rfl (hn3 _)
    | dT q _ _ => exact absurd rfl (hn4 _)
    | obj q => exact absurd rfl (hn _)
    | exc => exact absurd rfl (hn2 _)
theorem e_isi (T : String) {x : Str} (hm : X.mg "isinstance" = none) (hmT : X.mg x = none) (hv : bootBuiltins x = some (.type T)) (ha : XE X κ a fa) (hg : Gl X "isinstance" := by rfl) (hgT : Gl X x := by rfl)
    (hx : x ≠ "__name__" := by decide) (hd : (x == ("__debug__" : Str)) = false := by decide) (hs : starEach [a, .Name x p2] X.env = (false, eval a X.env) :: starEach [.Name x p2] X.env := by rfl) (hs2 : starEach [.Name x p2] X.env = (false, eval (.Name x p2) X.env) :: starEach [] X.env := by rfl)
    (hpl : (backTo pos (starEach [.Name x p2] X.env)).any (·.1) = false := by rfl) : XE X κ (.Call (.Name "isinstance" p) [a, .Name x p2] [] pos) (dUn (fun y w => match y.d with | .obj _ => .bad | .exc _ => .bad | .dK _ => .bad | .dT _ => .bad | _ => gIsi T y w) fa) := by
  obtain ⟨ta, pa, ea⟩ := ha
  refine ⟨_, pe_callB call_isi hg hm (by decide +kernel) (pa_cons pa (pa_cons (pe_bltn (v := .ty T) hgT hmT hv rfl hx hd) pa_nil hs2) hs) (by decide) (by decide) hs hpl, ?_⟩
  intro σ H G ws ρ w Q st h
  unfold dUn at h
  refine ea σ H G ws ρ w _ st ?_
  cases e : fa ρ w with
  | bad => rw [e] at h; exact h
  | ex y w' => rw [e] at h; exact h
  | ok y w' =>
    intro v H1 G1 ws1 n1 r1 k1
    rw [e] at h
    have h : PostE (pm X κ) (fun c d H' => κ.Wi c d σ H') H G ws Q (match y.d with | .obj _ => .bad | .exc _ => .bad | .dK _ => .bad | .dT _ => .bad | _ => gIsi T y w') := h
    have hn : ∀ k, y.d ≠ .obj k := fun k z => by rw [z] at h; exact h
    have hn2 : ∀ k, y.d ≠ .exc k := fun k z => by rw [z] at h; exact h
    have hn3 : ∀ k, y.d ≠ .dK k := fun k z => by rw [z] at h; exact h
    have hn4 : ∀ k, y.d ≠ .dT k := fun k z => by rw [z] at h; exact h
    have h : PostE (pm X κ) (fun c d H' => κ.Wi c d σ H') H G ws Q (gIsi T y w') := by
      obtain ⟨m, d⟩ := y
      cases d <;> first | exact h | exact absurd rfl (hn _) | exact absurd rfl (hn2 _) | exact absurd rfl (hn3 _) | exact absurd rfl (hn4 _)
    unfold gIsi at h
    cases eb : kitB (tyD y.d) T with
    | none => rw [eb] at h; exact h.elim
    | some b =>
      rw [eb] at h
      exact ⟨v, .ty T, _, _, b, rfl, .ty T, rv_ty n1.sub r1 hn hn2 hn3 hn4, kit_ty eb, h (.bl b) H1 G1 ws1 n1 (.bl b) fz_nw⟩
end
end DL
namespace DL
open PySem L2
/-- the reading that a denotation gives -/
def cE (P : Pm) (H0 : En) (Wi : WX) (f : DE) : TE := fun σ H Q => ∃ G ws ρ w, St P.K P.C H0 σ H G ws ρ w ∧ PostE P (fun c d H' => Wi c d σ H') H G ws Q (f ρ w)
def cT (P : Pm) (H0 : En) (Wi : WX) (f : DT) : TT := fun σ H Q => ∃ G ws ρ w, St P.K P.C H0 σ H G ws ρ w ∧ PostT P (fun c d H' => Wi c d σ H') H G ws Q (f ρ w)
section
variable {X : Cx} {κ : Kx} {a b c : Expr} {fa fb fc : DE} {fA fB : DT} {es : List Expr} {fr : DA} {pos p p2 p3 : Pos} {k : Nat} {fi : DI} {gs hs : DS} {tg iter : Expr}
theorem XE.can (h : XE X κ a fa) : PE X a (cE (pm X κ) κ.e κ.Wi fa) := by
  obtain ⟨te, p, e⟩ := h
  exact ⟨fun pins s σ H Q I ⟨G, ws, ρ, w, st, q⟩ => p.run pins s σ H Q I (e σ H G ws ρ w Q st q)⟩
theorem XT.can (h : XT X κ a fA) : PT X a (cT (pm X κ) κ.e κ.Wi fA) := by
  obtain ⟨te, p, e⟩ := h
  exact ⟨fun pins s σ H Q I ⟨G, ws, ρ, w, st, q⟩ => p.run pins s σ H Q I (e σ H G ws ρ w Q st q)⟩
theorem ev_cE {P : Pm} {H0 : En} {Wi : WX} : EvE P H0 Wi (cE P H0 Wi fa) fa := fun σ H G ws ρ w Q st q => ⟨G, ws, ρ, w, st, q⟩
theorem ev_cT {P : Pm} {H0 : En} {Wi : WX} : EvT P H0 Wi (cT P H0 Wi fA) fA := fun σ H G ws ρ w Q st q => ⟨G, ws, ρ, w, st, q⟩
/-! what is walked -/
def iSeqT (K : PySem.W.Frag) (tl : TE) : TI := fun σ H R => tl σ H fun x H1 => (∃ a, x = .ref a ∧ (∃ xs, SqL K H1 a xs) ∧ R (Itl K a) H1) ∨ (∃ a, x = .ref a ∧ (∃ xs, SqT K H1 a xs) ∧ R (Itt K a) H1) ∨ (∃ z, x = .str z ∧ R (Its z) H1)
theorem pi_seq {l : Expr} {tl : TE} (hl : PE X l tl) : PI X tg l (iSeqT X.K tl) := by
  refine ⟨fun pins s σ H R I h => ?_⟩
  refine thn (hl.run pins s σ H _ I h) fun v s1 ⟨x, H1, I1, r1, q1⟩ => ?_
  rcases q1 with q | q | q
  · obtain ⟨a, e, ⟨xs, hq⟩, qq⟩ := q
    subst e
    cases r1
    obtain ⟨its, rv, p, hz⟩ := I1.list hq
    refine wpAny_pyIter_list p.isList ?_
    refine ⟨s1.heap.objs.size, [s1.heap.objs.size], _, _, H1, rfl, I1.kept (t' := s1.toks) fun b o e => Heap.get?_push_of_some _ e, turn_list a _, ⟨_, Heap.get?_push_size _ rfl, rfl, rfl⟩, fun b hb => ?_, qq⟩
    have e : b = s1.heap.objs.size := by simpa using hb
    subst e
    exact I1.fpOk (Nat.le_refl _) (I1.hok.fresh (Nat.le_refl _))
  · obtain ⟨a, e, ⟨xs, hq⟩, qq⟩ := q
    subst e
    cases r1
    obtain ⟨its, rv, p, hz⟩ := I1.tuple hq
    refine wpAny_pyIter_tuple (show s1.heap.IsTuple a its.toArray from p) ?_
    refine ⟨s1.heap.objs.size, [s1.heap.objs.size], _, _, H1, rfl, I1.kept (t' := s1.toks) fun b o e => Heap.get?_push_of_some _ e, turn_tuple a _, ⟨_, Heap.get?_push_size _ rfl, rfl, rfl⟩, fun b hb => ?_, qq⟩
    have e : b = s1.heap.objs.size := by simpa using hb
    subst e
    exact I1.fpOk (Nat.le_refl _) (I1.hok.fresh (Nat.le_refl _))
  · obtain ⟨z, e, qq⟩ := q
    subst e
    obtain ⟨t, rfl⟩ := r1
    cases ha : z.cps.all (· < 128)
    · exact wpAny_pyIter_wide ha (pi_one (tk := s1.toks) I1 _ (turn_str _ z t "str_iterator" (.inr rfl)) ⟨_, Heap.get?_push_size _ rfl, rfl, rfl⟩ qq)
    · exact wpAny_pyIter_ascii ha (pi_one (tk := s1.toks) I1 _ (turn_str _ z t "str_ascii_iterator" (.inl rfl)) ⟨_, Heap.get?_push_size _ rfl, rfl, rfl⟩ qq)
def iSq (f : DE) : DI := fun ρ w => (f ρ w).bind fun x w => match x.d with
  | .lst ds => .ok (ds, keepM x) w
  | .tup ds => .ok (ds, true) w
  | .str z => .ok (sgnD z, true) w
  | _ => .bad
theorem i_seq (ha : XE X κ iter fa) : XI X κ tg iter (iSq fa) := by
  obtain ⟨ta, pa, ea⟩ := ha
  refine ⟨_, pi_seq pa, ?_⟩
  intro σ H G ws ρ w Q st h
  unfold iSq at h
  refine ea σ H G ws ρ w _ st ?_
  cases e : fa ρ w with
  | bad => rw [e] at h; exact h
  | ex x w' => rw [e] at h; exact h
  | ok x w' =>
    intro v H1 G1 ws1 n1 r1 k1
    rw [e] at h
    obtain ⟨m, d⟩ := x
    cases d <;> try exact h.elim
    · have := rv_str r1
      subst this
      exact .inr (.inr ⟨_, rfl, h _ H1 G1 ws1 n1 (its_ok _)⟩)
    · obtain ⟨a, vs, rfl, q0, q1, rs⟩ := rv_tup n1.sub r1
      exact .inr (.inl ⟨a, rfl, ⟨vs, q1⟩, h (Itt X.K a) H1 G1 ws1 n1 (itt_ok fun G' H' ws' ⟨s1, s2, io⟩ => ⟨s2.sqT (sqT_mono s1 q0), rs.mono s1 io⟩)⟩)
    · obtain ⟨a, vs, G2, rfl, hH, n2, hp⟩ := rv_walk n1 r1 k1
      exact .inl ⟨a, rfl, ⟨vs, SqL.of hH⟩, h (Itl X.K a) H1 G2 ws1 n2 (itl_ok hp)⟩
theorem i_rng1 (hm : X.mg "range" = none) (ha : XA X κ [a] fr) (hg : Gl X "range" := by rfl) (hs : starEach [a] X.env = [(false, eval a X.env)] := by rfl) : XI X κ tg (.Call (.Name "range" p) [a] [] pos) (iR1 fr) := by
  obtain ⟨t, pa, ea⟩ := ha
  exact ⟨_, pi_range1 hg hm pa hs, ev_iR1 ea⟩
theorem i_enum {elts : List Expr} {kk : Nat} (hm : X.mg "enumerate" = none) (ha : XE X κ a fa) (hg : Gl X "enumerate" := by rfl) (hs : starEach [a] X.env = [(false, eval a X.env)] := by rfl) : XI X κ (.Tuple elts kk p3) (.Call (.Name "enumerate" p) [a] [] pos) (iE fa) := by
  obtain ⟨t, pa, ea⟩ := ha
  exact ⟨_, pi_enum hg hm (pa_cons pa pa_nil (by rw [hs]; rfl)) hs, ev_iE ea⟩
/-! comprehensions -/
theorem e_lc {elt : Expr} {ifs : List Expr} {scope : Scope} (own : List (Str × Nat)) (t : Tg) (c : Fe X κ k) (hi : XI X κ tg iter fi) (ok : blkC X.N X.env.scope scope own = true)
    (hg : ∀ (s : Shared) (H : Hp) (C : Addr) (cl : List (Str × Addr)) (fp : List Addr), PG (X.blk s H scope (PySem.compEnvC scope cl C X.env) fp) tg (gT X.K t))
    (ht : ∀ (s : Shared) (H : Hp) (C : Addr) (cl : List (Str × Addr)) (fp : List Addr), PTs (X.blk s H scope (PySem.compEnvC scope cl C X.env) fp) ifs (cT (pm X κ) κ.e κ.no.Wi fA))
    (he : ∀ (s : Shared) (H : Hp) (C : Addr) (cl : List (Str × Addr)) (fp : List Addr), XE (X.blk s H scope (PySem.compEnvC scope cl C X.env) fp) κ.no elt fa) (hv : ∀ i ∈ tgs t, i ∈ own.map (·.2) := by decide) (hs : ∀ x, foldedSetIterable iter X.env x = pure x := by intro _; rfl) :
    XE X κ (.ListComp elt [⟨tg, iter, ifs, 0⟩] scope pos) (dLc fi t fA fa (own.map (·.2))) := by
  obtain ⟨ti, pi, ei⟩ := hi
  exact ⟨_, pe_lc c.calm c.nd pi (blkOk_by ok) hg ht (fun s H C cl fp => (he s H C cl fp).can) hs, ev_lc ei ev_cT ev_cE hv⟩
theorem pts_no : PTs X [] (cT (pm X κ) κ.e κ.Wi tYesD) := ⟨fun _ _ _ H _ I ⟨G, ws, ρ, w, st, q⟩ => wpAny_tests_nil ⟨H, I, q H G ws st.nx⟩⟩
theorem s_setLc {i : Nat} {y : Str} {py spos : Pos} {elt : Expr} {ifs : List Expr} {scope : Scope} (own : List (Str × Nat)) (t : Tg) (c : Fe X κ k) (hy : X.N[i]? = some y) (hyl : X.env.scope.names.lookup y = some .local)
    (hsw : swapsWith (.ListComp elt [⟨tg, iter, ifs, 0⟩] scope pos) (some (.Name y py)) spos.line X.env = pure true) (hi : XI X κ tg iter fi) (ok : blkC X.N X.env.scope scope own = true)
    (hg : ∀ (s : Shared) (H : Hp) (C : Addr) (cl : List (Str × Addr)) (fp : List Addr), PG (X.blk s H scope (PySem.compEnvC scope cl C X.env) fp) tg (gT X.K t))
    (ht : ∀ (s : Shared) (H : Hp) (C : Addr) (cl : List (Str × Addr)) (fp : List Addr), PTs (X.blk s H scope (PySem.compEnvC scope cl C X.env) fp) ifs (cT (pm X κ) κ.e κ.no.Wi fA))
    (he : ∀ (s : Shared) (H : Hp) (C : Addr) (cl : List (Str × Addr)) (fp : List Addr), XE (X.blk s H scope (PySem.compEnvC scope cl C X.env) fp) κ.no elt fa) (hv : ∀ i ∈ tgs t, i ∈ own.map (·.2) := by decide) (hs : ∀ x, foldedSetIterable iter X.env x = pure x := by intro _; rfl) :
    XS X κ (.Assign [.Name y py] (.ListComp elt [⟨tg, iter, ifs, 0⟩] scope pos) spos) (sSet i (dLc fi t fA fa (own.map (·.2)))) := by
  obtain ⟨ti, pi, ei⟩ := hi
  exact ⟨_, ps_setLc c.calm c.nd hy hyl hsw pi (blkOk_by ok) hg ht (fun s H C cl fp => (he s H C cl fp).can) hs, ev_set (ev_lc ei ev_cT ev_cE hv)⟩
/-! statements -/
variable {st : Stmt} {sts : List Stmt}
theorem b_nil : XB X κ [] sNext := ⟨_, pss_nil, ev_next⟩
theorem b_one (h : XS X κ st gs) : XB X κ [st] gs := by
  obtain ⟨t, p, e⟩ := h
  exact ⟨_, pss_one p, e⟩
theorem b_cons (h : XS X κ st gs) (h2 : XB X κ sts hs) : XB X κ (st :: sts) (sSeq gs hs) := by
  obtain ⟨t, p, e⟩ := h
  obtain ⟨t2, p2, e2⟩ := h2
  exact ⟨_, pss_cons p p2, ev_seq e e2⟩
theorem s_frz (i : Nat) (h : XS X κ st gs) : XS X κ st (sFrz i gs) := by
  obtain ⟨t, p, e⟩ := h
  exact ⟨_, p, ev_frz e⟩
theorem s_set {x : Str} (i : Nat) (c : Fe X κ k) (ha : XE X κ a fa) (hi : X.N[i]? = some x := by rfl) (hx : Loc X.env.scope x := by first | exact Or.inl rfl | exact Or.inr rfl) (hs : swapsWith a (some (.Name x p)) pos.line X.env = pure false := by rfl)
    (hf : X.fn x = true ∨ X.env.scope.names.lookup x = some .local := by first | exact .inl rfl | exact .inr rfl) : XS X κ (.Assign [.Name x p] a pos) (sSet i fa) := by
  obtain ⟨t, pa, ea⟩ := ha
  exact ⟨_, ps_set c.nd hi hx pa hs hf, ev_set ea⟩
theorem s_setT {xs : List Expr} {kk : Nat} (is : List Nat) (c : Fe X κ k) (ha : XE X κ a fa) (hg : PGs X xs (gNames is)) (hn : (assignEach xs X.env).length = is.length := by rfl) (hst : (assignEach xs X.env).findIdx? (·.1) = none := by rfl)
    (hs : swapsWithSole [.Tuple xs kk p] a pos.line X.env = pure false := by rfl) (hw : swappedStores [.Tuple xs kk p] a X.env = pure none := by rfl) (h1 : (assignEach [.Tuple xs kk p] X.env).map (·.2) = [assign (.Tuple xs kk p) X.env] := by rfl) : XS X κ (.Assign [.Tuple xs kk p] a pos) (sSetT is fa) := by
  obtain ⟨t, pa, ea⟩ := ha
  exact ⟨_, ps_asg pa (pg_tup c.calm hg hn hst) hs hw h1, ev_setT ea⟩
theorem s_ret (ha : XE X κ a fa) : XS X κ (.Return (some a) pos) (sRet fa) := by
  obtain ⟨t, pa, ea⟩ := ha
  exact ⟨_, ps_ret pa, ev_ret ea⟩
theorem s_retV (i : Nat) {x : Str} (hN : X.N[i]? = some x := by rfl) (hv : Vis X.env.scope x := by first | exact Or.inl rfl | exact Or.inr (Or.inl rfl) | exact Or.inr (Or.inr rfl)) (hd : (x == ("__debug__" : Str)) = false := by decide)
    (hcd : (x == ("__classdict__" : Str)) = false := by decide) : XS X κ (.Return (some (.Name x p)) pos) (sRetV i) := ⟨_, ps_ret (pe_var hN hv hd hcd), ev_retV⟩
theorem s_if {s1 s2 : List Stmt} (hc : XT X κ a fA) (h1 : XB X κ s1 gs) (h2 : XB X κ s2 hs) : XS X κ (.If a s1 s2 pos) (sIf fA gs hs) := by
  obtain ⟨t, pa, ea⟩ := hc
  obtain ⟨t1, p1, e1⟩ := h1
  obtain ⟨t2, p2, e2⟩ := h2
  exact ⟨_, ps_if pa p1 p2, ev_sif ea e1 e2⟩
theorem s_for {body : List Stmt} (t : Tg) (c : Fc X κ k) (hi : XI X κ tg iter fi) (hg : PG X tg (gT X.K t)) (hb : XB X κ body gs) (hs : ∀ x, foldedSetIterable iter X.env x = pure x := by intro _; rfl) : XS X κ (.For tg iter body [] pos) (sFor fi t gs) := by
  obtain ⟨ti, pi, ei⟩ := hi
  obtain ⟨tb, pb, eb⟩ := hb
  exact ⟨_, ps_for c.pass c.calm pi hg pb hs, ev_for ei eb⟩
theorem s_while {body : List Stmt} (n : Nat) (c : Fc X κ k) (hc : XT X κ a fA) (hb : XB X κ body gs) : XS X κ (.While a body [] pos) (whileL fA gs n) := by
  obtain ⟨ti, pi, ei⟩ := hc
  obtain ⟨tb, pb, eb⟩ := hb
  exact ⟨_, ps_while c.pass pi pb, ev_while ei eb⟩
/-- targets -/
theorem g_nm {x : Str} (i : Nat) (hN : X.N.Nodup) (hi : X.N[i]? = some x := by rfl) (hx : Loc X.env.scope x := by first | exact Or.inl rfl | exact Or.inr rfl) (hf : X.fn x = true ∨ X.env.scope.names.lookup x = some .local := by first | exact .inl rfl | exact .inr rfl) : PG X (.Name x p) (gT X.K (.nm i)) := pg_name hN hi hx hf
theorem gs_nil : PGs X [] (gNames []) := pgs_nil
theorem gs_cons {x : Str} (i : Nat) {is : List Nat} {xs : List Expr} (hN : X.N.Nodup) (h : PGs X xs (gNames is)) (hi : X.N[i]? = some x := by rfl) (hx : Loc X.env.scope x := by first | exact Or.inl rfl | exact Or.inr rfl) (hf : X.fn x = true ∨ X.env.scope.names.lookup x = some .local := by first | exact .inl rfl | exact .inr rfl)
    (hs : (assignEach (.Name x p :: xs) X.env).map (·.2) = assign (.Name x p) X.env :: (assignEach xs X.env).map (·.2) := by rfl) : PGs X (.Name x p :: xs) (gNames (i :: is)) := pgs_cons (pg_name hN hi hx hf) h hs
theorem g_tp {xs : List Expr} {kk : Nat} {is : List Nat} (hc : X.calm = true) (h : PGs X xs (gNames is)) (hn : (assignEach xs X.env).length = is.length := by rfl) (hst : (assignEach xs X.env).findIdx? (·.1) = none := by rfl) : PG X (.Tuple xs kk p) (gT X.K (.tp is)) := pg_tup hc h hn hst
/-! methods of lists that a slot owns -/
theorem s_app {x : Str} {apos cpos : Pos} (i : Nat) (ha : XE X κ a fa) (hN : X.N[i]? = some x := by rfl) (hv : Vis X.env.scope x := by first | exact Or.inl rfl | exact Or.inr (Or.inl rfl) | exact Or.inr (Or.inr rfl)) (hd : (x == ("__debug__" : Str)) = false := by decide)
    (hcd : (x == ("__classdict__" : Str)) = false := by decide) (hsw : swapsWith (.Call (.Attribute (.Name x p) "append" apos) [a] [] cpos) none pos.line X.env = pure false := by rfl)
    (hs1 : starEach [a] X.env = (false, eval a X.env) :: starEach [] X.env := by rfl)
    (hbase : attributeBase (.Name x p) "append" X.env (eval (.Name x p) X.env) = eval (.Name x p) X.env := by rfl)
    (hfew : ((backTo cpos (starEach [a] X.env)).all (fun x => !x.1) && (backToKw cpos (keywordEach [] X.env)).all (fun x => x.1.isSome)
      && decide ([a].length + ([] : List Keyword).length + (if ([] : List Keyword).isEmpty then 0 else 1) < 30)) = true := by rfl)
    (hline : (apos.endLine == cpos.line) = true := by rfl) : XS X κ (.Expr (.Call (.Attribute (.Name x p) "append" apos) [a] [] cpos) pos) (sApp i fa) := by
  obtain ⟨t, pa, ea⟩ := ha
  exact ⟨_, ps_expr (pe_bm PySem.F.plainAttrs_list PySem.F.slot_list_append PySem.F.type_list_append mt_append (pe_var hN hv hd hcd) (pa_cons pa pa_nil hs1) hbase hfew hline hs1) hsw, ev_app ea⟩
theorem s_ext {x : Str} {apos cpos : Pos} (i : Nat) (ha : XE X κ a fa) (hN : X.N[i]? = some x := by rfl) (hv : Vis X.env.scope x := by first | exact Or.inl rfl | exact Or.inr (Or.inl rfl) | exact Or.inr (Or.inr rfl)) (hd : (x == ("__debug__" : Str)) = false := by decide)
    (hcd : (x == ("__classdict__" : Str)) = false := by decide) (hsw : swapsWith (.Call (.Attribute (.Name x p) "extend" apos) [a] [] cpos) none pos.line X.env = pure false := by rfl)
    (hs1 : starEach [a] X.env = (false, eval a X.env) :: starEach [] X.env := by rfl)
    (hbase : attributeBase (.Name x p) "extend" X.env (eval (.Name x p) X.env) = eval (.Name x p) X.env := by rfl)
    (hfew : ((backTo cpos (starEach [a] X.env)).all (fun x => !x.1) && (backToKw cpos (keywordEach [] X.env)).all (fun x => x.1.isSome)
      && decide ([a].length + ([] : List Keyword).length + (if ([] : List Keyword).isEmpty then 0 else 1) < 30)) = true := by rfl)
    (hline : (apos.endLine == cpos.line) = true := by rfl) : XS X κ (.Expr (.Call (.Attribute (.Name x p) "extend" apos) [a] [] cpos) pos) (sExt i fa) := by
  obtain ⟨t, pa, ea⟩ := ha
  exact ⟨_, ps_expr (pe_bm PySem.F.plainAttrs_list PySem.F.slot_list_extend PySem.F.type_list_extend mt_extend (pe_var hN hv hd hcd) (pa_cons pa pa_nil hs1) hbase hfew hline hs1) hsw, ev_ext ea⟩
/-! defs -/
/-- the def called x keeps the promise of F, by at most j calls -/
structure Df (P : Program) (w : World) (K : PySem.W.Frag) (mg : Str → Option Value) (base : Heap) (C : Ca) (cm : Cm) (x : Str) (j : Nat) (F : DF) : Prop where
  ex : ∃ f fd ps, mg x = some (.ref f) ∧ PySem.W.keepIn K (.ref f) = true ∧ Binds K fd ps [] ∧ FnOk P w K mg base (L2.CX P w) j f fd ps (spD ⟨K, C, cm⟩ F)
theorem e_call {x : Str} {j : Nat} {F : DF} (d : Df X.prog X.w X.K X.mg X.base κ.C κ.cm x j F) (c : Fe X κ k) (ha : XA X κ (a :: es) fr) (hj : j ≤ k := by decide) (hg : Gl X x := by rfl) (hdb : (x == ("__debug__" : Str)) = false := by decide) (he : starEach (a :: es) X.env = (false, eval a X.env) :: starEach es X.env := by rfl)
    (hpl : (backTo pos (starEach es X.env)).any (·.1) = false := by rfl) : XE X κ (.Call (.Name x p) (a :: es) [] pos) (dCall F [] fr) := by
  obtain ⟨f, fd, ps, hm, hk, hb, G⟩ := d.ex
  obtain ⟨t, pa, ea⟩ := ha
  exact ⟨_, pe_callSD G (c.room.mono hj) hg hm hk hb .nil (fun σ => passAt c.tk σ) pa hdb he hpl, ev_call ea fun _ _ => .nil⟩
end
end DL
namespace DL
open PySem L2
section
variable {P : Pm} {H0 : En} {Wi : WX} {ta tb tc : TE} {fa fb fc : DE} {ts us : TS} {gs hs : DS} {tA : TT} {fA : DT} {tr : TA} {fr : DA}
/-- a slot's own thing is frozen -/
theorem St.frz {K : PySem.W.Frag} {C : Ca} {e : En} {σ : L2.St} {H G : Hp} {ws : Ws} {ρ : Env} {w : W} {i : Nat} {x : Val} (st : St K C e σ H G ws ρ w) (ei : ρ[i]? = some (some x)) : ∃ G2, Same G G2 ∧ St K C e σ H G2 ws (ρ.set i (some (fz x.d))) w := by
  obtain ⟨v, e1, r, hm⟩ := st.sl i x ei
  have hl : i < ρ.length := (List.getElem?_eq_some_iff.mp ei).1
  obtain ⟨G2, sg, n2, rp, f2⟩ := freeze1 st.nx0 r (fun hm a ea => by subst ea; exact st.own i x a ei hm e1) hm
  have nx : ∀ (j : Nat) y, ρ[j]? = some (some y) → j ≠ i → ∃ u, σ[j]? = some (some u) ∧ RV K G2 H ws u y ∧ (y.m = .fz ∨ y.m = .nw) := fun j y ej hj => by
    obtain ⟨u, h1, h2, h3⟩ := st.sl j y ej
    refine ⟨u, h1, h2.gmono sg fun hy a ea ga => f2 a (fun hx ev => hj ?_) ga, h3⟩
    subst ea
    have hyn : y.m = .nw := by rcases h3 with z | z; exact absurd z hy; exact z
    exact st.ap j i y x a ej ei hyn hx h1 (by rw [e1, ev])
  refine ⟨G2, sg, n2, by rw [List.length_set]; exact st.len, fun j y ej => ?_, fun j y a ej hy ea => ?_, fun j l y z a ej el hy hz aj al => ?_⟩
  · by_cases hj : i = j
    · subst hj
      rw [List.getElem?_set, if_pos rfl, if_pos hl] at ej
      cases ej
      exact ⟨v, e1, rp, .inl rfl⟩
    · rw [List.getElem?_set_ne hj] at ej
      exact nx j y ej (Ne.symm hj)
  · by_cases hj : i = j
    · subst hj
      rw [List.getElem?_set, if_pos rfl, if_pos hl] at ej
      cases ej
      cases hy
    · rw [List.getElem?_set_ne hj] at ej
      exact st.own j y a ej hy ea
  · by_cases hj : i = j
    · subst hj
      rw [List.getElem?_set, if_pos rfl, if_pos hl] at ej
      cases ej
      cases hy
    · by_cases hk : i = l
      · subst hk
        rw [List.getElem?_set, if_pos rfl, if_pos hl] at el
        cases el
        cases hz
      · rw [List.getElem?_set_ne hj] at ej
        rw [List.getElem?_set_ne hk] at el
        exact st.ap j l y z a ej el hy hz aj al
/-- stored and frozen at once (a name whose thing is never changed in place) -/
def sSetF (i : Nat) (f : DE) : DS := fun ρ w => (f ρ w).thn ρ fun x w => if keepM x then .next (ρ.set i (some (fz x.d))) w else .bad
theorem ev_setF {i : Nat} (ha : EvE P H0 Wi ta fa) : EvS P H0 Wi (tAsg ta (gName i)) (sSetF i fa) := by
  intro σ H G ws ρ w D st h
  unfold sSetF at h
  refine ha σ H G ws ρ w _ st (postE_of st h fun x w' _ h v H1 G1 ws1 n r k => ?_)
  split at h
  · rename_i hm
    obtain ⟨G2, s2, n2, rp, _⟩ := freeze1 n r k (keepM_of hm)
    exact h _ _ _ _ (st.set (x := fz x.d) n2 rp fz_nw (.inl rfl)) n2.mon
  · exact h.elim
/-- some of several values frozen -/
def frzF : List Bool → List Val → List Val
  | b :: bs, x :: xs => (if b then x else fz x.d) :: frzF bs xs
  | _, _ => []
theorem freezeSome {K : PySem.W.Frag} {C : Ca} {G H : Hp} {ws ws' : Ws} {w' : W} {H' : Hp} : ∀ {fl : List Bool} {vs : List V} {xs : List Val} {G' : Hp}, Nx K C G H ws G' H' ws' w' → RVs K G' H' ws' vs xs → NewsOk H vs xs → xs.all keepM = true → fl.length = xs.length →
    ∃ G2, Same G' G2 ∧ Nx K C G H ws G2 H' ws' w' ∧ RVs K G2 H' ws' vs (frzF fl xs) ∧ NewsOk H vs (frzF fl xs) ∧ (frzF fl xs).all keepM = true ∧ (frzF fl xs).length = xs.length ∧ ∀ b, (∀ (i : Nat) y, xs[i]? = some y → y.m = .nw → vs[i]? ≠ some (.ref b)) → G' b = none → G2 b = none
  | [], _, _, G', n, .nil, _, _, _ => ⟨G', fun _ _ h => h, n, .nil, trivial, rfl, rfl, fun _ _ h => h⟩
  | _ :: _, _, _, _, _, .nil, _, _, hl => by simp at hl
  | [], _, _, _, _, .cons _ _, _, _, hl => by simp at hl
  | b :: bs, _, _, G', n, .cons (v := v) (x := x) (vs := vs) (xs := xs) r rs, k, hk, hl => by
    rw [List.all_cons, Bool.and_eq_true] at hk
    obtain ⟨G2, s2, n2, r2, k2, a2, l2, f2⟩ := freezeSome (fl := bs) n rs k.2.2 hk.2 (by simpa using hl)
    have rh : RV K G2 H' ws' v x := r.gmono s2 fun hy a ea ga => f2 a (fun i y ey hy2 ev => by
      have hx : x.m = .nw := by rcases keepM_of hk.1 with z | z; exact absurd z hy; exact z
      exact k.2.1 hx i y ey hy2 (by rw [ev, ea])) ga
    have dist : ∀ (i : Nat) y, (frzF bs xs)[i]? = some y → y.m = .nw → ∃ z, xs[i]? = some z ∧ z.m = .nw := by
      have go : ∀ (bs : List Bool) (xs : List Val) (i : Nat) y, (frzF bs xs)[i]? = some y → y.m = .nw → ∃ z, xs[i]? = some z ∧ z.m = .nw := by
        intro bs
        induction bs with
        | nil => intro xs i y e; simp [frzF] at e
        | cons b bs ih =>
          intro xs i y e hy
          cases xs with
          | nil => simp [frzF] at e
          | cons x xs =>
            cases i with
            | zero =>
              simp only [frzF, List.getElem?_cons_zero, Option.some.injEq] at e
              subst e
              cases b with
              | true => exact ⟨x, rfl, hy⟩
              | false => cases hy
            | succ i => simpa using ih xs i y (by simpa [frzF] using e) hy
      exact go bs xs
    cases b with
    | true =>
      refine ⟨G2, s2, n2, .cons rh r2, ⟨k.1, fun hx i y ey hy => ?_, k2⟩, by simp only [frzF, List.all_cons, Bool.and_eq_true]; exact ⟨hk.1, a2⟩, by simp [frzF, l2], fun b hb gb => f2 b (fun i y ey hy ev => hb (i + 1) y (by simpa using ey) hy (by simpa using ev)) gb⟩
      obtain ⟨z, ez, hz⟩ := dist i y ey hy
      exact k.2.1 hx i z ez hz
    | false =>
      obtain ⟨G3, s3, n3, rp, f3⟩ := freeze1 n2 rh k.1 (keepM_of hk.1)
      have go : ∀ {vs : List V} {ys : List Val}, RVs K G2 H' ws' vs ys → (∀ (i : Nat) y, ys[i]? = some y → y.m = .nw → x.m = .nw → vs[i]? ≠ some v) → ys.all keepM = true → RVs K G3 H' ws' vs ys := by
        intro vs ys rs
        induction rs with
        | nil => intro _ _; exact .nil
        | @cons u y us ys ru rus ih =>
          intro hd hk2
          rw [List.all_cons, Bool.and_eq_true] at hk2
          refine .cons (ru.gmono s3 fun hy a ea ga => f3 a (fun hx ev => ?_) ga) (ih (fun i z hz => by simpa using hd (i + 1) z (by simpa using hz)) hk2.2)
          have hyn : y.m = .nw := by rcases keepM_of hk2.1 with z | z; exact absurd z hy; exact z
          exact hd 0 y rfl hyn hx (by simp [ea, ev])
      refine ⟨G3, s2.trans s3, n3, .cons rp (go r2 (fun i y ey hy hx => ?_) a2), ⟨fz_nw, fun hx => (by cases hx), k2⟩, by simp only [frzF, List.all_cons, Bool.and_eq_true]; exact ⟨rfl, a2⟩, by simp [frzF, l2], fun b hb gb => f3 b (fun hx ev => hb 0 x rfl hx (by simp [ev])) (f2 b (fun i y ey hy ev => hb (i + 1) y (by simpa using ey) hy (by simpa using ev)) gb)⟩
      obtain ⟨z, ez, hz⟩ := dist i y ey hy
      exact k.2.1 hx i z ez hz
/-- a, b = x, y; fl: whose thing is changed in place later -/
def sParF (is : List Nat) (fl : List Bool) (f : DA) : DS := fun ρ w => (f ρ w).thn ρ fun xs w => if is.length = xs.length ∧ fl.length = xs.length ∧ xs.all keepM then .next (setXs is (frzF fl xs) ρ) w else .bad
theorem ev_parF {i j : Nat} {fl : List Bool} (ha : EvA P H0 Wi tr fr) : EvS P H0 Wi (tPar i j tr) (sParF [i, j] fl fr) := by
  intro σ H G ws ρ w D st h
  unfold sParF at h
  refine ha σ H G ws ρ w _ st (postA_of st h fun xs w' _ h vs H1 G1 ws1 n r k => ?_)
  split at h
  · rename_i hc
    have hl := r.length
    obtain ⟨G2, s2, n2, r2, k2, a2, l2, _⟩ := freezeSome (fl := fl) n r k hc.2.2 hc.2.1
    have st2 := st.setAllX [i, j] n2 r2 k2 a2
    match vs, hl, st2 with
    | [v, u], hl, st2 => exact ⟨v, u, rfl, h _ _ _ _ st2 n2.mon⟩
    | [], hl, _ => rw [← hl] at hc; simp at hc
    | [_], hl, _ => rw [← hl] at hc; simp at hc
    | _ :: _ :: _ :: _, hl, _ => rw [← hl] at hc; simp at hc
  · exact h.elim
theorem ev_par3F {i j l : Nat} {fl : List Bool} (ha : EvA P H0 Wi tr fr) : EvS P H0 Wi (tPar3 i j l tr) (sParF [i, j, l] fl fr) := by
  intro σ H G ws ρ w D st h
  unfold sParF at h
  refine ha σ H G ws ρ w _ st (postA_of st h fun xs w' _ h vs H1 G1 ws1 n r k => ?_)
  split at h
  · rename_i hc
    have hl := r.length
    obtain ⟨G2, s2, n2, r2, k2, a2, l2, _⟩ := freezeSome (fl := fl) n r k hc.2.2 hc.2.1
    have st2 := st.setAllX [i, j, l] n2 r2 k2 a2
    match vs, hl, st2 with
    | [v, u, z], hl, st2 => exact ⟨v, u, z, rfl, h _ _ _ _ st2 n2.mon⟩
    | [], hl, _ => rw [← hl] at hc; simp at hc
    | [_], hl, _ => rw [← hl] at hc; simp at hc
    | [_, _], hl, _ => rw [← hl] at hc; simp at hc
    | _ :: _ :: _ :: _ :: _, hl, _ => rw [← hl] at hc; simp at hc
  · exact h.elim
end
section
variable {X : Cx} {κ : Kx} {a b c : Expr} {fa fb fc : DE} {fA fB : DT} {es : List Expr} {fr : DA} {pos p p2 p3 : Pos} {k : Nat} {fi : DI} {gs hs : DS} {tg iter : Expr}
theorem s_setF {x : Str} (i : Nat) (c : Fe X κ k) (ha : XE X κ a fa) (hi : X.N[i]? = some x := by rfl) (hx : Loc X.env.scope x := by first | exact Or.inl rfl | exact Or.inr rfl) (hs : swapsWith a (some (.Name x p)) pos.line X.env = pure false := by rfl)
    (hf : X.fn x = true ∨ X.env.scope.names.lookup x = some .local := by first | exact .inl rfl | exact .inr rfl) : XS X κ (.Assign [.Name x p] a pos) (sSetF i fa) := by
  obtain ⟨t, pa, ea⟩ := ha
  exact ⟨_, ps_set c.nd hi hx pa hs hf, ev_setF ea⟩
theorem s_parF {x y : Str} {px py pt pt2 : Pos} {kt k2 : Nat} (i j : Nat) (fl : List Bool) (c : Fe X κ k) (ha : XA X κ [a, b] fr) (hi : X.N[i]? = some x := by rfl) (hj : X.N[j]? = some y := by rfl) (hij : i ≠ j := by decide) (hx : X.env.scope.names.lookup x = some .local := by rfl) (hy : X.env.scope.names.lookup y = some .local := by rfl)
    (hw : swappedStores [.Tuple [.Name x px, .Name y py] kt pt] (.Tuple [a, b] k2 pt2) X.env = pure (some [x, y]) := by rfl) (hs : swapsWithSole [.Tuple [.Name x px, .Name y py] kt pt] (.Tuple [a, b] k2 pt2) pos.line X.env = pure false := by rfl) :
    XS X κ (.Assign [.Tuple [.Name x px, .Name y py] kt pt] (.Tuple [a, b] k2 pt2) pos) (sParF [i, j] fl fr) := by
  obtain ⟨t, pa, ea⟩ := ha
  exact ⟨_, ps_par c.calm c.nd hi hj hij hx hy pa hw hs, ev_parF ea⟩
theorem s_par3F {x y z : Str} {px py pz pt pt2 : Pos} {kt k2 : Nat} (i j l : Nat) (fl : List Bool) (cc : Fe X κ k) (ha : XA X κ [a, b, c] fr) (hi : X.N[i]? = some x := by rfl) (hj : X.N[j]? = some y := by rfl) (hl : X.N[l]? = some z := by rfl) (hij : i ≠ j := by decide) (hil : i ≠ l := by decide) (hjl : j ≠ l := by decide)
    (hx : X.env.scope.names.lookup x = some .local := by rfl) (hy : X.env.scope.names.lookup y = some .local := by rfl) (hz : X.env.scope.names.lookup z = some .local := by rfl)
    (hw : swappedStores [.Tuple [.Name x px, .Name y py, .Name z pz] kt pt] (.Tuple [a, b, c] k2 pt2) X.env = pure (some [x, y, z]) := by rfl) (hs : swapsWithSole [.Tuple [.Name x px, .Name y py, .Name z pz] kt pt] (.Tuple [a, b, c] k2 pt2) pos.line X.env = pure false := by rfl) :
    XS X κ (.Assign [.Tuple [.Name x px, .Name y py, .Name z pz] kt pt] (.Tuple [a, b, c] k2 pt2) pos) (sParF [i, j, l] fl fr) := by
  obtain ⟨t, pa, ea⟩ := ha
  exact ⟨_, ps_par3 cc.calm cc.nd hi hj hl hij hil hjl hx hy hz pa hw hs, ev_par3F ea⟩
end
/-! ### the law's end -/
/-- from what the law's def computes upon the script to the law; T: the tables of code objects -/
theorem law_sp {K : PySem.W.Frag} {C : Addr} {T : List (Addr × Str)} {cm : Cm} {F : DF} {H : Hp} {a : Addr} {ns : List Int} (hF : ∃ m w, F [.scr ns] W0 = .ok ⟨m, .bl true⟩ w) (hT : LamX.Tabs T H) (hS : SqL K H a (ns.map V.int)) : spD ⟨K, ⟨C, T⟩, cm⟩ F [.ref a] H (fun v _ => v = .bl true) fun _ _ _ => False := by
  have key : ∃ G : Hp, Sm G H ∧ SqL K G a (ns.map V.int) ∧ (∀ b o, G b = some o → Nt o) ∧ ∀ b o u, H b = some (.frz o u) → G b = some (.frz o u) := by
    have sub : ∀ p : HO → Bool, (∀ o, p o = true → Nt o) → (∀ o u, p (.frz o u) = true) → ∃ G : Hp, Sm G H ∧ (∀ b o, H b = some o → p o = true → G b = some o) ∧ (∀ b o, G b = some o → Nt o) ∧ ∀ b o u, H b = some (.frz o u) → G b = some (.frz o u) := fun p h1 h2 => by
      have at_ : ∀ b o, (H b).filter p = some o ↔ H b = some o ∧ p o = true := fun b o => by rw [Option.filter_eq_some_iff]
      exact ⟨fun b => (H b).filter p, fun b o e => .inl ((at_ b o).mp e).1, fun b o e q => (at_ b o).mpr ⟨e, q⟩, fun b o e => h1 o ((at_ b o).mp e).2, fun b o u e => (at_ b _).mpr ⟨e, h2 o u⟩⟩
    obtain ⟨G, g1, g2, g3, g4⟩ := sub (fun o => match o with | .frz _ _ => true | .lst _ => true | _ => false) (fun o h => by cases o <;> first | exact nt_lst | exact nt_frz | cases h) (fun _ _ => rfl)
    refine ⟨G, g1, ?_, g3, g4⟩
    rcases hS with (h | ⟨o, h⟩) | h
    · exact .inl (.inl (g2 _ _ h rfl))
    · exact .inl (.inr ⟨o, g2 _ _ h rfl⟩)
    · exact .inr h
  obtain ⟨G, sG, z, nt, hU⟩ := key
  obtain ⟨m, w, e⟩ := hF
  refine ⟨G, ⟨0, [], none⟩, W0, [.scr ns], sG, ⟨.nil, rfl, List.nodup_nil, fun a h => by simp [regs, regs0] at h, hT, nt, fun a o u e _ => .inl (hU a o u e), rfl, by intro _ _ _ z; cases z⟩, .cons (.scr z) .nil, ?_⟩
  rw [e]
  exact fun v H' G' ws' n r _ => rv_bl r
theorem cx_no {P : Program} {w : World} {H : Hp} {s : Shared} {e : Value} {s' : Shared} (h : L2.CX P w [] H s (fun _ _ _ => False) e s') : False := by
  obtain ⟨_, _, _, _, _, _, _, _, _, _, _, _, z⟩ := h
  exact z
end DL
namespace DL
open PySem L2
abbrev gSub : Val → Val → W → R Val := gI0 fun i j => .int (i - j)
noncomputable abbrev gDiv : Val → Val → W → R Val := gI CDivW fun i j => .int (i / j)
abbrev gMod : Val → Val → W → R Val := gI (fun _ j => 0 < j) fun i j => .int (i % j)
noncomputable abbrev gPow : Val → Val → W → R Val := gI CPow fun i j => .int (i ^ j.toNat)
def gIsiT (T : String) : Val → W → R Val := fun y w => match y.d with
  | .obj _ => .bad
  | .exc _ => .bad
  | .dK _ => .bad
  | .dT _ => .bad
  | _ => gIsi T y w
theorem e_isiT (T : String) {X : Cx} {κ : Kx} {a : Expr} {fa : DE} {pos p p2 : Pos} {x : Str} (hm : X.mg "isinstance" = none) (hmT : X.mg x = none) (hv : bootBuiltins x = some (.type T)) (ha : XE X κ a fa) (hg : Gl X "isinstance" := by rfl) (hgT : Gl X x := by rfl)
    (hx : x ≠ "__name__" := by decide) (hd : (x == ("__debug__" : Str)) = false := by decide) (hs : starEach [a, .Name x p2] X.env = (false, eval a X.env) :: starEach [.Name x p2] X.env := by rfl) (hs2 : starEach [.Name x p2] X.env = (false, eval (.Name x p2) X.env) :: starEach [] X.env := by rfl)
    (hpl : (backTo pos (starEach [.Name x p2] X.env)).any (·.1) = false := by rfl) : XE X κ (.Call (.Name "isinstance" p) [a, .Name x p2] [] pos) (dUn (gIsiT T) fa) := e_isi T hm hmT hv ha hg hgT hx hd hs hs2 hpl
/-- a def as it stands behind the top -/
def Fnx (K : PySem.W.Frag) (mg : Str → Option Value) (x : Str) (st : Stmt) (ps : List Str) : Prop := ∃ f fd, Fun K x x st f fd ∧ mg x = some (.ref f) ∧ Binds K fd ps []
theorem df_mk {P : Program} {w : World} {K : PySem.W.Frag} {mg : Str → Option Value} {base : Heap} {C : Ca} {cm : Cm} {x : Str} {st : Stmt} {N ps : List Str} {k : Nat} {g : DS} (F : Fnx K mg x st ps) (S : FnScope N ps (defScope st))
    (hb : ∀ (f : Addr) (cdv : Value) (A : Around) (outer : List PySem.Env) (s : Shared) (H : Hp) (E : XK) (e : En), Fc (cxOf (L2.CX P w) P w K mg base N x (defScope st) f cdv A outer s H E) ⟨C, cm, e, fun cls d _ H' => E cls d H'⟩ k →
      XB (cxOf (L2.CX P w) P w K mg base N x (defScope st) f cdv A outer s H E) ⟨C, cm, e, fun cls d _ H' => E cls d H'⟩ (defBody st) g) : Df P w K mg base C cm x (k + 1) (fnD ps.length N.length g) := by
  obtain ⟨f, fd, F, hm, hB⟩ := F
  exact ⟨f, fd, ps, hm, F.kp, hB, def_ok F S fun cdv A outer s H E e hr => hb f cdv A outer s H E e ⟨rfl, S.nd, hr, takes_of rfl rfl rfl rfl, passes_of rfl⟩⟩
end DL
namespace DL
open PySem L2
theorem cst_int {K : PySem.W.Frag} {mg : Str → Option Value} {x : Str} {i : Int} {t : Tok} (h : mg x = some (.int i t)) : Cst K mg x (.int i) := ⟨_, .int i, h, ⟨t, rfl⟩, fun _ _ => .int _⟩
theorem cst_str {K : PySem.W.Frag} {mg : Str → Option Value} {x : Str} {i : Str} {t : Tok} (h : mg x = some (.str i t)) : Cst K mg x (.str i) := ⟨_, .str i, h, ⟨t, rfl⟩, fun _ _ => .str _⟩
end DL
namespace DL
open PySem L2
/-! ### sorted(xs): any plain data -/
structure SOk (ds : List D) : Prop where
  pl : ds.all (plN 9) = true
  al : PySem.W.AllAlike (ds.map toP)
  so : PySem.W.Sortable (ds.map toP)
  sz : ds.length ≤ sizeLine
noncomputable instance (ds : List D) : Decidable (SOk ds) := Classical.propDecidable _
end DL
namespace DL
open PySem L2
/-! ### min(xs, default=d), max(xs, default=d): ints -/
end DL
namespace DL
open PySem L2 PyProof.Rows
/-! ### xs.remove(x): texts, x among them -/
end DL
/-! Errors of own classes: raised, caught, asked for their class. -/
namespace DL
open PySem L2
/-! ### the classes of errors; A: their base, over ValueError -/
structure ErrC (K : PySem.W.Frag) (A C : Addr) : Prop where
  cls : ∃ cd, PySem.W.clsIn K C = some cd ∧ cd.mro = [.ref C, .ref A, .type "ValueError", .type "Exception", .type "BaseException", .type "object"] ∧ cd.hasDict = true
  ty : PySem.W.typeIn K (.ref C) = some (.type "type")
  kp : PySem.W.keepIn K (.ref C) = true
  ga : PySem.W.findIn K (.ref C) "__getattribute__" = some (some (.builtin "BaseException.__getattribute__"))
  gt : PySem.W.findIn K (.ref C) "__getattr__" = some none
  ca : PySem.W.findIn K (.ref C) "__class__" = some (some (.builtin "object.__class__"))
/-- the classes of errors that the top has written -/
structure Ers (K : PySem.W.Frag) (mg : Str → Option Value) (cm : Cm) (A : Addr) : Prop where
  inj : ∀ x y a, cm x = some a → cm y = some a → x = y
  ne : ∀ x, cm x ≠ some A
  cl : ∀ x C, cm x = some C → ErrC K A C
  air : mg "AirError" = some (.ref A)
  airC : ∃ cd, PySem.W.clsIn K A = some cd ∧ cd.mro = [.ref A, .type "ValueError", .type "Exception", .type "BaseException", .type "object"] ∧ cd.hasDict = true
  airT : PySem.W.typeIn K (.ref A) = some (.type "type")
  sp : PySem.W.specialIn K (.builtin "object.__class__") "__get__" = some (some (.builtin "getset_descriptor.__get__"))
  tk : PySem.W.takesIn K (.builtin "object.__class__") = some true
section
variable {K : PySem.W.Frag} {A C : Addr}
theorem ErrC.sub (h : ErrC K A C) (v : Value) : PySem.W.subIn K (.ref C) v = some ([Value.ref C, .ref A, .type "ValueError", .type "Exception", .type "BaseException", .type "object"].contains v) := by
  obtain ⟨cd, h1, h2, _⟩ := h.cls
  show PySem.W.mroIn K C v = _
  unfold PySem.W.mroIn
  rw [h1, Option.bind_some, h2]
  rfl
theorem ErrC.base (h : ErrC K A C) : PySem.W.subIn K (.ref C) (.type "BaseException") = some true := (h.sub _).trans (by
  congr 1)
theorem ErrC.dict (h : ErrC K A C) : PySem.W.hasDictIn K C = true := by
  obtain ⟨cd, h1, _, h3⟩ := h.cls
  unfold PySem.W.hasDictIn
  rw [h1]
  exact h3
theorem ErrC.one (h : ErrC K A C) {C' : Addr} (h1 : (PySem.W.clsIn K C').isSome = true) (h2 : PySem.W.typeIn K (.ref C') = some (.type "type")) : PySem.W.kitOne K (.ref C) (.ref C') = some (decide (C' = C) || decide (C' = A)) := by
  unfold PySem.W.kitOne
  by_cases e : C = C'
  · subst e
    simp
  · have n1 : (Value.ref C == Value.ref C') = false := Bool.eq_false_iff.mpr fun q => e (Value.ref.inj (beq_iff_eq.mp q))
    rw [n1, if_neg Bool.false_ne_true]
    unfold PySem.W.kitCls
    dsimp only
    rw [h1, h2, h.sub]
    rw [if_pos (by rfl)]
    have n2 : (Value.ref C' == Value.ref C) = false := Bool.eq_false_iff.mpr fun q => e (Value.ref.inj (beq_iff_eq.mp q)).symm
    by_cases ea : C' = A
    · subst ea
      simp [List.contains_cons]
    · have n3 : (Value.ref C' == Value.ref A) = false := Bool.eq_false_iff.mpr fun q => ea (Value.ref.inj (beq_iff_eq.mp q))
      simp only [List.contains_cons, n2, n3, List.contains_nil]
      simp [Ne.symm e, ea]
theorem ErrC.oneV (h : ErrC K A C) : PySem.W.kitOne K (.ref C) (.type "ValueError") = some true := by
  unfold PySem.W.kitOne
  rw [if_neg (by simp)]
  unfold PySem.W.kitCls
  dsimp only
  rw [if_pos (by decide +kernel), h.sub]
  simp
theorem ErrC.exc {mg : Str → Option Value} {cm : Cm} (h : ErrC K A C) (E : Ers K mg cm A) : L2.ExcC K C :=
  ⟨h.ga, h.gt, h.base, h.dict, h.ca, E.sp, E.tk, (h.sub (.type "object")).trans (by simp)⟩
theorem Ers.catch {mg : Str → Option Value} {cm : Cm} (E : Ers K mg cm A) (h : ErrC K A C) : PySem.W.exmOne K (.ref C) (.ref A) = some true := by
  obtain ⟨cd, h1, h2, h3⟩ := E.airC
  refine PySem.W.exm_ref ?_ ?_ E.airT ((h.sub _).trans (by simp))
  · show PySem.W.mroIn K A _ = _
    unfold PySem.W.mroIn
    rw [h1, Option.bind_some, h2]
    simp
  · unfold PySem.W.hasDictIn
    rw [h1]
    exact h3
end
/-- some base -/
def ErsX (K : PySem.W.Frag) (mg : Str → Option Value) (cm : Cm) : Prop := ∃ A, Ers K mg cm A
/-- .. by a list of names and places -/
abbrev cmL (t : List (String × Addr)) : Cm := fun x => t.lookup x
theorem lookup_mem {t : List (String × Addr)} {x : String} {a : Addr} (h : t.lookup x = some a) : (x, a) ∈ t := by
  induction t with
  | nil => cases h
  | cons p t ih =>
    obtain ⟨y, b⟩ := p
    rw [List.lookup_cons] at h
    split at h
    · rename_i e
      have := beq_iff_eq.mp e
      subst this
      cases h
      exact List.mem_cons_self
    · exact List.mem_cons_of_mem _ (ih h)
theorem nodup_snd {t : List (String × Addr)} (h : (t.map (·.2)).Nodup) {x y : String} {a : Addr} (hx : (x, a) ∈ t) (hy : (y, a) ∈ t) : x = y := by
  induction t with
  | nil => cases hx
  | cons p t ih =>
    rw [List.map_cons, List.nodup_cons] at h
    rcases List.mem_cons.mp hx with e1 | m1
    · rcases List.mem_cons.mp hy with e2 | m2
      · rw [← e1] at e2; exact (Prod.mk.inj e2).1.symm
      · exact absurd (List.mem_map.mpr ⟨(y, a), m2, by rw [← e1]⟩) h.1
    · rcases List.mem_cons.mp hy with e2 | m2
      · exact absurd (List.mem_map.mpr ⟨(x, a), m1, by rw [← e2]⟩) h.1
      · exact ih h.2 m1 m2
theorem ers_mk {K : PySem.W.Frag} {mg : Str → Option Value} {A : Addr} {t : List (String × Addr)} (nd : (A :: t.map (·.2)).Nodup) (h : ∀ p ∈ t, ErrC K A p.2) (a1 : mg "AirError" = some (.ref A)) (a2 : ∃ cd, PySem.W.clsIn K A = some cd ∧ cd.mro = [.ref A, .type "ValueError", .type "Exception", .type "BaseException", .type "object"] ∧ cd.hasDict = true)
    (a3 : PySem.W.typeIn K (.ref A) = some (.type "type")) (a4 : PySem.W.specialIn K (.builtin "object.__class__") "__get__" = some (some (.builtin "getset_descriptor.__get__"))) (a5 : PySem.W.takesIn K (.builtin "object.__class__") = some true) : ErsX K mg (cmL t) := by
  rw [List.nodup_cons] at nd
  exact ⟨A, fun x y a hx hy => nodup_snd nd.2 (lookup_mem hx) (lookup_mem hy), fun x hx => nd.1 (List.mem_map.mpr ⟨(x, A), lookup_mem hx, rfl⟩), fun x C hx => h _ (lookup_mem hx), a1, a2, a3, a4, a5⟩
theorem cmL_names {t : List (String × Addr)} {c : String} (h : (cmL t c).isSome) : c ∈ t.map (·.1) := by
  obtain ⟨a, e⟩ := Option.isSome_iff_exists.mp h
  exact List.mem_map.mpr ⟨_, lookup_mem e, rfl⟩
/-! ### raise X('..') -/
structure Rcl (K : PySem.W.Frag) (mg : Str → Option Value) (cm : Cm) (x : String) : Prop where
  ex : ∃ C, mg x = some (.ref C) ∧ cm x = some C ∧ PySem.W.excIn K C [.type "ValueError", .type "Exception", .type "BaseException", .type "object"] "ValueError.__new__" = true
def sRaise (c : String) : DS := fun ρ w => .ex ⟨c, []⟩ ρ w
theorem s_raise {X : Cx} {κ : Kx} {k : Nat} {x : String} {m : Str} {j : Nat} {p p2 pos pos2 : Pos} (c : Fe X κ k) (E : ErsX X.K X.mg κ.cm) (r : Rcl X.K X.mg κ.cm x) (hg : Gl X x := by rfl) (hdb : ((x : Str) == ("__debug__" : Str)) = false := by decide) :
    XS X κ (.Raise (some (.Call (.Name x p) [.Constant (.str m) j p2] [] pos)) none pos2) (sRaise x) := by
  obtain ⟨C, h1, h2, h3⟩ := r.ex
  obtain ⟨A, E⟩ := E
  have hc := E.cl x C h2
  refine ⟨_, ps_raise c.calm c.tk (pmk_own PySem.F.excBase_ValueError h3 h1 hc.kp (raises_own hc.base hc.ty) hg hdb), ?_⟩
  intro σ H G ws ρ w D st h
  exact h (.ref C) none σ H G ws st ⟨C, h2, rfl, .inl ⟨rfl, rfl⟩⟩
end DL
/-! A def called in an except suite with the error that is handled. -/
namespace DL
open PySem PySem.Spec PyProof.Rows L2 L2H
abbrev Xz : L2.CXT := fun _ _ _ _ _ _ => False
abbrev Ez : XK := fun _ _ _ => False
/-- the def at f, called while the error p is handled; spx: its promise, of the error's place, class and dict -/
def HotOk (P : Program) (w : World) (K : PySem.W.Frag) (mg : Str → Option Value) (base : Heap) (k : Nat) (f : Addr) (fd : FuncData) (ps : List Str) (spx : Addr → Value → Option Addr → List V → Hp → VK → Prop) : Prop :=
  ∀ (A : Around) (outer : List PySem.Env) (s : Shared) (H : Hp) (args : Args) (us : List Value) (vs : List V) (Q : VK) (p : Addr × Obj) (cls : Value) (d : Option Addr), RoomH k A → PinOk outer H s p → Zc cls d p.2 → (∃ fs, p.2.data = .fields fs) →
    Env0 P w K mg base A outer s H → BindsTo s fd args (ps.zip us) → Vals vs us → vs.length = ps.length → spx p.1 cls d vs H Q → codeAny (model P w) A (.call (.ref f) args) (CR Xz outer P w H s Q Ez) s
/-- the context of such a body -/
def HotX (X : Cx) (p : Addr × Obj) (cls : Value) (d : Option Addr) : Prop := p ∈ X.pn ∧ Zc cls d p.2 ∧ ∃ fs, p.2.data = .fields fs
theorem hot_of {P : Program} {w : World} {K : PySem.W.Frag} {mg : Str → Option Value} {base : Heap} {k : Nat} {x qual : Str} {st : Stmt} {f : Addr} {fd : FuncData} {N ps : List Str} {spx : Addr → Value → Option Addr → List V → Hp → VK → Prop} (F : Fun K x qual st f fd) (S : FnScope N ps (defScope st))
    (hb : ∀ (cdv : Value) (A : Around) (outer : List PySem.Env) (s : Shared) (H : Hp) (vs : List V) (Q : VK) (p : Addr × Obj) (cls : Value) (d : Option Addr), RoomH k (A.deeper (envOfC qual (defScope st) s.heap.objs.size f cdv)) → HotX (cxH Xz P w K mg base N qual (defScope st) f cdv A outer s H Ez p) p cls d → spx p.1 cls d vs H Q →
      ∃ t, PSs (cxH Xz P w K mg base N qual (defScope st) f cdv A outer s H Ez p) (defBody st) t ∧ t { nx := fun _ H' => Q .non H', rt := Q } (L2.start N vs) H) : HotOk P w K mg base (k + 1) f fd ps spx := by
  obtain ⟨oc, od, kV, doc, pm, an, cdv, ct, osl, rfl, lk, hcd⟩ := F.ex
  intro A outer s H args us vs Q p cls d hr hp hz hf e0 hbi rv hl hsp
  have inK : K.In s.heap := e0.mod.kin.keeps fun b o z => (e0.bs b o z).1
  have lim : s.heap.NoLimit := e0.mod.nolimit.keeps fun b o z => (e0.bs b o z).1
  refine codeAny_call_function hr.depth (inK _ _ lk) rfl S.co S.gen rfl (PySem.W.codeRec_of inK hcd) (hbi _ _ _ _ ?_)
  refine wpAny_newFunctionEnv_cells S.kind ?_ ?_
  · rintro ⟨n, u⟩ hn
    rcases S.par n (List.of_mem_zip hn).1 with z | z
    · exact .inl z
    · exact .inr ⟨z, PySem.W.cellsFrom_some _ _ _ (.inl z)⟩
  · intro env he s1 xx
    subst he
    refine ⟨lim.keeps xx.toInCall.keep, codeAny_func ?_⟩
    obtain ⟨t, ht, hq⟩ := hb cdv A outer s H vs Q p cls d (hr.deeper _) ⟨List.mem_singleton.mpr rfl, hz, hf⟩ hsp
    have I := inv_startH (CX := Xz) (E := Ez) S hp e0 hl rv xx
    refine wpAny_mono (ht.run [] s1 _ H _ I hq) ?_ (fun e s' hs => hs)
    intro fl s' hs
    cases fl with
    | next =>
      obtain ⟨σ', H', J, q⟩ := hs
      exact ⟨.non, H', J.os, J.bare, J.base, J.hok, rfl, q⟩
    | ret u =>
      obtain ⟨v, σ', H', J, rv', q⟩ := hs
      exact ⟨v, H', J.os, J.bare, J.base, J.hok, rv', q⟩
    | brk => obtain ⟨_, _, _, q⟩ := hs; exact q.elim
    | cont => obtain ⟨_, _, _, q⟩ := hs; exact q.elim
/-- x(n), n the error that the suite holds -/
def tHot (i : Nat) (a : Addr) (cls : Value) (d : Option Addr) (spx : Addr → Value → Option Addr → List V → Hp → VK → Prop) : TE := fun σ H Q => (i < σ.length → σ[i]? = some (some (.ref a))) ∧ spx a cls d [.ref a] H Q
theorem pe_hot {X : Cx} {k i : Nat} {f : Addr} {fd : FuncData} {a n x : Str} {spx : Addr → Value → Option Addr → List V → Hp → VK → Prop} {p : Addr × Obj} {cls : Value} {d : Option Addr} {q q2 pos : Pos} (F : HotOk X.prog X.w X.K X.mg X.base k f fd [a] spx) (hr : RoomH k X.A) (hx : HotX X p cls d)
    (hm : X.mg x = some (.ref f)) (hk : PySem.W.keepIn X.K (.ref f) = true) (hb : Binds X.K fd [a] []) (hN : X.N[i]? = some n) (hv : Vis X.env.scope n) (hg : Gl X x) (hdb : (x == ("__debug__" : Str)) = false := by decide) (hd : (n == ("__debug__" : Str)) = false := by decide)
    (hcd : (n == ("__classdict__" : Str)) = false := by decide) : PE X (.Call (.Name x q) [.Name n q2] [] pos) (tHot i p.1 cls d spx) := by
  refine ⟨fun pins s σ H Q I h => ?_⟩
  obtain ⟨hs, hsp⟩ := h
  have hs := hs (by rw [I.len]; exact (List.getElem?_eq_some_iff.mp hN).1)
  have pa : PA X [.Name n q2] (tCons (tVar i) tNil) := pa_cons (pe_var hN hv hd hcd) pa_nil
  refine wpAny_Call_Name_kw (ld_glob I hg hm ?_ hdb)
  refine PySem.W.callWith_K (h₀ := X.base) I.ok.mod.kin hk (thn (pa.run pos pins s σ H (fun vs H1 => vs = [.ref p.1] ∧ H1 = H) I ⟨_, hs, rfl, rfl⟩) ?_) (by rfl) (by rfl)
  rintro us s1 ⟨vs, H1, I1, r, e1, e2⟩
  subst e1
  rw [e2] at I1
  refine ⟨I1.kIn, ?_⟩
  have P1 := I1.pin p (List.mem_append_left _ hx.1)
  have hl : us.length = 1 := by rw [← r.length]; rfl
  have b := hb s1 us I1.kIn (by rw [List.append_nil]; exact hl)
  rw [List.append_nil] at b
  have pin : PinOk X.stack H s1 p := ⟨P1.1, P1.2.1, fun hm => (List.mem_cons.mp (I1.stkSub p.1 hm)).elim P1.2.2.1 P1.2.2.2.1, P1.2.2.2.2⟩
  refine wpAny_call (codeAny_mono (F X.A X.stack s1 H ⟨us, []⟩ us [.ref p.1] Q p cls d hr pin hx.2.1 hx.2.2 I1.env0 b r rfl hsp) ?_)
  intro rr s' hq
  cases rr with
  | error e => exact hq.elim
  | ok fl =>
    cases fl with
    | ret u => exact I1.after hq
    | next => exact False.elim hq
    | brk => exact False.elim hq
    | cont => exact False.elim hq
/-! isinstance(n, C), n the error that is handled, with a dict or without -/
section
open PySem.W PySem.Calls
theorem findObj_data {K : PySem.W.Frag} {Cc : Addr} {nm : Str} {od : Option Obj} {at_ gt : Value} (h1 : (clsIn K Cc).isSome = true) (h2 : findIn K (.ref Cc) nm = some (some at_)) (h3 : specialIn K at_ "__get__" = some (some gt)) (h4 : takesIn K at_ = some true) : findObj K Cc od nm = some (.bind gt at_) := by
  obtain ⟨cd, hcd⟩ := Option.isSome_iff_exists.mp h1
  unfold findObj
  rw [hcd, Option.bind_some, h2, Option.bind_some]
  simp [h3, h4]
variable {prog : Program} {w : World} {A : Around} {E : Value → Shared → Prop} {K : PySem.W.Frag} {e D : Addr} {oe : Obj} {od : Option Obj}
theorem class_exc {s : Shared} {Q : Option Value → Shared → Prop} (Cx : ExcC K D) (inK : K.In s.heap) (ia : InstAt s.heap e oe D od) (hq : Q (some (.ref D)) { s with toks := s.toks + 1 }) : wpAny (model prog w) A (getAttr? (.ref e) "__class__") Q E s := by
  have fo : findObj K D od "__class__" = some (.bind (.builtin "getset_descriptor.__get__") (.builtin "object.__class__")) := findObj_data (by obtain ⟨cd, hc, _⟩ := any_some Cx.hd; rw [hc]; rfl) Cx.ha Cx.hn Cx.ht
  obtain ⟨hh, gg, dr, tk, os⟩ := s
  have la := ia.type (M := model prog w)
  have lb := looks_findIn (M := model prog w) inK Cx.hg
  have lc := looks_findIn (M := model prog w) inK Cx.hk
  have ld := looks_find (M := model prog w) inK ia fo
  have lsub : Looks (model prog w) hh (isInstance (.ref e) (.type "BaseException")) true := la.andThen (looks_subIn inK Cx.hs)
  have n0 : (false && onTheHeap (Value.builtin "BaseException.__getattribute__")) = false := rfl
  have n2 : (Value.builtin "BaseException.__getattribute__" == Value.builtin "object.__getattribute__") = false := by decide +kernel
  have n1 : (onTheHeap (Value.ref D) && Value.builtin "BaseException.__getattribute__" == Value.builtin "object.__getattribute__") = false := by rw [n2]; rfl
  unfold getAttr? getAttrBy? getAttrBy
  refine wpAny_bind (wpAny_mkText (wpAny_bind (wpAny_attempt (wpAny_holding (wpAny_bind (la.at (wpAny_bind (lb.at ?_))))))))
  show (wpAny _ _ (if (onTheHeap (Value.ref D) && Value.builtin "BaseException.__getattribute__" == Value.builtin "object.__getattribute__") = true then _ else _) _ _ _)
  rw [n1, if_neg Bool.false_ne_true]; unfold getAttrByItsOwn hookBefore
  refine wpAny_bind ?_
  rw [if_pos (show onTheHeap (Value.ref D) = true from rfl)]; refine lc.at ?_
  refine wpAny_bind (wpAny_attempt (wpAny_holding ?_)); unfold callGetattribute
  rw [n0, if_neg Bool.false_ne_true]; unfold boundAndCalled
  rw [PySem.F.excAttr_ValueError.ga.bind (.ref e)]; refine wpAny_bind (wpAny_pure ?_)
  show wpAny _ _ (call (.builtin "BaseException.__getattribute__") [.ref e, .str "__class__" tk]) _ _ _
  refine wpAny_call (codeAny_call_builtin PySem.F.excAttr_ValueError.ga.plain PySem.F.entry_bexc_ga ?_)
  refine @check_slot (model prog w) _ _ ⟨hh, gg, dr, tk + 1, os⟩ "BaseException.__getattribute__" "BaseException" "__getattribute__" (.ref e) [.str "__class__" tk] [] _ (by decide +kernel) (by decide +kernel) lsub (PySem.F.args_bexc_ga (.ref e) (.str "__class__" tk)) ?_
  unfold Builtin.«object.__getattribute__»
  refine wpAny_bind (wpAny_of_eq (a := ((Value.ref e : Value), [Value.str "__class__" tk])) (by first | rfl | (simp only [slotArgs]; rfl)) ?_)
  refine wpAny_bind (wpAny_pure (wpAny_bind (la.at (wpAny_bind (ld.at ?_)))))
  show wpAny _ _ (holding [Value.builtin "object.__class__"] (call (.builtin "getset_descriptor.__get__") [.builtin "object.__class__", .ref e, .ref D]) >>= ret) _ _ _
  refine wpAny_bind (wpAny_holding (wpAny_call (class_get (s := ⟨hh, gg, dr, tk + 1, os⟩) (ox := oe) (od := od) inK ia Cx.hm ?_)))
  refine wpAny_pure ?_
  show wpAny _ _ (handedOut (.ref D)) _ _ _
  rw [handedOut_of (v := .ref D) rfl]
  first
    | exact wpAny_pure (wpAny_pure hq)
    | exact wpAny_pure hq
    | exact wpAny_pure (wpAny_bind (wpAny_pure (wpAny_pure hq)))
theorem kit_exc (Cx : ExcC K D) : KitX K (.ref e) (.ref D) (fun h => InstAt h e oe D od) where
  ty := fun _ _ _ ia => ia.type
  it := fun _ _ inK _ => by
    obtain ⟨cdD, hcD, _⟩ := any_some Cx.hd
    unfold clsIn at hcD
    split at hcD
    · rename_i c1 d1 cd1 sl1 hob; intro A1 Q1 E1 s1 k1 q1; unfold isType loadHead; exact wpAny_bind (wpAny_loadPart (k1 _ _ (inK _ _ hob)) (wpAny_pure q1))
    · cases hcD
  ne := fun h tp dd its n sl inK htp => by
    obtain ⟨cdD, hcD, _⟩ := any_some Cx.hd
    refine Bool.eq_false_iff.mpr fun z => ?_
    have ez : D = tp := Value.ref.inj (beq_iff_eq.mp z)
    subst ez
    unfold clsIn at hcD
    split at hcD
    · rename_i c1 d1 cd1 sl1 hob; have z2 := (inK _ _ hob).symm.trans htp; cases z2
    · cases hcD
  ca := fun inK ia k => class_exc Cx inK ia k
end
/-- what stands where the error's dict is -/
def XdAt (d : Option Addr) (H : Hp) : Prop := ∀ dd, d = some dd → ∃ fs, H dd = some (.xd fs)
theorem call_isX {X : Cx} {p : Addr × Obj} {D : Addr} {d : Option Addr} (hx : HotX X p (.ref D) d) (C : ExcC X.K D) : CallR X (.builtin "isinstance") (fun vs H Q => XdAt d H ∧ rIsE X.K D p.1 vs H Q) := by
  intro pins s σ H xs us Q I r h
  obtain ⟨hxd, c, cv, b, rfl, hcv, e, q⟩ := h
  cases r with
  | cons rx rr => cases rr with
    | cons rt rr =>
      cases rr
      cases rx
      have ec := hcv _ rt
      subst ec
      obtain ⟨hget, _⟩ := I.pin p (List.mem_append_left _ hx.1)
      have J : ∃ od, PySem.W.InstAt s.heap p.1 p.2 D od := by
        obtain ⟨pa, oc, od, oda, osl⟩ := p
        obtain ⟨_, ⟨h1, h2⟩, vs, h3⟩ := hx
        dsimp only at h1 h2 h3
        subst h1 h2 h3
        cases od with
        | none => exact ⟨none, hget, rfl, rfl, trivial⟩
        | some dd =>
          obtain ⟨fs, hfs⟩ := hxd dd rfl
          obtain ⟨mA, hns, _⟩ := I.hok dd _ hfs
          obtain ⟨oD, _, _, e1, _⟩ := hns
          exact ⟨some oD, hget, rfl, rfl, e1⟩
      obtain ⟨od, J⟩ := J
      exact PySem.W.kia_one (kit_exc C) I.kIn J e (fun z => nomatch z) (fun tk => ⟨.bl b, H, I.kept (t' := tk) (fun _ _ z => z), rfl, q⟩)
end DL
namespace DL
open PySem PySem.Spec PyProof.Rows L2 L2H
/-! ### a built-in's method with one argument, as an expression -/
def RBm (P : Pm) (T : String) (r : V → List V → Hp → VK → Prop) (g : Val → Val → W → R Val) : Prop := ∀ H G ws w vx vy x y (Q : VK), Sm G H → RelW P.K P.C G H ws w → RV P.K G H ws vx x → RV P.K G H ws vy y → PostE P (fun _ _ _ => False) H G ws Q (g x y w) → r vx [vy] H Q
/-- what the receiver must be -/
def tyOk : String → D → Bool
  | "list", .lst _ => true
  | "str", .str _ => true
  | _, _ => false
def dBm (T : String) (g : Val → Val → W → R Val) (fa fb : DE) : DE := fun ρ w => (fa ρ w).bind fun x w1 => if tyOk T x.d then (fb ρ w1).bind fun y w2 => chk x w1 w2 (g x y w2) else .bad
theorem tyOk_v {K : PySem.W.Frag} {G H : Hp} {ws : Ws} {v : V} {x : Val} {T : String} (s : Sm G H) (r : RV K G H ws v x) (h : tyOk T x.d = true) : tyV K T v H := by
  obtain ⟨m, d⟩ := x
  unfold tyOk at h
  split at h
  · rename_i e; cases e
    obtain ⟨a, vs, rfl, q, _⟩ := rv_lst s r
    exact .inl ⟨rfl, _, SqL.of q⟩
  · rename_i e; cases e
    rw [rv_str r]
    rfl
  · cases h
theorem ev_bm {P : Pm} {H0 : En} {Wi : WX} {ta tb : TE} {fa fb : DE} {T : String} {r : V → List V → Hp → VK → Prop} {g : Val → Val → W → R Val} (ha : EvE P H0 Wi ta fa) (hb : EvE P H0 Wi tb fb) (hr : RBm P T r g) (hn : ∀ x y w e w', g x y w ≠ .ex e w') : EvE P H0 Wi (tBM P.K T r ta (tCons tb tNil)) (dBm T g fa fb) := by
  intro σ H G ws ρ w Q st h
  unfold dBm at h
  refine ha σ H G ws ρ w _ st ?_
  cases e : fa ρ w with
  | bad => rw [e] at h; exact h
  | ex x w' => rw [e] at h; exact h
  | ok x w' =>
    intro v H1 G1 ws1 n1 r1 k1
    rw [e] at h
    have h : PostE P (fun c d H' => Wi c d σ H') H G ws Q (if tyOk T x.d = true then (fb ρ w').bind fun y w2 => chk x w' w2 (g x y w2) else .bad) := h
    by_cases ht : tyOk T x.d = true
    · rw [if_pos ht] at h
      refine ⟨tyOk_v n1.sub r1 ht, ?_⟩
      refine hb σ H1 G1 ws1 ρ w' _ (st.next n1) ?_
      cases e2 : fb ρ w' with
      | bad => rw [e2] at h; exact h
      | ex y w2 => rw [e2] at h; exact PostE.after n1 h
      | ok y w2 =>
        intro v2 H2 G2 ws2 n2 r2 k2
        rw [e2] at h
        obtain ⟨hx, h⟩ := PostE.chk h
        exact hr H2 G2 ws2 w2 v v2 x y Q n2.sub n2.rw (r1.move n2 fun z => n2.same n1.rw (hx z)) r2 ((PostE.after (n1.trans n2) h).noex fun _ _ => hn _ _ _ _ _)
    · rw [if_neg ht] at h; exact h.elim
/-! ### xs.count(y), xs.index(y) -/
def rCntF (K : PySem.W.Frag) : V → List V → Hp → VK → Prop := fun x xs H Q => ∃ (p : Addr) (ys : List V) (y : V), x = .ref p ∧ xs = [y] ∧ SqL K H p ys ∧ flatV y = true ∧ ys.all flatV = true ∧ Q (.int (ys.countP (fun z => eqV z y) : Nat)) H
theorem count_flat {y : V} : ∀ {ys : List V} {us : List Value}, Vals ys us → ys.all flatV = true → us.countP (eqU y) = ys.countP (fun z => eqV z y)
  | _, _, .nil, _ => rfl
  | _, _, .cons r t, f => by
    rw [List.all_cons, Bool.and_eq_true] at f
    rw [List.countP_cons, List.countP_cons, count_flat t f.2, eqU_of r f.1]
theorem mt_countF {X : Cx} : MtR X "list.count" (rCntF X.K) := by
  intro pins s σ H x xs v us Q I rx rxs h
  obtain ⟨p, ys, y, rfl, rfl, hs, fy, fys, q⟩ := h
  cases rx
  obtain ⟨u, rfl, ru⟩ := rxs.one
  obtain ⟨its, rv, ⟨⟨cls, dd, data, sl⟩, n, ho, hc, hdn, hd⟩, hlen⟩ := I.list hs
  dsimp only at hc hd
  subst hc hd
  refine call_meets PySem.F.slot_list_count ⟨_, ho, rfl⟩ PySem.F.entry_list_count (PySem.F.args_list_count_2 _ _) (SeqAt.list_countAt p its.toArray n dd sl u (eqU y)) ⟨ho, fun z hz => mem_eqAt ru fy rv fys z (by simpa using hz), ?_⟩
  refine ⟨.int (ys.countP (fun z => eqV z y) : Nat), H, I.tok _, ⟨s.toks, ?_⟩, q⟩
  rw [← count_flat rv fys]
def gCnt : Val → Val → W → R Val := fun x y w => match x.d with
  | .lst ds => if ds.all flD && flD y.d then .ok (fz (.int (ds.countP fun z => eqD z y.d : Nat))) w else .bad
  | _ => .bad
def gIdx : Val → Val → W → R Val := fun x y w => match x.d with
  | .lst ds => if ds.all flD && flD y.d then (match ds.findIdx? (fun z => eqD z y.d) with | some j => .ok (fz (.int (j : Nat))) w | none => .bad) else .bad
  | _ => .bad
theorem countV_flat {K : PySem.W.Frag} {G : Hp} {ι : List Addr} {u : V} {e : D} (h2 : Rep K G ι u e) (p2 : flD e = true) : ∀ {vs : List V} {ds : List D}, Reps K G ι vs ds → ds.all flD = true → vs.countP (fun z => eqV z u) = ds.countP fun z => eqD z e
  | _, _, .nil, _ => rfl
  | _, _, .cons a b, h => by
    rw [List.all_cons, Bool.and_eq_true] at h
    rw [List.countP_cons, List.countP_cons, countV_flat h2 p2 b h.2, eqV_flat a h2 h.1 p2]
theorem rbm_cnt {P : Pm} : RBm P "list" (rCntF P.K) gCnt := by
  intro H G ws w vx vy x y Q s r hx hy h
  obtain ⟨m, d⟩ := x
  cases d <;> try exact h.elim
  rename_i ds
  have h : PostE P (fun _ _ _ => False) H G ws Q (if (ds.all flD && flD y.d) = true then .ok (fz (.int (ds.countP fun z => eqD z y.d : Nat))) w else .bad) := h
  by_cases hc : (ds.all flD && flD y.d) = true
  · rw [if_pos hc] at h
    rw [Bool.and_eq_true] at hc
    obtain ⟨a, vs, rfl, q, rs⟩ := rv_lst s hx
    obtain ⟨f1, ry⟩ := rv_flat hy hc.2
    refine ⟨a, vs, vy, rfl, rfl, SqL.of q, f1, reps_flat rs hc.1, ?_⟩
    rw [countV_flat ry hc.2 rs hc.1]
    exact fz_q s r h (.int _)
  · rw [if_neg hc] at h; exact h.elim
theorem rbm_idx {P : Pm} : RBm P "list" (rIndex P.K) gIdx := by
  intro H G ws w vx vy x y Q s r hx hy h
  obtain ⟨m, d⟩ := x
  cases d <;> try exact h.elim
  rename_i ds
  have h : PostE P (fun _ _ _ => False) H G ws Q (if (ds.all flD && flD y.d) = true then (match ds.findIdx? (fun z => eqD z y.d) with | some j => .ok (fz (.int (j : Nat))) w | none => .bad) else .bad) := h
  by_cases hc : (ds.all flD && flD y.d) = true
  · rw [if_pos hc] at h
    rw [Bool.and_eq_true] at hc
    obtain ⟨a, vs, rfl, q, rs⟩ := rv_lst s hx
    obtain ⟨f1, ry⟩ := rv_flat hy hc.2
    cases e : ds.findIdx? (fun z => eqD z y.d) with
    | none => rw [e] at h; exact h.elim
    | some j =>
      rw [e] at h
      obtain ⟨hj, h1, h2⟩ := List.findIdx?_eq_some_iff_getElem.mp e
      have hjv : j < vs.length := by rw [rs.length]; exact hj
      obtain ⟨dz, ez, rz⟩ := rs.get (List.getElem?_eq_getElem hjv)
      have ez' : ds[j] = dz := by rw [List.getElem?_eq_getElem hj] at ez; exact Option.some.inj ez
      have fl : ∀ d ∈ ds, flD d = true := fun d hd => List.all_eq_true.mp hc.1 d hd
      refine ⟨a, vs, vy, j, vs[j], rfl, rfl, SqL.of q, f1, reps_flat rs hc.1, List.getElem?_eq_getElem hjv, ?_, ?_, fz_q s r h (.int _)⟩
      · rw [eqV_flat rz ry (by rw [← ez']; exact fl _ (List.getElem_mem hj)) hc.2, ← ez']
        exact h1
      · intro m z' hm hz
        obtain ⟨dm, em, rm⟩ := rs.get hz
        have hmd : m < ds.length := by omega
        have em' : ds[m] = dm := by rw [List.getElem?_eq_getElem hmd] at em; exact Option.some.inj em
        rw [eqV_flat rm ry (by rw [← em']; exact fl _ (List.getElem_mem hmd)) hc.2, ← em']
        simpa using h2 m hm
  · rw [if_neg hc] at h; exact h.elim
theorem gCnt_nx (x y : Val) (w : W) (e : Xc) (w' : W) : gCnt x y w ≠ .ex e w' := by
  unfold gCnt
  repeat' split
  all_goals exact fun h => nomatch h
theorem gIdx_nx (x y : Val) (w : W) (e : Xc) (w' : W) : gIdx x y w ≠ .ex e w' := by
  unfold gIdx
  repeat' split
  all_goals exact fun h => nomatch h
section
variable {X : Cx} {κ : Kx} {o a : Expr} {fo fa : DE} {apos cpos : Pos}
theorem e_bm {T id : String} {name : Str} {r : V → List V → Hp → VK → Prop} {g : Val → Val → W → R Val} (pa : PlainAttrs T) (slot : Slot T name id) (hty : typeOf (.builtin id) = pure (.type "method_descriptor")) (hm : MtR X id r) (hr : RBm (pm X κ) T r g) (hn : ∀ x y w e w', g x y w ≠ .ex e w') (ho : XE X κ o fo) (ha : XE X κ a fa)
    (hbase : attributeBase o name X.env (eval o X.env) = eval o X.env := by rfl)
    (hfew : ((backTo cpos (starEach [a] X.env)).all (fun x => !x.1) && (backToKw cpos (keywordEach [] X.env)).all (fun x => x.1.isSome) && decide ([a].length + ([] : List Keyword).length + (if ([] : List Keyword).isEmpty then 0 else 1) < 30)) = true := by rfl)
    (hline : (apos.endLine == cpos.line) = true := by rfl) (hs : starEach [a] X.env = (false, eval a X.env) :: starEach [] X.env := by rfl) : XE X κ (.Call (.Attribute o name apos) [a] [] cpos) (dBm T g fo fa) := by
  obtain ⟨t1, p1, e1⟩ := ho
  obtain ⟨t2, p2, e2⟩ := ha
  exact ⟨_, pe_bm pa slot hty hm p1 (pa_cons p2 pa_nil hs) hbase hfew hline hs, ev_bm e1 e2 hr hn⟩
theorem e_cnt (ho : XE X κ o fo) (ha : XE X κ a fa) (hbase : attributeBase o "count" X.env (eval o X.env) = eval o X.env := by rfl)
    (hfew : ((backTo cpos (starEach [a] X.env)).all (fun x => !x.1) && (backToKw cpos (keywordEach [] X.env)).all (fun x => x.1.isSome) && decide ([a].length + ([] : List Keyword).length + (if ([] : List Keyword).isEmpty then 0 else 1) < 30)) = true := by rfl)
    (hline : (apos.endLine == cpos.line) = true := by rfl) (hs : starEach [a] X.env = (false, eval a X.env) :: starEach [] X.env := by rfl) : XE X κ (.Call (.Attribute o "count" apos) [a] [] cpos) (dBm "list" gCnt fo fa) :=
  e_bm PySem.F.plainAttrs_list PySem.F.slot_list_count PySem.F.type_list_count mt_countF rbm_cnt gCnt_nx ho ha hbase hfew hline hs
theorem e_idx (ho : XE X κ o fo) (ha : XE X κ a fa) (hbase : attributeBase o "index" X.env (eval o X.env) = eval o X.env := by rfl)
    (hfew : ((backTo cpos (starEach [a] X.env)).all (fun x => !x.1) && (backToKw cpos (keywordEach [] X.env)).all (fun x => x.1.isSome) && decide ([a].length + ([] : List Keyword).length + (if ([] : List Keyword).isEmpty then 0 else 1) < 30)) = true := by rfl)
    (hline : (apos.endLine == cpos.line) = true := by rfl) (hs : starEach [a] X.env = (false, eval a X.env) :: starEach [] X.env := by rfl) : XE X κ (.Call (.Attribute o "index" apos) [a] [] cpos) (dBm "list" gIdx fo fa) :=
  e_bm PySem.F.plainAttrs_list PySem.F.slot_list_index PySem.F.type_list_index mt_index rbm_idx gIdx_nx ho ha hbase hfew hline hs
end
end DL
namespace DL
open PySem PySem.Spec PyProof.Rows L2 L2H
/-! ### the def that tells an error's class; a: the error, c: its class -/
section
variable {X : Cx} {κ : Kx} {a b : Expr} {fa fb : DE} {pos p p2 : Pos}
theorem h_set {x : Str} (i : Nat) (nd : X.N.Nodup) (ha : XE X κ a fa) (hi : X.N[i]? = some x := by rfl) (hx : Loc X.env.scope x := by first | exact Or.inl rfl | exact Or.inr rfl) (hs : swapsWith a (some (.Name x p)) pos.line X.env = pure false := by rfl)
    (hf : X.fn x = true ∨ X.env.scope.names.lookup x = some .local := by first | exact .inl rfl | exact .inr rfl) : XS X κ (.Assign [.Name x p] a pos) (sSet i fa) := by
  obtain ⟨t, pa, ea⟩ := ha
  exact ⟨_, ps_set nd hi hx pa hs hf, ev_set ea⟩
theorem h_ne (u : X.A.units + 64 < cLine) (ha : XE X κ a fa) (hb : XE X κ b fb) : XT X κ (.Compare a [.NotEq] [b] pos) (tst (dOp (gEq true) fa fb)) := t_cmp (op_neD u) rop_ne gEq_nx ha hb (nomark _)
/-- a class of errors under its name -/
def Mcl (mg : Str → Option Value) (cm : Cm) (x : String) : Prop := ∃ C, mg x = some (.ref C) ∧ cm x = some C
def gIsX (a : Addr) (b : Bool) : Val → W → R Val := fun v w => match v.d with
  | .exc a' => if a' = a then .ok (fz (.bl b)) w else .bad
  | _ => .bad
theorem rv_exc {K : PySem.W.Frag} {G H : Hp} {ws : Ws} {v : V} {m : Md} {i : Addr} (h : RV K G H ws v ⟨m, .exc i⟩) : v = .ref i := by
  unfold RV at h
  cases m with
  | fz => cases h; rfl
  | nw => obtain ⟨a, _, _, _, u⟩ := h; cases u
  | bo => obtain ⟨a, _, _, _, u⟩ := h; cases u
  | wd => obtain ⟨a, _, _, _, u⟩ := h; cases u
/-- the error's dict stands at the entry, and no field holds it -/
def XdIn (d : Option Addr) (H : Hp) (ws : Ws) : Prop := ∀ dd, d = some dd → (∃ fs, H dd = some (.xd fs)) ∧ dd ∉ regs ws
theorem nt_xd {fs : List (Str × V)} : Nt (.xd fs) := fun _ h => nomatch h
theorem XdIn.later {K : PySem.W.Frag} {C : Ca} {G H G' H' : Hp} {ws ws' : Ws} {w' : W} {d : Option Addr} (h : XdIn d H ws) (n : Nx K C G H ws G' H' ws' w') : XdAt d H' := fun dd e => by
  obtain ⟨⟨fs, h1⟩, h2⟩ := h dd e
  exact ⟨fs, (n.keep dd _ (.inl h1) nt_xd h2).eq⟩
theorem ev_isX {P : Pm} {H0 : En} {Wi : WX} {D : Addr} {p : Addr} {d : Option Addr} {b : Bool} {cv : V} {cu : Value} {ta : TE} (ea : EvE P H0 Wi ta fa) (hd : XdIn d H0.H H0.ws) (hu : ∀ u, RelV cv u → u = cu) (hk : PySem.W.kitOne P.K (.ref D) cu = some b) :
    EvE P H0 Wi (tCB (fun vs H Q => XdAt d H ∧ rIsE P.K D p vs H Q) (tCons ta (tCons (tC cv) tNil))) (dUn (gIsX p b) fa) := by
  intro σ H G ws ρ w Q st h
  unfold dUn at h
  refine ea σ H G ws ρ w _ st ?_
  cases e : fa ρ w with
  | bad => rw [e] at h; exact h
  | ex x w' => rw [e] at h; exact h
  | ok x w' =>
    intro v H1 G1 ws1 n1 r1 k1
    rw [e] at h
    obtain ⟨m, d⟩ := x
    have h : PostE P _ H G ws Q (gIsX p b ⟨m, d⟩ w') := h
    unfold gIsX at h
    cases d <;> try exact h.elim
    rename_i a' _
    dsimp only at h
    by_cases ha : a' = p
    · subst ha
      rw [if_pos rfl] at h
      have := rv_exc r1
      subst this
      exact ⟨hd.later (st.next n1).nx0, cv, cu, b, rfl, hu, hk, h (.bl b) H1 G1 ws1 n1 (.bl b) fz_nw⟩
    · rw [if_neg ha] at h; exact h.elim
theorem h_isX {q : Addr × Obj} {D A : Addr} {c x : String} {d : Option Addr} (hx : HotX X q (.ref D) d) (hdi : XdIn d κ.e.H κ.e.ws) (E : Ers X.K X.mg κ.cm A) (hc : κ.cm c = some D) (m : Mcl X.mg κ.cm x) (hm : X.mg "isinstance" = none) (ha : XE X κ a fa) (hg : Gl X "isinstance" := by rfl) (hgx : Gl X x := by rfl) (hd : ((x : Str) == ("__debug__" : Str)) = false := by decide)
    (hs : starEach [a, .Name x p2] X.env = (false, eval a X.env) :: starEach [.Name x p2] X.env := by rfl) (hs2 : starEach [.Name x p2] X.env = (false, eval (.Name x p2) X.env) :: starEach [] X.env := by rfl)
    (hpl : (backTo pos (starEach [.Name x p2] X.env)).any (·.1) = false := by rfl) : XE X κ (.Call (.Name "isinstance" p) [a, .Name x p2] [] pos) (dUn (gIsX q.1 (decide (c = x))) fa) := by
  obtain ⟨ta, pa, ea⟩ := ha
  obtain ⟨C, m1, m2⟩ := m
  have eD := E.cl c D hc
  have eC := E.cl x C m2
  refine ⟨_, pe_callB (call_isX hx (eD.exc E)) hg hm (by decide +kernel) (pa_cons pa (pa_cons (pe_glob (v := .ref C) hgx m1 rfl hd) pa_nil hs2) hs) (by decide) (by decide) hs hpl, ?_⟩
  refine ev_isX (P := pm X κ) (D := D) (p := q.1) (cu := .ref C) ea hdi (fun u hu => hu) ?_
  obtain ⟨cd, h1, _⟩ := eC.cls
  rw [eD.one (by rw [h1]; rfl) eC.ty]
  congr 1
  have hA : C ≠ A := fun z => E.ne x (by rw [m2, z])
  by_cases hcx : c = x
  · subst hcx
    rw [hc] at m2
    cases m2
    simp
  · have hCD : C ≠ D := fun z => hcx (E.inj c x D hc (by rw [m2, z]))
    simp [hcx, hA, hCD]
theorem h_isV {q : Addr × Obj} {D A : Addr} {c : String} {d : Option Addr} (hx : HotX X q (.ref D) d) (hdi : XdIn d κ.e.H κ.e.ws) (E : Ers X.K X.mg κ.cm A) (hc : κ.cm c = some D) (hm : X.mg "isinstance" = none) (hm2 : X.mg "ValueError" = none) (ha : XE X κ a fa) (hg : Gl X "isinstance" := by rfl) (hgx : Gl X "ValueError" := by rfl)
    (hs : starEach [a, .Name "ValueError" p2] X.env = (false, eval a X.env) :: starEach [.Name "ValueError" p2] X.env := by rfl) (hs2 : starEach [.Name "ValueError" p2] X.env = (false, eval (.Name "ValueError" p2) X.env) :: starEach [] X.env := by rfl)
    (hpl : (backTo pos (starEach [.Name "ValueError" p2] X.env)).any (·.1) = false := by rfl) : XE X κ (.Call (.Name "isinstance" p) [a, .Name "ValueError" p2] [] pos) (dUn (gIsX q.1 true) fa) := by
  obtain ⟨ta, pa, ea⟩ := ha
  have eD := E.cl c D hc
  refine ⟨_, pe_callB (call_isX hx (eD.exc E)) hg hm (by decide +kernel) (pa_cons pa (pa_cons (pe_bltn (v := .ty "ValueError") hgx hm2 (by decide +kernel) rfl) pa_nil hs2) hs) (by decide) (by decide) hs hpl, ?_⟩
  exact ev_isX (P := pm X κ) (D := D) (p := q.1) (cu := .type "ValueError") ea hdi (fun u hu => hu) eD.oneV
end
/-- its promise, by a denotation that knows the error -/
def spX (P : Pm) (F : Addr → String → DF) : Addr → Value → Option Addr → List V → Hp → VK → Prop := fun a cls d vs H Q => ∃ c C G ws w, P.cm c = some C ∧ cls = .ref C ∧ XdIn d H ws ∧ vs = [.ref a] ∧ Sm G H ∧ RelW P.K P.C G H ws w ∧ PostE P (fun _ _ _ => False) H G ws Q (F a c [.exc a] w)
theorem hot_mk {P : Program} {w : World} {K : PySem.W.Frag} {mg : Str → Option Value} {base : Heap} {C : Ca} {cm : Cm} {x : Str} {st : Stmt} {f : Addr} {fd : FuncData} {N : List Str} {n : Str} {k : Nat} {g : Addr → String → DS} (F : Fun K x x st f fd) (S : FnScope N [n] (defScope st))
    (hb : ∀ (cdv : Value) (A : Around) (outer : List PySem.Env) (s : Shared) (H : Hp) (e : En) (p : Addr × Obj) (c : String) (Da : Addr) (d : Option Addr), cm c = some Da → HotX (cxH Xz P w K mg base N x (defScope st) f cdv A outer s H Ez p) p (.ref Da) d → XdIn d e.H e.ws →
      (cxH Xz P w K mg base N x (defScope st) f cdv A outer s H Ez p).A.units + 64 < cLine → XB (cxH Xz P w K mg base N x (defScope st) f cdv A outer s H Ez p) ⟨C, cm, e, fun _ _ _ _ => False⟩ (defBody st) (g p.1 c)) :
    HotOk P w K mg base (k + 1) f fd [n] (spX ⟨K, C, cm⟩ fun a c => fnD 1 N.length (g a c)) := by
  refine hot_of F S ?_
  intro cdv A outer s H vs Q p cls d hr hx hsp
  obtain ⟨c, Da, G, ws, wd, hc, rfl, hdi, rfl, sG, rw, hp⟩ := hsp
  obtain ⟨t, h1, h2⟩ := hb cdv A outer s H ⟨H, G, ws⟩ p c Da d hc hx hdi (by have := hr.un; show (A.deeper (envOfC x (defScope st) s.heap.objs.size f cdv)).units + 64 < cLine; omega)
  refine ⟨t, h1, ?_⟩
  have rs : Reps K G (io ws) [.ref p.1] [.exc p.1] := .cons .exc .nil
  refine h2 _ H G ws ([DL.D.exc p.1].map (fun d => some (fz d)) ++ List.replicate (N.length - 1) none) wd _ (st_start sG rw rs) ?_
  unfold fnD at hp
  dsimp only at hp
  rw [if_pos (by rfl)] at hp
  cases eg : g p.1 c ([DL.D.exc p.1].map (fun d => some (fz d)) ++ List.replicate (N.length - 1) none) wd with
  | bad => rw [eg] at hp; exact hp
  | brk ρ w' => rw [eg] at hp; exact hp.elim
  | cont ρ w' => rw [eg] at hp; exact hp.elim
  | next ρ w' =>
    rw [eg] at hp
    exact fun σ' H' G' ws' st' _ => hp .non H' G' ws' st'.nx0 .non fz_nw
  | ret y w' =>
    rw [eg] at hp
    exact fun v H' G' ws' n r k _ => hp v H' G' ws' n r k
  | ex y ρ w' =>
    rw [eg] at hp
    exact fun cls d σ' H' G' ws' st' hx => hp cls d H' G' ws' st'.nx0 hx
end DL
namespace DL
open PySem PySem.Spec PyProof.Rows L2 L2H LamX
/-! ### told(lambda: ..): what is told, or a pair of 'refused' and the error's class -/
/-- tables may change -/
theorem Nx.tab {K : PySem.W.Frag} {C : Ca} {G H H' : Hp} {ws : Ws} {w : W} (s : Sm G H) (r : RelW K C G H ws w) (e : LamX.ExtN H H') (t : LamX.Tabs C.T H') : ∃ G', Nx K C G H ws G' H' ws w := by
  classical
  have k : ∀ a o, H a = some o → Nt o → H' a = some o := fun a o h n => e a o h fun ps z => n ps z
  have kL : ∀ a o, Lk H a o → Nt o → Lk H' a o := fun a o h n => by
    rcases h with h | ⟨h, q, e⟩
    · exact .inl (k a o h n)
    · exact .inr ⟨h, q, k a _ e nt_frz⟩
  -- whatever is locked and new counts as frozen
  let G' : Hp := fun b => if (∃ o, H b = some o ∧ Nt o) then G b else (match H' b with | some (.frz o u) => some (.frz o u) | _ => none)
  have gi : ∀ b, (∃ o, H b = some o ∧ Nt o) → G' b = G b := fun b h => if_pos h
  have go : ∀ b, ¬ (∃ o, H b = some o ∧ Nt o) → G' b = (match H' b with | some (.frz o u) => some (.frz o u) | _ => none) := fun b h => if_neg h
  have gn : ∀ b o, ¬ (∃ o, H b = some o ∧ Nt o) → G' b = some o → H' b = some o ∧ ∃ q u, o = .frz q u := fun b o h e => by
    rw [go b h] at e
    split at e
    · rename_i q u e1
      cases e
      exact ⟨e1, q, u, rfl⟩
    · cases e
  have sg : Same G G' := fun b o h => by
    rw [gi b ((s b o h).at' (r.nt b o h))]
    exact h
  have cont : ∀ {ι : List Addr} {a : Addr} {d : D}, Unf K G H ι a d → Unf K G' H' ι a d := fun {ι a d} u => by
    obtain ⟨o, ho, hc⟩ := u.there
    exact u.move sg (List.prefix_refl _) fun o' h => kL a o' h (ho.nt2 (nt_cont hc) h)
  refine ⟨G', sg, fun b o h => ?_, ⟨paired_imp r.obs fun q o hq ⟨⟨dx, e⟩, p⟩ => ⟨⟨dx, k _ _ e nt_ins⟩, paired_imp p fun x y hx ⟨e, f⟩ => ⟨e, ?_⟩⟩, r.nn, r.nd, fun a ha => ?_, t, fun b o h => ?_, fun a q u e hd => ?_, r.lkw, fun a o u e => k _ _ (r.lkh a o u e) nt_frz⟩, fun a o h n _ => kL a o h n, fun a o h n => ⟨o, k a o h n, n⟩, fun a o h n g => ?_, List.prefix_refl _, fun _ h => .inl h, Nat.le_refl _, fun _ => ⟨rfl, fun a ha o h => ?_⟩, Stab.refl _⟩
  · by_cases q : ∃ o, H b = some o ∧ Nt o
    · rw [gi b q] at h; exact kL b o (s b o h) (r.nt b o h)
    · exact .inl (gn b o q h).1
  · rcases f with ⟨a, e, u⟩ | h
    · exact .inl ⟨a, e, cont u⟩
    · exact .inr h
  · rw [gi a (reg_there r ha)]; exact r.out a ha
  · by_cases q : ∃ o, H b = some o ∧ Nt o
    · rw [gi b q] at h; exact r.nt b o h
    · obtain ⟨_, q, u, rfl⟩ := gn b o q h
      exact nt_frz
  · by_cases z : ∃ o, H a = some o ∧ Nt o
    · rw [gi a z]
      obtain ⟨o, h1, h2⟩ := z
      have := k a o h1 h2
      rw [e] at this
      cases this
      exact r.ul a q u h1 hd
    · rw [go a z, e]; exact .inl rfl
  · rw [gi a ⟨o, h, n⟩]; exact .inl g
  · obtain ⟨o', h', n⟩ := reg_there r ha
    exact kL a o h (Lk.nt2 (.inl h') n h)
def toldX (x : Xc) (w : W) : R Val := .ok (fz (.tup [.str "refused", .str x.c])) w
theorem reg_not_xd {K : PySem.W.Frag} {C : Ca} {G H : Hp} {ws : Ws} {w : W} (r : RelW K C G H ws w) {a : Addr} {xs : List (Str × V)} (hx : H a = some (.xd xs)) : a ∉ regs ws := by
  have go : ∀ {l : Ws0} {m : List (List (Str × D))}, Paired (fun (q : Addr × List (Str × V)) (o : List (Str × D)) => (∃ dx, H q.1 = some (.ins C.a dx q.2)) ∧ Paired (fun (x : Str × V) (y : Str × D) => x.1 = y.1 ∧ Fld K G H (io ws) x.2 y.2) q.2 o) l m → a ∉ regs0 l := by
    intro l m p
    induction p with
    | nil => simp [regs0]
    | @cons q o l m p1 p2 ih =>
      intro h
      obtain ⟨p, fs⟩ := q
      rcases List.mem_cons.mp h with rfl | h
      · obtain ⟨⟨dx, e⟩, _⟩ := p1
        rw [hx] at e; cases e
      · rcases List.mem_append.mp h with h | h
        · have go2 : ∀ {fs : List (Str × V)} {o : List (Str × D)}, Paired (fun (x : Str × V) (y : Str × D) => x.1 = y.1 ∧ Fld K G H (io ws) x.2 y.2) fs o → a ∉ refs fs := by
            intro fs o p
            induction p with
            | nil => simp [refs]
            | @cons x y l m q1 q2 ih2 =>
              intro h
              obtain ⟨n, v⟩ := x
              rcases q1.2 with ⟨b, e, u⟩ | ⟨i, e, _⟩
              · simp only at e
                subst e
                rcases List.mem_cons.mp h with rfl | h
                · obtain ⟨o, e, c⟩ := u.there
                  rcases e with e | ⟨_, q, e⟩
                  · rw [hx] at e; cases e; exact c
                  · rw [hx] at e; cases e
                · exact ih2 h
              · simp only at e
                subst e
                exact ih2 h
          exact go2 p1.2 h
        · exact ih h
  exact go r.obs
def dTold (f : DE) : DE := fun ρ w => match f ρ w with
  | .ok x w => .ok x w
  | .ex x w => toldX x w
  | .bad => .bad
def TTl (P : Pm) : (XK → Hp → VK → Prop) → Hp → VK → Prop := fun tl H Q => tl (fun cls d H' => ∃ x w G ws, Sm G H' ∧ RelW P.K P.C G H' ws w ∧ XRel P.K P.cm G H' (io ws) x cls d ∧ PostE P (fun _ _ _ => False) H' G ws Q (toldX x w)) H Q
theorem ev_told {P : Pm} {H0 : En} {Wi : WX} {f : DE} : EvE P H0 Wi (tLam P.C.T (TTl P) fun E => cE P H0 (fun cls d _ H' => E cls d H') f) (dTold f) := by
  intro σ H G ws ρ w Q st h
  refine ⟨st.rw.tb, fun H1 eN t1 => ?_⟩
  obtain ⟨G1, n1⟩ := Nx.tab st.sub st.rw eN t1
  refine ⟨G1, ws, ρ, w, st.next n1, ?_⟩
  unfold dTold at h
  cases e : f ρ w with
  | bad => rw [e] at h; exact h
  | ok x w' => rw [e] at h; exact PostE.after n1 h
  | ex x w' =>
    rw [e] at h
    have h : PostE P (fun c d H' => Wi c d σ H') H G ws Q (toldX x w') := h
    intro cls d H' G' ws' n2 hx
    refine ⟨x, w', G', ws', n2.sub, n2.rw, hx, ?_⟩
    exact (PostE.after (n1.trans n2) h).noex fun y w2 h => nomatch h
/-- the def's text -/
abbrev toldB (p1 p2 p3 p4 p5 p6 p7 p8 p9 p10 p11 p12 : Pos) (j1 j2 : Nat) : List Stmt :=
  [.Try [.Return (some (.Call (.Name "deed" p1) [] [] p2)) p3] [.ExceptHandler (some (.Name "AirError" p4)) (some "e") [.Return (some (.Tuple [.Constant (.str "refused") j1 p5, .Call (.Name "_law_class" p6) [.Name "e" p7] [] p8] j2 p9)) p10] p11] [] [] p12]
/-- told, as it stands behind the top -/
def TldT (K : PySem.W.Frag) (mg : Str → Option Value) : Prop := ∃ (g : Addr) (oc : Value) (od : Option Addr) (pg : Arguments) (sg : Scope) (kV doc pm cdv ct : Value) (an : Option Addr) (osl : Array (Option Value)) (p1 p2 p3 p4 p5 p6 p7 p8 p9 p10 p11 p12 : Pos) (j1 j2 : Nat), mg "_law_told" = some (.ref g) ∧ PySem.W.keepIn K (.ref g) = true ∧
    K.lookup g = some ⟨oc, od, .func (PySem.W.fnOf "_law_told" "_law_told" pg (toldB p1 p2 p3 p4 p5 p6 p7 p8 p9 p10 p11 p12 j1 j2) sg .none kV doc pm an cdv ct), osl⟩ ∧ PySem.W.codeIn K cdv "_law_told" = true ∧
    Binds K (PySem.W.fnOf "_law_told" "_law_told" pg (toldB p1 p2 p3 p4 p5 p6 p7 p8 p9 p10 p11 p12 j1 j2) sg .none kV doc pm an cdv ct) ["deed"] [] ∧ FnScope ["deed", "e"] ["deed"] sg ∧ sg.names.lookup ("deed" : Str) = some .local ∧ sg.names.lookup ("e" : Str) = some .local ∧ sg.names.lookup ("AirError" : Str) = some .globalImplicit ∧ sg.names.lookup ("_law_class" : Str) = some .globalImplicit
structure Tld (P : Program) (w : World) (K : PySem.W.Frag) (mg : Str → Option Value) (base : Heap) (C : Ca) (cm : Cm) : Prop where
  er : ErsX K mg cm
  cl : ∃ f fd F, mg "_law_class" = some (.ref f) ∧ PySem.W.keepIn K (.ref f) = true ∧ Binds K fd ["e"] [] ∧ HotOk P w K mg base 1 f fd ["e"] (spX ⟨K, C, cm⟩ F) ∧ ∀ a c w, (cm c).isSome → F a c [.exc a] w = .ok (fz (.str c)) w
  tl : TldT K mg
theorem told_gives {X : Cx} {C : Ca} {cm : Cm} {A fc : Addr} {fdc : FuncData} {F : Addr → String → DF} {g : Addr} {cdg : Value} {sg : Scope} {q : Str} {k : Nat} {p1 p2 p3 p4 p5 p6 p7 p8 p9 p10 p11 p12 : Pos} {j1 j2 : Nat} (E : Ers X.K X.mg cm A)
    (mc : X.mg "_law_class" = some (.ref fc)) (kc : PySem.W.keepIn X.K (.ref fc) = true) (bc : Binds X.K fdc ["e"] []) (hc : HotOk X.prog X.w X.K X.mg X.base 1 fc fdc ["e"] (spX ⟨X.K, C, cm⟩ F)) (hF : ∀ a c w, (cm c).isSome → F a c [.exc a] w = .ok (fz (.str c)) w)
    (S : FnScope ["deed", "e"] ["deed"] sg) (s1 : sg.names.lookup ("deed" : Str) = some .local) (s2 : sg.names.lookup ("e" : Str) = some .local) (s3 : sg.names.lookup ("AirError" : Str) = some .globalImplicit) (s4 : sg.names.lookup ("_law_class" : Str) = some .globalImplicit) (hr : Room (k + 2) X.A) :
    GivesTo X ["deed", "e"] "_law_told" sg g cdg (toldB p1 p2 p3 p4 p5 p6 p7 p8 p9 p10 p11 p12 j1 j2) "deed" q (TTl ⟨X.K, C, cm⟩) := by
  intro f c' s H Q tl act hco h
  refine ⟨_, pss_one (ps_try_as (X := (cxOf C8.CX0 X.prog X.w X.K X.mg X.base ["deed", "e"] "_law_told" sg g cdg X.A X.stack s H C8.E0).nox) (c := .ref A) (i := 1)
      (tb := fun W D σ H => ∃ Ech : XK, (∀ cls d σ' H', Ech cls d H' → W cls d σ' H') ∧ σ[0]? = some (some (.ref f)) ∧ H c' = some (CodeO c' q) ∧ tl Ech H D.rt)
      (ts := fun a cls d D σ H => tRet (tTup (tCons (tC (.str "refused")) (tCons (tHot 1 a cls d (spX ⟨X.K, C, cm⟩ F)) tNil))) D σ H)
      rfl rfl S.nd rfl s2 ⟨s3, by decide, .inl E.air⟩ L2.takes0 (fun W pn xe tk _ => ?_) (fun a oe cls d pn hz hf => ?_)), ?_⟩
  · refine ⟨fun pins s' σ H' D I h' => ?_⟩
    obtain ⟨Ech, hW, h1, h2, h3⟩ := h'
    have hp := act W pn xe Ech p1 p2 tk hW
    exact (pss_one (ps_ret (pos := p3) hp)).run pins s' σ H' D I ⟨h1, h2, h3⟩
  · refine pss_one (ps_ret (pe_tup (pa_cons pe_str (pa_cons ?_ pa_nil))))
    have hr1 : Room (k + 1) (X.A.deeper (envOfC "_law_told" sg s.heap.objs.size g cdg)) := hr.deeper _
    have r0 := (roomH_of hr1).mono (show 1 ≤ k + 1 by omega)
    have rh : RoomH 1 (((cxOf C8.CX0 X.prog X.w X.K X.mg X.base ["deed", "e"] "_law_told" sg g cdg X.A X.stack s H C8.E0).nox).suite a ((a, oe) :: pn)).A := ⟨r0.dp, r0.un⟩
    exact pe_hot (X := ((cxOf C8.CX0 X.prog X.w X.K X.mg X.base ["deed", "e"] "_law_told" sg g cdg X.A X.stack s H C8.E0).nox).suite a ((a, oe) :: pn)) (p := (a, oe)) (n := "e") hc rh ⟨List.mem_cons_self, hz, hf⟩ mc kc bc (i := 1) rfl (Or.inl s2) s4
  · refine ⟨_, ?_, rfl, hco, h⟩
    rintro cls d σ' H' ⟨x, w, G, ws, sG, rw, ⟨c, hc1, rfl, hd⟩, hp⟩
    have eC := E.cl _ _ hc1
    refine ⟨true, E.catch eC, fun _ a na => ?_, fun z => nomatch z⟩
    unfold toldX at hp
    have hdi : XdIn d H' ws := fun dd e => by
      rcases hd with ⟨_, h2⟩ | ⟨_, d2, vfs, h2, h3, _⟩
      · rw [h2] at e; cases e
      · rw [h2] at e; cases e; exact ⟨⟨_, h3⟩, reg_not_xd rw h3⟩
    refine ⟨?_, x.c, c, G, ws, w, hc1, rfl, hdi, rfl, sG, rw, ?_⟩
    · intro hl
      rw [List.getElem?_set_self (by simpa using hl)]
    · show PostE _ _ _ _ _ _ (F a x.c [.exc a] w)
      rw [hF a x.c w (by rw [show cm x.c = some c from hc1]; rfl)]
      intro v H2 G2 ws2 n2 r2 k2
      have ev := rv_str r2
      subst ev
      refine ⟨by show 2 ≤ sizeLine; decide, fun p hp2 => ?_⟩
      exact tup_q (vs := [.str "refused", .str x.c]) n2.sub n2.rw (PostE.after n2 hp) hp2 (.cons (.str _) (.cons (.str _) .nil))
/-- a def that makes lambdas: its code object, its table -/
structure Mkr (X : Cx) (κ : Kx) : Prop where
  ex : ∃ cc P, TabB X.base X.mg cc P ∧ X.env.code = .ref cc ∧ (P, X.env.qual ++ "<lambda>") ∈ κ.C.T ∧ ∀ p ∈ κ.C.T, p.1 = P → p.2 = X.env.qual ++ "<lambda>"
theorem e_told {X : Cx} {κ : Kx} {k : Nat} {body : Expr} {scope : Scope} {params : Arguments} {fd : DE} {p lpos pos : Pos} (T : Tld X.prog X.w X.K X.mg X.base κ.C κ.cm) (m : Mkr X κ) (c : Fe X κ (k + 2)) (L : lamSB X.env.scope scope = true)
    (hb : ∀ (A : Around) (outer : List PySem.Env) (s : Shared) (H : Hp) (E : XK) (f c' : Addr), Fe (lamCx X A outer s H E scope f c') ⟨κ.C, κ.cm, κ.e, fun cls d _ H' => E cls d H'⟩ k → XE (lamCx X A outer s H E scope f c') ⟨κ.C, κ.cm, κ.e, fun cls d _ H' => E cls d H'⟩ body fd)
    (hdef : defaultsOf params X.env = ([], []) := by rfl) (hbind : ∀ (q : Str) (cl : List (Str × Addr)) (pm cv ctv : Value), bindArgs (PySem.W.kla_fn "<lambda>" q params body scope cl pm cv ctv) ⟨[], []⟩ = pure [] := by intros; rfl) (hg : Gl X "_law_told" := by rfl) :
    XE X κ (.Call (.Name "_law_told" p) [.Lambda params body scope lpos] [] pos) (dTold fd) := by
  obtain ⟨A, E⟩ := T.er
  obtain ⟨fc, fdc, F, mc, kc, bc, hc, hF⟩ := T.cl
  obtain ⟨g, oc, od, pg, sg, kV, doc, pmv, cdv, ct, an, osl, p1, p2, p3, p4, p5, p6, p7, p8, p9, p10, p11, p12, j1, j2, mt, kt, lt, ht, bt, S, s1, s2, s3, s4⟩ := T.tl
  obtain ⟨cc, Pt, TB, hcode, hm, hu⟩ := m.ex
  refine ⟨_, pe_lamcall (T := κ.C.T) (TT := TTl (pm X κ)) (k := k) (t := fun E => cE (pm X κ) κ.e (fun cls d _ H' => E cls d H') fd) hg mt kt lt ht bt S rfl (Or.inl s1) (told_gives E mc kc bc hc hF S s1 s2 s3 s4 c.room) TB hcode hm hu c.room (lamS_by L) hdef hbind ?_, ev_told⟩
  intro A outer s H E f c' hr
  exact (hb A outer s H E f c' ⟨rfl, c.nd, hr, takes_of rfl rfl rfl rfl⟩).can
end DL
namespace DL
open PySem PySem.Spec PyProof.Rows L2 L2H LamX
/-! ### divmod -/
/-! ### defs that make lambdas; cc: the code object -/
structure FunL (K : PySem.W.Frag) (x qual : Str) (st : Stmt) (f : Addr) (fd : FuncData) (cc : Addr) : Prop where
  ex : ∃ (oc : Value) (od : Option Addr) (kV doc pm : Value) (an : Option Addr) (ct : Value) (osl : Array (Option Value)), fd = PySem.W.fnOf x qual (defArgs st) (defBody st) (defScope st) .none kV doc pm an (.ref cc) ct ∧ K.lookup f = some ⟨oc, od, .func fd, osl⟩ ∧ PySem.W.codeIn K (.ref cc) qual = true
  kp : PySem.W.keepIn K (.ref f) = true
def FnxL (K : PySem.W.Frag) (mg : Str → Option Value) (x : Str) (st : Stmt) (ps : List Str) (cc : Addr) : Prop := ∃ f fd, FunL K x x st f fd cc ∧ mg x = some (.ref f) ∧ Binds K fd ps []
theorem def_okL {PP : Program} {w : World} {K : PySem.W.Frag} {mg : Str → Option Value} {base : Heap} {x qual : Str} {st : Stmt} {f cc : Addr} {fd : FuncData} {N ps : List Str} {k : Nat} {C : Ca} {cm : Cm} {g : DS} (F : FunL K x qual st f fd cc) (S : FnScope N ps (defScope st))
    (hb : ∀ (A : Around) (outer : List PySem.Env) (s : Shared) (H : Hp) (E : XK) (e : En), Room k (A.deeper (envOfC qual (defScope st) s.heap.objs.size f (.ref cc))) →
      ∃ t, PSs (cxOf (L2.CX PP w) PP w K mg base N qual (defScope st) f (.ref cc) A outer s H E) (defBody st) t ∧ EvS ⟨K, C, cm⟩ e (fun cls d _ H' => E cls d H') t g) :
    FnOk PP w K mg base (L2.CX PP w) (k + 1) f fd ps (spD ⟨K, C, cm⟩ (fnD ps.length N.length g)) := by
  obtain ⟨oc, od, kV, doc, pm, an, ct, osl, rfl, lk, hcd⟩ := F.ex
  refine fn_of lk hcd S (fun vs H Q E h => spD_len h) fun A outer s H vs Q E hr h => ?_
  have hl := spD_len h
  obtain ⟨G, ws, wd, ds, sm, rw, rs, p⟩ := h
  obtain ⟨t, h1, h2⟩ := hb A outer s H E ⟨H, G, ws⟩ hr
  refine ⟨t, h1, ?_⟩
  unfold L2.start
  rw [hl]
  refine h2 _ H G ws (ds.map (fun d => some (fz d)) ++ List.replicate (N.length - ps.length) none) wd _ (st_start sm rw rs) ?_
  unfold fnD at p
  rw [if_pos (by rw [← rs.length]; exact hl)] at p
  cases eg : g (ds.map (fun d => some (fz d)) ++ List.replicate (N.length - ps.length) none) wd with
  | bad => rw [eg] at p; exact p
  | brk ρ w' => rw [eg] at p; exact p.elim
  | cont ρ w' => rw [eg] at p; exact p.elim
  | next ρ w' =>
    rw [eg] at p
    exact fun σ' H' G' ws' st' _ => p .non H' G' ws' st'.nx0 .non fz_nw
  | ret y w' =>
    rw [eg] at p
    exact fun v H' G' ws' n r k _ => p v H' G' ws' n r k
  | ex y ρ w' =>
    rw [eg] at p
    exact fun cls d σ' H' G' ws' st' hx => p cls d H' G' ws' st'.nx0 hx
/-- the qualified name of a def's lambdas -/
abbrev lamQ (x : Str) : Str := (envOfC x ⟨.function, [], false, false, []⟩ 0 0 .none).qual ++ "<lambda>"
structure Mkt (base : Heap) (mg : Str → Option Value) (C : Ca) (x : Str) (cc : Addr) : Prop where
  ex : ∃ P, TabB base mg cc P ∧ (P, lamQ x) ∈ C.T ∧ ∀ p ∈ C.T, p.1 = P → p.2 = lamQ x
theorem fn_mkL {P : Program} {w : World} {K : PySem.W.Frag} {mg : Str → Option Value} {base : Heap} {C : Ca} {cm : Cm} {x : Str} {st : Stmt} {f cc : Addr} {fd : FuncData} {N ps : List Str} {k : Nat} {g : DS} (F : FunL K x x st f fd cc) (S : FnScope N ps (defScope st)) (M : Mkt base mg C x cc)
    (hb : ∀ (f : Addr) (A : Around) (outer : List PySem.Env) (s : Shared) (H : Hp) (E : XK) (e : En), Fc (cxOf (L2.CX P w) P w K mg base N x (defScope st) f (.ref cc) A outer s H E) ⟨C, cm, e, fun cls d _ H' => E cls d H'⟩ k →
      Mkr (cxOf (L2.CX P w) P w K mg base N x (defScope st) f (.ref cc) A outer s H E) ⟨C, cm, e, fun cls d _ H' => E cls d H'⟩ →
      XB (cxOf (L2.CX P w) P w K mg base N x (defScope st) f (.ref cc) A outer s H E) ⟨C, cm, e, fun cls d _ H' => E cls d H'⟩ (defBody st) g) : FnOk P w K mg base (L2.CX P w) (k + 1) f fd ps (spD ⟨K, C, cm⟩ (fnD ps.length N.length g)) := by
  obtain ⟨Pt, h1, h2, h3⟩ := M.ex
  exact def_okL F S fun A outer s H E e hr => hb f A outer s H E e ⟨rfl, S.nd, hr, takes_of rfl rfl rfl rfl, passes_of rfl⟩ ⟨cc, Pt, h1, rfl, h2, h3⟩
theorem df_mkL {P : Program} {w : World} {K : PySem.W.Frag} {mg : Str → Option Value} {base : Heap} {C : Ca} {cm : Cm} {x : Str} {st : Stmt} {cc : Addr} {N ps : List Str} {k : Nat} {g : DS} (F : FnxL K mg x st ps cc) (S : FnScope N ps (defScope st)) (M : Mkt base mg C x cc)
    (hb : ∀ (f : Addr) (A : Around) (outer : List PySem.Env) (s : Shared) (H : Hp) (E : XK) (e : En), Fc (cxOf (L2.CX P w) P w K mg base N x (defScope st) f (.ref cc) A outer s H E) ⟨C, cm, e, fun cls d _ H' => E cls d H'⟩ k →
      Mkr (cxOf (L2.CX P w) P w K mg base N x (defScope st) f (.ref cc) A outer s H E) ⟨C, cm, e, fun cls d _ H' => E cls d H'⟩ →
      XB (cxOf (L2.CX P w) P w K mg base N x (defScope st) f (.ref cc) A outer s H E) ⟨C, cm, e, fun cls d _ H' => E cls d H'⟩ (defBody st) g) : Df P w K mg base C cm x (k + 1) (fnD ps.length N.length g) := by
  obtain ⟨f, fd, F, hm, hB⟩ := F
  exact ⟨f, fd, ps, hm, F.kp, hB, fn_mkL F S M hb⟩
end DL
/-! Objects of an own class: their fields, seen and stored. -/
namespace DL
open PySem PySem.Spec PyProof.Rows L2
def getF (w : W) (k : Nat) (f : Str) : Option D := (w.o[k]?).bind fun o => o.lookup f
def putD (f : Str) (d : D) : List (Str × D) → List (Str × D)
  | [] => [(f, d)]
  | (g, x) :: r => if g = f then (g, d) :: r else (g, x) :: putD f d r
def setF (w : W) (k : Nat) (f : Str) (d : D) : W := ⟨w.n + 1, w.o.set k (putD f d (w.o.getD k [])), w.lk⟩
def fval (d : D) : Val := match d with
  | .int i => fz (.int i)
  | d => ⟨.wd, d⟩
section
variable {K : PySem.W.Frag} {C : Ca} {G H : Hp} {ws : Ws} {w : W} {k : Nat} {p : Addr} {f : Str} {d d' : D}
/-- a field of an object, as it stands -/
structure FAt (K : PySem.W.Frag) (C : Ca) (G H : Hp) (ws : Ws) (w : W) (k : Nat) (p : Addr) (f : Str) (d : D) (dx : Addr) (fs : List (Str × V)) (v : V) (o : List (Str × D)) (x : Nat) : Prop where
  at_ : ws.l[k]? = some (p, fs)
  ins : H p = some (.ins C.a dx fs)
  ok : w.o[k]? = some o
  ox : o[x]? = some (f, d)
  fx : fs[x]? = some (f, v)
  lk : fs.lookup f = some v
  fl : Fld K G H (io ws) v d
  put : ∀ d', putD f d' o = o.set x (f, d')
  putf : ∀ v', putF f v' fs = fs.set x (f, v')
end
end DL
namespace DL
open PySem PySem.Spec PyProof.Rows L2
section
variable {K : PySem.W.Frag} {C : Ca} {G H : Hp} {ws : Ws} {w : W} {k : Nat} {p : Addr} {f : Str} {d d' : D}
theorem FAt.val {dx : Addr} {fs : List (Str × V)} {v : V} {o : List (Str × D)} {x : Nat} (r : RelW K C G H ws w) (A : FAt K C G H ws w k p f d dx fs v o x) : RV K G H ws v (fval d) := by
  rcases A.fl with ⟨a, rfl, u⟩ | ⟨i, rfl, rfl⟩
  · have ha : a ∈ regs ws := (regs_mem (List.mem_of_getElem? A.at_)).2 a (refs_mem (List.mem_of_getElem? A.fx) rfl)
    have : fval d = ⟨.wd, d⟩ := by cases u <;> rfl
    rw [this]
    exact ⟨a, rfl, r.out a ha, ha, u⟩
  · exact .int i
end
section
variable {P : Pm} {H0 : En} {Wi : WX} {to te : TE} {fo fe : DE}
/-! ### o.f -/
def dFld (f : Str) (fo : DE) : DE := fun ρ w => (fo ρ w).bind fun x w => match x.d with
  | .obj k => (match getF w k f with | some d => .ok (fval d) w | none => .bad)
  | _ => .bad
/-! ### o.f = e, an int -/
def sFst (f : Str) (fo fv : DE) : DS := fun ρ w => (fv ρ w).thn ρ fun y w => (fo ρ w).thn ρ fun x w => match x.d with
  | .obj k => (match getF w k f with | some (.int _) => (match y.d with | .int j => if (w.o.getD k []).length < 1000 then .next ρ (setF w k f (.int j)) else .bad | _ => .bad) | _ => .bad)
  | _ => .bad
/-! ### o.f.append(e) -/
def sFapp (f : Str) (fo fe : DE) : DS := fun ρ w => (fo ρ w).thn ρ fun x w1 => match x.d with
  | .obj k => (match getF w1 k f with
    | some (.lst _) => (fe ρ w1).thn ρ fun y w2 => (match getF w2 k f with
      | some (.lst ds) => if keepM y ∧ w2.n = w1.n ∧ ds.length < sizeLine then .next ρ (setF w2 k f (.lst (ds ++ [y.d]))) else .bad
      | _ => .bad)
    | _ => .bad)
  | _ => .bad
theorem Fld.lst {K : PySem.W.Frag} {G H : Hp} {ι : List Addr} {v : V} {ds : List D} (h : Fld K G H ι v (.lst ds)) : ∃ a vs, v = .ref a ∧ H a = some (.lst vs) ∧ Reps K G ι vs ds := by
  rcases h with ⟨a, rfl, u⟩ | ⟨i, _, e⟩
  · cases u with | lst h1 h2 => exact ⟨a, _, rfl, h1, h2⟩
  · cases e
end
end DL
/-! Dicts. -/
namespace DL
open PySem PySem.Spec PyProof.Rows L2
section
variable {κ : Type} [DecidableEq κ]
def valD (kvs : List (κ × D)) (k : κ) : Option D := (kvs.find? fun kv => decide (kv.1 = k)).map (·.2)
def putKD (kvs : List (κ × D)) (k : κ) (v : D) : List (κ × D) :=
  if (kvs.any fun kv => decide (kv.1 = k)) = true then kvs.map (fun kv => if kv.1 = k then (kv.1, v) else kv) else kvs ++ [(k, v)]
variable {K : PySem.W.Frag} {G : Hp} {ι : List Addr}
end
/-- a key: an int or a text -/
def kD : D → Option Key
  | .int i => some (.inl i)
  | .str x => some (.inr x)
  | _ => none
/-- a key of such -/
def kDs : List D → Option (List Key)
  | [] => some []
  | d :: ds => match kD d, kDs ds with
    | some k, some ks => some (k :: ks)
    | _, _ => none
section
variable {K : PySem.W.Frag} {C : Ca} {G H : Hp} {ws : Ws} {w : W}
/-- what is not frozen is not locked, while no dict is walked -/
theorem Lk.free {a : Addr} {u : HO} (h : Lk H a u) (r : RelW K C G H ws w) (hl : w.lk = false) (g : G a = none) : H a = some u := by
  rcases h with h | ⟨hd, o, h⟩
  · exact h
  · have := r.ul0 hl h hd
    rw [g] at this
    cases this
end
section
variable {P : Pm} {H0 : En} {Wi : WX} {ta tb tc : TE} {fa fb fc : DE} {tr : TA} {fr : DA}
/-! ### d[k], k in d: k an int or a text -/
def gIxD : Val → Val → W → R Val := fun x y w => match x.d, kD y.d with
  | .dK kvs, some k => (match valD kvs k with | some d => .ok (fz d) w | none => .bad)
  | _, _ => .bad
def gInD (neg : Bool) : Val → Val → W → R Val := fun y x w => match x.d, kD y.d with
  | .dK kvs, some k => .ok (fz (.bl (neg != (valD kvs k).isSome))) w
  | _, _ => .bad
/-! ### d[a, b], (a, b) in d -/
/-- a key that is written as a tuple -/
def keyT (f : DA) : Env → W → R (List Key) := fun ρ w => (f ρ w).bind fun xs w => match frzD xs with
  | some ds => (match kDs ds with | some ks => if ds.length ≤ sizeLine then .ok ks w else .bad | none => .bad)
  | none => .bad
def PostK (P : Pm) (E : Value → Option Addr → Hp → Prop) (H G : Hp) (ws : Ws) (Q : VK) : R (List Key) → Prop
  | .ok ks w' => ∀ p H' G' ws', Nx P.K P.C G H ws G' H' ws' w' → H' p = some (.tup (ks.map kV)) → Q (.ref p) H'
  | .ex x w' => ∀ cls d H' G' ws', Nx P.K P.C G H ws G' H' ws' w' → XRel P.K P.cm G' H' (io ws') x cls d → E cls d H'
  | .bad => False
theorem PostK.after {E : Value → Option Addr → Hp → Prop} {H G H1 G1 : Hp} {ws ws1 : Ws} {w1 : W} {Q : VK} {r : R (List Key)} (n : Nx P.K P.C G H ws G1 H1 ws1 w1) (h : PostK P E H G ws Q r) : PostK P E H1 G1 ws1 Q r := by
  cases r with
  | ok x w => exact fun v H' G' ws' n2 r => h v H' G' ws' (n.trans n2) r
  | ex x w => exact fun c d H' G' ws' n2 r => h c d H' G' ws' (n.trans n2) r
  | bad => exact h
def dIxT (fa : DE) (fk : Env → W → R (List Key)) : DE := fun ρ w => (fa ρ w).bind fun x w1 => (fk ρ w1).bind fun ks w2 => chk x w1 w2 (match x.d with
  | .dT kvs => (match valD kvs ks with | some d => .ok (fz d) w2 | none => .bad)
  | _ => .bad)
def dInT (neg : Bool) (fk : Env → W → R (List Key)) (fa : DE) : DE := fun ρ w => (fk ρ w).bind fun ks w1 => (fa ρ w1).bind fun x w2 => match x.d with
  | .dT kvs => .ok (fz (.bl (neg != (valD kvs ks).isSome))) w2
  | _ => .bad
/-- a tuple stays -/
theorem Nx.tup {K : PySem.W.Frag} {C : Ca} {G H G' H' : Hp} {ws ws' : Ws} {w w' : W} {p : Addr} {vs : List V} (r : RelW K C G H ws w) (n : Nx K C G H ws G' H' ws' w') (h : H p = some (.tup vs)) : H' p = some (.tup vs) := by
  refine (n.keep p _ (.inl h) nt_tup fun hr => ?_).eq
  have go : ∀ {l : Ws0} {m : List (List (Str × D))}, Paired (fun (q : Addr × List (Str × V)) (o : List (Str × D)) => (∃ dx, H q.1 = some (.ins C.a dx q.2)) ∧ Paired (fun (x : Str × V) (y : Str × D) => x.1 = y.1 ∧ Fld K G H (DL.io ws) x.2 y.2) q.2 o) l m → p ∈ regs0 l → False := by
    intro l m pr
    induction pr with
    | nil => intro h; simp [regs0] at h
    | @cons q o l m p1 p2 ih =>
      intro hm
      obtain ⟨q, fs⟩ := q
      obtain ⟨⟨dx, e⟩, pf⟩ := p1
      rcases List.mem_cons.mp hm with rfl | hm
      · rw [h] at e; cases e
      · rcases List.mem_append.mp hm with hm | hm
        · have go2 : ∀ {fs : List (Str × V)} {o : List (Str × D)}, Paired (fun (x : Str × V) (y : Str × D) => x.1 = y.1 ∧ Fld K G H (DL.io ws) x.2 y.2) fs o → p ∈ refs fs → False := by
            intro fs o pr
            induction pr with
            | nil => intro h; simp [refs] at h
            | @cons x y l m q1 q2 ih2 =>
              intro hm
              obtain ⟨n, v⟩ := x
              rcases q1.2 with ⟨b, e, u⟩ | ⟨i, e, _⟩
              · simp only at e
                subst e
                rcases List.mem_cons.mp hm with rfl | hm
                · obtain ⟨o, ho, hc⟩ := u.there
                  have := ho.uniq (.inl h) (nf_cont hc) (by intro _ _ z; cases z)
                  subst this
                  exact hc
                · exact ih2 hm
              · simp only at e
                subst e
                exact ih2 hm
          exact go2 pf hm
        · exact ih hm
  exact go r.obs hr
/-! ### d.get(k, x) -/
def dGetT (fa : DE) (fk : Env → W → R (List Key)) (fx : DE) : DE := fun ρ w => (fa ρ w).bind fun x w1 => match x.d with
  | .dT _ => (fk ρ w1).bind fun ks w2 => (fx ρ w2).bind fun z w3 => chk x w1 w3 (match x.d with
    | .dT kvs => .ok (match valD kvs ks with | some d => fz d | none => z) w3
    | _ => .bad)
  | _ => .bad
end
end DL
/-! Stores into dicts. -/
namespace DL
open PySem PySem.Spec PyProof.Rows L2
section
variable {P : Pm} {H0 : En} {Wi : WX} {to tv tk : TE} {fo fv : DE}
/-! ### {} -/
def dDk : DE := fun _ w => .ok ⟨.nw, .dK []⟩ w
def dDt : DE := fun _ w => .ok ⟨.nw, .dT []⟩ w
/-! ### o.f[k] = e, x[k] = e: k an int or a text -/
def sFputK (f : Str) (fo : DE) (fk : DE) (fv : DE) : DS := fun ρ w => (fv ρ w).thn ρ fun y w1 => if keepM y then ((fo ρ w1).thn ρ fun x w2 => match x.d with
  | .obj k => (match getF w2 k f with
    | some (.dK _) => (fk ρ w2).thn ρ fun key w3 => (match kD key.d, getF w3 k f with
      | some kk, some (.dK kvs) => if w3.n = w2.n ∧ w3.lk = false ∧ kvs.length < sizeLine then .next ρ (setF w3 k f (.dK (putKD kvs kk y.d))) else .bad
      | _, _ => .bad)
    | _ => .bad)
  | _ => .bad) else .bad
theorem Fld.dK {K : PySem.W.Frag} {G H : Hp} {ι : List Addr} {v : V} {ds : List (Key × D)} (h : Fld K G H ι v (.dK ds)) : ∃ a kvs, v = .ref a ∧ Lk H a (.dK kvs) ∧ kvs.map (·.1) = ds.map (·.1) ∧ Reps K G ι (kvs.map (·.2)) (ds.map (·.2)) := by
  rcases h with ⟨a, rfl, u⟩ | ⟨i, _, e⟩
  · cases u with | dK h1 h2 h3 => exact ⟨a, _, rfl, h1, h2, h3⟩
  · cases e
/-! ### o.f[k] = e, x[k] = e: k a tuple of such -/
def sFputT (f : Str) (fo : DE) (fk : Env → W → R (List Key)) (fv : DE) : DS := fun ρ w => (fv ρ w).thn ρ fun y w1 => if keepM y then ((fo ρ w1).thn ρ fun x w2 => match x.d with
  | .obj k => (match getF w2 k f with
    | some (.dT _) => (fk ρ w2).thn ρ fun key w3 => (match (some key : Option (List Key)), getF w3 k f with
      | some kk, some (.dT kvs) => if w3.n = w2.n ∧ w3.lk = false ∧ kvs.length < sizeLine then .next ρ (setF w3 k f (.dT (putKD kvs kk y.d))) else .bad
      | _, _ => .bad)
    | _ => .bad)
  | _ => .bad) else .bad
theorem Fld.dT {K : PySem.W.Frag} {G H : Hp} {ι : List Addr} {v : V} {ds : List (List Key × D)} (h : Fld K G H ι v (.dT ds)) : ∃ a kvs, v = .ref a ∧ Lk H a (.dT kvs) ∧ kvs.map (·.1) = ds.map (·.1) ∧ Reps K G ι (kvs.map (·.2)) (ds.map (·.2)) := by
  rcases h with ⟨a, rfl, u⟩ | ⟨i, _, e⟩
  · cases u with | dT h1 h2 h3 => exact ⟨a, _, rfl, h1, h2, h3⟩
  · cases e
end
end DL
/-! Methods, objects made. -/
namespace DL
open PySem PySem.Spec PyProof.Rows L2
/-! ### arguments by place -/
def selD (ix : List Nat) (l : List D) : List D := ix.map fun i => l.getD i .non
/-! ### defs with defaults -/
/-! ### o.m(..) -/
def dMt (F : DF) (m : Str) (n j : Nat) (ix : List Nat) (dds : List D) (fo : DE) (fr fk : DA) : DE := fun ρ w => (fo ρ w).bind fun x w1 => match x.d with
  | .obj k => if ((w1.o.getD k []).lookup m).isNone then ((fr ρ w1).bind fun xs w2 => match frzD xs with
    | some ds => ((fk ρ w2).bind fun zs w3 => match frzD zs with
      | some es => if ds.length = n ∧ es.length = j then F (selD ix (.obj k :: ds ++ es ++ dds)) w3 else .bad
      | none => .bad)
    | none => .bad) else .bad
  | _ => .bad
end DL
/-! An object is made. -/
namespace DL
open PySem PySem.Spec PyProof.Rows L2
def houseD : List (Str × D) := [("ranks", .lst []), ("seats", .dK []), ("known", .dK []), ("weeks", .lst []), ("plans", .dT []), ("cuts", .dT []), ("many", .int 0), ("done", .lst [])]
/-! ### House() -/
def dNew : DE := fun _ w => .ok (fz (.obj w.o.length)) ⟨w.n + 1, w.o ++ [houseD], w.lk⟩
end DL
/-! Places of dicts; a look that may miss. -/
namespace DL
open PySem PySem.Spec PyProof.Rows L2 L2H
/-! ### try: return d[k], except KeyError: raise C('..') from None -/
end DL
/-! Walks over what a field holds; xs[::-1]; a, b = x, y for names that are captured. -/
namespace DL
open PySem PySem.Spec PyProof.Rows L2
section
variable {P : Pm} {H0 : En} {Wi : WX} {to ta : TE} {fo fa : DE} {ts : TS} {gs : DS} {tr : TA} {fr : DA}
theorem itl_okV {Ok : Hp → Hp → Ws → Prop} {a : Addr} {ds : List D} (h : ∀ G H ws, Ok G H ws → ∃ vs, SqL P.K H a vs ∧ Reps P.K G (io ws) vs ds) : ItOk P (Itl P.K a) Ok ds where
  go := fun G H ws i d ok e => by
    obtain ⟨vs, h1, h2⟩ := h G H ws ok
    obtain ⟨v, hv, _⟩ := h2.getD e
    exact ⟨vs, v, h1, hv⟩
  yl := fun G H ws w i d x H' ok s r e y => by
    obtain ⟨vs, h1, h2⟩ := h G H ws ok
    obtain ⟨v, hv, rp⟩ := h2.getD e
    obtain ⟨rfl, y⟩ := y
    have := y vs h1
    rw [hv] at this
    cases this
    exact ⟨G, Nx.refl s r, rp⟩
  st := fun G H ws ok => by
    obtain ⟨vs, h1, h2⟩ := h G H ws ok
    exact ⟨vs, h1, by rw [h2.length]; exact Nat.le_refl _⟩
/-- .. while the world stays as it is -/
noncomputable def forLq (t : Tg) (b : DS) (w0 : W) : List D → Env → W → Out
  | [], ρ, w => .next ρ w
  | d :: ds, ρ, w => match setT t d ρ with
    | none => .bad
    | some ρ' => match b ρ' w with
      | .next ρ2 w2 => open Classical in if w2 = w0 then forLq t b w0 ds ρ2 w2 else .bad
      | .cont ρ2 w2 => open Classical in if w2 = w0 then forLq t b w0 ds ρ2 w2 else .bad
      | .brk ρ2 w2 => .next ρ2 w2
      | o => o
noncomputable def sForF (f : Str) (fo : DE) (t : Tg) (b : DS) : DS := fun ρ w => (fo ρ w).thn ρ fun x w1 => match x.d with
  | .obj k => (match getF w1 k f with | some (.lst ds) => forLq t b w1 ds ρ w1 | _ => .bad)
  | _ => .bad
/-! ### xs[::-1] -/
/-! ### a, b, .. = x, y, .. by a tuple -/
theorem gNames_all {is : List Nat} : ∀ {vs : List V} {σ : L2.St} {H : Hp} {Q : L2.St → Hp → Prop}, is.length = vs.length → Q (setVs is vs σ) H → gNames is vs σ H Q := by
  induction is with
  | nil =>
    intro vs σ H Q hl hq
    cases vs with
    | nil => exact ⟨rfl, hq⟩
    | cons _ _ => simp at hl
  | cons i is ih =>
    intro vs σ H Q hl hq
    cases vs with
    | nil => simp at hl
    | cons v vs => exact ⟨v, vs, rfl, ih (by simpa using hl) hq⟩
theorem ev_parT {is : List Nat} {fl : List Bool} (hz : is.length ≤ sizeLine) (ha : EvA P H0 Wi tr fr) : EvS P H0 Wi (tAsg (tTup tr) (gTup P.K is.length (gNames is))) (sParF is fl fr) := by
  intro σ H G ws ρ w D st h
  unfold sParF at h
  refine ha σ H G ws ρ w _ st (postA_of st h fun xs w' _ h vs H1 G1 ws1 n r k => ?_)
  split at h
  · rename_i hc
    have hl := r.length
    obtain ⟨G2, s2, n2, r2, k2, a2, l2, _⟩ := freezeSome (fl := fl) n r k hc.2.2 hc.2.1
    have st2 := st.setAllX is n2 r2 k2 a2
    refine ⟨by rw [hl, ← hc.1]; exact hz, fun p hp => ⟨p, vs, rfl, SqT.of upd_same, by rw [hl, hc.1], ?_⟩⟩
    refine gNames_all (by rw [hl, hc.1]) ?_
    have n3 := Nx.new (o := .tup vs) st2.sub st2.rw hp
    exact h _ _ _ _ (st2.next n3) (n2.mon.trans n3.mon)
  · exact h.elim
end
section
variable {X : Cx} {κ : Kx} {k : Nat} {o a b : Expr} {fo fa : DE} {gs : DS} {es xs : List Expr} {fr : DA} {pos p p2 p3 pt pt2 : Pos} {kt k2 : Nat} {tg : Expr} {body : List Stmt}
theorem s_parT (is : List Nat) (fl : List Bool) (c : Fe X κ k) (ha : XA X κ es fr) (hg : PGs X xs (gNames is)) (hz : is.length ≤ sizeLine := by decide) (hn : (assignEach xs X.env).length = is.length := by rfl) (hst : (assignEach xs X.env).findIdx? (·.1) = none := by rfl)
    (hs : swapsWithSole [.Tuple xs kt pt] (.Tuple es k2 pt2) pos.line X.env = pure false := by rfl) (hw : swappedStores [.Tuple xs kt pt] (.Tuple es k2 pt2) X.env = pure none := by rfl) : XS X κ (.Assign [.Tuple xs kt pt] (.Tuple es k2 pt2) pos) (sParF is fl fr) := by
  obtain ⟨t, pa, ea⟩ := ha
  exact ⟨_, ps_asg (pe_tup pa) (pg_tup c.calm hg hn hst) hs hw, ev_parT hz ea⟩
end
end DL
namespace DL
open PySem L2
/-! ### f(): no arguments -/
/-! ### a, b, .. = a list -/
/-! ### len(d), sorted(d): a dict by texts -/
end DL
namespace DL
open PySem PySem.Spec PyProof.Rows L2
/-! ### list(d.values()) -/
end DL
/-! An own error class called with keywords; its __init__ calls the base's own. -/
namespace DL
open PySem PySem.Spec PyProof.Rows L2
/-! ### AirError.__init__(self, ..): the __init__ of a class of our own that is ValueError's -/
/-! ### X(a, .., k=b, ..): an error with fields -/
/-! ### what such an __init__ promises: fs its fields, in order -/
def sRaiseF (c : String) (fs : List Str) (n j : Nat) (fr fk : DA) : DS := fun ρ w => (fr ρ w).thn ρ fun xs w1 => match frzD xs with
  | some ds => (fk ρ w1).thn ρ fun zs w2 => match frzD zs with
    | some es => if ds.length = n ∧ es.length = j then .ex ⟨c, (fs.zip (ds ++ es)).reverse⟩ ρ w2 else .bad
    | none => .bad
  | none => .bad
theorem Nx.xd {K : PySem.W.Frag} {C : Ca} {G H : Hp} {ws : Ws} {w : W} {d : Addr} {fs : List (Str × V)} (s : Sm G H) (r : RelW K C G H ws w) (hd : H d = none) : Nx K C G H ws G (upd H d (.xd fs)) ws w := Nx.new s r hd
end DL
/-! Walks over the keys of a dict: it is locked meanwhile. -/
namespace DL
open PySem PySem.Spec PyProof.Rows L2
/-! ### keys as data -/
/-! ### places of dicts: a field of what a name holds, a value of the dict that a name holds -/
end DL
/-! len(o) of an object of the own class -/
namespace DL
open PySem L2
end DL
/-! several clauses `except x as n`, all of one name -/
namespace DL
open PySem PySem.Spec PyProof.Rows L2
/-! ### fields of a caught error -/
theorem ErrC.xf {K : PySem.W.Frag} {A C : Addr} (h : ErrC K A C) : XfC K C where
  ga := h.ga
  gg := h.gt
  exC := (h.sub _).trans (by simp)
  hdC := by
    obtain ⟨cd, h1, _, h3⟩ := h.cls
    unfold PySem.W.hasDictIn
    rw [h1]
    exact h3
theorem Ers.own {K : PySem.W.Frag} {mg : Str → Option Value} {cm : Cm} {A C D : Addr} {x y : String} (E : Ers K mg cm A) (hx : cm x = some C) (hy : cm y = some D) : PySem.W.exmOne K (.ref C) (.ref D) = some (decide (x = y)) := by
  have eC := E.cl x C hx
  have eD := E.cl y D hy
  have hA : D ≠ A := fun z => E.ne y (by rw [hy, z])
  refine PySem.W.exm_ref ((eD.sub _).trans (by simp)) eD.xf.hdC eD.ty ((eC.sub _).trans ?_)
  by_cases h : x = y
  · subst h
    rw [hx] at hy
    cases hy
    simp
  · have : C ≠ D := fun z => h (E.inj x y C hx (z ▸ hy))
    simp [h, this.symm, hA]
/-! ### try: return .., except X as e: return .. -/
end DL
namespace DL
open PySem L2
/-! ### defs with defaults, called by place and by keyword -/
end DL
namespace DL
open PySem L2
/-! ### sorted(set(xs)): ints, fewer than 64 -/
end DL
namespace DL
open PySem L2
/-! ### for x in xs: if C: return R (xs: a name's own list, which the loop only reads) -/
def forT (j : Nat) (fA : DT) (gs : DS) : List D → Env → W → Out
  | [], ρ, w => .next ρ w
  | d :: ds, ρ, w => match fA (ρ.set j (some (fz d))) w with
    | .bad => .bad
    | .ex x w' => .ex x (ρ.set j (some (fz d))) w'
    | .ok true w' => (match gs (ρ.set j (some (fz d))) w' with
      | .ret x w2 => .ret x w2
      | .ex x ρ2 w2 => .ex x ρ2 w2
      | _ => .bad)
    | .ok false w' => forT j fA gs ds (ρ.set j (some (fz d))) w'
def sForT (i j : Nat) (fA : DT) (gs : DS) : DS := fun ρ w => match ρ[i]? with
  | some (some ⟨.nw, .lst ds⟩) => if i = j then .bad else forT j fA gs ds ρ w
  | _ => .bad
section
variable {P : Pm} {H0 : En} {Wi : WX} {ts : TS} {gs : DS} {tA : TT} {fA : DT}
theorem ev_forT {i j : Nat} (hA : EvT P H0 Wi tA fA) (hb : EvS P H0 Wi ts gs) : EvS P H0 Wi (tFor (iSeqT P.K (tVar i)) (gT P.K (.nm j)) (tIfS tA ts tNext)) (sForT i j fA gs) := by
  intro σ H G ws ρ w D st h
  unfold sForT at h
  split at h
  case h_2 => exact h.elim
  rename_i ds er
  split at h
  · exact h.elim
  rename_i hij
  obtain ⟨v, hv, rv, _⟩ := st.sl i _ er
  obtain ⟨a, vs0, rfl, ha0, _⟩ := rv_lst st.sub rv
  refine ⟨.ref a, hv, .inl ⟨a, rfl, ⟨_, SqL.of ha0⟩, ?_⟩⟩
  have stands : ∀ {σ' : L2.St} {H' G' : Hp} {ws' : Ws} {ρ' : Env} {w' : W}, St P.K P.C H0 σ' H' G' ws' ρ' w' → σ'[i]? = some (some (.ref a)) → ρ'[i]? = some (some ⟨.nw, .lst ds⟩) → ∃ vs, SqL P.K H' a vs ∧ Reps P.K G' (io ws') vs ds := fun {σ' H' G' ws' ρ' w'} st' hs hr => by
    obtain ⟨v', hv', rv', _⟩ := st'.sl i _ hr
    rw [hs] at hv'
    cases hv'
    obtain ⟨a', vs, ea, hH, rs⟩ := rv_lst st'.sub rv'
    cases ea
    exact ⟨vs, SqL.of hH, rs⟩
  have ok : ItOk P (Itl P.K a) (fun G H ws => ∃ vs, SqL P.K H a vs ∧ Reps P.K G (io ws) vs ds) ds := itl_okV fun _ _ _ h => h
  let Wn : Nat → L2.St → Hp → Prop := fun n σ' H' => n ≤ ds.length ∧ σ'[i]? = some (some (.ref a)) ∧ ∃ G' ws' ρ' w', St P.K P.C H0 σ' H' G' ws' ρ' w' ∧ ρ'[i]? = some (some ⟨.nw, .lst ds⟩) ∧ Mon G ws G' ws' ∧ PostS P H0 Wi D G' ws' (forT j fA gs (ds.drop n) ρ' w')
  refine ⟨fun n m σ' H' => m = ds.length - n ∧ Wn n σ' H', ⟨ds.length, by simp, Nat.zero_le _, hv, G, ws, ρ, w, st, er, .refl, h⟩, ?_⟩
  rintro n m σ' H' ⟨rfl, hn, hs', G', ws', ρ', w', st', er', mo, hp⟩
  by_cases hlt : n < ds.length
  · have ed : ds[n]? = some ds[n] := by simp [hlt]
    rw [List.drop_eq_getElem_cons hlt] at hp
    simp only [forT] at hp
    refine .inr ⟨ok.go G' H' ws' n _ (stands st' hs' er') ed, Wn (n + 1), fun σ3 H3 hn => ⟨ds.length - (n + 1), by omega, rfl, hn⟩, fun v H2 y => ?_⟩
    obtain ⟨G2, n2, rp⟩ := ok.yl G' H' ws' w' n _ v H2 (stands st' hs' er') st'.sub st'.rw ed y
    have st2 := st'.next n2
    have st3 : St P.K P.C H0 (σ'.set j (some v)) H2 G2 ws' (ρ'.set j (some (fz ds[n]))) w' := st2.set (x := fz ds[n]) (i := j) st2.nx rp fz_nw (.inl rfl)
    have hs3 : (σ'.set j (some v))[i]? = some (some (.ref a)) := by rw [List.getElem?_set_ne (Ne.symm hij)]; exact hs'
    have er3 : (ρ'.set j (some (fz ds[n])))[i]? = some (some ⟨.nw, .lst ds⟩) := by rw [List.getElem?_set_ne (Ne.symm hij)]; exact er'
    have mo2 : Mon G ws G2 ws' := mo.trans n2.mon
    show tIfS tA ts tNext _ (σ'.set j (some v)) H2
    refine hA _ H2 G2 ws' _ w' _ st3 ?_
    cases ef : fA (ρ'.set j (some (fz ds[n]))) w' with
    | bad => rw [ef] at hp; exact hp
    | ex x w1 =>
      rw [ef] at hp
      exact fun cls d H' G' ws' n hx => hp cls d _ H' G' ws' (st3.next n) hx
    | ok b w1 =>
      rw [ef] at hp
      intro H1 G1 ws1 n1
      cases b with
      | false => exact iteF ⟨hlt, hs3, G1, ws1, _, w1, st3.next n1, er3, mo2.trans n1.mon, PostS.after (n2.mon.trans n1.mon) hp⟩
      | true =>
        refine iteT (hb _ H1 G1 ws1 _ w1 _ (st3.next n1) ?_)
        dsimp only at hp
        cases eg : gs (ρ'.set j (some (fz ds[n]))) w1 with
        | ret x w2 => rw [eg] at hp; exact hp
        | ex x ρ2 w2 => rw [eg] at hp; exact hp
        | bad => rw [eg] at hp; exact hp.elim
        | next ρ2 w2 => rw [eg] at hp; exact hp.elim
        | brk ρ2 w2 => rw [eg] at hp; exact hp.elim
        | cont ρ2 w2 => rw [eg] at hp; exact hp.elim
  · have ei : n = ds.length := by omega
    subst ei
    refine .inl ⟨ok.st G' H' ws' (stands st' hs' er'), ?_⟩
    rw [List.drop_length] at hp
    exact hp σ' H' G' ws' st' .refl
end
section
variable {X : Cx} {κ : Kx} {k : Nat} {p pos ipos : Pos} {tg a : Expr} {fA : DT} {gs : DS} {s1 : List Stmt}
theorem s_forT (i j : Nat) {x : Str} (c : Fc X κ k) (hg : PG X tg (gT X.K (.nm j))) (hc : XT X κ a fA) (h1 : XB X κ s1 gs) (hN : X.N[i]? = some x := by rfl) (hv : Vis X.env.scope x := by first | exact Or.inl rfl | exact Or.inr (Or.inl rfl) | exact Or.inr (Or.inr rfl)) (hd : (x == ("__debug__" : Str)) = false := by decide)
    (hcd : (x == ("__classdict__" : Str)) = false := by decide) (hs : ∀ y, foldedSetIterable (.Name x p) X.env y = pure y := by intro _; rfl) : XS X κ (.For tg (.Name x p) [.If a s1 [] ipos] [] pos) (sForT i j fA gs) := by
  obtain ⟨ta, pa, ea⟩ := hc
  obtain ⟨t1, p1, e1⟩ := h1
  exact ⟨_, ps_for c.pass c.calm (pi_seq (pe_var hN hv hd hcd)) hg (pss_one (ps_if pa p1 pss_nil)) hs, ev_forT ea e1⟩
end
/-- no row is refused -/
theorem forT_pass {j : Nat} {fA : DT} {gs : DS} {ρ : Env} {w : W} : ∀ {ds : List D} (z0 : Option Val), (∀ d ∈ ds, fA (ρ.set j (some (fz d))) w = .ok false w) → ∃ z, forT j fA gs ds (ρ.set j z0) w = .next (ρ.set j z) w
  | [], z0, _ => ⟨z0, rfl⟩
  | d :: ds, z0, h => by
    obtain ⟨z, hz⟩ := forT_pass (gs := gs) (some (fz d)) fun y hy => h y (List.mem_cons_of_mem _ hy)
    refine ⟨z, ?_⟩
    simp only [forT, List.set_set, h d List.mem_cons_self]
    exact hz
end DL
namespace DL
open PySem L2
/-! ### told = [e, ..]; for some in told: some.append(c): lists in a list, each of them new -/
section
variable {K : PySem.W.Frag} {C : Ca} {G H G1 H1 : Hp} {ws ws1 : Ws} {w1 : W}
theorem RVs.at' : ∀ {vs : List V} {xs : List Val}, RVs K G H ws vs xs → ∀ (k : Nat) x, xs[k]? = some x → ∃ v, vs[k]? = some v ∧ RV K G H ws v x
  | _, _, .nil, k, x, h => by simp at h
  | _, _, .cons r rs, 0, x, h => by
    simp only [List.getElem?_cons_zero, Option.some.injEq] at h
    subst h
    exact ⟨_, rfl, r⟩
  | _, _, .cons r rs, k + 1, x, h => by
    obtain ⟨v, h1, h2⟩ := rs.at' k x (by simpa using h)
    exact ⟨v, by simpa using h1, h2⟩
theorem RVs.len : ∀ {vs : List V} {xs : List Val}, RVs K G H ws vs xs → vs.length = xs.length
  | _, _, .nil => rfl
  | _, _, .cons r rs => by simp [rs.len]
theorem NewsOk.at' : ∀ {vs : List V} {xs : List Val}, NewsOk H vs xs → ∀ (k : Nat) x v, xs[k]? = some x → vs[k]? = some v → NewOk H v x
  | v :: vs, x :: xs, h, 0, y, u, h1, h2 => by
    simp only [List.getElem?_cons_zero, Option.some.injEq] at h1 h2
    subst h1; subst h2
    exact h.1
  | v :: vs, x :: xs, h, k + 1, y, u, h1, h2 => NewsOk.at' h.2.2 k y u (by simpa using h1) (by simpa using h2)
  | [], _, _, k, _, _, _, h2 => by simp at h2
  | _ :: _, [], _, k, _, _, h1, _ => by simp at h1
end
end DL
/-! What is never reached; chains of three; dicts written out and copied. -/
namespace DL
open PySem PySem.Spec PyProof.Rows L2
/-! ### what is never reached -/
/-! ### dict(d) -/
/-! ### {'x': .., ..} -/
def prs (ks : List Str) (vs : List V) : List (V × V) := (ks.zip vs).map fun p => (V.str p.1, p.2)
/-- the pairs of a display, evaluated -/
def EvP (P : Pm) (H0 : En) (Wi : WX) (ks : List Str) (trs : List (TE × TE)) (fr : DA) : Prop := ∀ σ H G ws ρ w (Q : List (V × V) → Hp → Prop), St P.K P.C H0 σ H G ws ρ w → PostA P (fun c d H' => Wi c d σ H') H G ws (fun vs H' => Q (prs ks vs) H') (fr ρ w) → tPairs trs σ H Q
section
variable {X : Cx} {κ : Kx} {e : Expr} {fe : DE} {pos p : Pos} {keys : List (Option Expr)} {values : List Expr} {ks : List Str} {fr : DA}
def XP (X : Cx) (κ : Kx) (pos : Pos) (keys : List (Option Expr)) (values : List Expr) (ks : List Str) (fr : DA) : Prop := ∃ trs, PPs X pos keys values trs ∧ EvP (pm X κ) κ.e κ.Wi ks trs fr
end
end DL
/-! made[k] = dict(S); made[k][K] = V -/
namespace DL
open PySem PySem.Spec PyProof.Rows L2
end DL
/-! A dict that a name holds, walked by its keys. -/
namespace DL
open PySem PySem.Spec PyProof.Rows L2
end DL
/-! dict(d), d with at most one key that is a tuple; made[kept] = dict(d); made[kept][t] = value. -/
namespace PySem
end PySem
namespace L2
open PySem PySem.Spec PyProof.Rows
end L2
namespace DL
open PySem PySem.Spec PyProof.Rows L2
/-! ### dict(d) -/
/-! ### a key that is cut out of a tuple -/
end DL
/-! written dicts of the module, a call of a name that holds a def, a try that runs through -/
namespace DL
open PySem PySem.Spec PyProof.Rows L2
/-! ### a try that runs through -/
theorem Fc.nox {X : Cx} {κ : Kx} {k : Nat} (c : Fc X κ k) : Fc X.nox κ.no k := ⟨c.calm, c.nd, c.room, takes0, PassesOwn.never⟩
end DL
/-! range with a step -/
namespace DL
open PySem PySem.Spec PyProof.Rows L2
end DL
/-! texts: split, zfill, str of an int, int of a text -/
namespace DL
open PySem PySem.Spec PyProof.Rows L2
def gSplit : Val → Val → W → R Val := fun x y w => match x.d, y.d with
  | .str a, .str b => if (b.length == 0) = false ∧ a.length + 2 ≤ sizeLine then .ok ⟨.nw, .lst ((Txt.split a b).map D.str)⟩ w else .bad
  | _, _ => .bad
def gZf : Val → Val → W → R Val := fun x y w => match x.d, y.d with
  | .str a, .int i => if PadOk i = true then .ok (fz (.str (Txt.zfill a i))) w else .bad
  | _, _ => .bad
def gStrI : List Val → W → R Val := fun xs w => match xs with
  | [x] => match x.d with
    | .int i => if i.natAbs < 1000 then .ok (fz (.str (toString i))) w else .bad
    | _ => .bad
  | _ => .bad
def gIntS : List Val → W → R Val := fun xs w => match xs with
  | [x] => match x.d with
    | .str a => match PySem.intText? a with
      | some n => if a.length ≤ 640 then .ok (fz (.int n)) w else .bad
      | none => .bad
    | _ => .bad
  | _ => .bad
theorem gSplit_nx (x y : Val) (w : W) (e : Xc) (w' : W) : gSplit x y w ≠ .ex e w' := by
  unfold gSplit
  repeat' split
  all_goals exact fun h => nomatch h
theorem gZf_nx (x y : Val) (w : W) (e : Xc) (w' : W) : gZf x y w ≠ .ex e w' := by
  unfold gZf
  repeat' split
  all_goals exact fun h => nomatch h
theorem gStrI_nx (x : List Val) (w : W) (e : Xc) (w' : W) : gStrI x w ≠ .ex e w' := by
  unfold gStrI
  repeat' split
  all_goals exact fun h => nomatch h
theorem gIntS_nx (x : List Val) (w : W) (e : Xc) (w' : W) : gIntS x w ≠ .ex e w' := by
  unfold gIntS
  repeat' split
  all_goals exact fun h => nomatch h
theorem reps_strs {K : PySem.W.Frag} {G : Hp} {ι : List Addr} : ∀ ys : List Str, Reps K G ι (ys.map V.str) (ys.map D.str)
  | [] => .nil
  | y :: ys => .cons (.str y) (reps_strs ys)
section
variable {P : Pm}
theorem rbm_split : RBm P "str" (fun x xs H Q => ∃ a b, x = .str a ∧ xs = [.str b] ∧ (b.length == 0) = false ∧ a.length + 2 ≤ sizeLine ∧ rNewStrs (Txt.split a b) H Q) gSplit := by
  intro H G ws w vx vy x y Q s r hx hy h
  obtain ⟨m, d⟩ := x
  obtain ⟨m', d'⟩ := y
  cases d <;> try exact h.elim
  cases d' <;> try exact h.elim
  rename_i a b
  have h : PostE P (fun _ _ _ => False) H G ws Q (if (b.length == 0) = false ∧ a.length + 2 ≤ sizeLine then .ok ⟨.nw, .lst ((Txt.split a b).map D.str)⟩ w else .bad) := h
  split at h
  · rename_i c
    have e1 := rv_str hx
    have e2 := rv_str hy
    subst e1 e2
    exact ⟨a, b, rfl, rfl, c.1, c.2, fun p hp => nw_q s r h hp (reps_strs _)⟩
  · exact h.elim
theorem rbm_zf : RBm P "str" (fun x xs H Q => ∃ (a : Str) (i : Int), x = .str a ∧ xs = [.int i] ∧ PadOk i = true ∧ Q (.str (Txt.zfill a i)) H) gZf := by
  intro H G ws w vx vy x y Q s r hx hy h
  obtain ⟨m, d⟩ := x
  obtain ⟨m', d'⟩ := y
  cases d <;> try exact h.elim
  cases d' <;> try exact h.elim
  rename_i a i
  have h : PostE P (fun _ _ _ => False) H G ws Q (if PadOk i = true then .ok (fz (.str (Txt.zfill a i))) w else .bad) := h
  split at h
  · rename_i c
    have e1 := rv_str hx
    have e2 := rv_int hy
    subst e1 e2
    exact ⟨a, i, rfl, rfl, c, fz_q s r h (.str _)⟩
  · exact h.elim
theorem rc_strI : RCall P (fun xs H Q => ∃ i : Int, xs = [.int i] ∧ i.natAbs.log2 < 1920 ∧ Q (.str (toString i)) H) gStrI := by
  intro H G ws w vs xs Q s r hx h
  match xs, hx, h with
  | [⟨m, d⟩], hx, h =>
    obtain ⟨v, rfl, hv⟩ := rvs1 hx
    cases d <;> try exact h.elim
    rename_i i
    have h : PostE P (fun _ _ _ => False) H G ws Q (if i.natAbs < 1000 then .ok (fz (.str (toString i))) w else .bad) := h
    split at h
    · rename_i c
      have e := rv_int hv
      subst e
      refine ⟨i, rfl, ?_, fz_q s r h (.str _)⟩
      by_cases z : i.natAbs = 0
      · rw [z]; decide
      · exact Nat.lt_of_lt_of_le (Nat.lt_of_le_of_lt (Nat.log2_le_self _) c) (by decide)
    · exact h.elim
theorem rc_intS : RCall P (fun xs H Q => ∃ a n, xs = [.str a] ∧ PySem.intText? a = some n ∧ a.length ≤ 640 ∧ Q (.int n) H) gIntS := by
  intro H G ws w vs xs Q s r hx h
  match xs, hx, h with
  | [⟨m, d⟩], hx, h =>
    obtain ⟨v, rfl, hv⟩ := rvs1 hx
    cases d <;> try exact h.elim
    rename_i a
    have h : PostE P (fun _ _ _ => False) H G ws Q (match PySem.intText? a with | some n => if a.length ≤ 640 then .ok (fz (.int n)) w else .bad | none => .bad) := h
    cases e : PySem.intText? a with
    | none => rw [e] at h; exact h.elim
    | some n =>
      rw [e] at h
      dsimp only at h
      split at h
      · rename_i c
        have e1 := rv_str hv
        subst e1
        exact ⟨a, n, rfl, e, c, fz_q s r h (.int _)⟩
      · exact h.elim
end
section
variable {X : Cx} {κ : Kx} {o a : Expr} {fo fa : DE} {fr : DA} {apos cpos p pos : Pos}
theorem e_split (ho : XE X κ o fo) (ha : XE X κ a fa) (hbase : attributeBase o "split" X.env (eval o X.env) = eval o X.env := by rfl)
    (hfew : ((backTo cpos (starEach [a] X.env)).all (fun x => !x.1) && (backToKw cpos (keywordEach [] X.env)).all (fun x => x.1.isSome) && decide ([a].length + ([] : List Keyword).length + (if ([] : List Keyword).isEmpty then 0 else 1) < 30)) = true := by rfl)
    (hline : (apos.endLine == cpos.line) = true := by rfl) (hs : starEach [a] X.env = (false, eval a X.env) :: starEach [] X.env := by rfl) : XE X κ (.Call (.Attribute o "split" apos) [a] [] cpos) (dBm "str" gSplit fo fa) :=
  e_bm PySem.F.plainAttrs_str PySem.F.slot_str_split PySem.F.type_str_split mt_split rbm_split gSplit_nx ho ha hbase hfew hline hs
theorem e_zf (ho : XE X κ o fo) (ha : XE X κ a fa) (hbase : attributeBase o "zfill" X.env (eval o X.env) = eval o X.env := by rfl)
    (hfew : ((backTo cpos (starEach [a] X.env)).all (fun x => !x.1) && (backToKw cpos (keywordEach [] X.env)).all (fun x => x.1.isSome) && decide ([a].length + ([] : List Keyword).length + (if ([] : List Keyword).isEmpty then 0 else 1) < 30)) = true := by rfl)
    (hline : (apos.endLine == cpos.line) = true := by rfl) (hs : starEach [a] X.env = (false, eval a X.env) :: starEach [] X.env := by rfl) : XE X κ (.Call (.Attribute o "zfill" apos) [a] [] cpos) (dBm "str" gZf fo fa) :=
  e_bm PySem.F.plainAttrs_str PySem.F.slot_str_zfill PySem.F.type_str_zfill mt_zfill rbm_zf gZf_nx ho ha hbase hfew hline hs
theorem e_strI (hm : X.mg "str" = none) (ha : XA X κ [a] fr) (hg : Gl X "str" := by rfl) (he : starEach [a] X.env = (false, eval a X.env) :: starEach [] X.env := by rfl) : XE X κ (.Call (.Name "str" p) [a] [] pos) (dCB gStrI fr) := e_ct call_str_int rc_strI gStrI_nx hm (by decide +kernel) ha hg (by decide) (by decide) he
theorem e_intS (hm : X.mg "int" = none) (ha : XA X κ [a] fr) (hg : Gl X "int" := by rfl) (he : starEach [a] X.env = (false, eval a X.env) :: starEach [] X.env := by rfl) : XE X κ (.Call (.Name "int" p) [a] [] pos) (dCB gIntS fr) := e_ct call_int_str rc_intS gIntS_nx hm (by decide +kernel) ha hg (by decide) (by decide) he
end
end DL
/-! zip of two lists -/
namespace DL
open PySem PySem.Spec PyProof.Rows L2
def zipD : List D → List D → List D
  | d :: ds, e :: es => .tup [d, e] :: zipD ds es
  | _, _ => []
theorem zipD_get : ∀ (ds es : List D) (i : Nat) (d : D), (zipD ds es)[i]? = some d → ∃ x y, ds[i]? = some x ∧ es[i]? = some y ∧ d = .tup [x, y]
  | [], _, _, _, h => by simp [zipD] at h
  | _ :: _, [], _, _, h => by simp [zipD] at h
  | x :: ds, y :: es, 0, d, h => by simp [zipD] at h; subst h; exact ⟨x, y, rfl, rfl, rfl⟩
  | x :: ds, y :: es, i + 1, d, h => by
    obtain ⟨a, b, h1, h2, h3⟩ := zipD_get ds es i d (by simpa [zipD] using h)
    exact ⟨a, b, by simpa using h1, by simpa using h2, h3⟩
theorem zipD_len : ∀ (ds es : List D), (zipD ds es).length = min ds.length es.length
  | [], _ => by simp [zipD]
  | _ :: _, [] => by simp [zipD]
  | x :: ds, y :: es => by simp [zipD, zipD_len ds es]
def iZ (f : DA) : DI := fun ρ w => (f ρ w).bind fun xs w => match frzD xs with
  | some [.lst ds, .lst es] => .ok (zipD ds es, true) w
  | _ => .bad
section
variable {P : Pm} {H0 : En} {Wi : WX} {tr : TA} {fr : DA}
theorem itz_ok {Ok : Hp → Hp → Ws → Prop} {a b : Addr} {vs us : List V} {ds es : List D} (h : ∀ G H ws, Ok G H ws → (SqL P.K H a vs ∧ Reps P.K G (io ws) vs ds) ∧ SqL P.K H b us ∧ Reps P.K G (io ws) us es) : ItOk P (Itz P.K a b) Ok (zipD ds es) where
  go := fun G H ws i d ok e => by
    obtain ⟨⟨h1, h2⟩, h3, h4⟩ := h G H ws ok
    obtain ⟨x, y, e1, e2, _⟩ := zipD_get ds es i d e
    obtain ⟨v, hv, _⟩ := h2.getD e1
    obtain ⟨u, hu, _⟩ := h4.getD e2
    exact ⟨vs, us, v, u, h1, h3, hv, hu⟩
  yl := fun G H ws w i d x H' ok s r e y => by
    obtain ⟨⟨h1, h2⟩, h3, h4⟩ := h G H ws ok
    obtain ⟨p, q, e1, e2, rfl⟩ := zipD_get ds es i d e
    obtain ⟨v, hv, rp⟩ := h2.getD e1
    obtain ⟨u, hu, rq⟩ := h4.getD e2
    obtain ⟨T, x1, y1, rfl, hT, rfl, z1, z2⟩ := y
    have a1 := z1 vs h1
    have a2 := z2 us h3
    rw [hv] at a1
    rw [hu] at a2
    cases a1
    cases a2
    have n := Nx.put s r (o := .tup [v, u]) hT
    exact ⟨_, n, .tup (.inl (.inl upd_same)) (.cons (rp.mono n.gg (List.prefix_refl _)) (.cons (rq.mono n.gg (List.prefix_refl _)) .nil))⟩
  st := fun G H ws ok => by
    obtain ⟨⟨h1, h2⟩, h3, h4⟩ := h G H ws ok
    refine ⟨vs, us, h1, h3, ?_⟩
    rw [h2.length, h4.length, zipD_len]
    omega
theorem ev_iZ (ha : EvA P H0 Wi tr fr) : EvI P H0 Wi (iZip P.K tr) (iZ fr) := by
  intro σ H G ws ρ w Q st h
  unfold iZ at h
  refine ha σ H G ws ρ w _ st ?_
  cases e : fr ρ w with
  | bad => rw [e] at h; exact h
  | ex x w' => rw [e] at h; exact h
  | ok xs w' =>
    intro vs H1 G1 ws1 n1 r1 k1
    rw [e] at h
    have h : PostI P (fun c d H' => Wi c d σ H') H G ws Q (match frzD xs with | some [.lst ds, .lst es] => .ok (zipD ds es, true) w' | _ => .bad) := h
    cases e2 : frzD xs with
    | none => rw [e2] at h; exact h.elim
    | some zs =>
      obtain ⟨G2, s2, n2, r2⟩ := freezeAll n1 r1 k1 e2
      rw [e2] at h
      match zs, r2, h with
      | [.lst ds, .lst es], r2, h =>
        cases r2 with
        | cons ra r3 => cases r3 with
          | cons rb r4 =>
            cases r4
            cases ra with
            | lst qa ra2 => cases rb with
              | lst qb rb2 =>
                exact ⟨_, _, _, _, rfl, SqL.of (n2.sub.eq qa), SqL.of (n2.sub.eq qb), h (Itz P.K _ _) H1 G2 ws1 n2 (itz_ok fun G' H' ws' ⟨s1, s2, io⟩ => ⟨⟨SqL.of (s2.eq (s1 _ _ qa)), ra2.mono s1 io⟩, SqL.of (s2.eq (s1 _ _ qb)), rb2.mono s1 io⟩)⟩
end
theorem i_zip {X : Cx} {κ : Kx} {a b : Expr} {fr : DA} {p p3 pos : Pos} {elts : List Expr} {kk : Nat} (hm : X.mg "zip" = none) (ha : XA X κ [a, b] fr) (hg : Gl X "zip" := by rfl) (hs : starEach [a, b] X.env = (false, eval a X.env) :: starEach [b] X.env := by rfl) (hpl : (backTo pos (starEach [b] X.env)).any (·.1) = false := by rfl) :
    XI X κ (.Tuple elts kk p3) (.Call (.Name "zip" p) [a, b] [] pos) (iZ fr) := by
  obtain ⟨t, pa, ea⟩ := ha
  exact ⟨_, pi_zip hg hm pa hs hpl, ev_iZ ea⟩
end DL
/-! the target (k, (x, y, z)) -/
namespace DL
open PySem PySem.Spec PyProof.Rows L2
theorem g_np {X : Cx} {x : Str} {xs : List Expr} {p p2 p3 : Pos} {k1 k2 : Nat} (k : Nat) (is : List Nat) (hc : X.calm = true) (hN : X.N.Nodup) (h : PGs X xs (gNames is)) (hi : X.N[k]? = some x := by rfl) (hx : Loc X.env.scope x := by first | exact Or.inl rfl | exact Or.inr rfl)
    (hf : X.fn x = true ∨ X.env.scope.names.lookup x = some .local := by first | exact .inl rfl | exact .inr rfl)
    (hn : (assignEach xs X.env).length = is.length := by rfl) (hst : (assignEach xs X.env).findIdx? (·.1) = none := by rfl)
    (h1 : (assignEach [.Name x p, .Tuple xs k1 p2] X.env).map (·.2) = assign (.Name x p) X.env :: (assignEach [.Tuple xs k1 p2] X.env).map (·.2) := by rfl) (h2 : (assignEach [.Tuple xs k1 p2] X.env).map (·.2) = assign (.Tuple xs k1 p2) X.env :: (assignEach [] X.env).map (·.2) := by rfl)
    (hn2 : (assignEach [.Name x p, .Tuple xs k1 p2] X.env).length = 2 := by rfl) (hst2 : (assignEach [.Name x p, .Tuple xs k1 p2] X.env).findIdx? (·.1) = none := by rfl) : PG X (.Tuple [.Name x p, .Tuple xs k1 p2] k2 p3) (gT X.K (.np k is)) :=
  pg_tup hc (pgs_cons (pg_name hN hi hx hf) (pgs_cons (pg_tup hc h hn hst) pgs_nil h2) h1) hn2 hst2
end DL
/-! an error out of a comprehension's element -/
namespace DL
open PySem PySem.Spec PyProof.Rows L2
theorem funFrames_but {C : Addr} {h h' B B' : Heap} (hs : ∀ b, b ≠ C → h'.get? b = h.get? b) (hB : ∀ b o, B'.get? b = some o → B.get? b = some o) : ∀ {l : List PySem.Env}, C ∉ frs l → h.FunFrames B l → h'.FunFrames B' l
  | [], _, _ => trivial
  | e :: l, hn, f => by
    obtain ⟨k, ⟨L, o, hL, hb, ho, hd⟩, r⟩ := f
    have neL : L ≠ C := fun z => hn (List.mem_filterMap.mpr ⟨e, List.mem_cons_self, by rw [hL, z]⟩)
    refine ⟨k, ⟨L, o, hL, ?_, (hs L neL).trans ho, hd⟩, funFrames_but hs hB (fun z => hn ?_) r⟩
    · cases q : B'.get? L with
      | none => rfl
      | some x => rw [hB L x q] at hb; cases hb
    · obtain ⟨e', he, q⟩ := List.mem_filterMap.mp z
      exact List.mem_filterMap.mpr ⟨e', List.mem_cons_of_mem _ he, q⟩
section
variable {X : Cx} {pins : List (Addr × Obj)} {σ : L2.St} {H : Hp} {s s' : Shared} {C : Addr} {E : XK} {W : WX} {u : Value}
/-- a call's error, as it lies in our air; C is left out of what is kept -/
theorem raise_core (I : Inv X pins σ H s) (fC : FpOk X pins H C) (hCs : ∃ o, s.heap.get? C = some o) (nC : C ∉ frs X.stack) (c : L2.CX X.prog X.w X.stack H s E u s') :
    ∃ (a : Addr) (B : Heap) (sI : Shared) (H' : Hp) (cls : Value) (d : Option Addr), u = .ref a ∧ Inv X pins σ H' sI ∧ (∀ b o, sI.heap.get? b = some o → b ∉ frs X.stack → B.get? b = some o) ∧ (∀ b o, sI.heap.get? b = some o → b ≠ C ∧ s'.heap.get? b = some o) ∧
      (∀ b o, B.get? b = some o → b ≠ C) ∧ HandSPX.FlyingZ B X.stack a (Zc cls d) s'.heap ∧ H' a = none ∧ s'.os = sI.os ∧ AllBare s'.gens ∧ E cls d H' ∧ ∃ o, s.heap.get? C = some o ∧ s'.heap.get? C = some o := by
  obtain ⟨a, B0, H', cls, d, rfl, fl, hok, ub, na, os, ag, hE⟩ := c
  obtain ⟨f0, f1, f2, f3, f4, f5⟩ := fC
  obtain ⟨oC, eC⟩ := hCs
  have st : B0.StaysIn s'.heap := fl.1
  have eC' : s'.heap.get? C = some oC := st C oC (ub.keep C oC eC f0 nC)
  obtain ⟨B, b1, b2⟩ := restrict B0 fun b => decide (b ≠ C)
  have bB : ∀ b o, B.get? b = some o → b ≠ C ∧ B0.get? b = some o := fun b o e => by
    by_cases hb : b = C
    · rw [b2 b (by simp [hb])] at e; cases e
    · rw [b1 b (by simp [hb])] at e; exact ⟨hb, e⟩
  obtain ⟨G, g1, g2⟩ := restrict s'.heap fun b => decide (b ≠ C) && ((B0.get? b).isSome || decide (b ∈ frs X.stack))
  have gB : ∀ b o, b ≠ C → B0.get? b = some o → G.get? b = some o := fun b o hb e => by
    rw [g1 b (by simp [hb, e])]
    exact st b o e
  have gF : ∀ b, b ∈ frs X.stack → G.get? b = s'.heap.get? b := fun b hb => g1 b (by
    have : b ≠ C := fun z => nC (z ▸ hb)
    simp [hb, this])
  have og : ∀ b o, G.get? b = some o → b ≠ C ∧ s'.heap.get? b = some o ∧ ((B0.get? b).isSome = true ∨ b ∈ frs X.stack) := fun b o e => by
    cases q : (decide (b ≠ C) && ((B0.get? b).isSome || decide (b ∈ frs X.stack))) with
    | false => rw [g2 b q] at e; cases e
    | true =>
      rw [g1 b q] at e
      simp only [Bool.and_eq_true, decide_eq_true_eq, Bool.or_eq_true] at q
      exact ⟨q.1, e, q.2⟩
  have hokG : HOk X.prog X.w H' G := fun b ob e => by
    have hbC : b ≠ C := fun z => by rw [z, ub.free C oC eC f0] at e; cases e
    have n0 : H' C = none := ub.free C oC eC f0
    refine (hok b ob e).stay (fun c v hc q => gB c v (fun z => ?_) q) (fun _ q => q) fun _ _ q => q
    rw [z] at hc
    rcases hc with hc | hc
    · exact hbC hc.symm
    · rw [n0] at hc; cases hc
  have none_of : ∀ b, B0.get? b = none → B.get? b = none := fun b h => by
    cases q : B.get? b with
    | none => rfl
    | some x => rw [(bB b x q).2] at h; cases h
  obtain ⟨l1, l2, l3, oe, vs, T, oT, ts, he, hz, hd, h1, hnT, hTe, hT, hdT, h3⟩ := fl
  refine ⟨a, B, { s with heap := G, gens := s'.gens, drawn := s'.drawn, toks := s'.toks }, H', cls, d, rfl, ?_, fun b o e hb => ?_, fun b o e => ⟨(og b o e).1, (og b o e).2.1⟩, fun b o e => (bB b o e).1,
    ⟨fun b o e => l1 b o (bB b o e).2, none_of a l2, funFrames_but (fun _ _ => rfl) (fun b o e => (bB b o e).2) nC l3, oe, vs, T, oT, ts, he, hz, hd, h1, none_of T hnT, hTe, hT, hdT, h3⟩, na, os, ag, hE, oC, eC, eC'⟩
  · refine I.call (ch := [C]) ⟨fun b o e n hb hc => gB b o (fun z => hc (by simp [z])) (ub.keep b o e n hb), fun b o e n hb _ => ?_, fun b o e n _ => ub.free b o e n, fun b o e hc => ?_, ub.tups, ub.frzs, ub.tbls⟩ hokG ag fun b hb => ?_
    · obtain ⟨sl, q⟩ := ub.slot b o e hb
      exact ⟨sl, by rw [gF b hb]; exact q⟩
    · have hbC : b ≠ C := fun z => hc (by simp [z])
      by_cases hb : b ∈ frs X.stack
      · obtain ⟨sl, q⟩ := ub.slot b o e hb
        exact ⟨_, by rw [gF b hb]; exact q⟩
      · obtain ⟨o', q⟩ := ub.there b o e hb
        exact ⟨o', gB b o' hbC q⟩
    · have e : b = C := by simpa using hb
      subst e
      exact ⟨f3, f1, f4, f5⟩
  · obtain ⟨hbC, e', h⟩ := og b o e
    rcases h with h | h
    · obtain ⟨o', q⟩ := Option.isSome_iff_exists.mp h
      have z := st b o' q
      rw [e'] at z; cases z
      rw [b1 b (by simp [hbC])]
      exact q
    · exact absurd h hb
/-- .. noted by the comprehension's env, its names let go, passed on -/
theorem raise_out {ce : PySem.Env} {what : String} (tk : L2.Takes X W) (hs : X.stack = X.env :: X.outer) (hf : X.env.frame = some X.env.locals) (I : Inv X pins σ H s) (fC : FpOk X pins H C) (hCs : ∃ m, s.heap.Ns C m) (nC : C ∉ frs X.stack) (hce : ce.frame = X.env.frame)
    (hE : ∀ cls d H', E cls d H' → W cls d σ H') (c : L2.CX X.prog X.w X.stack H s E u s') :
    wpAny (model X.prog X.w) X.A (noteFrame u ce) (fun _ s2 => ∃ m, s2.heap.Ns C m ∧ ∀ h', Heap.SameBut C s2.heap h' → ∀ cenv' : PySem.Env, cenv'.frame = X.env.frame → wpAny (model X.prog X.w) X.A (PySem.passOn what u cenv' : Sem Value) (fun _ _ => False) X.xe { s2 with heap := h' }) (fun _ _ => False) s' := by
  obtain ⟨mC, oC0, es, ep, eC0, dC, kC, rC⟩ := hCs
  obtain ⟨a, B, sI, H', cls, d, rfl, J, nb, up, bC, fl, na, os, ag, hw, oC, eC, eC'⟩ := raise_core I fC ⟨_, eC0⟩ nC c
  rw [eC0] at eC
  cases eC
  have hfr : X.A.frames = some (X.env :: X.outer) := by rw [I.ok.frames, hs]
  have en : noteFrame (.ref a) ce = noteFrame (.ref a) X.env := by
    unfold noteFrame PySem.frameOf
    rw [hce]
  rw [en]
  rw [hs] at fl
  refine HandSPX.looks_onZ Zc.steady hfr hf fl fun h1 held up1 => ?_
  obtain ⟨slC, eC1⟩ := up1 C oC0 eC' (fun vs z => by rw [dC] at z; cases z)
  refine ⟨mC, ⟨_, es, ep, eC1, dC, kC, rC⟩, fun h' sb cenv' hc' => ?_⟩
  obtain ⟨k1, k2, k3, oe, vs, T, oT, ts, he, hz, hd, h1', hnT, hTe, hT, hdT, h3⟩ := held
  have ne_of : ∀ {b : Addr} {o : Obj} {ws : Array Value}, h1.get? b = some o → o.data = .fields ws → b ≠ C := fun {b o ws} hb hd z => by
    rw [z, eC1] at hb
    cases hb
    have hd : oC0.data = _ := hd
    rw [dC] at hd
    cases hd
  have gO : ∀ b, b ≠ C → h'.get? b = h1.get? b := fun b hb => sb.2 b hb
  have he' := (gO a (ne_of he hd)).trans he
  have hT' := (gO T (ne_of hT hdT)).trans hT
  have nC' : C ∉ frs (X.env :: X.outer) := by rw [← hs]; exact nC
  have bS : B.StaysIn h' := fun b o e => (gO b (bC b o e)).trans (k1 b o e)
  have f2 := funFrames_but (B' := B) gO (fun _ _ e => e) nC' k3
  unfold PySem.passOn
  refine wpAny_bind (wpAny_field he' hd h1' ?_)
  rw [if_neg (show ¬ ((Value.ref T == Value.none) = true) from by simp)]
  have fin : wpAny (model X.prog X.w) X.A (setFlight (.ref a) cenv'.frame) (fun _ s4 => wpAny (model X.prog X.w) X.A (throw (.ref a) : Sem Value) (fun _ _ => False) X.xe s4) X.xe { { s' with heap := h1 } with heap := h' } := by
    rw [hc', hf]
    refine HandSPX.setFlight_anyZ (Z := Zc cls d) bS f2 ⟨oe, vs, T, oT, ts, he', hz, hd, h1', hnT, hTe, hT', hdT, h3⟩ fun h2 b3 f3 t3 k4 => wpAny_throw (tk _ _ ?_)
    refine ⟨a, B, sI, pins, σ, H', cls, d, rfl, J, nb, fun b o e hnf => ?_, .inr (.inr (by rw [hs]; exact ⟨b3, k2, f3, t3⟩)), na, os, ag, hE _ _ _ hw⟩
    obtain ⟨hbC, e1⟩ := up b o e
    obtain ⟨sl, e2⟩ := up1 b o e1 hnf
    have e3 : h'.get? b = some { o with slots := sl } := (gO b hbC).trans e2
    obtain ⟨sl2, e4⟩ := k4 b { o with slots := sl } e3 hnf
    exact ⟨sl2, e4⟩
  first
    | exact wpAny_bind (wpAny_pure (wpAny_bind fin))
    | exact wpAny_bind fin
end
end DL
/-! a comprehension whose element may raise -/
namespace PySem
section
variable {M : Model} {A : Around} {E : Value → Shared → Prop} {s : Shared} {env : Env}
def compX (M : Model) (A : Around) (E : Value → Shared → Prop) (env : Env) (Q : Value → Shared → Prop) (acc : Value) (C : Addr) (r : Result) (s' : Shared) : Prop :=
  match r with
  | .ok _ => ∃ m, s'.heap.Ns C m ∧ ∀ h', Heap.SameBut C s'.heap h' → Q acc { s' with heap := h' }
  | .error x => ∃ m, s'.heap.Ns C m ∧ ∀ h', Heap.SameBut C s'.heap h' → ∀ cenv : Env, cenv.frame = env.frame → wpAny M A (passOn "comprehension.variables-let-go" x cenv : Sem Value) (fun _ _ => False) E { s' with heap := h' }
theorem comp_freeX {e : Expr} {scope : Scope} {pos : Pos} {newAcc first : Sem Value} {g : Comprehension} {gs : List Comprehension} {cl : List (Str × Addr)}
    {Q : Value → Shared → Prop}
    (hcl : clausesOf e = g :: gs) (hs : ∀ x, foldedSetIterable g.iter env x = pure x) (hclos : closureFor scope env = pure cl)
    (hkind : scope.kind = .function) (hnames : ∀ x ∈ scope.names, x.2 = .local → scope.names.lookup x.1 = some .local)
    (h : wpAny M A first (fun x s₁ => wpAny M A (pyIter x) (fun it s₂ => wpAny M A newAcc (fun acc s₃ =>
      wpAny M A (newFunctionEnv scope env.globals cl [] env.qual none .none (some env)) (fun cenv s₄ => cenv.frame = env.frame ∧
        codeAny M A (.compStart e 0 it acc { cenv with scope := relabel scope env }) (compX M A E env Q acc cenv.locals) s₄) E s₃) E s₂) E s₁) E s) :
    wpAny M A (comprehension e scope env pos newAcc false first none) Q E s := by
  unfold comprehension
  rw [hclos, hcl]
  refine wpAny_bind (wpAny_mono h (fun x s₁ h₁ => wpAny_bind (wpAny_standAt (wpAny_bind (wpAny_of_eq (hs x) (wpAny_bind (wpAny_holding (wpAny_mono h₁ (fun it s₂ h₂ =>
    wpAny_standIf (wpAny_bind (wpAny_mono h₂ (fun acc s₃ h₃ => wpAny_bind (wpAny_pure (wpAny_bind (wpAny_mono h₃ (fun cenv s₄ h₄ => ?_) fun _ _ h' => h')))) fun _ _ h' => h')))
      fun _ _ h' => h'))))))) fun _ _ h' => h')
  obtain ⟨hfr, h₄⟩ := h₄
  dsimp only
  have hv : ∀ x ∈ (scope.names.filter fun x => (x.2 == .local || x.2 == .cell) && x.1 != (".0" : Str)).reverse, x.2 = .local →
      Env.kindOf { cenv with scope := relabel scope env } x.1 = some .local := fun x hx hl => lookup_relabel_local (hnames x (List.mem_filter.mp (List.mem_reverse.mp hx)).1 hl)
  refine wpAny_holding (wpAny_bind (wpAny_attempt (wpAny_holding (wpAny_run (codeAny_mono h₄ fun r s' hr => ?_)))))
  cases r with
  | ok f =>
    obtain ⟨m, hn, hr⟩ := hr
    exact wpAny_bind (wpAny_holding (wpAny_comp_letGo (cenv := { cenv with scope := relabel scope env }) hkind _ s' m hv hn fun h' m' _ hs' => wpAny_pure (hr h' hs')))
  | error x =>
    obtain ⟨m, hn, hr⟩ := hr
    exact wpAny_bind (wpAny_holding (wpAny_comp_letGo (cenv := { cenv with scope := relabel scope env }) hkind _ s' m hv hn fun h' m' _ hs' => wpAny_mono (hr h' hs' _ hfr) (fun _ _ f => f.elim) fun _ _ y => y))
end
end PySem
namespace DL
open PySem PySem.Spec PyProof.Rows L2
/-- the element's place: what it raises is a call's -/
abbrev bX (X : Cx) (W : WX) (σ : L2.St) (s : Shared) (H : Hp) (scope : Scope) (ce : PySem.Env) (fp : List Addr) : Cx :=
  { X.blk s H scope ce fp with xe := fun u s' => ∃ (pb : List (Addr × Obj)) (σb : L2.St) (Hb : Hp) (sb : Shared), Inv (X.blk s H scope ce fp) pb σb Hb sb ∧ L2.CX X.prog X.w X.stack Hb sb (fun cls d H' => W cls d σ H') u s' }
section
variable {X : Cx}
theorem lc_coreX {W : WX} {pins : List (Addr × Obj)} {s : Shared} {σ : L2.St} {H : Hp} {Q : VK} {elt tg iter : Expr} {ifs : List Expr} {scope : Scope} {own : List (Str × Nat)} {pos pos' : Pos} {wi : TI} {g : TG} {tt : TT} {te : TE}
    (hc : X.calm = true) (hN : X.N.Nodup) (hst : X.stack = X.env :: X.outer) (hf : X.env.frame = some X.env.locals) (tk : L2.Takes X W) (I : Inv X pins σ H s) (hi : PI X tg iter wi) (ok : BlkOk X.N X.env.scope scope own)
    (hg : ∀ (s : Shared) (H : Hp) (C : Addr) (cl : List (Str × Addr)) (fp : List Addr), PG (X.blk s H scope (PySem.compEnvC scope cl C X.env) fp) tg g) (ht : ∀ (s : Shared) (H : Hp) (C : Addr) (cl : List (Str × Addr)) (fp : List Addr), PTs (X.blk s H scope (PySem.compEnvC scope cl C X.env) fp) ifs tt)
    (he : ∀ (s : Shared) (H : Hp) (C : Addr) (cl : List (Str × Addr)) (fp : List Addr), PE (bX X W σ s H scope (PySem.compEnvC scope cl C X.env) fp) elt te) (hs : ∀ x, foldedSetIterable iter X.env x = pure x)
    (h : tLc wi g tt te (own.map (·.2)) σ H Q) :
    wpAny (model X.prog X.w) X.A (comprehension (.ListComp elt [⟨tg, iter, ifs, 0⟩] scope pos) scope X.env pos' (newList []) false (eval iter X.env) none) (EP X pins σ Q) X.xe s := by
  have hRR : ∀ D C s' m H', Inv X pins σ H' s' → Q (.ref D) H' → s'.heap.Ns C m → FpOk X pins H' C → compX (model X.prog X.w) X.A X.xe X.env (EP X pins σ Q) (.ref D) C (.ok .next) s' := fun D C s' m H' I' q hn f => ⟨m, hn, fun h'' sb => by
    obtain ⟨f0, f1, f2, f3, f4, f5⟩ := f
    exact ⟨.ref D, H', I'.turned (t' := s'.toks) (fun b o hb e => (sb.2 b hb).trans e) f0 f1 f3 f4 f5, rfl, q⟩⟩
  have hfree : ∀ y ∈ scope.names, y.2 = .free → ∃ c, X.env.cells.lookup y.1 = some c := fun y hy e => by
    rcases ok.free y hy e with k | k
    · exact I.ok.has _ (.inl k)
    · exact I.ok.has _ (.inr k)
  refine comp_freeX rfl hs (closure_ok hfree) ok.kind (fun y hy e => by rw [ok.uniq y hy, e])
    (thn (hi.run pins s σ H _ I h) fun xv s1 hx => thn hx fun itv s2 h2 => ?_)
  obtain ⟨it, fp, tn, J, H2, e, I2, T, st2, f2, q⟩ := h2
  subst e
  refine wpAny_newObj_type (newEnv_comp ?_) (by show 0 ≤ sizeLine; decide)
  refine ⟨rfl, ?_⟩
  generalize hD : s2.heap.objs.size = D
  have hDn : H2 D = none := I2.hok.fresh (Nat.le_of_eq hD)
  obtain ⟨Wt, ⟨m0, w0⟩, turn⟩ := q D hDn
  generalize hs3 : ({ s2 with heap := s2.heap.push { cls := .type "list", data := .seq ([] : List Value).toArray } } : Shared) = s3
  have I3 : Inv X pins σ (upd H2 D (.lst [])) s3 := by
    rw [← hs3]
    refine I2.laid (t' := s2.toks) (fun b o e => Heap.get?_push_of_some _ e) (Nat.le_of_eq hD) ⟨Nat.zero_le _, [], 0, .nil, ?_⟩
    rw [← hD]
    exact Heap.get?_push_size _ rfl
  have h3 : s3.heap = s2.heap.push { cls := .type "list", data := .seq ([] : List Value).toArray } := by rw [← hs3]
  have sz : ∀ b ∈ fp, b < s2.heap.objs.size := fun b hb => by
    obtain ⟨o, e, _⟩ := T.obj _ _ st2 b hb
    exact Heap.lt_size e
  have f3 : ∀ b ∈ fp, FpOk X pins (upd H2 D (.lst [])) b ∧ b < s3.heap.objs.size := fun b hb => by
    have hlt := sz b hb
    refine ⟨⟨?_, (f2 b hb).2⟩, by rw [h3, Heap.size_push]; exact Nat.lt_succ_of_lt hlt⟩
    rw [upd_ne (by rw [← hD]; exact Nat.ne_of_lt hlt)]
    exact (f2 b hb).1
  have st3 : tn 0 s3.heap := T.keep _ _ _ st2 fun b _ o e => by rw [h3]; exact Heap.get?_push_of_some _ e
  have I4 := block_start I3 ok hN f3
  have pg := hg s3 (upd H2 D (.lst [])) s3.heap.objs.size (cellsFrom (s3.heap.objs.size + 1) scope.names (cloFrom X.env.cells scope.names [])) fp
  have pt := ht s3 (upd H2 D (.lst [])) s3.heap.objs.size (cellsFrom (s3.heap.objs.size + 1) scope.names (cloFrom X.env.cells scope.names [])) fp
  have pe := he s3 (upd H2 D (.lst [])) s3.heap.objs.size (cellsFrom (s3.heap.objs.size + 1) scope.names (cloFrom X.env.cells scope.names [])) fp
  show codeAny _ _ (.compStart (.ListComp elt [⟨tg, iter, ifs, 0⟩] scope pos) 0 (.ref it) (.ref D) (PySem.compEnvC scope (cellsFrom (s3.heap.objs.size + 1) scope.names (cloFrom X.env.cells scope.names [])) s3.heap.objs.size X.env)) (compX (model X.prog X.w) X.A X.xe X.env (EP X pins σ Q) (.ref D) s3.heap.objs.size) { s3 with heap := pushCells (s3.heap.push { cls := .type "dict", data := .dict #[] }) scope.names }
  have nfp : ∀ b ∈ fp, (upd H2 D (.lst [])) b = none := fun b hb => (f3 b hb).1.1
  generalize hce : PySem.compEnvC scope (cellsFrom (s3.heap.objs.size + 1) scope.names (cloFrom X.env.cells scope.names [])) s3.heap.objs.size X.env = ce at I4 pg pt pe ⊢
  have cL : ce.locals = s3.heap.objs.size := by subst hce; rfl
  have cF : ce.frame = X.env.frame := by subst hce; rfl
  generalize hH3 : upd H2 D (.lst []) = H3 at I3 I4 pg pt pe w0 nfp f3
  generalize hs4 : ({ s3 with heap := pushCells (s3.heap.push { cls := .type "dict", data := .dict #[] }) scope.names } : Shared) = s4 at I4 ⊢
  have st4 : tn 0 s4.heap := T.keep _ _ _ st3 fun b _ o e => by rw [← hs4]; exact pushCells_keeps _ _ _ _ (Heap.get?_push_of_some _ e)
  have stat : ∀ {σ' : L2.St} {H' : Hp} {s' : Shared}, Inv (X.blk s3 H3 scope ce fp) [] σ' H' s' → (∀ b ∈ fp, H' b = none) → ∀ b ∈ fp, FpOk (X.blk s3 H3 scope ce fp) [] H' b := fun {σ' H' s'} I' hn b hb =>
    ⟨hn b hb, (I'.ok.exf b hb).1, I'.ok.exfs b hb, .inl hb, fun x c e => (I'.ok.exf b hb).2 x c e, fun p hp => absurd (show p ∈ ([] : List (Addr × Obj)) ++ [] from hp) (by simp)⟩
  -- back in the def's context
  have back : ∀ {pb : List (Addr × Obj)} {σ' : L2.St} {H' : Hp} {s' : Shared}, Inv (X.blk s3 H3 scope ce fp) pb σ' H' s' → Inv X pins σ H' s' ∧ FpOk X pins H' s3.heap.objs.size ∧ ∃ m, s'.heap.Ns s3.heap.objs.size m := fun {pb σ' H' s'} I6 => by
    have nC : H' s3.heap.objs.size = none := by
      have z : H' ce.locals = none := I6.free
      rw [cL] at z
      exact z
    obtain ⟨m, hn, _⟩ := I6.loc
    have hn : s'.heap.Ns ce.locals m := hn
    rw [cL] at hn
    exact ⟨I3.call' (ch := fp) I6.os I6.base I6.hok I6.bare fun b hb => ⟨(f3 b hb).1.2.2.2.1, (f3 b hb).1.2.1, (f3 b hb).1.2.2.2.2.1, (f3 b hb).1.2.2.2.2.2⟩, I3.fpOk (Nat.le_refl _) nC, m, hn⟩
  have nCf : s3.heap.objs.size ∉ frs X.stack := fun hm => (List.mem_cons.mp (I3.stkSub _ hm)).elim (fun z => Nat.lt_irrefl _ (z ▸ I3.lt)) (I3.nofs (Nat.le_refl _))
  have loop : codeAny (model X.prog X.w) X.A (.compLoop (.ListComp elt [⟨tg, iter, ifs, 0⟩] scope pos) 0 (.ref it) (.ref D) ce) (compX (model X.prog X.w) X.A X.xe X.env (EP X pins σ Q) (.ref D) s3.heap.objs.size) s4 := by
    refine compLoop_any (fun n s' => ∃ i H', Inv (X.blk s3 H3 scope ce fp) [] (wipe σ (own.map (·.2))) H' s' ∧ tn i s'.heap ∧ (∀ b ∈ fp, H' b = none) ∧ Wt i n H') ?_ m0 ⟨0, H3, I4, st4, nfp, w0⟩
    rintro n s5 ⟨i, H5, I5, st5, n5, w5⟩
    rcases turn i n H5 w5 with ⟨stop, qq⟩ | ⟨go, Nx, hNx, step⟩
    · have td := T.done (X.blk s3 H3 scope ce fp) rfl rfl rfl hc i [] s5 _ H5 (fun _ _ => False) I5 (stat I5 n5) st5 stop
      refine thnF td fun r s6 ⟨hr, I6⟩ => ?_
      subst hr
      obtain ⟨I7, fC, m, hn⟩ := back I6
      exact hRR D s3.heap.objs.size s6 m H5 I7 qq hn fC
    · have ti := T.item (X.blk s3 H3 scope ce fp) rfl rfl rfl hc i [] s5 _ H5 (fun _ _ => False) I5 (stat I5 n5) st5 go
      refine thnF ti fun r s6 ⟨u, hr, h6⟩ => ?_
      subst hr
      refine thnF h6 fun _ s7 ⟨x, H7, I7, r7, y7, st7, n7⟩ => ?_
      have I7' := I7.pinned (stat I7 n7) (T.obj _ _ st7)
      refine thnF (pg.run _ s7 _ H7 x u _ I7' r7 (step x H7 y7)) fun _ s8 ⟨σ8, H8, I8, hw8, q8⟩ => ?_
      refine thnF (pt.run _ s8 σ8 H8 _ I8 q8) fun b s9 ⟨H9, I9, q9⟩ => ?_
      have fin : ∀ {s' : Shared} {H' : Hp}, Inv (X.blk s3 H3 scope ce fp) ([] ++ pinsAt fp s7.heap) σ8 H' s' → Nx H' → ∃ m, m < n ∧ ∃ i H', Inv (X.blk s3 H3 scope ce fp) [] (wipe σ (own.map (·.2))) H' s' ∧ tn i s'.heap ∧ (∀ b ∈ fp, H' b = none) ∧ Wt i m H' := fun {s' H'} I' nx => by
        obtain ⟨m', hm, w'⟩ := hNx H' nx
        have pin' : ∀ b ∈ fp, ∀ o, s7.heap.get? b = some o → s'.heap.get? b = some o ∧ H' b = none := fun b hb o e =>
          let z := I'.pin (b, o) (List.mem_append_right _ (List.mem_append_right _ (mem_pinsAt hb e)))
          ⟨z.1, z.2.1⟩
        have hl : (wipe σ (own.map (·.2))).length = σ8.length := by rw [← hw8, wipe_length]
        refine ⟨m', hm, i + 1, H', (I'.unpinned (pins := [])).weak hl (fun j v e => ?_), T.keep _ _ _ st7 fun b hb o e => (pin' b hb o e).1, fun b hb => ?_, w'⟩
        · rw [← hw8] at e
          exact (wipe_some e).1
        · obtain ⟨o, e, _⟩ := T.obj _ _ st7 b hb
          exact (pin' b hb o e).2
      cases b with
      | false =>
        simp only [Bool.false_eq_true, if_false] at q9 ⊢
        exact fin I9 q9
      | true =>
        simp only [if_true] at q9 ⊢
        refine wpAny_mono (pe.run _ s9 σ8 H9 _ (I9.wish _) q9) (fun z s10 hz => ?_) (fun u s' hx => ?_)
        · obtain ⟨yv, H10, I10, r10, acc, hD10, hz10, nx⟩ := hz
          exact app_ok (X := X.blk s3 H3 scope ce fp) I10.unwish hD10 hz10 r10 fun s11 I11 => fin I11 nx
        · obtain ⟨pb, σb, Hb, sb, Ib, cx⟩ := hx
          obtain ⟨Io, fC, hCs⟩ := back Ib
          exact wpAny_mono (raise_out (what := "comprehension.variables-let-go") tk hst hf Io fC hCs nCf cF (fun _ _ _ h => h) cx) (fun _ _ z => z) (fun _ _ z => z.elim)
  exact codeAny_compStart_list loop (T.self X.A 0 _ _ _ st4 loop)
theorem pe_lcX {W : WX} {elt tg iter : Expr} {ifs : List Expr} {scope : Scope} {own : List (Str × Nat)} {pos : Pos} {wi : TI} {g : TG} {tt : TT} {te : L2.St → TE} (hc : X.calm = true) (hN : X.N.Nodup) (hst : X.stack = X.env :: X.outer) (hf : X.env.frame = some X.env.locals) (tk : L2.Takes X W) (hi : PI X tg iter wi) (ok : BlkOk X.N X.env.scope scope own)
    (hg : ∀ (s : Shared) (H : Hp) (C : Addr) (cl : List (Str × Addr)) (fp : List Addr), PG (X.blk s H scope (PySem.compEnvC scope cl C X.env) fp) tg g) (ht : ∀ (s : Shared) (H : Hp) (C : Addr) (cl : List (Str × Addr)) (fp : List Addr), PTs (X.blk s H scope (PySem.compEnvC scope cl C X.env) fp) ifs tt)
    (he : ∀ (σ : L2.St) (s : Shared) (H : Hp) (C : Addr) (cl : List (Str × Addr)) (fp : List Addr), PE (bX X W σ s H scope (PySem.compEnvC scope cl C X.env) fp) elt (te σ)) (hs : ∀ x, foldedSetIterable iter X.env x = pure x := by intro _; rfl) :
    PE X (.ListComp elt [⟨tg, iter, ifs, 0⟩] scope pos) (fun σ H Q => tLc wi g tt (te σ) (own.map (·.2)) σ H Q) := by
  refine ⟨fun pins s σ H Q I h => ?_⟩
  rw [eval_ListComp]
  exact lc_coreX hc hN hst hf tk I hi ok hg ht (he σ) hs h
end
end DL
/-! [f(x) for x in xs], f may raise, as a denotation -/
namespace DL
open PySem PySem.Spec PyProof.Rows L2
def lcX (t : Tg) (f : DE) : List D → Env → W → R (List D)
  | [], _, w => .ok [] w
  | d :: ds, ρ, w => match setT t d ρ with
    | none => .bad
    | some ρ' => match f ρ' w with
      | .ok x w3 => if keepM x ∧ w3.n = w.n then (match lcX t f ds ρ w3 with
        | .ok r w4 => .ok (x.d :: r) w4
        | .ex z w4 => .ex z w4
        | .bad => .bad) else .bad
      | .ex z w3 => .ex z w3
      | .bad => .bad
def lcV (r : R (List D)) : R Val := match r with
  | .ok r w2 => .ok ⟨.nw, .lst r⟩ w2
  | .ex x w2 => .ex x w2
  | .bad => .bad
def dLcX (fi : DI) (t : Tg) (f : DE) (vs : List Nat) : DE := fun ρ w => (fi ρ w).bind fun x w1 => if x.1.length ≤ sizeLine then lcV (lcX t f x.1 (wipeD ρ vs) w1) else .bad
def glue (made : List D) : R (List D) → R (List D)
  | .ok r w => .ok (made ++ r) w
  | .ex x w => .ex x w
  | .bad => .bad
theorem glue_nil (r : R (List D)) : glue [] r = r := by cases r <;> rfl
theorem glue_step (made : List D) (x : D) (r : R (List D)) : glue made (match r with | .ok r w4 => .ok (x :: r) w4 | .ex z w4 => .ex z w4 | .bad => .bad) = glue (made ++ [x]) r := by
  cases r <;> simp [glue]
section
variable {P : Pm} {H0 : En} {Wi : WX} {te : L2.St → TE} {fa : DE}
theorem ev_lcX {ti : TI} {fi : DI} {t : Tg} {vs : List Nat} (hi : EvI P H0 Wi ti fi) (he : ∀ σ0, EvE P H0 (fun cls d _ H' => Wi cls d σ0 H') (te σ0) fa) (hv : ∀ i ∈ tgs t, i ∈ vs) : EvE P H0 Wi (fun σ H Q => tLc ti (gT P.K t) tYes (te σ) vs σ H Q) (dLcX fi t fa vs) := by
  intro σ H G ws ρ w Q st h
  unfold dLcX at h
  refine hi σ H G ws ρ w _ st ?_
  cases e : fi ρ w with
  | bad => rw [e] at h; exact h
  | ex x w' => rw [e] at h; exact h
  | ok x w' =>
    intro J H1 G1 ws1 n1 ok D hD
    rw [e] at h
    obtain ⟨ds, fr⟩ := x
    have ok := ok.weak
    have h : PostE P (fun c d H' => Wi c d σ H') H G ws Q (if ds.length ≤ sizeLine then lcV (lcX t fa ds (wipeD ρ vs) w') else .bad) := h
    have hsz : ds.length ≤ sizeLine := Classical.byContradiction fun hsz => by rw [if_neg hsz] at h; exact h
    rw [if_pos hsz] at h
    generalize er : lcX t fa ds (wipeD ρ vs) w' = res at h
    have gD : G1 D = none := n1.sub.free hD
    refine ⟨fun i m H' => m = ds.length - i ∧ i ≤ ds.length ∧ ∃ G' ws' w3 acc made, Nx P.K P.C G1 H1 ws1 G' H' ws' w3 ∧ ws'.n = ws1.n ∧ H' D = some (.lst acc) ∧ G' D = none ∧ D ∉ regs ws' ∧ acc.length ≤ i ∧ Reps P.K G' (io ws') acc made ∧ glue made (lcX t fa (ds.drop i) (wipeD ρ vs) w3) = res, ⟨ds.length, by simp, Nat.zero_le _, G1, ws1, w', [], [], Nx.new n1.sub n1.rw hD, rfl, upd_same, gD, fun hr => ?_, Nat.le_refl _, .nil, by rw [glue_nil]; exact er⟩, ?_⟩
    · obtain ⟨o, e, _⟩ := reg_there n1.rw hr
      rw [hD] at e; cases e
    rintro i m H' ⟨rfl, hi, G', ws', w3, acc, made, n, cnt, hDD, gD', rD', hacc, rs, el⟩
    have stw : St P.K P.C H0 (L2.wipe σ vs) H' G' ws' (wipeD ρ vs) w3 := ((st.next n1).next n).wipe vs
    have okq : OkQ P G1 H1 ws1 G' H' ws' := ⟨w3, n, cnt⟩
    by_cases hlt : i < ds.length
    · have ed : ds[i]? = some ds[i] := by simp [hlt]
      have edrop : ds.drop i = ds[i] :: ds.drop (i + 1) := List.drop_eq_getElem_cons hlt
      rw [edrop] at el
      simp only [lcX] at el
      cases es : setT t ds[i] (wipeD ρ vs) with
      | none => rw [es] at el; subst el; exact (show False from h).elim
      | some ρ' =>
        rw [es] at el
        dsimp only at el
        refine .inr ⟨ok.go G' H' ws' i _ okq ed, fun H'' => i + 1 ≤ ds.length ∧ ∃ G' ws' w3 acc made, Nx P.K P.C G1 H1 ws1 G' H'' ws' w3 ∧ ws'.n = ws1.n ∧ H'' D = some (.lst acc) ∧ G' D = none ∧ D ∉ regs ws' ∧ acc.length ≤ i + 1 ∧ Reps P.K G' (io ws') acc made ∧ glue made (lcX t fa (ds.drop (i + 1)) (wipeD ρ vs) w3) = res, fun H'' hn => ⟨ds.length - (i + 1), by omega, rfl, hn⟩, fun v H2 y => ?_⟩
        obtain ⟨G2, n2, rp⟩ := ok.yl G' H' ws' w3 i _ v H2 okq stw.sub stw.rw ed y
        have hg := ev_tg (stw.next n2) rp es (Q := fun σ2 _ => St P.K P.C H0 σ2 H2 G2 ws' ρ' w3) fun σ2 st2 => st2
        have hg := gT_w hv hg
        have mono : ∀ {v : V} {σ0 : L2.St} {H0' : Hp} {Q1 Q2 : L2.St → Hp → Prop}, (∀ s, Q1 s H0' → Q2 s H0') → gT P.K t v σ0 H0' Q1 → gT P.K t v σ0 H0' Q2 := by
          intro v σ0 H0' Q1 Q2 hq hh
          cases t with
          | nm j => exact hq _ hh
          | tp is =>
            obtain ⟨a, xs, e, q, l, hh⟩ := hh
            refine ⟨a, xs, e, q, l, ?_⟩
            have go : ∀ (is : List Nat) (xs : List V) (σ0 : L2.St), gNames is xs σ0 H0' Q1 → gNames is xs σ0 H0' Q2 := by
              intro is
              induction is with
              | nil => intro xs σ0 hh; exact ⟨hh.1, hq _ hh.2⟩
              | cons j js ih =>
                intro xs σ0 hh
                obtain ⟨v, r, e, hh⟩ := hh
                exact ⟨v, r, e, ih _ _ hh⟩
            exact go is xs σ0 hh
          | np j is =>
            obtain ⟨a, xs, e, q, l, v1, r1, e1, v2, r2, e2, a2, xs2, e3, q3, l3, hh⟩ := hh
            refine ⟨a, xs, e, q, l, v1, r1, e1, v2, r2, e2, a2, xs2, e3, q3, l3, ?_⟩
            have go : ∀ (is : List Nat) (xs : List V) (σ0 : L2.St) (Q1 Q2 : L2.St → Hp → Prop), (∀ s, Q1 s H0' → Q2 s H0') → gNames is xs σ0 H0' Q1 → gNames is xs σ0 H0' Q2 := by
              intro is
              induction is with
              | nil => intro xs σ0 Q1 Q2 hq hh; exact ⟨hh.1, hq _ hh.2⟩
              | cons j js ih =>
                intro xs σ0 Q1 Q2 hq hh
                obtain ⟨v, r, e, hh⟩ := hh
                exact ⟨v, r, e, ih _ _ _ _ hq hh⟩
            exact go _ _ _ _ _ (fun s hs' => ⟨hs'.1, hq _ hs'.2⟩) hh
        refine mono (fun σ2 hσ => ?_) hg
        obtain ⟨hw, st2⟩ := hσ
        refine ⟨by rw [hw]; exact wipe_wipe vs vs fun _ h => h, ?_⟩
        refine ev_yes (P := P) (H0 := H0) (Wi := fun _ _ _ _ => False) σ2 H2 G2 ws' ρ' w3 _ st2 ?_
        intro H3 G3 ws3 n3
        have n23 := n2.trans n3
        have c3 : ws3.n = ws1.n := (n23.same stw.rw rfl).trans cnt
        have d3 : H3 D = some (.lst acc) := (n23.keep D _ (.inl hDD) nt_lst rD').eq
        have g3 : G3 D = none := (n23.nocap D _ hDD nt_lst gD').resolve_right fun ⟨_, z⟩ => by rw [d3] at z; cases z
        have r3 : D ∉ regs ws3 := fun hr => by
          rcases n23.fresh D hr with z | z
          · exact rD' z
          · exact z _ hDD nt_lst
        refine iteT ?_
        refine he σ σ2 H3 G3 ws3 ρ' w3 _ (st2.next n3) ?_
        cases ee : fa ρ' w3 with
        | bad => rw [ee] at el; subst el; exact (show False from h).elim
        | ex x w5 =>
          rw [ee] at el
          subst el
          intro cls d H4 G4 ws4 n4 hx
          exact h cls d H4 G4 ws4 (n1.trans (n.trans (n23.trans n4))) hx
        | ok x w5 =>
          rw [ee] at el
          dsimp only at el
          intro u H4 G4 ws4 n4 r4 k4
          by_cases hx : keepM x = true ∧ w5.n = w3.n
          case neg => rw [if_neg hx] at el; subst el; exact (show False from h).elim
          rw [if_pos hx, glue_step] at el

          have n24 := n23.trans n4
          have nn := n.trans n24
          have c4 : ws4.n = ws1.n := (n24.same stw.rw hx.2).trans cnt
          have d4 : H4 D = some (.lst acc) := (n24.keep D _ (.inl hDD) nt_lst rD').eq
          have g4 : G4 D = none := (n24.nocap D _ hDD nt_lst gD').resolve_right fun ⟨_, z⟩ => by rw [d4] at z; cases z
          have r4' : D ∉ regs ws4 := fun hr => by
            rcases n24.fresh D hr with z | z
            · exact rD' z
            · exact z _ hDD nt_lst
          obtain ⟨G5, s5, n5, rp5, f5⟩ := freeze1 nn r4 (newOk_back (P := P) (n.trans n23) k4) (keepM_of hx.1)
          have g5 : G5 D = none := f5 D (fun hm ev => by
            exact k4 hm D ev _ d3 nt_lst) g4
          refine ⟨acc, d4, by omega, hlt, G5, ws4, w5, acc ++ [u], made ++ [x.d], ?_, c4, upd_same, g5, r4', by rw [List.length_append]; simp; omega, (rs.mono (n24.gg.trans s5) n24.io).append (.cons rp5 .nil), el⟩
          -- the list at D has grown
          have hne : ∀ b o, H4 b = some o → b ≠ D → upd H4 D (.lst (acc ++ [u])) b = some o := fun b o h n => by rw [upd_ne n]; exact h
          have nreg : ∀ b ∈ regs ws4, b ≠ D := fun b hb z => r4' (by rw [← z]; exact hb)
          refine ⟨n5.gg, fun b o h => (n5.sub b o h).upd (ne_of_none h g5), ⟨paired_imp n5.rw.obs fun q o hq ⟨⟨dx, e⟩, p⟩ => ⟨⟨dx, hne _ _ e (nreg _ (regs_mem hq).1)⟩, paired_imp p fun y z hy ⟨e, f⟩ => ⟨e, f.move (fun _ _ h => h) (List.prefix_refl _) fun b o eb hb => hb.upd (nreg b ((regs_mem hq).2 b (refs_mem hy eb)))⟩⟩, n5.rw.nn, n5.rw.nd, n5.rw.out, tabs_upd n5.rw.tb d4 nt_lst (nx_cont trivial), n5.rw.nt, ul_upd n5.rw (fun _ _ h => h) (by intro _ _ h; cases h), n5.rw.lkw, lkh_cont n5.rw d4 (by intro _ _ z; cases z)⟩, fun b o h no nr => (n5.keep b o h no nr).upd (h.ne hD), fun b o h no => ?_, (fun b o h no gb => by
            rcases n5.nocap b o h no gb with z | ⟨xs, z⟩
            · exact .inl z
            · by_cases hbD : b = D
              · subst hbD; exact .inl g5
              · exact .inr ⟨xs, by rw [upd_ne hbD]; exact z⟩), n5.io, n5.fresh, n5.le, fun h => ?_, n5.stb⟩
          · by_cases hb : b = D
            · rw [hb, upd_same]; exact ⟨_, rfl, nt_lst⟩
            · rw [upd_ne hb]; exact n5.alive b o h no
          · obtain ⟨e2, k⟩ := n5.qt h
            exact ⟨e2, fun b hb o h => (k b hb o h).upd (h.ne hD)⟩
    · have ei : i = ds.length := by omega
      subst ei
      rw [List.drop_length] at el
      simp only [lcX, glue, List.append_nil] at el
      subst el
      refine .inl ⟨ok.st G' H' ws' okq, h (.ref D) H' G' ws' (n1.trans n) ⟨D, rfl, gD', rD', .lst hDD rs⟩ (fun _ a ea => ?_)⟩
      cases ea
      intro o q no
      obtain ⟨o', z, _⟩ := n1.alive D o q no
      rw [hD] at z; cases z
end
def cA (P : Pm) (H0 : En) (Wi : WX) (f : DA) : TA := fun σ H Q => ∃ G ws ρ w, St P.K P.C H0 σ H G ws ρ w ∧ PostA P (fun c d H' => Wi c d σ H') H G ws Q (f ρ w)
theorem XA.can {X : Cx} {κ : Kx} {es : List Expr} {fr : DA} (h : XA X κ es fr) : PA X es (cA (pm X κ) κ.e κ.Wi fr) := by
  obtain ⟨te, p, e⟩ := h
  exact ⟨fun pos pins s σ H Q I ⟨G, ws, ρ, w, st, q⟩ => p.run pos pins s σ H Q I (e σ H G ws ρ w Q st q)⟩
theorem ev_cA {P : Pm} {H0 : En} {Wi : WX} {fr : DA} : EvA P H0 Wi (cA P H0 Wi fr) fr := fun σ H G ws ρ w Q st q => ⟨G, ws, ρ, w, st, q⟩
/-- the place of such an element -/
abbrev kX (κ : Kx) (σ : L2.St) : Kx := ⟨κ.C, κ.cm, κ.e, fun cls d _ H' => κ.Wi cls d σ H'⟩
section
variable {X : Cx} {κ : Kx} {k : Nat} {tg iter a : Expr} {es : List Expr} {fr : DA} {fi : DI} {pos p cpos : Pos}
/-- [f(x) for x in xs] -/
theorem e_lcX {x : Str} {j : Nat} {F : DF} {scope : Scope} (own : List (Str × Nat)) (t : Tg) (d : Df X.prog X.w X.K X.mg X.base κ.C κ.cm x j F) (c : Fe X κ k) (hi : XI X κ tg iter fi) (ok : blkC X.N X.env.scope scope own = true)
    (hg : ∀ (s : Shared) (H : Hp) (C : Addr) (cl : List (Str × Addr)) (fp : List Addr), PG (X.blk s H scope (PySem.compEnvC scope cl C X.env) fp) tg (gT X.K t))
    (ha : ∀ (σ : L2.St) (s : Shared) (H : Hp) (C : Addr) (cl : List (Str × Addr)) (fp : List Addr), XA (bX X κ.Wi σ s H scope (PySem.compEnvC scope cl C X.env) fp) (kX κ σ) (a :: es) fr)
    (hj : j ≤ k := by decide) (hv : ∀ i ∈ tgs t, i ∈ own.map (·.2) := by decide) (hst : X.stack = X.env :: X.outer := by rfl) (hf : X.env.frame = some X.env.locals := by rfl)
    (hgl : ∀ (σ : L2.St) (s : Shared) (H : Hp) (C : Addr) (cl : List (Str × Addr)) (fp : List Addr), Gl (bX X κ.Wi σ s H scope (PySem.compEnvC scope cl C X.env) fp) x := by intros; rfl) (hdb : (x == ("__debug__" : Str)) = false := by decide)
    (hse : ∀ env : PySem.Env, starEach (a :: es) env = (false, eval a env) :: starEach es env := by intros; rfl) (hpl : ∀ env : PySem.Env, (backTo cpos (starEach es env)).any (·.1) = false := by intros; rfl) (hs : ∀ x, foldedSetIterable iter X.env x = pure x := by intro _; rfl) :
    XE X κ (.ListComp (.Call (.Name x p) (a :: es) [] cpos) [⟨tg, iter, [], 0⟩] scope pos) (dLcX fi t (dCall F [] fr) (own.map (·.2))) := by
  obtain ⟨f, fd, ps, hm, hk, hb, G⟩ := d.ex
  obtain ⟨ti, pi, ei⟩ := hi
  refine ⟨_, pe_lcX (te := fun σ0 => L2.tCallSD (spD (pm X κ) F) [] (fun _ => fun cls d H' => κ.Wi cls d σ0 H') (cA (pm X κ) κ.e (fun cls d _ H' => κ.Wi cls d σ0 H') fr)) c.calm c.nd hst hf c.tk pi (blkOk_by ok) hg (fun s H C cl fp => pts_nil) (fun σ0 s H C cl fp => ?_) hs, ev_lcX ei (fun σ0 => ?_) hv⟩
  · exact pe_callSD (X := bX X κ.Wi σ0 s H scope (PySem.compEnvC scope cl C X.env) fp) G (c.room.mono hj) (hgl σ0 s H C cl fp) hm hk hb .nil (fun σ1 pins H1 s1 e s' I cx => ⟨pins, σ1, H1, s1, Inv.unwish (X := X.blk s H scope (PySem.compEnvC scope cl C X.env) fp) I, cx⟩) (ha σ0 s H C cl fp).can hdb (hse _) (hpl _)
  · exact ev_call (Wi := fun cls d _ H' => κ.Wi cls d σ0 H') ev_cA fun _ _ => .nil
end
end DL
/-! The head: what the top leaves, by one run; facts of it as tests upon a part of the heap. -/
namespace DH
open PySem PySem.Spec PyProof.Rows L2 DL
section
variable {fa : List (Frag → Bool)} {fn : List He.DefD} {K : Frag}
theorem SaysQ.all (c : SaysQ fa fn K) : (fa.all fun f => f K) = true ∧ (fn.all fun d => d.ok K) = true := He.ba (show ((fa.all fun f => f K) && fn.all fun d => d.ok K) = true from congrArg (fun z : He.AlD => z.1) c)
theorem SaysQ.fact (c : SaysQ fa fn K) (i : Nat) {f : Frag → Bool} (h : fa[i]? = some f := by rfl) : f K = true := List.all_eq_true.mp c.all.1 f (List.mem_of_getElem? h)
theorem SaysQ.def_ (c : SaysQ fa fn K) (i : Nat) {d : He.DefD} (h : fn[i]? = some d := by rfl) : ∃ fd, FunD K d.name d.qual d.params d.body d.scope (d.dvs K) (d.kws K) (He.fAd K d.at_) fd := by
  have e : fn.map (fun d => He.fnW K d.at_) = fn.map He.DefD.val := congrArg (fun z : He.AlD => z.2) c
  have e2 : (fn.map fun d => He.fnW K d.at_)[i]? = (fn.map He.DefD.val)[i]? := by rw [e]
  rw [List.getElem?_map, List.getElem?_map, h] at e2
  exact He.DefD.funD (Option.some.inj e2) (List.all_eq_true.mp c.all.2 d (List.mem_of_getElem? h))
end
/-! ### tests -/
section
variable {K : Frag} {h : Heap} {mg : Str → Option Value}
theorem free_ok (X : K.In h) (G : h.Ns mainGlobals mg) {x : Str} (c : bFree x K = true) : mg x = none := PySem.W.mg_none_of X G (He.eqO_ok c)
theorem glo_ok (X : K.In h) (G : h.Ns mainGlobals mg) {x : Str} (c : bGlo x K = true) : mg x = some (.ref (ga K x)) := PySem.W.mg_of X G (He.eqO_ok c)
theorem int_ok (X : K.In h) (G : h.Ns mainGlobals mg) {x : Str} {i : Int} (c : bInt x i K = true) : Cst K mg x (.int i) := by
  obtain ⟨t, e⟩ := He.int_ok X G c
  exact cst_int e
theorem str_ok (X : K.In h) (G : h.Ns mainGlobals mg) {x z : Str} (c : bStr x z K = true) : Cst K mg x (.str z) := by
  obtain ⟨t, e⟩ := He.str_ok X G c
  exact cst_str e
/-! ### defs -/
theorem fun_of {x qual : Str} {st : Stmt} {f : Addr} {fd : FuncData} (F : FunD K x qual (defArgs st) (defBody st) (defScope st) [] [] f fd) : Fun K x qual st f fd := by
  obtain ⟨oc, od, dV, kV, doc, pm, an, cdv, ct, osl, e, lk, hcd, hD, hK⟩ := F.ex
  rcases hD with ⟨_, rfl⟩ | ⟨z, _⟩
  · exact ⟨⟨oc, od, kV, doc, pm, an, cdv, ct, osl, e, lk, hcd⟩, F.kp⟩
  · exact absurd rfl z
theorem fnx_of (X : K.In h) (G : h.Ns mainGlobals mg) {x : Str} {st : Stmt} {ps : List Str} (g : bGlo x K = true) (F : ∃ fd, FunD K x x (defArgs st) (defBody st) (defScope st) [] [] (ga K x) fd)
    (hb : ∀ (kV doc pm : Value) (an : Option Addr) (cdv ct : Value) (us : List Value), us.length = ps.length → bindArgs (PySem.W.fnOf x x (defArgs st) (defBody st) (defScope st) .none kV doc pm an cdv ct) ⟨us, []⟩ = pure (ps.zip us)) : Fnx K mg x st ps := by
  obtain ⟨fd, F⟩ := F
  exact ⟨_, fd, fun_of F, glo_ok X G g, F.bindsN hb⟩
theorem mk_ok {x : Str} (c : bMk x K = true) : PySem.W.tabIn K x = some (cA K x, pA K x) ∧ K.lookup (pA K x) = none ∧ ∀ oc od fd sl, K.lookup (ga K x) = some ⟨oc, od, .func fd, sl⟩ → fd.code = .ref (cA K x) := by
  unfold bMk at c
  unfold cA pA
  cases e : PySem.W.tabIn K x with
  | none => rw [e] at c; cases c
  | some p =>
    rw [e] at c
    obtain ⟨c1, c2⟩ := He.ba c
    refine ⟨rfl, Option.isNone_iff_eq_none.mp c1, fun oc od fd sl hl => ?_⟩
    rw [hl] at c2
    exact of_decide_eq_true c2
theorem funL_of {x : Str} {st : Stmt} {fd : FuncData} (c : bMk x K = true) (F : FunD K x x (defArgs st) (defBody st) (defScope st) [] [] (ga K x) fd) : FunL K x x st (ga K x) fd (cA K x) := by
  obtain ⟨oc, od, dV, kV, doc, pm, an, cdv, ct, osl, rfl, lk, hcd, hD, hK⟩ := F.ex
  have e : cdv = .ref (cA K x) := (mk_ok c).2.2 _ _ _ _ lk
  subst e
  rcases hD with ⟨_, rfl⟩ | ⟨z, _⟩
  · exact ⟨⟨oc, od, kV, doc, pm, an, ct, osl, rfl, lk, hcd⟩, F.kp⟩
  · exact absurd rfl z
theorem fnxL_of (X : K.In h) (G : h.Ns mainGlobals mg) {x : Str} {st : Stmt} {ps : List Str} (g : bGlo x K = true) (c : bMk x K = true) (F : ∃ fd, FunD K x x (defArgs st) (defBody st) (defScope st) [] [] (ga K x) fd)
    (hb : ∀ (kV doc pm : Value) (an : Option Addr) (cdv ct : Value) (us : List Value), us.length = ps.length → bindArgs (PySem.W.fnOf x x (defArgs st) (defBody st) (defScope st) .none kV doc pm an cdv ct) ⟨us, []⟩ = pure (ps.zip us)) : FnxL K mg x st ps (cA K x) := by
  obtain ⟨fd, F⟩ := F
  exact ⟨_, fd, funL_of c F, glo_ok X G g, F.bindsN hb⟩
/-! ### classes of errors -/
abbrev cmK (K : Frag) (xs : List String) : Cm := cmL (xs.map fun x => (x, ga K x))
theorem err_ok {x : Str} (c : bErr x K = true) : bGlo x K = true ∧ ErrC K (ga K "AirError") (ga K x) := by
  obtain ⟨c0, c⟩ := He.ba c
  obtain ⟨c1, c⟩ := He.ba c
  obtain ⟨c2, c⟩ := He.ba c
  obtain ⟨c3, c⟩ := He.ba c
  obtain ⟨c4, c⟩ := He.ba c
  obtain ⟨c5, c6⟩ := He.ba c
  refine ⟨c0, ?_, of_decide_eq_true c2, c3, He.eqO_ok c4, He.eqO_ok c5, He.eqO_ok c6⟩
  cases e : PySem.W.clsIn K (ga K x) with
  | none => rw [e] at c1; cases c1
  | some cd =>
    rw [e] at c1
    obtain ⟨h1, h2⟩ := He.ba c1
    exact ⟨cd, rfl, of_decide_eq_true h1, h2⟩
theorem ers_ok (X : K.In h) (G : h.Ns mainGlobals mg) {xs : List String} (a : bAir K = true) (n : bNd xs K = true) (e : (xs.all fun x => bErr x K) = true) : ErsX K mg (cmK K xs) := by
  obtain ⟨a0, a⟩ := He.ba a
  obtain ⟨a1, a⟩ := He.ba a
  obtain ⟨a2, a⟩ := He.ba a
  obtain ⟨a3, a4⟩ := He.ba a
  have hc : ∃ cd, PySem.W.clsIn K (ga K "AirError") = some cd ∧ cd.mro = [.ref (ga K "AirError"), .type "ValueError", .type "Exception", .type "BaseException", .type "object"] ∧ cd.hasDict = true := by
    cases e : PySem.W.clsIn K (ga K "AirError") with
    | none => rw [e] at a1; cases a1
    | some cd =>
      rw [e] at a1
      obtain ⟨h1, h2⟩ := He.ba a1
      exact ⟨cd, rfl, of_decide_eq_true h1, h2⟩
  refine ers_mk (A := ga K "AirError") ?_ ?_ (glo_ok X G a0) hc (of_decide_eq_true a2) (He.eqO_ok a3) (of_decide_eq_true a4)
  · have := of_decide_eq_true n
    rw [List.map_map]
    exact this
  · intro p hp
    obtain ⟨x, hx, rfl⟩ := List.mem_map.mp hp
    exact (err_ok (List.all_eq_true.mp e x hx)).2
theorem lookup_map {xs : List String} {g : String → Addr} {x : String} (h : x ∈ xs) : (xs.map fun x => (x, g x)).lookup x = some (g x) := by
  induction xs with
  | nil => cases h
  | cons y xs ih =>
    rw [List.map_cons, List.lookup_cons]
    by_cases e : x = y
    · subst e; simp
    · have : (x == y) = false := by simpa using e
      rw [this]
      exact ih ((List.mem_cons.mp h).resolve_left e)
theorem cmK_names {xs : List String} {c : String} (h : (cmK K xs c).isSome) : c ∈ xs := by
  have := cmL_names h
  simpa using this
theorem mcl_ok (X : K.In h) (G : h.Ns mainGlobals mg) {xs : List String} {x : String} (e : (xs.all fun x => bErr x K) = true) (hx : x ∈ xs) : Mcl mg (cmK K xs) x :=
  ⟨_, glo_ok X G (err_ok (List.all_eq_true.mp e x hx)).1, lookup_map hx⟩
theorem rcl_ok (X : K.In h) (G : h.Ns mainGlobals mg) {xs : List String} {x : String} (e : (xs.all fun x => bErr x K) = true) (c : bRai x K = true) (hx : x ∈ xs) : Rcl K mg (cmK K xs) x :=
  ⟨⟨_, glo_ok X G (err_ok (List.all_eq_true.mp e x hx)).1, lookup_map hx, c⟩⟩
end
theorem tab_uniq {T : List (Addr × Str)} {P : Addr} {z : Str} {l : List Addr} (nd : l.Nodup) (e : T.map (·.1) = l) (h : (P, z) ∈ T) : ∀ p ∈ T, p.1 = P → p.2 = z := by
  subst e
  intro p hp hq
  revert h hp nd
  induction T with
  | nil => intro h; cases h
  | cons t T ih =>
    intro h nd hp
    rw [List.map_cons, List.nodup_cons] at nd
    rcases List.mem_cons.mp h with h1 | h1 <;> rcases List.mem_cons.mp hp with h2 | h2
    · rw [h2, ← h1]
    · exact absurd (List.mem_map.mpr ⟨p, h2, by rw [hq, ← h1]⟩) nd.1
    · exact absurd (List.mem_map.mpr ⟨(P, z), h1, by rw [← h2, hq]⟩) nd.1
    · exact ih h1 nd.2 h2
/-! ### the end -/
theorem walkQ {l : PySem.W.OpenLaw} {k n : Nat} {q : Program} {loose : List Str} {XP : (Str → Option Value) → Heap → Prop} {d : DefRec} {facts : List (Frag → Bool)} {defs : List He.DefD} {F : DF} (hn : l.most = some 63) (hdf : d.params.defaults = []) (hr : Room k callerA)
    (hF : ∀ (w : World) (mg : Str → Option Value) (fa : Addr) (h : Heap) (K : Frag), K.In h → h.Ns mainGlobals mg → mg d.name = some (.ref fa) → SaysQ facts defs K →
      ∃ (fd : FuncData) (cs : List (Addr × Addr)) (T : List (Addr × Str)) (C : Addr) (cm : Cm), (∀ (s : Shared) (u : Value), BindsTo s fd ⟨[u], []⟩ [("script", u)]) ∧
        (∀ p ∈ cs, (∃ x, ((PyProof.Rows.recsOf q).any fun e => e.name == x) = true ∧ PySem.W.tabIn K x = some p) ∧ K.lookup p.2 = none) ∧ (∀ t ∈ T, ∃ p ∈ cs, p.2 = t.1) ∧
        ∀ base : Heap, K.In base → base.Ns mainGlobals mg → (∀ p ∈ cs, LamX.TabB base mg p.1 p.2) → FnOk l.prog w K mg base (L2.CX l.prog w) k fa fd ["script"] (spD ⟨K, ⟨C, T⟩, cm⟩ F))
    (ht : ∀ ns : List Int, ns.length ≤ 63 → ∃ m w, F [.scr ns] W0 = .ok ⟨m, .bl true⟩ w) : PySem.W.WalkO q loose XP (hookQ n facts defs).says l.row.toRowW d [] (fun f vs => PySem.call f vs) := by
  refine Att.attach_callB hn hdf ?_
  intro w s₀ s₁ mg mb fa o pm cd doc a vs ns Gd Y ho hd hcd hmg hobj hints hlen hbits hg
  obtain ⟨K, KX, hs⟩ := Y
  obtain ⟨fd, cs, T, C, cm, hb, hcs, hT, hF⟩ := hF w mg fa _ K KX Gd.T.g hmg hs
  have tabs : ∀ p ∈ cs, PySem.W.CodeHd s₁.heap p.1 p.2 ∧ s₁.heap.get? p.2 = some (PySem.W.tabObj #[]) := fun p hp => by
    obtain ⟨⟨x, h1, h2⟩, _⟩ := hcs p hp
    obtain ⟨dr, hdr⟩ : ∃ dr, (PyProof.Rows.recsOf q).find? (fun e => e.name == x) = some dr := by
      obtain ⟨e, he, hx⟩ := List.any_eq_true.mp h1
      cases h : (PyProof.Rows.recsOf q).find? (fun e => e.name == x) with
      | some dr => exact ⟨dr, rfl⟩
      | none => exact absurd hx (by simpa using List.find?_eq_none.mp h e he)
    exact PySem.W.tab_of Gd.T KX hdr h2
  refine LamX.law_callTs KX Gd.T.g Gd.T.b Gd.T.builtins Gd.T.nolimit hg (fun p hp => (tabs p hp).2) (fun p hp => (hcs p hp).2) (fun p hp => (tabs p hp).1) Gd.T.bmain hobj hints (Nat.le_trans hlen (by decide)) hr hF hb ?_ ?_
  · intro H hH hS
    refine law_sp (ht ns hlen) ?_ hS
    intro t htm
    obtain ⟨p, hp, e⟩ := hT t htm
    exact .nil (e ▸ hH p hp)
  · intro H e s' z
    exact cx_no z
end DH
/-! clauses for errors with fields, from what the top leaves -/
namespace DL
open PySem L2
theorem ro {j : Int} (h : -10000 ≤ j) (h2 : j ≤ 10000) : RO j := by unfold RO; omega
noncomputable def rng1 : List Val → W → R (List D × Bool) := fun xs w => match xs with | [⟨_, .int j⟩] => if RO j then .ok (rngD 0 j.toNat, true) w else .bad | _ => .bad
noncomputable def rng2 : List Val → W → R (List D × Bool) := fun xs w => match xs with | [⟨_, .int i⟩, ⟨_, .int j⟩] => if RO2 i j then .ok (rngD i (j - i).toNat, true) w else .bad | _ => .bad
section
variable (ρ : Env) (w : W) (fa fb fc : DE) (g g' : Val → Val → W → R Val) (fA fB : DT) (fr : DA) (s s' : DS) (x y : Val) (m m' : Md)
@[simp] theorem bind_ok {α β : Type} (a : α) (f : α → W → R β) : (R.ok a w).bind f = f a w := rfl
@[simp] theorem rthn_ok {α : Type} (a : α) (f : α → W → Out) : (R.ok a w).thn ρ f = f a w := rfl
@[simp] theorem othn_next (f : DS) : (Out.next ρ w).thn f = f ρ w := rfl
@[simp] theorem othn_ret (f : DS) : (Out.ret x w).thn f = .ret x w := rfl
@[simp] theorem chk_eq {α : Type} (r : R α) : chk x w w r = r := by simp [chk]
@[simp] theorem dVar_s (i : Nat) : dVar i ρ w = match ρ[i]? with | some (some x) => .ok ⟨if x.m = .nw then .bo else x.m, x.d⟩ w | _ => .bad := rfl
@[simp] theorem dC_s (d : D) : dC d ρ w = .ok (fz d) w := rfl
@[simp] theorem dOp_s : dOp g fa fb ρ w = (fa ρ w).bind fun x w1 => (fb ρ w1).bind fun y w2 => chk x w1 w2 (g x y w2) := rfl
@[simp] theorem dUn_s (g : Val → W → R Val) : dUn g fa ρ w = (fa ρ w).bind fun x w => g x w := rfl
@[simp] theorem dCB_s (g : List Val → W → R Val) : dCB g fr ρ w = (fr ρ w).bind fun x w => g x w := rfl
@[simp] theorem tst_s : tst fa ρ w = (fa ρ w).bind fun x w => match x.d with | .bl b => .ok b w | _ => .bad := rfl
@[simp] theorem dNot_s : dNot fA ρ w = (fA ρ w).bind fun b w => .ok (!b) w := rfl
@[simp] theorem dAnd_s : dAnd fA fB ρ w = (fA ρ w).bind fun b w => if b then fB ρ w else .ok false w := rfl
@[simp] theorem dOr_s : dOr fA fB ρ w = (fA ρ w).bind fun b w => if b then .ok true w else fB ρ w := rfl
@[simp] theorem dAndV_s : dAndV fa fb ρ w = (fa ρ w).bind fun x w => match x.d with | .bl true => fb ρ w | .bl false => .ok (fz (.bl false)) w | _ => .bad := rfl
@[simp] theorem dOrV_s : dOrV fa fb ρ w = (fa ρ w).bind fun x w => match x.d with | .bl false => fb ρ w | .bl true => .ok (fz (.bl true)) w | _ => .bad := rfl
@[simp] theorem dNotV_s : dNotV fa ρ w = (fa ρ w).bind fun x w => match x.d with | .bl b => .ok (fz (.bl (!b))) w | _ => .bad := rfl
@[simp] theorem dIf_s : dIf fA fa fb ρ w = (fA ρ w).bind fun b w => if b then fa ρ w else fb ρ w := rfl
@[simp] theorem dNil_s : dNil ρ w = .ok [] w := rfl
@[simp] theorem dOne_s : dOne fa ρ w = (fa ρ w).bind fun x w => .ok [x] w := rfl
@[simp] theorem dCons_s : dCons fa fr ρ w = (fa ρ w).bind fun x w1 => (fr ρ w1).bind fun xs w2 => chk x w1 w2 (.ok (x :: xs) w2) := rfl
@[simp] theorem dTup_s : dTup fr ρ w = (fr ρ w).bind fun xs w => match frzD xs with | some ds => if ds.length ≤ sizeLine then .ok (fz (.tup ds)) w else .bad | none => .bad := rfl
@[simp] theorem dLst_s : dLst fr ρ w = (fr ρ w).bind fun xs w => match frzD xs with | some ds => if ds.length ≤ sizeLine then .ok ⟨.nw, .lst ds⟩ w else .bad | none => .bad := rfl
@[simp] theorem frzD_nil : frzD [] = some [] := rfl
@[simp] theorem frzD_fz (d : D) (xs : List Val) : frzD (⟨.fz, d⟩ :: xs) = (frzD xs).map (d :: ·) := by simp only [frzD]; cases frzD xs <;> rfl
@[simp] theorem frzD_nw (d : D) (xs : List Val) : frzD (⟨.nw, d⟩ :: xs) = (frzD xs).map (d :: ·) := by simp only [frzD]; cases frzD xs <;> rfl
@[simp] theorem dChain_s : dChain g g' fa fb fc ρ w = (fa ρ w).bind fun x w1 => (fb ρ w1).bind fun y w2 => chk x w1 w2 ((g x y w2).bind fun z w3 => match z.d with | .bl true => (fc ρ w3).bind fun u w4 => chk y w2 w4 (g' y u w4) | .bl false => .ok (fz (.bl false)) w3 | _ => .bad) := rfl
@[simp] theorem dCall_s (F : DF) (dds : List D) : dCall F dds fr ρ w = (fr ρ w).bind fun xs w => match frzD xs with | some ds => F (ds ++ dds) w | none => .bad := rfl
@[simp] theorem dCallP_s (F : DF) (dds : List D) : dCallP F dds fr ρ w = (fr ρ w).bind fun xs w => match borD xs with
  | some ds => (match F (ds ++ dds) w with
    | .ok x w2 => if imV x ∧ w2.n = w.n ∧ w2.lk = w.lk then .ok x w else .bad
    | .ex x w2 => if x.fs.isEmpty ∧ w2.n = w.n ∧ w2.lk = w.lk then .ex x w else .bad
    | .bad => .bad)
  | none => .bad := rfl
@[simp] theorem dNo_s : dNo ρ w = .ok none w := rfl
@[simp] theorem dPart_s : dPart fa ρ w = (fa ρ w).bind fun x w => match x.d with | .int i => .ok (some i) w | _ => .bad := rfl
@[simp] theorem dSl_s (fl fh : DO) : dSl fa fl fh ρ w = (fa ρ w).bind fun x w1 => (fl ρ w1).bind fun lo w2 => (fh ρ w2).bind fun hi w3 => chk x w1 w3 (gSl x lo hi w3) := rfl
/-! statements -/
@[simp] theorem sNext_s : sNext ρ w = .next ρ w := rfl
@[simp] theorem sSeq_s : sSeq s s' ρ w = (s ρ w).thn s' := rfl
@[simp] theorem sSet_s (i : Nat) : sSet i fa ρ w = (fa ρ w).thn ρ fun x w => if keepM x then .next (ρ.set i (some x)) w else .bad := rfl
@[simp] theorem sSetF_s (i : Nat) : sSetF i fa ρ w = (fa ρ w).thn ρ fun x w => if keepM x then .next (ρ.set i (some (fz x.d))) w else .bad := rfl
@[simp] theorem sParF_s (is : List Nat) (fl : List Bool) : sParF is fl fr ρ w = (fr ρ w).thn ρ fun xs w => if is.length = xs.length ∧ fl.length = xs.length ∧ xs.all keepM then .next (setXs is (frzF fl xs) ρ) w else .bad := rfl
@[simp] theorem sSetT_s (is : List Nat) : sSetT is fa ρ w = (fa ρ w).thn ρ fun x w => match x.d with | .tup ds => if is.length = ds.length then .next (setAll is ds ρ) w else .bad | _ => .bad := rfl
@[simp] theorem sRet_s : sRet fa ρ w = (fa ρ w).thn ρ fun x w => if keepM x then .ret x w else .bad := rfl
@[simp] theorem sRetV_s (i : Nat) : sRetV i ρ w = match ρ[i]? with | some (some x) => .ret x w | _ => .bad := rfl
@[simp] theorem sIf_s : sIf fA s s' ρ w = (fA ρ w).thn ρ fun b w => if b then s ρ w else s' ρ w := rfl
@[simp] theorem sFrz_s (i : Nat) : sFrz i s ρ w = match ρ[i]? with | some (some x) => s (ρ.set i (some (fz x.d))) w | _ => .bad := rfl
@[simp] theorem sApp_s (i : Nat) : sApp i fa ρ w = match ownL ρ i with | some ds => (fa ρ w).thn ρ fun x w => if keepM x ∧ ds.length < sizeLine then .next (ρ.set i (some ⟨.nw, .lst (ds ++ [x.d])⟩)) w else .bad | none => .bad := rfl
@[simp] theorem sExt_s (i : Nat) : sExt i fa ρ w = match ownL ρ i with | some ds => ((fa ρ w).thn ρ fun x w => match x.d with | .lst es => if ds.length + es.length ≤ sizeLine then .next (ρ.set i (some ⟨.nw, .lst (ds ++ es)⟩)) w else .bad | _ => .bad) | none => .bad := rfl
@[simp] theorem ownL_s (i : Nat) : ownL ρ i = match ρ[i]? with | some (some ⟨.nw, .lst ds⟩) => some ds | _ => none := rfl
@[simp] theorem sFor_s (f : DI) (t : Tg) : sFor f t s ρ w = (f ρ w).thn ρ fun x w => if x.2 then forL t s x.1 ρ w else .bad := rfl
@[simp] theorem iSq_fz (ds : List D) (h : fa ρ w = .ok ⟨.fz, .lst ds⟩ w) : iSq fa ρ w = .ok (ds, true) w := by simp [iSq, h, keepM]
@[simp] theorem iR1_s : iR1 fr ρ w = (fr ρ w).bind rng1 := rfl
@[simp] theorem iR2_s : iR2 fr ρ w = (fr ρ w).bind rng2 := rfl
@[simp] theorem rng1_s {j : Int} (h : RO j) : rng1 [⟨m, .int j⟩] w = .ok (rngD 0 j.toNat, true) w := if_pos h
@[simp] theorem rng2_s {i j : Int} (h : RO2 i j) : rng2 [⟨m, .int i⟩, ⟨m', .int j⟩] w = .ok (rngD i (j - i).toNat, true) w := if_pos h
@[simp] theorem keepM_fz (d : D) : keepM ⟨.fz, d⟩ = true := rfl
@[simp] theorem keepM_nw (d : D) : keepM ⟨.nw, d⟩ = true := rfl
@[simp] theorem setXs_nil (xs : List Val) : setXs [] xs ρ = ρ := rfl
@[simp] theorem setAll_nil (xs : List D) : setAll [] xs ρ = ρ := rfl
@[simp] theorem setAll_cons (i : Nat) (is : List Nat) (d : D) (ds : List D) : setAll (i :: is) (d :: ds) ρ = setAll is ds (ρ.set i (some (fz d))) := rfl
@[simp] theorem setXs_cons (i : Nat) (is : List Nat) (v : Val) (xs : List Val) : setXs (i :: is) (v :: xs) ρ = setXs is xs (ρ.set i (some v)) := rfl
@[simp] theorem frzF_nil : frzF [] [] = [] := rfl
@[simp] theorem frzF_cons (b : Bool) (bs : List Bool) (v : Val) (xs : List Val) : frzF (b :: bs) (v :: xs) = (if b then v else fz v.d) :: frzF bs xs := rfl
@[simp] theorem sz_0 : (0 : Nat) ≤ sizeLine := by decide
@[simp] theorem sz_1 : (1 : Nat) ≤ sizeLine := by decide
@[simp] theorem sz_2 : (2 : Nat) ≤ sizeLine := by decide
@[simp] theorem sz_3 : (3 : Nat) ≤ sizeLine := by decide
@[simp] theorem sz_4 : (4 : Nat) ≤ sizeLine := by decide
@[simp] theorem sz_5 : (5 : Nat) ≤ sizeLine := by decide
@[simp] theorem sz_6 : (6 : Nat) ≤ sizeLine := by decide
@[simp] theorem sz_7 : (7 : Nat) ≤ sizeLine := by decide
@[simp] theorem sz_8 : (8 : Nat) ≤ sizeLine := by decide
@[simp] theorem sz_9 : (9 : Nat) ≤ sizeLine := by decide
@[simp] theorem sz_10 : (10 : Nat) ≤ sizeLine := by decide
@[simp] theorem sz_11 : (11 : Nat) ≤ sizeLine := by decide
@[simp] theorem sz_12 : (12 : Nat) ≤ sizeLine := by decide
@[simp] theorem sz_13 : (13 : Nat) ≤ sizeLine := by decide
@[simp] theorem sz_14 : (14 : Nat) ≤ sizeLine := by decide
@[simp] theorem sz_15 : (15 : Nat) ≤ sizeLine := by decide
@[simp] theorem sz_16 : (16 : Nat) ≤ sizeLine := by decide
@[simp] theorem sz_17 : (17 : Nat) ≤ sizeLine := by decide
@[simp] theorem sz_18 : (18 : Nat) ≤ sizeLine := by decide
@[simp] theorem sz_19 : (19 : Nat) ≤ sizeLine := by decide
@[simp] theorem sz_20 : (20 : Nat) ≤ sizeLine := by decide
@[simp] theorem sz_21 : (21 : Nat) ≤ sizeLine := by decide
@[simp] theorem sz_22 : (22 : Nat) ≤ sizeLine := by decide
@[simp] theorem sz_23 : (23 : Nat) ≤ sizeLine := by decide
@[simp] theorem sz_24 : (24 : Nat) ≤ sizeLine := by decide
@[simp] theorem sz_25 : (25 : Nat) ≤ sizeLine := by decide
@[simp] theorem sz_26 : (26 : Nat) ≤ sizeLine := by decide
@[simp] theorem sz_27 : (27 : Nat) ≤ sizeLine := by decide
@[simp] theorem sz_28 : (28 : Nat) ≤ sizeLine := by decide
@[simp] theorem sz_29 : (29 : Nat) ≤ sizeLine := by decide
@[simp] theorem sz_30 : (30 : Nat) ≤ sizeLine := by decide
@[simp] theorem sz_31 : (31 : Nat) ≤ sizeLine := by decide
@[simp] theorem sz_32 : (32 : Nat) ≤ sizeLine := by decide
@[simp] theorem sz_33 : (33 : Nat) ≤ sizeLine := by decide
@[simp] theorem sz_34 : (34 : Nat) ≤ sizeLine := by decide
@[simp] theorem sz_35 : (35 : Nat) ≤ sizeLine := by decide
@[simp] theorem sz_36 : (36 : Nat) ≤ sizeLine := by decide
@[simp] theorem sz_37 : (37 : Nat) ≤ sizeLine := by decide
@[simp] theorem sz_38 : (38 : Nat) ≤ sizeLine := by decide
@[simp] theorem sz_39 : (39 : Nat) ≤ sizeLine := by decide
@[simp] theorem sz_40 : (40 : Nat) ≤ sizeLine := by decide
@[simp] theorem szl_0 : (0 : Nat) < sizeLine := by decide
@[simp] theorem szl_1 : (1 : Nat) < sizeLine := by decide
@[simp] theorem szl_2 : (2 : Nat) < sizeLine := by decide
@[simp] theorem szl_3 : (3 : Nat) < sizeLine := by decide
@[simp] theorem szl_4 : (4 : Nat) < sizeLine := by decide
@[simp] theorem szl_5 : (5 : Nat) < sizeLine := by decide
@[simp] theorem szl_6 : (6 : Nat) < sizeLine := by decide
@[simp] theorem szl_7 : (7 : Nat) < sizeLine := by decide
@[simp] theorem szl_8 : (8 : Nat) < sizeLine := by decide
@[simp] theorem szl_9 : (9 : Nat) < sizeLine := by decide
@[simp] theorem szl_10 : (10 : Nat) < sizeLine := by decide
@[simp] theorem szl_11 : (11 : Nat) < sizeLine := by decide
@[simp] theorem szl_12 : (12 : Nat) < sizeLine := by decide
@[simp] theorem szl_13 : (13 : Nat) < sizeLine := by decide
@[simp] theorem szl_14 : (14 : Nat) < sizeLine := by decide
@[simp] theorem szl_15 : (15 : Nat) < sizeLine := by decide
@[simp] theorem szl_16 : (16 : Nat) < sizeLine := by decide
@[simp] theorem szl_17 : (17 : Nat) < sizeLine := by decide
@[simp] theorem szl_18 : (18 : Nat) < sizeLine := by decide
@[simp] theorem szl_19 : (19 : Nat) < sizeLine := by decide
@[simp] theorem szl_20 : (20 : Nat) < sizeLine := by decide
@[simp] theorem szl_21 : (21 : Nat) < sizeLine := by decide
@[simp] theorem szl_22 : (22 : Nat) < sizeLine := by decide
@[simp] theorem szl_23 : (23 : Nat) < sizeLine := by decide
@[simp] theorem szl_24 : (24 : Nat) < sizeLine := by decide
@[simp] theorem szl_25 : (25 : Nat) < sizeLine := by decide
@[simp] theorem szl_26 : (26 : Nat) < sizeLine := by decide
@[simp] theorem szl_27 : (27 : Nat) < sizeLine := by decide
@[simp] theorem szl_28 : (28 : Nat) < sizeLine := by decide
@[simp] theorem szl_29 : (29 : Nat) < sizeLine := by decide
@[simp] theorem szl_30 : (30 : Nat) < sizeLine := by decide
@[simp] theorem szl_31 : (31 : Nat) < sizeLine := by decide
@[simp] theorem szl_32 : (32 : Nat) < sizeLine := by decide
@[simp] theorem szl_33 : (33 : Nat) < sizeLine := by decide
@[simp] theorem szl_34 : (34 : Nat) < sizeLine := by decide
@[simp] theorem szl_35 : (35 : Nat) < sizeLine := by decide
@[simp] theorem szl_36 : (36 : Nat) < sizeLine := by decide
@[simp] theorem szl_37 : (37 : Nat) < sizeLine := by decide
@[simp] theorem szl_38 : (38 : Nat) < sizeLine := by decide
@[simp] theorem szl_39 : (39 : Nat) < sizeLine := by decide
@[simp] theorem szl_40 : (40 : Nat) < sizeLine := by decide
theorem sz_le {n : Nat} (h : n ≤ 10000) : n ≤ sizeLine := Nat.le_trans h (by decide)
theorem sz_lt {n : Nat} (h : n ≤ 10000) : n < sizeLine := Nat.lt_of_le_of_lt h (by decide)
/-! operations -/
@[simp] theorem gAdd_ii (i j : Int) : gAdd ⟨m, .int i⟩ ⟨m', .int j⟩ w = .ok (fz (.int (i + j))) w := rfl
@[simp] theorem gMul_ii (i j : Int) (h : CMul i j) : gMul ⟨m, .int i⟩ ⟨m', .int j⟩ w = .ok (fz (.int (i * j))) w := by simp [gMul, h]
@[simp] theorem gI0_ii (f : Int → Int → D) (i j : Int) : gI0 f ⟨m, .int i⟩ ⟨m', .int j⟩ w = .ok (fz (f i j)) w := rfl
@[simp] theorem gDiv_ii (i j : Int) (h : CDivW i j) : gDiv ⟨m, .int i⟩ ⟨m', .int j⟩ w = .ok (fz (.int (i / j))) w := by simp [gDiv, gI, h]
@[simp] theorem gMod_ii (i j : Int) (h : 0 < j) : gMod ⟨m, .int i⟩ ⟨m', .int j⟩ w = .ok (fz (.int (i % j))) w := by simp [gMod, gI, h]
@[simp] theorem gPow_ii (i j : Int) (h : CPow i j) : gPow ⟨m, .int i⟩ ⟨m', .int j⟩ w = .ok (fz (.int (i ^ j.toNat))) w := by simp [gPow, gI, h]
@[simp] theorem gNeg_i (i : Int) : gNeg ⟨m, .int i⟩ w = .ok (fz (.int (-i))) w := rfl
@[simp] theorem gEq_ii (b : Bool) (i j : Int) : gEq b ⟨m, .int i⟩ ⟨m', .int j⟩ w = .ok (fz (.bl (b != (i == j)))) w := rfl
@[simp] theorem gMax2_ii (i j : Int) : gMax2 [⟨m, .int i⟩, ⟨m', .int j⟩] w = .ok (fz (.int (if j > i then j else i))) w := rfl
@[simp] theorem gMin2_ii (i j : Int) : gMin2 [⟨m, .int i⟩, ⟨m', .int j⟩] w = .ok (fz (.int (if j < i then j else i))) w := rfl
@[simp] theorem gLen_l (ds : List D) : gLen [⟨m, .lst ds⟩] w = .ok (fz (.int ds.length)) w := rfl
@[simp] theorem gLen_t (ds : List D) : gLen [⟨m, .tup ds⟩] w = .ok (fz (.int ds.length)) w := rfl
@[simp] theorem gLen_s (ns : List Int) : gLen [⟨m, .scr ns⟩] w = .ok (fz (.int ns.length)) w := rfl
@[simp] theorem gIx_l (ds : List D) (i : Int) : gIx ⟨m, .lst ds⟩ ⟨m', .int i⟩ w = match atI ds i with | some d => .ok (fz d) w | none => .bad := rfl
@[simp] theorem gIx_t (ds : List D) (i : Int) : gIx ⟨m, .tup ds⟩ ⟨m', .int i⟩ w = match atI ds i with | some d => .ok (fz d) w | none => .bad := rfl
theorem gIx_scr (ns : List Int) (i : Int) : gIx ⟨m, .scr ns⟩ ⟨m', .int i⟩ w = match atI ns i with | some n => .ok (fz (.int n)) w | none => .bad := rfl
@[simp] theorem gSl_l (ds : List D) (lo hi : Option Int) : gSl ⟨m, .lst ds⟩ lo hi w = .ok ⟨.nw, .lst (cutL ds lo hi)⟩ w := rfl
@[simp] theorem gAdd_ll (xs ys : List D) (h : xs.length + ys.length ≤ sizeLine) : gAdd ⟨m, .lst xs⟩ ⟨m', .lst ys⟩ w = .ok ⟨.nw, .lst (xs ++ ys)⟩ w := by simp [gAdd, h]
@[simp] theorem gInt_b (b : Bool) : gInt [⟨m, .bl b⟩] w = .ok (fz (.int (if b then 1 else 0))) w := rfl
@[simp] theorem gInt_i (i : Int) : gInt [⟨m, .int i⟩] w = .ok (fz (.int i)) w := rfl
@[simp] theorem gList_l (ds : List D) : gList [⟨m, .lst ds⟩] w = .ok ⟨.nw, .lst ds⟩ w := rfl
theorem gEq_scrN (ns : List Int) : gEq true ⟨m, .scr ns⟩ ⟨m', .lst []⟩ w = .ok (fz (.bl (ns != []))) w := by
  cases ns <;> rfl
end
theorem atI_pos {α : Type} {xs : List α} {i : Int} (h0 : 0 ≤ i) (h1 : i < xs.length) : atI xs i = xs[i.toNat]? := by
  unfold atI ixN
  rw [if_pos h0, if_pos h1]
  rfl
theorem cdiv (i j : Int) (h : 0 < j) (h2 : j < 2 ^ 64) : CDivW i j := by
  refine ⟨h, ?_⟩
  have h3 : j.natAbs < 2 ^ 64 := by omega
  by_cases hz : j.natAbs = 0
  · rw [hz]; decide
  · have := (Nat.log2_lt hz).mpr h3
    omega
theorem cpow_10_18 : CPow 10 18 := ⟨by decide, by decide, by decide⟩
theorem cmulR (i j : Int) (h : -(2 ^ 64) < j) (h2 : j < 2 ^ 64) : CMul i j := .inr ⟨h, h2⟩
theorem cmulL (i j : Int) (h : -(2 ^ 64) < i) (h2 : i < 2 ^ 64) : CMul i j := .inl ⟨h, h2⟩
/-- a loop that leaves the world as it is -/
theorem forL_pure {t : Tg} {b : DS} (I : Nat → Env → Prop) : ∀ (ds : List D) (k : Nat) (ρ : Env), I k ρ → (∀ (i : Nat) (d : D) (ρ : Env), ds[i]? = some d → I (k + i) ρ → ∃ ρ1 ρ2, setT t d ρ = some ρ1 ∧ (∀ w, b ρ1 w = .next ρ2 w) ∧ I (k + i + 1) ρ2) →
    ∃ ρ', (∀ w, forL t b ds ρ w = .next ρ' w) ∧ I (k + ds.length) ρ'
  | [], k, ρ, h0, _ => ⟨ρ, fun _ => rfl, h0⟩
  | d :: ds, k, ρ, h0, hs => by
    obtain ⟨ρ1, ρ2, e1, e2, h1⟩ := hs 0 d ρ rfl h0
    obtain ⟨ρ', e, h⟩ := forL_pure I ds (k + 1) ρ2 h1 fun i d' ρ hd hi => by
      have := hs (i + 1) d' ρ (by simpa using hd) (by rw [show k + (i + 1) = k + 1 + i by omega]; exact hi)
      rw [show k + (i + 1) + 1 = k + 1 + i + 1 by omega] at this
      exact this
    refine ⟨ρ', fun w => ?_, by rw [show k + (d :: ds).length = k + 1 + ds.length by simp; omega]; exact h⟩
    unfold forL
    rw [e1]
    simp only [e2]
    exact e w
theorem rngD_get {lo : Int} {n i : Nat} {d : D} (h : (rngD lo n)[i]? = some d) : i < n ∧ d = .int (lo + i) := by
  have hi : i < n := by have := (List.getElem?_eq_some_iff.mp h).1; simpa [rngD] using this
  refine ⟨hi, ?_⟩
  unfold rngD at h
  rw [List.getElem?_map, List.getElem?_range hi] at h
  exact (Option.some.inj h).symm
@[simp] theorem rngD_length (lo : Int) (n : Nat) : (rngD lo n).length = n := by simp [rngD]
@[simp] theorem setT_nm (i : Nat) (d : D) (ρ : Env) : setT (.nm i) d ρ = some (ρ.set i (some (fz d))) := rfl
theorem atI_ints (vs : List Int) (p : Int) (h0 : 0 ≤ p) (h1 : p < vs.length) : ∃ v ∈ vs, atI (vs.map D.int) p = some (.int v) := by
  have hp : p.toNat < vs.length := by omega
  refine ⟨vs[p.toNat], List.getElem_mem hp, ?_⟩
  rw [atI_pos h0 (by simpa using h1), List.getElem?_map, List.getElem?_eq_getElem hp]
  rfl
/-- a text by its signs -/
def nm (cs : List Nat) : Str := ⟨cs.toArray⟩
theorem nm_app (a b : List Nat) : nm a ++ nm b = nm (a ++ b) := by
  show Str.append (nm a) (nm b) = _
  simp [Str.append, nm]
theorem nm_len (a : List Nat) : (nm a).length = a.length := by simp [nm, Str.length]
theorem nm_inj {a b : List Nat} (h : nm a = nm b) : a = b := by
  have := congrArg (fun s : Str => s.cps.toList) h
  simpa [nm] using this
/-- a small letter -/
def Lt (c : Nat) : Prop := 97 ≤ c ∧ c ≤ 122
theorem letters_ix {p : Int} (h0 : 0 ≤ p) (h1 : p < 26) (m m' : Md) (w : W) : gIx ⟨m, .str "abcdefghijklmnopqrstuvwxyz"⟩ ⟨m', .int p⟩ w = .ok (fz (.str (nm [97 + p.toNat]))) w := by
  have key : ∀ q : Fin 26, (Str.ofString "abcdefghijklmnopqrstuvwxyz").cps.toList[q.1]? = some (97 + q.1) := by decide +kernel
  have hl : (Str.ofString "abcdefghijklmnopqrstuvwxyz").cps.toList.length = 26 := by decide +kernel
  have hs : (Str.ofString "abcdefghijklmnopqrstuvwxyz").length ≤ sizeLine := by decide +kernel
  simp only [gIx, hs, if_true]
  rw [atI_pos h0 (by rw [hl]; exact h1), key ⟨p.toNat, by omega⟩]
  rfl
/-! ### comprehensions -/
theorem lcL_map {α : Type} (dd : α → D) (p : α → Bool) (g : α → D) {t : Tg} {c : DT} {f : DE} {ρ : Env} : ∀ (as : List α),
    (∀ a ∈ as, ∃ ρ', setT t (dd a) ρ = some ρ' ∧ (∀ w, c ρ' w = .ok (p a) w) ∧ (p a = true → ∃ m, keepM ⟨m, g a⟩ = true ∧ ∀ w, f ρ' w = .ok ⟨m, g a⟩ w)) → ∀ w, lcL t c f (as.map dd) ρ w = .ok ((as.filter p).map g) w
  | [], _, w => rfl
  | a :: as, h, w => by
    obtain ⟨ρ', e1, e2, e3⟩ := h a List.mem_cons_self
    have ih := lcL_map dd p g (t := t) (c := c) (f := f) (ρ := ρ) as (fun b hb => h b (List.mem_cons_of_mem _ hb)) w
    rw [List.map_cons]
    unfold lcL
    rw [e1]
    simp only [e2, if_true]
    cases hp : p a with
    | false =>
      simp only [Bool.false_eq_true, if_false]
      rw [ih, List.filter_cons, hp]
      rfl
    | true =>
      obtain ⟨m, k1, k2⟩ := e3 hp
      simp only [if_true, k2, k1]
      rw [ih, List.filter_cons, hp]
      simp
theorem lcL_all {α : Type} (dd : α → D) (g : α → D) {t : Tg} {f : DE} {ρ : Env} (as : List α) (h : ∀ a ∈ as, ∃ ρ', setT t (dd a) ρ = some ρ' ∧ ∃ m, keepM ⟨m, g a⟩ = true ∧ ∀ w, f ρ' w = .ok ⟨m, g a⟩ w) (w : W) : lcL t tYesD f (as.map dd) ρ w = .ok (as.map g) w := by
  have := lcL_map dd (fun _ => true) g (t := t) (c := tYesD) (f := f) (ρ := ρ) as (fun a ha => by
    obtain ⟨ρ', e1, m, k1, k2⟩ := h a ha
    exact ⟨ρ', e1, fun _ => rfl, fun _ => ⟨m, k1, k2⟩⟩) w
  rw [this, List.filter_eq_self.mpr (fun _ _ => rfl)]
theorem dLc_s (fi : DI) (t : Tg) (c : DT) (f : DE) (vs : List Nat) (ρ : Env) (w : W) : dLc fi t c f vs ρ w = (fi ρ w).bind fun x w1 => if x.1.length ≤ sizeLine then (match lcL t c f x.1 (wipeD ρ vs) w1 with | .ok r w2 => .ok ⟨.nw, .lst r⟩ w2 | _ => .bad) else .bad := rfl
theorem dLc_ok {fi : DI} {t : Tg} {c : DT} {f : DE} {vs : List Nat} {ρ : Env} {w : W} {ds r : List D} {b : Bool} (hi : fi ρ w = .ok (ds, b) w) (hs : ds.length ≤ sizeLine) (h : lcL t c f ds (wipeD ρ vs) w = .ok r w) : dLc fi t c f vs ρ w = .ok ⟨.nw, .lst r⟩ w := by
  rw [dLc_s, hi]
  simp [hs, h]
@[simp] theorem wipeD_nil (ρ : Env) : wipeD ρ [] = ρ := rfl
@[simp] theorem wipeD_cons (ρ : Env) (v : Nat) (vs : List Nat) : wipeD ρ (v :: vs) = (wipeD ρ vs).set v none := rfl
@[simp] theorem tYesD_s (ρ : Env) (w : W) : tYesD ρ w = .ok true w := rfl
theorem blsOf_mapF {α : Type} (f : α → Bool) : ∀ as : List α, blsOf (as.map fun a => D.bl (f a)) = some (as.map f)
  | [] => rfl
  | a :: as => by simp only [List.map_cons, blsOf, blsOf_mapF f as]; rfl
theorem gAll_map {α : Type} (f : α → Bool) (as : List α) (m : Md) (w : W) : gAll [⟨m, .lst (as.map fun a => D.bl (f a))⟩] w = .ok (fz (.bl (as.all f))) w := by
  simp [gAll, onL, blsOf_mapF]
@[simp] theorem atI3_0 {α : Type} (a b c : α) : atI [a, b, c] 0 = some a := rfl
@[simp] theorem atI3_1 {α : Type} (a b c : α) : atI [a, b, c] 1 = some b := rfl
@[simp] theorem atI3_2 {α : Type} (a b c : α) : atI [a, b, c] 2 = some c := rfl
end DL
namespace DL
open PySem L2
theorem eqDs_refl : ∀ {ds : List D}, (∀ d ∈ ds, eqD d d = true) → eqDs ds ds = true
  | [], _ => rfl
  | d :: ds, h => by
    unfold eqDs
    rw [h d List.mem_cons_self, eqDs_refl fun x hx => h x (List.mem_cons_of_mem _ hx)]
    rfl
theorem eqD_refl : ∀ (n : Nat) (d : D), plN n d = true → eqD d d = true := by
  intro n
  induction n with
  | zero =>
    intro d h
    cases d <;> first | (unfold eqD; simp; done) | (simp [plN] at h; done)
  | succ n ih =>
    intro d h
    cases d <;> try (first | (unfold eqD; simp; done) | (simp [plN] at h; done))
    · rename_i xs
      unfold eqD
      refine eqDs_refl fun d hd => ih d ?_
      simp only [plN, List.all_eq_true] at h
      exact h d hd
    · rename_i xs
      unfold eqD
      refine eqDs_refl fun d hd => ih d ?_
      simp only [plN, List.all_eq_true] at h
      exact h d hd
theorem gEq_same {d : D} (h : pl d = true) (b : Bool) (m m' : Md) (w : W) : gEq b ⟨m, d⟩ ⟨m', d⟩ w = .ok (fz (.bl (!b))) w := by
  unfold gEq
  simp only [h, Bool.and_self, if_true, eqD_refl 10 d h]
  cases b <;> rfl
/-- the signs of a text that stands for one -/
def NOk (x : List Nat) : Prop := ∀ c ∈ x, c < 0x110000
theorem strOk_nm {x : List Nat} (h : NOk x) : PyData.strOk (nm x) = true := by
  unfold PyData.strOk nm
  rw [Array.all_eq_true_iff_forall_mem]
  intro c hc
  have := h c (by simpa using hc)
  simpa using this
theorem cutL_to {α : Type} (xs : List α) (k : Nat) : cutL xs none (some (k : Int)) = xs.take k := by
  unfold cutL
  rw [HT.sIx_none, HT.sIx_nat]
  simp
theorem cutL_from {α : Type} (xs : List α) (k : Nat) : cutL xs (some (k : Int)) none = xs.drop k := by
  unfold cutL
  rw [HT.sIx_none, HT.sIx_nat]
  by_cases h : k ≤ xs.length
  · rw [Nat.min_eq_left h, List.take_of_length_le (by simp)]
  · rw [Nat.min_eq_right (by omega)]
    rw [List.drop_eq_nil_of_le (by omega : xs.length ≤ k), List.drop_eq_nil_of_le (Nat.le_refl _)]
    simp
theorem cutL_m1 {α : Type} (xs : List α) (x : α) : cutL (xs ++ [x]) none (some (-1)) = xs := by
  unfold cutL
  rw [HT.sIx_none]
  have : HT.sIx (xs ++ [x]).length (xs ++ [x]).length (some (-1)) = xs.length := by
    show (if (-1 : Int) < 0 then ((-1 : Int) + ((xs ++ [x]).length : Int)).toNat else min (-1 : Int).toNat (xs ++ [x]).length) = xs.length
    rw [if_pos (by decide)]
    simp
    omega
  rw [this]
  simp
@[simp] theorem bind_ex {α β : Type} (x : Xc) (w : W) (f : α → W → R β) : (R.ex x w : R α).bind f = .ex x w := rfl
@[simp] theorem rthn_ex {α : Type} (x : Xc) (w : W) (ρ : Env) (f : α → W → Out) : (R.ex x w : R α).thn ρ f = .ex x ρ w := rfl
@[simp] theorem othn_ex (x : Xc) (ρ : Env) (w : W) (f : DS) : (Out.ex x ρ w).thn f = .ex x ρ w := rfl
@[simp] theorem dTold_s (f : DE) (ρ : Env) (w : W) : dTold f ρ w = match f ρ w with | .ok x w => .ok x w | .ex x w => toldX x w | .bad => .bad := rfl
@[simp] theorem toldX_s (c : String) (fs : List (Str × D)) (w : W) : toldX ⟨c, fs⟩ w = .ok (fz (.tup [.str "refused", .str c])) w := rfl
@[simp] theorem sRaise_s (c : String) (ρ : Env) (w : W) : sRaise c ρ w = .ex ⟨c, []⟩ ρ w := rfl
@[simp] theorem sExpr_s (f : DE) (ρ : Env) (w : W) : sExpr f ρ w = (f ρ w).thn ρ fun _ w => .next ρ w := rfl
@[simp] theorem strOk_of (x : String) : PyData.strOk (Str.ofString x) = true := by
  rw [Str.ofString_eq_toList]
  unfold PyData.strOk
  rw [Array.all_eq_true_iff_forall_mem]
  intro c hc
  simp only [List.mem_toArray, List.mem_map] at hc
  obtain ⟨z, _, rfl⟩ := hc
  have : z.toNat < 0x110000 := by
    rcases z.valid with h | h
    · have : z.toNat < 0xd800 := h
      omega
    · exact h.2
  simpa using this
theorem toNats_inj : ∀ {a b : List Char}, a.map Char.toNat = b.map Char.toNat → a = b
  | [], [], _ => rfl
  | [], _ :: _, h => by simp at h
  | _ :: _, [], h => by simp at h
  | x :: a, y :: b, h => by
    simp only [List.map_cons, List.cons.injEq] at h
    have e : x = y := Char.ext (UInt32.toNat_inj.mp h.1)
    rw [e, toNats_inj h.2]
theorem ofString_inj {x y : String} (h : Str.ofString x = Str.ofString y) : x = y := by
  rw [Str.ofString_eq_toList, Str.ofString_eq_toList] at h
  have h1 := congrArg (fun s : Str => s.cps.toList) h
  exact String.toList_inj.mp (toNats_inj h1)
theorem ofString_beq (x y : String) : (Str.ofString x == Str.ofString y) = (x == y) := by
  by_cases h : x = y
  · subst h; simp
  · have h1 : ¬ Str.ofString x = Str.ofString y := fun z => h (ofString_inj z)
    rw [Bool.eq_iff_iff]
    constructor
    · intro q; exact absurd (beq_iff_eq.mp q) h1
    · intro q; exact absurd (beq_iff_eq.mp q) h
@[simp] theorem pl_ref (x : String) : pl (.tup [.str "refused", .str x]) = true := by simp [pl, plN]
@[simp] theorem gEq_ref (x y : String) (b : Bool) (m m' : Md) (w : W) : gEq b ⟨m, .tup [.str "refused", .str x]⟩ ⟨m', .tup [.str "refused", .str y]⟩ w = .ok (fz (.bl (b != (x == y)))) w := by
  unfold gEq
  simp only [pl_ref, Bool.and_self, if_true]
  simp [eqD, eqDs, ofString_beq]
theorem fnD_ret {n N : Nat} {g : DS} {ds : List D} {w w' : W} {x : Val} (hl : ds.length = n) (h : g (ds.map (fun d => some (fz d)) ++ List.replicate (N - n) none) w = .ret x w') : fnD n N g ds w = .ok x w' := by
  unfold fnD
  rw [if_pos hl, h]
@[simp] theorem kb_NoneType_str : kitB "NoneType" "str" = some false := by decide +kernel
@[simp] theorem kb_bool_str : kitB "bool" "str" = some false := by decide +kernel
@[simp] theorem kb_int_str : kitB "int" "str" = some false := by decide +kernel
@[simp] theorem kb_str_str : kitB "str" "str" = some true := by decide +kernel
@[simp] theorem kb_tuple_str : kitB "tuple" "str" = some false := by decide +kernel
@[simp] theorem kb_list_str : kitB "list" "str" = some false := by decide +kernel
@[simp] theorem kb_dict_str : kitB "dict" "str" = some false := by decide +kernel
@[simp] theorem kb_NoneType_tuple : kitB "NoneType" "tuple" = some false := by decide +kernel
@[simp] theorem kb_bool_tuple : kitB "bool" "tuple" = some false := by decide +kernel
@[simp] theorem kb_int_tuple : kitB "int" "tuple" = some false := by decide +kernel
@[simp] theorem kb_str_tuple : kitB "str" "tuple" = some false := by decide +kernel
@[simp] theorem kb_tuple_tuple : kitB "tuple" "tuple" = some true := by decide +kernel
@[simp] theorem kb_list_tuple : kitB "list" "tuple" = some false := by decide +kernel
@[simp] theorem kb_dict_tuple : kitB "dict" "tuple" = some false := by decide +kernel
@[simp] theorem kb_NoneType_bool : kitB "NoneType" "bool" = some false := by decide +kernel
@[simp] theorem kb_bool_bool : kitB "bool" "bool" = some true := by decide +kernel
@[simp] theorem kb_int_bool : kitB "int" "bool" = some false := by decide +kernel
@[simp] theorem kb_str_bool : kitB "str" "bool" = some false := by decide +kernel
@[simp] theorem kb_tuple_bool : kitB "tuple" "bool" = some false := by decide +kernel
@[simp] theorem kb_list_bool : kitB "list" "bool" = some false := by decide +kernel
@[simp] theorem kb_dict_bool : kitB "dict" "bool" = some false := by decide +kernel
@[simp] theorem kb_NoneType_int : kitB "NoneType" "int" = some false := by decide +kernel
@[simp] theorem kb_bool_int : kitB "bool" "int" = some true := by decide +kernel
@[simp] theorem kb_int_int : kitB "int" "int" = some true := by decide +kernel
@[simp] theorem kb_str_int : kitB "str" "int" = some false := by decide +kernel
@[simp] theorem kb_tuple_int : kitB "tuple" "int" = some false := by decide +kernel
@[simp] theorem kb_list_int : kitB "list" "int" = some false := by decide +kernel
@[simp] theorem kb_dict_int : kitB "dict" "int" = some false := by decide +kernel
@[simp] theorem kb_NoneType_list : kitB "NoneType" "list" = some false := by decide +kernel
@[simp] theorem kb_bool_list : kitB "bool" "list" = some false := by decide +kernel
@[simp] theorem kb_int_list : kitB "int" "list" = some false := by decide +kernel
@[simp] theorem kb_str_list : kitB "str" "list" = some false := by decide +kernel
@[simp] theorem kb_tuple_list : kitB "tuple" "list" = some false := by decide +kernel
@[simp] theorem kb_list_list : kitB "list" "list" = some true := by decide +kernel
@[simp] theorem kb_dict_list : kitB "dict" "list" = some false := by decide +kernel
/-- a loop that only looks -/
theorem forL_test {i : Nat} {b : DS} {ρ : Env} : ∀ {ds : List D} (z0 : Option Val), (∀ d ∈ ds, ∀ w, b (ρ.set i (some (fz d))) w = .next (ρ.set i (some (fz d))) w) → ∃ z, ∀ w, forL (.nm i) b ds (ρ.set i z0) w = .next (ρ.set i z) w
  | [], z0, _ => ⟨z0, fun _ => rfl⟩
  | d :: ds, z0, h => by
    obtain ⟨z, hz⟩ := forL_test (ds := ds) (some (fz d)) fun x hx => h x (List.mem_cons_of_mem _ hx)
    refine ⟨z, fun w => ?_⟩
    unfold forL
    simp only [setT_nm, List.set_set, h d List.mem_cons_self]
    exact hz w
end DL
namespace DL
open PySem L2
/-! ### one house alone -/
structure Hs where
  ranks : List D
  seats : List (Key × D)
  known : List (Key × D)
  weeks : List D
  plans : List (List Key × D)
  cuts : List (List Key × D)
  many : Int
  done : List D
def hsD (h : Hs) : List (Str × D) := [("ranks", .lst h.ranks), ("seats", .dK h.seats), ("known", .dK h.known), ("weeks", .lst h.weeks), ("plans", .dT h.plans), ("cuts", .dT h.cuts), ("many", .int h.many), ("done", .lst h.done)]
/-- k houses that came before -/
structure Pre (k : Nat) where
  l : List (List (Str × D))
  len : l.length = k
  r : List (List (Str × D))
def p0 : Pre 0 := ⟨[], rfl, []⟩
def Pre.push {k : Nat} (p : Pre k) (h : Hs) : Pre (k + 1) := ⟨p.l ++ [hsD h], by simp [p.len], []⟩
@[simp] theorem p0_r : p0.r = [] := rfl
@[simp] theorem push_r {k : Nat} (p : Pre k) (h : Hs) : (p.push h).r = [] := rfl
/-- a house, behind others and ahead of others -/
def wP {k : Nat} (p : Pre k) (n : Nat) (h : Hs) : W := ⟨n, p.l ++ hsD h :: p.r, false⟩
theorem wP_at {k : Nat} (p : Pre k) (n : Nat) (h : Hs) : (wP p n h).o[k]? = some (hsD h) := by
  unfold wP
  simp [← p.len]
theorem wP_set {k : Nat} (p : Pre k) (n : Nat) (h : Hs) (x : List (Str × D)) : (wP p n h).o.set k x = p.l ++ x :: p.r := by
  unfold wP
  dsimp only
  rw [List.set_append_right _ _ (by rw [p.len]; exact Nat.le_refl _)]
  simp [p.len]
def hs0 : Hs := ⟨[], [], [], [], [], [], 0, []⟩
section
variable {k : Nat} (p : Pre k) (n : Nat) (h : Hs) (ρ : Env) (w : W)
@[simp] theorem wP_n : (wP p n h).n = n := rfl
@[simp] theorem wP_lk : (wP p n h).lk = false := rfl
@[simp] theorem wP_len : (((wP p n h).o)[k]?.getD []).length = 8 := by rw [wP_at]; rfl
@[simp] theorem gF_ranks : getF (wP p n h) k "ranks" = some (.lst h.ranks) := by simp [getF, wP_at, hsD, List.lookup, ofString_beq]
@[simp] theorem gF_seats : getF (wP p n h) k "seats" = some (.dK h.seats) := by simp [getF, wP_at, hsD, List.lookup, ofString_beq]
@[simp] theorem gF_known : getF (wP p n h) k "known" = some (.dK h.known) := by simp [getF, wP_at, hsD, List.lookup, ofString_beq]
@[simp] theorem gF_weeks : getF (wP p n h) k "weeks" = some (.lst h.weeks) := by simp [getF, wP_at, hsD, List.lookup, ofString_beq]
@[simp] theorem gF_plans : getF (wP p n h) k "plans" = some (.dT h.plans) := by simp [getF, wP_at, hsD, List.lookup, ofString_beq]
@[simp] theorem gF_cuts : getF (wP p n h) k "cuts" = some (.dT h.cuts) := by simp [getF, wP_at, hsD, List.lookup, ofString_beq]
@[simp] theorem gF_many : getF (wP p n h) k "many" = some (.int h.many) := by simp [getF, wP_at, hsD, List.lookup, ofString_beq]
@[simp] theorem gF_done : getF (wP p n h) k "done" = some (.lst h.done) := by simp [getF, wP_at, hsD, List.lookup, ofString_beq]
theorem ofs_eq (x y : String) : (Str.ofString x = Str.ofString y) = (x = y) := propext ⟨ofString_inj, fun e => by rw [e]⟩
@[simp] theorem sF_ranks (x : List D) : setF (wP p n h) k "ranks" (.lst x) = wP p (n + 1) { h with ranks := x } := by rw [setF, wP_set, List.getD_eq_getElem?_getD, wP_at]; simp [wP, hsD, putD, ofs_eq]
@[simp] theorem sF_seats (x : List (Key × D)) : setF (wP p n h) k "seats" (.dK x) = wP p (n + 1) { h with seats := x } := by rw [setF, wP_set, List.getD_eq_getElem?_getD, wP_at]; simp [wP, hsD, putD, ofs_eq]
@[simp] theorem sF_known (x : List (Key × D)) : setF (wP p n h) k "known" (.dK x) = wP p (n + 1) { h with known := x } := by rw [setF, wP_set, List.getD_eq_getElem?_getD, wP_at]; simp [wP, hsD, putD, ofs_eq]
@[simp] theorem sF_weeks (x : List D) : setF (wP p n h) k "weeks" (.lst x) = wP p (n + 1) { h with weeks := x } := by rw [setF, wP_set, List.getD_eq_getElem?_getD, wP_at]; simp [wP, hsD, putD, ofs_eq]
@[simp] theorem sF_plans (x : List (List Key × D)) : setF (wP p n h) k "plans" (.dT x) = wP p (n + 1) { h with plans := x } := by rw [setF, wP_set, List.getD_eq_getElem?_getD, wP_at]; simp [wP, hsD, putD, ofs_eq]
@[simp] theorem sF_cuts (x : List (List Key × D)) : setF (wP p n h) k "cuts" (.dT x) = wP p (n + 1) { h with cuts := x } := by rw [setF, wP_set, List.getD_eq_getElem?_getD, wP_at]; simp [wP, hsD, putD, ofs_eq]
@[simp] theorem sF_many (x : Int) : setF (wP p n h) k "many" (.int x) = wP p (n + 1) { h with many := x } := by rw [setF, wP_set, List.getD_eq_getElem?_getD, wP_at]; simp [wP, hsD, putD, ofs_eq]
@[simp] theorem sF_done (x : List D) : setF (wP p n h) k "done" (.lst x) = wP p (n + 1) { h with done := x } := by rw [setF, wP_set, List.getD_eq_getElem?_getD, wP_at]; simp [wP, hsD, putD, ofs_eq]
/-- no field's name -/
def noF (m : String) : Bool := !(["ranks", "seats", "known", "weeks", "plans", "cuts", "many", "done"].contains m)
@[simp] theorem noF_s (m : String) : noF m = !(["ranks", "seats", "known", "weeks", "plans", "cuts", "many", "done"].contains m) := rfl
@[simp] theorem selD_s (ix : List Nat) (l : List D) : selD ix l = ix.map fun i => l.getD i .non := rfl
theorem noF_of {m : String} (q : noF m = true) : (((wP p n h).o.getD k []).lookup (Str.ofString m)).isNone = true := by
  rw [List.getD_eq_getElem?_getD, wP_at]
  simp [noF] at q
  obtain ⟨q1, q2, q3, q4, q5, q6, q7, q8⟩ := q
  simp [hsD, List.lookup, ofString_beq, beq_false_of_ne q1, beq_false_of_ne q2, beq_false_of_ne q3, beq_false_of_ne q4, beq_false_of_ne q5, beq_false_of_ne q6, beq_false_of_ne q7, beq_false_of_ne q8]
@[simp] theorem dNew_0 (k : Nat) : dNew ρ ⟨k, [], false⟩ = .ok (fz (.obj 0)) (wP p0 (k + 1) hs0) := rfl
@[simp] theorem dNew_k (hr : p.r = []) : dNew ρ (wP p n h) = .ok (fz (.obj (k + 1))) (wP (p.push h) (n + 1) hs0) := by
  obtain ⟨l, len, r⟩ := p
  dsimp only at hr
  subst hr
  show R.ok (fz (.obj (l ++ [hsD h]).length)) _ = _
  rw [show (l ++ [hsD h]).length = k + 1 by simp [len]]
  rfl
@[simp] theorem dFld_s (f : Str) (fo : DE) : dFld f fo ρ w = (fo ρ w).bind fun x w => match x.d with
  | .obj k => (match getF w k f with | some d => .ok (fval d) w | none => .bad)
  | _ => .bad := rfl
@[simp] theorem fval_int (i : Int) : fval (.int i) = fz (.int i) := rfl
@[simp] theorem fval_lst (x : List D) : fval (.lst x) = ⟨.wd, .lst x⟩ := rfl
@[simp] theorem fval_dK (x : List (Key × D)) : fval (.dK x) = ⟨.wd, .dK x⟩ := rfl
@[simp] theorem fval_dT (x : List (List Key × D)) : fval (.dT x) = ⟨.wd, .dT x⟩ := rfl
theorem dMt_s {fo : DE} {m : String} {F : DF} {q j : Nat} {ix : List Nat} {dds : List D} {fr fk : DA} {md : Md} (e : fo ρ w = .ok ⟨md, .obj k⟩ (wP p n h)) (hm : noF m = true) : dMt F m q j ix dds fo fr fk ρ w = ((fr ρ (wP p n h)).bind fun xs w2 => match frzD xs with
    | some ds => ((fk ρ w2).bind fun zs w3 => match frzD zs with
      | some es => if ds.length = q ∧ es.length = j then F (selD ix (.obj k :: ds ++ es ++ dds)) w3 else .bad
      | none => .bad)
    | none => .bad) := by
  unfold dMt
  rw [e]
  show (if _ then _ else _) = _
  exact (if_pos (noF_of p n h hm)).trans rfl
/-- a slot holds the house -/
def isH (k : Nat) : Option (Option Val) → Bool
  | some (some ⟨_, .obj j⟩) => j == k
  | _ => false
@[simp] theorem isH_s (m : Md) (k : Nat) : isH k (some (some ⟨m, .obj k⟩)) = true := by simp [isH]
@[simp] theorem dMt_v {i : Nat} {m : String} {F : DF} {q j : Nat} {ix : List Nat} {dds : List D} {fr fk : DA} (e : isH k ρ[i]? = true) (hm : noF m = true) : dMt F m q j ix dds (dVar i) fr fk ρ (wP p n h) = ((fr ρ (wP p n h)).bind fun xs w2 => match frzD xs with
    | some ds => ((fk ρ w2).bind fun zs w3 => match frzD zs with
      | some es => if ds.length = q ∧ es.length = j then F (selD ix (.obj k :: ds ++ es ++ dds)) w3 else .bad
      | none => .bad)
    | none => .bad) := by
  unfold isH at e
  split at e
  · rename_i md z c
    have : z = k := by simpa using e
    subst this
    exact dMt_s p n h ρ _ (by rw [dVar_s, c]) hm
  · cases e
@[simp] theorem sFst_s (f : Str) (fo fv : DE) : sFst f fo fv ρ w = (fv ρ w).thn ρ fun y w => (fo ρ w).thn ρ fun x w => match x.d with
  | .obj k => (match getF w k f with | some (.int _) => (match y.d with | .int j => if (w.o.getD k []).length < 1000 then .next ρ (setF w k f (.int j)) else .bad | _ => .bad) | _ => .bad)
  | _ => .bad := rfl
@[simp] theorem sFapp_s (f : Str) (fo fe : DE) : sFapp f fo fe ρ w = (fo ρ w).thn ρ fun x w1 => match x.d with
  | .obj k => (match getF w1 k f with
    | some (.lst _) => (fe ρ w1).thn ρ fun y w2 => (match getF w2 k f with
      | some (.lst ds) => if keepM y ∧ w2.n = w1.n ∧ ds.length < sizeLine then .next ρ (setF w2 k f (.lst (ds ++ [y.d]))) else .bad
      | _ => .bad)
    | _ => .bad)
  | _ => .bad := rfl
@[simp] theorem sFputK_s (f : Str) (fo fk fv : DE) : sFputK f fo fk fv ρ w = (fv ρ w).thn ρ fun y w1 => if keepM y then ((fo ρ w1).thn ρ fun x w2 => match x.d with
  | .obj k => (match getF w2 k f with
    | some (.dK _) => (fk ρ w2).thn ρ fun key w3 => (match kD key.d, getF w3 k f with
      | some kk, some (.dK kvs) => if w3.n = w2.n ∧ w3.lk = false ∧ kvs.length < sizeLine then .next ρ (setF w3 k f (.dK (putKD kvs kk y.d))) else .bad
      | _, _ => .bad)
    | _ => .bad)
  | _ => .bad) else .bad := rfl
@[simp] theorem sFputT_s (f : Str) (fo : DE) (fk : Env → W → R (List Key)) (fv : DE) : sFputT f fo fk fv ρ w = (fv ρ w).thn ρ fun y w1 => if keepM y then ((fo ρ w1).thn ρ fun x w2 => match x.d with
  | .obj k => (match getF w2 k f with
    | some (.dT _) => (fk ρ w2).thn ρ fun key w3 => (match (some key : Option (List Key)), getF w3 k f with
      | some kk, some (.dT kvs) => if w3.n = w2.n ∧ w3.lk = false ∧ kvs.length < sizeLine then .next ρ (setF w3 k f (.dT (putKD kvs kk y.d))) else .bad
      | _, _ => .bad)
    | _ => .bad)
  | _ => .bad) else .bad := rfl
@[simp] theorem kD_int (i : Int) : kD (.int i) = some (.inl i) := rfl
@[simp] theorem kD_str (x : Str) : kD (.str x) = some (.inr x) := rfl
@[simp] theorem kDs_nil : kDs [] = some [] := rfl
@[simp] theorem kDs_cons (d : D) (ds : List D) : kDs (d :: ds) = match kD d, kDs ds with
    | some k, some ks => some (k :: ks)
    | _, _ => none := rfl
@[simp] theorem keyT_s (f : DA) : keyT f ρ w = (f ρ w).bind fun xs w => match frzD xs with
  | some ds => (match kDs ds with | some ks => if ds.length ≤ sizeLine then .ok ks w else .bad | none => .bad)
  | none => .bad := rfl
@[simp] theorem gIxD_s (m m' : Md) (kvs : List (Key × D)) (d : D) : gIxD ⟨m, .dK kvs⟩ ⟨m', d⟩ w = match kD d with | some k => (match valD kvs k with | some d => .ok (fz d) w | none => .bad) | none => .bad := by
  unfold gIxD
  cases kD d <;> rfl
@[simp] theorem gInD_s (b : Bool) (m m' : Md) (kvs : List (Key × D)) (d : D) : gInD b ⟨m', d⟩ ⟨m, .dK kvs⟩ w = match kD d with | some k => .ok (fz (.bl (b != (valD kvs k).isSome))) w | none => .bad := by
  unfold gInD
  cases kD d <;> rfl
@[simp] theorem dIxT_s (fa : DE) (fk : Env → W → R (List Key)) : dIxT fa fk ρ w = (fa ρ w).bind fun x w1 => (fk ρ w1).bind fun ks w2 => chk x w1 w2 (match x.d with
  | .dT kvs => (match valD kvs ks with | some d => .ok (fz d) w2 | none => .bad)
  | _ => .bad) := rfl
@[simp] theorem dInT_s (b : Bool) (fk : Env → W → R (List Key)) (fa : DE) : dInT b fk fa ρ w = (fk ρ w).bind fun ks w1 => (fa ρ w1).bind fun x w2 => match x.d with
  | .dT kvs => .ok (fz (.bl (b != (valD kvs ks).isSome))) w2
  | _ => .bad := rfl
@[simp] theorem dGetT_s (fa : DE) (fk : Env → W → R (List Key)) (fx : DE) : dGetT fa fk fx ρ w = (fa ρ w).bind fun x w1 => match x.d with
  | .dT _ => (fk ρ w1).bind fun ks w2 => (fx ρ w2).bind fun z w3 => chk x w1 w3 (match x.d with
    | .dT kvs => .ok (match valD kvs ks with | some d => fz d | none => z) w3
    | _ => .bad)
  | _ => .bad := rfl
@[simp] theorem sForF_s (f : Str) (fo : DE) (t : Tg) (b : DS) : sForF f fo t b ρ w = (fo ρ w).thn ρ fun x w1 => match x.d with
  | .obj k => (match getF w1 k f with | some (.lst ds) => forLq t b w1 ds ρ w1 | _ => .bad)
  | _ => .bad := rfl
@[simp] theorem sPut_s (i : Nat) (fk fv : DE) : sPut i fk fv ρ w = (fv ρ w).thn ρ fun x w => match ownL ρ i with
  | some ds => if keepM x then (fk ρ w).thn ρ fun k w => match k.d with
    | .int j => match ixN ds.length j with
      | some n => .next (ρ.set i (some ⟨.nw, .lst (ds.set n x.d)⟩)) w
      | none => .bad
    | _ => .bad
    else .bad
  | none => .bad := rfl
@[simp] theorem dDk_s : dDk ρ w = .ok ⟨.nw, .dK []⟩ w := rfl
@[simp] theorem dDt_s : dDt ρ w = .ok ⟨.nw, .dT []⟩ w := rfl
end
end DL
/-! Denotations evaluated: walks over dicts, errors with fields. -/
namespace DL
open PySem L2
section
variable {k : Nat} {p : Pre k} {n : Nat} {h : Hs} {ρ : Env} {w : W}
/-- the world while a dict is walked -/
def wL (p : Pre k) (n : Nat) (h : Hs) : W := ⟨n + 1, p.l ++ hsD h :: p.r, true⟩
@[simp] theorem wL_n : (wL p n h).n = n + 1 := rfl
@[simp] theorem wL_lk : (wL p n h).lk = true := rfl
@[simp] theorem gL_f (f : Str) : getF (wL p n h) k f = getF (wP p n h) k f := rfl
@[simp] theorem sRaiseF_s (c : String) (fs : List Str) (a b : Nat) (fr fk : DA) : sRaiseF c fs a b fr fk ρ w = (fr ρ w).thn ρ fun xs w1 => match frzD xs with
  | some ds => (fk ρ w1).thn ρ fun zs w2 => (match frzD zs with
    | some es => if ds.length = a ∧ es.length = b then .ex ⟨c, (fs.zip (ds ++ es)).reverse⟩ ρ w2 else .bad
    | none => .bad)
  | none => .bad := rfl
end
end DL
namespace LK
open PySem L2 DL
/-! ### the text by places -/
/-! ### what each def computes -/
abbrev law_class_N : List Str := ["e", "kinds", "some"]
noncomputable def law_class_s1 (a : Addr) (c : String) : DS := (sSet 1 (dLst (dCons (dUn (gIsX a (decide (c = "NoName"))) (dVar 0)) (dCons (dUn (gIsX a (decide (c = "NoDay"))) (dVar 0)) (dCons (dUn (gIsX a (decide (c = "NoHour"))) (dVar 0)) (dOne (dUn (gIsX a (decide (c = "NoMore"))) (dVar 0))))))))
noncomputable def law_class_s2 (a : Addr) (c : String) : DS := (sExt 1 (dLst (dCons (dUn (gIsX a (decide (c = "NoShow"))) (dVar 0)) (dCons (dUn (gIsX a (decide (c = "NoSort"))) (dVar 0)) (dCons (dUn (gIsX a (decide (c = "NoStation"))) (dVar 0)) (dOne (dUn (gIsX a (decide (c = "NoRule"))) (dVar 0))))))))
noncomputable def law_class_s3 (a : Addr) (c : String) : DS := (sExt 1 (dLst (dCons (dUn (gIsX a (decide (c = "Full"))) (dVar 0)) (dCons (dUn (gIsX a (decide (c = "Taken"))) (dVar 0)) (dCons (dUn (gIsX a (decide (c = "NoRights"))) (dVar 0)) (dOne (dUn (gIsX a (decide (c = "Settled"))) (dVar 0))))))))
noncomputable def law_class_s4 (a : Addr) (c : String) : DS := (sExt 1 (dLst (dCons (dUn (gIsX a (decide (c = "TooLate"))) (dVar 0)) (dCons (dUn (gIsX a (decide (c = "NoRow"))) (dVar 0)) (dCons (dUn (gIsX a (decide (c = "NotLive"))) (dVar 0)) (dOne (dUn (gIsX a (decide (c = "TooLong"))) (dVar 0))))))))
noncomputable def law_class_s5 (a : Addr) (c : String) : DS := (sExt 1 (dLst (dCons (dUn (gIsX a (decide (c = "NewsAhead"))) (dVar 0)) (dCons (dUn (gIsX a (decide (c = "Clash"))) (dVar 0)) (dCons (dUn (gIsX a (decide (c = "NoWish"))) (dVar 0)) (dOne (dUn (gIsX a (decide (c = "NoDeeds"))) (dVar 0))))))))
noncomputable def law_class_s6 (a : Addr) (c : String) : DS := (sApp 1 (dUn (gIsX a (decide (c = "NoText"))) (dVar 0)))
noncomputable def law_class_s7 (a : Addr) (c : String) : DS := (sIf (dOr (tst (dOp (gEq true) (dBm "list" gCnt (dVar 1) (dC (.bl true))) (dC (.int 1)))) (dNot (tst (dUn (gIsX a true) (dVar 0))))) (sRet (dC (.str "wrong"))) sNext)
noncomputable def law_class_s8 (a : Addr) (c : String) : DS := (sSet 2 (dLst (dCons (dC (.str "NoName")) (dCons (dC (.str "NoDay")) (dCons (dC (.str "NoHour")) (dCons (dC (.str "NoMore")) (dCons (dC (.str "NoShow")) (dCons (dC (.str "NoSort")) (dCons (dC (.str "NoStation")) (dCons (dC (.str "NoRule")) (dCons (dC (.str "Full")) (dOne (dC (.str "Taken"))))))))))))))
noncomputable def law_class_s9 (a : Addr) (c : String) : DS := (sExt 2 (dLst (dCons (dC (.str "NoRights")) (dCons (dC (.str "Settled")) (dCons (dC (.str "TooLate")) (dCons (dC (.str "NoRow")) (dCons (dC (.str "NotLive")) (dCons (dC (.str "TooLong")) (dCons (dC (.str "NewsAhead")) (dCons (dC (.str "Clash")) (dOne (dC (.str "NoWish")))))))))))))
noncomputable def law_class_s10 (a : Addr) (c : String) : DS := (sExt 2 (dLst (dCons (dC (.str "NoDeeds")) (dOne (dC (.str "NoText"))))))
noncomputable def law_class_s11 (a : Addr) (c : String) : DS := (sRet (dOp gIx (dVar 2) (dBm "list" gIdx (dVar 1) (dC (.bl true)))))
noncomputable def law_class_b (a : Addr) (c : String) : DS := (sSeq (law_class_s1 a c)
    (sSeq (law_class_s2 a c)
    (sSeq (law_class_s3 a c)
    (sSeq (law_class_s4 a c)
    (sSeq (law_class_s5 a c)
    (sSeq (law_class_s6 a c)
    (sSeq (law_class_s7 a c)
    (sSeq (law_class_s8 a c)
    (sSeq (law_class_s9 a c)
    (sSeq (law_class_s10 a c)
    (law_class_s11 a c)))))))))))
noncomputable def law_class (a : Addr) (c : String) : DF := fnD 1 3 (law_class_b a c)
abbrev law_pick_N : List Str := ["script", "k", "many", "cell", "drawn", "rest", "turn"]
noncomputable def law_pick_l1 : DS := (sParF [5, 6] [false, false] (dCons (dOp gDiv (dVar 5) (dC (.int 840))) (dOne (dOp gSub (dVar 6) (dC (.int 1))))))
noncomputable def law_pick_l2 : DT := (dAnd (tst (dOp gGt (dVar 5) (dC (.int 0)))) (tst (dOp gGt (dVar 6) (dC (.int 0)))))
noncomputable def law_pick_b : DS := (sSeq (sSetF 3 (dIf (tst (dOp (gEq true) (dVar 0) (dLst dNil))) (dOp gIx (dVar 0) (dOp gMod (dVar 1) (dCB gLen (dOne (dVar 0))))) (dC (.int 0))))
    (sSeq (sParF [5, 6] [false, false] (dCons (dOp gDiv (dVar 3) (dOp gPow (dC (.int 10)) (dC (.int 18)))) (dOne (dOp gDiv (dVar 1) (dCB gMax2 (dCons (dCB gLen (dOne (dVar 0))) (dOne (dC (.int 1)))))))))
    (sSeq (whileL law_pick_l2 law_pick_l1 100000)
    (sSeq (sIf (tst (dOp gGt (dVar 5) (dC (.int 0)))) (sRet (dOp gMod (dOp gMod (dVar 5) (dC (.int 840))) (dVar 2))) sNext)
    (sSeq (sSetF 4 (dOp gMod (dOp gMul (dOp gAdd (dOp gMul (dVar 3) (dC (.int 31))) (dOp gMul (dC (.int 6151)) (dOp gAdd (dVar 1) (dC (.int 1))))) (dC (.int 40692))) (dC (.int 2147483399))))
    (sRet (dOp gMod (dOp gMod (dOp gAdd (dOp gMul (dVar 4) (dVar 4)) (dOp gDiv (dVar 4) (dC (.int 31)))) (dC (.int 2147483629))) (dVar 2))))))))
noncomputable def law_pick : DF := fnD 3 7 (law_pick_b)
abbrev law_names_N : List Str := ["script", "at", "many", "k", "letters", "made", "rest", "j", "mark"]
noncomputable def law_names_l1 : DS := (sSetF 6 (dOp gAdd (dVar 6) (dOp gIx (dVar 4) (dCall law_pick [] (dCons (dVar 0) (dCons (dOp gAdd (dOp gAdd (dOp gAdd (dVar 1) (dOp gMul (dC (.int 7)) (dVar 3))) (dVar 7)) (dC (.int 1))) (dOne (dC (.int 26)))))))))
noncomputable def law_names_l2 : DS := (sSeq (sSetF 6 (dC (.str "")))
    (sSeq (sFor (iR1 (dOne (dOp gIx (dLst (dCons (dC (.int 0)) (dCons (dC (.int 0)) (dCons (dC (.int 1)) (dCons (dC (.int 2)) (dOne (dC (.int 5)))))))) (dCall law_pick [] (dCons (dVar 0) (dCons (dOp gAdd (dVar 1) (dOp gMul (dC (.int 7)) (dVar 3))) (dOne (dC (.int 5))))))))) (.nm 7) law_names_l1)
    (sSeq (sSetF 8 (dOp gIx (dVar 4) (dOp gMod (dOp gAdd (dCall law_pick [] (dCons (dVar 0) (dCons (dOp gAdd (dVar 1) (dC (.int 60))) (dOne (dC (.int 26)))))) (dVar 3)) (dC (.int 26)))))
    (sApp 5 (dIf (tst (dOp (gEq false) (dCall law_pick [] (dCons (dVar 0) (dCons (dOp gAdd (dVar 1) (dC (.int 61))) (dOne (dC (.int 2)))))) (dC (.int 0)))) (dOp gAdd (dVar 6) (dVar 8)) (dOp gAdd (dVar 8) (dVar 6)))))))
noncomputable def law_names_b : DS := (sSeq (sParF [4, 5] [false, true] (dCons (dC (.str "abcdefghijklmnopqrstuvwxyz")) (dOne (dLst dNil))))
    (sSeq (sFor (iR1 (dOne (dVar 2))) (.nm 3) law_names_l2)
    (sRetV 5)))
noncomputable def law_names : DF := fnD 3 9 (law_names_b)
abbrev law_drawn_rows_N : List Str := ["script", "at", "k", "names", "made", "hour", "begin", "end"]
noncomputable def law_drawn_rows_l1 : DS := (sSeq (sSetF 6 (dOp gAdd (dVar 5) (dOp gIx (dLst (dCons (dC (.int 0)) (dCons (dC (.int 0)) (dCons (dC (.int 0)) (dCons (dC (.int 1)) (dOne (dC (.int 2)))))))) (dCall law_pick [] (dCons (dVar 0) (dCons (dOp gAdd (dOp gAdd (dVar 1) (dC (.int 71))) (dVar 2)) (dOne (dC (.int 5)))))))))
    (sSeq (sSetF 7 (dOp gAdd (dVar 6) (dOp gIx (dLst (dCons (dC (.int 1)) (dCons (dC (.int 2)) (dCons (dC (.int 3)) (dCons (dC (.int 4)) (dOne (dC (.int 6)))))))) (dCall law_pick [] (dCons (dVar 0) (dCons (dOp gAdd (dOp gAdd (dVar 1) (dC (.int 78))) (dVar 2)) (dOne (dC (.int 5)))))))))
    (sIf (tst (dOp gLe (dVar 7) (dC (.int 24)))) (sSeq (sApp 4 (dTup (dCons (dVar 6) (dCons (dVar 7) (dOne (dOp gIx (dVar 3) (dCall law_pick [] (dCons (dVar 0) (dCons (dOp gAdd (dOp gAdd (dVar 1) (dC (.int 85))) (dVar 2)) (dOne (dC (.int 3))))))))))))
    (sSetF 5 (dVar 7))) sNext)))
noncomputable def law_drawn_rows_b : DS := (sSeq (sParF [3, 4, 5] [false, true, false] (dCons (dCall law_names [] (dCons (dVar 0) (dCons (dVar 1) (dOne (dC (.int 3)))))) (dCons (dLst dNil) (dOne (dC (.int 0))))))
    (sSeq (sFor (iR1 (dOne (dOp gAdd (dC (.int 1)) (dCall law_pick [] (dCons (dVar 0) (dCons (dOp gAdd (dVar 1) (dC (.int 70))) (dOne (dC (.int 6))))))))) (.nm 2) law_drawn_rows_l1)
    (sFrz 4 (sRet (dTup (dCons (dVar 4) (dOne (dVar 3))))))))
noncomputable def law_drawn_rows : DF := fnD 2 8 (law_drawn_rows_b)
abbrev law_guide_rows_N : List Str := ["script", "at", "made", "rows", "names", "k", "source", "row", "begin", "end", "name"]
noncomputable def law_guide_rows_l1 : DS := (sSeq (sSetF 6 (dOp gIx (dVar 4) (dCall law_pick [] (dCons (dVar 0) (dCons (dOp gAdd (dOp gAdd (dVar 1) (dC (.int 100))) (dVar 5)) (dOne (dC (.int 3))))))))
    (sSeq (sSetF 7 (dTup (dCons (dVar 8) (dCons (dVar 9) (dCons (dVar 6) (dOne (dIf (tst (dOp (gEq false) (dCall law_pick [] (dCons (dVar 0) (dCons (dOp gAdd (dOp gAdd (dVar 1) (dC (.int 110))) (dVar 5)) (dOne (dC (.int 4)))))) (dC (.int 0)))) (dC (.str "!")) (dVar 10))))))))
    (sIf (dOr (tst (dOp (gEq false) (dVar 2) (dLst dNil))) (dOr (tst (dOp gLt (dOp gIx (dOp gIx (dVar 2) (dUn gNeg (dC (.int 1)))) (dC (.int 1))) (dVar 8))) (tst (dOp (gEq true) (dSl (dOp gIx (dVar 2) (dUn gNeg (dC (.int 1)))) (dPart (dC (.int 2))) dNo) (dSl (dVar 7) (dPart (dC (.int 2))) dNo))))) (sApp 2 (dVar 7)) sNext)))
noncomputable def law_guide_rows_b : DS := (sSeq (sSetT [3, 4] (dCall law_drawn_rows [] (dCons (dVar 0) (dOne (dVar 1)))))
    (sSeq (sSet 2 (dLst dNil))
    (sSeq (sFor (iE (dVar 3)) (.np 5 [8, 9, 10]) law_guide_rows_l1)
    (sRetV 2))))
noncomputable def law_guide_rows : DF := fnD 2 11 (law_guide_rows_b)
abbrev is_name_N : List Str := ["thing", "sign"]
noncomputable def is_name_b : DS := (sRet (dAndV (dUn (gIsiT "str") (dVar 0)) (dAndV (dChain gLe gLe (dC (.int 1)) (dCB gLen (dOne (dVar 0))) (dC (.int 6))) (dCB gAll (dOne (dLc (iSq (dVar 0)) (.nm 1) tYesD (dOp (gIn false) (dVar 1) (dC (.str "abcdefghijklmnopqrstuvwxyz"))) [1]))))))
noncomputable def is_name : DF := fnD 1 2 (is_name_b)
abbrev is_number_N : List Str := ["thing", "least", "most"]
noncomputable def is_number_b : DS := (sRet (dAndV (dUn (gIsiT "int") (dVar 0)) (dAndV (dNotV (dUn (gIsiT "bool") (dVar 0))) (dChain gLe gLe (dVar 1) (dVar 0) (dVar 2)))))
noncomputable def is_number : DF := fnD 3 3 (is_number_b)
abbrev is_day_N : List Str := ["thing"]
noncomputable def is_day_b : DS := (sRet (dCall is_number [] (dCons (dVar 0) (dCons (dC (.int 0)) (dOne (dOp gSub (dC (.int 100)) (dC (.int 1))))))))
noncomputable def is_day : DF := fnD 1 1 (is_day_b)
abbrev is_guide_row_N : List Str := ["thing", "begin", "end", "source", "name"]
noncomputable def is_guide_row_b : DS := (sSeq (sIf (dOr (dNot (tst (dUn (gIsiT "tuple") (dVar 0)))) (tst (dOp (gEq true) (dCB gLen (dOne (dVar 0))) (dC (.int 4))))) (sRet (dC (.bl false))) sNext)
    (sSeq (sSetT [1, 2, 3, 4] (dVar 0))
    (sSeq (sIf (dOr (dNot (tst (dCall is_number [] (dCons (dVar 1) (dCons (dC (.int 0)) (dOne (dOp gSub (dC (.int 24)) (dC (.int 1))))))))) (dOr (dNot (tst (dCall is_number [] (dCons (dVar 2) (dCons (dC (.int 1)) (dOne (dC (.int 24)))))))) (tst (dOp gGe (dVar 1) (dVar 2))))) (sRet (dC (.bl false))) sNext)
    (sRet (dAndV (dCall is_name [] (dOne (dVar 3))) (dOrV (dCall is_name [] (dOne (dVar 4))) (dAndV (dUn (gIsiT "str") (dVar 4)) (dOp (gEq false) (dVar 4) (dC (.str "!"))))))))))
noncomputable def is_guide_row : DF := fnD 1 5 (is_guide_row_b)
abbrev do_follow_N : List Str := ["one", "other"]
noncomputable def do_follow_b : DS := (sRet (dOrV (dOp gLt (dOp gIx (dVar 0) (dC (.int 1))) (dOp gIx (dVar 1) (dC (.int 0)))) (dAndV (dOp (gEq false) (dOp gIx (dVar 0) (dC (.int 1))) (dOp gIx (dVar 1) (dC (.int 0)))) (dOp (gEq true) (dSl (dVar 0) (dPart (dC (.int 2))) dNo) (dSl (dVar 1) (dPart (dC (.int 2))) dNo)))))
noncomputable def do_follow : DF := fnD 2 2 (do_follow_b)
abbrev is_guide_N : List Str := ["station", "day", "rows", "row", "one", "other"]
noncomputable def is_guide_b : DS := (sSeq (sIf (dOr (dNot (tst (dCall is_name [] (dOne (dVar 0))))) (dOr (dNot (tst (dCall is_day [] (dOne (dVar 1))))) (dNot (tst (dUn (gIsiT "list") (dVar 2)))))) (sRet (dC (.bl false))) sNext)
    (sSeq (sIf (dNot (tst (dCB gAll (dOne (dLc (iSq (dVar 2)) (.nm 3) tYesD (dCall is_guide_row [] (dOne (dVar 3))) [3]))))) (sRet (dC (.bl false))) sNext)
    (sRet (dCB gAll (dOne (dLc (iZ (dCons (dVar 2) (dOne (dSl (dVar 2) (dPart (dC (.int 1))) dNo)))) (.tp [4, 5]) tYesD (dCall do_follow [] (dCons (dVar 4) (dOne (dVar 5)))) [4, 5]))))))
noncomputable def is_guide : DF := fnD 3 6 (is_guide_b)
abbrev guide_text_N : List Str := ["station", "day", "rows", "made", "begin", "end", "source", "name"]
noncomputable def guide_text_l1 : DS := (sSetF 3 (dOp gAdd (dOp gAdd (dOp gAdd (dOp gAdd (dOp gAdd (dOp gAdd (dOp gAdd (dOp gAdd (dVar 3) (dBm "str" gZf (dCB gStrI (dOne (dVar 4))) (dC (.int 2)))) (dC (.str "-"))) (dBm "str" gZf (dCB gStrI (dOne (dVar 5))) (dC (.int 2)))) (dC (.str " "))) (dVar 6)) (dC (.str " "))) (dVar 7)) (dC (.str "\n"))))
noncomputable def guide_text_b : DS := (sSeq (sIf (dNot (tst (dCall is_guide [] (dCons (dVar 0) (dCons (dVar 1) (dOne (dVar 2))))))) (sRaise "NoText") sNext)
    (sSeq (sSetF 3 (dOp gAdd (dOp gAdd (dOp gAdd (dVar 0) (dC (.str " "))) (dCB gStrI (dOne (dVar 1)))) (dC (.str "\n"))))
    (sSeq (sFor (iSq (dVar 2)) (.tp [4, 5, 6, 7]) guide_text_l1)
    (sRetV 3))))
noncomputable def guide_text : DF := fnD 3 8 (guide_text_b)
abbrev number_in_N : List Str := ["word", "sign"]
noncomputable def number_in_b : DS := (sSeq (sIf (dOr (dNot (tst (dChain gLe gLe (dC (.int 1)) (dCB gLen (dOne (dVar 0))) (dC (.int 2))))) (dNot (tst (dCB gAll (dOne (dLc (iSq (dVar 0)) (.nm 1) tYesD (dOp (gIn false) (dVar 1) (dC (.str "0123456789"))) [1])))))) (sRaise "NoText") sNext)
    (sRet (dCB gIntS (dOne (dVar 0)))))
noncomputable def number_in : DF := fnD 1 2 (number_in_b)
abbrev row_in_N : List Str := ["line", "words", "spans"]
noncomputable def row_in_b : DS := (sSeq (sSetF 1 (dBm "str" gSplit (dVar 0) (dC (.str " "))))
    (sSeq (sSetF 2 (dBm "str" gSplit (dOp gIx (dVar 1) (dC (.int 0))) (dC (.str "-"))))
    (sSeq (sIf (dOr (tst (dOp (gEq true) (dCB gLen (dOne (dVar 1))) (dC (.int 3)))) (tst (dOp (gEq true) (dCB gLen (dOne (dVar 2))) (dC (.int 2))))) (sRaise "NoText") sNext)
    (sRet (dTup (dCons (dCall number_in [] (dOne (dOp gIx (dVar 2) (dC (.int 0))))) (dCons (dCall number_in [] (dOne (dOp gIx (dVar 2) (dC (.int 1))))) (dCons (dOp gIx (dVar 1) (dC (.int 1))) (dOne (dOp gIx (dVar 1) (dC (.int 2))))))))))))
noncomputable def row_in : DF := fnD 1 3 (row_in_b)
abbrev read_guide_N : List Str := ["text", "lines", "words", "made", "line"]
noncomputable def read_guide_s1 : DS := (sIf (dOr (dNot (tst (dUn (gIsiT "str") (dVar 0)))) (tst (dOp (gEq true) (dSl (dVar 0) (dPart (dUn gNeg (dC (.int 1)))) dNo) (dC (.str "\n"))))) (sRaise "NoText") sNext)
noncomputable def read_guide_s2 : DS := (sSetF 1 (dSl (dBm "str" gSplit (dVar 0) (dC (.str "\n"))) dNo (dPart (dUn gNeg (dC (.int 1))))))
noncomputable def read_guide_s3 : DS := (sSetF 2 (dBm "str" gSplit (dOp gIx (dVar 1) (dC (.int 0))) (dC (.str " "))))
noncomputable def read_guide_s4 : DS := (sIf (tst (dOp (gEq true) (dCB gLen (dOne (dVar 2))) (dC (.int 2)))) (sRaise "NoText") sNext)
noncomputable def read_guide_s5 : DS := (sSetF 3 (dTup (dCons (dOp gIx (dVar 2) (dC (.int 0))) (dCons (dCall number_in [] (dOne (dOp gIx (dVar 2) (dC (.int 1))))) (dOne (dLcX (iSq (dSl (dVar 1) (dPart (dC (.int 1))) dNo)) (.nm 4) (dCall row_in [] (dOne (dVar 4))) [4]))))))
noncomputable def read_guide_s6 : DS := (sIf (tst (dOp (gEq true) (dCall guide_text [] (dCons (dOp gIx (dVar 3) (dC (.int 0))) (dCons (dOp gIx (dVar 3) (dC (.int 1))) (dOne (dOp gIx (dVar 3) (dC (.int 2))))))) (dVar 0))) (sRaise "NoText") sNext)
noncomputable def read_guide_s7 : DS := (sRetV 3)
noncomputable def read_guide_b : DS := (sSeq read_guide_s1
    (sSeq read_guide_s2
    (sSeq read_guide_s3
    (sSeq read_guide_s4
    (sSeq read_guide_s5
    (sSeq read_guide_s6
    read_guide_s7))))))
noncomputable def read_guide : DF := fnD 1 5 (read_guide_b)
abbrev law_is_well_read_N : List Str := ["text", "told"]
noncomputable def law_is_well_read_b : DS := (sSeq (sSetF 1 (dTold (dCall read_guide [] (dOne (dVar 0)))))
    (sSeq (sIf (tst (dOp (gEq false) (dVar 1) (dTup (dCons (dC (.str "refused")) (dOne (dC (.str "NoText"))))))) (sRet (dC (.bl true))) sNext)
    (sSeq (sIf (dOr (dNot (tst (dUn (gIsiT "tuple") (dVar 1)))) (tst (dOp (gEq true) (dCB gLen (dOne (dVar 1))) (dC (.int 3))))) (sRet (dC (.bl false))) sNext)
    (sRet (dOp (gEq false) (dTold (dCall guide_text [] (dCons (dOp gIx (dVar 1) (dC (.int 0))) (dCons (dOp gIx (dVar 1) (dC (.int 1))) (dOne (dOp gIx (dVar 1) (dC (.int 2)))))))) (dVar 0))))))
noncomputable def law_is_well_read : DF := fnD 1 2 (law_is_well_read_b)
abbrev law_spoilt_rows_N : List Str := ["rows", "k", "bad", "made", "begin", "end", "source", "name", "one"]
noncomputable def law_spoilt_rows_s1 : DS := (sSetT [4, 5, 6, 7] (dOp gIx (dVar 0) (dVar 1)))
noncomputable def law_spoilt_rows_s2 : DS := (sSet 2 (dLst (dCons (dTup (dCons (dVar 5) (dCons (dVar 4) (dCons (dVar 6) (dOne (dVar 7)))))) (dCons (dTup (dCons (dVar 4) (dCons (dVar 4) (dCons (dVar 6) (dOne (dVar 7)))))) (dCons (dTup (dCons (dUn gNeg (dC (.int 1))) (dCons (dVar 5) (dCons (dVar 6) (dOne (dVar 7)))))) (dOne (dTup (dCons (dVar 4) (dCons (dC (.int 25)) (dCons (dVar 6) (dOne (dVar 7))))))))))))
noncomputable def law_spoilt_rows_s3 : DS := (sExt 2 (dLst (dCons (dTup (dCons (dVar 4) (dCons (dVar 5) (dCons (dC (.str "")) (dOne (dVar 7)))))) (dCons (dTup (dCons (dVar 4) (dCons (dVar 5) (dCons (dVar 6) (dOne (dC (.str "A"))))))) (dCons (dTup (dCons (dVar 4) (dCons (dVar 5) (dCons (dVar 6) (dOne (dC (.str "!!"))))))) (dOne (dTup (dCons (dVar 4) (dCons (dVar 5) (dCons (dC (.str "!")) (dOne (dVar 7))))))))))))
noncomputable def law_spoilt_rows_s4 : DS := (sExt 2 (dLst (dCons (dTup (dCons (dVar 4) (dCons (dVar 5) (dOne (dVar 6))))) (dCons (dLst (dCons (dVar 4) (dCons (dVar 5) (dCons (dVar 6) (dOne (dVar 7)))))) (dCons (dTup (dCons (dC (.bl true)) (dCons (dVar 5) (dCons (dVar 6) (dOne (dVar 7)))))) (dOne (dC .non)))))))
noncomputable def law_spoilt_rows_s5 : DS := (sApp 2 (dTup (dCons (dVar 4) (dCons (dVar 5) (dCons (dC .non) (dOne (dVar 7)))))))
noncomputable def law_spoilt_rows_s6 : DS := (sSet 3 (dLc (iSq (dVar 2)) (.nm 8) tYesD (dOp gAdd (dOp gAdd (dSl (dVar 0) dNo (dPart (dVar 1))) (dLst (dOne (dVar 8)))) (dSl (dVar 0) (dPart (dOp gAdd (dVar 1) (dC (.int 1)))) dNo)) [8]))
noncomputable def law_spoilt_rows_s7 : DS := (sExt 3 (dLst (dCons (dOp gAdd (dVar 0) (dLst (dOne (dOp gIx (dVar 0) (dVar 1))))) (dOne (dLst (dCons (dTup (dCons (dVar 4) (dCons (dVar 5) (dCons (dVar 6) (dOne (dVar 7)))))) (dOne (dTup (dCons (dVar 5) (dCons (dOp gAdd (dVar 5) (dC (.int 1))) (dCons (dVar 6) (dOne (dVar 7)))))))))))))
noncomputable def law_spoilt_rows_s8 : DS := (sRet (dOp gAdd (dVar 3) (dLst (dCons (dOp gAdd (dOp gAdd (dSl (dVar 0) dNo (dPart (dVar 1))) (dLst (dOne (dTup (dCons (dVar 4) (dCons (dVar 5) (dCons (dVar 6) (dOne (dLst (dOne (dVar 7))))))))))) (dSl (dVar 0) (dPart (dOp gAdd (dVar 1) (dC (.int 1)))) dNo)) (dCons (dCB gTuple (dOne (dVar 0))) (dCons (dC .non) (dOne (dC (.str "x")))))))))
noncomputable def law_spoilt_rows_b : DS := (sSeq law_spoilt_rows_s1
    (sSeq law_spoilt_rows_s2
    (sSeq law_spoilt_rows_s3
    (sSeq law_spoilt_rows_s4
    (sSeq law_spoilt_rows_s5
    (sSeq law_spoilt_rows_s6
    (sSeq law_spoilt_rows_s7
    law_spoilt_rows_s8)))))))
noncomputable def law_spoilt_rows : DF := fnD 2 9 (law_spoilt_rows_b)
abbrev law_N : List Str := ["script", "k", "some", "thing", "line", "bad", "one", "rows", "name", "day", "text", "signs", "told", "at", "sign"]
noncomputable def law_l1 : DS := (sIf (dNot (tst (dCall law_is_well_read [] (dOne (dVar 6))))) (sRet (dC (.bl false))) sNext)
noncomputable def law_l2 : DS := (sSeq (sParF [13, 14] [false, false] (dCons (dCall law_pick [] (dCons (dVar 0) (dCons (dOp gAdd (dC (.int 301)) (dVar 1)) (dOne (dOp gAdd (dCB gLen (dOne (dVar 10))) (dC (.int 1))))))) (dOne (dOp gIx (dVar 11) (dCall law_pick [] (dCons (dVar 0) (dCons (dOp gAdd (dC (.int 310)) (dVar 1)) (dOne (dC (.int 18))))))))))
    (sFor (iSq (dTup (dCons (dOp gAdd (dSl (dVar 10) dNo (dPart (dVar 13))) (dSl (dVar 10) (dPart (dOp gAdd (dVar 13) (dC (.int 1)))) dNo)) (dCons (dOp gAdd (dOp gAdd (dSl (dVar 10) dNo (dPart (dVar 13))) (dVar 14)) (dSl (dVar 10) (dPart (dVar 13)) dNo)) (dOne (dOp gAdd (dOp gAdd (dSl (dVar 10) dNo (dPart (dVar 13))) (dVar 14)) (dSl (dVar 10) (dPart (dOp gAdd (dVar 13) (dC (.int 1)))) dNo))))))) (.nm 6) law_l1))
noncomputable def law_l3 : DS := (sIf (tst (dOp (gEq true) (dTold (dCall guide_text [] (dCons (dVar 8) (dCons (dVar 9) (dOne (dVar 2)))))) (dTup (dCons (dC (.str "refused")) (dOne (dC (.str "NoText"))))))) (sRet (dC (.bl false))) sNext)
noncomputable def law_l4 : DS := (sSeq (sSet 12 (dLst (dOne (dTold (dCall guide_text [] (dCons (dVar 3) (dCons (dVar 9) (dOne (dVar 7)))))))))
    (sSeq (sApp 12 (dTold (dCall guide_text [] (dCons (dVar 8) (dCons (dVar 3) (dOne (dVar 7)))))))
    (sSeq (sApp 12 (dTold (dCall read_guide [] (dOne (dVar 3)))))
    (sIf (dOr (tst (dOp (gEq true) (dSl (dVar 12) (dPart (dC (.int 1))) dNo) (dOp gMul (dLst (dOne (dTup (dCons (dC (.str "refused")) (dOne (dC (.str "NoText"))))))) (dC (.int 2))))) (dAnd (tst (dOp (gEq true) (dVar 3) (dVar 8))) (tst (dOp (gEq true) (dOp gIx (dVar 12) (dC (.int 0))) (dOp gIx (dVar 12) (dC (.int 1))))))) (sRet (dC (.bl false))) sNext))))
noncomputable def law_l5 : DT := (tst (dOp (gEq true) (dTold (dCall read_guide [] (dOne (dVar 6)))) (dTup (dCons (dC (.str "refused")) (dOne (dC (.str "NoText")))))))
noncomputable def law_s1 : DS := (sParF [7, 8, 9] [false, false, false] (dCons (dCall law_guide_rows [] (dCons (dVar 0) (dOne (dC (.int 0))))) (dCons (dOp gIx (dCall law_names [] (dCons (dVar 0) (dCons (dC (.int 200)) (dOne (dC (.int 1)))))) (dC (.int 0))) (dOne (dCall law_pick [] (dCons (dVar 0) (dCons (dC (.int 300)) (dOne (dC (.int 100))))))))))
noncomputable def law_s2 : DS := (sParF [10, 11] [false, false] (dCons (dCall guide_text [] (dCons (dVar 8) (dCons (dVar 9) (dOne (dVar 7))))) (dOne (dC (.str "0123456789 -!ab\n	#")))))
noncomputable def law_s3 : DS := (sFor (iR1 (dOne (dC (.int 8)))) (.nm 1) law_l2)
noncomputable def law_s4 : DS := (sFor (iSq (dCall law_spoilt_rows [] (dCons (dVar 7) (dOne (dCall law_pick [] (dCons (dVar 0) (dCons (dC (.int 320)) (dOne (dCB gLen (dOne (dVar 7))))))))))) (.nm 2) law_l3)
noncomputable def law_s5 : DS := (sFor (iSq (dLst (dCons (dC .non) (dCons (dC (.bl true)) (dCons (dC (.str "")) (dCons (dC (.str "A")) (dCons (dLst (dOne (dC (.int 1)))) (dCons (dTup (dOne (dC (.int 1)))) (dCons (dUn gNeg (dC (.int 1))) (dCons (dOp gAdd (dC (.int 100)) (dVar 9)) (dCons (dC (.str "\n")) (dCons (dC (.str " 3\n")) (dCons (dVar 8) (dOne (dOp gAdd (dOp gAdd (dVar 8) (dC (.str " "))) (dCB gStrI (dOne (dVar 9)))))))))))))))))) (.nm 3) law_l4)
noncomputable def law_s6 : DS := (sSetF 4 (dOp gAdd (dOp gAdd (dOp gAdd (dVar 8) (dC (.str " "))) (dCB gStrI (dOne (dVar 9)))) (dC (.str "\n"))))
noncomputable def law_s7 : DS := (sSet 5 (dLst (dCons (dOp gAdd (dVar 4) (dC (.str "00-01 a\n"))) (dCons (dOp gAdd (dVar 4) (dC (.str "0-1 a b\n"))) (dCons (dOp gAdd (dVar 4) (dC (.str "00-01 a b \n"))) (dCons (dOp gAdd (dVar 4) (dC (.str "00-01  a b\n"))) (dOne (dOp gAdd (dC (.str " ")) (dVar 4)))))))))
noncomputable def law_s8 : DS := (sExt 5 (dLst (dCons (dOp gAdd (dOp gAdd (dOp gAdd (dVar 8) (dC (.str " 0"))) (dCB gStrI (dOne (dVar 9)))) (dC (.str "\n"))) (dCons (dOp gAdd (dVar 8) (dC (.str " 100\n"))) (dCons (dOp gAdd (dVar 4) (dC (.str "00-01 a b"))) (dCons (dOp gAdd (dVar 4) (dC (.str "\n"))) (dOne (dOp gAdd (dVar 8) (dC (.str "\n"))))))))))
noncomputable def law_s9 : DS := (sExt 5 (dLst (dCons (dOp gAdd (dVar 4) (dC (.str "00-25 a b\n"))) (dOne (dOp gAdd (dSl (dVar 4) dNo (dPart (dUn gNeg (dC (.int 1))))) (dC (.str " \n")))))))
noncomputable def law_s10 : DS := (sForT 5 6 law_l5 (sRet (dC (.bl false))))
noncomputable def law_s11 : DS := (sRet (dOp (gEq false) (dCall read_guide [] (dOne (dVar 4))) (dTup (dCons (dVar 8) (dCons (dVar 9) (dOne (dLst dNil)))))))
noncomputable def law_b : DS := (sSeq law_s1
    (sSeq law_s2
    (sSeq law_s3
    (sSeq law_s4
    (sSeq law_s5
    (sSeq law_s6
    (sSeq law_s7
    (sSeq law_s8
    (sSeq law_s9
    (sSeq law_s10
    law_s11))))))))))
noncomputable def law : DF := fnD 1 15 (law_b)
theorem law_class_eq : ∀ (a : Addr) (c : String) (w : W), c ∈ (["NoName", "NoDay", "NoHour", "NoMore", "NoShow", "NoSort", "NoStation", "NoRule", "Full", "Taken", "NoRights", "Settled", "TooLate", "NoRow", "NotLive", "TooLong", "NewsAhead", "Clash", "NoWish", "NoDeeds", "NoText"] : List String) → law_class a c [.exc a] w = .ok (fz (.str c)) w := by
  intro a c w h
  simp only [List.mem_cons, List.not_mem_nil, or_false] at h
  rcases h with rfl | rfl | rfl | rfl | rfl | rfl | rfl | rfl | rfl | rfl | rfl | rfl | rfl | rfl | rfl | rfl | rfl | rfl | rfl | rfl | rfl <;> (refine fnD_ret rfl ?_; simp [law_class_b, law_class_s1, law_class_s2, law_class_s3, law_class_s4, law_class_s5, law_class_s6, law_class_s7, law_class_s8, law_class_s9, law_class_s10, law_class_s11, gIsX, dBm, tyOk, gCnt, gIdx, flD, eqD, List.findIdx?_cons, pl, plN, gEq, sz_le]; try (first | rfl | decide))
/-! ### what the top has written -/
structure Txt (K : PySem.W.Frag) (mg : Str → Option Value) (cm : Cm) (cc_law_is_well_read : Addr) (cc_law : Addr) : Prop where
  b_ValueError : mg "ValueError" = none
  b_all : mg "all" = none
  b_bool : mg "bool" = none
  b_enumerate : mg "enumerate" = none
  b_int : mg "int" = none
  b_isinstance : mg "isinstance" = none
  b_len : mg "len" = none
  b_list : mg "list" = none
  b_max : mg "max" = none
  b_range : mg "range" = none
  b_str : mg "str" = none
  b_tuple : mg "tuple" = none
  b_zip : mg "zip" = none
  c_BREAK : Cst K mg "BREAK" (.str "!")
  c_DAYS : Cst K mg "DAYS" (.int 100)
  c_FIGURES : Cst K mg "FIGURES" (.str "0123456789")
  c_HOURS : Cst K mg "HOURS" (.int 24)
  c_LETTERS : Cst K mg "LETTERS" (.str "abcdefghijklmnopqrstuvwxyz")
  c_LONGEST_NAME : Cst K mg "LONGEST_NAME" (.int 6)
  er : ErsX K mg cm
  en : ∀ c, (cm c).isSome → c ∈ (["NoName", "NoDay", "NoHour", "NoMore", "NoShow", "NoSort", "NoStation", "NoRule", "Full", "Taken", "NoRights", "Settled", "TooLate", "NoRow", "NotLive", "TooLong", "NewsAhead", "Clash", "NoWish", "NoDeeds", "NoText"] : List String)
  m_Clash : Mcl mg cm "Clash"
  m_Full : Mcl mg cm "Full"
  m_NewsAhead : Mcl mg cm "NewsAhead"
  m_NoDay : Mcl mg cm "NoDay"
  m_NoDeeds : Mcl mg cm "NoDeeds"
  m_NoHour : Mcl mg cm "NoHour"
  m_NoMore : Mcl mg cm "NoMore"
  m_NoName : Mcl mg cm "NoName"
  m_NoRights : Mcl mg cm "NoRights"
  m_NoRow : Mcl mg cm "NoRow"
  m_NoRule : Mcl mg cm "NoRule"
  m_NoShow : Mcl mg cm "NoShow"
  m_NoSort : Mcl mg cm "NoSort"
  m_NoStation : Mcl mg cm "NoStation"
  m_NoText : Mcl mg cm "NoText"
  m_NoWish : Mcl mg cm "NoWish"
  m_NotLive : Mcl mg cm "NotLive"
  m_Settled : Mcl mg cm "Settled"
  m_Taken : Mcl mg cm "Taken"
  m_TooLate : Mcl mg cm "TooLate"
  m_TooLong : Mcl mg cm "TooLong"
  r_NoText : Rcl K mg cm "NoText"
  told : TldT K mg
  f_law_class : Fnx K mg "_law_class" s_law_class ["e"]
  f_law_pick : Fnx K mg "_law_pick" s_law_pick ["script", "k", "many"]
  f_law_names : Fnx K mg "_law_names" s_law_names ["script", "at", "many"]
  f_law_drawn_rows : Fnx K mg "_law_drawn_rows" s_law_drawn_rows ["script", "at"]
  f_law_guide_rows : Fnx K mg "_law_guide_rows" s_law_guide_rows ["script", "at"]
  f_is_name : Fnx K mg "is_name" s_is_name ["thing"]
  f_is_number : Fnx K mg "is_number" s_is_number ["thing", "least", "most"]
  f_is_day : Fnx K mg "is_day" s_is_day ["thing"]
  f_is_guide_row : Fnx K mg "is_guide_row" s_is_guide_row ["thing"]
  f_do_follow : Fnx K mg "do_follow" s_do_follow ["one", "other"]
  f_is_guide : Fnx K mg "is_guide" s_is_guide ["station", "day", "rows"]
  f_guide_text : Fnx K mg "guide_text" s_guide_text ["station", "day", "rows"]
  f_number_in : Fnx K mg "number_in" s_number_in ["word"]
  f_row_in : Fnx K mg "row_in" s_row_in ["line"]
  f_read_guide : Fnx K mg "read_guide" s_read_guide ["text"]
  f_law_is_well_read : FnxL K mg "_law_is_well_read" s_law_is_well_read ["text"] cc_law_is_well_read
  f_law_spoilt_rows : Fnx K mg "_law_spoilt_rows" s_law_spoilt_rows ["rows", "k"]
  f_law : FnxL K mg "law" s_law ["script"] cc_law
/-! ### each def -/
section
variable {P : Program} {w : World} {K : PySem.W.Frag} {mg : Str → Option Value} {base : Heap} {cm : Cm} {TT : List (Addr × Str)} {cc_law_is_well_read cc_law : Addr} {hC : Addr}
theorem sc_law_class : FnScope law_class_N ["e"] (defScope s_law_class) := ⟨rfl, rfl, rfl, by decide +kernel, rfl, by decide +kernel, by decide +kernel⟩
theorem d_law_class (T : Txt K mg cm cc_law_is_well_read cc_law) : ∃ f fd F, mg "_law_class" = some (.ref f) ∧ PySem.W.keepIn K (.ref f) = true ∧ Binds K fd ["e"] [] ∧ HotOk P w K mg base 1 f fd ["e"] (spX ⟨K, ⟨hC, TT⟩, cm⟩ F) ∧ ∀ a c w, (cm c).isSome → F a c [.exc a] w = .ok (fz (.str c)) w := by
  obtain ⟨f, fd, F, hm, hB⟩ := T.f_law_class
  refine ⟨f, fd, law_class, hm, F.kp, hB, ?_, fun a c w h => law_class_eq a c w (T.en c h)⟩
  refine hot_mk F sc_law_class fun cdv A outer s H e p c Da d hc hx hdi hu => ?_
  obtain ⟨Ab, E⟩ := T.er
  exact (b_cons (h_set 1 sc_law_class.nd (e_lst (a_cons (h_isX hx hdi E hc T.m_NoName T.b_isinstance (e_var 0)) (a_cons (h_isX hx hdi E hc T.m_NoDay T.b_isinstance (e_var 0)) (a_cons (h_isX hx hdi E hc T.m_NoHour T.b_isinstance (e_var 0)) (a_one (h_isX hx hdi E hc T.m_NoMore T.b_isinstance (e_var 0))))))))
    (b_cons (s_ext 1 (e_lst (a_cons (h_isX hx hdi E hc T.m_NoShow T.b_isinstance (e_var 0)) (a_cons (h_isX hx hdi E hc T.m_NoSort T.b_isinstance (e_var 0)) (a_cons (h_isX hx hdi E hc T.m_NoStation T.b_isinstance (e_var 0)) (a_one (h_isX hx hdi E hc T.m_NoRule T.b_isinstance (e_var 0))))))))
    (b_cons (s_ext 1 (e_lst (a_cons (h_isX hx hdi E hc T.m_Full T.b_isinstance (e_var 0)) (a_cons (h_isX hx hdi E hc T.m_Taken T.b_isinstance (e_var 0)) (a_cons (h_isX hx hdi E hc T.m_NoRights T.b_isinstance (e_var 0)) (a_one (h_isX hx hdi E hc T.m_Settled T.b_isinstance (e_var 0))))))))
    (b_cons (s_ext 1 (e_lst (a_cons (h_isX hx hdi E hc T.m_TooLate T.b_isinstance (e_var 0)) (a_cons (h_isX hx hdi E hc T.m_NoRow T.b_isinstance (e_var 0)) (a_cons (h_isX hx hdi E hc T.m_NotLive T.b_isinstance (e_var 0)) (a_one (h_isX hx hdi E hc T.m_TooLong T.b_isinstance (e_var 0))))))))
    (b_cons (s_ext 1 (e_lst (a_cons (h_isX hx hdi E hc T.m_NewsAhead T.b_isinstance (e_var 0)) (a_cons (h_isX hx hdi E hc T.m_Clash T.b_isinstance (e_var 0)) (a_cons (h_isX hx hdi E hc T.m_NoWish T.b_isinstance (e_var 0)) (a_one (h_isX hx hdi E hc T.m_NoDeeds T.b_isinstance (e_var 0))))))))
    (b_cons (s_app 1 (h_isX hx hdi E hc T.m_NoText T.b_isinstance (e_var 0)))
    (b_cons (s_if (t_w (w_or (h_ne hu (e_cnt (e_var 1) e_bl) e_int) (w_or1 (t_not (t_val (h_isV hx hdi E hc T.b_isinstance T.b_ValueError (e_var 0))))))) (b_one (s_ret e_str)) b_nil)
    (b_cons (h_set 2 sc_law_class.nd (e_lst (a_cons e_str (a_cons e_str (a_cons e_str (a_cons e_str (a_cons e_str (a_cons e_str (a_cons e_str (a_cons e_str (a_cons e_str (a_one e_str))))))))))))
    (b_cons (s_ext 2 (e_lst (a_cons e_str (a_cons e_str (a_cons e_str (a_cons e_str (a_cons e_str (a_cons e_str (a_cons e_str (a_cons e_str (a_one e_str)))))))))))
    (b_cons (s_ext 2 (e_lst (a_cons e_str (a_one e_str))))
    (b_one (s_ret (e_ix (e_var 2) (e_idx (e_var 1) e_bl))))))))))))))
theorem sc_law_pick : FnScope law_pick_N ["script", "k", "many"] (defScope s_law_pick) := ⟨rfl, rfl, rfl, by decide +kernel, rfl, by decide +kernel, by decide +kernel⟩
theorem d_law_pick (T : Txt K mg cm cc_law_is_well_read cc_law)  : Df P w K mg base ⟨hC, TT⟩ cm "_law_pick" 1 law_pick :=
  df_mk T.f_law_pick sc_law_pick fun f cdv A outer s H E e c => by
    have c0 := c.fe
    exact (b_cons (s_setF 3 c0 (e_if (t_ne c0 (e_var 0) (e_lst a_nil)) (e_ix (e_var 0) (e_mod (e_var 1) (e_len T.b_len (a_one (e_var 0))))) e_int))
    (b_cons (s_parF 5 6 [false, false] c0 (a_cons (e_div (e_var 3) (e_pow e_int e_int)) (a_one (e_div (e_var 1) (e_max2 c0 T.b_max (a_cons (e_len T.b_len (a_one (e_var 0))) (a_one e_int)))))))
    (b_cons (s_while 100000 c (t_w (w_and (t_gt (e_var 5) e_int) (w_and1 (t_gt (e_var 6) e_int)))) (b_one (s_parF 5 6 [false, false] c0 (a_cons (e_div (e_var 5) e_int) (a_one (e_sub (e_var 6) e_int))))))
    (b_cons (s_if (t_gt (e_var 5) e_int) (b_one (s_ret (e_mod (e_mod (e_var 5) e_int) (e_var 2)))) b_nil)
    (b_cons (s_setF 4 c0 (e_mod (e_mul (e_add (e_mul (e_var 3) e_int) (e_mul e_int (e_add (e_var 1) e_int))) e_int) e_int))
    (b_one (s_ret (e_mod (e_mod (e_add (e_mul (e_var 4) (e_var 4)) (e_div (e_var 4) e_int)) e_int) (e_var 2)))))))))
theorem sc_law_names : FnScope law_names_N ["script", "at", "many"] (defScope s_law_names) := ⟨rfl, rfl, rfl, by decide +kernel, rfl, by decide +kernel, by decide +kernel⟩
theorem d_law_names (T : Txt K mg cm cc_law_is_well_read cc_law) (h_law_pick : Df P w K mg base ⟨hC, TT⟩ cm "_law_pick" 1 law_pick) : Df P w K mg base ⟨hC, TT⟩ cm "_law_names" 2 law_names :=
  df_mk T.f_law_names sc_law_names fun f cdv A outer s H E e c => by
    have c0 := c.fe
    exact (b_cons (s_parF 4 5 [false, true] c0 (a_cons e_str (a_one (e_lst a_nil))))
    (b_cons (s_for (.nm 3) c (i_rng1 T.b_range (a_one (e_var 2))) (g_nm 3 c0.nd) (b_cons (s_setF 6 c0 e_str)
    (b_cons (s_for (.nm 7) c (i_rng1 T.b_range (a_one (e_ix (e_lst (a_cons e_int (a_cons e_int (a_cons e_int (a_cons e_int (a_one e_int)))))) (e_call h_law_pick c0 (a_cons (e_var 0) (a_cons (e_add (e_var 1) (e_mul e_int (e_var 3))) (a_one e_int))))))) (g_nm 7 c0.nd) (b_one (s_setF 6 c0 (e_add (e_var 6) (e_ix (e_var 4) (e_call h_law_pick c0 (a_cons (e_var 0) (a_cons (e_add (e_add (e_add (e_var 1) (e_mul e_int (e_var 3))) (e_var 7)) e_int) (a_one e_int)))))))))
    (b_cons (s_setF 8 c0 (e_ix (e_var 4) (e_mod (e_add (e_call h_law_pick c0 (a_cons (e_var 0) (a_cons (e_add (e_var 1) e_int) (a_one e_int)))) (e_var 3)) e_int)))
    (b_one (s_app 5 (e_if (t_eq c0 (e_call h_law_pick c0 (a_cons (e_var 0) (a_cons (e_add (e_var 1) e_int) (a_one e_int)))) e_int) (e_add (e_var 6) (e_var 8)) (e_add (e_var 8) (e_var 6)))))))))
    (b_one (s_retV 5))))
theorem sc_law_drawn_rows : FnScope law_drawn_rows_N ["script", "at"] (defScope s_law_drawn_rows) := ⟨rfl, rfl, rfl, by decide +kernel, rfl, by decide +kernel, by decide +kernel⟩
theorem d_law_drawn_rows (T : Txt K mg cm cc_law_is_well_read cc_law) (h_law_names : Df P w K mg base ⟨hC, TT⟩ cm "_law_names" 2 law_names) (h_law_pick : Df P w K mg base ⟨hC, TT⟩ cm "_law_pick" 1 law_pick) : Df P w K mg base ⟨hC, TT⟩ cm "_law_drawn_rows" 3 law_drawn_rows :=
  df_mk T.f_law_drawn_rows sc_law_drawn_rows fun f cdv A outer s H E e c => by
    have c0 := c.fe
    exact (b_cons (s_par3F 3 4 5 [false, true, false] c0 (a_cons (e_call h_law_names c0 (a_cons (e_var 0) (a_cons (e_var 1) (a_one e_int)))) (a_cons (e_lst a_nil) (a_one e_int))))
    (b_cons (s_for (.nm 2) c (i_rng1 T.b_range (a_one (e_add e_int (e_call h_law_pick c0 (a_cons (e_var 0) (a_cons (e_add (e_var 1) e_int) (a_one e_int))))))) (g_nm 2 c0.nd) (b_cons (s_setF 6 c0 (e_add (e_var 5) (e_ix (e_lst (a_cons e_int (a_cons e_int (a_cons e_int (a_cons e_int (a_one e_int)))))) (e_call h_law_pick c0 (a_cons (e_var 0) (a_cons (e_add (e_add (e_var 1) e_int) (e_var 2)) (a_one e_int)))))))
    (b_cons (s_setF 7 c0 (e_add (e_var 6) (e_ix (e_lst (a_cons e_int (a_cons e_int (a_cons e_int (a_cons e_int (a_one e_int)))))) (e_call h_law_pick c0 (a_cons (e_var 0) (a_cons (e_add (e_add (e_var 1) e_int) (e_var 2)) (a_one e_int)))))))
    (b_one (s_if (t_le (e_var 7) e_int) (b_cons (s_app 4 (e_tup (a_cons (e_var 6) (a_cons (e_var 7) (a_one (e_ix (e_var 3) (e_call h_law_pick c0 (a_cons (e_var 0) (a_cons (e_add (e_add (e_var 1) e_int) (e_var 2)) (a_one e_int))))))))))
    (b_one (s_setF 5 c0 (e_var 7)))) b_nil)))))
    (b_one (s_frz 4 (s_ret (e_tup (a_cons (e_var 4) (a_one (e_var 3)))))))))
theorem sc_law_guide_rows : FnScope law_guide_rows_N ["script", "at"] (defScope s_law_guide_rows) := ⟨rfl, rfl, rfl, by decide +kernel, rfl, by decide +kernel, by decide +kernel⟩
theorem d_law_guide_rows (T : Txt K mg cm cc_law_is_well_read cc_law) (h_law_drawn_rows : Df P w K mg base ⟨hC, TT⟩ cm "_law_drawn_rows" 3 law_drawn_rows) (h_law_pick : Df P w K mg base ⟨hC, TT⟩ cm "_law_pick" 1 law_pick) : Df P w K mg base ⟨hC, TT⟩ cm "_law_guide_rows" 4 law_guide_rows :=
  df_mk T.f_law_guide_rows sc_law_guide_rows fun f cdv A outer s H E e c => by
    have c0 := c.fe
    exact (b_cons (s_setT [3, 4] c0 (e_call h_law_drawn_rows c0 (a_cons (e_var 0) (a_one (e_var 1)))) (gs_cons 3 c0.nd (gs_cons 4 c0.nd gs_nil)))
    (b_cons (s_set 2 c0 (e_lst a_nil))
    (b_cons (s_for (.np 5 [8, 9, 10]) c (i_enum T.b_enumerate (e_var 3)) (g_np 5 [8, 9, 10] c0.calm c0.nd (gs_cons 8 c0.nd (gs_cons 9 c0.nd (gs_cons 10 c0.nd gs_nil)))) (b_cons (s_setF 6 c0 (e_ix (e_var 4) (e_call h_law_pick c0 (a_cons (e_var 0) (a_cons (e_add (e_add (e_var 1) e_int) (e_var 5)) (a_one e_int))))))
    (b_cons (s_setF 7 c0 (e_tup (a_cons (e_var 8) (a_cons (e_var 9) (a_cons (e_var 6) (a_one (e_if (t_eq c0 (e_call h_law_pick c0 (a_cons (e_var 0) (a_cons (e_add (e_add (e_var 1) e_int) (e_var 5)) (a_one e_int)))) e_int) e_str (e_var 10))))))))
    (b_one (s_if (t_w (w_or (t_eq c0 (e_var 2) (e_lst a_nil)) (w_or (t_lt (e_ix (e_ix (e_var 2) (e_neg e_int)) e_int) (e_var 8)) (w_or1 (t_ne c0 (e_sl (e_ix (e_var 2) (e_neg e_int)) (o_some e_int) o_no) (e_sl (e_var 7) (o_some e_int) o_no)))))) (b_one (s_app 2 (e_var 7))) b_nil)))))
    (b_one (s_retV 2)))))
theorem sc_is_name : FnScope is_name_N ["thing"] (defScope s_is_name) := ⟨rfl, rfl, rfl, by decide +kernel, rfl, by decide +kernel, by decide +kernel⟩
theorem d_is_name (T : Txt K mg cm cc_law_is_well_read cc_law)  : Df P w K mg base ⟨hC, TT⟩ cm "is_name" 1 is_name :=
  df_mk T.f_is_name sc_is_name fun f cdv A outer s H E e c => by
    have c0 := c.fe
    exact (b_one (s_ret (e_and (e_isiT "str" T.b_isinstance T.b_str (by decide +kernel) (e_var 0)) (e_and (e_chain c_le c_le e_int (e_len T.b_len (a_one (e_var 0))) (e_glob T.c_LONGEST_NAME)) (e_one (e_all c0 T.b_all (a_one (e_lc (own := [("sign", 1)]) (t := (.nm 1)) c0 (i_seq (e_var 0)) (by show blkC is_name_N (defScope s_is_name) _ _ = true; decide +kernel) (by exact fun s H C cl fp => (g_nm 1 c0.nd)) (by exact fun s H C cl fp => pts_no) (by exact fun s H C cl fp => (e_in (c0.blk s H _ _ fp) (e_var 1) (e_glob T.c_LETTERS)))))))))))
theorem sc_is_number : FnScope is_number_N ["thing", "least", "most"] (defScope s_is_number) := ⟨rfl, rfl, rfl, by decide +kernel, rfl, by decide +kernel, by decide +kernel⟩
theorem d_is_number (T : Txt K mg cm cc_law_is_well_read cc_law)  : Df P w K mg base ⟨hC, TT⟩ cm "is_number" 1 is_number :=
  df_mk T.f_is_number sc_is_number fun f cdv A outer s H E e c => by
    have c0 := c.fe
    exact (b_one (s_ret (e_and (e_isiT "int" T.b_isinstance T.b_int (by decide +kernel) (e_var 0)) (e_and (e_not (e_isiT "bool" T.b_isinstance T.b_bool (by decide +kernel) (e_var 0))) (e_one (e_chain c_le c_le (e_var 1) (e_var 0) (e_var 2)))))))
theorem sc_is_day : FnScope is_day_N ["thing"] (defScope s_is_day) := ⟨rfl, rfl, rfl, by decide +kernel, rfl, by decide +kernel, by decide +kernel⟩
theorem d_is_day (T : Txt K mg cm cc_law_is_well_read cc_law) (h_is_number : Df P w K mg base ⟨hC, TT⟩ cm "is_number" 1 is_number) : Df P w K mg base ⟨hC, TT⟩ cm "is_day" 2 is_day :=
  df_mk T.f_is_day sc_is_day fun f cdv A outer s H E e c => by
    have c0 := c.fe
    exact (b_one (s_ret (e_call h_is_number c0 (a_cons (e_var 0) (a_cons e_int (a_one (e_sub (e_glob T.c_DAYS) e_int)))))))
theorem sc_is_guide_row : FnScope is_guide_row_N ["thing"] (defScope s_is_guide_row) := ⟨rfl, rfl, rfl, by decide +kernel, rfl, by decide +kernel, by decide +kernel⟩
theorem d_is_guide_row (T : Txt K mg cm cc_law_is_well_read cc_law) (h_is_number : Df P w K mg base ⟨hC, TT⟩ cm "is_number" 1 is_number) (h_is_name : Df P w K mg base ⟨hC, TT⟩ cm "is_name" 1 is_name) : Df P w K mg base ⟨hC, TT⟩ cm "is_guide_row" 2 is_guide_row :=
  df_mk T.f_is_guide_row sc_is_guide_row fun f cdv A outer s H E e c => by
    have c0 := c.fe
    exact (b_cons (s_if (t_w (w_or (t_not (t_val (e_isiT "tuple" T.b_isinstance T.b_tuple (by decide +kernel) (e_var 0)))) (w_or1 (t_ne c0 (e_len T.b_len (a_one (e_var 0))) e_int)))) (b_one (s_ret e_bl)) b_nil)
    (b_cons (s_setT [1, 2, 3, 4] c0 (e_var 0) (gs_cons 1 c0.nd (gs_cons 2 c0.nd (gs_cons 3 c0.nd (gs_cons 4 c0.nd gs_nil)))))
    (b_cons (s_if (t_w (w_or (t_not (t_val (e_call h_is_number c0 (a_cons (e_var 1) (a_cons e_int (a_one (e_sub (e_glob T.c_HOURS) e_int))))))) (w_or (t_not (t_val (e_call h_is_number c0 (a_cons (e_var 2) (a_cons e_int (a_one (e_glob T.c_HOURS))))))) (w_or1 (t_ge (e_var 1) (e_var 2)))))) (b_one (s_ret e_bl)) b_nil)
    (b_one (s_ret (e_and (e_call h_is_name c0 (a_one (e_var 3))) (e_one (e_or (e_call h_is_name c0 (a_one (e_var 4))) (e_one (e_and (e_isiT "str" T.b_isinstance T.b_str (by decide +kernel) (e_var 4)) (e_one (e_eq c0 (e_var 4) (e_glob T.c_BREAK)))))))))))))
theorem sc_do_follow : FnScope do_follow_N ["one", "other"] (defScope s_do_follow) := ⟨rfl, rfl, rfl, by decide +kernel, rfl, by decide +kernel, by decide +kernel⟩
theorem d_do_follow (T : Txt K mg cm cc_law_is_well_read cc_law)  : Df P w K mg base ⟨hC, TT⟩ cm "do_follow" 1 do_follow :=
  df_mk T.f_do_follow sc_do_follow fun f cdv A outer s H E e c => by
    have c0 := c.fe
    exact (b_one (s_ret (e_or (e_lt (e_ix (e_var 0) e_int) (e_ix (e_var 1) e_int)) (e_one (e_and (e_eq c0 (e_ix (e_var 0) e_int) (e_ix (e_var 1) e_int)) (e_one (e_ne c0 (e_sl (e_var 0) (o_some e_int) o_no) (e_sl (e_var 1) (o_some e_int) o_no))))))))
theorem sc_is_guide : FnScope is_guide_N ["station", "day", "rows"] (defScope s_is_guide) := ⟨rfl, rfl, rfl, by decide +kernel, rfl, by decide +kernel, by decide +kernel⟩
theorem d_is_guide (T : Txt K mg cm cc_law_is_well_read cc_law) (h_is_name : Df P w K mg base ⟨hC, TT⟩ cm "is_name" 1 is_name) (h_is_day : Df P w K mg base ⟨hC, TT⟩ cm "is_day" 2 is_day) (h_is_guide_row : Df P w K mg base ⟨hC, TT⟩ cm "is_guide_row" 2 is_guide_row) (h_do_follow : Df P w K mg base ⟨hC, TT⟩ cm "do_follow" 1 do_follow) : Df P w K mg base ⟨hC, TT⟩ cm "is_guide" 3 is_guide :=
  df_mk T.f_is_guide sc_is_guide fun f cdv A outer s H E e c => by
    have c0 := c.fe
    exact (b_cons (s_if (t_w (w_or (t_not (t_val (e_call h_is_name c0 (a_one (e_var 0))))) (w_or (t_not (t_val (e_call h_is_day c0 (a_one (e_var 1))))) (w_or1 (t_not (t_val (e_isiT "list" T.b_isinstance T.b_list (by decide +kernel) (e_var 2)))))))) (b_one (s_ret e_bl)) b_nil)
    (b_cons (s_if (t_not (t_val (e_all c0 T.b_all (a_one (e_lc (own := [("row", 3)]) (t := (.nm 3)) c0 (i_seq (e_var 2)) (by show blkC is_guide_N (defScope s_is_guide) _ _ = true; decide +kernel) (by exact fun s H C cl fp => (g_nm 3 c0.nd)) (by exact fun s H C cl fp => pts_no) (by exact fun s H C cl fp => (e_call h_is_guide_row (c0.blk s H _ _ fp) (a_one (e_var 3))))))))) (b_one (s_ret e_bl)) b_nil)
    (b_one (s_ret (e_all c0 T.b_all (a_one (e_lc (own := [("one", 4), ("other", 5)]) (t := (.tp [4, 5])) c0 (i_zip T.b_zip (a_cons (e_var 2) (a_one (e_sl (e_var 2) (o_some e_int) o_no)))) (by show blkC is_guide_N (defScope s_is_guide) _ _ = true; decide +kernel) (by exact fun s H C cl fp => (g_tp c0.calm (gs_cons 4 c0.nd (gs_cons 5 c0.nd gs_nil)))) (by exact fun s H C cl fp => pts_no) (by exact fun s H C cl fp => (e_call h_do_follow (c0.blk s H _ _ fp) (a_cons (e_var 4) (a_one (e_var 5))))))))))))
theorem sc_guide_text : FnScope guide_text_N ["station", "day", "rows"] (defScope s_guide_text) := ⟨rfl, rfl, rfl, by decide +kernel, rfl, by decide +kernel, by decide +kernel⟩
theorem d_guide_text (T : Txt K mg cm cc_law_is_well_read cc_law) (h_is_guide : Df P w K mg base ⟨hC, TT⟩ cm "is_guide" 3 is_guide) : Df P w K mg base ⟨hC, TT⟩ cm "guide_text" 4 guide_text :=
  df_mk T.f_guide_text sc_guide_text fun f cdv A outer s H E e c => by
    have c0 := c.fe
    exact (b_cons (s_if (t_not (t_val (e_call h_is_guide c0 (a_cons (e_var 0) (a_cons (e_var 1) (a_one (e_var 2))))))) (b_one (s_raise c0 T.er T.r_NoText)) b_nil)
    (b_cons (s_setF 3 c0 (e_add (e_add (e_add (e_var 0) e_str) (e_strI T.b_str (a_one (e_var 1)))) e_str))
    (b_cons (s_for (.tp [4, 5, 6, 7]) c (i_seq (e_var 2)) (g_tp c0.calm (gs_cons 4 c0.nd (gs_cons 5 c0.nd (gs_cons 6 c0.nd (gs_cons 7 c0.nd gs_nil))))) (b_one (s_setF 3 c0 (e_add (e_add (e_add (e_add (e_add (e_add (e_add (e_add (e_var 3) (e_zf (e_strI T.b_str (a_one (e_var 4))) e_int)) e_str) (e_zf (e_strI T.b_str (a_one (e_var 5))) e_int)) e_str) (e_var 6)) e_str) (e_var 7)) e_str))))
    (b_one (s_retV 3)))))
theorem sc_number_in : FnScope number_in_N ["word"] (defScope s_number_in) := ⟨rfl, rfl, rfl, by decide +kernel, rfl, by decide +kernel, by decide +kernel⟩
theorem d_number_in (T : Txt K mg cm cc_law_is_well_read cc_law)  : Df P w K mg base ⟨hC, TT⟩ cm "number_in" 1 number_in :=
  df_mk T.f_number_in sc_number_in fun f cdv A outer s H E e c => by
    have c0 := c.fe
    exact (b_cons (s_if (t_w (w_or (t_not (t_chain c_le c_le e_int (e_len T.b_len (a_one (e_var 0))) e_int)) (w_or1 (t_not (t_val (e_all c0 T.b_all (a_one (e_lc (own := [("sign", 1)]) (t := (.nm 1)) c0 (i_seq (e_var 0)) (by show blkC number_in_N (defScope s_number_in) _ _ = true; decide +kernel) (by exact fun s H C cl fp => (g_nm 1 c0.nd)) (by exact fun s H C cl fp => pts_no) (by exact fun s H C cl fp => (e_in (c0.blk s H _ _ fp) (e_var 1) (e_glob T.c_FIGURES))))))))))) (b_one (s_raise c0 T.er T.r_NoText)) b_nil)
    (b_one (s_ret (e_intS T.b_int (a_one (e_var 0))))))
theorem sc_row_in : FnScope row_in_N ["line"] (defScope s_row_in) := ⟨rfl, rfl, rfl, by decide +kernel, rfl, by decide +kernel, by decide +kernel⟩
theorem d_row_in (T : Txt K mg cm cc_law_is_well_read cc_law) (h_number_in : Df P w K mg base ⟨hC, TT⟩ cm "number_in" 1 number_in) : Df P w K mg base ⟨hC, TT⟩ cm "row_in" 2 row_in :=
  df_mk T.f_row_in sc_row_in fun f cdv A outer s H E e c => by
    have c0 := c.fe
    exact (b_cons (s_setF 1 c0 (e_split (e_var 0) e_str))
    (b_cons (s_setF 2 c0 (e_split (e_ix (e_var 1) e_int) e_str))
    (b_cons (s_if (t_w (w_or (t_ne c0 (e_len T.b_len (a_one (e_var 1))) e_int) (w_or1 (t_ne c0 (e_len T.b_len (a_one (e_var 2))) e_int)))) (b_one (s_raise c0 T.er T.r_NoText)) b_nil)
    (b_one (s_ret (e_tup (a_cons (e_call h_number_in c0 (a_one (e_ix (e_var 2) e_int))) (a_cons (e_call h_number_in c0 (a_one (e_ix (e_var 2) e_int))) (a_cons (e_ix (e_var 1) e_int) (a_one (e_ix (e_var 1) e_int)))))))))))
theorem sc_read_guide : FnScope read_guide_N ["text"] (defScope s_read_guide) := ⟨rfl, rfl, rfl, by decide +kernel, rfl, by decide +kernel, by decide +kernel⟩
theorem d_read_guide (T : Txt K mg cm cc_law_is_well_read cc_law) (h_number_in : Df P w K mg base ⟨hC, TT⟩ cm "number_in" 1 number_in) (h_row_in : Df P w K mg base ⟨hC, TT⟩ cm "row_in" 2 row_in) (h_guide_text : Df P w K mg base ⟨hC, TT⟩ cm "guide_text" 4 guide_text) : Df P w K mg base ⟨hC, TT⟩ cm "read_guide" 5 read_guide :=
  df_mk T.f_read_guide sc_read_guide fun f cdv A outer s H E e c => by
    have c0 := c.fe
    exact (b_cons (s_if (t_w (w_or (t_not (t_val (e_isiT "str" T.b_isinstance T.b_str (by decide +kernel) (e_var 0)))) (w_or1 (t_ne c0 (e_sl (e_var 0) (o_some (e_neg e_int)) o_no) e_str)))) (b_one (s_raise c0 T.er T.r_NoText)) b_nil)
    (b_cons (s_setF 1 c0 (e_sl (e_split (e_var 0) e_str) o_no (o_some (e_neg e_int))))
    (b_cons (s_setF 2 c0 (e_split (e_ix (e_var 1) e_int) e_str))
    (b_cons (s_if (t_ne c0 (e_len T.b_len (a_one (e_var 2))) e_int) (b_one (s_raise c0 T.er T.r_NoText)) b_nil)
    (b_cons (s_setF 3 c0 (e_tup (a_cons (e_ix (e_var 2) e_int) (a_cons (e_call h_number_in c0 (a_one (e_ix (e_var 2) e_int))) (a_one (e_lcX [("line", 4)] (.nm 4) h_row_in c0 (i_seq (e_sl (e_var 1) (o_some e_int) o_no)) (by show blkC read_guide_N (defScope s_read_guide) _ _ = true; decide +kernel) (by exact fun s H C cl fp => (g_nm 4 c0.nd)) (by exact fun σ s H C cl fp => (a_one (e_var 4)))))))))
    (b_cons (s_if (t_ne c0 (e_call h_guide_text c0 (a_cons (e_ix (e_var 3) e_int) (a_cons (e_ix (e_var 3) e_int) (a_one (e_ix (e_var 3) e_int))))) (e_var 0)) (b_one (s_raise c0 T.er T.r_NoText)) b_nil)
    (b_one (s_retV 3))))))))
theorem sc_law_is_well_read : FnScope law_is_well_read_N ["text"] (defScope s_law_is_well_read) := ⟨rfl, rfl, rfl, by decide +kernel, rfl, by decide +kernel, by decide +kernel⟩
theorem d_law_is_well_read (T : Txt K mg cm cc_law_is_well_read cc_law) (tld : Tld P w K mg base ⟨hC, TT⟩ cm) (mk_ : Mkt base mg ⟨hC, TT⟩ "_law_is_well_read" cc_law_is_well_read) (h_read_guide : Df P w K mg base ⟨hC, TT⟩ cm "read_guide" 5 read_guide) (h_guide_text : Df P w K mg base ⟨hC, TT⟩ cm "guide_text" 4 guide_text) : Df P w K mg base ⟨hC, TT⟩ cm "_law_is_well_read" 8 law_is_well_read :=
  df_mkL T.f_law_is_well_read sc_law_is_well_read mk_ fun f A outer s H E e c mk => by
    have c0 := c.fe
    exact (b_cons (s_setF 1 c0 (e_told tld mk c0 (by show LamX.lamSB (defScope s_law_is_well_read) _ = true; decide +kernel) (by exact fun A outer s H E f c' cl => (e_call h_read_guide cl (a_one (e_var 0))))))
    (b_cons (s_if (t_eq c0 (e_var 1) (e_tup (a_cons e_str (a_one e_str)))) (b_one (s_ret e_bl)) b_nil)
    (b_cons (s_if (t_w (w_or (t_not (t_val (e_isiT "tuple" T.b_isinstance T.b_tuple (by decide +kernel) (e_var 1)))) (w_or1 (t_ne c0 (e_len T.b_len (a_one (e_var 1))) e_int)))) (b_one (s_ret e_bl)) b_nil)
    (b_one (s_ret (e_eq c0 (e_told tld mk c0 (by show LamX.lamSB (defScope s_law_is_well_read) _ = true; decide +kernel) (by exact fun A outer s H E f c' cl => (e_call h_guide_text cl (a_cons (e_ix (e_var 1) e_int) (a_cons (e_ix (e_var 1) e_int) (a_one (e_ix (e_var 1) e_int))))))) (e_var 0)))))))
theorem sc_law_spoilt_rows : FnScope law_spoilt_rows_N ["rows", "k"] (defScope s_law_spoilt_rows) := ⟨rfl, rfl, rfl, by decide +kernel, rfl, by decide +kernel, by decide +kernel⟩
theorem d_law_spoilt_rows (T : Txt K mg cm cc_law_is_well_read cc_law)  : Df P w K mg base ⟨hC, TT⟩ cm "_law_spoilt_rows" 1 law_spoilt_rows :=
  df_mk T.f_law_spoilt_rows sc_law_spoilt_rows fun f cdv A outer s H E e c => by
    have c0 := c.fe
    exact (b_cons (s_setT [4, 5, 6, 7] c0 (e_ix (e_var 0) (e_var 1)) (gs_cons 4 c0.nd (gs_cons 5 c0.nd (gs_cons 6 c0.nd (gs_cons 7 c0.nd gs_nil)))))
    (b_cons (s_set 2 c0 (e_lst (a_cons (e_tup (a_cons (e_var 5) (a_cons (e_var 4) (a_cons (e_var 6) (a_one (e_var 7)))))) (a_cons (e_tup (a_cons (e_var 4) (a_cons (e_var 4) (a_cons (e_var 6) (a_one (e_var 7)))))) (a_cons (e_tup (a_cons (e_neg e_int) (a_cons (e_var 5) (a_cons (e_var 6) (a_one (e_var 7)))))) (a_one (e_tup (a_cons (e_var 4) (a_cons e_int (a_cons (e_var 6) (a_one (e_var 7))))))))))))
    (b_cons (s_ext 2 (e_lst (a_cons (e_tup (a_cons (e_var 4) (a_cons (e_var 5) (a_cons e_str (a_one (e_var 7)))))) (a_cons (e_tup (a_cons (e_var 4) (a_cons (e_var 5) (a_cons (e_var 6) (a_one e_str))))) (a_cons (e_tup (a_cons (e_var 4) (a_cons (e_var 5) (a_cons (e_var 6) (a_one e_str))))) (a_one (e_tup (a_cons (e_var 4) (a_cons (e_var 5) (a_cons e_str (a_one (e_var 7))))))))))))
    (b_cons (s_ext 2 (e_lst (a_cons (e_tup (a_cons (e_var 4) (a_cons (e_var 5) (a_one (e_var 6))))) (a_cons (e_lst (a_cons (e_var 4) (a_cons (e_var 5) (a_cons (e_var 6) (a_one (e_var 7)))))) (a_cons (e_tup (a_cons e_bl (a_cons (e_var 5) (a_cons (e_var 6) (a_one (e_var 7)))))) (a_one e_non))))))
    (b_cons (s_app 2 (e_tup (a_cons (e_var 4) (a_cons (e_var 5) (a_cons e_non (a_one (e_var 7)))))))
    (b_cons (s_setLc (i := 3) (own := [("one", 8)]) (t := (.nm 8)) c0 (hy := rfl) (hyl := rfl) (hsw := sw_true rfl rfl rfl (by decide +kernel)) (i_seq (e_var 2)) (by show blkC law_spoilt_rows_N (defScope s_law_spoilt_rows) _ _ = true; decide +kernel) (by exact fun s H C cl fp => (g_nm 8 c0.nd)) (by exact fun s H C cl fp => pts_no) (by exact fun s H C cl fp => (e_add (e_add (e_sl (e_var 0) o_no (o_some (e_var 1))) (e_lst (a_one (e_var 8)))) (e_sl (e_var 0) (o_some (e_add (e_var 1) e_int)) o_no))))
    (b_cons (s_ext 3 (e_lst (a_cons (e_add (e_var 0) (e_lst (a_one (e_ix (e_var 0) (e_var 1))))) (a_one (e_lst (a_cons (e_tup (a_cons (e_var 4) (a_cons (e_var 5) (a_cons (e_var 6) (a_one (e_var 7)))))) (a_one (e_tup (a_cons (e_var 5) (a_cons (e_add (e_var 5) e_int) (a_cons (e_var 6) (a_one (e_var 7)))))))))))))
    (b_one (s_ret (e_add (e_var 3) (e_lst (a_cons (e_add (e_add (e_sl (e_var 0) o_no (o_some (e_var 1))) (e_lst (a_one (e_tup (a_cons (e_var 4) (a_cons (e_var 5) (a_cons (e_var 6) (a_one (e_lst (a_one (e_var 7))))))))))) (e_sl (e_var 0) (o_some (e_add (e_var 1) e_int)) o_no)) (a_cons (e_ctup T.b_tuple (a_one (e_var 0))) (a_cons e_non (a_one e_str)))))))))))))))
theorem sc_law : FnScope law_N ["script"] (defScope s_law) := ⟨rfl, rfl, rfl, by decide +kernel, rfl, by decide +kernel, by decide +kernel⟩
theorem d_law (T : Txt K mg cm cc_law_is_well_read cc_law) (tld : Tld P w K mg base ⟨hC, TT⟩ cm) (mk_ : Mkt base mg ⟨hC, TT⟩ "law" cc_law) (h_law_guide_rows : Df P w K mg base ⟨hC, TT⟩ cm "_law_guide_rows" 4 law_guide_rows) (h_law_names : Df P w K mg base ⟨hC, TT⟩ cm "_law_names" 2 law_names) (h_law_pick : Df P w K mg base ⟨hC, TT⟩ cm "_law_pick" 1 law_pick) (h_guide_text : Df P w K mg base ⟨hC, TT⟩ cm "guide_text" 4 guide_text) (h_law_is_well_read : Df P w K mg base ⟨hC, TT⟩ cm "_law_is_well_read" 8 law_is_well_read) (h_law_spoilt_rows : Df P w K mg base ⟨hC, TT⟩ cm "_law_spoilt_rows" 1 law_spoilt_rows) (h_read_guide : Df P w K mg base ⟨hC, TT⟩ cm "read_guide" 5 read_guide) {f : Addr} {fd : FuncData} (F : FunL K "law" "law" s_law f fd cc_law) : FnOk P w K mg base (L2.CX P w) 9 f fd ["script"] (spD ⟨K, ⟨hC, TT⟩, cm⟩ law) :=
  fn_mkL F sc_law mk_ fun f A outer s H E e c mk => by
    have c0 := c.fe
    exact (b_cons (s_parT [7, 8, 9] [false, false, false] c0 (a_cons (e_call h_law_guide_rows c0 (a_cons (e_var 0) (a_one e_int))) (a_cons (e_ix (e_call h_law_names c0 (a_cons (e_var 0) (a_cons e_int (a_one e_int)))) e_int) (a_one (e_call h_law_pick c0 (a_cons (e_var 0) (a_cons e_int (a_one e_int))))))) (gs_cons 7 c0.nd (gs_cons 8 c0.nd (gs_cons 9 c0.nd gs_nil))))
    (b_cons (s_parF 10 11 [false, false] c0 (a_cons (e_call h_guide_text c0 (a_cons (e_var 8) (a_cons (e_var 9) (a_one (e_var 7))))) (a_one e_str)))
    (b_cons (s_for (.nm 1) c (i_rng1 T.b_range (a_one e_int)) (g_nm 1 c0.nd) (b_cons (s_parF 13 14 [false, false] c0 (a_cons (e_call h_law_pick c0 (a_cons (e_var 0) (a_cons (e_add e_int (e_var 1)) (a_one (e_add (e_len T.b_len (a_one (e_var 10))) e_int))))) (a_one (e_ix (e_var 11) (e_call h_law_pick c0 (a_cons (e_var 0) (a_cons (e_add e_int (e_var 1)) (a_one e_int))))))))
    (b_one (s_for (.nm 6) c (i_seq (e_tup (a_cons (e_add (e_sl (e_var 10) o_no (o_some (e_var 13))) (e_sl (e_var 10) (o_some (e_add (e_var 13) e_int)) o_no)) (a_cons (e_add (e_add (e_sl (e_var 10) o_no (o_some (e_var 13))) (e_var 14)) (e_sl (e_var 10) (o_some (e_var 13)) o_no)) (a_one (e_add (e_add (e_sl (e_var 10) o_no (o_some (e_var 13))) (e_var 14)) (e_sl (e_var 10) (o_some (e_add (e_var 13) e_int)) o_no))))))) (g_nm 6 c0.nd) (b_one (s_if (t_not (t_val (e_call h_law_is_well_read c0 (a_one (e_var 6))))) (b_one (s_ret e_bl)) b_nil))))))
    (b_cons (s_for (.nm 2) c (i_seq (e_call h_law_spoilt_rows c0 (a_cons (e_var 7) (a_one (e_call h_law_pick c0 (a_cons (e_var 0) (a_cons e_int (a_one (e_len T.b_len (a_one (e_var 7))))))))))) (g_nm 2 c0.nd) (b_one (s_if (t_ne c0 (e_told tld mk c0 (by show LamX.lamSB (defScope s_law) _ = true; decide +kernel) (by exact fun A outer s H E f c' cl => (e_call h_guide_text cl (a_cons (e_var 8) (a_cons (e_var 9) (a_one (e_var 2))))))) (e_tup (a_cons e_str (a_one e_str)))) (b_one (s_ret e_bl)) b_nil)))
    (b_cons (s_for (.nm 3) c (i_seq (e_lst (a_cons e_non (a_cons e_bl (a_cons e_str (a_cons e_str (a_cons (e_lst (a_one e_int)) (a_cons (e_tup (a_one e_int)) (a_cons (e_neg e_int) (a_cons (e_add e_int (e_var 9)) (a_cons e_str (a_cons e_str (a_cons (e_var 8) (a_one (e_add (e_add (e_var 8) e_str) (e_strI T.b_str (a_one (e_var 9)))))))))))))))))) (g_nm 3 c0.nd) (b_cons (s_set 12 c0 (e_lst (a_one (e_told tld mk c0 (by show LamX.lamSB (defScope s_law) _ = true; decide +kernel) (by exact fun A outer s H E f c' cl => (e_call h_guide_text cl (a_cons (e_var 3) (a_cons (e_var 9) (a_one (e_var 7))))))))))
    (b_cons (s_app 12 (e_told tld mk c0 (by show LamX.lamSB (defScope s_law) _ = true; decide +kernel) (by exact fun A outer s H E f c' cl => (e_call h_guide_text cl (a_cons (e_var 8) (a_cons (e_var 3) (a_one (e_var 7))))))))
    (b_cons (s_app 12 (e_told tld mk c0 (by show LamX.lamSB (defScope s_law) _ = true; decide +kernel) (by exact fun A outer s H E f c' cl => (e_call h_read_guide cl (a_one (e_var 3))))))
    (b_one (s_if (t_w (w_or (t_ne c0 (e_sl (e_var 12) (o_some e_int) o_no) (e_mul (e_lst (a_one (e_tup (a_cons e_str (a_one e_str))))) e_int)) (w_or1 (t_w (w_and (t_ne c0 (e_var 3) (e_var 8)) (w_and1 (t_ne c0 (e_ix (e_var 12) e_int) (e_ix (e_var 12) e_int)))))))) (b_one (s_ret e_bl)) b_nil))))))
    (b_cons (s_setF 4 c0 (e_add (e_add (e_add (e_var 8) e_str) (e_strI T.b_str (a_one (e_var 9)))) e_str))
    (b_cons (s_set 5 c0 (e_lst (a_cons (e_add (e_var 4) e_str) (a_cons (e_add (e_var 4) e_str) (a_cons (e_add (e_var 4) e_str) (a_cons (e_add (e_var 4) e_str) (a_one (e_add e_str (e_var 4)))))))))
    (b_cons (s_ext 5 (e_lst (a_cons (e_add (e_add (e_add (e_var 8) e_str) (e_strI T.b_str (a_one (e_var 9)))) e_str) (a_cons (e_add (e_var 8) e_str) (a_cons (e_add (e_var 4) e_str) (a_cons (e_add (e_var 4) e_str) (a_one (e_add (e_var 8) e_str))))))))
    (b_cons (s_ext 5 (e_lst (a_cons (e_add (e_var 4) e_str) (a_one (e_add (e_sl (e_var 4) o_no (o_some (e_neg e_int))) e_str)))))
    (b_cons (s_forT 5 6 c (g_nm 6 c0.nd) (t_ne c0 (e_told tld mk c0 (by show LamX.lamSB (defScope s_law) _ = true; decide +kernel) (by exact fun A outer s H E f c' cl => (e_call h_read_guide cl (a_one (e_var 6))))) (e_tup (a_cons e_str (a_one e_str)))) (b_one (s_ret e_bl)))
    (b_one (s_ret (e_eq c0 (e_call h_read_guide c0 (a_one (e_var 4))) (e_tup (a_cons (e_var 8) (a_cons (e_var 9) (a_one (e_lst a_nil))))))))))))))))))
end
/-! ### the head: what the top leaves -/
theorem txt {K : PySem.W.Frag} {h : Heap} {mg : Str → Option Value} (X : K.In h) (G : h.Ns mainGlobals mg) (c : DH.SaysQ facts defs K) : Txt K mg (DH.cmK K ["NoName", "NoDay", "NoHour", "NoMore", "NoShow", "NoSort", "NoStation", "NoRule", "Full", "Taken", "NoRights", "Settled", "TooLate", "NoRow", "NotLive", "TooLong", "NewsAhead", "Clash", "NoWish", "NoDeeds", "NoText"]) (DH.cA K "_law_is_well_read") (DH.cA K "law") := ⟨DH.free_ok X G (c.fact 0),
  DH.free_ok X G (c.fact 1),
  DH.free_ok X G (c.fact 2),
  DH.free_ok X G (c.fact 3),
  DH.free_ok X G (c.fact 4),
  DH.free_ok X G (c.fact 5),
  DH.free_ok X G (c.fact 6),
  DH.free_ok X G (c.fact 7),
  DH.free_ok X G (c.fact 8),
  DH.free_ok X G (c.fact 9),
  DH.free_ok X G (c.fact 10),
  DH.free_ok X G (c.fact 11),
  DH.free_ok X G (c.fact 12),
  DH.str_ok X G (c.fact 13),
  DH.int_ok X G (c.fact 14),
  DH.str_ok X G (c.fact 15),
  DH.int_ok X G (c.fact 16),
  DH.str_ok X G (c.fact 17),
  DH.int_ok X G (c.fact 18),
  DH.ers_ok X G (c.fact 19) (c.fact 20) (c.fact 21),
  fun c h => DH.cmK_names h,
  DH.mcl_ok X G (c.fact 21) (by decide),
  DH.mcl_ok X G (c.fact 21) (by decide),
  DH.mcl_ok X G (c.fact 21) (by decide),
  DH.mcl_ok X G (c.fact 21) (by decide),
  DH.mcl_ok X G (c.fact 21) (by decide),
  DH.mcl_ok X G (c.fact 21) (by decide),
  DH.mcl_ok X G (c.fact 21) (by decide),
  DH.mcl_ok X G (c.fact 21) (by decide),
  DH.mcl_ok X G (c.fact 21) (by decide),
  DH.mcl_ok X G (c.fact 21) (by decide),
  DH.mcl_ok X G (c.fact 21) (by decide),
  DH.mcl_ok X G (c.fact 21) (by decide),
  DH.mcl_ok X G (c.fact 21) (by decide),
  DH.mcl_ok X G (c.fact 21) (by decide),
  DH.mcl_ok X G (c.fact 21) (by decide),
  DH.mcl_ok X G (c.fact 21) (by decide),
  DH.mcl_ok X G (c.fact 21) (by decide),
  DH.mcl_ok X G (c.fact 21) (by decide),
  DH.mcl_ok X G (c.fact 21) (by decide),
  DH.mcl_ok X G (c.fact 21) (by decide),
  DH.mcl_ok X G (c.fact 21) (by decide),
  DH.rcl_ok X G (c.fact 21) (c.fact 22) (by decide),
  (by obtain ⟨fd, F⟩ : ∃ fd, FunD K "_law_told" "_law_told" (defArgs s_law_told) (defBody s_law_told) (defScope s_law_told) [] [] _ fd := (c.def_ 0); have F := DH.fun_of F; obtain ⟨oc, od, kV, doc, pm, an, cdv, ct, osl, rfl, lk, hcd⟩ := F.ex; exact ⟨_, oc, od, _, _, kV, doc, pm, cdv, ct, an, osl, _, _, _, _, _, _, _, _, _, _, _, _, _, _, DH.glo_ok X G (c.fact 44), F.kp, lk, hcd, Binds.all fun us hl => (match us, hl with | [_], _ => rfl), ⟨rfl, rfl, rfl, by decide +kernel, rfl, by decide +kernel, by decide +kernel⟩, rfl, rfl, rfl, rfl⟩),
  DH.fnx_of X G (c.fact 23) (c.def_ 1) (fun _ _ _ _ _ _ us hl => match us, hl with | [_], _ => rfl),
  DH.fnx_of X G (c.fact 24) (c.def_ 2) (fun _ _ _ _ _ _ us hl => match us, hl with | [_, _, _], _ => rfl),
  DH.fnx_of X G (c.fact 25) (c.def_ 3) (fun _ _ _ _ _ _ us hl => match us, hl with | [_, _, _], _ => rfl),
  DH.fnx_of X G (c.fact 26) (c.def_ 4) (fun _ _ _ _ _ _ us hl => match us, hl with | [_, _], _ => rfl),
  DH.fnx_of X G (c.fact 27) (c.def_ 5) (fun _ _ _ _ _ _ us hl => match us, hl with | [_, _], _ => rfl),
  DH.fnx_of X G (c.fact 28) (c.def_ 6) (fun _ _ _ _ _ _ us hl => match us, hl with | [_], _ => rfl),
  DH.fnx_of X G (c.fact 29) (c.def_ 7) (fun _ _ _ _ _ _ us hl => match us, hl with | [_, _, _], _ => rfl),
  DH.fnx_of X G (c.fact 30) (c.def_ 8) (fun _ _ _ _ _ _ us hl => match us, hl with | [_], _ => rfl),
  DH.fnx_of X G (c.fact 31) (c.def_ 9) (fun _ _ _ _ _ _ us hl => match us, hl with | [_], _ => rfl),
  DH.fnx_of X G (c.fact 32) (c.def_ 10) (fun _ _ _ _ _ _ us hl => match us, hl with | [_, _], _ => rfl),
  DH.fnx_of X G (c.fact 33) (c.def_ 11) (fun _ _ _ _ _ _ us hl => match us, hl with | [_, _, _], _ => rfl),
  DH.fnx_of X G (c.fact 34) (c.def_ 12) (fun _ _ _ _ _ _ us hl => match us, hl with | [_, _, _], _ => rfl),
  DH.fnx_of X G (c.fact 35) (c.def_ 13) (fun _ _ _ _ _ _ us hl => match us, hl with | [_], _ => rfl),
  DH.fnx_of X G (c.fact 36) (c.def_ 14) (fun _ _ _ _ _ _ us hl => match us, hl with | [_], _ => rfl),
  DH.fnx_of X G (c.fact 37) (c.def_ 15) (fun _ _ _ _ _ _ us hl => match us, hl with | [_], _ => rfl),
  DH.fnxL_of X G (c.fact 38) (c.fact 39) (c.def_ 16) (fun _ _ _ _ _ _ us hl => match us, hl with | [_], _ => rfl),
  DH.fnx_of X G (c.fact 40) (c.def_ 17) (fun _ _ _ _ _ _ us hl => match us, hl with | [_, _], _ => rfl),
  DH.fnxL_of X G (c.fact 41) (c.fact 42) (c.def_ 18) (fun _ _ _ _ _ _ us hl => match us, hl with | [_], _ => rfl)⟩
theorem all_mk {P qq : Program} {w : World} {K : PySem.W.Frag} {h : Heap} {mg : Str → Option Value} {fa : Addr} (X : K.In h) (G : h.Ns mainGlobals mg) (hfa : mg "law" = some (.ref fa)) (c : DH.SaysQ facts defs K) (hq : ∀ x ∈ (["_law_is_well_read", "law"] : List Str), ((PyProof.Rows.recsOf qq).any fun e => e.name == x) = true)
    : ∃ (fd : FuncData) (cs : List (Addr × Addr)) (T : List (Addr × Str)) (C : Addr) (cm : Cm), (∀ (s : Shared) (u : Value), BindsTo s fd ⟨[u], []⟩ [("script", u)]) ∧
      (∀ p ∈ cs, (∃ x, ((PyProof.Rows.recsOf qq).any fun e => e.name == x) = true ∧ PySem.W.tabIn K x = some p) ∧ K.lookup p.2 = none) ∧ (∀ t ∈ T, ∃ p ∈ cs, p.2 = t.1) ∧
      ∀ base : Heap, K.In base → base.Ns mainGlobals mg → (∀ p ∈ cs, LamX.TabB base mg p.1 p.2) → FnOk P w K mg base (L2.CX P w) 9 fa fd ["script"] (spD ⟨K, ⟨C, T⟩, cm⟩ law) := by
  have T := txt X G c
  have e := hfa.symm.trans (DH.glo_ok X G (c.fact 41))
  cases e
  obtain ⟨fd, F⟩ : ∃ fd, FunD K "law" "law" (defArgs s_law) (defBody s_law) (defScope s_law) [] [] (He.ga K "law") fd := (c.def_ 18)
  refine ⟨fd, [(DH.cA K "_law_is_well_read", DH.pA K "_law_is_well_read"), (DH.cA K "law", DH.pA K "law")], [(DH.pA K "_law_is_well_read", lamQ "_law_is_well_read"), (DH.pA K "law", lamQ "law")], 0, (DH.cmK K ["NoName", "NoDay", "NoHour", "NoMore", "NoShow", "NoSort", "NoStation", "NoRule", "Full", "Taken", "NoRights", "Settled", "TooLate", "NoRow", "NotLive", "TooLong", "NewsAhead", "Clash", "NoWish", "NoDeeds", "NoText"]), fun s v => (F.bindsA (ps := ["script"]) (fun _ _ _ _ _ _ us hl => match us, hl with | [_], _ => rfl)) s [v] rfl, ?_, ?_, fun base _ _ TB => ?_⟩
  · exact (List.forall_mem_cons.mpr ⟨⟨⟨"_law_is_well_read", hq _ (.head _), (DH.mk_ok (c.fact 39)).1⟩, (DH.mk_ok (c.fact 39)).2.1⟩, (List.forall_mem_cons.mpr ⟨⟨⟨"law", hq _ (.tail _ (.head _)), (DH.mk_ok (c.fact 42)).1⟩, (DH.mk_ok (c.fact 42)).2.1⟩, (List.forall_mem_nil _)⟩)⟩)
  · exact (List.forall_mem_cons.mpr ⟨⟨_, (.head _), rfl⟩, (List.forall_mem_cons.mpr ⟨⟨_, (.tail _ (.head _)), rfl⟩, (List.forall_mem_nil _)⟩)⟩)
  have tld : Tld P w K mg base ⟨0, [(DH.pA K "_law_is_well_read", lamQ "_law_is_well_read"), (DH.pA K "law", lamQ "law")]⟩ (DH.cmK K ["NoName", "NoDay", "NoHour", "NoMore", "NoShow", "NoSort", "NoStation", "NoRule", "Full", "Taken", "NoRights", "Settled", "TooLate", "NoRow", "NotLive", "TooLong", "NewsAhead", "Clash", "NoWish", "NoDeeds", "NoText"]) := ⟨T.er, d_law_class T, T.told⟩
  have M_law_is_well_read : Mkt base mg ⟨0, [(DH.pA K "_law_is_well_read", lamQ "_law_is_well_read"), (DH.pA K "law", lamQ "law")]⟩ "_law_is_well_read" (DH.cA K "_law_is_well_read") := ⟨DH.pA K "_law_is_well_read", TB _ (.head _), (.head _), DH.tab_uniq (of_decide_eq_true (c.fact 43)) rfl (.head _)⟩
  have M_law : Mkt base mg ⟨0, [(DH.pA K "_law_is_well_read", lamQ "_law_is_well_read"), (DH.pA K "law", lamQ "law")]⟩ "law" (DH.cA K "law") := ⟨DH.pA K "law", TB _ (.tail _ (.head _)), (.tail _ (.head _)), DH.tab_uniq (of_decide_eq_true (c.fact 43)) rfl (.tail _ (.head _))⟩
  have h_law_pick : Df P w K mg base ⟨0, [(DH.pA K "_law_is_well_read", lamQ "_law_is_well_read"), (DH.pA K "law", lamQ "law")]⟩ (DH.cmK K ["NoName", "NoDay", "NoHour", "NoMore", "NoShow", "NoSort", "NoStation", "NoRule", "Full", "Taken", "NoRights", "Settled", "TooLate", "NoRow", "NotLive", "TooLong", "NewsAhead", "Clash", "NoWish", "NoDeeds", "NoText"]) "_law_pick" 1 law_pick := d_law_pick T 
  have h_law_names : Df P w K mg base ⟨0, [(DH.pA K "_law_is_well_read", lamQ "_law_is_well_read"), (DH.pA K "law", lamQ "law")]⟩ (DH.cmK K ["NoName", "NoDay", "NoHour", "NoMore", "NoShow", "NoSort", "NoStation", "NoRule", "Full", "Taken", "NoRights", "Settled", "TooLate", "NoRow", "NotLive", "TooLong", "NewsAhead", "Clash", "NoWish", "NoDeeds", "NoText"]) "_law_names" 2 law_names := d_law_names T h_law_pick
  have h_law_drawn_rows : Df P w K mg base ⟨0, [(DH.pA K "_law_is_well_read", lamQ "_law_is_well_read"), (DH.pA K "law", lamQ "law")]⟩ (DH.cmK K ["NoName", "NoDay", "NoHour", "NoMore", "NoShow", "NoSort", "NoStation", "NoRule", "Full", "Taken", "NoRights", "Settled", "TooLate", "NoRow", "NotLive", "TooLong", "NewsAhead", "Clash", "NoWish", "NoDeeds", "NoText"]) "_law_drawn_rows" 3 law_drawn_rows := d_law_drawn_rows T h_law_names h_law_pick
  have h_law_guide_rows : Df P w K mg base ⟨0, [(DH.pA K "_law_is_well_read", lamQ "_law_is_well_read"), (DH.pA K "law", lamQ "law")]⟩ (DH.cmK K ["NoName", "NoDay", "NoHour", "NoMore", "NoShow", "NoSort", "NoStation", "NoRule", "Full", "Taken", "NoRights", "Settled", "TooLate", "NoRow", "NotLive", "TooLong", "NewsAhead", "Clash", "NoWish", "NoDeeds", "NoText"]) "_law_guide_rows" 4 law_guide_rows := d_law_guide_rows T h_law_drawn_rows h_law_pick
  have h_is_name : Df P w K mg base ⟨0, [(DH.pA K "_law_is_well_read", lamQ "_law_is_well_read"), (DH.pA K "law", lamQ "law")]⟩ (DH.cmK K ["NoName", "NoDay", "NoHour", "NoMore", "NoShow", "NoSort", "NoStation", "NoRule", "Full", "Taken", "NoRights", "Settled", "TooLate", "NoRow", "NotLive", "TooLong", "NewsAhead", "Clash", "NoWish", "NoDeeds", "NoText"]) "is_name" 1 is_name := d_is_name T 
  have h_is_number : Df P w K mg base ⟨0, [(DH.pA K "_law_is_well_read", lamQ "_law_is_well_read"), (DH.pA K "law", lamQ "law")]⟩ (DH.cmK K ["NoName", "NoDay", "NoHour", "NoMore", "NoShow", "NoSort", "NoStation", "NoRule", "Full", "Taken", "NoRights", "Settled", "TooLate", "NoRow", "NotLive", "TooLong", "NewsAhead", "Clash", "NoWish", "NoDeeds", "NoText"]) "is_number" 1 is_number := d_is_number T 
  have h_is_day : Df P w K mg base ⟨0, [(DH.pA K "_law_is_well_read", lamQ "_law_is_well_read"), (DH.pA K "law", lamQ "law")]⟩ (DH.cmK K ["NoName", "NoDay", "NoHour", "NoMore", "NoShow", "NoSort", "NoStation", "NoRule", "Full", "Taken", "NoRights", "Settled", "TooLate", "NoRow", "NotLive", "TooLong", "NewsAhead", "Clash", "NoWish", "NoDeeds", "NoText"]) "is_day" 2 is_day := d_is_day T h_is_number
  have h_is_guide_row : Df P w K mg base ⟨0, [(DH.pA K "_law_is_well_read", lamQ "_law_is_well_read"), (DH.pA K "law", lamQ "law")]⟩ (DH.cmK K ["NoName", "NoDay", "NoHour", "NoMore", "NoShow", "NoSort", "NoStation", "NoRule", "Full", "Taken", "NoRights", "Settled", "TooLate", "NoRow", "NotLive", "TooLong", "NewsAhead", "Clash", "NoWish", "NoDeeds", "NoText"]) "is_guide_row" 2 is_guide_row := d_is_guide_row T h_is_number h_is_name
  have h_do_follow : Df P w K mg base ⟨0, [(DH.pA K "_law_is_well_read", lamQ "_law_is_well_read"), (DH.pA K "law", lamQ "law")]⟩ (DH.cmK K ["NoName", "NoDay", "NoHour", "NoMore", "NoShow", "NoSort", "NoStation", "NoRule", "Full", "Taken", "NoRights", "Settled", "TooLate", "NoRow", "NotLive", "TooLong", "NewsAhead", "Clash", "NoWish", "NoDeeds", "NoText"]) "do_follow" 1 do_follow := d_do_follow T 
  have h_is_guide : Df P w K mg base ⟨0, [(DH.pA K "_law_is_well_read", lamQ "_law_is_well_read"), (DH.pA K "law", lamQ "law")]⟩ (DH.cmK K ["NoName", "NoDay", "NoHour", "NoMore", "NoShow", "NoSort", "NoStation", "NoRule", "Full", "Taken", "NoRights", "Settled", "TooLate", "NoRow", "NotLive", "TooLong", "NewsAhead", "Clash", "NoWish", "NoDeeds", "NoText"]) "is_guide" 3 is_guide := d_is_guide T h_is_name h_is_day h_is_guide_row h_do_follow
  have h_guide_text : Df P w K mg base ⟨0, [(DH.pA K "_law_is_well_read", lamQ "_law_is_well_read"), (DH.pA K "law", lamQ "law")]⟩ (DH.cmK K ["NoName", "NoDay", "NoHour", "NoMore", "NoShow", "NoSort", "NoStation", "NoRule", "Full", "Taken", "NoRights", "Settled", "TooLate", "NoRow", "NotLive", "TooLong", "NewsAhead", "Clash", "NoWish", "NoDeeds", "NoText"]) "guide_text" 4 guide_text := d_guide_text T h_is_guide
  have h_number_in : Df P w K mg base ⟨0, [(DH.pA K "_law_is_well_read", lamQ "_law_is_well_read"), (DH.pA K "law", lamQ "law")]⟩ (DH.cmK K ["NoName", "NoDay", "NoHour", "NoMore", "NoShow", "NoSort", "NoStation", "NoRule", "Full", "Taken", "NoRights", "Settled", "TooLate", "NoRow", "NotLive", "TooLong", "NewsAhead", "Clash", "NoWish", "NoDeeds", "NoText"]) "number_in" 1 number_in := d_number_in T 
  have h_row_in : Df P w K mg base ⟨0, [(DH.pA K "_law_is_well_read", lamQ "_law_is_well_read"), (DH.pA K "law", lamQ "law")]⟩ (DH.cmK K ["NoName", "NoDay", "NoHour", "NoMore", "NoShow", "NoSort", "NoStation", "NoRule", "Full", "Taken", "NoRights", "Settled", "TooLate", "NoRow", "NotLive", "TooLong", "NewsAhead", "Clash", "NoWish", "NoDeeds", "NoText"]) "row_in" 2 row_in := d_row_in T h_number_in
  have h_read_guide : Df P w K mg base ⟨0, [(DH.pA K "_law_is_well_read", lamQ "_law_is_well_read"), (DH.pA K "law", lamQ "law")]⟩ (DH.cmK K ["NoName", "NoDay", "NoHour", "NoMore", "NoShow", "NoSort", "NoStation", "NoRule", "Full", "Taken", "NoRights", "Settled", "TooLate", "NoRow", "NotLive", "TooLong", "NewsAhead", "Clash", "NoWish", "NoDeeds", "NoText"]) "read_guide" 5 read_guide := d_read_guide T h_number_in h_row_in h_guide_text
  have h_law_is_well_read : Df P w K mg base ⟨0, [(DH.pA K "_law_is_well_read", lamQ "_law_is_well_read"), (DH.pA K "law", lamQ "law")]⟩ (DH.cmK K ["NoName", "NoDay", "NoHour", "NoMore", "NoShow", "NoSort", "NoStation", "NoRule", "Full", "Taken", "NoRights", "Settled", "TooLate", "NoRow", "NotLive", "TooLong", "NewsAhead", "Clash", "NoWish", "NoDeeds", "NoText"]) "_law_is_well_read" 8 law_is_well_read := d_law_is_well_read T tld M_law_is_well_read h_read_guide h_guide_text
  have h_law_spoilt_rows : Df P w K mg base ⟨0, [(DH.pA K "_law_is_well_read", lamQ "_law_is_well_read"), (DH.pA K "law", lamQ "law")]⟩ (DH.cmK K ["NoName", "NoDay", "NoHour", "NoMore", "NoShow", "NoSort", "NoStation", "NoRule", "Full", "Taken", "NoRights", "Settled", "TooLate", "NoRow", "NotLive", "TooLong", "NewsAhead", "Clash", "NoWish", "NoDeeds", "NoText"]) "_law_spoilt_rows" 1 law_spoilt_rows := d_law_spoilt_rows T 
  exact d_law T tld M_law h_law_guide_rows h_law_names h_law_pick h_guide_text h_law_is_well_read h_law_spoilt_rows h_read_guide (DH.funL_of (c.fact 42) F)
end LK
namespace LK
open PySem L2 DL
/-! ### _law_pick -/
theorem pk_while (a b c d e : Option Val) : ∀ (n : Nat) (r t : Int), t < n → ∃ r' t', ∀ w, whileL law_pick_l2 law_pick_l1 (n + 1) [a, b, c, d, e, some (fz (.int r)), some (fz (.int t))] w = .next [a, b, c, d, e, some (fz (.int r')), some (fz (.int t'))] w := by
  intro n
  induction n with
  | zero =>
    intro r t h
    refine ⟨r, t, fun w => ?_⟩
    have h0 : ¬ (t > 0) := by omega
    by_cases hr : r > 0
    · simp [whileL, law_pick_l2, hr, h0]
    · simp [whileL, law_pick_l2, hr]
  | succ n ih =>
    intro r t h
    by_cases hr : r > 0
    · by_cases ht : t > 0
      · obtain ⟨r', t', e⟩ := ih (r / 840) (t - 1) (by omega)
        refine ⟨r', t', fun w => ?_⟩
        rw [whileL]
        have := cdiv r 840 (by decide) (by decide)
        simp [law_pick_l2, hr, ht]
        simp [law_pick_l1, this]
        exact e w
      · refine ⟨r, t, fun w => ?_⟩
        simp [whileL, law_pick_l2, hr, ht]
    · refine ⟨r, t, fun w => ?_⟩
      simp [whileL, law_pick_l2, hr]
noncomputable def pkR : DS := sSeq (whileL law_pick_l2 law_pick_l1 100000)
    (sSeq (sIf (tst (dOp gGt (dVar 5) (dC (.int 0)))) (sRet (dOp gMod (dOp gMod (dVar 5) (dC (.int 840))) (dVar 2))) sNext)
    (sSeq (sSetF 4 (dOp gMod (dOp gMul (dOp gAdd (dOp gMul (dVar 3) (dC (.int 31))) (dOp gMul (dC (.int 6151)) (dOp gAdd (dVar 1) (dC (.int 1))))) (dC (.int 40692))) (dC (.int 2147483399))))
    (sRet (dOp gMod (dOp gMod (dOp gAdd (dOp gMul (dVar 4) (dVar 4)) (dOp gDiv (dVar 4) (dC (.int 31)))) (dC (.int 2147483629))) (dVar 2)))))
theorem pick_tail (ns : List Int) (k m cell r0 t0 : Int) (ht : t0 < 90000) (hm : 0 < m) : ∃ p, 0 ≤ p ∧ p < m ∧ ∀ w, pkR [some (fz (.scr ns)), some (fz (.int k)), some (fz (.int m)), some (fz (.int cell)), none, some (fz (.int r0)), some (fz (.int t0))] w = .ret (fz (.int p)) w := by
  obtain ⟨r, t, e⟩ := pk_while (some (fz (.scr ns))) (some (fz (.int k))) (some (fz (.int m))) (some (fz (.int cell))) none 99999 r0 t0 (by omega)
  by_cases hr : r > 0
  · refine ⟨r % 840 % m, Int.emod_nonneg _ (by omega), Int.emod_lt_of_pos _ hm, fun w => ?_⟩
    simp only [pkR, sSeq_s]
    rw [e w]
    simp [hr, hm]
  · have a1 := cmulR cell 31 (by decide) (by decide)
    have a2 := cmulL 6151 (k + 1) (by decide) (by decide)
    have a3 := cmulR (cell * 31 + 6151 * (k + 1)) 40692 (by decide) (by decide)
    have h1 : 0 ≤ (cell * 31 + 6151 * (k + 1)) * 40692 % 2147483399 := Int.emod_nonneg _ (by decide)
    have h2 : (cell * 31 + 6151 * (k + 1)) * 40692 % 2147483399 < 2147483399 := Int.emod_lt_of_pos _ (by decide)
    obtain ⟨dr, hdr⟩ : ∃ dr, dr = (cell * 31 + 6151 * (k + 1)) * 40692 % 2147483399 := ⟨_, rfl⟩
    rw [← hdr] at h1 h2
    have a4 := cmulR dr dr (by omega) (by omega)
    have a5 := cdiv dr 31 (by decide) (by decide)
    refine ⟨(dr * dr + dr / 31) % 2147483629 % m, Int.emod_nonneg _ (by omega), Int.emod_lt_of_pos _ hm, fun w => ?_⟩
    simp only [pkR, sSeq_s]
    rw [e w]
    simp [hr, hm, a1, a2, a3, ← hdr, a4, a5]
theorem pick_ex (ns : List Int) (k m : Int) (hl : ns.length ≤ 63) (hk : 0 ≤ k) (hk2 : k < 90000) (hm : 0 < m) : ∃ p, 0 ≤ p ∧ p < m ∧ ∀ w, law_pick [.scr ns, .int k, .int m] w = .ok (fz (.int p)) w := by
  have c2 := cpow_10_18
  cases ns with
  | nil =>
    obtain ⟨p, h1, h2, e⟩ := pick_tail [] k m 0 0 k (by omega) hm
    refine ⟨p, h1, h2, fun w => ?_⟩
    have e := e w
    unfold pkR at e
    have c3 := cdiv 0 1000000000000000000 (by decide) (by decide)
    have c4 := cdiv k 1 (by decide) (by decide)
    simp [law_pick, fnD, law_pick_b, gEq_scrN, c2, c3, c4]
    simp at e
    rw [e]
  | cons n r =>
    have hL : (0 : Int) < (n :: r).length := by simp
    have i0 : 0 ≤ k % ((n :: r).length : Int) := Int.emod_nonneg _ (by omega)
    have i1 : k % ((n :: r).length : Int) < (n :: r).length := Int.emod_lt_of_pos _ hL
    obtain ⟨cell, hc⟩ : ∃ c, (n :: r)[(k % ((n :: r).length : Int)).toNat]? = some c := ⟨_, List.getElem?_eq_getElem (by omega)⟩
    obtain ⟨p, h1, h2, e⟩ := pick_tail (n :: r) k m cell (cell / 1000000000000000000) (k / ((n :: r).length : Int)) (by have := Int.ediv_le_self ((n :: r).length : Int) hk; omega) hm
    refine ⟨p, h1, h2, fun w => ?_⟩
    have e := e w
    unfold pkR at e
    have ha := atI_pos i0 i1
    rw [hc] at ha
    have hd := cdiv k ((n :: r).length) hL (by omega)
    have c3 := cdiv cell 1000000000000000000 (by decide) (by decide)
    have hmx : ¬ ((1 : Int) > ((n :: r).length : Int)) := by omega
    generalize (n :: r) = ns at *
    have hne : ns ≠ [] := by intro z; rw [z] at hL; simp at hL
    have hne2 : (ns != []) = true := by simp [hne]
    have hg : ∀ m m', gMod ⟨m, .int k⟩ ⟨m', .int ns.length⟩ w = .ok (fz (.int (k % (ns.length : Int)))) w := fun m m' => gMod_ii w m m' _ _ hL
    simp only [law_pick, fnD, law_pick_b]
    simp [gEq_scrN, gIx_scr, hne, hg, ha, hd, hmx, c2, c3]
    simp at e
    rw [e]
open Classical in
/-- the number drawn at k below m -/
noncomputable def pick (ns : List Int) (k m : Int) : Int := if h : ns.length ≤ 63 ∧ 0 ≤ k ∧ k < 90000 ∧ 0 < m then choose (pick_ex ns k m h.1 h.2.1 h.2.2.1 h.2.2.2) else 0
theorem pick_ok {ns : List Int} {k m : Int} (hl : ns.length ≤ 63) (hk : 0 ≤ k) (hk2 : k < 90000) (hm : 0 < m) : 0 ≤ pick ns k m ∧ pick ns k m < m ∧ ∀ w, law_pick [.scr ns, .int k, .int m] w = .ok (fz (.int (pick ns k m))) w := by
  unfold pick
  rw [dif_pos ⟨hl, hk, hk2, hm⟩]
  exact Classical.choose_spec (pick_ex ns k m hl hk hk2 hm)
/-! ### _law_names -/
/-- a drawn name: some letters and a mark, behind them or ahead -/
def NmK (fl : Bool) (c : Nat) (x : List Nat) : Prop := ∃ r : List Nat, r.length ≤ 5 ∧ (∀ z ∈ r, Lt z) ∧ Lt c ∧ x = if fl then r ++ [c] else c :: r
theorem names_rest (ns : List Int) (hl : ns.length ≤ 63) (at' k : Int) (h0 : 0 ≤ at') (h1 : at' < 1000) (k0 : 0 ≤ k) (k1 : k < 26) (a c e f : Option Val) (v : Int) (v0 : 0 ≤ v) (v5 : v ≤ 5) :
    ∃ (r : List Nat) (z : Option Val), r.length ≤ 5 ∧ (∀ z ∈ r, Lt z) ∧ ∀ w, forL (.nm 7) law_names_l1 (rngD 0 v.toNat) [some (fz (.scr ns)), some (fz (.int at')), a, some (fz (.int k)), some (fz (.str "abcdefghijklmnopqrstuvwxyz")), c, some (fz (.str "")), e, f] w =
      .next [some (fz (.scr ns)), some (fz (.int at')), a, some (fz (.int k)), some (fz (.str "abcdefghijklmnopqrstuvwxyz")), c, some (fz (.str (nm r))), z, f] w := by
  obtain ⟨ρ', h, r, z, hr, hz, e'⟩ := forL_pure (t := .nm 7) (b := law_names_l1) (I := fun i ρ => ∃ (r : List Nat) (z : Option Val), r.length = i ∧ (∀ z ∈ r, Lt z) ∧ ρ = [some (fz (.scr ns)), some (fz (.int at')), a, some (fz (.int k)), some (fz (.str "abcdefghijklmnopqrstuvwxyz")), c, some (fz (.str (nm r))), z, f])
    (rngD 0 v.toNat) 0 [some (fz (.scr ns)), some (fz (.int at')), a, some (fz (.int k)), some (fz (.str "abcdefghijklmnopqrstuvwxyz")), c, some (fz (.str "")), e, f] ⟨[], e, rfl, by simp, rfl⟩ (by
      rintro i d ρ hd ⟨r, z, hr, hz, rfl⟩
      obtain ⟨hi, rfl⟩ := rngD_get hd
      have p1 := pick_ok (ns := ns) (k := at' + 7 * k + (0 + (i : Int)) + 1) (m := 26) hl (by omega) (by omega) (by decide)
      generalize pick ns (at' + 7 * k + (0 + (i : Int)) + 1) 26 = p at p1
      have c1 := cmulL 7 k (by decide) (by decide)
      have l1 := letters_ix p1.1 p1.2.1
      have q := p1.2.2
      have hn : (nm r).length + (nm [97 + p.toNat]).length ≤ sizeLine := sz_le (by rw [nm_len, nm_len]; simp; omega)
      have ga : ∀ m m' w, gAdd ⟨m, .str (nm r)⟩ ⟨m', .str (nm [97 + p.toNat])⟩ w = .ok (fz (.str (nm (r ++ [97 + p.toNat])))) w := fun m m' w => by simp [gAdd, hn, nm_app]
      refine ⟨_, [some (fz (.scr ns)), some (fz (.int at')), a, some (fz (.int k)), some (fz (.str "abcdefghijklmnopqrstuvwxyz")), c, some (fz (.str (nm (r ++ [97 + p.toNat])))), some (fz (.int (0 + (i : Int)))), f], rfl, fun w => ?_, r ++ [97 + p.toNat], some (fz (.int (0 + (i : Int)))), ?_, ?_, rfl⟩
      · simp only [law_names_l1]
        simp at q
        simp [c1, q, l1, ga]
      · simp; omega
      · intro y hy
        rcases List.mem_append.mp hy with hy | hy
        · exact hz y hy
        · simp at hy; subst hy; unfold Lt; omega)
  refine ⟨r, z, ?_, hz, fun w => by rw [h w, e']⟩
  rw [hr]
  simp
  omega
theorem names_ex (ns : List Int) (hl : ns.length ≤ 63) (at' : Int) (h0 : 0 ≤ at') (h1 : at' < 1000) (many : Nat) (hm : many ≤ 26) :
    ∃ xs : List (List Nat), xs.length = many ∧ (∀ k (h : k < xs.length), NmK (decide (pick ns (at' + 61) 2 = 0)) (97 + ((pick ns (at' + 60) 26 + k) % 26).toNat) xs[k]) ∧ ∀ w, law_names [.scr ns, .int at', .int many] w = .ok ⟨.nw, .lst (xs.map fun x => .str (nm x))⟩ w := by
  have p2 := pick_ok (ns := ns) (k := at' + 60) (m := 26) hl (by omega) (by omega) (by decide)
  have p3 := pick_ok (ns := ns) (k := at' + 61) (m := 2) hl (by omega) (by omega) (by decide)
  obtain ⟨ρ', h, xs, z1, z2, z3, z4, hr, hz, e'⟩ := forL_pure (t := .nm 3) (b := law_names_l2) (I := fun i ρ => ∃ (xs : List (List Nat)) (z1 z2 z3 z4 : Option Val), xs.length = i ∧ (∀ k (h : k < xs.length), NmK (decide (pick ns (at' + 61) 2 = 0)) (97 + ((pick ns (at' + 60) 26 + k) % 26).toNat) xs[k]) ∧ ρ = [some (fz (.scr ns)), some (fz (.int at')), some (fz (.int many)), z1, some (fz (.str "abcdefghijklmnopqrstuvwxyz")), some ⟨.nw, .lst (xs.map fun x => .str (nm x))⟩, z2, z3, z4])
    (rngD 0 many) 0 [some (fz (.scr ns)), some (fz (.int at')), some (fz (.int many)), none, some (fz (.str "abcdefghijklmnopqrstuvwxyz")), some ⟨.nw, .lst []⟩, none, none, none] ⟨[], none, none, none, none, rfl, by simp, rfl⟩ (by
      rintro i d ρ hd ⟨xs, z1, z2, z3, z4, hx, hz, rfl⟩
      obtain ⟨hi, rfl⟩ := rngD_get hd
      have p1 := pick_ok (ns := ns) (k := at' + 7 * (0 + (i : Int))) (m := 5) hl (by omega) (by omega) (by decide)
      generalize pick ns (at' + 7 * (0 + (i : Int))) 5 = p at p1
      generalize hp2 : pick ns (at' + 60) 26 = q2 at p2 hz ⊢
      generalize hp3 : pick ns (at' + 61) 2 = q3 at p3 hz ⊢
      have c1 := cmulL 7 (i : Int) (by decide) (by decide)
      obtain ⟨v, hv, ev⟩ : ∃ v ∈ [0, 0, 1, 2, 5], atI [D.int 0, D.int 0, D.int 1, D.int 2, D.int 5] p = some (.int v) := atI_ints [0, 0, 1, 2, 5] p p1.1 p1.2.1
      have hv5 : 0 ≤ v ∧ v ≤ 5 := by simp at hv; omega
      have i0 : 0 ≤ (q2 + (i : Int)) % 26 := Int.emod_nonneg _ (by decide)
      have i1 : (q2 + (i : Int)) % 26 < 26 := Int.emod_lt_of_pos _ (by decide)
      obtain ⟨r, zz, r5, rl, er⟩ := names_rest ns hl at' (0 + (i : Int)) h0 h1 (by omega) (by omega) (some (fz (.int many))) (some ⟨.nw, .lst (xs.map fun x => .str (nm x))⟩) z3 z4 v hv5.1 hv5.2
      have l1 := letters_ix i0 i1
      have q1 := p1.2.2
      have w2 := p2.2.2
      have w3 := p3.2.2
      generalize hcc : 97 + ((q2 + (i : Int)) % 26).toNat = cc at l1
      have ltc : Lt cc := by unfold Lt; omega
      have hn : (nm r).length + (nm [cc]).length ≤ sizeLine := sz_le (by rw [nm_len, nm_len]; simp; omega)
      have hn' : (nm [cc]).length + (nm r).length ≤ sizeLine := sz_le (by rw [nm_len, nm_len]; simp; omega)
      have ga : ∀ m m' w, gAdd ⟨m, .str (nm r)⟩ ⟨m', .str (nm [cc])⟩ w = .ok (fz (.str (nm (r ++ [cc])))) w := fun m m' w => by simp [gAdd, hn, nm_app]
      have gb : ∀ m m' w, gAdd ⟨m, .str (nm [cc])⟩ ⟨m', .str (nm r)⟩ w = .ok (fz (.str (nm (cc :: r)))) w := fun m m' w => by simp [gAdd, hn', nm_app]
      have hsz : xs.length < sizeLine := sz_lt (by omega)
      have hv2 : RO v := ro (by omega) (by omega)
      refine ⟨_, [some (fz (.scr ns)), some (fz (.int at')), some (fz (.int many)), some (fz (.int (0 + (i : Int)))), some (fz (.str "abcdefghijklmnopqrstuvwxyz")), some ⟨.nw, .lst ((xs ++ [if decide (q3 = 0) then r ++ [cc] else cc :: r]).map fun x => .str (nm x))⟩, some (fz (.str (nm r))), zz, some (fz (.str (nm [cc])))], rfl, fun w => ?_, xs ++ [if decide (q3 = 0) then r ++ [cc] else cc :: r], some (fz (.int (0 + (i : Int)))), some (fz (.str (nm r))), zz, some (fz (.str (nm [cc]))), by simp; omega, ?_, rfl⟩
      · simp only [law_names_l2]
        simp at q1 er
        by_cases hq : q3 = 0
        · simp [c1, q1, ev, hv2, er, w2, w3, l1, ga, hq, hsz]
        · simp [c1, q1, ev, hv2, er, w2, w3, l1, gb, hq, hsz]
      · intro k hk
        by_cases hk2 : k < xs.length
        · rw [List.getElem_append_left hk2]
          exact hz k hk2
        · have : k = xs.length := by simp at hk; omega
          subst this
          simp only [List.getElem_concat_length]
          refine ⟨r, r5, rl, ?_, ?_⟩
          · rw [hx, Nat.zero_add, hcc]; exact ltc
          · rw [hx, Nat.zero_add, hcc])
  refine ⟨xs, by rw [hr]; simp, hz, fun w => ?_⟩
  have hro : RO (many : Int) := ro (by omega) (by omega)
  simp [law_names, fnD, law_names_b, hro]
  rw [h w, e']
  rfl
/-! ### is_number -/
def numB (d : D) (lo hi : Int) : Bool := match d with
  | .int i => decide (lo ≤ i) && decide (i ≤ hi)
  | _ => false
/-- data that a look may take: no object, no text too long -/
def okD (d : D) : Bool := match d with
  | .str x => decide (x.length ≤ 10000)
  | .obj _ => false
  | .exc _ => false
  | .dK _ => false
  | .dT _ => false
  | _ => true
theorem is_number_ok (d : D) (lo hi : Int) (h : okD d = true) (w : W) : is_number [d, .int lo, .int hi] w = .ok (fz (.bl (numB d lo hi))) w := by
  cases d <;> simp [is_number, fnD, is_number_b, gIsiT, gIsi, tyD, numB] <;> try (simp [okD] at h; done)
  rename_i i
  by_cases h1 : lo ≤ i
  · simp [h1]
  · simp [h1]
/-! ### is_name -/
def isL (c : Nat) : Bool := decide (97 ≤ c) && decide (c ≤ 122)
def nameL (cs : List Nat) : Bool := decide (1 ≤ cs.length) && decide (cs.length ≤ 6) && cs.all isL
def nameB (d : D) : Bool := match d with
  | .str x => nameL x.cps.toList
  | _ => false
theorem letters_mem (c : Nat) : (c ∈ (Str.ofString "abcdefghijklmnopqrstuvwxyz").cps.toList) ↔ isL c = true := by
  have e : (Str.ofString "abcdefghijklmnopqrstuvwxyz").cps.toList = List.range' 97 26 := by decide +kernel
  rw [e, List.mem_range'_1]
  unfold isL
  simp
  omega
theorem is_name_ok (d : D) (h : okD d = true) (w : W) : is_name [d] w = .ok (fz (.bl (nameB d))) w := by
  cases d <;> simp [is_name, fnD, is_name_b, gIsiT, gIsi, tyD, nameB] <;> try (simp [okD] at h; done)
  rename_i x
  have hs : x.length ≤ sizeLine := sz_le (by simpa [okD] using h)
  have hl : x.length = x.cps.toList.length := by simp [Str.length]
  have gl : ∀ m w, gLen [⟨m, .str x⟩] w = .ok (fz (.int x.length)) w := fun m w => by simp [gLen, hs]
  have e1 : dLc (iSq (dVar 0)) (.nm 1) tYesD (dOp (gIn false) (dVar 1) (dC (.str "abcdefghijklmnopqrstuvwxyz"))) [1] [some (fz (.str x)), none] w = .ok ⟨.nw, .lst (x.cps.toList.map fun c => .bl (isL c))⟩ w := by
    refine dLc_ok (b := true) (ds := sgnD x) (by simp [iSq]) (by simpa [sgnD, Str.length] using hs) ?_
    refine lcL_all (fun c : Nat => D.str ⟨#[c]⟩) (fun c => .bl (isL c)) x.cps.toList (fun c _ => ⟨_, rfl, .fz, rfl, fun w => ?_⟩) w
    simp only [dOp_s, dVar_s, List.set_cons_succ, List.set_cons_zero, wipeD_cons, wipeD_nil]
    simp [gIn, sgn]
    have := letters_mem c
    simp at this
    by_cases hc : isL c = true
    · simp [hc, this]
    · simp [hc, this]
  have a1 := gAll_map isL x.cps.toList .nw
  unfold nameL
  rw [← hl]
  by_cases h1 : 1 ≤ x.length
  · have h1' : (1 : Int) ≤ (x.length : Int) := by omega
    by_cases h2 : x.length ≤ 6
    · have h2' : (x.length : Int) ≤ 6 := by omega
      simp [gl, h1, h2, h1', h2', e1, a1]
    · have h2' : ¬ (x.length : Int) ≤ 6 := by omega
      simp [gl, h1, h2, h1', h2']
  · have h1' : ¬ (1 : Int) ≤ (x.length : Int) := by omega
    simp [gl, h1, h1']
theorem nmK_name {fl : Bool} {c : Nat} {x : List Nat} (h : NmK fl c x) : nameL x = true := by
  obtain ⟨r, hr, hl, hc, rfl⟩ := h
  have : ∀ z, Lt z → isL z = true := fun z hz => by unfold isL; have := hz.1; have := hz.2; simp; omega
  have hr' : r.all isL = true := List.all_eq_true.mpr fun z hz => this z (hl z hz)
  have hc' := this c hc
  have h5 : r.length ≤ 5 := hr
  cases fl
  · simp only [nameL, Bool.false_eq_true, if_false, List.length_cons, List.all_cons, hc', hr']
    simp; omega
  · simp only [nameL, if_true, List.length_append, List.length_cons, List.length_nil, List.all_append, List.all_cons, List.all_nil, hc', hr']
    simp; omega
theorem nm_cps (x : List Nat) : (nm x).cps.toList = x := by simp [nm]
/-! ### split at one sign -/
def jl (c : Nat) : List (List Nat) → List Nat
  | [] => []
  | [p] => p
  | p :: q :: r => p ++ c :: jl c (q :: r)
theorem sep_inj {c : Nat} : ∀ {p q x y : List Nat}, c ∉ p → c ∉ q → p ++ c :: x = q ++ c :: y → p = q ∧ x = y
  | [], [], x, y, _, _, h => by simpa using h
  | [], b :: q, x, y, _, h2, h => by
    simp only [List.nil_append, List.cons_append, List.cons.injEq] at h
    exact absurd (by rw [h.1]; exact List.mem_cons_self) h2
  | a :: p, [], x, y, h1, _, h => by
    simp only [List.nil_append, List.cons_append, List.cons.injEq] at h
    exact absurd (by rw [← h.1]; exact List.mem_cons_self) h1
  | a :: p, b :: q, x, y, h1, h2, h => by
    simp only [List.cons_append, List.cons.injEq] at h
    obtain ⟨e, r⟩ := sep_inj (fun z => h1 (List.mem_cons_of_mem _ z)) (fun z => h2 (List.mem_cons_of_mem _ z)) h.2
    exact ⟨by rw [h.1, e], r⟩
theorem jl_inj {c : Nat} : ∀ (l1 l2 : List (List Nat)), l1 ≠ [] → l2 ≠ [] → (∀ p ∈ l1, c ∉ p) → (∀ p ∈ l2, c ∉ p) → jl c l1 = jl c l2 → l1 = l2
  | [], _, h, _, _, _, _ => absurd rfl h
  | _, [], _, h, _, _, _ => absurd rfl h
  | [p], [q], _, _, _, _, h => by simp only [jl] at h; rw [h]
  | [p], q :: q2 :: r, _, _, h1, _, h => by
    simp only [jl] at h
    exact absurd (by rw [h]; simp) (h1 p List.mem_cons_self)
  | p :: p2 :: r, [q], _, _, _, h2, h => by
    simp only [jl] at h
    exact absurd (by rw [← h]; simp) (h2 q List.mem_cons_self)
  | p :: p2 :: r, q :: q2 :: t, _, _, h1, h2, h => by
    simp only [jl] at h
    obtain ⟨e1, e2⟩ := sep_inj (h1 p List.mem_cons_self) (h2 q List.mem_cons_self) h
    rw [e1, jl_inj (p2 :: r) (q2 :: t) (by simp) (by simp) (fun z hz => h1 z (List.mem_cons_of_mem _ hz)) (fun z hz => h2 z (List.mem_cons_of_mem _ hz)) e2]
theorem join_jl (c : Nat) : ∀ ts : List Str, (Str.join ⟨#[c]⟩ ts).cps.toList = jl c (ts.map fun t => t.cps.toList)
  | [] => rfl
  | [x] => rfl
  | x :: y :: r => by
    have ih := join_jl c (y :: r)
    show (x ++ ⟨#[c]⟩ ++ Str.join ⟨#[c]⟩ (y :: r)).cps.toList = _
    have e : (x ++ ⟨#[c]⟩ ++ Str.join ⟨#[c]⟩ (y :: r)).cps.toList = x.cps.toList ++ c :: (Str.join ⟨#[c]⟩ (y :: r)).cps.toList := by
      show ((x.cps ++ #[c]) ++ (Str.join ⟨#[c]⟩ (y :: r)).cps).toList = _
      simp
    rw [e, ih]
    rfl
theorem split_jl (x : Str) (c : Nat) (ps : List (List Nat)) (hn : ps ≠ []) (hf : ∀ p ∈ ps, c ∉ p) (h : x.cps.toList = jl c ps) : (Txt.split x ⟨#[c]⟩).map (fun t => t.cps.toList) = ps := by
  have h1 := StrLaws.join_split x ⟨#[c]⟩
  have h2 := join_jl c (Txt.split x ⟨#[c]⟩)
  rw [h1, h] at h2
  refine (jl_inj ps _ hn ?_ hf ?_ h2).symm
  · intro z
    have := PyProof.Rows.split_pos x ⟨#[c]⟩
    rw [List.map_eq_nil_iff] at z
    rw [z] at this
    simp at this
  · intro p hp
    obtain ⟨t, ht, rfl⟩ := List.mem_map.mp hp
    exact StrLaws.split_free x c t ht
/-! ### rows of a guide -/
theorem is_day_ok (d : D) (h : okD d = true) (w : W) : is_day [d] w = .ok (fz (.bl (numB d 0 99))) w := by
  have := is_number_ok d 0 99 h w
  simp [is_day, fnD, is_day_b, this]
def bangB (d : D) : Bool := match d with
  | .str x => decide (x = ("!" : Str))
  | _ => false
def ltB (a b : D) : Bool := match a, b with
  | .int i, .int j => decide (i < j)
  | _, _ => false
def gRowB (d : D) : Bool := match d with
  | .tup [b, e, s, n] => numB b 0 23 && numB e 1 24 && ltB b e && nameB s && (nameB n || bangB n)
  | _ => false
def txtB (d : D) : Bool := match d with
  | .str x => PyData.strOk x
  | _ => true
theorem gEq_str (x y : Str) (hx : PyData.strOk x = true) (hy : PyData.strOk y = true) (b : Bool) (m m' : Md) (w : W) : gEq b ⟨m, .str x⟩ ⟨m', .str y⟩ w = .ok (fz (.bl (b != decide (x = y)))) w := by
  have e : (x == y) = decide (x = y) := by by_cases h : x = y <;> simp [h]
  simp [gEq, pl, plN, eqD, hx, hy, e]
theorem bang_ok : PyData.strOk ("!" : Str) = true := by decide +kernel
theorem guide_row4 (b e s n : D) (ob : okD b = true) (oe : okD e = true) (os : okD s = true) (on : okD n = true) (tn : txtB n = true) (w : W) : is_guide_row [.tup [b, e, s, n]] w = .ok (fz (.bl (gRowB (.tup [b, e, s, n])))) w := by
  have e1 := is_number_ok b 0 23 ob
  have e2 := is_number_ok e 1 24 oe
  have e3 := is_name_ok s os
  have e4 := is_name_ok n on
  have z4 : (4 : Nat) ≤ sizeLine := sz_le (by decide)
  by_cases h1 : numB b 0 23 = true
  · by_cases h2 : numB e 1 24 = true
    · cases b <;> try (simp [numB] at h1; done)
      cases e <;> try (simp [numB] at h2; done)
      rename_i i j
      by_cases h3 : i < j
      · have h3' : ¬ (i ≥ j) := by omega
        by_cases h4 : nameB s = true
        · by_cases h5 : nameB n = true
          · simp [is_guide_row, fnD, is_guide_row_b, gIsiT, gIsi, tyD, gLen, z4, sSetT, e1, e2, e3, e4, h1, h2, h3, h3', h4, h5, gRowB, ltB]
          · have h5' : nameB n = false := by simpa using h5
            cases n
            case str x =>
              have q := fun m m' w => gEq_str x (Str.ofString "!") tn bang_ok false m m' w
              simp [is_guide_row, fnD, is_guide_row_b, gIsiT, gIsi, tyD, gLen, z4, sSetT, e1, e2, e3, e4, h1, h2, h3, h3', h4, h5', gRowB, ltB, bangB, q]
            all_goals first
              | (simp [okD] at on; done)
              | simp [is_guide_row, fnD, is_guide_row_b, gIsiT, gIsi, tyD, gLen, z4, sSetT, e1, e2, e3, e4, h1, h2, h3, h3', h4, h5', gRowB, ltB, bangB]
        · simp [is_guide_row, fnD, is_guide_row_b, gIsiT, gIsi, tyD, gLen, z4, sSetT, e1, e2, e3, h1, h2, h3, h3', h4, gRowB, ltB]
      · have h3' : i ≥ j := by omega
        simp [is_guide_row, fnD, is_guide_row_b, gIsiT, gIsi, tyD, gLen, z4, sSetT, e1, e2, h1, h2, h3, h3', gRowB, ltB]
    · simp [is_guide_row, fnD, is_guide_row_b, gIsiT, gIsi, tyD, gLen, z4, sSetT, e1, e2, h1, h2, gRowB]
  · simp [is_guide_row, fnD, is_guide_row_b, gIsiT, gIsi, tyD, gLen, z4, sSetT, e1, h1, gRowB]
def okG (d : D) : Bool := match d with
  | .tup ds => ds.all (fun x => okD x && txtB x) && decide (ds.length ≤ 1000)
  | d => okD d
theorem guide_row_ok (d : D) (o : okG d = true) (w : W) : is_guide_row [d] w = .ok (fz (.bl (gRowB d))) w := by
  cases d with
  | tup ds =>
    simp only [okG, Bool.and_eq_true, List.all_eq_true, decide_eq_true_eq] at o
    obtain ⟨oa, ol⟩ := o
    by_cases h4 : ds.length = 4
    · match ds, h4 with
      | [b, e, s, n], _ =>
        have k := fun x hx => oa x hx
        exact guide_row4 b e s n (k b (by simp)).1 (k e (by simp)).1 (k s (by simp)).1 (k n (by simp)).1 (k n (by simp)).2 w
    · have z : ds.length ≤ sizeLine := sz_le (by omega)
      have g : gRowB (.tup ds) = false := by
        match ds, h4 with
        | [], _ => rfl
        | [_], _ => rfl
        | [_, _], _ => rfl
        | [_, _, _], _ => rfl
        | [_, _, _, _], h => exact absurd rfl h
        | _ :: _ :: _ :: _ :: _ :: _, _ => rfl
      have h4' : ¬ ((ds.length : Int) = 4) := by omega
      simp [is_guide_row, fnD, is_guide_row_b, gIsiT, gIsi, tyD, gLen, z, h4, h4', g]
  | _ => first
    | (simp [okG, okD] at o; done)
    | simp [is_guide_row, fnD, is_guide_row_b, gIsiT, gIsi, tyD, gRowB]
/-! ### what can come behind a row -/
theorem follow_ok (b e b2 e2 : Int) (s s2 n n2 : Str) (hs : PyData.strOk s = true) (hs2 : PyData.strOk s2 = true) (hn : PyData.strOk n = true) (hn2 : PyData.strOk n2 = true) (w : W) :
    do_follow [.tup [.int b, .int e, .str s, .str n], .tup [.int b2, .int e2, .str s2, .str n2]] w = .ok (fz (.bl (decide (e < b2) || decide (e = b2) && !(decide (s = s2) && decide (n = n2))))) w := by
  have a1 : ∀ a b c d : D, atI [a, b, c, d] 1 = some b := fun _ _ _ _ => rfl
  have a0 : ∀ a b c d : D, atI [a, b, c, d] 0 = some a := fun _ _ _ _ => rfl
  have c2 : ∀ (a b c d : D) (md : Md) (w : W), gSl ⟨md, .tup [a, b, c, d]⟩ (some 2) none w = .ok (fz (.tup [c, d])) w := fun a b c d md w => by
    have cu : cutL [a, b, c, d] (some 2) none = [c, d] := rfl
    simp [gSl, cu]; decide
  have q : ∀ m m' w, gEq true ⟨m, .tup [.str s, .str n]⟩ ⟨m', .tup [.str s2, .str n2]⟩ w = .ok (fz (.bl (!(decide (s = s2) && decide (n = n2))))) w := fun m m' w => by
    have e1 : (s == s2) = decide (s = s2) := by by_cases h : s = s2 <;> simp [h]
    have e2 : (n == n2) = decide (n = n2) := by by_cases h : n = n2 <;> simp [h]
    simp [gEq, pl, plN, eqD, eqDs, hs, hs2, hn, hn2, e1, e2]
  by_cases h1 : e < b2
  · simp [do_follow, fnD, do_follow_b, a0, a1, h1]
  · by_cases h2 : e = b2
    · subst h2
      simp [do_follow, fnD, do_follow_b, a0, a1, c2, q]
    · have h2' : (e == b2) = false := by simp [h2]
      simp [do_follow, fnD, do_follow_b, a0, a1, h1, h2, h2']
/-! ### is_guide -/
structure G4 where
  b : Int
  e : Int
  s : Str
  n : Str
def rowG (r : G4) : D := .tup [.int r.b, .int r.e, .str r.s, .str r.n]
def folG (r t : G4) : Bool := decide (r.e < t.b) || decide (r.e = t.b) && !(decide (r.s = t.s) && decide (r.n = t.n))
def folL : List G4 → Bool
  | r :: t :: l => folG r t && folL (t :: l)
  | _ => true
def pairsG : List G4 → List (G4 × G4)
  | r :: t :: l => (r, t) :: pairsG (t :: l)
  | _ => []
theorem zip_pairs : ∀ rs : List G4, zipD (rs.map rowG) ((rs.map rowG).drop 1) = (pairsG rs).map fun p => .tup [rowG p.1, rowG p.2]
  | [] => rfl
  | [_] => rfl
  | r :: t :: l => by
    have ih := zip_pairs (t :: l)
    simp only [List.map_cons, List.drop_succ_cons, List.drop_zero] at ih ⊢
    simp only [zipD, pairsG, List.map_cons]
    rw [← ih]
theorem fol_all : ∀ rs : List G4, ((pairsG rs).map fun p => folG p.1 p.2).all id = folL rs
  | [] => rfl
  | [_] => rfl
  | r :: t :: l => by
    simp only [pairsG, List.map_cons, List.all_cons, folL, fol_all (t :: l), id]
def okG4 (r : G4) : Prop := PyData.strOk r.s = true ∧ PyData.strOk r.n = true ∧ okD (.str r.s) = true ∧ okD (.str r.n) = true
theorem okG_row {r : G4} (h : okG4 r) : okG (rowG r) = true := by
  obtain ⟨h1, h2, h3, h4⟩ := h
  simp [okG, rowG, h3, h4, txtB, h1, h2]
  exact ⟨rfl, rfl⟩
theorem guide_lc1 (rs : List D) (hz : rs.length ≤ 1000) (ho : ∀ d ∈ rs, okG d = true) (s d : D) (z3 z4 z5 : Option Val) (w : W) : dLc (iSq (dVar 2)) (.nm 3) tYesD (dCall is_guide_row [] (dOne (dVar 3))) [3] [some (fz s), some (fz d), some (fz (.lst rs)), z3, z4, z5] w = .ok ⟨.nw, .lst (rs.map fun d => .bl (gRowB d))⟩ w := by
  refine dLc_ok (b := true) (r := rs.map fun d => .bl (gRowB d)) (ds := rs) ?_ (sz_le (by omega)) ?_
  · simp [iSq]
  · have := lcL_all (fun d : D => d) (fun d => D.bl (gRowB d)) (t := .nm 3) (f := dCall is_guide_row [] (dOne (dVar 3))) (ρ := wipeD [some (fz s), some (fz d), some (fz (.lst rs)), z3, z4, z5] [3]) rs fun x hx => ⟨_, rfl, .fz, rfl, fun w => by simp [wipeD, guide_row_ok x (ho x hx)]⟩
    simpa using this w
/-- a guide is refused for its station, its day, or one of its rows -/
theorem is_guide_no (s d : D) (rs : List D) (os : okD s = true) (od : okD d = true) (hz : rs.length ≤ 1000) (ho : ∀ d ∈ rs, okG d = true) (h : (nameB s && numB d 0 99 && rs.all gRowB) = false) (w : W) : is_guide [s, d, .lst rs] w = .ok (fz (.bl false)) w := by
  have e1 := is_name_ok s os
  have e2 := is_day_ok d od
  have lc := fun w => guide_lc1 rs hz ho s d none none none w
  by_cases h1 : nameB s = true
  · by_cases h2 : numB d 0 99 = true
    · have h3 : rs.all gRowB = false := by simpa [h1, h2] using h
      simp [is_guide, fnD, is_guide_b, e1, e2, h1, h2, gIsiT, gIsi, tyD, lc, gAll_map, h3]
    · simp [is_guide, fnD, is_guide_b, e1, e2, h1, h2]
  · simp [is_guide, fnD, is_guide_b, e1, h1]
theorem is_guide_noL (s d x : D) (os : okD s = true) (od : okD d = true) (ox : okD x = true) (h : ∀ l, x ≠ .lst l) (h' : ∀ l, x ≠ .scr l) (w : W) : is_guide [s, d, x] w = .ok (fz (.bl false)) w := by
  have e1 := is_name_ok s os
  have e2 := is_day_ok d od
  by_cases h1 : nameB s = true
  · by_cases h2 : numB d 0 99 = true
    · cases x <;> first
        | (exact absurd rfl (h _))
        | (exact absurd rfl (h' _))
        | (simp [okD] at ox; done)
        | simp [is_guide, fnD, is_guide_b, e1, e2, h1, h2, gIsiT, gIsi, tyD]
    · simp [is_guide, fnD, is_guide_b, e1, e2, h1, h2]
  · simp [is_guide, fnD, is_guide_b, e1, h1]
/-! ### is_guide of typed rows -/
theorem pairs_len : ∀ rs : List G4, (pairsG rs).length ≤ rs.length
  | [] => Nat.le_refl _
  | [_] => by simp [pairsG]
  | r :: t :: l => by have := pairs_len (t :: l); simp only [pairsG, List.length_cons] at *; omega
theorem pairs_mem : ∀ {rs : List G4} {p : G4 × G4}, p ∈ pairsG rs → p.1 ∈ rs ∧ p.2 ∈ rs
  | [], p, h => by simp [pairsG] at h
  | [_], p, h => by simp [pairsG] at h
  | r :: t :: l, p, h => by
    simp only [pairsG, List.mem_cons] at h
    rcases h with rfl | h
    · exact ⟨by simp, by simp⟩
    · obtain ⟨h1, h2⟩ := pairs_mem (rs := t :: l) h
      exact ⟨List.mem_cons_of_mem _ h1, List.mem_cons_of_mem _ h2⟩
theorem guide_lc2 (rs : List G4) (hz : rs.length ≤ 1000) (ho : ∀ r ∈ rs, okG4 r) (s d : D) (z3 z4 z5 : Option Val) (w : W) : dLc (iZ (dCons (dVar 2) (dOne (dSl (dVar 2) (dPart (dC (.int 1))) dNo)))) (.tp [4, 5]) tYesD (dCall do_follow [] (dCons (dVar 4) (dOne (dVar 5)))) [4, 5] [some (fz s), some (fz d), some (fz (.lst (rs.map rowG))), z3, z4, z5] w = .ok ⟨.nw, .lst ((pairsG rs).map fun p => .bl (folG p.1 p.2))⟩ w := by
  have hl := pairs_len rs
  refine dLc_ok (b := true) (r := (pairsG rs).map fun p => .bl (folG p.1 p.2)) (ds := (pairsG rs).map fun p => .tup [rowG p.1, rowG p.2]) ?_ (sz_le (by simp; omega)) ?_
  · have c1 : cutL (rs.map rowG) (some 1) none = (rs.map rowG).drop 1 := cutL_from (rs.map rowG) 1
    simp [iZ, c1, frzD]
    simpa using zip_pairs rs
  · have := lcL_all (fun p : G4 × G4 => D.tup [rowG p.1, rowG p.2]) (fun p => D.bl (folG p.1 p.2)) (t := .tp [4, 5]) (f := dCall do_follow [] (dCons (dVar 4) (dOne (dVar 5)))) (ρ := wipeD [some (fz s), some (fz d), some (fz (.lst (rs.map rowG))), z3, z4, z5] [4, 5]) (pairsG rs) fun p hp => ⟨_, rfl, .fz, rfl, fun w => by
      obtain ⟨m1, m2⟩ := pairs_mem hp
      obtain ⟨a1, a2, _, _⟩ := ho _ m1
      obtain ⟨b1, b2, _, _⟩ := ho _ m2
      have := follow_ok p.1.b p.1.e p.2.b p.2.e p.1.s p.2.s p.1.n p.2.n a1 b1 a2 b2 w
      simp [wipeD, setAll, rowG, this, folG]⟩
    simpa using this w
theorem okD_name {d : D} (q : nameB d = true) : okD d = true := by
  cases d <;> simp [nameB] at q
  rename_i x
  simp [nameL] at q
  have h6 := q.1.2
  refine decide_eq_true ?_
  show x.cps.size ≤ 10000
  omega
theorem is_guide_ok (s d : D) (rs : List G4) (os : nameB s = true) (od : numB d 0 99 = true) (hz : rs.length ≤ 1000) (ho : ∀ r ∈ rs, okG4 r) (hr : ∀ r ∈ rs, gRowB (rowG r) = true) (w : W) : is_guide [s, d, .lst (rs.map rowG)] w = .ok (fz (.bl (folL rs))) w := by
  have os' : okD s = true := okD_name os
  have od' : okD d = true := by cases d <;> first | rfl | (simp [numB] at od; done)
  have e1 := is_name_ok s os'
  have e2 := is_day_ok d od'
  have lc := fun w => guide_lc1 (rs.map rowG) (by simpa using hz) (fun x hx => by obtain ⟨r, h, rfl⟩ := List.mem_map.mp hx; exact okG_row (ho r h)) s d none none none w
  have lc2 := fun w => guide_lc2 rs hz ho s d none none none w
  have h3 : (rs.map rowG).all gRowB = true := by
    rw [List.all_eq_true]
    intro x hx
    obtain ⟨r, h, rfl⟩ := List.mem_map.mp hx
    exact hr r h
  have ga := fun m w => gAll_map (fun p : G4 × G4 => folG p.1 p.2) (pairsG rs) m w
  have fa : (pairsG rs).all (fun p => folG p.1 p.2) = folL rs := by rw [← fol_all rs, List.all_map]; rfl
  simp only [fa] at ga
  have ga1 := fun m w => gAll_map gRowB (rs.map rowG) m w
  simp only [h3] at ga1
  generalize rs.map rowG = L at *
  simp [is_guide, fnD, is_guide_b, e1, e2, os, od, gIsiT, gIsi, tyD, lc, ga1, lc2, ga]
/-! ### numbers that words write -/
def isF (c : Nat) : Bool := decide (48 ≤ c) && decide (c ≤ 57)
theorem figs_mem (c : Nat) : (c ∈ (Str.ofString "0123456789").cps.toList) ↔ isF c = true := by
  have e : (Str.ofString "0123456789").cps.toList = List.range' 48 10 := by decide +kernel
  rw [e, List.mem_range'_1]
  unfold isF
  simp
  omega
def wrdB (x : Str) : Bool := decide (1 ≤ x.length) && decide (x.length ≤ 2) && x.cps.toList.all isF
theorem number_lc (x : Str) (hz : x.length ≤ 10000) (z : Option Val) (w : W) : dLc (iSq (dVar 0)) (.nm 1) tYesD (dOp (gIn false) (dVar 1) (dC (.str "0123456789"))) [1] [some (fz (.str x)), z] w = .ok ⟨.nw, .lst (x.cps.toList.map fun c => .bl (isF c))⟩ w := by
  have hs : x.length ≤ sizeLine := sz_le hz
  refine dLc_ok (b := true) (ds := sgnD x) (by simp [iSq]) (by simpa [sgnD, Str.length] using hs) ?_
  refine lcL_all (fun c : Nat => D.str ⟨#[c]⟩) (fun c => .bl (isF c)) x.cps.toList (fun c _ => ⟨_, rfl, .fz, rfl, fun w => ?_⟩) w
  simp only [dOp_s, dVar_s, List.set_cons_succ, List.set_cons_zero, wipeD_cons, wipeD_nil]
  simp [gIn, sgn]
  have := figs_mem c
  simp at this
  by_cases hc : isF c = true
  · simp [hc, this]
  · simp [hc, this]
theorem number_no (x : Str) (hz : x.length ≤ 10000) (h : wrdB x = false) (w : W) : number_in [.str x] w = .ex ⟨"NoText", []⟩ w := by
  have hs : x.length ≤ sizeLine := sz_le hz
  have gl : ∀ m w, gLen [⟨m, .str x⟩] w = .ok (fz (.int x.length)) w := fun m w => by simp [gLen, hs]
  have lc := fun w => number_lc x hz none w
  have ga := fun m w => gAll_map isF x.cps.toList m w
  unfold wrdB at h
  by_cases h1 : 1 ≤ x.length
  · have h1' : (1 : Int) ≤ (x.length : Int) := by omega
    by_cases h2 : x.length ≤ 2
    · have h2' : (x.length : Int) ≤ 2 := by omega
      have h3 : x.cps.toList.all isF = false := by simpa [h1, h2] using h
      simp only [h3] at ga
      simp [number_in, fnD, number_in_b, gl, h1', h2', lc, ga]
    · have h2' : ¬ (x.length : Int) ≤ 2 := by omega
      simp [number_in, fnD, number_in_b, gl, h1', h2']
  · have h1' : ¬ (1 : Int) ≤ (x.length : Int) := by omega
    simp [number_in, fnD, number_in_b, gl, h1']
theorem int_1 : ∀ a ∈ List.range' 48 10, PySem.intText? ⟨#[a]⟩ = some ((a : Int) - 48) := by decide +kernel
theorem int_2 : ∀ a ∈ List.range' 48 10, ∀ b ∈ List.range' 48 10, PySem.intText? ⟨#[a, b]⟩ = some (10 * ((a : Int) - 48) + ((b : Int) - 48)) := by decide +kernel
theorem figs_range {c : Nat} (h : isF c = true) : c ∈ List.range' 48 10 := by
  unfold isF at h
  simp only [Bool.and_eq_true, decide_eq_true_eq] at h
  rw [List.mem_range'_1]
  omega
theorem number_ok (x : Str) (h : wrdB x = true) : ∃ i : Int, 0 ≤ i ∧ i ≤ 99 ∧ PySem.intText? x = some i ∧ ∀ w, number_in [.str x] w = .ok (fz (.int i)) w := by
  unfold wrdB at h
  simp only [Bool.and_eq_true, decide_eq_true_eq] at h
  obtain ⟨⟨h1, h2⟩, h3⟩ := h
  have hz : x.length ≤ 10000 := by omega
  have hs : x.length ≤ sizeLine := sz_le hz
  have gl : ∀ m w, gLen [⟨m, .str x⟩] w = .ok (fz (.int x.length)) w := fun m w => by simp [gLen, hs]
  have lc := fun w => number_lc x hz none w
  have ga := fun m w => gAll_map isF x.cps.toList m w
  simp only [h3] at ga
  have h1' : (1 : Int) ≤ (x.length : Int) := by omega
  have h2' : (x.length : Int) ≤ 2 := by omega
  have hl : x.length ≤ 640 := by omega
  have go : ∀ i : Int, PySem.intText? x = some i → ∀ w, number_in [.str x] w = .ok (fz (.int i)) w := fun i hi w => by
    have gi : ∀ m w, gIntS [⟨m, .str x⟩] w = .ok (fz (.int i)) w := fun m w => by simp [gIntS, hi, hl]
    simp [number_in, fnD, number_in_b, gl, h1', h2', lc, ga, gi]
  have hx : x = nm x.cps.toList := by simp [nm]
  have hlen : x.cps.toList.length = x.length := by simp [Str.length]
  generalize x.cps.toList = L at *
  match L, hlen, h3 with
  | [], hlen, _ => simp at hlen; omega
  | [a], _, h3 =>
    have fa : isF a = true := by simpa using h3
    have e := int_1 a (figs_range fa)
    have r := figs_range fa
    rw [List.mem_range'_1] at r
    have hi : PySem.intText? x = some ((a : Int) - 48) := by rw [hx]; exact e
    exact ⟨_, by omega, by omega, hi, go _ hi⟩
  | [a, b], _, h3 =>
    simp only [List.all_cons, List.all_nil, Bool.and_true, Bool.and_eq_true] at h3
    have e := int_2 a (figs_range h3.1) b (figs_range h3.2)
    have r := figs_range h3.1
    have r2 := figs_range h3.2
    rw [List.mem_range'_1] at r r2
    have hi : PySem.intText? x = some (10 * ((a : Int) - 48) + ((b : Int) - 48)) := by rw [hx]; exact e
    exact ⟨_, by omega, by omega, hi, go _ hi⟩
  | _ :: _ :: _ :: _, hlen, _ => simp at hlen; omega
/-! ### rows out of lines -/
theorem gSplit_ok (x : Str) (c : Nat) (hz : x.length ≤ 9000) (m m' : Md) (w : W) : gSplit ⟨m, .str x⟩ ⟨m', .str ⟨#[c]⟩⟩ w = .ok ⟨.nw, .lst ((Txt.split x ⟨#[c]⟩).map D.str)⟩ w := by
  have h : x.length + 2 ≤ sizeLine := sz_le (by omega)
  have h2 : ((⟨#[c]⟩ : Str).length == 0) = false := rfl
  simp [gSplit, h, h2]
theorem le_sum_mem : ∀ {l : List Nat} {n : Nat}, n ∈ l → n ≤ l.sum
  | [], _, h => by simp at h
  | a :: l, n, h => by
    rcases List.mem_cons.mp h with rfl | h
    · simp
    · have := le_sum_mem h
      simp only [List.sum_cons]
      omega
theorem split_short {x : Str} {c : Nat} {p : Str} (h : p ∈ Txt.split x ⟨#[c]⟩) : p.length ≤ x.length := by
  have hw := PyProof.Rows.split_weight x ⟨#[c]⟩ (Nat.le_refl 1)
  have hp : p.length ≤ ((Txt.split x ⟨#[c]⟩).map (·.length)).sum := le_sum_mem (List.mem_map.mpr ⟨p, h, rfl⟩)
  have hn := PyProof.Rows.split_pos x ⟨#[c]⟩
  omega
theorem sp_lit : (Str.ofString " " : Str) = ⟨#[32]⟩ := by decide +kernel
theorem da_lit : (Str.ofString "-" : Str) = ⟨#[45]⟩ := by decide +kernel
theorem nl_lit : (Str.ofString "\n" : Str) = ⟨#[10]⟩ := by decide +kernel
theorem jl_mem {c z : Nat} : ∀ {l : List (List Nat)} {p : List Nat}, p ∈ l → z ∈ p → z ∈ jl c l
  | [], _, h, _ => by simp at h
  | [q], p, h, hz => by simp at h; subst h; exact hz
  | q :: q2 :: r, p, h, hz => by
    rcases List.mem_cons.mp h with rfl | h
    · exact List.mem_append_left _ hz
    · exact List.mem_append_right _ (List.mem_cons_of_mem _ (jl_mem h hz))
theorem split_join {x : Str} {c : Nat} : x.cps.toList = jl c ((Txt.split x ⟨#[c]⟩).map fun t => t.cps.toList) := by
  have h2 := join_jl c (Txt.split x ⟨#[c]⟩)
  rw [StrLaws.join_split x ⟨#[c]⟩] at h2
  exact h2
theorem split_in {x p : Str} {c z : Nat} (h : p ∈ Txt.split x ⟨#[c]⟩) (hz : z ∈ p.cps.toList) : z ∈ x.cps.toList := by
  rw [split_join (c := c)]
  exact jl_mem (List.mem_map.mpr ⟨p, h, rfl⟩) hz
theorem strOk_in {x : Str} : PyData.strOk x = true ↔ ∀ z ∈ x.cps.toList, z < 0x110000 := by
  unfold PyData.strOk
  rw [Array.all_eq_true_iff_forall_mem]
  constructor
  · intro h z hz
    have := h z (by simpa using hz)
    simpa using this
  · intro h z hz
    have := h z (by simpa using hz)
    simpa using this
theorem split_ok {x p : Str} {c : Nat} (h : p ∈ Txt.split x ⟨#[c]⟩) (o : PyData.strOk x = true) : PyData.strOk p = true :=
  strOk_in.mpr fun z hz => strOk_in.mp o z (split_in h hz)
/-- what a line writes: a row, or none -/
theorem row_in_ok (x : Str) (hz : x.length ≤ 9000) : (∀ w, row_in [.str x] w = .ex ⟨"NoText", []⟩ w) ∨ ∃ r : G4, r.s ∈ Txt.split x ⟨#[32]⟩ ∧ r.n ∈ Txt.split x ⟨#[32]⟩ ∧ 0 ≤ r.b ∧ r.b ≤ 99 ∧ 0 ≤ r.e ∧ r.e ≤ 99 ∧ ∀ w, row_in [.str x] w = .ok (fz (rowG r)) w := by
  have e1 : ∀ m m' w, gSplit ⟨m, .str x⟩ ⟨m', .str ⟨#[32]⟩⟩ w = .ok ⟨.nw, .lst ((Txt.split x ⟨#[32]⟩).map D.str)⟩ w := fun m m' w => gSplit_ok x 32 hz m m' w
  have n0 := PyProof.Rows.split_pos x ⟨#[32]⟩
  have l0 := PyProof.Rows.split_le x ⟨#[32]⟩
  have sh := fun p (h : p ∈ Txt.split x ⟨#[32]⟩) => split_short h
  generalize Txt.split x ⟨#[32]⟩ = W1 at *
  rw [← sp_lit] at e1
  match W1, n0, sh, l0 with
  | [], n0, _, _ => simp at n0
  | a :: R1, _, sh, l0 =>
    have ha := sh a (by simp)
    have e2 : ∀ m m' w, gSplit ⟨m, .str a⟩ ⟨m', .str ⟨#[45]⟩⟩ w = .ok ⟨.nw, .lst ((Txt.split a ⟨#[45]⟩).map D.str)⟩ w := fun m m' w => gSplit_ok a 45 (by omega) m m' w
    have l2 := PyProof.Rows.split_le a ⟨#[45]⟩
    have sh2 := fun p (h : p ∈ Txt.split a ⟨#[45]⟩) => split_short h
    generalize Txt.split a ⟨#[45]⟩ = W2 at *
    rw [← da_lit] at e2
    have a0 : ∀ l : List D, atI (D.str a :: l) 0 = some (.str a) := fun l => by rw [atI_pos (by decide) (by simp)]; rfl
    by_cases h3 : R1.length = 2
    · by_cases h4 : W2.length = 2
      · match R1, h3, W2, h4, sh, sh2 with
        | [s, n], _, [p, q], _, sh, sh2 =>
          have lp := sh2 p (by simp)
          have lq := sh2 q (by simp)
          have c0 : atI [D.str p, D.str q] 0 = some (.str p) := rfl
          have c1 : atI [D.str p, D.str q] 1 = some (.str q) := rfl
          have d0 : atI [D.str a, D.str s, D.str n] 0 = some (.str a) := rfl
          have d1 : atI [D.str a, D.str s, D.str n] 1 = some (.str s) := rfl
          have d2 : atI [D.str a, D.str s, D.str n] 2 = some (.str n) := rfl
          cases hp : wrdB p with
          | false =>
            have np := number_no p (by omega) hp
            left
            intro w
            simp [row_in, fnD, row_in_b, dBm, tyOk, e1, e2, c0, c1, d0, d1, d2, np]
          | true =>
            obtain ⟨i, i0, i1, _, np⟩ := number_ok p hp
            cases hq : wrdB q with
            | false =>
              have nq := number_no q (by omega) hq
              left
              intro w
              simp [row_in, fnD, row_in_b, dBm, tyOk, e1, e2, c0, c1, d0, d1, d2, np, nq]
            | true =>
              obtain ⟨j, j0, j1, _, nq⟩ := number_ok q hq
              right
              refine ⟨⟨i, j, s, n⟩, by simp, by simp, i0, i1, j0, j1, fun w => ?_⟩
              simp [row_in, fnD, row_in_b, dBm, tyOk, e1, e2, c0, c1, d0, d1, d2, np, nq, rowG]
      · left
        intro w
        have h4' : ¬ ((W2.length : Int) = 2) := by omega
        simp [row_in, fnD, row_in_b, dBm, tyOk, e1, e2, a0, h3, h4, h4']
    · left
      intro w
      have h3' : ¬ ((R1.length : Int) + 1 = 3) := by omega
      simp [row_in, fnD, row_in_b, dBm, tyOk, e1, e2, a0, h3, h3']
/-! ### guide_text of typed rows -/
def numL (i : Int) : List Nat := (Str.ofString (toString i)).cps.toList
def z2L (i : Int) : List Nat := (Txt.zfill (Str.ofString (toString i)) 2).cps.toList
theorem num_facts : ∀ n ∈ List.range 100, (1 ≤ (numL (n : Int)).length ∧ (numL (n : Int)).length ≤ 2 ∧ (numL (n : Int)).all isF = true) ∧ ((numL (n : Int)).head? = some 48 → (numL (n : Int)).length = 1) ∧ PySem.intText? (nm (numL (n : Int))) = some (n : Int) := by decide +kernel
theorem z2_facts : ∀ n ∈ List.range 25, (z2L (n : Int)).length = 2 ∧ (z2L (n : Int)).all isF = true ∧ z2L (n : Int) ≠ [50, 53] := by decide +kernel
theorem num_ok {i : Int} (h0 : 0 ≤ i) (h1 : i ≤ 99) : (1 ≤ (numL i).length ∧ (numL i).length ≤ 2 ∧ (numL i).all isF = true) ∧ ((numL i).head? = some 48 → (numL i).length = 1) ∧ PySem.intText? (nm (numL i)) = some i := by
  obtain ⟨n, rfl⟩ := Int.eq_ofNat_of_zero_le h0
  exact num_facts n (List.mem_range.mpr (by omega))
theorem z2_ok {i : Int} (h0 : 0 ≤ i) (h1 : i ≤ 24) : (z2L i).length = 2 ∧ (z2L i).all isF = true ∧ z2L i ≠ [50, 53] := by
  obtain ⟨n, rfl⟩ := Int.eq_ofNat_of_zero_le h0
  exact z2_facts n (List.mem_range.mpr (by omega))
def lineL (r : G4) : List Nat := jl 32 [jl 45 [z2L r.b, z2L r.e], r.s.cps.toList, r.n.cps.toList]
def gtL (s : List Nat) (i : Int) (rs : List G4) : List Nat := (s ++ 32 :: numL i) ++ 10 :: rs.flatMap fun r => lineL r ++ [10]
theorem jl_cons {c : Nat} (p : List Nat) {l : List (List Nat)} (h : l ≠ []) : jl c (p :: l) = p ++ c :: jl c l := by
  cases l with
  | nil => exact absurd rfl h
  | cons q r => rfl
theorem jl_lines {c : Nat} {α : Type} (f : α → List Nat) : ∀ l : List α, (l.flatMap fun r => f r ++ [c]) = jl c (l.map f ++ [[]])
  | [] => rfl
  | r :: l => by
    rw [List.flatMap_cons, jl_lines f l, List.map_cons, List.cons_append, jl_cons _ (by simp)]
    simp
theorem gtL_jl (s : List Nat) (i : Int) (rs : List G4) : gtL s i rs = jl 10 ((s ++ 32 :: numL i) :: (rs.map lineL ++ [[]])) := by
  rw [jl_cons _ (by simp), ← jl_lines]
  rfl
theorem nm_of (x : Str) : x = nm x.cps.toList := by simp [nm]
theorem gAdd_nm {a b : List Nat} (h : a.length + b.length ≤ 10000) (m m' : Md) (w : W) : gAdd ⟨m, .str (nm a)⟩ ⟨m', .str (nm b)⟩ w = .ok (fz (.str (nm (a ++ b)))) w := by
  have : (nm a).length + (nm b).length ≤ sizeLine := sz_le (by rw [nm_len, nm_len]; exact h)
  simp [gAdd, this, nm_app]
theorem gStrI_ok {i : Int} (h0 : 0 ≤ i) (h1 : i ≤ 99) (m : Md) (w : W) : gStrI [⟨m, .int i⟩] w = .ok (fz (.str (nm (numL i)))) w := by
  have h : i.natAbs < 1000 := by omega
  have e : nm (numL i) = Str.ofString (toString i) := (nm_of _).symm
  simp [gStrI, h, e]
theorem gZf_ok {i : Int} (m m' : Md) (w : W) : gZf ⟨m, .str (nm (numL i))⟩ ⟨m', .int 2⟩ w = .ok (fz (.str (nm (z2L i)))) w := by
  have e : nm (numL i) = Str.ofString (toString i) := (nm_of _).symm
  have e2 : nm (z2L i) = Txt.zfill (Str.ofString (toString i)) 2 := (nm_of _).symm
  have p : PadOk 2 = true := by decide +kernel
  simp [gZf, p, e, e2]
theorem sp_nm : (Str.ofString " " : Str) = nm [32] := sp_lit
theorem da_nm : (Str.ofString "-" : Str) = nm [45] := da_lit
theorem nl_nm : (Str.ofString "\n" : Str) = nm [10] := nl_lit
/-- a row of the guide, by its parts -/
structure GOk (r : G4) : Prop where
  b0 : 0 ≤ r.b
  b1 : r.b ≤ 23
  e0 : 1 ≤ r.e
  e1 : r.e ≤ 24
  lt : r.b < r.e
  s : nameL r.s.cps.toList = true
  n : nameL r.n.cps.toList = true ∨ r.n = Str.ofString "!"
theorem gok_iff (r : G4) : gRowB (rowG r) = true ↔ GOk r := by
  constructor
  · intro h
    simp only [gRowB, rowG, numB, ltB, nameB, bangB, Bool.and_eq_true, Bool.or_eq_true, decide_eq_true_eq] at h
    obtain ⟨⟨⟨⟨⟨h1, h2⟩, h3, h4⟩, h5⟩, h6⟩, h7⟩ := h
    exact ⟨h1, h2, h3, h4, h5, h6, h7⟩
  · intro ⟨h1, h2, h3, h4, h5, h6, h7⟩
    simp only [gRowB, rowG, numB, ltB, nameB, bangB, Bool.and_eq_true, Bool.or_eq_true, decide_eq_true_eq]
    exact ⟨⟨⟨⟨⟨h1, h2⟩, h3, h4⟩, h5⟩, h6⟩, h7⟩
theorem name_len {x : List Nat} (h : nameL x = true) : 1 ≤ x.length ∧ x.length ≤ 6 ∧ ∀ z ∈ x, Lt z := by
  unfold nameL at h
  simp only [Bool.and_eq_true, decide_eq_true_eq, List.all_eq_true] at h
  refine ⟨h.1.1, h.1.2, fun z hz => ?_⟩
  have := h.2 z hz
  unfold isL at this
  have this : 97 ≤ z ∧ z ≤ 122 := by simpa using this
  exact this
theorem bang_nm : (Str.ofString "!" : Str) = nm [33] := by decide +kernel
theorem GOk.nl {r : G4} (h : GOk r) : 1 ≤ r.n.cps.toList.length ∧ r.n.cps.toList.length ≤ 6 ∧ ∀ z ∈ r.n.cps.toList, 33 ≤ z ∧ z ≤ 122 ∧ z ≠ 45 := by
  rcases h.n with h | h
  · obtain ⟨a, b, c⟩ := name_len h
    exact ⟨a, b, fun z hz => by have := (c z hz).1; have := (c z hz).2; omega⟩
  · rw [h, bang_nm]
    simp [nm]
theorem GOk.ok4 {r : G4} (h : GOk r) : okG4 r := by
  obtain ⟨_, s6, sl⟩ := name_len h.s
  obtain ⟨_, n6, nl⟩ := h.nl
  refine ⟨strOk_in.mpr fun z hz => by have := (sl z hz).2; omega, strOk_in.mpr fun z hz => by have := (nl z hz).2; omega, ?_, ?_⟩
  · refine decide_eq_true ?_
    show r.s.cps.size ≤ 10000
    simp at s6; omega
  · refine decide_eq_true ?_
    show r.n.cps.size ≤ 10000
    simp at n6; omega
theorem line_len {r : G4} (h : GOk r) : (lineL r).length ≤ 19 := by
  have a := (z2_ok (i := r.b) h.b0 (by have := h.b1; omega)).1
  have b := (z2_ok (i := r.e) (by have := h.e0; omega) h.e1).1
  have c := (name_len h.s).2.1
  have d := h.nl.2.1
  simp only [lineL, jl, List.length_append, List.length_cons, a, b]
  omega
theorem gt_loop (s d L : Option Val) : ∀ (rs : List G4) (p : List Nat) (z4 z5 z6 z7 : Option Val), p.length + rs.length * 20 ≤ 9000 → (∀ r ∈ rs, GOk r) → ∃ y4 y5 y6 y7, ∀ w, forL (.tp [4, 5, 6, 7]) guide_text_l1 (rs.map rowG) [s, d, L, some (fz (.str (nm p))), z4, z5, z6, z7] w = .next [s, d, L, some (fz (.str (nm (p ++ rs.flatMap fun r => lineL r ++ [10])))), y4, y5, y6, y7] w
  | [], p, z4, z5, z6, z7, _, _ => ⟨z4, z5, z6, z7, fun w => by simp [forL]⟩
  | r :: rs, p, z4, z5, z6, z7, hl, ho => by
    have g := ho r (by simp)
    have a := (z2_ok (i := r.b) g.b0 (by have := g.b1; omega)).1
    have b := (z2_ok (i := r.e) (by have := g.e0; omega) g.e1).1
    have c := (name_len g.s).2.1
    have e := g.nl.2.1
    have ll := line_len g
    simp only [List.length_cons] at hl
    obtain ⟨y4, y5, y6, y7, ih⟩ := gt_loop s d L rs (p ++ (lineL r ++ [10])) (some (fz (.int r.b))) (some (fz (.int r.e))) (some (fz (.str r.s))) (some (fz (.str r.n))) (by simp only [List.length_append, List.length_cons, List.length_nil]; omega) (fun x hx => ho x (List.mem_cons_of_mem _ hx))
    refine ⟨y4, y5, y6, y7, fun w => ?_⟩
    have q1 := fun m w => gStrI_ok (i := r.b) g.b0 (by have := g.b1; omega) m w
    have q2 := fun m w => gStrI_ok (i := r.e) (by have := g.e0; omega) (by have := g.e1; omega) m w
    have body : guide_text_l1 [s, d, L, some (fz (.str (nm p))), some (fz (.int r.b)), some (fz (.int r.e)), some (fz (.str r.s)), some (fz (.str r.n))] w = .next [s, d, L, some (fz (.str (nm (p ++ (lineL r ++ [10]))))), some (fz (.int r.b)), some (fz (.int r.e)), some (fz (.str r.s)), some (fz (.str r.n))] w := by
      obtain ⟨rb, re, rsx, rn⟩ := r
      rw [nm_of rsx, nm_of rn]
      simp only at a b c e q1 q2
      generalize rsx.cps.toList = S at *
      generalize rn.cps.toList = N at *
      have s1 : ∀ (m m' : Md) (w : W), gAdd ⟨m, .str (nm p)⟩ ⟨m', .str (nm (z2L rb))⟩ w = .ok (fz (.str (nm (p ++ z2L rb)))) w := fun m m' w => gAdd_nm (by omega) m m' w
      have s2 : ∀ (m m' : Md) (w : W), gAdd ⟨m, .str (nm (p ++ z2L rb))⟩ ⟨m', .str (nm [45])⟩ w = .ok (fz (.str (nm (p ++ z2L rb ++ [45])))) w := fun m m' w => gAdd_nm (by simp; omega) m m' w
      have s3 : ∀ (m m' : Md) (w : W), gAdd ⟨m, .str (nm (p ++ z2L rb ++ [45]))⟩ ⟨m', .str (nm (z2L re))⟩ w = .ok (fz (.str (nm (p ++ z2L rb ++ [45] ++ z2L re)))) w := fun m m' w => gAdd_nm (by simp; omega) m m' w
      have s4 : ∀ (m m' : Md) (w : W), gAdd ⟨m, .str (nm (p ++ z2L rb ++ [45] ++ z2L re))⟩ ⟨m', .str (nm [32])⟩ w = .ok (fz (.str (nm (p ++ z2L rb ++ [45] ++ z2L re ++ [32])))) w := fun m m' w => gAdd_nm (by simp; omega) m m' w
      have s5 : ∀ (m m' : Md) (w : W), gAdd ⟨m, .str (nm (p ++ z2L rb ++ [45] ++ z2L re ++ [32]))⟩ ⟨m', .str (nm S)⟩ w = .ok (fz (.str (nm (p ++ z2L rb ++ [45] ++ z2L re ++ [32] ++ S)))) w := fun m m' w => gAdd_nm (by simp; omega) m m' w
      have s6 : ∀ (m m' : Md) (w : W), gAdd ⟨m, .str (nm (p ++ z2L rb ++ [45] ++ z2L re ++ [32] ++ S))⟩ ⟨m', .str (nm [32])⟩ w = .ok (fz (.str (nm (p ++ z2L rb ++ [45] ++ z2L re ++ [32] ++ S ++ [32])))) w := fun m m' w => gAdd_nm (by simp; omega) m m' w
      have s7 : ∀ (m m' : Md) (w : W), gAdd ⟨m, .str (nm (p ++ z2L rb ++ [45] ++ z2L re ++ [32] ++ S ++ [32]))⟩ ⟨m', .str (nm N)⟩ w = .ok (fz (.str (nm (p ++ z2L rb ++ [45] ++ z2L re ++ [32] ++ S ++ [32] ++ N)))) w := fun m m' w => gAdd_nm (by simp; omega) m m' w
      have s8 : ∀ (m m' : Md) (w : W), gAdd ⟨m, .str (nm (p ++ z2L rb ++ [45] ++ z2L re ++ [32] ++ S ++ [32] ++ N))⟩ ⟨m', .str (nm [10])⟩ w = .ok (fz (.str (nm (p ++ z2L rb ++ [45] ++ z2L re ++ [32] ++ S ++ [32] ++ N ++ [10])))) w := fun m m' w => gAdd_nm (by simp; omega) m m' w
      have fin : p ++ z2L rb ++ [45] ++ z2L re ++ [32] ++ S ++ [32] ++ N ++ [10] = p ++ (lineL ⟨rb, re, nm S, nm N⟩ ++ [10]) := by simp [lineL, jl, nm]
      rw [← fin]
      clear fin
      simp only [guide_text_l1, sp_nm, da_nm, nl_nm]
      simp [dBm, tyOk, q1, q2, gZf_ok, s1, s2, s3, s4, s5, s6, s7, s8, -List.append_assoc]
    rw [List.map_cons]
    unfold forL
    have st : setT (.tp [4, 5, 6, 7]) (rowG r) [s, d, L, some (fz (.str (nm p))), z4, z5, z6, z7] = some [s, d, L, some (fz (.str (nm p))), some (fz (.int r.b)), some (fz (.int r.e)), some (fz (.str r.s)), some (fz (.str r.n))] := rfl
    rw [st]
    simp only [body]
    rw [ih w, List.flatMap_cons, List.append_assoc p]
/-- what guide_text tells of typed rows -/
theorem guide_text_ok (x : Str) (i : Int) (rs : List G4) (hx : nameL x.cps.toList = true) (i0 : 0 ≤ i) (i1 : i ≤ 99) (hz : rs.length ≤ 400) (ho : ∀ r ∈ rs, GOk r) (w : W) : guide_text [.str x, .int i, .lst (rs.map rowG)] w = if folL rs then .ok (fz (.str (nm (gtL x.cps.toList i rs)))) w else .ex ⟨"NoText", []⟩ w := by
  have og : ∀ w, is_guide [.str x, .int i, .lst (rs.map rowG)] w = .ok (fz (.bl (folL rs))) w := fun w => is_guide_ok (.str x) (.int i) rs hx (by simp [numB, i0, i1]) (by omega) (fun r hr => (ho r hr).ok4) (fun r hr => (gok_iff r).mpr (ho r hr)) w
  obtain ⟨_, x6, _⟩ := name_len hx
  have n2 := (num_ok i0 i1).1.2.1
  cases hf : folL rs with
  | false =>
    rw [hf] at og
    simp [guide_text, fnD, guide_text_b, og]
  | true =>
    rw [hf] at og
    obtain ⟨y4, y5, y6, y7, lp⟩ := gt_loop (some (fz (.str x))) (some (fz (.int i))) (some (fz (.lst (rs.map rowG)))) rs (x.cps.toList ++ [32] ++ numL i ++ [10]) none none none none (by simp only [List.length_append, List.length_cons, List.length_nil]; omega) ho
    have q1 := fun m w => gStrI_ok i0 i1 m w
    have fin : nm (gtL x.cps.toList i rs) = nm (x.cps.toList ++ [32] ++ numL i ++ [10] ++ rs.flatMap fun r => lineL r ++ [10]) := by simp [gtL]
    have s1 : ∀ (m m' : Md) (w : W), gAdd ⟨m, .str x⟩ ⟨m', .str (nm [32])⟩ w = .ok (fz (.str (nm (x.cps.toList ++ [32])))) w := fun m m' w => by
      have := gAdd_nm (a := x.cps.toList) (b := [32]) (by simp only [List.length_cons, List.length_nil]; omega) m m' w
      rw [← nm_of x] at this
      exact this
    have s2 : ∀ (m m' : Md) (w : W), gAdd ⟨m, .str (nm (x.cps.toList ++ [32]))⟩ ⟨m', .str (nm (numL i))⟩ w = .ok (fz (.str (nm (x.cps.toList ++ [32] ++ numL i)))) w := fun m m' w => gAdd_nm (by simp only [List.length_append, List.length_cons, List.length_nil]; omega) m m' w
    have s3 : ∀ (m m' : Md) (w : W), gAdd ⟨m, .str (nm (x.cps.toList ++ [32] ++ numL i))⟩ ⟨m', .str (nm [10])⟩ w = .ok (fz (.str (nm (x.cps.toList ++ [32] ++ numL i ++ [10])))) w := fun m m' w => gAdd_nm (by simp only [List.length_append, List.length_cons, List.length_nil]; omega) m m' w
    rw [fin]
    generalize (rs.flatMap fun r => lineL r ++ [10]) = T at *
    generalize rs.map rowG = LL at *
    simp only [guide_text, guide_text_b, sp_nm, nl_nm]
    simp [fnD, og, q1, s1, s2, s3, lp, -List.append_assoc]
/-! ### read_guide -/
theorem cutS_last (x : Str) : cutS x (some (-1)) none = nm (x.cps.toList.drop (x.length - 1)) := by
  have e : HT.sIx x.length 0 (some (-1)) = x.length - 1 := by
    show (if (-1 : Int) < 0 then ((-1 : Int) + (x.length : Int)).toNat else min (-1 : Int).toNat x.length) = x.length - 1
    rw [if_pos (by decide)]
    omega
  have hl : x.length = x.cps.toList.length := by simp [Str.length]
  unfold cutS nm
  rw [e, HT.sIx_none, List.take_of_length_le]
  rw [List.length_drop, ← hl]
  exact Nat.le_refl _
theorem strOk_sub {x : List Nat} {y : Str} (o : PyData.strOk y = true) (h : ∀ z ∈ x, z ∈ y.cps.toList) : PyData.strOk (nm x) = true := strOk_nm fun z hz => strOk_in.mp o z (h z hz)
/-- whether a text ends with a line feed -/
def endB (x : Str) : Bool := decide (nm (x.cps.toList.drop (x.length - 1)) = nm [10])
theorem end_mem {x : Str} (h : endB x = true) : 10 ∈ x.cps.toList := by
  have := nm_inj (of_decide_eq_true h)
  exact List.drop_subset _ _ (by rw [this]; simp)
theorem read_noS (d : D) (h : ∀ x, d ≠ .str x) (o : okD d = true) (w : W) : read_guide [d] w = .ex ⟨"NoText", []⟩ w := by
  cases d <;> first
    | (exact absurd rfl (h _))
    | (simp [okD] at o; done)
    | simp [read_guide, fnD, read_guide_b, read_guide_s1, gIsiT, gIsi, tyD]
theorem last_q (x : Str) (hz : x.length ≤ 400) (o : PyData.strOk x = true) (w : W) : dOp (gEq true) (dSl (dVar 0) (dPart (dUn gNeg (dC (.int 1)))) dNo) (dC (.str "\n")) [some (fz (.str x)), none, none, none, none] w = .ok (fz (.bl (!endB x))) w := by
  have z : x.length ≤ sizeLine := sz_le (by omega)
  have q : ∀ m m' w, gEq true ⟨m, .str (nm (x.cps.toList.drop (x.length - 1)))⟩ ⟨m', .str (nm [10])⟩ w = .ok (fz (.bl (true != endB x))) w := fun m m' w => gEq_str _ _ (strOk_sub o fun z hz => List.drop_subset _ _ hz) (strOk_nm (by simp [NOk])) true m m' w
  have g : ∀ m w, gSl ⟨m, .str x⟩ (some (-1)) none w = .ok (fz (.str (nm (x.cps.toList.drop (x.length - 1))))) w := fun m w => by simp [gSl, z, cutS_last]
  simp only [nl_nm]
  simp [g, q]
theorem read_noE (x : Str) (hz : x.length ≤ 400) (o : PyData.strOk x = true) (h : endB x = false) (w : W) : read_guide [.str x] w = .ex ⟨"NoText", []⟩ w := by
  have u := fun w => last_q x hz o w
  rw [h] at u
  simp only [read_guide, fnD, read_guide_b, read_guide_s1]
  have e : [D.str x].map (fun d => some (fz d)) ++ List.replicate (5 - 1) none = [some (fz (.str x)), none, none, none, none] := rfl
  simp [gIsiT, gIsi, tyD, -dOp_s, u]
theorem lines_of {x : Str} (h : endB x = true) : ∃ l0 rest lst, Txt.split x ⟨#[10]⟩ = (l0 :: rest) ++ [lst] := by
  have hp := PyProof.Rows.split_pos x ⟨#[10]⟩
  have hj := split_join (x := x) (c := 10)
  have hf := StrLaws.split_free x 10
  generalize Txt.split x ⟨#[10]⟩ = W at *
  match W, hp, hj, hf with
  | [], hp, _, _ => simp at hp
  | [p], _, hj, hf =>
    have := end_mem h
    rw [hj] at this
    exact absurd this (hf p (by simp))
  | p :: q :: r, _, _, _ =>
    refine ⟨p, (q :: r).dropLast, (q :: r).getLast (by simp), ?_⟩
    rw [List.cons_append, List.dropLast_concat_getLast]
/-- the rows that lines write: refused, or typed rows -/
theorem lcX_rows (a b c e : Option Val) : ∀ ls : List Str, (∀ l ∈ ls, l.length ≤ 400 ∧ PyData.strOk l = true) → (∀ w, lcX (.nm 4) (dCall row_in [] (dOne (dVar 4))) (ls.map D.str) [a, b, c, e, none] w = .ex ⟨"NoText", []⟩ w) ∨ ∃ rs : List G4, rs.length = ls.length ∧ (∀ r ∈ rs, okG4 r) ∧ ∀ w, lcX (.nm 4) (dCall row_in [] (dOne (dVar 4))) (ls.map D.str) [a, b, c, e, none] w = .ok (rs.map rowG) w
  | [], _ => .inr ⟨[], rfl, by simp, fun w => rfl⟩
  | l :: ls, h => by
    obtain ⟨hl, ho⟩ := h l (by simp)
    have ih := lcX_rows a b c e ls fun x hx => h x (List.mem_cons_of_mem _ hx)
    rcases row_in_ok l (by omega) with hr | ⟨r, m1, m2, _, _, _, _, hr⟩
    · left
      intro w
      rw [List.map_cons]
      unfold lcX
      simp [hr]
    · rcases ih with ih | ⟨rs, e1, e2, ih⟩
      · left
        intro w
        rw [List.map_cons]
        unfold lcX
        simp [hr, ih]
      · right
        have k1 := split_short m1
        have k2 := split_short m2
        refine ⟨r :: rs, by simp [e1], ?_, fun w => ?_⟩
        · intro y hy
          rcases List.mem_cons.mp hy with rfl | hy
          · refine ⟨split_ok m1 ho, split_ok m2 ho, decide_eq_true ?_, decide_eq_true ?_⟩ <;> omega
          · exact e2 y hy
        · rw [List.map_cons]
          unfold lcX
          simp [hr, ih]
theorem strOk_gtL {s : List Nat} {i : Int} {rs : List G4} (hs : nameL s = true) (i0 : 0 ≤ i) (i1 : i ≤ 99) (ho : ∀ r ∈ rs, GOk r) : ∀ z ∈ gtL s i rs, z < 128 := by
  have fg : ∀ {l : List Nat}, l.all isF = true → ∀ z ∈ l, z < 128 := fun {l} h z hz => by
    have := List.all_eq_true.mp h z hz
    unfold isF at this
    simp at this
    omega
  intro z hz
  simp only [gtL, List.mem_append, List.mem_cons, List.mem_flatMap] at hz
  have nn := fg (num_ok i0 i1).1.2.2
  obtain ⟨_, _, sl⟩ := name_len hs
  rcases hz with (hz | hz | hz) | hz | ⟨r, hr, hz⟩
  · have := (sl z hz).2; omega
  · omega
  · exact nn z hz
  · omega
  · have g := ho r hr
    have a := fg (z2_ok (i := r.b) g.b0 (by have := g.b1; omega)).2.1
    have b := fg (z2_ok (i := r.e) (by have := g.e0; omega) g.e1).2.1
    obtain ⟨_, _, cl⟩ := name_len g.s
    obtain ⟨_, _, dl⟩ := g.nl
    rcases hz with hz | hz
    · simp only [lineL, jl, List.mem_append, List.mem_cons] at hz
      rcases hz with (hz | hz | hz) | hz | hz | hz | hz
      · exact a z hz
      · omega
      · exact b z hz
      · omega
      · have := (cl z hz).2; omega
      · omega
      · have := (dl z hz).2.1; omega
    · simp at hz; omega
/-- what guide_text tells of what was read -/
theorem guide_text_tot (x : Str) (i : Int) (rs : List G4) (ox : okD (.str x) = true) (hz : rs.length ≤ 400) (ho : ∀ r ∈ rs, okG4 r) : (∀ w, guide_text [.str x, .int i, .lst (rs.map rowG)] w = .ex ⟨"NoText", []⟩ w) ∨ (nameL x.cps.toList = true ∧ 0 ≤ i ∧ i ≤ 99 ∧ (∀ r ∈ rs, GOk r) ∧ folL rs = true ∧ ∀ w, guide_text [.str x, .int i, .lst (rs.map rowG)] w = .ok (fz (.str (nm (gtL x.cps.toList i rs)))) w) := by
  cases h : nameB (.str x) && numB (.int i) 0 99 && (rs.map rowG).all gRowB with
  | false =>
    left
    intro w
    have og := fun w => is_guide_no (.str x) (.int i) (rs.map rowG) ox rfl (by simp; omega) (fun d hd => by obtain ⟨r, hr, rfl⟩ := List.mem_map.mp hd; exact okG_row (ho r hr)) h w
    simp [guide_text, fnD, guide_text_b, og]
  | true =>
    simp only [Bool.and_eq_true, List.all_eq_true] at h
    obtain ⟨⟨h1, h2⟩, h3⟩ := h
    have h2 : 0 ≤ i ∧ i ≤ 99 := by simpa [numB] using h2
    have hg : ∀ r ∈ rs, GOk r := fun r hr => (gok_iff r).mp (h3 _ (List.mem_map.mpr ⟨r, hr, rfl⟩))
    have gt := fun w => guide_text_ok x i rs h1 h2.1 h2.2 hz hg w
    cases hf : folL rs with
    | false =>
      left
      intro w
      rw [gt w, hf]
      rfl
    | true =>
      right
      refine ⟨h1, h2.1, h2.2, hg, rfl, fun w => ?_⟩
      rw [gt w, hf]
      rfl
/-- the things that read_guide tells -/
structure Told (x : Str) (y : Str) (i : Int) (rs : List G4) : Prop where
  s : nameL y.cps.toList = true
  i0 : 0 ≤ i
  i1 : i ≤ 99
  g : ∀ r ∈ rs, GOk r
  f : folL rs = true
  l : rs.length ≤ 400
  t : x = nm (gtL y.cps.toList i rs)
theorem read_ok (x : Str) (hz : x.length ≤ 390) (o : PyData.strOk x = true) : (∀ w, read_guide [.str x] w = .ex ⟨"NoText", []⟩ w) ∨ ∃ s i rs, Told x s i rs ∧ ∀ w, read_guide [.str x] w = .ok (fz (.tup [.str s, .int i, .lst (rs.map rowG)])) w := by
  cases he : endB x with
  | false => exact .inl fun w => read_noE x (by omega) o he w
  | true =>
    have u1 : ∀ w, read_guide_s1 [some (fz (.str x)), none, none, none, none] w = .next [some (fz (.str x)), none, none, none, none] w := fun w => by
      have u := fun w => last_q x (by omega) o w
      rw [he] at u
      simp only [read_guide_s1]
      simp [gIsiT, gIsi, tyD, -dOp_s, u]
    obtain ⟨l0, rest, lst, hsp⟩ := lines_of he
    have n0 := PyProof.Rows.split_le x ⟨#[10]⟩
    have hsm := fun p (h : p ∈ Txt.split x ⟨#[10]⟩) => And.intro (split_short h) (split_ok h o)
    have e1 : ∀ m m' w, gSplit ⟨m, .str x⟩ ⟨m', .str ⟨#[10]⟩⟩ w = .ok ⟨.nw, .lst ((Txt.split x ⟨#[10]⟩).map D.str)⟩ w := fun m m' w => gSplit_ok x 10 (by omega) m m' w
    rw [hsp] at n0 hsm e1
    have hm : ∀ p ∈ l0 :: rest, p.length ≤ x.length ∧ PyData.strOk p = true := fun p hp => hsm p (List.mem_append_left _ hp)
    rw [← nl_lit] at e1
    have u2 : ∀ w, read_guide_s2 [some (fz (.str x)), none, none, none, none] w = .next [some (fz (.str x)), some (fz (.lst ((l0 :: rest).map D.str))), none, none, none] w := fun w => by
      have c := cutL_m1 ((l0 :: rest).map D.str) (D.str lst)
      have e : ((l0 :: rest) ++ [lst]).map D.str = (l0 :: rest).map D.str ++ [D.str lst] := by simp
      rw [e] at e1
      generalize (l0 :: rest).map D.str = L at *
      simp [read_guide_s2, dBm, tyOk, e1, c]
    obtain ⟨k0, o0⟩ := hm l0 (by simp)
    have e2 : ∀ m m' w, gSplit ⟨m, .str l0⟩ ⟨m', .str ⟨#[32]⟩⟩ w = .ok ⟨.nw, .lst ((Txt.split l0 ⟨#[32]⟩).map D.str)⟩ w := fun m m' w => gSplit_ok l0 32 (by omega) m m' w
    have hsm2 := fun p (h : p ∈ Txt.split l0 ⟨#[32]⟩) => And.intro (split_short h) (split_ok h o0)
    generalize Txt.split l0 ⟨#[32]⟩ = WL at *
    rw [← sp_lit] at e2
    have u3 : ∀ w, read_guide_s3 [some (fz (.str x)), some (fz (.lst ((l0 :: rest).map D.str))), none, none, none] w = .next [some (fz (.str x)), some (fz (.lst ((l0 :: rest).map D.str))), some (fz (.lst (WL.map D.str))), none, none] w := fun w => by
      have a0 : atI ((l0 :: rest).map D.str) 0 = some (.str l0) := by rw [atI_pos (by decide) (by simp)]; rfl
      generalize (l0 :: rest).map D.str = L at *
      simp [read_guide_s3, dBm, tyOk, e2, a0]
    by_cases hw : WL.length = 2
    · match WL, hw, hsm2 with
      | [s, p], _, hsm2 =>
        obtain ⟨ks, os⟩ := hsm2 s (by simp)
        obtain ⟨kp, op⟩ := hsm2 p (by simp)
        rw [show List.map D.str [s, p] = [.str s, .str p] from rfl] at u3
        have u4 : ∀ w, read_guide_s4 [some (fz (.str x)), some (fz (.lst ((l0 :: rest).map D.str))), some (fz (.lst [.str s, .str p])), none, none] w = .next [some (fz (.str x)), some (fz (.lst ((l0 :: rest).map D.str))), some (fz (.lst [.str s, .str p])), none, none] w := fun w => by
          simp [read_guide_s4]
        have c0 : atI [D.str s, D.str p] 0 = some (.str s) := rfl
        have c1 : atI [D.str s, D.str p] 1 = some (.str p) := rfl
        have cu : cutL ((l0 :: rest).map D.str) (some 1) none = rest.map D.str := by
          have := cutL_from ((l0 :: rest).map D.str) 1
          simpa using this
        have hlen : (rest.map D.str).length ≤ sizeLine := sz_le (by simp at n0 ⊢; omega)
        cases hp : wrdB p with
        | false =>
          have np := number_no p (by omega) hp
          left
          intro w
          have u5 : ∀ w, read_guide_s5 [some (fz (.str x)), some (fz (.lst ((l0 :: rest).map D.str))), some (fz (.lst [.str s, .str p])), none, none] w = .ex ⟨"NoText", []⟩ [some (fz (.str x)), some (fz (.lst ((l0 :: rest).map D.str))), some (fz (.lst [.str s, .str p])), none, none] w := fun w => by
            simp [read_guide_s5, c0, c1, np]
          have e : ([D.str x].map (fun d => some (fz d)) ++ List.replicate (5 - 1) none : DL.Env) = [some (fz (.str x)), none, none, none, none] := rfl
          simp only [read_guide, fnD, read_guide_b, sSeq_s, List.length_cons, List.length_nil, if_true, e, u1, u2, u3, u4, u5, othn_next, othn_ex]
        | true =>
          obtain ⟨i, i0, i1, _, np⟩ := number_ok p hp
          rcases lcX_rows (some (fz (.str x))) (some (fz (.lst ((l0 :: rest).map D.str)))) (some (fz (.lst [.str s, .str p]))) none rest (fun l hl => by obtain ⟨h1, h2⟩ := hm l (List.mem_cons_of_mem _ hl); exact ⟨by omega, h2⟩) with lx | ⟨rs, rl, ro, lx⟩
          · left
            intro w
            have u5 : ∀ w, read_guide_s5 [some (fz (.str x)), some (fz (.lst ((l0 :: rest).map D.str))), some (fz (.lst [.str s, .str p])), none, none] w = .ex ⟨"NoText", []⟩ [some (fz (.str x)), some (fz (.lst ((l0 :: rest).map D.str))), some (fz (.lst [.str s, .str p])), none, none] w := fun w => by
              generalize (l0 :: rest).map D.str = L at *
              generalize rest.map D.str = L2 at *
              simp [read_guide_s5, c0, c1, np, dLcX, iSq, cu, hlen, lx, lcV]
            have e : ([D.str x].map (fun d => some (fz d)) ++ List.replicate (5 - 1) none : DL.Env) = [some (fz (.str x)), none, none, none, none] := rfl
            simp only [read_guide, fnD, read_guide_b, sSeq_s, List.length_cons, List.length_nil, if_true, e, u1, u2, u3, u4, u5, othn_next, othn_ex]
          · have u5 : ∀ w, read_guide_s5 [some (fz (.str x)), some (fz (.lst ((l0 :: rest).map D.str))), some (fz (.lst [.str s, .str p])), none, none] w = .next [some (fz (.str x)), some (fz (.lst ((l0 :: rest).map D.str))), some (fz (.lst [.str s, .str p])), some (fz (.tup [.str s, .int i, .lst (rs.map rowG)])), none] w := fun w => by
              generalize (l0 :: rest).map D.str = L at *
              generalize rest.map D.str = L2 at *
              generalize rs.map rowG = L3 at *
              simp [read_guide_s5, c0, c1, np, dLcX, iSq, cu, hlen, lx, lcV]
            have lr : rs.length ≤ 400 := by simp at n0; omega
            rcases guide_text_tot s i rs (decide_eq_true (by omega)) lr ro with gt | ⟨h1, h2, h3, h4, h5, gt⟩
            · left
              intro w
              have u6 : ∀ w, read_guide_s6 [some (fz (.str x)), some (fz (.lst ((l0 :: rest).map D.str))), some (fz (.lst [.str s, .str p])), some (fz (.tup [.str s, .int i, .lst (rs.map rowG)])), none] w = .ex ⟨"NoText", []⟩ [some (fz (.str x)), some (fz (.lst ((l0 :: rest).map D.str))), some (fz (.lst [.str s, .str p])), some (fz (.tup [.str s, .int i, .lst (rs.map rowG)])), none] w := fun w => by
                generalize (l0 :: rest).map D.str = L at *
                generalize rs.map rowG = L3 at *
                simp [read_guide_s6, gt]
              have e : ([D.str x].map (fun d => some (fz d)) ++ List.replicate (5 - 1) none : DL.Env) = [some (fz (.str x)), none, none, none, none] := rfl
              simp only [read_guide, fnD, read_guide_b, sSeq_s, List.length_cons, List.length_nil, if_true, e, u1, u2, u3, u4, u5, u6, othn_next, othn_ex]
            · have og : PyData.strOk (nm (gtL s.cps.toList i rs)) = true := strOk_nm fun z hz => by have := strOk_gtL h1 h2 h3 h4 z hz; omega
              have q := fun m m' w => gEq_str (nm (gtL s.cps.toList i rs)) x og o true m m' w
              by_cases hx : nm (gtL s.cps.toList i rs) = x
              · right
                refine ⟨s, i, rs, ⟨h1, h2, h3, h4, h5, lr, hx.symm⟩, fun w => ?_⟩
                have qx := fun m m' w => gEq_str x x o o true m m' w
                rw [hx] at gt
                have u6 : ∀ w, read_guide_s6 [some (fz (.str x)), some (fz (.lst ((l0 :: rest).map D.str))), some (fz (.lst [.str s, .str p])), some (fz (.tup [.str s, .int i, .lst (rs.map rowG)])), none] w = .next [some (fz (.str x)), some (fz (.lst ((l0 :: rest).map D.str))), some (fz (.lst [.str s, .str p])), some (fz (.tup [.str s, .int i, .lst (rs.map rowG)])), none] w := fun w => by
                  generalize (l0 :: rest).map D.str = L at *
                  generalize rs.map rowG = L3 at *
                  simp [read_guide_s6, gt, qx]
                have u7 : ∀ w, read_guide_s7 [some (fz (.str x)), some (fz (.lst ((l0 :: rest).map D.str))), some (fz (.lst [.str s, .str p])), some (fz (.tup [.str s, .int i, .lst (rs.map rowG)])), none] w = .ret (fz (.tup [.str s, .int i, .lst (rs.map rowG)])) w := fun w => by
                  simp [read_guide_s7]
                have e : ([D.str x].map (fun d => some (fz d)) ++ List.replicate (5 - 1) none : DL.Env) = [some (fz (.str x)), none, none, none, none] := rfl
                simp only [read_guide, fnD, read_guide_b, sSeq_s, List.length_cons, List.length_nil, if_true, e, u1, u2, u3, u4, u5, u6, u7, othn_next, othn_ret]
              · left
                intro w
                have u6 : ∀ w, read_guide_s6 [some (fz (.str x)), some (fz (.lst ((l0 :: rest).map D.str))), some (fz (.lst [.str s, .str p])), some (fz (.tup [.str s, .int i, .lst (rs.map rowG)])), none] w = .ex ⟨"NoText", []⟩ [some (fz (.str x)), some (fz (.lst ((l0 :: rest).map D.str))), some (fz (.lst [.str s, .str p])), some (fz (.tup [.str s, .int i, .lst (rs.map rowG)])), none] w := fun w => by
                  generalize (l0 :: rest).map D.str = L at *
                  generalize rs.map rowG = L3 at *
                  simp [read_guide_s6, gt, q, hx]
                have e : ([D.str x].map (fun d => some (fz d)) ++ List.replicate (5 - 1) none : DL.Env) = [some (fz (.str x)), none, none, none, none] := rfl
                simp only [read_guide, fnD, read_guide_b, sSeq_s, List.length_cons, List.length_nil, if_true, e, u1, u2, u3, u4, u5, u6, othn_next, othn_ex]
    · left
      intro w
      have u4 : ∀ w, read_guide_s4 [some (fz (.str x)), some (fz (.lst ((l0 :: rest).map D.str))), some (fz (.lst (WL.map D.str))), none, none] w = .ex ⟨"NoText", []⟩ [some (fz (.str x)), some (fz (.lst ((l0 :: rest).map D.str))), some (fz (.lst (WL.map D.str))), none, none] w := fun w => by
        have hw' : ¬ ((WL.length : Int) = 2) := by omega
        simp [read_guide_s4, hw, hw']
      have e : ([D.str x].map (fun d => some (fz d)) ++ List.replicate (5 - 1) none : DL.Env) = [some (fz (.str x)), none, none, none, none] := rfl
      simp only [read_guide, fnD, read_guide_b, sSeq_s, List.length_cons, List.length_nil, if_true, e, u1, u2, u3, u4, othn_next, othn_ex]
/-! ### rows -/
structure Row where
  b : Int
  e : Int
  n : List Nat
  deriving DecidableEq
def rowD (r : Row) : D := .tup [.int r.b, .int r.e, .str (nm r.n)]
/-- the rows lie apart, from lo on; hi: the last end, or lo -/
def Ap : Int → List Row → Int → Prop
  | lo, [], hi => lo = hi
  | lo, r :: rs, hi => lo ≤ r.b ∧ r.b < r.e ∧ Ap r.e rs hi
theorem Ap.add {lo hi : Int} {rs : List Row} (h : Ap lo rs hi) (r : Row) (h1 : hi ≤ r.b) (h2 : r.b < r.e) : Ap lo (rs ++ [r]) r.e := by
  induction rs generalizing lo with
  | nil => cases h; exact ⟨h1, h2, rfl⟩
  | cons x xs ih => exact ⟨h.1, h.2.1, ih h.2.2⟩
theorem Ap.le {lo hi : Int} {rs : List Row} (h : Ap lo rs hi) : lo ≤ hi := by
  induction rs generalizing lo with
  | nil => cases h; exact Int.le_refl _
  | cons x xs ih => have := ih h.2.2; have := h.1; have := h.2.1; omega
/-- up to six drawn rows of a day -/
structure Drawn (rs : List Row) (xs : List (List Nat)) : Prop where
  ap : ∃ hi, Ap 0 rs hi ∧ hi ≤ 24
  ne : rs ≠ []
  le : rs.length ≤ 6
  nm : ∀ r ∈ rs, r.n ∈ xs
theorem rows_ex (ns : List Int) (hl : ns.length ≤ 63) (at' : Int) (h0 : 0 ≤ at') (h1 : at' < 900) :
    ∃ (rs : List Row) (xs : List (List Nat)), Drawn rs xs ∧ xs.length = 3 ∧ (∀ k (h : k < xs.length), NmK (decide (pick ns (at' + 61) 2 = 0)) (97 + ((pick ns (at' + 60) 26 + k) % 26).toNat) xs[k]) ∧
      ∀ w, law_drawn_rows [.scr ns, .int at'] w = .ok (fz (.tup [.lst (rs.map rowD), .lst (xs.map fun x => .str (nm x))])) w := by
  obtain ⟨xs, hx, hk, en⟩ := names_ex ns hl at' h0 (by omega) 3 (by decide)
  have p0 := pick_ok (ns := ns) (k := at' + 70) (m := 6) hl (by omega) (by omega) (by decide)
  generalize pick ns (at' + 70) 6 = n at p0
  obtain ⟨ρ', h, rs, z2, z6, z7, hour, hr, hh, hn, hz, hne, e'⟩ := forL_pure (t := .nm 2) (b := law_drawn_rows_l1) (I := fun i ρ => ∃ (rs : List Row) (z2 z6 z7 : Option Val) (hour : Int), Ap 0 rs hour ∧ hour ≤ 24 ∧ rs.length ≤ i ∧ (∀ r ∈ rs, r.n ∈ xs) ∧ (if i = 0 then hour = 0 else rs ≠ []) ∧
      ρ = [some (fz (.scr ns)), some (fz (.int at')), z2, some (fz (.lst (xs.map fun x => .str (nm x)))), some ⟨.nw, .lst (rs.map rowD)⟩, some (fz (.int hour)), z6, z7])
    (rngD 0 (1 + n).toNat) 0 [some (fz (.scr ns)), some (fz (.int at')), none, some (fz (.lst (xs.map fun x => .str (nm x)))), some ⟨.nw, .lst []⟩, some (fz (.int 0)), none, none] ⟨[], none, none, none, 0, rfl, by decide, by decide, by simp, rfl, rfl⟩ (by
      rintro i d ρ hd ⟨rs, z2, z6, z7, hour, hr, hh, hn, hz, hne, rfl⟩
      obtain ⟨hi, rfl⟩ := rngD_get hd
      have p1 := pick_ok (ns := ns) (k := at' + 71 + (0 + (i : Int))) (m := 5) hl (by omega) (by omega) (by decide)
      have p2 := pick_ok (ns := ns) (k := at' + 78 + (0 + (i : Int))) (m := 5) hl (by omega) (by omega) (by decide)
      have p3 := pick_ok (ns := ns) (k := at' + 85 + (0 + (i : Int))) (m := 3) hl (by omega) (by omega) (by decide)
      generalize pick ns (at' + 71 + (0 + (i : Int))) 5 = q1 at p1
      generalize pick ns (at' + 78 + (0 + (i : Int))) 5 = q2 at p2
      generalize pick ns (at' + 85 + (0 + (i : Int))) 3 = q3 at p3
      obtain ⟨v, hv, ev⟩ : ∃ v ∈ [0, 0, 0, 1, 2], atI [D.int 0, D.int 0, D.int 0, D.int 1, D.int 2] q1 = some (.int v) := atI_ints [0, 0, 0, 1, 2] q1 p1.1 p1.2.1
      obtain ⟨u, hu, eu⟩ : ∃ v ∈ [1, 2, 3, 4, 6], atI [D.int 1, D.int 2, D.int 3, D.int 4, D.int 6] q2 = some (.int v) := atI_ints [1, 2, 3, 4, 6] q2 p2.1 p2.2.1
      have hv2 : 0 ≤ v ∧ v ≤ 2 := by simp at hv; omega
      have hu2 : 1 ≤ u ∧ u ≤ 6 := by simp at hu; omega
      have hq3 : q3.toNat < xs.length := by omega
      have ex : atI (xs.map fun x => D.str (nm x)) q3 = some (.str (nm xs[q3.toNat])) := by
        rw [atI_pos p3.1 (by simp; omega), List.getElem?_map, List.getElem?_eq_getElem hq3]
        rfl
      have w1 := p1.2.2
      have w2 := p2.2.2
      have w3 := p3.2.2
      simp only [Int.zero_add] at w1 w2 w3
      have hsz : rs.length < sizeLine := sz_lt (by omega)
      have hlo := hr.le
      by_cases hle : hour + v + u ≤ 24
      · refine ⟨_, [some (fz (.scr ns)), some (fz (.int at')), some (fz (.int (0 + (i : Int)))), some (fz (.lst (xs.map fun x => .str (nm x)))), some ⟨.nw, .lst ((rs ++ [Row.mk (hour + v) (hour + v + u) xs[q3.toNat]]).map rowD)⟩, some (fz (.int (hour + v + u))), some (fz (.int (hour + v))), some (fz (.int (hour + v + u)))], rfl, fun w => ?_,
          rs ++ [Row.mk (hour + v) (hour + v + u) xs[q3.toNat]], some (fz (.int (0 + (i : Int)))), some (fz (.int (hour + v))), some (fz (.int (hour + v + u))), hour + v + u, hr.add ⟨hour + v, hour + v + u, xs[q3.toNat]⟩ (by show hour ≤ hour + v; omega) (by show hour + v < hour + v + u; omega), hle, by simp; omega, ?_, by simp, rfl⟩
        · simp [law_drawn_rows_l1, w1, w2, w3, ev, eu, ex, hle, hsz, rowD]
        · intro r hr
          rcases List.mem_append.mp hr with hr | hr
          · exact hz r hr
          · simp at hr; subst hr; exact List.getElem_mem hq3
      · refine ⟨_, [some (fz (.scr ns)), some (fz (.int at')), some (fz (.int (0 + (i : Int)))), some (fz (.lst (xs.map fun x => .str (nm x)))), some ⟨.nw, .lst (rs.map rowD)⟩, some (fz (.int hour)), some (fz (.int (hour + v))), some (fz (.int (hour + v + u)))], rfl, fun w => ?_,
          rs, some (fz (.int (0 + (i : Int)))), some (fz (.int (hour + v))), some (fz (.int (hour + v + u))), hour, hr, hh, by omega, hz, ?_, rfl⟩
        · simp [law_drawn_rows_l1, w1, w2, w3, ev, eu, ex, hle, hsz]
        · rw [if_neg (by omega)]
          by_cases h0 : 0 + i = 0
          · rw [if_pos h0] at hne; omega
          · rw [if_neg h0] at hne; exact hne)
  refine ⟨rs, xs, ⟨⟨hour, hr, hh⟩, ?_, ?_, hz⟩, hx, hk, fun w => ?_⟩
  · simp at hne
    rw [if_neg (by omega)] at hne
    exact hne
  · simp at hn; omega
  · have hro : RO (1 + n) := ro (by omega) (by omega)
    have en' := en
    simp at en'
    simp [law_drawn_rows, fnD, law_drawn_rows_b, en', p0.2.2, hro]
    rw [h w, e']
    simp
/-! ### rows of a drawn guide -/
theorem at_m1 (xs : List D) (x : D) : atI (xs ++ [x]) (-1) = some x := by
  have : ixN (xs ++ [x]).length (-1) = some xs.length := by
    unfold ixN
    simp
    omega
  unfold atI
  rw [this]
  simp
theorem gEq_pair (b : Bool) {s n s2 n2 : Str} (hs : PyData.strOk s = true) (hs2 : PyData.strOk s2 = true) (hn : PyData.strOk n = true) (hn2 : PyData.strOk n2 = true) (m m' : Md) (w : W) : gEq b ⟨m, .tup [.str s, .str n]⟩ ⟨m', .tup [.str s2, .str n2]⟩ w = .ok (fz (.bl (b != (decide (s = s2) && decide (n = n2))))) w := by
  have e1 : (s == s2) = decide (s = s2) := by by_cases h : s = s2 <;> simp [h]
  have e2 : (n == n2) = decide (n = n2) := by by_cases h : n = n2 <;> simp [h]
  simp [gEq, pl, plN, eqD, eqDs, hs, hs2, hn, hn2, e1, e2]
theorem gEq_pl {a b : D} (ha : pl a = true) (hb : pl b = true) (neg : Bool) (m m' : Md) (w : W) : gEq neg ⟨m, a⟩ ⟨m', b⟩ w = .ok (fz (.bl (neg != eqD a b))) w := by
  simp [gEq, ha, hb]
theorem gSl_2 (a b c d : D) (md : Md) (w : W) : gSl ⟨md, .tup [a, b, c, d]⟩ (some 2) none w = .ok (fz (.tup [c, d])) w := by
  have cu : cutL [a, b, c, d] (some 2) none = [c, d] := rfl
  simp [gSl, cu]; decide
theorem fol_app : ∀ (made : List G4) (l r : G4), folL (made ++ [l]) = true → folG l r = true → folL (made ++ [l, r]) = true
  | [], l, r, _, h => by simp [folL, h]
  | [a], l, r, h1, h => by
    simp only [List.cons_append, List.nil_append, folL, Bool.and_true] at h1 ⊢
    simp [h1, h]
  | a :: b :: m, l, r, h1, h => by
    simp only [List.cons_append, folL, Bool.and_eq_true] at h1 ⊢
    exact ⟨h1.1, fol_app (b :: m) l r h1.2 h⟩
theorem pl_rows : ∀ {made : List G4}, (∀ r ∈ made, okG4 r) → pl (.lst (made.map rowG)) = true := by
  intro made h
  show (made.map rowG).all (plN 9) = true
  rw [List.all_map, List.all_eq_true]
  intro r hr
  obtain ⟨h1, h2, _, _⟩ := h r hr
  simp [rowG, plN, h1, h2]
theorem gr_loop (ns : List Int) (hl : ns.length ≤ 63) (xs : List (List Nat)) (hx3 : xs.length = 3) (hx : ∀ x ∈ xs, nameL x = true) (hi : Int) (h24 : hi ≤ 24) : ∀ (rs : List Row) (lo : Int) (k : Nat) (made : List G4) (y5 y6 y7 y8 y9 y10 L : Option Val), Ap lo rs hi → 0 ≤ lo → (∀ r ∈ rs, r.n ∈ xs) → k + rs.length ≤ 6 → made.length ≤ k → (∀ r ∈ made, GOk r) → folL made = true → (∀ r ∈ made, r.e ≤ lo) →
    ∃ made' z5 z6 z7 z8 z9 z10, (∀ r ∈ made', GOk r) ∧ folL made' = true ∧ (made ≠ [] ∨ rs ≠ [] → made' ≠ []) ∧ made'.length ≤ k + rs.length ∧ ∀ w, forL (.np 5 [8, 9, 10]) law_guide_rows_l1 (enumD k (rs.map rowD)) [some (fz (.scr ns)), some (fz (.int 0)), some ⟨.nw, .lst (made.map rowG)⟩, L, some (fz (.lst (xs.map fun x => .str (nm x)))), y5, y6, y7, y8, y9, y10] w =
      .next [some (fz (.scr ns)), some (fz (.int 0)), some ⟨.nw, .lst (made'.map rowG)⟩, L, some (fz (.lst (xs.map fun x => .str (nm x)))), z5, z6, z7, z8, z9, z10] w
  | [], lo, k, made, y5, y6, y7, y8, y9, y10, L, _, _, _, _, hm, hg, hf, _ => ⟨made, y5, y6, y7, y8, y9, y10, hg, hf, fun h => h.elim id (fun h => absurd rfl h), by simpa using hm, fun w => rfl⟩
  | r :: rs, lo, k, made, y5, y6, y7, y8, y9, y10, L, ap, h0, hn, hk, hm, hg, hf, he => by
    obtain ⟨a1, a2, a3⟩ := ap
    have a4 := a3.le
    simp only [List.length_cons] at hk
    have p1 := pick_ok (ns := ns) (k := 0 + 100 + (k : Int)) (m := 3) hl (by omega) (by omega) (by decide)
    have p2 := pick_ok (ns := ns) (k := 0 + 110 + (k : Int)) (m := 4) hl (by omega) (by omega) (by decide)
    generalize pick ns (0 + 100 + (k : Int)) 3 = q1 at p1
    generalize pick ns (0 + 110 + (k : Int)) 4 = q2 at p2
    have hq : q1.toNat < xs.length := by omega
    have ex : atI (xs.map fun x => D.str (nm x)) q1 = some (.str (nm xs[q1.toNat])) := by
      rw [atI_pos p1.1 (by simp; omega), List.getElem?_map, List.getElem?_eq_getElem hq]
      rfl
    have hs := hx _ (List.getElem_mem hq)
    generalize xs[q1.toNat] = S at ex hs
    have hN := hx _ (hn r (by simp))
    obtain ⟨N, hNe⟩ : ∃ N : Str, N = if q2 = 0 then Str.ofString "!" else nm r.n := ⟨_, rfl⟩
    have hNo : nameL N.cps.toList = true ∨ N = Str.ofString "!" := by
      by_cases h : q2 = 0
      · right; rw [hNe, if_pos h]
      · left; rw [hNe, if_neg h, nm_cps]; exact hN
    have gok : GOk ⟨r.b, r.e, nm S, N⟩ := ⟨by show 0 ≤ r.b; omega, by show r.b ≤ 23; omega, by show 1 ≤ r.e; omega, by show r.e ≤ 24; omega, a2, by show nameL (nm S).cps.toList = true; rw [nm_cps]; exact hs, hNo⟩
    have ok := gok.ok4
    have w1 := p1.2.2
    have w2 := p2.2.2
    simp only [Int.zero_add] at w1 w2
    have zs : made.length < sizeLine := sz_lt (by omega)
    have di : ∀ (w : W) (m : Md), (if q2 = 0 then (R.ok (fz (.str (Str.ofString "!"))) w : R Val) else .ok (fz (.str (nm r.n))) w) = .ok (fz (.str N)) w := fun w m => by
      by_cases h : q2 = 0
      · rw [if_pos h, hNe, if_pos h]
      · rw [if_neg h, hNe, if_neg h]
    by_cases hq2 : q2 = 0
    all_goals
      have hN2 := hNe
      simp only [hq2, if_true, if_false] at hN2
      have step : ∃ made', (made' = made ∧ made ≠ [] ∨ made' = made ++ [⟨r.b, r.e, nm S, N⟩]) ∧ folL made' = true ∧ ∀ w, law_guide_rows_l1 [some (fz (.scr ns)), some (fz (.int 0)), some ⟨.nw, .lst (made.map rowG)⟩, L, some (fz (.lst (xs.map fun x => .str (nm x)))), some (fz (.int k)), y6, y7, some (fz (.int r.b)), some (fz (.int r.e)), some (fz (.str (nm r.n)))] w =
        .next [some (fz (.scr ns)), some (fz (.int 0)), some ⟨.nw, .lst (made'.map rowG)⟩, L, some (fz (.lst (xs.map fun x => .str (nm x)))), some (fz (.int k)), some (fz (.str (nm S))), some (fz (rowG ⟨r.b, r.e, nm S, N⟩)), some (fz (.int r.b)), some (fz (.int r.e)), some (fz (.str (nm r.n)))] w := by
        rcases List.eq_nil_or_concat made with rfl | ⟨m0, l, rfl⟩
        · refine ⟨[⟨r.b, r.e, nm S, N⟩], .inr rfl, rfl, fun w => ?_⟩
          have q : ∀ m m' w, gEq false ⟨m, .lst []⟩ ⟨m', .lst []⟩ w = .ok (fz (.bl true)) w := fun m m' w => rfl
          simp [law_guide_rows_l1, w1, w2, ex, hq2, q, rowG, ← hN2]
        · rw [List.concat_eq_append] at *
          have gl := hg l (by simp)
          have ol := gl.ok4
          have el := he l (by simp)
          have pr : pl (.lst ((m0 ++ [l]).map rowG)) = true := pl_rows fun x hx => (hg x hx).ok4
          have q : ∀ m m' w, gEq false ⟨m, .lst ((m0 ++ [l]).map rowG)⟩ ⟨m', .lst []⟩ w = .ok (fz (.bl false)) w := fun m m' w => by
            have e := gEq_pl pr (show pl (.lst []) = true from rfl) false m m' w
            have : eqD (.lst ((m0 ++ [l]).map rowG)) (.lst []) = false := by
              rw [List.map_append]
              cases m0 <;> simp [eqD, eqDs]
            rw [this] at e
            exact e
          have am : atI ((m0 ++ [l]).map rowG) (-1) = some (rowG l) := by rw [List.map_append]; exact at_m1 _ _
          have a1' : atI [D.int l.b, .int l.e, .str l.s, .str l.n] 1 = some (.int l.e) := rfl
          have qp : ∀ m m' w, gEq true ⟨m, .tup [.str l.s, .str l.n]⟩ ⟨m', .tup [.str (nm S), .str N]⟩ w = .ok (fz (.bl (true != (decide (l.s = nm S) && decide (l.n = N))))) w := fun m m' w => gEq_pair true ol.1 ok.1 ol.2.1 ok.2.1 m m' w
          by_cases c1 : l.e < r.b
          · refine ⟨m0 ++ [l] ++ [⟨r.b, r.e, nm S, N⟩], .inr rfl, ?_, fun w => ?_⟩
            · rw [List.append_assoc]
              exact fol_app m0 l _ hf (by simp [folG, c1])
            · have zs2 : m0.length + 1 < sizeLine := by simpa using zs
              have ap2 : (m0 ++ [l] ++ [⟨r.b, r.e, nm S, N⟩] : List G4).map rowG = (m0 ++ [l]).map rowG ++ [rowG ⟨r.b, r.e, nm S, N⟩] := by simp
              have zs3 : ((m0 ++ [l]).map rowG).length < sizeLine := by simpa using zs2
              rw [ap2]
              clear ap2 zs2
              generalize (m0 ++ [l]).map rowG = ML at *
              simp [law_guide_rows_l1, w1, w2, ex, hq2, q, am, rowG, a1', c1, zs3, ← hN2]
          · by_cases c2 : l.s = nm S ∧ l.n = N
            · refine ⟨m0 ++ [l], .inl ⟨rfl, by simp⟩, hf, fun w => ?_⟩
              have qp2 : ∀ m m' w, gEq true ⟨m, .tup [.str l.s, .str l.n]⟩ ⟨m', .tup [.str (nm S), .str N]⟩ w = .ok (fz (.bl false)) w := fun m m' w => by rw [qp, c2.1, c2.2]; simp
              generalize (m0 ++ [l]).map rowG = ML at *
              rw [hN2] at qp2 ⊢
              simp [law_guide_rows_l1, w1, w2, ex, hq2, q, am, rowG, a1', c1, gSl_2, qp2]
            · have qp2 : ∀ m m' w, gEq true ⟨m, .tup [.str l.s, .str l.n]⟩ ⟨m', .tup [.str (nm S), .str N]⟩ w = .ok (fz (.bl true)) w := fun m m' w => by
                rw [qp]
                by_cases z1 : l.s = nm S
                · have z2 : ¬ l.n = N := fun z => c2 ⟨z1, z⟩
                  simp [z2]
                · simp [z1]
              refine ⟨m0 ++ [l] ++ [⟨r.b, r.e, nm S, N⟩], .inr rfl, ?_, fun w => ?_⟩
              · rw [List.append_assoc]
                refine fol_app m0 l _ hf ?_
                have z : l.e = r.b := by omega
                by_cases z1 : l.s = nm S
                · have z2 : ¬ l.n = N := fun z => c2 ⟨z1, z⟩
                  simp [folG, z, z2]
                · simp [folG, z, z1]
              · have zs2 : m0.length + 1 < sizeLine := by simpa using zs
                have ap2 : (m0 ++ [l] ++ [⟨r.b, r.e, nm S, N⟩] : List G4).map rowG = (m0 ++ [l]).map rowG ++ [rowG ⟨r.b, r.e, nm S, N⟩] := by simp
                have zs3 : ((m0 ++ [l]).map rowG).length < sizeLine := by simpa using zs2
                rw [ap2]
                clear ap2 zs2
                generalize (m0 ++ [l]).map rowG = ML at *
                rw [hN2] at qp2 ⊢
                simp [law_guide_rows_l1, w1, w2, ex, hq2, q, am, rowG, a1', c1, gSl_2, qp2, zs3]
      obtain ⟨made1, hs1, hf1, st⟩ := step
      have g1 : ∀ x ∈ made1, GOk x ∧ x.e ≤ r.e := fun x hx => by
        rcases hs1 with ⟨rfl, _⟩ | rfl
        · exact ⟨hg x hx, by have := he x hx; omega⟩
        · rcases List.mem_append.mp hx with hx | hx
          · exact ⟨hg x hx, by have := he x hx; omega⟩
          · simp at hx; subst hx; exact ⟨gok, Int.le_refl _⟩
      have l1 : made1.length ≤ k + 1 := by
        rcases hs1 with ⟨rfl, _⟩ | rfl
        · omega
        · simp; omega
      have n1 : made1 ≠ [] := by
        rcases hs1 with ⟨rfl, h⟩ | rfl
        · exact h
        · simp
      obtain ⟨made', z5, z6, z7, z8, z9, z10, b1, b2, b3, b4, ih⟩ := gr_loop ns hl xs hx3 hx hi h24 rs r.e (k + 1) made1 (some (fz (.int k))) (some (fz (.str (nm S)))) (some (fz (rowG ⟨r.b, r.e, nm S, N⟩))) (some (fz (.int r.b))) (some (fz (.int r.e))) (some (fz (.str (nm r.n)))) L a3 (by omega) (fun x hx => hn x (List.mem_cons_of_mem _ hx)) (by omega) l1 (fun x hx => (g1 x hx).1) hf1 (fun x hx => (g1 x hx).2)
      refine ⟨made', z5, z6, z7, z8, z9, z10, b1, b2, fun _ => b3 (.inl n1), by simp only [List.length_cons]; omega, fun w => ?_⟩
      rw [List.map_cons]
      simp only [enumD]
      unfold forL
      have sT : ∀ a b c d e : Option Val, setT (.np 5 [8, 9, 10]) (.tup [.int (k : Int), rowD r]) [a, b, c, d, e, y5, y6, y7, y8, y9, y10] = some [a, b, c, d, e, some (fz (.int k)), y6, y7, some (fz (.int r.b)), some (fz (.int r.e)), some (fz (.str (nm r.n)))] := fun _ _ _ _ _ => rfl
      rw [sT]
      simp only [st]
      exact ih w
theorem guide_rows_ex (ns : List Int) (hl : ns.length ≤ 63) : ∃ made : List G4, made ≠ [] ∧ made.length ≤ 6 ∧ (∀ r ∈ made, GOk r) ∧ folL made = true ∧ ∀ w, law_guide_rows [.scr ns, .int 0] w = .ok ⟨.nw, .lst (made.map rowG)⟩ w := by
  obtain ⟨rs, xs, dr, x3, xk, e⟩ := rows_ex ns hl 0 (by decide) (by decide)
  obtain ⟨hi, ap, h24⟩ := dr.ap
  have hx : ∀ x ∈ xs, nameL x = true := fun x hx => by
    obtain ⟨k, hk, rfl⟩ := List.getElem_of_mem hx
    exact nmK_name (xk k hk)
  obtain ⟨made, z5, z6, z7, z8, z9, z10, b1, b2, b3, b4, lp⟩ := gr_loop ns hl xs x3 hx hi h24 rs 0 0 [] none none none none none none (some (fz (.lst (rs.map rowD)))) ap (by decide) dr.nm (by have := dr.le; omega) (by simp) (by simp) rfl (by simp)
  refine ⟨made, b3 (.inr dr.ne), by have := dr.le; omega, b1, b2, fun w => ?_⟩
  have lp := fun w => lp w
  rw [List.map_nil] at lp
  generalize rs.map rowD = RL at *
  generalize (xs.map fun x => D.str (nm x)) = XL at *
  simp [law_guide_rows, fnD, law_guide_rows_b, e, iE, lp]
/-! ### spoilt rows -/
theorem fol_le : ∀ {rs : List G4} {l : G4}, (∀ r ∈ rs ++ [l], GOk r) → folL (rs ++ [l]) = true → ∀ r ∈ rs ++ [l], r.e ≤ l.e
  | [], l, _, _, r, hr => by simp at hr; rw [hr]; exact Int.le_refl _
  | [a], l, hg, hf, r, hr => by
    have gl := hg l (by simp)
    have := gl.lt
    simp only [List.cons_append, List.nil_append, folL, Bool.and_true, folG, Bool.or_eq_true, Bool.and_eq_true, decide_eq_true_eq] at hf
    simp at hr
    rcases hr with rfl | rfl
    · omega
    · exact Int.le_refl _
  | a :: b :: m, l, hg, hf, r, hr => by
    simp only [List.cons_append, folL, Bool.and_eq_true] at hf
    have ih := fol_le (rs := b :: m) (l := l) (fun x hx => hg x (List.mem_cons_of_mem _ hx)) hf.2
    rcases List.mem_cons.mp hr with rfl | hr
    · have h1 := hf.1
      have hb := ih b (by simp)
      have gb := hg b (by simp)
      have := gb.lt
      simp only [folG, Bool.or_eq_true, Bool.and_eq_true, decide_eq_true_eq] at h1
      omega
    · exact ih r hr
theorem fol_no : ∀ {rs : List G4} {l r : G4}, r.b < l.e → folL (rs ++ [l, r]) = false
  | [], l, r, h => by
    have h1 : ¬ l.e < r.b := by omega
    have h2 : ¬ l.e = r.b := by omega
    simp [folL, folG, h1, h2]
  | [a], l, r, h => by
    have h1 : ¬ l.e < r.b := by omega
    have h2 : ¬ l.e = r.b := by omega
    simp [folL, folG, h1, h2]
  | a :: b :: m, l, r, h => by
    have := fol_no (rs := b :: m) h
    simp only [List.cons_append, folL] at this ⊢
    rw [this, Bool.and_false]
/-- no guide of such rows -/
def NoG (x : Str) (i : Int) (d : D) : Prop := ∀ w, guide_text [.str x, .int i, d] w = .ex ⟨"NoText", []⟩ w
theorem noG_no {x : Str} {i : Int} {rs : List D} (ox : okD (.str x) = true) (hz : rs.length ≤ 1000) (ho : ∀ d ∈ rs, okG d = true) (h : rs.all gRowB = false) : NoG x i (.lst rs) := fun w => by
  have og := fun w => is_guide_no (.str x) (.int i) rs ox rfl hz ho (by rw [h, Bool.and_false]) w
  simp [guide_text, fnD, guide_text_b, og]
theorem noG_L {x : Str} {i : Int} {d : D} (ox : okD (.str x) = true) (od : okD d = true) (h : ∀ l, d ≠ .lst l) (h' : ∀ l, d ≠ .scr l) : NoG x i d := fun w => by
  have og := fun w => is_guide_noL (.str x) (.int i) d ox rfl od h h' w
  simp [guide_text, fnD, guide_text_b, og]
theorem nameB_e : nameB (.str (Str.ofString "")) = false := by decide +kernel
theorem nameB_A : nameB (.str (Str.ofString "A")) = false := by decide +kernel
theorem nameB_bb : nameB (.str (Str.ofString "!!")) = false := by decide +kernel
theorem nameB_b : nameB (.str (Str.ofString "!")) = false := by decide +kernel
theorem bangB_A : bangB (.str (Str.ofString "A")) = false := by decide +kernel
theorem bangB_bb : bangB (.str (Str.ofString "!!")) = false := by decide +kernel
def badsOf (r : G4) : List D := [.tup [.int r.e, .int r.b, .str r.s, .str r.n], .tup [.int r.b, .int r.b, .str r.s, .str r.n], .tup [.int (-1), .int r.e, .str r.s, .str r.n], .tup [.int r.b, .int 25, .str r.s, .str r.n],
  .tup [.int r.b, .int r.e, .str (Str.ofString ""), .str r.n], .tup [.int r.b, .int r.e, .str r.s, .str (Str.ofString "A")], .tup [.int r.b, .int r.e, .str r.s, .str (Str.ofString "!!")], .tup [.int r.b, .int r.e, .str (Str.ofString "!"), .str r.n],
  .tup [.int r.b, .int r.e, .str r.s], .lst [.int r.b, .int r.e, .str r.s, .str r.n], .tup [.bl true, .int r.e, .str r.s, .str r.n], .non, .tup [.int r.b, .int r.e, .non, .str r.n]]
theorem bads_no {r : G4} (g : GOk r) : ∀ d ∈ badsOf r ++ [.tup [.int r.b, .int r.e, .str r.s, .lst [.str r.n]]], okG d = true ∧ gRowB d = false := by
  have l := g.lt
  have l1 : ¬ r.e < r.b := by omega
  have l2 : ¬ r.b < r.b := by omega
  obtain ⟨o1, o2, o3, o4⟩ := g.ok4
  have e0 : okD (.str (Str.ofString "")) = true := by decide +kernel
  have e1 : okD (.str (Str.ofString "A")) = true := by decide +kernel
  have e2 : okD (.str (Str.ofString "!!")) = true := by decide +kernel
  have e3 : okD (.str (Str.ofString "!")) = true := by decide +kernel
  have oi : ∀ i, okD (.int i) = true := fun _ => rfl
  have on : okD .non = true := rfl
  have ob : ∀ b, okD (.bl b) = true := fun _ => rfl
  have ol : ∀ b, okD (.lst b) = true := fun _ => rfl
  have x0 : nameL (Str.ofString "").cps.toList = false := nameB_e
  have x1 : nameL (Str.ofString "A").cps.toList = false := nameB_A
  have x2 : nameL (Str.ofString "!!").cps.toList = false := nameB_bb
  have x3 : nameL (Str.ofString "!").cps.toList = false := nameB_b
  have y1 : ¬ Str.ofString "A" = Str.ofString "!" := of_decide_eq_false bangB_A
  have y2 : ¬ Str.ofString "!!" = Str.ofString "!" := of_decide_eq_false bangB_bb
  have n25 : numB (.int 25) 1 24 = false := by decide
  have nm1 : numB (.int (-1)) 0 23 = false := by decide
  intro d hd
  simp only [badsOf, List.mem_append, List.mem_cons, List.not_mem_nil, or_false] at hd
  rcases hd with (rfl | rfl | rfl | rfl | rfl | rfl | rfl | rfl | rfl | rfl | rfl | rfl | rfl) | rfl
  all_goals
    refine ⟨?_, ?_⟩
    · simp [okG, txtB, o1, o2, o3, o4, e0, e1, e2, e3, oi, on, ob, ol]
    · simp [gRowB, ltB, l1, n25, nm1, x0, x1, x2, x3, y1, y2, numB, nameB, bangB]
/-- the spoilt lists -/
def spoilt (A : List G4) (r : G4) (B : List G4) : List D := (badsOf r).map (fun d => D.lst (A.map rowG ++ [d] ++ B.map rowG)) ++ [.lst ((A ++ r :: B).map rowG ++ [rowG r]), .lst [rowG r, rowG ⟨r.e, r.e + 1, r.s, r.n⟩]] ++
  [.lst (A.map rowG ++ [.tup [.int r.b, .int r.e, .str r.s, .lst [.str r.n]]] ++ B.map rowG), .tup ((A ++ r :: B).map rowG), .non, .str (Str.ofString "x")]
theorem spoilt_no (x : Str) (i : Int) (hx : nameL x.cps.toList = true) (i0 : 0 ≤ i) (i1 : i ≤ 99) (A B : List G4) (r : G4) (hl : (A ++ r :: B).length ≤ 100) (hg : ∀ y ∈ A ++ r :: B, GOk y) (hf : folL (A ++ r :: B) = true) : ∀ d ∈ spoilt A r B, NoG x i d := by
  have ox : okD (.str x) = true := okD_name (d := .str x) hx
  have gr := hg r (by simp)
  have bn := bads_no gr
  have one : ∀ d, okG d = true ∧ gRowB d = false → NoG x i (.lst (A.map rowG ++ [d] ++ B.map rowG)) := fun d hd => by
    refine noG_no ox (by simp at hl ⊢; omega) ?_ (by simp [List.all_append, hd.2])
    intro y hy
    simp only [List.mem_append, List.mem_map, List.mem_singleton] at hy
    rcases hy with (⟨z, hz, rfl⟩ | rfl) | ⟨z, hz, rfl⟩
    · exact okG_row (hg z (by simp [hz])).ok4
    · exact hd.1
    · exact okG_row (hg z (by simp [hz])).ok4
  have og : ∀ {rs : List G4}, rs.length ≤ 400 → (∀ y ∈ rs, GOk y) → folL rs = false → NoG x i (.lst (rs.map rowG)) := fun {rs} h1 h2 h3 w => by
    rw [guide_text_ok x i rs hx i0 i1 h1 h2 w, h3]
    rfl
  intro d hd
  simp only [spoilt, List.mem_append, List.mem_map, List.mem_cons, List.not_mem_nil, or_false] at hd
  rcases hd with (⟨b, hb, rfl⟩ | rfl | rfl) | rfl | rfl | rfl | rfl
  · exact one b (bn b (List.mem_append_left _ hb))
  · obtain ⟨m0, l, e⟩ : ∃ m0 l, A ++ r :: B = m0 ++ [l] := ⟨(A ++ r :: B).dropLast, (A ++ r :: B).getLast (by simp), (List.dropLast_concat_getLast (by simp)).symm⟩
    have hr : r ∈ m0 ++ [l] := by rw [← e]; simp
    rw [e] at hg hf hl
    have le := fol_le hg hf r hr
    have lt := gr.lt
    have e2 : (A ++ r :: B).map rowG ++ [rowG r] = (m0 ++ [l, r]).map rowG := by rw [e]; simp
    rw [e2]
    refine og (by simp at hl ⊢; omega) ?_ (fol_no (by omega))
    intro y hy
    have : y ∈ m0 ++ [l] ∨ y = r := by simp at hy ⊢; rcases hy with h | h | h <;> simp [h]
    rcases this with h | rfl
    · exact hg y h
    · exact gr
  · by_cases h24 : r.e = 24
    · refine noG_no ox (by simp) ?_ ?_
      · intro y hy
        simp only [List.mem_cons, List.not_mem_nil, or_false] at hy
        obtain ⟨o1, o2, o3, o4⟩ := gr.ok4
        rcases hy with rfl | rfl
        · exact okG_row gr.ok4
        · exact okG_row (r := ⟨r.e, r.e + 1, r.s, r.n⟩) ⟨o1, o2, o3, o4⟩
      · simp [gRowB, rowG, numB, h24]
    · have := gr.e1
      have := gr.e0
      have e2 : [rowG r, rowG ⟨r.e, r.e + 1, r.s, r.n⟩] = [r, ⟨r.e, r.e + 1, r.s, r.n⟩].map rowG := rfl
      rw [e2]
      refine og (by simp) ?_ (by simp [folL, folG])
      intro y hy
      simp only [List.mem_cons, List.not_mem_nil, or_false] at hy
      rcases hy with rfl | rfl
      · exact gr
      · exact ⟨by show 0 ≤ r.e; omega, by show r.e ≤ 23; omega, by show 1 ≤ r.e + 1; omega, by show r.e + 1 ≤ 24; omega, by show r.e < r.e + 1; omega, gr.s, gr.n⟩
  · exact one _ (bn _ (by simp))
  · exact noG_L ox rfl (fun _ => D.noConfusion) (fun _ => D.noConfusion)
  · exact noG_L ox rfl (fun _ => D.noConfusion) (fun _ => D.noConfusion)
  · exact noG_L ox (by decide +kernel) (fun _ => D.noConfusion) (fun _ => D.noConfusion)
/-! ### _law_spoilt_rows -/
theorem spoilt_ex (A B : List G4) (r : G4) (hl : (A ++ r :: B).length ≤ 100) (w : W) : law_spoilt_rows [.lst ((A ++ r :: B).map rowG), .int A.length] w = .ok ⟨.nw, .lst (spoilt A r B)⟩ w := by
  have e0 : (A ++ r :: B).map rowG = A.map rowG ++ rowG r :: B.map rowG := by simp
  have c1 : cutL (A.map rowG ++ rowG r :: B.map rowG) none (some (A.length : Int)) = A.map rowG := by
    rw [cutL_to]
    have : A.length = (A.map rowG).length := by simp
    rw [this, List.take_left']
    rfl
  have c2 : cutL (A.map rowG ++ rowG r :: B.map rowG) (some ((A.length : Int) + 1)) none = B.map rowG := by
    have : ((A.length : Int) + 1) = ((A.length + 1 : Nat) : Int) := by omega
    rw [this, cutL_from]
    have : A.length = (A.map rowG).length := by simp
    rw [this, List.drop_append]
    simp
  have a0 : atI (A.map rowG ++ rowG r :: B.map rowG) (A.length : Int) = some (rowG r) := by
    rw [atI_pos (by omega) (by simp; omega)]
    simp
  unfold spoilt
  rw [e0]
  have la : (A.map rowG).length + 1 + (B.map rowG).length ≤ 100 := by simp at hl ⊢; omega
  generalize hA : A.map rowG = AL at *
  generalize hB : B.map rowG = BL at *
  generalize (A.length : Int) = k at *
  have z1 : AL.length + 1 ≤ sizeLine := sz_le (by omega)
  have z2 : (AL.length + 1) + BL.length ≤ sizeLine := sz_le (by omega)
  have z3 : AL.length + (BL.length + 1) + 1 ≤ sizeLine := sz_le (by omega)
  have z4 : AL.length + (BL.length + 1) ≤ sizeLine := sz_le (by omega)
  obtain ⟨RL, hRL⟩ : ∃ x, x = AL ++ rowG r :: BL := ⟨_, rfl⟩
  have z3 : RL.length + 1 ≤ sizeLine := sz_le (by rw [hRL]; simp; omega)
  have z4 : RL.length ≤ sizeLine := by omega
  rw [← hRL] at c1 c2 a0 ⊢
  clear hRL e0
  have u1 : ∀ w, law_spoilt_rows_s1 [some (fz (.lst RL)), some (fz (.int k)), none, none, none, none, none, none, none] w = .next [some (fz (.lst RL)), some (fz (.int k)), none, none, some (fz (.int r.b)), some (fz (.int r.e)), some (fz (.str r.s)), some (fz (.str r.n)), none] w := fun w => by
    simp [law_spoilt_rows_s1, a0, rowG]
  have u2 : ∀ z w, law_spoilt_rows_s2 [some (fz (.lst RL)), some (fz (.int k)), z, none, some (fz (.int r.b)), some (fz (.int r.e)), some (fz (.str r.s)), some (fz (.str r.n)), none] w = .next [some (fz (.lst RL)), some (fz (.int k)), some ⟨.nw, .lst ((badsOf r).take 4)⟩, none, some (fz (.int r.b)), some (fz (.int r.e)), some (fz (.str r.s)), some (fz (.str r.n)), none] w := fun z w => by
    simp [law_spoilt_rows_s2, badsOf]
  have u3 : ∀ w, law_spoilt_rows_s3 [some (fz (.lst RL)), some (fz (.int k)), some ⟨.nw, .lst ((badsOf r).take 4)⟩, none, some (fz (.int r.b)), some (fz (.int r.e)), some (fz (.str r.s)), some (fz (.str r.n)), none] w = .next [some (fz (.lst RL)), some (fz (.int k)), some ⟨.nw, .lst ((badsOf r).take 8)⟩, none, some (fz (.int r.b)), some (fz (.int r.e)), some (fz (.str r.s)), some (fz (.str r.n)), none] w := fun w => by
    simp [law_spoilt_rows_s3, badsOf]
  have u4 : ∀ w, law_spoilt_rows_s4 [some (fz (.lst RL)), some (fz (.int k)), some ⟨.nw, .lst ((badsOf r).take 8)⟩, none, some (fz (.int r.b)), some (fz (.int r.e)), some (fz (.str r.s)), some (fz (.str r.n)), none] w = .next [some (fz (.lst RL)), some (fz (.int k)), some ⟨.nw, .lst ((badsOf r).take 12)⟩, none, some (fz (.int r.b)), some (fz (.int r.e)), some (fz (.str r.s)), some (fz (.str r.n)), none] w := fun w => by
    simp [law_spoilt_rows_s4, badsOf]
  have u5 : ∀ w, law_spoilt_rows_s5 [some (fz (.lst RL)), some (fz (.int k)), some ⟨.nw, .lst ((badsOf r).take 12)⟩, none, some (fz (.int r.b)), some (fz (.int r.e)), some (fz (.str r.s)), some (fz (.str r.n)), none] w = .next [some (fz (.lst RL)), some (fz (.int k)), some ⟨.nw, .lst (badsOf r)⟩, none, some (fz (.int r.b)), some (fz (.int r.e)), some (fz (.str r.s)), some (fz (.str r.n)), none] w := fun w => by
    simp [law_spoilt_rows_s5, badsOf]
  have hb : (badsOf r).length = 13 := rfl
  have u6 : ∀ w, law_spoilt_rows_s6 [some (fz (.lst RL)), some (fz (.int k)), some ⟨.nw, .lst (badsOf r)⟩, none, some (fz (.int r.b)), some (fz (.int r.e)), some (fz (.str r.s)), some (fz (.str r.n)), none] w = .next [some (fz (.lst RL)), some (fz (.int k)), some ⟨.nw, .lst (badsOf r)⟩, some ⟨.nw, .lst ((badsOf r).map fun d => D.lst (AL ++ [d] ++ BL))⟩, some (fz (.int r.b)), some (fz (.int r.e)), some (fz (.str r.s)), some (fz (.str r.n)), none] w := fun w => by
    generalize badsOf r = bs at *
    have lc : ∀ w, dLc (iSq (dVar 2)) (.nm 8) tYesD (dOp gAdd (dOp gAdd (dSl (dVar 0) dNo (dPart (dVar 1))) (dLst (dOne (dVar 8)))) (dSl (dVar 0) (dPart (dOp gAdd (dVar 1) (dC (.int 1)))) dNo)) [8] [some (fz (.lst RL)), some (fz (.int k)), some ⟨.nw, .lst bs⟩, none, some (fz (.int r.b)), some (fz (.int r.e)), some (fz (.str r.s)), some (fz (.str r.n)), none] w = .ok ⟨.nw, .lst (bs.map fun d => D.lst (AL ++ [d] ++ BL))⟩ w := fun w => by
      refine dLc_ok (b := false) (ds := bs) (by simp [iSq]; rfl) (sz_le (by omega)) ?_
      have := lcL_all (fun d : D => d) (fun d => D.lst (AL ++ [d] ++ BL)) (t := .nm 8) (f := dOp gAdd (dOp gAdd (dSl (dVar 0) dNo (dPart (dVar 1))) (dLst (dOne (dVar 8)))) (dSl (dVar 0) (dPart (dOp gAdd (dVar 1) (dC (.int 1)))) dNo)) (ρ := wipeD [some (fz (.lst RL)), some (fz (.int k)), some ⟨.nw, .lst bs⟩, none, some (fz (.int r.b)), some (fz (.int r.e)), some (fz (.str r.s)), some (fz (.str r.n)), none] [8]) bs fun x hx => ⟨_, rfl, .nw, rfl, fun w => by
        have z2' : (AL ++ [x]).length + BL.length ≤ sizeLine := by simpa using z2
        simp [wipeD, c1, c2, z1]
        rw [gAdd_ll _ _ _ _ _ (by simpa using z2)]
        simp⟩
      simpa using this w
    simp only [law_spoilt_rows_s6, sSet_s, lc]
    simp
  have u7 : ∀ w, law_spoilt_rows_s7 [some (fz (.lst RL)), some (fz (.int k)), some ⟨.nw, .lst (badsOf r)⟩, some ⟨.nw, .lst ((badsOf r).map fun d => D.lst (AL ++ [d] ++ BL))⟩, some (fz (.int r.b)), some (fz (.int r.e)), some (fz (.str r.s)), some (fz (.str r.n)), none] w = .next [some (fz (.lst RL)), some (fz (.int k)), some ⟨.nw, .lst (badsOf r)⟩, some ⟨.nw, .lst ((badsOf r).map (fun d => D.lst (AL ++ [d] ++ BL)) ++ [.lst (RL ++ [rowG r]), .lst [rowG r, rowG ⟨r.e, r.e + 1, r.s, r.n⟩]])⟩, some (fz (.int r.b)), some (fz (.int r.e)), some (fz (.str r.s)), some (fz (.str r.n)), none] w := fun w => by
    generalize badsOf r = bs at *
    simp [law_spoilt_rows_s7, a0, rowG, hb]
    rw [gAdd_ll _ _ _ _ _ (by simpa using z3)]
    simp [hb]
  have u8 : ∀ w, law_spoilt_rows_s8 [some (fz (.lst RL)), some (fz (.int k)), some ⟨.nw, .lst (badsOf r)⟩, some ⟨.nw, .lst ((badsOf r).map (fun d => D.lst (AL ++ [d] ++ BL)) ++ [.lst (RL ++ [rowG r]), .lst [rowG r, rowG ⟨r.e, r.e + 1, r.s, r.n⟩]])⟩, some (fz (.int r.b)), some (fz (.int r.e)), some (fz (.str r.s)), some (fz (.str r.n)), none] w = .ret ⟨.nw, .lst ((badsOf r).map (fun d => D.lst (AL ++ [d] ++ BL)) ++ [.lst (RL ++ [rowG r]), .lst [rowG r, rowG ⟨r.e, r.e + 1, r.s, r.n⟩]] ++ [.lst (AL ++ [.tup [.int r.b, .int r.e, .str r.s, .lst [.str r.n]]] ++ BL), .tup RL, .non, .str (Str.ofString "x")])⟩ w := fun w => by
    generalize badsOf r = bs at *
    have g1 : ∀ (x : D) m m' w, gAdd ⟨m, .lst (AL ++ [x])⟩ ⟨m', .lst BL⟩ w = .ok ⟨.nw, .lst (AL ++ [x] ++ BL)⟩ w := fun x m m' w => gAdd_ll _ _ _ _ _ (by simpa using z2)
    simp [law_spoilt_rows_s8, c1, c2, z1, g1, gTuple, hb, z4]
  have e : ([D.lst RL, D.int k].map (fun d => some (fz d)) ++ List.replicate (9 - 2) none : DL.Env) = [some (fz (.lst RL)), some (fz (.int k)), none, none, none, none, none, none, none] := rfl
  simp only [law_spoilt_rows, fnD, law_spoilt_rows_b, sSeq_s, List.length_cons, List.length_nil, if_true, e, u1, u2, u3, u4, u5, u6, u7, u8, othn_next]
/-! ### texts that are no guides -/
theorem nl_name {x : List Nat} (h : nameL x = true) : 10 ∉ x ∧ 32 ∉ x ∧ 45 ∉ x := by
  obtain ⟨_, _, l⟩ := name_len h
  refine ⟨fun z => ?_, fun z => ?_, fun z => ?_⟩
  all_goals
    have := (l _ z).1
    omega
theorem nl_fig {x : List Nat} (h : x.all isF = true) : 10 ∉ x ∧ 32 ∉ x ∧ 45 ∉ x := by
  have l : ∀ z ∈ x, 48 ≤ z := fun z hz => by
    have := List.all_eq_true.mp h z hz
    unfold isF at this
    simp at this
    omega
  refine ⟨fun z => ?_, fun z => ?_, fun z => ?_⟩
  all_goals
    have := l _ z
    omega
theorem line_free {r : G4} (g : GOk r) : 10 ∉ lineL r ∧ ∀ p ∈ [jl 45 [z2L r.b, z2L r.e], r.s.cps.toList, r.n.cps.toList], 32 ∉ p := by
  obtain ⟨a1, a2, a3⟩ := nl_fig (z2_ok (i := r.b) g.b0 (by have := g.b1; omega)).2.1
  obtain ⟨b1, b2, b3⟩ := nl_fig (z2_ok (i := r.e) (by have := g.e0; omega) g.e1).2.1
  obtain ⟨c1, c2, c3⟩ := nl_name g.s
  obtain ⟨_, _, nl⟩ := g.nl
  have d1 : 10 ∉ r.n.cps.toList := fun z => by have := (nl _ z).1; omega
  have d2 : 32 ∉ r.n.cps.toList := fun z => by have := (nl _ z).1; omega
  constructor
  · simp only [lineL, jl, List.mem_append, List.mem_cons]
    rintro ((h | h | h) | h | h | h | h)
    · exact a1 h
    · omega
    · exact b1 h
    · omega
    · exact c1 h
    · omega
    · exact d1 h
  · intro p hp
    simp only [List.mem_cons, List.not_mem_nil, or_false] at hp
    rcases hp with rfl | rfl | rfl
    · simp only [jl, List.mem_append, List.mem_cons]
      rintro (h | h | h)
      · exact a2 h
      · omega
      · exact b2 h
    · exact c2
    · exact d2
theorem told_parts {xs : List Nat} {s : Str} {i : Int} {rs : List G4} (T : Told (nm xs) s i rs) (ps : List (List Nat)) (hx : xs = jl 10 ps) (hn : ps ≠ []) (hf : ∀ p ∈ ps, 10 ∉ p) : ps = (s.cps.toList ++ 32 :: numL i) :: (rs.map lineL ++ [[]]) := by
  have e := nm_inj T.t
  rw [hx, gtL_jl] at e
  refine jl_inj _ _ hn (by simp) hf ?_ e
  intro p hp
  simp only [List.mem_cons, List.mem_append, List.mem_map, List.not_mem_nil, or_false] at hp
  rcases hp with rfl | ⟨r, hr, rfl⟩ | rfl
  · obtain ⟨a, _, _⟩ := nl_name T.s
    obtain ⟨b, _, _⟩ := nl_fig (num_ok T.i0 T.i1).1.2.2
    simp only [List.mem_append, List.mem_cons]
    rintro (h | h | h)
    · exact a h
    · omega
    · exact b h
  · exact (line_free (T.g r hr)).1
  · simp
theorem line_words {r : G4} (g : GOk r) (ps : List (List Nat)) (h : lineL r = jl 32 ps) (hn : ps ≠ []) (hf : ∀ p ∈ ps, 32 ∉ p) : ps = [jl 45 [z2L r.b, z2L r.e], r.s.cps.toList, r.n.cps.toList] :=
  (jl_inj _ _ (by simp) hn (line_free g).2 hf h).symm
theorem one_line {rs : List G4} {m : List Nat} (h : [m, []] = rs.map lineL ++ [[]]) : ∃ r ∈ rs, lineL r = m := by
  cases rs with
  | nil => simp at h
  | cons r rs =>
    simp only [List.map_cons, List.cons_append, List.cons.injEq] at h
    exact ⟨r, by simp, h.1.symm⟩
/-- read_guide refuses it -/
def NoT (xs : List Nat) : Prop := ∀ w, read_guide [.str (nm xs)] w = .ex ⟨"NoText", []⟩ w
theorem noT {xs : List Nat} (hz : xs.length ≤ 390) (o : ∀ z ∈ xs, z < 128) (h : ∀ s i rs, Told (nm xs) s i rs → False) : NoT xs := by
  rcases read_ok (nm xs) (by rw [nm_len]; exact hz) (strOk_nm fun z hz => by have := o z hz; omega) with e | ⟨s, i, rs, T, _⟩
  · exact e
  · exact (h s i rs T).elim
section
variable {N : List Nat} {d : Int} (hN : nameL N = true) (d0 : 0 ≤ d) (d1 : d ≤ 99)
include hN d0 d1
theorem L_free : (10 ∉ N ++ 32 :: numL d) ∧ (N ++ 32 :: numL d).length ≤ 9 ∧ ∀ z ∈ N ++ 32 :: numL d, z < 128 := by
  obtain ⟨a, _, _⟩ := nl_name hN
  obtain ⟨b, _, _⟩ := nl_fig (num_ok d0 d1).1.2.2
  obtain ⟨_, n6, nl⟩ := name_len hN
  have k2 := (num_ok d0 d1).1.2.1
  refine ⟨?_, by simp only [List.length_append, List.length_cons]; omega, fun z hz => ?_⟩
  · simp only [List.mem_append, List.mem_cons]
    rintro (h | h | h)
    · exact a h
    · omega
    · exact b h
  · simp only [List.mem_append, List.mem_cons] at hz
    rcases hz with h | h | h
    · have := (nl z h).2; omega
    · omega
    · have := List.all_eq_true.mp (num_ok d0 d1).1.2.2 z h
      unfold isF at this
      simp at this
      omega
/-- a guide with one line m that is none -/
theorem noT_line (m : List Nat) (hm : 10 ∉ m) (ml : m.length ≤ 30) (m8 : ∀ z ∈ m, z < 128) (h : ∀ r, GOk r → lineL r = m → False) : NoT (N ++ 32 :: numL d ++ [10] ++ (m ++ [10])) := by
  obtain ⟨f, l9, l8⟩ := L_free hN d0 d1
  refine noT ?_ ?_ fun s i rs T => ?_
  · simp only [List.length_append, List.length_cons, List.length_nil] at l9 ⊢; omega
  · intro z hz
    simp only [List.mem_append, List.mem_cons, List.not_mem_nil, or_false] at hz l8
    rcases hz with (hz | rfl) | hz | rfl
    · exact l8 z hz
    · omega
    · exact m8 z hz
    · omega
  · have e := told_parts T [N ++ 32 :: numL d, m, []] (by simp [jl]) (by simp) (by
      intro p hp
      simp only [List.mem_cons, List.not_mem_nil, or_false] at hp
      rcases hp with rfl | rfl | rfl
      · exact f
      · exact hm
      · simp)
    simp only [List.cons.injEq] at e
    obtain ⟨r, hr, he⟩ := one_line e.2
    exact h r (T.g r hr) he
/-- a guide of one first line that is none -/
theorem noT_first (m : List Nat) (hm : 10 ∉ m) (ml : m.length ≤ 30) (m8 : ∀ z ∈ m, z < 128) (h : ∀ s i, nameL s = true → 0 ≤ i → i ≤ 99 → m = s ++ 32 :: numL i → False) : NoT (m ++ [10]) := by
  refine noT ?_ ?_ fun s i rs T => ?_
  · simp only [List.length_append, List.length_cons, List.length_nil]; omega
  · intro z hz
    simp only [List.mem_append, List.mem_cons, List.not_mem_nil, or_false] at hz
    rcases hz with hz | rfl
    · exact m8 z hz
    · omega
  · have e := told_parts T [m, []] (by simp [jl]) (by simp) (by
      intro p hp
      simp only [List.mem_cons, List.not_mem_nil, or_false] at hp
      rcases hp with rfl | rfl
      · exact hm
      · simp)
    simp only [List.cons.injEq] at e
    exact h _ i T.s T.i0 T.i1 e.1
end
/-- a text without a line feed -/
theorem noT_end (m : List Nat) (hm : 10 ∉ m) (ml : m.length ≤ 30) (m8 : ∀ z ∈ m, z < 128) : NoT m := by
  refine noT (by omega) m8 fun s i rs T => ?_
  have e := told_parts T [m] (by simp [jl]) (by simp) (by
    intro p hp
    simp only [List.mem_cons, List.not_mem_nil, or_false] at hp
    rw [hp]; exact hm)
  simp at e
section
variable {N : List Nat} {d : Int} (hN : nameL N = true) (d0 : 0 ≤ d) (d1 : d ≤ 99)
include hN d0 d1
theorem bad1 : NoT (N ++ 32 :: numL d ++ [10] ++ [48, 48, 45, 48, 49, 32, 97, 10]) := noT_line hN d0 d1 [48, 48, 45, 48, 49, 32, 97] (by decide) (by decide) (by decide) fun r g h => by
  have := line_words g [[48, 48, 45, 48, 49], [97]] h (by simp) (by decide)
  simp at this
theorem bad2 : NoT (N ++ 32 :: numL d ++ [10] ++ [48, 45, 49, 32, 97, 32, 98, 10]) := noT_line hN d0 d1 [48, 45, 49, 32, 97, 32, 98] (by decide) (by decide) (by decide) fun r g h => by
  have := line_words g [[48, 45, 49], [97], [98]] h (by simp) (by decide)
  simp only [List.cons.injEq] at this
  have a := (z2_ok (i := r.b) g.b0 (by have := g.b1; omega)).1
  have b := (z2_ok (i := r.e) (by have := g.e0; omega) g.e1).1
  have l := congrArg List.length this.1
  simp only [jl, List.length_append, List.length_cons, List.length_nil, a, b] at l
  omega
theorem bad3 : NoT (N ++ 32 :: numL d ++ [10] ++ [48, 48, 45, 48, 49, 32, 97, 32, 98, 32, 10]) := noT_line hN d0 d1 [48, 48, 45, 48, 49, 32, 97, 32, 98, 32] (by decide) (by decide) (by decide) fun r g h => by
  have := line_words g [[48, 48, 45, 48, 49], [97], [98], []] h (by simp) (by decide)
  simp at this
theorem bad4 : NoT (N ++ 32 :: numL d ++ [10] ++ [48, 48, 45, 48, 49, 32, 32, 97, 32, 98, 10]) := noT_line hN d0 d1 [48, 48, 45, 48, 49, 32, 32, 97, 32, 98] (by decide) (by decide) (by decide) fun r g h => by
  have := line_words g [[48, 48, 45, 48, 49], [], [97], [98]] h (by simp) (by decide)
  simp at this
theorem bad9 : NoT (N ++ 32 :: numL d ++ [10] ++ [10]) := noT_line hN d0 d1 [] (by decide) (by decide) (by decide) fun r g h => by
  have := congrArg List.length h
  simp only [lineL, jl, List.length_append, List.length_cons, List.length_nil] at this
  omega
theorem bad11 : NoT (N ++ 32 :: numL d ++ [10] ++ [48, 48, 45, 50, 53, 32, 97, 32, 98, 10]) := noT_line hN d0 d1 [48, 48, 45, 50, 53, 32, 97, 32, 98] (by decide) (by decide) (by decide) fun r g h => by
  have := line_words g [[48, 48, 45, 50, 53], [97], [98]] h (by simp) (by decide)
  simp only [List.cons.injEq] at this
  have a := z2_ok (i := r.b) g.b0 (by have := g.b1; omega)
  have b := z2_ok (i := r.e) (by have := g.e0; omega) g.e1
  have e : jl 45 [[48, 48], [50, 53]] = jl 45 [z2L r.b, z2L r.e] := this.1
  have := jl_inj _ _ (by simp) (by simp) (by decide) (by
    intro p hp
    simp only [List.mem_cons, List.not_mem_nil, or_false] at hp
    rcases hp with rfl | rfl
    · exact (nl_fig a.2.1).2.2
    · exact (nl_fig b.2.1).2.2) e
  simp only [List.cons.injEq] at this
  exact b.2.2 this.2.1.symm
theorem bad5 : NoT (32 :: (N ++ 32 :: numL d) ++ [10]) := by
  obtain ⟨f, l9, l8⟩ := L_free hN d0 d1
  refine noT_first hN d0 d1 (32 :: (N ++ 32 :: numL d)) (by simp only [List.mem_cons]; rintro (h | h); omega; exact f h) (by simp only [List.length_cons] at l9 ⊢; omega) (fun z hz => by rcases List.mem_cons.mp hz with rfl | hz; omega; exact l8 z hz) fun s i hs i0 i1 h => ?_
  have e : jl 32 [[], N, numL d] = jl 32 [s, numL i] := h
  have := jl_inj _ _ (by simp) (by simp) (by
    intro p hp
    simp only [List.mem_cons, List.not_mem_nil, or_false] at hp
    rcases hp with rfl | rfl | rfl
    · simp
    · exact (nl_name hN).2.1
    · exact (nl_fig (num_ok d0 d1).1.2.2).2.1) (by
    intro p hp
    simp only [List.mem_cons, List.not_mem_nil, or_false] at hp
    rcases hp with rfl | rfl
    · exact (nl_name hs).2.1
    · exact (nl_fig (num_ok i0 i1).1.2.2).2.1) e
  simp at this
theorem bad12 : NoT (N ++ 32 :: numL d ++ [32] ++ [10]) := by
  obtain ⟨f, l9, l8⟩ := L_free hN d0 d1
  refine noT_first hN d0 d1 (N ++ 32 :: numL d ++ [32]) (by rw [List.mem_append]; rintro (h | h); exact f h; simp at h) (by rw [List.length_append]; simp only [List.length_cons, List.length_nil] at l9 ⊢; omega) (fun z hz => by rcases List.mem_append.mp hz with hz | hz; exact l8 z hz; simp at hz; omega) fun s i hs i0 i1 h => ?_
  have e : jl 32 [N, numL d, []] = jl 32 [s, numL i] := by rw [show jl 32 [s, numL i] = s ++ 32 :: numL i from rfl, ← h]; simp [jl]
  have := jl_inj _ _ (by simp) (by simp) (by
    intro p hp
    simp only [List.mem_cons, List.not_mem_nil, or_false] at hp
    rcases hp with rfl | rfl | rfl
    · exact (nl_name hN).2.1
    · exact (nl_fig (num_ok d0 d1).1.2.2).2.1
    · simp) (by
    intro p hp
    simp only [List.mem_cons, List.not_mem_nil, or_false] at hp
    rcases hp with rfl | rfl
    · exact (nl_name hs).2.1
    · exact (nl_fig (num_ok i0 i1).1.2.2).2.1) e
  simp at this
/-- another number behind the name -/
theorem noT_num (m : List Nat) (hm : 10 ∉ m ∧ 32 ∉ m) (ml : m.length ≤ 5) (m8 : ∀ z ∈ m, z < 128) (h : ∀ i, 0 ≤ i → i ≤ 99 → m = numL i → False) : NoT (N ++ 32 :: m ++ [10]) := by
  obtain ⟨a, b, _⟩ := nl_name hN
  obtain ⟨_, n6, nl⟩ := name_len hN
  refine noT_first hN d0 d1 (N ++ 32 :: m) (by simp only [List.mem_append, List.mem_cons]; rintro (h | h | h); exact a h; omega; exact hm.1 h) (by simp only [List.length_append, List.length_cons]; omega) (fun z hz => by simp only [List.mem_append, List.mem_cons] at hz; rcases hz with h | h | h; have := (nl z h).2; omega; omega; exact m8 z h) fun s i hs i0 i1 e => ?_
  have e : jl 32 [N, m] = jl 32 [s, numL i] := e
  have := jl_inj _ _ (by simp) (by simp) (by
    intro p hp
    simp only [List.mem_cons, List.not_mem_nil, or_false] at hp
    rcases hp with rfl | rfl
    · exact b
    · exact hm.2) (by
    intro p hp
    simp only [List.mem_cons, List.not_mem_nil, or_false] at hp
    rcases hp with rfl | rfl
    · exact (nl_name hs).2.1
    · exact (nl_fig (num_ok i0 i1).1.2.2).2.1) e
  simp only [List.cons.injEq] at this
  exact h i i0 i1 this.2.1
theorem bad6 : NoT (N ++ 32 :: 48 :: numL d ++ [10]) := by
  have nd := num_ok d0 d1
  obtain ⟨a, b, _⟩ := nl_fig nd.1.2.2
  refine noT_num hN d0 d1 (48 :: numL d) ⟨by simp only [List.mem_cons]; rintro (h | h); omega; exact a h, by simp only [List.mem_cons]; rintro (h | h); omega; exact b h⟩ (by simp only [List.length_cons]; have := nd.1.2.1; omega) (fun z hz => by
    rcases List.mem_cons.mp hz with rfl | hz
    · omega
    · have := List.all_eq_true.mp nd.1.2.2 z hz
      unfold isF at this
      simp at this
      omega) fun i i0 i1 h => ?_
  have := (num_ok i0 i1).2.1 (by rw [← h]; rfl)
  rw [← h] at this
  simp only [List.length_cons] at this
  have := nd.1.1
  omega
theorem bad7 : NoT (N ++ 32 :: [49, 48, 48] ++ [10]) := noT_num hN d0 d1 [49, 48, 48] (by decide) (by decide) (by decide) fun i i0 i1 h => by
  have := (num_ok i0 i1).1.2.1
  rw [← h] at this
  simp at this
theorem bad8 : NoT (N ++ 32 :: numL d ++ [10] ++ [48, 48, 45, 48, 49, 32, 97, 32, 98]) := by
  obtain ⟨f, l9, l8⟩ := L_free hN d0 d1
  refine noT ?_ ?_ fun s i rs T => ?_
  · simp only [List.length_append, List.length_cons, List.length_nil] at l9 ⊢; omega
  · intro z hz
    rw [List.mem_append, List.mem_append] at hz
    rcases hz with (hz | hz) | hz
    · exact l8 z hz
    · simp at hz; omega
    · revert z; decide
  · have e := told_parts T [N ++ 32 :: numL d, [48, 48, 45, 48, 49, 32, 97, 32, 98]] (by simp [jl]) (by simp) (by
      intro p hp
      simp only [List.mem_cons, List.not_mem_nil, or_false] at hp
      rcases hp with rfl | rfl
      · exact f
      · decide)
    simp only [List.cons.injEq] at e
    have e := e.2
    cases rs with
    | nil => simp at e
    | cons r rs => simp at e
theorem bad10 : NoT (N ++ [10]) := by
  obtain ⟨a, b, _⟩ := nl_name hN
  obtain ⟨_, n6, nl⟩ := name_len hN
  exact noT_first hN d0 d1 N a (by omega) (fun z hz => by have := (nl z hz).2; omega) fun s i _ _ _ h => b (by rw [h]; simp)
theorem bad_nl : NoT [10] := noT_first hN d0 d1 [] (by decide) (by decide) (by decide) fun s i _ _ _ h => by simp at h
theorem bad_3 : NoT [32, 51, 10] := noT_first hN d0 d1 [32, 51] (by decide) (by decide) (by decide) fun s i hs _ _ h => by
  obtain ⟨s1, _, sl⟩ := name_len hs
  cases s with
  | nil => simp at s1
  | cons a s =>
    simp only [List.cons_append, List.cons.injEq] at h
    have := (sl a (by simp)).1
    omega
theorem bad_N : NoT N := by
  obtain ⟨a, b, _⟩ := nl_name hN
  obtain ⟨_, n6, nl⟩ := name_len hN
  exact noT_end N a (by omega) fun z hz => by have := (nl z hz).2; omega
theorem bad_L : NoT (N ++ 32 :: numL d) := by
  obtain ⟨f, l9, l8⟩ := L_free hN d0 d1
  exact noT_end _ f (by omega) l8
end
theorem bad_0 : NoT [] := noT_end [] (by decide) (by decide) (by decide)
theorem bad_A : NoT [65] := noT_end [65] (by decide) (by decide) (by decide)
/-- a guide without rows is read -/
theorem split_nm {x : Str} {c : Nat} {ps : List (List Nat)} (h : (Txt.split x ⟨#[c]⟩).map (fun t => t.cps.toList) = ps) : Txt.split x ⟨#[c]⟩ = ps.map nm := by
  rw [← h, List.map_map]
  have : (nm ∘ fun t : Str => t.cps.toList) = id := by
    funext t
    exact (nm_of t).symm
  rw [this, List.map_id]
theorem read_line {N : List Nat} {d : Int} (hN : nameL N = true) (d0 : 0 ≤ d) (d1 : d ≤ 99) (w : W) : read_guide [.str (nm (N ++ 32 :: numL d ++ [10]))] w = .ok (fz (.tup [.str (nm N), .int d, .lst []])) w := by
  obtain ⟨f, l9, l8⟩ := L_free hN d0 d1
  have nd := num_ok d0 d1
  obtain ⟨x, hx⟩ : ∃ x, x = nm (N ++ 32 :: numL d ++ [10]) := ⟨_, rfl⟩
  have hz : x.length ≤ 390 := by rw [hx, nm_len, List.length_append]; simp only [List.length_cons, List.length_nil] at l9 ⊢; omega
  have o : PyData.strOk x = true := by
    rw [hx]
    refine strOk_nm fun z hz => ?_
    rcases List.mem_append.mp hz with hz | hz
    · have := l8 z hz; omega
    · simp at hz; omega
  have he : endB x = true := by
    refine decide_eq_true ?_
    have hl : x.length - 1 = (N ++ 32 :: numL d).length := by rw [hx, nm_len, List.length_append]; simp
    rw [hl, hx, nm_cps, List.drop_left' rfl]
  have s10 : Txt.split x ⟨#[10]⟩ = [nm (N ++ 32 :: numL d)] ++ [nm []] := by
    have := split_nm (split_jl x 10 [N ++ 32 :: numL d, []] (by simp) (by
      intro p hp
      simp only [List.mem_cons, List.not_mem_nil, or_false] at hp
      rcases hp with rfl | rfl
      · exact f
      · simp) (by rw [hx, nm_cps]; simp [jl]))
    simpa using this
  have s32 : Txt.split (nm (N ++ 32 :: numL d)) ⟨#[32]⟩ = [nm N, nm (numL d)] := by
    have := split_nm (split_jl (nm (N ++ 32 :: numL d)) 32 [N, numL d] (by simp) (by
      intro p hp
      simp only [List.mem_cons, List.not_mem_nil, or_false] at hp
      rcases hp with rfl | rfl
      · exact (nl_name hN).2.1
      · exact (nl_fig nd.1.2.2).2.1) (by rw [nm_cps]; simp [jl]))
    simpa using this
  have hw : wrdB (nm (numL d)) = true := by
    unfold wrdB
    rw [nm_len, nm_cps]
    simp [nd.1.1, nd.1.2.1, nd.1.2.2]
  obtain ⟨i, _, _, hi, np⟩ := number_ok _ hw
  rw [nd.2.2] at hi
  cases hi
  have hN2 : nameL (nm N).cps.toList = true := by rw [nm_cps]; exact hN
  have gt : ∀ w, guide_text [.str (nm N), .int d, .lst []] w = .ok (fz (.str x)) w := fun w => by
    have := guide_text_ok (nm N) d [] hN2 d0 d1 (by simp) (by simp) w
    rw [List.map_nil] at this
    rw [this, hx, nm_cps]
    simp [folL, gtL]
  have q := fun m m' w => gEq_str x x o o true m m' w
  have e1 : ∀ m m' w, gSplit ⟨m, .str x⟩ ⟨m', .str ⟨#[10]⟩⟩ w = .ok ⟨.nw, .lst ((Txt.split x ⟨#[10]⟩).map D.str)⟩ w := fun m m' w => gSplit_ok x 10 (by omega) m m' w
  have e2 : ∀ m m' w, gSplit ⟨m, .str (nm (N ++ 32 :: numL d))⟩ ⟨m', .str ⟨#[32]⟩⟩ w = .ok ⟨.nw, .lst ((Txt.split (nm (N ++ 32 :: numL d)) ⟨#[32]⟩).map D.str)⟩ w := fun m m' w => gSplit_ok _ 32 (by rw [nm_len]; omega) m m' w
  rw [s10, ← nl_lit] at e1
  rw [s32, ← sp_lit] at e2
  rw [← hx]
  generalize nm (N ++ 32 :: numL d) = l0 at *
  generalize nm N = s at *
  generalize nm (numL d) = p at *
  have u1 : ∀ w, read_guide_s1 [some (fz (.str x)), none, none, none, none] w = .next [some (fz (.str x)), none, none, none, none] w := fun w => by
    have u := fun w => last_q x (by omega) o w
    rw [he] at u
    simp only [read_guide_s1]
    simp [gIsiT, gIsi, tyD, -dOp_s, u]
  have u2 : ∀ w, read_guide_s2 [some (fz (.str x)), none, none, none, none] w = .next [some (fz (.str x)), some (fz (.lst [.str l0])), none, none, none] w := fun w => by
    have c := cutL_m1 [D.str l0] (D.str (nm []))
    simp only [List.map_append, List.map_cons, List.map_nil] at e1
    simp only [List.cons_append, List.nil_append] at e1 c
    simp [read_guide_s2, dBm, tyOk, e1, c]
  have u3 : ∀ w, read_guide_s3 [some (fz (.str x)), some (fz (.lst [.str l0])), none, none, none] w = .next [some (fz (.str x)), some (fz (.lst [.str l0])), some (fz (.lst [.str s, .str p])), none, none] w := fun w => by
    have a0 : atI [D.str l0] 0 = some (.str l0) := rfl
    simp [read_guide_s3, dBm, tyOk, e2, a0]
  have u4 : ∀ w, read_guide_s4 [some (fz (.str x)), some (fz (.lst [.str l0])), some (fz (.lst [.str s, .str p])), none, none] w = .next [some (fz (.str x)), some (fz (.lst [.str l0])), some (fz (.lst [.str s, .str p])), none, none] w := fun w => by
    simp [read_guide_s4]
  have u5 : ∀ w, read_guide_s5 [some (fz (.str x)), some (fz (.lst [.str l0])), some (fz (.lst [.str s, .str p])), none, none] w = .next [some (fz (.str x)), some (fz (.lst [.str l0])), some (fz (.lst [.str s, .str p])), some (fz (.tup [.str s, .int d, .lst []])), none] w := fun w => by
    have c0 : atI [D.str s, D.str p] 0 = some (.str s) := rfl
    have c1 : atI [D.str s, D.str p] 1 = some (.str p) := rfl
    have cu : cutL [D.str l0] (some 1) none = [] := cutL_from [D.str l0] 1
    simp [read_guide_s5, c0, c1, np, dLcX, iSq, cu, lcX, lcV]
  have u6 : ∀ w, read_guide_s6 [some (fz (.str x)), some (fz (.lst [.str l0])), some (fz (.lst [.str s, .str p])), some (fz (.tup [.str s, .int d, .lst []])), none] w = .next [some (fz (.str x)), some (fz (.lst [.str l0])), some (fz (.lst [.str s, .str p])), some (fz (.tup [.str s, .int d, .lst []])), none] w := fun w => by
    simp [read_guide_s6, gt, q]
  have u7 : ∀ w, read_guide_s7 [some (fz (.str x)), some (fz (.lst [.str l0])), some (fz (.lst [.str s, .str p])), some (fz (.tup [.str s, .int d, .lst []])), none] w = .ret (fz (.tup [.str s, .int d, .lst []])) w := fun w => by
    simp [read_guide_s7]
  have e : ([D.str x].map (fun d => some (fz d)) ++ List.replicate (5 - 1) none : DL.Env) = [some (fz (.str x)), none, none, none, none] := rfl
  simp only [read_guide, fnD, read_guide_b, sSeq_s, List.length_cons, List.length_nil, if_true, e, u1, u2, u3, u4, u5, u6, u7, othn_next, othn_ret]
/-! ### _law_is_well_read -/
theorem well_ok (x : Str) (hz : x.length ≤ 390) (o : PyData.strOk x = true) (w : W) : law_is_well_read [.str x] w = .ok (fz (.bl true)) w := by
  rcases read_ok x hz o with h | ⟨s, i, rs, T, h⟩
  · simp [law_is_well_read, fnD, law_is_well_read_b, h]
  · have gt : ∀ w, guide_text [.str s, .int i, .lst (rs.map rowG)] w = .ok (fz (.str x)) w := fun w => by
      rw [guide_text_ok s i rs T.s T.i0 T.i1 T.l T.g w, T.f, ← T.t]
      rfl
    have os : PyData.strOk s = true := strOk_in.mpr fun z hz => by have := ((name_len T.s).2.2 z hz).2; omega
    have pr : pl (.lst (rs.map rowG)) = true := pl_rows fun r hr => (T.g r hr).ok4
    have pr9 : plN 9 (.lst (rs.map rowG)) = true := by
      show (rs.map rowG).all (plN 8) = true
      rw [List.all_map, List.all_eq_true]
      intro r hr
      obtain ⟨h1, h2, _, _⟩ := (T.g r hr).ok4
      simp [rowG, plN, h1, h2]
    have q := fun m m' w => gEq_str x x o o false m m' w
    generalize rs.map rowG = L at *
    have pt : pl (.tup [.str s, .int i, .lst L]) = true := by
      show [D.str s, D.int i, D.lst L].all (plN 9) = true
      simp [pr9]
      simp [plN, os]
    have q2 : ∀ m m' w, gEq false ⟨m, .tup [.str s, .int i, .lst L]⟩ ⟨m', .tup [.str (Str.ofString "refused"), .str (Str.ofString "NoText")]⟩ w = .ok (fz (.bl false)) w := fun m m' w => by
      unfold gEq
      simp only [pt, pl_ref, Bool.and_self, if_true]
      simp [eqD, eqDs]
    simp [law_is_well_read, fnD, law_is_well_read_b, h, gt, q, q2, gIsiT, gIsi, tyD]
/-! ### the law -/
theorem cutS_to (T : List Nat) (k : Nat) : cutS (nm T) none (some (k : Int)) = nm (T.take k) := by
  have := cutL_to T k
  unfold cutL at this
  unfold cutS
  rw [nm_cps, nm_len, this]
  rfl
theorem cutS_from (T : List Nat) (k : Nat) : cutS (nm T) (some (k : Int)) none = nm (T.drop k) := by
  have := cutL_from T k
  unfold cutL at this
  unfold cutS
  rw [nm_cps, nm_len, this]
  rfl
theorem cutS_m1 (T : List Nat) (c : Nat) : cutS (nm (T ++ [c])) none (some (-1)) = nm T := by
  have := cutL_m1 T c
  unfold cutL at this
  unfold cutS
  rw [nm_cps, nm_len, this]
  rfl
theorem signs_ix {p : Int} (h0 : 0 ≤ p) (h1 : p < 18) : ∃ c : Nat, c < 128 ∧ ∀ (m m' : Md) (w : W), gIx ⟨m, .str "0123456789 -!ab\n\t#"⟩ ⟨m', .int p⟩ w = .ok (fz (.str (nm [c]))) w := by
  have key : ∀ q : Fin 18, ∃ c, c < 128 ∧ (Str.ofString "0123456789 -!ab\n\t#").cps.toList[q.1]? = some c := by decide +kernel
  have hl : (Str.ofString "0123456789 -!ab\n\t#").cps.toList.length = 18 := by decide +kernel
  have hs : (Str.ofString "0123456789 -!ab\n\t#").length ≤ sizeLine := by decide +kernel
  obtain ⟨c, hc, ec⟩ := key ⟨p.toNat, by omega⟩
  refine ⟨c, hc, fun m m' w => ?_⟩
  simp only [gIx, hs, if_true]
  rw [atI_pos h0 (by rw [hl]; exact h1), ec]
  rfl
def EV (ns : List Int) (R : D) (N : Str) (d : Int) (T : Str) (z1 z2 z3 z4 z5 z6 z12 z13 z14 : Option Val) : DL.Env := [some (fz (.scr ns)), z1, z2, z3, z4, z5, z6, some (fz R), some (fz (.str N)), some (fz (.int d)), some (fz (.str T)), some (fz (.str (Str.ofString "0123456789 -!ab\n\t#"))), z12, z13, z14]
theorem law_k (ns : List Int) (hl : ns.length ≤ 63) (R : D) (N : Str) (d : Int) (T : List Nat) (hT : T.length ≤ 190) (h8 : ∀ z ∈ T, z < 128) (k : Int) (k0 : 0 ≤ k) (k1 : k < 8) (z2 z3 z4 z5 z6 z12 z13 z14 : Option Val) :
    ∃ y6 y13 y14, ∀ w, law_l2 (EV ns R N d (nm T) (some (fz (.int k))) z2 z3 z4 z5 z6 z12 z13 z14) w = .next (EV ns R N d (nm T) (some (fz (.int k))) z2 z3 z4 z5 y6 z12 y13 y14) w := by
  have p1 := pick_ok (ns := ns) (k := 301 + k) (m := (T.length : Int) + 1) hl (by omega) (by omega) (by omega)
  have p2 := pick_ok (ns := ns) (k := 310 + k) (m := 18) hl (by omega) (by omega) (by decide)
  generalize pick ns (301 + k) ((T.length : Int) + 1) = q1 at p1
  generalize pick ns (310 + k) 18 = q2 at p2
  obtain ⟨c, c8, ix⟩ := signs_ix p2.1 p2.2.1
  obtain ⟨a, rfl⟩ := Int.eq_ofNat_of_zero_le p1.1
  have w1 := p1.2.2
  have w2 := p2.2.2
  have hz : (nm T).length ≤ sizeLine := sz_le (by rw [nm_len]; omega)
  have t1 : ∀ m w, gSl ⟨m, .str (nm T)⟩ none (some (a : Int)) w = .ok (fz (.str (nm (T.take a)))) w := fun m w => by simp [gSl, hz, cutS_to]
  have t2 : ∀ m w, gSl ⟨m, .str (nm T)⟩ (some (a : Int)) none w = .ok (fz (.str (nm (T.drop a)))) w := fun m w => by simp [gSl, hz, cutS_from]
  have t3 : ∀ m w, gSl ⟨m, .str (nm T)⟩ (some ((a : Int) + 1)) none w = .ok (fz (.str (nm (T.drop (a + 1))))) w := fun m w => by
    have : ((a : Int) + 1) = ((a + 1 : Nat) : Int) := by omega
    rw [this]
    simp only [gSl, hz, if_true, cutS_from]
  have gl : ∀ m w, gLen [⟨m, .str (nm T)⟩] w = .ok (fz (.int T.length)) w := fun m w => by
    have hz2 : T.length ≤ sizeLine := sz_le (by omega)
    simp only [gLen, nm_len, hz2, if_true]
  have la : (T.take a).length ≤ T.length := by rw [List.length_take]; omega
  have lb : (T.drop a).length ≤ T.length := by rw [List.length_drop]; omega
  have lc : (T.drop (a + 1)).length ≤ T.length := by rw [List.length_drop]; omega
  have ma : ∀ z ∈ T.take a, z < 128 := fun z hz => h8 z (List.take_subset _ _ hz)
  have mb : ∀ z ∈ T.drop a, z < 128 := fun z hz => h8 z (List.drop_subset _ _ hz)
  have mc : ∀ z ∈ T.drop (a + 1), z < 128 := fun z hz => h8 z (List.drop_subset _ _ hz)
  generalize T.take a = A at *
  generalize T.drop a = B at *
  generalize T.drop (a + 1) = C at *
  have s1 : ∀ m m' w, gAdd ⟨m, .str (nm A)⟩ ⟨m', .str (nm C)⟩ w = .ok (fz (.str (nm (A ++ C)))) w := fun m m' w => gAdd_nm (by omega) m m' w
  have s2 : ∀ m m' w, gAdd ⟨m, .str (nm A)⟩ ⟨m', .str (nm [c])⟩ w = .ok (fz (.str (nm (A ++ [c])))) w := fun m m' w => gAdd_nm (by simp only [List.length_cons, List.length_nil]; omega) m m' w
  have s3 : ∀ m m' w, gAdd ⟨m, .str (nm (A ++ [c]))⟩ ⟨m', .str (nm B)⟩ w = .ok (fz (.str (nm (A ++ [c] ++ B)))) w := fun m m' w => gAdd_nm (by simp only [List.length_append, List.length_cons, List.length_nil]; omega) m m' w
  have s4 : ∀ m m' w, gAdd ⟨m, .str (nm (A ++ [c]))⟩ ⟨m', .str (nm C)⟩ w = .ok (fz (.str (nm (A ++ [c] ++ C)))) w := fun m m' w => gAdd_nm (by simp only [List.length_append, List.length_cons, List.length_nil]; omega) m m' w
  have wo : ∀ X : List Nat, X.length ≤ 390 → (∀ z ∈ X, z < 128) → ∀ w, law_is_well_read [.str (nm X)] w = .ok (fz (.bl true)) w := fun X hX h w => well_ok (nm X) (by rw [nm_len]; exact hX) (strOk_nm fun z hz => by have := h z hz; omega) w
  have v1 := wo (A ++ C) (by simp only [List.length_append]; omega) fun z hz => by rcases List.mem_append.mp hz with h | h; exact ma z h; exact mc z h
  have v2 := wo (A ++ [c] ++ B) (by simp only [List.length_append, List.length_cons, List.length_nil]; omega) fun z hz => by
    simp only [List.mem_append, List.mem_cons, List.not_mem_nil, or_false] at hz
    rcases hz with (h | h) | h
    · exact ma z h
    · omega
    · exact mb z h
  have v3 := wo (A ++ [c] ++ C) (by simp only [List.length_append, List.length_cons, List.length_nil]; omega) fun z hz => by
    simp only [List.mem_append, List.mem_cons, List.not_mem_nil, or_false] at hz
    rcases hz with (h | h) | h
    · exact ma z h
    · omega
    · exact mc z h
  generalize nm (A ++ C) = X1 at *
  generalize nm (A ++ [c] ++ B) = X2 at *
  generalize nm (A ++ [c] ++ C) = X3 at *
  refine ⟨some (fz (.str X3)), some (fz (.int a)), some (fz (.str (nm [c]))), fun w => ?_⟩
  simp [law_l2, EV, w1, w2, gl, ix, t1, t2, t3, s1, s2, s3, s4, iSq, forL, law_l1, v1, v2, v3]
theorem pl_str {x : Str} (h : PyData.strOk x = true) : pl (.str x) = true := h
theorem gEq_refs (m m' : Md) (w : W) : gEq true ⟨m, .lst [.tup [.str (Str.ofString "refused"), .str (Str.ofString "NoText")], .tup [.str (Str.ofString "refused"), .str (Str.ofString "NoText")]]⟩ ⟨m', .lst [.tup [.str (Str.ofString "refused"), .str (Str.ofString "NoText")], .tup [.str (Str.ofString "refused"), .str (Str.ofString "NoText")]]⟩ w = .ok (fz (.bl false)) w :=
  gEq_same (by simp [pl, plN]) true m m' w
/-- no guide of such a station -/
def NoR (t : D) (d : Int) (R : D) : Prop := ∀ w, guide_text [t, .int d, R] w = .ex ⟨"NoText", []⟩ w
theorem l4_ok (ns : List Int) (R : D) (N : Str) (oN : PyData.strOk N = true) (d : Int) (T : Str) (z1 z2 z4 z5 z6 z12 z13 z14 : Option Val) (t : D) (pt : pl t = true)
    (h0 : NoR t d R ∨ t = .str N ∧ ∃ X, ∀ w, guide_text [t, .int d, R] w = .ok (fz (.str X)) w) (h1 : ∀ w, guide_text [.str N, t, R] w = .ex ⟨"NoText", []⟩ w) (h2 : ∀ w, read_guide [t] w = .ex ⟨"NoText", []⟩ w) :
    ∃ y12, ∀ w, law_l4 (EV ns R N d T z1 z2 (some (fz t)) z4 z5 z6 z12 z13 z14) w = .next (EV ns R N d T z1 z2 (some (fz t)) z4 z5 z6 y12 z13 z14) w := by
  have q1 := fun m m' w => gEq_pl pt (pl_str oN) true m m' w
  have rm : ROm 1 2 := ⟨by decide, by decide, by decide⟩
  have c1 : ∀ a b c : D, cutL [a, b, c] (some 1) none = [b, c] := fun _ _ _ => rfl
  have rep : (List.replicate (2 : Int).toNat [D.tup [.str (Str.ofString "refused"), .str (Str.ofString "NoText")]]).flatten = [.tup [.str (Str.ofString "refused"), .str (Str.ofString "NoText")], .tup [.str (Str.ofString "refused"), .str (Str.ofString "NoText")]] := rfl
  have gm : ∀ m m' w, gMul ⟨m, .lst [.tup [.str (Str.ofString "refused"), .str (Str.ofString "NoText")]]⟩ ⟨m', .int 2⟩ w = .ok ⟨.nw, .lst [.tup [.str (Str.ofString "refused"), .str (Str.ofString "NoText")], .tup [.str (Str.ofString "refused"), .str (Str.ofString "NoText")]]⟩ w := fun m m' w => by
    simp only [gMul, List.length_cons, List.length_nil]
    rw [if_pos rm, rep]
  rcases h0 with h0 | ⟨rfl, X, h0⟩
  · refine ⟨some ⟨.nw, .lst [.tup [.str (Str.ofString "refused"), .str (Str.ofString "NoText")], .tup [.str (Str.ofString "refused"), .str (Str.ofString "NoText")], .tup [.str (Str.ofString "refused"), .str (Str.ofString "NoText")]]⟩, fun w => ?_⟩
    have h0 : ∀ w, guide_text [t, .int d, R] w = .ex ⟨"NoText", []⟩ w := h0
    cases hq : eqD t (.str N) <;> rw [hq] at q1 <;> simp [law_l4, EV, h0, h1, h2, c1, gm, gEq_refs, q1]
  · have qN := fun m m' w => gEq_same (pl_str oN) true m m' w
    refine ⟨some ⟨.nw, .lst [.str X, .tup [.str (Str.ofString "refused"), .str (Str.ofString "NoText")], .tup [.str (Str.ofString "refused"), .str (Str.ofString "NoText")]]⟩, fun w => ?_⟩
    simp [law_l4, EV, h0, h1, h2, c1, gm, gEq_refs, qN]
theorem gt_noS {t : D} {d : Int} {made : List G4} (ot : okD t = true) (nt : nameB t = false) (hz : made.length ≤ 100) (hg : ∀ r ∈ made, GOk r) : NoR t d (.lst (made.map rowG)) := fun w => by
  have og := fun w => is_guide_no t (.int d) (made.map rowG) ot rfl (by simp; omega) (fun x hx => by obtain ⟨r, hr, rfl⟩ := List.mem_map.mp hx; exact okG_row (hg r hr).ok4) (by simp [nt]) w
  simp [guide_text, fnD, guide_text_b, og]
theorem gt_noD {N : Str} {t : D} {made : List G4} (oN : okD (.str N) = true) (ot : okD t = true) (nt : numB t 0 99 = false) (hz : made.length ≤ 100) (hg : ∀ r ∈ made, GOk r) (w : W) : guide_text [.str N, t, .lst (made.map rowG)] w = .ex ⟨"NoText", []⟩ w := by
  have og := fun w => is_guide_no (.str N) t (made.map rowG) oN ot (by simp; omega) (fun x hx => by obtain ⟨r, hr, rfl⟩ := List.mem_map.mp hx; exact okG_row (hg r hr).ok4) (by simp [nt]) w
  simp [guide_text, fnD, guide_text_b, og]
theorem okD_nm {x : List Nat} (h : x.length ≤ 10000) : okD (.str (nm x)) = true := decide_eq_true (by rw [nm_len]; exact h)
theorem nameB_nm (x : List Nat) : nameB (.str (nm x)) = nameL x := by simp only [nameB, nm_cps]
/-- the things at each place -/
def thgs (N : List Nat) (d : Int) : List D := [.non, .bl true, .str (Str.ofString ""), .str (Str.ofString "A"), .lst [.int 1], .tup [.int 1], .int (-1), .int (100 + d), .str (Str.ofString "\n"), .str (Str.ofString " 3\n"), .str (nm N), .str (nm (N ++ 32 :: numL d))]
theorem thgs_ok {N : List Nat} {d : Int} (hN : nameL N = true) (d0 : 0 ≤ d) (d1 : d ≤ 99) {made : List G4} (hz : made.length ≤ 100) (hg : ∀ r ∈ made, GOk r) {X : Str} (hX : ∀ w, guide_text [.str (nm N), .int d, .lst (made.map rowG)] w = .ok (fz (.str X)) w) :
    ∀ t ∈ thgs N d, pl t = true ∧ (NoR t d (.lst (made.map rowG)) ∨ t = .str (nm N) ∧ ∃ X, ∀ w, guide_text [t, .int d, .lst (made.map rowG)] w = .ok (fz (.str X)) w) ∧ (∀ w, guide_text [.str (nm N), t, .lst (made.map rowG)] w = .ex ⟨"NoText", []⟩ w) ∧ (∀ w, read_guide [t] w = .ex ⟨"NoText", []⟩ w) := by
  obtain ⟨f, l9, l8⟩ := L_free hN d0 d1
  obtain ⟨_, n6, nl⟩ := name_len hN
  have oN : okD (.str (nm N)) = true := okD_nm (by omega)
  have a : ∀ t, okD t = true → nameB t = false → (NoR t d (.lst (made.map rowG)) ∨ t = .str (nm N) ∧ ∃ X, ∀ w, guide_text [t, .int d, .lst (made.map rowG)] w = .ok (fz (.str X)) w) := fun t h1 h2 => .inl (gt_noS h1 h2 hz hg)
  have b : ∀ t, okD t = true → numB t 0 99 = false → ∀ w, guide_text [.str (nm N), t, .lst (made.map rowG)] w = .ex ⟨"NoText", []⟩ w := fun t h1 h2 w => gt_noD oN h1 h2 hz hg w
  have l0 : (Str.ofString "" : Str) = nm [] := by decide +kernel
  have lA : (Str.ofString "A" : Str) = nm [65] := by decide +kernel
  have ln : (Str.ofString "\n" : Str) = nm [10] := by decide +kernel
  have l3 : (Str.ofString " 3\n" : Str) = nm [32, 51, 10] := by decide +kernel
  intro t ht
  simp only [thgs, List.mem_cons, List.not_mem_nil, or_false] at ht
  rcases ht with rfl | rfl | rfl | rfl | rfl | rfl | rfl | rfl | rfl | rfl | rfl | rfl
  · exact ⟨rfl, a _ rfl rfl, b _ rfl rfl, read_noS _ (fun _ => D.noConfusion) rfl⟩
  · exact ⟨rfl, a _ rfl rfl, b _ rfl rfl, read_noS _ (fun _ => D.noConfusion) rfl⟩
  · rw [l0]
    exact ⟨pl_str (strOk_nm (by simp [NOk])), a _ (okD_nm (by simp)) (by rw [nameB_nm]; rfl), b _ (okD_nm (by simp)) rfl, bad_0⟩
  · rw [lA]
    exact ⟨pl_str (strOk_nm (by simp [NOk])), a _ (okD_nm (by simp)) (by rw [nameB_nm]; rfl), b _ (okD_nm (by simp)) rfl, bad_A⟩
  · exact ⟨rfl, a _ rfl rfl, b _ rfl rfl, read_noS _ (fun _ => D.noConfusion) rfl⟩
  · exact ⟨rfl, a _ rfl rfl, b _ rfl rfl, read_noS _ (fun _ => D.noConfusion) rfl⟩
  · exact ⟨rfl, a _ rfl rfl, b _ rfl rfl, read_noS _ (fun _ => D.noConfusion) rfl⟩
  · exact ⟨rfl, a _ rfl rfl, b _ rfl (by simp [numB]; omega), read_noS _ (fun _ => D.noConfusion) rfl⟩
  · rw [ln]
    exact ⟨pl_str (strOk_nm (by simp [NOk])), a _ (okD_nm (by simp)) (by rw [nameB_nm]; rfl), b _ (okD_nm (by simp)) rfl, bad_nl hN d0 d1⟩
  · rw [l3]
    exact ⟨pl_str (strOk_nm (by simp [NOk])), a _ (okD_nm (by simp)) (by rw [nameB_nm]; rfl), b _ (okD_nm (by simp)) rfl, bad_3 hN d0 d1⟩
  · exact ⟨pl_str (strOk_nm fun z hz => by have := (nl z hz).2; omega), .inr ⟨rfl, X, hX⟩, b _ oN rfl, bad_N hN d0 d1⟩
  · refine ⟨pl_str (strOk_nm fun z hz => by have := l8 z hz; omega), a _ (okD_nm (by omega)) ?_, b _ (okD_nm (by omega)) rfl, bad_L hN d0 d1⟩
    rw [nameB_nm]
    cases h : nameL (N ++ 32 :: numL d) with
    | false => rfl
    | true => exact absurd (show 32 ∈ N ++ 32 :: numL d by simp) (nl_name h).2.1
theorem law_true (ns : List Int) (hl : ns.length ≤ 63) : ∃ m w, law [.scr ns] W0 = .ok ⟨m, .bl true⟩ w := by
  obtain ⟨made, mne, m6, mg, mf, er⟩ := guide_rows_ex ns hl
  obtain ⟨xs, x1, xk, en⟩ := names_ex ns hl 200 (by decide) (by decide) 1 (by decide)
  have pd := pick_ok (ns := ns) (k := 300) (m := 100) hl (by decide) (by decide) (by decide)
  generalize pick ns 300 100 = d at pd
  have d0 := pd.1
  have d1 : d ≤ 99 := by have := pd.2.1; omega
  match xs, x1, xk, en with
  | [N], _, xk, en =>
    have hN : nameL N = true := nmK_name (xk 0 (by simp))
    have hN2 : nameL (nm N).cps.toList = true := by rw [nm_cps]; exact hN
    obtain ⟨f, l9, l8⟩ := L_free hN d0 d1
    obtain ⟨_, n6, nl⟩ := name_len hN
    have nd := num_ok d0 d1
    have oN : PyData.strOk (nm N) = true := strOk_nm fun z hz => by have := (nl z hz).2; omega
    have gt : ∀ w, guide_text [.str (nm N), .int d, .lst (made.map rowG)] w = .ok (fz (.str (nm (gtL N d made)))) w := fun w => by
      have := guide_text_ok (nm N) d made hN2 d0 d1 (by omega) mg w
      rw [this, mf, nm_cps]
      rfl
    have t8 : ∀ z ∈ gtL N d made, z < 128 := strOk_gtL hN d0 d1 mg
    have tl : (gtL N d made).length ≤ 190 := by
      have : ∀ l : List G4, (∀ r ∈ l, GOk r) → (l.flatMap fun r => lineL r ++ [10]).length ≤ l.length * 20 := by
        intro l
        induction l with
        | nil => intro _; simp
        | cons r l ih =>
          intro h
          have a := line_len (h r (by simp))
          have b := ih fun x hx => h x (List.mem_cons_of_mem _ hx)
          rw [List.flatMap_cons, List.length_append, List.length_append]
          simp only [List.length_cons, List.length_nil]
          omega
      have := this made mg
      unfold gtL
      rw [List.length_append, List.length_cons]
      omega
    have th := thgs_ok hN d0 d1 (by omega) mg gt
    generalize hT : gtL N d made = T at *
    have en0 : ∀ w, law_names [.scr ns, .int 200, .int 1] w = .ok ⟨.nw, .lst [.str (nm N)]⟩ w := en
    have E0 : ([D.scr ns].map (fun d => some (fz d)) ++ List.replicate (15 - 1) none : DL.Env) = [some (fz (.scr ns)), none, none, none, none, none, none, none, none, none, none, none, none, none, none] := rfl
    -- the first two statements
    have u1 : ∀ w, law_s1 [some (fz (.scr ns)), none, none, none, none, none, none, none, none, none, none, none, none, none, none] w = .next [some (fz (.scr ns)), none, none, none, none, none, none, some (fz (.lst (made.map rowG))), some (fz (.str (nm N))), some (fz (.int d)), none, none, none, none, none] w := fun w => by
      have a0 : atI [D.str (nm N)] 0 = some (.str (nm N)) := rfl
      generalize made.map rowG = R at *
      generalize nm N = NN at *
      simp [law_s1, er, en0, a0, pd.2.2]
    have u2 : ∀ w, law_s2 [some (fz (.scr ns)), none, none, none, none, none, none, some (fz (.lst (made.map rowG))), some (fz (.str (nm N))), some (fz (.int d)), none, none, none, none, none] w = .next (EV ns (.lst (made.map rowG)) (nm N) d (nm T) none none none none none none none none none) w := fun w => by
      generalize made.map rowG = R at *
      generalize nm N = NN at *
      generalize nm T = TT at *
      simp [law_s2, EV, gt]
    -- eight places
    obtain ⟨z1, y6, y13, y14, u3⟩ : ∃ z1 z6 z13 z14, ∀ w, law_s3 (EV ns (.lst (made.map rowG)) (nm N) d (nm T) none none none none none none none none none) w = .next (EV ns (.lst (made.map rowG)) (nm N) d (nm T) z1 none none none none z6 none z13 z14) w := by
      obtain ⟨ρ', h, z1, z6, z13, z14, e'⟩ := forL_pure (t := .nm 1) (b := law_l2) (I := fun _ ρ => ∃ z1 z6 z13 z14, ρ = EV ns (.lst (made.map rowG)) (nm N) d (nm T) z1 none none none none z6 none z13 z14)
        (rngD 0 8) 0 (EV ns (.lst (made.map rowG)) (nm N) d (nm T) none none none none none none none none none) ⟨none, none, none, none, rfl⟩ (by
          rintro i t ρ ht ⟨z1, z6, z13, z14, rfl⟩
          obtain ⟨hi, rfl⟩ := rngD_get ht
          obtain ⟨y6, y13, y14, e⟩ := law_k ns hl (.lst (made.map rowG)) (nm N) d T tl t8 (0 + (i : Int)) (by omega) (by omega) none none none none z6 none z13 z14
          exact ⟨_, _, rfl, e, _, y6, y13, y14, rfl⟩)
      refine ⟨z1, z6, z13, z14, fun w => ?_⟩
      have hro : RO 8 := ro (by decide) (by decide)
      have h := h w
      rw [e'] at h
      simp only [law_s3, sFor_s, iR1_s, dOne_s, dC_s, bind_ok]
      rw [rng1_s _ _ hro]
      exact h
    -- spoilt rows
    obtain ⟨z2, u4⟩ : ∃ z2, ∀ w, law_s4 (EV ns (.lst (made.map rowG)) (nm N) d (nm T) z1 none none none none y6 none y13 y14) w = .next (EV ns (.lst (made.map rowG)) (nm N) d (nm T) z1 z2 none none none y6 none y13 y14) w := by
      have lpos : 0 < made.length := by cases made with | nil => exact absurd rfl mne | cons _ _ => simp
      have p := pick_ok (ns := ns) (k := 320) (m := (made.length : Int)) hl (by decide) (by decide) (by omega)
      generalize pick ns 320 (made.length : Int) = k at p
      obtain ⟨A, r, B, eA, lA⟩ : ∃ A r B, made = A ++ r :: B ∧ (A.length : Int) = k := by
        have hk : k.toNat < made.length := by have := p.1; have := p.2.1; omega
        refine ⟨made.take k.toNat, made[k.toNat], made.drop (k.toNat + 1), ?_, ?_⟩
        · rw [← List.drop_eq_getElem_cons hk, List.take_append_drop]
        · rw [List.length_take]; have := p.1; omega
      have sp := fun w => spoilt_ex A B r (by rw [← eA]; omega) w
      have no := spoilt_no (nm N) d hN2 d0 d1 A B r (by rw [← eA]; omega) (by rw [← eA]; exact mg) (by rw [← eA]; exact mf)
      rw [← eA, lA] at sp
      obtain ⟨z, hz⟩ := forL_test (i := 2) (b := law_l3) (ρ := EV ns (.lst (made.map rowG)) (nm N) d (nm T) z1 none none none none y6 none y13 y14) (ds := spoilt A r B) none (fun t ht w => by
        have := no t ht
        have this : ∀ w, guide_text [.str (nm N), .int d, t] w = .ex ⟨"NoText", []⟩ w := this
        simp [law_l3, EV, this])
      refine ⟨z, fun w => ?_⟩
      have hz := hz w
      have w1 := p.2.2
      have ll : (made.map rowG).length = made.length := by simp
      have e1 : ∀ w, (iSq (dCall law_spoilt_rows [] (dCons (dVar 7) (dOne (dCall law_pick [] (dCons (dVar 0) (dCons (dC (.int 320)) (dOne (dCB gLen (dOne (dVar 7))))))))))) (EV ns (.lst (made.map rowG)) (nm N) d (nm T) z1 none none none none y6 none y13 y14) w = .ok (spoilt A r B, true) w := fun w => by
        generalize made.map rowG = R at *
        simp [iSq, EV, ll, w1, sp]
        all_goals rfl
      simp only [law_s4, sFor_s, e1, rthn_ok, if_true]
      exact hz
    -- things that are none
    obtain ⟨z3, z12, u5⟩ : ∃ z3 z12, ∀ w, law_s5 (EV ns (.lst (made.map rowG)) (nm N) d (nm T) z1 z2 none none none y6 none y13 y14) w = .next (EV ns (.lst (made.map rowG)) (nm N) d (nm T) z1 z2 z3 none none y6 z12 y13 y14) w := by
      obtain ⟨ρ', h, z3, z12, e'⟩ := forL_pure (t := .nm 3) (b := law_l4) (I := fun _ ρ => ∃ z3 z12, ρ = EV ns (.lst (made.map rowG)) (nm N) d (nm T) z1 z2 z3 none none y6 z12 y13 y14)
        (thgs N d) 0 (EV ns (.lst (made.map rowG)) (nm N) d (nm T) z1 z2 none none none y6 none y13 y14) ⟨none, none, rfl⟩ (by
          rintro i t ρ ht ⟨z3, z12, rfl⟩
          obtain ⟨a, b, c, e⟩ := th t (List.mem_of_getElem? ht)
          obtain ⟨y12, q⟩ := l4_ok ns (.lst (made.map rowG)) (nm N) oN d (nm T) z1 z2 none none y6 z12 y13 y14 t a b c e
          exact ⟨_, _, rfl, q, _, y12, rfl⟩)
      refine ⟨z3, z12, fun w => ?_⟩
      have h := h w
      rw [e'] at h
      have g1 : ∀ m m' w, gAdd ⟨m, .str (nm N)⟩ ⟨m', .str (Str.ofString " ")⟩ w = .ok (fz (.str (nm (N ++ [32])))) w := fun m m' w => by rw [sp_nm]; exact gAdd_nm (by simp only [List.length_cons, List.length_nil]; omega) m m' w
      have g2 : ∀ m m' w, gAdd ⟨m, .str (nm (N ++ [32]))⟩ ⟨m', .str (nm (numL d))⟩ w = .ok (fz (.str (nm (N ++ 32 :: numL d)))) w := fun m m' w => by
        have := gAdd_nm (a := N ++ [32]) (b := numL d) (by simp only [List.length_append, List.length_cons, List.length_nil]; have := nd.1.2.1; omega) m m' w
        rw [this]; simp
      have gs := fun m w => gStrI_ok d0 d1 m w
      have e1 : ∀ w, (iSq (dLst (dCons (dC .non) (dCons (dC (.bl true)) (dCons (dC (.str "")) (dCons (dC (.str "A")) (dCons (dLst (dOne (dC (.int 1)))) (dCons (dTup (dOne (dC (.int 1)))) (dCons (dUn gNeg (dC (.int 1))) (dCons (dOp gAdd (dC (.int 100)) (dVar 9)) (dCons (dC (.str "\n")) (dCons (dC (.str " 3\n")) (dCons (dVar 8) (dOne (dOp gAdd (dOp gAdd (dVar 8) (dC (.str " "))) (dCB gStrI (dOne (dVar 9)))))))))))))))))) (EV ns (.lst (made.map rowG)) (nm N) d (nm T) z1 z2 none none none y6 none y13 y14) w = .ok (thgs N d, true) w := fun w => by
        unfold thgs
        generalize nm (N ++ 32 :: numL d) = P2 at *
        generalize nm (N ++ [32]) = P1 at *
        generalize nm (numL d) = PD at *
        generalize nm N = NN at *
        simp [iSq, EV, g1, g2, gs]
      simp only [law_s5, sFor_s, e1, rthn_ok, if_true]
      exact h
    -- texts that are none
    obtain ⟨P3, hP3⟩ : ∃ x, x = nm (N ++ 32 :: numL d ++ [10]) := ⟨_, rfl⟩
    have k2 := nd.1.2.1
    have u6 : ∀ w, law_s6 (EV ns (.lst (made.map rowG)) (nm N) d (nm T) z1 z2 z3 none none y6 z12 y13 y14) w = .next (EV ns (.lst (made.map rowG)) (nm N) d (nm T) z1 z2 z3 (some (fz (.str P3))) none y6 z12 y13 y14) w := fun w => by
      have g1 : ∀ m m' w, gAdd ⟨m, .str (nm N)⟩ ⟨m', .str (Str.ofString " ")⟩ w = .ok (fz (.str (nm (N ++ [32])))) w := fun m m' w => by rw [sp_nm]; exact gAdd_nm (by simp only [List.length_cons, List.length_nil]; omega) m m' w
      have g2 : ∀ m m' w, gAdd ⟨m, .str (nm (N ++ [32]))⟩ ⟨m', .str (nm (numL d))⟩ w = .ok (fz (.str (nm (N ++ 32 :: numL d)))) w := fun m m' w => by
        have := gAdd_nm (a := N ++ [32]) (b := numL d) (by simp only [List.length_append, List.length_cons, List.length_nil]; omega) m m' w
        rw [this]; simp
      have g3 : ∀ m m' w, gAdd ⟨m, .str (nm (N ++ 32 :: numL d))⟩ ⟨m', .str (Str.ofString "\n")⟩ w = .ok (fz (.str P3)) w := fun m m' w => by rw [nl_nm, hP3]; exact gAdd_nm (by simp only [List.length_cons, List.length_nil]; omega) m m' w
      have gs := fun m w => gStrI_ok d0 d1 m w
      clear hP3
      generalize nm (N ++ 32 :: numL d) = P2 at *
      generalize nm (N ++ [32]) = P1 at *
      generalize nm (numL d) = PD at *
      generalize nm N = NN at *
      simp [law_s6, EV, g1, g2, g3, gs]
    have ga : ∀ (a : List Nat) (x : Str) (b c : List Nat), x = nm b → a.length + b.length ≤ 10000 → a ++ b = c → ∀ m m' w, gAdd ⟨m, .str (nm a)⟩ ⟨m', .str x⟩ w = .ok (fz (.str (nm c))) w := fun a x b c hx h hc m m' w => by rw [hx, gAdd_nm h, hc]
    obtain ⟨B1, h1⟩ : ∃ x, x = nm (N ++ 32 :: numL d ++ [10] ++ [48, 48, 45, 48, 49, 32, 97, 10]) := ⟨_, rfl⟩
    obtain ⟨B2, h2⟩ : ∃ x, x = nm (N ++ 32 :: numL d ++ [10] ++ [48, 45, 49, 32, 97, 32, 98, 10]) := ⟨_, rfl⟩
    obtain ⟨B3, h3⟩ : ∃ x, x = nm (N ++ 32 :: numL d ++ [10] ++ [48, 48, 45, 48, 49, 32, 97, 32, 98, 32, 10]) := ⟨_, rfl⟩
    obtain ⟨B4, h4⟩ : ∃ x, x = nm (N ++ 32 :: numL d ++ [10] ++ [48, 48, 45, 48, 49, 32, 32, 97, 32, 98, 10]) := ⟨_, rfl⟩
    obtain ⟨B5, h5⟩ : ∃ x, x = nm (32 :: (N ++ 32 :: numL d) ++ [10]) := ⟨_, rfl⟩
    obtain ⟨B6, h6⟩ : ∃ x, x = nm (N ++ 32 :: 48 :: numL d ++ [10]) := ⟨_, rfl⟩
    obtain ⟨B7, h7⟩ : ∃ x, x = nm (N ++ 32 :: [49, 48, 48] ++ [10]) := ⟨_, rfl⟩
    obtain ⟨B8, h8⟩ : ∃ x, x = nm (N ++ 32 :: numL d ++ [10] ++ [48, 48, 45, 48, 49, 32, 97, 32, 98]) := ⟨_, rfl⟩
    obtain ⟨B9, h9⟩ : ∃ x, x = nm (N ++ 32 :: numL d ++ [10] ++ [10]) := ⟨_, rfl⟩
    obtain ⟨B10, h10⟩ : ∃ x, x = nm (N ++ [10]) := ⟨_, rfl⟩
    obtain ⟨B11, h11⟩ : ∃ x, x = nm (N ++ 32 :: numL d ++ [10] ++ [48, 48, 45, 50, 53, 32, 97, 32, 98, 10]) := ⟨_, rfl⟩
    obtain ⟨B12, h12⟩ : ∃ x, x = nm (N ++ 32 :: numL d ++ [32] ++ [10]) := ⟨_, rfl⟩
    have L10 : (N ++ 32 :: numL d ++ [10]).length ≤ 10 := by rw [List.length_append]; simp only [List.length_cons, List.length_nil] at l9 ⊢; omega
    have q1 : ∀ m m' w, gAdd ⟨m, .str P3⟩ ⟨m', .str (Str.ofString "00-01 a\n")⟩ w = .ok (fz (.str B1)) w := by rw [hP3, h1]; exact ga _ _ [48, 48, 45, 48, 49, 32, 97, 10] _ (by decide +kernel) (by simp only [List.length_cons, List.length_nil]; omega) rfl
    have q2 : ∀ m m' w, gAdd ⟨m, .str P3⟩ ⟨m', .str (Str.ofString "0-1 a b\n")⟩ w = .ok (fz (.str B2)) w := by rw [hP3, h2]; exact ga _ _ [48, 45, 49, 32, 97, 32, 98, 10] _ (by decide +kernel) (by simp only [List.length_cons, List.length_nil]; omega) rfl
    have q3 : ∀ m m' w, gAdd ⟨m, .str P3⟩ ⟨m', .str (Str.ofString "00-01 a b \n")⟩ w = .ok (fz (.str B3)) w := by rw [hP3, h3]; exact ga _ _ [48, 48, 45, 48, 49, 32, 97, 32, 98, 32, 10] _ (by decide +kernel) (by simp only [List.length_cons, List.length_nil]; omega) rfl
    have q4 : ∀ m m' w, gAdd ⟨m, .str P3⟩ ⟨m', .str (Str.ofString "00-01  a b\n")⟩ w = .ok (fz (.str B4)) w := by rw [hP3, h4]; exact ga _ _ [48, 48, 45, 48, 49, 32, 32, 97, 32, 98, 10] _ (by decide +kernel) (by simp only [List.length_cons, List.length_nil]; omega) rfl
    have q5 : ∀ m m' w, gAdd ⟨m, .str (Str.ofString " ")⟩ ⟨m', .str P3⟩ w = .ok (fz (.str B5)) w := by rw [sp_nm, h5]; exact ga _ _ _ _ hP3 (by simp only [List.length_cons, List.length_nil]; omega) rfl
    have q6a : ∀ m m' w, gAdd ⟨m, .str (nm N)⟩ ⟨m', .str (Str.ofString " 0")⟩ w = .ok (fz (.str (nm (N ++ [32, 48])))) w := ga _ _ [32, 48] _ (by decide +kernel) (by simp only [List.length_cons, List.length_nil]; omega) rfl
    have q6b : ∀ m m' w, gAdd ⟨m, .str (nm (N ++ [32, 48]))⟩ ⟨m', .str (nm (numL d))⟩ w = .ok (fz (.str (nm (N ++ 32 :: 48 :: numL d)))) w := ga _ _ _ _ rfl (by simp only [List.length_append, List.length_cons, List.length_nil]; omega) (by simp)
    have q6 : ∀ m m' w, gAdd ⟨m, .str (nm (N ++ 32 :: 48 :: numL d))⟩ ⟨m', .str (Str.ofString "\n")⟩ w = .ok (fz (.str B6)) w := by rw [h6]; exact ga _ _ [10] _ nl_nm (by simp only [List.length_append, List.length_cons, List.length_nil]; omega) rfl
    have q7 : ∀ m m' w, gAdd ⟨m, .str (nm N)⟩ ⟨m', .str (Str.ofString " 100\n")⟩ w = .ok (fz (.str B7)) w := by rw [h7]; exact ga _ _ [32, 49, 48, 48, 10] _ (by decide +kernel) (by simp only [List.length_cons, List.length_nil]; omega) (by simp)
    have q8 : ∀ m m' w, gAdd ⟨m, .str P3⟩ ⟨m', .str (Str.ofString "00-01 a b")⟩ w = .ok (fz (.str B8)) w := by rw [hP3, h8]; exact ga _ _ [48, 48, 45, 48, 49, 32, 97, 32, 98] _ (by decide +kernel) (by simp only [List.length_cons, List.length_nil]; omega) rfl
    have q9 : ∀ m m' w, gAdd ⟨m, .str P3⟩ ⟨m', .str (Str.ofString "\n")⟩ w = .ok (fz (.str B9)) w := by rw [hP3, h9]; exact ga _ _ [10] _ nl_nm (by simp only [List.length_cons, List.length_nil]; omega) rfl
    have q10 : ∀ m m' w, gAdd ⟨m, .str (nm N)⟩ ⟨m', .str (Str.ofString "\n")⟩ w = .ok (fz (.str B10)) w := by rw [h10]; exact ga _ _ [10] _ nl_nm (by simp only [List.length_cons, List.length_nil]; omega) rfl
    have q11 : ∀ m m' w, gAdd ⟨m, .str P3⟩ ⟨m', .str (Str.ofString "00-25 a b\n")⟩ w = .ok (fz (.str B11)) w := by rw [hP3, h11]; exact ga _ _ [48, 48, 45, 50, 53, 32, 97, 32, 98, 10] _ (by decide +kernel) (by simp only [List.length_cons, List.length_nil]; omega) rfl
    have q12 : ∀ m m' w, gAdd ⟨m, .str (nm (N ++ 32 :: numL d))⟩ ⟨m', .str (Str.ofString " \n")⟩ w = .ok (fz (.str B12)) w := by rw [h12]; exact ga _ _ [32, 10] _ (by decide +kernel) (by simp only [List.length_cons, List.length_nil]; omega) (by simp)
    have gs := fun m w => gStrI_ok d0 d1 m w
    have sl : ∀ m w, gSl ⟨m, .str P3⟩ none (some (-1)) w = .ok (fz (.str (nm (N ++ 32 :: numL d)))) w := fun m w => by
      have z : P3.length ≤ sizeLine := sz_le (by rw [hP3, nm_len]; omega)
      have c : cutS P3 none (some (-1)) = nm (N ++ 32 :: numL d) := by rw [hP3]; exact cutS_m1 _ _
      simp [gSl, z, c]
    have no : ∀ t ∈ [D.str B1, .str B2, .str B3, .str B4, .str B5, .str B6, .str B7, .str B8, .str B9, .str B10, .str B11, .str B12], ∀ w, read_guide [t] w = .ex ⟨"NoText", []⟩ w := by
      intro t ht
      simp only [List.mem_cons, List.not_mem_nil, or_false] at ht
      rcases ht with rfl | rfl | rfl | rfl | rfl | rfl | rfl | rfl | rfl | rfl | rfl | rfl
      · rw [h1]; exact bad1 hN d0 d1
      · rw [h2]; exact bad2 hN d0 d1
      · rw [h3]; exact bad3 hN d0 d1
      · rw [h4]; exact bad4 hN d0 d1
      · rw [h5]; exact bad5 hN d0 d1
      · rw [h6]; exact bad6 hN d0 d1
      · rw [h7]; exact bad7 hN d0 d1
      · rw [h8]; exact bad8 hN d0 d1
      · rw [h9]; exact bad9 hN d0 d1
      · rw [h10]; exact bad10 hN d0 d1
      · rw [h11]; exact bad11 hN d0 d1
      · rw [h12]; exact bad12 hN d0 d1
    have rl := fun w => read_line hN d0 d1 w
    rw [← hP3] at rl
    clear h1 h2 h3 h4 h5 h6 h7 h8 h9 h10 h11 h12
    have u7 : ∀ w, law_s7 (EV ns (.lst (made.map rowG)) (nm N) d (nm T) z1 z2 z3 (some (fz (.str P3))) none y6 z12 y13 y14) w = .next (EV ns (.lst (made.map rowG)) (nm N) d (nm T) z1 z2 z3 (some (fz (.str P3))) (some ⟨.nw, .lst [.str B1, .str B2, .str B3, .str B4, .str B5]⟩) y6 z12 y13 y14) w := fun w => by
      simp [law_s7, EV, q1, q2, q3, q4, q5]
    have u8 : ∀ w, law_s8 (EV ns (.lst (made.map rowG)) (nm N) d (nm T) z1 z2 z3 (some (fz (.str P3))) (some ⟨.nw, .lst [.str B1, .str B2, .str B3, .str B4, .str B5]⟩) y6 z12 y13 y14) w = .next (EV ns (.lst (made.map rowG)) (nm N) d (nm T) z1 z2 z3 (some (fz (.str P3))) (some ⟨.nw, .lst [.str B1, .str B2, .str B3, .str B4, .str B5, .str B6, .str B7, .str B8, .str B9, .str B10]⟩) y6 z12 y13 y14) w := fun w => by
      generalize nm (N ++ 32 :: 48 :: numL d) = P5 at *
      generalize nm (N ++ [32, 48]) = P4 at *
      generalize nm (numL d) = PD at *
      generalize nm N = NN at *
      simp [law_s8, EV, q6a, q6b, q6, q7, q8, q9, q10, gs]
    have u9 : ∀ w, law_s9 (EV ns (.lst (made.map rowG)) (nm N) d (nm T) z1 z2 z3 (some (fz (.str P3))) (some ⟨.nw, .lst [.str B1, .str B2, .str B3, .str B4, .str B5, .str B6, .str B7, .str B8, .str B9, .str B10]⟩) y6 z12 y13 y14) w = .next (EV ns (.lst (made.map rowG)) (nm N) d (nm T) z1 z2 z3 (some (fz (.str P3))) (some ⟨.nw, .lst [.str B1, .str B2, .str B3, .str B4, .str B5, .str B6, .str B7, .str B8, .str B9, .str B10, .str B11, .str B12]⟩) y6 z12 y13 y14) w := fun w => by
      generalize nm (N ++ 32 :: numL d) = P2 at *
      simp [law_s9, EV, q11, q12, sl]
    obtain ⟨bl, hbl⟩ : ∃ x, x = [D.str B1, .str B2, .str B3, .str B4, .str B5, .str B6, .str B7, .str B8, .str B9, .str B10, .str B11, .str B12] := ⟨_, rfl⟩
    rw [← hbl] at u9 no
    clear hbl
    obtain ⟨z6, u10⟩ : ∃ z6, law_s10 (EV ns (.lst (made.map rowG)) (nm N) d (nm T) z1 z2 z3 (some (fz (.str P3))) (some ⟨.nw, .lst bl⟩) y6 z12 y13 y14) W0 = .next (EV ns (.lst (made.map rowG)) (nm N) d (nm T) z1 z2 z3 (some (fz (.str P3))) (some ⟨.nw, .lst bl⟩) z6 z12 y13 y14) W0 := by
      obtain ⟨z, hz⟩ := forT_pass (j := 6) (fA := law_l5) (gs := sRet (dC (.bl false))) (ρ := (EV ns (.lst (made.map rowG)) (nm N) d (nm T) z1 z2 z3 (some (fz (.str P3))) (some ⟨.nw, .lst bl⟩) y6 z12 y13 y14)) (w := W0) (ds := bl) y6 (fun t ht => by
        have := no t ht
        simp [law_l5, EV, this])
      exact ⟨z, hz⟩
    have u11 : law_s11 (EV ns (.lst (made.map rowG)) (nm N) d (nm T) z1 z2 z3 (some (fz (.str P3))) (some ⟨.nw, .lst bl⟩) z6 z12 y13 y14) W0 = .ret (fz (.bl true)) W0 := by
      have pt : pl (.tup [.str (nm N), .int d, .lst []]) = true := by simp [pl, plN, oN]
      have q := fun m m' w => gEq_same pt false m m' w
      generalize nm N = NN at *
      simp [law_s11, EV, rl, q]
    refine ⟨.fz, W0, ?_⟩
    simp only [law, fnD, law_b, sSeq_s, List.length_cons, List.length_nil, if_true, E0, u1, u2, u3, u4, u5, u6, u7, u8, u9, u10, u11, othn_next]
    all_goals rfl
end LK
open PySem PySem.W PySem.Calls PyProof.Rows
set_option maxRecDepth 100000 in
set_option maxHeartbeats 0 in
theorem PySem.Challenge.cw_airhours_k66_whole_guides_spoilt_holds : PySem.Challenge.rw_airhours_k66_whole_guides_spoilt.Holds := by
  w_on; o_law
  refine HandSHeadRun.head_any (r := OpenLaw.row PySem.Challenge.rw_airhours_k66_whole_guides_spoilt) (q := view (OpenLaw.row PySem.Challenge.rw_airhours_k66_whole_guides_spoilt).prog [49, 51]) (H := LK.hk) (ob := LK.ob) (M := 100000) (loose := LK.loose) (d := HandSHeadRun.topDef (OpenLaw.row PySem.Challenge.rw_airhours_k66_whole_guides_spoilt).prog 51) (kwd := []) LK.ob_eq
    (by kernel_rfl) (fun s => by kernel_rfl) LK.run (by kernel_rfl) (by kernel_rfl) (by kernel_rfl) (by rfl) (by first | assumption | decide +kernel) (by decide +kernel) ⟨rfl, rfl, rfl, rfl, rfl, by decide +kernel⟩ ?hw ?hc
  case hw => w_witness2
  case hc =>
    refine DH.walkQ (l := PySem.Challenge.rw_airhours_k66_whole_guides_spoilt) (k := 9) (n := 6) (F := LK.law) rfl (by kernel_rfl) ⟨rfl, by decide, by decide⟩ ?F LK.law_true
    intro w mg fa h K KX G hmg0 c
    have hmg : mg ("law" : PySem.Str) = some (.ref fa) := by
      have e : (HandSHeadRun.topDef (OpenLaw.row PySem.Challenge.rw_airhours_k66_whole_guides_spoilt).prog 51).name = ("law" : PySem.Str) := by kernel_rfl
      rw [← e]; exact hmg0
    exact LK.all_mk KX G hmg c (by decide +kernel)
