import PyProof.Rows.All
import Wide.All
import OpenK.AllK
import Wide.FinOn
import HandS.ForMost
import HandS.Exc
import HandS.TryOnly
import HandS.ExcOwn
import HandS.WordsExc
import HandS.CallSlots
import HandS.Wide
import HandS.IsInst
import HandS.Style
import HandS.Deep
import HandS.EndBits
import HandS.SortKw
import KE.SortData
import KE.DatumOrd
import HandS.Remove
import KE.KIndexOf
import PySem.Challenge.RW_airhours_k09_whole_no_hour_lost
set_option Elab.async false
set_option linter.all false
set_option maxRecDepth 100000
set_option maxHeartbeats 4000000
/-! A layer of plain data over the hand layer: what an expression or a statement makes of plain data, with the heap left out. -/
namespace DL
open PySem L2
/-- plain data -/
inductive D where
  | non | bl (b : Bool) | int (i : Int) | str (x : Str) | tup (xs : List D) | lst (xs : List D)
  | dK (kvs : List (Key × D)) | dT (kvs : List (List Key × D)) | obj (k : Nat) | scr (ns : List Int)
  deriving Inhabited
/-- the objects of own classes that stand, by their fields; n: how often they were changed -/
structure W where
  n : Nat
  o : List (List (Str × D))
/-- an error: its class, its fields -/
structure Xc where
  c : String
  fs : List (Str × D)
inductive R (α : Type) where
  | ok (a : α) (w : W) | ex (x : Xc) (w : W) | bad
def R.bind {α β : Type} : R α → (α → W → R β) → R β
  | .ok a w, f => f a w
  | .ex x w, _ => .ex x w
  | .bad, _ => .bad
/-- how a value stands: frozen; new (whoever gets it owns it); a slot's own, seen; a field's -/
inductive Md where
  | fz | nw | bo | wd
  deriving DecidableEq
structure Val where
  m : Md
  d : D
abbrev Env := List (Option Val)
abbrev DE := Env → W → R Val
abbrev DT := Env → W → R Bool
abbrev DA := Env → W → R (List Val)
abbrev fz (d : D) : Val := ⟨.fz, d⟩

/-! ### data in the heap -/
/-- the script: locked, or an object of the module -/
def SqZ (K : PySem.W.Frag) (G : Hp) (a : Addr) (xs : List V) : Prop := (∃ o, G a = some (.frz o (.lst xs))) ∨
  ∃ (o : Obj) (its : Array Value) (n : Nat), K.lookup a = some o ∧ o.cls = .type "list" ∧ o.dict = none ∧ o.data = .seq its n ∧ its.size ≤ sizeLine ∧ Vals xs its.toList
theorem SqZ.sq {K : PySem.W.Frag} {G : Hp} {a : Addr} {xs : List V} (h : SqZ K G a xs) : SqL K G a xs := by
  rcases h with ⟨o, h⟩ | h
  · exact .inl (.inr ⟨o, h⟩)
  · exact .inr h
theorem SqZ.imp {K : PySem.W.Frag} {G G' : Hp} {a : Addr} {xs : List V} (h : SqZ K G a xs) (k : ∀ o, G a = some (.frz o (.lst xs)) → G' a = some (.frz o (.lst xs))) : SqZ K G' a xs := by
  rcases h with ⟨o, h⟩ | h
  · exact .inl ⟨o, k o h⟩
  · exact .inr h
mutual
inductive Rep (K : PySem.W.Frag) (G : Hp) (ι : List Addr) : V → D → Prop
  | non : Rep K G ι .non .non
  | bl (b : Bool) : Rep K G ι (.bl b) (.bl b)
  | int (i : Int) : Rep K G ι (.int i) (.int i)
  | str (x : Str) : Rep K G ι (.str x) (.str x)
  | tup {a : Addr} {vs : List V} {ds : List D} : SqT K G a vs → Reps K G ι vs ds → Rep K G ι (.ref a) (.tup ds)
  | lst {a : Addr} {vs : List V} {ds : List D} : G a = some (.lst vs) → Reps K G ι vs ds → Rep K G ι (.ref a) (.lst ds)
  | scr {a : Addr} {ns : List Int} : SqZ K G a (ns.map V.int) → Rep K G ι (.ref a) (.scr ns)
  | dK {a : Addr} {kvs : List (Key × V)} {ds : List (Key × D)} : G a = some (.dK kvs) → kvs.map (·.1) = ds.map (·.1) → Reps K G ι (kvs.map (·.2)) (ds.map (·.2)) → Rep K G ι (.ref a) (.dK ds)
  | dT {a : Addr} {kvs : List (List Key × V)} {ds : List (List Key × D)} : G a = some (.dT kvs) → kvs.map (·.1) = ds.map (·.1) → Reps K G ι (kvs.map (·.2)) (ds.map (·.2)) → Rep K G ι (.ref a) (.dT ds)
  | obj {p : Addr} {k : Nat} : ι[k]? = some p → Rep K G ι (.ref p) (.obj k)
inductive Reps (K : PySem.W.Frag) (G : Hp) (ι : List Addr) : List V → List D → Prop
  | nil : Reps K G ι [] []
  | cons {v : V} {d : D} {vs : List V} {ds : List D} : Rep K G ι v d → Reps K G ι vs ds → Reps K G ι (v :: vs) (d :: ds)
end
section
variable {K : PySem.W.Frag} {G G' : Hp} {ι ι' : List Addr}
theorem sqT_mono {a : Addr} {vs : List V} (e : Same G G') (h : SqT K G a vs) : SqT K G' a vs := by
  rcases h with (h | ⟨o, h⟩) | h
  · exact .inl (.inl (e _ _ h))
  · exact .inl (.inr ⟨o, e _ _ h⟩)
  · exact .inr h
theorem sqL_mono {a : Addr} {vs : List V} (e : Same G G') (h : SqL K G a vs) : SqL K G' a vs := e.seq h
theorem pre_get {k : Nat} {p : Addr} (h : ι <+: ι') (e : ι[k]? = some p) : ι'[k]? = some p := by
  obtain ⟨t, rfl⟩ := h
  have := (List.getElem?_eq_some_iff.mp e).1
  rw [List.getElem?_append_left this]
  exact e
mutual
theorem Rep.mono (e : Same G G') (i : ι <+: ι') : ∀ {v : V} {d : D}, Rep K G ι v d → Rep K G' ι' v d
  | _, _, .non => .non
  | _, _, .bl b => .bl b
  | _, _, .int b => .int b
  | _, _, .str b => .str b
  | _, _, .tup q r => .tup (sqT_mono e q) (Reps.mono e i r)
  | _, _, .lst q r => .lst (e _ _ q) (Reps.mono e i r)
  | _, _, .scr q => .scr (q.imp fun _ h => e _ _ h)
  | _, _, .dK q k r => .dK (e _ _ q) k (Reps.mono e i r)
  | _, _, .dT q k r => .dT (e _ _ q) k (Reps.mono e i r)
  | _, _, .obj h => .obj (pre_get i h)
theorem Reps.mono (e : Same G G') (i : ι <+: ι') : ∀ {vs : List V} {ds : List D}, Reps K G ι vs ds → Reps K G' ι' vs ds
  | _, _, .nil => .nil
  | _, _, .cons a b => .cons (Rep.mono e i a) (Reps.mono e i b)
end
theorem Reps.length : ∀ {vs : List V} {ds : List D}, Reps K G ι vs ds → vs.length = ds.length
  | _, _, .nil => rfl
  | _, _, .cons _ b => by rw [List.length_cons, List.length_cons, Reps.length b]
theorem Reps.get : ∀ {vs : List V} {ds : List D} {i : Nat} {v : V}, Reps K G ι vs ds → vs[i]? = some v → ∃ d, ds[i]? = some d ∧ Rep K G ι v d
  | _, _, _, _, .nil, e => by simp at e
  | _, _, 0, _, .cons a _, e => by simp at e; subst e; exact ⟨_, rfl, a⟩
  | _, _, i + 1, _, .cons _ b, e => by
    obtain ⟨d, h1, h2⟩ := Reps.get (i := i) b (by simpa using e)
    exact ⟨d, by simpa using h1, h2⟩
theorem Reps.getD : ∀ {vs : List V} {ds : List D} {i : Nat} {d : D}, Reps K G ι vs ds → ds[i]? = some d → ∃ v, vs[i]? = some v ∧ Rep K G ι v d
  | _, _, _, _, .nil, e => by simp at e
  | _, _, 0, _, .cons a _, e => by simp at e; subst e; exact ⟨_, rfl, a⟩
  | _, _, i + 1, _, .cons _ b, e => by
    obtain ⟨d, h1, h2⟩ := Reps.getD (i := i) b (by simpa using e)
    exact ⟨d, by simpa using h1, h2⟩
theorem Reps.append : ∀ {vs ws : List V} {ds es : List D}, Reps K G ι vs ds → Reps K G ι ws es → Reps K G ι (vs ++ ws) (ds ++ es)
  | _, _, _, _, .nil, h => h
  | _, _, _, _, .cons a b, h => .cons a (Reps.append b h)
theorem Reps.take : ∀ {vs : List V} {ds : List D} (n : Nat), Reps K G ι vs ds → Reps K G ι (vs.take n) (ds.take n)
  | _, _, 0, _ => .nil
  | _, _, _ + 1, .nil => .nil
  | _, _, n + 1, .cons a b => .cons a (Reps.take n b)
theorem Reps.drop : ∀ {vs : List V} {ds : List D} (n : Nat), Reps K G ι vs ds → Reps K G ι (vs.drop n) (ds.drop n)
  | _, _, 0, h => h
  | _, _, _ + 1, .nil => .nil
  | _, _, n + 1, .cons _ b => Reps.drop n b
theorem Reps.set {v : V} {d : D} (h : Rep K G ι v d) : ∀ {vs : List V} {ds : List D} (i : Nat), Reps K G ι vs ds → Reps K G ι (vs.set i v) (ds.set i d)
  | _, _, _, .nil => .nil
  | _, _, 0, .cons _ b => .cons h b
  | _, _, i + 1, .cons a b => .cons a (Reps.set h i b)
theorem Reps.reverse : ∀ {vs : List V} {ds : List D}, Reps K G ι vs ds → Reps K G ι vs.reverse ds.reverse
  | _, _, .nil => .nil
  | _, _, .cons a b => by rw [List.reverse_cons, List.reverse_cons]; exact (Reps.reverse b).append (.cons a .nil)
theorem Reps.ints : ∀ (ns : List Int), Reps K G ι (ns.map V.int) (ns.map D.int)
  | [] => .nil
  | n :: r => .cons (.int n) (Reps.ints r)
theorem Reps.strs : ∀ (ns : List Str), Reps K G ι (ns.map V.str) (ns.map D.str)
  | [] => .nil
  | n :: r => .cons (.str n) (Reps.strs r)
theorem Reps.of_ints : ∀ {ns : List Int} {vs : List V}, Reps K G ι vs (ns.map D.int) → vs = ns.map V.int
  | [], _, .nil => rfl
  | _ :: _, _, .cons a b => by cases a; rw [Reps.of_ints b]; rfl
theorem Reps.of_strs : ∀ {ns : List Str} {vs : List V}, Reps K G ι vs (ns.map D.str) → vs = ns.map V.str
  | [], _, .nil => rfl
  | _ :: _, _, .cons a b => by cases a; rw [Reps.of_strs b]; rfl
theorem Reps.of_bls : ∀ {ns : List Bool} {vs : List V}, Reps K G ι vs (ns.map D.bl) → vs = ns.map V.bl
  | [], _, .nil => rfl
  | _ :: _, _, .cons a b => by cases a; rw [Reps.of_bls b]; rfl
end
/-- what no store can change: no list, no dict within -/
def imN : Nat → D → Bool
  | _, .non | _, .bl _ | _, .int _ | _, .str _ | _, .obj _ | _, .scr _ => true
  | 0, _ => false
  | n + 1, .tup xs => xs.all (imN n)
  | _, _ => false
def im (d : D) : Bool := imN 8 d
/-- a heap without one place -/
def del (G : Hp) (a : Addr) : Hp := fun b => if b = a then none else G b
theorem del_ne {G : Hp} {a b : Addr} (h : b ≠ a) : del G a b = G b := by unfold del; rw [if_neg h]
theorem del_same {G : Hp} {a : Addr} : del G a a = none := by unfold del; rw [if_pos rfl]
theorem del_sub {G : Hp} {a : Addr} : Same (del G a) G := fun b o h => by
  by_cases e : b = a
  · rw [e, del_same] at h; cases h
  · rw [del_ne e] at h; exact h
/-- a list, a dict: whatever is changed in place -/
def Cont : HO → Prop
  | .lst _ | .dK _ | .dT _ => True
  | _ => False
theorem Rep.del {K : PySem.W.Frag} {G : Hp} {ι : List Addr} {a : Addr} (hc : ∀ o, G a = some o → Cont o) : ∀ (n : Nat) {v : V} {d : D}, Rep K G ι v d → imN n d = true → Rep K (DL.del G a) ι v d := by
  intro n
  induction n with
  | zero =>
    intro v d r h
    cases r with
    | non => exact .non
    | bl b => exact .bl b
    | int b => exact .int b
    | str b => exact .str b
    | obj q => exact .obj q
    | scr q => exact .scr (q.imp fun o q => by rw [del_ne (fun e => by subst e; exact hc _ q)]; exact q)
    | tup _ _ => simp [imN] at h
    | lst _ _ => simp [imN] at h
    | dK _ _ _ => simp [imN] at h
    | dT _ _ _ => simp [imN] at h
  | succ n ih =>
    intro v d r h
    have go : ∀ {vs : List V} {ds : List D}, Reps K G ι vs ds → ds.all (imN n) = true → Reps K (DL.del G a) ι vs ds := by
      intro vs ds r
      induction ds generalizing vs with
      | nil => intro _; cases r; exact .nil
      | cons d ds ih2 =>
        intro h
        cases r with
        | cons r1 r2 =>
          rw [List.all_cons, Bool.and_eq_true] at h
          exact .cons (ih r1 h.1) (ih2 r2 h.2)
    cases r with
    | non => exact .non
    | bl b => exact .bl b
    | int b => exact .int b
    | str b => exact .str b
    | obj q => exact .obj q
    | scr q => exact .scr (q.imp fun o q => by rw [del_ne (fun e => by subst e; exact hc _ q)]; exact q)
    | tup q r =>
      rename_i b vs ds
      refine .tup ?_ (go r (by simpa [imN] using h))
      rcases q with (q | ⟨o, q⟩) | q
      · have : b ≠ a := fun e => by subst e; exact hc _ q
        exact .inl (.inl (by rw [del_ne this]; exact q))
      · have : b ≠ a := fun e => by subst e; exact hc _ q
        exact .inl (.inr ⟨o, by rw [del_ne this]; exact q⟩)
      · exact .inr q
    | lst _ _ => simp [imN] at h
    | dK _ _ _ => simp [imN] at h
    | dT _ _ _ => simp [imN] at h
end DL

namespace DL
open PySem L2
/-! ### the world of objects -/
abbrev Ws0 := List (Addr × List (Str × V))
structure Ws where
  n : Nat
  l : Ws0
def refs : List (Str × V) → List Addr
  | [] => []
  | (_, .ref a) :: r => a :: refs r
  | _ :: r => refs r
def regs0 : Ws0 → List Addr
  | [] => []
  | (p, fs) :: r => p :: (refs fs ++ regs0 r)
abbrev regs (ws : Ws) : List Addr := regs0 ws.l
abbrev io (ws : Ws) : List Addr := ws.l.map (·.1)
/-- a thing that may change, as it stands -/
inductive Unf (K : PySem.W.Frag) (G H : Hp) (ι : List Addr) (a : Addr) : D → Prop
  | lst {vs : List V} {ds : List D} : H a = some (.lst vs) → Reps K G ι vs ds → Unf K G H ι a (.lst ds)
  | dK {kvs : List (Key × V)} {ds : List (Key × D)} : H a = some (.dK kvs) → kvs.map (·.1) = ds.map (·.1) → Reps K G ι (kvs.map (·.2)) (ds.map (·.2)) → Unf K G H ι a (.dK ds)
  | dT {kvs : List (List Key × V)} {ds : List (List Key × D)} : H a = some (.dT kvs) → kvs.map (·.1) = ds.map (·.1) → Reps K G ι (kvs.map (·.2)) (ds.map (·.2)) → Unf K G H ι a (.dT ds)
def Fld (K : PySem.W.Frag) (G H : Hp) (ι : List Addr) (v : V) (d : D) : Prop := (∃ a, v = .ref a ∧ Unf K G H ι a d) ∨ (∃ i, v = .int i ∧ d = .int i)
structure RelW (K : PySem.W.Frag) (C : Addr) (G H : Hp) (ws : Ws) (w : W) : Prop where
  obs : Paired (fun (q : Addr × List (Str × V)) (o : List (Str × D)) => (∃ dx, H q.1 = some (.ins C dx q.2)) ∧ Paired (fun (x : Str × V) (y : Str × D) => x.1 = y.1 ∧ Fld K G H (io ws) x.2 y.2) q.2 o) ws.l w.o
  nn : w.n = ws.n
  nd : (regs ws).Nodup
  out : ∀ a ∈ regs ws, G a = none
/-- a value -/
def RV (K : PySem.W.Frag) (G H : Hp) (ws : Ws) (v : V) (x : Val) : Prop := match x.m with
  | .fz => Rep K G (io ws) v x.d
  | .wd => ∃ a, v = .ref a ∧ G a = none ∧ a ∈ regs ws ∧ Unf K G H (io ws) a x.d
  | _ => ∃ a, v = .ref a ∧ G a = none ∧ a ∉ regs ws ∧ Unf K G H (io ws) a x.d
/-- from one state to a later one -/
structure Nx (K : PySem.W.Frag) (C : Addr) (G H : Hp) (ws : Ws) (G' H' : Hp) (ws' : Ws) (w' : W) : Prop where
  gg : Same G G'
  sub : Same G' H'
  rw : RelW K C G' H' ws' w'
  keep : ∀ a o, H a = some o → a ∉ regs ws → H' a = some o
  alive : ∀ a, (H a).isSome = true → (H' a).isSome = true
  nocap : ∀ a, (H a).isSome = true → G a = none → G' a = none
  io : io ws <+: io ws'
  fresh : ∀ a ∈ regs ws', a ∈ regs ws ∨ H a = none
  le : ws.n ≤ ws'.n
  qt : ws'.n = ws.n → ws' = ws ∧ ∀ a ∈ regs ws, ∀ o, H a = some o → H' a = some o
section
variable {K : PySem.W.Frag} {C : Addr} {G H G' H' G2 H2 : Hp} {ws ws' ws2 : Ws} {w w' w2 : W}
theorem paired_imp {α β : Type} {F F' : α → β → Prop} : ∀ {l : List α} {m : List β}, Paired F l m → (∀ a b, a ∈ l → F a b → F' a b) → Paired F' l m
  | _, _, .nil, _ => .nil
  | _, _, .cons a b, h => .cons (h _ _ List.mem_cons_self a) (paired_imp b fun x y hx => h x y (List.mem_cons_of_mem _ hx))
theorem refs_mem : ∀ {fs : List (Str × V)} {x : Str × V} {a : Addr}, x ∈ fs → x.2 = .ref a → a ∈ refs fs
  | (n, v) :: r, x, a, h, e => by
    rcases List.mem_cons.mp h with rfl | h
    · simp only at e; subst e; exact List.mem_cons_self
    · have := refs_mem h e
      cases v <;> first | exact List.mem_cons_of_mem _ this | exact this
theorem regs_mem : ∀ {ws : Ws0} {q : Addr × List (Str × V)}, q ∈ ws → q.1 ∈ regs0 ws ∧ ∀ a ∈ refs q.2, a ∈ regs0 ws
  | (p, fs) :: r, q, h => by
    rcases List.mem_cons.mp h with rfl | h
    · exact ⟨List.mem_cons_self, fun a ha => List.mem_cons_of_mem _ (List.mem_append_left _ ha)⟩
    · have := regs_mem h
      exact ⟨List.mem_cons_of_mem _ (List.mem_append_right _ this.1), fun a ha => List.mem_cons_of_mem _ (List.mem_append_right _ (this.2 a ha))⟩
theorem Unf.there {ι : List Addr} {a : Addr} {d : D} (h : Unf K G H ι a d) : ∃ o, H a = some o ∧ Cont o := by
  cases h with
  | lst e _ => exact ⟨_, e, trivial⟩
  | dK e _ _ => exact ⟨_, e, trivial⟩
  | dT e _ _ => exact ⟨_, e, trivial⟩
theorem Unf.move {ι ι' : List Addr} {a : Addr} {d : D} (h : Unf K G H ι a d) (g : Same G G') (i : ι <+: ι') (k : ∀ o, H a = some o → H' a = some o) : Unf K G' H' ι' a d := by
  cases h with
  | lst e r => exact .lst (k _ e) (r.mono g i)
  | dK e k1 r => exact .dK (k _ e) k1 (r.mono g i)
  | dT e k1 r => exact .dT (k _ e) k1 (r.mono g i)
theorem Fld.move {ι ι' : List Addr} {v : V} {d : D} (h : Fld K G H ι v d) (g : Same G G') (i : ι <+: ι') (k : ∀ a o, v = .ref a → H a = some o → H' a = some o) : Fld K G' H' ι' v d := by
  rcases h with ⟨a, e, u⟩ | h
  · exact .inl ⟨a, e, u.move g i fun o => k a o e⟩
  · exact .inr h
theorem reg_there (r : RelW K C G H ws w) {a : Addr} (h : a ∈ regs ws) : (H a).isSome = true := by
  have go : ∀ {l : Ws0} {m : List (List (Str × D))}, Paired (fun (q : Addr × List (Str × V)) (o : List (Str × D)) => (∃ dx, H q.1 = some (.ins C dx q.2)) ∧ Paired (fun (x : Str × V) (y : Str × D) => x.1 = y.1 ∧ Fld K G H (io ws) x.2 y.2) q.2 o) l m → a ∈ regs0 l → (H a).isSome = true := by
    intro l m p
    induction p with
    | nil => intro h; exact absurd h (by simp [regs0])
    | @cons q o l m p1 p2 ih =>
      intro h
      obtain ⟨p, fs⟩ := q
      rcases List.mem_cons.mp h with rfl | h
      · obtain ⟨⟨dx, e⟩, _⟩ := p1
        rw [e]; rfl
      · rcases List.mem_append.mp h with h | h
        · have go2 : ∀ {fs : List (Str × V)} {o : List (Str × D)}, Paired (fun (x : Str × V) (y : Str × D) => x.1 = y.1 ∧ Fld K G H (io ws) x.2 y.2) fs o → a ∈ refs fs → (H a).isSome = true := by
            intro fs o p
            induction p with
            | nil => intro h; exact absurd h (by simp [refs])
            | @cons x y l m q1 q2 ih2 =>
              intro h
              obtain ⟨n, v⟩ := x
              rcases q1.2 with ⟨b, e, u⟩ | ⟨i, e, _⟩
              · simp only at e
                subst e
                rcases List.mem_cons.mp h with rfl | h
                · obtain ⟨o, e, _⟩ := u.there
                  rw [e]; rfl
                · exact ih2 h
              · simp only at e
                subst e
                exact ih2 h
          exact go2 p1.2 h
        · exact ih h
  exact go r.obs h
theorem Nx.refl (s : Same G H) (r : RelW K C G H ws w) : Nx K C G H ws G H ws w := ⟨fun _ _ h => h, s, r, fun _ _ h _ => h, fun _ h => h, fun _ _ h => h, List.prefix_refl _, fun _ h => .inl h, Nat.le_refl _, fun _ => ⟨rfl, fun _ _ _ h => h⟩⟩
theorem Nx.trans (a : Nx K C G H ws G' H' ws' w') (b : Nx K C G' H' ws' G2 H2 ws2 w2) : Nx K C G H ws G2 H2 ws2 w2 where
  gg := a.gg.trans b.gg
  sub := b.sub
  rw := b.rw
  keep := fun c o e n => b.keep c o (a.keep c o e n) fun h => by
    rcases a.fresh c h with z | z
    · exact n z
    · rw [e] at z; cases z
  alive := fun c h => b.alive c (a.alive c h)
  nocap := fun c h n => b.nocap c (a.alive c h) (a.nocap c h n)
  io := a.io.trans b.io
  fresh := fun c h => by
    rcases b.fresh c h with z | z
    · exact a.fresh c z
    · refine .inr ?_
      cases e : H c with
      | none => rfl
      | some o =>
        have := a.alive c (by rw [e]; rfl)
        rw [z] at this; cases this
  le := Nat.le_trans a.le b.le
  qt := fun h => by
    have h1 := a.le
    have h2 := b.le
    obtain ⟨e1, k1⟩ := a.qt (by omega)
    obtain ⟨e2, k2⟩ := b.qt (by omega)
    subst e1
    exact ⟨e2, fun c hc o e => k2 c hc o (k1 c hc o e)⟩
/-- a frozen world: H may grow, G may grow by what is new -/
theorem RelW.grow (r : RelW K C G H ws w) (g : Same G G') (h : Same H H') (n : ∀ a, (H a).isSome = true → G a = none → G' a = none) : RelW K C G' H' ws w where
  obs := paired_imp r.obs fun q o hq ⟨⟨dx, e⟩, p⟩ => ⟨⟨dx, h _ _ e⟩, paired_imp p fun x y hx ⟨e, f⟩ => ⟨e, f.move g (List.prefix_refl _) fun a o _ e => h a o e⟩⟩
  nn := r.nn
  nd := r.nd
  out := fun a ha => n a (reg_there r ha) (r.out a ha)
/-- one new object, frozen -/
theorem Nx.put (s : Same G H) (r : RelW K C G H ws w) {p : Addr} {o : HO} (hp : H p = none) : Nx K C G H ws (upd G p o) (upd H p o) ws w := by
  have gp : G p = none := s.free hp
  have sg : Same G (upd G p o) := fun b u e => by rw [upd_ne (ne_of_none e gp)]; exact e
  have sh : Same H (upd H p o) := fun b u e => by rw [upd_ne (ne_of_none e hp)]; exact e
  have nc : ∀ a, (H a).isSome = true → G a = none → upd G p o a = none := fun a h n => by
    rw [upd_ne]
    · exact n
    · intro e; subst e; rw [hp] at h; cases h
  refine ⟨sg, fun b u e => ?_, r.grow sg sh nc, fun a o e _ => sh a o e, fun a h => ?_, nc, List.prefix_refl _, fun _ h => .inl h, Nat.le_refl _, fun _ => ⟨rfl, fun a _ o e => sh a o e⟩⟩
  · by_cases hb : b = p
    · subst hb; rw [upd_same] at e ⊢; exact e
    · rw [upd_ne hb] at e ⊢; exact s _ _ e
  · obtain ⟨u, e⟩ := Option.isSome_iff_exists.mp h
    rw [sh a u e]; rfl
/-- one new object, not frozen -/
theorem Nx.new (s : Same G H) (r : RelW K C G H ws w) {p : Addr} {o : HO} (hp : H p = none) : Nx K C G H ws G (upd H p o) ws w := by
  have sh : Same H (upd H p o) := fun b u e => by rw [upd_ne (ne_of_none e hp)]; exact e
  refine ⟨fun _ _ h => h, s.trans sh, r.grow (fun _ _ h => h) sh fun _ _ h => h, fun a o e _ => sh a o e, fun a h => ?_, fun _ _ h => h, List.prefix_refl _, fun _ h => .inl h, Nat.le_refl _, fun _ => ⟨rfl, fun a _ o e => sh a o e⟩⟩
  obtain ⟨u, e⟩ := Option.isSome_iff_exists.mp h
  rw [sh a u e]; rfl
theorem RV.move {v : V} {x : Val} (h : RV K G H ws v x) (n : Nx K C G H ws G' H' ws' w') (hx : x.m = .wd → ws'.n = ws.n) : RV K G' H' ws' v x := by
  unfold RV at h ⊢
  obtain ⟨m, d⟩ := x
  have go : (∃ a, v = .ref a ∧ G a = none ∧ a ∉ regs ws ∧ Unf K G H (io ws) a d) → ∃ a, v = .ref a ∧ G' a = none ∧ a ∉ regs ws' ∧ Unf K G' H' (io ws') a d := by
    rintro ⟨a, e, g, nr, u⟩
    obtain ⟨o, ho, _⟩ := u.there
    refine ⟨a, e, n.nocap a (by rw [ho]; rfl) g, fun hr => ?_, u.move n.gg n.io fun o e => n.keep a o e nr⟩
    rcases n.fresh a hr with z | z
    · exact nr z
    · rw [ho] at z; cases z
  cases m with
  | fz => exact Rep.mono n.gg n.io h
  | nw => exact go h
  | bo => exact go h
  | wd =>
    obtain ⟨a, e, g, hr, u⟩ := h
    obtain ⟨e2, k⟩ := n.qt (hx rfl)
    obtain ⟨o, ho, _⟩ := u.there
    subst e2
    exact ⟨a, e, n.nocap a (by rw [ho]; rfl) g, hr, u.move n.gg n.io fun o e' => k a hr o e'⟩
end
/-! ### the state of a body -/
/-- the state at the entry -/
structure En where
  H : Hp
  G : Hp
  ws : Ws
structure St (K : PySem.W.Frag) (C : Addr) (e : En) (σ : L2.St) (H G : Hp) (ws : Ws) (ρ : Env) (w : W) : Prop where
  nx0 : Nx K C e.G e.H e.ws G H ws w
  len : σ.length = ρ.length
  sl : ∀ (i : Nat) x, ρ[i]? = some (some x) → ∃ v, σ[i]? = some (some v) ∧ RV K G H ws v x ∧ (x.m = .fz ∨ x.m = .nw)
  own : ∀ (i : Nat) x a, ρ[i]? = some (some x) → x.m = .nw → σ[i]? = some (some (.ref a)) → e.H a = none
  ap : ∀ (i j : Nat) x y a, ρ[i]? = some (some x) → ρ[j]? = some (some y) → x.m = .nw → y.m = .nw → σ[i]? = some (some (.ref a)) → σ[j]? = some (some (.ref a)) → i = j
section
variable {K : PySem.W.Frag} {C : Addr} {e : En} {G H G' H' : Hp} {ws ws' : Ws} {w w' : W} {σ : L2.St} {ρ : Env}
theorem St.sub (s : St K C e σ H G ws ρ w) : Same G H := s.nx0.sub
theorem St.rw (s : St K C e σ H G ws ρ w) : RelW K C G H ws w := s.nx0.rw
theorem St.next (s : St K C e σ H G ws ρ w) (n : Nx K C G H ws G' H' ws' w') : St K C e σ H' G' ws' ρ w' where
  nx0 := s.nx0.trans n
  len := s.len
  sl := fun i x e => by
    obtain ⟨v, h1, h2, h3⟩ := s.sl i x e
    exact ⟨v, h1, h2.move n (fun q => by rcases h3 with z | z <;> rw [z] at q <;> cases q), h3⟩
  own := s.own
  ap := s.ap
theorem St.nx (s : St K C e σ H G ws ρ w) : Nx K C G H ws G H ws w := Nx.refl s.sub s.rw
end
/-! ### what an error is -/
/-- where the classes of errors stand -/
abbrev Cm := String → Option Addr
def XRel (K : PySem.W.Frag) (cm : Cm) (G H : Hp) (ι : List Addr) (x : Xc) (cls : Value) (d : Option Addr) : Prop :=
  ∃ c, cm x.c = some c ∧ cls = .ref c ∧ (x.fs = [] ∧ d = none ∨ ∃ dd vfs, d = some dd ∧ H dd = some (.xd vfs) ∧ Paired (fun (p : Str × V) (q : Str × D) => p.1 = q.1 ∧ Rep K G ι p.2 q.2) vfs x.fs)
/-- the parameters of all that follows: the written part, the class of objects, the classes of errors -/
structure Pm where
  K : PySem.W.Frag
  C : Addr
  cm : Cm
def NewOk (H : Hp) (v : V) (x : Val) : Prop := x.m = .nw → ∀ a, v = .ref a → H a = none
/-- what an expression promises: E: what is wanted of an error -/
def PostE (P : Pm) (E : Value → Option Addr → Hp → Prop) (H G : Hp) (ws : Ws) (Q : VK) : R Val → Prop
  | .ok x w' => ∀ v H' G' ws', Nx P.K P.C G H ws G' H' ws' w' → RV P.K G' H' ws' v x → NewOk H v x → Q v H'
  | .ex x w' => ∀ cls d H' G' ws', Nx P.K P.C G H ws G' H' ws' w' → XRel P.K P.cm G' H' (io ws') x cls d → E cls d H'
  | .bad => False
def PostT (P : Pm) (E : Value → Option Addr → Hp → Prop) (H G : Hp) (ws : Ws) (Q : Bool → Hp → Prop) : R Bool → Prop
  | .ok b w' => ∀ H' G' ws', Nx P.K P.C G H ws G' H' ws' w' → Q b H'
  | .ex x w' => ∀ cls d H' G' ws', Nx P.K P.C G H ws G' H' ws' w' → XRel P.K P.cm G' H' (io ws') x cls d → E cls d H'
  | .bad => False
inductive RVs (K : PySem.W.Frag) (G H : Hp) (ws : Ws) : List V → List Val → Prop
  | nil : RVs K G H ws [] []
  | cons {v : V} {x : Val} {vs : List V} {xs : List Val} : RV K G H ws v x → RVs K G H ws vs xs → RVs K G H ws (v :: vs) (x :: xs)
/-- the new ones stand apart, and are new -/
def NewsOk (H : Hp) : List V → List Val → Prop
  | v :: vs, x :: xs => NewOk H v x ∧ (x.m = .nw → ∀ (i : Nat) y, xs[i]? = some y → y.m = .nw → vs[i]? ≠ some v) ∧ NewsOk H vs xs
  | _, _ => True
def PostA (P : Pm) (E : Value → Option Addr → Hp → Prop) (H G : Hp) (ws : Ws) (Q : List V → Hp → Prop) : R (List Val) → Prop
  | .ok xs w' => ∀ vs H' G' ws', Nx P.K P.C G H ws G' H' ws' w' → RVs P.K G' H' ws' vs xs → NewsOk H vs xs → Q vs H'
  | .ex x w' => ∀ cls d H' G' ws', Nx P.K P.C G H ws G' H' ws' w' → XRel P.K P.cm G' H' (io ws') x cls d → E cls d H'
  | .bad => False
def EvE (P : Pm) (H0 : En) (Wi : WX) (te : TE) (f : DE) : Prop := ∀ σ H G ws ρ w (Q : VK), St P.K P.C H0 σ H G ws ρ w → PostE P (fun c d H' => Wi c d σ H') H G ws Q (f ρ w) → te σ H Q
def EvT (P : Pm) (H0 : En) (Wi : WX) (te : TT) (f : DT) : Prop := ∀ σ H G ws ρ w (Q : Bool → Hp → Prop), St P.K P.C H0 σ H G ws ρ w → PostT P (fun c d H' => Wi c d σ H') H G ws Q (f ρ w) → te σ H Q
def EvA (P : Pm) (H0 : En) (Wi : WX) (te : TA) (f : DA) : Prop := ∀ σ H G ws ρ w (Q : List V → Hp → Prop), St P.K P.C H0 σ H G ws ρ w → PostA P (fun c d H' => Wi c d σ H') H G ws Q (f ρ w) → te σ H Q
end DL

namespace DL
open PySem L2
section
variable {P : Pm} {E : Value → Option Addr → Hp → Prop} {H G H1 G1 : Hp} {ws ws1 : Ws} {w1 : W}
theorem newOk_back {v : V} {x : Val} (n : Nx P.K P.C G H ws G1 H1 ws1 w1) (h : NewOk H1 v x) : NewOk H v x := fun e a ea => by
  have := h e a ea
  cases q : H a with
  | none => rfl
  | some o =>
    have z := n.alive a (by rw [q]; rfl)
    rw [this] at z; cases z
theorem newsOk_back (n : Nx P.K P.C G H ws G1 H1 ws1 w1) : ∀ {vs : List V} {xs : List Val}, NewsOk H1 vs xs → NewsOk H vs xs
  | [], _, _ => trivial
  | _ :: _, [], _ => trivial
  | _ :: _, _ :: _, h => ⟨newOk_back n h.1, h.2.1, newsOk_back n h.2.2⟩
theorem PostE.after {Q : VK} {r : R Val} (n : Nx P.K P.C G H ws G1 H1 ws1 w1) (h : PostE P E H G ws Q r) : PostE P E H1 G1 ws1 Q r := by
  cases r with
  | ok x w => exact fun v H' G' ws' n2 r k => h v H' G' ws' (n.trans n2) r (newOk_back n k)
  | ex x w => exact fun c d H' G' ws' n2 r => h c d H' G' ws' (n.trans n2) r
  | bad => exact h
theorem PostT.after {Q : Bool → Hp → Prop} {r : R Bool} (n : Nx P.K P.C G H ws G1 H1 ws1 w1) (h : PostT P E H G ws Q r) : PostT P E H1 G1 ws1 Q r := by
  cases r with
  | ok x w => exact fun H' G' ws' n2 => h H' G' ws' (n.trans n2)
  | ex x w => exact fun c d H' G' ws' n2 r => h c d H' G' ws' (n.trans n2) r
  | bad => exact h
theorem PostA.after {Q : List V → Hp → Prop} {r : R (List Val)} (n : Nx P.K P.C G H ws G1 H1 ws1 w1) (h : PostA P E H G ws Q r) : PostA P E H1 G1 ws1 Q r := by
  cases r with
  | ok x w => exact fun v H' G' ws' n2 r k => h v H' G' ws' (n.trans n2) r (newsOk_back n k)
  | ex x w => exact fun c d H' G' ws' n2 r => h c d H' G' ws' (n.trans n2) r
  | bad => exact h
end
section
variable {P : Pm} {H0 : En} {Wi : WX} {ta tb tc : TE} {fa fb fc : DE}
/-- go on behind an expression -/
theorem EvE.thn (ha : EvE P H0 Wi ta fa) {σ : L2.St} {H G : Hp} {ws : Ws} {ρ : Env} {w : W} {Q : VK} (st : St P.K P.C H0 σ H G ws ρ w)
    (hx : ∀ x w', fa ρ w = .ex x w' → PostE P (fun c d H' => Wi c d σ H') H G ws Q (.ex x w')) (hb : fa ρ w ≠ .bad)
    (hk : ∀ x w', fa ρ w = .ok x w' → ∀ v H' G' ws', Nx P.K P.C G H ws G' H' ws' w' → RV P.K G' H' ws' v x → NewOk H v x → Q v H') : ta σ H Q := by
  refine ha σ H G ws ρ w Q st ?_
  cases e : fa ρ w with
  | ok x w' => exact hk x w' e
  | ex x w' => exact hx x w' e
  | bad => exact absurd e hb
/-- a two-place operation upon values -/
def ROp (P : Pm) (r : R2) (g : Val → Val → W → R Val) : Prop := ∀ H G ws w vx vy x y (Q : VK), Same G H → RelW P.K P.C G H ws w → RV P.K G H ws vx x → RV P.K G H ws vy y → PostE P (fun _ _ _ => False) H G ws Q (g x y w) → r vx vy H Q
def RUn (P : Pm) (r : V → Hp → VK → Prop) (g : Val → W → R Val) : Prop := ∀ H G ws w vx x (Q : VK), Same G H → RelW P.K P.C G H ws w → RV P.K G H ws vx x → PostE P (fun _ _ _ => False) H G ws Q (g x w) → r vx H Q
def RCall (P : Pm) (r : List V → Hp → VK → Prop) (g : List Val → W → R Val) : Prop := ∀ H G ws w vs xs (Q : VK), Same G H → RelW P.K P.C G H ws w → RVs P.K G H ws vs xs → PostE P (fun _ _ _ => False) H G ws Q (g xs w) → r vs H Q
/-- a field's thing that was seen ahead must stand as it stood -/
def chk {α : Type} (x : Val) (w w' : W) (r : R α) : R α := if x.m = .wd ∧ w'.n ≠ w.n then .bad else r
theorem chk_wd {α : Type} {x : Val} {w w' : W} {r : R α} (h : chk x w w' r ≠ .bad) : (x.m = .wd → w'.n = w.n) ∧ chk x w w' r = r := by
  unfold chk at h ⊢
  by_cases q : x.m = .wd ∧ w'.n ≠ w.n
  · rw [if_pos q] at h; exact absurd rfl h
  · rw [if_neg q]
    exact ⟨fun a => Classical.byContradiction fun b => q ⟨a, b⟩, rfl⟩
theorem PostE.chk {E : Value → Option Addr → Hp → Prop} {H G : Hp} {ws : Ws} {Q : VK} {x : Val} {w w' : W} {r : R Val} (h : PostE P E H G ws Q (DL.chk x w w' r)) : (x.m = .wd → w'.n = w.n) ∧ PostE P E H G ws Q r := by
  have hb : DL.chk x w w' r ≠ .bad := fun e => by rw [e] at h; exact h
  obtain ⟨a, b⟩ := chk_wd hb
  rw [b] at h
  exact ⟨a, h⟩
theorem PostA.chk {E : Value → Option Addr → Hp → Prop} {H G : Hp} {ws : Ws} {Q : List V → Hp → Prop} {x : Val} {w w' : W} {r : R (List Val)} (h : PostA P E H G ws Q (DL.chk x w w' r)) : (x.m = .wd → w'.n = w.n) ∧ PostA P E H G ws Q r := by
  have hb : DL.chk x w w' r ≠ .bad := fun e => by rw [e] at h; exact h
  obtain ⟨a, b⟩ := chk_wd hb
  rw [b] at h
  exact ⟨a, h⟩
theorem Nx.same {K : PySem.W.Frag} {C : Addr} {G H G' H' : Hp} {ws ws' : Ws} {w w' : W} (r : RelW K C G H ws w) (n : Nx K C G H ws G' H' ws' w') (h : w'.n = w.n) : ws'.n = ws.n := by rw [← r.nn, ← n.rw.nn]; exact h
def dOp (g : Val → Val → W → R Val) (fa fb : DE) : DE := fun ρ w => (fa ρ w).bind fun x w1 => (fb ρ w1).bind fun y w2 => chk x w1 w2 (g x y w2)
def dUn (g : Val → W → R Val) (fa : DE) : DE := fun ρ w => (fa ρ w).bind fun x w => g x w
def dCB (g : List Val → W → R Val) (fa : DA) : DE := fun ρ w => (fa ρ w).bind fun x w => g x w
theorem PostE.noex {E E' : Value → Option Addr → Hp → Prop} {H G : Hp} {ws : Ws} {Q : VK} {r : R Val} (h : PostE P E H G ws Q r) (n : ∀ x w, r ≠ .ex x w) : PostE P E' H G ws Q r := by
  cases r with
  | ok x w => exact h
  | ex x w => exact absurd rfl (n x w)
  | bad => exact h
theorem ev_op {r : R2} {g : Val → Val → W → R Val} (ha : EvE P H0 Wi ta fa) (hb : EvE P H0 Wi tb fb) (hr : ROp P r g) (hn : ∀ x y w e w', g x y w ≠ .ex e w') : EvE P H0 Wi (tOp r ta tb) (dOp g fa fb) := by
  intro σ H G ws ρ w Q st h
  unfold dOp at h
  refine ha σ H G ws ρ w _ st ?_
  cases e : fa ρ w with
  | bad => rw [e] at h; exact h
  | ex x w' => rw [e] at h; exact h
  | ok x w' =>
    intro v H1 G1 ws1 n1 r1 k1
    rw [e] at h
    have h : PostE P _ H G ws Q ((fb ρ w').bind fun y w2 => chk x w' w2 (g x y w2)) := h
    refine hb σ H1 G1 ws1 ρ w' _ (st.next n1) ?_
    cases e2 : fb ρ w' with
    | bad => rw [e2] at h; exact h
    | ex y w2 => rw [e2] at h; exact PostE.after n1 h
    | ok y w2 =>
      intro v2 H2 G2 ws2 n2 r2 k2
      rw [e2] at h
      obtain ⟨hx, h⟩ := PostE.chk h
      exact hr H2 G2 ws2 w2 v v2 x y Q n2.sub n2.rw (r1.move n2 fun z => n2.same n1.rw (hx z)) r2 ((PostE.after (n1.trans n2) h).noex fun _ _ => hn _ _ _ _ _)
theorem ev_un {r : V → Hp → VK → Prop} {g : Val → W → R Val} (ha : EvE P H0 Wi ta fa) (hr : RUn P r g) (hn : ∀ x w e w', g x w ≠ .ex e w') : EvE P H0 Wi (tUn r ta) (dUn g fa) := by
  intro σ H G ws ρ w Q st h
  unfold dUn at h
  refine ha σ H G ws ρ w _ st ?_
  cases e : fa ρ w with
  | bad => rw [e] at h; exact h
  | ex x w' => rw [e] at h; exact h
  | ok x w' =>
    intro v H1 G1 ws1 n1 r1 k1
    rw [e] at h
    exact hr H1 G1 ws1 w' v x Q n1.sub n1.rw r1 ((PostE.after n1 h).noex fun _ _ => hn _ _ _ _)
theorem ev_cb {r : List V → Hp → VK → Prop} {g : List Val → W → R Val} {ta : TA} {fa : DA} (ha : EvA P H0 Wi ta fa) (hr : RCall P r g) (hn : ∀ x w e w', g x w ≠ .ex e w') : EvE P H0 Wi (tCB r ta) (dCB g fa) := by
  intro σ H G ws ρ w Q st h
  unfold dCB at h
  refine ha σ H G ws ρ w _ st ?_
  cases e : fa ρ w with
  | bad => rw [e] at h; exact h
  | ex x w' => rw [e] at h; exact h
  | ok x w' =>
    intro v H1 G1 ws1 n1 r1 k1
    rw [e] at h
    exact hr H1 G1 ws1 w' v x Q n1.sub n1.rw r1 ((PostE.after n1 h).noex fun _ _ => hn _ _ _ _)
/-! names, constants -/
def dVar (i : Nat) : DE := fun ρ w => match ρ[i]? with
  | some (some x) => .ok ⟨if x.m = .nw then .bo else x.m, x.d⟩ w
  | _ => .bad
theorem fz_nw {H : Hp} {v : V} {d : D} : NewOk H v (fz d) := fun z => by cases z
def dC (d : D) : DE := fun _ w => .ok (fz d) w
theorem ev_var {i : Nat} : EvE P H0 Wi (tVar i) (dVar i) := by
  intro σ H G ws ρ w Q st h
  unfold dVar at h
  cases e : ρ[i]? with
  | none => rw [e] at h; exact h.elim
  | some o =>
    cases o with
    | none => rw [e] at h; exact h.elim
    | some x =>
      rw [e] at h
      obtain ⟨v, h1, h2, h3⟩ := st.sl i x e
      refine ⟨v, h1, h v H G ws st.nx ?_ ?_⟩
      · rcases h3 with z | z
        · rw [if_neg (by rw [z]; decide)]; exact h2
        · rw [if_pos z]
          unfold RV at h2 ⊢
          rw [z] at h2
          exact h2
      · intro q
        exfalso
        have q : (if x.m = .nw then Md.bo else x.m) = .nw := q
        rcases h3 with z | z
        · rw [if_neg (by rw [z]; decide), z] at q; cases q
        · rw [if_pos z] at q; cases q
theorem ev_c {v : V} {d : D} (h : ∀ G ι, Rep P.K G ι v d) : EvE P H0 Wi (tC v) (dC d) := fun σ H G ws ρ w Q st k => k v H G ws st.nx (h _ _) fz_nw
theorem ev_int {i : Int} : EvE P H0 Wi (tC (.int i)) (dC (.int i)) := ev_c fun _ _ => .int i
theorem ev_bl {i : Bool} : EvE P H0 Wi (tC (.bl i)) (dC (.bl i)) := ev_c fun _ _ => .bl i
theorem ev_str {i : Str} : EvE P H0 Wi (tC (.str i)) (dC (.str i)) := ev_c fun _ _ => .str i
theorem ev_non : EvE P H0 Wi (tC .non) (dC .non) := ev_c fun _ _ => .non
/-! ints -/
theorem fz_q {H G : Hp} {ws : Ws} {w : W} {Q : VK} {v : V} {d : D} {E : Value → Option Addr → Hp → Prop} (s : Same G H) (r : RelW P.K P.C G H ws w) (h : PostE P E H G ws Q (.ok (fz d) w)) (k : Rep P.K G (io ws) v d) : Q v H := h v H G ws (Nx.refl s r) k fz_nw
def gI (c : Int → Int → Prop) [∀ i j, Decidable (c i j)] (g : Int → Int → D) : Val → Val → W → R Val := fun x y w => match x.d, y.d with
  | .int i, .int j => if c i j then .ok (fz (g i j)) w else .bad
  | _, _ => .bad
/-- the value seen as an int -/
theorem rv_int {K : PySem.W.Frag} {G H : Hp} {ws : Ws} {v : V} {m : Md} {i : Int} (h : RV K G H ws v ⟨m, .int i⟩) : v = .int i := by
  unfold RV at h
  cases m with
  | fz => cases h; rfl
  | nw => obtain ⟨a, _, _, _, u⟩ := h; cases u
  | bo => obtain ⟨a, _, _, _, u⟩ := h; cases u
  | wd => obtain ⟨a, _, _, _, u⟩ := h; cases u
theorem rv_str {K : PySem.W.Frag} {G H : Hp} {ws : Ws} {v : V} {m : Md} {i : Str} (h : RV K G H ws v ⟨m, .str i⟩) : v = .str i := by
  unfold RV at h
  cases m with
  | fz => cases h; rfl
  | nw => obtain ⟨a, _, _, _, u⟩ := h; cases u
  | bo => obtain ⟨a, _, _, _, u⟩ := h; cases u
  | wd => obtain ⟨a, _, _, _, u⟩ := h; cases u
theorem rv_bl {K : PySem.W.Frag} {G H : Hp} {ws : Ws} {v : V} {m : Md} {i : Bool} (h : RV K G H ws v ⟨m, .bl i⟩) : v = .bl i := by
  unfold RV at h
  cases m with
  | fz => cases h; rfl
  | nw => obtain ⟨a, _, _, _, u⟩ := h; cases u
  | bo => obtain ⟨a, _, _, _, u⟩ := h; cases u
  | wd => obtain ⟨a, _, _, _, u⟩ := h; cases u
theorem rv_non {K : PySem.W.Frag} {G H : Hp} {ws : Ws} {v : V} {m : Md} (h : RV K G H ws v ⟨m, .non⟩) : v = .non := by
  unfold RV at h
  cases m with
  | fz => cases h; rfl
  | nw => obtain ⟨a, _, _, _, u⟩ := h; cases u
  | bo => obtain ⟨a, _, _, _, u⟩ := h; cases u
  | wd => obtain ⟨a, _, _, _, u⟩ := h; cases u
theorem rv_tup {K : PySem.W.Frag} {G H : Hp} {ws : Ws} {v : V} {m : Md} {ds : List D} (s : Same G H) (h : RV K G H ws v ⟨m, .tup ds⟩) : ∃ a vs, v = .ref a ∧ SqT K G a vs ∧ SqT K H a vs ∧ Reps K G (io ws) vs ds := by
  unfold RV at h
  cases m with
  | fz => cases h with | tup q r => exact ⟨_, _, rfl, q, sqT_mono s q, r⟩
  | nw => obtain ⟨a, _, _, _, u⟩ := h; cases u
  | bo => obtain ⟨a, _, _, _, u⟩ := h; cases u
  | wd => obtain ⟨a, _, _, _, u⟩ := h; cases u
theorem rv_lst {K : PySem.W.Frag} {G H : Hp} {ws : Ws} {v : V} {m : Md} {ds : List D} (s : Same G H) (h : RV K G H ws v ⟨m, .lst ds⟩) : ∃ a vs, v = .ref a ∧ H a = some (.lst vs) ∧ Reps K G (io ws) vs ds := by
  unfold RV at h
  cases m with
  | fz => cases h with | lst q r => exact ⟨_, _, rfl, s _ _ q, r⟩
  | nw => obtain ⟨a, e, _, _, u⟩ := h; cases u with | lst q r => exact ⟨a, _, e, q, r⟩
  | bo => obtain ⟨a, e, _, _, u⟩ := h; cases u with | lst q r => exact ⟨a, _, e, q, r⟩
  | wd => obtain ⟨a, e, _, _, u⟩ := h; cases u with | lst q r => exact ⟨a, _, e, q, r⟩
theorem rop_I {c : Int → Int → Prop} [∀ i j, Decidable (c i j)] {g : Int → Int → V} {gd : Int → Int → D} (hr : ∀ i j K G ι, Rep K G ι (g i j) (gd i j)) : ROp P (rI c g) (gI c gd) := by
  intro H G ws w vx vy x y Q s r hx hy h
  obtain ⟨m, d⟩ := x
  obtain ⟨m2, d2⟩ := y
  cases d <;> try exact h.elim
  cases d2 <;> try exact h.elim
  rename_i i j
  have ex := rv_int hx
  have ey := rv_int hy
  subst ex ey
  have h : PostE P _ H G ws Q (if c i j then .ok (fz (gd i j)) w else .bad) := h
  by_cases hc : c i j
  · rw [if_pos hc] at h
    exact ⟨i, j, rfl, rfl, hc, fz_q s r h (hr i j _ _ _)⟩
  · rw [if_neg hc] at h
    exact h.elim
def gI0 (g : Int → Int → D) : Val → Val → W → R Val := fun x y w => match x.d, y.d with
  | .int i, .int j => .ok (fz (g i j)) w
  | _, _ => .bad
theorem rop_I0 {g : Int → Int → V} {gd : Int → Int → D} (hr : ∀ i j K G ι, Rep K G ι (g i j) (gd i j)) : ROp P (rI0 g) (gI0 gd) := by
  intro H G ws w vx vy x y Q s r hx hy h
  obtain ⟨m, d⟩ := x
  obtain ⟨m2, d2⟩ := y
  cases d <;> try exact h.elim
  cases d2 <;> try exact h.elim
  rename_i i j
  have ex := rv_int hx
  have ey := rv_int hy
  subst ex ey
  exact ⟨i, j, rfl, rfl, fz_q s r h (hr i j _ _ _)⟩
theorem gI_nx {c : Int → Int → Prop} [∀ i j, Decidable (c i j)] {g : Int → Int → D} (x y : Val) (w : W) (e : Xc) (w' : W) : gI c g x y w ≠ .ex e w' := by
  unfold gI
  split
  · split <;> exact fun h => nomatch h
  · exact fun h => nomatch h
theorem gI0_nx {g : Int → Int → D} (x y : Val) (w : W) (e : Xc) (w' : W) : gI0 g x y w ≠ .ex e w' := by
  unfold gI0
  split <;> exact fun h => nomatch h
end
end DL

namespace DL
open PySem L2
section
variable {P : Pm}
/-- the plain data that == looks through: no dict, no object; at most n deep -/
def plN : Nat → D → Bool
  | _, .non | _, .bl _ | _, .int _ => true
  | _, .str x => PyData.strOk x
  | 0, _ => false
  | n + 1, .tup xs | n + 1, .lst xs => xs.all (plN n)
  | _ + 1, .scr _ => true
  | _, _ => false
def pl (d : D) : Bool := plN 10 d
mutual
def toP : D → PyData
  | .non => .none
  | .bl b => .bool b
  | .int i => .int i
  | .str x => .str x
  | .tup xs => .tuple (toPs xs)
  | .lst xs => .list (toPs xs)
  | .scr ns => .list (ns.map .int)
  | .dK _ => .none
  | .dT _ => .none
  | .obj _ => .none
def toPs : List D → List PyData
  | [] => []
  | d :: ds => toP d :: toPs ds
end
theorem dpAll_ints {K : PySem.W.Frag} {H : Hp} : ∀ ns : List Int, DpAll K H (ns.map V.int) (ns.map .int)
  | [] => .nil
  | n :: r => .cons (.int n) (dpAll_ints r)
theorem pl_dp {K : PySem.W.Frag} {G H : Hp} {ι : List Addr} (s : Same G H) : ∀ (n : Nat) {v : V} {d : D}, Rep K G ι v d → plN n d = true → Dp K H v (toP d) ∧ (toP d).canLay0 = true ∧ (toP d).depth ≤ n := by
  intro n
  induction n with
  | zero =>
    intro v d r h
    cases r with
    | non => exact ⟨.non, rfl, Nat.le_refl _⟩
    | bl b => exact ⟨.bl b, rfl, Nat.le_refl _⟩
    | int b => exact ⟨.int b, rfl, Nat.le_refl _⟩
    | str b => exact ⟨.str b, by simpa [plN, toP, PyData.canLay0] using h, Nat.le_refl _⟩
    | tup _ _ => simp [plN] at h
    | lst _ _ => simp [plN] at h
    | scr _ => simp [plN] at h
    | dK _ _ _ => simp [plN] at h
    | dT _ _ _ => simp [plN] at h
    | obj _ => simp [plN] at h
  | succ n ih =>
    intro v d r h
    have go : ∀ {vs : List V} {ds : List D}, Reps K G ι vs ds → ds.all (plN n) = true → DpAll K H vs (toPs ds) ∧ PyData.canLayAll0 (toPs ds) = true ∧ PyData.depthAll (toPs ds) ≤ n := by
      intro vs ds r
      induction ds generalizing vs with
      | nil => intro _; cases r; exact ⟨.nil, rfl, Nat.zero_le _⟩
      | cons d ds ih2 =>
        intro h
        cases r with
        | cons r1 r2 =>
          rw [List.all_cons, Bool.and_eq_true] at h
          obtain ⟨a1, a2, a3⟩ := ih r1 h.1
          obtain ⟨b1, b2, b3⟩ := ih2 r2 h.2
          refine ⟨.cons a1 b1, ?_, ?_⟩
          · simp [toPs, PyData.canLayAll0, a2, b2]
          · simp [toPs, PyData.depthAll]; omega
    cases r with
    | non => exact ⟨.non, rfl, Nat.zero_le _⟩
    | bl b => exact ⟨.bl b, rfl, Nat.zero_le _⟩
    | int b => exact ⟨.int b, rfl, Nat.zero_le _⟩
    | str b => exact ⟨.str b, by simpa [plN, toP, PyData.canLay0] using h, Nat.zero_le _⟩
    | tup q r =>
      obtain ⟨b1, b2, b3⟩ := go r (by simpa [plN] using h)
      exact ⟨.tup (sqT_mono s q) b1, by simpa [toP, PyData.canLay0] using b2, by simp [toP, PyData.depth]; omega⟩
    | lst q r =>
      obtain ⟨b1, b2, b3⟩ := go r (by simpa [plN] using h)
      exact ⟨.lst (SqL.of (s _ _ q)) b1, by simpa [toP, PyData.canLay0] using b2, by simp [toP, PyData.depth]; omega⟩
    | @scr a ns q =>
      refine ⟨.lst (q.imp fun _ h => s _ _ h).sq (dpAll_ints ns), ?_, ?_⟩
      · have : ∀ l : List Int, PyData.canLayAll0 (l.map .int) = true := by
          intro l
          induction l with
          | nil => rfl
          | cons a l ih => simp [PyData.canLayAll0, PyData.canLay0, ih]
        simpa [toP, PyData.canLay0] using this ns
      · have : ∀ l : List Int, PyData.depthAll (l.map .int) = 0 := by
          intro l
          induction l with
          | nil => rfl
          | cons a l ih => simp [PyData.depthAll, PyData.depth, ih]
        simp [toP, PyData.depth, this]
    | dK _ _ _ => simp [plN] at h
    | dT _ _ _ => simp [plN] at h
    | obj _ => simp [plN] at h
theorem reps_pl {K : PySem.W.Frag} {G H : Hp} {ι : List Addr} (s : Same G H) {n : Nat} : ∀ {vs : List V} {ds : List D}, Reps K G ι vs ds → ds.all (plN n) = true → DpAll K H vs (toPs ds) ∧ PyData.canLayAll0 (toPs ds) = true ∧ PyData.depthAll (toPs ds) ≤ n
  | _, _, .nil, _ => ⟨.nil, rfl, Nat.zero_le _⟩
  | _, _, .cons r1 r2, h => by
    rw [List.all_cons, Bool.and_eq_true] at h
    obtain ⟨a1, a2, a3⟩ := pl_dp s n r1 h.1
    obtain ⟨b1, b2, b3⟩ := reps_pl s r2 h.2
    refine ⟨.cons a1 b1, ?_, ?_⟩
    · simp [toPs, PyData.canLayAll0, a2, b2]
    · simp [toPs, PyData.depthAll]; omega
/-- a value of any standing, as == sees it -/
theorem rv_dp {K : PySem.W.Frag} {G H : Hp} {ws : Ws} {v : V} {x : Val} (s : Same G H) (h : RV K G H ws v x) (p : pl x.d = true) : Dp K H v (toP x.d) ∧ SeqAt.shaped (toP x.d) = true := by
  obtain ⟨m, d⟩ := x
  have fin : Dp K H v (toP d) ∧ (toP d).canLay0 = true ∧ (toP d).depth ≤ 10 → Dp K H v (toP d) ∧ SeqAt.shaped (toP d) = true := fun ⟨a, b, c⟩ => ⟨a, by
    unfold SeqAt.shaped
    rw [b, Bool.true_and]
    exact decide_eq_true (by omega)⟩
  have un : (∃ a, v = .ref a ∧ Unf K G H (io ws) a d) → Dp K H v (toP d) ∧ SeqAt.shaped (toP d) = true := by
    rintro ⟨a, rfl, u⟩
    have p : plN 10 d = true := p
    cases u with
    | lst q r =>
      obtain ⟨b1, b2, b3⟩ := reps_pl s (n := 9) r (by simpa [plN] using p)
      exact fin ⟨.lst (SqL.of q) b1, by simpa [toP, PyData.canLay0] using b2, by simp [toP, PyData.depth]; omega⟩
    | dK _ _ _ => simp [plN] at p
    | dT _ _ _ => simp [plN] at p
  unfold RV at h
  cases m with
  | fz => exact fin (pl_dp s 10 h p)
  | nw => obtain ⟨a, e, _, _, u⟩ := h; exact un ⟨a, e, u⟩
  | bo => obtain ⟨a, e, _, _, u⟩ := h; exact un ⟨a, e, u⟩
  | wd => obtain ⟨a, e, _, _, u⟩ := h; exact un ⟨a, e, u⟩
mutual
/-- == -/
def eqD : D → D → Bool
  | .non, .non => true
  | .bl a, .bl b => a == b
  | .bl a, .int j => (if a then 1 else 0) == j
  | .int i, .bl b => i == (if b then 1 else 0)
  | .int i, .int j => i == j
  | .str x, .str y => x == y
  | .lst xs, .lst ys => eqDs xs ys
  | .tup xs, .tup ys => eqDs xs ys
  | .scr ns, .scr ms => ns == ms
  | .scr ns, .lst ys => PyData.eqvAll (ns.map .int) (toPs ys)
  | .lst xs, .scr ms => PyData.eqvAll (toPs xs) (ms.map .int)
  | _, _ => false
def eqDs : List D → List D → Bool
  | [], [] => true
  | x :: xs, y :: ys => eqD x y && eqDs xs ys
  | _, _ => false
end
theorem toPs_ints : ∀ ns : List Int, toPs (ns.map .int) = ns.map .int
  | [] => rfl
  | n :: r => by rw [List.map_cons, List.map_cons, toPs, toPs_ints r]; rfl
theorem eqv_ints : ∀ ns ms : List Int, PyData.eqvAll (ns.map .int) (ms.map .int) = (ns == ms)
  | [], [] => rfl
  | [], _ :: _ => rfl
  | _ :: _, [] => rfl
  | n :: r, m :: q => by
    simp only [List.map_cons, PyData.eqvAll, PyData.eqv, eqv_ints r q]
    rfl
/-- a well-founded look at plain data -/
theorem eqD_of : ∀ (n : Nat) (x y : D), plN n x = true → plN n y = true → PyData.eqv (toP x) (toP y) = eqD x y := by
  intro n
  induction n with
  | zero =>
    intro x y hx hy
    cases x <;> (try simp [plN] at hx) <;> cases y <;> (try simp [plN] at hy) <;> first | rfl | (simp only [toP, PyData.eqv, eqD])
  | succ n ih =>
    have go : ∀ xs ys : List D, xs.all (plN n) = true → ys.all (plN n) = true → PyData.eqvAll (toPs xs) (toPs ys) = eqDs xs ys := by
      intro xs
      induction xs with
      | nil => intro ys _ _; cases ys <;> simp only [toPs, PyData.eqvAll, eqDs]
      | cons x xs ih2 =>
        intro ys hx hy
        rw [List.all_cons, Bool.and_eq_true] at hx
        cases ys with
        | nil => simp only [toPs, PyData.eqvAll, eqDs]
        | cons y ys =>
          rw [List.all_cons, Bool.and_eq_true] at hy
          simp only [toPs, PyData.eqvAll, eqDs, ih x y hx.1 hy.1, ih2 ys hx.2 hy.2]
    have hi : ∀ ns : List Int, (ns.map D.int).all (plN n) = true := fun ns => by
      rw [List.all_map]
      apply List.all_eq_true.mpr
      intro a _
      cases n <;> rfl
    intro x y hx hy
    cases x <;> (try (exfalso; simp [plN] at hx; done)) <;> cases y <;> (try (exfalso; simp [plN] at hy; done)) <;> first
      | rfl
      | (simp only [toP, PyData.eqv, eqD]; done)
      | (simp only [toP, PyData.eqv, eqD]; exact go _ _ (by simpa [plN] using hx) (by simpa [plN] using hy))
      | (simp only [toP, PyData.eqv, eqD]; rw [← toPs_ints]; exact go _ _ (by simpa [plN] using hx) (hi _))
      | (simp only [toP, PyData.eqv, eqD]; rw [← toPs_ints]; exact go _ _ (hi _) (by simpa [plN] using hy))
      | (simp only [toP, PyData.eqv, eqD]; exact eqv_ints _ _)
def gEq (neg : Bool) : Val → Val → W → R Val := fun x y w => if pl x.d && pl y.d then .ok (fz (.bl (neg != eqD x.d y.d))) w else .bad
theorem gEq_nx {neg : Bool} (x y : Val) (w : W) (e : Xc) (w' : W) : gEq neg x y w ≠ .ex e w' := by
  unfold gEq
  split <;> exact fun h => nomatch h
theorem rop_eq : ROp P (rEqD P.K) (gEq false) := by
  intro H G ws w vx vy x y Q s r hx hy h
  unfold gEq at h
  split at h
  · rename_i hp
    rw [Bool.and_eq_true] at hp
    obtain ⟨a1, a2⟩ := rv_dp s hx hp.1
    obtain ⟨b1, b2⟩ := rv_dp s hy hp.2
    refine ⟨_, _, a1, b1, a2, b2, ?_⟩
    rw [eqD_of 10 _ _ hp.1 hp.2]
    exact fz_q s r h (by simpa using Rep.bl _)
  · exact h.elim
theorem rop_ne : ROp P (rNeD P.K) (gEq true) := by
  intro H G ws w vx vy x y Q s r hx hy h
  unfold gEq at h
  split at h
  · rename_i hp
    rw [Bool.and_eq_true] at hp
    obtain ⟨a1, a2⟩ := rv_dp s hx hp.1
    obtain ⟨b1, b2⟩ := rv_dp s hy hp.2
    refine ⟨_, _, a1, b1, a2, b2, ?_⟩
    rw [eqD_of 10 _ _ hp.1 hp.2]
    exact fz_q s r h (by simpa using Rep.bl _)
  · exact h.elim
end
end DL

namespace DL
open PySem L2
section
variable {P : Pm} {H0 : En} {Wi : WX}
noncomputable instance (i j : Int) : Decidable (CMul i j) := Classical.propDecidable _
noncomputable instance (i j : Int) : Decidable (CDivW i j) := Classical.propDecidable _
noncomputable instance (i j : Int) : Decidable (CPow i j) := Classical.propDecidable _
/-- bounds that nothing is to count up to: a range's, a repeated list's -/
def RO (j : Int) : Prop := -(2 ^ 62) ≤ j ∧ j < 2 ^ 62
noncomputable instance (j : Int) : Decidable (RO j) := Classical.propDecidable _
def RO2 (i j : Int) : Prop := -(2 ^ 62) ≤ i ∧ i < 2 ^ 62 ∧ -(2 ^ 62) ≤ j ∧ j < 2 ^ 62
noncomputable instance (i j : Int) : Decidable (RO2 i j) := Classical.propDecidable _
def ROm (n : Nat) (k : Int) : Prop := -(2 ^ 63) ≤ k ∧ k < 2 ^ 63 ∧ n * k.toNat ≤ sizeLine
noncomputable instance (n : Nat) (k : Int) : Decidable (ROm n k) := Classical.propDecidable _
/-- a new list handed on -/
theorem nw_q {H G : Hp} {ws : Ws} {w : W} {Q : VK} {p : Addr} {vs : List V} {ds : List D} {E : Value → Option Addr → Hp → Prop} (s : Same G H) (r : RelW P.K P.C G H ws w) (h : PostE P E H G ws Q (.ok ⟨.nw, .lst ds⟩ w)) (hp : H p = none) (k : Reps P.K G (io ws) vs ds) : Q (.ref p) (upd H p (.lst vs)) := by
  refine h (.ref p) (upd H p (.lst vs)) G ws (Nx.new s r hp) ?_ (fun _ a e => by cases e; exact hp)
  refine ⟨p, rfl, s.free hp, fun hr => ?_, .lst upd_same k⟩
  have := reg_there r hr
  rw [hp] at this; cases this
/-- a new tuple, frozen at once -/
theorem tup_q {H G : Hp} {ws : Ws} {w : W} {Q : VK} {p : Addr} {vs : List V} {ds : List D} {E : Value → Option Addr → Hp → Prop} (s : Same G H) (r : RelW P.K P.C G H ws w) (h : PostE P E H G ws Q (.ok (fz (.tup ds)) w)) (hp : H p = none) (k : Reps P.K G (io ws) vs ds) : Q (.ref p) (upd H p (.tup vs)) := by
  have n := Nx.put s r (o := .tup vs) hp
  exact h (.ref p) (upd H p (.tup vs)) (upd G p (.tup vs)) ws n (.tup (.inl (.inl upd_same)) (k.mono n.gg (List.prefix_refl _))) fz_nw
/-- + -/
def gAdd : Val → Val → W → R Val := fun x y w => match x.d, y.d with
  | .int i, .int j => .ok (fz (.int (i + j))) w
  | .str a, .str b => if a.length + b.length ≤ sizeLine then .ok (fz (.str (a ++ b))) w else .bad
  | .lst xs, .lst ys => if xs.length + ys.length ≤ sizeLine then .ok ⟨.nw, .lst (xs ++ ys)⟩ w else .bad
  | .tup xs, .tup ys => if xs.isEmpty = false ∧ xs.length + ys.length ≤ sizeLine then .ok (fz (.tup (xs ++ ys))) w else .bad
  | _, _ => .bad
theorem gAdd_nx (x y : Val) (w : W) (e : Xc) (w' : W) : gAdd x y w ≠ .ex e w' := by
  unfold gAdd
  split <;> (try split) <;> exact fun h => nomatch h
def rAddA (K : PySem.W.Frag) : R2 := fun x y H Q => (rI0 (fun i j => .int (i + j))) x y H Q ∨ (fun x y H Q => ∃ i j, x = .str i ∧ y = .str j ∧ i.length + j.length ≤ sizeLine ∧ Q (.str (i ++ j)) H) x y H Q ∨ rCat x y H Q ∨ rCatT K x y H Q
theorem op_addA {X : Cx} : OpR X (binaryOp .Add) (rAddA X.K) := op_add.or (op_add_str.or (op_cat.or op_catT))
theorem Reps.nil_iff {K : PySem.W.Frag} {G : Hp} {ι : List Addr} {vs : List V} {ds : List D} (h : Reps K G ι vs ds) : vs = [] ↔ ds = [] := by
  cases h <;> simp
theorem rop_add : ROp P (rAddA P.K) gAdd := by
  intro H G ws w vx vy x y Q s r hx hy h
  obtain ⟨m, d⟩ := x
  obtain ⟨m2, d2⟩ := y
  cases d <;> try exact h.elim
  · cases d2 <;> try exact h.elim
    rename_i i j
    have ex := rv_int hx
    have ey := rv_int hy
    subst ex ey
    exact .inl ⟨i, j, rfl, rfl, fz_q s r h (.int _)⟩
  · cases d2 <;> try exact h.elim
    rename_i a b
    have ex := rv_str hx
    have ey := rv_str hy
    subst ex ey
    have h : PostE P _ H G ws Q (if a.length + b.length ≤ sizeLine then .ok (fz (.str (a ++ b))) w else .bad) := h
    split at h
    · rename_i hl
      exact .inr (.inl ⟨a, b, rfl, rfl, hl, fz_q s r h (.str _)⟩)
    · exact h.elim
  · cases d2 <;> try exact h.elim
    rename_i xs ys
    obtain ⟨a, vs, rfl, _, q1, r1⟩ := rv_tup s hx
    obtain ⟨b, us, rfl, _, q2, r2⟩ := rv_tup s hy
    have h : PostE P _ H G ws Q (if xs.isEmpty = false ∧ xs.length + ys.length ≤ sizeLine then .ok (fz (.tup (xs ++ ys))) w else .bad) := h
    split at h
    · rename_i hl
      refine .inr (.inr (.inr ⟨a, b, vs, us, rfl, rfl, q1, q2, fun z => ?_, by rw [r1.length, r2.length]; exact hl.2, ?_⟩))
      · rw [r1.nil_iff.mp z] at hl; simp at hl
      · first
          | exact ⟨fun z => fz_q s r h (by rw [r2.nil_iff.mp z, List.append_nil]; exact (by unfold RV at hx; cases m <;> first | exact hx | (obtain ⟨_, _, _, _, u⟩ := hx; cases u) )), fun _ p hp => tup_q s r h hp (r1.append r2)⟩
          | skip
    · exact h.elim
  · cases d2 <;> try exact h.elim
    rename_i xs ys
    obtain ⟨a, vs, rfl, q1, r1⟩ := rv_lst s hx
    obtain ⟨b, us, rfl, q2, r2⟩ := rv_lst s hy
    have h : PostE P _ H G ws Q (if xs.length + ys.length ≤ sizeLine then .ok ⟨.nw, .lst (xs ++ ys)⟩ w else .bad) := h
    split at h
    · rename_i hl
      exact .inr (.inr (.inl ⟨a, b, vs, us, rfl, rfl, q1, q2, by rw [r1.length, r2.length]; exact hl, fun p hp => nw_q s r h hp (r1.append r2)⟩))
    · exact h.elim
end
end DL
namespace DL
open PySem L2
section
variable {P : Pm} {H0 : En} {Wi : WX}
/-- * -/
noncomputable def gMul : Val → Val → W → R Val := fun x y w => match x.d, y.d with
  | .int i, .int j => if CMul i j then .ok (fz (.int (i * j))) w else .bad
  | .lst xs, .int k => if ROm xs.length k then .ok ⟨.nw, .lst (List.replicate k.toNat xs).flatten⟩ w else .bad
  | _, _ => .bad
theorem gMul_nx (x y : Val) (w : W) (e : Xc) (w' : W) : gMul x y w ≠ .ex e w' := by
  unfold gMul
  split <;> (try split) <;> exact fun h => nomatch h
def rMulA : R2 := fun x y H Q => (rI CMul (fun i j => .int (i * j))) x y H Q ∨ rRep x y H Q
theorem op_mulA {X : Cx} : OpR X (binaryOp .Mult) rMulA := op_mul.or op_rep
theorem Reps.rep {K : PySem.W.Frag} {G : Hp} {ι : List Addr} {vs : List V} {ds : List D} (h : Reps K G ι vs ds) : ∀ k : Nat, Reps K G ι (List.replicate k vs).flatten (List.replicate k ds).flatten
  | 0 => .nil
  | k + 1 => by rw [List.replicate_succ, List.replicate_succ, List.flatten_cons, List.flatten_cons]; exact h.append (Reps.rep h k)
theorem rop_mul : ROp P rMulA gMul := by
  intro H G ws w vx vy x y Q s r hx hy h
  obtain ⟨m, d⟩ := x
  obtain ⟨m2, d2⟩ := y
  cases d <;> try exact h.elim
  · cases d2 <;> try exact h.elim
    rename_i i j
    have ex := rv_int hx
    have ey := rv_int hy
    subst ex ey
    have h : PostE P _ H G ws Q (if CMul i j then .ok (fz (.int (i * j))) w else .bad) := h
    split at h
    · rename_i hc
      exact .inl ⟨i, j, rfl, rfl, hc, fz_q s r h (.int _)⟩
    · exact h.elim
  · cases d2 <;> try exact h.elim
    rename_i xs k
    obtain ⟨a, vs, rfl, q1, r1⟩ := rv_lst s hx
    have ey := rv_int hy
    subst ey
    have h : PostE P _ H G ws Q (if ROm xs.length k then .ok ⟨.nw, .lst (List.replicate k.toNat xs).flatten⟩ w else .bad) := h
    split at h
    · rename_i hc
      exact .inr ⟨a, k, vs, rfl, rfl, q1, hc.1, hc.2.1, by rw [r1.length]; exact hc.2.2, fun p hp => nw_q s r h hp (r1.rep _)⟩
    · exact h.elim
/-- in, not in -/
def flD : D → Bool
  | .non | .bl _ | .int _ | .str _ => true
  | _ => false
def sgn : D → Option Nat
  | .str x => if x.cps.size = 1 then x.cps[0]? else none
  | _ => none
def gIn (neg : Bool) : Val → Val → W → R Val := fun x y w => match y.d with
  | .lst ys => if pl x.d && pl (.lst ys) then .ok (fz (.bl (neg != ys.any fun z => eqD z x.d))) w else .bad
  | .tup ys => if flD x.d && ys.all flD then .ok (fz (.bl (neg != ys.any fun z => eqD z x.d))) w else .bad
  | .str z => match sgn x.d with
    | some c => .ok (fz (.bl (neg != decide (c ∈ z.cps.toList)))) w
    | none => .bad
  | _ => .bad
theorem gIn_nx {neg : Bool} (x y : Val) (w : W) (e : Xc) (w' : W) : gIn neg x y w ≠ .ex e w' := by
  unfold gIn
  split <;> (try split) <;> exact fun h => nomatch h
def rInA (K : PySem.W.Frag) : R2 := fun x y H Q => rInD K x y H Q ∨ rIn K false x y H Q ∨ (∃ (c : Nat) (z : Str), x = .str ⟨#[c]⟩ ∧ y = .str z ∧ Q (.bl (decide (c ∈ z.cps.toList))) H)
def rNinA (K : PySem.W.Frag) : R2 := fun x y H Q => rNotInD K x y H Q ∨ rIn K true x y H Q ∨ (∃ (c : Nat) (z : Str), x = .str ⟨#[c]⟩ ∧ y = .str z ∧ Q (.bl (!decide (c ∈ z.cps.toList))) H)
theorem op_inA {X : Cx} (hu : X.A.units + 65 < cLine) : OpR X (compareOp .In) (rInA X.K) := (op_inD hu).or (op_in_seq.or op_in_sign)
theorem op_ninA {X : Cx} (hu : X.A.units + 65 < cLine) : OpR X (compareOp .NotIn) (rNinA X.K) := (op_notInD hu).or (op_notIn_seq.or op_notIn_sign)
theorem toPs_map : ∀ ds : List D, toPs ds = ds.map toP
  | [] => rfl
  | d :: r => by rw [toPs, toPs_map r]; rfl
theorem any_pl {n : Nat} {d : D} (hd : plN n d = true) : ∀ {ys : List D}, ys.all (plN n) = true → ((toPs ys).any fun z => PyData.eqv z (toP d)) = ys.any fun z => eqD z d
  | [], _ => rfl
  | y :: ys, h => by
    rw [List.all_cons, Bool.and_eq_true] at h
    rw [toPs, List.any_cons, List.any_cons, eqD_of n y d h.1 hd, any_pl hd h.2]
theorem plN_mono : ∀ (n : Nat) (d : D), plN n d = true → plN (n + 1) d = true := by
  intro n
  induction n with
  | zero => intro d h; cases d <;> (try simp [plN] at h) <;> simp_all [plN]
  | succ n ih =>
    intro d h
    cases d with
    | tup xs => simp only [plN, List.all_eq_true] at h ⊢; exact fun x hx => ih x (h x hx)
    | lst xs => simp only [plN, List.all_eq_true] at h ⊢; exact fun x hx => ih x (h x hx)
    | _ => simp_all [plN]
theorem rv_flat {K : PySem.W.Frag} {G H : Hp} {ws : Ws} {v : V} {x : Val} (h : RV K G H ws v x) (p : flD x.d = true) : flatV v = true ∧ Rep K G (io ws) v x.d := by
  obtain ⟨m, d⟩ := x
  cases d <;> (try simp [flD] at p)
  · have e := rv_non h; subst e; exact ⟨rfl, .non⟩
  · have e := rv_bl h; subst e; exact ⟨rfl, .bl _⟩
  · have e := rv_int h; subst e; exact ⟨rfl, .int _⟩
  · have e := rv_str h; subst e; exact ⟨rfl, .str _⟩
theorem rep_flat {K : PySem.W.Frag} {G : Hp} {ι : List Addr} {v : V} {d : D} (h : Rep K G ι v d) (p : flD d = true) : flatV v = true := by
  cases h <;> first | rfl | (simp [flD] at p)
theorem reps_flat {K : PySem.W.Frag} {G : Hp} {ι : List Addr} : ∀ {vs : List V} {ds : List D}, Reps K G ι vs ds → ds.all flD = true → vs.all flatV = true
  | _, _, .nil, _ => rfl
  | _, _, .cons a b, h => by
    rw [List.all_cons, Bool.and_eq_true] at h ⊢
    exact ⟨rep_flat a h.1, reps_flat b h.2⟩
theorem eqV_flat {K : PySem.W.Frag} {G : Hp} {ι : List Addr} {v u : V} {d e : D} (h : Rep K G ι v d) (h2 : Rep K G ι u e) (p : flD d = true) (p2 : flD e = true) : eqV v u = eqD d e := by
  cases h <;> (try (simp [flD] at p; done)) <;> cases h2 <;> (try (simp [flD] at p2; done)) <;> first | rfl | (simp only [eqV, eqD]; done) | (simp [eqV, eqD]; done)
theorem inV_flat {K : PySem.W.Frag} {G : Hp} {ι : List Addr} {u : V} {e : D} (h2 : Rep K G ι u e) (p2 : flD e = true) : ∀ {vs : List V} {ds : List D}, Reps K G ι vs ds → ds.all flD = true → inV u vs = ds.any fun z => eqD z e
  | _, _, .nil, _ => rfl
  | _, _, .cons a b, h => by
    rw [List.all_cons, Bool.and_eq_true] at h
    have ih := inV_flat h2 p2 b h.2
    unfold inV at ih ⊢
    rw [List.any_cons, List.any_cons, eqV_flat a h2 h.1 p2, ih]
theorem sgn_of {d : D} {c : Nat} (h : sgn d = some c) : d = .str ⟨#[c]⟩ := by
  cases d <;> (try (simp [sgn] at h; done))
  rename_i x
  simp only [sgn] at h
  by_cases hs : x.cps.size = 1
  · rw [if_pos hs] at h
    obtain ⟨⟨l⟩⟩ := x
    match l, hs, h with
    | [a], _, h => simp at h; subst h; rfl
  · rw [if_neg hs] at h
    cases h
theorem rop_in : ROp P (rInA P.K) (gIn false) := by
  intro H G ws w vx vy x y Q s r hx hy h
  obtain ⟨m2, d2⟩ := y
  cases d2 <;> try exact h.elim
  · rename_i z
    have ey := rv_str hy
    subst ey
    unfold gIn at h
    dsimp only at h
    split at h
    · rename_i c hc
      obtain ⟨m, d⟩ := x
      have e := sgn_of hc
      simp only at e
      subst e
      have ex := rv_str hx
      subst ex
      exact .inr (.inr ⟨c, z, rfl, rfl, fz_q s r h (by simpa using Rep.bl _)⟩)
    · exact h.elim
  · rename_i ys
    unfold gIn at h
    dsimp only at h
    split at h
    · rename_i hp
      rw [Bool.and_eq_true] at hp
      obtain ⟨a, vs, rfl, _, q1, r1⟩ := rv_tup s hy
      obtain ⟨f1, f2⟩ := rv_flat hx hp.1
      refine .inr (.inl ⟨a, vs, rfl, .inr q1, f1, reps_flat r1 hp.2, ?_⟩)
      rw [inV_flat f2 hp.1 r1 hp.2]
      exact fz_q s r h (by simpa using Rep.bl _)
    · exact h.elim
  · rename_i ys
    unfold gIn at h
    dsimp only at h
    split at h
    · rename_i hp
      rw [Bool.and_eq_true] at hp
      obtain ⟨a1, a2⟩ := rv_dp s hx hp.1
      obtain ⟨b1, b2⟩ := rv_dp s hy hp.2
      refine .inl ⟨_, _, a1, b1, a2, b2, ?_⟩
      have hl : ys.all (plN 10) = true := List.all_eq_true.mpr fun z hz => plN_mono 9 z (by
        have : plN 10 (.lst ys) = true := hp.2
        simp only [plN, List.all_eq_true] at this
        exact this z hz)
      rw [any_pl (n := 10) hp.1 hl]
      exact fz_q s r h (by simpa using Rep.bl _)
    · exact h.elim
theorem rop_nin : ROp P (rNinA P.K) (gIn true) := by
  intro H G ws w vx vy x y Q s r hx hy h
  obtain ⟨m2, d2⟩ := y
  cases d2 <;> try exact h.elim
  · rename_i z
    have ey := rv_str hy
    subst ey
    unfold gIn at h
    dsimp only at h
    split at h
    · rename_i c hc
      obtain ⟨m, d⟩ := x
      have e := sgn_of hc
      simp only at e
      subst e
      have ex := rv_str hx
      subst ex
      exact .inr (.inr ⟨c, z, rfl, rfl, fz_q s r h (by simpa using Rep.bl _)⟩)
    · exact h.elim
  · rename_i ys
    unfold gIn at h
    dsimp only at h
    split at h
    · rename_i hp
      rw [Bool.and_eq_true] at hp
      obtain ⟨a, vs, rfl, _, q1, r1⟩ := rv_tup s hy
      obtain ⟨f1, f2⟩ := rv_flat hx hp.1
      refine .inr (.inl ⟨a, vs, rfl, .inr q1, f1, reps_flat r1 hp.2, ?_⟩)
      rw [inV_flat f2 hp.1 r1 hp.2]
      exact fz_q s r h (by simpa using Rep.bl _)
    · exact h.elim
  · rename_i ys
    unfold gIn at h
    dsimp only at h
    split at h
    · rename_i hp
      rw [Bool.and_eq_true] at hp
      obtain ⟨a1, a2⟩ := rv_dp s hx hp.1
      obtain ⟨b1, b2⟩ := rv_dp s hy hp.2
      refine .inl ⟨_, _, a1, b1, a2, b2, ?_⟩
      have hl : ys.all (plN 10) = true := List.all_eq_true.mpr fun z hz => plN_mono 9 z (by
        have : plN 10 (.lst ys) = true := hp.2
        simp only [plN, List.all_eq_true] at this
        exact this z hz)
      rw [any_pl (n := 10) hp.1 hl]
      exact fz_q s r h (by simpa using Rep.bl _)
    · exact h.elim
end
end DL

namespace DL
open PySem L2
section
variable {P : Pm} {H0 : En} {Wi : WX} {ta tb tc : TE} {fa fb fc : DE}
/-! ### is -/
def isNon : D → Bool
  | .non => true
  | _ => false
def gIsN (neg : Bool) : Val → W → R Val := fun x w => .ok (fz (.bl (neg != isNon x.d))) w
theorem rv_isN {K : PySem.W.Frag} {G H : Hp} {ws : Ws} {v : V} {x : Val} (h : RV K G H ws v x) : decide (v = .non) = isNon x.d := by
  obtain ⟨m, d⟩ := x
  have un : (∃ a, v = .ref a ∧ Unf K G H (io ws) a d) → decide (v = .non) = isNon d := by
    rintro ⟨a, rfl, u⟩
    cases u <;> rfl
  unfold RV at h
  cases m with
  | fz => cases h <;> rfl
  | nw => obtain ⟨a, e, _, _, u⟩ := h; exact un ⟨a, e, u⟩
  | bo => obtain ⟨a, e, _, _, u⟩ := h; exact un ⟨a, e, u⟩
  | wd => obtain ⟨a, e, _, _, u⟩ := h; exact un ⟨a, e, u⟩
theorem ev_isN (ha : EvE P H0 Wi ta fa) : EvE P H0 Wi (tIsN ta) (dUn (gIsN false) fa) :=
  ev_un (r := fun x H Q => Q (.bl (decide (x = .non))) H) ha (fun H G ws w vx x Q s r hx h => by
    show Q (.bl (decide (vx = .non))) H
    rw [rv_isN hx]
    exact fz_q s r h (by simpa using Rep.bl _)) (fun _ _ _ _ h => nomatch h)
theorem ev_notN (ha : EvE P H0 Wi ta fa) : EvE P H0 Wi (tNotN ta) (dUn (gIsN true) fa) :=
  ev_un (r := fun x H Q => Q (.bl (!decide (x = .non))) H) ha (fun H G ws w vx x Q s r hx h => by
    show Q (.bl (!decide (vx = .non))) H
    rw [rv_isN hx]
    exact fz_q s r h (by simpa using Rep.bl _)) (fun _ _ _ _ h => nomatch h)
def gIsB (neg : Bool) : Val → Val → W → R Val := fun x y w => match x.d, y.d with
  | .bl a, .bl b => .ok (fz (.bl (neg != decide (a = b)))) w
  | _, _ => .bad
theorem gIsB_nx {neg : Bool} (x y : Val) (w : W) (e : Xc) (w' : W) : gIsB neg x y w ≠ .ex e w' := by
  unfold gIsB
  split <;> exact fun h => nomatch h
theorem rop_isB : ROp P rIsB (gIsB false) := by
  intro H G ws w vx vy x y Q s r hx hy h
  obtain ⟨m, d⟩ := x
  obtain ⟨m2, d2⟩ := y
  cases d <;> try exact h.elim
  cases d2 <;> try exact h.elim
  have ex := rv_bl hx
  have ey := rv_bl hy
  subst ex ey
  exact ⟨_, _, rfl, rfl, fz_q s r h (by simpa using Rep.bl _)⟩
theorem rop_notB : ROp P rNotB (gIsB true) := by
  intro H G ws w vx vy x y Q s r hx hy h
  obtain ⟨m, d⟩ := x
  obtain ⟨m2, d2⟩ := y
  cases d <;> try exact h.elim
  cases d2 <;> try exact h.elim
  have ex := rv_bl hx
  have ey := rv_bl hy
  subst ex ey
  exact ⟨_, _, rfl, rfl, fz_q s r h (by simpa using Rep.bl _)⟩
/-! ### subscripts -/
def gIx : Val → Val → W → R Val := fun x y w => match x.d, y.d with
  | .lst ds, .int i => match atI ds i with
    | some d => .ok (fz d) w
    | none => .bad
  | .tup ds, .int i => match atI ds i with
    | some d => .ok (fz d) w
    | none => .bad
  | .scr ns, .int i => match atI ns i with
    | some n => .ok (fz (.int n)) w
    | none => .bad
  | .str z, .int i => if z.length ≤ sizeLine then (match atI z.cps.toList i with
    | some c => .ok (fz (.str ⟨#[c]⟩)) w
    | none => .bad) else .bad
  | _, _ => .bad
theorem gIx_nx (x y : Val) (w : W) (e : Xc) (w' : W) : gIx x y w ≠ .ex e w' := by
  unfold gIx
  split <;> (try split) <;> (try split) <;> exact fun h => nomatch h
theorem reps_atI {K : PySem.W.Frag} {G : Hp} {ι : List Addr} {vs : List V} {ds : List D} {i : Int} {d : D} (r : Reps K G ι vs ds) (h : atI ds i = some d) : ∃ v, atI vs i = some v ∧ Rep K G ι v d := by
  unfold atI at h ⊢
  rw [r.length]
  cases e : ixN ds.length i with
  | none => rw [e] at h; cases h
  | some j =>
    rw [e] at h
    exact r.getD h
theorem atI_map {α β : Type} (f : α → β) (xs : List α) (i : Int) : atI (xs.map f) i = (atI xs i).map f := by
  unfold atI
  rw [List.length_map]
  cases ixN xs.length i with
  | none => rfl
  | some j => simp
theorem rop_ix : ROp P (rIx P.K) gIx := by
  intro H G ws w vx vy x y Q s r hx hy h
  obtain ⟨m, d⟩ := x
  obtain ⟨m2, d2⟩ := y
  cases d2 <;> (try (cases d <;> exact h.elim))
  rename_i i
  have ey := rv_int hy
  subst ey
  cases d <;> try exact h.elim
  · rename_i z
    have ex := rv_str hx
    subst ex
    unfold gIx at h
    dsimp only at h
    split at h
    · rename_i hz
      split at h
      · rename_i c hc
        exact .inr (.inr ⟨z, i, c, rfl, rfl, hz, hc, fz_q s r h (.str _)⟩)
      · exact h.elim
    · exact h.elim
  · rename_i ds
    obtain ⟨a, vs, rfl, _, q1, r1⟩ := rv_tup s hx
    unfold gIx at h
    dsimp only at h
    split at h
    · rename_i d hd
      obtain ⟨v, hv, rv⟩ := reps_atI r1 hd
      exact .inr (.inl ⟨a, vs, i, v, rfl, rfl, q1, hv, fz_q s r h rv⟩)
    · exact h.elim
  · rename_i ds
    obtain ⟨a, vs, rfl, q1, r1⟩ := rv_lst s hx
    unfold gIx at h
    dsimp only at h
    split at h
    · rename_i d hd
      obtain ⟨v, hv, rv⟩ := reps_atI r1 hd
      exact .inl ⟨a, vs, i, v, rfl, rfl, SqL.of q1, hv, fz_q s r h rv⟩
    · exact h.elim
  · rename_i ns
    unfold gIx at h
    dsimp only at h
    split at h
    · rename_i n hn
      have hs : ∃ a, vx = .ref a ∧ SqZ P.K G a (ns.map V.int) := by
        unfold RV at hx
        cases m with
        | fz => cases hx with | scr q => exact ⟨_, rfl, q⟩
        | nw => obtain ⟨a, _, _, _, u⟩ := hx; cases u
        | bo => obtain ⟨a, _, _, _, u⟩ := hx; cases u
        | wd => obtain ⟨a, _, _, _, u⟩ := hx; cases u
      obtain ⟨a, rfl, q⟩ := hs
      exact .inl ⟨a, ns.map V.int, i, .int n, rfl, rfl, (q.imp fun _ h => s _ _ h).sq, by rw [atI_map, hn]; rfl, fz_q s r h (.int _)⟩
    · exact h.elim
/-! ### slices -/
def cutL {α : Type} (xs : List α) (lo hi : Option Int) : List α := (xs.drop (HT.sIx xs.length 0 lo)).take (HT.sIx xs.length xs.length hi - HT.sIx xs.length 0 lo)
theorem reps_cut {K : PySem.W.Frag} {G : Hp} {ι : List Addr} {vs : List V} {ds : List D} (r : Reps K G ι vs ds) (lo hi : Option Int) : Reps K G ι (cutV vs lo hi) (cutL ds lo hi) := by
  unfold cutV cutL
  rw [r.length]
  exact (r.drop _).take _
abbrev DO := Env → W → R (Option Int)
def dNo : DO := fun _ w => .ok none w
def dPart (f : DE) : DO := fun ρ w => (f ρ w).bind fun x w => match x.d with
  | .int i => .ok (some i) w
  | _ => .bad
def PostO (P : Pm) (E : Value → Option Addr → Hp → Prop) (H G : Hp) (ws : Ws) (Q : Option Int → Hp → Prop) : R (Option Int) → Prop
  | .ok b w' => ∀ H' G' ws', Nx P.K P.C G H ws G' H' ws' w' → Q b H'
  | .ex x w' => ∀ cls d H' G' ws', Nx P.K P.C G H ws G' H' ws' w' → XRel P.K P.cm G' H' (io ws') x cls d → E cls d H'
  | .bad => False
def EvO (P : Pm) (H0 : En) (Wi : WX) (te : TO) (f : DO) : Prop := ∀ σ H G ws ρ w (Q : Option Int → Hp → Prop), St P.K P.C H0 σ H G ws ρ w → PostO P (fun c d H' => Wi c d σ H') H G ws Q (f ρ w) → te σ H Q
theorem ev_no : EvO P H0 Wi tNoPart dNo := fun σ H G ws ρ w Q st h => h H G ws st.nx
theorem ev_part (ha : EvE P H0 Wi ta fa) : EvO P H0 Wi (tPart ta) (dPart fa) := by
  intro σ H G ws ρ w Q st h
  unfold dPart at h
  refine ha σ H G ws ρ w _ st ?_
  cases e : fa ρ w with
  | bad => rw [e] at h; exact h
  | ex x w' => rw [e] at h; exact h
  | ok x w' =>
    intro v H1 G1 ws1 n1 r1 k1
    rw [e] at h
    obtain ⟨m, d⟩ := x
    cases d <;> try exact h.elim
    have ex := rv_int r1
    subst ex
    exact ⟨_, rfl, h H1 G1 ws1 n1⟩
def gSl : Val → Option Int → Option Int → W → R Val := fun x lo hi w => match x.d with
  | .lst ds => .ok ⟨.nw, .lst (cutL ds lo hi)⟩ w
  | .tup ds => if HT.sIx ds.length 0 lo = 0 ∧ HT.sIx ds.length ds.length hi = ds.length then .bad else .ok (fz (.tup (cutL ds lo hi))) w
  | .str z => if z.length ≤ sizeLine then .ok (fz (.str (cutS z lo hi))) w else .bad
  | _ => .bad
def rSlA (K : PySem.W.Frag) : V → Option Int → Option Int → Hp → VK → Prop := fun x lo hi H Q => rSlL K x lo hi H Q ∨ rSlT K x lo hi H Q ∨ rSlS x lo hi H Q
theorem sl_A {X : Cx} : SlR X (rSlA X.K) := sl_list.or (sl_tup.or sl_str)
theorem sl_ok {H G : Hp} {ws : Ws} {w : W} {v : V} {x : Val} {lo hi : Option Int} {Q : VK} {E : Value → Option Addr → Hp → Prop} (s : Same G H) (r : RelW P.K P.C G H ws w) (hx : RV P.K G H ws v x) (h : PostE P E H G ws Q (gSl x lo hi w)) : rSlA P.K v lo hi H Q := by
  obtain ⟨m, d⟩ := x
  cases d <;> try exact h.elim
  · rename_i z
    have ex := rv_str hx
    subst ex
    unfold gSl at h
    dsimp only at h
    split at h
    · rename_i hz
      exact .inr (.inr ⟨z, rfl, hz, fz_q s r h (.str _)⟩)
    · exact h.elim
  · rename_i ds
    obtain ⟨a, vs, rfl, _, q1, r1⟩ := rv_tup s hx
    unfold gSl at h
    dsimp only at h
    split at h
    · exact h.elim
    · rename_i hn
      exact .inr (.inl ⟨a, vs, rfl, q1, by rw [r1.length]; exact hn, fun p hp => tup_q s r h hp (reps_cut r1 lo hi)⟩)
  · rename_i ds
    obtain ⟨a, vs, rfl, q1, r1⟩ := rv_lst s hx
    exact .inl ⟨a, vs, rfl, SqL.of q1, fun p hp => nw_q s r h hp (reps_cut r1 lo hi)⟩
def dSl (fa : DE) (fl fh : DO) : DE := fun ρ w => (fa ρ w).bind fun x w1 => (fl ρ w1).bind fun lo w2 => (fh ρ w2).bind fun hi w3 => chk x w1 w3 (gSl x lo hi w3)
theorem ev_sl {tl th : TO} {fl fh : DO} (ha : EvE P H0 Wi ta fa) (hl : EvO P H0 Wi tl fl) (hh : EvO P H0 Wi th fh) : EvE P H0 Wi (tSl (rSlA P.K) ta tl th) (dSl fa fl fh) := by
  intro σ H G ws ρ w Q st h
  unfold dSl at h
  refine ha σ H G ws ρ w _ st ?_
  cases e : fa ρ w with
  | bad => rw [e] at h; exact h
  | ex x w' => rw [e] at h; exact h
  | ok x w' =>
    intro v H1 G1 ws1 n1 r1 k1
    rw [e] at h
    refine hl σ H1 G1 ws1 ρ w' _ (st.next n1) ?_
    have h : PostE P (fun c d H' => Wi c d σ H') H G ws Q ((fl ρ w').bind fun lo w2 => (fh ρ w2).bind fun hi w3 => chk x w' w3 (gSl x lo hi w3)) := h
    cases e2 : fl ρ w' with
    | bad => rw [e2] at h; exact h
    | ex y w2 => rw [e2] at h; exact PostE.after n1 h
    | ok lo w2 =>
      intro H2 G2 ws2 n2
      rw [e2] at h
      refine hh σ H2 G2 ws2 ρ w2 _ ((st.next n1).next n2) ?_
      have h : PostE P (fun c d H' => Wi c d σ H') H G ws Q ((fh ρ w2).bind fun hi w3 => chk x w' w3 (gSl x lo hi w3)) := h
      cases e3 : fh ρ w2 with
      | bad => rw [e3] at h; exact h
      | ex y w3 => rw [e3] at h; exact PostE.after (n1.trans n2) h
      | ok hi w3 =>
        intro H3 G3 ws3 n3
        rw [e3] at h
        obtain ⟨hx, h⟩ := PostE.chk h
        exact sl_ok n3.sub n3.rw (r1.move (n2.trans n3) fun z => (n2.trans n3).same n1.rw (hx z)) (PostE.after ((n1.trans n2).trans n3) h)
/-! ### tests -/
def tst (f : DE) : DT := fun ρ w => (f ρ w).bind fun x w => match x.d with
  | .bl b => .ok b w
  | _ => .bad
theorem ev_tst (ha : EvE P H0 Wi ta fa) : EvT P H0 Wi (tTest ta) (tst fa) := by
  intro σ H G ws ρ w Q st h
  unfold tst at h
  refine ha σ H G ws ρ w _ st ?_
  cases e : fa ρ w with
  | bad => rw [e] at h; exact h
  | ex x w' => rw [e] at h; exact h
  | ok x w' =>
    intro v H1 G1 ws1 n1 r1 k1
    rw [e] at h
    obtain ⟨m, d⟩ := x
    cases d <;> try exact h.elim
    have ex := rv_bl r1
    subst ex
    exact ⟨_, rfl, h H1 G1 ws1 n1⟩
theorem ev_tB (ha : EvE P H0 Wi ta fa) : EvT P H0 Wi (tB ta) (tst fa) := ev_tst ha
variable {tA tB' : TT} {fA fB : DT}
def dNot (f : DT) : DT := fun ρ w => (f ρ w).bind fun b w => .ok (!b) w
def dAnd (f g : DT) : DT := fun ρ w => (f ρ w).bind fun b w => if b then g ρ w else .ok false w
def dOr (f g : DT) : DT := fun ρ w => (f ρ w).bind fun b w => if b then .ok true w else g ρ w
theorem ev_not (ha : EvT P H0 Wi tA fA) : EvT P H0 Wi (tNot tA) (dNot fA) := by
  intro σ H G ws ρ w Q st h
  unfold dNot at h
  refine ha σ H G ws ρ w _ st ?_
  cases e : fA ρ w with
  | bad => rw [e] at h; exact h
  | ex x w' => rw [e] at h; exact h
  | ok b w' =>
    intro H1 G1 ws1 n1
    rw [e] at h
    exact h H1 G1 ws1 n1
theorem ev_and (ha : EvT P H0 Wi tA fA) (hb : EvT P H0 Wi tB' fB) : EvT P H0 Wi (tAnd tA tB') (dAnd fA fB) := by
  intro σ H G ws ρ w Q st h
  unfold dAnd at h
  refine ha σ H G ws ρ w _ st ?_
  cases e : fA ρ w with
  | bad => rw [e] at h; exact h
  | ex x w' => rw [e] at h; exact h
  | ok b w' =>
    intro H1 G1 ws1 n1
    rw [e] at h
    cases b with
    | true =>
      have h : PostT P _ H G ws Q (fB ρ w') := h
      exact hb σ H1 G1 ws1 ρ w' _ (st.next n1) (PostT.after n1 h)
    | false => exact h H1 G1 ws1 n1
theorem ev_or (ha : EvT P H0 Wi tA fA) (hb : EvT P H0 Wi tB' fB) : EvT P H0 Wi (tOr tA tB') (dOr fA fB) := by
  intro σ H G ws ρ w Q st h
  unfold dOr at h
  refine ha σ H G ws ρ w _ st ?_
  cases e : fA ρ w with
  | bad => rw [e] at h; exact h
  | ex x w' => rw [e] at h; exact h
  | ok b w' =>
    intro H1 G1 ws1 n1
    rw [e] at h
    cases b with
    | false =>
      have h : PostT P _ H G ws Q (fB ρ w') := h
      exact hb σ H1 G1 ws1 ρ w' _ (st.next n1) (PostT.after n1 h)
    | true => exact h H1 G1 ws1 n1
/-! .. as values -/
def dAndV (fa fb : DE) : DE := fun ρ w => (fa ρ w).bind fun x w => match x.d with
  | .bl true => fb ρ w
  | .bl false => .ok (fz (.bl false)) w
  | _ => .bad
def dOrV (fa fb : DE) : DE := fun ρ w => (fa ρ w).bind fun x w => match x.d with
  | .bl false => fb ρ w
  | .bl true => .ok (fz (.bl true)) w
  | _ => .bad
def dNotV (fa : DE) : DE := fun ρ w => (fa ρ w).bind fun x w => match x.d with
  | .bl b => .ok (fz (.bl (!b))) w
  | _ => .bad
theorem ev_andV (ha : EvE P H0 Wi ta fa) (hb : EvE P H0 Wi tb fb) : EvE P H0 Wi (tAndV ta tb) (dAndV fa fb) := by
  intro σ H G ws ρ w Q st h
  unfold dAndV at h
  refine ha σ H G ws ρ w _ st ?_
  cases e : fa ρ w with
  | bad => rw [e] at h; exact h
  | ex x w' => rw [e] at h; exact h
  | ok x w' =>
    intro v H1 G1 ws1 n1 r1 k1
    rw [e] at h
    obtain ⟨m, d⟩ := x
    cases d <;> try exact h.elim
    rename_i b
    have ex := rv_bl r1
    subst ex
    refine ⟨b, rfl, ?_⟩
    cases b with
    | true =>
      have h : PostE P _ H G ws Q (fb ρ w') := h
      exact iteT (hb σ H1 G1 ws1 ρ w' _ (st.next n1) (PostE.after n1 h))
    | false => exact iteF (h (.bl false) H1 G1 ws1 n1 (.bl false) fz_nw)
theorem ev_orV (ha : EvE P H0 Wi ta fa) (hb : EvE P H0 Wi tb fb) : EvE P H0 Wi (tOrV ta tb) (dOrV fa fb) := by
  intro σ H G ws ρ w Q st h
  unfold dOrV at h
  refine ha σ H G ws ρ w _ st ?_
  cases e : fa ρ w with
  | bad => rw [e] at h; exact h
  | ex x w' => rw [e] at h; exact h
  | ok x w' =>
    intro v H1 G1 ws1 n1 r1 k1
    rw [e] at h
    obtain ⟨m, d⟩ := x
    cases d <;> try exact h.elim
    rename_i b
    have ex := rv_bl r1
    subst ex
    refine ⟨b, rfl, ?_⟩
    cases b with
    | false =>
      have h : PostE P _ H G ws Q (fb ρ w') := h
      exact iteF (hb σ H1 G1 ws1 ρ w' _ (st.next n1) (PostE.after n1 h))
    | true => exact iteT (h (.bl true) H1 G1 ws1 n1 (.bl true) fz_nw)
theorem ev_notV (ha : EvE P H0 Wi ta fa) : EvE P H0 Wi (tNotV ta) (dNotV fa) := by
  intro σ H G ws ρ w Q st h
  unfold dNotV at h
  refine ha σ H G ws ρ w _ st ?_
  cases e : fa ρ w with
  | bad => rw [e] at h; exact h
  | ex x w' => rw [e] at h; exact h
  | ok x w' =>
    intro v H1 G1 ws1 n1 r1 k1
    rw [e] at h
    obtain ⟨m, d⟩ := x
    cases d <;> try exact h.elim
    rename_i b
    have ex := rv_bl r1
    subst ex
    exact ⟨b, rfl, h (.bl (!b)) H1 G1 ws1 n1 (.bl _) fz_nw⟩
def dIf (c : DT) (fa fb : DE) : DE := fun ρ w => (c ρ w).bind fun b w => if b then fa ρ w else fb ρ w
theorem ev_if (hc : EvT P H0 Wi tA fA) (ha : EvE P H0 Wi ta fa) (hb : EvE P H0 Wi tb fb) : EvE P H0 Wi (tIf tA ta tb) (dIf fA fa fb) := by
  intro σ H G ws ρ w Q st h
  unfold dIf at h
  refine hc σ H G ws ρ w _ st ?_
  cases e : fA ρ w with
  | bad => rw [e] at h; exact h
  | ex x w' => rw [e] at h; exact h
  | ok b w' =>
    intro H1 G1 ws1 n1
    rw [e] at h
    cases b with
    | true =>
      have h : PostE P _ H G ws Q (fa ρ w') := h
      exact iteT (ha σ H1 G1 ws1 ρ w' _ (st.next n1) (PostE.after n1 h))
    | false =>
      have h : PostE P _ H G ws Q (fb ρ w') := h
      exact iteF (hb σ H1 G1 ws1 ρ w' _ (st.next n1) (PostE.after n1 h))
end
end DL

namespace DL
open PySem L2
section
variable {P : Pm} {H0 : En} {Wi : WX} {ta tb tc : TE} {fa fb fc : DE} {tr : TA} {fr : DA}
/-! ### arguments -/
def dNil : DA := fun _ w => .ok [] w
def dOne (f : DE) : DA := fun ρ w => (f ρ w).bind fun x w => .ok [x] w
def dCons (f : DE) (fs : DA) : DA := fun ρ w => (f ρ w).bind fun x w1 => (fs ρ w1).bind fun xs w2 => chk x w1 w2 (.ok (x :: xs) w2)
theorem ev_nil : EvA P H0 Wi tNil dNil := fun σ H G ws ρ w Q st h => h [] H G ws st.nx .nil trivial
theorem ev_one (ha : EvE P H0 Wi ta fa) : EvA P H0 Wi (tCons ta tNil) (dOne fa) := by
  intro σ H G ws ρ w Q st h
  unfold dOne at h
  refine ha σ H G ws ρ w _ st ?_
  cases e : fa ρ w with
  | bad => rw [e] at h; exact h
  | ex x w' => rw [e] at h; exact h
  | ok x w' =>
    intro v H1 G1 ws1 n1 r1 k1
    rw [e] at h
    exact h [v] H1 G1 ws1 n1 (.cons r1 .nil) ⟨k1, fun _ i y e => by simp at e, trivial⟩
theorem ev_cons (ha : EvE P H0 Wi ta fa) (hr : EvA P H0 Wi tr fr) : EvA P H0 Wi (tCons ta tr) (dCons fa fr) := by
  intro σ H G ws ρ w Q st h
  unfold dCons at h
  refine ha σ H G ws ρ w _ st ?_
  cases e : fa ρ w with
  | bad => rw [e] at h; exact h
  | ex x w' => rw [e] at h; exact h
  | ok x w' =>
    intro v H1 G1 ws1 n1 r1 k1
    rw [e] at h
    have h : PostA P (fun c d H' => Wi c d σ H') H G ws Q ((fr ρ w').bind fun xs w2 => chk x w' w2 (.ok (x :: xs) w2)) := h
    refine hr σ H1 G1 ws1 ρ w' _ (st.next n1) ?_
    cases e2 : fr ρ w' with
    | bad => rw [e2] at h; exact h
    | ex y w2 => rw [e2] at h; exact PostA.after n1 h
    | ok xs w2 =>
      intro vs H2 G2 ws2 n2 r2 k2
      rw [e2] at h
      obtain ⟨hx, h⟩ := PostA.chk h
      refine h (v :: vs) H2 G2 ws2 (n1.trans n2) (.cons (r1.move n2 fun z => n2.same n1.rw (hx z)) r2) ⟨k1, fun hm i y hy hym z => ?_, newsOk_back n1 k2⟩
      -- the first stands in H1; the later ones are new there
      have ha1 : ∃ a, v = .ref a ∧ (H1 a).isSome = true := by
        obtain ⟨m, d⟩ := x
        simp only at hm
        subst hm
        obtain ⟨a, e, _, _, u⟩ := r1
        obtain ⟨o, ho, _⟩ := u.there
        exact ⟨a, e, by rw [ho]; rfl⟩
      obtain ⟨a, rfl, hs⟩ := ha1
      have go : ∀ {vs : List V} {xs : List Val} (i : Nat), NewsOk H1 vs xs → xs[i]? = some y → vs[i]? = some (.ref a) → H1 a = none := by
        intro vs
        induction vs with
        | nil => intro xs i _ _ e; simp at e
        | cons u us ih =>
          intro xs i k hy hv
          cases xs with
          | nil => simp at hy
          | cons z zs =>
            cases i with
            | zero =>
              simp at hy hv
              subst hy hv
              exact k.1 hym a rfl
            | succ i => exact ih i k.2.2 (by simpa using hy) (by simpa using hv)
      rw [go i k2 hy z] at hs
      cases hs
/-! ### freezing what is new -/
def frzD : List Val → Option (List D)
  | [] => some []
  | x :: xs => match x.m, frzD xs with
    | .fz, some ds => some (x.d :: ds)
    | .nw, some ds => some (x.d :: ds)
    | _, _ => none
theorem Unf.rep {K : PySem.W.Frag} {G H : Hp} {ι : List Addr} {a : Addr} {d : D} (u : Unf K G H ι a d) (g : G a = none) : ∃ o, H a = some o ∧ Rep K (upd G a o) ι (.ref a) d := by
  have sg : ∀ o, Same G (upd G a o) := fun o b v e => by rw [upd_ne (ne_of_none e g)]; exact e
  cases u with
  | lst q r => exact ⟨_, q, .lst upd_same (r.mono (sg _) (List.prefix_refl _))⟩
  | dK q k r => exact ⟨_, q, .dK upd_same k (r.mono (sg _) (List.prefix_refl _))⟩
  | dT q k r => exact ⟨_, q, .dT upd_same k (r.mono (sg _) (List.prefix_refl _))⟩
theorem Nx.freeze {K : PySem.W.Frag} {C : Addr} {G H G' H' : Hp} {ws ws' : Ws} {w' : W} {a : Addr} {o : HO} (n : Nx K C G H ws G' H' ws' w') (ha : H a = none) (h : H' a = some o) (g : G' a = none) (nr : a ∉ regs ws') : Nx K C G H ws (upd G' a o) H' ws' w' := by
  have sg : Same G' (upd G' a o) := fun b v e => by rw [upd_ne (ne_of_none e g)]; exact e
  refine ⟨n.gg.trans sg, fun b v e => ?_, ⟨paired_imp n.rw.obs fun q o hq ⟨e, p⟩ => ⟨e, paired_imp p fun x y hx ⟨e, f⟩ => ⟨e, f.move sg (List.prefix_refl _) fun _ _ _ h => h⟩⟩, n.rw.nn, n.rw.nd, fun b hb => ?_⟩, n.keep, n.alive, fun b hb gb => ?_, n.io, n.fresh, n.le, n.qt⟩
  · by_cases hb : b = a
    · subst hb; rw [upd_same] at e; cases e; exact h
    · rw [upd_ne hb] at e; exact n.sub _ _ e
  · have hne : b ≠ a := fun e => nr (by rw [← e]; exact hb)
    rw [upd_ne hne]; exact n.rw.out b hb
  · have hne : b ≠ a := fun e => by rw [e, ha] at hb; cases hb
    rw [upd_ne hne]; exact n.nocap b hb gb
theorem RV.gmono {K : PySem.W.Frag} {G G' H : Hp} {ws : Ws} {v : V} {x : Val} (h : RV K G H ws v x) (g : Same G G') (hn : x.m ≠ .fz → ∀ a, v = .ref a → G a = none → G' a = none) : RV K G' H ws v x := by
  obtain ⟨m, d⟩ := x
  unfold RV at h ⊢
  cases m with
  | fz => exact Rep.mono g (List.prefix_refl _) h
  | nw => obtain ⟨a, e, ga, nr, u⟩ := h; exact ⟨a, e, hn (by intro z; cases z) a e ga, nr, u.move g (List.prefix_refl _) fun _ h => h⟩
  | bo => obtain ⟨a, e, ga, nr, u⟩ := h; exact ⟨a, e, hn (by intro z; cases z) a e ga, nr, u.move g (List.prefix_refl _) fun _ h => h⟩
  | wd => obtain ⟨a, e, ga, nr, u⟩ := h; exact ⟨a, e, hn (by intro z; cases z) a e ga, nr, u.move g (List.prefix_refl _) fun _ h => h⟩
/-- one value frozen -/
theorem freeze1 {K : PySem.W.Frag} {C : Addr} {G H G' H' : Hp} {ws ws' : Ws} {w' : W} {v : V} {x : Val} (n : Nx K C G H ws G' H' ws' w') (r : RV K G' H' ws' v x) (k : NewOk H v x) (hm : x.m = .fz ∨ x.m = .nw) :
    ∃ G2, Same G' G2 ∧ Nx K C G H ws G2 H' ws' w' ∧ Rep K G2 (io ws') v x.d ∧ (∀ b, (x.m = .nw → v ≠ .ref b) → G' b = none → G2 b = none) := by
  obtain ⟨m, d⟩ := x
  rcases hm with z | z
  · simp only at z; subst z
    exact ⟨G', fun _ _ h => h, n, r, fun _ _ h => h⟩
  · simp only at z; subst z
    obtain ⟨a, rfl, ga, nr, u⟩ := r
    obtain ⟨o, ho, rp⟩ := u.rep ga
    refine ⟨upd G' a o, fun b v e => by rw [upd_ne (ne_of_none e ga)]; exact e, n.freeze (k rfl a rfl) ho ga nr, rp, fun b hb gb => ?_⟩
    rw [upd_ne (fun e => hb rfl (by rw [e]))]; exact gb
theorem freezeAll {K : PySem.W.Frag} {C : Addr} {G H : Hp} {ws ws' : Ws} {w' : W} {H' : Hp} : ∀ {vs : List V} {xs : List Val} {ds : List D} {G' : Hp}, Nx K C G H ws G' H' ws' w' → RVs K G' H' ws' vs xs → NewsOk H vs xs → frzD xs = some ds →
    ∃ G2, Same G' G2 ∧ Nx K C G H ws G2 H' ws' w' ∧ Reps K G2 (io ws') vs ds
  | _, _, ds, G', n, .nil, _, e => by
    simp [frzD] at e
    subst e
    exact ⟨G', fun _ _ h => h, n, .nil⟩
  | _, _, ds, G', n, .cons (v := v) (x := x) (vs := vs) (xs := xs) r rs, k, e => by
    obtain ⟨m, d⟩ := x
    have hz : ∃ ds', frzD xs = some ds' ∧ ds = d :: ds' ∧ (m = .fz ∨ m = .nw) := by
      unfold frzD at e
      cases q : frzD xs with
      | none => rw [q] at e; cases m <;> cases e
      | some ds' => rw [q] at e; cases m <;> first | (cases e; exact ⟨ds', rfl, rfl, .inl rfl⟩) | (cases e; exact ⟨ds', rfl, rfl, .inr rfl⟩) | cases e
    obtain ⟨ds', e1, rfl, hm⟩ := hz
    obtain ⟨G2, s2, n2, r2, f2⟩ := freeze1 n r k.1 hm
    have go : ∀ {vs : List V} {xs : List Val}, RVs K G' H' ws' vs xs → (m = .nw → ∀ (i : Nat) y, xs[i]? = some y → y.m = .nw → vs[i]? ≠ some v) → (frzD xs).isSome = true → RVs K G2 H' ws' vs xs := by
      intro vs xs rs
      induction rs with
      | nil => intro _ _; exact .nil
      | @cons u y us ys ru rus ih =>
        intro hd hf
        have hfy : (y.m = .fz ∨ y.m = .nw) ∧ (frzD ys).isSome = true := by
          unfold frzD at hf
          obtain ⟨my, dy⟩ := y
          cases q : frzD ys with
          | none => rw [q] at hf; cases my <;> cases hf
          | some _ => rw [q] at hf; cases my <;> first | exact ⟨.inl rfl, rfl⟩ | exact ⟨.inr rfl, rfl⟩ | cases hf
        refine .cons (ru.gmono s2 fun hy a ea ga => f2 a (fun hm2 ev => ?_) ga) (ih (fun hm2 i z hz => by simpa using hd hm2 (i + 1) z (by simpa using hz)) hfy.2)
        have hyn : y.m = .nw := by rcases hfy.1 with z | z; exact absurd z hy; exact z
        exact hd hm2 0 y rfl hyn (by simp [ea, ev])
    have rs2 := go rs k.2.1 (by rw [e1]; rfl)
    obtain ⟨G3, s3, n3, r3⟩ := freezeAll n2 rs2 k.2.2 e1
    exact ⟨G3, s2.trans s3, n3, .cons (r2.mono s3 (List.prefix_refl _)) r3⟩
/-! ### displays -/
def dTup (fs : DA) : DE := fun ρ w => (fs ρ w).bind fun xs w => match frzD xs with
  | some ds => if ds.length ≤ sizeLine then .ok (fz (.tup ds)) w else .bad
  | none => .bad
def dLst (fs : DA) : DE := fun ρ w => (fs ρ w).bind fun xs w => match frzD xs with
  | some ds => if ds.length ≤ sizeLine then .ok ⟨.nw, .lst ds⟩ w else .bad
  | none => .bad
theorem ev_tup (h : EvA P H0 Wi tr fr) : EvE P H0 Wi (tTup tr) (dTup fr) := by
  intro σ H G ws ρ w Q st hq
  unfold dTup at hq
  refine h σ H G ws ρ w _ st ?_
  cases e : fr ρ w with
  | bad => rw [e] at hq; exact hq
  | ex x w' => rw [e] at hq; exact hq
  | ok xs w' =>
    intro vs H1 G1 ws1 n1 r1 k1
    rw [e] at hq
    have hq : PostE P _ H G ws Q (match frzD xs with | some ds => if ds.length ≤ sizeLine then .ok (fz (.tup ds)) w' else .bad | none => .bad) := hq
    cases e2 : frzD xs with
    | none => rw [e2] at hq; exact hq.elim
    | some ds =>
      rw [e2] at hq
      dsimp only at hq
      split at hq
      · rename_i hl
        obtain ⟨G2, s2, n2, r2⟩ := freezeAll n1 r1 k1 e2
        exact ⟨by rw [r2.length]; exact hl, fun p hp => tup_q n2.sub n2.rw (PostE.after n2 hq) hp r2⟩
      · exact hq.elim
theorem ev_lst (h : EvA P H0 Wi tr fr) : EvE P H0 Wi (tLst tr) (dLst fr) := by
  intro σ H G ws ρ w Q st hq
  unfold dLst at hq
  refine h σ H G ws ρ w _ st ?_
  cases e : fr ρ w with
  | bad => rw [e] at hq; exact hq
  | ex x w' => rw [e] at hq; exact hq
  | ok xs w' =>
    intro vs H1 G1 ws1 n1 r1 k1
    rw [e] at hq
    have hq : PostE P _ H G ws Q (match frzD xs with | some ds => if ds.length ≤ sizeLine then .ok ⟨.nw, .lst ds⟩ w' else .bad | none => .bad) := hq
    cases e2 : frzD xs with
    | none => rw [e2] at hq; exact hq.elim
    | some ds =>
      rw [e2] at hq
      dsimp only at hq
      split at hq
      · rename_i hl
        obtain ⟨G2, s2, n2, r2⟩ := freezeAll n1 r1 k1 e2
        exact ⟨by rw [r2.length]; exact hl, fun p hp => nw_q n2.sub n2.rw (PostE.after n2 hq) hp r2⟩
      · exact hq.elim
/-! ### a < b < c -/
def dChain (g g' : Val → Val → W → R Val) (fa fb fc : DE) : DE := fun ρ w => (fa ρ w).bind fun x w1 => (fb ρ w1).bind fun y w2 => chk x w1 w2 ((g x y w2).bind fun z w3 => match z.d with
  | .bl true => (fc ρ w3).bind fun u w4 => chk y w2 w4 (g' y u w4)
  | .bl false => .ok (fz (.bl false)) w3
  | _ => .bad)
theorem ev_chain {r r' : R2} {g g' : Val → Val → W → R Val} (ha : EvE P H0 Wi ta fa) (hb : EvE P H0 Wi tb fb) (hc : EvE P H0 Wi tc fc) (hr : ROp P r g) (hr' : ROp P r' g') (hn : ∀ x y w e w', g x y w ≠ .ex e w') (hn' : ∀ x y w e w', g' x y w ≠ .ex e w') : EvE P H0 Wi (tChain r r' ta tb tc) (dChain g g' fa fb fc) := by
  intro σ H G ws ρ w Q st h
  unfold dChain at h
  refine ha σ H G ws ρ w _ st ?_
  cases e : fa ρ w with
  | bad => rw [e] at h; exact h
  | ex x w' => rw [e] at h; exact h
  | ok x w' =>
    intro v H1 G1 ws1 n1 r1 k1
    rw [e] at h
    refine hb σ H1 G1 ws1 ρ w' _ (st.next n1) ?_
    have h : PostE P (fun c d H' => Wi c d σ H') H G ws Q ((fb ρ w').bind fun y w2 => chk x w' w2 ((g x y w2).bind fun z w3 => match z.d with
      | .bl true => (fc ρ w3).bind fun u w4 => chk y w2 w4 (g' y u w4)
      | .bl false => .ok (fz (.bl false)) w3
      | _ => .bad)) := h
    cases e2 : fb ρ w' with
    | bad => rw [e2] at h; exact h
    | ex y w2 => rw [e2] at h; exact PostE.after n1 h
    | ok y w2 =>
      intro v2 H2 G2 ws2 n2 r2 k2
      rw [e2] at h
      obtain ⟨hx, h⟩ := PostE.chk h
      refine hr H2 G2 ws2 w2 v v2 x y _ n2.sub n2.rw (r1.move n2 fun z => n2.same n1.rw (hx z)) r2 ?_
      cases e3 : g x y w2 with
      | bad => rw [e3] at h; exact h
      | ex z w3 => exact absurd e3 (hn _ _ _ _ _)
      | ok z w3 =>
        intro v3 H3 G3 ws3 n3 r3 k3
        rw [e3] at h
        obtain ⟨mz, dz⟩ := z
        cases dz <;> try exact h.elim
        rename_i b
        have ez := rv_bl r3
        subst ez
        have n13 := (n1.trans n2).trans n3
        refine ⟨b, rfl, ?_⟩
        cases b with
        | false => exact iteF (h (.bl false) H3 G3 ws3 n13 (.bl false) fz_nw)
        | true =>
          refine iteT ?_
          have h : PostE P (fun c d H' => Wi c d σ H') H G ws Q ((fc ρ w3).bind fun u w4 => chk y w2 w4 (g' y u w4)) := h
          refine hc σ H3 G3 ws3 ρ w3 _ (st.next n13) ?_
          cases e4 : fc ρ w3 with
          | bad => rw [e4] at h; exact h
          | ex u w4 => rw [e4] at h; exact PostE.after n13 h
          | ok u w4 =>
            intro v4 H4 G4 ws4 n4 r4 k4
            rw [e4] at h
            obtain ⟨hy, h⟩ := PostE.chk h
            exact hr' H4 G4 ws4 w4 v2 v4 y u Q n4.sub n4.rw (r2.move (n3.trans n4) fun z => (n3.trans n4).same n2.rw (hy z)) r4 ((PostE.after (n13.trans n4) h).noex fun _ _ => hn' _ _ _ _ _)
end
end DL

namespace DL
open PySem L2
section
variable {P : Pm} {H0 : En} {Wi : WX}
theorem rvs1 {K : PySem.W.Frag} {G H : Hp} {ws : Ws} {vs : List V} {x : Val} (h : RVs K G H ws vs [x]) : ∃ v, vs = [v] ∧ RV K G H ws v x := by
  cases h with
  | cons a b => cases b; exact ⟨_, rfl, a⟩
theorem rvs2 {K : PySem.W.Frag} {G H : Hp} {ws : Ws} {vs : List V} {x y : Val} (h : RVs K G H ws vs [x, y]) : ∃ v u, vs = [v, u] ∧ RV K G H ws v x ∧ RV K G H ws u y := by
  cases h with
  | cons a b => cases b with | cons c d => cases d; exact ⟨_, _, rfl, a, c⟩
/-! len -/
def gLen : List Val → W → R Val := fun xs w => match xs with
  | [x] => match x.d with
    | .lst ds => .ok (fz (.int ds.length)) w
    | .tup ds => .ok (fz (.int ds.length)) w
    | .scr ns => .ok (fz (.int ns.length)) w
    | .str z => if z.length ≤ sizeLine then .ok (fz (.int z.length)) w else .bad
    | _ => .bad
  | _ => .bad
def rLenA (K : PySem.W.Frag) : List V → Hp → VK → Prop := fun xs H Q => ∃ x n, xs = [x] ∧ LenV K x H n ∧ Q (.int n) H
theorem rv_scr {K : PySem.W.Frag} {G H : Hp} {ws : Ws} {v : V} {m : Md} {ns : List Int} (s : Same G H) (hx : RV K G H ws v ⟨m, .scr ns⟩) : ∃ a, v = .ref a ∧ SqZ K H a (ns.map V.int) := by
  unfold RV at hx
  cases m with
  | fz => cases hx with | scr q => exact ⟨_, rfl, q.imp fun _ h => s _ _ h⟩
  | nw => obtain ⟨a, _, _, _, u⟩ := hx; cases u
  | bo => obtain ⟨a, _, _, _, u⟩ := hx; cases u
  | wd => obtain ⟨a, _, _, _, u⟩ := hx; cases u
theorem gLen_nx (x : List Val) (w : W) (e : Xc) (w' : W) : gLen x w ≠ .ex e w' := by
  unfold gLen
  split <;> (try split) <;> (try split) <;> exact fun h => nomatch h
theorem rc_len : RCall P (rLenA P.K) gLen := by
  intro H G ws w vs xs Q s r hx h
  match xs, hx, h with
  | [⟨m, d⟩], hx, h =>
    obtain ⟨v, rfl, hv⟩ := rvs1 hx
    cases d <;> try exact h.elim
    · rename_i z
      have e := rv_str hv
      subst e
      unfold gLen at h
      dsimp only at h
      split at h
      · rename_i hz
        exact ⟨_, z.length, rfl, ⟨hz, rfl⟩, fz_q s r h (.int _)⟩
      · exact h.elim
    · obtain ⟨a, vs, rfl, _, q1, r1⟩ := rv_tup s hv
      exact ⟨_, vs.length, rfl, .inr ⟨vs, q1, rfl⟩, fz_q s r h (by rw [r1.length]; exact .int _)⟩
    · obtain ⟨a, vs, rfl, q1, r1⟩ := rv_lst s hv
      exact ⟨_, vs.length, rfl, .inl ⟨vs, SqL.of q1, rfl⟩, fz_q s r h (by rw [r1.length]; exact .int _)⟩
    · rename_i ns
      obtain ⟨a, rfl, q⟩ := rv_scr s hv
      exact ⟨_, _, rfl, .inl ⟨_, q.sq, rfl⟩, fz_q s r h (by rw [List.length_map]; exact .int _)⟩
/-! max(a, b), min(a, b) -/
def gMax2 : List Val → W → R Val := fun xs w => match xs with
  | [x, y] => match x.d, y.d with
    | .int i, .int j => .ok (fz (.int (if j > i then j else i))) w
    | _, _ => .bad
  | _ => .bad
def gMin2 : List Val → W → R Val := fun xs w => match xs with
  | [x, y] => match x.d, y.d with
    | .int i, .int j => .ok (fz (.int (if j < i then j else i))) w
    | _, _ => .bad
  | _ => .bad
theorem gMax2_nx (x : List Val) (w : W) (e : Xc) (w' : W) : gMax2 x w ≠ .ex e w' := by
  unfold gMax2
  split <;> (try split) <;> exact fun h => nomatch h
theorem gMin2_nx (x : List Val) (w : W) (e : Xc) (w' : W) : gMin2 x w ≠ .ex e w' := by
  unfold gMin2
  split <;> (try split) <;> exact fun h => nomatch h
theorem rc_max2 : RCall P (fun xs H Q => ∃ i j, xs = [.int i, .int j] ∧ Q (.int (if j > i then j else i)) H) gMax2 := by
  intro H G ws w vs xs Q s r hx h
  match xs, hx, h with
  | [⟨m, d⟩, ⟨m2, d2⟩], hx, h =>
    obtain ⟨v, u, rfl, hv, hu⟩ := rvs2 hx
    cases d <;> try exact h.elim
    cases d2 <;> try exact h.elim
    have e := rv_int hv
    have e2 := rv_int hu
    subst e e2
    exact ⟨_, _, rfl, fz_q s r h (.int _)⟩
theorem rc_min2 : RCall P (fun xs H Q => ∃ i j, xs = [.int i, .int j] ∧ Q (.int (if j < i then j else i)) H) gMin2 := by
  intro H G ws w vs xs Q s r hx h
  match xs, hx, h with
  | [⟨m, d⟩, ⟨m2, d2⟩], hx, h =>
    obtain ⟨v, u, rfl, hv, hu⟩ := rvs2 hx
    cases d <;> try exact h.elim
    cases d2 <;> try exact h.elim
    have e := rv_int hv
    have e2 := rv_int hu
    subst e e2
    exact ⟨_, _, rfl, fz_q s r h (.int _)⟩
/-! lists of one kind -/
def intsOf : List D → Option (List Int)
  | [] => some []
  | .int i :: r => (intsOf r).map (i :: ·)
  | _ :: _ => none
def blsOf : List D → Option (List Bool)
  | [] => some []
  | .bl i :: r => (blsOf r).map (i :: ·)
  | _ :: _ => none
def strsOf : List D → Option (List Str)
  | [] => some []
  | .str i :: r => (strsOf r).map (i :: ·)
  | _ :: _ => none
theorem intsOf_eq : ∀ {ds : List D} {ns : List Int}, intsOf ds = some ns → ds = ns.map .int
  | [], _, h => by simp [intsOf] at h; subst h; rfl
  | d :: r, ns, h => by
    cases d <;> try (simp [intsOf] at h; done)
    simp only [intsOf, Option.map_eq_some_iff] at h
    obtain ⟨a, h1, h2⟩ := h
    subst h2
    rw [intsOf_eq h1]; rfl
theorem blsOf_eq : ∀ {ds : List D} {ns : List Bool}, blsOf ds = some ns → ds = ns.map .bl
  | [], _, h => by simp [blsOf] at h; subst h; rfl
  | d :: r, ns, h => by
    cases d <;> try (simp [blsOf] at h; done)
    simp only [blsOf, Option.map_eq_some_iff] at h
    obtain ⟨a, h1, h2⟩ := h
    subst h2
    rw [blsOf_eq h1]; rfl
theorem strsOf_eq : ∀ {ds : List D} {ns : List Str}, strsOf ds = some ns → ds = ns.map .str
  | [], _, h => by simp [strsOf] at h; subst h; rfl
  | d :: r, ns, h => by
    cases d <;> try (simp [strsOf] at h; done)
    simp only [strsOf, Option.map_eq_some_iff] at h
    obtain ⟨a, h1, h2⟩ := h
    subst h2
    rw [strsOf_eq h1]; rfl
theorem intsOf_map : ∀ ns : List Int, intsOf (ns.map .int) = some ns
  | [] => rfl
  | n :: r => by rw [List.map_cons, intsOf, intsOf_map r]; rfl
theorem blsOf_map : ∀ ns : List Bool, blsOf (ns.map .bl) = some ns
  | [] => rfl
  | n :: r => by rw [List.map_cons, blsOf, blsOf_map r]; rfl
theorem strsOf_map : ∀ ns : List Str, strsOf (ns.map .str) = some ns
  | [] => rfl
  | n :: r => by rw [List.map_cons, strsOf, strsOf_map r]; rfl
def onL (x : Val) (g : List D → R Val) : R Val := match x.d with
  | .lst ds => g ds
  | _ => .bad
def maxI : List Int → Int
  | [] => 0
  | a :: r => r.foldl (fun m x => if x > m then x else m) a
def minI : List Int → Int
  | [] => 0
  | a :: r => r.foldl (fun m x => if x < m then x else m) a
theorem maxI_spec : ∀ (r : List Int) (a : Int), (r.foldl (fun m x => if x > m then x else m) a) ∈ a :: r ∧ ∀ y ∈ a :: r, y ≤ r.foldl (fun m x => if x > m then x else m) a
  | [], a => ⟨List.mem_cons_self, fun y h => by simp at h; subst h; exact Int.le_refl _⟩
  | b :: r, a => by
    rw [List.foldl_cons]
    by_cases h : b > a
    · rw [if_pos h]
      obtain ⟨h1, h2⟩ := maxI_spec r b
      refine ⟨List.mem_cons_of_mem _ h1, fun y hy => ?_⟩
      rcases List.mem_cons.mp hy with rfl | hy
      · have := h2 b List.mem_cons_self; omega
      · exact h2 y hy
    · rw [if_neg h]
      obtain ⟨h1, h2⟩ := maxI_spec r a
      refine ⟨?_, fun y hy => ?_⟩
      · rcases List.mem_cons.mp h1 with z | z
        · rw [z]; exact List.mem_cons_self
        · exact List.mem_cons_of_mem _ (List.mem_cons_of_mem _ z)
      · rcases List.mem_cons.mp hy with rfl | hy
        · exact h2 _ List.mem_cons_self
        · rcases List.mem_cons.mp hy with rfl | hy
          · have := h2 a List.mem_cons_self; omega
          · exact h2 y (List.mem_cons_of_mem _ hy)
theorem minI_spec : ∀ (r : List Int) (a : Int), (r.foldl (fun m x => if x < m then x else m) a) ∈ a :: r ∧ ∀ y ∈ a :: r, r.foldl (fun m x => if x < m then x else m) a ≤ y
  | [], a => ⟨List.mem_cons_self, fun y h => by simp at h; subst h; exact Int.le_refl _⟩
  | b :: r, a => by
    rw [List.foldl_cons]
    by_cases h : b < a
    · rw [if_pos h]
      obtain ⟨h1, h2⟩ := minI_spec r b
      refine ⟨List.mem_cons_of_mem _ h1, fun y hy => ?_⟩
      rcases List.mem_cons.mp hy with rfl | hy
      · have := h2 b List.mem_cons_self; omega
      · exact h2 y hy
    · rw [if_neg h]
      obtain ⟨h1, h2⟩ := minI_spec r a
      refine ⟨?_, fun y hy => ?_⟩
      · rcases List.mem_cons.mp h1 with z | z
        · rw [z]; exact List.mem_cons_self
        · exact List.mem_cons_of_mem _ (List.mem_cons_of_mem _ z)
      · rcases List.mem_cons.mp hy with rfl | hy
        · exact h2 _ List.mem_cons_self
        · rcases List.mem_cons.mp hy with rfl | hy
          · have := h2 a List.mem_cons_self; omega
          · exact h2 y (List.mem_cons_of_mem _ hy)
def gMaxL : List Val → W → R Val := fun xs w => match xs with
  | [x] => onL x fun ds => match intsOf ds with
    | some (n :: r) => .ok (fz (.int (maxI (n :: r)))) w
    | _ => .bad
  | _ => .bad
def gMinL : List Val → W → R Val := fun xs w => match xs with
  | [x] => onL x fun ds => match intsOf ds with
    | some (n :: r) => .ok (fz (.int (minI (n :: r)))) w
    | _ => .bad
  | _ => .bad
def gSum : List Val → W → R Val := fun xs w => match xs with
  | [x] => onL x fun ds => match intsOf ds with
    | some ns => .ok (fz (.int ns.sum)) w
    | _ => .bad
  | _ => .bad
def gAll : List Val → W → R Val := fun xs w => match xs with
  | [x] => onL x fun ds => match blsOf ds with
    | some bs => .ok (fz (.bl (bs.all id))) w
    | _ => .bad
  | _ => .bad
def gAny : List Val → W → R Val := fun xs w => match xs with
  | [x] => onL x fun ds => match blsOf ds with
    | some bs => .ok (fz (.bl (bs.any id))) w
    | _ => .bad
  | _ => .bad
theorem gMaxL_nx (x : List Val) (w : W) (e : Xc) (w' : W) : gMaxL x w ≠ .ex e w' := by
  unfold gMaxL onL
  split <;> (try dsimp only) <;> (try split) <;> (try dsimp only) <;> (try split) <;> exact fun h => nomatch h
theorem gMinL_nx (x : List Val) (w : W) (e : Xc) (w' : W) : gMinL x w ≠ .ex e w' := by
  unfold gMinL onL
  split <;> (try dsimp only) <;> (try split) <;> (try dsimp only) <;> (try split) <;> exact fun h => nomatch h
theorem gSum_nx (x : List Val) (w : W) (e : Xc) (w' : W) : gSum x w ≠ .ex e w' := by
  unfold gSum onL
  split <;> (try dsimp only) <;> (try split) <;> (try dsimp only) <;> (try split) <;> exact fun h => nomatch h
theorem gAll_nx (x : List Val) (w : W) (e : Xc) (w' : W) : gAll x w ≠ .ex e w' := by
  unfold gAll onL
  split <;> (try dsimp only) <;> (try split) <;> (try dsimp only) <;> (try split) <;> exact fun h => nomatch h
theorem gAny_nx (x : List Val) (w : W) (e : Xc) (w' : W) : gAny x w ≠ .ex e w' := by
  unfold gAny onL
  split <;> (try dsimp only) <;> (try split) <;> (try dsimp only) <;> (try split) <;> exact fun h => nomatch h
theorem rc_max : RCall P (rMax P.K) gMaxL := by
  intro H G ws w vs xs Q s r hx h
  match xs, hx, h with
  | [⟨m, d⟩], hx, h =>
    obtain ⟨v, rfl, hv⟩ := rvs1 hx
    cases d <;> try exact h.elim
    rename_i ds
    obtain ⟨a, vs, rfl, q1, r1⟩ := rv_lst s hv
    unfold gMaxL onL at h
    dsimp only at h
    split at h
    · rename_i n l hn
      rw [intsOf_eq hn] at r1
      rw [r1.of_ints] at q1
      refine ⟨a, n :: l, rfl, SqL.of q1, by simp, fun m hm hl => ?_⟩
      have sp := maxI_spec l n
      have : m = maxI (n :: l) := Int.le_antisymm (sp.2 m hm) (hl _ sp.1)
      rw [this]
      exact fz_q s r h (.int _)
    · exact h.elim
theorem rc_min : RCall P (rMin P.K) gMinL := by
  intro H G ws w vs xs Q s r hx h
  match xs, hx, h with
  | [⟨m, d⟩], hx, h =>
    obtain ⟨v, rfl, hv⟩ := rvs1 hx
    cases d <;> try exact h.elim
    rename_i ds
    obtain ⟨a, vs, rfl, q1, r1⟩ := rv_lst s hv
    unfold gMinL onL at h
    dsimp only at h
    split at h
    · rename_i n l hn
      rw [intsOf_eq hn] at r1
      rw [r1.of_ints] at q1
      refine ⟨a, n :: l, rfl, SqL.of q1, by simp, fun m hm hl => ?_⟩
      have sp := minI_spec l n
      have : m = minI (n :: l) := Int.le_antisymm (hl _ sp.1) (sp.2 m hm)
      rw [this]
      exact fz_q s r h (.int _)
    · exact h.elim
theorem rc_sum : RCall P (rSum P.K) gSum := by
  intro H G ws w vs xs Q s r hx h
  match xs, hx, h with
  | [⟨m, d⟩], hx, h =>
    obtain ⟨v, rfl, hv⟩ := rvs1 hx
    cases d <;> try exact h.elim
    rename_i ds
    obtain ⟨a, vs, rfl, q1, r1⟩ := rv_lst s hv
    unfold gSum onL at h
    dsimp only at h
    split at h
    · rename_i ns hn
      rw [intsOf_eq hn] at r1
      rw [r1.of_ints] at q1
      exact ⟨a, ns, rfl, SqL.of q1, fz_q s r h (.int _)⟩
    · exact h.elim
theorem rc_all : RCall P (rAll P.K) gAll := by
  intro H G ws w vs xs Q s r hx h
  match xs, hx, h with
  | [⟨m, d⟩], hx, h =>
    obtain ⟨v, rfl, hv⟩ := rvs1 hx
    cases d <;> try exact h.elim
    rename_i ds
    obtain ⟨a, vs, rfl, q1, r1⟩ := rv_lst s hv
    unfold gAll onL at h
    dsimp only at h
    split at h
    · rename_i ns hn
      rw [blsOf_eq hn] at r1
      rw [r1.of_bls] at q1
      exact ⟨a, ns, rfl, SqL.of q1, fz_q s r h (.bl _)⟩
    · exact h.elim
theorem rc_any : RCall P (rAny P.K) gAny := by
  intro H G ws w vs xs Q s r hx h
  match xs, hx, h with
  | [⟨m, d⟩], hx, h =>
    obtain ⟨v, rfl, hv⟩ := rvs1 hx
    cases d <;> try exact h.elim
    rename_i ds
    obtain ⟨a, vs, rfl, q1, r1⟩ := rv_lst s hv
    unfold gAny onL at h
    dsimp only at h
    split at h
    · rename_i ns hn
      rw [blsOf_eq hn] at r1
      rw [r1.of_bls] at q1
      exact ⟨a, ns, rfl, SqL.of q1, fz_q s r h (.bl _)⟩
    · exact h.elim
/-! int(b), int(i); list(xs), list(t); tuple(xs) -/
def gInt : List Val → W → R Val := fun xs w => match xs with
  | [x] => match x.d with
    | .int i => .ok (fz (.int i)) w
    | .bl b => .ok (fz (.int (if b then 1 else 0))) w
    | _ => .bad
  | _ => .bad
theorem gInt_nx (x : List Val) (w : W) (e : Xc) (w' : W) : gInt x w ≠ .ex e w' := by
  unfold gInt
  split <;> (try split) <;> exact fun h => nomatch h
theorem rc_int : RCall P (fun xs H Q => (∃ i, xs = [.int i] ∧ Q (.int i) H) ∨ ∃ k, xs = [.bl k] ∧ Q (.int (if k then 1 else 0)) H) gInt := by
  intro H G ws w vs xs Q s r hx h
  match xs, hx, h with
  | [⟨m, d⟩], hx, h =>
    obtain ⟨v, rfl, hv⟩ := rvs1 hx
    cases d <;> try exact h.elim
    · have e := rv_bl hv
      subst e
      exact .inr ⟨_, rfl, fz_q s r h (.int _)⟩
    · have e := rv_int hv
      subst e
      exact .inl ⟨_, rfl, fz_q s r h (.int _)⟩
def gList : List Val → W → R Val := fun xs w => match xs with
  | [x] => match x.d with
    | .lst ds => .ok ⟨.nw, .lst ds⟩ w
    | .tup ds => .ok ⟨.nw, .lst ds⟩ w
    | _ => .bad
  | _ => .bad
theorem gList_nx (x : List Val) (w : W) (e : Xc) (w' : W) : gList x w ≠ .ex e w' := by
  unfold gList
  split <;> (try split) <;> exact fun h => nomatch h
theorem rc_list : RCall P (fun xs H Q => ∃ p ys, xs = [.ref p] ∧ (SqL P.K H p ys ∨ SqT P.K H p ys) ∧ ∀ l, H l = none → Q (.ref l) (upd H l (.lst ys))) gList := by
  intro H G ws w vs xs Q s r hx h
  match xs, hx, h with
  | [⟨m, d⟩], hx, h =>
    obtain ⟨v, rfl, hv⟩ := rvs1 hx
    cases d <;> try exact h.elim
    · obtain ⟨a, vs, rfl, _, q1, r1⟩ := rv_tup s hv
      exact ⟨a, vs, rfl, .inr q1, fun l hl => nw_q s r h hl r1⟩
    · obtain ⟨a, vs, rfl, q1, r1⟩ := rv_lst s hv
      exact ⟨a, vs, rfl, .inl (SqL.of q1), fun l hl => nw_q s r h hl r1⟩
def gTuple : List Val → W → R Val := fun xs w => match xs with
  | [x] => match x.d with
    | .lst ds => .ok (fz (.tup ds)) w
    | _ => .bad
  | _ => .bad
theorem gTuple_nx (x : List Val) (w : W) (e : Xc) (w' : W) : gTuple x w ≠ .ex e w' := by
  unfold gTuple
  split <;> (try split) <;> exact fun h => nomatch h
theorem rc_tuple : RCall P (fun xs H Q => ∃ p ys, xs = [.ref p] ∧ ((SqL P.K H p ys ∧ ∀ l, H l = none → Q (.ref l) (upd H l (.tup ys))) ∨ (SqT P.K H p ys ∧ Q (.ref p) H))) gTuple := by
  intro H G ws w vs xs Q s r hx h
  match xs, hx, h with
  | [⟨m, d⟩], hx, h =>
    obtain ⟨v, rfl, hv⟩ := rvs1 hx
    cases d <;> try exact h.elim
    obtain ⟨a, vs, rfl, q1, r1⟩ := rv_lst s hv
    exact ⟨a, vs, rfl, .inl ⟨SqL.of q1, fun l hl => tup_q s r h hl r1⟩⟩
/-! isinstance(x, T), T a built-in class -/
def tyD : D → String
  | .non => "NoneType" | .bl _ => "bool" | .int _ => "int" | .str _ => "str" | .tup _ => "tuple" | .lst _ => "list" | .scr _ => "list" | .dK _ => "dict" | .dT _ => "dict" | .obj _ => ""
def gIsi (T : String) : Val → W → R Val := fun x w => match kitB (tyD x.d) T with
  | some b => .ok (fz (.bl b)) w
  | none => .bad
end
end DL

namespace DL
open PySem L2
/-! ### statements -/
inductive Out where
  | next (ρ : Env) (w : W) | ret (x : Val) (w : W) | brk (ρ : Env) (w : W) | cont (ρ : Env) (w : W) | ex (x : Xc) (ρ : Env) (w : W) | bad
abbrev DS := Env → W → Out
/-- what was frozen stays so -/
def Mon (G : Hp) (ws : Ws) (G' : Hp) (ws' : Ws) : Prop := Same G G' ∧ io ws <+: io ws'
theorem Mon.refl {G : Hp} {ws : Ws} : Mon G ws G ws := ⟨fun _ _ h => h, List.prefix_refl _⟩
theorem Mon.trans {G G1 G2 : Hp} {ws ws1 ws2 : Ws} (a : Mon G ws G1 ws1) (b : Mon G1 ws1 G2 ws2) : Mon G ws G2 ws2 := ⟨a.1.trans b.1, a.2.trans b.2⟩
theorem Nx.mon {K : PySem.W.Frag} {C : Addr} {G H G' H' : Hp} {ws ws' : Ws} {w' : W} (n : Nx K C G H ws G' H' ws' w') : Mon G ws G' ws' := ⟨n.gg, n.io⟩
def PostS (P : Pm) (e : En) (Wi : WX) (D : Ends) (G0 : Hp) (ws0 : Ws) : Out → Prop
  | .next ρ w => ∀ σ H G ws, St P.K P.C e σ H G ws ρ w → Mon G0 ws0 G ws → D.nx σ H
  | .brk ρ w => ∀ σ H G ws, St P.K P.C e σ H G ws ρ w → Mon G0 ws0 G ws → D.bk σ H
  | .cont ρ w => ∀ σ H G ws, St P.K P.C e σ H G ws ρ w → Mon G0 ws0 G ws → D.ct σ H
  | .ret x w => ∀ v H G ws, Nx P.K P.C e.G e.H e.ws G H ws w → RV P.K G H ws v x → NewOk e.H v x → (x.m = .fz ∨ x.m = .nw) → D.rt v H
  | .ex x ρ w => ∀ cls d σ H G ws, St P.K P.C e σ H G ws ρ w → XRel P.K P.cm G H (io ws) x cls d → Wi cls d σ H
  | .bad => False
def EvS (P : Pm) (e : En) (Wi : WX) (ts : TS) (g : DS) : Prop := ∀ σ H G ws ρ w (D : Ends), St P.K P.C e σ H G ws ρ w → PostS P e Wi D G ws (g ρ w) → ts D σ H
theorem PostS.after {P : Pm} {e : En} {Wi : WX} {D : Ends} {G G1 : Hp} {ws ws1 : Ws} {o : Out} (m : Mon G ws G1 ws1) (h : PostS P e Wi D G ws o) : PostS P e Wi D G1 ws1 o := by
  cases o with
  | next ρ w => exact fun σ H G2 ws2 st m2 => h σ H G2 ws2 st (m.trans m2)
  | brk ρ w => exact fun σ H G2 ws2 st m2 => h σ H G2 ws2 st (m.trans m2)
  | cont ρ w => exact fun σ H G2 ws2 st m2 => h σ H G2 ws2 st (m.trans m2)
  | ret x w => exact h
  | ex x ρ w => exact h
  | bad => exact h
def R.thn {α : Type} (r : R α) (ρ : Env) (f : α → W → Out) : Out := match r with
  | .ok a w => f a w
  | .ex x w => .ex x ρ w
  | .bad => .bad
def Out.thn (o : Out) (f : DS) : Out := match o with
  | .next ρ w => f ρ w
  | o => o
section
variable {P : Pm} {H0 : En} {Wi : WX} {ta tb tc : TE} {fa fb fc : DE} {ts us : TS} {gs hs : DS}
/-- an expression's end, for a statement -/
theorem postE_of {σ : L2.St} {H G : Hp} {ws : Ws} {ρ : Env} {w : W} {D : Ends} {Q : VK} {r : R Val} {f : Val → W → Out} (st : St P.K P.C H0 σ H G ws ρ w) (h : PostS P H0 Wi D G ws (r.thn ρ f))
    (k : ∀ x w', r = .ok x w' → PostS P H0 Wi D G ws (f x w') → ∀ v H' G' ws', Nx P.K P.C G H ws G' H' ws' w' → RV P.K G' H' ws' v x → NewOk H v x → Q v H') : PostE P (fun c d H' => Wi c d σ H') H G ws Q r := by
  cases r with
  | ok x w' => exact k x w' rfl h
  | ex x w' => exact fun cls d H' G' ws' n hx => h cls d σ H' G' ws' (st.next n) hx
  | bad => exact h
theorem postT_of {σ : L2.St} {H G : Hp} {ws : Ws} {ρ : Env} {w : W} {D : Ends} {Q : Bool → Hp → Prop} {r : R Bool} {f : Bool → W → Out} (st : St P.K P.C H0 σ H G ws ρ w) (h : PostS P H0 Wi D G ws (r.thn ρ f))
    (k : ∀ x w', r = .ok x w' → PostS P H0 Wi D G ws (f x w') → ∀ H' G' ws', Nx P.K P.C G H ws G' H' ws' w' → Q x H') : PostT P (fun c d H' => Wi c d σ H') H G ws Q r := by
  cases r with
  | ok x w' => exact k x w' rfl h
  | ex x w' => exact fun cls d H' G' ws' n hx => h cls d σ H' G' ws' (st.next n) hx
  | bad => exact h
theorem postA_of {σ : L2.St} {H G : Hp} {ws : Ws} {ρ : Env} {w : W} {D : Ends} {Q : List V → Hp → Prop} {r : R (List Val)} {f : List Val → W → Out} (st : St P.K P.C H0 σ H G ws ρ w) (h : PostS P H0 Wi D G ws (r.thn ρ f))
    (k : ∀ x w', r = .ok x w' → PostS P H0 Wi D G ws (f x w') → ∀ v H' G' ws', Nx P.K P.C G H ws G' H' ws' w' → RVs P.K G' H' ws' v x → NewsOk H v x → Q v H') : PostA P (fun c d H' => Wi c d σ H') H G ws Q r := by
  cases r with
  | ok x w' => exact k x w' rfl h
  | ex x w' => exact fun cls d H' G' ws' n hx => h cls d σ H' G' ws' (st.next n) hx
  | bad => exact h
def sNext : DS := fun ρ w => .next ρ w
def sSeq (g h : DS) : DS := fun ρ w => (g ρ w).thn h
theorem ev_next : EvS P H0 Wi tNext sNext := fun σ H G ws ρ w D st h => h σ H G ws st .refl
theorem ev_brk : EvS P H0 Wi tBreak (fun ρ w => .brk ρ w) := fun σ H G ws ρ w D st h => h σ H G ws st .refl
theorem ev_cont : EvS P H0 Wi tCont (fun ρ w => .cont ρ w) := fun σ H G ws ρ w D st h => h σ H G ws st .refl
theorem ev_seq (h1 : EvS P H0 Wi ts gs) (h2 : EvS P H0 Wi us hs) : EvS P H0 Wi (tSeq ts us) (sSeq gs hs) := by
  intro σ H G ws ρ w D st h
  unfold sSeq at h
  refine h1 σ H G ws ρ w _ st ?_
  cases e : gs ρ w with
  | next ρ' w' =>
    rw [e] at h
    exact fun σ' H' G' ws' st' m => h2 σ' H' G' ws' ρ' w' D st' (PostS.after m h)
  | ret x w' => rw [e] at h; exact h
  | brk ρ' w' => rw [e] at h; exact h
  | cont ρ' w' => rw [e] at h; exact h
  | ex x ρ' w' => rw [e] at h; exact h
  | bad => rw [e] at h; exact h
/-! a name is stored -/
theorem St.set {e : En} {σ : L2.St} {H G : Hp} {ws : Ws} {ρ : Env} {w : W} {K : PySem.W.Frag} {C : Addr} {H1 G1 : Hp} {ws1 : Ws} {w1 : W} {i : Nat} {v : V} {x : Val} (st : St K C e σ H G ws ρ w) (n : Nx K C G H ws G1 H1 ws1 w1) (r : RV K G1 H1 ws1 v x) (k : NewOk H v x) (hm : x.m = .fz ∨ x.m = .nw) :
    St K C e (σ.set i (some v)) H1 G1 ws1 (ρ.set i (some x)) w1 := by
  have s1 := st.next n
  have back : ∀ a, (H a).isSome = true → (H a) ≠ none := fun a h z => by rw [z] at h; cases h
  refine ⟨s1.nx0, by rw [List.length_set, List.length_set]; exact s1.len, fun j y e => ?_, fun j y a e hy ea => ?_, fun j l y z a ej el hy hz aj al => ?_⟩
  · by_cases hj : i = j
    · subst hj
      rw [List.getElem?_set] at e ⊢
      rw [if_pos rfl] at e ⊢
      split at e
      · rename_i hl
        rw [if_pos (by rw [s1.len]; exact hl)]
        cases e
        exact ⟨v, rfl, r, hm⟩
      · cases e
    · rw [List.getElem?_set_ne hj] at e ⊢
      exact s1.sl j y e
  · by_cases hj : i = j
    · subst hj
      rw [List.getElem?_set] at e ea
      rw [if_pos rfl] at e ea
      split at e
      · rename_i hl
        rw [if_pos (by rw [s1.len]; exact hl)] at ea
        cases e
        cases ea
        have := k hy a rfl
        cases q : e.H a with
        | none => rfl
        | some o =>
          have z := st.nx0.alive a (by rw [q]; rfl)
          rw [this] at z; cases z
      · cases e
    · rw [List.getElem?_set_ne hj] at e ea
      exact st.own j y a e hy ea
  · -- apart
    have key : ∀ (j : Nat) y a, ρ[j]? = some (some y) → y.m = .nw → σ[j]? = some (some (.ref a)) → (H a).isSome = true := fun j y a e hy ea => by
      obtain ⟨u, h1, h2, _⟩ := st.sl j y e
      rw [ea] at h1
      cases h1
      obtain ⟨m, d⟩ := y
      simp only at hy
      subst hy
      obtain ⟨b, eb, _, _, un⟩ := h2
      cases eb
      obtain ⟨o, ho, _⟩ := un.there
      rw [ho]; rfl
    by_cases hj : i = j
    · by_cases hl : i = l
      · rw [← hj, ← hl]
      · exfalso
        subst hj
        rw [List.getElem?_set_ne hl] at el al
        rw [List.getElem?_set, if_pos rfl] at ej aj
        split at ej
        · rename_i hlt
          rw [if_pos (by rw [s1.len]; exact hlt)] at aj
          cases ej
          cases aj
          have h1 := k hy a rfl
          have h2 := key l z a el hz al
          rw [h1] at h2; cases h2
        · cases ej
    · by_cases hl : i = l
      · exfalso
        subst hl
        rw [List.getElem?_set_ne hj] at ej aj
        rw [List.getElem?_set, if_pos rfl] at el al
        split at el
        · rename_i hlt
          rw [if_pos (by rw [s1.len]; exact hlt)] at al
          cases el
          cases al
          have h1 := k hz a rfl
          have h2 := key j y a ej hy aj
          rw [h1] at h2; cases h2
        · cases el
      · rw [List.getElem?_set_ne hj] at ej aj
        rw [List.getElem?_set_ne hl] at el al
        exact st.ap j l y z a ej el hy hz aj al
def keepM (x : Val) : Bool := match x.m with
  | .fz | .nw => true
  | _ => false
theorem keepM_of {x : Val} (h : keepM x = true) : x.m = .fz ∨ x.m = .nw := by
  obtain ⟨m, d⟩ := x
  cases m <;> first | exact .inl rfl | exact .inr rfl | (simp [keepM] at h)
def sSet (i : Nat) (f : DE) : DS := fun ρ w => (f ρ w).thn ρ fun x w => if keepM x then .next (ρ.set i (some x)) w else .bad
theorem ev_set {i : Nat} (ha : EvE P H0 Wi ta fa) : EvS P H0 Wi (tAsg ta (gName i)) (sSet i fa) := by
  intro σ H G ws ρ w D st h
  unfold sSet at h
  refine ha σ H G ws ρ w _ st (postE_of st h fun x w' _ h v H1 G1 ws1 n r k => ?_)
  split at h
  · rename_i hm
    exact h _ _ _ _ (st.set n r k (keepM_of hm)) n.mon
  · exact h.elim
/-- a tuple's parts are stored -/
def gNames : List Nat → TGs
  | [] => gNil
  | i :: r => gCons (gName i) (gNames r)
def setAll : List Nat → List D → Env → Env
  | i :: is, d :: ds, ρ => setAll is ds (ρ.set i (some (fz d)))
  | _, _, ρ => ρ
def setAllV : List Nat → List V → L2.St → L2.St
  | i :: is, d :: ds, ρ => setAllV is ds (ρ.set i (some d))
  | _, _, ρ => ρ
theorem St.setAll {e : En} {H G : Hp} {ws : Ws} {w : W} {K : PySem.W.Frag} {C : Addr} : ∀ {is : List Nat} {vs : List V} {ds : List D} {σ : L2.St} {ρ : Env}, St K C e σ H G ws ρ w → Reps K G (io ws) vs ds → is.length = ds.length → ∀ Q : L2.St → Hp → Prop, (∀ σ', St K C e σ' H G ws (DL.setAll is ds ρ) w → Q σ' H) → gNames is vs σ H Q
  | [], _, _, σ, ρ, st, .nil, _, Q, h => ⟨rfl, h σ st⟩
  | [], _, _, _, _, _, .cons _ _, hl, _, _ => by simp at hl
  | _ :: _, _, _, _, _, _, .nil, hl, _, _ => by simp at hl
  | i :: is, v :: vs, d :: ds, σ, ρ, st, .cons a b, hl, Q, h => by
    refine ⟨v, vs, rfl, ?_⟩
    exact St.setAll (st.set (x := fz d) (i := i) st.nx a fz_nw (.inl rfl)) b (by simpa using hl) Q fun σ' s' => h σ' s'
def sSetT (is : List Nat) (f : DE) : DS := fun ρ w => (f ρ w).thn ρ fun x w => match x.d with
  | .tup ds => if is.length = ds.length then .next (setAll is ds ρ) w else .bad
  | _ => .bad
theorem ev_setT {is : List Nat} (ha : EvE P H0 Wi ta fa) : EvS P H0 Wi (tAsg ta (gTup P.K is.length (gNames is))) (sSetT is fa) := by
  intro σ H G ws ρ w D st h
  unfold sSetT at h
  refine ha σ H G ws ρ w _ st (postE_of st h fun x w' _ h v H1 G1 ws1 n r k => ?_)
  obtain ⟨m, d⟩ := x
  cases d <;> try exact h.elim
  rename_i ds
  obtain ⟨a, vs, rfl, _, q1, r1⟩ := rv_tup n.sub r
  dsimp only at h
  split at h
  · rename_i hl
    exact ⟨a, vs, rfl, q1, by rw [r1.length, hl], St.setAll (st.next n) r1 hl _ fun σ' s' => h σ' H1 G1 ws1 s' n.mon⟩
  · exact h.elim
/-- a, b = x, y -/
def sPar (is : List Nat) (f : DA) : DS := fun ρ w => (f ρ w).thn ρ fun xs w => if is.length = xs.length ∧ xs.all keepM then .next ((is.zip xs).foldl (fun ρ p => ρ.set p.1 (some p.2)) ρ) w else .bad
def sExpr (f : DE) : DS := fun ρ w => (f ρ w).thn ρ fun _ w => .next ρ w
theorem ev_expr (ha : EvE P H0 Wi ta fa) : EvS P H0 Wi (tDrop ta) (sExpr fa) := by
  intro σ H G ws ρ w D st h
  unfold sExpr at h
  exact ha σ H G ws ρ w _ st (postE_of st h fun x w' _ h v H1 G1 ws1 n r k => h _ _ _ _ (st.next n) n.mon)
def sRet (f : DE) : DS := fun ρ w => (f ρ w).thn ρ fun x w => if keepM x then .ret x w else .bad
theorem ev_ret (ha : EvE P H0 Wi ta fa) : EvS P H0 Wi (tRet ta) (sRet fa) := by
  intro σ H G ws ρ w D st h
  unfold sRet at h
  refine ha σ H G ws ρ w _ st (postE_of st h fun x w' _ h v H1 G1 ws1 n r k => ?_)
  split at h
  · rename_i hm
    exact h v H1 G1 ws1 (st.nx0.trans n) r (newOk_back (P := P) st.nx0 k) (keepM_of hm)
  · exact h.elim
/-- return name -/
def sRetV (i : Nat) : DS := fun ρ w => match ρ[i]? with
  | some (some x) => .ret x w
  | _ => .bad
theorem ev_retV {i : Nat} : EvS P H0 Wi (tRet (tVar i)) (sRetV i) := by
  intro σ H G ws ρ w D st h
  unfold sRetV at h
  cases e : ρ[i]? with
  | none => rw [e] at h; exact h.elim
  | some o =>
    cases o with
    | none => rw [e] at h; exact h.elim
    | some x =>
      rw [e] at h
      obtain ⟨v, h1, h2, h3⟩ := st.sl i x e
      refine ⟨v, h1, h v H G ws st.nx0 h2 (fun hm a ea => ?_) h3⟩
      subst ea
      exact st.own i x a e hm h1
def sRetN : DS := fun _ w => .ret (fz .non) w
theorem ev_retN : EvS P H0 Wi tRetN sRetN := fun σ H G ws ρ w D st h => h .non H G ws st.nx0 .non fz_nw (.inl rfl)
variable {tA : TT} {fA : DT}
def sIf (c : DT) (g h : DS) : DS := fun ρ w => (c ρ w).thn ρ fun b w => if b then g ρ w else h ρ w
theorem ev_sif (hc : EvT P H0 Wi tA fA) (h1 : EvS P H0 Wi ts gs) (h2 : EvS P H0 Wi us hs) : EvS P H0 Wi (tIfS tA ts us) (sIf fA gs hs) := by
  intro σ H G ws ρ w D st h
  unfold sIf at h
  refine hc σ H G ws ρ w _ st (postT_of st h fun b w' _ h H1 G1 ws1 n => ?_)
  cases b with
  | true => exact iteT (h1 σ H1 G1 ws1 ρ w' D (st.next n) (PostS.after n.mon h))
  | false => exact iteF (h2 σ H1 G1 ws1 ρ w' D (st.next n) (PostS.after n.mon h))
/-- a slot's own list is given away: from here on it stays as it is -/
def sFrz (i : Nat) (g : DS) : DS := fun ρ w => match ρ[i]? with
  | some (some x) => g (ρ.set i (some (fz x.d))) w
  | _ => .bad
theorem ev_frz {i : Nat} (h1 : EvS P H0 Wi ts gs) : EvS P H0 Wi ts (sFrz i gs) := by
  intro σ H G ws ρ w D st h
  unfold sFrz at h
  cases e : ρ[i]? with
  | none => rw [e] at h; exact h.elim
  | some o =>
    cases o with
    | none => rw [e] at h; exact h.elim
    | some x =>
      rw [e] at h
      dsimp only at h
      obtain ⟨v, e1, r, hm⟩ := st.sl i x e
      have hl : i < ρ.length := (List.getElem?_eq_some_iff.mp e).1
      -- the slot's value stays; the ghost heap takes it up
      obtain ⟨G2, sg, n2, rp, f2⟩ := freeze1 st.nx0 r (fun hm a ea => by subst ea; exact st.own i x a e hm e1) hm
      have nx : ∀ (j : Nat) y, ρ[j]? = some (some y) → j ≠ i → ∃ u, σ[j]? = some (some u) ∧ RV P.K G2 H ws u y ∧ (y.m = .fz ∨ y.m = .nw) := fun j y ej hj => by
        obtain ⟨u, h1, h2, h3⟩ := st.sl j y ej
        refine ⟨u, h1, h2.gmono sg fun hy a ea ga => f2 a (fun hx ev => hj ?_) ga, h3⟩
        subst ea
        have hyn : y.m = .nw := by rcases h3 with z | z; exact absurd z hy; exact z
        exact st.ap j i y x a ej e hyn hx h1 (by rw [e1, ev])
      refine h1 σ H G2 ws (ρ.set i (some (fz x.d))) w D ⟨n2, by rw [List.length_set]; exact st.len, fun j y ej => ?_, fun j y a ej hy ea => ?_, fun j l y z a ej el hy hz aj al => ?_⟩ (PostS.after ⟨sg, List.prefix_refl _⟩ h)
      · by_cases hj : i = j
        · subst hj
          rw [List.getElem?_set, if_pos rfl, if_pos hl] at ej
          cases ej
          exact ⟨v, e1, rp, .inl rfl⟩
        · rw [List.getElem?_set_ne hj] at ej
          exact nx j y ej (Ne.symm hj)
      · by_cases hj : i = j
        · subst hj
          rw [List.getElem?_set, if_pos rfl, if_pos hl] at ej
          cases ej
          cases hy
        · rw [List.getElem?_set_ne hj] at ej
          exact st.own j y a ej hy ea
      · by_cases hj : i = j
        · subst hj
          rw [List.getElem?_set, if_pos rfl, if_pos hl] at ej
          cases ej
          cases hy
        · by_cases hk : i = l
          · subst hk
            rw [List.getElem?_set, if_pos rfl, if_pos hl] at el
            cases el
            cases hz
          · rw [List.getElem?_set_ne hj] at ej
            rw [List.getElem?_set_ne hk] at el
            exact st.ap j l y z a ej el hy hz aj al
end
end DL

namespace DL
open PySem L2
section
variable {P : Pm} {H0 : En} {Wi : WX} {ta tb tc : TE} {fa fb fc : DE} {ts us : TS} {gs hs : DS}
/-- the thing that a slot owns, changed -/
theorem St.mut {K : PySem.W.Frag} {C : Addr} {e : En} {σ : L2.St} {H G : Hp} {ws : Ws} {ρ : Env} {w : W} {i : Nat} {a : Addr} {x : Val} {d' : D} {o' : HO} (st : St K C e σ H G ws ρ w) (ei : ρ[i]? = some (some x)) (hm : x.m = .nw) (ea : σ[i]? = some (some (.ref a)))
    (u : Unf K G (upd H a o') (io ws) a d') : St K C e σ (upd H a o') G ws (ρ.set i (some ⟨.nw, d'⟩)) w := by
  obtain ⟨v, e1, r, _⟩ := st.sl i x ei
  rw [ea] at e1
  cases e1
  have e0 : e.H a = none := st.own i x a ei hm ea
  have hr : G a = none ∧ a ∉ regs ws := by
    obtain ⟨m, d⟩ := x
    simp only at hm
    subst hm
    obtain ⟨b, eb, g, nr, _⟩ := r
    cases eb
    exact ⟨g, nr⟩
  have hl : i < ρ.length := (List.getElem?_eq_some_iff.mp ei).1
  have hne : ∀ b o, H b = some o → b ≠ a → upd H a o' b = some o := fun b o h n => by rw [upd_ne n]; exact h
  have nreg : ∀ b ∈ regs ws, b ≠ a := fun b hb z => hr.2 (by rw [← z]; exact hb)
  refine ⟨⟨st.nx0.gg, fun b o h => ?_, ⟨paired_imp st.rw.obs fun q o hq ⟨⟨dx, e⟩, p⟩ => ⟨⟨dx, hne _ _ e (nreg _ (regs_mem hq).1)⟩, paired_imp p fun y z hy ⟨e, f⟩ => ⟨e, f.move (fun _ _ h => h) (List.prefix_refl _) fun b o eb hb => hne b o hb (nreg b ((regs_mem hq).2 b (refs_mem hy eb)))⟩⟩, st.rw.nn, st.rw.nd, st.rw.out⟩, fun b o h n => ?_, fun b h => ?_, st.nx0.nocap, st.nx0.io, st.nx0.fresh, st.nx0.le, fun h => ?_⟩, by rw [List.length_set]; exact st.len, fun j y ej => ?_, fun j y b ej hy eb => ?_, fun j l y z b ej el hy hz bj bl => ?_⟩
  · exact hne b o (st.sub b o h) (ne_of_none h hr.1)
  · exact hne b o (st.nx0.keep b o h n) (ne_of_none h e0)
  · by_cases hb : b = a
    · subst hb; rw [upd_same]; rfl
    · rw [upd_ne hb]; exact st.nx0.alive b h
  · obtain ⟨e2, k⟩ := st.nx0.qt h
    exact ⟨e2, fun b hb o h => hne b o (k b hb o h) (ne_of_none h e0)⟩
  · by_cases hj : i = j
    · subst hj
      rw [List.getElem?_set, if_pos rfl, if_pos hl] at ej
      cases ej
      exact ⟨.ref a, ea, ⟨a, rfl, hr.1, hr.2, u⟩, .inr rfl⟩
    · rw [List.getElem?_set_ne hj] at ej
      obtain ⟨v, h1, h2, h3⟩ := st.sl j y ej
      refine ⟨v, h1, ?_, h3⟩
      obtain ⟨m, d⟩ := y
      rcases h3 with z | z
      · simp only at z; subst z; exact h2
      · simp only at z; subst z
        obtain ⟨b, eb, g, nr, un⟩ := h2
        subst eb
        exact ⟨b, rfl, g, nr, un.move (fun _ _ h => h) (List.prefix_refl _) fun o h => hne b o h fun z => hj (st.ap i j x _ a ei ej hm rfl ea (by rw [h1, z]))⟩
  · by_cases hj : i = j
    · subst hj
      rw [ea] at eb
      cases eb
      exact e0
    · rw [List.getElem?_set_ne hj] at ej
      exact st.own j y b ej hy eb
  · by_cases hj : i = j
    · subst hj
      by_cases hk : i = l
      · exact hk
      · rw [List.getElem?_set_ne hk] at el
        rw [ea] at bj
        cases bj
        exact st.ap i l x z a ei el hm hz ea bl
    · by_cases hk : i = l
      · subst hk
        rw [List.getElem?_set_ne hj] at ej
        rw [ea] at bl
        cases bl
        exact st.ap j i y x a ej ei hy hm bj ea
      · rw [List.getElem?_set_ne hj] at ej
        rw [List.getElem?_set_ne hk] at el
        exact st.ap j l y z b ej el hy hz bj bl
/-- the list that slot i owns -/
def ownL (ρ : Env) (i : Nat) : Option (List D) := match ρ[i]? with
  | some (some ⟨.nw, .lst ds⟩) => some ds
  | _ => none
theorem ownL_of {ρ : Env} {i : Nat} {ds : List D} (h : ownL ρ i = some ds) : ρ[i]? = some (some ⟨.nw, .lst ds⟩) := by
  unfold ownL at h
  split at h
  · rename_i ds' e
    cases h
    exact e
  · cases h
theorem St.list {K : PySem.W.Frag} {C : Addr} {e : En} {σ : L2.St} {H G : Hp} {ws : Ws} {ρ : Env} {w : W} {i : Nat} {ds : List D} (st : St K C e σ H G ws ρ w) (h : ρ[i]? = some (some ⟨.nw, .lst ds⟩)) : ∃ a vs, σ[i]? = some (some (.ref a)) ∧ H a = some (.lst vs) ∧ Reps K G (io ws) vs ds ∧ G a = none ∧ a ∉ regs ws := by
  obtain ⟨v, e1, r, _⟩ := st.sl i _ h
  obtain ⟨a, rfl, g, nr, u⟩ := r
  cases u with
  | lst q r => exact ⟨a, _, e1, q, r, g, nr⟩
/-- xs.append(e) -/
def sApp (i : Nat) (f : DE) : DS := fun ρ w => match ownL ρ i with
  | some ds => (f ρ w).thn ρ fun x w => if keepM x ∧ ds.length < sizeLine then .next (ρ.set i (some ⟨.nw, .lst (ds ++ [x.d])⟩)) w else .bad
  | none => .bad
/-- a value frozen within a body -/
theorem St.frzV {e : En} {σ : L2.St} {H G : Hp} {ws : Ws} {ρ : Env} {w : W} {H1 G1 : Hp} {ws1 : Ws} {w1 : W} {v : V} {x : Val} (st : St P.K P.C e σ H G ws ρ w) (n : Nx P.K P.C G H ws G1 H1 ws1 w1) (r : RV P.K G1 H1 ws1 v x) (k : NewOk H v x) (hm : keepM x = true) :
    ∃ G2, Same G1 G2 ∧ Nx P.K P.C G H ws G2 H1 ws1 w1 ∧ Rep P.K G2 (io ws1) v x.d := by
  obtain ⟨G2, a, b, c, _⟩ := freeze1 n r k (keepM_of hm)
  exact ⟨G2, a, b, c⟩
theorem ev_app {i : Nat} (ha : EvE P H0 Wi ta fa) : EvS P H0 Wi (tDrop (tBM P.K "list" rAppend (tVar i) (tCons ta tNil))) (sApp i fa) := by
  intro σ H G ws ρ w D st h
  unfold sApp at h
  cases eo : ownL ρ i with
  | none => rw [eo] at h; exact h.elim
  | some ds =>
    rw [eo] at h
    dsimp only at h
    have ei := ownL_of eo
    obtain ⟨a, vs, ea, hH, _, _, _⟩ := st.list ei
    refine ⟨.ref a, ea, .inl ⟨rfl, vs, SqL.of hH⟩, ?_⟩
    refine ha σ H G ws ρ w _ st (postE_of st h fun x w' _ h v H1 G1 ws1 n r k => ?_)
    split at h
    · rename_i hc
      obtain ⟨G2, sg, n2, rp⟩ := st.frzV n r k hc.1
      have st2 := st.next n2
      obtain ⟨a2, vs2, ea2, hH2, rs2, _, _⟩ := st2.list ei
      rw [ea] at ea2
      cases ea2
      exact ⟨a, vs2, v, rfl, rfl, hH2, by rw [rs2.length]; exact hc.2, h σ _ G2 ws1 (st2.mut ei rfl ea (.lst upd_same (rs2.append (.cons rp .nil)))) n2.mon⟩
    · exact h.elim
/-- xs.extend(e), e a list -/
def sExt (i : Nat) (f : DE) : DS := fun ρ w => match ownL ρ i with
  | some ds => (f ρ w).thn ρ fun x w => match x.d with
    | .lst es => if ds.length + es.length ≤ sizeLine then .next (ρ.set i (some ⟨.nw, .lst (ds ++ es)⟩)) w else .bad
    | _ => .bad
  | none => .bad
theorem ev_ext {i : Nat} (ha : EvE P H0 Wi ta fa) : EvS P H0 Wi (tDrop (tBM P.K "list" rExtend (tVar i) (tCons ta tNil))) (sExt i fa) := by
  intro σ H G ws ρ w D st h
  unfold sExt at h
  cases eo : ownL ρ i with
  | none => rw [eo] at h; exact h.elim
  | some ds =>
    rw [eo] at h
    dsimp only at h
    have ei := ownL_of eo
    obtain ⟨a, vs, ea, hH, _, _, _⟩ := st.list ei
    refine ⟨.ref a, ea, .inl ⟨rfl, vs, SqL.of hH⟩, ?_⟩
    refine ha σ H G ws ρ w _ st (postE_of st h fun x w' _ h v H1 G1 ws1 n r k => ?_)
    obtain ⟨m, d⟩ := x
    cases d <;> try exact h.elim
    rename_i es
    obtain ⟨b, us, rfl, hb, rs⟩ := rv_lst n.sub r
    dsimp only at h
    split at h
    · rename_i hc
      have st2 := st.next n
      obtain ⟨a2, vs2, ea2, hH2, rs2, _, _⟩ := st2.list ei
      rw [ea] at ea2
      cases ea2
      exact ⟨a, b, vs2, us, rfl, rfl, hH2, hb, by rw [rs2.length, rs.length]; exact hc, h σ _ G1 ws1 (st2.mut ei rfl ea (.lst upd_same (rs2.append rs))) n.mon⟩
    · exact h.elim
/-- xs[k] = e -/
def sPut (i : Nat) (fk fv : DE) : DS := fun ρ w => (fv ρ w).thn ρ fun x w => match ownL ρ i with
  | some ds => if keepM x then (fk ρ w).thn ρ fun k w => match k.d with
    | .int j => match ixN ds.length j with
      | some n => .next (ρ.set i (some ⟨.nw, .lst (ds.set n x.d)⟩)) w
      | none => .bad
    | _ => .bad
    else .bad
  | none => .bad
theorem ev_put {i : Nat} {tk : TE} {fk : DE} (hv : EvE P H0 Wi ta fa) (hk : EvE P H0 Wi tk fk) : EvS P H0 Wi (tAsg ta (gSub (tVar i) tk rSetL)) (sPut i fk fa) := by
  intro σ H G ws ρ w D st h
  unfold sPut at h
  refine hv σ H G ws ρ w _ st (postE_of st h fun x w' _ h v H1 G1 ws1 n r k => ?_)
  cases eo : ownL ρ i with
  | none => rw [eo] at h; exact h.elim
  | some ds =>
    rw [eo] at h
    dsimp only at h
    have ei := ownL_of eo
    split at h
    · rename_i hm
      obtain ⟨G2, sg, n2, rp⟩ := st.frzV n r k hm
      have st2 := st.next n2
      obtain ⟨a, vs, ea, hH, _, _, _⟩ := st2.list ei
      refine ⟨.ref a, ea, ?_⟩
      refine hk σ H1 G2 ws1 ρ w' _ st2 (postE_of st2 (PostS.after n2.mon h) fun y w2 _ h u H3 G3 ws3 n3 r3 k3 => ?_)
      obtain ⟨m, d⟩ := y
      cases d <;> try exact h.elim
      rename_i j _
      have ey := rv_int r3
      subst ey
      dsimp only at h
      split at h
      · rename_i q hq
        have st3 := st2.next n3
        obtain ⟨a3, vs3, ea3, hH3, rs3, _, _⟩ := st3.list ei
        rw [ea] at ea3
        cases ea3
        exact ⟨a, vs3, j, q, rfl, rfl, hH3, by rw [rs3.length]; exact hq, h σ _ G3 ws3 (st3.mut ei rfl ea (.lst upd_same ((rs3).set (rp.mono n3.gg n3.io) q)))  n3.mon⟩
      · exact h.elim
    · exact h.elim
end
end DL

namespace DL
open PySem L2
/-! ### what is walked -/
structure ItOk (P : Pm) (J : It) (Ok : Hp → Hp → Ws → Prop) (ds : List D) : Prop where
  go : ∀ G H ws (i : Nat) d, Ok G H ws → ds[i]? = some d → J.go i H
  yl : ∀ G H ws w (i : Nat) d x H', Ok G H ws → Same G H → RelW P.K P.C G H ws w → ds[i]? = some d → J.yld i H x H' → ∃ G', Nx P.K P.C G H ws G' H' ws w ∧ Rep P.K G' (io ws) x d
  st : ∀ G H ws, Ok G H ws → J.stop ds.length H
def OkF (G1 : Hp) (ws1 : Ws) : Hp → Hp → Ws → Prop := fun G H ws => Same G1 G ∧ Same G H ∧ io ws1 <+: io ws
def OkQ (P : Pm) (G1 H1 : Hp) (ws1 : Ws) : Hp → Hp → Ws → Prop := fun G H ws => ∃ w, Nx P.K P.C G1 H1 ws1 G H ws w ∧ ws.n = ws1.n
/-- frozen, or only as long as nothing is stored -/
def OkA (P : Pm) (fr : Bool) (G1 H1 : Hp) (ws1 : Ws) : Hp → Hp → Ws → Prop := if fr then OkF G1 ws1 else OkQ P G1 H1 ws1
abbrev DI := Env → W → R (List D × Bool)
def PostI (P : Pm) (E : Value → Option Addr → Hp → Prop) (H G : Hp) (ws : Ws) (Q : It → Hp → Prop) : R (List D × Bool) → Prop
  | .ok x w' => ∀ J H' G' ws', Nx P.K P.C G H ws G' H' ws' w' → ItOk P J (OkA P x.2 G' H' ws') x.1 → Q J H'
  | .ex x w' => ∀ cls d H' G' ws', Nx P.K P.C G H ws G' H' ws' w' → XRel P.K P.cm G' H' (io ws') x cls d → E cls d H'
  | .bad => False
def EvI (P : Pm) (H0 : En) (Wi : WX) (ti : TI) (f : DI) : Prop := ∀ σ H G ws ρ w (Q : It → Hp → Prop), St P.K P.C H0 σ H G ws ρ w → PostI P (fun c d H' => Wi c d σ H') H G ws Q (f ρ w) → ti σ H Q
section
variable {P : Pm} {H0 : En} {Wi : WX} {ta tb tc : TE} {fa fb fc : DE} {ts us : TS} {gs hs : DS} {tr : TA} {fr : DA}
/-- a list that is seen in every state that counts -/
theorem itl_ok {Ok : Hp → Hp → Ws → Prop} {a : Addr} {vs : List V} {ds : List D} (h : ∀ G H ws, Ok G H ws → SqL P.K H a vs ∧ Reps P.K G (io ws) vs ds) : ItOk P (Itl P.K a) Ok ds where
  go := fun G H ws i d ok e => by
    obtain ⟨h1, h2⟩ := h G H ws ok
    obtain ⟨v, hv, _⟩ := h2.getD e
    exact ⟨vs, v, h1, hv⟩
  yl := fun G H ws w i d x H' ok s r e y => by
    obtain ⟨h1, h2⟩ := h G H ws ok
    obtain ⟨v, hv, rp⟩ := h2.getD e
    obtain ⟨rfl, y⟩ := y
    have := y vs h1
    rw [hv] at this
    cases this
    exact ⟨G, Nx.refl s r, rp⟩
  st := fun G H ws ok => by
    obtain ⟨h1, h2⟩ := h G H ws ok
    exact ⟨vs, h1, by rw [h2.length]; exact Nat.le_refl _⟩
theorem itt_ok {Ok : Hp → Hp → Ws → Prop} {a : Addr} {vs : List V} {ds : List D} (h : ∀ G H ws, Ok G H ws → SqT P.K H a vs ∧ Reps P.K G (io ws) vs ds) : ItOk P (Itt P.K a) Ok ds where
  go := fun G H ws i d ok e => by
    obtain ⟨h1, h2⟩ := h G H ws ok
    obtain ⟨v, hv, _⟩ := h2.getD e
    exact ⟨vs, v, h1, hv⟩
  yl := fun G H ws w i d x H' ok s r e y => by
    obtain ⟨h1, h2⟩ := h G H ws ok
    obtain ⟨v, hv, rp⟩ := h2.getD e
    obtain ⟨rfl, y⟩ := y
    have := y vs h1
    rw [hv] at this
    cases this
    exact ⟨G, Nx.refl s r, rp⟩
  st := fun G H ws ok => by
    obtain ⟨h1, h2⟩ := h G H ws ok
    exact ⟨vs, h1, by rw [h2.length]; exact Nat.le_refl _⟩
/-- i, x of enumerate -/
def enumD : Nat → List D → List D
  | _, [] => []
  | i, d :: r => .tup [.int i, d] :: enumD (i + 1) r
theorem enumD_get : ∀ (ds : List D) (k i : Nat) (d : D), (enumD k ds)[i]? = some d → ∃ d', ds[i]? = some d' ∧ d = .tup [.int ((k + i : Nat) : Int), d']
  | [], _, _, _, h => by simp [enumD] at h
  | x :: r, k, 0, d, h => by simp [enumD] at h; subst h; exact ⟨x, rfl, rfl⟩
  | x :: r, k, i + 1, d, h => by
    obtain ⟨d', h1, h2⟩ := enumD_get r (k + 1) i d (by simpa [enumD] using h)
    refine ⟨d', by simpa using h1, ?_⟩
    rw [h2]
    congr 3
    omega
theorem enumD_len : ∀ (ds : List D) (k : Nat), (enumD k ds).length = ds.length
  | [], _ => rfl
  | x :: r, k => by simp [enumD, enumD_len r]
theorem ite_ok {Ok : Hp → Hp → Ws → Prop} {a : Addr} {vs : List V} {ds : List D} (h : ∀ G H ws, Ok G H ws → SqL P.K H a vs ∧ Reps P.K G (io ws) vs ds) : ItOk P (Ite P.K a) Ok (enumD 0 ds) where
  go := fun G H ws i d ok e => by
    obtain ⟨h1, h2⟩ := h G H ws ok
    obtain ⟨d', e1, _⟩ := enumD_get ds 0 i d e
    obtain ⟨v, hv, _⟩ := h2.getD e1
    exact ⟨vs, v, h1, hv⟩
  yl := fun G H ws w i d x H' ok s r e y => by
    obtain ⟨h1, h2⟩ := h G H ws ok
    obtain ⟨d', e1, rfl⟩ := enumD_get ds 0 i d e
    obtain ⟨v, hv, rp⟩ := h2.getD e1
    obtain ⟨T, u, rfl, hT, rfl, y⟩ := y
    have := y vs h1
    rw [hv] at this
    cases this
    have n := Nx.put s r (o := .tup [.int (i : Nat), v]) hT
    refine ⟨_, n, .tup (.inl (.inl upd_same)) (.cons ?_ (.cons (rp.mono n.gg (List.prefix_refl _)) .nil))⟩
    rw [Nat.zero_add]
    exact .int _
  st := fun G H ws ok => by
    obtain ⟨h1, h2⟩ := h G H ws ok
    exact ⟨vs, h1, by rw [h2.length, enumD_len]; exact Nat.le_refl _⟩
/-- a value's list, as it is walked -/
theorem rv_walk {H G H1 G1 : Hp} {ws ws1 : Ws} {w1 : W} {v : V} {m : Md} {ds : List D} (n : Nx P.K P.C G H ws G1 H1 ws1 w1) (r : RV P.K G1 H1 ws1 v ⟨m, .lst ds⟩) (k : NewOk H v ⟨m, .lst ds⟩) :
    ∃ a vs G2, v = .ref a ∧ H1 a = some (.lst vs) ∧ Nx P.K P.C G H ws G2 H1 ws1 w1 ∧ ∀ G' H' ws', OkA P (keepM ⟨m, .lst ds⟩) G2 H1 ws1 G' H' ws' → SqL P.K H' a vs ∧ Reps P.K G' (io ws') vs ds := by
  have fin : (m = .fz ∨ m = .nw) → ∃ a vs G2, v = .ref a ∧ H1 a = some (.lst vs) ∧ Nx P.K P.C G H ws G2 H1 ws1 w1 ∧ ∀ G' H' ws', OkF G2 ws1 G' H' ws' → SqL P.K H' a vs ∧ Reps P.K G' (io ws') vs ds := fun hm => by
    obtain ⟨G2, sg, n2, rp, _⟩ := freeze1 n r k hm
    cases rp with
    | lst q r2 => exact ⟨_, _, G2, rfl, n2.sub _ _ q, n2, fun G' H' ws' ⟨s1, s2, io⟩ => ⟨SqL.of (s2 _ _ (s1 _ _ q)), r2.mono s1 io⟩⟩
  cases m with
  | fz => exact fin (.inl rfl)
  | nw => exact fin (.inr rfl)
  | bo =>
    obtain ⟨a, rfl, g, nr, u⟩ := r
    cases u with
    | lst q r2 =>
      refine ⟨a, _, G1, rfl, q, n, fun G' H' ws' ok => ?_⟩
      obtain ⟨w', n', _⟩ : OkQ P G1 H1 ws1 G' H' ws' := ok
      exact ⟨SqL.of (n'.keep _ _ q nr), r2.mono n'.gg n'.io⟩
  | wd =>
    obtain ⟨a, rfl, g, hr, u⟩ := r
    cases u with
    | lst q r2 =>
      refine ⟨a, _, G1, rfl, q, n, fun G' H' ws' ok => ?_⟩
      obtain ⟨w', n', e⟩ : OkQ P G1 H1 ws1 G' H' ws' := ok
      exact ⟨SqL.of ((n'.qt e).2 a hr _ q), r2.mono n'.gg n'.io⟩
def iL (f : DE) : DI := fun ρ w => (f ρ w).bind fun x w => match x.d with
  | .lst ds => .ok (ds, keepM x) w
  | _ => .bad
def iT (f : DE) : DI := fun ρ w => (f ρ w).bind fun x w => match x.d with
  | .tup ds => .ok (ds, true) w
  | _ => .bad
def iE (f : DE) : DI := fun ρ w => (f ρ w).bind fun x w => match x.d with
  | .lst ds => .ok (enumD 0 ds, keepM x) w
  | _ => .bad
theorem ev_iL (ha : EvE P H0 Wi ta fa) : EvI P H0 Wi (iList P.K ta) (iL fa) := by
  intro σ H G ws ρ w Q st h
  unfold iL at h
  refine ha σ H G ws ρ w _ st ?_
  cases e : fa ρ w with
  | bad => rw [e] at h; exact h
  | ex x w' => rw [e] at h; exact h
  | ok x w' =>
    intro v H1 G1 ws1 n1 r1 k1
    rw [e] at h
    obtain ⟨m, d⟩ := x
    cases d <;> try exact h.elim
    obtain ⟨a, vs, G2, rfl, hH, n2, hp⟩ := rv_walk n1 r1 k1
    exact ⟨a, rfl, ⟨vs, SqL.of hH⟩, h (Itl P.K a) H1 G2 ws1 n2 (itl_ok hp)⟩
theorem ev_iT (ha : EvE P H0 Wi ta fa) : EvI P H0 Wi (iTup P.K ta) (iT fa) := by
  intro σ H G ws ρ w Q st h
  unfold iT at h
  refine ha σ H G ws ρ w _ st ?_
  cases e : fa ρ w with
  | bad => rw [e] at h; exact h
  | ex x w' => rw [e] at h; exact h
  | ok x w' =>
    intro v H1 G1 ws1 n1 r1 k1
    rw [e] at h
    obtain ⟨m, d⟩ := x
    cases d <;> try exact h.elim
    obtain ⟨a, vs, rfl, q0, q1, rs⟩ := rv_tup n1.sub r1
    exact ⟨a, rfl, ⟨vs, q1⟩, h (Itt P.K a) H1 G1 ws1 n1 (itt_ok fun G' H' ws' ⟨s1, s2, io⟩ => ⟨sqT_mono s2 (sqT_mono s1 q0), rs.mono s1 io⟩)⟩
theorem ev_iE (ha : EvE P H0 Wi ta fa) : EvI P H0 Wi (iEnum P.K (tCons ta tNil)) (iE fa) := by
  intro σ H G ws ρ w Q st h
  unfold iE at h
  refine ha σ H G ws ρ w _ st ?_
  cases e : fa ρ w with
  | bad => rw [e] at h; exact h
  | ex x w' => rw [e] at h; exact h
  | ok x w' =>
    intro v H1 G1 ws1 n1 r1 k1
    rw [e] at h
    obtain ⟨m, d⟩ := x
    cases d <;> try exact h.elim
    obtain ⟨a, vs, G2, rfl, hH, n2, hp⟩ := rv_walk n1 r1 k1
    exact ⟨a, vs, rfl, SqL.of hH, h (Ite P.K a) H1 G2 ws1 n2 (ite_ok hp)⟩
/-- range(j), range(i, j) -/
def rngD (lo : Int) (n : Nat) : List D := (List.range n).map fun (k : Nat) => .int (lo + (k : Int))
theorem itr_ok {Ok : Hp → Hp → Ws → Prop} (lo : Int) (n : Nat) : ItOk P (Itr lo n) Ok (rngD lo n) where
  go := fun G H ws i d ok e => by
    have := (List.getElem?_eq_some_iff.mp e).1
    show i < n
    simpa [rngD] using this
  yl := fun G H ws w i d x H' ok s r e y => by
    obtain ⟨rfl, rfl⟩ := y
    refine ⟨G, Nx.refl s r, ?_⟩
    have hi : i < n := by have := (List.getElem?_eq_some_iff.mp e).1; simpa [rngD] using this
    have : d = .int (lo + i) := by
      unfold rngD at e
      rw [List.getElem?_map, List.getElem?_range hi] at e
      exact (Option.some.inj e).symm
    rw [this]
    exact .int _
  st := fun G H ws ok => by
    show n ≤ (rngD lo n).length
    simp [rngD]
noncomputable def iR1 (f : DA) : DI := fun ρ w => (f ρ w).bind fun xs w => match xs with
  | [⟨_, .int j⟩] => if RO j then .ok (rngD 0 j.toNat, true) w else .bad
  | _ => .bad
noncomputable def iR2 (f : DA) : DI := fun ρ w => (f ρ w).bind fun xs w => match xs with
  | [⟨_, .int i⟩, ⟨_, .int j⟩] => if RO2 i j then .ok (rngD i (j - i).toNat, true) w else .bad
  | _ => .bad
theorem ev_iR1 (ha : EvA P H0 Wi tr fr) : EvI P H0 Wi (iRng1 tr) (iR1 fr) := by
  intro σ H G ws ρ w Q st h
  unfold iR1 at h
  refine ha σ H G ws ρ w _ st ?_
  cases e : fr ρ w with
  | bad => rw [e] at h; exact h
  | ex x w' => rw [e] at h; exact h
  | ok xs w' =>
    intro vs H1 G1 ws1 n1 r1 k1
    rw [e] at h
    match xs, r1, h with
    | [⟨m, .int j⟩], r1, h =>
      obtain ⟨v, rfl, hv⟩ := rvs1 r1
      have := rv_int hv
      subst this
      have h : PostI P (fun c d H' => Wi c d σ H') H G ws Q (if RO j then .ok (rngD 0 j.toNat, true) w' else .bad) := h
      split at h
      · rename_i hc
        exact ⟨j, rfl, hc.1, hc.2, h _ H1 G1 ws1 n1 (itr_ok 0 j.toNat)⟩
      · exact h.elim
theorem ev_iR2 (ha : EvA P H0 Wi tr fr) : EvI P H0 Wi (iRng2 tr) (iR2 fr) := by
  intro σ H G ws ρ w Q st h
  unfold iR2 at h
  refine ha σ H G ws ρ w _ st ?_
  cases e : fr ρ w with
  | bad => rw [e] at h; exact h
  | ex x w' => rw [e] at h; exact h
  | ok xs w' =>
    intro vs H1 G1 ws1 n1 r1 k1
    rw [e] at h
    match xs, r1, h with
    | [⟨m, .int i⟩, ⟨m2, .int j⟩], r1, h =>
      obtain ⟨v, u, rfl, hv, hu⟩ := rvs2 r1
      have e1 := rv_int hv
      have e2 := rv_int hu
      subst e1 e2
      have h : PostI P (fun c d H' => Wi c d σ H') H G ws Q (if RO2 i j then .ok (rngD i (j - i).toNat, true) w' else .bad) := h
      split at h
      · rename_i hc
        exact ⟨i, j, rfl, hc, h _ H1 G1 ws1 n1 (itr_ok i _)⟩
      · exact h.elim
/-- the signs of a text -/
def sgnD (x : Str) : List D := x.cps.toList.map fun c => .str ⟨#[c]⟩
theorem its_ok {Ok : Hp → Hp → Ws → Prop} (x : Str) : ItOk P (Its x) Ok (sgnD x) where
  go := fun G H ws i d ok e => by
    have := (List.getElem?_eq_some_iff.mp e).1
    show i < x.cps.size
    simpa [sgnD] using this
  yl := fun G H ws w i d v H' ok s r e y => by
    obtain ⟨rfl, c, hc, rfl⟩ := y
    refine ⟨G, Nx.refl s r, ?_⟩
    have : d = .str ⟨#[c]⟩ := by
      unfold sgnD at e
      rw [List.getElem?_map] at e
      have hc' : x.cps.toList[i]? = some c := by simpa using hc
      rw [hc'] at e
      exact (Option.some.inj e).symm
    rw [this]
    exact .str _
  st := fun G H ws ok => by
    show x.cps.size ≤ (sgnD x).length
    simp [sgnD]
def iS (f : DE) : DI := fun ρ w => (f ρ w).bind fun x w => match x.d with
  | .str z => .ok (sgnD z, true) w
  | _ => .bad
theorem ev_iS (ha : EvE P H0 Wi ta fa) : EvI P H0 Wi (iStr ta) (iS fa) := by
  intro σ H G ws ρ w Q st h
  unfold iS at h
  refine ha σ H G ws ρ w _ st ?_
  cases e : fa ρ w with
  | bad => rw [e] at h; exact h
  | ex x w' => rw [e] at h; exact h
  | ok x w' =>
    intro v H1 G1 ws1 n1 r1 k1
    rw [e] at h
    obtain ⟨m, d⟩ := x
    cases d <;> try exact h.elim
    have := rv_str r1
    subst this
    exact ⟨_, rfl, h _ H1 G1 ws1 n1 (its_ok _)⟩
/-! ### targets -/
inductive Tg where
  | nm (i : Nat) | tp (is : List Nat)
def gT (K : PySem.W.Frag) : Tg → TG
  | .nm i => gName i
  | .tp is => gTup K is.length (gNames is)
def setT : Tg → D → Env → Option Env
  | .nm i, d, ρ => some (ρ.set i (some (fz d)))
  | .tp is, .tup ds, ρ => if is.length = ds.length then some (setAll is ds ρ) else none
  | .tp _, _, _ => none
theorem ev_tg {e : En} {H G : Hp} {ws : Ws} {w : W} {σ : L2.St} {ρ ρ' : Env} {t : Tg} {v : V} {d : D} (st : St P.K P.C e σ H G ws ρ w) (r : Rep P.K G (io ws) v d) (h : setT t d ρ = some ρ') {Q : L2.St → Hp → Prop} (k : ∀ σ', St P.K P.C e σ' H G ws ρ' w → Q σ' H) : gT P.K t v σ H Q := by
  cases t with
  | nm i =>
    simp only [setT, Option.some.injEq] at h
    subst h
    exact k _ (st.set (x := fz d) (i := i) st.nx r fz_nw (.inl rfl))
  | tp is =>
    cases r <;> try (simp [setT] at h; done)
    rename_i a vs ds q rs
    simp only [setT] at h
    split at h
    · rename_i hl
      cases h
      exact ⟨a, vs, rfl, sqT_mono st.sub q, by rw [rs.length, hl], St.setAll st rs hl _ k⟩
    · cases h
/-! ### for -/
/-- the rest of a loop -/
def forL (t : Tg) (b : DS) : List D → Env → W → Out
  | [], ρ, w => .next ρ w
  | d :: ds, ρ, w => match setT t d ρ with
    | none => .bad
    | some ρ' => match b ρ' w with
      | .next ρ2 w2 => forL t b ds ρ2 w2
      | .cont ρ2 w2 => forL t b ds ρ2 w2
      | .brk ρ2 w2 => .next ρ2 w2
      | o => o
def sFor (f : DI) (t : Tg) (b : DS) : DS := fun ρ w => (f ρ w).thn ρ fun x w => if x.2 then forL t b x.1 ρ w else .bad
theorem ev_for {ti : TI} {fi : DI} {t : Tg} (hi : EvI P H0 Wi ti fi) (hb : EvS P H0 Wi ts gs) : EvS P H0 Wi (tFor ti (gT P.K t) ts) (sFor fi t gs) := by
  intro σ H G ws ρ w D st h
  unfold sFor at h
  refine hi σ H G ws ρ w _ st ?_
  cases e : fi ρ w with
  | bad => rw [e] at h; exact h
  | ex x w' => rw [e] at h; exact fun cls d H' G' ws' n hx => h cls d σ H' G' ws' (st.next n) hx
  | ok x w' =>
    intro J H1 G1 ws1 n1 ok
    rw [e] at h
    obtain ⟨ds, fr⟩ := x
    have h : PostS P H0 Wi D G ws (if fr = true then forL t gs ds ρ w' else .bad) := h
    cases fr with
    | false => exact h.elim
    | true =>
      have h : PostS P H0 Wi D G1 ws1 (forL t gs ds ρ w') := PostS.after n1.mon h
      have ok : ItOk P J (OkF G1 ws1) ds := ok
      -- the invariant: what is left to be run ends as the whole does
      refine ⟨fun i m σ' H' => m = ds.length - i ∧ i ≤ ds.length ∧ ∃ G' ws' ρ' w2, St P.K P.C H0 σ' H' G' ws' ρ' w2 ∧ Mon G1 ws1 G' ws' ∧ PostS P H0 Wi D G' ws' (forL t gs (ds.drop i) ρ' w2), ⟨ds.length, by simp, Nat.zero_le _, G1, ws1, ρ, w', st.next n1, .refl, h⟩, ?_⟩
      rintro i m σ' H' ⟨rfl, hi, G', ws', ρ', w2, st', mo, hp⟩
      by_cases hlt : i < ds.length
      · have ed : ds[i]? = some ds[i] := by simp [hlt]
        have edrop : ds.drop i = ds[i] :: ds.drop (i + 1) := List.drop_eq_getElem_cons hlt
        rw [edrop] at hp
        simp only [forL] at hp
        refine .inr ⟨ok.go G' H' ws' i _ ⟨mo.1, st'.sub, mo.2⟩ ed, fun σ3 H3 => ds.length - (i + 1) = ds.length - (i + 1) ∧ i + 1 ≤ ds.length ∧ ∃ G' ws' ρ' w2, St P.K P.C H0 σ3 H3 G' ws' ρ' w2 ∧ Mon G1 ws1 G' ws' ∧ PostS P H0 Wi D G' ws' (forL t gs (ds.drop (i + 1)) ρ' w2), fun σ3 H3 hn => ⟨ds.length - (i + 1), by omega, hn⟩, fun v H2 y => ?_⟩
        obtain ⟨G2, n2, rp⟩ := ok.yl G' H' ws' w2 i _ v H2 ⟨mo.1, st'.sub, mo.2⟩ st'.sub st'.rw ed y
        cases es : setT t ds[i] ρ' with
        | none => rw [es] at hp; exact hp.elim
        | some ρ3 =>
          rw [es] at hp
          dsimp only at hp
          refine ev_tg (st'.next n2) rp es fun σ3 st3 => ?_
          refine hb σ3 H2 G2 ws' ρ3 w2 _ st3 ?_
          have mo2 : Mon G1 ws1 G2 ws' := mo.trans n2.mon
          cases eb : gs ρ3 w2 with
          | bad => rw [eb] at hp; exact hp
          | ex x ρ4 w4 => rw [eb] at hp; exact hp
          | ret x w4 => rw [eb] at hp; exact hp
          | brk ρ4 w4 =>
            rw [eb] at hp
            exact fun σ4 H4 G4 ws4 st4 m4 => hp σ4 H4 G4 ws4 st4 (n2.mon.trans m4)
          | next ρ4 w4 =>
            rw [eb] at hp
            exact fun σ4 H4 G4 ws4 st4 m4 => ⟨rfl, hlt, G4, ws4, ρ4, w4, st4, mo2.trans m4, PostS.after (n2.mon.trans m4) hp⟩
          | cont ρ4 w4 =>
            rw [eb] at hp
            exact fun σ4 H4 G4 ws4 st4 m4 => ⟨rfl, hlt, G4, ws4, ρ4, w4, st4, mo2.trans m4, PostS.after (n2.mon.trans m4) hp⟩
      · have ei : i = ds.length := by omega
        subst ei
        refine .inl ⟨ok.st G' H' ws' ⟨mo.1, st'.sub, mo.2⟩, ?_⟩
        rw [List.drop_length] at hp
        exact hp σ' H' G' ws' st' .refl
end
end DL

namespace DL
open PySem L2
section
variable {P : Pm} {H0 : En} {Wi : WX} {ta tb tc : TE} {fa fb fc : DE} {ts us : TS} {gs hs : DS} {tA : TT} {fA : DT}
theorem ItOk.weak {J : It} {fr : Bool} {G1 H1 : Hp} {ws1 : Ws} {ds : List D} (h : ItOk P J (OkA P fr G1 H1 ws1) ds) : ItOk P J (OkQ P G1 H1 ws1) ds := by
  cases fr with
  | false => exact h
  | true =>
    have h : ItOk P J (OkF G1 ws1) ds := h
    have go : ∀ {G H ws}, OkQ P G1 H1 ws1 G H ws → OkF G1 ws1 G H ws := fun ⟨w, n, _⟩ => ⟨n.gg, n.sub, n.io⟩
    exact ⟨fun G H ws i d ok => h.go G H ws i d (go ok), fun G H ws w i d x H' ok => h.yl G H ws w i d x H' (go ok), fun G H ws ok => h.st G H ws (go ok)⟩
/-! ### comprehensions -/
def wipeD (ρ : Env) : List Nat → Env
  | [] => ρ
  | v :: vs => (wipeD ρ vs).set v none
theorem wipeD_length (ρ : Env) : ∀ vs : List Nat, (wipeD ρ vs).length = ρ.length
  | [] => rfl
  | v :: vs => by unfold wipeD; rw [List.length_set, wipeD_length ρ vs]
theorem St.drop {K : PySem.W.Frag} {C : Addr} {e : En} {σ : L2.St} {H G : Hp} {ws : Ws} {ρ : Env} {w : W} (st : St K C e σ H G ws ρ w) (i : Nat) : St K C e (σ.set i none) H G ws (ρ.set i none) w := by
  have key : ∀ {j : Nat} {x : Val}, (ρ.set i none)[j]? = some (some x) → ρ[j]? = some (some x) ∧ i ≠ j := fun {j x} h => by
    by_cases hj : i = j
    · subst hj
      rw [List.getElem?_set, if_pos rfl] at h
      split at h <;> cases h
    · rw [List.getElem?_set_ne hj] at h
      exact ⟨h, hj⟩
  refine ⟨st.nx0, by rw [List.length_set, List.length_set]; exact st.len, fun j x h => ?_, fun j x a h hm ea => ?_, fun j l x y a hj hl hx hy aj al => ?_⟩
  · obtain ⟨h1, h2⟩ := key h
    rw [List.getElem?_set_ne h2]
    exact st.sl j x h1
  · obtain ⟨h1, h2⟩ := key h
    rw [List.getElem?_set_ne h2] at ea
    exact st.own j x a h1 hm ea
  · obtain ⟨h1, h2⟩ := key hj
    obtain ⟨h3, h4⟩ := key hl
    rw [List.getElem?_set_ne h2] at aj
    rw [List.getElem?_set_ne h4] at al
    exact st.ap j l x y a h1 h3 hx hy aj al
theorem St.wipe {K : PySem.W.Frag} {C : Addr} {e : En} {σ : L2.St} {H G : Hp} {ws : Ws} {ρ : Env} {w : W} (st : St K C e σ H G ws ρ w) : ∀ vs : List Nat, St K C e (L2.wipe σ vs) H G ws (wipeD ρ vs) w
  | [] => st
  | v :: vs => (St.wipe st vs).drop v
theorem set_none_set {α : Type} (l : List (Option α)) (i j : Nat) (x : Option α) (h : i = j) : (l.set i x).set j none = l.set j none := by subst h; simp
/-- what is stored into slots of vs does not count behind wipe -/
theorem wipe_set {σ : L2.St} {i : Nat} {x : Option V} : ∀ {vs : List Nat}, i ∈ vs → L2.wipe (σ.set i x) vs = L2.wipe σ vs
  | v :: vs, h => by
    unfold L2.wipe
    by_cases e : i = v
    · subst e
      by_cases hm : i ∈ vs
      · rw [wipe_set hm]
      · have go : ∀ (ws : List Nat), i ∉ ws → L2.wipe (σ.set i x) ws = (L2.wipe σ ws).set i x := by
          intro ws
          induction ws with
          | nil => intro _; rfl
          | cons u us ih =>
            intro hn
            unfold L2.wipe
            rw [ih (fun z => hn (List.mem_cons_of_mem _ z)), List.set_comm]
            intro z
            exact hn (by rw [z]; exact List.mem_cons_self)
        rw [go vs hm]
        simp
    · rw [wipe_set ((List.mem_cons.mp h).resolve_left e)]
theorem wipe_wipe {σ : L2.St} : ∀ (us vs : List Nat), (∀ i ∈ us, i ∈ vs) → L2.wipe (L2.wipe σ us) vs = L2.wipe σ vs
  | [], _, _ => rfl
  | u :: us, vs, h => by
    show L2.wipe ((L2.wipe σ us).set u none) vs = _
    rw [wipe_set (h u List.mem_cons_self)]
    exact wipe_wipe us vs fun i hi => h i (List.mem_cons_of_mem _ hi)
def tgs : Tg → List Nat
  | .nm i => [i]
  | .tp is => is
theorem gNames_w {is : List Nat} {σ : L2.St} {H : Hp} {Q : L2.St → Hp → Prop} {vs : List Nat} : ∀ {us : List V}, (∀ i ∈ is, i ∈ vs) → gNames is us σ H Q → gNames is us σ H (fun σ' H' => L2.wipe σ' vs = L2.wipe σ vs ∧ Q σ' H') := by
  induction is generalizing σ with
  | nil => intro us _ h; exact ⟨h.1, rfl, h.2⟩
  | cons i is ih =>
    intro us hs h
    obtain ⟨v, r, e, h⟩ := h
    refine ⟨v, r, e, ?_⟩
    have := ih (σ := σ.set i (some v)) (us := r) (fun j hj => hs j (List.mem_cons_of_mem _ hj)) h
    rw [wipe_set (hs i List.mem_cons_self)] at this
    exact this
theorem gT_w {K : PySem.W.Frag} {t : Tg} {v : V} {σ : L2.St} {H : Hp} {Q : L2.St → Hp → Prop} {vs : List Nat} (hs : ∀ i ∈ tgs t, i ∈ vs) (h : gT K t v σ H Q) : gT K t v σ H (fun σ' H' => L2.wipe σ' vs = L2.wipe σ vs ∧ Q σ' H') := by
  cases t with
  | nm i => exact ⟨wipe_set (hs i (by simp [tgs])), h⟩
  | tp is =>
    obtain ⟨a, xs, e, q, l, h⟩ := h
    exact ⟨a, xs, e, q, l, gNames_w hs h⟩
/-- the rest of a comprehension: what it makes; the world stays -/
def lcL (t : Tg) (c : DT) (f : DE) : List D → Env → W → R (List D)
  | [], _, w => .ok [] w
  | d :: ds, ρ, w => match setT t d ρ with
    | none => .bad
    | some ρ' => match c ρ' w with
      | .ok b w2 => if w2.n = w.n then (if b then (match f ρ' w2 with
        | .ok x w3 => if keepM x ∧ w3.n = w.n then (match lcL t c f ds ρ w3 with
          | .ok r w4 => .ok (x.d :: r) w4
          | _ => .bad) else .bad
        | _ => .bad) else lcL t c f ds ρ w2) else .bad
      | _ => .bad
def tYesD : DT := fun _ w => .ok true w
def dLc (fi : DI) (t : Tg) (c : DT) (f : DE) (vs : List Nat) : DE := fun ρ w => (fi ρ w).bind fun x w1 => if x.1.length ≤ sizeLine then (match lcL t c f x.1 (wipeD ρ vs) w1 with
  | .ok r w2 => .ok ⟨.nw, .lst r⟩ w2
  | _ => .bad) else .bad
theorem ev_yes : EvT P H0 Wi tYes tYesD := fun σ H G ws ρ w Q st h => h H G ws st.nx
theorem ev_lc {ti : TI} {fi : DI} {t : Tg} {vs : List Nat} (hi : EvI P H0 Wi ti fi) (hc : EvT P H0 (fun _ _ _ _ => False) tA fA) (he : EvE P H0 (fun _ _ _ _ => False) ta fa) (hv : ∀ i ∈ tgs t, i ∈ vs) : EvE P H0 Wi (tLc ti (gT P.K t) tA ta vs) (dLc fi t fA fa vs) := by
  intro σ H G ws ρ w Q st h
  unfold dLc at h
  refine hi σ H G ws ρ w _ st ?_
  cases e : fi ρ w with
  | bad => rw [e] at h; exact h
  | ex x w' => rw [e] at h; exact h
  | ok x w' =>
    intro J H1 G1 ws1 n1 ok D hD
    rw [e] at h
    obtain ⟨ds, fr⟩ := x
    have ok := ok.weak
    have h : PostE P (fun c d H' => Wi c d σ H') H G ws Q (if ds.length ≤ sizeLine then (match lcL t fA fa ds (wipeD ρ vs) w' with | .ok r w2 => .ok ⟨.nw, .lst r⟩ w2 | _ => .bad) else .bad) := h
    have hsz : ds.length ≤ sizeLine := Classical.byContradiction fun hsz => by rw [if_neg hsz] at h; exact h
    rw [if_pos hsz] at h
    cases er : lcL t fA fa ds (wipeD ρ vs) w' with
    | bad => rw [er] at h; exact h.elim
    | ex x w2 => rw [er] at h; exact h.elim
    | ok r w2 =>
      rw [er] at h
      dsimp only at h
      have gD : G1 D = none := n1.sub.free hD
      -- the invariant
      refine ⟨fun i m H' => m = ds.length - i ∧ i ≤ ds.length ∧ ∃ G' ws' w3 acc made rest, Nx P.K P.C G1 H1 ws1 G' H' ws' w3 ∧ ws'.n = ws1.n ∧ H' D = some (.lst acc) ∧ G' D = none ∧ D ∉ regs ws' ∧ acc.length ≤ i ∧ Reps P.K G' (io ws') acc made ∧ lcL t fA fa (ds.drop i) (wipeD ρ vs) w3 = .ok rest w2 ∧ made ++ rest = r, ⟨ds.length, by simp, Nat.zero_le _, G1, ws1, w', [], [], r, Nx.new n1.sub n1.rw hD, rfl, upd_same, gD, fun hr => ?_, Nat.le_refl _, .nil, er, rfl⟩, ?_⟩
      · have := reg_there n1.rw hr
        rw [hD] at this; cases this
      rintro i m H' ⟨rfl, hi, G', ws', w3, acc, made, rest, n, cnt, hDD, gD', rD', hacc, rs, el, em⟩
      have stw : St P.K P.C H0 (L2.wipe σ vs) H' G' ws' (wipeD ρ vs) w3 := ((st.next n1).next n).wipe vs
      have okq : OkQ P G1 H1 ws1 G' H' ws' := ⟨w3, n, cnt⟩
      by_cases hlt : i < ds.length
      · have ed : ds[i]? = some ds[i] := by simp [hlt]
        have edrop : ds.drop i = ds[i] :: ds.drop (i + 1) := List.drop_eq_getElem_cons hlt
        rw [edrop] at el
        simp only [lcL] at el
        cases es : setT t ds[i] (wipeD ρ vs) with
        | none => rw [es] at el; cases el
        | some ρ' =>
          rw [es] at el
          dsimp only at el
          refine .inr ⟨ok.go G' H' ws' i _ okq ed, fun H'' => i + 1 ≤ ds.length ∧ ∃ G' ws' w3 acc made rest, Nx P.K P.C G1 H1 ws1 G' H'' ws' w3 ∧ ws'.n = ws1.n ∧ H'' D = some (.lst acc) ∧ G' D = none ∧ D ∉ regs ws' ∧ acc.length ≤ i + 1 ∧ Reps P.K G' (io ws') acc made ∧ lcL t fA fa (ds.drop (i + 1)) (wipeD ρ vs) w3 = .ok rest w2 ∧ made ++ rest = r, fun H'' hn => ⟨ds.length - (i + 1), by omega, rfl, hn⟩, fun v H2 y => ?_⟩
          obtain ⟨G2, n2, rp⟩ := ok.yl G' H' ws' w3 i _ v H2 okq stw.sub stw.rw ed y
          have hg := ev_tg (stw.next n2) rp es (Q := fun σ2 _ => St P.K P.C H0 σ2 H2 G2 ws' ρ' w3) fun σ2 st2 => st2
          have hg := gT_w hv hg
          have mono : ∀ {v : V} {σ0 : L2.St} {H0' : Hp} {Q1 Q2 : L2.St → Hp → Prop}, (∀ s, Q1 s H0' → Q2 s H0') → gT P.K t v σ0 H0' Q1 → gT P.K t v σ0 H0' Q2 := by
            intro v σ0 H0' Q1 Q2 hq hh
            cases t with
            | nm j => exact hq _ hh
            | tp is =>
              obtain ⟨a, xs, e, q, l, hh⟩ := hh
              refine ⟨a, xs, e, q, l, ?_⟩
              have go : ∀ (is : List Nat) (xs : List V) (σ0 : L2.St), gNames is xs σ0 H0' Q1 → gNames is xs σ0 H0' Q2 := by
                intro is
                induction is with
                | nil => intro xs σ0 hh; exact ⟨hh.1, hq _ hh.2⟩
                | cons j js ih =>
                  intro xs σ0 hh
                  obtain ⟨v, r, e, hh⟩ := hh
                  exact ⟨v, r, e, ih _ _ hh⟩
              exact go is xs σ0 hh
          refine mono (fun σ2 hσ => ?_) hg
          obtain ⟨hw, st2⟩ := hσ
          refine ⟨by rw [hw]; exact wipe_wipe vs vs fun _ h => h, ?_⟩
          refine hc σ2 H2 G2 ws' ρ' w3 _ st2 ?_
          cases ec : fA ρ' w3 with
          | bad => rw [ec] at el; cases el
          | ex x w4 => rw [ec] at el; cases el
          | ok b w4 =>
            rw [ec] at el
            dsimp only at el
            intro H3 G3 ws3 n3
            have hn4 : w4.n = w3.n := Classical.byContradiction fun z => by rw [if_neg z] at el; cases el
            rw [if_pos hn4] at el
            have n23 := n2.trans n3
            have c3 : ws3.n = ws1.n := (n23.same stw.rw hn4).trans cnt
            have d3 : H3 D = some (.lst acc) := n23.keep D _ hDD rD'
            have g3 : G3 D = none := n23.nocap D (by rw [hDD]; rfl) gD'
            have r3 : D ∉ regs ws3 := fun hr => by
              rcases n23.fresh D hr with z | z
              · exact rD' z
              · rw [hDD] at z; cases z
            cases b with
            | false =>
              refine iteF ?_
              exact ⟨hlt, G3, ws3, w4, acc, made, rest, n.trans n23, c3, d3, g3, r3, by omega, rs.mono n23.gg n23.io, el, em⟩
            | true =>
              refine iteT ?_
              rw [if_pos rfl] at el
              refine he σ2 H3 G3 ws3 ρ' w4 _ (st2.next n3) ?_
              cases ee : fa ρ' w4 with
              | bad => rw [ee] at el; cases el
              | ex x w5 => rw [ee] at el; cases el
              | ok x w5 =>
                rw [ee] at el
                dsimp only at el
                intro u H4 G4 ws4 n4 r4 k4
                have hx : keepM x = true ∧ w5.n = w3.n := Classical.byContradiction fun z => by rw [if_neg z] at el; cases el
                rw [if_pos hx] at el
                cases el2 : lcL t fA fa (ds.drop (i + 1)) (wipeD ρ vs) w5 with
                | bad => rw [el2] at el; cases el
                | ex z w6 => rw [el2] at el; cases el
                | ok rest' w6 =>
                  rw [el2] at el
                  simp only [R.ok.injEq] at el
                  obtain ⟨e1, rfl⟩ := el
                  have n24 := n23.trans n4
                  have nn := n.trans n24
                  have c4 : ws4.n = ws1.n := (n24.same stw.rw hx.2).trans cnt
                  have d4 : H4 D = some (.lst acc) := n24.keep D _ hDD rD'
                  have g4 : G4 D = none := n24.nocap D (by rw [hDD]; rfl) gD'
                  have r4' : D ∉ regs ws4 := fun hr => by
                    rcases n24.fresh D hr with z | z
                    · exact rD' z
                    · rw [hDD] at z; cases z
                  obtain ⟨G5, s5, n5, rp5, f5⟩ := freeze1 nn r4 (newOk_back (P := P) (n.trans n23) k4) (keepM_of hx.1)
                  have g5 : G5 D = none := f5 D (fun hm ev => by
                    have := k4 hm D ev
                    rw [d3] at this; cases this) g4
                  refine ⟨acc, d4, by omega, hlt, G5, ws4, w5, acc ++ [u], made ++ [x.d], rest', ?_, c4, upd_same, g5, r4', by rw [List.length_append]; simp; omega, (rs.mono (n24.gg.trans s5) n24.io).append (.cons rp5 .nil), el2, by rw [← em, ← e1]; simp⟩
                  -- the list at D has grown
                  have hne : ∀ b o, H4 b = some o → b ≠ D → upd H4 D (.lst (acc ++ [u])) b = some o := fun b o h n => by rw [upd_ne n]; exact h
                  have nreg : ∀ b ∈ regs ws4, b ≠ D := fun b hb z => r4' (by rw [← z]; exact hb)
                  refine ⟨n5.gg, fun b o h => hne b o (n5.sub b o h) (ne_of_none h g5), ⟨paired_imp n5.rw.obs fun q o hq ⟨⟨dx, e⟩, p⟩ => ⟨⟨dx, hne _ _ e (nreg _ (regs_mem hq).1)⟩, paired_imp p fun y z hy ⟨e, f⟩ => ⟨e, f.move (fun _ _ h => h) (List.prefix_refl _) fun b o eb hb => hne b o hb (nreg b ((regs_mem hq).2 b (refs_mem hy eb)))⟩⟩, n5.rw.nn, n5.rw.nd, n5.rw.out⟩, fun b o h nr => hne b o (n5.keep b o h nr) (ne_of_none h hD), fun b h => ?_, n5.nocap, n5.io, n5.fresh, n5.le, fun h => ?_⟩
                  · by_cases hb : b = D
                    · rw [hb, upd_same]; rfl
                    · rw [upd_ne hb]; exact n5.alive b h
                  · obtain ⟨e2, k⟩ := n5.qt h
                    exact ⟨e2, fun b hb o h => hne b o (k b hb o h) (ne_of_none h hD)⟩
      · have ei : i = ds.length := by omega
        subst ei
        rw [List.drop_length] at el
        simp only [lcL, R.ok.injEq] at el
        obtain ⟨e1, rfl⟩ := el
        subst e1
        rw [List.append_nil] at em
        subst em
        refine .inl ⟨ok.st G' H' ws' okq, h (.ref D) H' G' ws' (n1.trans n) ⟨D, rfl, gD', rD', .lst hDD rs⟩ (fun _ a ea => ?_)⟩
        cases ea
        cases q : H D with
        | none => rfl
        | some o =>
          have z := n1.alive D (by rw [q]; rfl)
          rw [hD] at z; cases z
end
end DL

namespace DL
open PySem L2
section
variable {P : Pm} {H0 : En} {Wi : WX} {ta tb tc : TE} {fa fb fc : DE} {ts us : TS} {gs hs : DS} {tA : TT} {fA : DT} {tr : TA} {fr : DA}
/-! ### while -/
def whileL (c : DT) (b : DS) : Nat → Env → W → Out
  | 0, _, _ => .bad
  | n + 1, ρ, w => (c ρ w).thn ρ fun t w => if t then (match b ρ w with
    | .next ρ2 w2 => whileL c b n ρ2 w2
    | .cont ρ2 w2 => whileL c b n ρ2 w2
    | .brk ρ2 w2 => .next ρ2 w2
    | o => o) else .next ρ w
theorem ev_while {n : Nat} (hc : EvT P H0 Wi tA fA) (hb : EvS P H0 Wi ts gs) : EvS P H0 Wi (tWhile tA ts) (whileL fA gs n) := by
  intro σ H G ws ρ w D st h
  refine ⟨fun m σ' H' => ∃ G' ws' ρ' w', St P.K P.C H0 σ' H' G' ws' ρ' w' ∧ PostS P H0 Wi D G' ws' (whileL fA gs m ρ' w'), ⟨n, G, ws, ρ, w, st, h⟩, ?_⟩
  rintro m σ' H' ⟨G', ws', ρ', w', st', hp⟩
  cases m with
  | zero => exact hp.elim
  | succ m =>
    unfold whileL at hp
    refine hc σ' H' G' ws' ρ' w' _ st' (postT_of st' hp fun b w2 _ hp H1 G1 ws1 n1 => ?_)
    cases b with
    | false => exact iteF (hp σ' H1 G1 ws1 (st'.next n1) n1.mon)
    | true =>
      refine iteT ?_
      rw [if_pos rfl] at hp
      refine ⟨fun σ3 H3 => ∃ G' ws' ρ' w', St P.K P.C H0 σ3 H3 G' ws' ρ' w' ∧ PostS P H0 Wi D G' ws' (whileL fA gs m ρ' w'), fun σ3 H3 h3 => ⟨m, Nat.lt_succ_self _, h3⟩, ?_⟩
      refine hb σ' H1 G1 ws1 ρ' w2 _ (st'.next n1) ?_
      cases eb : gs ρ' w2 with
      | bad => rw [eb] at hp; exact hp
      | ex x ρ4 w4 => rw [eb] at hp; exact hp
      | ret x w4 => rw [eb] at hp; exact hp
      | brk ρ4 w4 =>
        rw [eb] at hp
        exact fun σ4 H4 G4 ws4 st4 m4 => hp σ4 H4 G4 ws4 st4 (n1.mon.trans m4)
      | next ρ4 w4 =>
        rw [eb] at hp
        exact fun σ4 H4 G4 ws4 st4 m4 => ⟨G4, ws4, ρ4, w4, st4, PostS.after (n1.mon.trans m4) hp⟩
      | cont ρ4 w4 =>
        rw [eb] at hp
        exact fun σ4 H4 G4 ws4 st4 m4 => ⟨G4, ws4, ρ4, w4, st4, PostS.after (n1.mon.trans m4) hp⟩
/-! ### a, b = x, y -/
theorem St.set' {K : PySem.W.Frag} {C : Addr} {e : En} {σ : L2.St} {H G : Hp} {ws : Ws} {ρ : Env} {w : W} {i : Nat} {v : V} {x : Val} (st : St K C e σ H G ws ρ w) (r : RV K G H ws v x) (hm : x.m = .fz ∨ x.m = .nw) (k0 : x.m = .nw → ∀ a, v = .ref a → e.H a = none)
    (ka : x.m = .nw → ∀ (j : Nat) y, ρ[j]? = some (some y) → y.m = .nw → σ[j]? ≠ some (some v)) : St K C e (σ.set i (some v)) H G ws (ρ.set i (some x)) w := by
  refine ⟨st.nx0, by rw [List.length_set, List.length_set]; exact st.len, fun j y e => ?_, fun j y a e hy ea => ?_, fun j l y z a ej el hy hz aj al => ?_⟩
  · by_cases hj : i = j
    · subst hj
      rw [List.getElem?_set, if_pos rfl] at e ⊢
      split at e
      · rename_i hl
        rw [if_pos (by rw [st.len]; exact hl)]
        cases e
        exact ⟨v, rfl, r, hm⟩
      · cases e
    · rw [List.getElem?_set_ne hj] at e ⊢
      exact st.sl j y e
  · by_cases hj : i = j
    · subst hj
      rw [List.getElem?_set, if_pos rfl] at e ea
      split at e
      · rename_i hl
        rw [if_pos (by rw [st.len]; exact hl)] at ea
        cases e
        cases ea
        exact k0 hy a rfl
      · cases e
    · rw [List.getElem?_set_ne hj] at e ea
      exact st.own j y a e hy ea
  · by_cases hj : i = j
    · by_cases hl : i = l
      · rw [← hj, ← hl]
      · exfalso
        subst hj
        rw [List.getElem?_set_ne hl] at el al
        rw [List.getElem?_set, if_pos rfl] at ej aj
        split at ej
        · rename_i hlt
          rw [if_pos (by rw [st.len]; exact hlt)] at aj
          cases ej
          cases aj
          exact ka hy l z el hz al
        · cases ej
    · by_cases hl : i = l
      · exfalso
        subst hl
        rw [List.getElem?_set_ne hj] at ej aj
        rw [List.getElem?_set, if_pos rfl] at el al
        split at el
        · rename_i hlt
          rw [if_pos (by rw [st.len]; exact hlt)] at al
          cases el
          cases al
          exact ka hz j y ej hy aj
        · cases el
      · rw [List.getElem?_set_ne hj] at ej aj
        rw [List.getElem?_set_ne hl] at el al
        exact st.ap j l y z a ej el hy hz aj al
def setVs : List Nat → List V → L2.St → L2.St
  | i :: is, v :: vs, σ => setVs is vs (σ.set i (some v))
  | _, _, σ => σ
def setXs : List Nat → List Val → Env → Env
  | i :: is, x :: xs, ρ => setXs is xs (ρ.set i (some x))
  | _, _, ρ => ρ
theorem St.setXs {K : PySem.W.Frag} {C : Addr} {e : En} {H G : Hp} {ws : Ws} {w : W} : ∀ {is : List Nat} {vs : List V} {xs : List Val} {σ : L2.St} {ρ : Env}, St K C e σ H G ws ρ w → RVs K G H ws vs xs → NewsOk e.H vs xs → xs.all keepM = true →
    (∀ (i : Nat) x, xs[i]? = some x → x.m = .nw → ∀ (j : Nat) y v, ρ[j]? = some (some y) → y.m = .nw → vs[i]? = some v → σ[j]? ≠ some (some v)) → St K C e (setVs is vs σ) H G ws (DL.setXs is xs ρ) w
  | [], _, _, _, _, st, _, _, _, _ => st
  | _ :: _, _, _, _, _, st, .nil, _, _, _ => st
  | i :: is, _, _, σ, ρ, st, .cons (v := v) (x := x) (vs := vs) (xs := xs) r rs, k, hm, ka => by
    rw [List.all_cons, Bool.and_eq_true] at hm
    have st1 := st.set' (i := i) r (keepM_of hm.1) (fun hx a ea => k.1 hx a ea) (fun hx j y ej hy => ka 0 x rfl hx j y v ej hy rfl)
    refine St.setXs (is := is) st1 rs k.2.2 hm.2 fun l y el hy j z u ej hz eu => ?_
    by_cases hj : i = j
    · subst hj
      rw [List.getElem?_set, if_pos rfl] at ej
      split at ej
      · cases ej
        intro q
        rw [List.getElem?_set, if_pos rfl] at q
        split at q
        · cases q
          exact k.2.1 hz l y el hy eu
        · cases q
      · cases ej
    · rw [List.getElem?_set_ne hj] at ej ⊢
      exact ka (l + 1) y (by simpa using el) hy j z u ej hz (by simpa using eu)
theorem newsOk_get {H : Hp} : ∀ {vs : List V} {xs : List Val} (i : Nat) {x : Val} {a : Addr}, NewsOk H vs xs → xs[i]? = some x → x.m = .nw → vs[i]? = some (.ref a) → H a = none
  | [], _, _, _, _, _, _, _, e => by simp at e
  | _ :: _, [], _, _, _, _, e, _, _ => by simp at e
  | _ :: _, _ :: _, 0, _, _, k, e, hm, ev => by simp at e ev; subst e ev; exact k.1 hm _ rfl
  | _ :: _, _ :: _, i + 1, _, _, k, e, hm, ev => newsOk_get i k.2.2 (by simpa using e) hm (by simpa using ev)
/-- the state behind several stores at once -/
theorem St.setAllX {e : En} {σ : L2.St} {H G : Hp} {ws : Ws} {ρ : Env} {w : W} {H1 G1 : Hp} {ws1 : Ws} {w1 : W} {vs : List V} {xs : List Val} (is : List Nat) (st : St P.K P.C e σ H G ws ρ w) (n : Nx P.K P.C G H ws G1 H1 ws1 w1) (r : RVs P.K G1 H1 ws1 vs xs) (k : NewsOk H vs xs) (hm : xs.all keepM = true) :
    St P.K P.C e (setVs is vs σ) H1 G1 ws1 (DL.setXs is xs ρ) w1 := by
  refine St.setXs (st.next n) r (newsOk_back (P := P) st.nx0 k) hm fun i x ex hx j y v ej hy ev ea => ?_
  obtain ⟨u, h1, h2, _⟩ := st.sl j y ej
  rw [ea] at h1
  cases h1
  obtain ⟨m, d⟩ := y
  simp only at hy
  subst hy
  obtain ⟨b, eb, _, _, un⟩ := h2
  subst eb
  obtain ⟨o, ho, _⟩ := un.there
  have := newsOk_get i k ex hx ev
  rw [ho] at this; cases this
def sParX (is : List Nat) (f : DA) : DS := fun ρ w => (f ρ w).thn ρ fun xs w => if is.length = xs.length ∧ xs.all keepM then .next (setXs is xs ρ) w else .bad
theorem RVs.length {K : PySem.W.Frag} {G H : Hp} {ws : Ws} : ∀ {vs : List V} {xs : List Val}, RVs K G H ws vs xs → vs.length = xs.length
  | _, _, .nil => rfl
  | _, _, .cons _ b => by rw [List.length_cons, List.length_cons, RVs.length b]
theorem ev_par {i j : Nat} (ha : EvA P H0 Wi tr fr) : EvS P H0 Wi (tPar i j tr) (sParX [i, j] fr) := by
  intro σ H G ws ρ w D st h
  unfold sParX at h
  refine ha σ H G ws ρ w _ st (postA_of st h fun xs w' _ h vs H1 G1 ws1 n r k => ?_)
  split at h
  · rename_i hc
    have hl := r.length
    have st2 := st.setAllX [i, j] n r k hc.2
    match vs, hl, st2 with
    | [v, u], hl, st2 => exact ⟨v, u, rfl, h _ _ _ _ st2 n.mon⟩
    | [], hl, _ => rw [← hl] at hc; simp at hc
    | [_], hl, _ => rw [← hl] at hc; simp at hc
    | _ :: _ :: _ :: _, hl, _ => rw [← hl] at hc; simp at hc
  · exact h.elim
theorem ev_par3 {i j l : Nat} (ha : EvA P H0 Wi tr fr) : EvS P H0 Wi (tPar3 i j l tr) (sParX [i, j, l] fr) := by
  intro σ H G ws ρ w D st h
  unfold sParX at h
  refine ha σ H G ws ρ w _ st (postA_of st h fun xs w' _ h vs H1 G1 ws1 n r k => ?_)
  split at h
  · rename_i hc
    have hl := r.length
    have st2 := st.setAllX [i, j, l] n r k hc.2
    match vs, hl, st2 with
    | [v, u, z], hl, st2 => exact ⟨v, u, z, rfl, h _ _ _ _ st2 n.mon⟩
    | [], hl, _ => rw [← hl] at hc; simp at hc
    | [_], hl, _ => rw [← hl] at hc; simp at hc
    | [_, _], hl, _ => rw [← hl] at hc; simp at hc
    | _ :: _ :: _ :: _ :: _, hl, _ => rw [← hl] at hc; simp at hc
  · exact h.elim
/-! ### defs -/
abbrev DF := List D → W → R Val
def spD (P : Pm) (F : DF) : Sp := fun vs H Q E => ∃ G ws w ds, Same G H ∧ RelW P.K P.C G H ws w ∧ Reps P.K G (io ws) vs ds ∧ PostE P E H G ws Q (F ds w)
/-- a def: n parameters, N slots in all -/
def fnD (n N : Nat) (g : DS) : DF := fun ds w => if ds.length = n then (match g (ds.map (fun d => some (fz d)) ++ List.replicate (N - n) none) w with
  | .ret x w' => .ok x w'
  | .next _ w' => .ok (fz .non) w'
  | .ex x _ w' => .ex x w'
  | _ => .bad) else .bad
theorem spD_len {n N : Nat} {g : DS} {vs : List V} {H : Hp} {Q : VK} {E : XK} (h : spD P (fnD n N g) vs H Q E) : vs.length = n := by
  obtain ⟨G, ws, w, ds, _, _, r, p⟩ := h
  unfold fnD at p
  split at p
  · rename_i hl
    rw [r.length, hl]
  · exact p.elim
/-- the state at a def's entry -/
theorem st_start {G H : Hp} {ws : Ws} {w : W} {vs : List V} {ds : List D} {k : Nat} {K : PySem.W.Frag} {C : Addr} (s : Same G H) (r : RelW K C G H ws w) (rs : Reps K G (io ws) vs ds) : St K C ⟨H, G, ws⟩ (vs.map some ++ List.replicate k none) H G ws (ds.map (fun d => some (fz d)) ++ List.replicate k none) w := by
  have key : ∀ {i : Nat} {x : Val}, (ds.map (fun d => some (fz d)) ++ List.replicate k none)[i]? = some (some x) → ∃ d v, ds[i]? = some d ∧ vs[i]? = some v ∧ x = fz d ∧ Rep K G (io ws) v d := fun {i x} h => by
    by_cases hi : i < ds.length
    · rw [List.getElem?_append_left (by simpa using hi)] at h
      rw [List.getElem?_map] at h
      obtain ⟨d, ed⟩ : ∃ d, ds[i]? = some d := ⟨ds[i], by simp [hi]⟩
      rw [ed] at h
      obtain ⟨v, ev, rp⟩ := rs.getD ed
      simp only [Option.map_some, Option.some.injEq] at h
      exact ⟨d, v, ed, ev, h.symm, rp⟩
    · rw [List.getElem?_append_right (by simp; omega)] at h
      rw [List.getElem?_replicate] at h
      split at h <;> cases h
  refine ⟨Nx.refl s r, by simp [rs.length], fun i x h => ?_, fun i x a h hm => ?_, fun i j x y a h _ hm => ?_⟩
  · obtain ⟨d, v, ed, ev, rfl, rp⟩ := key h
    refine ⟨v, ?_, rp, .inl rfl⟩
    have hi : i < vs.length := (List.getElem?_eq_some_iff.mp ev).1
    rw [List.getElem?_append_left (by simpa using hi), List.getElem?_map, ev]
    rfl
  · obtain ⟨d, v, ed, ev, rfl, rp⟩ := key h
    cases hm
  · obtain ⟨d, v, ed, ev, rfl, rp⟩ := key h
    cases hm
/-- from a body's walk to the def's promise -/
theorem def_ok {PP : Program} {w : World} {K : PySem.W.Frag} {mg : Str → Option Value} {base : Heap} {x qual : Str} {st : Stmt} {f : Addr} {fd : FuncData} {N ps : List Str} {k : Nat} {C : Addr} {cm : Cm} {g : DS} (F : Fun K x qual st f fd) (S : FnScope N ps (defScope st))
    (hb : ∀ (cdv : Value) (A : Around) (outer : List PySem.Env) (s : Shared) (H : Hp) (E : XK) (e : En), Room k (A.deeper (PyProof.Rows.envOfC qual (defScope st) s.heap.objs.size f cdv)) →
      ∃ t, PSs (cxOf (L2.CX PP w) PP w K mg base N qual (defScope st) f cdv A outer s H E) (defBody st) t ∧ EvS ⟨K, C, cm⟩ e (fun cls d _ H' => E cls d H') t g) :
    FnOk PP w K mg base (L2.CX PP w) (k + 1) f fd ps (spD ⟨K, C, cm⟩ (fnD ps.length N.length g)) := by
  refine F.okX S (fun vs H Q E h => spD_len h) fun cdv A outer s H vs Q E hr h => ?_
  have hl := spD_len h
  obtain ⟨G, ws, wd, ds, sm, rw, rs, p⟩ := h
  obtain ⟨t, h1, h2⟩ := hb cdv A outer s H E ⟨H, G, ws⟩ hr
  refine ⟨t, h1, ?_⟩
  unfold L2.start
  rw [hl]
  refine h2 _ H G ws (ds.map (fun d => some (fz d)) ++ List.replicate (N.length - ps.length) none) wd _ (st_start sm rw rs) ?_
  unfold fnD at p
  rw [if_pos (by rw [← rs.length]; exact hl)] at p
  cases eg : g (ds.map (fun d => some (fz d)) ++ List.replicate (N.length - ps.length) none) wd with
  | bad => rw [eg] at p; exact p
  | brk ρ w' => rw [eg] at p; exact p.elim
  | cont ρ w' => rw [eg] at p; exact p.elim
  | next ρ w' =>
    rw [eg] at p
    exact fun σ' H' G' ws' st' _ => p .non H' G' ws' st'.nx0 .non fz_nw
  | ret y w' =>
    rw [eg] at p
    exact fun v H' G' ws' n r k _ => p v H' G' ws' n r k
  | ex y ρ w' =>
    rw [eg] at p
    exact fun cls d σ' H' G' ws' st' hx => p cls d H' G' ws' st'.nx0 hx
/-! ### calls -/
def dCall (F : DF) (dds : List D) (fs : DA) : DE := fun ρ w => (fs ρ w).bind fun xs w => match frzD xs with
  | some ds => F (ds ++ dds) w
  | none => .bad
theorem ev_call {F : DF} {dvs : List V} {dds : List D} (ha : EvA P H0 Wi tr fr) (hd : ∀ G ι, Reps P.K G ι dvs dds) : EvE P H0 Wi (tCallSD (spD P F) dvs (WE Wi) tr) (dCall F dds fr) := by
  intro σ H G ws ρ w Q st h
  unfold dCall at h
  refine ha σ H G ws ρ w _ st ?_
  cases e : fr ρ w with
  | bad => rw [e] at h; exact h
  | ex x w' => rw [e] at h; exact h
  | ok xs w' =>
    intro vs H1 G1 ws1 n1 r1 k1
    rw [e] at h
    have h : PostE P (fun c d H' => Wi c d σ H') H G ws Q (match frzD xs with | some ds => F (ds ++ dds) w' | none => .bad) := h
    cases e2 : frzD xs with
    | none => rw [e2] at h; exact h.elim
    | some ds =>
      rw [e2] at h
      obtain ⟨G2, s2, n2, r2⟩ := freezeAll n1 r1 k1 e2
      exact ⟨G2, ws1, w', ds ++ dds, n2.sub, n2.rw, r2.append (hd _ _), PostE.after n2 h⟩
/-- a def that touches no object: its arguments may be things that a slot owns, if what it tells holds none of them -/
def borD : List Val → Option (List D)
  | [] => some []
  | x :: xs => match x.m, borD xs with
    | .wd, _ => none
    | _, some ds => some (x.d :: ds)
    | _, none => none
def imV (x : Val) : Bool := match x.m, x.d with
  | .fz, d => im d
  | .nw, .lst ds => ds.all im
  | _, _ => false
def dCallP (F : DF) (dds : List D) (fs : DA) : DE := fun ρ w => (fs ρ w).bind fun xs w => match borD xs with
  | some ds => (match F (ds ++ dds) w with
    | .ok x w2 => if imV x ∧ w2.n = w.n then .ok x w else .bad
    | .ex x w2 => if x.fs.isEmpty ∧ w2.n = w.n then .ex x w else .bad
    | .bad => .bad)
  | none => .bad
theorem Rep.imm {K : PySem.W.Frag} {G G' : Hp} {ι : List Addr} (hc : ∀ b o, G b = some o → ¬ Cont o → G' b = some o) : ∀ (n : Nat) {v : V} {d : D}, Rep K G ι v d → imN n d = true → Rep K G' ι v d := by
  have sq : ∀ {b : Addr} {vs : List V}, SqT K G b vs → SqT K G' b vs := fun {b vs} q => by
    rcases q with (q | ⟨o, q⟩) | q
    · exact .inl (.inl (hc _ _ q fun z => z))
    · exact .inl (.inr ⟨o, hc _ _ q fun z => z⟩)
    · exact .inr q
  intro n
  induction n with
  | zero =>
    intro v d r h
    cases r with
    | non => exact .non
    | bl b => exact .bl b
    | int b => exact .int b
    | str b => exact .str b
    | obj q => exact .obj q
    | scr q => exact .scr (q.imp fun _ h => hc _ _ h fun z => z)
    | tup _ _ => simp [imN] at h
    | lst _ _ => simp [imN] at h
    | dK _ _ _ => simp [imN] at h
    | dT _ _ _ => simp [imN] at h
  | succ n ih =>
    intro v d r h
    have go : ∀ {vs : List V} {ds : List D}, Reps K G ι vs ds → ds.all (imN n) = true → Reps K G' ι vs ds := by
      intro vs ds r
      induction ds generalizing vs with
      | nil => intro _; cases r; exact .nil
      | cons d ds ih2 =>
        intro h
        cases r with
        | cons r1 r2 =>
          rw [List.all_cons, Bool.and_eq_true] at h
          exact .cons (ih r1 h.1) (ih2 r2 h.2)
    cases r with
    | non => exact .non
    | bl b => exact .bl b
    | int b => exact .int b
    | str b => exact .str b
    | obj q => exact .obj q
    | scr q => exact .scr (q.imp fun _ h => hc _ _ h fun z => z)
    | tup q r => exact .tup (sq q) (go r (by simpa [imN] using h))
    | lst _ _ => simp [imN] at h
    | dK _ _ _ => simp [imN] at h
    | dT _ _ _ => simp [imN] at h
theorem Reps.imm {K : PySem.W.Frag} {G G' : Hp} {ι : List Addr} (hc : ∀ b o, G b = some o → ¬ Cont o → G' b = some o) : ∀ {vs : List V} {ds : List D}, Reps K G ι vs ds → ds.all im = true → Reps K G' ι vs ds
  | _, _, .nil, _ => .nil
  | _, _, .cons a b, h => by
    rw [List.all_cons, Bool.and_eq_true] at h
    exact .cons (a.imm hc 8 h.1) (Reps.imm hc b h.2)
/-- the arguments frozen for the while of a call: A the places that a slot owns -/
theorem borrow {K : PySem.W.Frag} {H H1 : Hp} {ws1 : Ws} : ∀ {vs : List V} {xs : List Val} {ds : List D} {G1 : Hp}, Same G1 H1 → RVs K G1 H1 ws1 vs xs → NewsOk H vs xs → borD xs = some ds →
    ∃ (Gp : Hp) (A : List Addr), Same G1 Gp ∧ Same Gp H1 ∧ Reps K Gp (io ws1) vs ds ∧ (∀ a ∈ A, G1 a = none ∧ a ∉ regs ws1 ∧ ∃ o, Gp a = some o ∧ Cont o) ∧ (∀ a, G1 a = none → a ∉ A → Gp a = none ∨ (H a = none ∧ a ∉ regs ws1))
  | _, _, ds, G1, s, .nil, _, e => by
    simp [borD] at e
    subst e
    exact ⟨G1, [], fun _ _ h => h, s, .nil, fun _ h => by simp at h, fun a h _ => .inl h⟩
  | _, _, ds, G1, s, .cons (v := v) (x := x) (vs := vs) (xs := xs) r rs, k, e => by
    obtain ⟨m, d⟩ := x
    have hz : ∃ ds', borD xs = some ds' ∧ ds = d :: ds' ∧ m ≠ .wd := by
      unfold borD at e
      cases q : borD xs with
      | none => rw [q] at e; cases m <;> cases e
      | some ds' => rw [q] at e; cases m <;> first | (cases e; exact ⟨ds', rfl, rfl, by decide⟩) | cases e
    obtain ⟨ds', e1, rfl, hm⟩ := hz
    obtain ⟨Gp, A, g1, g2, rp, hA, hN⟩ := borrow s rs k.2.2 e1
    have un : (∃ a, v = .ref a ∧ G1 a = none ∧ a ∉ regs ws1 ∧ Unf K G1 H1 (io ws1) a d) → (m = .nw ∨ m = .bo) → (m = .nw → ∀ a, v = .ref a → H a = none) → ∃ (Gp' : Hp) (A' : List Addr), Same G1 Gp' ∧ Same Gp' H1 ∧ Reps K Gp' (io ws1) (v :: vs) (d :: ds') ∧ (∀ a ∈ A', G1 a = none ∧ a ∉ regs ws1 ∧ ∃ o, Gp' a = some o ∧ Cont o) ∧ (∀ a, G1 a = none → a ∉ A' → Gp' a = none ∨ (H a = none ∧ a ∉ regs ws1)) := by
      rintro ⟨a, rfl, ga, nr, u⟩ hmm kn
      obtain ⟨o, ho, hco⟩ := u.there
      have rep1 : ∀ G2 : Hp, Same G1 G2 → G2 a = some o → Rep K G2 (io ws1) (.ref a) d := fun G2 sg hg => by
        cases u with
        | lst q rr => rw [ho] at q; cases q; exact .lst hg (rr.mono sg (List.prefix_refl _))
        | dK q kk rr => rw [ho] at q; cases q; exact .dK hg kk (rr.mono sg (List.prefix_refl _))
        | dT q kk rr => rw [ho] at q; cases q; exact .dT hg kk (rr.mono sg (List.prefix_refl _))
      have gp_a : Gp a = none ∨ Gp a = some o := by
        cases q : Gp a with
        | none => exact .inl rfl
        | some o2 =>
          have := g2 a o2 q
          rw [ho] at this
          cases this
          exact .inr rfl
      refine ⟨upd Gp a o, if m = .bo then a :: A else A, fun b u h => ?_, fun b u h => ?_, .cons (rep1 _ (fun b u h => ?_) upd_same) (rp.mono (fun b u h => ?_) (List.prefix_refl _)), fun b hb => ?_, fun b hb hA' => ?_⟩
      · rw [upd_ne (ne_of_none h ga)]; exact g1 _ _ h
      · by_cases hb : b = a
        · subst hb; rw [upd_same] at h; cases h; exact ho
        · rw [upd_ne hb] at h; exact g2 _ _ h
      · rw [upd_ne (ne_of_none h ga)]; exact g1 _ _ h
      · by_cases hb : b = a
        · subst hb
          rw [upd_same]
          rcases gp_a with z | z
          · rw [z] at h; cases h
          · rw [z] at h; exact h
        · rw [upd_ne hb]; exact h
      · have hb' : b = a ∨ b ∈ A := by
          split at hb
          · exact List.mem_cons.mp hb
          · exact .inr hb
        rcases hb' with rfl | hb
        · exact ⟨ga, nr, o, upd_same, hco⟩
        · obtain ⟨h1, h2, o2, h3, h4⟩ := hA b hb
          refine ⟨h1, h2, ?_⟩
          by_cases hba : b = a
          · subst hba; exact ⟨o, upd_same, hco⟩
          · exact ⟨o2, by rw [upd_ne hba]; exact h3, h4⟩
      · by_cases hba : b = a
        · subst hba
          by_cases hmb : m = .bo
          · rw [if_pos hmb] at hA'; exact absurd List.mem_cons_self hA'
          · by_cases hmn : m = .nw
            · exact .inr ⟨kn hmn b rfl, nr⟩
            · exact absurd hmm (fun z => by rcases z with z | z; exact hmn z; exact hmb z)
        · rw [upd_ne hba]
          refine hN b hb fun z => hA' ?_
          split
          · exact List.mem_cons_of_mem _ z
          · exact z
    cases m with
    | wd => exact absurd rfl hm
    | fz =>
      refine ⟨Gp, A, g1, g2, .cons (Rep.mono g1 (List.prefix_refl _) r) rp, hA, hN⟩
    | nw => exact un r (.inl rfl) (fun _ a ea => k.1 rfl a ea)
    | bo => exact un r (.inr rfl) (fun z => by cases z)
theorem ev_callP {F : DF} {dvs : List V} {dds : List D} (ha : EvA P H0 Wi tr fr) (hd : ∀ G ι, Reps P.K G ι dvs dds) : EvE P H0 Wi (tCallSD (spD P F) dvs (WE Wi) tr) (dCallP F dds fr) := by
  intro σ H G ws ρ w Q st h
  unfold dCallP at h
  refine ha σ H G ws ρ w _ st ?_
  cases e : fr ρ w with
  | bad => rw [e] at h; exact h
  | ex x w' => rw [e] at h; exact h
  | ok xs w' =>
    intro vs H1 G1 ws1 n1 r1 k1
    rw [e] at h
    have h : PostE P (fun c d H' => Wi c d σ H') H G ws Q (match borD xs with | some ds => (match F (ds ++ dds) w' with | .ok x w2 => if imV x = true ∧ w2.n = w'.n then .ok x w' else .bad | .ex x w2 => if x.fs.isEmpty = true ∧ w2.n = w'.n then .ex x w' else .bad | .bad => .bad) | none => .bad) := h
    cases e2 : borD xs with
    | none => rw [e2] at h; exact h.elim
    | some ds =>
      rw [e2] at h
      dsimp only at h
      obtain ⟨Gp, A, g1, g2, rp, hA, hN⟩ := borrow n1.sub r1 k1 e2
      have rwp : RelW P.K P.C Gp H1 ws1 w' := by
        refine ⟨paired_imp n1.rw.obs fun q o hq ⟨e, p⟩ => ⟨e, paired_imp p fun x y hx ⟨e, f⟩ => ⟨e, f.move g1 (List.prefix_refl _) fun _ _ _ h => h⟩⟩, n1.rw.nn, n1.rw.nd, fun a ha => ?_⟩
        rcases hN a (n1.rw.out a ha) (fun z => (hA a z).2.1 ha) with z | z
        · exact z
        · exact absurd ha z.2
      refine ⟨Gp, ws1, w', ds ++ dds, g2, rwp, rp.append (hd _ _), ?_⟩
      -- behind the call: the owned places are let go
      have back : ∀ {H' G' ws' w2}, Nx P.K P.C Gp H1 ws1 G' H' ws' w2 → w2.n = w'.n → ∃ G2, Nx P.K P.C G H ws G2 H' ws' w' ∧ (∀ b o, G' b = some o → ¬ Cont o → G2 b = some o) ∧ (∀ b, G' b = none → G2 b = none) := by
        intro H' G' ws' w2 n2 hw
        have hn := n2.same rwp hw
        obtain ⟨ew, kq⟩ := n2.qt hn
        subst ew
        let G2 : Hp := fun b => if b ∈ A then none else G' b
        have g2ne : ∀ {b}, b ∉ A → G2 b = G' b := fun {b} hb => if_neg hb
        have g2in : ∀ {b}, b ∈ A → G2 b = none := fun {b} hb => if_pos hb
        have s12 : Same G1 G2 := fun b o hb => by
          rw [g2ne (fun z => by rw [(hA b z).1] at hb; cases hb)]
          exact n2.gg _ _ (g1 _ _ hb)
        refine ⟨G2, ⟨n1.gg.trans s12, fun b o hb => ?_, ⟨paired_imp n1.rw.obs fun q o hq ⟨⟨dx, e⟩, p⟩ => ⟨⟨dx, kq _ (regs_mem hq).1 _ e⟩, paired_imp p fun y z hy ⟨e, f⟩ => ⟨e, f.move s12 (List.prefix_refl _) fun b o eb hb => kq b ((regs_mem hq).2 b (refs_mem hy eb)) o hb⟩⟩, n1.rw.nn, n1.rw.nd, fun a ha => ?_⟩, fun a o ha nr => ?_, fun a ha => n2.alive a (n1.alive a ha), fun a ha ga => ?_, n1.io, n1.fresh, n1.le, fun hq => ?_⟩, fun b o hb hc => ?_, fun b hb => ?_⟩
        · by_cases hbA : b ∈ A
          · rw [g2in hbA] at hb; cases hb
          · rw [g2ne hbA] at hb; exact n2.sub _ _ hb
        · by_cases haA : a ∈ A
          · exact g2in haA
          · rw [g2ne haA]; exact n2.rw.out a ha
        · refine n2.keep a o (n1.keep a o ha nr) fun hr => ?_
          rcases n1.fresh a hr with z | z
          · exact nr z
          · rw [ha] at z; cases z
        · by_cases haA : a ∈ A
          · exact g2in haA
          · rw [g2ne haA]
            have h1 := n1.nocap a ha ga
            rcases hN a h1 haA with z | z
            · exact n2.nocap a (n1.alive a ha) z
            · rw [z.1] at ha; cases ha
        · obtain ⟨e1, k1'⟩ := n1.qt hq
          subst e1
          exact ⟨rfl, fun a ha o hb => kq a ha o (k1' a ha o hb)⟩
        · refine (g2ne fun z => ?_).trans hb
          obtain ⟨_, _, o2, h3, h4⟩ := hA b z
          have := n2.gg b o2 h3
          rw [hb] at this
          cases this
          exact hc h4
        · by_cases hbA : b ∈ A
          · exact g2in hbA
          · rw [g2ne hbA]; exact hb
      cases ef : F (ds ++ dds) w' with
      | bad => rw [ef] at h; exact h
      | ex x w2 =>
        rw [ef] at h
        dsimp only at h
        by_cases hc : x.fs.isEmpty = true ∧ w2.n = w'.n
        · rw [if_pos hc] at h
          intro cls d H' G' ws' n2 hx
          obtain ⟨G2, n3, _, _⟩ := back n2 hc.2
          refine h cls d H' G2 ws' n3 ?_
          obtain ⟨c, h1, h2, h3⟩ := hx
          refine ⟨c, h1, h2, ?_⟩
          rcases h3 with h3 | ⟨dd, vfs, h3, h4, h5⟩
          · exact .inl h3
          · have hf : x.fs = [] := by simpa using hc.1
            rw [hf] at h5 ⊢
            cases h5
            exact .inr ⟨dd, [], h3, h4, .nil⟩
        · rw [if_neg hc] at h; exact h.elim
      | ok x w2 =>
        rw [ef] at h
        dsimp only at h
        by_cases hc : imV x = true ∧ w2.n = w'.n
        · rw [if_pos hc] at h
          intro v H' G' ws' n2 r2 k2
          obtain ⟨G2, n3, hi, hno⟩ := back n2 hc.2
          refine h v H' G2 ws' n3 ?_ (newOk_back n1 k2)
          obtain ⟨m, d⟩ := x
          have him := hc.1
          cases m with
          | fz => exact Rep.imm hi 8 r2 (by simpa [imV, im] using him)
          | nw =>
            cases d <;> try (simp [imV] at him; done)
            obtain ⟨a, ea, ga, nr, u⟩ := r2
            refine ⟨a, ea, hno a ga, nr, ?_⟩
            cases u with
            | lst q rr => exact .lst q (Reps.imm hi rr (by simpa [imV] using him))
          | bo => simp [imV] at him
          | wd => simp [imV] at him
        · rw [if_neg hc] at h; exact h.elim
end
end DL

namespace DL
open PySem L2
structure Kx where
  C : Addr
  cm : Cm
  e : En
  Wi : WX
abbrev pm (X : Cx) (κ : Kx) : Pm := ⟨X.K, κ.C, κ.cm⟩
def XE (X : Cx) (κ : Kx) (e : Expr) (f : DE) : Prop := ∃ te, PE X e te ∧ EvE (pm X κ) κ.e κ.Wi te f
def XT (X : Cx) (κ : Kx) (e : Expr) (f : DT) : Prop := ∃ te, PT X e te ∧ EvT (pm X κ) κ.e κ.Wi te f
def XW (X : Cx) (κ : Kx) (e : Expr) (f : DT) : Prop := ∃ te, PW X e te ∧ EvT (pm X κ) κ.e κ.Wi te f
def XA (X : Cx) (κ : Kx) (es : List Expr) (f : DA) : Prop := ∃ te, PA X es te ∧ EvA (pm X κ) κ.e κ.Wi te f
def XO (X : Cx) (κ : Kx) (e : Option Expr) (f : DO) : Prop := ∃ te, PO X e te ∧ EvO (pm X κ) κ.e κ.Wi te f
def XI (X : Cx) (κ : Kx) (tg iter : Expr) (f : DI) : Prop := ∃ te, PI X tg iter te ∧ EvI (pm X κ) κ.e κ.Wi te f
def XS (X : Cx) (κ : Kx) (s : Stmt) (g : DS) : Prop := ∃ ts, PS X s ts ∧ EvS (pm X κ) κ.e κ.Wi ts g
def XB (X : Cx) (κ : Kx) (s : List Stmt) (g : DS) : Prop := ∃ ts, PSs X s ts ∧ EvS (pm X κ) κ.e κ.Wi ts g
/-- what is known of where one stands; k: room for so many calls -/
structure Fc (X : Cx) (κ : Kx) (k : Nat) : Prop where
  calm : X.calm = true
  nd : X.N.Nodup
  room : Room k X.A
  tk : Takes X κ.Wi
  pass : PassesOwn (model X.prog X.w) X.A X.env X.xe
/-- .. within an expression alone -/
structure Fe (X : Cx) (κ : Kx) (k : Nat) : Prop where
  calm : X.calm = true
  nd : X.N.Nodup
  room : Room k X.A
  tk : Takes X κ.Wi
theorem Fc.fe {X : Cx} {κ : Kx} {k : Nat} (c : Fc X κ k) : Fe X κ k := ⟨c.calm, c.nd, c.room, c.tk⟩
abbrev Kx.no (κ : Kx) : Kx := { κ with Wi := fun _ _ _ _ => False }
theorem Fe.blk {X : Cx} {κ : Kx} {k : Nat} (c : Fe X κ k) (s : Shared) (H : Hp) (scope : Scope) (env : PySem.Env) (fp : List Addr) : Fe (X.blk s H scope env fp) κ.no k := ⟨c.calm, c.nd, c.room, takes0⟩
theorem Fe.u64 {X : Cx} {κ : Kx} {k : Nat} (c : Fe X κ k) : X.A.units + 64 < cLine := c.room.units
theorem Fe.u65 {X : Cx} {κ : Kx} {k : Nat} (c : Fe X κ k) : X.A.units + 65 < cLine := by have := c.room.un; omega
section
variable {X : Cx} {κ : Kx} {a b c : Expr} {fa fb fc : DE} {es : List Expr} {fr : DA} {pos p p2 p3 : Pos} {k : Nat}
/-! names, constants -/
theorem e_var (i : Nat) {x : Str} (hN : X.N[i]? = some x := by rfl) (hv : Vis X.env.scope x := by first | exact Or.inl rfl | exact Or.inr (Or.inl rfl) | exact Or.inr (Or.inr rfl)) (hd : (x == ("__debug__" : Str)) = false := by decide)
    (hcd : (x == ("__classdict__" : Str)) = false := by decide) : XE X κ (.Name x pos) (dVar i) := ⟨_, pe_var hN hv hd hcd, ev_var⟩
theorem e_int {i : Int} {j : Nat} : XE X κ (.Constant (.int i) j pos) (dC (.int i)) := ⟨_, pe_int, ev_int⟩
theorem e_bl {i : Bool} {j : Nat} : XE X κ (.Constant (.bool i) j pos) (dC (.bl i)) := ⟨_, pe_bl, ev_bl⟩
theorem e_str {i : Str} {j : Nat} : XE X κ (.Constant (.str i) j pos) (dC (.str i)) := ⟨_, pe_str, ev_str⟩
theorem e_non {j : Nat} : XE X κ (.Constant .none j pos) (dC .non) := ⟨_, pe_non, ev_non⟩
/-- a constant of the module -/
structure Cst (K : PySem.W.Frag) (mg : Str → Option Value) (x : Str) (d : D) : Prop where
  ex : ∃ u v, mg x = some u ∧ RelV v u ∧ ∀ G ι, Rep K G ι v d
theorem e_glob {x : Str} {d : D} (h : Cst X.K X.mg x d) (hg : Gl X x := by rfl) (hd : (x == ("__debug__" : Str)) = false := by decide) : XE X κ (.Name x pos) (dC d) := by
  obtain ⟨u, v, h1, h2, h3⟩ := h.ex
  exact ⟨_, pe_glob hg h1 h2 hd, ev_c h3⟩
/-! operators -/
theorem e_add (ha : XE X κ a fa) (hb : XE X κ b fb) : XE X κ (.BinOp a .Add b pos) (dOp gAdd fa fb) := by
  obtain ⟨ta, pa, ea⟩ := ha
  obtain ⟨tb, pb, eb⟩ := hb
  exact ⟨_, pe_op op_addA pa pb, ev_op ea eb rop_add gAdd_nx⟩
theorem e_sub (ha : XE X κ a fa) (hb : XE X κ b fb) : XE X κ (.BinOp a .Sub b pos) (dOp (gI0 fun i j => .int (i - j)) fa fb) := by
  obtain ⟨ta, pa, ea⟩ := ha
  obtain ⟨tb, pb, eb⟩ := hb
  exact ⟨_, pe_op op_sub pa pb, ev_op ea eb (rop_I0 fun _ _ _ _ _ => .int _) gI0_nx⟩
theorem e_mul (ha : XE X κ a fa) (hb : XE X κ b fb) : XE X κ (.BinOp a .Mult b pos) (dOp gMul fa fb) := by
  obtain ⟨ta, pa, ea⟩ := ha
  obtain ⟨tb, pb, eb⟩ := hb
  exact ⟨_, pe_op op_mulA pa pb, ev_op ea eb rop_mul gMul_nx⟩
theorem e_div (ha : XE X κ a fa) (hb : XE X κ b fb) : XE X κ (.BinOp a .FloorDiv b pos) (dOp (gI CDivW fun i j => .int (i / j)) fa fb) := by
  obtain ⟨ta, pa, ea⟩ := ha
  obtain ⟨tb, pb, eb⟩ := hb
  exact ⟨_, pe_op op_fdivW pa pb, ev_op ea eb (rop_I fun _ _ _ _ _ => .int _) gI_nx⟩
theorem e_mod (ha : XE X κ a fa) (hb : XE X κ b fb) : XE X κ (.BinOp a .Mod b pos) (dOp (gI (fun _ j => 0 < j) fun i j => .int (i % j)) fa fb) := by
  obtain ⟨ta, pa, ea⟩ := ha
  obtain ⟨tb, pb, eb⟩ := hb
  exact ⟨_, pe_op op_mod pa pb, ev_op ea eb (rop_I fun _ _ _ _ _ => .int _) gI_nx⟩
theorem e_pow (ha : XE X κ a fa) (hb : XE X κ b fb) : XE X κ (.BinOp a .Pow b pos) (dOp (gI CPow fun i j => .int (i ^ j.toNat)) fa fb) := by
  obtain ⟨ta, pa, ea⟩ := ha
  obtain ⟨tb, pb, eb⟩ := hb
  exact ⟨_, pe_op op_pow pa pb, ev_op ea eb (rop_I fun _ _ _ _ _ => .int _) gI_nx⟩
def gNeg : Val → W → R Val := fun x w => match x.d with
  | .int i => .ok (fz (.int (-i))) w
  | _ => .bad
theorem e_neg (ha : XE X κ a fa) : XE X κ (.UnaryOp .USub a pos) (dUn gNeg fa) := by
  obtain ⟨ta, pa, ea⟩ := ha
  refine ⟨_, pe_un un_neg pa, ev_un ea (fun H G ws w vx x Q s r hx h => ?_) fun x w e w' => ?_⟩
  · obtain ⟨m, d⟩ := x
    cases d <;> try exact h.elim
    have e := rv_int hx
    subst e
    exact ⟨_, rfl, fz_q s r h (.int _)⟩
  · unfold gNeg
    split <;> exact fun h => nomatch h
/-! comparisons -/
theorem e_cmp {op : CmpOp} {r : R2} {g : Val → Val → W → R Val} (ho : OpR X (compareOp op) r) (hr : ROp (pm X κ) r g) (hn : ∀ x y w e w', g x y w ≠ .ex e w') (ha : XE X κ a fa) (hb : XE X κ b fb) (hm : behindInMarks op b = false) : XE X κ (.Compare a [op] [b] pos) (dOp g fa fb) := by
  obtain ⟨ta, pa, ea⟩ := ha
  obtain ⟨tb, pb, eb⟩ := hb
  exact ⟨_, pe_cmpR ho pa pb hm, ev_op ea eb hr hn⟩
theorem t_cmp {op : CmpOp} {r : R2} {g : Val → Val → W → R Val} (ho : OpR X (compareOp op) r) (hr : ROp (pm X κ) r g) (hn : ∀ x y w e w', g x y w ≠ .ex e w') (ha : XE X κ a fa) (hb : XE X κ b fb) (hm : behindInMarks op b = false) : XT X κ (.Compare a [op] [b] pos) (tst (dOp g fa fb)) := by
  obtain ⟨ta, pa, ea⟩ := ha
  obtain ⟨tb, pb, eb⟩ := hb
  exact ⟨_, pt_cmpR ho pa pb hm, ev_tst (ev_op ea eb hr hn)⟩
abbrev gLt : Val → Val → W → R Val := gI0 fun i j => .bl (decide (i < j))
abbrev gLe : Val → Val → W → R Val := gI0 fun i j => .bl (decide (i ≤ j))
abbrev gGt : Val → Val → W → R Val := gI0 fun i j => .bl (decide (j < i))
abbrev gGe : Val → Val → W → R Val := gI0 fun i j => .bl (decide (j ≤ i))
theorem rop_lt {P : Pm} : ROp P (rI0 fun i j => .bl (decide (i < j))) gLt := rop_I0 fun _ _ _ _ _ => .bl _
theorem rop_le {P : Pm} : ROp P (rI0 fun i j => .bl (decide (i ≤ j))) gLe := rop_I0 fun _ _ _ _ _ => .bl _
theorem rop_gt {P : Pm} : ROp P (rI0 fun i j => .bl (decide (j < i))) gGt := rop_I0 fun _ _ _ _ _ => .bl _
theorem rop_ge {P : Pm} : ROp P (rI0 fun i j => .bl (decide (j ≤ i))) gGe := rop_I0 fun _ _ _ _ _ => .bl _
theorem e_lt (ha : XE X κ a fa) (hb : XE X κ b fb) : XE X κ (.Compare a [.Lt] [b] pos) (dOp gLt fa fb) := e_cmp op_lt rop_lt gI0_nx ha hb (nomark _)
theorem e_le (ha : XE X κ a fa) (hb : XE X κ b fb) : XE X κ (.Compare a [.LtE] [b] pos) (dOp gLe fa fb) := e_cmp op_le rop_le gI0_nx ha hb (nomark _)
theorem e_gt (ha : XE X κ a fa) (hb : XE X κ b fb) : XE X κ (.Compare a [.Gt] [b] pos) (dOp gGt fa fb) := e_cmp op_gt rop_gt gI0_nx ha hb (nomark _)
theorem e_ge (ha : XE X κ a fa) (hb : XE X κ b fb) : XE X κ (.Compare a [.GtE] [b] pos) (dOp gGe fa fb) := e_cmp op_ge rop_ge gI0_nx ha hb (nomark _)
theorem t_lt (ha : XE X κ a fa) (hb : XE X κ b fb) : XT X κ (.Compare a [.Lt] [b] pos) (tst (dOp gLt fa fb)) := t_cmp op_lt rop_lt gI0_nx ha hb (nomark _)
theorem t_le (ha : XE X κ a fa) (hb : XE X κ b fb) : XT X κ (.Compare a [.LtE] [b] pos) (tst (dOp gLe fa fb)) := t_cmp op_le rop_le gI0_nx ha hb (nomark _)
theorem t_gt (ha : XE X κ a fa) (hb : XE X κ b fb) : XT X κ (.Compare a [.Gt] [b] pos) (tst (dOp gGt fa fb)) := t_cmp op_gt rop_gt gI0_nx ha hb (nomark _)
theorem t_ge (ha : XE X κ a fa) (hb : XE X κ b fb) : XT X κ (.Compare a [.GtE] [b] pos) (tst (dOp gGe fa fb)) := t_cmp op_ge rop_ge gI0_nx ha hb (nomark _)
theorem e_eq (c : Fe X κ k) (ha : XE X κ a fa) (hb : XE X κ b fb) : XE X κ (.Compare a [.Eq] [b] pos) (dOp (gEq false) fa fb) := e_cmp (op_eqD c.u64) rop_eq gEq_nx ha hb (nomark _)
theorem e_ne (c : Fe X κ k) (ha : XE X κ a fa) (hb : XE X κ b fb) : XE X κ (.Compare a [.NotEq] [b] pos) (dOp (gEq true) fa fb) := e_cmp (op_neD c.u64) rop_ne gEq_nx ha hb (nomark _)
theorem t_eq (c : Fe X κ k) (ha : XE X κ a fa) (hb : XE X κ b fb) : XT X κ (.Compare a [.Eq] [b] pos) (tst (dOp (gEq false) fa fb)) := t_cmp (op_eqD c.u64) rop_eq gEq_nx ha hb (nomark _)
theorem t_ne (c : Fe X κ k) (ha : XE X κ a fa) (hb : XE X κ b fb) : XT X κ (.Compare a [.NotEq] [b] pos) (tst (dOp (gEq true) fa fb)) := t_cmp (op_neD c.u64) rop_ne gEq_nx ha hb (nomark _)
theorem e_in (c : Fe X κ k) (ha : XE X κ a fa) (hb : XE X κ b fb) (hm : behindInMarks .In b = false := by rfl) : XE X κ (.Compare a [.In] [b] pos) (dOp (gIn false) fa fb) := e_cmp (op_inA c.u65) rop_in gIn_nx ha hb hm
theorem e_nin (c : Fe X κ k) (ha : XE X κ a fa) (hb : XE X κ b fb) (hm : behindInMarks .NotIn b = false := by rfl) : XE X κ (.Compare a [.NotIn] [b] pos) (dOp (gIn true) fa fb) := e_cmp (op_ninA c.u65) rop_nin gIn_nx ha hb hm
theorem t_in (c : Fe X κ k) (ha : XE X κ a fa) (hb : XE X κ b fb) (hm : behindInMarks .In b = false := by rfl) : XT X κ (.Compare a [.In] [b] pos) (tst (dOp (gIn false) fa fb)) := t_cmp (op_inA c.u65) rop_in gIn_nx ha hb hm
theorem t_nin (c : Fe X κ k) (ha : XE X κ a fa) (hb : XE X κ b fb) (hm : behindInMarks .NotIn b = false := by rfl) : XT X κ (.Compare a [.NotIn] [b] pos) (tst (dOp (gIn true) fa fb)) := t_cmp (op_ninA c.u65) rop_nin gIn_nx ha hb hm
theorem e_isB (ha : XE X κ a fa) (hb : XE X κ b fb) : XE X κ (.Compare a [.Is] [b] pos) (dOp (gIsB false) fa fb) := e_cmp op_isBl rop_isB gIsB_nx ha hb (nomark _)
theorem e_notB (ha : XE X κ a fa) (hb : XE X κ b fb) : XE X κ (.Compare a [.IsNot] [b] pos) (dOp (gIsB true) fa fb) := e_cmp op_notBl rop_notB gIsB_nx ha hb (nomark _)
theorem t_isB (ha : XE X κ a fa) (hb : XE X κ b fb) : XT X κ (.Compare a [.Is] [b] pos) (tst (dOp (gIsB false) fa fb)) := t_cmp op_isBl rop_isB gIsB_nx ha hb (nomark _)
theorem t_notB (ha : XE X κ a fa) (hb : XE X κ b fb) : XT X κ (.Compare a [.IsNot] [b] pos) (tst (dOp (gIsB true) fa fb)) := t_cmp op_notBl rop_notB gIsB_nx ha hb (nomark _)
theorem e_isN {j : Nat} (ha : XE X κ a fa) : XE X κ (.Compare a [.Is] [.Constant .none j p] pos) (dUn (gIsN false) fa) := by
  obtain ⟨ta, pa, ea⟩ := ha
  exact ⟨_, pe_cmp (pc_isN pa), ev_isN ea⟩
theorem e_notN {j : Nat} (ha : XE X κ a fa) : XE X κ (.Compare a [.IsNot] [.Constant .none j p] pos) (dUn (gIsN true) fa) := by
  obtain ⟨ta, pa, ea⟩ := ha
  exact ⟨_, pe_cmp (pc_notN pa), ev_notN ea⟩
theorem t_isN {j : Nat} (ha : XE X κ a fa) : XT X κ (.Compare a [.Is] [.Constant .none j p] pos) (tst (dUn (gIsN false) fa)) := by
  obtain ⟨ta, pa, ea⟩ := ha
  exact ⟨_, pt_cmp (pc_isN pa), ev_tB (ev_isN ea)⟩
theorem t_notN {j : Nat} (ha : XE X κ a fa) : XT X κ (.Compare a [.IsNot] [.Constant .none j p] pos) (tst (dUn (gIsN true) fa)) := by
  obtain ⟨ta, pa, ea⟩ := ha
  exact ⟨_, pt_cmp (pc_notN pa), ev_tB (ev_notN ea)⟩
/-- a comparison's rule, for chains -/
structure Cm2 (X : Cx) (κ : Kx) (op : CmpOp) (g : Val → Val → W → R Val) : Prop where
  ex : ∃ r, OpR X (compareOp op) r ∧ ROp (pm X κ) r g ∧ ∀ x y w e w', g x y w ≠ .ex e w'
theorem c_lt : Cm2 X κ .Lt gLt := ⟨_, op_lt, rop_lt, gI0_nx⟩
theorem c_le : Cm2 X κ .LtE gLe := ⟨_, op_le, rop_le, gI0_nx⟩
theorem c_gt : Cm2 X κ .Gt gGt := ⟨_, op_gt, rop_gt, gI0_nx⟩
theorem c_ge : Cm2 X κ .GtE gGe := ⟨_, op_ge, rop_ge, gI0_nx⟩
theorem e_chain {op op' : CmpOp} {g g' : Val → Val → W → R Val} (h1 : Cm2 X κ op g) (h2 : Cm2 X κ op' g') (ha : XE X κ a fa) (hb : XE X κ b fb) (hc : XE X κ c fc) (hm : lastMarks [op, op'] [b, c] = false := by with_unfolding_all rfl) : XE X κ (.Compare a [op, op'] [b, c] pos) (dChain g g' fa fb fc) := by
  obtain ⟨ta, pa, ea⟩ := ha
  obtain ⟨tb, pb, eb⟩ := hb
  obtain ⟨tc, pc, ec⟩ := hc
  obtain ⟨r, o1, r1, n1⟩ := h1
  obtain ⟨r', o2, r2, n2⟩ := h2
  exact ⟨_, pe_chain o1 o2 pa pb pc hm, ev_chain ea eb ec r1 r2 n1 n2⟩
theorem t_chain {op op' : CmpOp} {g g' : Val → Val → W → R Val} (h1 : Cm2 X κ op g) (h2 : Cm2 X κ op' g') (ha : XE X κ a fa) (hb : XE X κ b fb) (hc : XE X κ c fc) (hm : lastMarks [op, op'] [b, c] = false := by with_unfolding_all rfl) : XT X κ (.Compare a [op, op'] [b, c] pos) (tst (dChain g g' fa fb fc)) := by
  obtain ⟨ta, pa, ea⟩ := ha
  obtain ⟨tb, pb, eb⟩ := hb
  obtain ⟨tc, pc, ec⟩ := hc
  obtain ⟨r, o1, r1, n1⟩ := h1
  obtain ⟨r', o2, r2, n2⟩ := h2
  exact ⟨_, pt_chain o1 o2 pa pb pc hm, ev_tst (ev_chain ea eb ec r1 r2 n1 n2)⟩
/-! tests -/
variable {fA fB : DT} {rest : List Expr}
theorem t_val (ha : XE X κ a fa) (he : ∀ whole, isTrue a X.env whole = (do let v ← whole; standAt a.pos; holding [v] (truthy v)) := by intro _; rfl) : XT X κ a (tst fa) := by
  obtain ⟨ta, pa, ea⟩ := ha
  exact ⟨_, pt_val pa he, ev_tB ea⟩
theorem t_not (ha : XT X κ a fA) : XT X κ (.UnaryOp .Not a pos) (dNot fA) := by
  obtain ⟨ta, pa, ea⟩ := ha
  exact ⟨_, pt_not pa, ev_not ea⟩
theorem w_and1 (ha : XT X κ a fA) : XW X κ (.BoolOp .And [a] pos) fA := by
  obtain ⟨ta, pa, ea⟩ := ha
  exact ⟨_, pw_and1 pa, ea⟩
theorem w_or1 (ha : XT X κ a fA) : XW X κ (.BoolOp .Or [a] pos) fA := by
  obtain ⟨ta, pa, ea⟩ := ha
  exact ⟨_, pw_or1 pa, ea⟩
theorem w_and (ha : XT X κ a fA) (hb : XW X κ (.BoolOp .And (b :: rest) pos) fB) : XW X κ (.BoolOp .And (a :: b :: rest) pos) (dAnd fA fB) := by
  obtain ⟨ta, pa, ea⟩ := ha
  obtain ⟨tb, pb, eb⟩ := hb
  exact ⟨_, pw_and pa pb, ev_and ea eb⟩
theorem w_or (ha : XT X κ a fA) (hb : XW X κ (.BoolOp .Or (b :: rest) pos) fB) : XW X κ (.BoolOp .Or (a :: b :: rest) pos) (dOr fA fB) := by
  obtain ⟨ta, pa, ea⟩ := ha
  obtain ⟨tb, pb, eb⟩ := hb
  exact ⟨_, pw_or pa pb, ev_or ea eb⟩
theorem t_w (h : XW X κ a fA) : XT X κ a fA := by
  obtain ⟨ta, pa, ea⟩ := h
  exact ⟨_, pa.pt, ea⟩
theorem e_one {op : BoolOp} (ha : XE X κ a fa) : XE X κ (.BoolOp op [a] pos) fa := by
  obtain ⟨ta, pa, ea⟩ := ha
  exact ⟨_, pe_one pa, ea⟩
theorem e_and (ha : XE X κ a fa) (hb : XE X κ (.BoolOp .And (b :: rest) pos) fb) : XE X κ (.BoolOp .And (a :: b :: rest) pos) (dAndV fa fb) := by
  obtain ⟨ta, pa, ea⟩ := ha
  obtain ⟨tb, pb, eb⟩ := hb
  exact ⟨_, pe_and pa pb, ev_andV ea eb⟩
theorem e_or (ha : XE X κ a fa) (hb : XE X κ (.BoolOp .Or (b :: rest) pos) fb) : XE X κ (.BoolOp .Or (a :: b :: rest) pos) (dOrV fa fb) := by
  obtain ⟨ta, pa, ea⟩ := ha
  obtain ⟨tb, pb, eb⟩ := hb
  exact ⟨_, pe_or pa pb, ev_orV ea eb⟩
theorem e_not (ha : XE X κ a fa) : XE X κ (.UnaryOp .Not a pos) (dNotV fa) := by
  obtain ⟨ta, pa, ea⟩ := ha
  exact ⟨_, pe_not pa, ev_notV ea⟩
theorem e_if (hc : XT X κ c fA) (ha : XE X κ a fa) (hb : XE X κ b fb) : XE X κ (.IfExp c a b pos) (dIf fA fa fb) := by
  obtain ⟨tc, pc, ec⟩ := hc
  obtain ⟨ta, pa, ea⟩ := ha
  obtain ⟨tb, pb, eb⟩ := hb
  exact ⟨_, pe_ifExp pc pa pb, ev_if ec ea eb⟩
/-! arguments, displays, subscripts -/
theorem a_nil : XA X κ [] dNil := ⟨_, pa_nil, ev_nil⟩
theorem a_one (ha : XE X κ a fa) (hs : starEach [a] X.env = (false, eval a X.env) :: starEach [] X.env := by rfl) : XA X κ [a] (dOne fa) := by
  obtain ⟨ta, pa, ea⟩ := ha
  exact ⟨_, pa_cons pa pa_nil hs, ev_one ea⟩
theorem a_cons (ha : XE X κ a fa) (hr : XA X κ es fr) (hs : starEach (a :: es) X.env = (false, eval a X.env) :: starEach es X.env := by rfl) : XA X κ (a :: es) (dCons fa fr) := by
  obtain ⟨ta, pa, ea⟩ := ha
  obtain ⟨tr, pr, er⟩ := hr
  exact ⟨_, pa_cons pa pr hs, ev_cons ea er⟩
theorem e_tup {x1 : Nat} (h : XA X κ es fr) : XE X κ (.Tuple es x1 pos) (dTup fr) := by
  obtain ⟨t, p, e⟩ := h
  exact ⟨_, pe_tup p, ev_tup e⟩
theorem e_lst (h : XA X κ es fr) : XE X κ (.List es pos) (dLst fr) := by
  obtain ⟨t, p, e⟩ := h
  exact ⟨_, pe_lst p, ev_lst e⟩
theorem e_ix (ha : XE X κ a fa) (hb : XE X κ b fb) (hs : PlainIx b := by intro _ _; rfl) : XE X κ (.Subscript a b pos) (dOp gIx fa fb) := by
  obtain ⟨ta, pa, ea⟩ := ha
  obtain ⟨tb, pb, eb⟩ := hb
  exact ⟨_, pe_ix ix_seq pa pb hs, ev_op ea eb rop_ix gIx_nx⟩
theorem o_no : XO X κ none dNo := ⟨_, po_none, ev_no⟩
theorem o_some (ha : XE X κ a fa) : XO X κ (some a) (dPart fa) := by
  obtain ⟨ta, pa, ea⟩ := ha
  exact ⟨_, po_some pa, ev_part ea⟩
theorem e_sl {lo hi : Option Expr} {fl fh : DO} (ha : XE X κ a fa) (hl : XO X κ lo fl) (hh : XO X κ hi fh) : XE X κ (.Subscript a (.Slice lo hi none p2) pos) (dSl fa fl fh) := by
  obtain ⟨ta, pa, ea⟩ := ha
  obtain ⟨tl, pl, el⟩ := hl
  obtain ⟨th, ph, eh⟩ := hh
  exact ⟨_, pe_slice sl_A pa pl ph, ev_sl ea el eh⟩
/-! built-ins -/
/-- a built-in by its name: f a function, or a class -/
theorem e_cb {id : String} {x : Str} {r : List V → Hp → VK → Prop} {g : List Val → W → R Val} (hc : CallR X (.builtin id) r) (hr : RCall (pm X κ) r g) (hn : ∀ x w e w', g x w ≠ .ex e w') (hm : X.mg x = none) (hv : bootBuiltins x = some (.builtin id)) (ha : XA X κ (a :: es) fr) (hg : Gl X x := by rfl)
    (hx : x ≠ "__name__" := by decide) (hdb : (x == ("__debug__" : Str)) = false := by decide) (he : starEach (a :: es) X.env = (false, eval a X.env) :: starEach es X.env := by rfl) (hpl : (backTo pos (starEach es X.env)).any (·.1) = false := by rfl) : XE X κ (.Call (.Name x p) (a :: es) [] pos) (dCB g fr) := by
  obtain ⟨t, pa, ea⟩ := ha
  exact ⟨_, pe_callB hc hg hm hv pa hx hdb he hpl, ev_cb ea hr hn⟩
theorem e_ct {T : String} {x : Str} {r : List V → Hp → VK → Prop} {g : List Val → W → R Val} (hc : CallR X (.type T) r) (hr : RCall (pm X κ) r g) (hn : ∀ x w e w', g x w ≠ .ex e w') (hm : X.mg x = none) (hv : bootBuiltins x = some (.type T)) (ha : XA X κ (a :: es) fr) (hg : Gl X x := by rfl)
    (hx : x ≠ "__name__" := by decide) (hdb : (x == ("__debug__" : Str)) = false := by decide) (he : starEach (a :: es) X.env = (false, eval a X.env) :: starEach es X.env := by rfl) (hpl : (backTo pos (starEach es X.env)).any (·.1) = false := by rfl) : XE X κ (.Call (.Name x p) (a :: es) [] pos) (dCB g fr) := by
  obtain ⟨t, pa, ea⟩ := ha
  exact ⟨_, pe_callTy hc hg hm hv pa hx hdb he hpl, ev_cb ea hr hn⟩
theorem e_len (hm : X.mg "len" = none) (ha : XA X κ [a] fr) (hg : Gl X "len" := by rfl) (he : starEach [a] X.env = (false, eval a X.env) :: starEach [] X.env := by rfl) : XE X κ (.Call (.Name "len" p) [a] [] pos) (dCB gLen fr) := e_cb call_len rc_len gLen_nx hm PySem.boot_len ha hg (by decide) (by decide) he
theorem e_max2 (c : Fe X κ k) (hm : X.mg "max" = none) (ha : XA X κ [a, b] fr) (hg : Gl X "max" := by rfl) (he : starEach [a, b] X.env = (false, eval a X.env) :: starEach [b] X.env := by rfl) (hpl : (backTo pos (starEach [b] X.env)).any (·.1) = false := by rfl) : XE X κ (.Call (.Name "max" p) [a, b] [] pos) (dCB gMax2 fr) := e_cb (call_max2 c.calm) rc_max2 gMax2_nx hm (by decide +kernel) ha hg (by decide) (by decide) he hpl
theorem e_min2 (c : Fe X κ k) (hm : X.mg "min" = none) (ha : XA X κ [a, b] fr) (hg : Gl X "min" := by rfl) (he : starEach [a, b] X.env = (false, eval a X.env) :: starEach [b] X.env := by rfl) (hpl : (backTo pos (starEach [b] X.env)).any (·.1) = false := by rfl) : XE X κ (.Call (.Name "min" p) [a, b] [] pos) (dCB gMin2 fr) := e_cb (call_min2 c.calm) rc_min2 gMin2_nx hm (by decide +kernel) ha hg (by decide) (by decide) he hpl
theorem e_max1 (c : Fe X κ k) (hm : X.mg "max" = none) (ha : XA X κ [a] fr) (hg : Gl X "max" := by rfl) (he : starEach [a] X.env = (false, eval a X.env) :: starEach [] X.env := by rfl) : XE X κ (.Call (.Name "max" p) [a] [] pos) (dCB gMaxL fr) := e_cb (cr_max c.calm) rc_max gMaxL_nx hm (by decide +kernel) ha hg (by decide) (by decide) he
theorem e_min1 (c : Fe X κ k) (hm : X.mg "min" = none) (ha : XA X κ [a] fr) (hg : Gl X "min" := by rfl) (he : starEach [a] X.env = (false, eval a X.env) :: starEach [] X.env := by rfl) : XE X κ (.Call (.Name "min" p) [a] [] pos) (dCB gMinL fr) := e_cb (cr_min c.calm) rc_min gMinL_nx hm (by decide +kernel) ha hg (by decide) (by decide) he
theorem e_sum (c : Fe X κ k) (hm : X.mg "sum" = none) (ha : XA X κ [a] fr) (hg : Gl X "sum" := by rfl) (he : starEach [a] X.env = (false, eval a X.env) :: starEach [] X.env := by rfl) : XE X κ (.Call (.Name "sum" p) [a] [] pos) (dCB gSum fr) := e_cb (cr_sum c.calm) rc_sum gSum_nx hm (by decide +kernel) ha hg (by decide) (by decide) he
theorem e_all (c : Fe X κ k) (hm : X.mg "all" = none) (ha : XA X κ [a] fr) (hg : Gl X "all" := by rfl) (he : starEach [a] X.env = (false, eval a X.env) :: starEach [] X.env := by rfl) : XE X κ (.Call (.Name "all" p) [a] [] pos) (dCB gAll fr) := e_cb (cr_all c.calm) rc_all gAll_nx hm (by decide +kernel) ha hg (by decide) (by decide) he
theorem e_any (c : Fe X κ k) (hm : X.mg "any" = none) (ha : XA X κ [a] fr) (hg : Gl X "any" := by rfl) (he : starEach [a] X.env = (false, eval a X.env) :: starEach [] X.env := by rfl) : XE X κ (.Call (.Name "any" p) [a] [] pos) (dCB gAny fr) := e_cb (cr_any c.calm) rc_any gAny_nx hm (by decide +kernel) ha hg (by decide) (by decide) he
theorem e_cint (hm : X.mg "int" = none) (ha : XA X κ [a] fr) (hg : Gl X "int" := by rfl) (he : starEach [a] X.env = (false, eval a X.env) :: starEach [] X.env := by rfl) : XE X κ (.Call (.Name "int" p) [a] [] pos) (dCB gInt fr) := e_ct call_int1 rc_int gInt_nx hm (by decide +kernel) ha hg (by decide) (by decide) he
theorem e_clist (hm : X.mg "list" = none) (ha : XA X κ [a] fr) (hg : Gl X "list" := by rfl) (he : starEach [a] X.env = (false, eval a X.env) :: starEach [] X.env := by rfl) : XE X κ (.Call (.Name "list" p) [a] [] pos) (dCB gList fr) := e_ct call_list_of rc_list gList_nx hm (by decide +kernel) ha hg (by decide) (by decide) he
theorem e_ctup (hm : X.mg "tuple" = none) (ha : XA X κ [a] fr) (hg : Gl X "tuple" := by rfl) (he : starEach [a] X.env = (false, eval a X.env) :: starEach [] X.env := by rfl) : XE X κ (.Call (.Name "tuple" p) [a] [] pos) (dCB gTuple fr) := e_ct call_tuple_of rc_tuple gTuple_nx hm (by decide +kernel) ha hg (by decide) (by decide) he
/-! isinstance(x, T) -/
theorem rv_ty {K : PySem.W.Frag} {G H : Hp} {ws : Ws} {v : V} {x : Val} (s : Same G H) (h : RV K G H ws v x) (hn : ∀ k, x.d ≠ .obj k) : TyX K H v (.type (tyD x.d)) := by
  obtain ⟨m, d⟩ := x
  have un : (∃ a, v = .ref a ∧ Unf K G H (io ws) a d) → TyX K H v (.type (tyD d)) := by
    rintro ⟨a, rfl, u⟩
    cases u with
    | lst q _ => exact .base (.lst q)
    | dK q _ _ => exact .base (.dK q)
    | dT q _ _ => exact .base (.dT q)
  unfold RV at h
  cases m with
  | nw => obtain ⟨a, e, _, _, u⟩ := h; exact un ⟨a, e, u⟩
  | bo => obtain ⟨a, e, _, _, u⟩ := h; exact un ⟨a, e, u⟩
  | wd => obtain ⟨a, e, _, _, u⟩ := h; exact un ⟨a, e, u⟩
  | fz =>
    cases h with
    | non => exact .base .non
    | bl b => exact .base (.bl b)
    | int b => exact .base (.int b)
    | str b => exact .base (.str b)
    | tup q _ =>
      rcases q with (q | ⟨o, q⟩) | ⟨o, its, n, q, c, _⟩
      · exact .base (.tup (s _ _ q))
      · exact .fTuple (s _ _ q)
      · exact .kTuple q c
    | lst q _ => exact .base (.lst (s _ _ q))
    | scr q =>
      rcases q with ⟨o, q⟩ | ⟨o, its, n, q, c, _⟩
      · exact .base (.frz (s _ _ q))
      · exact .kList q c
    | dK q _ _ => exact .base (.dK (s _ _ q))
    | dT q _ _ => exact .base (.dT (s _ _ q))
    | obj q => exact absurd rfl (hn _)
theorem e_isi (T : String) {x : Str} (hm : X.mg "isinstance" = none) (hmT : X.mg x = none) (hv : bootBuiltins x = some (.type T)) (ha : XE X κ a fa) (hg : Gl X "isinstance" := by rfl) (hgT : Gl X x := by rfl)
    (hx : x ≠ "__name__" := by decide) (hd : (x == ("__debug__" : Str)) = false := by decide) (hs : starEach [a, .Name x p2] X.env = (false, eval a X.env) :: starEach [.Name x p2] X.env := by rfl) (hs2 : starEach [.Name x p2] X.env = (false, eval (.Name x p2) X.env) :: starEach [] X.env := by rfl)
    (hpl : (backTo pos (starEach [.Name x p2] X.env)).any (·.1) = false := by rfl) : XE X κ (.Call (.Name "isinstance" p) [a, .Name x p2] [] pos) (dUn (fun y w => match y.d with | .obj _ => .bad | _ => gIsi T y w) fa) := by
  obtain ⟨ta, pa, ea⟩ := ha
  refine ⟨_, pe_callB call_isi hg hm (by decide +kernel) (pa_cons pa (pa_cons (pe_bltn (v := .ty T) hgT hmT hv rfl hx hd) pa_nil hs2) hs) (by decide) (by decide) hs hpl, ?_⟩
  intro σ H G ws ρ w Q st h
  unfold dUn at h
  refine ea σ H G ws ρ w _ st ?_
  cases e : fa ρ w with
  | bad => rw [e] at h; exact h
  | ex y w' => rw [e] at h; exact h
  | ok y w' =>
    intro v H1 G1 ws1 n1 r1 k1
    rw [e] at h
    have h : PostE (pm X κ) (fun c d H' => κ.Wi c d σ H') H G ws Q (match y.d with | .obj _ => .bad | _ => gIsi T y w') := h
    have hn : ∀ k, y.d ≠ .obj k := fun k z => by rw [z] at h; exact h
    have h : PostE (pm X κ) (fun c d H' => κ.Wi c d σ H') H G ws Q (gIsi T y w') := by
      obtain ⟨m, d⟩ := y
      cases d <;> first | exact h | exact absurd rfl (hn _)
    unfold gIsi at h
    cases eb : kitB (tyD y.d) T with
    | none => rw [eb] at h; exact h.elim
    | some b =>
      rw [eb] at h
      exact ⟨v, .ty T, _, _, b, rfl, .ty T, rv_ty n1.sub r1 hn, kit_ty eb, h (.bl b) H1 G1 ws1 n1 (.bl b) fz_nw⟩
end
end DL

namespace DL
open PySem L2
/-- the reading that a denotation gives -/
def cE (P : Pm) (H0 : En) (Wi : WX) (f : DE) : TE := fun σ H Q => ∃ G ws ρ w, St P.K P.C H0 σ H G ws ρ w ∧ PostE P (fun c d H' => Wi c d σ H') H G ws Q (f ρ w)
def cT (P : Pm) (H0 : En) (Wi : WX) (f : DT) : TT := fun σ H Q => ∃ G ws ρ w, St P.K P.C H0 σ H G ws ρ w ∧ PostT P (fun c d H' => Wi c d σ H') H G ws Q (f ρ w)
section
variable {X : Cx} {κ : Kx} {a b c : Expr} {fa fb fc : DE} {fA fB : DT} {es : List Expr} {fr : DA} {pos p p2 p3 : Pos} {k : Nat} {fi : DI} {gs hs : DS} {tg iter : Expr}
theorem XE.can (h : XE X κ a fa) : PE X a (cE (pm X κ) κ.e κ.Wi fa) := by
  obtain ⟨te, p, e⟩ := h
  exact ⟨fun pins s σ H Q I ⟨G, ws, ρ, w, st, q⟩ => p.run pins s σ H Q I (e σ H G ws ρ w Q st q)⟩
theorem XT.can (h : XT X κ a fA) : PT X a (cT (pm X κ) κ.e κ.Wi fA) := by
  obtain ⟨te, p, e⟩ := h
  exact ⟨fun pins s σ H Q I ⟨G, ws, ρ, w, st, q⟩ => p.run pins s σ H Q I (e σ H G ws ρ w Q st q)⟩
theorem ev_cE {P : Pm} {H0 : En} {Wi : WX} : EvE P H0 Wi (cE P H0 Wi fa) fa := fun σ H G ws ρ w Q st q => ⟨G, ws, ρ, w, st, q⟩
theorem ev_cT {P : Pm} {H0 : En} {Wi : WX} : EvT P H0 Wi (cT P H0 Wi fA) fA := fun σ H G ws ρ w Q st q => ⟨G, ws, ρ, w, st, q⟩
/-! what is walked -/
def iSeqT (K : PySem.W.Frag) (tl : TE) : TI := fun σ H R => tl σ H fun x H1 => (∃ a, x = .ref a ∧ (∃ xs, SqL K H1 a xs) ∧ R (Itl K a) H1) ∨ (∃ a, x = .ref a ∧ (∃ xs, SqT K H1 a xs) ∧ R (Itt K a) H1) ∨ (∃ z, x = .str z ∧ R (Its z) H1)
theorem pi_seq {l : Expr} {tl : TE} (hl : PE X l tl) : PI X tg l (iSeqT X.K tl) := by
  refine ⟨fun pins s σ H R I h => ?_⟩
  refine thn (hl.run pins s σ H _ I h) fun v s1 ⟨x, H1, I1, r1, q1⟩ => ?_
  rcases q1 with q | q | q
  · obtain ⟨a, e, ⟨xs, hq⟩, qq⟩ := q
    subst e
    cases r1
    obtain ⟨its, rv, p, hz⟩ := I1.list hq
    refine wpAny_pyIter_list p.isList ?_
    refine ⟨s1.heap.objs.size, [s1.heap.objs.size], _, _, H1, rfl, I1.kept (t' := s1.toks) fun b o e => Heap.get?_push_of_some _ e, turn_list a _, ⟨_, Heap.get?_push_size _ rfl, rfl, rfl⟩, fun b hb => ?_, qq⟩
    have e : b = s1.heap.objs.size := by simpa using hb
    subst e
    exact I1.fpOk (Nat.le_refl _) (I1.hok.fresh (Nat.le_refl _))
  · obtain ⟨a, e, ⟨xs, hq⟩, qq⟩ := q
    subst e
    cases r1
    obtain ⟨its, rv, p, hz⟩ := I1.tuple hq
    refine wpAny_pyIter_tuple (show s1.heap.IsTuple a its.toArray from p) ?_
    refine ⟨s1.heap.objs.size, [s1.heap.objs.size], _, _, H1, rfl, I1.kept (t' := s1.toks) fun b o e => Heap.get?_push_of_some _ e, turn_tuple a _, ⟨_, Heap.get?_push_size _ rfl, rfl, rfl⟩, fun b hb => ?_, qq⟩
    have e : b = s1.heap.objs.size := by simpa using hb
    subst e
    exact I1.fpOk (Nat.le_refl _) (I1.hok.fresh (Nat.le_refl _))
  · obtain ⟨z, e, qq⟩ := q
    subst e
    obtain ⟨t, rfl⟩ := r1
    cases ha : z.cps.all (· < 128)
    · exact wpAny_pyIter_wide ha (pi_one (tk := s1.toks) I1 _ (turn_str _ z t "str_iterator" (.inr rfl)) ⟨_, Heap.get?_push_size _ rfl, rfl, rfl⟩ qq)
    · exact wpAny_pyIter_ascii ha (pi_one (tk := s1.toks) I1 _ (turn_str _ z t "str_ascii_iterator" (.inl rfl)) ⟨_, Heap.get?_push_size _ rfl, rfl, rfl⟩ qq)
def iSq (f : DE) : DI := fun ρ w => (f ρ w).bind fun x w => match x.d with
  | .lst ds => .ok (ds, keepM x) w
  | .tup ds => .ok (ds, true) w
  | .str z => .ok (sgnD z, true) w
  | _ => .bad
theorem i_seq (ha : XE X κ iter fa) : XI X κ tg iter (iSq fa) := by
  obtain ⟨ta, pa, ea⟩ := ha
  refine ⟨_, pi_seq pa, ?_⟩
  intro σ H G ws ρ w Q st h
  unfold iSq at h
  refine ea σ H G ws ρ w _ st ?_
  cases e : fa ρ w with
  | bad => rw [e] at h; exact h
  | ex x w' => rw [e] at h; exact h
  | ok x w' =>
    intro v H1 G1 ws1 n1 r1 k1
    rw [e] at h
    obtain ⟨m, d⟩ := x
    cases d <;> try exact h.elim
    · have := rv_str r1
      subst this
      exact .inr (.inr ⟨_, rfl, h _ H1 G1 ws1 n1 (its_ok _)⟩)
    · obtain ⟨a, vs, rfl, q0, q1, rs⟩ := rv_tup n1.sub r1
      exact .inr (.inl ⟨a, rfl, ⟨vs, q1⟩, h (Itt X.K a) H1 G1 ws1 n1 (itt_ok fun G' H' ws' ⟨s1, s2, io⟩ => ⟨sqT_mono s2 (sqT_mono s1 q0), rs.mono s1 io⟩)⟩)
    · obtain ⟨a, vs, G2, rfl, hH, n2, hp⟩ := rv_walk n1 r1 k1
      exact .inl ⟨a, rfl, ⟨vs, SqL.of hH⟩, h (Itl X.K a) H1 G2 ws1 n2 (itl_ok hp)⟩
theorem i_rng1 (hm : X.mg "range" = none) (ha : XA X κ [a] fr) (hg : Gl X "range" := by rfl) (hs : starEach [a] X.env = [(false, eval a X.env)] := by rfl) : XI X κ tg (.Call (.Name "range" p) [a] [] pos) (iR1 fr) := by
  obtain ⟨t, pa, ea⟩ := ha
  exact ⟨_, pi_range1 hg hm pa hs, ev_iR1 ea⟩
theorem i_rng2 (hm : X.mg "range" = none) (ha : XA X κ [a, b] fr) (hg : Gl X "range" := by rfl) (hs : starEach [a, b] X.env = [(false, eval a X.env), (false, eval b X.env)] := by rfl) (hs2 : starEach [b] X.env = [(false, eval b X.env)] := by rfl) : XI X κ tg (.Call (.Name "range" p) [a, b] [] pos) (iR2 fr) := by
  obtain ⟨t, pa, ea⟩ := ha
  exact ⟨_, pi_range2 hg hm pa hs hs2, ev_iR2 ea⟩
theorem i_enum {elts : List Expr} {kk : Nat} (hm : X.mg "enumerate" = none) (ha : XE X κ a fa) (hg : Gl X "enumerate" := by rfl) (hs : starEach [a] X.env = [(false, eval a X.env)] := by rfl) : XI X κ (.Tuple elts kk p3) (.Call (.Name "enumerate" p) [a] [] pos) (iE fa) := by
  obtain ⟨t, pa, ea⟩ := ha
  exact ⟨_, pi_enum hg hm (pa_cons pa pa_nil (by rw [hs]; rfl)) hs, ev_iE ea⟩
/-! comprehensions -/
theorem e_lc {elt : Expr} {ifs : List Expr} {scope : Scope} (own : List (Str × Nat)) (t : Tg) (c : Fe X κ k) (hi : XI X κ tg iter fi) (ok : blkC X.N X.env.scope scope own = true)
    (hg : ∀ (s : Shared) (H : Hp) (C : Addr) (cl : List (Str × Addr)) (fp : List Addr), PG (X.blk s H scope (PySem.compEnvC scope cl C X.env) fp) tg (gT X.K t))
    (ht : ∀ (s : Shared) (H : Hp) (C : Addr) (cl : List (Str × Addr)) (fp : List Addr), PTs (X.blk s H scope (PySem.compEnvC scope cl C X.env) fp) ifs (cT (pm X κ) κ.e κ.no.Wi fA))
    (he : ∀ (s : Shared) (H : Hp) (C : Addr) (cl : List (Str × Addr)) (fp : List Addr), XE (X.blk s H scope (PySem.compEnvC scope cl C X.env) fp) κ.no elt fa) (hv : ∀ i ∈ tgs t, i ∈ own.map (·.2) := by decide) (hs : ∀ x, foldedSetIterable iter X.env x = pure x := by intro _; rfl) :
    XE X κ (.ListComp elt [⟨tg, iter, ifs, 0⟩] scope pos) (dLc fi t fA fa (own.map (·.2))) := by
  obtain ⟨ti, pi, ei⟩ := hi
  exact ⟨_, pe_lc c.calm c.nd pi (blkOk_by ok) hg ht (fun s H C cl fp => (he s H C cl fp).can) hs, ev_lc ei ev_cT ev_cE hv⟩
theorem pts_no : PTs X [] (cT (pm X κ) κ.e κ.Wi tYesD) := ⟨fun _ _ _ H _ I ⟨G, ws, ρ, w, st, q⟩ => wpAny_tests_nil ⟨H, I, q H G ws st.nx⟩⟩
theorem pts_if (h : XT X κ a fA) : PTs X [a] (cT (pm X κ) κ.e κ.Wi fA) := pts_one h.can
theorem pts_ifB {s : Shared} {H : Hp} {sc : Scope} {ev : PySem.Env} {fp : List Addr} (h : XT (X.blk s H sc ev fp) κ.no a fA) : PTs (X.blk s H sc ev fp) [a] (cT (pm X κ) κ.e κ.no.Wi fA) := pts_if h
theorem s_setLc {i : Nat} {y : Str} {py spos : Pos} {elt : Expr} {ifs : List Expr} {scope : Scope} (own : List (Str × Nat)) (t : Tg) (c : Fe X κ k) (hy : X.N[i]? = some y) (hyl : X.env.scope.names.lookup y = some .local)
    (hsw : swapsWith (.ListComp elt [⟨tg, iter, ifs, 0⟩] scope pos) (some (.Name y py)) spos.line X.env = pure true) (hi : XI X κ tg iter fi) (ok : blkC X.N X.env.scope scope own = true)
    (hg : ∀ (s : Shared) (H : Hp) (C : Addr) (cl : List (Str × Addr)) (fp : List Addr), PG (X.blk s H scope (PySem.compEnvC scope cl C X.env) fp) tg (gT X.K t))
    (ht : ∀ (s : Shared) (H : Hp) (C : Addr) (cl : List (Str × Addr)) (fp : List Addr), PTs (X.blk s H scope (PySem.compEnvC scope cl C X.env) fp) ifs (cT (pm X κ) κ.e κ.no.Wi fA))
    (he : ∀ (s : Shared) (H : Hp) (C : Addr) (cl : List (Str × Addr)) (fp : List Addr), XE (X.blk s H scope (PySem.compEnvC scope cl C X.env) fp) κ.no elt fa) (hv : ∀ i ∈ tgs t, i ∈ own.map (·.2) := by decide) (hs : ∀ x, foldedSetIterable iter X.env x = pure x := by intro _; rfl) :
    XS X κ (.Assign [.Name y py] (.ListComp elt [⟨tg, iter, ifs, 0⟩] scope pos) spos) (sSet i (dLc fi t fA fa (own.map (·.2)))) := by
  obtain ⟨ti, pi, ei⟩ := hi
  exact ⟨_, ps_setLc c.calm c.nd hy hyl hsw pi (blkOk_by ok) hg ht (fun s H C cl fp => (he s H C cl fp).can) hs, ev_set (ev_lc ei ev_cT ev_cE hv)⟩
/-! statements -/
variable {st : Stmt} {sts : List Stmt}
theorem b_nil : XB X κ [] sNext := ⟨_, pss_nil, ev_next⟩
theorem b_one (h : XS X κ st gs) : XB X κ [st] gs := by
  obtain ⟨t, p, e⟩ := h
  exact ⟨_, pss_one p, e⟩
theorem b_cons (h : XS X κ st gs) (h2 : XB X κ sts hs) : XB X κ (st :: sts) (sSeq gs hs) := by
  obtain ⟨t, p, e⟩ := h
  obtain ⟨t2, p2, e2⟩ := h2
  exact ⟨_, pss_cons p p2, ev_seq e e2⟩
theorem s_frz (i : Nat) (h : XS X κ st gs) : XS X κ st (sFrz i gs) := by
  obtain ⟨t, p, e⟩ := h
  exact ⟨_, p, ev_frz e⟩
theorem s_set {x : Str} (i : Nat) (c : Fe X κ k) (ha : XE X κ a fa) (hi : X.N[i]? = some x := by rfl) (hx : Loc X.env.scope x := by first | exact Or.inl rfl | exact Or.inr rfl) (hs : swapsWith a (some (.Name x p)) pos.line X.env = pure false := by rfl)
    (hf : X.fn x = true ∨ X.env.scope.names.lookup x = some .local := by first | exact .inl rfl | exact .inr rfl) : XS X κ (.Assign [.Name x p] a pos) (sSet i fa) := by
  obtain ⟨t, pa, ea⟩ := ha
  exact ⟨_, ps_set c.nd hi hx pa hs hf, ev_set ea⟩
theorem s_setT {xs : List Expr} {kk : Nat} (is : List Nat) (c : Fe X κ k) (ha : XE X κ a fa) (hg : PGs X xs (gNames is)) (hn : (assignEach xs X.env).length = is.length := by rfl) (hst : (assignEach xs X.env).findIdx? (·.1) = none := by rfl)
    (hs : swapsWithSole [.Tuple xs kk p] a pos.line X.env = pure false := by rfl) (hw : swappedStores [.Tuple xs kk p] a X.env = pure none := by rfl) (h1 : (assignEach [.Tuple xs kk p] X.env).map (·.2) = [assign (.Tuple xs kk p) X.env] := by rfl) : XS X κ (.Assign [.Tuple xs kk p] a pos) (sSetT is fa) := by
  obtain ⟨t, pa, ea⟩ := ha
  exact ⟨_, ps_asg pa (pg_tup c.calm hg hn hst) hs hw h1, ev_setT ea⟩
theorem s_par {x y : Str} {px py pt pt2 : Pos} {kt k2 : Nat} (i j : Nat) (c : Fe X κ k) (ha : XA X κ [a, b] fr) (hi : X.N[i]? = some x := by rfl) (hj : X.N[j]? = some y := by rfl) (hij : i ≠ j := by decide) (hx : X.env.scope.names.lookup x = some .local := by rfl) (hy : X.env.scope.names.lookup y = some .local := by rfl)
    (hw : swappedStores [.Tuple [.Name x px, .Name y py] kt pt] (.Tuple [a, b] k2 pt2) X.env = pure (some [x, y]) := by rfl) (hs : swapsWithSole [.Tuple [.Name x px, .Name y py] kt pt] (.Tuple [a, b] k2 pt2) pos.line X.env = pure false := by rfl) :
    XS X κ (.Assign [.Tuple [.Name x px, .Name y py] kt pt] (.Tuple [a, b] k2 pt2) pos) (sParX [i, j] fr) := by
  obtain ⟨t, pa, ea⟩ := ha
  exact ⟨_, ps_par c.calm c.nd hi hj hij hx hy pa hw hs, ev_par ea⟩
theorem s_par3 {x y z : Str} {px py pz pt pt2 : Pos} {kt k2 : Nat} (i j l : Nat) (cc : Fe X κ k) (ha : XA X κ [a, b, c] fr) (hi : X.N[i]? = some x := by rfl) (hj : X.N[j]? = some y := by rfl) (hl : X.N[l]? = some z := by rfl) (hij : i ≠ j := by decide) (hil : i ≠ l := by decide) (hjl : j ≠ l := by decide)
    (hx : X.env.scope.names.lookup x = some .local := by rfl) (hy : X.env.scope.names.lookup y = some .local := by rfl) (hz : X.env.scope.names.lookup z = some .local := by rfl)
    (hw : swappedStores [.Tuple [.Name x px, .Name y py, .Name z pz] kt pt] (.Tuple [a, b, c] k2 pt2) X.env = pure (some [x, y, z]) := by rfl) (hs : swapsWithSole [.Tuple [.Name x px, .Name y py, .Name z pz] kt pt] (.Tuple [a, b, c] k2 pt2) pos.line X.env = pure false := by rfl) :
    XS X κ (.Assign [.Tuple [.Name x px, .Name y py, .Name z pz] kt pt] (.Tuple [a, b, c] k2 pt2) pos) (sParX [i, j, l] fr) := by
  obtain ⟨t, pa, ea⟩ := ha
  exact ⟨_, ps_par3 cc.calm cc.nd hi hj hl hij hil hjl hx hy hz pa hw hs, ev_par3 ea⟩
theorem s_expr (ha : XE X κ a fa) (hs : swapsWith a none pos.line X.env = pure false := by rfl) : XS X κ (.Expr a pos) (sExpr fa) := by
  obtain ⟨t, pa, ea⟩ := ha
  exact ⟨_, ps_expr pa hs, ev_expr ea⟩
theorem s_ret (ha : XE X κ a fa) : XS X κ (.Return (some a) pos) (sRet fa) := by
  obtain ⟨t, pa, ea⟩ := ha
  exact ⟨_, ps_ret pa, ev_ret ea⟩
theorem s_retV (i : Nat) {x : Str} (hN : X.N[i]? = some x := by rfl) (hv : Vis X.env.scope x := by first | exact Or.inl rfl | exact Or.inr (Or.inl rfl) | exact Or.inr (Or.inr rfl)) (hd : (x == ("__debug__" : Str)) = false := by decide)
    (hcd : (x == ("__classdict__" : Str)) = false := by decide) : XS X κ (.Return (some (.Name x p)) pos) (sRetV i) := ⟨_, ps_ret (pe_var hN hv hd hcd), ev_retV⟩
theorem s_retN : XS X κ (.Return none pos) sRetN := ⟨_, ps_retN, ev_retN⟩
theorem s_pass : XS X κ (.Pass pos) sNext := ⟨_, ps_pass, ev_next⟩
theorem s_brk : XS X κ (.Break pos) (fun ρ w => .brk ρ w) := ⟨_, ps_break, ev_brk⟩
theorem s_if {s1 s2 : List Stmt} (hc : XT X κ a fA) (h1 : XB X κ s1 gs) (h2 : XB X κ s2 hs) : XS X κ (.If a s1 s2 pos) (sIf fA gs hs) := by
  obtain ⟨t, pa, ea⟩ := hc
  obtain ⟨t1, p1, e1⟩ := h1
  obtain ⟨t2, p2, e2⟩ := h2
  exact ⟨_, ps_if pa p1 p2, ev_sif ea e1 e2⟩
theorem s_for {body : List Stmt} (t : Tg) (c : Fc X κ k) (hi : XI X κ tg iter fi) (hg : PG X tg (gT X.K t)) (hb : XB X κ body gs) (hs : ∀ x, foldedSetIterable iter X.env x = pure x := by intro _; rfl) : XS X κ (.For tg iter body [] pos) (sFor fi t gs) := by
  obtain ⟨ti, pi, ei⟩ := hi
  obtain ⟨tb, pb, eb⟩ := hb
  exact ⟨_, ps_for c.pass c.calm pi hg pb hs, ev_for ei eb⟩
theorem s_while {body : List Stmt} (n : Nat) (c : Fc X κ k) (hc : XT X κ a fA) (hb : XB X κ body gs) : XS X κ (.While a body [] pos) (whileL fA gs n) := by
  obtain ⟨ti, pi, ei⟩ := hc
  obtain ⟨tb, pb, eb⟩ := hb
  exact ⟨_, ps_while c.pass pi pb, ev_while ei eb⟩
/-- targets -/
theorem g_nm {x : Str} (i : Nat) (hN : X.N.Nodup) (hi : X.N[i]? = some x := by rfl) (hx : Loc X.env.scope x := by first | exact Or.inl rfl | exact Or.inr rfl) (hf : X.fn x = true ∨ X.env.scope.names.lookup x = some .local := by first | exact .inl rfl | exact .inr rfl) : PG X (.Name x p) (gT X.K (.nm i)) := pg_name hN hi hx hf
theorem gs_nil : PGs X [] (gNames []) := pgs_nil
theorem gs_cons {x : Str} (i : Nat) {is : List Nat} {xs : List Expr} (hN : X.N.Nodup) (h : PGs X xs (gNames is)) (hi : X.N[i]? = some x := by rfl) (hx : Loc X.env.scope x := by first | exact Or.inl rfl | exact Or.inr rfl) (hf : X.fn x = true ∨ X.env.scope.names.lookup x = some .local := by first | exact .inl rfl | exact .inr rfl)
    (hs : (assignEach (.Name x p :: xs) X.env).map (·.2) = assign (.Name x p) X.env :: (assignEach xs X.env).map (·.2) := by rfl) : PGs X (.Name x p :: xs) (gNames (i :: is)) := pgs_cons (pg_name hN hi hx hf) h hs
theorem g_tp {xs : List Expr} {kk : Nat} {is : List Nat} (hc : X.calm = true) (h : PGs X xs (gNames is)) (hn : (assignEach xs X.env).length = is.length := by rfl) (hst : (assignEach xs X.env).findIdx? (·.1) = none := by rfl) : PG X (.Tuple xs kk p) (gT X.K (.tp is)) := pg_tup hc h hn hst
/-! methods of lists that a slot owns -/
theorem s_app {x : Str} {apos cpos : Pos} (i : Nat) (ha : XE X κ a fa) (hN : X.N[i]? = some x := by rfl) (hv : Vis X.env.scope x := by first | exact Or.inl rfl | exact Or.inr (Or.inl rfl) | exact Or.inr (Or.inr rfl)) (hd : (x == ("__debug__" : Str)) = false := by decide)
    (hcd : (x == ("__classdict__" : Str)) = false := by decide) (hsw : swapsWith (.Call (.Attribute (.Name x p) "append" apos) [a] [] cpos) none pos.line X.env = pure false := by rfl)
    (hs1 : starEach [a] X.env = (false, eval a X.env) :: starEach [] X.env := by rfl)
    (hbase : attributeBase (.Name x p) "append" X.env (eval (.Name x p) X.env) = eval (.Name x p) X.env := by rfl)
    (hfew : ((backTo cpos (starEach [a] X.env)).all (fun x => !x.1) && (backToKw cpos (keywordEach [] X.env)).all (fun x => x.1.isSome)
      && decide ([a].length + ([] : List Keyword).length + (if ([] : List Keyword).isEmpty then 0 else 1) < 30)) = true := by rfl)
    (hline : (apos.endLine == cpos.line) = true := by rfl) : XS X κ (.Expr (.Call (.Attribute (.Name x p) "append" apos) [a] [] cpos) pos) (sApp i fa) := by
  obtain ⟨t, pa, ea⟩ := ha
  exact ⟨_, ps_expr (pe_bm PySem.F.plainAttrs_list PySem.F.slot_list_append PySem.F.type_list_append mt_append (pe_var hN hv hd hcd) (pa_cons pa pa_nil hs1) hbase hfew hline hs1) hsw, ev_app ea⟩
theorem s_ext {x : Str} {apos cpos : Pos} (i : Nat) (ha : XE X κ a fa) (hN : X.N[i]? = some x := by rfl) (hv : Vis X.env.scope x := by first | exact Or.inl rfl | exact Or.inr (Or.inl rfl) | exact Or.inr (Or.inr rfl)) (hd : (x == ("__debug__" : Str)) = false := by decide)
    (hcd : (x == ("__classdict__" : Str)) = false := by decide) (hsw : swapsWith (.Call (.Attribute (.Name x p) "extend" apos) [a] [] cpos) none pos.line X.env = pure false := by rfl)
    (hs1 : starEach [a] X.env = (false, eval a X.env) :: starEach [] X.env := by rfl)
    (hbase : attributeBase (.Name x p) "extend" X.env (eval (.Name x p) X.env) = eval (.Name x p) X.env := by rfl)
    (hfew : ((backTo cpos (starEach [a] X.env)).all (fun x => !x.1) && (backToKw cpos (keywordEach [] X.env)).all (fun x => x.1.isSome)
      && decide ([a].length + ([] : List Keyword).length + (if ([] : List Keyword).isEmpty then 0 else 1) < 30)) = true := by rfl)
    (hline : (apos.endLine == cpos.line) = true := by rfl) : XS X κ (.Expr (.Call (.Attribute (.Name x p) "extend" apos) [a] [] cpos) pos) (sExt i fa) := by
  obtain ⟨t, pa, ea⟩ := ha
  exact ⟨_, ps_expr (pe_bm PySem.F.plainAttrs_list PySem.F.slot_list_extend PySem.F.type_list_extend mt_extend (pe_var hN hv hd hcd) (pa_cons pa pa_nil hs1) hbase hfew hline hs1) hsw, ev_ext ea⟩
/-! defs -/
/-- the def called x keeps the promise of F, by at most j calls -/
structure Df (P : Program) (w : World) (K : PySem.W.Frag) (mg : Str → Option Value) (base : Heap) (C : Addr) (cm : Cm) (x : Str) (j : Nat) (F : DF) : Prop where
  ex : ∃ f fd ps, mg x = some (.ref f) ∧ PySem.W.keepIn K (.ref f) = true ∧ Binds K fd ps [] ∧ FnOk P w K mg base (L2.CX P w) j f fd ps (spD ⟨K, C, cm⟩ F)
theorem e_call {x : Str} {j : Nat} {F : DF} (d : Df X.prog X.w X.K X.mg X.base κ.C κ.cm x j F) (c : Fe X κ k) (ha : XA X κ (a :: es) fr) (hj : j ≤ k := by decide) (hg : Gl X x := by rfl) (hdb : (x == ("__debug__" : Str)) = false := by decide) (he : starEach (a :: es) X.env = (false, eval a X.env) :: starEach es X.env := by rfl)
    (hpl : (backTo pos (starEach es X.env)).any (·.1) = false := by rfl) : XE X κ (.Call (.Name x p) (a :: es) [] pos) (dCall F [] fr) := by
  obtain ⟨f, fd, ps, hm, hk, hb, G⟩ := d.ex
  obtain ⟨t, pa, ea⟩ := ha
  exact ⟨_, pe_callSD G (c.room.mono hj) hg hm hk hb .nil (fun σ => passAt c.tk σ) pa hdb he hpl, ev_call ea fun _ _ => .nil⟩
theorem e_callP {x : Str} {j : Nat} {F : DF} (d : Df X.prog X.w X.K X.mg X.base κ.C κ.cm x j F) (c : Fe X κ k) (ha : XA X κ (a :: es) fr) (hj : j ≤ k := by decide) (hg : Gl X x := by rfl) (hdb : (x == ("__debug__" : Str)) = false := by decide) (he : starEach (a :: es) X.env = (false, eval a X.env) :: starEach es X.env := by rfl)
    (hpl : (backTo pos (starEach es X.env)).any (·.1) = false := by rfl) : XE X κ (.Call (.Name x p) (a :: es) [] pos) (dCallP F [] fr) := by
  obtain ⟨f, fd, ps, hm, hk, hb, G⟩ := d.ex
  obtain ⟨t, pa, ea⟩ := ha
  exact ⟨_, pe_callSD G (c.room.mono hj) hg hm hk hb .nil (fun σ => passAt c.tk σ) pa hdb he hpl, ev_callP ea fun _ _ => .nil⟩
end
/-- from a body's walk to a def -/
theorem df_of {P : Program} {w : World} {K : PySem.W.Frag} {mg : Str → Option Value} {base : Heap} {C : Addr} {cm : Cm} {x : Str} {st : Stmt} {f : Addr} {fd : FuncData} {N ps : List Str} {k : Nat} {g : DS} (hm : mg x = some (.ref f)) (F : Fun K x x st f fd) (hb : Binds K fd ps []) (S : FnScope N ps (defScope st))
    (h : ∀ (X : Cx) (κ : Kx), X.prog = P → X.w = w → X.K = K → X.mg = mg → X.base = base → κ.C = C → κ.cm = cm → True) :
    True := trivial
end DL

namespace DL
open PySem L2
section
variable {P : Pm} {H0 : En} {Wi : WX} {ta tb tc : TE} {fa fb fc : DE} {ts us : TS} {gs hs : DS} {tA : TT} {fA : DT} {tr : TA} {fr : DA}
/-- a slot's own thing is frozen -/
theorem St.frz {K : PySem.W.Frag} {C : Addr} {e : En} {σ : L2.St} {H G : Hp} {ws : Ws} {ρ : Env} {w : W} {i : Nat} {x : Val} (st : St K C e σ H G ws ρ w) (ei : ρ[i]? = some (some x)) : ∃ G2, Same G G2 ∧ St K C e σ H G2 ws (ρ.set i (some (fz x.d))) w := by
  obtain ⟨v, e1, r, hm⟩ := st.sl i x ei
  have hl : i < ρ.length := (List.getElem?_eq_some_iff.mp ei).1
  obtain ⟨G2, sg, n2, rp, f2⟩ := freeze1 st.nx0 r (fun hm a ea => by subst ea; exact st.own i x a ei hm e1) hm
  have nx : ∀ (j : Nat) y, ρ[j]? = some (some y) → j ≠ i → ∃ u, σ[j]? = some (some u) ∧ RV K G2 H ws u y ∧ (y.m = .fz ∨ y.m = .nw) := fun j y ej hj => by
    obtain ⟨u, h1, h2, h3⟩ := st.sl j y ej
    refine ⟨u, h1, h2.gmono sg fun hy a ea ga => f2 a (fun hx ev => hj ?_) ga, h3⟩
    subst ea
    have hyn : y.m = .nw := by rcases h3 with z | z; exact absurd z hy; exact z
    exact st.ap j i y x a ej ei hyn hx h1 (by rw [e1, ev])
  refine ⟨G2, sg, n2, by rw [List.length_set]; exact st.len, fun j y ej => ?_, fun j y a ej hy ea => ?_, fun j l y z a ej el hy hz aj al => ?_⟩
  · by_cases hj : i = j
    · subst hj
      rw [List.getElem?_set, if_pos rfl, if_pos hl] at ej
      cases ej
      exact ⟨v, e1, rp, .inl rfl⟩
    · rw [List.getElem?_set_ne hj] at ej
      exact nx j y ej (Ne.symm hj)
  · by_cases hj : i = j
    · subst hj
      rw [List.getElem?_set, if_pos rfl, if_pos hl] at ej
      cases ej
      cases hy
    · rw [List.getElem?_set_ne hj] at ej
      exact st.own j y a ej hy ea
  · by_cases hj : i = j
    · subst hj
      rw [List.getElem?_set, if_pos rfl, if_pos hl] at ej
      cases ej
      cases hy
    · by_cases hk : i = l
      · subst hk
        rw [List.getElem?_set, if_pos rfl, if_pos hl] at el
        cases el
        cases hz
      · rw [List.getElem?_set_ne hj] at ej
        rw [List.getElem?_set_ne hk] at el
        exact st.ap j l y z a ej el hy hz aj al
/-- stored and frozen at once (a name whose thing is never changed in place) -/
def sSetF (i : Nat) (f : DE) : DS := fun ρ w => (f ρ w).thn ρ fun x w => if keepM x then .next (ρ.set i (some (fz x.d))) w else .bad
theorem ev_setF {i : Nat} (ha : EvE P H0 Wi ta fa) : EvS P H0 Wi (tAsg ta (gName i)) (sSetF i fa) := by
  intro σ H G ws ρ w D st h
  unfold sSetF at h
  refine ha σ H G ws ρ w _ st (postE_of st h fun x w' _ h v H1 G1 ws1 n r k => ?_)
  split at h
  · rename_i hm
    obtain ⟨G2, s2, n2, rp, _⟩ := freeze1 n r k (keepM_of hm)
    exact h _ _ _ _ (st.set (x := fz x.d) n2 rp fz_nw (.inl rfl)) n2.mon
  · exact h.elim
/-- some of several values frozen -/
def frzF : List Bool → List Val → List Val
  | b :: bs, x :: xs => (if b then x else fz x.d) :: frzF bs xs
  | _, _ => []
theorem freezeSome {K : PySem.W.Frag} {C : Addr} {G H : Hp} {ws ws' : Ws} {w' : W} {H' : Hp} : ∀ {fl : List Bool} {vs : List V} {xs : List Val} {G' : Hp}, Nx K C G H ws G' H' ws' w' → RVs K G' H' ws' vs xs → NewsOk H vs xs → xs.all keepM = true → fl.length = xs.length →
    ∃ G2, Same G' G2 ∧ Nx K C G H ws G2 H' ws' w' ∧ RVs K G2 H' ws' vs (frzF fl xs) ∧ NewsOk H vs (frzF fl xs) ∧ (frzF fl xs).all keepM = true ∧ (frzF fl xs).length = xs.length ∧ ∀ b, (∀ (i : Nat) y, xs[i]? = some y → y.m = .nw → vs[i]? ≠ some (.ref b)) → G' b = none → G2 b = none
  | [], _, _, G', n, .nil, _, _, _ => ⟨G', fun _ _ h => h, n, .nil, trivial, rfl, rfl, fun _ _ h => h⟩
  | _ :: _, _, _, _, _, .nil, _, _, hl => by simp at hl
  | [], _, _, _, _, .cons _ _, _, _, hl => by simp at hl
  | b :: bs, _, _, G', n, .cons (v := v) (x := x) (vs := vs) (xs := xs) r rs, k, hk, hl => by
    rw [List.all_cons, Bool.and_eq_true] at hk
    obtain ⟨G2, s2, n2, r2, k2, a2, l2, f2⟩ := freezeSome (fl := bs) n rs k.2.2 hk.2 (by simpa using hl)
    have rh : RV K G2 H' ws' v x := r.gmono s2 fun hy a ea ga => f2 a (fun i y ey hy2 ev => by
      have hx : x.m = .nw := by rcases keepM_of hk.1 with z | z; exact absurd z hy; exact z
      exact k.2.1 hx i y ey hy2 (by rw [ev, ea])) ga
    have dist : ∀ (i : Nat) y, (frzF bs xs)[i]? = some y → y.m = .nw → ∃ z, xs[i]? = some z ∧ z.m = .nw := by
      have go : ∀ (bs : List Bool) (xs : List Val) (i : Nat) y, (frzF bs xs)[i]? = some y → y.m = .nw → ∃ z, xs[i]? = some z ∧ z.m = .nw := by
        intro bs
        induction bs with
        | nil => intro xs i y e; simp [frzF] at e
        | cons b bs ih =>
          intro xs i y e hy
          cases xs with
          | nil => simp [frzF] at e
          | cons x xs =>
            cases i with
            | zero =>
              simp only [frzF, List.getElem?_cons_zero, Option.some.injEq] at e
              subst e
              cases b with
              | true => exact ⟨x, rfl, hy⟩
              | false => cases hy
            | succ i => simpa using ih xs i y (by simpa [frzF] using e) hy
      exact go bs xs
    cases b with
    | true =>
      refine ⟨G2, s2, n2, .cons rh r2, ⟨k.1, fun hx i y ey hy => ?_, k2⟩, by simp only [frzF, List.all_cons, Bool.and_eq_true]; exact ⟨hk.1, a2⟩, by simp [frzF, l2], fun b hb gb => f2 b (fun i y ey hy ev => hb (i + 1) y (by simpa using ey) hy (by simpa using ev)) gb⟩
      obtain ⟨z, ez, hz⟩ := dist i y ey hy
      exact k.2.1 hx i z ez hz
    | false =>
      obtain ⟨G3, s3, n3, rp, f3⟩ := freeze1 n2 rh k.1 (keepM_of hk.1)
      have go : ∀ {vs : List V} {ys : List Val}, RVs K G2 H' ws' vs ys → (∀ (i : Nat) y, ys[i]? = some y → y.m = .nw → x.m = .nw → vs[i]? ≠ some v) → ys.all keepM = true → RVs K G3 H' ws' vs ys := by
        intro vs ys rs
        induction rs with
        | nil => intro _ _; exact .nil
        | @cons u y us ys ru rus ih =>
          intro hd hk2
          rw [List.all_cons, Bool.and_eq_true] at hk2
          refine .cons (ru.gmono s3 fun hy a ea ga => f3 a (fun hx ev => ?_) ga) (ih (fun i z hz => by simpa using hd (i + 1) z (by simpa using hz)) hk2.2)
          have hyn : y.m = .nw := by rcases keepM_of hk2.1 with z | z; exact absurd z hy; exact z
          exact hd 0 y rfl hyn hx (by simp [ea, ev])
      refine ⟨G3, s2.trans s3, n3, .cons rp (go r2 (fun i y ey hy hx => ?_) a2), ⟨fz_nw, fun hx => (by cases hx), k2⟩, by simp only [frzF, List.all_cons, Bool.and_eq_true]; exact ⟨rfl, a2⟩, by simp [frzF, l2], fun b hb gb => f3 b (fun hx ev => hb 0 x rfl hx (by simp [ev])) (f2 b (fun i y ey hy ev => hb (i + 1) y (by simpa using ey) hy (by simpa using ev)) gb)⟩
      obtain ⟨z, ez, hz⟩ := dist i y ey hy
      exact k.2.1 hx i z ez hz
/-- a, b = x, y; fl: whose thing is changed in place later -/
def sParF (is : List Nat) (fl : List Bool) (f : DA) : DS := fun ρ w => (f ρ w).thn ρ fun xs w => if is.length = xs.length ∧ fl.length = xs.length ∧ xs.all keepM then .next (setXs is (frzF fl xs) ρ) w else .bad
theorem ev_parF {i j : Nat} {fl : List Bool} (ha : EvA P H0 Wi tr fr) : EvS P H0 Wi (tPar i j tr) (sParF [i, j] fl fr) := by
  intro σ H G ws ρ w D st h
  unfold sParF at h
  refine ha σ H G ws ρ w _ st (postA_of st h fun xs w' _ h vs H1 G1 ws1 n r k => ?_)
  split at h
  · rename_i hc
    have hl := r.length
    obtain ⟨G2, s2, n2, r2, k2, a2, l2, _⟩ := freezeSome (fl := fl) n r k hc.2.2 hc.2.1
    have st2 := st.setAllX [i, j] n2 r2 k2 a2
    match vs, hl, st2 with
    | [v, u], hl, st2 => exact ⟨v, u, rfl, h _ _ _ _ st2 n2.mon⟩
    | [], hl, _ => rw [← hl] at hc; simp at hc
    | [_], hl, _ => rw [← hl] at hc; simp at hc
    | _ :: _ :: _ :: _, hl, _ => rw [← hl] at hc; simp at hc
  · exact h.elim
theorem ev_par3F {i j l : Nat} {fl : List Bool} (ha : EvA P H0 Wi tr fr) : EvS P H0 Wi (tPar3 i j l tr) (sParF [i, j, l] fl fr) := by
  intro σ H G ws ρ w D st h
  unfold sParF at h
  refine ha σ H G ws ρ w _ st (postA_of st h fun xs w' _ h vs H1 G1 ws1 n r k => ?_)
  split at h
  · rename_i hc
    have hl := r.length
    obtain ⟨G2, s2, n2, r2, k2, a2, l2, _⟩ := freezeSome (fl := fl) n r k hc.2.2 hc.2.1
    have st2 := st.setAllX [i, j, l] n2 r2 k2 a2
    match vs, hl, st2 with
    | [v, u, z], hl, st2 => exact ⟨v, u, z, rfl, h _ _ _ _ st2 n2.mon⟩
    | [], hl, _ => rw [← hl] at hc; simp at hc
    | [_], hl, _ => rw [← hl] at hc; simp at hc
    | [_, _], hl, _ => rw [← hl] at hc; simp at hc
    | _ :: _ :: _ :: _ :: _, hl, _ => rw [← hl] at hc; simp at hc
  · exact h.elim
end
section
variable {X : Cx} {κ : Kx} {a b c : Expr} {fa fb fc : DE} {fA fB : DT} {es : List Expr} {fr : DA} {pos p p2 p3 : Pos} {k : Nat} {fi : DI} {gs hs : DS} {tg iter : Expr}
theorem s_setF {x : Str} (i : Nat) (c : Fe X κ k) (ha : XE X κ a fa) (hi : X.N[i]? = some x := by rfl) (hx : Loc X.env.scope x := by first | exact Or.inl rfl | exact Or.inr rfl) (hs : swapsWith a (some (.Name x p)) pos.line X.env = pure false := by rfl)
    (hf : X.fn x = true ∨ X.env.scope.names.lookup x = some .local := by first | exact .inl rfl | exact .inr rfl) : XS X κ (.Assign [.Name x p] a pos) (sSetF i fa) := by
  obtain ⟨t, pa, ea⟩ := ha
  exact ⟨_, ps_set c.nd hi hx pa hs hf, ev_setF ea⟩
theorem s_setLcF {i : Nat} {y : Str} {py spos : Pos} {elt : Expr} {ifs : List Expr} {scope : Scope} (own : List (Str × Nat)) (t : Tg) (c : Fe X κ k) (hy : X.N[i]? = some y) (hyl : X.env.scope.names.lookup y = some .local)
    (hsw : swapsWith (.ListComp elt [⟨tg, iter, ifs, 0⟩] scope pos) (some (.Name y py)) spos.line X.env = pure true) (hi : XI X κ tg iter fi) (ok : blkC X.N X.env.scope scope own = true)
    (hg : ∀ (s : Shared) (H : Hp) (C : Addr) (cl : List (Str × Addr)) (fp : List Addr), PG (X.blk s H scope (PySem.compEnvC scope cl C X.env) fp) tg (gT X.K t))
    (ht : ∀ (s : Shared) (H : Hp) (C : Addr) (cl : List (Str × Addr)) (fp : List Addr), PTs (X.blk s H scope (PySem.compEnvC scope cl C X.env) fp) ifs (cT (pm X κ) κ.e κ.no.Wi fA))
    (he : ∀ (s : Shared) (H : Hp) (C : Addr) (cl : List (Str × Addr)) (fp : List Addr), XE (X.blk s H scope (PySem.compEnvC scope cl C X.env) fp) κ.no elt fa) (hv : ∀ i ∈ tgs t, i ∈ own.map (·.2) := by decide) (hs : ∀ x, foldedSetIterable iter X.env x = pure x := by intro _; rfl) :
    XS X κ (.Assign [.Name y py] (.ListComp elt [⟨tg, iter, ifs, 0⟩] scope pos) spos) (sSetF i (dLc fi t fA fa (own.map (·.2)))) := by
  obtain ⟨ti, pi, ei⟩ := hi
  exact ⟨_, ps_setLc c.calm c.nd hy hyl hsw pi (blkOk_by ok) hg ht (fun s H C cl fp => (he s H C cl fp).can) hs, ev_setF (ev_lc ei ev_cT ev_cE hv)⟩
theorem s_parF {x y : Str} {px py pt pt2 : Pos} {kt k2 : Nat} (i j : Nat) (fl : List Bool) (c : Fe X κ k) (ha : XA X κ [a, b] fr) (hi : X.N[i]? = some x := by rfl) (hj : X.N[j]? = some y := by rfl) (hij : i ≠ j := by decide) (hx : X.env.scope.names.lookup x = some .local := by rfl) (hy : X.env.scope.names.lookup y = some .local := by rfl)
    (hw : swappedStores [.Tuple [.Name x px, .Name y py] kt pt] (.Tuple [a, b] k2 pt2) X.env = pure (some [x, y]) := by rfl) (hs : swapsWithSole [.Tuple [.Name x px, .Name y py] kt pt] (.Tuple [a, b] k2 pt2) pos.line X.env = pure false := by rfl) :
    XS X κ (.Assign [.Tuple [.Name x px, .Name y py] kt pt] (.Tuple [a, b] k2 pt2) pos) (sParF [i, j] fl fr) := by
  obtain ⟨t, pa, ea⟩ := ha
  exact ⟨_, ps_par c.calm c.nd hi hj hij hx hy pa hw hs, ev_parF ea⟩
theorem s_par3F {x y z : Str} {px py pz pt pt2 : Pos} {kt k2 : Nat} (i j l : Nat) (fl : List Bool) (cc : Fe X κ k) (ha : XA X κ [a, b, c] fr) (hi : X.N[i]? = some x := by rfl) (hj : X.N[j]? = some y := by rfl) (hl : X.N[l]? = some z := by rfl) (hij : i ≠ j := by decide) (hil : i ≠ l := by decide) (hjl : j ≠ l := by decide)
    (hx : X.env.scope.names.lookup x = some .local := by rfl) (hy : X.env.scope.names.lookup y = some .local := by rfl) (hz : X.env.scope.names.lookup z = some .local := by rfl)
    (hw : swappedStores [.Tuple [.Name x px, .Name y py, .Name z pz] kt pt] (.Tuple [a, b, c] k2 pt2) X.env = pure (some [x, y, z]) := by rfl) (hs : swapsWithSole [.Tuple [.Name x px, .Name y py, .Name z pz] kt pt] (.Tuple [a, b, c] k2 pt2) pos.line X.env = pure false := by rfl) :
    XS X κ (.Assign [.Tuple [.Name x px, .Name y py, .Name z pz] kt pt] (.Tuple [a, b, c] k2 pt2) pos) (sParF [i, j, l] fl fr) := by
  obtain ⟨t, pa, ea⟩ := ha
  exact ⟨_, ps_par3 cc.calm cc.nd hi hj hl hij hil hjl hx hy hz pa hw hs, ev_par3F ea⟩
end
/-! ### the law's end -/
/-- from what the law's def computes upon the script to the law -/
theorem law_sp {K : PySem.W.Frag} {C : Addr} {cm : Cm} {F : DF} {H : Hp} {a : Addr} {ns : List Int} (hF : ∃ m w, F [.scr ns] ⟨0, []⟩ = .ok ⟨m, .bl true⟩ w) (hO : L2.Only H) (hS : SqL K H a (ns.map V.int)) : spD ⟨K, C, cm⟩ F [.ref a] H (fun v _ => v = .bl true) fun _ _ _ => False := by
  have z : SqZ K H a (ns.map V.int) := by
    rcases hS with (h | h) | h
    · rcases hO a with z | ⟨o, xs, z⟩
      · rw [z] at h; cases h
      · rw [z] at h; cases h
    · exact .inl h
    · exact .inr h
  obtain ⟨m, w, e⟩ := hF
  refine ⟨H, ⟨0, []⟩, ⟨0, []⟩, [.scr ns], fun _ _ h => h, ⟨.nil, rfl, List.nodup_nil, fun a h => by simp [regs, regs0] at h⟩, .cons (.scr z) .nil, ?_⟩
  rw [e]
  exact fun v H' G' ws' n r _ => rv_bl r
theorem cx_no {P : Program} {w : World} {H : Hp} {s : Shared} {e : Value} {s' : Shared} (h : L2.CX P w [] H s (fun _ _ _ => False) e s') : False := by
  obtain ⟨_, _, _, _, _, _, _, _, _, _, _, _, z⟩ := h
  exact z
end DL

namespace DL
open PySem L2
abbrev gSub : Val → Val → W → R Val := gI0 fun i j => .int (i - j)
noncomputable abbrev gDiv : Val → Val → W → R Val := gI CDivW fun i j => .int (i / j)
abbrev gMod : Val → Val → W → R Val := gI (fun _ j => 0 < j) fun i j => .int (i % j)
noncomputable abbrev gPow : Val → Val → W → R Val := gI CPow fun i j => .int (i ^ j.toNat)
def gIsiT (T : String) : Val → W → R Val := fun y w => match y.d with
  | .obj _ => .bad
  | _ => gIsi T y w
theorem e_isiT (T : String) {X : Cx} {κ : Kx} {a : Expr} {fa : DE} {pos p p2 : Pos} {x : Str} (hm : X.mg "isinstance" = none) (hmT : X.mg x = none) (hv : bootBuiltins x = some (.type T)) (ha : XE X κ a fa) (hg : Gl X "isinstance" := by rfl) (hgT : Gl X x := by rfl)
    (hx : x ≠ "__name__" := by decide) (hd : (x == ("__debug__" : Str)) = false := by decide) (hs : starEach [a, .Name x p2] X.env = (false, eval a X.env) :: starEach [.Name x p2] X.env := by rfl) (hs2 : starEach [.Name x p2] X.env = (false, eval (.Name x p2) X.env) :: starEach [] X.env := by rfl)
    (hpl : (backTo pos (starEach [.Name x p2] X.env)).any (·.1) = false := by rfl) : XE X κ (.Call (.Name "isinstance" p) [a, .Name x p2] [] pos) (dUn (gIsiT T) fa) := e_isi T hm hmT hv ha hg hgT hx hd hs hs2 hpl
/-- a def as it stands behind the top -/
def Fnx (K : PySem.W.Frag) (mg : Str → Option Value) (x : Str) (st : Stmt) (ps : List Str) : Prop := ∃ f fd, Fun K x x st f fd ∧ mg x = some (.ref f) ∧ Binds K fd ps []
theorem df_mk {P : Program} {w : World} {K : PySem.W.Frag} {mg : Str → Option Value} {base : Heap} {C : Addr} {cm : Cm} {x : Str} {st : Stmt} {N ps : List Str} {k : Nat} {g : DS} (F : Fnx K mg x st ps) (S : FnScope N ps (defScope st))
    (hb : ∀ (f : Addr) (cdv : Value) (A : Around) (outer : List PySem.Env) (s : Shared) (H : Hp) (E : XK) (e : En), Fc (cxOf (L2.CX P w) P w K mg base N x (defScope st) f cdv A outer s H E) ⟨C, cm, e, fun cls d _ H' => E cls d H'⟩ k →
      XB (cxOf (L2.CX P w) P w K mg base N x (defScope st) f cdv A outer s H E) ⟨C, cm, e, fun cls d _ H' => E cls d H'⟩ (defBody st) g) : Df P w K mg base C cm x (k + 1) (fnD ps.length N.length g) := by
  obtain ⟨f, fd, F, hm, hB⟩ := F
  exact ⟨f, fd, ps, hm, F.kp, hB, def_ok F S fun cdv A outer s H E e hr => hb f cdv A outer s H E e ⟨rfl, S.nd, hr, takes_of rfl rfl rfl rfl, passes_of rfl⟩⟩
end DL
namespace DL
open PySem L2
theorem fn_mk {P : Program} {w : World} {K : PySem.W.Frag} {mg : Str → Option Value} {base : Heap} {C : Addr} {cm : Cm} {x : Str} {st : Stmt} {f : Addr} {fd : FuncData} {N ps : List Str} {k : Nat} {g : DS} (F : Fun K x x st f fd) (S : FnScope N ps (defScope st))
    (hb : ∀ (f : Addr) (cdv : Value) (A : Around) (outer : List PySem.Env) (s : Shared) (H : Hp) (E : XK) (e : En), Fc (cxOf (L2.CX P w) P w K mg base N x (defScope st) f cdv A outer s H E) ⟨C, cm, e, fun cls d _ H' => E cls d H'⟩ k →
      XB (cxOf (L2.CX P w) P w K mg base N x (defScope st) f cdv A outer s H E) ⟨C, cm, e, fun cls d _ H' => E cls d H'⟩ (defBody st) g) : FnOk P w K mg base (L2.CX P w) (k + 1) f fd ps (spD ⟨K, C, cm⟩ (fnD ps.length N.length g)) :=
  def_ok F S fun cdv A outer s H E e hr => hb f cdv A outer s H E e ⟨rfl, S.nd, hr, takes_of rfl rfl rfl rfl, passes_of rfl⟩
theorem walkD {l : PySem.W.OpenLaw} {k : Nat} {q : Program} {loose : List Str} {XP : (Str → Option Value) → Heap → Prop} {YP : World → Heap → Prop} {d : DefRec} {K : Params → PySem.W.Frag} {F : DF} (hn : l.most = some 63) (hdf : d.params.defaults = []) (hr : Room k callerA)
    (hY : ∀ (w : World) (h : Heap), YP w h → (K w.params).In h)
    (hF : ∀ (w : World) (mg : Str → Option Value) (fa : Addr) (h : Heap), (K w.params).In h → h.Ns mainGlobals mg → mg d.name = some (.ref fa) →
      ∃ fd : FuncData, (∀ (s : Shared) (u : Value), BindsTo s fd ⟨[u], []⟩ [("script", u)]) ∧ ∃ C cm, ∀ base : Heap, (K w.params).In base → base.Ns mainGlobals mg → FnOk l.prog w (K w.params) mg base (L2.CX l.prog w) k fa fd ["script"] (spD ⟨K w.params, C, cm⟩ F))
    (ht : ∀ ns : List Int, ns.length ≤ 63 → ∃ m w, F [.scr ns] ⟨0, []⟩ = .ok ⟨m, .bl true⟩ w) : PySem.W.WalkO q loose XP YP l.row.toRowW d [] (fun f vs => PySem.call f vs) := by
  refine L2.walk_of (n := 63) (k := k) (x := "script") (CX := fun w => L2.CX l.prog w) (sp := fun w vs H Q E => ∃ ns : List Int, ns.length ≤ 63 ∧ ∃ a, vs = [.ref a] ∧ L2.Only H ∧ SqL (K w.params) H a (ns.map V.int) ∧ ∀ H', Q (.bl true) H') hn (by decide) hdf hr hY ?_ (fun w H a ns hl hO hS => ⟨ns, hl, a, rfl, hO, hS, fun _ => rfl⟩) (fun _ _ _ _ _ z => cx_no z)
  intro w mg fa h KX G hmg
  obtain ⟨fd, h1, C, cm, h2⟩ := hF w mg fa h KX G hmg
  refine ⟨fd, h1, fun base b1 b2 => (h2 base b1 b2).imp ?_⟩
  rintro vs H Q E ⟨ns, hl, a, rfl, hO, hS, hq⟩
  have := law_sp (C := C) (cm := cm) (ht ns hl) hO hS
  obtain ⟨G, ws, wd, ds, s1, s2, s3, s4⟩ := this
  obtain ⟨m, w', e⟩ := ht ns hl
  refine ⟨G, ws, wd, ds, s1, s2, s3, ?_⟩
  cases er : F ds wd with
  | bad => rw [er] at s4; exact s4
  | ex x w2 => rw [er] at s4; exact fun cls d H' G' ws' n hx => (s4 cls d H' G' ws' n hx).elim
  | ok x w2 =>
    rw [er] at s4
    intro v H' G' ws' n r k'
    have := s4 v H' G' ws' n r k'
    rw [this]
    exact hq H'
theorem cst_tup {K : PySem.W.Frag} {mg : Str → Option Value} {x : Str} {a : Addr} {o : Obj} {its : Array Value} {n : Nat} {vs : List V} {ds : List D} (h : mg x = some (.ref a)) (l : K.lookup a = some o) (hc : o.cls = .type "tuple") (hd : o.data = .seq its n) (hs : its.size ≤ sizeLine) (hv : Vals vs its.toList) (hr : ∀ G ι, Reps K G ι vs ds) : Cst K mg x (.tup ds) :=
  ⟨.ref a, .ref a, h, rfl, fun G ι => .tup (.inr ⟨o, its, n, l, hc, hd, hs, hv⟩) (hr G ι)⟩
theorem cst_int {K : PySem.W.Frag} {mg : Str → Option Value} {x : Str} {i : Int} {t : Tok} (h : mg x = some (.int i t)) : Cst K mg x (.int i) := ⟨_, .int i, h, ⟨t, rfl⟩, fun _ _ => .int _⟩
theorem cst_str {K : PySem.W.Frag} {mg : Str → Option Value} {x : Str} {i : Str} {t : Tok} (h : mg x = some (.str i t)) : Cst K mg x (.str i) := ⟨_, .str i, h, ⟨t, rfl⟩, fun _ _ => .str _⟩
end DL

namespace DL
open PySem L2
/-! ### sorted(xs): any plain data -/
noncomputable def leD : D → D → Bool := PySem.W.dataLe false toP
structure SOk (ds : List D) : Prop where
  pl : ds.all (plN 9) = true
  al : PySem.W.AllAlike (ds.map toP)
  so : PySem.W.Sortable (ds.map toP)
  sz : ds.length ≤ sizeLine
noncomputable instance (ds : List D) : Decidable (SOk ds) := Classical.propDecidable _
noncomputable def gSorted : List Val → W → R Val := fun xs w => match xs with
  | [x] => match x.d with
    | .lst ds => if SOk ds then .ok ⟨.nw, .lst (ds.mergeSort leD)⟩ w else .bad
    | _ => .bad
  | _ => .bad
theorem gSorted_nx (x : List Val) (w : W) (e : Xc) (w' : W) : gSorted x w ≠ .ex e w' := by
  unfold gSorted
  split <;> (try split) <;> (try split) <;> exact fun h => nomatch h
/-- its reading: the items and what they stand for, side by side -/
def rSortD (K : PySem.W.Frag) : List V → Hp → VK → Prop := fun vs H Q => ∃ (a : Addr) (xs : List V) (ds : List D), vs = [.ref a] ∧ SqL K H a xs ∧ xs.length = ds.length ∧ DpAll K H xs (toPs ds) ∧ SOk ds ∧ PyData.depthAll (toPs ds) ≤ 9 ∧
  ∀ p, H p = none → Q (.ref p) (upd H p (.lst (((xs.zip ds).mergeSort (PySem.W.dataLe false fun z => toP z.2)).map (·.1))))
theorem dpAll_each {X : Cx} {pins : List (Addr × Obj)} {σ : L2.St} {H : Hp} {s : Shared} (I : Inv X pins σ H s) : ∀ {xs : List V} {ds : List D} {us : List Value}, DpAll X.K H xs (toPs ds) → Vals xs us → PySem.W.EachIs (fun v (z : V × D) => RelV z.1 v) us (xs.zip ds) ∧ PySem.W.EachIs (fun v (z : V × D) => ∃ as, Reads s.heap v (toP z.2) as) us (xs.zip ds)
  | [], [], _, _, r => by cases r; exact ⟨.nil, .nil⟩
  | [], d :: ds, _, h, _ => by rw [toPs] at h; cases h
  | x :: xs, [], _, h, _ => by rw [toPs] at h; cases h
  | x :: xs, d :: ds, _, h, r => by
    rw [toPs] at h
    cases h with
    | cons h1 h2 =>
      cases r with
      | cons r1 r2 =>
        obtain ⟨a, b⟩ := dpAll_each I h2 r2
        exact ⟨.cons r1 a, .cons (Dp.reads I _ _ _ h1 r1) b⟩
theorem each_vals : ∀ {us : List Value} {zs : List (V × D)}, PySem.W.EachIs (fun v (z : V × D) => RelV z.1 v) us zs → Vals (zs.map (·.1)) us
  | _, _, .nil => .nil
  | _, _, .cons h t => .cons h (each_vals t)
theorem depth_mem : ∀ {ds : List D} {d : D}, d ∈ ds → (toP d).depth ≤ PyData.depthAll (toPs ds)
  | x :: ds, d, h => by
    rw [toPs, PyData.depthAll]
    rcases List.mem_cons.mp h with rfl | h
    · exact Nat.le_max_left _ _
    · exact Nat.le_trans (depth_mem h) (Nat.le_max_right _ _)
theorem map_zip_snd {α β γ : Type} (f : β → γ) : ∀ (xs : List α) (ds : List β), xs.length = ds.length → (xs.zip ds).map (fun z => f z.2) = ds.map f
  | [], [], _ => rfl
  | [], _ :: _, h => by simp at h
  | _ :: _, [], h => by simp at h
  | x :: xs, d :: ds, h => by simp [map_zip_snd f xs ds (by simpa using h)]
theorem cr_sortD {X : Cx} (hu : X.A.units + 64 < cLine) : CallR X (.builtin "sorted") (rSortD X.K) := by
  intro pins s σ H vs us Q I r h
  obtain ⟨a, xs, ds, rfl, hs, hlen, hd, ok, hdep, q⟩ := h
  obtain ⟨its, rv, hl, _⟩ := I.list hs
  rw [Vals.ref1 r]
  obtain ⟨e1, e2⟩ := dpAll_each I hd rv
  have hz : (xs.zip ds).length = ds.length := by rw [List.length_zip, hlen, Nat.min_self]
  have hm := map_zip_snd toP xs ds hlen
  refine PySem.W.sorted_data hl.isList e1 e2 (by rw [hm]; exact ok.al) (by rw [hm]; exact ok.so) (by rw [hz]; exact ok.sz) (fun z hz => ?_) fun out ho hout => ?_
  · have : z.2 ∈ ds := (List.of_mem_zip hz).2
    have := depth_mem this
    omega
  · obtain ⟨ep, he'⟩ := PyProof.Rows.sortedAll_at s.heap its out.toArray
    have hv := each_vals hout
    have hn : (((xs.zip ds).mergeSort (PySem.W.dataLe false fun z => toP z.2)).map (·.1)).length ≤ sizeLine := by
      rw [List.length_map, List.length_mergeSort, hz]
      exact ok.sz
    exact ⟨.ref _, upd H (s.heap.objs.size + 1) (.lst (((xs.zip ds).mergeSort (PySem.W.dataLe false fun z => toP z.2)).map (·.1))), I.laid (t' := s.toks) (fun _ _ => PyProof.Rows.sortedAll_old) (Nat.le_succ _) ⟨hn, out, ep, hv, he'⟩, rfl, q _ (I.hok.fresh (Nat.le_succ _))⟩
theorem reps_zip {K : PySem.W.Frag} {G : Hp} {ι : List Addr} : ∀ {zs : List (V × D)}, (∀ z ∈ zs, Rep K G ι z.1 z.2) → Reps K G ι (zs.map (·.1)) (zs.map (·.2))
  | [], _ => .nil
  | z :: zs, h => .cons (h z List.mem_cons_self) (reps_zip fun y hy => h y (List.mem_cons_of_mem _ hy))
theorem zip_reps {K : PySem.W.Frag} {G : Hp} {ι : List Addr} : ∀ {vs : List V} {ds : List D}, Reps K G ι vs ds → ∀ z ∈ vs.zip ds, Rep K G ι z.1 z.2
  | _, _, .nil, z, h => by simp at h
  | _, _, .cons a b, z, h => by
    rw [List.zip_cons_cons] at h
    rcases List.mem_cons.mp h with rfl | h
    · exact a
    · exact zip_reps b z h
section
variable {P : Pm}
theorem rc_sortD : RCall P (rSortD P.K) gSorted := by
  intro H G ws w vs xs Q s r hx h
  match xs, hx, h with
  | [⟨m, d⟩], hx, h =>
    obtain ⟨v, rfl, hv⟩ := rvs1 hx
    cases d <;> try exact h.elim
    rename_i ds
    obtain ⟨a, vs, rfl, q1, r1⟩ := rv_lst s hv
    unfold gSorted at h
    dsimp only at h
    split at h
    · rename_i ok
      obtain ⟨b1, b2, b3⟩ := reps_pl s r1 ok.pl
      refine ⟨a, vs, ds, rfl, SqL.of q1, r1.length, b1, ok, b3, fun p hp => ?_⟩
      have hz := map_zip_snd (id : D → D) vs ds r1.length
      have e : ((vs.zip ds).mergeSort (PySem.W.dataLe false fun z => toP z.2)).map (·.2) = ds.mergeSort leD := by
        have := PySem.W.sort_maps (r := PySem.W.dataLe false fun z : V × D => toP z.2) (s := leD) (fun z : V × D => z.2) (l := vs.zip ds) (fun a _ b _ => rfl)
        rw [this]
        congr 1
        simpa using hz
      rw [← e] at h
      exact nw_q s r h hp (reps_zip fun z hz => zip_reps r1 z (List.mem_mergeSort.mp hz))
    · exact h.elim
end
end DL
namespace DL
open PySem L2
/-! ### min(xs, default=d), max(xs, default=d): ints -/
def rMinD (K : PySem.W.Frag) : List V → List V → Hp → VK → Prop := fun vs zs H Q => ∃ (a : Addr) (ns : List Int) (d : Int), vs = [.ref a] ∧ zs = [.int d] ∧ SqL K H a (ns.map V.int) ∧ (ns = [] → Q (.int d) H) ∧ ∀ m, m ∈ ns → (∀ y, y ∈ ns → m ≤ y) → Q (.int m) H
theorem dp_ints {X : Cx} {pins : List (Addr × Obj)} {σ : L2.St} {H : Hp} {s : Shared} (I : Inv X pins σ H s) {ns : List Int} {us : List Value} (r : Vals (ns.map V.int) us) : ∃ as, ReadsAll s.heap us (ns.map PyData.int) as := Dp.readsAll I _ _ _ (dpAll_ints ns) r
theorem alike_all_ints (ns : List Int) : PySem.W.AlikeAll (ns.map PyData.int) := by
  refine ⟨fun x hx y hy => ?_, fun x hx => ?_⟩
  · obtain ⟨a, _, rfl⟩ := List.mem_map.mp hx
    obtain ⟨b, _, rfl⟩ := List.mem_map.mp hy
    rfl
  · obtain ⟨a, _, rfl⟩ := List.mem_map.mp hx
    exact fun h => nomatch h
theorem foldl_min : ∀ (ns : List Int) (n : Int), ns.foldl min n = ns.foldl (fun m x => if x < m then x else m) n
  | [], _ => rfl
  | x :: ns, n => by
    rw [List.foldl_cons, List.foldl_cons, foldl_min ns]
    congr 1
    omega
theorem foldl_max : ∀ (ns : List Int) (n : Int), ns.foldl max n = ns.foldl (fun m x => if x > m then x else m) n
  | [], _ => rfl
  | x :: ns, n => by
    rw [List.foldl_cons, List.foldl_cons, foldl_max ns]
    congr 1
    omega
theorem cr_minD {X : Cx} (hc : X.calm = true) (hu : X.A.units + 64 < cLine) : CallRK X (.builtin "min") [Str.ofString "default"] (fun vs zs H Q => ∃ (a : Addr) (ns : List Int) (d : Int), vs = [.ref a] ∧ zs = [.int d] ∧ SqL X.K H a (ns.map V.int) ∧ Q (.int (match ns with | [] => d | n :: r => minI (n :: r))) H) := by
  intro pins s σ H vs zs us ws Q I r rz h
  obtain ⟨a, ns, d, rfl, rfl, hs, q⟩ := h
  obtain ⟨its, rv, hl, _⟩ := I.list hs
  obtain rfl := Vals.ref1 r
  obtain ⟨w1, rfl, t, rfl⟩ := vals1 rz
  obtain ⟨as, ra⟩ := dp_ints I rv
  refine PySem.W.min_list_default (I.ok.hd hc) hl.isList ra (alike_all_ints ns) (by rw [PySem.W.depth_ints]; omega) (fun e h' tk hk => ?_) fun y ys i v h' tk bs e hv hr hk => ?_
  · cases ns with
    | nil => exact ⟨.int d, H, I.kept hk, ⟨t, rfl⟩, q⟩
    | cons n r => cases e
  · cases ns with
    | nil => cases e
    | cons n r =>
      rw [List.map_cons] at e
      injection e with e1 e2
      subst e1 e2
      rw [PySem.W.minD_ints, foldl_min] at hr
      cases hr with
      | int i t => exact ⟨.int _, H, I.kept hk, ⟨t, rfl⟩, q⟩
theorem cr_maxD {X : Cx} (hc : X.calm = true) (hu : X.A.units + 64 < cLine) : CallRK X (.builtin "max") [Str.ofString "default"] (fun vs zs H Q => ∃ (a : Addr) (ns : List Int) (d : Int), vs = [.ref a] ∧ zs = [.int d] ∧ SqL X.K H a (ns.map V.int) ∧ Q (.int (match ns with | [] => d | n :: r => maxI (n :: r))) H) := by
  intro pins s σ H vs zs us ws Q I r rz h
  obtain ⟨a, ns, d, rfl, rfl, hs, q⟩ := h
  obtain ⟨its, rv, hl, _⟩ := I.list hs
  obtain rfl := Vals.ref1 r
  obtain ⟨w1, rfl, t, rfl⟩ := vals1 rz
  obtain ⟨as, ra⟩ := dp_ints I rv
  refine PySem.W.max_list_default (I.ok.hd hc) hl.isList ra (alike_all_ints ns) (by rw [PySem.W.depth_ints]; omega) (fun e h' tk hk => ?_) fun y ys i v h' tk bs e hv hr hk => ?_
  · cases ns with
    | nil => exact ⟨.int d, H, I.kept hk, ⟨t, rfl⟩, q⟩
    | cons n r => cases e
  · cases ns with
    | nil => cases e
    | cons n r =>
      rw [List.map_cons] at e
      injection e with e1 e2
      subst e1 e2
      rw [PySem.W.maxD_ints, foldl_max] at hr
      cases hr with
      | int i t => exact ⟨.int _, H, I.kept hk, ⟨t, rfl⟩, q⟩
def gMinD : Val → Val → W → R Val := fun x y w => match x.d, y.d with
  | .lst ds, .int d => match intsOf ds with
    | some ns => .ok (fz (.int (match ns with | [] => d | n :: r => minI (n :: r)))) w
    | none => .bad
  | _, _ => .bad
def gMaxD : Val → Val → W → R Val := fun x y w => match x.d, y.d with
  | .lst ds, .int d => match intsOf ds with
    | some ns => .ok (fz (.int (match ns with | [] => d | n :: r => maxI (n :: r)))) w
    | none => .bad
  | _, _ => .bad
section
variable {P : Pm}
theorem rop_minD : ROp P (fun x y H Q => ∃ (a : Addr) (ns : List Int) (d : Int), [x] = [.ref a] ∧ [y] = [.int d] ∧ SqL P.K H a (ns.map V.int) ∧ Q (.int (match ns with | [] => d | n :: r => minI (n :: r))) H) gMinD := by
  intro H G ws w vx vy x y Q s r hx hy h
  obtain ⟨m, d⟩ := x
  obtain ⟨m2, d2⟩ := y
  cases d <;> try exact h.elim
  cases d2 <;> try exact h.elim
  have ey := rv_int hy
  subst ey
  obtain ⟨a, vs, rfl, q1, r1⟩ := rv_lst s hx
  unfold gMinD at h
  dsimp only at h
  split at h
  · rename_i ns hn
    rw [intsOf_eq hn] at r1
    rw [r1.of_ints] at q1
    exact ⟨a, ns, _, rfl, rfl, SqL.of q1, fz_q s r h (.int _)⟩
  · exact h.elim
theorem rop_maxD : ROp P (fun x y H Q => ∃ (a : Addr) (ns : List Int) (d : Int), [x] = [.ref a] ∧ [y] = [.int d] ∧ SqL P.K H a (ns.map V.int) ∧ Q (.int (match ns with | [] => d | n :: r => maxI (n :: r))) H) gMaxD := by
  intro H G ws w vx vy x y Q s r hx hy h
  obtain ⟨m, d⟩ := x
  obtain ⟨m2, d2⟩ := y
  cases d <;> try exact h.elim
  cases d2 <;> try exact h.elim
  have ey := rv_int hy
  subst ey
  obtain ⟨a, vs, rfl, q1, r1⟩ := rv_lst s hx
  unfold gMaxD at h
  dsimp only at h
  split at h
  · rename_i ns hn
    rw [intsOf_eq hn] at r1
    rw [r1.of_ints] at q1
    exact ⟨a, ns, _, rfl, rfl, SqL.of q1, fz_q s r h (.int _)⟩
  · exact h.elim
theorem gMinD_nx (x y : Val) (w : W) (e : Xc) (w' : W) : gMinD x y w ≠ .ex e w' := by
  unfold gMinD
  split <;> (try split) <;> exact fun h => nomatch h
theorem gMaxD_nx (x y : Val) (w : W) (e : Xc) (w' : W) : gMaxD x y w ≠ .ex e w' := by
  unfold gMaxD
  split <;> (try split) <;> exact fun h => nomatch h
end
section
variable {X : Cx} {κ : Kx} {k : Nat} {a b : Expr} {fa fb : DE} {fr : DA} {p pos kpos : Pos}
theorem e_minD (c : Fe X κ k) (hm : X.mg "min" = none) (ha : XE X κ a fa) (hb : XE X κ b fb) (hg : Gl X "min" := by rfl) (hs : starEach [a] X.env = (false, eval a X.env) :: starEach [] X.env := by rfl)
    (he : backTo pos (starEach [a] X.env) = (false, eval a X.env) :: backTo pos (starEach [] X.env) := by rfl) (hpl : (backTo pos (starEach [a] X.env)).any (·.1) = false := by rfl) :
    XE X κ (.Call (.Name "min" p) [a] [⟨some "default", b, kpos⟩] pos) (dOp gMinD fa fb) := by
  obtain ⟨ta, pa, ea⟩ := ha
  obtain ⟨tb, pb, eb⟩ := hb
  exact ⟨_, pe_callBK (cr_minD c.calm c.u64) hg hm (by decide +kernel) (pa_cons pa pa_nil hs) (pk_cons pb pk_nil) (by decide) (by decide) he hpl rfl rfl rfl, ev_op ea eb rop_minD gMinD_nx⟩
theorem e_maxD (c : Fe X κ k) (hm : X.mg "max" = none) (ha : XE X κ a fa) (hb : XE X κ b fb) (hg : Gl X "max" := by rfl) (hs : starEach [a] X.env = (false, eval a X.env) :: starEach [] X.env := by rfl)
    (he : backTo pos (starEach [a] X.env) = (false, eval a X.env) :: backTo pos (starEach [] X.env) := by rfl) (hpl : (backTo pos (starEach [a] X.env)).any (·.1) = false := by rfl) :
    XE X κ (.Call (.Name "max" p) [a] [⟨some "default", b, kpos⟩] pos) (dOp gMaxD fa fb) := by
  obtain ⟨ta, pa, ea⟩ := ha
  obtain ⟨tb, pb, eb⟩ := hb
  exact ⟨_, pe_callBK (cr_maxD c.calm c.u64) hg hm (by decide +kernel) (pa_cons pa pa_nil hs) (pk_cons pb pk_nil) (by decide) (by decide) he hpl rfl rfl rfl, ev_op ea eb rop_maxD gMaxD_nx⟩
theorem e_sorted (c : Fe X κ k) (hm : X.mg "sorted" = none) (ha : XA X κ [a] fr) (hg : Gl X "sorted" := by rfl) (he : starEach [a] X.env = (false, eval a X.env) :: starEach [] X.env := by rfl) : XE X κ (.Call (.Name "sorted" p) [a] [] pos) (dCB gSorted fr) := e_cb (cr_sortD c.u64) rc_sortD gSorted_nx hm (by decide +kernel) ha hg (by decide) (by decide) he
end
end DL

namespace DL
open PySem L2 PyProof.Rows
/-! ### xs.remove(x): texts, x among them -/
theorem firstS : ∀ {ks : List Str} {k : Str}, k ∈ ks → ∃ j, ∃ h : j < ks.length, ks[j] = k ∧ (∀ i (hi : i < ks.length), i < j → ks[i] ≠ k) ∧ ks.eraseIdx j = ks.erase k
  | y :: r, k, h => by
    by_cases e : y = k
    · exact ⟨0, by simp, e, fun i _ hi => absurd hi (Nat.not_lt_zero _), by rw [e]; simp⟩
    · obtain ⟨j, h1, h2, h3, h4⟩ := firstS ((List.mem_cons.mp h).resolve_left fun z => e z.symm)
      refine ⟨j + 1, by simpa using h1, by simpa using h2, fun i hi hj => ?_, ?_⟩
      · cases i with
        | zero => simpa using e
        | succ i => simpa using h3 i (by simpa using hi) (by omega)
      · rw [List.erase_cons_tail (by simpa using e), ← h4]
        rfl
theorem eraseIdx_map {α β : Type} (f : α → β) : ∀ (l : List α) (j : Nat), (l.map f).eraseIdx j = (l.eraseIdx j).map f
  | [], _ => rfl
  | _ :: _, 0 => rfl
  | a :: r, j + 1 => by
    have := eraseIdx_map f r j
    simp [this]
theorem vals_erase : ∀ {xs : List V} {us : List Value} (j : Nat), Vals xs us → Vals (xs.eraseIdx j) (us.eraseIdx j)
  | _, _, _, .nil => .nil
  | _, _, 0, .cons _ b => b
  | _, _, j + 1, .cons a b => .cons a (vals_erase j b)
def rRemS : V → List V → Hp → VK → Prop := fun x xs H Q => ∃ (l : Addr) (ks : List Str) (k : Str), x = .ref l ∧ xs = [.str k] ∧ H l = some (.lst (ks.map V.str)) ∧ k ∈ ks ∧ Q .non (upd H l (.lst ((ks.erase k).map V.str)))
theorem mt_removeS {X : Cx} : MtR X "list.remove" rRemS := by
  intro pins s σ H x xs v us Q I rx rxs h
  obtain ⟨l, ks, k, rfl, rfl, hH, hk, q⟩ := h
  cases rx
  obtain ⟨u, rfl, t, rfl⟩ := vals1 rxs
  obtain ⟨z, its, n, r, hl, e0⟩ := I.lstM hH
  have hi := Vals.strs r
  have hlen : ks.length = its.length := by rw [← hl, List.length_map]
  obtain ⟨j, j1, j2, j3, j4⟩ := firstS hk
  have hj : j < its.length := by omega
  have hsz : its.toArray.size ≤ sizeLine := by rw [List.size_toArray, ← hl]; exact z
  refine call_meets PySem.F.slot_list_remove ⟨_, e0, rfl⟩ PySem.F.entry_list_remove (PySem.F.args_list_remove_2 _ _)
    (MeetsSeq.list_remove l its.toArray n (.str k t) (isStrOf k) (fun y hy => eq_isStrOf k t hi y (by simpa using hy)) j (by simpa using hj) ?a1 (fun i h2 hlt => ?a2) hsz) ⟨e0, ?_⟩
  case a1 =>
    show isStrOf k its[j] = true
    rw [PySem.SeqAt.isStrOf_at k hi j hj j1, j2]
    exact beq_self_eq_true k
  case a2 =>
    have h3 : i < its.length := by simpa using h2
    show isStrOf k its[i] = false
    rw [PySem.SeqAt.isStrOf_at k hi i h3 (by omega)]
    simpa using j3 i (by omega) hlt
  have r2 : Vals ((ks.erase k).map V.str) (its.eraseIdx j) := by
    have := vals_erase j r
    rw [eraseIdx_map, j4] at this
    exact this
  refine ⟨.non, _, I.lset (its' := its.eraseIdx j) hH e0 (by rw [List.eraseIdxIfInBounds_toArray]) r2 ?_, rfl, q⟩
  rw [List.length_map]
  have := List.length_erase_le (a := k) (l := ks)
  rw [List.length_map] at z
  omega
section
variable {P : Pm} {H0 : En} {Wi : WX} {ta : TE} {fa : DE}
def sRem (i : Nat) (f : DE) : DS := fun ρ w => match ownL ρ i with
  | some ds => (f ρ w).thn ρ fun x w => match x.d, strsOf ds with
    | .str k, some ks => if k ∈ ks then .next (ρ.set i (some ⟨.nw, .lst ((ks.erase k).map .str)⟩)) w else .bad
    | _, _ => .bad
  | none => .bad
theorem ev_rem {i : Nat} (ha : EvE P H0 Wi ta fa) : EvS P H0 Wi (tDrop (tBM P.K "list" rRemS (tVar i) (tCons ta tNil))) (sRem i fa) := by
  intro σ H G ws ρ w D st h
  unfold sRem at h
  cases eo : ownL ρ i with
  | none => rw [eo] at h; exact h.elim
  | some ds =>
    rw [eo] at h
    dsimp only at h
    have ei := ownL_of eo
    obtain ⟨a, vs, ea, hH, _, _, _⟩ := st.list ei
    refine ⟨.ref a, ea, .inl ⟨rfl, vs, SqL.of hH⟩, ?_⟩
    refine ha σ H G ws ρ w _ st (postE_of st h fun x w' _ h v H1 G1 ws1 n r k => ?_)
    obtain ⟨m, d⟩ := x
    cases d <;> try exact h.elim
    rename_i z he
    cases es : strsOf ds with
    | none => simp only [es] at h; exact h.elim
    | some ks =>
      simp only [es] at h
      split at h
      · rename_i hk
        have ev := rv_str r
        subst ev
        have st2 := st.next n
        obtain ⟨a2, vs2, ea2, hH2, rs2, _, _⟩ := st2.list ei
        rw [ea] at ea2
        cases ea2
        rw [strsOf_eq es] at rs2
        rw [rs2.of_strs] at hH2
        exact ⟨a, ks, z, rfl, rfl, hH2, hk, h σ _ G1 ws1 (st2.mut ei rfl ea (.lst upd_same (Reps.strs _))) n.mon⟩
      · exact h.elim
end
section
variable {X : Cx} {κ : Kx} {a : Expr} {fa : DE} {p pos : Pos}
theorem s_rem {x : Str} {apos cpos : Pos} (i : Nat) (ha : XE X κ a fa) (hN : X.N[i]? = some x := by rfl) (hv : Vis X.env.scope x := by first | exact Or.inl rfl | exact Or.inr (Or.inl rfl) | exact Or.inr (Or.inr rfl)) (hd : (x == ("__debug__" : Str)) = false := by decide)
    (hcd : (x == ("__classdict__" : Str)) = false := by decide) (hsw : swapsWith (.Call (.Attribute (.Name x p) "remove" apos) [a] [] cpos) none pos.line X.env = pure false := by rfl)
    (hs1 : starEach [a] X.env = (false, eval a X.env) :: starEach [] X.env := by rfl)
    (hbase : attributeBase (.Name x p) "remove" X.env (eval (.Name x p) X.env) = eval (.Name x p) X.env := by rfl)
    (hfew : ((backTo cpos (starEach [a] X.env)).all (fun x => !x.1) && (backToKw cpos (keywordEach [] X.env)).all (fun x => x.1.isSome)
      && decide ([a].length + ([] : List Keyword).length + (if ([] : List Keyword).isEmpty then 0 else 1) < 30)) = true := by rfl)
    (hline : (apos.endLine == cpos.line) = true := by rfl) : XS X κ (.Expr (.Call (.Attribute (.Name x p) "remove" apos) [a] [] cpos) pos) (sRem i fa) := by
  obtain ⟨t, pa, ea⟩ := ha
  exact ⟨_, ps_expr (pe_bm PySem.F.plainAttrs_list PySem.F.slot_list_remove PySem.F.type_list_remove mt_removeS (pe_var hN hv hd hcd) (pa_cons pa pa_nil hs1) hbase hfew hline hs1) hsw, ev_rem ea⟩
end
end DL

namespace DL
open PySem L2
theorem ro {j : Int} (h : -10000 ≤ j) (h2 : j ≤ 10000) : RO j := by unfold RO; omega
theorem ro2 {i j : Int} (h : -10000 ≤ i) (h2 : i ≤ 10000) (h3 : -10000 ≤ j) (h4 : j ≤ 10000) : RO2 i j := by unfold RO2; omega
noncomputable def rng1 : List Val → W → R (List D × Bool) := fun xs w => match xs with | [⟨_, .int j⟩] => if RO j then .ok (rngD 0 j.toNat, true) w else .bad | _ => .bad
noncomputable def rng2 : List Val → W → R (List D × Bool) := fun xs w => match xs with | [⟨_, .int i⟩, ⟨_, .int j⟩] => if RO2 i j then .ok (rngD i (j - i).toNat, true) w else .bad | _ => .bad
section
variable (ρ : Env) (w : W) (fa fb fc : DE) (g g' : Val → Val → W → R Val) (fA fB : DT) (fr : DA) (s s' : DS) (x y : Val) (m m' : Md)
@[simp] theorem bind_ok {α β : Type} (a : α) (f : α → W → R β) : (R.ok a w).bind f = f a w := rfl
@[simp] theorem rthn_ok {α : Type} (a : α) (f : α → W → Out) : (R.ok a w).thn ρ f = f a w := rfl
@[simp] theorem othn_next (f : DS) : (Out.next ρ w).thn f = f ρ w := rfl
@[simp] theorem othn_ret (f : DS) : (Out.ret x w).thn f = .ret x w := rfl
@[simp] theorem chk_eq {α : Type} (r : R α) : chk x w w r = r := by simp [chk]
@[simp] theorem dVar_s (i : Nat) : dVar i ρ w = match ρ[i]? with | some (some x) => .ok ⟨if x.m = .nw then .bo else x.m, x.d⟩ w | _ => .bad := rfl
@[simp] theorem dC_s (d : D) : dC d ρ w = .ok (fz d) w := rfl
@[simp] theorem dOp_s : dOp g fa fb ρ w = (fa ρ w).bind fun x w1 => (fb ρ w1).bind fun y w2 => chk x w1 w2 (g x y w2) := rfl
@[simp] theorem dUn_s (g : Val → W → R Val) : dUn g fa ρ w = (fa ρ w).bind fun x w => g x w := rfl
@[simp] theorem dCB_s (g : List Val → W → R Val) : dCB g fr ρ w = (fr ρ w).bind fun x w => g x w := rfl
@[simp] theorem tst_s : tst fa ρ w = (fa ρ w).bind fun x w => match x.d with | .bl b => .ok b w | _ => .bad := rfl
@[simp] theorem dNot_s : dNot fA ρ w = (fA ρ w).bind fun b w => .ok (!b) w := rfl
@[simp] theorem dAnd_s : dAnd fA fB ρ w = (fA ρ w).bind fun b w => if b then fB ρ w else .ok false w := rfl
@[simp] theorem dOr_s : dOr fA fB ρ w = (fA ρ w).bind fun b w => if b then .ok true w else fB ρ w := rfl
@[simp] theorem dAndV_s : dAndV fa fb ρ w = (fa ρ w).bind fun x w => match x.d with | .bl true => fb ρ w | .bl false => .ok (fz (.bl false)) w | _ => .bad := rfl
@[simp] theorem dOrV_s : dOrV fa fb ρ w = (fa ρ w).bind fun x w => match x.d with | .bl false => fb ρ w | .bl true => .ok (fz (.bl true)) w | _ => .bad := rfl
@[simp] theorem dNotV_s : dNotV fa ρ w = (fa ρ w).bind fun x w => match x.d with | .bl b => .ok (fz (.bl (!b))) w | _ => .bad := rfl
@[simp] theorem dIf_s : dIf fA fa fb ρ w = (fA ρ w).bind fun b w => if b then fa ρ w else fb ρ w := rfl
@[simp] theorem dNil_s : dNil ρ w = .ok [] w := rfl
@[simp] theorem dOne_s : dOne fa ρ w = (fa ρ w).bind fun x w => .ok [x] w := rfl
@[simp] theorem dCons_s : dCons fa fr ρ w = (fa ρ w).bind fun x w1 => (fr ρ w1).bind fun xs w2 => chk x w1 w2 (.ok (x :: xs) w2) := rfl
@[simp] theorem dTup_s : dTup fr ρ w = (fr ρ w).bind fun xs w => match frzD xs with | some ds => if ds.length ≤ sizeLine then .ok (fz (.tup ds)) w else .bad | none => .bad := rfl
@[simp] theorem dLst_s : dLst fr ρ w = (fr ρ w).bind fun xs w => match frzD xs with | some ds => if ds.length ≤ sizeLine then .ok ⟨.nw, .lst ds⟩ w else .bad | none => .bad := rfl
@[simp] theorem frzD_nil : frzD [] = some [] := rfl
@[simp] theorem frzD_fz (d : D) (xs : List Val) : frzD (⟨.fz, d⟩ :: xs) = (frzD xs).map (d :: ·) := by simp only [frzD]; cases frzD xs <;> rfl
@[simp] theorem frzD_nw (d : D) (xs : List Val) : frzD (⟨.nw, d⟩ :: xs) = (frzD xs).map (d :: ·) := by simp only [frzD]; cases frzD xs <;> rfl
@[simp] theorem dChain_s : dChain g g' fa fb fc ρ w = (fa ρ w).bind fun x w1 => (fb ρ w1).bind fun y w2 => chk x w1 w2 ((g x y w2).bind fun z w3 => match z.d with | .bl true => (fc ρ w3).bind fun u w4 => chk y w2 w4 (g' y u w4) | .bl false => .ok (fz (.bl false)) w3 | _ => .bad) := rfl
@[simp] theorem dCall_s (F : DF) (dds : List D) : dCall F dds fr ρ w = (fr ρ w).bind fun xs w => match frzD xs with | some ds => F (ds ++ dds) w | none => .bad := rfl
@[simp] theorem dCallP_s (F : DF) (dds : List D) : dCallP F dds fr ρ w = (fr ρ w).bind fun xs w => match borD xs with
  | some ds => (match F (ds ++ dds) w with
    | .ok x w2 => if imV x ∧ w2.n = w.n then .ok x w else .bad
    | .ex x w2 => if x.fs.isEmpty ∧ w2.n = w.n then .ex x w else .bad
    | .bad => .bad)
  | none => .bad := rfl
@[simp] theorem dNo_s : dNo ρ w = .ok none w := rfl
@[simp] theorem dPart_s : dPart fa ρ w = (fa ρ w).bind fun x w => match x.d with | .int i => .ok (some i) w | _ => .bad := rfl
@[simp] theorem dSl_s (fl fh : DO) : dSl fa fl fh ρ w = (fa ρ w).bind fun x w1 => (fl ρ w1).bind fun lo w2 => (fh ρ w2).bind fun hi w3 => chk x w1 w3 (gSl x lo hi w3) := rfl
/-! statements -/
@[simp] theorem sNext_s : sNext ρ w = .next ρ w := rfl
@[simp] theorem sSeq_s : sSeq s s' ρ w = (s ρ w).thn s' := rfl
@[simp] theorem sSet_s (i : Nat) : sSet i fa ρ w = (fa ρ w).thn ρ fun x w => if keepM x then .next (ρ.set i (some x)) w else .bad := rfl
@[simp] theorem sSetF_s (i : Nat) : sSetF i fa ρ w = (fa ρ w).thn ρ fun x w => if keepM x then .next (ρ.set i (some (fz x.d))) w else .bad := rfl
@[simp] theorem sParF_s (is : List Nat) (fl : List Bool) : sParF is fl fr ρ w = (fr ρ w).thn ρ fun xs w => if is.length = xs.length ∧ fl.length = xs.length ∧ xs.all keepM then .next (setXs is (frzF fl xs) ρ) w else .bad := rfl
@[simp] theorem sSetT_s (is : List Nat) : sSetT is fa ρ w = (fa ρ w).thn ρ fun x w => match x.d with | .tup ds => if is.length = ds.length then .next (setAll is ds ρ) w else .bad | _ => .bad := rfl
@[simp] theorem sRet_s : sRet fa ρ w = (fa ρ w).thn ρ fun x w => if keepM x then .ret x w else .bad := rfl
@[simp] theorem sRetV_s (i : Nat) : sRetV i ρ w = match ρ[i]? with | some (some x) => .ret x w | _ => .bad := rfl
@[simp] theorem sIf_s : sIf fA s s' ρ w = (fA ρ w).thn ρ fun b w => if b then s ρ w else s' ρ w := rfl
@[simp] theorem sFrz_s (i : Nat) : sFrz i s ρ w = match ρ[i]? with | some (some x) => s (ρ.set i (some (fz x.d))) w | _ => .bad := rfl
@[simp] theorem sApp_s (i : Nat) : sApp i fa ρ w = match ownL ρ i with | some ds => (fa ρ w).thn ρ fun x w => if keepM x ∧ ds.length < sizeLine then .next (ρ.set i (some ⟨.nw, .lst (ds ++ [x.d])⟩)) w else .bad | none => .bad := rfl
@[simp] theorem sExt_s (i : Nat) : sExt i fa ρ w = match ownL ρ i with | some ds => ((fa ρ w).thn ρ fun x w => match x.d with | .lst es => if ds.length + es.length ≤ sizeLine then .next (ρ.set i (some ⟨.nw, .lst (ds ++ es)⟩)) w else .bad | _ => .bad) | none => .bad := rfl
@[simp] theorem ownL_s (i : Nat) : ownL ρ i = match ρ[i]? with | some (some ⟨.nw, .lst ds⟩) => some ds | _ => none := rfl
@[simp] theorem sFor_s (f : DI) (t : Tg) : sFor f t s ρ w = (f ρ w).thn ρ fun x w => if x.2 then forL t s x.1 ρ w else .bad := rfl
@[simp] theorem iSq_fz (ds : List D) (h : fa ρ w = .ok ⟨.fz, .lst ds⟩ w) : iSq fa ρ w = .ok (ds, true) w := by simp [iSq, h, keepM]
@[simp] theorem iR1_s : iR1 fr ρ w = (fr ρ w).bind rng1 := rfl
@[simp] theorem iR2_s : iR2 fr ρ w = (fr ρ w).bind rng2 := rfl
@[simp] theorem rng1_s {j : Int} (h : RO j) : rng1 [⟨m, .int j⟩] w = .ok (rngD 0 j.toNat, true) w := if_pos h
@[simp] theorem rng2_s {i j : Int} (h : RO2 i j) : rng2 [⟨m, .int i⟩, ⟨m', .int j⟩] w = .ok (rngD i (j - i).toNat, true) w := if_pos h
@[simp] theorem keepM_fz (d : D) : keepM ⟨.fz, d⟩ = true := rfl
@[simp] theorem keepM_nw (d : D) : keepM ⟨.nw, d⟩ = true := rfl
@[simp] theorem setXs_nil (xs : List Val) : setXs [] xs ρ = ρ := rfl
@[simp] theorem setAll_nil (xs : List D) : setAll [] xs ρ = ρ := rfl
@[simp] theorem setAll_cons (i : Nat) (is : List Nat) (d : D) (ds : List D) : setAll (i :: is) (d :: ds) ρ = setAll is ds (ρ.set i (some (fz d))) := rfl
@[simp] theorem setXs_cons (i : Nat) (is : List Nat) (v : Val) (xs : List Val) : setXs (i :: is) (v :: xs) ρ = setXs is xs (ρ.set i (some v)) := rfl
@[simp] theorem frzF_nil : frzF [] [] = [] := rfl
@[simp] theorem frzF_cons (b : Bool) (bs : List Bool) (v : Val) (xs : List Val) : frzF (b :: bs) (v :: xs) = (if b then v else fz v.d) :: frzF bs xs := rfl
@[simp] theorem sz_0 : (0 : Nat) ≤ sizeLine := by decide
@[simp] theorem sz_1 : (1 : Nat) ≤ sizeLine := by decide
@[simp] theorem sz_2 : (2 : Nat) ≤ sizeLine := by decide
@[simp] theorem sz_3 : (3 : Nat) ≤ sizeLine := by decide
@[simp] theorem sz_4 : (4 : Nat) ≤ sizeLine := by decide
@[simp] theorem sz_5 : (5 : Nat) ≤ sizeLine := by decide
@[simp] theorem sz_6 : (6 : Nat) ≤ sizeLine := by decide
@[simp] theorem sz_7 : (7 : Nat) ≤ sizeLine := by decide
@[simp] theorem sz_8 : (8 : Nat) ≤ sizeLine := by decide
theorem sz_le {n : Nat} (h : n ≤ 10000) : n ≤ sizeLine := Nat.le_trans h (by decide)
theorem sz_lt {n : Nat} (h : n ≤ 10000) : n < sizeLine := Nat.lt_of_le_of_lt h (by decide)
/-! operations -/
@[simp] theorem gAdd_ii (i j : Int) : gAdd ⟨m, .int i⟩ ⟨m', .int j⟩ w = .ok (fz (.int (i + j))) w := rfl
@[simp] theorem gMul_ii (i j : Int) (h : CMul i j) : gMul ⟨m, .int i⟩ ⟨m', .int j⟩ w = .ok (fz (.int (i * j))) w := by simp [gMul, h]
@[simp] theorem gI0_ii (f : Int → Int → D) (i j : Int) : gI0 f ⟨m, .int i⟩ ⟨m', .int j⟩ w = .ok (fz (f i j)) w := rfl
@[simp] theorem gDiv_ii (i j : Int) (h : CDivW i j) : gDiv ⟨m, .int i⟩ ⟨m', .int j⟩ w = .ok (fz (.int (i / j))) w := by simp [gDiv, gI, h]
@[simp] theorem gMod_ii (i j : Int) (h : 0 < j) : gMod ⟨m, .int i⟩ ⟨m', .int j⟩ w = .ok (fz (.int (i % j))) w := by simp [gMod, gI, h]
@[simp] theorem gPow_ii (i j : Int) (h : CPow i j) : gPow ⟨m, .int i⟩ ⟨m', .int j⟩ w = .ok (fz (.int (i ^ j.toNat))) w := by simp [gPow, gI, h]
@[simp] theorem gNeg_i (i : Int) : gNeg ⟨m, .int i⟩ w = .ok (fz (.int (-i))) w := rfl
@[simp] theorem gEq_ii (b : Bool) (i j : Int) : gEq b ⟨m, .int i⟩ ⟨m', .int j⟩ w = .ok (fz (.bl (b != (i == j)))) w := rfl
@[simp] theorem gMax2_ii (i j : Int) : gMax2 [⟨m, .int i⟩, ⟨m', .int j⟩] w = .ok (fz (.int (if j > i then j else i))) w := rfl
@[simp] theorem gMin2_ii (i j : Int) : gMin2 [⟨m, .int i⟩, ⟨m', .int j⟩] w = .ok (fz (.int (if j < i then j else i))) w := rfl
@[simp] theorem gLen_l (ds : List D) : gLen [⟨m, .lst ds⟩] w = .ok (fz (.int ds.length)) w := rfl
@[simp] theorem gLen_t (ds : List D) : gLen [⟨m, .tup ds⟩] w = .ok (fz (.int ds.length)) w := rfl
@[simp] theorem gLen_s (ns : List Int) : gLen [⟨m, .scr ns⟩] w = .ok (fz (.int ns.length)) w := rfl
@[simp] theorem gIx_l (ds : List D) (i : Int) : gIx ⟨m, .lst ds⟩ ⟨m', .int i⟩ w = match atI ds i with | some d => .ok (fz d) w | none => .bad := rfl
@[simp] theorem gIx_t (ds : List D) (i : Int) : gIx ⟨m, .tup ds⟩ ⟨m', .int i⟩ w = match atI ds i with | some d => .ok (fz d) w | none => .bad := rfl
theorem gIx_scr (ns : List Int) (i : Int) : gIx ⟨m, .scr ns⟩ ⟨m', .int i⟩ w = match atI ns i with | some n => .ok (fz (.int n)) w | none => .bad := rfl
@[simp] theorem gSl_l (ds : List D) (lo hi : Option Int) : gSl ⟨m, .lst ds⟩ lo hi w = .ok ⟨.nw, .lst (cutL ds lo hi)⟩ w := rfl
@[simp] theorem gAdd_ll (xs ys : List D) (h : xs.length + ys.length ≤ sizeLine) : gAdd ⟨m, .lst xs⟩ ⟨m', .lst ys⟩ w = .ok ⟨.nw, .lst (xs ++ ys)⟩ w := by simp [gAdd, h]
@[simp] theorem gInt_b (b : Bool) : gInt [⟨m, .bl b⟩] w = .ok (fz (.int (if b then 1 else 0))) w := rfl
@[simp] theorem gInt_i (i : Int) : gInt [⟨m, .int i⟩] w = .ok (fz (.int i)) w := rfl
@[simp] theorem gList_l (ds : List D) : gList [⟨m, .lst ds⟩] w = .ok ⟨.nw, .lst ds⟩ w := rfl
theorem gEq_scrN (ns : List Int) : gEq true ⟨m, .scr ns⟩ ⟨m', .lst []⟩ w = .ok (fz (.bl (ns != []))) w := by
  cases ns <;> rfl
end
theorem atI_pos {α : Type} {xs : List α} {i : Int} (h0 : 0 ≤ i) (h1 : i < xs.length) : atI xs i = xs[i.toNat]? := by
  unfold atI ixN
  rw [if_pos h0, if_pos h1]
  rfl
theorem cdiv (i j : Int) (h : 0 < j) (h2 : j < 2 ^ 64) : CDivW i j := by
  refine ⟨h, ?_⟩
  have h3 : j.natAbs < 2 ^ 64 := by omega
  by_cases hz : j.natAbs = 0
  · rw [hz]; decide
  · have := (Nat.log2_lt hz).mpr h3
    omega
theorem cpow_10_18 : CPow 10 18 := ⟨by decide, by decide, by decide⟩
theorem cmulR (i j : Int) (h : -(2 ^ 64) < j) (h2 : j < 2 ^ 64) : CMul i j := .inr ⟨h, h2⟩
theorem cmulL (i j : Int) (h : -(2 ^ 64) < i) (h2 : i < 2 ^ 64) : CMul i j := .inl ⟨h, h2⟩
/-- a loop that leaves the world as it is -/
theorem forL_pure {t : Tg} {b : DS} (I : Nat → Env → Prop) : ∀ (ds : List D) (k : Nat) (ρ : Env), I k ρ → (∀ (i : Nat) (d : D) (ρ : Env), ds[i]? = some d → I (k + i) ρ → ∃ ρ1 ρ2, setT t d ρ = some ρ1 ∧ (∀ w, b ρ1 w = .next ρ2 w) ∧ I (k + i + 1) ρ2) →
    ∃ ρ', (∀ w, forL t b ds ρ w = .next ρ' w) ∧ I (k + ds.length) ρ'
  | [], k, ρ, h0, _ => ⟨ρ, fun _ => rfl, h0⟩
  | d :: ds, k, ρ, h0, hs => by
    obtain ⟨ρ1, ρ2, e1, e2, h1⟩ := hs 0 d ρ rfl h0
    obtain ⟨ρ', e, h⟩ := forL_pure I ds (k + 1) ρ2 h1 fun i d' ρ hd hi => by
      have := hs (i + 1) d' ρ (by simpa using hd) (by rw [show k + (i + 1) = k + 1 + i by omega]; exact hi)
      rw [show k + (i + 1) + 1 = k + 1 + i + 1 by omega] at this
      exact this
    refine ⟨ρ', fun w => ?_, by rw [show k + (d :: ds).length = k + 1 + ds.length by simp; omega]; exact h⟩
    unfold forL
    rw [e1]
    simp only [e2]
    exact e w
theorem rngD_get {lo : Int} {n i : Nat} {d : D} (h : (rngD lo n)[i]? = some d) : i < n ∧ d = .int (lo + i) := by
  have hi : i < n := by have := (List.getElem?_eq_some_iff.mp h).1; simpa [rngD] using this
  refine ⟨hi, ?_⟩
  unfold rngD at h
  rw [List.getElem?_map, List.getElem?_range hi] at h
  exact (Option.some.inj h).symm
@[simp] theorem rngD_length (lo : Int) (n : Nat) : (rngD lo n).length = n := by simp [rngD]
@[simp] theorem setT_nm (i : Nat) (d : D) (ρ : Env) : setT (.nm i) d ρ = some (ρ.set i (some (fz d))) := rfl
theorem atI_ints (vs : List Int) (p : Int) (h0 : 0 ≤ p) (h1 : p < vs.length) : ∃ v ∈ vs, atI (vs.map D.int) p = some (.int v) := by
  have hp : p.toNat < vs.length := by omega
  refine ⟨vs[p.toNat], List.getElem_mem hp, ?_⟩
  rw [atI_pos h0 (by simpa using h1), List.getElem?_map, List.getElem?_eq_getElem hp]
  rfl
/-- a text by its signs -/
def nm (cs : List Nat) : Str := ⟨cs.toArray⟩
theorem nm_app (a b : List Nat) : nm a ++ nm b = nm (a ++ b) := by
  show Str.append (nm a) (nm b) = _
  simp [Str.append, nm]
theorem nm_len (a : List Nat) : (nm a).length = a.length := by simp [nm, Str.length]
theorem nm_inj {a b : List Nat} (h : nm a = nm b) : a = b := by
  have := congrArg (fun s : Str => s.cps.toList) h
  simpa [nm] using this
/-- a small letter -/
def Lt (c : Nat) : Prop := 97 ≤ c ∧ c ≤ 122
theorem letters_ix {p : Int} (h0 : 0 ≤ p) (h1 : p < 26) (m m' : Md) (w : W) : gIx ⟨m, .str "abcdefghijklmnopqrstuvwxyz"⟩ ⟨m', .int p⟩ w = .ok (fz (.str (nm [97 + p.toNat]))) w := by
  have key : ∀ q : Fin 26, (Str.ofString "abcdefghijklmnopqrstuvwxyz").cps.toList[q.1]? = some (97 + q.1) := by decide +kernel
  have hl : (Str.ofString "abcdefghijklmnopqrstuvwxyz").cps.toList.length = 26 := by decide +kernel
  have hs : (Str.ofString "abcdefghijklmnopqrstuvwxyz").length ≤ sizeLine := by decide +kernel
  simp only [gIx, hs, if_true]
  rw [atI_pos h0 (by rw [hl]; exact h1), key ⟨p.toNat, by omega⟩]
  rfl
/-! ### comprehensions -/
theorem lcL_map {α : Type} (dd : α → D) (p : α → Bool) (g : α → D) {t : Tg} {c : DT} {f : DE} {ρ : Env} : ∀ (as : List α),
    (∀ a ∈ as, ∃ ρ', setT t (dd a) ρ = some ρ' ∧ (∀ w, c ρ' w = .ok (p a) w) ∧ (p a = true → ∃ m, keepM ⟨m, g a⟩ = true ∧ ∀ w, f ρ' w = .ok ⟨m, g a⟩ w)) → ∀ w, lcL t c f (as.map dd) ρ w = .ok ((as.filter p).map g) w
  | [], _, w => rfl
  | a :: as, h, w => by
    obtain ⟨ρ', e1, e2, e3⟩ := h a List.mem_cons_self
    have ih := lcL_map dd p g (t := t) (c := c) (f := f) (ρ := ρ) as (fun b hb => h b (List.mem_cons_of_mem _ hb)) w
    rw [List.map_cons]
    unfold lcL
    rw [e1]
    simp only [e2, if_true]
    cases hp : p a with
    | false =>
      simp only [Bool.false_eq_true, if_false]
      rw [ih, List.filter_cons, hp]
      rfl
    | true =>
      obtain ⟨m, k1, k2⟩ := e3 hp
      simp only [if_true, k2, k1]
      rw [ih, List.filter_cons, hp]
      simp
theorem lcL_all {α : Type} (dd : α → D) (g : α → D) {t : Tg} {f : DE} {ρ : Env} (as : List α) (h : ∀ a ∈ as, ∃ ρ', setT t (dd a) ρ = some ρ' ∧ ∃ m, keepM ⟨m, g a⟩ = true ∧ ∀ w, f ρ' w = .ok ⟨m, g a⟩ w) (w : W) : lcL t tYesD f (as.map dd) ρ w = .ok (as.map g) w := by
  have := lcL_map dd (fun _ => true) g (t := t) (c := tYesD) (f := f) (ρ := ρ) as (fun a ha => by
    obtain ⟨ρ', e1, m, k1, k2⟩ := h a ha
    exact ⟨ρ', e1, fun _ => rfl, fun _ => ⟨m, k1, k2⟩⟩) w
  rw [this, List.filter_eq_self.mpr (fun _ _ => rfl)]
theorem dLc_s (fi : DI) (t : Tg) (c : DT) (f : DE) (vs : List Nat) (ρ : Env) (w : W) : dLc fi t c f vs ρ w = (fi ρ w).bind fun x w1 => if x.1.length ≤ sizeLine then (match lcL t c f x.1 (wipeD ρ vs) w1 with | .ok r w2 => .ok ⟨.nw, .lst r⟩ w2 | _ => .bad) else .bad := rfl
theorem dLc_ok {fi : DI} {t : Tg} {c : DT} {f : DE} {vs : List Nat} {ρ : Env} {w : W} {ds r : List D} {b : Bool} (hi : fi ρ w = .ok (ds, b) w) (hs : ds.length ≤ sizeLine) (h : lcL t c f ds (wipeD ρ vs) w = .ok r w) : dLc fi t c f vs ρ w = .ok ⟨.nw, .lst r⟩ w := by
  rw [dLc_s, hi]
  simp [hs, h]
@[simp] theorem wipeD_nil (ρ : Env) : wipeD ρ [] = ρ := rfl
@[simp] theorem wipeD_cons (ρ : Env) (v : Nat) (vs : List Nat) : wipeD ρ (v :: vs) = (wipeD ρ vs).set v none := rfl
@[simp] theorem tYesD_s (ρ : Env) (w : W) : tYesD ρ w = .ok true w := rfl
theorem blsOf_mapF {α : Type} (f : α → Bool) : ∀ as : List α, blsOf (as.map fun a => D.bl (f a)) = some (as.map f)
  | [] => rfl
  | a :: as => by simp only [List.map_cons, blsOf, blsOf_mapF f as]; rfl
theorem intsOf_mapF {α : Type} (f : α → Int) : ∀ as : List α, intsOf (as.map fun a => D.int (f a)) = some (as.map f)
  | [] => rfl
  | a :: as => by simp only [List.map_cons, intsOf, intsOf_mapF f as]; rfl
theorem gAll_map {α : Type} (f : α → Bool) (as : List α) (m : Md) (w : W) : gAll [⟨m, .lst (as.map fun a => D.bl (f a))⟩] w = .ok (fz (.bl (as.all f))) w := by
  simp [gAll, onL, blsOf_mapF]
/-- enumerate's pairs -/
def enumL {α : Type} : Nat → List α → List (Nat × α)
  | _, [] => []
  | k, a :: as => (k, a) :: enumL (k + 1) as
theorem enumD_map {α : Type} (f : α → D) : ∀ (as : List α) (k : Nat), enumD k (as.map f) = (enumL k as).map fun x => .tup [.int x.1, f x.2]
  | [], _ => rfl
  | a :: as, k => by simp only [List.map_cons, enumD, enumL, enumD_map f as]
theorem enumL_mem {α : Type} : ∀ {as : List α} {k : Nat} {x : Nat × α}, x ∈ enumL k as → ∃ i, x.1 = k + i ∧ as[i]? = some x.2
  | a :: as, k, x, h => by
    rcases List.mem_cons.mp h with rfl | h
    · exact ⟨0, rfl, rfl⟩
    · obtain ⟨i, h1, h2⟩ := enumL_mem h
      exact ⟨i + 1, by omega, by simpa using h2⟩
theorem enumL_length {α : Type} : ∀ (as : List α) (k : Nat), (enumL k as).length = as.length
  | [], _ => rfl
  | a :: as, k => by simp [enumL, enumL_length as]
@[simp] theorem atI3_0 {α : Type} (a b c : α) : atI [a, b, c] 0 = some a := rfl
@[simp] theorem atI3_1 {α : Type} (a b c : α) : atI [a, b, c] 1 = some b := rfl
@[simp] theorem atI3_2 {α : Type} (a b c : α) : atI [a, b, c] 2 = some c := rfl
end DL

namespace DL
open PySem L2
theorem eqDs_refl : ∀ {ds : List D}, (∀ d ∈ ds, eqD d d = true) → eqDs ds ds = true
  | [], _ => rfl
  | d :: ds, h => by
    unfold eqDs
    rw [h d List.mem_cons_self, eqDs_refl fun x hx => h x (List.mem_cons_of_mem _ hx)]
    rfl
theorem eqD_refl : ∀ (n : Nat) (d : D), plN n d = true → eqD d d = true := by
  intro n
  induction n with
  | zero =>
    intro d h
    cases d <;> first | (unfold eqD; simp; done) | (simp [plN] at h; done)
  | succ n ih =>
    intro d h
    cases d <;> try (first | (unfold eqD; simp; done) | (simp [plN] at h; done))
    · rename_i xs
      unfold eqD
      refine eqDs_refl fun d hd => ih d ?_
      simp only [plN, List.all_eq_true] at h
      exact h d hd
    · rename_i xs
      unfold eqD
      refine eqDs_refl fun d hd => ih d ?_
      simp only [plN, List.all_eq_true] at h
      exact h d hd
theorem gEq_same {d : D} (h : pl d = true) (b : Bool) (m m' : Md) (w : W) : gEq b ⟨m, d⟩ ⟨m', d⟩ w = .ok (fz (.bl (!b))) w := by
  unfold gEq
  simp only [h, Bool.and_self, if_true, eqD_refl 10 d h]
  cases b <;> rfl
/-- the signs of a text that stands for one -/
def NOk (x : List Nat) : Prop := ∀ c ∈ x, c < 0x110000
theorem strOk_nm {x : List Nat} (h : NOk x) : PyData.strOk (nm x) = true := by
  unfold PyData.strOk nm
  rw [Array.all_eq_true_iff_forall_mem]
  intro c hc
  have := h c (by simpa using hc)
  simpa using this
theorem cutL_to {α : Type} (xs : List α) (k : Nat) : cutL xs none (some (k : Int)) = xs.take k := by
  unfold cutL
  rw [HT.sIx_none, HT.sIx_nat]
  simp
theorem cutL_from {α : Type} (xs : List α) (k : Nat) : cutL xs (some (k : Int)) none = xs.drop k := by
  unfold cutL
  rw [HT.sIx_none, HT.sIx_nat]
  by_cases h : k ≤ xs.length
  · rw [Nat.min_eq_left h, List.take_of_length_le (by simp)]
  · rw [Nat.min_eq_right (by omega)]
    rw [List.drop_eq_nil_of_le (by omega : xs.length ≤ k), List.drop_eq_nil_of_le (Nat.le_refl _)]
    simp
theorem cutL_one {α : Type} (xs : List α) (k : Nat) (x : α) (h : xs[k]? = some x) : cutL xs (some (k : Int)) (some ((k : Int) + 1)) = [x] := by
  have hk : k < xs.length := (List.getElem?_eq_some_iff.mp h).1
  have e : (k : Int) + 1 = ((k + 1 : Nat) : Int) := by omega
  unfold cutL
  rw [e, HT.sIx_nat, HT.sIx_nat, Nat.min_eq_left (by omega), Nat.min_eq_left (by omega), show k + 1 - k = 1 by omega, List.drop_eq_getElem_cons hk]
  have := (List.getElem?_eq_some_iff.mp h).2
  simp [this]
theorem cutL_m1 {α : Type} (xs : List α) (x : α) : cutL (xs ++ [x]) none (some (-1)) = xs := by
  unfold cutL
  rw [HT.sIx_none]
  have : HT.sIx (xs ++ [x]).length (xs ++ [x]).length (some (-1)) = xs.length := by
    show (if (-1 : Int) < 0 then ((-1 : Int) + ((xs ++ [x]).length : Int)).toNat else min (-1 : Int).toNat (xs ++ [x]).length) = xs.length
    rw [if_pos (by decide)]
    simp
    omega
  rw [this]
  simp
theorem fnD_ret {n N : Nat} {g : DS} {ds : List D} {w w' : W} {x : Val} (hl : ds.length = n) (h : g (ds.map (fun d => some (fz d)) ++ List.replicate (N - n) none) w = .ret x w') : fnD n N g ds w = .ok x w' := by
  unfold fnD
  rw [if_pos hl, h]
@[simp] theorem kb_NoneType_str : kitB "NoneType" "str" = some false := by decide +kernel
@[simp] theorem kb_bool_str : kitB "bool" "str" = some false := by decide +kernel
@[simp] theorem kb_int_str : kitB "int" "str" = some false := by decide +kernel
@[simp] theorem kb_str_str : kitB "str" "str" = some true := by decide +kernel
@[simp] theorem kb_tuple_str : kitB "tuple" "str" = some false := by decide +kernel
@[simp] theorem kb_list_str : kitB "list" "str" = some false := by decide +kernel
@[simp] theorem kb_dict_str : kitB "dict" "str" = some false := by decide +kernel
@[simp] theorem kb_NoneType_tuple : kitB "NoneType" "tuple" = some false := by decide +kernel
@[simp] theorem kb_bool_tuple : kitB "bool" "tuple" = some false := by decide +kernel
@[simp] theorem kb_int_tuple : kitB "int" "tuple" = some false := by decide +kernel
@[simp] theorem kb_str_tuple : kitB "str" "tuple" = some false := by decide +kernel
@[simp] theorem kb_tuple_tuple : kitB "tuple" "tuple" = some true := by decide +kernel
@[simp] theorem kb_list_tuple : kitB "list" "tuple" = some false := by decide +kernel
@[simp] theorem kb_dict_tuple : kitB "dict" "tuple" = some false := by decide +kernel
@[simp] theorem kb_NoneType_bool : kitB "NoneType" "bool" = some false := by decide +kernel
@[simp] theorem kb_bool_bool : kitB "bool" "bool" = some true := by decide +kernel
@[simp] theorem kb_int_bool : kitB "int" "bool" = some false := by decide +kernel
@[simp] theorem kb_str_bool : kitB "str" "bool" = some false := by decide +kernel
@[simp] theorem kb_tuple_bool : kitB "tuple" "bool" = some false := by decide +kernel
@[simp] theorem kb_list_bool : kitB "list" "bool" = some false := by decide +kernel
@[simp] theorem kb_dict_bool : kitB "dict" "bool" = some false := by decide +kernel
@[simp] theorem kb_NoneType_int : kitB "NoneType" "int" = some false := by decide +kernel
@[simp] theorem kb_bool_int : kitB "bool" "int" = some true := by decide +kernel
@[simp] theorem kb_int_int : kitB "int" "int" = some true := by decide +kernel
@[simp] theorem kb_str_int : kitB "str" "int" = some false := by decide +kernel
@[simp] theorem kb_tuple_int : kitB "tuple" "int" = some false := by decide +kernel
@[simp] theorem kb_list_int : kitB "list" "int" = some false := by decide +kernel
@[simp] theorem kb_dict_int : kitB "dict" "int" = some false := by decide +kernel
@[simp] theorem kb_NoneType_list : kitB "NoneType" "list" = some false := by decide +kernel
@[simp] theorem kb_bool_list : kitB "bool" "list" = some false := by decide +kernel
@[simp] theorem kb_int_list : kitB "int" "list" = some false := by decide +kernel
@[simp] theorem kb_str_list : kitB "str" "list" = some false := by decide +kernel
@[simp] theorem kb_tuple_list : kitB "tuple" "list" = some false := by decide +kernel
@[simp] theorem kb_list_list : kitB "list" "list" = some true := by decide +kernel
@[simp] theorem kb_dict_list : kitB "dict" "list" = some false := by decide +kernel
/-- a loop that only looks -/
theorem forL_test {i : Nat} {b : DS} {ρ : Env} : ∀ {ds : List D} (z0 : Option Val), (∀ d ∈ ds, ∀ w, b (ρ.set i (some (fz d))) w = .next (ρ.set i (some (fz d))) w) → ∃ z, ∀ w, forL (.nm i) b ds (ρ.set i z0) w = .next (ρ.set i z) w
  | [], z0, _ => ⟨z0, fun _ => rfl⟩
  | d :: ds, z0, h => by
    obtain ⟨z, hz⟩ := forL_test (ds := ds) (some (fz d)) fun x hx => h x (List.mem_cons_of_mem _ hx)
    refine ⟨z, fun w => ?_⟩
    unfold forL
    simp only [setT_nm, List.set_set, h d List.mem_cons_self]
    exact hz w
end DL

namespace LK
open PySem L2 DL
/-! ### the text by places -/
def top (i : Nat) : Stmt := PySem.Challenge.pw_airhours_k09_whole_no_hour_lost.main.body.getD i (.Pass ⟨0, 0, 0, 0⟩)
abbrev s_law_pick : Stmt := top 5
abbrev s_law_names : Stmt := top 6
abbrev s_law_drawn_rows : Stmt := top 7
abbrev s_law_push_case : Stmt := top 8
abbrev s_joined : Stmt := top 1
abbrev s_next_fixed : Stmt := top 2
abbrev s_pushed : Stmt := top 3
abbrev s_law_is_held : Stmt := top 9
abbrev s_law : Stmt := top 10
/-! ### what each def computes -/
abbrev law_pick_N : List Str := ["script", "k", "many", "cell", "drawn", "rest", "turn"]
noncomputable def law_pick_l1 : DS := (sParF [5, 6] [false, false] (dCons (dOp gDiv (dVar 5) (dC (.int 840))) (dOne (dOp gSub (dVar 6) (dC (.int 1))))))
noncomputable def law_pick_l2 : DT := (dAnd (tst (dOp gGt (dVar 5) (dC (.int 0)))) (tst (dOp gGt (dVar 6) (dC (.int 0)))))
noncomputable def law_pick_b : DS := (sSeq (sSetF 3 (dIf (tst (dOp (gEq true) (dVar 0) (dLst dNil))) (dOp gIx (dVar 0) (dOp gMod (dVar 1) (dCB gLen (dOne (dVar 0))))) (dC (.int 0))))
    (sSeq (sParF [5, 6] [false, false] (dCons (dOp gDiv (dVar 3) (dOp gPow (dC (.int 10)) (dC (.int 18)))) (dOne (dOp gDiv (dVar 1) (dCB gMax2 (dCons (dCB gLen (dOne (dVar 0))) (dOne (dC (.int 1)))))))))
    (sSeq (whileL law_pick_l2 law_pick_l1 100000)
    (sSeq (sIf (tst (dOp gGt (dVar 5) (dC (.int 0)))) (sRet (dOp gMod (dOp gMod (dVar 5) (dC (.int 840))) (dVar 2))) sNext)
    (sSeq (sSetF 4 (dOp gMod (dOp gMul (dOp gAdd (dOp gMul (dVar 3) (dC (.int 31))) (dOp gMul (dC (.int 6151)) (dOp gAdd (dVar 1) (dC (.int 1))))) (dC (.int 40692))) (dC (.int 2147483399))))
    (sRet (dOp gMod (dOp gMod (dOp gAdd (dOp gMul (dVar 4) (dVar 4)) (dOp gDiv (dVar 4) (dC (.int 31)))) (dC (.int 2147483629))) (dVar 2))))))))
noncomputable def law_pick : DF := fnD 3 7 law_pick_b
abbrev law_names_N : List Str := ["script", "at", "many", "k", "letters", "made", "rest", "j", "mark"]
noncomputable def law_names_l1 : DS := (sSetF 6 (dOp gAdd (dVar 6) (dOp gIx (dVar 4) (dCall law_pick [] (dCons (dVar 0) (dCons (dOp gAdd (dOp gAdd (dOp gAdd (dVar 1) (dOp gMul (dC (.int 7)) (dVar 3))) (dVar 7)) (dC (.int 1))) (dOne (dC (.int 26)))))))))
noncomputable def law_names_l2 : DS := (sSeq (sSetF 6 (dC (.str "")))
    (sSeq (sFor (iR1 (dOne (dOp gIx (dLst (dCons (dC (.int 0)) (dCons (dC (.int 0)) (dCons (dC (.int 1)) (dCons (dC (.int 2)) (dOne (dC (.int 5)))))))) (dCall law_pick [] (dCons (dVar 0) (dCons (dOp gAdd (dVar 1) (dOp gMul (dC (.int 7)) (dVar 3))) (dOne (dC (.int 5))))))))) (.nm 7) law_names_l1)
    (sSeq (sSetF 8 (dOp gIx (dVar 4) (dOp gMod (dOp gAdd (dCall law_pick [] (dCons (dVar 0) (dCons (dOp gAdd (dVar 1) (dC (.int 60))) (dOne (dC (.int 26)))))) (dVar 3)) (dC (.int 26)))))
    (sApp 5 (dIf (tst (dOp (gEq false) (dCall law_pick [] (dCons (dVar 0) (dCons (dOp gAdd (dVar 1) (dC (.int 61))) (dOne (dC (.int 2)))))) (dC (.int 0)))) (dOp gAdd (dVar 6) (dVar 8)) (dOp gAdd (dVar 8) (dVar 6)))))))
noncomputable def law_names_b : DS := (sSeq (sParF [4, 5] [false, true] (dCons (dC (.str "abcdefghijklmnopqrstuvwxyz")) (dOne (dLst dNil))))
    (sSeq (sFor (iR1 (dOne (dVar 2))) (.nm 3) law_names_l2)
    (sRetV 5)))
noncomputable def law_names : DF := fnD 3 9 law_names_b
abbrev law_drawn_rows_N : List Str := ["script", "at", "k", "names", "made", "hour", "begin", "end"]
noncomputable def law_drawn_rows_l1 : DS := (sSeq (sSetF 6 (dOp gAdd (dVar 5) (dOp gIx (dLst (dCons (dC (.int 0)) (dCons (dC (.int 0)) (dCons (dC (.int 0)) (dCons (dC (.int 1)) (dOne (dC (.int 2)))))))) (dCall law_pick [] (dCons (dVar 0) (dCons (dOp gAdd (dOp gAdd (dVar 1) (dC (.int 71))) (dVar 2)) (dOne (dC (.int 5)))))))))
    (sSeq (sSetF 7 (dOp gAdd (dVar 6) (dOp gIx (dLst (dCons (dC (.int 1)) (dCons (dC (.int 2)) (dCons (dC (.int 3)) (dCons (dC (.int 4)) (dOne (dC (.int 6)))))))) (dCall law_pick [] (dCons (dVar 0) (dCons (dOp gAdd (dOp gAdd (dVar 1) (dC (.int 78))) (dVar 2)) (dOne (dC (.int 5)))))))))
    (sIf (tst (dOp gLe (dVar 7) (dC (.int 24)))) (sSeq (sApp 4 (dTup (dCons (dVar 6) (dCons (dVar 7) (dOne (dOp gIx (dVar 3) (dCall law_pick [] (dCons (dVar 0) (dCons (dOp gAdd (dOp gAdd (dVar 1) (dC (.int 85))) (dVar 2)) (dOne (dC (.int 3))))))))))))
    (sSetF 5 (dVar 7))) sNext)))
noncomputable def law_drawn_rows_b : DS := (sSeq (sParF [3, 4, 5] [false, true, false] (dCons (dCall law_names [] (dCons (dVar 0) (dCons (dVar 1) (dOne (dC (.int 3)))))) (dCons (dLst dNil) (dOne (dC (.int 0))))))
    (sSeq (sFor (iR1 (dOne (dOp gAdd (dC (.int 1)) (dCall law_pick [] (dCons (dVar 0) (dCons (dOp gAdd (dVar 1) (dC (.int 70))) (dOne (dC (.int 6))))))))) (.nm 2) law_drawn_rows_l1)
    (sFrz 4 (sRet (dTup (dCons (dVar 4) (dOne (dVar 3))))))))
noncomputable def law_drawn_rows : DF := fnD 2 8 law_drawn_rows_b
abbrev law_push_case_N : List Str := ["script", "at", "fixed", "last", "k", "most", "end", "rows", "names", "begin", "old", "row"]
noncomputable def law_push_case_s1 : DS := (sSetT [7, 8] (dCall law_drawn_rows [] (dCons (dVar 0) (dOne (dVar 1)))))
noncomputable def law_push_case_s2 : DS := (sSetF 2 (dSl (dVar 8) dNo (dPart (dOp gIx (dLst (dCons (dC (.int 0)) (dCons (dC (.int 1)) (dCons (dC (.int 1)) (dOne (dC (.int 2))))))) (dCall law_pick [] (dCons (dVar 0) (dCons (dOp gAdd (dVar 1) (dC (.int 100))) (dOne (dC (.int 4))))))))))
noncomputable def law_push_case_s3 : DS := (sSetF 3 (dCB gMaxL (dOne (dOp gAdd (dLc (iSq (dVar 7)) (.nm 11) tYesD (dOp gIx (dVar 11) (dC (.int 1))) [11]) (dLst (dOne (dOp gIx (dLst (dCons (dC (.int 0)) (dCons (dC (.int 12)) (dCons (dC (.int 20)) (dOne (dC (.int 24))))))) (dCall law_pick [] (dCons (dVar 0) (dCons (dOp gAdd (dVar 1) (dC (.int 101))) (dOne (dC (.int 4)))))))))))))
noncomputable def law_push_case_s4 : DS := (sSetF 4 (dOp gMul (dCall law_pick [] (dCons (dVar 0) (dCons (dOp gAdd (dVar 1) (dC (.int 102))) (dOne (dCB gLen (dOne (dVar 7))))))) (dCB gInt (dOne (dOp (gEq false) (dCall law_pick [] (dCons (dVar 0) (dCons (dOp gAdd (dVar 1) (dC (.int 103))) (dOne (dC (.int 3)))))) (dC (.int 0)))))))
noncomputable def law_push_case_s5 : DS := (sSetT [9, 10] (dSl (dOp gIx (dVar 7) (dVar 4)) dNo (dPart (dC (.int 2)))))
noncomputable def law_push_case_s6 : DS := (sSetF 5 (dCB gMinL (dOne (dOp gAdd (dLc (iSq (dVar 7)) (.nm 11) (dAnd (tst (dOp gGt (dOp gIx (dVar 11) (dC (.int 0))) (dVar 9))) (tst (dOp (gIn false) (dOp gIx (dVar 11) (dC (.int 2))) (dVar 2)))) (dOp gIx (dVar 11) (dC (.int 0))) [11]) (dLst (dOne (dVar 3)))))))
noncomputable def law_push_case_s7 : DS := (sSetF 6 (dOp gAdd (dVar 10) (dOp gIx (dLst (dCons (dOp gSub (dVar 5) (dVar 10)) (dCons (dC (.int 0)) (dCons (dC (.int 1)) (dCons (dC (.int 2)) (dOne (dCall law_pick [] (dCons (dVar 0) (dCons (dOp gAdd (dVar 1) (dC (.int 104))) (dOne (dOp gAdd (dOp gSub (dVar 5) (dVar 10)) (dC (.int 1))))))))))))) (dCall law_pick [] (dCons (dVar 0) (dCons (dOp gAdd (dVar 1) (dC (.int 105))) (dOne (dC (.int 5)))))))))
noncomputable def law_push_case_s8 : DS := (sRet (dTup (dCons (dVar 7) (dCons (dVar 9) (dCons (dCB gMin2 (dCons (dVar 6) (dOne (dVar 5)))) (dCons (dVar 3) (dOne (dVar 2))))))))
noncomputable def law_push_case_b : DS := (sSeq law_push_case_s1
    (sSeq law_push_case_s2
    (sSeq law_push_case_s3
    (sSeq law_push_case_s4
    (sSeq law_push_case_s5
    (sSeq law_push_case_s6
    (sSeq law_push_case_s7
    law_push_case_s8)))))))
noncomputable def law_push_case : DF := fnD 2 12 law_push_case_b
abbrev joined_N : List Str := ["rows", "begin", "end", "made", "row"]
noncomputable def joined_l1 : DS := (sIf (tst (dOp (gEq false) (dOp gIx (dVar 4) (dC (.int 0))) (dVar 1))) (sApp 3 (dTup (dCons (dVar 1) (dCons (dVar 2) (dOne (dOp gIx (dVar 4) (dC (.int 2)))))))) (sIf (dOr (tst (dOp gLt (dOp gIx (dVar 4) (dC (.int 0))) (dVar 1))) (tst (dOp gGe (dOp gIx (dVar 4) (dC (.int 0))) (dVar 2)))) (sApp 3 (dVar 4)) (sIf (tst (dOp gGt (dOp gIx (dVar 4) (dC (.int 1))) (dVar 2))) (sApp 3 (dTup (dCons (dVar 2) (dCons (dOp gIx (dVar 4) (dC (.int 1))) (dOne (dOp gIx (dVar 4) (dC (.int 2)))))))) sNext)))
noncomputable def joined_b : DS := (sSeq (sSet 3 (dLst dNil))
    (sSeq (sFor (iSq (dVar 0)) (.nm 4) joined_l1)
    (sRetV 3)))
noncomputable def joined : DF := fnD 3 5 joined_b
abbrev next_fixed_N : List Str := ["rows", "at", "last", "fixed", "row"]
noncomputable def next_fixed_b : DS := (sRet (dOp gMinD (dLc (iSq (dVar 0)) (.nm 4) (dAnd (tst (dOp gGe (dOp gIx (dVar 4) (dC (.int 0))) (dVar 1))) (tst (dOp (gIn false) (dOp gIx (dVar 4) (dC (.int 2))) (dVar 3)))) (dOp gIx (dVar 4) (dC (.int 0))) [4]) (dVar 2)))
noncomputable def next_fixed : DF := fnD 4 5 next_fixed_b
abbrev pushed_N : List Str := ["rows", "begin", "end", "last", "fixed", "row", "made", "at", "stop"]
noncomputable def pushed_l1 : DS := (sIf (tst (dOp (gEq false) (dOp gIx (dVar 5) (dC (.int 0))) (dVar 1))) (sSeq (sApp 6 (dTup (dCons (dVar 1) (dCons (dVar 2) (dOne (dOp gIx (dVar 5) (dC (.int 2))))))))
    (sSetF 7 (dVar 2))) (sIf (tst (dOp gGe (dOp gIx (dVar 5) (dC (.int 0))) (dVar 7))) (sSeq (sApp 6 (dVar 5))
    (sSetF 7 (dOp gIx (dVar 5) (dC (.int 1))))) (sSeq (sSetF 8 (dCB gMin2 (dCons (dOp gSub (dOp gAdd (dVar 7) (dOp gIx (dVar 5) (dC (.int 1)))) (dOp gIx (dVar 5) (dC (.int 0)))) (dOne (dCall next_fixed [] (dCons (dVar 0) (dCons (dOp gIx (dVar 5) (dC (.int 0))) (dCons (dVar 3) (dOne (dVar 4))))))))))
    (sIf (tst (dOp gGt (dVar 8) (dVar 7))) (sSeq (sApp 6 (dTup (dCons (dVar 7) (dCons (dVar 8) (dOne (dOp gIx (dVar 5) (dC (.int 2))))))))
    (sSetF 7 (dVar 8))) sNext))))
noncomputable def pushed_b : DS := (sSeq (sParF [6, 7] [true, false] (dCons (dLst dNil) (dOne (dC (.int 0)))))
    (sSeq (sFor (iSq (dVar 0)) (.nm 5) pushed_l1)
    (sRetV 6)))
noncomputable def pushed : DF := fnD 5 9 pushed_b
abbrev law_is_held_N : List Str := ["rows", "hour", "row"]
noncomputable def law_is_held_b : DS := (sRet (dCB gAny (dOne (dLc (iSq (dVar 0)) (.nm 2) tYesD (dChain gLe gLt (dOp gIx (dVar 2) (dC (.int 0))) (dVar 1) (dOp gIx (dVar 2) (dC (.int 1)))) [2]))))
noncomputable def law_is_held : DF := fnD 2 3 law_is_held_b
abbrev law_N : List Str := ["script", "hour", "some", "many", "rows", "begin", "end", "last", "fixed", "late", "moved", "names", "name", "row", "one"]
noncomputable def law_l1 : DS := (sSeq (sIf (dAnd (tst (dCall law_is_held [] (dCons (dVar 9) (dOne (dVar 1))))) (dNot (tst (dCall law_is_held [] (dCons (dVar 10) (dOne (dVar 1))))))) (sRet (dC (.bl false))) sNext)
    (sIf (dAnd (tst (dCall law_is_held [] (dCons (dVar 4) (dOne (dVar 1))))) (dNot (tst (dCall law_is_held [] (dCons (dVar 10) (dOne (dVar 1))))))) (sRet (dC (.bl false))) sNext))
noncomputable def law_l2 : DS := (sSeq (sIf (tst (dOp (gIn true) (dVar 12) (dVar 11))) (sRet (dC (.bl false))) sNext)
    (sRem 11 (dVar 12)))
noncomputable def law_l3 : DS := (sIf (tst (dOp (gIn true) (dVar 13) (dVar 2))) (sRet (dC (.bl false))) sNext)
noncomputable def law_l4 : DS := (sSeq (sSet 11 (dLc (iSq (dVar 4)) (.nm 13) tYesD (dOp gIx (dVar 13) (dC (.int 2))) [13]))
    (sSeq (sFor (iSq (dLc (iSq (dVar 2)) (.nm 13) tYesD (dOp gIx (dVar 13) (dC (.int 2))) [13])) (.nm 12) law_l2)
    (sFor (iSq (dLc (iSq (dVar 4)) (.nm 14) (dAnd (tst (dOp (gIn false) (dOp gIx (dVar 14) (dC (.int 2))) (dVar 8))) (tst (dOp gGt (dOp gIx (dVar 14) (dC (.int 0))) (dVar 5)))) (dVar 14) [14])) (.nm 13) law_l3)))
noncomputable def law_s1 : DS := (sSetT [4, 5, 6, 7, 8] (dCall law_push_case [] (dCons (dVar 0) (dOne (dC (.int 0))))))
noncomputable def law_s2 : DS := (sParF [9, 10] [false, false] (dCons (dCall joined [] (dCons (dVar 4) (dCons (dVar 5) (dOne (dVar 6))))) (dOne (dCall pushed [] (dCons (dVar 4) (dCons (dVar 5) (dCons (dVar 6) (dCons (dVar 7) (dOne (dVar 8))))))))))
noncomputable def law_s3 : DS := (sFor (iR1 (dOne (dC (.int 24)))) (.nm 1) law_l1)
noncomputable def law_s4 : DS := (sFor (iSq (dTup (dCons (dVar 9) (dOne (dVar 10))))) (.nm 2) law_l4)
noncomputable def law_s5 : DS := (sSetF 3 (dCB gSum (dOne (dLc (iSq (dVar 9)) (.nm 13) tYesD (dOp gSub (dOp gIx (dVar 13) (dC (.int 1))) (dOp gIx (dVar 13) (dC (.int 0)))) [13]))))
noncomputable def law_s6 : DS := (sRet (dAndV (dOp gLe (dCB gLen (dOne (dVar 10))) (dCB gLen (dOne (dVar 4)))) (dOp gLe (dVar 3) (dCB gSum (dOne (dLc (iSq (dVar 10)) (.nm 13) tYesD (dOp gSub (dOp gIx (dVar 13) (dC (.int 1))) (dOp gIx (dVar 13) (dC (.int 0)))) [13]))))))
noncomputable def law_b : DS := (sSeq law_s1
    (sSeq law_s2
    (sSeq law_s3
    (sSeq law_s4
    (sSeq law_s5
    law_s6)))))
noncomputable def law : DF := fnD 1 15 law_b
/-! ### what the top has written -/
structure Txt (K : PySem.W.Frag) (mg : Str → Option Value) : Prop where
  b_any : mg "any" = none
  b_int : mg "int" = none
  b_len : mg "len" = none
  b_max : mg "max" = none
  b_min : mg "min" = none
  b_range : mg "range" = none
  b_sum : mg "sum" = none
  f_law_pick : Fnx K mg "_law_pick" s_law_pick ["script", "k", "many"]
  f_law_names : Fnx K mg "_law_names" s_law_names ["script", "at", "many"]
  f_law_drawn_rows : Fnx K mg "_law_drawn_rows" s_law_drawn_rows ["script", "at"]
  f_law_push_case : Fnx K mg "_law_push_case" s_law_push_case ["script", "at"]
  f_joined : Fnx K mg "joined" s_joined ["rows", "begin", "end"]
  f_next_fixed : Fnx K mg "next_fixed" s_next_fixed ["rows", "at", "last", "fixed"]
  f_pushed : Fnx K mg "pushed" s_pushed ["rows", "begin", "end", "last", "fixed"]
  f_law_is_held : Fnx K mg "_law_is_held" s_law_is_held ["rows", "hour"]
  f_law : Fnx K mg "law" s_law ["script"]
/-! ### each def -/
section
variable {P : Program} {w : World} {K : PySem.W.Frag} {mg : Str → Option Value} {base : Heap} {C : Addr} {cm : Cm}
theorem sc_law_pick : FnScope law_pick_N ["script", "k", "many"] (defScope s_law_pick) := ⟨rfl, rfl, rfl, by decide +kernel, rfl, by decide +kernel, by decide +kernel⟩
theorem d_law_pick (T : Txt K mg)  : Df P w K mg base C cm "_law_pick" 1 law_pick :=
  df_mk T.f_law_pick sc_law_pick fun f cdv A outer s H E e c => by
    have c0 := c.fe
    exact (b_cons (s_setF 3 c0 (e_if (t_ne c0 (e_var 0) (e_lst a_nil)) (e_ix (e_var 0) (e_mod (e_var 1) (e_len T.b_len (a_one (e_var 0))))) e_int))
    (b_cons (s_parF 5 6 [false, false] c0 (a_cons (e_div (e_var 3) (e_pow e_int e_int)) (a_one (e_div (e_var 1) (e_max2 c0 T.b_max (a_cons (e_len T.b_len (a_one (e_var 0))) (a_one e_int)))))))
    (b_cons (s_while 100000 c (t_w (w_and (t_gt (e_var 5) e_int) (w_and1 (t_gt (e_var 6) e_int)))) (b_one (s_parF 5 6 [false, false] c0 (a_cons (e_div (e_var 5) e_int) (a_one (e_sub (e_var 6) e_int))))))
    (b_cons (s_if (t_gt (e_var 5) e_int) (b_one (s_ret (e_mod (e_mod (e_var 5) e_int) (e_var 2)))) b_nil)
    (b_cons (s_setF 4 c0 (e_mod (e_mul (e_add (e_mul (e_var 3) e_int) (e_mul e_int (e_add (e_var 1) e_int))) e_int) e_int))
    (b_one (s_ret (e_mod (e_mod (e_add (e_mul (e_var 4) (e_var 4)) (e_div (e_var 4) e_int)) e_int) (e_var 2)))))))))
theorem sc_law_names : FnScope law_names_N ["script", "at", "many"] (defScope s_law_names) := ⟨rfl, rfl, rfl, by decide +kernel, rfl, by decide +kernel, by decide +kernel⟩
theorem d_law_names (T : Txt K mg) (h_law_pick : Df P w K mg base C cm "_law_pick" 1 law_pick) : Df P w K mg base C cm "_law_names" 2 law_names :=
  df_mk T.f_law_names sc_law_names fun f cdv A outer s H E e c => by
    have c0 := c.fe
    exact (b_cons (s_parF 4 5 [false, true] c0 (a_cons e_str (a_one (e_lst a_nil))))
    (b_cons (s_for (.nm 3) c (i_rng1 T.b_range (a_one (e_var 2))) (g_nm 3 c0.nd) (b_cons (s_setF 6 c0 e_str)
    (b_cons (s_for (.nm 7) c (i_rng1 T.b_range (a_one (e_ix (e_lst (a_cons e_int (a_cons e_int (a_cons e_int (a_cons e_int (a_one e_int)))))) (e_call h_law_pick c0 (a_cons (e_var 0) (a_cons (e_add (e_var 1) (e_mul e_int (e_var 3))) (a_one e_int))))))) (g_nm 7 c0.nd) (b_one (s_setF 6 c0 (e_add (e_var 6) (e_ix (e_var 4) (e_call h_law_pick c0 (a_cons (e_var 0) (a_cons (e_add (e_add (e_add (e_var 1) (e_mul e_int (e_var 3))) (e_var 7)) e_int) (a_one e_int)))))))))
    (b_cons (s_setF 8 c0 (e_ix (e_var 4) (e_mod (e_add (e_call h_law_pick c0 (a_cons (e_var 0) (a_cons (e_add (e_var 1) e_int) (a_one e_int)))) (e_var 3)) e_int)))
    (b_one (s_app 5 (e_if (t_eq c0 (e_call h_law_pick c0 (a_cons (e_var 0) (a_cons (e_add (e_var 1) e_int) (a_one e_int)))) e_int) (e_add (e_var 6) (e_var 8)) (e_add (e_var 8) (e_var 6)))))))))
    (b_one (s_retV 5))))
theorem sc_law_drawn_rows : FnScope law_drawn_rows_N ["script", "at"] (defScope s_law_drawn_rows) := ⟨rfl, rfl, rfl, by decide +kernel, rfl, by decide +kernel, by decide +kernel⟩
theorem d_law_drawn_rows (T : Txt K mg) (h_law_names : Df P w K mg base C cm "_law_names" 2 law_names) (h_law_pick : Df P w K mg base C cm "_law_pick" 1 law_pick) : Df P w K mg base C cm "_law_drawn_rows" 3 law_drawn_rows :=
  df_mk T.f_law_drawn_rows sc_law_drawn_rows fun f cdv A outer s H E e c => by
    have c0 := c.fe
    exact (b_cons (s_par3F 3 4 5 [false, true, false] c0 (a_cons (e_call h_law_names c0 (a_cons (e_var 0) (a_cons (e_var 1) (a_one e_int)))) (a_cons (e_lst a_nil) (a_one e_int))))
    (b_cons (s_for (.nm 2) c (i_rng1 T.b_range (a_one (e_add e_int (e_call h_law_pick c0 (a_cons (e_var 0) (a_cons (e_add (e_var 1) e_int) (a_one e_int))))))) (g_nm 2 c0.nd) (b_cons (s_setF 6 c0 (e_add (e_var 5) (e_ix (e_lst (a_cons e_int (a_cons e_int (a_cons e_int (a_cons e_int (a_one e_int)))))) (e_call h_law_pick c0 (a_cons (e_var 0) (a_cons (e_add (e_add (e_var 1) e_int) (e_var 2)) (a_one e_int)))))))
    (b_cons (s_setF 7 c0 (e_add (e_var 6) (e_ix (e_lst (a_cons e_int (a_cons e_int (a_cons e_int (a_cons e_int (a_one e_int)))))) (e_call h_law_pick c0 (a_cons (e_var 0) (a_cons (e_add (e_add (e_var 1) e_int) (e_var 2)) (a_one e_int)))))))
    (b_one (s_if (t_le (e_var 7) e_int) (b_cons (s_app 4 (e_tup (a_cons (e_var 6) (a_cons (e_var 7) (a_one (e_ix (e_var 3) (e_call h_law_pick c0 (a_cons (e_var 0) (a_cons (e_add (e_add (e_var 1) e_int) (e_var 2)) (a_one e_int))))))))))
    (b_one (s_setF 5 c0 (e_var 7)))) b_nil)))))
    (b_one (s_frz 4 (s_ret (e_tup (a_cons (e_var 4) (a_one (e_var 3)))))))))
theorem sc_law_push_case : FnScope law_push_case_N ["script", "at"] (defScope s_law_push_case) := ⟨rfl, rfl, rfl, by decide +kernel, rfl, by decide +kernel, by decide +kernel⟩
theorem d_law_push_case (T : Txt K mg) (h_law_drawn_rows : Df P w K mg base C cm "_law_drawn_rows" 3 law_drawn_rows) (h_law_pick : Df P w K mg base C cm "_law_pick" 1 law_pick) : Df P w K mg base C cm "_law_push_case" 4 law_push_case :=
  df_mk T.f_law_push_case sc_law_push_case fun f cdv A outer s H E e c => by
    have c0 := c.fe
    exact (b_cons (s_setT [7, 8] c0 (e_call h_law_drawn_rows c0 (a_cons (e_var 0) (a_one (e_var 1)))) (gs_cons 7 c0.nd (gs_cons 8 c0.nd gs_nil)))
    (b_cons (s_setF 2 c0 (e_sl (e_var 8) o_no (o_some (e_ix (e_lst (a_cons e_int (a_cons e_int (a_cons e_int (a_one e_int))))) (e_call h_law_pick c0 (a_cons (e_var 0) (a_cons (e_add (e_var 1) e_int) (a_one e_int))))))))
    (b_cons (s_setF 3 c0 (e_max1 c0 T.b_max (a_one (e_add (e_lc (own := [("row", 11)]) (t := (.nm 11)) c0 (i_seq (e_var 7)) (by show blkC law_push_case_N (defScope s_law_push_case) _ _ = true; decide +kernel) (by exact fun s H C cl fp => (g_nm 11 c0.nd)) (by exact fun s H C cl fp => pts_no) (by exact fun s H C cl fp => (e_ix (e_var 11) e_int))) (e_lst (a_one (e_ix (e_lst (a_cons e_int (a_cons e_int (a_cons e_int (a_one e_int))))) (e_call h_law_pick c0 (a_cons (e_var 0) (a_cons (e_add (e_var 1) e_int) (a_one e_int)))))))))))
    (b_cons (s_setF 4 c0 (e_mul (e_call h_law_pick c0 (a_cons (e_var 0) (a_cons (e_add (e_var 1) e_int) (a_one (e_len T.b_len (a_one (e_var 7))))))) (e_cint T.b_int (a_one (e_eq c0 (e_call h_law_pick c0 (a_cons (e_var 0) (a_cons (e_add (e_var 1) e_int) (a_one e_int)))) e_int)))))
    (b_cons (s_setT [9, 10] c0 (e_sl (e_ix (e_var 7) (e_var 4)) o_no (o_some e_int)) (gs_cons 9 c0.nd (gs_cons 10 c0.nd gs_nil)))
    (b_cons (s_setF 5 c0 (e_min1 c0 T.b_min (a_one (e_add (e_lc (own := [("row", 11)]) (t := (.nm 11)) c0 (i_seq (e_var 7)) (by show blkC law_push_case_N (defScope s_law_push_case) _ _ = true; decide +kernel) (by exact fun s H C cl fp => (g_nm 11 c0.nd)) (by exact fun s H C cl fp => (pts_ifB (t_w (w_and (t_gt (e_ix (e_var 11) e_int) (e_var 9)) (w_and1 (t_in (c0.blk s H _ _ fp) (e_ix (e_var 11) e_int) (e_var 2))))))) (by exact fun s H C cl fp => (e_ix (e_var 11) e_int))) (e_lst (a_one (e_var 3)))))))
    (b_cons (s_setF 6 c0 (e_add (e_var 10) (e_ix (e_lst (a_cons (e_sub (e_var 5) (e_var 10)) (a_cons e_int (a_cons e_int (a_cons e_int (a_one (e_call h_law_pick c0 (a_cons (e_var 0) (a_cons (e_add (e_var 1) e_int) (a_one (e_add (e_sub (e_var 5) (e_var 10)) e_int))))))))))) (e_call h_law_pick c0 (a_cons (e_var 0) (a_cons (e_add (e_var 1) e_int) (a_one e_int)))))))
    (b_one (s_ret (e_tup (a_cons (e_var 7) (a_cons (e_var 9) (a_cons (e_min2 c0 T.b_min (a_cons (e_var 6) (a_one (e_var 5)))) (a_cons (e_var 3) (a_one (e_var 2))))))))))))))))
theorem sc_joined : FnScope joined_N ["rows", "begin", "end"] (defScope s_joined) := ⟨rfl, rfl, rfl, by decide +kernel, rfl, by decide +kernel, by decide +kernel⟩
theorem d_joined (T : Txt K mg)  : Df P w K mg base C cm "joined" 1 joined :=
  df_mk T.f_joined sc_joined fun f cdv A outer s H E e c => by
    have c0 := c.fe
    exact (b_cons (s_set 3 c0 (e_lst a_nil))
    (b_cons (s_for (.nm 4) c (i_seq (e_var 0)) (g_nm 4 c0.nd) (b_one (s_if (t_eq c0 (e_ix (e_var 4) e_int) (e_var 1)) (b_one (s_app 3 (e_tup (a_cons (e_var 1) (a_cons (e_var 2) (a_one (e_ix (e_var 4) e_int))))))) (b_one (s_if (t_w (w_or (t_lt (e_ix (e_var 4) e_int) (e_var 1)) (w_or1 (t_ge (e_ix (e_var 4) e_int) (e_var 2))))) (b_one (s_app 3 (e_var 4))) (b_one (s_if (t_gt (e_ix (e_var 4) e_int) (e_var 2)) (b_one (s_app 3 (e_tup (a_cons (e_var 2) (a_cons (e_ix (e_var 4) e_int) (a_one (e_ix (e_var 4) e_int))))))) b_nil)))))))
    (b_one (s_retV 3))))
theorem sc_next_fixed : FnScope next_fixed_N ["rows", "at", "last", "fixed"] (defScope s_next_fixed) := ⟨rfl, rfl, rfl, by decide +kernel, rfl, by decide +kernel, by decide +kernel⟩
theorem d_next_fixed (T : Txt K mg)  : Df P w K mg base C cm "next_fixed" 1 next_fixed :=
  df_mk T.f_next_fixed sc_next_fixed fun f cdv A outer s H E e c => by
    have c0 := c.fe
    exact (b_one (s_ret (e_minD c0 T.b_min (e_lc (own := [("row", 4)]) (t := (.nm 4)) c0 (i_seq (e_var 0)) (by show blkC next_fixed_N (defScope s_next_fixed) _ _ = true; decide +kernel) (by exact fun s H C cl fp => (g_nm 4 c0.nd)) (by exact fun s H C cl fp => (pts_ifB (t_w (w_and (t_ge (e_ix (e_var 4) e_int) (e_var 1)) (w_and1 (t_in (c0.blk s H _ _ fp) (e_ix (e_var 4) e_int) (e_var 3))))))) (by exact fun s H C cl fp => (e_ix (e_var 4) e_int))) (e_var 2))))
theorem sc_pushed : FnScope pushed_N ["rows", "begin", "end", "last", "fixed"] (defScope s_pushed) := ⟨rfl, rfl, rfl, by decide +kernel, rfl, by decide +kernel, by decide +kernel⟩
theorem d_pushed (T : Txt K mg) (h_next_fixed : Df P w K mg base C cm "next_fixed" 1 next_fixed) : Df P w K mg base C cm "pushed" 2 pushed :=
  df_mk T.f_pushed sc_pushed fun f cdv A outer s H E e c => by
    have c0 := c.fe
    exact (b_cons (s_parF 6 7 [true, false] c0 (a_cons (e_lst a_nil) (a_one e_int)))
    (b_cons (s_for (.nm 5) c (i_seq (e_var 0)) (g_nm 5 c0.nd) (b_one (s_if (t_eq c0 (e_ix (e_var 5) e_int) (e_var 1)) (b_cons (s_app 6 (e_tup (a_cons (e_var 1) (a_cons (e_var 2) (a_one (e_ix (e_var 5) e_int))))))
    (b_one (s_setF 7 c0 (e_var 2)))) (b_one (s_if (t_ge (e_ix (e_var 5) e_int) (e_var 7)) (b_cons (s_app 6 (e_var 5))
    (b_one (s_setF 7 c0 (e_ix (e_var 5) e_int)))) (b_cons (s_setF 8 c0 (e_min2 c0 T.b_min (a_cons (e_sub (e_add (e_var 7) (e_ix (e_var 5) e_int)) (e_ix (e_var 5) e_int)) (a_one (e_call h_next_fixed c0 (a_cons (e_var 0) (a_cons (e_ix (e_var 5) e_int) (a_cons (e_var 3) (a_one (e_var 4))))))))))
    (b_one (s_if (t_gt (e_var 8) (e_var 7)) (b_cons (s_app 6 (e_tup (a_cons (e_var 7) (a_cons (e_var 8) (a_one (e_ix (e_var 5) e_int))))))
    (b_one (s_setF 7 c0 (e_var 8)))) b_nil))))))))
    (b_one (s_retV 6))))
theorem sc_law_is_held : FnScope law_is_held_N ["rows", "hour"] (defScope s_law_is_held) := ⟨rfl, rfl, rfl, by decide +kernel, rfl, by decide +kernel, by decide +kernel⟩
theorem d_law_is_held (T : Txt K mg)  : Df P w K mg base C cm "_law_is_held" 1 law_is_held :=
  df_mk T.f_law_is_held sc_law_is_held fun f cdv A outer s H E e c => by
    have c0 := c.fe
    exact (b_one (s_ret (e_any c0 T.b_any (a_one (e_lc (own := [("row", 2)]) (t := (.nm 2)) c0 (i_seq (e_var 0)) (by show blkC law_is_held_N (defScope s_law_is_held) _ _ = true; decide +kernel) (by exact fun s H C cl fp => (g_nm 2 c0.nd)) (by exact fun s H C cl fp => pts_no) (by exact fun s H C cl fp => (e_chain c_le c_lt (e_ix (e_var 2) e_int) (e_var 1) (e_ix (e_var 2) e_int))))))))
theorem sc_law : FnScope law_N ["script"] (defScope s_law) := ⟨rfl, rfl, rfl, by decide +kernel, rfl, by decide +kernel, by decide +kernel⟩
theorem d_law (T : Txt K mg) (h_law_push_case : Df P w K mg base C cm "_law_push_case" 4 law_push_case) (h_joined : Df P w K mg base C cm "joined" 1 joined) (h_pushed : Df P w K mg base C cm "pushed" 2 pushed) (h_law_is_held : Df P w K mg base C cm "_law_is_held" 1 law_is_held) {f : Addr} {fd : FuncData} (F : Fun K "law" "law" s_law f fd) : FnOk P w K mg base (L2.CX P w) 5 f fd ["script"] (spD ⟨K, C, cm⟩ law) :=
  fn_mk F sc_law fun f cdv A outer s H E e c => by
    have c0 := c.fe
    exact (b_cons (s_setT [4, 5, 6, 7, 8] c0 (e_call h_law_push_case c0 (a_cons (e_var 0) (a_one e_int))) (gs_cons 4 c0.nd (gs_cons 5 c0.nd (gs_cons 6 c0.nd (gs_cons 7 c0.nd (gs_cons 8 c0.nd gs_nil))))))
    (b_cons (s_parF 9 10 [false, false] c0 (a_cons (e_call h_joined c0 (a_cons (e_var 4) (a_cons (e_var 5) (a_one (e_var 6))))) (a_one (e_call h_pushed c0 (a_cons (e_var 4) (a_cons (e_var 5) (a_cons (e_var 6) (a_cons (e_var 7) (a_one (e_var 8))))))))))
    (b_cons (s_for (.nm 1) c (i_rng1 T.b_range (a_one e_int)) (g_nm 1 c0.nd) (b_cons (s_if (t_w (w_and (t_val (e_call h_law_is_held c0 (a_cons (e_var 9) (a_one (e_var 1))))) (w_and1 (t_not (t_val (e_call h_law_is_held c0 (a_cons (e_var 10) (a_one (e_var 1))))))))) (b_one (s_ret e_bl)) b_nil)
    (b_one (s_if (t_w (w_and (t_val (e_call h_law_is_held c0 (a_cons (e_var 4) (a_one (e_var 1))))) (w_and1 (t_not (t_val (e_call h_law_is_held c0 (a_cons (e_var 10) (a_one (e_var 1))))))))) (b_one (s_ret e_bl)) b_nil))))
    (b_cons (s_for (.nm 2) c (i_seq (e_tup (a_cons (e_var 9) (a_one (e_var 10))))) (g_nm 2 c0.nd) (b_cons (s_setLc (i := 11) (own := [("row", 13)]) (t := (.nm 13)) c0 (hy := rfl) (hyl := rfl) (hsw := sw_true rfl rfl rfl (by decide +kernel)) (i_seq (e_var 4)) (by show blkC law_N (defScope s_law) _ _ = true; decide +kernel) (by exact fun s H C cl fp => (g_nm 13 c0.nd)) (by exact fun s H C cl fp => pts_no) (by exact fun s H C cl fp => (e_ix (e_var 13) e_int)))
    (b_cons (s_for (.nm 12) c (i_seq (e_lc (own := [("row", 13)]) (t := (.nm 13)) c0 (i_seq (e_var 2)) (by show blkC law_N (defScope s_law) _ _ = true; decide +kernel) (by exact fun s H C cl fp => (g_nm 13 c0.nd)) (by exact fun s H C cl fp => pts_no) (by exact fun s H C cl fp => (e_ix (e_var 13) e_int)))) (g_nm 12 c0.nd) (b_cons (s_if (t_nin c0 (e_var 12) (e_var 11)) (b_one (s_ret e_bl)) b_nil)
    (b_one (s_rem 11 (e_var 12)))))
    (b_one (s_for (.nm 13) c (i_seq (e_lc (own := [("one", 14)]) (t := (.nm 14)) c0 (i_seq (e_var 4)) (by show blkC law_N (defScope s_law) _ _ = true; decide +kernel) (by exact fun s H C cl fp => (g_nm 14 c0.nd)) (by exact fun s H C cl fp => (pts_ifB (t_w (w_and (t_in (c0.blk s H _ _ fp) (e_ix (e_var 14) e_int) (e_var 8)) (w_and1 (t_gt (e_ix (e_var 14) e_int) (e_var 5))))))) (by exact fun s H C cl fp => (e_var 14)))) (g_nm 13 c0.nd) (b_one (s_if (t_nin c0 (e_var 13) (e_var 2)) (b_one (s_ret e_bl)) b_nil)))))))
    (b_cons (s_setF 3 c0 (e_sum c0 T.b_sum (a_one (e_lc (own := [("row", 13)]) (t := (.nm 13)) c0 (i_seq (e_var 9)) (by show blkC law_N (defScope s_law) _ _ = true; decide +kernel) (by exact fun s H C cl fp => (g_nm 13 c0.nd)) (by exact fun s H C cl fp => pts_no) (by exact fun s H C cl fp => (e_sub (e_ix (e_var 13) e_int) (e_ix (e_var 13) e_int)))))))
    (b_one (s_ret (e_and (e_le (e_len T.b_len (a_one (e_var 10))) (e_len T.b_len (a_one (e_var 4)))) (e_one (e_le (e_var 3) (e_sum c0 T.b_sum (a_one (e_lc (own := [("row", 13)]) (t := (.nm 13)) c0 (i_seq (e_var 10)) (by show blkC law_N (defScope s_law) _ _ = true; decide +kernel) (by exact fun s H C cl fp => (g_nm 13 c0.nd)) (by exact fun s H C cl fp => pts_no) (by exact fun s H C cl fp => (e_sub (e_ix (e_var 13) e_int) (e_ix (e_var 13) e_int))))))))))))))))
end
/-! ### the end -/
theorem all_mk {P : Program} {w : World} {K : PySem.W.Frag} {h : Heap} {mg : Str → Option Value} {fa : Addr} (X : K.In h) (G : h.Ns mainGlobals mg) (hfa : mg "law" = some (.ref fa))
    {f0 : Addr} {od0 an0 : Option Addr} {sl0 : Array (Option Value)} {oc0 kV0 dc0 pm0 cd0 ct0 : Value}
    {f1 : Addr} {od1 an1 : Option Addr} {sl1 : Array (Option Value)} {oc1 kV1 dc1 pm1 cd1 ct1 : Value}
    {f2 : Addr} {od2 an2 : Option Addr} {sl2 : Array (Option Value)} {oc2 kV2 dc2 pm2 cd2 ct2 : Value}
    {f3 : Addr} {od3 an3 : Option Addr} {sl3 : Array (Option Value)} {oc3 kV3 dc3 pm3 cd3 ct3 : Value}
    {f4 : Addr} {od4 an4 : Option Addr} {sl4 : Array (Option Value)} {oc4 kV4 dc4 pm4 cd4 ct4 : Value}
    {f5 : Addr} {od5 an5 : Option Addr} {sl5 : Array (Option Value)} {oc5 kV5 dc5 pm5 cd5 ct5 : Value}
    {f6 : Addr} {od6 an6 : Option Addr} {sl6 : Array (Option Value)} {oc6 kV6 dc6 pm6 cd6 ct6 : Value}
    {f7 : Addr} {od7 an7 : Option Addr} {sl7 : Array (Option Value)} {oc7 kV7 dc7 pm7 cd7 ct7 : Value}
    {f8 : Addr} {od8 an8 : Option Addr} {sl8 : Array (Option Value)} {oc8 kV8 dc8 pm8 cd8 ct8 : Value}
    (a0 : PySem.W.nsIn K mainGlobals "_law_pick" = some (some (.ref f0))) (l0 : K.lookup f0 = some ⟨oc0, od0, .func (PySem.W.fnOf "_law_pick" "_law_pick" (defArgs s_law_pick) (defBody s_law_pick) (defScope s_law_pick) .none kV0 dc0 pm0 an0 cd0 ct0), sl0⟩) (c0 : PySem.W.codeIn K cd0 "_law_pick" = true) (k0 : PySem.W.keepIn K (.ref f0) = true)
    (a1 : PySem.W.nsIn K mainGlobals "_law_names" = some (some (.ref f1))) (l1 : K.lookup f1 = some ⟨oc1, od1, .func (PySem.W.fnOf "_law_names" "_law_names" (defArgs s_law_names) (defBody s_law_names) (defScope s_law_names) .none kV1 dc1 pm1 an1 cd1 ct1), sl1⟩) (c1 : PySem.W.codeIn K cd1 "_law_names" = true) (k1 : PySem.W.keepIn K (.ref f1) = true)
    (a2 : PySem.W.nsIn K mainGlobals "_law_drawn_rows" = some (some (.ref f2))) (l2 : K.lookup f2 = some ⟨oc2, od2, .func (PySem.W.fnOf "_law_drawn_rows" "_law_drawn_rows" (defArgs s_law_drawn_rows) (defBody s_law_drawn_rows) (defScope s_law_drawn_rows) .none kV2 dc2 pm2 an2 cd2 ct2), sl2⟩) (c2 : PySem.W.codeIn K cd2 "_law_drawn_rows" = true) (k2 : PySem.W.keepIn K (.ref f2) = true)
    (a3 : PySem.W.nsIn K mainGlobals "_law_push_case" = some (some (.ref f3))) (l3 : K.lookup f3 = some ⟨oc3, od3, .func (PySem.W.fnOf "_law_push_case" "_law_push_case" (defArgs s_law_push_case) (defBody s_law_push_case) (defScope s_law_push_case) .none kV3 dc3 pm3 an3 cd3 ct3), sl3⟩) (c3 : PySem.W.codeIn K cd3 "_law_push_case" = true) (k3 : PySem.W.keepIn K (.ref f3) = true)
    (a4 : PySem.W.nsIn K mainGlobals "joined" = some (some (.ref f4))) (l4 : K.lookup f4 = some ⟨oc4, od4, .func (PySem.W.fnOf "joined" "joined" (defArgs s_joined) (defBody s_joined) (defScope s_joined) .none kV4 dc4 pm4 an4 cd4 ct4), sl4⟩) (c4 : PySem.W.codeIn K cd4 "joined" = true) (k4 : PySem.W.keepIn K (.ref f4) = true)
    (a5 : PySem.W.nsIn K mainGlobals "next_fixed" = some (some (.ref f5))) (l5 : K.lookup f5 = some ⟨oc5, od5, .func (PySem.W.fnOf "next_fixed" "next_fixed" (defArgs s_next_fixed) (defBody s_next_fixed) (defScope s_next_fixed) .none kV5 dc5 pm5 an5 cd5 ct5), sl5⟩) (c5 : PySem.W.codeIn K cd5 "next_fixed" = true) (k5 : PySem.W.keepIn K (.ref f5) = true)
    (a6 : PySem.W.nsIn K mainGlobals "pushed" = some (some (.ref f6))) (l6 : K.lookup f6 = some ⟨oc6, od6, .func (PySem.W.fnOf "pushed" "pushed" (defArgs s_pushed) (defBody s_pushed) (defScope s_pushed) .none kV6 dc6 pm6 an6 cd6 ct6), sl6⟩) (c6 : PySem.W.codeIn K cd6 "pushed" = true) (k6 : PySem.W.keepIn K (.ref f6) = true)
    (a7 : PySem.W.nsIn K mainGlobals "_law_is_held" = some (some (.ref f7))) (l7 : K.lookup f7 = some ⟨oc7, od7, .func (PySem.W.fnOf "_law_is_held" "_law_is_held" (defArgs s_law_is_held) (defBody s_law_is_held) (defScope s_law_is_held) .none kV7 dc7 pm7 an7 cd7 ct7), sl7⟩) (c7 : PySem.W.codeIn K cd7 "_law_is_held" = true) (k7 : PySem.W.keepIn K (.ref f7) = true)
    (a8 : PySem.W.nsIn K mainGlobals "law" = some (some (.ref f8))) (l8 : K.lookup f8 = some ⟨oc8, od8, .func (PySem.W.fnOf "law" "law" (defArgs s_law) (defBody s_law) (defScope s_law) .none kV8 dc8 pm8 an8 cd8 ct8), sl8⟩) (c8 : PySem.W.codeIn K cd8 "law" = true) (k8 : PySem.W.keepIn K (.ref f8) = true)
    (z_any : PySem.W.nsIn K mainGlobals "any" = some none)
    (z_int : PySem.W.nsIn K mainGlobals "int" = some none)
    (z_len : PySem.W.nsIn K mainGlobals "len" = some none)
    (z_max : PySem.W.nsIn K mainGlobals "max" = some none)
    (z_min : PySem.W.nsIn K mainGlobals "min" = some none)
    (z_range : PySem.W.nsIn K mainGlobals "range" = some none)
    (z_sum : PySem.W.nsIn K mainGlobals "sum" = some none)
    : ∃ fd : FuncData, (∀ (s : Shared) (u : Value), BindsTo s fd ⟨[u], []⟩ [("script", u)]) ∧ ∃ C cm, ∀ base : Heap, K.In base → base.Ns mainGlobals mg → FnOk P w K mg base (L2.CX P w) 5 fa fd ["script"] (spD ⟨K, C, cm⟩ law) := by
  have e := hfa.symm.trans (PySem.W.mg_of X G a8)
  cases e
  have F0 := fun_mk (st := s_law_pick) l0 c0 k0
  have b0 := F0.binds (ps := ["script", "k", "many"]) fun _ _ _ _ _ _ us hl => match us, hl with | [_, _, _], _ => rfl
  have F1 := fun_mk (st := s_law_names) l1 c1 k1
  have b1 := F1.binds (ps := ["script", "at", "many"]) fun _ _ _ _ _ _ us hl => match us, hl with | [_, _, _], _ => rfl
  have F2 := fun_mk (st := s_law_drawn_rows) l2 c2 k2
  have b2 := F2.binds (ps := ["script", "at"]) fun _ _ _ _ _ _ us hl => match us, hl with | [_, _], _ => rfl
  have F3 := fun_mk (st := s_law_push_case) l3 c3 k3
  have b3 := F3.binds (ps := ["script", "at"]) fun _ _ _ _ _ _ us hl => match us, hl with | [_, _], _ => rfl
  have F4 := fun_mk (st := s_joined) l4 c4 k4
  have b4 := F4.binds (ps := ["rows", "begin", "end"]) fun _ _ _ _ _ _ us hl => match us, hl with | [_, _, _], _ => rfl
  have F5 := fun_mk (st := s_next_fixed) l5 c5 k5
  have b5 := F5.binds (ps := ["rows", "at", "last", "fixed"]) fun _ _ _ _ _ _ us hl => match us, hl with | [_, _, _, _], _ => rfl
  have F6 := fun_mk (st := s_pushed) l6 c6 k6
  have b6 := F6.binds (ps := ["rows", "begin", "end", "last", "fixed"]) fun _ _ _ _ _ _ us hl => match us, hl with | [_, _, _, _, _], _ => rfl
  have F7 := fun_mk (st := s_law_is_held) l7 c7 k7
  have b7 := F7.binds (ps := ["rows", "hour"]) fun _ _ _ _ _ _ us hl => match us, hl with | [_, _], _ => rfl
  have F8 := fun_mk (st := s_law) l8 c8 k8
  have b8 := F8.binds (ps := ["script"]) fun _ _ _ _ _ _ us hl => match us, hl with | [_], _ => rfl
  have T : Txt K mg := ⟨PySem.W.mg_none_of X G z_any, PySem.W.mg_none_of X G z_int, PySem.W.mg_none_of X G z_len, PySem.W.mg_none_of X G z_max, PySem.W.mg_none_of X G z_min, PySem.W.mg_none_of X G z_range, PySem.W.mg_none_of X G z_sum, ⟨_, _, F0, PySem.W.mg_of X G a0, b0⟩, ⟨_, _, F1, PySem.W.mg_of X G a1, b1⟩, ⟨_, _, F2, PySem.W.mg_of X G a2, b2⟩, ⟨_, _, F3, PySem.W.mg_of X G a3, b3⟩, ⟨_, _, F4, PySem.W.mg_of X G a4, b4⟩, ⟨_, _, F5, PySem.W.mg_of X G a5, b5⟩, ⟨_, _, F6, PySem.W.mg_of X G a6, b6⟩, ⟨_, _, F7, PySem.W.mg_of X G a7, b7⟩, ⟨_, _, F8, PySem.W.mg_of X G a8, b8⟩⟩
  refine ⟨PySem.W.fnOf "law" "law" (defArgs s_law) (defBody s_law) (defScope s_law) .none kV8 dc8 pm8 an8 cd8 ct8, fun s v => .of_eq rfl, 0, fun _ => none, fun base _ _ => ?_⟩
  have h_law_pick : Df P w K mg base 0 (fun _ => none) "_law_pick" 1 law_pick := d_law_pick T 
  have h_law_names : Df P w K mg base 0 (fun _ => none) "_law_names" 2 law_names := d_law_names T h_law_pick
  have h_law_drawn_rows : Df P w K mg base 0 (fun _ => none) "_law_drawn_rows" 3 law_drawn_rows := d_law_drawn_rows T h_law_names h_law_pick
  have h_law_push_case : Df P w K mg base 0 (fun _ => none) "_law_push_case" 4 law_push_case := d_law_push_case T h_law_drawn_rows h_law_pick
  have h_joined : Df P w K mg base 0 (fun _ => none) "joined" 1 joined := d_joined T 
  have h_next_fixed : Df P w K mg base 0 (fun _ => none) "next_fixed" 1 next_fixed := d_next_fixed T 
  have h_pushed : Df P w K mg base 0 (fun _ => none) "pushed" 2 pushed := d_pushed T h_next_fixed
  have h_law_is_held : Df P w K mg base 0 (fun _ => none) "_law_is_held" 1 law_is_held := d_law_is_held T 
  exact d_law T h_law_push_case h_joined h_pushed h_law_is_held F8
end LK

namespace LK
open PySem L2 DL
/-! ### _law_pick -/
theorem pk_while (a b c d e : Option Val) : ∀ (n : Nat) (r t : Int), t < n → ∃ r' t', ∀ w, whileL law_pick_l2 law_pick_l1 (n + 1) [a, b, c, d, e, some (fz (.int r)), some (fz (.int t))] w = .next [a, b, c, d, e, some (fz (.int r')), some (fz (.int t'))] w := by
  intro n
  induction n with
  | zero =>
    intro r t h
    refine ⟨r, t, fun w => ?_⟩
    have h0 : ¬ (t > 0) := by omega
    by_cases hr : r > 0
    · simp [whileL, law_pick_l2, hr, h0]
    · simp [whileL, law_pick_l2, hr]
  | succ n ih =>
    intro r t h
    by_cases hr : r > 0
    · by_cases ht : t > 0
      · obtain ⟨r', t', e⟩ := ih (r / 840) (t - 1) (by omega)
        refine ⟨r', t', fun w => ?_⟩
        rw [whileL]
        have := cdiv r 840 (by decide) (by decide)
        simp [law_pick_l2, hr, ht]
        simp [law_pick_l1, this]
        exact e w
      · refine ⟨r, t, fun w => ?_⟩
        simp [whileL, law_pick_l2, hr, ht]
    · refine ⟨r, t, fun w => ?_⟩
      simp [whileL, law_pick_l2, hr]
noncomputable def pkR : DS := sSeq (whileL law_pick_l2 law_pick_l1 100000)
    (sSeq (sIf (tst (dOp gGt (dVar 5) (dC (.int 0)))) (sRet (dOp gMod (dOp gMod (dVar 5) (dC (.int 840))) (dVar 2))) sNext)
    (sSeq (sSetF 4 (dOp gMod (dOp gMul (dOp gAdd (dOp gMul (dVar 3) (dC (.int 31))) (dOp gMul (dC (.int 6151)) (dOp gAdd (dVar 1) (dC (.int 1))))) (dC (.int 40692))) (dC (.int 2147483399))))
    (sRet (dOp gMod (dOp gMod (dOp gAdd (dOp gMul (dVar 4) (dVar 4)) (dOp gDiv (dVar 4) (dC (.int 31)))) (dC (.int 2147483629))) (dVar 2)))))
theorem pick_tail (ns : List Int) (k m cell r0 t0 : Int) (ht : t0 < 90000) (hm : 0 < m) : ∃ p, 0 ≤ p ∧ p < m ∧ ∀ w, pkR [some (fz (.scr ns)), some (fz (.int k)), some (fz (.int m)), some (fz (.int cell)), none, some (fz (.int r0)), some (fz (.int t0))] w = .ret (fz (.int p)) w := by
  obtain ⟨r, t, e⟩ := pk_while (some (fz (.scr ns))) (some (fz (.int k))) (some (fz (.int m))) (some (fz (.int cell))) none 99999 r0 t0 (by omega)
  by_cases hr : r > 0
  · refine ⟨r % 840 % m, Int.emod_nonneg _ (by omega), Int.emod_lt_of_pos _ hm, fun w => ?_⟩
    simp only [pkR, sSeq_s]
    rw [e w]
    simp [hr, hm]
  · have a1 := cmulR cell 31 (by decide) (by decide)
    have a2 := cmulL 6151 (k + 1) (by decide) (by decide)
    have a3 := cmulR (cell * 31 + 6151 * (k + 1)) 40692 (by decide) (by decide)
    have h1 : 0 ≤ (cell * 31 + 6151 * (k + 1)) * 40692 % 2147483399 := Int.emod_nonneg _ (by decide)
    have h2 : (cell * 31 + 6151 * (k + 1)) * 40692 % 2147483399 < 2147483399 := Int.emod_lt_of_pos _ (by decide)
    obtain ⟨dr, hdr⟩ : ∃ dr, dr = (cell * 31 + 6151 * (k + 1)) * 40692 % 2147483399 := ⟨_, rfl⟩
    rw [← hdr] at h1 h2
    have a4 := cmulR dr dr (by omega) (by omega)
    have a5 := cdiv dr 31 (by decide) (by decide)
    refine ⟨(dr * dr + dr / 31) % 2147483629 % m, Int.emod_nonneg _ (by omega), Int.emod_lt_of_pos _ hm, fun w => ?_⟩
    simp only [pkR, sSeq_s]
    rw [e w]
    simp [hr, hm, a1, a2, a3, ← hdr, a4, a5]
theorem pick_ex (ns : List Int) (k m : Int) (hl : ns.length ≤ 63) (hk : 0 ≤ k) (hk2 : k < 90000) (hm : 0 < m) : ∃ p, 0 ≤ p ∧ p < m ∧ ∀ w, law_pick [.scr ns, .int k, .int m] w = .ok (fz (.int p)) w := by
  have c2 := cpow_10_18
  cases ns with
  | nil =>
    obtain ⟨p, h1, h2, e⟩ := pick_tail [] k m 0 0 k (by omega) hm
    refine ⟨p, h1, h2, fun w => ?_⟩
    have e := e w
    unfold pkR at e
    have c3 := cdiv 0 1000000000000000000 (by decide) (by decide)
    have c4 := cdiv k 1 (by decide) (by decide)
    simp [law_pick, fnD, law_pick_b, gEq_scrN, c2, c3, c4]
    simp at e
    rw [e]
  | cons n r =>
    have hL : (0 : Int) < (n :: r).length := by simp
    have i0 : 0 ≤ k % ((n :: r).length : Int) := Int.emod_nonneg _ (by omega)
    have i1 : k % ((n :: r).length : Int) < (n :: r).length := Int.emod_lt_of_pos _ hL
    obtain ⟨cell, hc⟩ : ∃ c, (n :: r)[(k % ((n :: r).length : Int)).toNat]? = some c := ⟨_, List.getElem?_eq_getElem (by omega)⟩
    obtain ⟨p, h1, h2, e⟩ := pick_tail (n :: r) k m cell (cell / 1000000000000000000) (k / ((n :: r).length : Int)) (by have := Int.ediv_le_self ((n :: r).length : Int) hk; omega) hm
    refine ⟨p, h1, h2, fun w => ?_⟩
    have e := e w
    unfold pkR at e
    have ha := atI_pos i0 i1
    rw [hc] at ha
    have hd := cdiv k ((n :: r).length) hL (by omega)
    have c3 := cdiv cell 1000000000000000000 (by decide) (by decide)
    have hmx : ¬ ((1 : Int) > ((n :: r).length : Int)) := by omega
    generalize (n :: r) = ns at *
    have hne : ns ≠ [] := by intro z; rw [z] at hL; simp at hL
    have hne2 : (ns != []) = true := by simp [hne]
    have hg : ∀ m m', gMod ⟨m, .int k⟩ ⟨m', .int ns.length⟩ w = .ok (fz (.int (k % (ns.length : Int)))) w := fun m m' => gMod_ii w m m' _ _ hL
    simp only [law_pick, fnD, law_pick_b]
    simp [gEq_scrN, gIx_scr, hne, hg, ha, hd, hmx, c2, c3]
    simp at e
    rw [e]
open Classical in
/-- the number drawn at k below m -/
noncomputable def pick (ns : List Int) (k m : Int) : Int := if h : ns.length ≤ 63 ∧ 0 ≤ k ∧ k < 90000 ∧ 0 < m then choose (pick_ex ns k m h.1 h.2.1 h.2.2.1 h.2.2.2) else 0
theorem pick_ok {ns : List Int} {k m : Int} (hl : ns.length ≤ 63) (hk : 0 ≤ k) (hk2 : k < 90000) (hm : 0 < m) : 0 ≤ pick ns k m ∧ pick ns k m < m ∧ ∀ w, law_pick [.scr ns, .int k, .int m] w = .ok (fz (.int (pick ns k m))) w := by
  unfold pick
  rw [dif_pos ⟨hl, hk, hk2, hm⟩]
  exact Classical.choose_spec (pick_ex ns k m hl hk hk2 hm)

/-! ### _law_names -/
/-- a drawn name: some letters and a mark, behind them or ahead -/
def NmK (fl : Bool) (c : Nat) (x : List Nat) : Prop := ∃ r : List Nat, r.length ≤ 5 ∧ (∀ z ∈ r, Lt z) ∧ Lt c ∧ x = if fl then r ++ [c] else c :: r
theorem names_rest (ns : List Int) (hl : ns.length ≤ 63) (at' k : Int) (h0 : 0 ≤ at') (h1 : at' < 1000) (k0 : 0 ≤ k) (k1 : k < 26) (a c e f : Option Val) (v : Int) (v0 : 0 ≤ v) (v5 : v ≤ 5) :
    ∃ (r : List Nat) (z : Option Val), r.length ≤ 5 ∧ (∀ z ∈ r, Lt z) ∧ ∀ w, forL (.nm 7) law_names_l1 (rngD 0 v.toNat) [some (fz (.scr ns)), some (fz (.int at')), a, some (fz (.int k)), some (fz (.str "abcdefghijklmnopqrstuvwxyz")), c, some (fz (.str "")), e, f] w =
      .next [some (fz (.scr ns)), some (fz (.int at')), a, some (fz (.int k)), some (fz (.str "abcdefghijklmnopqrstuvwxyz")), c, some (fz (.str (nm r))), z, f] w := by
  obtain ⟨ρ', h, r, z, hr, hz, e'⟩ := forL_pure (t := .nm 7) (b := law_names_l1) (I := fun i ρ => ∃ (r : List Nat) (z : Option Val), r.length = i ∧ (∀ z ∈ r, Lt z) ∧ ρ = [some (fz (.scr ns)), some (fz (.int at')), a, some (fz (.int k)), some (fz (.str "abcdefghijklmnopqrstuvwxyz")), c, some (fz (.str (nm r))), z, f])
    (rngD 0 v.toNat) 0 [some (fz (.scr ns)), some (fz (.int at')), a, some (fz (.int k)), some (fz (.str "abcdefghijklmnopqrstuvwxyz")), c, some (fz (.str "")), e, f] ⟨[], e, rfl, by simp, rfl⟩ (by
      rintro i d ρ hd ⟨r, z, hr, hz, rfl⟩
      obtain ⟨hi, rfl⟩ := rngD_get hd
      have p1 := pick_ok (ns := ns) (k := at' + 7 * k + (0 + (i : Int)) + 1) (m := 26) hl (by omega) (by omega) (by decide)
      generalize pick ns (at' + 7 * k + (0 + (i : Int)) + 1) 26 = p at p1
      have c1 := cmulL 7 k (by decide) (by decide)
      have l1 := letters_ix p1.1 p1.2.1
      have q := p1.2.2
      have hn : (nm r).length + (nm [97 + p.toNat]).length ≤ sizeLine := sz_le (by rw [nm_len, nm_len]; simp; omega)
      have ga : ∀ m m' w, gAdd ⟨m, .str (nm r)⟩ ⟨m', .str (nm [97 + p.toNat])⟩ w = .ok (fz (.str (nm (r ++ [97 + p.toNat])))) w := fun m m' w => by simp [gAdd, hn, nm_app]
      refine ⟨_, [some (fz (.scr ns)), some (fz (.int at')), a, some (fz (.int k)), some (fz (.str "abcdefghijklmnopqrstuvwxyz")), c, some (fz (.str (nm (r ++ [97 + p.toNat])))), some (fz (.int (0 + (i : Int)))), f], rfl, fun w => ?_, r ++ [97 + p.toNat], some (fz (.int (0 + (i : Int)))), ?_, ?_, rfl⟩
      · simp only [law_names_l1]
        simp at q
        simp [c1, q, l1, ga]
      · simp; omega
      · intro y hy
        rcases List.mem_append.mp hy with hy | hy
        · exact hz y hy
        · simp at hy; subst hy; unfold Lt; omega)
  refine ⟨r, z, ?_, hz, fun w => by rw [h w, e']⟩
  rw [hr]
  simp
  omega
theorem names_ex (ns : List Int) (hl : ns.length ≤ 63) (at' : Int) (h0 : 0 ≤ at') (h1 : at' < 1000) (many : Nat) (hm : many ≤ 26) :
    ∃ xs : List (List Nat), xs.length = many ∧ (∀ k (h : k < xs.length), NmK (decide (pick ns (at' + 61) 2 = 0)) (97 + ((pick ns (at' + 60) 26 + k) % 26).toNat) xs[k]) ∧ ∀ w, law_names [.scr ns, .int at', .int many] w = .ok ⟨.nw, .lst (xs.map fun x => .str (nm x))⟩ w := by
  have p2 := pick_ok (ns := ns) (k := at' + 60) (m := 26) hl (by omega) (by omega) (by decide)
  have p3 := pick_ok (ns := ns) (k := at' + 61) (m := 2) hl (by omega) (by omega) (by decide)
  obtain ⟨ρ', h, xs, z1, z2, z3, z4, hr, hz, e'⟩ := forL_pure (t := .nm 3) (b := law_names_l2) (I := fun i ρ => ∃ (xs : List (List Nat)) (z1 z2 z3 z4 : Option Val), xs.length = i ∧ (∀ k (h : k < xs.length), NmK (decide (pick ns (at' + 61) 2 = 0)) (97 + ((pick ns (at' + 60) 26 + k) % 26).toNat) xs[k]) ∧ ρ = [some (fz (.scr ns)), some (fz (.int at')), some (fz (.int many)), z1, some (fz (.str "abcdefghijklmnopqrstuvwxyz")), some ⟨.nw, .lst (xs.map fun x => .str (nm x))⟩, z2, z3, z4])
    (rngD 0 many) 0 [some (fz (.scr ns)), some (fz (.int at')), some (fz (.int many)), none, some (fz (.str "abcdefghijklmnopqrstuvwxyz")), some ⟨.nw, .lst []⟩, none, none, none] ⟨[], none, none, none, none, rfl, by simp, rfl⟩ (by
      rintro i d ρ hd ⟨xs, z1, z2, z3, z4, hx, hz, rfl⟩
      obtain ⟨hi, rfl⟩ := rngD_get hd
      have p1 := pick_ok (ns := ns) (k := at' + 7 * (0 + (i : Int))) (m := 5) hl (by omega) (by omega) (by decide)
      generalize pick ns (at' + 7 * (0 + (i : Int))) 5 = p at p1
      generalize hp2 : pick ns (at' + 60) 26 = q2 at p2 hz ⊢
      generalize hp3 : pick ns (at' + 61) 2 = q3 at p3 hz ⊢
      have c1 := cmulL 7 (i : Int) (by decide) (by decide)
      obtain ⟨v, hv, ev⟩ : ∃ v ∈ [0, 0, 1, 2, 5], atI [D.int 0, D.int 0, D.int 1, D.int 2, D.int 5] p = some (.int v) := atI_ints [0, 0, 1, 2, 5] p p1.1 p1.2.1
      have hv5 : 0 ≤ v ∧ v ≤ 5 := by simp at hv; omega
      have i0 : 0 ≤ (q2 + (i : Int)) % 26 := Int.emod_nonneg _ (by decide)
      have i1 : (q2 + (i : Int)) % 26 < 26 := Int.emod_lt_of_pos _ (by decide)
      obtain ⟨r, zz, r5, rl, er⟩ := names_rest ns hl at' (0 + (i : Int)) h0 h1 (by omega) (by omega) (some (fz (.int many))) (some ⟨.nw, .lst (xs.map fun x => .str (nm x))⟩) z3 z4 v hv5.1 hv5.2
      have l1 := letters_ix i0 i1
      have q1 := p1.2.2
      have w2 := p2.2.2
      have w3 := p3.2.2
      generalize hcc : 97 + ((q2 + (i : Int)) % 26).toNat = cc at l1
      have ltc : Lt cc := by unfold Lt; omega
      have hn : (nm r).length + (nm [cc]).length ≤ sizeLine := sz_le (by rw [nm_len, nm_len]; simp; omega)
      have hn' : (nm [cc]).length + (nm r).length ≤ sizeLine := sz_le (by rw [nm_len, nm_len]; simp; omega)
      have ga : ∀ m m' w, gAdd ⟨m, .str (nm r)⟩ ⟨m', .str (nm [cc])⟩ w = .ok (fz (.str (nm (r ++ [cc])))) w := fun m m' w => by simp [gAdd, hn, nm_app]
      have gb : ∀ m m' w, gAdd ⟨m, .str (nm [cc])⟩ ⟨m', .str (nm r)⟩ w = .ok (fz (.str (nm (cc :: r)))) w := fun m m' w => by simp [gAdd, hn', nm_app]
      have hsz : xs.length < sizeLine := sz_lt (by omega)
      have hv2 : RO v := ro (by omega) (by omega)
      refine ⟨_, [some (fz (.scr ns)), some (fz (.int at')), some (fz (.int many)), some (fz (.int (0 + (i : Int)))), some (fz (.str "abcdefghijklmnopqrstuvwxyz")), some ⟨.nw, .lst ((xs ++ [if decide (q3 = 0) then r ++ [cc] else cc :: r]).map fun x => .str (nm x))⟩, some (fz (.str (nm r))), zz, some (fz (.str (nm [cc])))], rfl, fun w => ?_, xs ++ [if decide (q3 = 0) then r ++ [cc] else cc :: r], some (fz (.int (0 + (i : Int)))), some (fz (.str (nm r))), zz, some (fz (.str (nm [cc]))), by simp; omega, ?_, rfl⟩
      · simp only [law_names_l2]
        simp at q1 er
        by_cases hq : q3 = 0
        · simp [c1, q1, ev, hv2, er, w2, w3, l1, ga, hq, hsz]
        · simp [c1, q1, ev, hv2, er, w2, w3, l1, gb, hq, hsz]
      · intro k hk
        by_cases hk2 : k < xs.length
        · rw [List.getElem_append_left hk2]
          exact hz k hk2
        · have : k = xs.length := by simp at hk; omega
          subst this
          simp only [List.getElem_concat_length]
          refine ⟨r, r5, rl, ?_, ?_⟩
          · rw [hx, Nat.zero_add, hcc]; exact ltc
          · rw [hx, Nat.zero_add, hcc])
  refine ⟨xs, by rw [hr]; simp, hz, fun w => ?_⟩
  have hro : RO (many : Int) := ro (by omega) (by omega)
  simp [law_names, fnD, law_names_b, hro]
  rw [h w, e']
  rfl

/-! ### rows -/
structure Row where
  b : Int
  e : Int
  n : List Nat
  deriving DecidableEq
def rowD (r : Row) : D := .tup [.int r.b, .int r.e, .str (nm r.n)]
/-- the rows lie apart, from lo on; hi: the last end, or lo -/
def Ap : Int → List Row → Int → Prop
  | lo, [], hi => lo = hi
  | lo, r :: rs, hi => lo ≤ r.b ∧ r.b < r.e ∧ Ap r.e rs hi
theorem Ap.add {lo hi : Int} {rs : List Row} (h : Ap lo rs hi) (r : Row) (h1 : hi ≤ r.b) (h2 : r.b < r.e) : Ap lo (rs ++ [r]) r.e := by
  induction rs generalizing lo with
  | nil => cases h; exact ⟨h1, h2, rfl⟩
  | cons x xs ih => exact ⟨h.1, h.2.1, ih h.2.2⟩
theorem Ap.le {lo hi : Int} {rs : List Row} (h : Ap lo rs hi) : lo ≤ hi := by
  induction rs generalizing lo with
  | nil => cases h; exact Int.le_refl _
  | cons x xs ih => have := ih h.2.2; have := h.1; have := h.2.1; omega
/-- up to six drawn rows of a day -/
structure Drawn (rs : List Row) (xs : List (List Nat)) : Prop where
  ap : ∃ hi, Ap 0 rs hi ∧ hi ≤ 24
  ne : rs ≠ []
  le : rs.length ≤ 6
  nm : ∀ r ∈ rs, r.n ∈ xs
theorem rows_ex (ns : List Int) (hl : ns.length ≤ 63) (at' : Int) (h0 : 0 ≤ at') (h1 : at' < 900) :
    ∃ (rs : List Row) (xs : List (List Nat)), Drawn rs xs ∧ xs.length = 3 ∧ (∀ k (h : k < xs.length), NmK (decide (pick ns (at' + 61) 2 = 0)) (97 + ((pick ns (at' + 60) 26 + k) % 26).toNat) xs[k]) ∧
      ∀ w, law_drawn_rows [.scr ns, .int at'] w = .ok (fz (.tup [.lst (rs.map rowD), .lst (xs.map fun x => .str (nm x))])) w := by
  obtain ⟨xs, hx, hk, en⟩ := names_ex ns hl at' h0 (by omega) 3 (by decide)
  have p0 := pick_ok (ns := ns) (k := at' + 70) (m := 6) hl (by omega) (by omega) (by decide)
  generalize pick ns (at' + 70) 6 = n at p0
  obtain ⟨ρ', h, rs, z2, z6, z7, hour, hr, hh, hn, hz, hne, e'⟩ := forL_pure (t := .nm 2) (b := law_drawn_rows_l1) (I := fun i ρ => ∃ (rs : List Row) (z2 z6 z7 : Option Val) (hour : Int), Ap 0 rs hour ∧ hour ≤ 24 ∧ rs.length ≤ i ∧ (∀ r ∈ rs, r.n ∈ xs) ∧ (if i = 0 then hour = 0 else rs ≠ []) ∧
      ρ = [some (fz (.scr ns)), some (fz (.int at')), z2, some (fz (.lst (xs.map fun x => .str (nm x)))), some ⟨.nw, .lst (rs.map rowD)⟩, some (fz (.int hour)), z6, z7])
    (rngD 0 (1 + n).toNat) 0 [some (fz (.scr ns)), some (fz (.int at')), none, some (fz (.lst (xs.map fun x => .str (nm x)))), some ⟨.nw, .lst []⟩, some (fz (.int 0)), none, none] ⟨[], none, none, none, 0, rfl, by decide, by decide, by simp, rfl, rfl⟩ (by
      rintro i d ρ hd ⟨rs, z2, z6, z7, hour, hr, hh, hn, hz, hne, rfl⟩
      obtain ⟨hi, rfl⟩ := rngD_get hd
      have p1 := pick_ok (ns := ns) (k := at' + 71 + (0 + (i : Int))) (m := 5) hl (by omega) (by omega) (by decide)
      have p2 := pick_ok (ns := ns) (k := at' + 78 + (0 + (i : Int))) (m := 5) hl (by omega) (by omega) (by decide)
      have p3 := pick_ok (ns := ns) (k := at' + 85 + (0 + (i : Int))) (m := 3) hl (by omega) (by omega) (by decide)
      generalize pick ns (at' + 71 + (0 + (i : Int))) 5 = q1 at p1
      generalize pick ns (at' + 78 + (0 + (i : Int))) 5 = q2 at p2
      generalize pick ns (at' + 85 + (0 + (i : Int))) 3 = q3 at p3
      obtain ⟨v, hv, ev⟩ : ∃ v ∈ [0, 0, 0, 1, 2], atI [D.int 0, D.int 0, D.int 0, D.int 1, D.int 2] q1 = some (.int v) := atI_ints [0, 0, 0, 1, 2] q1 p1.1 p1.2.1
      obtain ⟨u, hu, eu⟩ : ∃ v ∈ [1, 2, 3, 4, 6], atI [D.int 1, D.int 2, D.int 3, D.int 4, D.int 6] q2 = some (.int v) := atI_ints [1, 2, 3, 4, 6] q2 p2.1 p2.2.1
      have hv2 : 0 ≤ v ∧ v ≤ 2 := by simp at hv; omega
      have hu2 : 1 ≤ u ∧ u ≤ 6 := by simp at hu; omega
      have hq3 : q3.toNat < xs.length := by omega
      have ex : atI (xs.map fun x => D.str (nm x)) q3 = some (.str (nm xs[q3.toNat])) := by
        rw [atI_pos p3.1 (by simp; omega), List.getElem?_map, List.getElem?_eq_getElem hq3]
        rfl
      have w1 := p1.2.2
      have w2 := p2.2.2
      have w3 := p3.2.2
      simp only [Int.zero_add] at w1 w2 w3
      have hsz : rs.length < sizeLine := sz_lt (by omega)
      have hlo := hr.le
      by_cases hle : hour + v + u ≤ 24
      · refine ⟨_, [some (fz (.scr ns)), some (fz (.int at')), some (fz (.int (0 + (i : Int)))), some (fz (.lst (xs.map fun x => .str (nm x)))), some ⟨.nw, .lst ((rs ++ [Row.mk (hour + v) (hour + v + u) xs[q3.toNat]]).map rowD)⟩, some (fz (.int (hour + v + u))), some (fz (.int (hour + v))), some (fz (.int (hour + v + u)))], rfl, fun w => ?_,
          rs ++ [Row.mk (hour + v) (hour + v + u) xs[q3.toNat]], some (fz (.int (0 + (i : Int)))), some (fz (.int (hour + v))), some (fz (.int (hour + v + u))), hour + v + u, hr.add ⟨hour + v, hour + v + u, xs[q3.toNat]⟩ (by show hour ≤ hour + v; omega) (by show hour + v < hour + v + u; omega), hle, by simp; omega, ?_, by simp, rfl⟩
        · simp [law_drawn_rows_l1, w1, w2, w3, ev, eu, ex, hle, hsz, rowD]
        · intro r hr
          rcases List.mem_append.mp hr with hr | hr
          · exact hz r hr
          · simp at hr; subst hr; exact List.getElem_mem hq3
      · refine ⟨_, [some (fz (.scr ns)), some (fz (.int at')), some (fz (.int (0 + (i : Int)))), some (fz (.lst (xs.map fun x => .str (nm x)))), some ⟨.nw, .lst (rs.map rowD)⟩, some (fz (.int hour)), some (fz (.int (hour + v))), some (fz (.int (hour + v + u)))], rfl, fun w => ?_,
          rs, some (fz (.int (0 + (i : Int)))), some (fz (.int (hour + v))), some (fz (.int (hour + v + u))), hour, hr, hh, by omega, hz, ?_, rfl⟩
        · simp [law_drawn_rows_l1, w1, w2, w3, ev, eu, ex, hle, hsz]
        · rw [if_neg (by omega)]
          by_cases h0 : 0 + i = 0
          · rw [if_pos h0] at hne; omega
          · rw [if_neg h0] at hne; exact hne)
  refine ⟨rs, xs, ⟨⟨hour, hr, hh⟩, ?_, ?_, hz⟩, hx, hk, fun w => ?_⟩
  · simp at hne
    rw [if_neg (by omega)] at hne
    exact hne
  · simp at hn; omega
  · have hro : RO (1 + n) := ro (by omega) (by omega)
    have en' := en
    simp at en'
    simp [law_drawn_rows, fnD, law_drawn_rows_b, en', p0.2.2, hro]
    rw [h w, e']
    simp

/-! ### joined -/
def joinR (b e : Int) (r : Row) : List Row := if r.b = b then [⟨b, e, r.n⟩] else if r.b < b ∨ r.b ≥ e then [r] else if r.e > e then [⟨e, r.e, r.n⟩] else []
def joinF (b e : Int) (rs : List Row) : List Row := rs.flatMap (joinR b e)
theorem joined_loop (R : Option Val) (b e : Int) : ∀ (rs acc : List Row) (z : Option Val), acc.length + rs.length ≤ 1000 → ∃ z', ∀ w, forL (.nm 4) joined_l1 (rs.map rowD) [R, some (fz (.int b)), some (fz (.int e)), some ⟨.nw, .lst (acc.map rowD)⟩, z] w =
    .next [R, some (fz (.int b)), some (fz (.int e)), some ⟨.nw, .lst ((acc ++ joinF b e rs).map rowD)⟩, z'] w
  | [], acc, z, _ => ⟨z, fun w => by simp [forL, joinF]⟩
  | r :: rs, acc, z, h => by
    have h' : acc.length + rs.length + 1 ≤ 1000 := by simp at h; omega
    have hsz : acc.length < sizeLine := sz_lt (by omega)
    have go : ∀ (k : List Row) , k.length ≤ 1 → joinR b e r = k → (∀ w, joined_l1 [R, some (fz (.int b)), some (fz (.int e)), some ⟨.nw, .lst (acc.map rowD)⟩, some (fz (rowD r))] w = .next [R, some (fz (.int b)), some (fz (.int e)), some ⟨.nw, .lst ((acc ++ k).map rowD)⟩, some (fz (rowD r))] w) →
        ∃ z', ∀ w, forL (.nm 4) joined_l1 ((r :: rs).map rowD) [R, some (fz (.int b)), some (fz (.int e)), some ⟨.nw, .lst (acc.map rowD)⟩, z] w = .next [R, some (fz (.int b)), some (fz (.int e)), some ⟨.nw, .lst ((acc ++ joinF b e (r :: rs)).map rowD)⟩, z'] w := fun k hk ek hw => by
      obtain ⟨z', hz⟩ := joined_loop R b e rs (acc ++ k) (some (fz (rowD r))) (by simp; omega)
      refine ⟨z', fun w => ?_⟩
      have := hz w
      rw [List.map_cons]
      simp only [forL, setT_nm, List.set_cons_succ, List.set_cons_zero, hw]
      rw [this]
      simp [joinF, ek]
    by_cases h1 : r.b = b
    · exact go [⟨b, e, r.n⟩] (by simp) (by simp [joinR, h1]) fun w => by simp [joined_l1, rowD, h1, hsz]
    · by_cases h2 : r.b < b ∨ r.b ≥ e
      · refine go [r] (by simp) (by simp [joinR, h1, h2]) fun w => ?_
        by_cases h3 : r.b < b
        · simp [joined_l1, rowD, h1, h3, hsz]
        · have h4 : r.b ≥ e := by omega
          simp [joined_l1, rowD, h1, h3, h4, hsz]
      · have h3 : ¬ r.b < b := fun z => h2 (.inl z)
        have h4 : ¬ r.b ≥ e := fun z => h2 (.inr z)
        by_cases h5 : r.e > e
        · exact go [⟨e, r.e, r.n⟩] (by simp) (by simp [joinR, h1, h2, h5]) fun w => by simp [joined_l1, rowD, h1, h3, h4, h5, hsz]
        · exact go [] (by simp) (by simp [joinR, h1, h2, h5]) fun w => by simp [joined_l1, rowD, h1, h3, h4, h5, hsz]
theorem joined_ok (b e : Int) (rs : List Row) (h : rs.length ≤ 1000) (w : W) : joined [.lst (rs.map rowD), .int b, .int e] w = .ok ⟨.nw, .lst ((joinF b e rs).map rowD)⟩ w := by
  obtain ⟨z', hz⟩ := joined_loop (some (fz (.lst (rs.map rowD)))) b e rs [] none (by simpa using h)
  have := hz w
  simp at this
  simp [joined, fnD, joined_b]
  rw [this]
  simp

/-! ### comprehensions over rows -/
theorem lc_rows {i j : Nat} {cond : DT} {elem : DE} (p : Row → Bool) (g : Row → D) {ρ : DL.Env} {rs : List Row} (hj : ρ[i]? = some (some (fz (.lst (rs.map rowD))))) (hsz : rs.length ≤ 1000)
    (hc : ∀ r ∈ rs, ∀ w, cond (ρ.set j (some (fz (rowD r)))) w = .ok (p r) w) (he : ∀ r ∈ rs, p r = true → ∀ w, elem (ρ.set j (some (fz (rowD r)))) w = .ok (fz (g r)) w) (w : W) :
    dLc (iSq (dVar i)) (.nm j) cond elem [j] ρ w = .ok ⟨.nw, .lst ((rs.filter p).map g)⟩ w := by
  refine dLc_ok (b := true) (ds := rs.map rowD) (by simp [iSq, hj]) (by simpa using sz_le (by omega)) (lcL_map rowD p g rs (fun r hr => ⟨_, rfl, fun w => ?_, fun hp => ⟨.fz, rfl, fun w => ?_⟩⟩) w)
  · simpa using hc r hr w
  · simpa using he r hr hp w
theorem lc_rowsA {i j : Nat} {elem : DE} (g : Row → D) {ρ : DL.Env} {rs : List Row} (hj : ρ[i]? = some (some (fz (.lst (rs.map rowD))))) (hsz : rs.length ≤ 1000) (he : ∀ r ∈ rs, ∀ w, elem (ρ.set j (some (fz (rowD r)))) w = .ok (fz (g r)) w) (w : W) :
    dLc (iSq (dVar i)) (.nm j) tYesD elem [j] ρ w = .ok ⟨.nw, .lst (rs.map g)⟩ w := by
  refine dLc_ok (b := true) (ds := rs.map rowD) (by simp [iSq, hj]) (by simpa using sz_le (by omega)) (lcL_all rowD g rs (fun r hr => ⟨_, rfl, .fz, rfl, fun w => ?_⟩) w)
  simpa using he r hr w
/-! ### names that are fixed -/
def strD (x : List Nat) : D := .str (nm x)
def inF (F : List (List Nat)) (r : Row) : Bool := F.contains r.n
theorem eqD_nm (x y : List Nat) : eqD (.str (nm x)) (.str (nm y)) = (x == y) := by
  unfold eqD
  rw [Bool.eq_iff_iff, beq_iff_eq, beq_iff_eq]
  exact ⟨nm_inj, fun h => by rw [h]⟩
theorem pl_strs {F : List (List Nat)} (h : ∀ x ∈ F, NOk x) : pl (.lst (F.map strD)) = true := by
  show (F.map strD).all (plN 9) = true
  simp only [List.all_map, List.all_eq_true]
  intro r hr
  have := strOk_nm (h r hr)
  simp [strD, plN, this]
theorem gIn_F {F : List (List Nat)} {x : List Nat} (hF : ∀ x ∈ F, NOk x) (hx : NOk x) (m m' : Md) (w : W) : gIn false ⟨m, .str (nm x)⟩ ⟨m', .lst (F.map strD)⟩ w = .ok (fz (.bl (F.contains x))) w := by
  have h1 := pl_strs hF
  have h2 : pl (.str (nm x)) = true := by simp [pl, plN, strOk_nm hx]
  simp only [gIn, h1, h2, Bool.and_self, if_true]
  congr 3
  rw [List.any_map]
  have : (fun z => eqD z (D.str (nm x))) ∘ strD = fun y => y == x := by
    funext y
    exact eqD_nm y x
  rw [this]
  simp only [bne_iff_ne, Bool.false_bne]
  rw [Bool.eq_iff_iff, List.any_eq_true, List.contains_iff_mem]
  constructor
  · rintro ⟨y, hy, e⟩
    rw [beq_iff_eq] at e
    exact e ▸ hy
  · exact fun h => ⟨x, h, by simp⟩
/-! ### next_fixed -/
def minOr (ns : List Int) (d : Int) : Int := match ns with
  | [] => d
  | n :: r => minI (n :: r)
theorem minOr_le {ns : List Int} {d : Int} : ∀ y ∈ ns, minOr ns d ≤ y := by
  cases ns with
  | nil => intro y hy; cases hy
  | cons n r => exact (minI_spec r n).2
theorem minOr_mem {ns : List Int} {d : Int} (h : ns ≠ []) : minOr ns d ∈ ns := by
  cases ns with
  | nil => exact absurd rfl h
  | cons n r => exact (minI_spec r n).1
theorem gMinD_ints {ds : List D} {ns : List Int} {d : Int} {m m' : Md} {w : W} (h : intsOf ds = some ns) : gMinD ⟨m, .lst ds⟩ ⟨m', .int d⟩ w = .ok (fz (.int (minOr ns d))) w := by
  simp only [gMinD, h]
  cases ns <;> rfl
def nextF (rows : List Row) (F : List (List Nat)) (last at' : Int) : Int := minOr ((rows.filter fun r => decide (r.b ≥ at') && inF F r).map (·.b)) last
theorem next_fixed_ok {rows : List Row} {F : List (List Nat)} (hl : rows.length ≤ 1000) (hr : ∀ r ∈ rows, NOk r.n) (hF : ∀ x ∈ F, NOk x) (at' last : Int) (w : W) : next_fixed [.lst (rows.map rowD), .int at', .int last, .lst (F.map strD)] w = .ok (fz (.int (nextF rows F last at'))) w := by
  have lc := lc_rows (i := 0) (j := 4) (cond := dAnd (tst (dOp gGe (dOp gIx (dVar 4) (dC (.int 0))) (dVar 1))) (tst (dOp (gIn false) (dOp gIx (dVar 4) (dC (.int 2))) (dVar 3)))) (elem := dOp gIx (dVar 4) (dC (.int 0))) (fun r => decide (r.b ≥ at') && inF F r) (fun r => .int r.b)
    (ρ := [some (fz (.lst (rows.map rowD))), some (fz (.int at')), some (fz (.int last)), some (fz (.lst (F.map strD))), none]) (rs := rows) rfl hl (fun r h w => by
      have := gIn_F hF (hr r h) .fz .fz w
      by_cases hb : r.b ≥ at'
      · simp [rowD, hb, this, inF]
      · simp [rowD, hb]) (fun r h _ w => by simp [rowD]) w
  simp only [next_fixed]
  refine fnD_ret rfl ?_
  show next_fixed_b [some (fz (.lst (rows.map rowD))), some (fz (.int at')), some (fz (.int last)), some (fz (.lst (F.map strD))), none] w = _
  have := intsOf_mapF (fun r : Row => r.b) (rows.filter fun r => decide (r.b ≥ at') && inF F r)
  have := fun m m' => gMinD_ints (d := last) (m := m) (m' := m') (w := w) this
  simp only [next_fixed_b, sRet_s, dOp_s, lc, bind_ok, dVar_s]
  simp [this, nextF]
/-! ### pushed -/
def mn2 (x y : Int) : Int := if y < x then y else x
def pushL (rows : List Row) (b e last : Int) (F : List (List Nat)) : Int → List Row → List Row
  | _, [] => []
  | at', r :: rs => if r.b = b then ⟨b, e, r.n⟩ :: pushL rows b e last F e rs else if r.b ≥ at' then r :: pushL rows b e last F r.e rs else
    if mn2 (at' + r.e - r.b) (nextF rows F last r.b) > at' then ⟨at', mn2 (at' + r.e - r.b) (nextF rows F last r.b), r.n⟩ :: pushL rows b e last F (mn2 (at' + r.e - r.b) (nextF rows F last r.b)) rs else pushL rows b e last F at' rs
theorem pushed_loop {rows : List Row} {F : List (List Nat)} (hl : rows.length ≤ 1000) (hr : ∀ r ∈ rows, NOk r.n) (hF : ∀ x ∈ F, NOk x) (b e last : Int) : ∀ (rs acc : List Row) (at' : Int) (z5 z8 : Option Val), acc.length + rs.length ≤ 1000 → ∃ z5' z7' z8', ∀ w,
    forL (.nm 5) pushed_l1 (rs.map rowD) [some (fz (.lst (rows.map rowD))), some (fz (.int b)), some (fz (.int e)), some (fz (.int last)), some (fz (.lst (F.map strD))), z5, some ⟨.nw, .lst (acc.map rowD)⟩, some (fz (.int at')), z8] w =
      .next [some (fz (.lst (rows.map rowD))), some (fz (.int b)), some (fz (.int e)), some (fz (.int last)), some (fz (.lst (F.map strD))), z5', some ⟨.nw, .lst ((acc ++ pushL rows b e last F at' rs).map rowD)⟩, z7', z8'] w
  | [], acc, at', z5, z8, _ => ⟨z5, some (fz (.int at')), z8, fun w => by simp [forL, pushL]⟩
  | r :: rs, acc, at', z5, z8, h => by
    have h' : acc.length + rs.length + 1 ≤ 1000 := by simp at h; omega
    have hsz : acc.length < sizeLine := sz_lt (by omega)
    have go : ∀ (k : List Row) (a2 : Int) (z8' : Option Val), k.length ≤ 1 → pushL rows b e last F at' (r :: rs) = k ++ pushL rows b e last F a2 rs → (∀ w, pushed_l1 [some (fz (.lst (rows.map rowD))), some (fz (.int b)), some (fz (.int e)), some (fz (.int last)), some (fz (.lst (F.map strD))), some (fz (rowD r)), some ⟨.nw, .lst (acc.map rowD)⟩, some (fz (.int at')), z8] w = .next [some (fz (.lst (rows.map rowD))), some (fz (.int b)), some (fz (.int e)), some (fz (.int last)), some (fz (.lst (F.map strD))), some (fz (rowD r)), some ⟨.nw, .lst ((acc ++ k).map rowD)⟩, some (fz (.int a2)), z8'] w) →
        ∃ z5' z7' z8', ∀ w, forL (.nm 5) pushed_l1 ((r :: rs).map rowD) [some (fz (.lst (rows.map rowD))), some (fz (.int b)), some (fz (.int e)), some (fz (.int last)), some (fz (.lst (F.map strD))), z5, some ⟨.nw, .lst (acc.map rowD)⟩, some (fz (.int at')), z8] w =
          .next [some (fz (.lst (rows.map rowD))), some (fz (.int b)), some (fz (.int e)), some (fz (.int last)), some (fz (.lst (F.map strD))), z5', some ⟨.nw, .lst ((acc ++ pushL rows b e last F at' (r :: rs)).map rowD)⟩, z7', z8'] w := fun k a2 z8' hk ek hw => by
      obtain ⟨y5, y7, y8, hz⟩ := pushed_loop hl hr hF b e last rs (acc ++ k) a2 (some (fz (rowD r))) z8' (by simp; omega)
      refine ⟨y5, y7, y8, fun w => ?_⟩
      rw [List.map_cons]
      simp only [forL, setT_nm, List.set_cons_succ, List.set_cons_zero, hw]
      rw [hz w, ek, List.append_assoc]
    by_cases h1 : r.b = b
    · exact go [⟨b, e, r.n⟩] e z8 (by simp) (by simp [pushL, h1]) fun w => by simp [pushed_l1, rowD, h1, hsz]
    · by_cases h2 : r.b ≥ at'
      · exact go [r] r.e z8 (by simp) (by simp [pushL, h1, h2]) fun w => by simp [pushed_l1, rowD, h1, h2, hsz]
      · have nf := next_fixed_ok hl hr hF r.b last
        obtain ⟨st, hst⟩ : ∃ st, st = mn2 (at' + r.e - r.b) (nextF rows F last r.b) := ⟨_, rfl⟩
        have hst' : (if nextF rows F last r.b < at' + r.e - r.b then nextF rows F last r.b else at' + r.e - r.b) = st := by rw [hst]; rfl
        by_cases h3 : st > at'
        · exact go [⟨at', st, r.n⟩] st (some (fz (.int st))) (by simp) (by simp only [pushL, if_neg h1, if_neg h2, ← hst, if_pos h3]; rfl) fun w => by simp [pushed_l1, rowD, h1, h2, nf, hst', h3, hsz]
        · exact go [] at' (some (fz (.int st))) (by simp) (by simp only [pushL, if_neg h1, if_neg h2, ← hst, if_neg h3]; rfl) fun w => by simp [pushed_l1, rowD, h1, h2, nf, hst', h3, hsz]
theorem pushed_ok {rows : List Row} {F : List (List Nat)} (hl : rows.length ≤ 1000) (hr : ∀ r ∈ rows, NOk r.n) (hF : ∀ x ∈ F, NOk x) (b e last : Int) (w : W) : pushed [.lst (rows.map rowD), .int b, .int e, .int last, .lst (F.map strD)] w = .ok ⟨.nw, .lst ((pushL rows b e last F 0 rows).map rowD)⟩ w := by
  obtain ⟨z5, z7, z8, hz⟩ := pushed_loop hl hr hF b e last rows [] 0 none none (by simpa using hl)
  have := hz w
  simp at this
  simp [pushed, fnD, pushed_b]
  rw [this]
  simp

/-! ### rows by places -/
theorem Ap.split {lo hi : Int} {A B : List Row} (h : Ap lo (A ++ B) hi) : ∃ m, Ap lo A m ∧ Ap m B hi := by
  induction A generalizing lo with
  | nil => exact ⟨lo, rfl, h⟩
  | cons x xs ih =>
    obtain ⟨m, h1, h2⟩ := ih h.2.2
    exact ⟨m, ⟨h.1, h.2.1, h1⟩, h2⟩
theorem Ap.join {lo m hi : Int} {A B : List Row} (h : Ap lo A m) (h2 : Ap m B hi) : Ap lo (A ++ B) hi := by
  induction A generalizing lo with
  | nil => cases h; exact h2
  | cons x xs ih => exact ⟨h.1, h.2.1, ih h.2.2⟩
theorem Ap.mem {lo hi : Int} {rs : List Row} (h : Ap lo rs hi) : ∀ r ∈ rs, lo ≤ r.b ∧ r.b < r.e ∧ r.e ≤ hi := by
  induction rs generalizing lo with
  | nil => intro r hr; cases hr
  | cons x xs ih =>
    intro r hr
    rcases List.mem_cons.mp hr with rfl | hr
    · exact ⟨h.1, h.2.1, h.2.2.le⟩
    · have := ih h.2.2 r hr
      have := h.1
      have := h.2.1
      omega
theorem pl_rows {rs : List Row} (h : ∀ r ∈ rs, NOk r.n) : pl (.lst (rs.map rowD)) = true := by
  show (rs.map rowD).all (plN 9) = true
  simp only [List.all_map, List.all_eq_true]
  intro r hr
  have := strOk_nm (h r hr)
  simp [rowD, plN, this]
theorem nmK_ok {fl : Bool} {c : Nat} {x : List Nat} (h : NmK fl c x) : NOk x := by
  obtain ⟨r, _, hr, hc, rfl⟩ := h
  intro z hz
  have : z ∈ r ∨ z = c := by cases fl <;> simp at hz <;> rcases hz with h | h <;> simp [h]
  rcases this with h | h
  · have := (hr z h).2; omega
  · rw [h]; have := hc.2; omega
/-- what _law_push_case draws -/
structure Case (rows : List Row) (A : List Row) (r : Row) (B : List Row) (en last : Int) (F : List (List Nat)) : Prop where
  cut : rows = A ++ r :: B
  ap : ∃ hi, Ap 0 rows hi ∧ hi ≤ last
  l24 : last ≤ 24
  le : rows.length ≤ 6
  ok : ∀ x ∈ rows, NOk x.n
  okF : ∀ x ∈ F, NOk x
  old : r.e ≤ en
  most : en ≤ last
  fixed : ∀ x ∈ B, inF F x = true → en ≤ x.b
theorem minI_app {l : List Int} {d : Int} : minI (l ++ [d]) ∈ l ++ [d] ∧ ∀ y ∈ l ++ [d], minI (l ++ [d]) ≤ y := by
  cases l with
  | nil => exact minI_spec [] d
  | cons n r => exact minI_spec (r ++ [d]) n
theorem maxI_app {l : List Int} {d : Int} : maxI (l ++ [d]) ∈ l ++ [d] ∧ ∀ y ∈ l ++ [d], y ≤ maxI (l ++ [d]) := by
  cases l with
  | nil => exact maxI_spec [] d
  | cons n r => exact maxI_spec (r ++ [d]) n
theorem gMinL_app {ds : List D} {l : List Int} {d : Int} (h : ds = (l ++ [d]).map D.int) (m : Md) (w : W) : gMinL [⟨m, .lst ds⟩] w = .ok (fz (.int (minI (l ++ [d])))) w := by
  have := intsOf_mapF id (l ++ [d])
  simp only [id, List.map_id] at this
  subst h
  simp only [gMinL, onL]
  have e : (l ++ [d]).map D.int = (l ++ [d]).map fun a => D.int a := rfl
  rw [e, this]
  cases l <;> rfl
theorem gMaxL_app {ds : List D} {l : List Int} {d : Int} (h : ds = (l ++ [d]).map D.int) (m : Md) (w : W) : gMaxL [⟨m, .lst ds⟩] w = .ok (fz (.int (maxI (l ++ [d])))) w := by
  have := intsOf_mapF id (l ++ [d])
  simp only [id, List.map_id] at this
  subst h
  simp only [gMaxL, onL]
  have e : (l ++ [d]).map D.int = (l ++ [d]).map fun a => D.int a := rfl
  rw [e, this]
  cases l <;> rfl
theorem push_case_ok (ns : List Int) (hl : ns.length ≤ 63) (at' : Int) (h0 : 0 ≤ at') (h1 : at' < 800) : ∃ rows A r B en last F, Case rows A r B en last F ∧ ∀ w, law_push_case [.scr ns, .int at'] w = .ok (fz (.tup [.lst (rows.map rowD), .int r.b, .int en, .int last, .lst (F.map strD)])) w := by
  obtain ⟨rs, xs, d, hx, hk, e1⟩ := rows_ex ns hl at' h0 (by omega)
  obtain ⟨hi, hap, h24⟩ := d.ap
  have hlen : 0 < rs.length := List.length_pos_iff.mpr d.ne
  have hle := d.le
  have okX : ∀ x ∈ xs, NOk x := fun x hx => by
    obtain ⟨k, hk2, ek⟩ := List.mem_iff_getElem.mp hx
    rw [← ek]
    exact nmK_ok (hk k hk2)
  have okR : ∀ r ∈ rs, NOk r.n := fun r hr => okX _ (d.nm r hr)
  have p0 := pick_ok (ns := ns) (k := at' + 100) (m := 4) hl (by omega) (by omega) (by decide)
  have p1 := pick_ok (ns := ns) (k := at' + 101) (m := 4) hl (by omega) (by omega) (by decide)
  have p2 := pick_ok (ns := ns) (k := at' + 102) (m := rs.length) hl (by omega) (by omega) (by omega)
  have p3 := pick_ok (ns := ns) (k := at' + 103) (m := 3) hl (by omega) (by omega) (by decide)
  generalize pick ns (at' + 100) 4 = q0 at p0
  generalize pick ns (at' + 101) 4 = q1 at p1
  generalize pick ns (at' + 102) rs.length = q2 at p2
  generalize pick ns (at' + 103) 3 = q3 at p3
  obtain ⟨u, hu, eu⟩ : ∃ v ∈ [0, 1, 1, 2], atI [D.int 0, D.int 1, D.int 1, D.int 2] q0 = some (.int v) := atI_ints [0, 1, 1, 2] q0 p0.1 p0.2.1
  obtain ⟨v, hv, ev⟩ : ∃ v ∈ [0, 12, 20, 24], atI [D.int 0, D.int 12, D.int 20, D.int 24] q1 = some (.int v) := atI_ints [0, 12, 20, 24] q1 p1.1 p1.2.1
  obtain ⟨F, hF⟩ : ∃ F, F = xs.take u.toNat := ⟨_, rfl⟩
  have hu0 : 0 ≤ u := by simp at hu; omega
  have hv2 : v ≤ 24 := by simp at hv; omega
  have okF : ∀ x ∈ F, NOk x := fun x h => okX x (List.mem_of_mem_take (hF ▸ h))
  have cF : cutL (xs.map fun x => D.str (nm x)) none (some u) = F.map strD := by
    rw [show u = ((u.toNat : Nat) : Int) by omega, cutL_to, ← List.map_take, hF]
    rfl
  obtain ⟨K, hK, eK⟩ : ∃ K : Nat, K < rs.length ∧ q2 * (if (q3 == 0) = true then 1 else 0) = (K : Int) := by
    by_cases h : q3 = 0
    · refine ⟨q2.toNat, by omega, ?_⟩; simp [h]; omega
    · refine ⟨0, by omega, ?_⟩; simp [h]
  have c1 : CMul q2 (if (q3 == 0) = true then 1 else 0) := cmulL _ _ (by omega) (by omega)
  obtain ⟨A, r, B, hrs, hA⟩ : ∃ A r B, rs = A ++ r :: B ∧ A.length = K := ⟨rs.take K, rs[K], rs.drop (K + 1), by simp, by simp; omega⟩
  have hget : atI (rs.map rowD) (K : Int) = some (rowD r) := by
    rw [atI_pos (by omega) (by simp; omega), List.getElem?_map, Int.toNat_natCast, hrs, ← hA]
    simp
  obtain ⟨mid, apA, apB⟩ := Ap.split (hrs ▸ hap)
  have hr1 := apB.1
  have hr2 := apB.2.1
  have hr3 := apB.2.2.le
  have hA0 := apA.le
  obtain ⟨last, hlast⟩ : ∃ la, la = maxI (rs.map (·.e) ++ [v]) := ⟨_, rfl⟩
  have sl := maxI_app (l := rs.map (·.e)) (d := v)
  rw [← hlast] at sl
  have hlast24 : last ≤ 24 := by
    rcases List.mem_append.mp sl.1 with h | h
    · obtain ⟨x, hx, ex⟩ := List.mem_map.mp h
      have := hap.mem x hx
      omega
    · simp at h; omega
  have hil : ∀ x ∈ rs, x.e ≤ last := fun x hx => sl.2 _ (List.mem_append_left _ (List.mem_map.mpr ⟨x, hx, rfl⟩))
  have hhi : hi ≤ last := by
    have : hi ∈ rs.map (·.e) := by
      have : ∀ {lo hi : Int} {rs : List Row}, Ap lo rs hi → rs ≠ [] → hi ∈ rs.map (·.e) := by
        intro lo hi rs
        induction rs generalizing lo with
        | nil => intro _ h; exact absurd rfl h
        | cons x xs ih =>
          intro h _
          cases xs with
          | nil => cases h.2.2; simp
          | cons y ys => exact List.mem_cons_of_mem _ (ih h.2.2 (by simp))
      exact this hap d.ne
    exact sl.2 _ (List.mem_append_left _ this)
  obtain ⟨most, hmost⟩ : ∃ mo, mo = minI ((rs.filter fun x => decide (x.b > r.b) && inF F x).map (·.b) ++ [last]) := ⟨_, rfl⟩
  have sm := minI_app (l := (rs.filter fun x => decide (x.b > r.b) && inF F x).map (·.b)) (d := last)
  rw [← hmost] at sm
  have hold : r.e ≤ most := by
    rcases List.mem_append.mp sm.1 with h | h
    · obtain ⟨x, hx, ex⟩ := List.mem_map.mp h
      obtain ⟨hx1, hx2⟩ := List.mem_filter.mp hx
      simp at hx2
      rw [hrs] at hx1
      rcases List.mem_append.mp hx1 with h | h
      · have := apA.mem x h; omega
      · rcases List.mem_cons.mp h with h | h
        · rw [h] at hx2; omega
        · have := apB.2.2.mem x h; omega
    · simp at h; have := hil r (by rw [hrs]; simp); omega
  have hmost24 : most ≤ last := sm.2 _ (by simp)
  have p4 := pick_ok (ns := ns) (k := at' + 104) (m := most - r.e + 1) hl (by omega) (by omega) (by omega)
  have p5 := pick_ok (ns := ns) (k := at' + 105) (m := 5) hl (by omega) (by omega) (by decide)
  generalize pick ns (at' + 104) (most - r.e + 1) = q4 at p4
  generalize pick ns (at' + 105) 5 = q5 at p5
  obtain ⟨t, ht, et⟩ : ∃ v ∈ [most - r.e, 0, 1, 2, q4], atI [D.int (most - r.e), D.int 0, D.int 1, D.int 2, D.int q4] q5 = some (.int v) := atI_ints [most - r.e, 0, 1, 2, q4] q5 p5.1 p5.2.1
  have ht0 : 0 ≤ t := by simp at ht; omega
  refine ⟨rs, A, r, B, if most < r.e + t then most else r.e + t, last, F, ⟨hrs, ⟨hi, hap, hhi⟩, hlast24, hle, okR, okF, by split <;> omega, by split <;> omega, fun x hx hi => ?_⟩, fun w => ?_⟩
  · have hb := apB.2.2.mem x hx
    have : most ≤ x.b := sm.2 _ (List.mem_append_left _ (List.mem_map.mpr ⟨x, List.mem_filter.mpr ⟨by rw [hrs]; simp [hx], by simp [hi]; omega⟩, rfl⟩))
    split <;> omega
  · refine fnD_ret rfl ?_
    show law_push_case_b [some (fz (.scr ns)), some (fz (.int at')), none, none, none, none, none, none, none, none, none, none] w = _
    have hsz : rs.length + 1 ≤ sizeLine := sz_le (by omega)
    have lc1 := lc_rowsA (i := 7) (j := 11) (elem := dOp gIx (dVar 11) (dC (.int 1))) (fun r => .int r.e) (ρ := [some (fz (.scr ns)), some (fz (.int at')), some (fz (.lst (F.map strD))), none, none, none, none, some (fz (.lst (rs.map rowD))), some (fz (.lst (xs.map fun x => .str (nm x)))), none, none, none]) (rs := rs) rfl (by omega) (fun r h w => by simp [rowD]) w
    have lc2 := lc_rows (i := 7) (j := 11) (cond := dAnd (tst (dOp gGt (dOp gIx (dVar 11) (dC (.int 0))) (dVar 9))) (tst (dOp (gIn false) (dOp gIx (dVar 11) (dC (.int 2))) (dVar 2)))) (elem := dOp gIx (dVar 11) (dC (.int 0))) (fun x => decide (x.b > r.b) && inF F x) (fun r => .int r.b)
      (ρ := [some (fz (.scr ns)), some (fz (.int at')), some (fz (.lst (F.map strD))), some (fz (.int last)), some (fz (.int K)), none, none, some (fz (.lst (rs.map rowD))), some (fz (.lst (xs.map fun x => .str (nm x)))), some (fz (.int r.b)), some (fz (.int r.e)), none]) (rs := rs) rfl (by omega) (fun x h w => by
        have := gIn_F okF (okR x h) .fz .fz w
        by_cases hb : x.b > r.b
        · simp [rowD, hb, this, inF]
        · simp [rowD, hb]) (fun r h _ w => by simp [rowD]) w
    have g1 := gMaxL_app (l := rs.map (·.e)) (d := v) (ds := rs.map (fun r => D.int r.e) ++ [D.int v]) (by simp) .nw w
    have g2 := gMinL_app (l := (rs.filter fun x => decide (x.b > r.b) && inF F x).map (·.b)) (d := last) (ds := (rs.filter fun x => decide (x.b > r.b) && inF F x).map (fun r => D.int r.b) ++ [D.int last]) (by simp) .nw w
    rw [← hlast] at g1
    rw [← hmost] at g2
    obtain ⟨L2, hL2⟩ : ∃ L2, L2 = (rs.filter fun x => decide (x.b > r.b) && inF F x).map fun r => D.int r.b := ⟨_, rfl⟩
    rw [← hL2] at g2 lc2
    have hf2 : L2.length + 1 ≤ sizeLine := by
      have := List.length_filter_le (fun x => decide (x.b > r.b) && inF F x) rs
      rw [hL2, List.length_map]
      exact sz_le (by omega)
    have t1 : law_push_case_s1 [some (fz (.scr ns)), some (fz (.int at')), none, none, none, none, none, none, none, none, none, none] w = .next [some (fz (.scr ns)), some (fz (.int at')), none, none, none, none, none, some (fz (.lst (rs.map rowD))), some (fz (.lst (xs.map fun x => .str (nm x)))), none, none, none] w := by
      simp [law_push_case_s1, e1]
    have t2 : law_push_case_s2 [some (fz (.scr ns)), some (fz (.int at')), none, none, none, none, none, some (fz (.lst (rs.map rowD))), some (fz (.lst (xs.map fun x => .str (nm x)))), none, none, none] w = .next [some (fz (.scr ns)), some (fz (.int at')), some (fz (.lst (F.map strD))), none, none, none, none, some (fz (.lst (rs.map rowD))), some (fz (.lst (xs.map fun x => .str (nm x)))), none, none, none] w := by
      simp [law_push_case_s2, p0.2.2, eu, cF]
    have t3 : law_push_case_s3 [some (fz (.scr ns)), some (fz (.int at')), some (fz (.lst (F.map strD))), none, none, none, none, some (fz (.lst (rs.map rowD))), some (fz (.lst (xs.map fun x => .str (nm x)))), none, none, none] w = .next [some (fz (.scr ns)), some (fz (.int at')), some (fz (.lst (F.map strD))), some (fz (.int last)), none, none, none, some (fz (.lst (rs.map rowD))), some (fz (.lst (xs.map fun x => .str (nm x)))), none, none, none] w := by
      simp [law_push_case_s3, lc1, p1.2.2, ev, hsz, g1]
    have t4 : law_push_case_s4 [some (fz (.scr ns)), some (fz (.int at')), some (fz (.lst (F.map strD))), some (fz (.int last)), none, none, none, some (fz (.lst (rs.map rowD))), some (fz (.lst (xs.map fun x => .str (nm x)))), none, none, none] w = .next [some (fz (.scr ns)), some (fz (.int at')), some (fz (.lst (F.map strD))), some (fz (.int last)), some (fz (.int K)), none, none, some (fz (.lst (rs.map rowD))), some (fz (.lst (xs.map fun x => .str (nm x)))), none, none, none] w := by
      simp only [law_push_case_s4]
      simp [p2.2.2, p3.2.2]
      simp at c1 eK
      simp [c1, eK]
    have t5 : law_push_case_s5 [some (fz (.scr ns)), some (fz (.int at')), some (fz (.lst (F.map strD))), some (fz (.int last)), some (fz (.int K)), none, none, some (fz (.lst (rs.map rowD))), some (fz (.lst (xs.map fun x => .str (nm x)))), none, none, none] w = .next [some (fz (.scr ns)), some (fz (.int at')), some (fz (.lst (F.map strD))), some (fz (.int last)), some (fz (.int K)), none, none, some (fz (.lst (rs.map rowD))), some (fz (.lst (xs.map fun x => .str (nm x)))), some (fz (.int r.b)), some (fz (.int r.e)), none] w := by
      have gs : ∀ m w, gSl ⟨m, rowD r⟩ none (some 2) w = .ok (fz (.tup [.int r.b, .int r.e])) w := fun m w => by
        show (if HT.sIx 3 0 none = 0 ∧ HT.sIx 3 3 (some 2) = 3 then R.bad else R.ok (fz (.tup (cutL [.int r.b, .int r.e, .str (nm r.n)] none (some 2)))) w) = _
        rw [if_neg (by decide)]
        rfl
      simp [law_push_case_s5, hget, gs]
    have t6 : law_push_case_s6 [some (fz (.scr ns)), some (fz (.int at')), some (fz (.lst (F.map strD))), some (fz (.int last)), some (fz (.int K)), none, none, some (fz (.lst (rs.map rowD))), some (fz (.lst (xs.map fun x => .str (nm x)))), some (fz (.int r.b)), some (fz (.int r.e)), none] w = .next [some (fz (.scr ns)), some (fz (.int at')), some (fz (.lst (F.map strD))), some (fz (.int last)), some (fz (.int K)), some (fz (.int most)), none, some (fz (.lst (rs.map rowD))), some (fz (.lst (xs.map fun x => .str (nm x)))), some (fz (.int r.b)), some (fz (.int r.e)), none] w := by
      simp only [law_push_case_s6]
      simp [lc2, hf2, g2]
    have t7 : law_push_case_s7 [some (fz (.scr ns)), some (fz (.int at')), some (fz (.lst (F.map strD))), some (fz (.int last)), some (fz (.int K)), some (fz (.int most)), none, some (fz (.lst (rs.map rowD))), some (fz (.lst (xs.map fun x => .str (nm x)))), some (fz (.int r.b)), some (fz (.int r.e)), none] w = .next [some (fz (.scr ns)), some (fz (.int at')), some (fz (.lst (F.map strD))), some (fz (.int last)), some (fz (.int K)), some (fz (.int most)), some (fz (.int (r.e + t))), some (fz (.lst (rs.map rowD))), some (fz (.lst (xs.map fun x => .str (nm x)))), some (fz (.int r.b)), some (fz (.int r.e)), none] w := by
      simp [law_push_case_s7, p4.2.2, p5.2.2, et]
    rw [law_push_case_b, sSeq_s, t1, othn_next, sSeq_s, t2, othn_next, sSeq_s, t3, othn_next, sSeq_s, t4, othn_next, sSeq_s, t5, othn_next, sSeq_s, t6, othn_next, sSeq_s, t7, othn_next]
    simp [law_push_case_s8]

/-! ### what pushed tells -/
theorem filter_none {α : Type} {p : α → Bool} {l : List α} (h : ∀ x ∈ l, p x = false) : l.filter p = [] := by
  rw [List.filter_eq_nil_iff]
  intro a ha
  rw [h a ha]
  exact Bool.false_ne_true
/-- the rest of the rows, x the next: what is told apart by begins -/
theorem cut_filter {P B : List Row} {x : Row} {hi : Int} (h : Ap 0 (P ++ x :: B) hi) (q : Row → Bool) :
    (P ++ x :: B).filter (fun r => decide (r.b ≥ x.b) && q r) = (x :: B).filter q ∧ (P ++ x :: B).filter (fun r => decide (r.b > x.b) && q r) = B.filter q := by
  obtain ⟨m, a1, a2⟩ := Ap.split h
  have hP : ∀ r ∈ P, r.b < x.b := fun r hr => by have := a1.mem r hr; have := a2.1; omega
  have hB : ∀ r ∈ B, r.b > x.b := fun r hr => by have := a2.2.2.mem r hr; have := a2.2.1; omega
  refine ⟨?_, ?_⟩
  · rw [List.filter_append, filter_none (fun r hr => by have := hP r hr; simp; omega), List.nil_append]
    refine List.filter_congr fun r hr => ?_
    rcases List.mem_cons.mp hr with rfl | hr
    · simp
    · have := hB r hr
      have h1 : decide (r.b ≥ x.b) = true := by simp; omega
      rw [h1, Bool.true_and]
  · rw [List.filter_append, filter_none (fun r hr => by have := hP r hr; simp; omega), List.nil_append, List.filter_cons, if_neg (by simp)]
    refine List.filter_congr fun r hr => ?_
    have := hB r hr
    have h1 : decide (r.b > x.b) = true := by simp; omega
    rw [h1, Bool.true_and]
/-- the begin of the first that is fixed, or the last hour -/
def nx (last : Int) (F : List (List Nat)) (B : List Row) : Int := minOr ((B.filter (inF F)).map (·.b)) last
theorem nx_le {last : Int} {F : List (List Nat)} {B : List Row} : ∀ y ∈ B, inF F y = true → nx last F B ≤ y.b := fun y hy hf => minOr_le _ (List.mem_map.mpr ⟨y, List.mem_filter.mpr ⟨hy, hf⟩, rfl⟩)
theorem nx_last {last lo hi : Int} {F : List (List Nat)} {B : List Row} (h : Ap lo B hi) (hl : hi ≤ last) : nx last F B ≤ last := by
  unfold nx
  by_cases e : ((B.filter (inF F)).map (·.b)) = []
  · rw [e]; exact Int.le_refl _
  · obtain ⟨y, hy, ey⟩ := List.mem_map.mp (minOr_mem (d := last) e)
    have := h.mem y (List.mem_filter.mp hy).1
    omega
theorem minI_or {l : List Int} {d : Int} (h : ∀ y ∈ l, y ≤ d) : minI (l ++ [d]) = minOr l d := by
  have s := minI_app (l := l) (d := d)
  cases l with
  | nil => rfl
  | cons n r =>
    have m := minOr_mem (ns := n :: r) (d := d) (by simp)
    refine Int.le_antisymm (s.2 _ (List.mem_append_left _ m)) ?_
    rcases List.mem_append.mp s.1 with z | z
    · exact minOr_le _ z
    · rw [List.mem_singleton.mp z]
      exact h _ m
theorem nextF_cut {P B : List Row} {x : Row} {hi last : Int} {F : List (List Nat)} (h : Ap 0 (P ++ x :: B) hi) (hx : inF F x = false) : nextF (P ++ x :: B) F last x.b = nx last F B := by
  unfold nextF nx
  rw [(cut_filter h (inF F)).1, List.filter_cons, if_neg (by simp [hx])]
/-- what is left to be pushed -/
structure Suf (rows P B : List Row) (b at' last : Int) (F : List (List Nat)) : Prop where
  cut : rows = P ++ B
  ap : ∃ hi, Ap 0 rows hi ∧ hi ≤ last
  gt : ∀ x ∈ B, b < x.b
  bat : b < at'
  lst : at' ≤ last
  fixed : ∀ x ∈ B, inF F x = true → at' ≤ x.b
section
variable {rows P B : List Row} {b e at' last : Int} {F : List (List Nat)} {x : Row}
theorem Suf.apB (S : Suf rows P (x :: B) b at' last F) : ∃ hi, Ap x.e B hi ∧ hi ≤ last ∧ x.b < x.e ∧ x.e ≤ last := by
  obtain ⟨hi, h, hl⟩ := S.ap
  rw [S.cut] at h
  obtain ⟨m, a1, a2⟩ := Ap.split h
  exact ⟨hi, a2.2.2, hl, a2.2.1, Int.le_trans a2.2.2.le hl⟩
theorem Suf.stay (S : Suf rows P (x :: B) b at' last F) (h : x.b ≥ at') : Suf rows (P ++ [x]) B b x.e last F := by
  obtain ⟨hi, h1, h2, h3, h4⟩ := S.apB
  exact ⟨by rw [S.cut]; simp, S.ap, fun y hy => S.gt y (List.mem_cons_of_mem _ hy), by have := S.bat; omega, h4, fun y hy _ => (h1.mem y hy).1⟩
theorem Suf.nof (S : Suf rows P (x :: B) b at' last F) (h : ¬ x.b ≥ at') : inF F x = false := by
  cases q : inF F x with
  | false => rfl
  | true => exact absurd (S.fixed x List.mem_cons_self q) h
theorem Suf.next (S : Suf rows P (x :: B) b at' last F) (h : ¬ x.b ≥ at') : nextF rows F last x.b = nx last F B := by
  obtain ⟨hi, ha, _⟩ := S.ap
  have q := S.nof h
  rw [S.cut] at ha ⊢
  exact nextF_cut ha q
theorem mn2_le (x y : Int) : mn2 x y ≤ x ∧ mn2 x y ≤ y := by unfold mn2; split <;> omega
theorem Suf.move (S : Suf rows P (x :: B) b at' last F) (h : ¬ x.b ≥ at') {st : Int} (hs : st ≤ nx last F B) (h2 : st > at') : Suf rows (P ++ [x]) B b st last F := by
  obtain ⟨hi, h1, h2', h3, h4⟩ := S.apB
  exact ⟨by rw [S.cut]; simp, S.ap, fun y hy => S.gt y (List.mem_cons_of_mem _ hy), by have := S.bat; omega, Int.le_trans hs (nx_last h1 h2'), fun y hy hf => Int.le_trans hs (nx_le y hy hf)⟩
theorem Suf.skip (S : Suf rows P (x :: B) b at' last F) (h : ¬ x.b ≥ at') : Suf rows (P ++ [x]) B b at' last F := by
  exact ⟨by rw [S.cut]; simp, S.ap, fun y hy => S.gt y (List.mem_cons_of_mem _ hy), S.bat, S.lst, fun y hy hf => S.fixed y (List.mem_cons_of_mem _ hy) hf⟩
theorem push_cons_stay (S : Suf rows P (x :: B) b at' last F) (h : x.b ≥ at') : pushL rows b e last F at' (x :: B) = x :: pushL rows b e last F x.e B := by
  have := S.gt x List.mem_cons_self
  rw [pushL, if_neg (by omega), if_pos h]
theorem push_cons_move (S : Suf rows P (x :: B) b at' last F) (h : ¬ x.b ≥ at') : pushL rows b e last F at' (x :: B) = if mn2 (at' + x.e - x.b) (nx last F B) > at' then ⟨at', mn2 (at' + x.e - x.b) (nx last F B), x.n⟩ :: pushL rows b e last F (mn2 (at' + x.e - x.b) (nx last F B)) B else pushL rows b e last F at' B := by
  have := S.gt x List.mem_cons_self
  rw [pushL, if_neg (by omega), if_neg h, S.next h]
/-- the rows behind, pushed: they lie apart from at' on, by the last hour; the fixed ones as they were; no new names -/
theorem push_facts : ∀ (B P : List Row) (at' : Int), Suf rows P B b at' last F → (∃ hi, Ap at' (pushL rows b e last F at' B) hi ∧ hi ≤ last) ∧ (pushL rows b e last F at' B).filter (inF F) = B.filter (inF F) ∧ (∀ y ∈ pushL rows b e last F at' B, ∃ z ∈ B, y.n = z.n) ∧ (pushL rows b e last F at' B).length ≤ B.length
  | [], P, at', S => ⟨⟨at', rfl, S.lst⟩, rfl, fun y hy => absurd hy (by simp [pushL]), Nat.le_refl _⟩
  | x :: B, P, at', S => by
    obtain ⟨hi, h1, h2, h3, h4⟩ := S.apB
    by_cases h : x.b ≥ at'
    · obtain ⟨⟨hi2, i1, i2⟩, i3, i4, i5⟩ := push_facts B (P ++ [x]) x.e (S.stay h)
      rw [push_cons_stay S h]
      refine ⟨⟨hi2, ⟨h, h3, i1⟩, i2⟩, ?_, ?_, by simpa using i5⟩
      · rw [List.filter_cons, List.filter_cons, i3]
      · intro y hy
        rcases List.mem_cons.mp hy with rfl | hy
        · exact ⟨y, List.mem_cons_self, rfl⟩
        · obtain ⟨z, hz, ez⟩ := i4 y hy
          exact ⟨z, List.mem_cons_of_mem _ hz, ez⟩
    · have nf := S.nof h
      rw [push_cons_move S h]
      by_cases h5 : mn2 (at' + x.e - x.b) (nx last F B) > at'
      · rw [if_pos h5]
        obtain ⟨⟨hi2, i1, i2⟩, i3, i4, i5⟩ := push_facts B (P ++ [x]) _ (S.move h (mn2_le _ _).2 h5)
        refine ⟨⟨hi2, ⟨Int.le_refl _, h5, i1⟩, i2⟩, ?_, ?_, by simpa using i5⟩
        · have : inF F (Row.mk at' (mn2 (at' + x.e - x.b) (nx last F B)) x.n) = false := nf
          rw [List.filter_cons, List.filter_cons, i3, if_neg (by simp [this]), if_neg (by simp [nf])]
        · intro y hy
          rcases List.mem_cons.mp hy with rfl | hy
          · exact ⟨x, List.mem_cons_self, rfl⟩
          · obtain ⟨z, hz, ez⟩ := i4 y hy
            exact ⟨z, List.mem_cons_of_mem _ hz, ez⟩
      · rw [if_neg h5]
        obtain ⟨⟨hi2, i1, i2⟩, i3, i4, i5⟩ := push_facts B (P ++ [x]) at' (S.skip h)
        refine ⟨⟨hi2, i1, i2⟩, ?_, ?_, by simp; omega⟩
        · rw [List.filter_cons, if_neg (by simp [nf]), i3]
        · intro y hy
          obtain ⟨z, hz, ez⟩ := i4 y hy
          exact ⟨z, List.mem_cons_of_mem _ hz, ez⟩
theorem push_ahead {lo mid : Int} : ∀ {A : List Row} (R : List Row) (at' : Int), Ap lo A mid → mid ≤ b → at' ≤ lo → ∃ at2, at2 ≤ mid ∧ pushL rows b e last F at' (A ++ R) = A ++ pushL rows b e last F at2 R
  | [], R, at', h, _, h2 => by cases h; exact ⟨at', h2, rfl⟩
  | x :: A, R, at', h, hb, h2 => by
    obtain ⟨at2, k1, k2⟩ := push_ahead (A := A) R x.e h.2.2 hb (Int.le_refl _)
    refine ⟨at2, k1, ?_⟩
    have := h.1
    have := h.2.1
    have := h.2.2.le
    rw [List.cons_append, pushL, if_neg (by omega), if_pos (by omega), k2]
    rfl
end
theorem Case.push {rows A B : List Row} {r : Row} {en last : Int} {F : List (List Nat)} (C : Case rows A r B en last F) : pushL rows r.b en last F 0 rows = A ++ ⟨r.b, en, r.n⟩ :: pushL rows r.b en last F en B ∧ Suf rows (A ++ [r]) B r.b en last F ∧ ∃ mid hi, Ap 0 A mid ∧ mid ≤ r.b ∧ r.b < r.e ∧ Ap r.e B hi ∧ hi ≤ last := by
  obtain ⟨hi, hap, hhi⟩ := C.ap
  obtain ⟨mid, apA, apB⟩ := Ap.split (C.cut ▸ hap)
  have h1 := apB.1
  have h2 := apB.2.1
  have ho := C.old
  refine ⟨?_, ⟨by rw [C.cut]; simp, C.ap, fun x hx => ?_, by omega, C.most, C.fixed⟩, mid, hi, apA, h1, h2, apB.2.2, hhi⟩
  · obtain ⟨at2, k1, k2⟩ := push_ahead (rows := rows) (b := r.b) (e := en) (last := last) (F := F) (r :: B) 0 apA h1 (Int.le_refl _)
    have k3 : pushL rows r.b en last F 0 rows = pushL rows r.b en last F 0 (A ++ r :: B) := congrArg (pushL rows r.b en last F 0) C.cut
    rw [k3, k2, pushL, if_pos rfl]
  · have := apB.2.2.mem x hx; omega

/-! ### what joined tells -/
theorem joinF_app (b e : Int) (A B : List Row) : joinF b e (A ++ B) = joinF b e A ++ joinF b e B := by simp [joinF]
theorem joinF_ahead {b e lo hi : Int} {A : List Row} (h : Ap lo A hi) (hb : hi ≤ b) : joinF b e A = A := by
  induction A generalizing lo with
  | nil => rfl
  | cons x xs ih =>
    have := h.1
    have := h.2.1
    have := h.2.2.le
    show joinR b e x ++ joinF b e xs = x :: xs
    rw [ih h.2.2]
    unfold joinR
    rw [if_neg (by omega), if_pos (.inl (by omega))]
    rfl
/-- what is left behind -/
def behindR (e : Int) (r : Row) : Row := ⟨if e > r.b then e else r.b, r.e, r.n⟩
theorem joinF_behind {b e lo hi : Int} {B : List Row} (h : Ap lo B hi) (hb : b < lo) : joinF b e B = (B.filter fun r => decide (r.e > e)).map (behindR e) := by
  induction B generalizing lo with
  | nil => rfl
  | cons x xs ih =>
    have h1 := h.1
    have h2 := h.2.1
    show joinR b e x ++ joinF b e xs = _
    rw [ih h.2.2 (by omega)]
    rw [List.filter_cons]
    unfold joinR
    rw [if_neg (by omega)]
    by_cases h3 : x.b ≥ e
    · rw [if_pos (.inr h3), if_pos (by simp; omega), List.map_cons]
      unfold behindR
      rw [if_neg (by omega)]
      rfl
    · rw [if_neg (by omega)]
      by_cases h4 : x.e > e
      · rw [if_pos h4, if_pos (by simpa using h4), List.map_cons]
        unfold behindR
        rw [if_pos (by omega)]
        rfl
      · rw [if_neg h4, if_neg (by simpa using h4)]
        rfl
theorem behind_ap {e lo hi : Int} {B : List Row} (h : Ap lo B hi) : ∃ hi', Ap e ((B.filter fun r => decide (r.e > e)).map (behindR e)) hi' := by
  suffices ∀ (lo' : Int), (lo' = e ∨ lo' ≤ lo) → ∃ hi', Ap lo' ((B.filter fun r => decide (r.e > e)).map (behindR e)) hi' from this e (.inl rfl)
  induction B generalizing lo with
  | nil => exact fun lo' _ => ⟨lo', rfl⟩
  | cons x xs ih =>
    intro lo' hl
    have h1 := h.1
    have h2 := h.2.1
    rw [List.filter_cons]
    by_cases h4 : x.e > e
    · rw [if_pos (by simpa using h4), List.map_cons]
      obtain ⟨hi', q⟩ := ih h.2.2 x.e (.inr (Int.le_refl _))
      refine ⟨hi', ?_, ?_, q⟩
      · show lo' ≤ if e > x.b then e else x.b
        split <;> omega
      · show (if e > x.b then e else x.b) < x.e
        split <;> omega
    · rw [if_neg (by simpa using h4)]
      exact ih h.2.2 lo' (by omega)


/-! ### pushed twice -/
def G (last : Int) (F : List (List Nat)) : Int → List Row → List Row
  | _, [] => []
  | at', x :: B => if x.b ≥ at' then x :: G last F x.e B else if mn2 (at' + x.e - x.b) (nx last F B) > at' then ⟨at', mn2 (at' + x.e - x.b) (nx last F B), x.n⟩ :: G last F (mn2 (at' + x.e - x.b) (nx last F B)) B else G last F at' B
theorem push_G {rows : List Row} {b e last : Int} {F : List (List Nat)} : ∀ (B P : List Row) (at' : Int), Suf rows P B b at' last F → pushL rows b e last F at' B = G last F at' B
  | [], _, _, _ => rfl
  | x :: B, P, at', S => by
    rw [G]
    by_cases h : x.b ≥ at'
    · rw [push_cons_stay S h, if_pos h, push_G B _ _ (S.stay h)]
    · rw [push_cons_move S h, if_neg h]
      by_cases h5 : mn2 (at' + x.e - x.b) (nx last F B) > at'
      · rw [if_pos h5, if_pos h5, push_G B _ _ (S.move h (mn2_le _ _).2 h5)]
      · rw [if_neg h5, if_neg h5, push_G B _ _ (S.skip h)]
/-- what is left behind, by itself -/
structure Lf (B : List Row) (at' last : Int) (F : List (List Nat)) : Prop where
  ap : ∃ lo hi, Ap lo B hi ∧ hi ≤ last
  lst : at' ≤ last
  fixed : ∀ x ∈ B, inF F x = true → at' ≤ x.b
section
variable {B : List Row} {x : Row} {at' last : Int} {F : List (List Nat)}
theorem Lf.stay (S : Lf (x :: B) at' last F) : Lf B x.e last F := by
  obtain ⟨lo, hi, h, hl⟩ := S.ap
  exact ⟨⟨x.e, hi, h.2.2, hl⟩, Int.le_trans h.2.2.le hl, fun y hy _ => (h.2.2.mem y hy).1⟩
theorem Lf.move (S : Lf (x :: B) at' last F) {st : Int} (hs : st ≤ nx last F B) : Lf B st last F := by
  obtain ⟨lo, hi, h, hl⟩ := S.ap
  exact ⟨⟨x.e, hi, h.2.2, hl⟩, Int.le_trans hs (nx_last h.2.2 hl), fun y hy hf => Int.le_trans hs (nx_le y hy hf)⟩
theorem Lf.skip (S : Lf (x :: B) at' last F) : Lf B at' last F := by
  obtain ⟨lo, hi, h, hl⟩ := S.ap
  exact ⟨⟨x.e, hi, h.2.2, hl⟩, S.lst, fun y hy hf => S.fixed y (List.mem_cons_of_mem _ hy) hf⟩
theorem Lf.nof (S : Lf (x :: B) at' last F) (h : ¬ x.b ≥ at') : inF F x = false := by
  cases q : inF F x with
  | false => rfl
  | true => exact absurd (S.fixed x List.mem_cons_self q) h
theorem Lf.le_nx (S : Lf B at' last F) : at' ≤ nx last F B := by
  unfold nx
  by_cases e : ((B.filter (inF F)).map (·.b)) = []
  · rw [e]; exact S.lst
  · obtain ⟨y, hy, ey⟩ := List.mem_map.mp (minOr_mem (d := last) e)
    rw [← ey]
    exact S.fixed y (List.mem_filter.mp hy).1 (List.mem_filter.mp hy).2
end
theorem G_nx {last : Int} {F : List (List Nat)} : ∀ (B : List Row) (at' : Int), Lf B at' last F → nx last F (G last F at' B) = nx last F B ∧ (G last F at' B).filter (inF F) = B.filter (inF F) := by
  intro B
  suffices ∀ at', Lf B at' last F → (G last F at' B).filter (inF F) = B.filter (inF F) from fun at' S => ⟨by unfold nx; rw [this at' S], this at' S⟩
  induction B with
  | nil => intro _ _; rfl
  | cons x B ih =>
    intro at' S
    rw [G]
    by_cases h : x.b ≥ at'
    · rw [if_pos h, List.filter_cons, List.filter_cons, ih _ S.stay]
    · have nf := S.nof h
      rw [if_neg h]
      by_cases h5 : mn2 (at' + x.e - x.b) (nx last F B) > at'
      · rw [if_pos h5]
        have : inF F (Row.mk at' (mn2 (at' + x.e - x.b) (nx last F B)) x.n) = false := nf
        rw [List.filter_cons, List.filter_cons, if_neg (by simp [this]), if_neg (by simp [nf]), ih _ (S.move (mn2_le _ _).2)]
      · rw [if_neg h5, List.filter_cons, if_neg (by simp [nf]), ih _ S.skip]
theorem G_ap {last : Int} {F : List (List Nat)} : ∀ (B : List Row) (at' : Int), Lf B at' last F → ∃ hi, Ap at' (G last F at' B) hi ∧ hi ≤ last
  | [], at', S => ⟨at', rfl, S.lst⟩
  | x :: B, at', S => by
    rw [G]
    obtain ⟨lo, hi, h0, hl⟩ := S.ap
    by_cases h : x.b ≥ at'
    · obtain ⟨hi2, i1, i2⟩ := G_ap B _ S.stay
      rw [if_pos h]
      exact ⟨hi2, ⟨h, h0.2.1, i1⟩, i2⟩
    · rw [if_neg h]
      by_cases h5 : mn2 (at' + x.e - x.b) (nx last F B) > at'
      · rw [if_pos h5]
        obtain ⟨hi2, i1, i2⟩ := G_ap B _ (S.move (mn2_le _ _).2)
        exact ⟨hi2, ⟨Int.le_refl _, h5, i1⟩, i2⟩
      · rw [if_neg h5]
        exact G_ap B _ S.skip
/-- up to one end, and then up to a later one -/
theorem G_G {last : Int} {F : List (List Nat)} : ∀ (B : List Row) (a1 a2 : Int), Lf B a1 last F → Lf B a2 last F → a1 ≤ a2 → G last F a2 (G last F a1 B) = G last F a2 B
  | [], _, _, _, _, _ => rfl
  | x :: B, a1, a2, S1, S2, hle => by
    obtain ⟨lo, hi, h0, hl⟩ := S1.ap
    have hx := h0.2.1
    have nxx := (G_nx B _ S1.stay).1
    by_cases h2 : x.b ≥ a2
    · have h1 : x.b ≥ a1 := by omega
      have e1 : G last F a1 (x :: B) = x :: G last F x.e B := by rw [G, if_pos h1]
      have e2 : G last F a2 (x :: B) = x :: G last F x.e B := by rw [G, if_pos h2]
      rw [e1, e2, G, if_pos h2, G_G B _ _ S1.stay S1.stay (Int.le_refl _)]
    · have nf := S2.nof h2
      have n2 : a2 ≤ nx last F B := by
        have := S2.le_nx
        unfold nx at this ⊢
        rw [List.filter_cons, if_neg (by simp [nf])] at this
        exact this
      have e2 : G last F a2 (x :: B) = if mn2 (a2 + x.e - x.b) (nx last F B) > a2 then ⟨a2, mn2 (a2 + x.e - x.b) (nx last F B), x.n⟩ :: G last F (mn2 (a2 + x.e - x.b) (nx last F B)) B else G last F a2 B := by rw [G, if_neg h2]
      by_cases h1 : x.b ≥ a1
      · have e1 : G last F a1 (x :: B) = x :: G last F x.e B := by rw [G, if_pos h1]
        rw [e1, e2, G, if_neg h2, nxx]
        by_cases h5 : mn2 (a2 + x.e - x.b) (nx last F B) > a2
        · rw [if_pos h5, if_pos h5]
          congr 1
          refine G_G B _ _ S1.stay (S2.move (mn2_le _ _).2) ?_
          have := S1.stay.le_nx
          unfold mn2
          split <;> omega
        · rw [if_neg h5, if_neg h5]
          refine G_G B _ _ S1.stay S2.skip ?_
          have := S1.stay.le_nx
          unfold mn2 at h5
          split at h5 <;> omega
      · have n1 : a1 ≤ nx last F B := by omega
        by_cases h5 : mn2 (a1 + x.e - x.b) (nx last F B) > a1
        · obtain ⟨s1, hs1⟩ : ∃ s1, s1 = mn2 (a1 + x.e - x.b) (nx last F B) := ⟨_, rfl⟩
          have e1 : G last F a1 (x :: B) = ⟨a1, s1, x.n⟩ :: G last F s1 B := by rw [G, if_neg h1, if_pos h5, hs1]
          have L1 : Lf B s1 last F := S1.move (by rw [hs1]; exact (mn2_le _ _).2)
          have nx1 := (G_nx B _ L1).1
          rw [← hs1] at h5
          have hs1n : s1 ≤ nx last F B := by rw [hs1]; exact (mn2_le _ _).2
          rw [e1, e2, G]
          by_cases h6 : a1 ≥ a2
          · have : a1 = a2 := by omega
            subst this
            rw [if_pos (by show a1 ≥ a1; omega), ← hs1, if_pos h5, G_G B _ _ L1 L1 (Int.le_refl _)]
          · rw [if_neg (by show ¬ a1 ≥ a2; exact h6), nx1]
            show (if mn2 (a2 + s1 - a1) (nx last F B) > a2 then _ else _) = _
            have em : mn2 (a2 + s1 - a1) (nx last F B) = mn2 (a2 + x.e - x.b) (nx last F B) := by
              rw [hs1]
              unfold mn2
              split <;> split <;> split <;> omega
            rw [em]
            by_cases h7 : mn2 (a2 + x.e - x.b) (nx last F B) > a2
            · rw [if_pos h7, if_pos h7]
              congr 1
              refine G_G B _ _ L1 (S2.move (mn2_le _ _).2) ?_
              rw [hs1]
              unfold mn2
              split <;> split <;> omega
            · rw [if_neg h7, if_neg h7]
              refine G_G B _ _ L1 S2.skip ?_
              unfold mn2 at h7
              split at h7 <;> omega
        · have e1 : G last F a1 (x :: B) = G last F a1 B := by rw [G, if_neg h1, if_neg h5]
          rw [e1, e2]
          have : nx last F B = a1 := by unfold mn2 at h5; split at h5 <;> omega
          have ha : a2 = a1 := by omega
          subst ha
          rw [if_neg h5]
          exact G_G B _ _ S1.skip S1.skip (Int.le_refl _)
/-- rows that lie apart stay -/
theorem G_id {last : Int} {F : List (List Nat)} : ∀ (B : List Row) (at' hi : Int), Ap at' B hi → G last F at' B = B
  | [], _, _, _ => rfl
  | x :: B, at', hi, h => by rw [G, if_pos h.1, G_id B _ _ h.2.2]

/-! ### a case, pushed and joined -/
/-- the case, with another end between -/
theorem Case.to {rows A B : List Row} {r : Row} {en last m : Int} {F : List (List Nat)} (C : Case rows A r B en last F) (h1 : r.e ≤ m) (h2 : m ≤ en) : Case rows A r B m last F :=
  ⟨C.cut, C.ap, C.l24, C.le, C.ok, C.okF, h1, Int.le_trans h2 C.most, fun x hx hf => Int.le_trans h2 (C.fixed x hx hf)⟩
theorem Case.lf {rows A B : List Row} {r : Row} {en last : Int} {F : List (List Nat)} (C : Case rows A r B en last F) : Lf B en last F := by
  obtain ⟨_, _, mid, hi, apA, h1, h2, apB, hhi⟩ := C.push
  exact ⟨⟨_, _, apB, hhi⟩, C.most, C.fixed⟩
theorem Case.pushG {rows A B : List Row} {r : Row} {en last : Int} {F : List (List Nat)} (C : Case rows A r B en last F) : pushL rows r.b en last F 0 rows = A ++ ⟨r.b, en, r.n⟩ :: G last F en B := by
  obtain ⟨e, S, _⟩ := C.push
  rw [e, push_G B _ _ S]
/-- a pushed day is a case again -/
theorem Case.again {rows A B : List Row} {r : Row} {m en last : Int} {F : List (List Nat)} (C : Case rows A r B m last F) (D : Case rows A r B en last F) (h : m ≤ en) : Case (A ++ ⟨r.b, m, r.n⟩ :: G last F m B) A ⟨r.b, m, r.n⟩ (G last F m B) en last F := by
  obtain ⟨e, S, mid, hi, apA, h1, h2, apB, hhi⟩ := C.push
  obtain ⟨hi2, a2, l2⟩ := G_ap B m C.lf
  have fx := (G_nx B m C.lf).2
  obtain ⟨_, _, hnam, hlen⟩ := push_facts (e := m) B _ _ S
  rw [push_G B _ _ S] at hnam hlen
  have hle := C.le
  have hcut := C.cut
  have ho := C.old
  have hlr : rows.length = A.length + (B.length + 1) := by rw [hcut]; simp
  refine ⟨rfl, ⟨hi2, apA.join ⟨h1, by show r.b < m; omega, a2⟩, l2⟩, C.l24, by simp; omega, fun x hx => ?_, C.okF, h, D.most, fun x hx hf => ?_⟩
  · rcases List.mem_append.mp hx with h | h
    · exact C.ok x (by rw [hcut]; simp [h])
    · rcases List.mem_cons.mp h with h | h
      · rw [h]; exact C.ok r (by rw [hcut]; simp)
      · obtain ⟨z, hz, ez⟩ := hnam x h
        rw [ez]
        exact C.ok z (by rw [hcut]; simp [hz])
  · have : x ∈ (G last F m B).filter (inF F) := List.mem_filter.mpr ⟨hx, hf⟩
    rw [fx] at this
    exact D.fixed x (List.mem_filter.mp this).1 hf
theorem Case.twice {rows A B : List Row} {r : Row} {m en last : Int} {F : List (List Nat)} (C : Case rows A r B m last F) (D : Case rows A r B en last F) (h : m ≤ en) :
    pushL (pushL rows r.b m last F 0 rows) r.b en last F 0 (pushL rows r.b m last F 0 rows) = pushL rows r.b en last F 0 rows := by
  have Z := C.again D h
  rw [C.pushG, D.pushG]
  have := Z.pushG
  rw [show (Row.mk r.b m r.n).b = r.b from rfl] at this
  rw [this, G_G B m en C.lf D.lf h]
theorem Case.joinE {rows A B : List Row} {r : Row} {en last : Int} {F : List (List Nat)} (C : Case rows A r B en last F) : joinF r.b en rows = A ++ ⟨r.b, en, r.n⟩ :: (B.filter fun x => decide (x.e > en)).map (behindR en) := by
  obtain ⟨_, _, mid, hi, apA, h1, h2, apB, hhi⟩ := C.push
  have k : joinF r.b en rows = joinF r.b en (A ++ r :: B) := congrArg (joinF r.b en) C.cut
  rw [k, joinF_app, joinF_ahead apA h1]
  show A ++ (joinR r.b en r ++ joinF r.b en B) = _
  rw [joinF_behind apB h2]
  simp [joinR]
theorem Case.joinTwice {rows A B : List Row} {r : Row} {m en last : Int} {F : List (List Nat)} (C : Case rows A r B m last F) (D : Case rows A r B en last F) (h : m ≤ en) : joinF r.b en (joinF r.b m rows) = joinF r.b en rows := by
  obtain ⟨_, _, mid, hi, apA, h1, h2, apB, hhi⟩ := C.push
  obtain ⟨hi2, ap2⟩ := behind_ap (e := m) apB
  have ho := C.old
  rw [C.joinE, D.joinE, joinF_app, joinF_ahead apA h1]
  show A ++ (joinR r.b en ⟨r.b, m, r.n⟩ ++ joinF r.b en ((B.filter fun x => decide (x.e > m)).map (behindR m))) = _
  rw [joinF_behind ap2 (by omega)]
  have e1 : ((B.filter fun x => decide (x.e > m)).map (behindR m)).filter (fun x => decide (x.e > en)) = (B.filter fun x => decide (x.e > en)).map (behindR m) := by
    rw [List.filter_map, List.filter_filter]
    congr 1
    refine List.filter_congr fun x _ => ?_
    show (decide (x.e > en) && decide (x.e > m)) = decide (x.e > en)
    by_cases hx : x.e > en
    · have : x.e > m := by omega
      simp [hx, this]
    · simp [hx]
  rw [e1, List.map_map]
  have e2 : behindR en ∘ behindR m = behindR en := by
    funext x
    show Row.mk (if en > (if m > x.b then m else x.b) then en else (if m > x.b then m else x.b)) x.e x.n = Row.mk (if en > x.b then en else x.b) x.e x.n
    congr 1
    by_cases h1 : m > x.b <;> by_cases h2 : en > x.b <;> simp only [h1, h2, if_true, if_false] <;> (try split) <;> omega
  rw [e2]
  simp [joinR]

/-! ### hours, names and sums of pushed rows -/
def held (rs : List Row) (h : Int) : Bool := rs.any fun r => decide (r.b ≤ h) && decide (h < r.e)
theorem held_iff {rs : List Row} {h : Int} : held rs h = true ↔ ∃ x ∈ rs, x.b ≤ h ∧ h < x.e := by
  unfold held
  rw [List.any_eq_true]
  constructor
  · rintro ⟨x, hx, e⟩; exact ⟨x, hx, by simpa using e⟩
  · rintro ⟨x, hx, e⟩; exact ⟨x, hx, by simpa using e⟩
theorem G_cover {last : Int} {F : List (List Nat)} {h : Int} : ∀ (B : List Row) (at' : Int), Lf B at' last F → at' ≤ h → (∃ x ∈ B, x.b ≤ h ∧ h < x.e) → ∃ y ∈ G last F at' B, y.b ≤ h ∧ h < y.e
  | [], _, _, _, ⟨x, hx, _⟩ => by cases hx
  | x :: B, at', S, hat, ⟨z, hz, z1, z2⟩ => by
    obtain ⟨lo, hi, h0, hl⟩ := S.ap
    have hx := h0.2.1
    have hB : z ≠ x → z ∈ B ∧ x.e ≤ h := fun hne => by
      have := (List.mem_cons.mp hz).resolve_left hne
      have := h0.2.2.mem z this
      exact ⟨by assumption, by omega⟩
    rw [G]
    by_cases h1 : x.b ≥ at'
    · rw [if_pos h1]
      by_cases e : z = x
      · exact ⟨x, List.mem_cons_self, e ▸ z1, e ▸ z2⟩
      · obtain ⟨y, hy, y1, y2⟩ := G_cover B x.e S.stay (hB e).2 ⟨z, (hB e).1, z1, z2⟩
        exact ⟨y, List.mem_cons_of_mem _ hy, y1, y2⟩
    · rw [if_neg h1]
      have nxx : x.e ≤ nx last F B := S.stay.le_nx
      obtain ⟨st, hst⟩ : ∃ st, st = mn2 (at' + x.e - x.b) (nx last F B) := ⟨_, rfl⟩
      rw [← hst]
      have hs : st = at' + x.e - x.b ∨ st = nx last F B := by rw [hst]; unfold mn2; split <;> simp
      by_cases h5 : st > at'
      · rw [if_pos h5]
        by_cases h6 : h < st
        · exact ⟨_, List.mem_cons_self, hat, h6⟩
        · have e : z ≠ x := fun e => by subst e; omega
          obtain ⟨y, hy, y1, y2⟩ := G_cover B st (S.move (by rw [hst]; exact (mn2_le _ _).2)) (by omega) ⟨z, (hB e).1, z1, z2⟩
          exact ⟨y, List.mem_cons_of_mem _ hy, y1, y2⟩
      · rw [if_neg h5]
        have e : z ≠ x := fun e => by subst e; omega
        exact G_cover B at' S.skip hat ⟨z, (hB e).1, z1, z2⟩
theorem G_names {last : Int} {F : List (List Nat)} : ∀ (B : List Row) (at' : Int), ((G last F at' B).map (·.n)).Sublist (B.map (·.n))
  | [], _ => .slnil
  | x :: B, at' => by
    rw [G]
    split
    · exact (G_names B _).cons₂ _
    · split
      · exact (G_names B _).cons₂ _
      · exact (G_names B _).cons _
def mx0 (x : Int) : Int := if x < 0 then 0 else x
def mxx (x y : Int) : Int := if y > x then y else x
/-- how many hours from at' on the rows have -/
def Sm (at' : Int) : List Row → Int
  | [] => 0
  | x :: B => mx0 (x.e - mxx x.b at') + Sm at' B
def lens (rs : List Row) : Int := (rs.map fun r => r.e - r.b).sum
theorem lens_cons (x : Row) (rs : List Row) : lens (x :: rs) = (x.e - x.b) + lens rs := by simp [lens]
theorem Sm_full {lo hi at' : Int} : ∀ {B : List Row}, Ap lo B hi → at' ≤ lo → Sm at' B = lens B
  | [], _, _ => rfl
  | x :: B, h, ha => by
    have h1 := h.1
    have h2 := h.2.1
    rw [Sm, lens_cons, Sm_full (at' := at') h.2.2 (by omega)]
    unfold mx0 mxx
    split <;> split at * <;> omega
theorem Sm_shift {lo hi a s : Int} (has : a ≤ s) : ∀ {B : List Row}, Ap lo B hi → Sm a B ≤ Sm s B + mx0 (s - mxx a lo)
  | [], h => by
    rw [Sm, Sm]
    unfold mx0
    split <;> omega
  | x :: B, h => by
    have h1 := h.1
    have h2 := h.2.1
    have ih := Sm_shift has h.2.2
    rw [Sm, Sm]
    have key : mx0 (x.e - mxx x.b a) + mx0 (s - mxx a x.e) ≤ mx0 (x.e - mxx x.b s) + mx0 (s - mxx a lo) := by
      unfold mx0 mxx
      split <;> split <;> split <;> split <;> (try split) <;> (try split) <;> (try split) <;> (try split) <;> omega
    omega
theorem G_sum {last : Int} {F : List (List Nat)} : ∀ (B : List Row) (at' : Int), Lf B at' last F → Sm at' B ≤ lens (G last F at' B)
  | [], _, _ => Int.le_refl _
  | x :: B, at', S => by
    obtain ⟨lo, hi, h0, hl⟩ := S.ap
    have hx := h0.2.1
    rw [G]
    by_cases h1 : x.b ≥ at'
    · rw [if_pos h1, lens_cons, Sm]
      have ih := G_sum B _ S.stay
      rw [Sm_full h0.2.2 (Int.le_refl _)] at ih
      rw [Sm_full (at' := at') h0.2.2 (by omega)]
      have : mx0 (x.e - mxx x.b at') = x.e - x.b := by
        unfold mx0 mxx
        split <;> split at * <;> omega
      omega
    · rw [if_neg h1]
      have nxx : x.e ≤ nx last F B := S.stay.le_nx
      obtain ⟨st, hst⟩ : ∃ st, st = mn2 (at' + x.e - x.b) (nx last F B) := ⟨_, rfl⟩
      rw [← hst]
      have hs : st = at' + x.e - x.b ∨ st = nx last F B := by rw [hst]; unfold mn2; split <;> simp
      by_cases h5 : st > at'
      · rw [if_pos h5, lens_cons, Sm]
        have ih := G_sum B st (S.move (by rw [hst]; exact (mn2_le _ _).2))
        have sh := Sm_shift (a := at') (s := st) (by omega) h0.2.2
        have : mx0 (x.e - mxx x.b at') + mx0 (st - mxx at' x.e) ≤ st - at' := by
          unfold mx0 mxx
          split <;> split <;> split <;> (try split) <;> omega
        show _ ≤ st - at' + _
        omega
      · rw [if_neg h5, Sm]
        have ih := G_sum B at' S.skip
        have : mx0 (x.e - mxx x.b at') = 0 := by
          unfold mx0 mxx
          split <;> (try split at *) <;> omega
        omega
theorem lens_behind {en : Int} : ∀ (B : List Row), (∀ x ∈ B, x.b < x.e) → lens ((B.filter fun x => decide (x.e > en)).map (behindR en)) = Sm en B
  | [], _ => rfl
  | x :: B, h => by
    have ih := lens_behind (en := en) B fun y hy => h y (List.mem_cons_of_mem _ hy)
    have hx := h x List.mem_cons_self
    rw [List.filter_cons, Sm]
    by_cases h1 : x.e > en
    · rw [if_pos (by simpa using h1), List.map_cons, lens_cons, ih]
      show x.e - (if en > x.b then en else x.b) + _ = _
      unfold mx0 mxx
      split <;> split <;> omega
    · rw [if_neg (by simpa using h1), ih]
      unfold mx0 mxx
      split <;> (try split at *) <;> omega


/-! ### the law -/
theorem gNin_mem {d : D} {ds : List D} (h1 : pl d = true) (h2 : pl (.lst ds) = true) (h : d ∈ ds) (m m' : Md) (w : W) : gIn true ⟨m, d⟩ ⟨m', .lst ds⟩ w = .ok (fz (.bl false)) w := by
  have : (ds.any fun z => eqD z d) = true := List.any_eq_true.mpr ⟨d, h, eqD_refl 10 d h1⟩
  simp only [gIn, h1, h2, Bool.and_self, if_true, this]
  rfl
theorem held_ok (rs : List Row) (hl : rs.length ≤ 1000) (h : Int) (w : W) : law_is_held [.lst (rs.map rowD), .int h] w = .ok (fz (.bl (held rs h))) w := by
  have lc := lc_rowsA (i := 0) (j := 2) (elem := dChain gLe gLt (dOp gIx (dVar 2) (dC (.int 0))) (dVar 1) (dOp gIx (dVar 2) (dC (.int 1)))) (fun r => .bl (decide (r.b ≤ h) && decide (h < r.e))) (ρ := [some (fz (.lst (rs.map rowD))), some (fz (.int h)), none]) (rs := rs) rfl hl (fun r _ w => by
    by_cases hb : r.b ≤ h
    · simp [rowD, hb]
    · simp [rowD, hb]) w
  have ga : ∀ m w, gAny [⟨m, .lst (rs.map fun r => D.bl (decide (r.b ≤ h) && decide (h < r.e)))⟩] w = .ok (fz (.bl (held rs h))) w := fun m w => by
    simp [gAny, onL, blsOf_mapF, held]
  simp only [law_is_held]
  refine fnD_ret rfl ?_
  show law_is_held_b [some (fz (.lst (rs.map rowD))), some (fz (.int h)), none] w = _
  simp only [law_is_held_b]
  simp [lc, ga]
theorem names_loop (s0 s1 s2 s3 s4 s5 s6 s7 s8 s9 s10 s13 s14 : Option Val) : ∀ (L N : List (List Nat)) (z : Option Val), (∀ x ∈ N, NOk x) → (∀ a, L.count a ≤ N.count a) → ∃ (z' : Option Val) (N' : List (List Nat)), ∀ w,
    forL (.nm 12) law_l2 (L.map strD) [s0, s1, s2, s3, s4, s5, s6, s7, s8, s9, s10, some ⟨.nw, .lst (N.map strD)⟩, z, s13, s14] w = .next [s0, s1, s2, s3, s4, s5, s6, s7, s8, s9, s10, some ⟨.nw, .lst (N'.map strD)⟩, z', s13, s14] w
  | [], N, z, _, _ => ⟨z, N, fun w => rfl⟩
  | x :: L, N, z, hN, hc => by
    have hx : x ∈ N := by
      have := hc x
      rw [List.count_cons_self] at this
      exact List.count_pos_iff.mp (by omega)
    obtain ⟨z', N', hz⟩ := names_loop s0 s1 s2 s3 s4 s5 s6 s7 s8 s9 s10 s13 s14 L (N.erase x) (some (fz (strD x))) (fun y hy => hN y (List.mem_of_mem_erase hy)) (fun a => by
      have := hc a
      rw [List.count_erase]
      rw [List.count_cons] at this
      by_cases e : x == a
      · rw [if_pos e] at this
        rw [if_pos (by rw [beq_iff_eq] at e ⊢; exact e)]
        omega
      · rw [if_neg e] at this
        rw [if_neg (by rw [beq_iff_eq] at e ⊢; exact e)]
        omega)
    refine ⟨z', N', fun w => ?_⟩
    have q := gNin_mem (d := strD x) (ds := N.map strD) (by simp [strD, pl, plN, strOk_nm (hN x hx)]) (pl_strs hN) (List.mem_map.mpr ⟨x, hx, rfl⟩) .fz .bo w
    have e1 : strsOf (N.map strD) = some (N.map nm) := by
      have : ∀ l : List (List Nat), strsOf (l.map strD) = some (l.map nm) := by
        intro l
        induction l with
        | nil => rfl
        | cons a l ih => simp only [List.map_cons, strsOf, strD] at ih ⊢; rw [ih]; rfl
      exact this N
    have e2 : nm x ∈ N.map nm := List.mem_map.mpr ⟨x, hx, rfl⟩
    have e3 : ((N.map nm).erase (nm x)).map D.str = (N.erase x).map strD := by
      have : ∀ l : List (List Nat), (l.map nm).erase (nm x) = (l.erase x).map nm := by
        intro l
        induction l with
        | nil => rfl
        | cons a l ih =>
          by_cases e : a = x
          · subst e; simp
          · rw [List.map_cons, List.erase_cons_tail (by simpa using fun z => e (nm_inj z)), List.erase_cons_tail (by simpa using e), ih]
            rfl
      rw [this N, List.map_map]
      rfl
    rw [List.map_cons]
    simp only [forL, setT_nm, List.set_cons_succ, List.set_cons_zero]
    have hb : law_l2 [s0, s1, s2, s3, s4, s5, s6, s7, s8, s9, s10, some ⟨.nw, .lst (N.map strD)⟩, some (fz (strD x)), s13, s14] w = .next [s0, s1, s2, s3, s4, s5, s6, s7, s8, s9, s10, some ⟨.nw, .lst ((N.erase x).map strD)⟩, some (fz (strD x)), s13, s14] w := by
      have hd : (strD x) = .str (nm x) := rfl
      simp only [law_l2]
      simp [q]
      simp only [sRem, ownL_s]
      simp [hd, e1]
      rw [if_pos (by simpa using e2)]
      simp [← e3]
    rw [hb]
    exact hz w
theorem law_true (ns : List Int) (hl : ns.length ≤ 63) : ∃ m w, law [.scr ns] ⟨0, []⟩ = .ok ⟨m, .bl true⟩ w := by
  obtain ⟨rows, A, r, B, en, last, F, C, ec⟩ := push_case_ok ns hl 0 (by decide) (by decide)
  have hold := C.old
  have hle := C.le
  have hcut := C.cut
  obtain ⟨_, S, mid, hi, apA, h1, h2, apB, hhi⟩ := C.push
  have hlr : rows.length = A.length + (B.length + 1) := by rw [hcut]; simp
  generalize hw : (⟨0, []⟩ : W) = w
  have bA : ∀ x ∈ A, x.b < r.b := fun x hx => by have := apA.mem x hx; omega
  have bB : ∀ x ∈ B, x.b > r.b := fun x hx => by have := apB.mem x hx; omega
  obtain ⟨to, hto⟩ : ∃ to, to = pushL rows r.b en last F 0 rows := ⟨_, rfl⟩
  obtain ⟨jo, hjo⟩ : ∃ jo, jo = joinF r.b en rows := ⟨_, rfl⟩
  have po := pushed_ok (by omega) C.ok C.okF r.b en last
  rw [← hto] at po
  have jk := joined_ok r.b en rows (by omega)
  rw [← hjo] at jk
  have eto : to = A ++ ⟨r.b, en, r.n⟩ :: G last F en B := hto.trans C.pushG
  have ejo : jo = A ++ ⟨r.b, en, r.n⟩ :: (B.filter fun x => decide (x.e > en)).map (behindR en) := hjo.trans C.joinE
  have nT : (to.map (·.n)).Sublist (rows.map (·.n)) := by
    rw [eto, hcut, List.map_append, List.map_append, List.map_cons, List.map_cons]
    exact List.Sublist.append (List.Sublist.refl _) ((G_names B en).cons₂ _)
  have nJ : (jo.map (·.n)).Sublist (rows.map (·.n)) := by
    rw [ejo, hcut, List.map_append, List.map_append, List.map_cons, List.map_cons, List.map_map]
    refine List.Sublist.append (List.Sublist.refl _) (List.Sublist.cons₂ _ ?_)
    have : ((fun x : Row => x.n) ∘ behindR en) = fun x => x.n := rfl
    rw [this]
    exact List.Sublist.map _ List.filter_sublist
  have lto : to.length ≤ rows.length := by simpa using nT.length_le
  have ljo : jo.length ≤ rows.length := by simpa using nJ.length_le
  have okS : ∀ so : List Row, (so.map (·.n)).Sublist (rows.map (·.n)) → ∀ x ∈ so, NOk x.n := fun so hs x hx => by
    obtain ⟨y, hy, e⟩ := List.mem_map.mp (hs.subset (List.mem_map.mpr ⟨x, hx, rfl⟩))
    rw [← e]
    exact C.ok y hy
  have st1 : law_s1 [some (fz (.scr ns)), none, none, none, none, none, none, none, none, none, none, none, none, none, none] w = .next [some (fz (.scr ns)), none, none, none, some (fz (.lst (rows.map rowD))), some (fz (.int r.b)), some (fz (.int en)), some (fz (.int last)), some (fz (.lst (F.map strD))), none, none, none, none, none, none] w := by
    simp [law_s1, ec]
  have st2 : law_s2 [some (fz (.scr ns)), none, none, none, some (fz (.lst (rows.map rowD))), some (fz (.int r.b)), some (fz (.int en)), some (fz (.int last)), some (fz (.lst (F.map strD))), none, none, none, none, none, none] w = .next [some (fz (.scr ns)), none, none, none, some (fz (.lst (rows.map rowD))), some (fz (.int r.b)), some (fz (.int en)), some (fz (.int last)), some (fz (.lst (F.map strD))), some (fz (.lst (jo.map rowD))), some (fz (.lst (to.map rowD))), none, none, none, none] w := by
    simp [law_s2, po, jk]
  -- the hours
  have cov : ∀ h : Int, (held jo h = true → held to h = true) ∧ (held rows h = true → held to h = true) := by
    intro h
    have one : (∃ x ∈ A, x.b ≤ h ∧ h < x.e) ∨ (r.b ≤ h ∧ h < en) ∨ (en ≤ h ∧ ∃ x ∈ B, x.b ≤ h ∧ h < x.e) → held to h = true := by
      intro q
      rw [held_iff, eto]
      rcases q with ⟨x, hx, q⟩ | q | ⟨q0, q⟩
      · exact ⟨x, by simp [hx], q⟩
      · exact ⟨⟨r.b, en, r.n⟩, by simp, q⟩
      · obtain ⟨y, hy, q⟩ := G_cover B en C.lf q0 q
        exact ⟨y, by simp [hy], q⟩
    refine ⟨fun hj => one ?_, fun hr => one ?_⟩
    · rw [held_iff, ejo] at hj
      obtain ⟨x, hx, q1, q2⟩ := hj
      rcases List.mem_append.mp hx with hx | hx
      · exact .inl ⟨x, hx, q1, q2⟩
      · rcases List.mem_cons.mp hx with rfl | hx
        · exact .inr (.inl ⟨q1, q2⟩)
        · obtain ⟨y, hy, rfl⟩ := List.mem_map.mp hx
          have hyB := (List.mem_filter.mp hy).1
          have q1' : (if en > y.b then en else y.b) ≤ h := q1
          refine .inr (.inr ⟨?_, y, hyB, ?_, q2⟩) <;> split at q1' <;> omega
    · rw [held_iff, hcut] at hr
      obtain ⟨x, hx, q1, q2⟩ := hr
      rcases List.mem_append.mp hx with hx | hx
      · exact .inl ⟨x, hx, q1, q2⟩
      · rcases List.mem_cons.mp hx with rfl | hx
        · exact .inr (.inl ⟨q1, by omega⟩)
        · have := bB x hx
          by_cases he : h < en
          · exact .inr (.inl ⟨by omega, he⟩)
          · exact .inr (.inr ⟨by omega, x, hx, q1, q2⟩)
  obtain ⟨z1, t3⟩ := forL_test (i := 1) (b := law_l1) (ρ := [some (fz (.scr ns)), none, none, none, some (fz (.lst (rows.map rowD))), some (fz (.int r.b)), some (fz (.int en)), some (fz (.int last)), some (fz (.lst (F.map strD))), some (fz (.lst (jo.map rowD))), some (fz (.lst (to.map rowD))), none, none, none, none]) (ds := rngD 0 24) none (by
    intro d hd w
    obtain ⟨k, hk⟩ := List.mem_iff_getElem?.mp hd
    obtain ⟨_, rfl⟩ := rngD_get hk
    have a1 := held_ok jo (by omega) (0 + (k : Int))
    have a2 := held_ok to (by omega) (0 + (k : Int))
    have a3 := held_ok rows (by omega) (0 + (k : Int))
    obtain ⟨c1, c2⟩ := cov (0 + (k : Int))
    simp only [Int.zero_add] at a1 a2 a3 c1 c2
    cases b1 : held jo k <;> cases b2 : held to k <;> cases b3 : held rows k <;> simp [b1, b2, b3] at c1 c2 <;> simp [law_l1, a1, a2, a3, b1, b2, b3])
  have st3 : law_s3 [some (fz (.scr ns)), none, none, none, some (fz (.lst (rows.map rowD))), some (fz (.int r.b)), some (fz (.int en)), some (fz (.int last)), some (fz (.lst (F.map strD))), some (fz (.lst (jo.map rowD))), some (fz (.lst (to.map rowD))), none, none, none, none] w = .next [some (fz (.scr ns)), z1, none, none, some (fz (.lst (rows.map rowD))), some (fz (.int r.b)), some (fz (.int en)), some (fz (.int last)), some (fz (.lst (F.map strD))), some (fz (.lst (jo.map rowD))), some (fz (.lst (to.map rowD))), none, none, none, none] w := by
    have := t3 w
    simp at this
    have hro : RO 24 := ro (by decide) (by decide)
    simp [law_s3, hro]
    exact this
  -- the names
  have body : ∀ (so : List Row) (n0 m0 r0 : Option Val), (so.map (·.n)).Sublist (rows.map (·.n)) → (∀ x ∈ B, inF F x = true → x ∈ so) → ∃ n1 m1 r1, ∀ w, law_l4 [some (fz (.scr ns)), z1, some (fz (.lst (so.map rowD))), none, some (fz (.lst (rows.map rowD))), some (fz (.int r.b)), some (fz (.int en)), some (fz (.int last)), some (fz (.lst (F.map strD))), some (fz (.lst (jo.map rowD))), some (fz (.lst (to.map rowD))), n0, m0, r0, none] w = .next [some (fz (.scr ns)), z1, some (fz (.lst (so.map rowD))), none, some (fz (.lst (rows.map rowD))), some (fz (.int r.b)), some (fz (.int en)), some (fz (.int last)), some (fz (.lst (F.map strD))), some (fz (.lst (jo.map rowD))), some (fz (.lst (to.map rowD))), n1, m1, r1, none] w := by
    intro so n0 m0 r0 hs hf
    have ok := okS so hs
    have lso : so.length ≤ rows.length := by simpa using hs.length_le
    have plS := pl_rows ok
    obtain ⟨z', N', hz⟩ := names_loop (some (fz (.scr ns))) z1 (some (fz (.lst (so.map rowD)))) none (some (fz (.lst (rows.map rowD)))) (some (fz (.int r.b))) (some (fz (.int en))) (some (fz (.int last))) (some (fz (.lst (F.map strD)))) (some (fz (.lst (jo.map rowD)))) (some (fz (.lst (to.map rowD)))) r0 none (so.map (·.n)) (rows.map (·.n)) m0 (fun x hx => by
      obtain ⟨y, hy, rfl⟩ := List.mem_map.mp hx
      exact C.ok y hy) (fun a => hs.count_le a)
    obtain ⟨zr, hr⟩ := forL_test (i := 13) (b := law_l3) (ρ := [some (fz (.scr ns)), z1, some (fz (.lst (so.map rowD))), none, some (fz (.lst (rows.map rowD))), some (fz (.int r.b)), some (fz (.int en)), some (fz (.int last)), some (fz (.lst (F.map strD))), some (fz (.lst (jo.map rowD))), some (fz (.lst (to.map rowD))), some ⟨.nw, .lst (N'.map strD)⟩, z', r0, none]) (ds := (B.filter (inF F)).map rowD) r0 (by
      intro d hd w
      obtain ⟨x, hx, rfl⟩ := List.mem_map.mp hd
      obtain ⟨hx1, hx2⟩ := List.mem_filter.mp hx
      have q := gNin_mem (d := rowD x) (ds := so.map rowD) (by simp [rowD, pl, plN, strOk_nm (C.ok x (by rw [hcut]; simp [hx1]))]) plS (List.mem_map.mpr ⟨x, hf x hx1 hx2, rfl⟩)
      simp [law_l3, q])
    refine ⟨some ⟨.nw, .lst (N'.map strD)⟩, z', zr, fun w => ?_⟩
    · have l1 := lc_rowsA (i := 4) (j := 13) (elem := dOp gIx (dVar 13) (dC (.int 2))) (fun r => .str (nm r.n)) (ρ := [some (fz (.scr ns)), z1, some (fz (.lst (so.map rowD))), none, some (fz (.lst (rows.map rowD))), some (fz (.int r.b)), some (fz (.int en)), some (fz (.int last)), some (fz (.lst (F.map strD))), some (fz (.lst (jo.map rowD))), some (fz (.lst (to.map rowD))), n0, m0, r0, none]) (rs := rows) rfl (by omega) (fun r h w => by simp [rowD]) w
      have l2 := lc_rowsA (i := 2) (j := 13) (elem := dOp gIx (dVar 13) (dC (.int 2))) (fun r => .str (nm r.n)) (ρ := [some (fz (.scr ns)), z1, some (fz (.lst (so.map rowD))), none, some (fz (.lst (rows.map rowD))), some (fz (.int r.b)), some (fz (.int en)), some (fz (.int last)), some (fz (.lst (F.map strD))), some (fz (.lst (jo.map rowD))), some (fz (.lst (to.map rowD))), some ⟨.nw, .lst (rows.map fun r => .str (nm r.n))⟩, m0, r0, none]) (rs := so) rfl (by omega) (fun r h w => by simp [rowD]) w
      have l3 := lc_rows (i := 4) (j := 14) (cond := dAnd (tst (dOp (gIn false) (dOp gIx (dVar 14) (dC (.int 2))) (dVar 8))) (tst (dOp gGt (dOp gIx (dVar 14) (dC (.int 0))) (dVar 5)))) (elem := dVar 14) (fun x => inF F x && decide (x.b > r.b)) rowD (ρ := [some (fz (.scr ns)), z1, some (fz (.lst (so.map rowD))), none, some (fz (.lst (rows.map rowD))), some (fz (.int r.b)), some (fz (.int en)), some (fz (.int last)), some (fz (.lst (F.map strD))), some (fz (.lst (jo.map rowD))), some (fz (.lst (to.map rowD))), some ⟨.nw, .lst (N'.map strD)⟩, z', r0, none]) (rs := rows) rfl (by omega) (fun x h w => by
        have := gIn_F C.okF (C.ok x h) .fz .fz w
        cases hf : F.contains x.n with
        | true => rw [hf] at this; simp only [inF, hf]; simp [rowD, this]
        | false => rw [hf] at this; simp only [inF, hf]; simp [rowD, this]) (fun r h _ w => by simp) w
      have f5 : rows.filter (fun x => inF F x && decide (x.b > r.b)) = B.filter (inF F) := by
        rw [hcut, List.filter_append, filter_none (fun x hx => by have := bA x hx; simp; intro _; omega), List.nil_append, List.filter_cons, if_neg (by simp)]
        refine List.filter_congr fun x hx => ?_
        have := bB x hx
        have h1 : decide (x.b > r.b) = true := by simpa using this
        rw [h1, Bool.and_true]
      rw [f5] at l3
      have hz := hz w
      have hr := hr w
      simp only [List.map_map] at hz
      simp only [law_l4]
      simp [l1, l2, iSq, keepM]
      have e1 : (rows.map fun r => D.str (nm r.n)) = rows.map (strD ∘ fun x => x.n) := rfl
      have e2 : (so.map fun r => D.str (nm r.n)) = so.map (strD ∘ fun x => x.n) := rfl
      rw [e1, e2, hz]
      simp [l3, iSq, keepM]
      simp at hr
      rw [hr]
  obtain ⟨n1, m1, r1, b1⟩ := body jo none none none nJ (fun x hx hf => by
    rw [ejo]
    have := C.fixed x hx hf
    have hxe := apB.mem x hx
    refine List.mem_append_right _ (List.mem_cons_of_mem _ (List.mem_map.mpr ⟨x, List.mem_filter.mpr ⟨hx, by simp; omega⟩, ?_⟩))
    unfold behindR
    rw [if_neg (by omega)])
  obtain ⟨n2, m2, r2, b2⟩ := body to n1 m1 r1 nT (fun x hx hf => by
    rw [eto]
    have : x ∈ (G last F en B).filter (inF F) := by rw [(G_nx B en C.lf).2]; exact List.mem_filter.mpr ⟨hx, hf⟩
    exact List.mem_append_right _ (List.mem_cons_of_mem _ (List.mem_filter.mp this).1))
  have st4 : law_s4 [some (fz (.scr ns)), z1, none, none, some (fz (.lst (rows.map rowD))), some (fz (.int r.b)), some (fz (.int en)), some (fz (.int last)), some (fz (.lst (F.map strD))), some (fz (.lst (jo.map rowD))), some (fz (.lst (to.map rowD))), none, none, none, none] w = .next [some (fz (.scr ns)), z1, some (fz (.lst (to.map rowD))), none, some (fz (.lst (rows.map rowD))), some (fz (.int r.b)), some (fz (.int en)), some (fz (.int last)), some (fz (.lst (F.map strD))), some (fz (.lst (jo.map rowD))), some (fz (.lst (to.map rowD))), n2, m2, r2, none] w := by
    simp only [law_s4]
    simp [iSq]
    simp [forL, b1, b2]
  -- the sums
  have l5 := lc_rowsA (i := 9) (j := 13) (elem := dOp gSub (dOp gIx (dVar 13) (dC (.int 1))) (dOp gIx (dVar 13) (dC (.int 0)))) (fun r => .int (r.e - r.b)) (ρ := [some (fz (.scr ns)), z1, some (fz (.lst (to.map rowD))), none, some (fz (.lst (rows.map rowD))), some (fz (.int r.b)), some (fz (.int en)), some (fz (.int last)), some (fz (.lst (F.map strD))), some (fz (.lst (jo.map rowD))), some (fz (.lst (to.map rowD))), n2, m2, r2, none]) (rs := jo) rfl (by omega) (fun r h w => by simp [rowD]) w
  have gs : ∀ (rs : List Row) m w, gSum [⟨m, .lst (rs.map fun r => D.int (r.e - r.b))⟩] w = .ok (fz (.int (lens rs))) w := fun rs m w => by
    have := intsOf_mapF (fun r : Row => r.e - r.b) rs
    simp only [gSum, onL, this]
    rfl
  have st5 : law_s5 [some (fz (.scr ns)), z1, some (fz (.lst (to.map rowD))), none, some (fz (.lst (rows.map rowD))), some (fz (.int r.b)), some (fz (.int en)), some (fz (.int last)), some (fz (.lst (F.map strD))), some (fz (.lst (jo.map rowD))), some (fz (.lst (to.map rowD))), n2, m2, r2, none] w = .next [some (fz (.scr ns)), z1, some (fz (.lst (to.map rowD))), some (fz (.int (lens jo))), some (fz (.lst (rows.map rowD))), some (fz (.int r.b)), some (fz (.int en)), some (fz (.int last)), some (fz (.lst (F.map strD))), some (fz (.lst (jo.map rowD))), some (fz (.lst (to.map rowD))), n2, m2, r2, none] w := by
    simp only [law_s5]
    simp [l5, gs]
  have l6 := lc_rowsA (i := 10) (j := 13) (elem := dOp gSub (dOp gIx (dVar 13) (dC (.int 1))) (dOp gIx (dVar 13) (dC (.int 0)))) (fun r => .int (r.e - r.b)) (ρ := [some (fz (.scr ns)), z1, some (fz (.lst (to.map rowD))), some (fz (.int (lens jo))), some (fz (.lst (rows.map rowD))), some (fz (.int r.b)), some (fz (.int en)), some (fz (.int last)), some (fz (.lst (F.map strD))), some (fz (.lst (jo.map rowD))), some (fz (.lst (to.map rowD))), n2, m2, r2, none]) (rs := to) rfl (by omega) (fun r h w => by simp [rowD]) w
  have hsum : lens jo ≤ lens to := by
    have app : ∀ (X Y : List Row), lens (X ++ Y) = lens X + lens Y := fun X Y => by simp [lens]
    rw [ejo, eto, app, app, lens_cons, lens_cons, lens_behind B (fun x hx => (apB.mem x hx).2.1)]
    have := G_sum B en C.lf
    omega
  have hlen : (to.length : Int) ≤ (rows.length : Int) := by omega
  have st6 : law_s6 [some (fz (.scr ns)), z1, some (fz (.lst (to.map rowD))), some (fz (.int (lens jo))), some (fz (.lst (rows.map rowD))), some (fz (.int r.b)), some (fz (.int en)), some (fz (.int last)), some (fz (.lst (F.map strD))), some (fz (.lst (jo.map rowD))), some (fz (.lst (to.map rowD))), n2, m2, r2, none] w = .ret (fz (.bl true)) w := by
    simp only [law_s6]
    simp [l6, gs, lto, hsum]
  refine ⟨.fz, w, ?_⟩
  have : law [.scr ns] w = .ok (fz (.bl true)) w := by
    refine fnD_ret rfl ?_
    show law_b [some (fz (.scr ns)), none, none, none, none, none, none, none, none, none, none, none, none, none, none] w = _
    rw [law_b, sSeq_s, st1, othn_next, sSeq_s, st2, othn_next, sSeq_s, st3, othn_next, sSeq_s, st4, othn_next, sSeq_s, st5, othn_next, st6]
  exact this

end LK
namespace LK
open PySem L2 DL
end LK
open PySem PySem.W PyProof.Rows
set_option maxRecDepth 100000 in
set_option maxHeartbeats 0 in
theorem PySem.Challenge.cw_airhours_k09_whole_no_hour_lost_holds : PySem.Challenge.rw_airhours_k09_whole_no_hour_lost.Holds := by
  w_on; o_law; k_head; (case hw => w_witness2)
  k_fill
  refine DL.walkD (l := PySem.Challenge.rw_airhours_k09_whole_no_hour_lost) (k := 5) (F := LK.law) rfl rfl ⟨rfl, by decide, by decide⟩ (fun w h Y => PySem.W.kIn_of Y) ?F LK.law_true
  case F =>
    intro w mg fa h KX G hmg
    refine' LK.all_mk KX G hmg ?a0 ?l0 ?c0 ?k0 ?a1 ?l1 ?c1 ?k1 ?a2 ?l2 ?c2 ?k2 ?a3 ?l3 ?c3 ?k3 ?a4 ?l4 ?c4 ?k4 ?a5 ?l5 ?c5 ?k5 ?a6 ?l6 ?c6 ?k6 ?a7 ?l7 ?c7 ?k7 ?a8 ?l8 ?c8 ?k8 ?z_any ?z_int ?z_len ?z_max ?z_min ?z_range ?z_sum
    (case a0 => k_is)
    (case l0 => k_is)
    (case c0 => k_is)
    (case k0 => k_is)
    (case a1 => k_is)
    (case l1 => k_is)
    (case c1 => k_is)
    (case k1 => k_is)
    (case a2 => k_is)
    (case l2 => k_is)
    (case c2 => k_is)
    (case k2 => k_is)
    (case a3 => k_is)
    (case l3 => k_is)
    (case c3 => k_is)
    (case k3 => k_is)
    (case a4 => k_is)
    (case l4 => k_is)
    (case c4 => k_is)
    (case k4 => k_is)
    (case a5 => k_is)
    (case l5 => k_is)
    (case c5 => k_is)
    (case k5 => k_is)
    (case a6 => k_is)
    (case l6 => k_is)
    (case c6 => k_is)
    (case k6 => k_is)
    (case a7 => k_is)
    (case l7 => k_is)
    (case c7 => k_is)
    (case k7 => k_is)
    (case a8 => k_is)
    (case l8 => k_is)
    (case c8 => k_is)
    (case k8 => k_is)
    (case z_any => k_is)
    (case z_int => k_is)
    (case z_len => k_is)
    (case z_max => k_is)
    (case z_min => k_is)
    (case z_range => k_is)
    (case z_sum => k_is)


