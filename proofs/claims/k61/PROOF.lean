import PyProof.Rows.All
import Wide.All
import OpenK.AllK
import Wide.FinOn
import HandS.ForMost
import HandS.ForExc
import HandS.IsInst
import HandS.Wide
import HandS.WideBits
import HandS.TupAny
import HandS.Deep
import PyProof.ListStr
import HandS.Conv
import PyProof.Rows.SortShellAny
import HandS.Style
import HandS.Walk
import HandS.CallSlots
import HandS.Defaults
import HandS.Set
import PyProof.Rows.SetFrom
import PyProof.StrWalks
import PyProof.SetNew
import PyProof.SetRoads
import HandS.Strs
import PySem.Challenge.RW_fewheld_k61_windows_in_order
import HandS.Head0
import HandS.Head1
import HandS.Head2
import HandS.HeadEnd
import HandS.HeadHook1
import HandS.HeadHook2
set_option Elab.async false
set_option linter.all false
set_option maxRecDepth 100000
/-! VL1: pure values, the relation to the heap, the meaning of expressions and statements. -/
namespace L2.VL
open PySem PySem.Spec PyProof.Rows

/-- a pure value -/
inductive PV where
  | non | bl (b : Bool) | int (i : Int) | str (s : List Nat) | tup (xs : List PV) | lst (xs : List PV) | scr (ns : List Int)
  | ty (n : String) | cls (c : Str) | dK (kvs : List (Key × PV)) | dT (kvs : List (List Key × PV)) | ins (c : Str) (fs : List (Str × PV))
  deriving Inhabited

/-- an exception: its class's name, what it keeps -/
structure Exc where
  name : Str
  fs : List (Str × PV)

/-- a slot of a frame: nothing, a value that never changes, a list of the frame's own, a list that was handed in to be changed -/
inductive Slot where
  | un | fz (d : PV) | ow (d : PV) | io (d : PV)
  deriving Inhabited
abbrev Env := List Slot
/-- what an expression gives: a value that never changes, a new list that nobody holds, the list in a slot -/
inductive Cell where
  | fz (d : PV) | ow (d : PV) | rf (i : Nat)
  deriving Inhabited

inductive Rs (α : Type) where
  | ok (a : α) (ρ : Env) | ex (x : Exc) (ρ : Env) | bad

def Rs.bind {α β : Type} (r : Rs α) (f : α → Env → Rs β) : Rs β := match r with
  | .ok a ρ => f a ρ
  | .ex x ρ => .ex x ρ
  | .bad => .bad

abbrev VX := Env → Rs Cell
inductive Fl where
  | nx | rt (c : Cell) | bk | ct
abbrev VS := Env → Rs Fl

/-- the module: its written part, its names -/
structure Md where
  K : PySem.W.Frag
  mg : Str → Option Value

mutual
inductive Rp (M : Md) (G : Hp) : V → PV → Prop
  | non : Rp M G .non .non
  | bl (b : Bool) : Rp M G (.bl b) (.bl b)
  | int (i : Int) : Rp M G (.int i) (.int i)
  | str (l : List Nat) : Rp M G (.str ⟨l.toArray⟩) (.str l)
  | ty (n : String) : Rp M G (.ty n) (.ty n)
  | cls {c : Str} {a : Addr} : M.mg c = some (.ref a) → Rp M G (.ref a) (.cls c)
  | tup {a : Addr} {xs : List V} {ds : List PV} : SqT M.K G a xs → RpAll M G xs ds → Rp M G (.ref a) (.tup ds)
  | scr {a : Addr} {ns : List Int} : SqL M.K G a (ns.map V.int) → Rp M G (.ref a) (.scr ns)
  | obj {a : Addr} {o : HO} {d : PV} : G a = some o → Ob M G o d → Rp M G (.ref a) d
/-- what an object that may be changed holds -/
inductive Ob (M : Md) (G : Hp) : HO → PV → Prop
  | lst {xs : List V} {ds : List PV} : RpAll M G xs ds → Ob M G (.lst xs) (.lst ds)
  | dK {kvs : List (Key × V)} {ps : List (Key × PV)} : kvs.map (·.1) = ps.map (·.1) → RpAll M G (kvs.map (·.2)) (ps.map (·.2)) → Ob M G (.dK kvs) (.dK ps)
  | dT {kvs : List (List Key × V)} {ps : List (List Key × PV)} : kvs.map (·.1) = ps.map (·.1) → RpAll M G (kvs.map (·.2)) (ps.map (·.2)) → Ob M G (.dT kvs) (.dT ps)
  | ins {c : Str} {C dx : Addr} {vs : List (Str × V)} {fs : List (Str × PV)} : M.mg c = some (.ref C) → vs.map (·.1) = fs.map (·.1) → RpAll M G (vs.map (·.2)) (fs.map (·.2)) → Ob M G (.ins C dx vs) (.ins c fs)
inductive RpAll (M : Md) (G : Hp) : List V → List PV → Prop
  | nil : RpAll M G [] []
  | cons {v : V} {vs : List V} {d : PV} {ds : List PV} : Rp M G v d → RpAll M G vs ds → RpAll M G (v :: vs) (d :: ds)
end

theorem Same.seqT {K : PySem.W.Frag} {H H' : Hp} {a : Addr} {xs : List V} (e : Same H H') (h : SqT K H a xs) : SqT K H' a xs := by
  rcases h with (h | ⟨o, h⟩) | h
  · exact .inl (.inl (e _ _ h))
  · exact .inl (.inr ⟨o, e _ _ h⟩)
  · exact .inr h

mutual
theorem Rp.mono {M : Md} {G G' : Hp} (e : Same G G') : ∀ {v : V} {d : PV}, Rp M G v d → Rp M G' v d
  | _, _, .non => .non
  | _, _, .bl b => .bl b
  | _, _, .int i => .int i
  | _, _, .str l => .str l
  | _, _, .ty n => .ty n
  | _, _, .cls h => .cls h
  | _, _, .tup h ha => .tup (Same.seqT e h) (RpAll.mono e ha)
  | _, _, .scr h => .scr (e.seq h)
  | _, _, .obj h ha => .obj (e _ _ h) (Ob.mono e ha)
theorem Ob.mono {M : Md} {G G' : Hp} (e : Same G G') : ∀ {o : HO} {d : PV}, Ob M G o d → Ob M G' o d
  | _, _, .lst h => .lst (RpAll.mono e h)
  | _, _, .dK k h => .dK k (RpAll.mono e h)
  | _, _, .dT k h => .dT k (RpAll.mono e h)
  | _, _, .ins m k h => .ins m k (RpAll.mono e h)
theorem RpAll.mono {M : Md} {G G' : Hp} (e : Same G G') : ∀ {vs : List V} {ds : List PV}, RpAll M G vs ds → RpAll M G' vs ds
  | _, _, .nil => .nil
  | _, _, .cons h t => .cons (Rp.mono e h) (RpAll.mono e t)
end

section
variable {K : Md} {G : Hp}
theorem RpAll.length : ∀ {vs : List V} {ds : List PV}, RpAll K G vs ds → vs.length = ds.length
  | _, _, .nil => rfl
  | _, _, .cons _ t => by rw [List.length_cons, List.length_cons, t.length]
theorem RpAll.append : ∀ {vs ws : List V} {ds es : List PV}, RpAll K G vs ds → RpAll K G ws es → RpAll K G (vs ++ ws) (ds ++ es)
  | _, _, _, _, .nil, t => t
  | _, _, _, _, .cons h r, t => .cons h (r.append t)
theorem RpAll.get : ∀ {vs : List V} {ds : List PV} {i : Nat} {d : PV}, RpAll K G vs ds → ds[i]? = some d → ∃ v, vs[i]? = some v ∧ Rp K G v d
  | _, _, _, _, .nil, e => by simp at e
  | _, _, 0, _, .cons h _, e => by simp at e; subst e; exact ⟨_, rfl, h⟩
  | _, _, i + 1, _, .cons _ t, e => by
    obtain ⟨v, h1, h2⟩ := t.get (i := i) (by simpa using e)
    exact ⟨v, by simpa using h1, h2⟩
theorem RpAll.getV : ∀ {vs : List V} {ds : List PV} {i : Nat} {v : V}, RpAll K G vs ds → vs[i]? = some v → ∃ d, ds[i]? = some d ∧ Rp K G v d
  | _, _, _, _, .nil, e => by simp at e
  | _, _, 0, _, .cons h _, e => by simp at e; subst e; exact ⟨_, rfl, h⟩
  | _, _, i + 1, _, .cons _ t, e => by
    obtain ⟨v, h1, h2⟩ := t.getV (i := i) (by simpa using e)
    exact ⟨v, by simpa using h1, h2⟩
theorem RpAll.drop : ∀ {vs : List V} {ds : List PV} (n : Nat), RpAll K G vs ds → RpAll K G (vs.drop n) (ds.drop n)
  | _, _, 0, h => h
  | _, _, _ + 1, .nil => .nil
  | _, _, n + 1, .cons _ t => t.drop n
theorem RpAll.take : ∀ {vs : List V} {ds : List PV} (n : Nat), RpAll K G vs ds → RpAll K G (vs.take n) (ds.take n)
  | _, _, 0, _ => .nil
  | _, _, _ + 1, .nil => .nil
  | _, _, n + 1, .cons h t => .cons h (t.take n)
theorem RpAll.set {v : V} {d : PV} (h : Rp K G v d) : ∀ {vs : List V} {ds : List PV} (i : Nat), RpAll K G vs ds → RpAll K G (vs.set i v) (ds.set i d)
  | _, _, _, .nil => .nil
  | _, _, 0, .cons _ t => .cons h t
  | _, _, i + 1, .cons q t => .cons q (RpAll.set h i t)
theorem RpAll.reverse : ∀ {vs : List V} {ds : List PV}, RpAll K G vs ds → RpAll K G vs.reverse ds.reverse
  | _, _, .nil => .nil
  | _, _, .cons h t => by
    rw [List.reverse_cons, List.reverse_cons]
    exact t.reverse.append (.cons h .nil)
theorem RpAll.dropLast {vs : List V} {ds : List PV} (h : RpAll K G vs ds) : RpAll K G vs.dropLast ds.dropLast := by
  rw [List.dropLast_eq_take, List.dropLast_eq_take, h.length]
  exact h.take _
theorem RpAll.eraseIdx : ∀ {vs : List V} {ds : List PV} (i : Nat), RpAll K G vs ds → RpAll K G (vs.eraseIdx i) (ds.eraseIdx i)
  | _, _, _, .nil => .nil
  | _, _, 0, .cons _ t => t
  | _, _, i + 1, .cons h t => .cons h (t.eraseIdx i)
def S (l : List Nat) : Str := ⟨l.toArray⟩
theorem Rp.int_inv {v : V} {i : Int} (h : Rp K G v (.int i)) : v = .int i := by
  cases h with
  | int => rfl
  | obj _ ob => nomatch ob
theorem Rp.bl_inv {v : V} {i : Bool} (h : Rp K G v (.bl i)) : v = .bl i := by
  cases h with
  | bl => rfl
  | obj _ ob => nomatch ob
theorem Rp.str_inv {v : V} {l : List Nat} (h : Rp K G v (.str l)) : v = .str (S l) := by
  cases h with
  | str => rfl
  | obj _ ob => nomatch ob
theorem Rp.non_inv {v : V} (h : Rp K G v .non) : v = .non := by
  cases h with
  | non => rfl
  | obj _ ob => nomatch ob
theorem Rp.ty_inv {v : V} {n : String} (h : Rp K G v (.ty n)) : v = .ty n := by
  cases h with
  | ty => rfl
  | obj _ ob => nomatch ob
theorem Rp.tup_inv {v : V} {ds : List PV} (h : Rp K G v (.tup ds)) : ∃ a xs, v = .ref a ∧ SqT K.K G a xs ∧ RpAll K G xs ds := by
  cases h with
  | tup h ha => exact ⟨_, _, rfl, h, ha⟩
  | obj _ ob => nomatch ob
theorem Rp.scr_inv {v : V} {ns : List Int} (h : Rp K G v (.scr ns)) : ∃ a, v = .ref a ∧ SqL K.K G a (ns.map V.int) := by
  cases h with
  | scr h => exact ⟨_, rfl, h⟩
  | obj _ ob => nomatch ob
theorem Rp.cls_inv {v : V} {c : Str} (h : Rp K G v (.cls c)) : ∃ a, v = .ref a ∧ K.mg c = some (.ref a) := by
  cases h with
  | cls h => exact ⟨_, rfl, h⟩
  | obj _ ob => nomatch ob
theorem Ob.lst_inv {o : HO} {ds : List PV} (h : Ob K G o (.lst ds)) : ∃ xs, o = .lst xs ∧ RpAll K G xs ds := by
  cases h with
  | lst h => exact ⟨_, rfl, h⟩
theorem Ob.not_tup {xs : List V} {d : PV} (h : Ob K G (.tup xs) d) : False := nomatch h
theorem RpAll.ints : ∀ {vs : List V} {ns : List Int}, RpAll K G vs (ns.map PV.int) → vs = ns.map V.int
  | _, [], .nil => rfl
  | _, _ :: _, .cons h t => by rw [h.int_inv, t.ints]; rfl
theorem RpAll.bls : ∀ {vs : List V} {ns : List Bool}, RpAll K G vs (ns.map PV.bl) → vs = ns.map V.bl
  | _, [], .nil => rfl
  | _, _ :: _, .cons h t => by rw [h.bl_inv, t.bls]; rfl
theorem RpAll.strs : ∀ {vs : List V} {ns : List (List Nat)}, RpAll K G vs (ns.map PV.str) → vs = (ns.map S).map V.str
  | _, [], .nil => rfl
  | _, _ :: _, .cons h t => by rw [h.str_inv, t.strs]; rfl
theorem rpAll_ints : ∀ (ns : List Int), RpAll K G (ns.map V.int) (ns.map PV.int)
  | [] => .nil
  | n :: r => .cons (.int n) (rpAll_ints r)
theorem rpAll_strs : ∀ (ns : List (List Nat)), RpAll K G ((ns.map S).map V.str) (ns.map PV.str)
  | [] => .nil
  | n :: r => .cons (.str n) (rpAll_strs r)
end

/-! ### the frame's ground: the entry's heap H0, what of it never changes G0, the lists handed in to be changed -/
structure Fr where
  H0 : Hp
  G0 : Hp
  io : List (Nat × Addr)

/-- an object that is somebody's own at a -/
def OwnAt (M : Md) (G H : Hp) (a : Addr) (d : PV) : Prop := G a = none ∧ ∃ o, H a = some o ∧ Ob M G o d

def Slot.own : Slot → Bool
  | .ow _ => true
  | .io _ => true
  | _ => false

def SlotOk (M : Md) (F : Fr) (G H : Hp) (i : Nat) (v : Option (Option V)) : Slot → Prop
  | .un => True
  | .fz d => ∃ x, v = some (some x) ∧ Rp M G x d
  | .ow d => ∃ a, v = some (some (.ref a)) ∧ OwnAt M G H a d ∧ F.H0 a = none
  | .io d => ∃ a, v = some (some (.ref a)) ∧ OwnAt M G H a d ∧ F.io.lookup i = some a

structure Rel (M : Md) (F : Fr) (G : Hp) (ρ : Env) (σ : St) (H : Hp) : Prop where
  sub : Same G H
  g0 : Same F.G0 G
  gn : ∀ b o, G b = some o → F.G0 b = some o ∨ F.H0 b = none
  old : ∀ b o, F.H0 b = some o → (∀ i, F.io.lookup i ≠ some b) → H b = some o
  len : σ.length = ρ.length
  slot : ∀ (i : Nat) (c : Slot), ρ[i]? = some c → SlotOk M F G H i σ[i]? c
  dist : ∀ (i j : Nat) (c c' : Slot) (a : Addr), ρ[i]? = some c → ρ[j]? = some c' → c.own = true → c'.own = true → σ[i]? = some (some (V.ref a)) → σ[j]? = some (some (V.ref a)) → i = j
  ion : ∀ (i : Nat) (a : Addr), F.io.lookup i = some a → ∃ d, ρ[i]? = some (Slot.io d) ∧ σ[i]? = some (some (V.ref a))

def CellOk (M : Md) (F : Fr) (G : Hp) (ρ : Env) (σ : St) (H : Hp) (x : V) : Cell → Prop
  | .fz d => Rp M G x d
  | .ow d => ∃ a, x = .ref a ∧ OwnAt M G H a d ∧ F.H0 a = none ∧ ∀ (i : Nat) (c : Slot), ρ[i]? = some c → c.own = true → σ[i]? ≠ some (some (V.ref a))
  | .rf i => σ[i]? = some (some x)

/-- what a cell holds -/
def val (ρ : Env) : Cell → Option PV
  | .fz d => some d
  | .ow d => some d
  | .rf i => match ρ[i]? with
    | some (.fz d) => some d
    | some (.ow d) => some d
    | some (.io d) => some d
    | _ => none

/-- a value as it is read now: an object may be somebody's own -/
def View (M : Md) (G H : Hp) (x : V) (d : PV) : Prop := Rp M G x d ∨ ∃ a o, x = .ref a ∧ H a = some o ∧ Ob M G o d

section
variable {M : Md} {F : Fr} {G G' H H' : Hp} {ρ : Env} {σ : St} {x : V} {c : Cell} {d : PV}

theorem OwnAt.view {a : Addr} (h : OwnAt M G H a d) : View M G H (.ref a) d := let ⟨_, o, e, r⟩ := h; .inr ⟨a, o, rfl, e, r⟩
theorem OwnAt.move {a : Addr} (h : OwnAt M G H a d) (s : Same G G') (hg : G' a = none) (hh : ∀ o, H a = some o → H' a = some o) : OwnAt M G' H' a d := let ⟨_, o, e, r⟩ := h; ⟨hg, o, hh o e, r.mono s⟩
theorem View.rp (s : Same G H) (h : View M G H x d) : Rp M H x d := by
  rcases h with h | ⟨a, o, rfl, e, r⟩
  · exact h.mono s
  · exact .obj e (r.mono s)
theorem View.lst {ds : List PV} (s : Same G H) (h : View M G H x (.lst ds)) : ∃ a xs, x = .ref a ∧ H a = some (.lst xs) ∧ RpAll M G xs ds := by
  rcases h with h | ⟨a, o, rfl, e, r⟩
  · cases h with
    | obj h ob => obtain ⟨xs, rfl, r⟩ := ob.lst_inv; exact ⟨_, xs, rfl, s _ _ h, r⟩
  · obtain ⟨xs, rfl, q⟩ := r.lst_inv; exact ⟨a, xs, rfl, e, q⟩
theorem View.int {i : Int} (h : View M G H x (.int i)) : x = .int i := by
  rcases h with h | ⟨a, o, rfl, e, r⟩
  · exact h.int_inv
  · nomatch r
theorem View.bl {i : Bool} (h : View M G H x (.bl i)) : x = .bl i := by
  rcases h with h | ⟨a, o, rfl, e, r⟩
  · exact h.bl_inv
  · nomatch r
theorem View.str {i : List Nat} (h : View M G H x (.str i)) : x = .str (S i) := by
  rcases h with h | ⟨a, o, rfl, e, r⟩
  · exact h.str_inv
  · nomatch r
theorem View.non (h : View M G H x .non) : x = .non := by
  rcases h with h | ⟨a, o, rfl, e, r⟩
  · exact h.non_inv
  · nomatch r
theorem View.ty {n : String} (h : View M G H x (.ty n)) : x = .ty n := by
  rcases h with h | ⟨a, o, rfl, e, r⟩
  · exact h.ty_inv
  · nomatch r
theorem View.tup {ds : List PV} (h : View M G H x (.tup ds)) : ∃ a xs, x = .ref a ∧ SqT M.K G a xs ∧ RpAll M G xs ds := by
  rcases h with h | ⟨a, o, rfl, e, r⟩
  · exact h.tup_inv
  · nomatch r
theorem View.scr {ns : List Int} (h : View M G H x (.scr ns)) : ∃ a, x = .ref a ∧ SqL M.K G a (ns.map V.int) := by
  rcases h with h | ⟨a, o, rfl, e, r⟩
  · exact h.scr_inv
  · nomatch r
theorem CellOk.view (R : Rel M F G ρ σ H) (h : CellOk M F G ρ σ H x c) (e : val ρ c = some d) : View M G H x d := by
  cases c with
  | fz d' => cases e; exact .inl h
  | ow d' => cases e; obtain ⟨a, rfl, o, _⟩ := h; exact o.view
  | rf i =>
    have h' : σ[i]? = some (some x) := h
    dsimp only [val] at e
    cases q : ρ[i]? with
    | none => rw [q] at e; cases e
    | some s =>
      rw [q] at e
      have so := R.slot i s q
      rw [h'] at so
      cases s with
      | un => cases e
      | fz d' => cases e; obtain ⟨y, e1, r⟩ := so; cases e1; exact .inl r
      | ow d' => cases e; obtain ⟨a, e1, o, _⟩ := so; cases e1; exact o.view
      | io d' => cases e; obtain ⟨a, e1, o, _⟩ := so; cases e1; exact o.view

/-- the slots under a greater ground -/
theorem SlotOk.move {i : Nat} {v : Option (Option V)} {c : Slot} (so : SlotOk M F G H i v c) (s : Same G G') (hg : ∀ a, c.own = true → v = some (some (.ref a)) → G' a = none) (hh : ∀ a o, c.own = true → v = some (some (.ref a)) → H a = some o → H' a = some o) : SlotOk M F G' H' i v c := by
  cases c with
  | un => trivial
  | fz d => obtain ⟨y, e1, r⟩ := so; exact ⟨y, e1, r.mono s⟩
  | ow d => obtain ⟨b, e1, o, z⟩ := so; exact ⟨b, e1, o.move s (hg b rfl e1) (fun o => hh b o rfl e1), z⟩
  | io d => obtain ⟨b, e1, o, z⟩ := so; exact ⟨b, e1, o.move s (hg b rfl e1) (fun o => hh b o rfl e1), z⟩
theorem Rel.ownG (R : Rel M F G ρ σ H) {i : Nat} {c : Slot} {a : Addr} (e : ρ[i]? = some c) (oc : c.own = true) (f : σ[i]? = some (some (V.ref a))) : G a = none ∧ ∃ o, H a = some o := by
  have so := R.slot i c e
  rw [f] at so
  cases c with
  | un => cases oc
  | fz d => cases oc
  | ow d => obtain ⟨b, e1, o, _⟩ := so; cases e1; exact ⟨o.1, let ⟨_, o, e, _⟩ := o; ⟨o, e⟩⟩
  | io d => obtain ⟨b, e1, o, _⟩ := so; cases e1; exact ⟨o.1, let ⟨_, o, e, _⟩ := o; ⟨o, e⟩⟩

/-- a new object at a becomes one that never changes -/
theorem Rel.freeze {a : Addr} {o : HO} (R : Rel M F G ρ σ H) (hg : G a = none) (hh : H a = some o) (hr : Ob M G o d) (h0 : F.H0 a = none)
    (hf : ∀ (i : Nat) (c : Slot), ρ[i]? = some c → c.own = true → σ[i]? ≠ some (some (V.ref a))) :
    Rel M F (upd G a o) ρ σ H ∧ Same G (upd G a o) ∧ Rp M (upd G a o) (.ref a) d := by
  have s : Same G (upd G a o) := fun b u e => by rw [upd_ne (ne_of_none e hg)]; exact e
  refine ⟨⟨fun b u e => ?_, fun b u e => s _ _ (R.g0 b u e), fun b u e => ?_, R.old, R.len, fun i c e => ?_, R.dist, R.ion⟩, s, .obj upd_same (hr.mono s)⟩
  · by_cases q : b = a
    · subst q; rw [upd_same] at e; cases e; exact hh
    · rw [upd_ne q] at e; exact R.sub b u e
  · by_cases q : b = a
    · subst q; exact .inr h0
    · rw [upd_ne q] at e; exact R.gn b u e
  · refine (R.slot i c e).move s (fun b oc f => ?_) fun b u oc f h => h
    have ne : b ≠ a := fun z => hf i c e oc (z ▸ f)
    rw [upd_ne ne]
    exact (R.ownG e oc f).1

def settle : Cell → Cell
  | .ow d => .fz d
  | c => c
theorem settle_ok (R : Rel M F G ρ σ H) (h : CellOk M F G ρ σ H x c) : ∃ G', Rel M F G' ρ σ H ∧ Same G G' ∧ CellOk M F G' ρ σ H x (settle c) := by
  cases c with
  | fz d => exact ⟨G, R, Same.refl G, h⟩
  | rf i => exact ⟨G, R, Same.refl G, h⟩
  | ow d =>
    obtain ⟨a, rfl, ⟨hg, o, hh, hr⟩, h0, hf⟩ := h
    obtain ⟨R', s, r⟩ := R.freeze hg hh hr h0 hf
    exact ⟨_, R', s, r⟩
/-- a cell that is no new list stays -/
theorem CellOk.stay (h : CellOk M F G ρ σ H x (settle c)) (s : Same G G') {ρ' : Env} : CellOk M F G' ρ' σ H' x (settle c) := by
  cases c with
  | fz d => exact Rp.mono s h
  | ow d => exact Rp.mono s h
  | rf i => exact h

theorem len_of {α : Type} {l : List α} {i : Nat} {x : α} (q : l[i]? = some x) : i < l.length := by
  rcases Nat.lt_or_ge i l.length with h | h
  · exact h
  · rw [List.getElem?_eq_none h] at q; cases q

/-- a slot that is not handed in gets another state: what must be shown -/
theorem Rel.setSlot {i : Nat} {s0 s1 : Slot} {v : Option V} (R : Rel M F G ρ σ H) (q : ρ[i]? = some s0) (ni : ∀ d, s0 ≠ .io d) (so : SlotOk M F G H i (some v) s1)
    (hd : ∀ a, s1.own = true → v = some (.ref a) → ∀ (j : Nat) (c : Slot), j ≠ i → ρ[j]? = some c → c.own = true → σ[j]? ≠ some (some (V.ref a))) (n1 : ∀ d, s1 ≠ .io d) : Rel M F G (ρ.set i s1) (σ.set i v) H := by
  have hi : i < ρ.length := len_of q
  have hs : i < σ.length := by rw [R.len]; exact hi
  refine ⟨R.sub, R.g0, R.gn, R.old, by rw [List.length_set, List.length_set]; exact R.len, fun j c e => ?_, fun j k c c' b e1 e2 o1 o2 f1 f2 => ?_, fun j b e => ?_⟩
  · by_cases ij : i = j
    · subst ij; rw [List.getElem?_set_self hi] at e; cases e; rw [List.getElem?_set_self hs]; exact so
    · rw [List.getElem?_set_ne ij] at e; rw [List.getElem?_set_ne ij]; exact R.slot j c e
  · by_cases ij : i = j
    · subst ij
      rw [List.getElem?_set_self hi] at e1; cases e1
      rw [List.getElem?_set_self hs] at f1; cases f1
      by_cases ik : i = k
      · exact ik
      · rw [List.getElem?_set_ne ik] at e2 f2
        exact absurd f2 (hd b o1 rfl k c' (Ne.symm ik) e2 o2)
    · rw [List.getElem?_set_ne ij] at e1 f1
      by_cases ik : i = k
      · subst ik
        rw [List.getElem?_set_self hi] at e2; cases e2
        rw [List.getElem?_set_self hs] at f2; cases f2
        exact absurd f1 (hd b o2 rfl j c (Ne.symm ij) e1 o1)
      · rw [List.getElem?_set_ne ik] at e2 f2; exact R.dist j k c c' b e1 e2 o1 o2 f1 f2
  · obtain ⟨d, e1, e2⟩ := R.ion j b e
    have ij : i ≠ j := fun z => by subst z; rw [q] at e1; cases e1; exact ni d rfl
    exact ⟨d, by rw [List.getElem?_set_ne ij]; exact e1, by rw [List.getElem?_set_ne ij]; exact e2⟩

/-- what a cell holds, never to be changed again -/
def freeze (ρ : Env) : Cell → Option (PV × Env)
  | .fz d => some (d, ρ)
  | .ow d => some (d, ρ)
  | .rf i => match ρ[i]? with
    | some (.fz d) => some (d, ρ)
    | some (.ow d) => some (d, ρ.set i (.fz d))
    | _ => none
theorem set_self {σ : St} {i : Nat} {v : Option V} (h : σ[i]? = some v) : σ.set i v = σ := by
  refine List.ext_getElem? fun j => ?_
  by_cases ij : i = j
  · subst ij; rw [List.getElem?_set_self (len_of h), h]
  · rw [List.getElem?_set_ne ij]
theorem freeze_ok {ρ' : Env} (R : Rel M F G ρ σ H) (h : CellOk M F G ρ σ H x c) (e : freeze ρ c = some (d, ρ')) : ∃ G', Rel M F G' ρ' σ H ∧ Same G G' ∧ Rp M G' x d := by
  cases c with
  | fz d' => cases e; exact ⟨G, R, Same.refl G, h⟩
  | ow d' =>
    cases e
    obtain ⟨G', R', s, r⟩ := settle_ok R h
    exact ⟨G', R', s, r⟩
  | rf i =>
    have h' : σ[i]? = some (some x) := h
    dsimp only [freeze] at e
    cases q : ρ[i]? with
    | none => rw [q] at e; cases e
    | some s =>
      rw [q] at e
      have so := R.slot i s q
      rw [h'] at so
      cases s with
      | un => cases e
      | fz d' => cases e; obtain ⟨y, e1, r⟩ := so; cases e1; exact ⟨G, R, Same.refl G, r⟩
      | io d' => cases e
      | ow d' =>
        cases e
        obtain ⟨a, e1, ⟨hg, o, hh, hr⟩, h0⟩ := so
        cases e1
        have R0 : Rel M F G (ρ.set i .un) σ H := by
          have := R.setSlot (s1 := .un) (v := some (V.ref a)) q (fun _ z => nomatch z) trivial (fun _ z => nomatch z) (fun _ z => nomatch z)
          rwa [set_self h'] at this
        obtain ⟨R', s', r⟩ := R0.freeze hg hh hr h0 fun j c e oc f => by
          by_cases ij : i = j
          · subst ij; rw [List.getElem?_set_self (len_of q)] at e; cases e; cases oc
          · rw [List.getElem?_set_ne ij] at e
            exact ij (R.dist i j _ c a q e rfl oc h' f)
        have R2 := R'.setSlot (i := i) (s1 := .fz d) (v := some (V.ref a)) (List.getElem?_set_self (len_of q)) (fun _ z => nomatch z) ⟨_, rfl, r⟩ (fun _ z => nomatch z) (fun _ z => nomatch z)
        rw [set_self h', List.set_set] at R2
        exact ⟨_, R2, s', r⟩

theorem Rel.free0 (R : Rel M F G ρ σ H) {p : Addr} (hp : H p = none) : F.H0 p = none := by
  cases q : F.H0 p with
  | none => rfl
  | some o =>
    by_cases z : ∃ i, F.io.lookup i = some p
    · obtain ⟨i, z⟩ := z
      obtain ⟨d, e1, e2⟩ := R.ion i p z
      obtain ⟨_, o, e⟩ := R.ownG e1 rfl e2
      rw [hp] at e; cases e
    · have := R.old p o q fun i e => z ⟨i, e⟩
      rw [hp] at this; cases this
theorem Rel.freeG (R : Rel M F G ρ σ H) {p : Addr} (hp : H p = none) : G p = none := Same.free R.sub hp
theorem Rel.nohold (R : Rel M F G ρ σ H) {p : Addr} (hp : H p = none) : ∀ (i : Nat) (c : Slot), ρ[i]? = some c → c.own = true → σ[i]? ≠ some (some (V.ref p)) := fun i c e oc f => by
  obtain ⟨_, o, e⟩ := R.ownG e oc f
  rw [hp] at e; cases e
/-- a new object -/
theorem Rel.alloc (R : Rel M F G ρ σ H) {p : Addr} (hp : H p = none) (o : HO) : Rel M F G ρ σ (upd H p o) := by
  have s : Same H (upd H p o) := fun b u e => by rw [upd_ne (ne_of_none e hp)]; exact e
  exact ⟨R.sub.trans s, R.g0, R.gn, fun b u e n => s _ _ (R.old b u e n), R.len, fun i c e => (R.slot i c e).move (Same.refl G) (fun a oc f => (R.ownG e oc f).1) fun a o _ _ h => s _ _ h, R.dist, R.ion⟩
/-- a new object that is mine -/
theorem Rel.newOb (R : Rel M F G ρ σ H) {p : Addr} (hp : H p = none) {o : HO} (r : Ob M G o d) : Rel M F G ρ σ (upd H p o) ∧ CellOk M F G ρ σ (upd H p o) (.ref p) (.ow d) :=
  ⟨R.alloc hp _, p, rfl, ⟨R.freeG hp, o, upd_same, r⟩, R.free0 hp, R.nohold hp⟩
theorem Rel.newList (R : Rel M F G ρ σ H) {p : Addr} (hp : H p = none) {xs : List V} {ds : List PV} (r : RpAll M G xs ds) :
    Rel M F G ρ σ (upd H p (.lst xs)) ∧ CellOk M F G ρ σ (upd H p (.lst xs)) (.ref p) (.ow (.lst ds)) := R.newOb hp (.lst r)
/-- a new object of any kind, into the ground -/
theorem Rel.newG (R : Rel M F G ρ σ H) {p : Addr} (hp : H p = none) (o : HO) : Rel M F (upd G p o) ρ σ (upd H p o) ∧ Same G (upd G p o) := by
  have hg := R.freeG hp
  have s : Same G (upd G p o) := fun b u e => by rw [upd_ne (ne_of_none e hg)]; exact e
  have R1 := R.alloc hp o
  refine ⟨⟨fun b u e => ?_, fun b u e => s _ _ (R1.g0 b u e), fun b u e => ?_, R1.old, R1.len, fun i c e => ?_, R1.dist, R1.ion⟩, s⟩
  · by_cases q : b = p
    · subst q; rw [upd_same] at e; cases e; exact upd_same
    · rw [upd_ne q] at e; exact R1.sub b u e
  · by_cases q : b = p
    · subst q; exact .inr (R.free0 hp)
    · rw [upd_ne q] at e; exact R1.gn b u e
  · refine (R1.slot i c e).move s (fun b oc f => ?_) fun b u oc f h => h
    have ne : b ≠ p := fun z => R.nohold hp i c e oc (z ▸ f)
    rw [upd_ne ne]
    exact (R1.ownG e oc f).1
/-- a new tuple -/
theorem Rel.newTup (R : Rel M F G ρ σ H) {p : Addr} (hp : H p = none) {xs : List V} {ds : List PV} (r : RpAll M G xs ds) :
    ∃ G', Rel M F G' ρ σ (upd H p (.tup xs)) ∧ Same G G' ∧ CellOk M F G' ρ σ (upd H p (.tup xs)) (.ref p) (.fz (.tup ds)) := by
  obtain ⟨R', s⟩ := R.newG hp (.tup xs)
  exact ⟨_, R', s, Rp.tup (.inl (.inl upd_same)) (r.mono s)⟩
end
end L2.VL

set_option Elab.async false
set_option linter.all false
set_option maxRecDepth 100000
/-! VL2: the judgements over the meanings; expressions. -/
namespace L2.VL
open PySem PySem.Spec PyProof.Rows

/-- an exception as it lies: its class, its own dict -/
def ExcOk (M : Md) (G : Hp) (cls : Value) (d : Option Addr) (x : Exc) : Prop :=
  ∃ (C dd : Addr) (fs : List (Str × V)), cls = .ref C ∧ M.mg x.name = some (.ref C) ∧ d = some dd ∧ G dd = some (.xd fs) ∧ fs.map (·.1) = x.fs.map (·.1) ∧ RpAll M G (fs.map (·.2)) (x.fs.map (·.2))

def Post {α : Type} (M : Md) (F : Fr) (E : L2.St → XK) (G : Hp) (σ : L2.St) (r : Rs α) (P : α → Env → Hp → Hp → Prop) : Prop := match r with
  | .ok a ρ' => ∀ G' H', Rel M F G' ρ' σ H' → Same G G' → P a ρ' G' H'
  | .ex x ρ' => ∀ cls d G' H', Rel M F G' ρ' σ H' → Same G G' → ExcOk M G' cls d x → E σ cls d H'
  | .bad => False

section
variable {α β : Type} {M : Md} {F : Fr} {E : L2.St → XK} {G G1 : Hp} {σ : L2.St} {r : Rs α} {P P' : α → Env → Hp → Hp → Prop}
theorem Post.imp (h : Post M F E G σ r P) (k : ∀ a ρ' G' H', Rel M F G' ρ' σ H' → Same G G' → P a ρ' G' H' → P' a ρ' G' H') : Post M F E G σ r P' := by
  cases r with
  | ok a ρ' => exact fun G' H' R s => k a ρ' G' H' R s (h G' H' R s)
  | ex x ρ' => exact h
  | bad => exact h
theorem Post.up (h : Post M F E G σ r P) (s : Same G G1) : Post M F E G1 σ r P := by
  cases r with
  | ok a ρ' => exact fun G' H' R s' => h G' H' R (s.trans s')
  | ex x ρ' => exact fun cls d G' H' R s' => h cls d G' H' R (s.trans s')
  | bad => exact h
theorem Post.bind {f : α → Env → Rs β} {P : β → Env → Hp → Hp → Prop} (h : Post M F E G σ (r.bind f) P) : Post M F E G σ r (fun a ρ' G' H' => Post M F E G' σ (f a ρ') P) := by
  cases r with
  | ok a ρ' => exact fun G' H' R s => Post.up h s
  | ex x ρ' => exact h
  | bad => exact h
end

def tV (M : Md) (E : L2.St → XK) (v : VX) : TE := fun σ H Q => ∃ F G ρ, Rel M F G ρ σ H ∧ Post M F E G σ (v ρ) fun c ρ' G' H' => ∀ x, CellOk M F G' ρ' σ H' x c → Q x H'
abbrev VT := Env → Rs Bool
def tT (M : Md) (E : L2.St → XK) (v : VT) : TT := fun σ H Q => ∃ F G ρ, Rel M F G ρ σ H ∧ Post M F E G σ (v ρ) fun b ρ' G' H' => Q b H'
abbrev VA := Env → Rs (List Cell)
def CellsOk (M : Md) (F : Fr) (G : Hp) (ρ : Env) (σ : L2.St) (H : Hp) : List V → List Cell → Prop
  | [], [] => True
  | x :: xs, c :: cs => CellOk M F G ρ σ H x (settle c) ∧ CellsOk M F G ρ σ H xs cs
  | _, _ => False
def tA (M : Md) (E : L2.St → XK) (v : VA) : TA := fun σ H Q => ∃ F G ρ, Rel M F G ρ σ H ∧ Post M F E G σ (v ρ) fun cs ρ' G' H' => ∀ xs, CellsOk M F G' ρ' σ H' xs cs → Q xs H'
def PostS (M : Md) (F : Fr) (E : L2.St → XK) (G : Hp) (D : Ends) (r : Rs Fl) : Prop := match r with
  | .ok .nx ρ' => ∀ σ' G' H', Rel M F G' ρ' σ' H' → Same G G' → D.nx σ' H'
  | .ok .bk ρ' => ∀ σ' G' H', Rel M F G' ρ' σ' H' → Same G G' → D.bk σ' H'
  | .ok .ct ρ' => ∀ σ' G' H', Rel M F G' ρ' σ' H' → Same G G' → D.ct σ' H'
  | .ok (.rt c) ρ' => ∀ x σ' G' H', Rel M F G' ρ' σ' H' → Same G G' → CellOk M F G' ρ' σ' H' x c → D.rt x H'
  | .ex x ρ' => ∀ cls d σ' G' H', Rel M F G' ρ' σ' H' → Same G G' → ExcOk M G' cls d x → E σ' cls d H'
  | .bad => False
theorem PostS.up {M : Md} {F : Fr} {E : L2.St → XK} {G G1 : Hp} {D : Ends} {r : Rs Fl} (h : PostS M F E G D r) (s : Same G G1) : PostS M F E G1 D r := by
  cases r with
  | ok a ρ' =>
    cases a with
    | nx => exact fun σ' G' H' R s' => h σ' G' H' R (s.trans s')
    | bk => exact fun σ' G' H' R s' => h σ' G' H' R (s.trans s')
    | ct => exact fun σ' G' H' R s' => h σ' G' H' R (s.trans s')
    | rt c => exact fun x σ' G' H' R s' => h x σ' G' H' R (s.trans s')
  | ex x ρ' => exact fun cls d σ' G' H' R s' => h cls d σ' G' H' R (s.trans s')
  | bad => exact h
def tS (M : Md) (E : L2.St → XK) (s : VS) : TS := fun D σ H => ∃ F G ρ, Rel M F G ρ σ H ∧ PostS M F E G D (s ρ)

section
variable {X : Cx}
theorem PEimp {e : Expr} {t t' : TE} (h : PE X e t) (k : ∀ σ H Q, t' σ H Q → t σ H Q) : PE X e t' := ⟨fun pins s σ H Q I q => h.run pins s σ H Q I (k σ H Q q)⟩
theorem PTimp {e : Expr} {t t' : TT} (h : PT X e t) (k : ∀ σ H Q, t' σ H Q → t σ H Q) : PT X e t' := ⟨fun pins s σ H Q I q => h.run pins s σ H Q I (k σ H Q q)⟩
theorem PWimp {e : Expr} {t t' : TT} (h : PW X e t) (k : ∀ σ H Q, t' σ H Q → t σ H Q) : PW X e t' := ⟨fun w pins s σ H Q I q => h.run w pins s σ H Q I (k σ H Q q)⟩
theorem PAimp {e : List Expr} {t t' : TA} (h : PA X e t) (k : ∀ σ H Q, t' σ H Q → t σ H Q) : PA X e t' := ⟨fun pos pins s σ H Q I q => h.run pos pins s σ H Q I (k σ H Q q)⟩
theorem PSimp {e : Stmt} {t t' : TS} (h : PS X e t) (k : ∀ D σ H, t' D σ H → t D σ H) : PS X e t' := ⟨fun pins s σ H D I q => h.run pins s σ H D I (k D σ H q)⟩
theorem PSsimp {e : List Stmt} {t t' : TS} (h : PSs X e t) (k : ∀ D σ H, t' D σ H → t D σ H) : PSs X e t' := ⟨fun pins s σ H D I q => h.run pins s σ H D I (k D σ H q)⟩
end

/-! ### expressions: their meanings -/
def vVar (i : Nat) : VX := fun ρ => match ρ[i]? with
  | some (.fz d) => .ok (.fz d) ρ
  | some .un => .bad
  | none => .bad
  | _ => .ok (.rf i) ρ
def vC (d : PV) : VX := fun ρ => .ok (.fz d) ρ
def opt {α : Type} (o : Option α) (ρ : Env) : Rs α := match o with
  | some a => .ok a ρ
  | none => .bad
def vBin (g : PV → PV → Option Cell) (va vb : VX) : VX := fun ρ => (va ρ).bind fun c1 ρ1 => (vb ρ1).bind fun c2 ρ2 =>
  opt ((val ρ2 (settle c1)).bind fun d => (val ρ2 (settle c2)).bind fun e => g d e) ρ2
def vUn (g : PV → Option Cell) (va : VX) : VX := fun ρ => (va ρ).bind fun c1 ρ1 => opt ((val ρ1 (settle c1)).bind g) ρ1
def boolOf : PV → Option Bool
  | .bl b => some b
  | _ => none
def vAnd (va vb : VX) : VX := fun ρ => (va ρ).bind fun c ρ1 => match (val ρ1 c).bind boolOf with
  | some true => vb ρ1
  | some false => .ok (.fz (.bl false)) ρ1
  | none => .bad
def vOr (va vb : VX) : VX := fun ρ => (va ρ).bind fun c ρ1 => match (val ρ1 c).bind boolOf with
  | some true => .ok (.fz (.bl true)) ρ1
  | some false => vb ρ1
  | none => .bad
def vNot (va : VX) : VX := fun ρ => (va ρ).bind fun c ρ1 => opt (((val ρ1 c).bind boolOf).map fun b => .fz (.bl (!b))) ρ1
def vIf (t : VT) (va vb : VX) : VX := fun ρ => (t ρ).bind fun b ρ1 => if b = true then va ρ1 else vb ρ1
def vANil : VA := fun ρ => .ok [] ρ
def vACons (va : VX) (vs : VA) : VA := fun ρ => (va ρ).bind fun c ρ1 => (vs ρ1).bind fun cs ρ2 => .ok (c :: cs) ρ2
/-- the values of cells, never to be changed again -/
def freezeAll : Env → List Cell → Option (List PV × Env)
  | ρ, [] => some ([], ρ)
  | ρ, c :: cs => (freeze ρ c).bind fun (d, ρ1) => (freezeAll ρ1 cs).map fun (ds, ρ2) => (d :: ds, ρ2)
def vTup (vs : VA) : VX := fun ρ => (vs ρ).bind fun cs ρ1 => match freezeAll ρ1 (cs.map settle) with
  | some (ds, ρ2) => if ds.length ≤ sizeLine then .ok (.fz (.tup ds)) ρ2 else .bad
  | none => .bad
def vLst (vs : VA) : VX := fun ρ => (vs ρ).bind fun cs ρ1 => match freezeAll ρ1 (cs.map settle) with
  | some (ds, ρ2) => if ds.length ≤ sizeLine then .ok (.ow (.lst ds)) ρ2 else .bad
  | none => .bad
/-- a call of a built-in with values as they are read -/
def valAll (ρ : Env) : List Cell → Option (List PV)
  | [] => some []
  | c :: cs => (val ρ (settle c)).bind fun d => (valAll ρ cs).map fun ds => d :: ds
def vCall (g : List PV → Option Cell) (vs : VA) : VX := fun ρ => (vs ρ).bind fun cs ρ1 => opt ((valAll ρ1 cs).bind g) ρ1
/-! tests -/
def truth : PV → Option Bool
  | .non => some false
  | .bl b => some b
  | .int i => some (i != 0)
  | .str l => if l.length ≤ sizeLine then some (!l.isEmpty) else none
  | .tup l => some (!l.isEmpty)
  | .lst l => some (!l.isEmpty)
  | _ => none
def tst (va : VX) : VT := fun ρ => (va ρ).bind fun c ρ1 => opt ((val ρ1 c).bind truth) ρ1
def tAndT (a b : VT) : VT := fun ρ => (a ρ).bind fun c ρ1 => if c = true then b ρ1 else .ok false ρ1
def tOrT (a b : VT) : VT := fun ρ => (a ρ).bind fun c ρ1 => if c = true then .ok true ρ1 else b ρ1
def tNotT (a : VT) : VT := fun ρ => (a ρ).bind fun c ρ1 => .ok (!c) ρ1

section
variable {X : Cx} {M : Md} {F : Fr} {E : L2.St → XK} {a b : Expr} {va vb : VX} {pos : Pos} {σ : L2.St} {H : Hp}

theorem settle_settle (c : Cell) : settle (settle c) = settle c := by cases c <;> rfl
theorem CellOk.at {G G' : Hp} {ρ ρ' : Env} {H H' : Hp} {x : V} {c : Cell} (h : CellOk M F G ρ σ H x (settle c)) (s : Same G G') : CellOk M F G' ρ' σ H' x (settle c) := h.stay s

theorem vx_var (i : Nat) {x : Str} {pos : Pos} (hN : X.N[i]? = some x := by rfl) (hv : Vis X.env.scope x := by first | exact Or.inl rfl | exact Or.inr (Or.inl rfl) | exact Or.inr (Or.inr rfl)) (hd : (x == ("__debug__" : Str)) = false := by decide)
    (hcd : (x == ("__classdict__" : Str)) = false := by decide) : PE X (.Name x pos) (tV M E (vVar i)) := by
  refine PEimp (pe_var hN hv hd hcd) fun σ H Q ⟨F, G, ρ, R, h⟩ => ?_
  unfold vVar at h
  cases q : ρ[i]? with
  | none => rw [q] at h; exact h.elim
  | some s =>
    rw [q] at h
    have so := R.slot i s q
    cases s with
    | un => exact h.elim
    | fz d => obtain ⟨y, e1, r⟩ := so; exact ⟨y, e1, h G H R (Same.refl G) y r⟩
    | ow d => obtain ⟨y, e1, r⟩ := so; exact ⟨_, e1, h G H R (Same.refl G) _ e1⟩
    | io d => obtain ⟨y, e1, r⟩ := so; exact ⟨_, e1, h G H R (Same.refl G) _ e1⟩
theorem vx_c {e : Expr} {v : V} {d : PV} (h : PE X e (tC v)) (r : ∀ G, Rp M G v d) : PE X e (tV M E (vC d)) :=
  PEimp h fun σ H Q ⟨F, G, ρ, R, h⟩ => h G H R (Same.refl G) v (r G)
theorem vx_int {i j pos} : PE X (.Constant (.int i) j pos) (tV M E (vC (.int i))) := vx_c pe_int fun _ => .int i
theorem vx_bl {i j pos} : PE X (.Constant (.bool i) j pos) (tV M E (vC (.bl i))) := vx_c pe_bl fun _ => .bl i
theorem vx_non {j pos} : PE X (.Constant .none j pos) (tV M E (vC .non)) := vx_c pe_non fun _ => .non
theorem rp_str {K : Md} {G : Hp} {x : Str} {l : List Nat} (h : x = S l) : Rp K G (.str x) (.str l) := by subst h; exact .str l
theorem vx_str (l : List Nat) {x j pos} (h : x = S l := by rfl) : PE X (.Constant (.str x) j pos) (tV M E (vC (.str l))) := vx_c pe_str fun _ => rp_str h
/-- a module's constant -/
theorem vx_glob {x : Str} {v : V} {u : Value} {d : PV} {pos : Pos} (hg : Gl X x) (hm : X.mg x = some u) (r : RelV v u) (rp : ∀ G, Rp M G v d) (hd : (x == ("__debug__" : Str)) = false := by decide) : PE X (.Name x pos) (tV M E (vC d)) := vx_c (pe_glob hg hm r hd) rp

theorem opt_post {α : Type} {G : Hp} {o : Option α} {ρ : Env} {P : α → Env → Hp → Hp → Prop} (h : Post M F E G σ (opt o ρ) P) : ∃ c, o = some c ∧ ∀ G' H', Rel M F G' ρ σ H' → Same G G' → P c ρ G' H' := by
  cases o with
  | none => exact h.elim
  | some c => exact ⟨c, rfl, h⟩

/-- what an operator asks of the values -/
def OpV (M : Md) (r : R2) (g : PV → PV → Option Cell) : Prop :=
  ∀ (F : Fr) (G : Hp) (ρ : Env) (σ : L2.St) (H : Hp) (x y : V) (d e : PV) (c : Cell) (Q : VK), Rel M F G ρ σ H → View M G H x d → View M G H y e → g d e = some c →
    (∀ z G' H', Rel M F G' ρ σ H' → Same G G' → CellOk M F G' ρ σ H' z c → Q z H') → r x y H Q
theorem tV_bin {r : R2} {g : PV → PV → Option Cell} (hr : OpV M r g) {Q : VK} (h : tV M E (vBin g va vb) σ H Q) : tOp r (tV M E va) (tV M E vb) σ H Q := by
  obtain ⟨F, G, ρ, R, h⟩ := h
  refine ⟨F, G, ρ, R, (Post.bind h).imp fun c1 ρ1 G1 H1 R1 s1 h1 x ok1 => ?_⟩
  obtain ⟨G1', R1', s1', ok1'⟩ := settle_ok R1 ok1
  refine ⟨F, G1', ρ1, R1', (Post.bind (h1.up s1')).imp fun c2 ρ2 G2 H2 R2 s2 h2 y ok2 => ?_⟩
  obtain ⟨G2', R2', s2', ok2'⟩ := settle_ok R2 ok2
  obtain ⟨c, e, k⟩ := opt_post h2
  obtain ⟨d, e1, e⟩ := Option.bind_eq_some_iff.mp e
  obtain ⟨f, e2, e⟩ := Option.bind_eq_some_iff.mp e
  exact hr F G2' ρ2 σ H2 x y d f c Q R2' ((ok1'.at (s2.trans s2')).view R2' e1) (ok2'.view R2' e2) e fun z G' H' R' s' ok => k G' H' R' (s2'.trans s') z ok
theorem vx_op {op : Operator} {r : R2} {g : PV → PV → Option Cell} (ho : OpR X (binaryOp op) r) (hr : OpV M r g) (ha : PE X a (tV M E va)) (hb : PE X b (tV M E vb)) : PE X (.BinOp a op b pos) (tV M E (vBin g va vb)) :=
  PEimp (pe_op ho ha hb) fun _ _ _ h => tV_bin hr h
/-- what a comparison asks of the values -/
def OpB (M : Md) (r : R2) (g : PV → PV → Option Bool) : Prop :=
  ∀ (F : Fr) (G : Hp) (ρ : Env) (σ : L2.St) (H : Hp) (x y : V) (d e : PV) (b : Bool) (Q : VK), Rel M F G ρ σ H → View M G H x d → View M G H y e → g d e = some b → Q (.bl b) H → r x y H Q
def mkB (g : PV → PV → Option Bool) : PV → PV → Option Cell := fun d e => (g d e).map fun b => .fz (.bl b)
theorem OpB.opV {r : R2} {g : PV → PV → Option Bool} (h : OpB M r g) : OpV M r (mkB g) := fun F G ρ σ H x y d e c Q R v w eg k => by
  obtain ⟨b, e1, rfl⟩ := Option.map_eq_some_iff.mp eg
  exact h F G ρ σ H x y d e b Q R v w e1 (k _ G H R (Same.refl G) (.bl b))
def tCmpT (g : PV → PV → Option Bool) (va vb : VX) : VT := fun ρ => (va ρ).bind fun c1 ρ1 => (vb ρ1).bind fun c2 ρ2 =>
  opt ((val ρ2 (settle c1)).bind fun d => (val ρ2 (settle c2)).bind fun e => g d e) ρ2
theorem vx_cmp {op : CmpOp} {r : R2} {g : PV → PV → Option Bool} (ho : OpR X (compareOp op) r) (hr : OpB M r g) (ha : PE X a (tV M E va)) (hb : PE X b (tV M E vb)) (hm : behindInMarks op b = false) : PE X (.Compare a [op] [b] pos) (tV M E (vBin (mkB g) va vb)) :=
  PEimp (pe_cmpR ho ha hb hm) fun _ _ _ h => tV_bin hr.opV h
theorem vt_cmp {op : CmpOp} {r : R2} {g : PV → PV → Option Bool} (ho : OpR X (compareOp op) r) (hr : OpB M r g) (ha : PE X a (tV M E va)) (hb : PE X b (tV M E vb)) (hm : behindInMarks op b = false) :
    PT X (.Compare a [op] [b] pos) (tT M E (tCmpT g va vb)) := by
  refine PTimp (pt_cmpR ho ha hb hm) fun σ H Q ⟨F, G, ρ, R, h⟩ => ?_
  refine ⟨F, G, ρ, R, (Post.bind h).imp fun c1 ρ1 G1 H1 R1 s1 h1 x ok1 => ?_⟩
  obtain ⟨G1', R1', s1', ok1'⟩ := settle_ok R1 ok1
  refine ⟨F, G1', ρ1, R1', (Post.bind (h1.up s1')).imp fun c2 ρ2 G2 H2 R2 s2 h2 y ok2 => ?_⟩
  obtain ⟨G2', R2', s2', ok2'⟩ := settle_ok R2 ok2
  obtain ⟨c, e, k⟩ := opt_post h2
  obtain ⟨d, e1, e⟩ := Option.bind_eq_some_iff.mp e
  obtain ⟨f, e2, e⟩ := Option.bind_eq_some_iff.mp e
  exact hr F G2' ρ2 σ H2 x y d f c _ R2' ((ok1'.at (s2.trans s2')).view R2' e1) (ok2'.view R2' e2) e ⟨c, rfl, k G2' H2 R2' s2'⟩
/-- a < b < c -/
def vChainV (g g' : PV → PV → Option Bool) (va vb vc : VX) : VX := fun ρ => (va ρ).bind fun c1 ρ1 => (vb ρ1).bind fun c2 ρ2 =>
  (opt ((val ρ2 (settle c1)).bind fun d => (val ρ2 (settle c2)).bind fun e => g d e) ρ2).bind fun b ρ3 => if b = true then (vc ρ3).bind fun c3 ρ4 =>
    opt ((val ρ4 (settle c2)).bind fun d => (val ρ4 (settle c3)).bind fun e => mkB g' d e) ρ4 else .ok (.fz (.bl false)) ρ3
theorem vx_chain {op op' : CmpOp} {r r' : R2} {g g' : PV → PV → Option Bool} {c : Expr} {vc : VX} (ho : OpR X (compareOp op) r) (hr : OpB M r g) (ho' : OpR X (compareOp op') r') (hr' : OpB M r' g')
    (ha : PE X a (tV M E va)) (hb : PE X b (tV M E vb)) (hc : PE X c (tV M E vc)) (hm : lastMarks [op, op'] [b, c] = false := by with_unfolding_all rfl) :
    PE X (.Compare a [op, op'] [b, c] pos) (tV M E (vChainV g g' va vb vc)) := by
  refine PEimp (pe_chain ho ho' ha hb hc hm) fun σ H Q ⟨F, G, ρ, R, h⟩ => ?_
  refine ⟨F, G, ρ, R, (Post.bind h).imp fun c1 ρ1 G1 H1 R1 s1 h1 x ok1 => ?_⟩
  obtain ⟨G1', R1', s1', ok1'⟩ := settle_ok R1 ok1
  refine ⟨F, G1', ρ1, R1', (Post.bind (h1.up s1')).imp fun c2 ρ2 G2 H2 R2 s2 h2 y ok2 => ?_⟩
  obtain ⟨G2', R2', s2', ok2'⟩ := settle_ok R2 ok2
  obtain ⟨k, e, kk⟩ := opt_post (Post.bind h2)
  obtain ⟨d, e1, e⟩ := Option.bind_eq_some_iff.mp e
  obtain ⟨f, e2, e⟩ := Option.bind_eq_some_iff.mp e
  refine hr F G2' ρ2 σ H2 x y d f k _ R2' ((ok1'.at (s2.trans s2')).view R2' e1) (ok2'.view R2' e2) e ⟨k, rfl, ?_⟩
  have h3 := kk G2' H2 R2' s2'
  cases k with
  | false => rw [if_neg Bool.false_ne_true] at h3 ⊢; exact h3 G2' H2 R2' (Same.refl _) _ (.bl false)
  | true =>
    rw [if_pos rfl] at h3 ⊢
    refine ⟨F, G2', ρ2, R2', (Post.bind h3).imp fun c3 ρ3 G3 H3 R3 s3 h4 z ok3 => ?_⟩
    obtain ⟨G3', R3', s3', ok3'⟩ := settle_ok R3 ok3
    obtain ⟨c, e, k⟩ := opt_post h4
    obtain ⟨d, e1, e⟩ := Option.bind_eq_some_iff.mp e
    obtain ⟨f, e2, e⟩ := Option.bind_eq_some_iff.mp e
    exact hr'.opV F G3' ρ3 σ H3 y z d f c Q R3' ((ok2'.at (s3.trans s3')).view R3' e1) (ok3'.view R3' e2) e fun z G' H' R' s' ok => k G' H' R' (s3'.trans s') z ok
def tChainT (g g' : PV → PV → Option Bool) (va vb vc : VX) : VT := fun ρ => (va ρ).bind fun c1 ρ1 => (vb ρ1).bind fun c2 ρ2 =>
  (opt ((val ρ2 (settle c1)).bind fun d => (val ρ2 (settle c2)).bind fun e => g d e) ρ2).bind fun b ρ3 => if b = true then (vc ρ3).bind fun c3 ρ4 =>
    opt ((val ρ4 (settle c2)).bind fun d => (val ρ4 (settle c3)).bind fun e => g' d e) ρ4 else .ok false ρ3
theorem vt_chain {op op' : CmpOp} {r r' : R2} {g g' : PV → PV → Option Bool} {c : Expr} {vc : VX} (ho : OpR X (compareOp op) r) (hr : OpB M r g) (ho' : OpR X (compareOp op') r') (hr' : OpB M r' g')
    (ha : PE X a (tV M E va)) (hb : PE X b (tV M E vb)) (hc : PE X c (tV M E vc)) (hm : lastMarks [op, op'] [b, c] = false := by with_unfolding_all rfl) :
    PT X (.Compare a [op, op'] [b, c] pos) (tT M E (tChainT g g' va vb vc)) := by
  refine PTimp (pt_chain ho ho' ha hb hc hm) fun σ H Q ⟨F, G, ρ, R, h⟩ => ?_
  refine ⟨F, G, ρ, R, (Post.bind h).imp fun c1 ρ1 G1 H1 R1 s1 h1 x ok1 => ?_⟩
  obtain ⟨G1', R1', s1', ok1'⟩ := settle_ok R1 ok1
  refine ⟨F, G1', ρ1, R1', (Post.bind (h1.up s1')).imp fun c2 ρ2 G2 H2 R2 s2 h2 y ok2 => ?_⟩
  obtain ⟨G2', R2', s2', ok2'⟩ := settle_ok R2 ok2
  obtain ⟨k, e, kk⟩ := opt_post (Post.bind h2)
  obtain ⟨d, e1, e⟩ := Option.bind_eq_some_iff.mp e
  obtain ⟨f, e2, e⟩ := Option.bind_eq_some_iff.mp e
  refine hr F G2' ρ2 σ H2 x y d f k _ R2' ((ok1'.at (s2.trans s2')).view R2' e1) (ok2'.view R2' e2) e ⟨k, rfl, ?_⟩
  have h3 := kk G2' H2 R2' s2'
  cases k with
  | false => rw [if_neg Bool.false_ne_true] at h3 ⊢; exact ⟨false, rfl, h3 G2' H2 R2' (Same.refl _)⟩
  | true =>
    rw [if_pos rfl] at h3 ⊢
    refine ⟨F, G2', ρ2, R2', (Post.bind h3).imp fun c3 ρ3 G3 H3 R3 s3 h4 z ok3 => ?_⟩
    obtain ⟨G3', R3', s3', ok3'⟩ := settle_ok R3 ok3
    obtain ⟨c, e, k⟩ := opt_post h4
    obtain ⟨d, e1, e⟩ := Option.bind_eq_some_iff.mp e
    obtain ⟨f, e2, e⟩ := Option.bind_eq_some_iff.mp e
    exact hr' F G3' ρ3 σ H3 y z d f c _ R3' ((ok2'.at (s3.trans s3')).view R3' e1) (ok3'.view R3' e2) e ⟨c, rfl, k G3' H3 R3' s3'⟩

theorem view_bl {M : Md} {G H : Hp} {x : V} {d : PV} {b : Bool} (v : View M G H x d) (e : boolOf d = some b) : x = .bl b := by
  cases d with
  | bl k => cases e; exact v.bl
  | _ => cases e
theorem vx_one {op} {e : Expr} (h : PE X e (tV M E va)) : PE X (.BoolOp op [e] pos) (tV M E va) := pe_one h
theorem vx_and {rest : List Expr} (ha : PE X a (tV M E va)) (hb : PE X (.BoolOp .And (b :: rest) pos) (tV M E vb)) : PE X (.BoolOp .And (a :: b :: rest) pos) (tV M E (vAnd va vb)) := by
  refine PEimp (pe_and ha hb) fun σ H Q ⟨F, G, ρ, R, h⟩ => ?_
  refine ⟨F, G, ρ, R, (Post.bind h).imp fun c1 ρ1 G1 H1 R1 s1 h1 x ok1 => ?_⟩
  cases q : (val ρ1 c1).bind boolOf with
  | none => rw [q] at h1; exact h1.elim
  | some b =>
    rw [q] at h1
    obtain ⟨d, e1, e2⟩ := Option.bind_eq_some_iff.mp q
    refine ⟨b, view_bl (ok1.view R1 e1) e2, ?_⟩
    cases b with
    | true => rw [if_pos rfl]; exact ⟨F, G1, ρ1, R1, h1⟩
    | false => rw [if_neg Bool.false_ne_true]; exact h1 G1 H1 R1 (Same.refl _) _ (.bl false)
theorem vx_or {rest : List Expr} (ha : PE X a (tV M E va)) (hb : PE X (.BoolOp .Or (b :: rest) pos) (tV M E vb)) : PE X (.BoolOp .Or (a :: b :: rest) pos) (tV M E (vOr va vb)) := by
  refine PEimp (pe_or ha hb) fun σ H Q ⟨F, G, ρ, R, h⟩ => ?_
  refine ⟨F, G, ρ, R, (Post.bind h).imp fun c1 ρ1 G1 H1 R1 s1 h1 x ok1 => ?_⟩
  cases q : (val ρ1 c1).bind boolOf with
  | none => rw [q] at h1; exact h1.elim
  | some b =>
    rw [q] at h1
    obtain ⟨d, e1, e2⟩ := Option.bind_eq_some_iff.mp q
    refine ⟨b, view_bl (ok1.view R1 e1) e2, ?_⟩
    cases b with
    | true => rw [if_pos rfl]; exact h1 G1 H1 R1 (Same.refl _) _ (.bl true)
    | false => rw [if_neg Bool.false_ne_true]; exact ⟨F, G1, ρ1, R1, h1⟩
theorem vx_not (ha : PE X a (tV M E va)) : PE X (.UnaryOp .Not a pos) (tV M E (vNot va)) := by
  refine PEimp (pe_not ha) fun σ H Q ⟨F, G, ρ, R, h⟩ => ?_
  refine ⟨F, G, ρ, R, (Post.bind h).imp fun c1 ρ1 G1 H1 R1 s1 h1 x ok1 => ?_⟩
  obtain ⟨c, e, k⟩ := opt_post h1
  obtain ⟨b, e', rfl⟩ := Option.map_eq_some_iff.mp e
  obtain ⟨d, e1, e2⟩ := Option.bind_eq_some_iff.mp e'
  exact ⟨b, view_bl (ok1.view R1 e1) e2, k G1 H1 R1 (Same.refl _) _ (.bl (!b))⟩
theorem vx_if {c : Expr} {t : VT} (hc : PT X c (tT M E t)) (ha : PE X a (tV M E va)) (hb : PE X b (tV M E vb)) : PE X (.IfExp c a b pos) (tV M E (vIf t va vb)) := by
  refine PEimp (pe_ifExp hc ha hb) fun σ H Q ⟨F, G, ρ, R, h⟩ => ?_
  refine ⟨F, G, ρ, R, (Post.bind h).imp fun c1 ρ1 G1 H1 R1 s1 h1 => ?_⟩
  cases c1 with
  | true => rw [if_pos rfl] at h1 ⊢; exact ⟨F, G1, ρ1, R1, h1⟩
  | false => rw [if_neg Bool.false_ne_true] at h1 ⊢; exact ⟨F, G1, ρ1, R1, h1⟩

/-! tests -/
theorem strlen (l : List Nat) : (S l).length = l.length := by simp [S, Str.length]
theorem bne0 (n : Nat) : (((n : Nat) : Int) != 0) = !(n == 0) := by
  cases n with
  | zero => rfl
  | succ k => rw [Bool.eq_iff_iff]; simp; omega
theorem rpAll_nil {M : Md} {G : Hp} {xs : List V} {ds : List PV} (h : RpAll M G xs ds) : (!xs.isEmpty) = !ds.isEmpty := by cases h <;> rfl
theorem truV_of {G H : Hp} {x : V} {d : PV} {k : Bool} (s : Same G H) (v : View M G H x d) (e : truth d = some k) : TruV M.K x H k := by
  cases d with
  | non => cases v.non; cases e; exact rfl
  | bl b => cases v.bl; cases e; exact rfl
  | int i => cases v.int; cases e; exact rfl
  | str l =>
    cases v.str
    dsimp only [truth] at e
    by_cases hl : l.length ≤ sizeLine
    · rw [if_pos hl] at e
      cases e
      refine ⟨by rw [strlen]; exact hl, ?_⟩
      rw [strlen, bne0]
      cases l <;> rfl
    · rw [if_neg hl] at e; cases e
  | tup ds =>
    obtain ⟨a, xs, rfl, h, ha⟩ := v.tup
    cases e
    exact .inr (.inl ⟨xs, Same.seqT s h, (rpAll_nil ha).symm⟩)
  | lst ds =>
    obtain ⟨a, xs, rfl, h, ha⟩ := v.lst s
    cases e
    exact .inl ⟨xs, SqL.of h, (rpAll_nil ha).symm⟩
  | _ => cases e
theorem vt_val {e : Expr} (h : PE X e (tV M E va)) (he : ∀ whole, isTrue e X.env whole = (do let v ← whole; standAt e.pos; holding [v] (truthy v)) := by intro _; rfl) (hK : M.K = X.K := by rfl) : PT X e (tT M E (tst va)) := by
  refine PTimp (pt_truth h he) fun σ H Q ⟨F, G, ρ, R, h⟩ => ?_
  refine ⟨F, G, ρ, R, (Post.bind h).imp fun c1 ρ1 G1 H1 R1 s1 h1 x ok1 => ?_⟩
  obtain ⟨k, e, q⟩ := opt_post h1
  obtain ⟨d, e1, e2⟩ := Option.bind_eq_some_iff.mp e
  exact ⟨k, hK ▸ truV_of R1.sub (ok1.view R1 e1) e2, q G1 H1 R1 (Same.refl _)⟩
theorem vw_and1 {ta : VT} (ha : PT X a (tT M E ta)) : PW X (.BoolOp .And [a] pos) (tT M E ta) := pw_and1 ha
theorem vw_or1 {ta : VT} (ha : PT X a (tT M E ta)) : PW X (.BoolOp .Or [a] pos) (tT M E ta) := pw_or1 ha
theorem vw_and {rest : List Expr} {ta tb : VT} (ha : PT X a (tT M E ta)) (hb : PW X (.BoolOp .And (b :: rest) pos) (tT M E tb)) : PW X (.BoolOp .And (a :: b :: rest) pos) (tT M E (tAndT ta tb)) := by
  refine PWimp (pw_and ha hb) fun σ H Q ⟨F, G, ρ, R, h⟩ => ?_
  refine ⟨F, G, ρ, R, (Post.bind h).imp fun c1 ρ1 G1 H1 R1 s1 h1 => ?_⟩
  cases c1 with
  | true => rw [if_pos rfl] at h1 ⊢; exact ⟨F, G1, ρ1, R1, h1⟩
  | false => rw [if_neg Bool.false_ne_true] at h1 ⊢; exact h1 G1 H1 R1 (Same.refl _)
theorem vw_or {rest : List Expr} {ta tb : VT} (ha : PT X a (tT M E ta)) (hb : PW X (.BoolOp .Or (b :: rest) pos) (tT M E tb)) : PW X (.BoolOp .Or (a :: b :: rest) pos) (tT M E (tOrT ta tb)) := by
  refine PWimp (pw_or ha hb) fun σ H Q ⟨F, G, ρ, R, h⟩ => ?_
  refine ⟨F, G, ρ, R, (Post.bind h).imp fun c1 ρ1 G1 H1 R1 s1 h1 => ?_⟩
  cases c1 with
  | true => rw [if_pos rfl] at h1 ⊢; exact h1 G1 H1 R1 (Same.refl _)
  | false => rw [if_neg Bool.false_ne_true] at h1 ⊢; exact ⟨F, G1, ρ1, R1, h1⟩
theorem vt_not {ta : VT} (ha : PT X a (tT M E ta)) : PT X (.UnaryOp .Not a pos) (tT M E (tNotT ta)) := by
  refine PTimp (pt_not ha) fun σ H Q ⟨F, G, ρ, R, h⟩ => ?_
  exact ⟨F, G, ρ, R, (Post.bind h).imp fun c1 ρ1 G1 H1 R1 s1 h1 => h1 G1 H1 R1 (Same.refl _)⟩

/-! argument lists -/
theorem CellsOk.at {G G' : Hp} {ρ ρ' : Env} {H H' : Hp} (s : Same G G') : ∀ {xs : List V} {cs : List Cell}, CellsOk M F G ρ σ H xs cs → CellsOk M F G' ρ' σ H' xs cs
  | [], [], _ => trivial
  | _ :: _, _ :: _, h => ⟨h.1.at s, CellsOk.at s h.2⟩
  | [], _ :: _, h => h.elim
  | _ :: _, [], h => h.elim
theorem CellsOk.len {G : Hp} {ρ : Env} {H : Hp} : ∀ {xs : List V} {cs : List Cell}, CellsOk M F G ρ σ H xs cs → xs.length = cs.length
  | [], [], _ => rfl
  | _ :: _, _ :: _, h => by rw [List.length_cons, List.length_cons, h.2.len]
  | [], _ :: _, h => h.elim
  | _ :: _, [], h => h.elim
theorem va_nil : PA X [] (tA M E vANil) := PAimp pa_nil fun _ H Q ⟨F, G, ρ, R, h⟩ => h G H R (Same.refl _) [] trivial
theorem va_cons {e : Expr} {es : List Expr} {ve : VX} {vs : VA} (ha : PE X e (tV M E ve)) (hr : PA X es (tA M E vs)) (hs : starEach (e :: es) X.env = (false, eval e X.env) :: starEach es X.env := by rfl) : PA X (e :: es) (tA M E (vACons ve vs)) := by
  refine PAimp (pa_cons ha hr hs) fun σ H Q ⟨F, G, ρ, R, h⟩ => ?_
  refine ⟨F, G, ρ, R, (Post.bind h).imp fun c1 ρ1 G1 H1 R1 s1 h1 x ok1 => ?_⟩
  obtain ⟨G1', R1', s1', ok1'⟩ := settle_ok R1 ok1
  refine ⟨F, G1', ρ1, R1', (Post.bind (h1.up s1')).imp fun cs ρ2 G2 H2 R2 s2 h2 xs ok2 => ?_⟩
  exact h2 G2 H2 R2 (Same.refl _) (x :: xs) ⟨ok1'.at s2, ok2⟩
theorem freezeAll_ok {H : Hp} : ∀ {cs : List Cell} {xs : List V} {G : Hp} {ρ : Env} {ds : List PV} {ρ' : Env}, Rel M F G ρ σ H → CellsOk M F G ρ σ H xs cs → freezeAll ρ (cs.map settle) = some (ds, ρ') → ∃ G', Rel M F G' ρ' σ H ∧ Same G G' ∧ RpAll M G' xs ds
  | [], [], G, ρ, ds, ρ', R, _, e => by cases e; exact ⟨G, R, Same.refl _, .nil⟩
  | c :: cs, x :: xs, G, ρ, ds, ρ', R, h, e => by
    rw [List.map_cons] at e
    obtain ⟨⟨d, ρ1⟩, e1, e⟩ := Option.bind_eq_some_iff.mp e
    obtain ⟨⟨ds', ρ2⟩, e2, e⟩ := Option.map_eq_some_iff.mp e
    cases e
    obtain ⟨G1, R1, s1, r1⟩ := freeze_ok R h.1 e1
    obtain ⟨G2, R2, s2, r2⟩ := freezeAll_ok R1 (CellsOk.at s1 h.2) e2
    exact ⟨G2, R2, s1.trans s2, .cons (r1.mono s2) r2⟩
  | [], _ :: _, _, _, _, _, _, h, _ => h.elim
  | _ :: _, [], _, _, _, _, _, h, _ => h.elim
theorem vx_tup {es : List Expr} {vs : VA} {x1} (h : PA X es (tA M E vs)) : PE X (.Tuple es x1 pos) (tV M E (vTup vs)) := by
  refine PEimp (pe_tup h) fun σ H Q ⟨F, G, ρ, R, h⟩ => ?_
  refine ⟨F, G, ρ, R, (Post.bind h).imp fun cs ρ1 G1 H1 R1 s1 h1 xs ok1 => ?_⟩
  cases q : freezeAll ρ1 (cs.map settle) with
  | none => rw [q] at h1; exact h1.elim
  | some p =>
    obtain ⟨ds, ρ2⟩ := p
    rw [q] at h1
    dsimp only at h1
    obtain ⟨G2, R2, s2, r2⟩ := freezeAll_ok R1 ok1 q
    split at h1
    · rename_i hl
      refine ⟨by rw [r2.length]; exact hl, fun p hp => ?_⟩
      obtain ⟨G3, R3, s3, ok3⟩ := R2.newTup hp r2
      exact h1 G3 _ R3 (s2.trans s3) _ ok3
    · exact h1.elim
theorem vx_lst {es : List Expr} {vs : VA} (h : PA X es (tA M E vs)) : PE X (.List es pos) (tV M E (vLst vs)) := by
  refine PEimp (pe_lst h) fun σ H Q ⟨F, G, ρ, R, h⟩ => ?_
  refine ⟨F, G, ρ, R, (Post.bind h).imp fun cs ρ1 G1 H1 R1 s1 h1 xs ok1 => ?_⟩
  cases q : freezeAll ρ1 (cs.map settle) with
  | none => rw [q] at h1; exact h1.elim
  | some p =>
    obtain ⟨ds, ρ2⟩ := p
    rw [q] at h1
    dsimp only at h1
    obtain ⟨G2, R2, s2, r2⟩ := freezeAll_ok R1 ok1 q
    split at h1
    · rename_i hl
      refine ⟨by rw [r2.length]; exact hl, fun p hp => ?_⟩
      obtain ⟨R3, ok3⟩ := R2.newList hp r2
      exact h1 G2 _ R3 s2 _ ok3
    · exact h1.elim
/-- what a call of a built-in asks of the values -/
def ViewAll (K : Md) (G H : Hp) : List V → List PV → Prop
  | [], [] => True
  | x :: xs, d :: ds => View K G H x d ∧ ViewAll K G H xs ds
  | _, _ => False
def CallV (M : Md) (r : List V → Hp → VK → Prop) (g : List PV → Option Cell) : Prop :=
  ∀ (F : Fr) (G : Hp) (ρ : Env) (σ : L2.St) (H : Hp) (xs : List V) (ds : List PV) (c : Cell) (Q : VK), Rel M F G ρ σ H → ViewAll M G H xs ds → g ds = some c →
    (∀ z G' H', Rel M F G' ρ σ H' → Same G G' → CellOk M F G' ρ σ H' z c → Q z H') → r xs H Q
theorem valAll_ok {G H : Hp} {ρ : Env} (R : Rel M F G ρ σ H) : ∀ {xs : List V} {cs : List Cell} {ds : List PV}, CellsOk M F G ρ σ H xs cs → valAll ρ cs = some ds → ViewAll M G H xs ds
  | [], [], ds, _, e => by cases e; trivial
  | x :: xs, c :: cs, ds, h, e => by
    obtain ⟨d, e1, e⟩ := Option.bind_eq_some_iff.mp e
    obtain ⟨ds', e2, e⟩ := Option.map_eq_some_iff.mp e
    cases e
    exact ⟨h.1.view R e1, valAll_ok R h.2 e2⟩
  | [], _ :: _, _, h, _ => h.elim
  | _ :: _, [], _, h, _ => h.elim
theorem tV_call {r : List V → Hp → VK → Prop} {g : List PV → Option Cell} {vs : VA} (hr : CallV M r g) {Q : VK} (h : tV M E (vCall g vs) σ H Q) : tCB r (tA M E vs) σ H Q := by
  obtain ⟨F, G, ρ, R, h⟩ := h
  refine ⟨F, G, ρ, R, (Post.bind h).imp fun cs ρ1 G1 H1 R1 s1 h1 xs ok1 => ?_⟩
  obtain ⟨c, e, k⟩ := opt_post h1
  obtain ⟨ds, e1, e2⟩ := Option.bind_eq_some_iff.mp e
  exact hr F G1 ρ1 σ H1 xs ds c Q R1 (valAll_ok R1 ok1 e1) e2 fun z G' H' R' s' ok => k G' H' R' s' z ok
theorem vx_callB {x : Str} {p : Pos} {e : Expr} {es : List Expr} {vs : VA} {id : String} {r : List V → Hp → VK → Prop} {g : List PV → Option Cell} (hc : CallR X (.builtin id) r) (hr : CallV M r g) (hg : Gl X x) (hm : X.mg x = none) (hv : bootBuiltins x = some (.builtin id))
    (ha : PA X (e :: es) (tA M E vs)) (hn : x ≠ "__name__" := by decide) (hdb : (x == ("__debug__" : Str)) = false := by decide) (he : starEach (e :: es) X.env = (false, eval e X.env) :: starEach es X.env := by rfl) (hpl : (backTo pos (starEach es X.env)).any (·.1) = false := by rfl) :
    PE X (.Call (.Name x p) (e :: es) [] pos) (tV M E (vCall g vs)) := PEimp (pe_callB hc hg hm hv ha hn hdb he hpl) fun _ _ _ h => tV_call hr h
theorem vx_callTy {x : Str} {p : Pos} {e : Expr} {es : List Expr} {vs : VA} {T : String} {r : List V → Hp → VK → Prop} {g : List PV → Option Cell} (hc : CallR X (.type T) r) (hr : CallV M r g) (hg : Gl X x) (hm : X.mg x = none) (hv : bootBuiltins x = some (.type T))
    (ha : PA X (e :: es) (tA M E vs)) (hn : x ≠ "__name__" := by decide) (hdb : (x == ("__debug__" : Str)) = false := by decide) (he : starEach (e :: es) X.env = (false, eval e X.env) :: starEach es X.env := by rfl) (hpl : (backTo pos (starEach es X.env)).any (·.1) = false := by rfl) :
    PE X (.Call (.Name x p) (e :: es) [] pos) (tV M E (vCall g vs)) := PEimp (pe_callTy hc hg hm hv ha hn hdb he hpl) fun _ _ _ h => tV_call hr h
end
end L2.VL

set_option Elab.async false
set_option linter.all false
set_option maxRecDepth 100000
/-! VL3: operators and built-ins by values. -/
namespace L2.VL
open PySem PySem.Spec PyProof.Rows

section
variable {X : Cx} {M : Md} {F : Fr}

/-! ### + -/
def pAdd : PV → PV → Option Cell
  | .int i, .int j => some (.fz (.int (i + j)))
  | .str a, .str b => if a.length + b.length ≤ sizeLine then some (.fz (.str (a ++ b))) else none
  | .lst a, .lst b => if a.length + b.length ≤ sizeLine then some (.ow (.lst (a ++ b))) else none
  | .tup a, .tup b => if a.length + b.length ≤ sizeLine then some (.fz (.tup (a ++ b))) else none
  | _, _ => none
theorem S_append (a b : List Nat) : S a ++ S b = S (a ++ b) := by
  show (⟨a.toArray ++ b.toArray⟩ : Str) = ⟨(a ++ b).toArray⟩
  simp
abbrev rAddV (K : PySem.W.Frag) : R2 := fun x y H Q => (rI0 fun i j => .int (i + j)) x y H Q ∨ ((∃ i j, x = .str i ∧ y = .str j ∧ i.length + j.length ≤ sizeLine ∧ Q (.str (i ++ j)) H) ∨ (rCat x y H Q ∨ rCatA K x y H Q))
theorem or_add : OpR X (binaryOp .Add) (rAddV X.K) := op_add.or (op_add_str.or (op_cat.or op_catA))
theorem rpAll_nil' {M : Md} {G : Hp} {xs : List V} {ds : List PV} (h : RpAll M G xs ds) : xs = [] ↔ ds = [] := by cases h <;> simp
theorem ov_add (hK : M.K = X.K) : OpV M (rAddV X.K) pAdd := fun F G ρ σ H x y d e c Q R v w eg k => by
  cases d with
  | int i =>
    cases e with
    | int j => cases v.int; cases w.int; cases eg; exact .inl ⟨i, j, rfl, rfl, k _ G H R (Same.refl _) (.int _)⟩
    | _ => cases eg
  | str a =>
    cases e with
    | str b =>
      cases v.str; cases w.str
      dsimp only [pAdd] at eg
      by_cases hl : a.length + b.length ≤ sizeLine
      · rw [if_pos hl] at eg; cases eg
        exact .inr (.inl ⟨_, _, rfl, rfl, by rw [strlen, strlen]; exact hl, by rw [S_append]; exact k _ G H R (Same.refl _) (.str _)⟩)
      · rw [if_neg hl] at eg; cases eg
    | _ => cases eg
  | lst a =>
    cases e with
    | lst b =>
      obtain ⟨p, xs, rfl, hp, hx⟩ := v.lst R.sub
      obtain ⟨q, ys, rfl, hq, hy⟩ := w.lst R.sub
      dsimp only [pAdd] at eg
      by_cases hl : a.length + b.length ≤ sizeLine
      · rw [if_pos hl] at eg; cases eg
        refine .inr (.inr (.inl ⟨p, q, xs, ys, rfl, rfl, hp, hq, by rw [hx.length, hy.length]; exact hl, fun r hr => ?_⟩))
        obtain ⟨R', ok⟩ := R.newList hr (hx.append hy)
        exact k _ G _ R' (Same.refl _) ok
      · rw [if_neg hl] at eg; cases eg
    | _ => cases eg
  | tup a =>
    cases e with
    | tup b =>
      obtain ⟨p, xs, rfl, hp, hx⟩ := v.tup
      obtain ⟨q, ys, rfl, hq, hy⟩ := w.tup
      dsimp only [pAdd] at eg
      by_cases hl : a.length + b.length ≤ sizeLine
      · rw [if_pos hl] at eg; cases eg
        refine .inr (.inr (.inr ⟨p, q, xs, ys, rfl, rfl, hK ▸ Same.seqT R.sub hp, hK ▸ Same.seqT R.sub hq, by rw [hx.length, hy.length]; exact hl, fun z => ?_, fun z1 z => ?_, fun _ _ r hr => ?_⟩))
        · have z' := (rpAll_nil' hx).mp z
          subst z'
          exact k _ G H R (Same.refl _) (.tup hq hy)
        · have z' := (rpAll_nil' hy).mp z
          subst z'
          rw [List.append_nil] at k
          exact k _ G H R (Same.refl _) (.tup hp hx)
        · obtain ⟨G', R', s', ok⟩ := R.newTup hr (hx.append hy)
          exact k _ G' _ R' s' ok
      · rw [if_neg hl] at eg; cases eg
    | _ => cases eg
  | _ => cases eg

/-! ### ints -/
def pI (g : Int → Int → Option Int) : PV → PV → Option Cell
  | .int i, .int j => (g i j).map fun k => .fz (.int k)
  | _, _ => none
theorem ov_int {C : Int → Int → Prop} {f : Int → Int → Int} {g : Int → Int → Option Int} (h : ∀ i j k, g i j = some k → C i j ∧ k = f i j) : OpV M (rI C fun i j => .int (f i j)) (pI g) := fun F G ρ σ H x y d e c Q R v w eg k => by
  cases d with
  | int i =>
    cases e with
    | int j =>
      cases v.int; cases w.int
      obtain ⟨z, e1, rfl⟩ := Option.map_eq_some_iff.mp eg
      obtain ⟨h1, rfl⟩ := h i j z e1
      exact ⟨i, j, rfl, rfl, h1, k _ G H R (Same.refl _) (.int _)⟩
    | _ => cases eg
  | _ => cases eg
def zSub (i j : Int) : Option Int := some (i - j)
theorem or_sub : OpR X (binaryOp .Sub) (rI (fun _ _ => True) fun i j => .int (i - j)) := opI fun _ _ _ _ _ _ _ _ q => sub_int q
theorem ov_sub : OpV M (rI (fun _ _ => True) fun i j => .int (i - j)) (pI zSub) := ov_int fun i j k e => ⟨trivial, (Option.some.inj e).symm⟩
/-- a check of size that stays where it stands for an unknown number -/
def smallZ (k : Nat) : Int → Bool
  | .ofNat n => Nat.ble n k
  | .negSucc n => Nat.ble n k
theorem smallZ_iff {k : Nat} {i : Int} : smallZ k i = true ↔ -(k : Int) - 1 ≤ i ∧ i ≤ k := by
  cases i with
  | ofNat n =>
    show Nat.ble n k = true ↔ _
    rw [Nat.ble_eq]
    exact ⟨fun h => ⟨by have : (0 : Int) ≤ Int.ofNat n := Int.natCast_nonneg n; omega, Int.ofNat_le.mpr h⟩, fun h => Int.ofNat_le.mp h.2⟩
  | negSucc n =>
    show Nat.ble n k = true ↔ _
    rw [Nat.ble_eq]
    constructor
    · intro h; constructor <;> omega
    · rintro ⟨h1, h2⟩; omega
theorem smallZ_of {k : Nat} {i : Int} (h : -(k : Int) - 1 ≤ i) (h2 : i ≤ k) : smallZ k i = true := smallZ_iff.mpr ⟨h, h2⟩
def cMul (i j : Int) : Bool := smallZ 18446744073709551614 i || smallZ 18446744073709551614 j
def zMul (i j : Int) : Option Int := if cMul i j = true then some (i * j) else none
theorem zMul_ok (i j k : Int) (e : zMul i j = some k) : CMul i j ∧ k = i * j := by
  unfold zMul at e
  by_cases hc : cMul i j = true
  · rw [if_pos hc] at e
    refine ⟨?_, (Option.some.inj e).symm⟩
    unfold cMul at hc
    rw [Bool.or_eq_true, smallZ_iff, smallZ_iff] at hc
    rcases hc with ⟨h1, h2⟩ | ⟨h1, h2⟩
    · exact .inl ⟨by omega, by omega⟩
    · exact .inr ⟨by omega, by omega⟩
  · rw [if_neg hc] at e; cases e
theorem ov_mul : OpV M (rI CMul fun i j => .int (i * j)) (pI zMul) := ov_int zMul_ok
def zMod (i j : Int) : Option Int := if 0 < j then some (i % j) else none
theorem ov_mod : OpV M (rI (fun _ j => 0 < j) fun i j => .int (i % j)) (pI zMod) := ov_int fun i j k e => by
  unfold zMod at e
  by_cases h : 0 < j
  · rw [if_pos h] at e; exact ⟨h, (Option.some.inj e).symm⟩
  · rw [if_neg h] at e; cases e
def zDiv (i j : Int) : Option Int := if 0 < j ∧ smallZ 1073741823 j = true then some (i / j) else none
theorem ov_div : OpV M (rI CDiv fun i j => .int (i / j)) (pI zDiv) := ov_int fun i j k e => by
  unfold zDiv at e
  by_cases h : 0 < j ∧ smallZ 1073741823 j = true
  · rw [if_pos h] at e; exact ⟨⟨h.1, by have := (smallZ_iff.mp h.2).2; omega⟩, (Option.some.inj e).symm⟩
  · rw [if_neg h] at e; cases e
def zPow (i j : Int) : Option Int := if 0 ≤ j ∧ smallZ 1000000 j = true ∧ smallZ 18446744073709551614 i = true then some (i ^ j.toNat) else none
theorem ov_pow : OpV M (rI CPow fun i j => .int (i ^ j.toNat)) (pI zPow) := ov_int fun i j k e => by
  unfold zPow at e
  by_cases h : 0 ≤ j ∧ smallZ 1000000 j = true ∧ smallZ 18446744073709551614 i = true
  · rw [if_pos h] at e; exact ⟨⟨h.1, by have := (smallZ_iff.mp h.2.1).2; omega, by have := smallZ_iff.mp h.2.2; omega⟩, (Option.some.inj e).symm⟩
  · rw [if_neg h] at e; cases e

/-! ### order of ints, of texts -/
def gLtI (f : Int → Int → Bool) : PV → PV → Option Bool
  | .int i, .int j => some (f i j)
  | _, _ => none
theorem ob_int {f : Int → Int → Bool} : OpB M (rI0 fun i j => .bl (f i j)) (gLtI f) := fun F G ρ σ H x y d e b Q R v w eg q => by
  cases d with
  | int i =>
    cases e with
    | int j => cases v.int; cases w.int; cases eg; exact ⟨i, j, rfl, rfl, q⟩
    | _ => cases eg
  | _ => cases eg
abbrev pLt : PV → PV → Option Bool := gLtI fun i j => decide (i < j)
abbrev pLe : PV → PV → Option Bool := gLtI fun i j => decide (i ≤ j)
abbrev pGt : PV → PV → Option Bool := gLtI fun i j => decide (j < i)
abbrev pGe : PV → PV → Option Bool := gLtI fun i j => decide (j ≤ i)

/-! ### == -/
mutual
def toD : PV → Option PyData
  | .non => some .none
  | .bl b => some (.bool b)
  | .int i => some (.int i)
  | .str l => some (.str (S l))
  | .tup xs => (toDs xs).map .tuple
  | .lst xs => (toDs xs).map .list
  | _ => none
def toDs : List PV → Option (List PyData)
  | [] => some []
  | x :: xs => (toD x).bind fun d => (toDs xs).map fun ds => d :: ds
end
mutual
theorem Rp.dp {M : Md} {H : Hp} : ∀ {d : PV} {x : V} {e : PyData}, Rp M H x d → toD d = some e → Dp M.K H x e
  | .non, _, _, h, e => by cases h.non_inv; rw [toD] at e; cases e; exact .non
  | .bl b, _, _, h, e => by cases h.bl_inv; rw [toD] at e; cases e; exact .bl b
  | .int i, _, _, h, e => by cases h.int_inv; rw [toD] at e; cases e; exact .int i
  | .str l, _, _, h, e => by cases h.str_inv; rw [toD] at e; cases e; exact .str _
  | .tup xs, _, _, h, e => by
    obtain ⟨a, vs, rfl, hs, ha⟩ := h.tup_inv
    rw [toD] at e
    obtain ⟨ds, e1, rfl⟩ := Option.map_eq_some_iff.mp e
    exact .tup hs (ha.dp e1)
  | .lst xs, _, _, h, e => by
    rw [toD] at e
    obtain ⟨ds, e1, rfl⟩ := Option.map_eq_some_iff.mp e
    cases h with
    | obj hs ob =>
      obtain ⟨vs, rfl, ha⟩ := ob.lst_inv
      exact .lst (SqL.of hs) (ha.dp e1)
  | .scr _, _, _, _, e => by rw [toD] at e <;> first | cases e | (intros; intro z; cases z)
  | .ty _, _, _, _, e => by rw [toD] at e <;> first | cases e | (intros; intro z; cases z)
  | .cls _, _, _, _, e => by rw [toD] at e <;> first | cases e | (intros; intro z; cases z)
  | .dK _, _, _, _, e => by rw [toD] at e <;> first | cases e | (intros; intro z; cases z)
  | .dT _, _, _, _, e => by rw [toD] at e <;> first | cases e | (intros; intro z; cases z)
  | .ins _ _, _, _, _, e => by rw [toD] at e <;> first | cases e | (intros; intro z; cases z)
theorem RpAll.dp {M : Md} {H : Hp} : ∀ {ds : List PV} {xs : List V} {es : List PyData}, RpAll M H xs ds → toDs ds = some es → DpAll M.K H xs es
  | [], _, _, h, e => by cases h; rw [toDs] at e; cases e; exact .nil
  | d :: ds, _, _, h, e => by
    cases h with
    | cons h1 h2 =>
      rw [toDs] at e
      obtain ⟨d', e1, e⟩ := Option.bind_eq_some_iff.mp e
      obtain ⟨ds', e2, rfl⟩ := Option.map_eq_some_iff.mp e
      exact .cons (h1.dp e1) (h2.dp e2)
end
def pEq (d e : PV) : Option Bool := (toD d).bind fun a => (toD e).bind fun b => if SeqAt.shaped a = true ∧ SeqAt.shaped b = true then some (PyData.eqv a b) else none
def pNe (d e : PV) : Option Bool := (pEq d e).map fun b => !b
theorem ob_eq (hK : M.K = X.K) : OpB M (rEqD X.K) pEq := fun F G ρ σ H x y d e b Q R v w eg q => by
  obtain ⟨a, e1, eg⟩ := Option.bind_eq_some_iff.mp eg
  obtain ⟨c, e2, eg⟩ := Option.bind_eq_some_iff.mp eg
  by_cases h : SeqAt.shaped a = true ∧ SeqAt.shaped c = true
  · rw [if_pos h] at eg; cases eg
    exact ⟨a, c, hK ▸ (v.rp R.sub).dp e1, hK ▸ (w.rp R.sub).dp e2, h.1, h.2, q⟩
  · rw [if_neg h] at eg; cases eg
theorem ob_ne (hK : M.K = X.K) : OpB M (rNeD X.K) pNe := fun F G ρ σ H x y d e b Q R v w eg q => by
  obtain ⟨b', eg', rfl⟩ := Option.map_eq_some_iff.mp eg
  obtain ⟨a, e1, eg⟩ := Option.bind_eq_some_iff.mp eg'
  obtain ⟨c, e2, eg⟩ := Option.bind_eq_some_iff.mp eg
  by_cases h : SeqAt.shaped a = true ∧ SeqAt.shaped c = true
  · rw [if_pos h] at eg; cases eg
    exact ⟨a, c, hK ▸ (v.rp R.sub).dp e1, hK ▸ (w.rp R.sub).dp e2, h.1, h.2, q⟩
  · rw [if_neg h] at eg; cases eg

/-! ### in -/
def pInT (d : PV) (ds : List PV) : Option Bool := (toD d).bind fun a => (toDs ds).bind fun bs =>
  if SeqAt.shaped a = true ∧ SeqAt.shaped (.list bs) = true then some (bs.any fun z => PyData.eqv z a) else none
def flatP : PV → Option V
  | .non => some .non
  | .bl b => some (.bl b)
  | .int i => some (.int i)
  | .str l => some (.str (S l))
  | _ => none
def flatPs : List PV → Option (List V)
  | [] => some []
  | x :: xs => (flatP x).bind fun d => (flatPs xs).map fun ds => d :: ds
def pIn : PV → PV → Option Bool
  | .str [c], .str z => some (decide (c ∈ z))
  | d, .lst ds => pInT d ds
  | d, .tup ds => (flatP d).bind fun x => (flatPs ds).map fun xs => inV x xs
  | _, _ => none
def pNotIn (d e : PV) : Option Bool := (pIn d e).map fun b => !b
theorem Rp.flat {M : Md} {H : Hp} {x : V} {d : PV} {v : V} (h : Rp M H x d) (e : flatP d = some v) : x = v ∧ flatV x = true := by
  cases d with
  | non => cases h.non_inv; cases e; exact ⟨rfl, rfl⟩
  | bl b => cases h.bl_inv; cases e; exact ⟨rfl, rfl⟩
  | int b => cases h.int_inv; cases e; exact ⟨rfl, rfl⟩
  | str b => cases h.str_inv; cases e; exact ⟨rfl, rfl⟩
  | _ => cases e
theorem RpAll.flat {M : Md} {H : Hp} : ∀ {ds : List PV} {xs : List V} {vs : List V}, RpAll M H xs ds → flatPs ds = some vs → xs = vs ∧ xs.all flatV = true
  | [], _, _, h, e => by cases h; cases e; exact ⟨rfl, rfl⟩
  | d :: ds, _, _, h, e => by
    cases h with
    | cons h1 h2 =>
      obtain ⟨v, e1, e⟩ := Option.bind_eq_some_iff.mp e
      obtain ⟨vs, e2, rfl⟩ := Option.map_eq_some_iff.mp e
      obtain ⟨rfl, f1⟩ := h1.flat e1
      obtain ⟨rfl, f2⟩ := h2.flat e2
      exact ⟨rfl, by rw [List.all_cons, f1, f2]; rfl⟩
abbrev rInV (K : PySem.W.Frag) : R2 := fun x y H Q => (∃ (c : Nat) (z : Str), x = .str ⟨#[c]⟩ ∧ y = .str z ∧ Q (.bl (decide (c ∈ z.cps.toList))) H) ∨ (rInD K x y H Q ∨ rIn K false x y H Q)
abbrev rNotInV (K : PySem.W.Frag) : R2 := fun x y H Q => (∃ (c : Nat) (z : Str), x = .str ⟨#[c]⟩ ∧ y = .str z ∧ Q (.bl (!decide (c ∈ z.cps.toList))) H) ∨ (rNotInD K x y H Q ∨ rIn K true x y H Q)
theorem or_in (hu : X.A.units + 65 < cLine) : OpR X (compareOp .In) (rInV X.K) := op_in_sign.or ((op_inD hu).or op_in_seq)
theorem or_notIn (hu : X.A.units + 65 < cLine) : OpR X (compareOp .NotIn) (rNotInV X.K) := op_notIn_sign.or ((op_notInD hu).or op_notIn_seq)
theorem ob_in (hK : M.K = X.K) : OpB M (rInV X.K) pIn := fun F G ρ σ H x y d e b Q R v w eg q => by
  unfold pIn at eg
  split at eg
  · rename_i c z
    cases v.str; cases w.str; cases eg
    exact .inl ⟨c, S z, rfl, rfl, q⟩
  · rename_i ds
    obtain ⟨a, e1, eg⟩ := Option.bind_eq_some_iff.mp eg
    obtain ⟨bs, e2, eg⟩ := Option.bind_eq_some_iff.mp eg
    by_cases h : SeqAt.shaped a = true ∧ SeqAt.shaped (.list bs) = true
    · rw [if_pos h] at eg; cases eg
      have e3 : toD (.lst ds) = some (.list bs) := by rw [toD, e2]; rfl
      exact .inr (.inl ⟨a, bs, hK ▸ (v.rp R.sub).dp e1, hK ▸ (w.rp R.sub).dp e3, h.1, h.2, q⟩)
    · rw [if_neg h] at eg; cases eg
  · obtain ⟨x', e1, eg⟩ := Option.bind_eq_some_iff.mp eg
    obtain ⟨xs', e2, rfl⟩ := Option.map_eq_some_iff.mp eg
    obtain ⟨a, xs, rfl, hs, ha⟩ := w.tup
    obtain ⟨rfl, f1⟩ := (v.rp R.sub).flat e1
    obtain ⟨rfl, f2⟩ := ha.flat e2
    exact .inr (.inr ⟨a, xs, rfl, .inr (hK ▸ Same.seqT R.sub hs), f1, f2, by rw [if_neg Bool.false_ne_true]; exact q⟩)
  · cases eg
theorem ob_notIn (hK : M.K = X.K) : OpB M (rNotInV X.K) pNotIn := fun F G ρ σ H x y d e b Q R v w eg q => by
  obtain ⟨b', eg', rfl⟩ := Option.map_eq_some_iff.mp eg
  clear eg
  have eg := eg'
  clear eg'
  unfold pIn at eg
  split at eg
  · rename_i c z
    cases v.str; cases w.str; cases eg
    exact .inl ⟨c, S z, rfl, rfl, q⟩
  · rename_i ds
    obtain ⟨a, e1, eg⟩ := Option.bind_eq_some_iff.mp eg
    obtain ⟨bs, e2, eg⟩ := Option.bind_eq_some_iff.mp eg
    by_cases h : SeqAt.shaped a = true ∧ SeqAt.shaped (.list bs) = true
    · rw [if_pos h] at eg; cases eg
      have e3 : toD (.lst ds) = some (.list bs) := by rw [toD, e2]; rfl
      exact .inr (.inl ⟨a, bs, hK ▸ (v.rp R.sub).dp e1, hK ▸ (w.rp R.sub).dp e3, h.1, h.2, q⟩)
    · rw [if_neg h] at eg; cases eg
  · obtain ⟨x', e1, eg⟩ := Option.bind_eq_some_iff.mp eg
    obtain ⟨xs', e2, rfl⟩ := Option.map_eq_some_iff.mp eg
    obtain ⟨a, xs, rfl, hs, ha⟩ := w.tup
    obtain ⟨rfl, f1⟩ := (v.rp R.sub).flat e1
    obtain ⟨rfl, f2⟩ := ha.flat e2
    exact .inr (.inr ⟨a, xs, rfl, .inr (hK ▸ Same.seqT R.sub hs), f1, f2, by rw [if_pos rfl]; exact q⟩)
  · cases eg
end
end L2.VL

set_option Elab.async false
set_option linter.all false
set_option maxRecDepth 100000
/-! VL4: built-ins, subscripts, slices, methods that only read. -/
namespace L2.VL
open PySem PySem.Spec PyProof.Rows

section
variable {X : Cx} {M : Md} {F : Fr}

theorem ViewAll.one {M : Md} {G H : Hp} {xs : List V} {d : PV} (h : ViewAll M G H xs [d]) : ∃ x, xs = [x] ∧ View M G H x d := by
  cases xs with
  | nil => exact h.elim
  | cons x r =>
    cases r with
    | nil => exact ⟨x, rfl, h.1⟩
    | cons y r => exact h.2.elim
theorem ViewAll.two {M : Md} {G H : Hp} {xs : List V} {d e : PV} (h : ViewAll M G H xs [d, e]) : ∃ x y, xs = [x, y] ∧ View M G H x d ∧ View M G H y e := by
  cases xs with
  | nil => exact h.elim
  | cons x r =>
    obtain ⟨y, rfl, v⟩ := ViewAll.one h.2
    exact ⟨x, y, rfl, h.1, v⟩

/-! len -/
def pLen : List PV → Option Cell
  | [.str l] => if l.length ≤ sizeLine then some (.fz (.int l.length)) else none
  | [.lst ds] => some (.fz (.int ds.length))
  | [.tup ds] => some (.fz (.int ds.length))
  | [.scr ns] => some (.fz (.int ns.length))
  | _ => none
abbrev rLenV (K : PySem.W.Frag) : List V → Hp → VK → Prop := fun xs H Q => ∃ x n, xs = [x] ∧ LenV K x H n ∧ Q (.int n) H
theorem cv_len (hK : M.K = X.K) : CallV M (rLenV X.K) pLen := fun F G ρ σ H xs ds c Q R va eg k => by
  unfold pLen at eg
  split at eg
  · rename_i l
    obtain ⟨x, rfl, v⟩ := va.one
    cases v.str
    by_cases hl : l.length ≤ sizeLine
    · rw [if_pos hl] at eg; cases eg
      exact ⟨_, l.length, rfl, ⟨by rw [strlen]; exact hl, (strlen l).symm⟩, k _ G H R (Same.refl _) (.int _)⟩
    · rw [if_neg hl] at eg; cases eg
  · rename_i es
    obtain ⟨x, rfl, v⟩ := va.one
    obtain ⟨a, vs, rfl, ha, hv⟩ := v.lst R.sub
    cases eg
    exact ⟨_, es.length, rfl, .inl ⟨vs, SqL.of ha, hv.length.symm⟩, k _ G H R (Same.refl _) (.int _)⟩
  · rename_i es
    obtain ⟨x, rfl, v⟩ := va.one
    obtain ⟨a, vs, rfl, ha, hv⟩ := v.tup
    cases eg
    exact ⟨_, es.length, rfl, .inr ⟨vs, hK ▸ Same.seqT R.sub ha, hv.length.symm⟩, k _ G H R (Same.refl _) (.int _)⟩
  · rename_i es
    obtain ⟨x, rfl, v⟩ := va.one
    obtain ⟨a, rfl, ha⟩ := v.scr
    cases eg
    exact ⟨_, es.length, rfl, .inl ⟨_, hK ▸ R.sub.seq ha, by rw [List.length_map]⟩, k _ G H R (Same.refl _) (.int _)⟩
  · cases eg

/-! list, tuple -/
def pList : List PV → Option Cell
  | [.lst ds] => some (.ow (.lst ds))
  | [.tup ds] => some (.ow (.lst ds))
  | [.str l] => if l.length ≤ sizeLine then some (.ow (.lst (l.map fun c => .str [c]))) else none
  | _ => none
theorem rpAll_signs {M : Md} {G : Hp} : ∀ l : List Nat, RpAll M G (l.map fun c => V.str ⟨#[c]⟩) (l.map fun c => PV.str [c])
  | [] => .nil
  | c :: r => .cons (.str [c]) (rpAll_signs r)
theorem cr_listStr (hc : X.calm = true) : CallR X (.type "list") (fun xs H Q => ∃ l : List Nat, xs = [.str (S l)] ∧ l.length ≤ sizeLine ∧ ∀ p, H p = none → Q (.ref p) (upd H p (.lst (l.map fun c => V.str ⟨#[c]⟩)))) := by
  intro pins s σ H xs us Q I r h
  obtain ⟨l, rfl, hl, q⟩ := h
  obtain ⟨u, rfl, t, rfl⟩ := vals1 r
  refine call_list_str (I.ok.hd hc) (S l) t (fun h' tk acc c kp hg it => ?_) (by simpa [S] using hl)
  have hn : H s.heap.objs.size = none := I.hok.fresh (Nat.le_refl _)
  refine ⟨.ref s.heap.objs.size, _, I.laid (t' := tk) (o := .lst (l.map fun c => V.str ⟨#[c]⟩)) kp (Nat.le_refl _) ⟨by rw [List.length_map]; exact hl, acc.toList, c, ?_, by simpa using hg⟩, rfl, q _ hn⟩
  refine vals_of_at ?_ fun j x u hx hu => ?_
  · rw [List.length_map, Array.length_toList]
    have := it.1
    simpa [S] using this.symm
  · rw [List.getElem?_map] at hx
    obtain ⟨c', e1, rfl⟩ := Option.map_eq_some_iff.mp hx
    rw [Array.getElem?_toList] at hu
    obtain ⟨c2, t2, e2, rfl⟩ := it.2 j u hu
    have e3 : l[j]? = some c2 := by simpa [S] using e2
    rw [e1] at e3; cases e3
    exact ⟨t2, rfl⟩
abbrev rListV (K : PySem.W.Frag) : List V → Hp → VK → Prop := fun xs H Q => (∃ p ys, xs = [.ref p] ∧ (SqL K H p ys ∨ SqT K H p ys) ∧ ∀ l, H l = none → Q (.ref l) (upd H l (.lst ys))) ∨
  (∃ l : List Nat, xs = [.str (S l)] ∧ l.length ≤ sizeLine ∧ ∀ p, H p = none → Q (.ref p) (upd H p (.lst (l.map fun c => V.str ⟨#[c]⟩))))
theorem cr_list (hc : X.calm = true) : CallR X (.type "list") (rListV X.K) := call_list_of.or (cr_listStr hc)
theorem cv_list (hK : M.K = X.K) : CallV M (rListV X.K) pList := fun F G ρ σ H xs ds c Q R va eg k => by
  unfold pList at eg
  split at eg
  · rename_i es
    obtain ⟨x, rfl, v⟩ := va.one
    obtain ⟨a, vs, rfl, ha, hv⟩ := v.lst R.sub
    cases eg
    refine .inl ⟨a, vs, rfl, .inl (SqL.of ha), fun p hp => ?_⟩
    obtain ⟨R', ok⟩ := R.newList hp hv
    exact k _ G _ R' (Same.refl _) ok
  · rename_i es
    obtain ⟨x, rfl, v⟩ := va.one
    obtain ⟨a, vs, rfl, ha, hv⟩ := v.tup
    cases eg
    refine .inl ⟨a, vs, rfl, .inr (hK ▸ Same.seqT R.sub ha), fun p hp => ?_⟩
    obtain ⟨R', ok⟩ := R.newList hp hv
    exact k _ G _ R' (Same.refl _) ok
  · rename_i l
    obtain ⟨x, rfl, v⟩ := va.one
    cases v.str
    by_cases hl : l.length ≤ sizeLine
    · rw [if_pos hl] at eg; cases eg
      refine .inr ⟨l, rfl, hl, fun p hp => ?_⟩
      obtain ⟨R', ok⟩ := R.newList hp (rpAll_signs l)
      exact k _ G _ R' (Same.refl _) ok
    · rw [if_neg hl] at eg; cases eg
  · cases eg
def pTuple : List PV → Option Cell
  | [.lst ds] => some (.fz (.tup ds))
  | [.tup ds] => some (.fz (.tup ds))
  | _ => none
abbrev rTupleV (K : PySem.W.Frag) : List V → Hp → VK → Prop := fun xs H Q => ∃ p ys, xs = [.ref p] ∧ ((SqL K H p ys ∧ ∀ l, H l = none → Q (.ref l) (upd H l (.tup ys))) ∨ (SqT K H p ys ∧ Q (.ref p) H))
theorem cv_tuple (hK : M.K = X.K) : CallV M (rTupleV X.K) pTuple := fun F G ρ σ H xs ds c Q R va eg k => by
  unfold pTuple at eg
  split at eg
  · rename_i es
    obtain ⟨x, rfl, v⟩ := va.one
    obtain ⟨a, vs, rfl, ha, hv⟩ := v.lst R.sub
    cases eg
    refine ⟨a, vs, rfl, .inl ⟨SqL.of ha, fun p hp => ?_⟩⟩
    obtain ⟨G', R', s', ok⟩ := R.newTup hp hv
    exact k _ G' _ R' s' ok
  · rename_i es
    obtain ⟨x, rfl, v⟩ := va.one
    obtain ⟨a, vs, rfl, ha, hv⟩ := v.tup
    cases eg
    exact ⟨a, vs, rfl, .inr ⟨hK ▸ Same.seqT R.sub ha, k _ G H R (Same.refl _) (.tup ha hv)⟩⟩
  · cases eg

/-! all, any -/
def bools : List PV → Option (List Bool)
  | [] => some []
  | .bl b :: r => (bools r).map fun bs => b :: bs
  | _ => none
theorem bools_map : ∀ {ds : List PV} {bs : List Bool}, bools ds = some bs → ds = bs.map PV.bl
  | [], _, e => by cases e; rfl
  | d :: r, _, e => by
    cases d with
    | bl b =>
      obtain ⟨bs, e1, rfl⟩ := Option.map_eq_some_iff.mp e
      rw [bools_map e1]; rfl
    | _ => cases e
theorem bools_of : ∀ bs : List Bool, bools (bs.map PV.bl) = some bs
  | [] => rfl
  | b :: r => by rw [List.map_cons]; dsimp only [bools]; rw [bools_of r]; rfl
def pAll : List PV → Option Cell
  | [.lst ds] => (bools ds).map fun bs => .fz (.bl (bs.all id))
  | _ => none
def pAny : List PV → Option Cell
  | [.lst ds] => (bools ds).map fun bs => .fz (.bl (bs.any id))
  | _ => none
theorem cv_all : CallV M (rAll X.K) pAll := fun F G ρ σ H xs ds c Q R va eg k => by
  unfold pAll at eg
  split at eg
  · obtain ⟨x, rfl, v⟩ := va.one
    obtain ⟨a, vs, rfl, ha, hv⟩ := v.lst R.sub
    obtain ⟨bs, e1, rfl⟩ := Option.map_eq_some_iff.mp eg
    rw [bools_map e1] at hv
    cases hv.bls
    exact ⟨a, bs, rfl, SqL.of ha, k _ G H R (Same.refl _) (.bl _)⟩
  · cases eg
theorem cv_any : CallV M (rAny X.K) pAny := fun F G ρ σ H xs ds c Q R va eg k => by
  unfold pAny at eg
  split at eg
  · obtain ⟨x, rfl, v⟩ := va.one
    obtain ⟨a, vs, rfl, ha, hv⟩ := v.lst R.sub
    obtain ⟨bs, e1, rfl⟩ := Option.map_eq_some_iff.mp eg
    rw [bools_map e1] at hv
    cases hv.bls
    exact ⟨a, bs, rfl, SqL.of ha, k _ G H R (Same.refl _) (.bl _)⟩
  · cases eg

/-! ints -/
def pMax : List PV → Option Cell
  | [.int i, .int j] => some (.fz (.int (if j > i then j else i)))
  | _ => none
def pMin : List PV → Option Cell
  | [.int i, .int j] => some (.fz (.int (if j < i then j else i)))
  | _ => none
def pAbs : List PV → Option Cell
  | [.int i] => some (.fz (.int (if i < 0 then -i else i)))
  | _ => none
def pInt : List PV → Option Cell
  | [.int i] => some (.fz (.int i))
  | [.bl k] => some (.fz (.int (if k then 1 else 0)))
  | _ => none
theorem cv_max : CallV M (fun xs H Q => ∃ i j, xs = [.int i, .int j] ∧ Q (.int (if j > i then j else i)) H) pMax := fun F G ρ σ H xs ds c Q R va eg k => by
  unfold pMax at eg
  split at eg
  · obtain ⟨x, y, rfl, v, w⟩ := va.two
    cases v.int; cases w.int; cases eg
    exact ⟨_, _, rfl, k _ G H R (Same.refl _) (.int _)⟩
  · cases eg
theorem cv_min : CallV M (fun xs H Q => ∃ i j, xs = [.int i, .int j] ∧ Q (.int (if j < i then j else i)) H) pMin := fun F G ρ σ H xs ds c Q R va eg k => by
  unfold pMin at eg
  split at eg
  · obtain ⟨x, y, rfl, v, w⟩ := va.two
    cases v.int; cases w.int; cases eg
    exact ⟨_, _, rfl, k _ G H R (Same.refl _) (.int _)⟩
  · cases eg
theorem cv_abs : CallV M (fun xs H Q => ∃ i, xs = [.int i] ∧ Q (.int (if i < 0 then -i else i)) H) pAbs := fun F G ρ σ H xs ds c Q R va eg k => by
  unfold pAbs at eg
  split at eg
  · obtain ⟨x, rfl, v⟩ := va.one
    cases v.int; cases eg
    exact ⟨_, rfl, k _ G H R (Same.refl _) (.int _)⟩
  · cases eg
theorem cv_int : CallV M (fun xs H Q => (∃ i, xs = [.int i] ∧ Q (.int i) H) ∨ ∃ k, xs = [.bl k] ∧ Q (.int (if k then 1 else 0)) H) pInt := fun F G ρ σ H xs ds c Q R va eg k => by
  unfold pInt at eg
  split at eg
  · obtain ⟨x, rfl, v⟩ := va.one
    cases v.int; cases eg
    exact .inl ⟨_, rfl, k _ G H R (Same.refl _) (.int _)⟩
  · obtain ⟨x, rfl, v⟩ := va.one
    cases v.bl; cases eg
    exact .inr ⟨_, rfl, k _ G H R (Same.refl _) (.int _)⟩
  · cases eg
def pDivmod : List PV → Option Cell
  | [.int i, .int j] => if 0 < j ∧ smallZ 1073741823 j = true then some (.fz (.tup [.int (i / j), .int (i % j)])) else none
  | _ => none
theorem cv_divmod : CallV M (fun xs H Q => ∃ i j, xs = [.int i, .int j] ∧ CDiv i j ∧ ∀ p, H p = none → Q (.ref p) (upd H p (.tup [.int (i / j), .int (i % j)]))) pDivmod := fun F G ρ σ H xs ds c Q R va eg k => by
  unfold pDivmod at eg
  split at eg
  · rename_i i j
    obtain ⟨x, y, rfl, v, w⟩ := va.two
    cases v.int; cases w.int
    by_cases h : 0 < j ∧ smallZ 1073741823 j = true
    · rw [if_pos h] at eg; cases eg
      refine ⟨_, _, rfl, ⟨h.1, by have := (smallZ_iff.mp h.2).2; omega⟩, fun p hp => ?_⟩
      obtain ⟨G', R', s', ok⟩ := R.newTup hp (.cons (.int _) (.cons (.int _) .nil))
      exact k _ G' _ R' s' ok
    · rw [if_neg h] at eg; cases eg
  · cases eg

/-! isinstance -/
def tyOf : PV → Option String
  | .non => some "NoneType"
  | .bl _ => some "bool"
  | .int _ => some "int"
  | .str _ => some "str"
  | .tup _ => some "tuple"
  | .lst _ => some "list"
  | .dK _ => some "dict"
  | .dT _ => some "dict"
  | _ => none
/-- the answers, written out -/
def isT (a b : String) : Option Bool :=
  if ["NoneType", "bool", "int", "str", "tuple", "list", "dict"].contains a && ["bool", "int", "str", "tuple", "list", "dict"].contains b then some (a == b || (a == "bool" && b == "int")) else none
theorem isT_ok : ∀ a ∈ ["NoneType", "bool", "int", "str", "tuple", "list", "dict"], ∀ b ∈ ["bool", "int", "str", "tuple", "list", "dict"], kitB a b = some (a == b || (a == "bool" && b == "int")) := by decide +kernel
theorem isT_kit {K : PySem.W.Frag} {a b : String} {r : Bool} (h : isT a b = some r) : PySem.W.kitOne K (.type a) (.type b) = some r := by
  unfold isT at h
  by_cases hc : (["NoneType", "bool", "int", "str", "tuple", "list", "dict"].contains a && ["bool", "int", "str", "tuple", "list", "dict"].contains b) = true
  · rw [if_pos hc] at h
    rw [Bool.and_eq_true, List.contains_iff_mem, List.contains_iff_mem] at hc
    exact kit_ty (by rw [isT_ok a hc.1 b hc.2]; exact h)
  · rw [if_neg hc] at h; cases h
theorem tyX_of {G H : Hp} {x : V} {d : PV} {t : String} (s : Same G H) (v : View M G H x d) (e : tyOf d = some t) : TyX M.K H x (.type t) := by
  cases d with
  | non => cases v.non; cases e; exact .base .non
  | bl b => cases v.bl; cases e; exact .base (.bl b)
  | int b => cases v.int; cases e; exact .base (.int b)
  | str b => cases v.str; cases e; exact .base (.str _)
  | lst ds => obtain ⟨a, xs, rfl, h, _⟩ := v.lst s; cases e; exact .base (.lst h)
  | tup ds =>
    obtain ⟨a, xs, rfl, h, _⟩ := v.tup
    cases e
    rcases h with (h | ⟨o, h⟩) | ⟨o, its, n, h1, h2, _⟩
    · exact .base (.tup (s _ _ h))
    · exact .fTuple (s _ _ h)
    · exact .kTuple h1 h2
  | dK ps =>
    have : ∃ a kvs, x = .ref a ∧ H a = some (.dK kvs) := by
      rcases v with h | ⟨a, o, rfl, h, ob⟩
      · cases h with
        | obj h ob => cases ob; exact ⟨_, _, rfl, s _ _ h⟩
      · cases ob; exact ⟨a, _, rfl, h⟩
    obtain ⟨a, kvs, rfl, h⟩ := this
    cases e; exact .base (.dK h)
  | dT ps =>
    have : ∃ a kvs, x = .ref a ∧ H a = some (.dT kvs) := by
      rcases v with h | ⟨a, o, rfl, h, ob⟩
      · cases h with
        | obj h ob => cases ob; exact ⟨_, _, rfl, s _ _ h⟩
      · cases ob; exact ⟨a, _, rfl, h⟩
    obtain ⟨a, kvs, rfl, h⟩ := this
    cases e; exact .base (.dT h)
  | _ => cases e
def tysOf : List PV → Option (List String)
  | [] => some []
  | .ty b :: r => (tysOf r).map fun bs => b :: bs
  | _ => none
def isAny (a : String) : List String → Option Bool
  | [] => some false
  | b :: r => (isT a b).bind fun k => if k = true then some true else isAny a r
def pIsInst : List PV → Option Cell
  | [d, .ty b] => (tyOf d).bind fun a => (isT a b).map fun k => .fz (.bl k)
  | [d, .tup cs] => (tyOf d).bind fun a => (tysOf cs).bind fun bs => (isAny a bs).map fun k => .fz (.bl k)
  | _ => none
theorem tysOf_ok {M : Md} {G : Hp} : ∀ {cs : List PV} {vs : List V} {bs : List String}, RpAll M G vs cs → tysOf cs = some bs → Paired ClsV vs (bs.map Value.type)
  | [], _, _, h, e => by cases h; cases e; exact .nil
  | c :: cs, _, _, h, e => by
    cases h with
    | cons h1 h2 =>
      cases c with
      | ty b =>
        cases h1.ty_inv
        obtain ⟨bs, e1, rfl⟩ := Option.map_eq_some_iff.mp e
        exact .cons (.ty b) (tysOf_ok h2 e1)
      | _ => cases e
theorem isAny_ok {K : PySem.W.Frag} {a : String} : ∀ {bs : List String} {k : Bool}, isAny a bs = some k → PySem.W.kitAny K (.type a) (bs.map Value.type) = some k
  | [], k, e => by cases e; exact kitAny_nil
  | b :: bs, k, e => by
    obtain ⟨j, e1, e2⟩ := Option.bind_eq_some_iff.mp e
    have k1 := isT_kit (K := K) e1
    cases j with
    | true => rw [if_pos rfl] at e2; cases e2; exact kitAny_cons k1 (fun z => nomatch z) (fun _ => rfl)
    | false => rw [if_neg Bool.false_ne_true] at e2; exact kitAny_cons k1 (fun _ => isAny_ok e2) (fun z => nomatch z)
/-- isinstance(x, T), T any tuple of classes that is read -/
def rIsiS (K : PySem.W.Frag) : List V → Hp → VK → Prop := fun xs H Q => ∃ (x : V) (q : Addr) (cs : List V) (t : Value) (us : List Value) (b : Bool), xs = [x, .ref q] ∧ SqT K H q cs ∧ Paired ClsV cs us ∧ TyX K H x t ∧ PySem.W.kitAny K t us = some b ∧ Q (.bl b) H
theorem call_isiS : CallR X (.builtin "isinstance") (rIsiS X.K) := by
  rintro pins s σ H xs us Q I r ⟨x, q, cs, t, ws, b, rfl, hT, hp, ty, hk, hq⟩
  obtain ⟨u1, u2, rfl, r1, r2⟩ := vals2 r
  obtain rfl : u2 = Value.ref q := r2
  obtain ⟨P, Z, p, nb⟩ := kit_of I r1 ty
  obtain ⟨its, rv, ⟨ob, g1, g2, n, g3⟩, _⟩ := I.tuple hT
  obtain rfl : its = ws := ClsV.all hp rv
  obtain ⟨w1, w2, w3, w4⟩ := ob
  dsimp only at g2 g3
  subst g2; subst g3
  exact PySem.W.kia_tup Z I.kIn p g1 hk nb fun tk => ⟨.bl b, H, I.tok tk, rfl, hq⟩
abbrev rIsiV (K : PySem.W.Frag) : List V → Hp → VK → Prop := fun xs H Q => rIsi K xs H Q ∨ rIsiS K xs H Q
theorem cr_isi : CallR X (.builtin "isinstance") (rIsiV X.K) := call_isi.or call_isiS
theorem cv_isi (hK : M.K = X.K) : CallV M (rIsiV X.K) pIsInst := fun F G ρ σ H xs ds c Q R va eg k => by
  unfold pIsInst at eg
  split at eg
  · obtain ⟨x, y, rfl, v, w⟩ := va.two
    cases w.ty
    obtain ⟨a, e1, eg⟩ := Option.bind_eq_some_iff.mp eg
    obtain ⟨b, e2, rfl⟩ := Option.map_eq_some_iff.mp eg
    exact .inl ⟨x, _, _, _, b, rfl, .ty _, hK ▸ tyX_of R.sub v e1, isT_kit e2, k _ G H R (Same.refl _) (.bl _)⟩
  · obtain ⟨x, y, rfl, v, w⟩ := va.two
    obtain ⟨q, vs, rfl, hq, hv⟩ := w.tup
    obtain ⟨a, e1, eg⟩ := Option.bind_eq_some_iff.mp eg
    obtain ⟨bs, e3, eg⟩ := Option.bind_eq_some_iff.mp eg
    obtain ⟨b, e2, rfl⟩ := Option.map_eq_some_iff.mp eg
    exact .inr ⟨x, q, vs, _, _, b, rfl, hK ▸ Same.seqT R.sub hq, tysOf_ok hv e3, hK ▸ tyX_of R.sub v e1, isAny_ok e2, k _ G H R (Same.refl _) (.bl _)⟩
  · cases eg

/-! subscripts -/
def pIx : PV → PV → Option Cell
  | .lst ds, .int i => (atI ds i).map .fz
  | .tup ds, .int i => (atI ds i).map .fz
  | .str l, .int i => if l.length ≤ sizeLine then (atI l i).map fun c => .fz (.str [c]) else none
  | .scr ns, .int i => (atI ns i).map fun n => .fz (.int n)
  | _, _ => none
theorem atI_of {α β : Type} {xs : List α} {ys : List β} {i : Int} {y : β} (hl : xs.length = ys.length) (h : atI ys i = some y) : ∃ j : Nat, ys[j]? = some y ∧ ∀ x, xs[j]? = some x → atI xs i = some x := by
  unfold atI at h
  obtain ⟨j, e1, e2⟩ := Option.bind_eq_some_iff.mp h
  exact ⟨j, e2, fun x hx => by unfold atI; rw [hl, e1]; exact hx⟩
theorem ov_ix (hK : M.K = X.K) : OpV M (rIx X.K) pIx := fun F G ρ σ H x y d e c Q R v w eg k => by
  unfold pIx at eg
  split at eg
  · obtain ⟨a, vs, rfl, ha, hv⟩ := v.lst R.sub
    cases w.int
    obtain ⟨d, e1, rfl⟩ := Option.map_eq_some_iff.mp eg
    obtain ⟨j, e2, e3⟩ := atI_of hv.length e1
    obtain ⟨x, e4, r⟩ := hv.get e2
    exact .inl ⟨a, vs, _, x, rfl, rfl, SqL.of ha, e3 x e4, k _ G H R (Same.refl _) r⟩
  · obtain ⟨a, vs, rfl, ha, hv⟩ := v.tup
    cases w.int
    obtain ⟨d, e1, rfl⟩ := Option.map_eq_some_iff.mp eg
    obtain ⟨j, e2, e3⟩ := atI_of hv.length e1
    obtain ⟨x, e4, r⟩ := hv.get e2
    exact .inr (.inl ⟨a, vs, _, x, rfl, rfl, hK ▸ Same.seqT R.sub ha, e3 x e4, k _ G H R (Same.refl _) r⟩)
  · rename_i l i
    cases v.str; cases w.int
    by_cases hl : l.length ≤ sizeLine
    · rw [if_pos hl] at eg
      obtain ⟨d, e1, rfl⟩ := Option.map_eq_some_iff.mp eg
      exact .inr (.inr ⟨S l, _, d, rfl, rfl, by rw [strlen]; exact hl, e1, k _ G H R (Same.refl _) (.str [d])⟩)
    · rw [if_neg hl] at eg; cases eg
  · obtain ⟨a, rfl, ha⟩ := v.scr
    cases w.int
    obtain ⟨d, e1, rfl⟩ := Option.map_eq_some_iff.mp eg
    obtain ⟨j, e2, e3⟩ := atI_of (xs := (_ : List Int).map V.int) (List.length_map ..) e1
    exact .inl ⟨a, _, _, .int d, rfl, rfl, hK ▸ R.sub.seq ha, e3 _ (by rw [List.getElem?_map, e2]; rfl), k _ G H R (Same.refl _) (.int d)⟩
  · cases eg
theorem vx_ix {E : L2.St → XK} {a b : Expr} {va vb : VX} {pos : Pos} (ha : PE X a (tV M E va)) (hb : PE X b (tV M E vb)) (hs : PlainIx b := by intro _ _; rfl) (hK : M.K = X.K := by rfl) : PE X (.Subscript a b pos) (tV M E (vBin pIx va vb)) :=
  PEimp (pe_ix ix_seq ha hb hs) fun _ _ _ h => tV_bin (ov_ix hK) h

/-! slices -/
abbrev VO := Env → Rs (Option Int)
def tO (M : Md) (E : L2.St → XK) (v : VO) : TO := fun σ H Q => ∃ F G ρ, Rel M F G ρ σ H ∧ Post M F E G σ (v ρ) fun o ρ' G' H' => Q o H'
def oNone : VO := fun ρ => .ok none ρ
def intOf : PV → Option Int
  | .int i => some i
  | _ => none
def oSome (va : VX) : VO := fun ρ => (va ρ).bind fun c ρ1 => opt (((val ρ1 c).bind intOf).map some) ρ1
theorem vo_none {E : L2.St → XK} : PO X none (tO M E oNone) := ⟨fun pins s σ H Q I ⟨F, G, ρ, R, h⟩ => po_none.run pins s σ H Q I (h G H R (Same.refl _))⟩
theorem vo_some {E : L2.St → XK} {e : Expr} {va : VX} (h : PE X e (tV M E va)) : PO X (some e) (tO M E (oSome va)) := by
  refine ⟨fun pins s σ H Q I ⟨F, G, ρ, R, hq⟩ => (po_some h).run pins s σ H Q I ?_⟩
  refine ⟨F, G, ρ, R, (Post.bind hq).imp fun c ρ1 G1 H1 R1 s1 h1 x ok => ?_⟩
  obtain ⟨o, e1, kk⟩ := opt_post h1
  obtain ⟨i, e2, rfl⟩ := Option.map_eq_some_iff.mp e1
  obtain ⟨d, e3, e4⟩ := Option.bind_eq_some_iff.mp e2
  have v := ok.view R1 e3
  cases d with
  | int j => cases e4; exact ⟨_, v.int, kk G1 H1 R1 (Same.refl _)⟩
  | _ => cases e4
def cutL {α : Type} (xs : List α) (lo hi : Option Int) : List α := (xs.drop (HT.sIx xs.length 0 lo)).take (HT.sIx xs.length xs.length hi - HT.sIx xs.length 0 lo)
theorem RpAll.cut {M : Md} {G : Hp} {xs : List V} {ds : List PV} (h : RpAll M G xs ds) (lo hi : Option Int) : RpAll M G (cutV xs lo hi) (cutL ds lo hi) := by
  unfold cutV cutL
  rw [h.length]
  exact (h.drop _).take _
def pCut (lo hi : Option Int) : PV → Option Cell
  | .lst ds => some (.ow (.lst (cutL ds lo hi)))
  | .tup ds => some (.fz (.tup (cutL ds lo hi)))
  | .str l => if l.length ≤ sizeLine then some (.fz (.str (cutL l lo hi))) else none
  | _ => none
abbrev rCutV (K : PySem.W.Frag) : V → Option Int → Option Int → Hp → VK → Prop := fun x lo hi H Q => rSlL K x lo hi H Q ∨ (rSlS x lo hi H Q ∨ rSlA K x lo hi H Q)
theorem sr_cut : SlR X (rCutV X.K) := sl_list.or (sl_str.or sl_tupA)
theorem sIx_whole {n : Nat} {lo hi : Option Int} {α : Type} {xs : List α} (hn : xs.length = n) (h1 : HT.sIx n 0 lo = 0) (h2 : HT.sIx n n hi = n) : cutL xs lo hi = xs := by
  unfold cutL
  rw [hn, h1, h2, ← hn]
  simp
theorem ov_cut (hK : M.K = X.K) {G : Hp} {ρ : Env} {σ : L2.St} {H : Hp} {x : V} {d : PV} {lo hi : Option Int} {c : Cell} {Q : VK} (R : Rel M F G ρ σ H) (v : View M G H x d) (eg : pCut lo hi d = some c)
    (k : ∀ z G' H', Rel M F G' ρ σ H' → Same G G' → CellOk M F G' ρ σ H' z c → Q z H') : rCutV X.K x lo hi H Q := by
  unfold pCut at eg
  split at eg
  · obtain ⟨a, vs, rfl, ha, hv⟩ := v.lst R.sub
    cases eg
    refine .inl ⟨a, vs, rfl, SqL.of ha, fun p hp => ?_⟩
    obtain ⟨R', ok⟩ := R.newList hp (hv.cut lo hi)
    exact k _ G _ R' (Same.refl _) ok
  · obtain ⟨a, vs, rfl, ha, hv⟩ := v.tup
    cases eg
    refine .inr (.inr ⟨a, vs, rfl, hK ▸ Same.seqT R.sub ha, fun z => ?_, fun _ p hp => ?_⟩)
    · refine k _ G H R (Same.refl _) (.tup ha ?_)
      rw [sIx_whole hv.length.symm z.1 z.2]
      exact hv
    · obtain ⟨G', R', s', ok⟩ := R.newTup hp (hv.cut lo hi)
      exact k _ G' _ R' s' ok
  · rename_i l
    cases v.str
    by_cases hl : l.length ≤ sizeLine
    · rw [if_pos hl] at eg; cases eg
      refine .inr (.inl ⟨S l, rfl, by rw [strlen]; exact hl, ?_⟩)
      have e : cutS (S l) lo hi = S (cutL l lo hi) := by
        unfold cutS cutL
        rw [strlen]
        rfl
      rw [e]
      exact k _ G H R (Same.refl _) (.str _)
    · rw [if_neg hl] at eg; cases eg
  · cases eg
def vCut (va : VX) (lo hi : VO) : VX := fun ρ => (va ρ).bind fun c ρ1 => (lo ρ1).bind fun l ρ2 => (hi ρ2).bind fun h ρ3 => opt ((val ρ3 (settle c)).bind (pCut l h)) ρ3
theorem vx_cut {E : L2.St → XK} {e : Expr} {lo hi : Option Expr} {va : VX} {l h : VO} {p2 pos : Pos} (he : PE X e (tV M E va)) (hl : PO X lo (tO M E l)) (hu : PO X hi (tO M E h)) (hK : M.K = X.K := by rfl) : PE X (.Subscript e (.Slice lo hi none p2) pos) (tV M E (vCut va l h)) := by
  refine PEimp (pe_slice sr_cut he hl hu) fun σ H Q ⟨F, G, ρ, R, hq⟩ => ?_
  refine ⟨F, G, ρ, R, (Post.bind hq).imp fun c1 ρ1 G1 H1 R1 s1 h1 x ok1 => ?_⟩
  obtain ⟨G1', R1', s1', ok1'⟩ := settle_ok R1 ok1
  refine ⟨F, G1', ρ1, R1', (Post.bind (h1.up s1')).imp fun o1 ρ2 G2 H2 R2 s2 h2 => ?_⟩
  refine ⟨F, G2, ρ2, R2, (Post.bind h2).imp fun o2 ρ3 G3 H3 R3 s3 h3 => ?_⟩
  obtain ⟨c, e1, kk⟩ := opt_post h3
  obtain ⟨d, e2, e3⟩ := Option.bind_eq_some_iff.mp e1
  exact ov_cut hK R3 ((ok1'.at (s2.trans s3)).view R3 e2) e3 fun z G' H' R' s' ok => kk G' H' R' s' z ok

/-! methods that only read: o.m(e, ..) -/
/-- T: what the receiver must be, looked at ahead of the arguments -/
def vMeth (isT : PV → Bool) (g : PV → List PV → Option Cell) (vo : VX) (vs : VA) : VX := fun ρ => (vo ρ).bind fun c ρ1 => match (val ρ1 c).map isT with
  | some true => (vs ρ1).bind fun cs ρ2 => opt ((val ρ2 (settle c)).bind fun d => (valAll ρ2 cs).bind fun ds => g d ds) ρ2
  | _ => .bad
def strT : PV → Bool
  | .str _ => true
  | _ => false
def lstT : PV → Bool
  | .lst _ => true
  | _ => false
theorem vx_meth {E : L2.St → XK} {o e : Expr} {es : List Expr} {vo : VX} {vs : VA} {name : Str} {apos cpos : Pos} {T id : String} {r : V → List V → Hp → VK → Prop} {isT : PV → Bool} {g : PV → List PV → Option Cell}
    (pa : PlainAttrs T) (slot : PySem.Slot T name id) (hty : typeOf (.builtin id) = pure (.type "method_descriptor")) (hm : MtR X id r)
    (hT : ∀ (G H : Hp) (x : V) (d : PV), Same G H → View M G H x d → isT d = true → tyV X.K T x H)
    (hg : ∀ (F : Fr) (G : Hp) (ρ : Env) (σ : L2.St) (H : Hp) (x : V) (xs : List V) (d : PV) (ds : List PV) (c : Cell) (Q : VK), Rel M F G ρ σ H → View M G H x d → ViewAll M G H xs ds → g d ds = some c →
      (∀ z G' H', Rel M F G' ρ σ H' → Same G G' → CellOk M F G' ρ σ H' z c → Q z H') → r x xs H Q)
    (ho : PE X o (tV M E vo)) (ha : PA X (e :: es) (tA M E vs))
    (hbase : attributeBase o name X.env (eval o X.env) = eval o X.env := by rfl)
    (hfew : ((backTo cpos (starEach (e :: es) X.env)).all (fun x => !x.1) && (backToKw cpos (keywordEach [] X.env)).all (fun x => x.1.isSome)
      && decide ((e :: es).length + ([] : List Keyword).length + (if ([] : List Keyword).isEmpty then 0 else 1) < 30)) = true := by rfl)
    (hline : (apos.endLine == cpos.line) = true := by rfl) (hs : starEach (e :: es) X.env = (false, eval e X.env) :: starEach es X.env := by rfl) (hplain : (backTo cpos (starEach es X.env)).any (·.1) = false := by rfl) :
    PE X (.Call (.Attribute o name apos) (e :: es) [] cpos) (tV M E (vMeth isT g vo vs)) := by
  refine PEimp (pe_bm pa slot hty hm ho ha hbase hfew hline hs hplain) fun σ H Q ⟨F, G, ρ, R, hq⟩ => ?_
  refine ⟨F, G, ρ, R, (Post.bind hq).imp fun c1 ρ1 G1 H1 R1 s1 h1 x ok1 => ?_⟩
  cases q : (val ρ1 c1).map isT with
  | none => rw [q] at h1; exact h1.elim
  | some b =>
    rw [q] at h1
    cases b with
    | false => exact h1.elim
    | true =>
      dsimp only at h1
      obtain ⟨d0, e0, e1⟩ := Option.map_eq_some_iff.mp q
      refine ⟨hT G1 H1 x d0 R1.sub (ok1.view R1 e0) e1, ?_⟩
      obtain ⟨G1', R1', s1', ok1'⟩ := settle_ok R1 ok1
      refine ⟨F, G1', ρ1, R1', (Post.bind (h1.up s1')).imp fun cs ρ2 G2 H2 R2 s2 h2 xs ok2 => ?_⟩
      obtain ⟨c, e1, kk⟩ := opt_post h2
      obtain ⟨d, e2, e3⟩ := Option.bind_eq_some_iff.mp e1
      obtain ⟨ds, e4, e5⟩ := Option.bind_eq_some_iff.mp e3
      exact hg F G2 ρ2 σ H2 x xs d ds c Q R2 ((ok1'.at s2).view R2 e2) (valAll_ok R2 ok2 e4) e5 fun z G' H' R' s' ok => kk G' H' R' s' z ok
theorem ty_str (G H : Hp) (x : V) (d : PV) (s : Same G H) (v : View M G H x d) (h : strT d = true) : tyV X.K "str" x H := by
  cases d with
  | str l => cases v.str; exact rfl
  | _ => cases h
theorem ty_lst (G H : Hp) (x : V) (d : PV) (s : Same G H) (v : View M G H x d) (h : lstT d = true) : tyV X.K "list" x H := by
  cases d with
  | lst l => obtain ⟨a, vs, rfl, ha, _⟩ := v.lst s; exact .inl ⟨rfl, vs, SqL.of ha⟩
  | _ => cases h

/-! join -/
def strsOf : List PV → Option (List (List Nat))
  | [] => some []
  | .str l :: r => (strsOf r).map fun ls => l :: ls
  | _ => none
theorem strsOf_map : ∀ {ds : List PV} {ls : List (List Nat)}, strsOf ds = some ls → ds = ls.map PV.str
  | [], _, e => by cases e; rfl
  | d :: r, _, e => by
    cases d with
    | str b =>
      obtain ⟨bs, e1, rfl⟩ := Option.map_eq_some_iff.mp e
      rw [strsOf_map e1]; rfl
    | _ => cases e
theorem strsOf_of : ∀ ls : List (List Nat), strsOf (ls.map PV.str) = some ls
  | [] => rfl
  | b :: r => by rw [List.map_cons]; dsimp only [strsOf]; rw [strsOf_of r]; rfl
/-- sep.join -/
def joinN (a : List Nat) : List (List Nat) → List Nat
  | [] => []
  | [x] => x
  | x :: y :: r => x ++ a ++ joinN a (y :: r)
theorem join_S (a : List Nat) : ∀ ls : List (List Nat), Txt.join (S a) (ls.map S) = S (joinN a ls) := fun ls => by
  rw [TL.join_eq]
  induction ls with
  | nil => rfl
  | cons x r ih =>
    cases r with
    | nil => rfl
    | cons y r =>
      show S x ++ S a ++ Str.join (S a) (S y :: r.map S) = _
      rw [show S y :: r.map S = (y :: r).map S from rfl, ih, S_append, S_append]
      rfl
def pJoin : PV → List PV → Option Cell
  | .str a, [.lst ds] => (strsOf ds).bind fun ls => if (ls.map (·.length)).sum + ls.length * a.length ≤ 16777216 then some (.fz (.str (joinN a ls))) else none
  | _, _ => none
abbrev rJoinV (K : PySem.W.Frag) : V → List V → Hp → VK → Prop := fun x xs H Q => ∃ a p, ∃ ys : List Str, x = .str a ∧ xs = [.ref p] ∧ (SqL K H p (ys.map V.str) ∨ SqT K H p (ys.map V.str)) ∧
    (ys.map (·.length)).sum + ys.length * a.length ≤ 16777216 ∧ Q (.str (Txt.join a ys)) H
theorem mv_join (hK : M.K = X.K) : ∀ (F : Fr) (G : Hp) (ρ : Env) (σ : L2.St) (H : Hp) (x : V) (xs : List V) (d : PV) (ds : List PV) (c : Cell) (Q : VK), Rel M F G ρ σ H → View M G H x d → ViewAll M G H xs ds → pJoin d ds = some c →
      (∀ z G' H', Rel M F G' ρ σ H' → Same G G' → CellOk M F G' ρ σ H' z c → Q z H') → rJoinV X.K x xs H Q := fun F G ρ σ H x xs d ds c Q R v va eg k => by
  unfold pJoin at eg
  split at eg
  · rename_i a es
    cases v.str
    obtain ⟨y, rfl, w⟩ := va.one
    obtain ⟨p, vs, rfl, hp, hv⟩ := w.lst R.sub
    obtain ⟨ls, e1, e2⟩ := Option.bind_eq_some_iff.mp eg
    by_cases hl : (ls.map (·.length)).sum + ls.length * a.length ≤ 16777216
    · rw [if_pos hl] at e2; cases e2
      rw [strsOf_map e1] at hv
      cases hv.strs
      refine ⟨S a, p, ls.map S, rfl, rfl, .inl (SqL.of hp), ?_, ?_⟩
      · have e3 : (ls.map S).map (·.length) = ls.map (·.length) := by
          rw [List.map_map]
          exact List.map_congr_left fun x _ => strlen x
        rw [e3, List.length_map, strlen]
        exact hl
      · rw [join_S]
        exact k _ G H R (Same.refl _) (.str _)
    · rw [if_neg hl] at e2; cases e2
  · cases eg
end
end L2.VL

set_option Elab.async false
set_option linter.all false
set_option maxRecDepth 100000
/-! VL5: statements, loops, comprehensions. -/
namespace L2.VL
open PySem PySem.Spec PyProof.Rows

section
variable {α : Type} {M : Md} {F : Fr} {E : L2.St → XK} {G G1 : Hp} {D : Ends} {σ : L2.St} {r : Rs α}
theorem PostS.bind {f : α → Env → Rs Fl} (h : PostS M F E G D (r.bind f)) : Post M F E G σ r (fun a ρ' G' H' => PostS M F E G' D (f a ρ')) := by
  cases r with
  | ok a ρ' => exact fun G' H' R s => PostS.up h s
  | ex x ρ' => exact fun cls d G' H' R s => h cls d σ G' H' R s
  | bad => exact h
end

/-! ### the meanings -/
def sNx : VS := fun ρ => .ok .nx ρ
def sBk : VS := fun ρ => .ok .bk ρ
def sCt : VS := fun ρ => .ok .ct ρ
def sBad : VS := fun _ => .bad
def sSeq (a b : VS) : VS := fun ρ => match a ρ with
  | .ok .nx ρ1 => b ρ1
  | r => r
def sExpr (va : VX) : VS := fun ρ => (va ρ).bind fun _ ρ1 => .ok .nx ρ1
def sRet (va : VX) : VS := fun ρ => (va ρ).bind fun c ρ1 => .ok (.rt c) ρ1
def sRetN : VS := fun ρ => .ok (.rt (.fz .non)) ρ
def sIf (t : VT) (a b : VS) : VS := fun ρ => (t ρ).bind fun k ρ1 => if k = true then a ρ1 else b ρ1
def canPut (ρ : Env) (i : Nat) : Bool := match ρ[i]? with
  | some (.io _) => false
  | none => false
  | _ => true
def put (ρ : Env) (i : Nat) : Cell → Option Env
  | .ow d => if canPut ρ i = true then some (ρ.set i (.ow d)) else none
  | c => if canPut ρ i = true then (freeze ρ c).map fun (d, ρ1) => ρ1.set i (.fz d) else none
def sSet (i : Nat) (va : VX) : VS := fun ρ => (va ρ).bind fun c ρ1 => match put ρ1 i c with
  | some ρ2 => .ok .nx ρ2
  | none => .bad

section
variable {X : Cx} {M : Md} {F : Fr} {E : L2.St → XK} {pos : Pos} {σ : L2.St} {H : Hp}

theorem vs_nil : PSs X [] (tS M E sNx) := PSsimp pss_nil fun D σ H ⟨F, G, ρ, R, h⟩ => h σ G H R (Same.refl _)
theorem vs_cons {st : Stmt} {rest : List Stmt} {a b : VS} (h1 : PS X st (tS M E a)) (h2 : PSs X rest (tS M E b)) : PSs X (st :: rest) (tS M E (sSeq a b)) := by
  refine PSsimp (pss_cons h1 h2) fun D σ H ⟨F, G, ρ, R, h⟩ => ?_
  refine ⟨F, G, ρ, R, ?_⟩
  unfold sSeq at h
  cases q : a ρ with
  | ok f ρ1 =>
    rw [q] at h
    cases f with
    | nx => exact fun σ' G' H' R' s' => ⟨F, G', ρ1, R', PostS.up h s'⟩
    | bk => exact h
    | ct => exact h
    | rt c => exact h
  | ex x ρ1 => rw [q] at h; exact h
  | bad => rw [q] at h; exact h
theorem vs_one {st : Stmt} {a : VS} (h1 : PS X st (tS M E a)) : PSs X [st] (tS M E a) := pss_one h1
theorem vs_pass : PS X (.Pass pos) (tS M E sNx) := PSimp ps_pass fun D σ H ⟨F, G, ρ, R, h⟩ => h σ G H R (Same.refl _)
theorem vs_break : PS X (.Break pos) (tS M E sBk) := PSimp ps_break fun D σ H ⟨F, G, ρ, R, h⟩ => h σ G H R (Same.refl _)
theorem vs_continue : PS X (.Continue pos) (tS M E sCt) := PSimp ps_continue fun D σ H ⟨F, G, ρ, R, h⟩ => h σ G H R (Same.refl _)
theorem vs_never {st : Stmt} : PS X st (tS M E sBad) := PSimp ps_never fun D σ H ⟨F, G, ρ, R, h⟩ => h
theorem vs_expr {e : Expr} {va : VX} (he : PE X e (tV M E va)) (hs : swapsWith e none pos.line X.env = pure false := by rfl) : PS X (.Expr e pos) (tS M E (sExpr va)) := by
  refine PSimp (ps_expr he hs) fun D σ H ⟨F, G, ρ, R, h⟩ => ?_
  exact ⟨F, G, ρ, R, (PostS.bind h).imp fun c ρ1 G1 H1 R1 s1 h1 x ok => h1 σ G1 H1 R1 (Same.refl _)⟩
theorem vs_ret {e : Expr} {va : VX} (he : PE X e (tV M E va)) : PS X (.Return (some e) pos) (tS M E (sRet va)) := by
  refine PSimp (ps_ret he) fun D σ H ⟨F, G, ρ, R, h⟩ => ?_
  exact ⟨F, G, ρ, R, (PostS.bind h).imp fun c ρ1 G1 H1 R1 s1 h1 x ok => h1 x σ G1 H1 R1 (Same.refl _) ok⟩
theorem vs_retN : PS X (.Return none pos) (tS M E sRetN) := PSimp ps_retN fun D σ H ⟨F, G, ρ, R, h⟩ => h .non σ G H R (Same.refl _) .non
theorem vs_if {c : Expr} {a b : List Stmt} {t : VT} {sa sb : VS} (hc : PT X c (tT M E t)) (ha : PSs X a (tS M E sa)) (hb : PSs X b (tS M E sb)) : PS X (.If c a b pos) (tS M E (sIf t sa sb)) := by
  refine PSimp (ps_if hc ha hb) fun D σ H ⟨F, G, ρ, R, h⟩ => ?_
  refine ⟨F, G, ρ, R, (PostS.bind h).imp fun k ρ1 G1 H1 R1 s1 h1 => ?_⟩
  cases k with
  | true => rw [if_pos rfl] at h1 ⊢; exact ⟨F, G1, ρ1, R1, h1⟩
  | false => rw [if_neg Bool.false_ne_true] at h1 ⊢; exact ⟨F, G1, ρ1, R1, h1⟩

/-! storing -/
theorem canPut_ok {ρ : Env} {i : Nat} (h : canPut ρ i = true) : ∃ s, ρ[i]? = some s ∧ ∀ d, s ≠ .io d := by
  unfold canPut at h
  cases q : ρ[i]? with
  | none => rw [q] at h; cases h
  | some s =>
    rw [q] at h
    exact ⟨s, rfl, fun d z => by subst z; cases h⟩
theorem Rel.setFz {G : Hp} {ρ : Env} {i : Nat} {x : V} {d : PV} (R : Rel M F G ρ σ H) (hp : canPut ρ i = true) (r : Rp M G x d) : Rel M F G (ρ.set i (.fz d)) (σ.set i (some x)) H := by
  obtain ⟨s, q, ni⟩ := canPut_ok hp
  exact R.setSlot q ni ⟨x, rfl, r⟩ (fun _ z => nomatch z) (fun _ z => nomatch z)
theorem canPut_set {ρ : Env} {i j : Nat} {d : PV} (h : canPut ρ i = true) : canPut (ρ.set j (.fz d)) i = true := by
  obtain ⟨s, q, ni⟩ := canPut_ok h
  unfold canPut
  by_cases ij : j = i
  · subst ij; rw [List.getElem?_set_self (len_of q)]
  · rw [List.getElem?_set_ne ij, q]
    cases s with
    | io d => exact absurd rfl (ni d)
    | _ => rfl
theorem freeze_canPut {ρ ρ' : Env} {c : Cell} {d : PV} {i : Nat} (e : freeze ρ c = some (d, ρ')) (h : canPut ρ i = true) : canPut ρ' i = true := by
  cases c with
  | fz d' => cases e; exact h
  | ow d' => cases e; exact h
  | rf j =>
    dsimp only [freeze] at e
    split at e
    · cases e; exact h
    · cases e; exact canPut_set h
    · cases e
theorem put_ok {G : Hp} {ρ ρ' : Env} {i : Nat} {x : V} {c : Cell} (R : Rel M F G ρ σ H) (ok : CellOk M F G ρ σ H x c) (e : put ρ i c = some ρ') : ∃ G', Rel M F G' ρ' (σ.set i (some x)) H ∧ Same G G' := by
  have gen : ∀ c, CellOk M F G ρ σ H x c → (if canPut ρ i = true then (freeze ρ c).map fun (d, ρ1) => ρ1.set i (.fz d) else none) = some ρ' → ∃ G', Rel M F G' ρ' (σ.set i (some x)) H ∧ Same G G' := fun c ok e => by
    by_cases hp : canPut ρ i = true
    · rw [if_pos hp] at e
      obtain ⟨⟨d, ρ1⟩, e1, rfl⟩ := Option.map_eq_some_iff.mp e
      obtain ⟨G', R', s', r⟩ := freeze_ok R ok e1
      exact ⟨G', R'.setFz (freeze_canPut e1 hp) r, s'⟩
    · rw [if_neg hp] at e; cases e
  cases c with
  | fz d => exact gen _ ok e
  | rf j => exact gen _ ok e
  | ow d =>
    dsimp only [put] at e
    by_cases hp : canPut ρ i = true
    · rw [if_pos hp] at e; cases e
      obtain ⟨a, rfl, o, h0, hf⟩ := ok
      obtain ⟨s, q, ni⟩ := canPut_ok hp
      refine ⟨G, R.setSlot q ni ⟨a, rfl, o, h0⟩ (fun b _ eb j c _ ej oc => ?_) (fun _ z => nomatch z), Same.refl _⟩
      cases eb
      exact hf j c ej oc
    · rw [if_neg hp] at e; cases e
theorem vs_set (i : Nat) {x : Str} {e : Expr} {va : VX} {pos' : Pos} (hN : X.N.Nodup) (he : PE X e (tV M E va)) (hi : X.N[i]? = some x := by rfl) (hx : Loc X.env.scope x := by first | exact Or.inl rfl | exact Or.inr rfl)
    (hs : swapsWith e (some (.Name x pos')) pos.line X.env = pure false := by rfl) (hf : X.fn x = true ∨ X.env.scope.names.lookup x = some .local := by first | exact .inl rfl | exact .inr rfl | assumption) :
    PS X (.Assign [.Name x pos'] e pos) (tS M E (sSet i va)) := by
  refine PSimp (ps_set hN hi hx he hs hf) fun D σ H ⟨F, G, ρ, R, h⟩ => ?_
  refine ⟨F, G, ρ, R, (PostS.bind h).imp fun c ρ1 G1 H1 R1 s1 h1 x ok => ?_⟩
  cases q : put ρ1 i c with
  | none => rw [q] at h1; exact h1.elim
  | some ρ2 =>
    rw [q] at h1
    obtain ⟨G2, R2, s2⟩ := put_ok R1 ok q
    exact h1 _ G2 H1 R2 s2

/-! ### targets of frozen values -/
abbrev VG := PV → Env → Rs Unit
def PostG (M : Md) (F : Fr) (E : L2.St → XK) (G : Hp) (r : Rs Unit) (Q : L2.St → Hp → Prop) : Prop := match r with
  | .ok _ ρ' => ∀ σ' G' H', Rel M F G' ρ' σ' H' → Same G G' → Q σ' H'
  | .ex x ρ' => ∀ cls d σ' G' H', Rel M F G' ρ' σ' H' → Same G G' → ExcOk M G' cls d x → E σ' cls d H'
  | .bad => False
theorem PostG.up {G G1 : Hp} {r : Rs Unit} {Q : L2.St → Hp → Prop} (h : PostG M F E G r Q) (s : Same G G1) : PostG M F E G1 r Q := by
  cases r with
  | ok a ρ' => exact fun σ' G' H' R s' => h σ' G' H' R (s.trans s')
  | ex x ρ' => exact fun cls d σ' G' H' R s' => h cls d σ' G' H' R (s.trans s')
  | bad => exact h
theorem PostG.imp {G : Hp} {r : Rs Unit} {Q Q' : L2.St → Hp → Prop} (h : PostG M F E G r Q) (k : ∀ σ H, Q σ H → Q' σ H) : PostG M F E G r Q' := by
  cases r with
  | ok a ρ' => exact fun σ' G' H' R s => k _ _ (h σ' G' H' R s)
  | ex x ρ' => exact h
  | bad => exact h
theorem PostG.bindS {G : Hp} {r : Rs Unit} {D : Ends} {f : Unit → Env → Rs Fl} (h : PostS M F E G D (r.bind f)) : PostG M F E G r (fun σ' H' => ∃ G' ρ', Rel M F G' ρ' σ' H' ∧ Same G G' ∧ PostS M F E G' D (f () ρ')) := by
  cases r with
  | ok a ρ' => exact fun σ' G' H' R s => ⟨G', ρ', R, s, PostS.up h s⟩
  | ex x ρ' => exact h
  | bad => exact h
/-- a target's reading by its meaning -/
def tG (M : Md) (E : L2.St → XK) (g : VG) : TG := fun v σ H Q => ∃ F G ρ d, Rel M F G ρ σ H ∧ Rp M G v d ∧ PostG M F E G (g d ρ) Q
def GV (M : Md) (E : L2.St → XK) (t : TG) (g : VG) : Prop := ∀ v σ H Q, tG M E g v σ H Q → t v σ H Q
def gNameV (i : Nat) : VG := fun d ρ => if canPut ρ i = true then .ok () (ρ.set i (.fz d)) else .bad
theorem gv_name {i : Nat} : GV M E (gName i) (gNameV i) := fun v σ H Q ⟨F, G, ρ, d, R, r, h⟩ => by
  unfold gNameV at h
  by_cases hp : canPut ρ i = true
  · rw [if_pos hp] at h; exact h _ G H (R.setFz hp r) (Same.refl _)
  · rw [if_neg hp] at h; exact h.elim
def gAll : List VG → List PV → Env → Rs Unit
  | [], [], ρ => .ok () ρ
  | g :: gs, d :: ds, ρ => (g d ρ).bind fun _ ρ1 => gAll gs ds ρ1
  | _, _, _ => .bad
def gTupV (gs : List VG) : VG := fun d ρ => match d with
  | .tup ds => gAll gs ds ρ
  | _ => .bad
def GVs (M : Md) (E : L2.St → XK) (t : TGs) (gs : List VG) : Prop := ∀ vs σ H Q F G ρ ds, Rel M F G ρ σ H → RpAll M G vs ds → PostG M F E G (gAll gs ds ρ) Q → t vs σ H Q
theorem gvs_nil : GVs M E gNil [] := fun vs σ H Q F G ρ ds R r h => by
  cases ds with
  | nil => cases r; exact ⟨rfl, h σ G H R (Same.refl _)⟩
  | cons d ds => exact h.elim
theorem PostG.bindG {G : Hp} {r : Rs Unit} {Q : L2.St → Hp → Prop} {f : Unit → Env → Rs Unit} (h : PostG M F E G (r.bind f) Q) : PostG M F E G r (fun σ' H' => ∃ G' ρ', Rel M F G' ρ' σ' H' ∧ Same G G' ∧ PostG M F E G' (f () ρ') Q) := by
  cases r with
  | ok a ρ' => exact fun σ' G' H' R s => ⟨G', ρ', R, s, PostG.up h s⟩
  | ex x ρ' => exact h
  | bad => exact h
theorem gvs_cons {t : TG} {ts : TGs} {g : VG} {gs : List VG} (h1 : GV M E t g) (h2 : GVs M E ts gs) : GVs M E (gCons t ts) (g :: gs) := fun vs σ H Q F G ρ ds R r h => by
  cases ds with
  | nil => exact h.elim
  | cons d ds =>
    cases r with
    | @cons v vs _ _ r1 r2 =>
      refine ⟨v, vs, rfl, h1 _ _ _ _ ⟨F, G, ρ, d, R, r1, (PostG.bindG h).imp fun σ' H' ⟨G', ρ', R', s', h'⟩ => ?_⟩⟩
      exact h2 vs σ' H' Q F G' ρ' ds R' (r2.mono s') h'
theorem gAll_len {gs : List VG} : ∀ {ds : List PV} {ρ : Env} {G : Hp} {Q : L2.St → Hp → Prop}, PostG M F E G (gAll gs ds ρ) Q → (∀ x ρ', gAll gs ds ρ ≠ .ex x ρ') → ds.length = gs.length := by
  induction gs with
  | nil => intro ds ρ G Q h _; cases ds with
    | nil => rfl
    | cons d ds => exact h.elim
  | cons g gs ih =>
    intro ds ρ G Q h hn
    cases ds with
    | nil => exact h.elim
    | cons d ds =>
      unfold gAll at h hn
      cases q : g d ρ with
      | ok a ρ' =>
        rw [q] at h hn
        rw [List.length_cons, List.length_cons, ih h hn]
      | ex x ρ' => rw [q] at hn; exact absurd rfl (hn x ρ')
      | bad => rw [q] at h; exact h.elim
/-- names alone, in any nest: nothing is raised -/
def Calm (g : VG) : Prop := ∀ d ρ x ρ', g d ρ ≠ .ex x ρ'
theorem calm_name {i : Nat} : Calm (gNameV i) := fun d ρ x ρ' => by unfold gNameV; split <;> exact fun z => nomatch z
theorem calm_all : ∀ {gs : List VG}, (∀ g ∈ gs, Calm g) → ∀ ds ρ x ρ', gAll gs ds ρ ≠ .ex x ρ'
  | [], _, [], _, _, _ => fun z => nomatch z
  | [], _, _ :: _, _, _, _ => fun z => nomatch z
  | _ :: _, _, [], _, _, _ => fun z => nomatch z
  | g :: gs, h, d :: ds, ρ, x, ρ' => by
    unfold gAll
    cases q : g d ρ with
    | ok a ρ1 => exact calm_all (fun g hg => h g (List.mem_cons_of_mem _ hg)) ds ρ1 x ρ'
    | ex y ρ1 => exact absurd q (h g List.mem_cons_self _ _ _ _)
    | bad => exact fun z => nomatch z
theorem calm_tup {gs : List VG} (h : ∀ g ∈ gs, Calm g) : Calm (gTupV gs) := fun d ρ x ρ' => by
  unfold gTupV
  split
  · exact calm_all h _ _ _ _
  · exact fun z => nomatch z
theorem gv_tup {ts : TGs} {gs : List VG} {n : Nat} (h : GVs M E ts gs) (hc : ∀ g ∈ gs, Calm g) (hn : n = gs.length := by rfl) : GV M E (gTup M.K n ts) (gTupV gs) := fun v σ H Q ⟨F, G, ρ, d, R, r, hq⟩ => by
  unfold gTupV at hq
  split at hq
  · rename_i ds
    obtain ⟨a, xs, rfl, hs, ha⟩ := r.tup_inv
    refine ⟨a, xs, rfl, Same.seqT R.sub hs, ?_, h xs σ H Q F G ρ ds R ha hq⟩
    rw [ha.length, hn]
    exact gAll_len hq (calm_all hc _ _)
  · exact hq.elim
/-- a target stores in the slots vs alone -/
def KeepsW (t : TG) (vs : List Nat) : Prop := ∀ v σ H Q, t v σ H Q → t v σ H fun σ2 H2 => wipe σ2 vs = wipe σ vs ∧ Q σ2 H2
def KeepsWs (t : TGs) (vs : List Nat) : Prop := ∀ xs σ H Q, t xs σ H Q → t xs σ H fun σ2 H2 => wipe σ2 vs = wipe σ vs ∧ Q σ2 H2
theorem wipe_set {i : Nat} {v : Option V} : ∀ {vs : List Nat} {σ : L2.St}, i ∈ vs → wipe (σ.set i v) vs = wipe σ vs
  | [], _, h => nomatch h
  | w :: vs, σ, h => by
    show (wipe (σ.set i v) vs).set w none = (wipe σ vs).set w none
    by_cases hi : i ∈ vs
    · rw [wipe_set hi]
    · have e : i = w := by
        rcases List.mem_cons.mp h with e | e
        · exact e
        · exact absurd e hi
      subst e
      have e2 : wipe (σ.set i v) vs = (wipe σ vs).set i v := by
        clear h
        induction vs with
        | nil => rfl
        | cons u us ih =>
          have hu : i ≠ u := fun z => hi (z ▸ List.mem_cons_self)
          have ih := ih fun z => hi (List.mem_cons_of_mem _ z)
          show (wipe (σ.set i v) us).set u none = ((wipe σ us).set u none).set i v
          rw [ih, List.set_comm _ _ hu]
      rw [e2, List.set_set]
theorem kw_name {i : Nat} {vs : List Nat} (h : i ∈ vs := by decide) : KeepsW (gName i) vs := fun v σ H Q q => ⟨wipe_set h, q⟩
theorem kws_nil {vs : List Nat} : KeepsWs gNil vs := fun xs σ H Q q => ⟨q.1, rfl, q.2⟩
def MonoG (t : TG) : Prop := ∀ v σ H (Q Q' : L2.St → Hp → Prop), (∀ σ H, Q σ H → Q' σ H) → t v σ H Q → t v σ H Q'
def MonoGs (t : TGs) : Prop := ∀ v σ H (Q Q' : L2.St → Hp → Prop), (∀ σ H, Q σ H → Q' σ H) → t v σ H Q → t v σ H Q'
theorem mono_name {i : Nat} : MonoG (gName i) := fun v σ H Q Q' k h => k _ _ h
theorem monos_nil : MonoGs gNil := fun v σ H Q Q' k h => ⟨h.1, k _ _ h.2⟩
theorem monos_cons {t : TG} {ts : TGs} (a : MonoG t) (b : MonoGs ts) : MonoGs (gCons t ts) := fun vs σ H Q Q' k ⟨v, r, e, h⟩ => ⟨v, r, e, a _ _ _ _ _ (fun σ' H' h' => b _ _ _ _ _ k h') h⟩
theorem mono_tup {K : PySem.W.Frag} {n : Nat} {ts : TGs} (b : MonoGs ts) : MonoG (gTup K n ts) := fun v σ H Q Q' k ⟨a, xs, e, h1, h2, h⟩ => ⟨a, xs, e, h1, h2, b _ _ _ _ _ k h⟩
theorem kws_cons {t : TG} {ts : TGs} {vs : List Nat} (m : MonoG t) (m2 : MonoGs ts) (a : KeepsW t vs) (b : KeepsWs ts vs) : KeepsWs (gCons t ts) vs := fun xs σ H Q ⟨v, r, e, h⟩ =>
  ⟨v, r, e, m _ _ _ _ _ (fun σ' H' ⟨w, h'⟩ => m2 _ _ _ _ _ (fun σ2 H2 ⟨w2, q⟩ => ⟨w2.trans w, q⟩) (b _ _ _ _ h')) (a _ _ _ _ h)⟩
theorem kw_tup {K : PySem.W.Frag} {n : Nat} {ts : TGs} {vs : List Nat} (b : KeepsWs ts vs) : KeepsW (gTup K n ts) vs := fun v σ H Q ⟨a, xs, e, h1, h2, h⟩ => ⟨a, xs, e, h1, h2, b _ _ _ _ h⟩

/-! an own object is changed -/
theorem Rel.write {G : Hp} {ρ : Env} {i : Nat} {s0 s1 : Slot} {a : Addr} {o' : HO} {d' : PV} (R : Rel M F G ρ σ H) (q : ρ[i]? = some s0) (f : σ[i]? = some (some (V.ref a))) (h : (∃ d, s0 = .ow d ∧ s1 = .ow d') ∨ ∃ d, s0 = .io d ∧ s1 = .io d')
    (ob : Ob M G o' d') : Rel M F G (ρ.set i s1) σ (upd H a o') := by
  have oc0 : s0.own = true := by rcases h with ⟨d, rfl, _⟩ | ⟨d, rfl, _⟩ <;> rfl
  have oc1 : s1.own = true := by rcases h with ⟨d, _, rfl⟩ | ⟨d, _, rfl⟩ <;> rfl
  obtain ⟨hg, o, hh⟩ := R.ownG q oc0 f
  have hi := len_of q
  have so := R.slot i s0 q
  rw [f] at so
  have other : ∀ (j : Nat) (c : Slot) (b : Addr), j ≠ i → ρ[j]? = some c → c.own = true → σ[j]? = some (some (V.ref b)) → b ≠ a := fun j c b hj e oc g z => by
    subst z
    exact hj (R.dist j i c s0 b e q oc oc0 g f)
  refine ⟨fun b u e => ?_, R.g0, R.gn, fun b u e n => ?_, by rw [List.length_set]; exact R.len, fun j c e => ?_, fun j k c c' b e1 e2 o1 o2 f1 f2 => ?_, fun j b e => ?_⟩
  · have : b ≠ a := fun z => by subst z; rw [hg] at e; cases e
    rw [upd_ne this]; exact R.sub b u e
  · have : b ≠ a := fun z => by
      subst z
      rcases h with ⟨d, rfl, _⟩ | ⟨d, rfl, _⟩
      · obtain ⟨c, e1, _, h0⟩ := so; cases e1; rw [h0] at e; cases e
      · obtain ⟨c, e1, _, h0⟩ := so; cases e1; exact n i h0
    rw [upd_ne this]; exact R.old b u e n
  · by_cases ij : i = j
    · subst ij
      rw [List.getElem?_set_self hi] at e
      cases e
      have own : OwnAt M G (upd H a o') a d' := ⟨hg, o', upd_same, ob⟩
      rcases h with ⟨d, rfl, rfl⟩ | ⟨d, rfl, rfl⟩
      · obtain ⟨c, e1, _, h0⟩ := so; cases e1; exact ⟨a, f, own, h0⟩
      · obtain ⟨c, e1, _, h0⟩ := so; cases e1; exact ⟨a, f, own, h0⟩
    · rw [List.getElem?_set_ne ij] at e
      refine (R.slot j c e).move (Same.refl _) (fun b oc g => (R.ownG e oc g).1) fun b u oc g hu => ?_
      rw [upd_ne (other j c b (Ne.symm ij) e oc g)]
      exact hu
  · have real : ∀ (j : Nat) (c : Slot), (ρ.set i s1)[j]? = some c → c.own = true → ∃ c0, ρ[j]? = some c0 ∧ c0.own = true := fun j c e oc => by
      by_cases ij : i = j
      · subst ij; exact ⟨s0, q, oc0⟩
      · rw [List.getElem?_set_ne ij] at e; exact ⟨c, e, oc⟩
    obtain ⟨c1, g1, w1⟩ := real j c e1 o1
    obtain ⟨c2, g2, w2⟩ := real k c' e2 o2
    exact R.dist j k c1 c2 b g1 g2 w1 w2 f1 f2
  · obtain ⟨d, e1, e2⟩ := R.ion j b e
    by_cases ij : i = j
    · subst ij
      rw [q] at e1; cases e1
      rcases h with ⟨d0, z, _⟩ | ⟨d0, _, rfl⟩
      · cases z
      · exact ⟨d', List.getElem?_set_self hi, e2⟩
    · exact ⟨d, by rw [List.getElem?_set_ne ij]; exact e1, e2⟩
/-- the object in a slot gets other contents -/
def upSlot (ρ : Env) (c : Cell) (f : PV → Option PV) : Option Env := match c with
  | .rf i => match ρ[i]? with
    | some (.ow d) => (f d).map fun d' => ρ.set i (.ow d')
    | some (.io d) => (f d).map fun d' => ρ.set i (.io d')
    | _ => none
  | _ => none
theorem upSlot_ok {G : Hp} {ρ ρ' : Env} {c : Cell} {x : V} {f : PV → Option PV} (R : Rel M F G ρ σ H) (ok : CellOk M F G ρ σ H x (settle c)) (e : upSlot ρ (settle c) f = some ρ') :
    ∃ a o d d', x = .ref a ∧ H a = some o ∧ Ob M G o d ∧ val ρ (settle c) = some d ∧ f d = some d' ∧ ∀ o', Ob M G o' d' → Rel M F G ρ' σ (upd H a o') := by
  cases c with
  | fz d => cases e
  | ow d => cases e
  | rf i =>
    have f1 : σ[i]? = some (some x) := ok
    dsimp only [upSlot, settle] at e
    cases q : ρ[i]? with
    | none => rw [q] at e; cases e
    | some s =>
      rw [q] at e
      have so := R.slot i s q
      rw [f1] at so
      have vq : val ρ (settle (.rf i)) = (match ρ[i]? with | some (.fz d) => some d | some (.ow d) => some d | some (.io d) => some d | _ => none) := rfl
      cases s with
      | ow d =>
        obtain ⟨d', e1, rfl⟩ := Option.map_eq_some_iff.mp e
        obtain ⟨a, e2, ⟨_, o, ho, ob⟩, _⟩ := so
        cases e2
        refine ⟨a, o, d, d', rfl, ho, ob, ?_, e1, fun o' ob' => R.write q f1 (.inl ⟨d, rfl, rfl⟩) ob'⟩
        rw [vq, q]
      | io d =>
        obtain ⟨d', e1, rfl⟩ := Option.map_eq_some_iff.mp e
        obtain ⟨a, e2, ⟨_, o, ho, ob⟩, _⟩ := so
        cases e2
        refine ⟨a, o, d, d', rfl, ho, ob, ?_, e1, fun o' ob' => R.write q f1 (.inr ⟨d, rfl, rfl⟩) ob'⟩
        rw [vq, q]
      | un => cases e
      | fz d => cases e
end
end L2.VL

set_option Elab.async false
set_option linter.all false
set_option maxRecDepth 100000
/-! VL6: what is walked; for, while, comprehensions; lists changed in place. -/
namespace L2.VL
open PySem PySem.Spec PyProof.Rows

/-- J walks the values ds while the ground G stands -/
structure Iter (M : Md) (G : Hp) (J : It) (ds : List PV) : Prop where
  go : ∀ i H, i < ds.length → Same G H → J.go i H
  stop : ∀ H, Same G H → J.stop ds.length H
  yld : ∀ F G1 ρ σ H (i : Nat) x H' d, ds[i]? = some d → Rel M F G1 ρ σ H → Same G G1 → J.yld i H x H' → ∃ G2, Rel M F G2 ρ σ H' ∧ Same G1 G2 ∧ Rp M G2 x d
theorem Iter.up {M : Md} {G G' : Hp} {J : It} {ds : List PV} (h : Iter M G J ds) (s : Same G G') : Iter M G' J ds :=
  ⟨fun i H hi q => h.go i H hi (s.trans q), fun H q => h.stop H (s.trans q), fun F G1 ρ σ H i x H' d e R q => h.yld F G1 ρ σ H i x H' d e R (s.trans q)⟩
theorem iter_list {M : Md} {G : Hp} {a : Addr} {xs : List V} {ds : List PV} (h : SqL M.K G a xs) (r : RpAll M G xs ds) : Iter M G (Itl M.K a) ds where
  go := fun i H hi s => by
    have e : i < xs.length := by rw [r.length]; exact hi
    exact ⟨xs, xs[i], s.seq h, List.getElem?_eq_getElem e⟩
  stop := fun H s => ⟨xs, s.seq h, by rw [r.length]; exact Nat.le_refl _⟩
  yld := fun F G1 ρ σ H i x H' d e R s ⟨e1, e2⟩ => by
    subst e1
    obtain ⟨v, h1, h2⟩ := r.get e
    have h3 := e2 xs ((s.trans R.sub).seq h)
    rw [h1] at h3; cases h3
    exact ⟨G1, R, Same.refl _, h2.mono s⟩
theorem iter_tup {M : Md} {G : Hp} {a : Addr} {xs : List V} {ds : List PV} (h : SqT M.K G a xs) (r : RpAll M G xs ds) : Iter M G (Itt M.K a) ds where
  go := fun i H hi s => by
    have e : i < xs.length := by rw [r.length]; exact hi
    exact ⟨xs, xs[i], Same.seqT s h, List.getElem?_eq_getElem e⟩
  stop := fun H s => ⟨xs, Same.seqT s h, by rw [r.length]; exact Nat.le_refl _⟩
  yld := fun F G1 ρ σ H i x H' d e R s ⟨e1, e2⟩ => by
    subst e1
    obtain ⟨v, h1, h2⟩ := r.get e
    have h3 := e2 xs (Same.seqT (s.trans R.sub) h)
    rw [h1] at h3; cases h3
    exact ⟨G1, R, Same.refl _, h2.mono s⟩
def rangeP (lo : Int) (n : Nat) : List PV := (List.range n).map fun i => .int (lo + (i : Nat))
theorem iter_range {M : Md} {G : Hp} {lo : Int} {n : Nat} : Iter M G (Itr lo n) (rangeP lo n) where
  go := fun i H hi s => by
    show i < n
    simpa [rangeP] using hi
  stop := fun H s => by show n ≤ _; simp [rangeP]
  yld := fun F G1 ρ σ H i x H' d e R s ⟨e1, e2⟩ => by
    subst e1
    have : d = .int (lo + (i : Nat)) := by
      unfold rangeP at e
      rw [List.getElem?_map] at e
      obtain ⟨j, h1, rfl⟩ := Option.map_eq_some_iff.mp e
      have := List.getElem?_range (n := n) (i := i)
      by_cases hi : i < n
      · rw [List.getElem?_range hi] at h1; cases h1; rfl
      · rw [List.getElem?_eq_none (by simpa using hi)] at h1; cases h1
    subst this
    rw [e2]
    exact ⟨G1, R, Same.refl _, .int _⟩
theorem iter_str {M : Md} {G : Hp} {l : List Nat} : Iter M G (Its (S l)) (l.map fun c => .str [c]) where
  go := fun i H hi s => by show i < (S l).cps.size; simpa [S] using hi
  stop := fun H s => by show (S l).cps.size ≤ _; simp [S]
  yld := fun F G1 ρ σ H i x H' d e R s ⟨e1, c, e2, e3⟩ => by
    subst e1
    rw [List.getElem?_map] at e
    obtain ⟨j, h1, rfl⟩ := Option.map_eq_some_iff.mp e
    have e4 : l[i]? = some c := by simpa [S] using e2
    rw [h1] at e4; cases e4
    rw [e3]
    exact ⟨G1, R, Same.refl _, .str [c]⟩
/-- a pair made anew at each turn -/
theorem yld_pair {M : Md} {F : Fr} {G1 : Hp} {ρ : Env} {σ : L2.St} {H : Hp} {T : Addr} {v w : V} {d e : PV} (R : Rel M F G1 ρ σ H) (hT : H T = none) (h1 : Rp M G1 v d) (h2 : Rp M G1 w e) :
    ∃ G2, Rel M F G2 ρ σ (upd H T (.tup [v, w])) ∧ Same G1 G2 ∧ Rp M G2 (.ref T) (.tup [d, e]) := by
  obtain ⟨G2, R2, s2, ok⟩ := R.newTup hT (.cons h1 (.cons h2 .nil))
  exact ⟨G2, R2, s2, ok⟩
theorem iter_enum {M : Md} {G : Hp} {a : Addr} {xs : List V} {ds : List PV} (h : SqL M.K G a xs) (r : RpAll M G xs ds) : Iter M G (Ite M.K a) (ds.mapIdx fun i d => .tup [.int (i : Nat), d]) where
  go := fun i H hi s => by
    rw [List.length_mapIdx] at hi
    have e : i < xs.length := by rw [r.length]; exact hi
    exact ⟨xs, xs[i], s.seq h, List.getElem?_eq_getElem e⟩
  stop := fun H s => ⟨xs, s.seq h, by rw [List.length_mapIdx, r.length]; exact Nat.le_refl _⟩
  yld := fun F G1 ρ σ H i x H' d e R s ⟨T, v, e1, e2, e3, e4⟩ => by
    subst e1; subst e3
    rw [List.getElem?_mapIdx] at e
    obtain ⟨j, h1, rfl⟩ := Option.map_eq_some_iff.mp e
    obtain ⟨w, h2, h3⟩ := r.get h1
    have h4 := e4 xs ((s.trans R.sub).seq h)
    rw [h2] at h4; cases h4
    exact yld_pair R e2 (.int _) (h3.mono s)
def zipP (ds es : List PV) : List PV := (ds.zip es).map fun (d, e) => .tup [d, e]
theorem iter_zip {M : Md} {G : Hp} {a b : Addr} {xs ys : List V} {ds es : List PV} (h : SqL M.K G a xs) (r : RpAll M G xs ds) (h' : SqL M.K G b ys) (r' : RpAll M G ys es) : Iter M G (Itz M.K a b) (zipP ds es) where
  go := fun i H hi s => by
    have hi : i < min ds.length es.length := by simpa [zipP] using hi
    have e : i < xs.length := by rw [r.length]; omega
    have e' : i < ys.length := by rw [r'.length]; omega
    exact ⟨xs, ys, xs[i], ys[i], s.seq h, s.seq h', List.getElem?_eq_getElem e, List.getElem?_eq_getElem e'⟩
  stop := fun H s => ⟨xs, ys, s.seq h, s.seq h', by rw [r.length, r'.length]; simp [zipP]; omega⟩
  yld := fun F G1 ρ σ H i x H' d e R s ⟨T, v, w, e1, e2, e3, e4, e5⟩ => by
    subst e1; subst e3
    unfold zipP at e
    rw [List.getElem?_map] at e
    obtain ⟨⟨d1, d2⟩, h1, rfl⟩ := Option.map_eq_some_iff.mp e
    rw [List.getElem?_zip_eq_some] at h1
    obtain ⟨v', h2, h3⟩ := r.get h1.1
    obtain ⟨w', h4, h5⟩ := r'.get h1.2
    have h6 := e4 xs ((s.trans R.sub).seq h)
    rw [h2] at h6; cases h6
    have h7 := e5 ys ((s.trans R.sub).seq h')
    rw [h4] at h7; cases h7
    exact yld_pair R e2 (h3.mono s) (h5.mono s)

/-! iterables -/
abbrev VI := Env → Rs (List PV)
def tI (M : Md) (E : L2.St → XK) (v : VI) : TI := fun σ H R' => ∃ F G ρ, Rel M F G ρ σ H ∧ Post M F E G σ (v ρ) fun ds ρ' G' H' => ∀ J, Iter M G' J ds → R' J H'
/-- a value's items -/
def iSeq (va : VX) : VI := fun ρ => (va ρ).bind fun c ρ1 => match freeze ρ1 c with
  | some (.lst ds, ρ2) => .ok ds ρ2
  | _ => .bad
def iTupV (va : VX) : VI := fun ρ => (va ρ).bind fun c ρ1 => match freeze ρ1 c with
  | some (.tup ds, ρ2) => .ok ds ρ2
  | _ => .bad
def iStrV (va : VX) : VI := fun ρ => (va ρ).bind fun c ρ1 => match freeze ρ1 c with
  | some (.str l, ρ2) => .ok (l.map fun c => .str [c]) ρ2
  | _ => .bad
def iRange1 (va : VA) : VI := fun ρ => (va ρ).bind fun cs ρ1 => match valAll ρ1 cs with
  | some [.int j] => if smallZ 1000000000000 j = true then .ok (rangeP 0 j.toNat) ρ1 else .bad
  | _ => .bad
def iRange2 (va : VA) : VI := fun ρ => (va ρ).bind fun cs ρ1 => match valAll ρ1 cs with
  | some [.int i, .int j] => if smallZ 1000000000000 i = true ∧ smallZ 1000000000000 j = true then .ok (rangeP i (j - i).toNat) ρ1 else .bad
  | _ => .bad
def iEnumV (va : VA) : VI := fun ρ => (va ρ).bind fun cs ρ1 => match freezeAll ρ1 (cs.map settle) with
  | some ([.lst ds], ρ2) => .ok (ds.mapIdx fun i d => .tup [.int (i : Nat), d]) ρ2
  | _ => .bad
def iZipV (va : VA) : VI := fun ρ => (va ρ).bind fun cs ρ1 => match freezeAll ρ1 (cs.map settle) with
  | some ([.lst ds, .lst es], ρ2) => .ok (zipP ds es) ρ2
  | _ => .bad
section
variable {X : Cx} {M : Md} {F : Fr} {E : L2.St → XK} {pos : Pos} {σ : L2.St} {H : Hp} {tg : Expr}
theorem PIimp {it : Expr} {t t' : TI} (h : PI X tg it t) (k : ∀ σ H Q, t' σ H Q → t σ H Q) : PI X tg it t' := ⟨fun pins s σ H Q I q => h.run pins s σ H Q I (k σ H Q q)⟩
theorem Rp.lst_sq {G : Hp} {x : V} {ds : List PV} (h : Rp M G x (.lst ds)) : ∃ a xs, x = .ref a ∧ G a = some (.lst xs) ∧ RpAll M G xs ds := by
  cases h with
  | obj h ob => obtain ⟨xs, rfl, r⟩ := ob.lst_inv; exact ⟨_, xs, rfl, h, r⟩
theorem vi_list {e : Expr} {va : VX} (he : PE X e (tV M E va)) (hK : M.K = X.K := by rfl) : PI X tg e (tI M E (iSeq va)) := by
  refine PIimp (pi_list he) fun σ H Q ⟨F, G, ρ, R, h⟩ => ?_
  refine ⟨F, G, ρ, R, (Post.bind h).imp fun c ρ1 G1 H1 R1 s1 h1 x ok => ?_⟩
  split at h1
  · rename_i ds ρ2 q
    obtain ⟨G2, R2, s2, r⟩ := freeze_ok R1 ok q
    obtain ⟨a, xs, rfl, ha, hr⟩ := r.lst_sq
    refine ⟨a, rfl, ⟨xs, SqL.of (R2.sub _ _ ha)⟩, ?_⟩
    rw [← hK]
    exact h1 G2 H1 R2 s2 _ (iter_list (SqL.of ha) hr)
  · exact h1.elim
theorem vi_tup {e : Expr} {va : VX} (he : PE X e (tV M E va)) (hK : M.K = X.K := by rfl) : PI X tg e (tI M E (iTupV va)) := by
  refine PIimp (pi_tup he) fun σ H Q ⟨F, G, ρ, R, h⟩ => ?_
  refine ⟨F, G, ρ, R, (Post.bind h).imp fun c ρ1 G1 H1 R1 s1 h1 x ok => ?_⟩
  split at h1
  · rename_i ds ρ2 q
    obtain ⟨G2, R2, s2, r⟩ := freeze_ok R1 ok q
    obtain ⟨a, xs, rfl, ha, hr⟩ := r.tup_inv
    refine ⟨a, rfl, ⟨xs, hK ▸ Same.seqT R2.sub ha⟩, ?_⟩
    rw [← hK]
    exact h1 G2 H1 R2 s2 _ (iter_tup ha hr)
  · exact h1.elim
theorem vi_str {e : Expr} {va : VX} (he : PE X e (tV M E va)) : PI X tg e (tI M E (iStrV va)) := by
  refine PIimp (pi_str he) fun σ H Q ⟨F, G, ρ, R, h⟩ => ?_
  refine ⟨F, G, ρ, R, (Post.bind h).imp fun c ρ1 G1 H1 R1 s1 h1 x ok => ?_⟩
  split at h1
  · rename_i l ρ2 q
    obtain ⟨G2, R2, s2, r⟩ := freeze_ok R1 ok q
    exact ⟨S l, r.str_inv, h1 G2 H1 R2 s2 _ iter_str⟩
  · exact h1.elim
theorem vi_range1 {a : Expr} {va : VA} {p : Pos} (hg : Gl X "range") (hm : X.mg "range" = none) (ha : PA X [a] (tA M E va)) (hs : starEach [a] X.env = [(false, eval a X.env)] := by rfl) : PI X tg (.Call (.Name "range" p) [a] [] pos) (tI M E (iRange1 va)) := by
  refine PIimp (pi_range1 hg hm ha hs) fun σ H Q ⟨F, G, ρ, R, h⟩ => ?_
  refine ⟨F, G, ρ, R, (Post.bind h).imp fun cs ρ1 G1 H1 R1 s1 h1 xs ok => ?_⟩
  split at h1
  · rename_i j q
    obtain ⟨x, rfl, v⟩ := (valAll_ok R1 ok q).one
    cases v.int
    split at h1
    · rename_i hj
      have hz := smallZ_iff.mp hj
      exact ⟨j, rfl, by omega, by omega, h1 G1 H1 R1 (Same.refl _) _ iter_range⟩
    · exact h1.elim
  · exact h1.elim
theorem vi_range2 {a b : Expr} {va : VA} {p : Pos} (hg : Gl X "range") (hm : X.mg "range" = none) (ha : PA X [a, b] (tA M E va)) (hs : starEach [a, b] X.env = [(false, eval a X.env), (false, eval b X.env)] := by rfl) (hs2 : starEach [b] X.env = [(false, eval b X.env)] := by rfl) :
    PI X tg (.Call (.Name "range" p) [a, b] [] pos) (tI M E (iRange2 va)) := by
  refine PIimp (pi_range2 hg hm ha hs hs2) fun σ H Q ⟨F, G, ρ, R, h⟩ => ?_
  refine ⟨F, G, ρ, R, (Post.bind h).imp fun cs ρ1 G1 H1 R1 s1 h1 xs ok => ?_⟩
  split at h1
  · rename_i i j q
    obtain ⟨x, y, rfl, v, w⟩ := (valAll_ok R1 ok q).two
    cases v.int; cases w.int
    split at h1
    · rename_i hj
      have hz := smallZ_iff.mp hj.1
      have hy := smallZ_iff.mp hj.2
      exact ⟨i, j, rfl, ⟨by omega, by omega, by omega, by omega⟩, h1 G1 H1 R1 (Same.refl _) _ iter_range⟩
    · exact h1.elim
  · exact h1.elim
theorem vi_enum {e : Expr} {va : VA} {p tpos : Pos} {elts : List Expr} {kk : Nat} (hg : Gl X "enumerate") (hm : X.mg "enumerate" = none) (ha : PA X [e] (tA M E va)) (hK : M.K = X.K := by rfl) (hs : starEach [e] X.env = [(false, eval e X.env)] := by rfl) :
    PI X (.Tuple elts kk tpos) (.Call (.Name "enumerate" p) [e] [] pos) (tI M E (iEnumV va)) := by
  refine PIimp (pi_enum hg hm ha hs) fun σ H Q ⟨F, G, ρ, R, h⟩ => ?_
  refine ⟨F, G, ρ, R, (Post.bind h).imp fun cs ρ1 G1 H1 R1 s1 h1 xs ok => ?_⟩
  split at h1
  · rename_i ds ρ2 q
    obtain ⟨G2, R2, s2, r⟩ := freezeAll_ok R1 ok q
    cases r with
    | cons r1 r2 =>
      cases r2
      obtain ⟨a, vs, rfl, hA, hr⟩ := r1.lst_sq
      refine ⟨a, vs, rfl, SqL.of (R2.sub _ _ hA), ?_⟩
      rw [← hK]
      exact h1 G2 H1 R2 s2 _ (iter_enum (SqL.of hA) hr)
  · exact h1.elim
theorem vi_zip {e e2 : Expr} {va : VA} {p tpos : Pos} {elts : List Expr} {kk : Nat} (hg : Gl X "zip") (hm : X.mg "zip" = none) (ha : PA X [e, e2] (tA M E va)) (hK : M.K = X.K := by rfl)
    (hs : starEach [e, e2] X.env = (false, eval e X.env) :: starEach [e2] X.env := by rfl) (hpl : (backTo pos (starEach [e2] X.env)).any (·.1) = false := by rfl) :
    PI X (.Tuple elts kk tpos) (.Call (.Name "zip" p) [e, e2] [] pos) (tI M E (iZipV va)) := by
  refine PIimp (pi_zip hg hm ha hs hpl) fun σ H Q ⟨F, G, ρ, R, h⟩ => ?_
  refine ⟨F, G, ρ, R, (Post.bind h).imp fun cs ρ1 G1 H1 R1 s1 h1 xs ok => ?_⟩
  split at h1
  · rename_i ds es ρ2 q
    obtain ⟨G2, R2, s2, r⟩ := freezeAll_ok R1 ok q
    cases r with
    | cons r1 r2 =>
      cases r2 with
      | cons r3 r4 =>
        cases r4
        obtain ⟨a, vs, rfl, hA, hr⟩ := r1.lst_sq
        obtain ⟨b, ws, rfl, hB, hr'⟩ := r3.lst_sq
        refine ⟨a, b, vs, ws, rfl, SqL.of (R2.sub _ _ hA), SqL.of (R2.sub _ _ hB), ?_⟩
        rw [← hK]
        exact h1 G2 H1 R2 s2 _ (iter_zip (SqL.of hA) hr (SqL.of hB) hr')
  · exact h1.elim
end
end L2.VL

set_option Elab.async false
set_option linter.all false
set_option maxRecDepth 100000
/-! VL7: for, while, comprehensions. -/
namespace L2.VL
open PySem PySem.Spec PyProof.Rows

def loopF (g : VG) (body : VS) : List PV → Env → Rs Fl
  | [], ρ => .ok .nx ρ
  | d :: ds, ρ => (g d ρ).bind fun _ ρ1 => match body ρ1 with
    | .ok .nx ρ2 => loopF g body ds ρ2
    | .ok .ct ρ2 => loopF g body ds ρ2
    | .ok .bk ρ2 => .ok .nx ρ2
    | r => r
def sFor (vi : VI) (g : VG) (body : VS) : VS := fun ρ => (vi ρ).bind fun ds ρ1 => loopF g body ds ρ1
def sWhile (t : VT) (body : VS) : Nat → VS
  | 0, _ => .bad
  | n + 1, ρ => (t ρ).bind fun k ρ1 => if k = true then (match body ρ1 with
    | .ok .nx ρ2 => sWhile t body n ρ2
    | .ok .ct ρ2 => sWhile t body n ρ2
    | .ok .bk ρ2 => .ok .nx ρ2
    | r => r) else .ok .nx ρ1

section
variable {X : Cx} {M : Md} {F : Fr} {E : L2.St → XK} {pos : Pos} {σ : L2.St} {H : Hp} {tg : Expr}
theorem body_post {G : Hp} {D : Ends} {N : L2.St → Hp → Prop} {r : Rs Fl} {k : Env → Rs Fl} (h : PostS M F E G D (match r with | .ok .nx ρ2 => k ρ2 | .ok .ct ρ2 => k ρ2 | .ok .bk ρ2 => .ok .nx ρ2 | r => r))
    (hN : ∀ σ' G' H' ρ', Rel M F G' ρ' σ' H' → Same G G' → PostS M F E G' D (k ρ') → N σ' H') : PostS M F E G { D with nx := N, ct := N, bk := D.nx } r := by
  cases r with
  | ok f ρ2 =>
    cases f with
    | nx => exact fun σ' G' H' R s => hN σ' G' H' ρ2 R s (PostS.up h s)
    | ct => exact fun σ' G' H' R s => hN σ' G' H' ρ2 R s (PostS.up h s)
    | bk => exact h
    | rt c => exact h
  | ex x ρ2 => exact h
  | bad => exact h
theorem vs_for {iter : Expr} {body : List Stmt} {vi : VI} {t : TG} {g : VG} {sb : VS} (hp : PassesOwn (model X.prog X.w) X.A X.env X.xe) (hi : PI X tg iter (tI M E vi)) (hg : PG X tg t) (gv : GV M E t g) (hb : PSs X body (tS M E sb)) (hc : X.calm = true := by rfl)
    (hs : ∀ x, foldedSetIterable iter X.env x = pure x := by intro _; rfl) : PS X (.For tg iter body [] pos) (tS M E (sFor vi g sb)) := by
  refine PSimp (ps_for hp hc hi hg hb hs) fun D σ H ⟨F, G, ρ, R, h⟩ => ?_
  refine ⟨F, G, ρ, R, (PostS.bind h).imp fun ds ρ1 G1 H1 R1 s1 h1 J it => ?_⟩
  refine ⟨fun i m σ' H' => ∃ G' ρ', Rel M F G' ρ' σ' H' ∧ Same G1 G' ∧ m = ds.length - i ∧ i ≤ ds.length ∧ PostS M F E G' D (loopF g sb (ds.drop i) ρ'), ⟨ds.length, G1, ρ1, R1, Same.refl _, by simp, Nat.zero_le _, h1⟩, ?_⟩
  rintro i m σ' H' ⟨G', ρ', R', s', rfl, hi', hq⟩
  have it' := it.up s'
  by_cases hlt : i < ds.length
  · refine .inr ⟨it'.go i H' hlt R'.sub, fun σ2 H2 => ∃ G2 ρ2, Rel M F G2 ρ2 σ2 H2 ∧ Same G1 G2 ∧ PostS M F E G2 D (loopF g sb (ds.drop (i + 1)) ρ2), fun σ2 H2 ⟨G2, ρ2, R2, s2, h2⟩ => ⟨ds.length - (i + 1), by omega, G2, ρ2, R2, s2, rfl, hlt, h2⟩, fun x H2 y => ?_⟩
    rw [List.drop_eq_getElem_cons hlt] at hq
    obtain ⟨G2, R2, s2, r2⟩ := it'.yld F G' ρ' σ' H' i x H2 ds[i] (List.getElem?_eq_getElem hlt) R' (Same.refl _) y
    refine gv x σ' H2 _ ⟨F, G2, ρ', ds[i], R2, r2, ?_⟩
    refine ((PostG.bindS hq).up s2).imp fun σ3 H3 ⟨G3, ρ3, R3, s3, h3⟩ => ?_
    exact ⟨F, G3, ρ3, R3, body_post h3 fun σ4 G4 H4 ρ4 R4 s4 h4 => ⟨G4, ρ4, R4, s'.trans (s3.trans s4), h4⟩⟩
  · have e : i = ds.length := by omega
    subst e
    rw [List.drop_length] at hq
    exact .inl ⟨it'.stop H' R'.sub, hq σ' G' H' R' (Same.refl _)⟩
theorem vs_while (n : Nat) {c : Expr} {body : List Stmt} {t : VT} {sb : VS} (hp : PassesOwn (model X.prog X.w) X.A X.env X.xe) (hc : PT X c (tT M E t)) (hb : PSs X body (tS M E sb)) : PS X (.While c body [] pos) (tS M E (sWhile t sb n)) := by
  refine PSimp (ps_while hp hc hb) fun D σ H ⟨F, G, ρ, R, h⟩ => ?_
  refine ⟨fun m σ' H' => ∃ G' ρ', Rel M F G' ρ' σ' H' ∧ PostS M F E G' D (sWhile t sb m ρ'), ⟨n, G, ρ, R, h⟩, ?_⟩
  rintro m σ' H' ⟨G', ρ', R', hq⟩
  cases m with
  | zero => exact hq.elim
  | succ m =>
    unfold sWhile at hq
    refine ⟨F, G', ρ', R', (PostS.bind hq).imp fun k ρ1 G1 H1 R1 s1 h1 => ?_⟩
    cases k with
    | false => rw [if_neg Bool.false_ne_true] at h1 ⊢; exact h1 σ' G1 H1 R1 (Same.refl _)
    | true =>
      rw [if_pos rfl] at h1 ⊢
      refine ⟨fun σ2 H2 => ∃ G2 ρ2, Rel M F G2 ρ2 σ2 H2 ∧ PostS M F E G2 D (sWhile t sb m ρ2), fun σ2 H2 ⟨G2, ρ2, R2, h2⟩ => ⟨m, Nat.lt_succ_self _, G2, ρ2, R2, h2⟩, ?_⟩
      exact ⟨F, G1, ρ1, R1, body_post h1 fun σ4 G4 H4 ρ4 R4 s4 h4 => ⟨G4, ρ4, R4, h4⟩⟩
end

/-! ### an object that is nobody's yet, held aside -/
section
variable {M : Md} {F : Fr} {G H : Hp} {ρ : Env} {σ : L2.St} {a : Addr} {o o' : HO}
def Fr.hold (F : Fr) (a : Addr) (o : HO) : Fr := ⟨upd F.H0 a o, F.G0, F.io⟩
/-- a stands free: no slot has it, the ground has it not -/
structure Free (F : Fr) (G H : Hp) (ρ : Env) (σ : L2.St) (a : Addr) (o : HO) : Prop where
  g : G a = none
  h0 : F.H0 a = none
  h : H a = some o
  nh : ∀ (i : Nat) (c : Slot), ρ[i]? = some c → c.own = true → σ[i]? ≠ some (some (V.ref a))
theorem Rel.hold (R : Rel M F G ρ σ H) (f : Free F G H ρ σ a o) : Rel M (F.hold a o) G ρ σ H where
  sub := R.sub
  g0 := R.g0
  gn := fun b u e => by
    rcases R.gn b u e with h | h
    · exact .inl h
    · by_cases z : b = a
      · subst z; rw [f.g] at e; cases e
      · exact .inr (by show upd F.H0 a o b = none; rw [upd_ne z]; exact h)
  old := fun b u e n => by
    by_cases z : b = a
    · subst z
      have e : upd F.H0 b o b = some u := e
      rw [upd_same] at e; cases e; exact f.h
    · have e : upd F.H0 a o b = some u := e
      rw [upd_ne z] at e; exact R.old b u e n
  len := R.len
  slot := fun i c e => by
    have so := R.slot i c e
    cases c with
    | un => trivial
    | fz d => exact so
    | io d => exact so
    | ow d =>
      obtain ⟨b, e1, o1, h1⟩ := so
      exact ⟨b, e1, o1, by show upd F.H0 a o b = none; rw [upd_ne (fun (z : b = a) => f.nh i _ e rfl (z ▸ e1))]; exact h1⟩
  dist := R.dist
  ion := R.ion
theorem Rel.unhold (R : Rel M (F.hold a o) G ρ σ H) (h0 : F.H0 a = none) (g0 : F.G0 a = none) (ni : ∀ i, F.io.lookup i ≠ some a) : Rel M F G ρ σ H ∧ Free F G H ρ σ a o := by
  have own : ∀ (i : Nat) (c : Slot), ρ[i]? = some c → c.own = true → σ[i]? ≠ some (some (V.ref a)) := fun i c e oc z => by
    have so := R.slot i c e
    rw [z] at so
    cases c with
    | un => cases oc
    | fz d => cases oc
    | ow d =>
      obtain ⟨b, e1, _, h1⟩ := so
      cases e1
      have h1 : upd F.H0 a o a = none := h1
      rw [upd_same] at h1; cases h1
    | io d => obtain ⟨b, e1, _, h1⟩ := so; cases e1; exact ni i h1
  refine ⟨⟨R.sub, R.g0, fun b u e => ?_, fun b u e n => ?_, R.len, fun i c e => ?_, R.dist, R.ion⟩, ?_, h0, R.old a o (show upd F.H0 a o a = some o from upd_same) ni, own⟩
  · rcases R.gn b u e with h | h
    · exact .inl h
    · by_cases z : b = a
      · subst z; exact .inr h0
      · have h : upd F.H0 a o b = none := h
        rw [upd_ne z] at h; exact .inr h
  · have z : b ≠ a := fun z => by subst z; rw [h0] at e; cases e
    exact R.old b u (show upd F.H0 a o b = some u by rw [upd_ne z]; exact e) n
  · have so := R.slot i c e
    cases c with
    | un => trivial
    | fz d => exact so
    | io d => exact so
    | ow d =>
      obtain ⟨b, e1, o1, h1⟩ := so
      have z : b ≠ a := fun z => own i _ e rfl (z ▸ e1)
      have h1 : upd F.H0 a o b = none := h1
      rw [upd_ne z] at h1
      exact ⟨b, e1, o1, h1⟩
  · cases q : G a with
    | none => rfl
    | some u =>
      rcases R.gn a u q with h | h
      · have h : F.G0 a = some u := h
        rw [g0] at h; cases h
      · have h : upd F.H0 a o a = none := h
        rw [upd_same] at h; cases h
theorem Rel.setFree (R : Rel M F G ρ σ H) (f : Free F G H ρ σ a o) (o' : HO) : Rel M F G ρ σ (upd H a o') ∧ Free F G (upd H a o') ρ σ a o' := by
  refine ⟨⟨fun b u e => ?_, R.g0, R.gn, fun b u e n => ?_, R.len, fun i c e => ?_, R.dist, R.ion⟩, f.g, f.h0, upd_same, f.nh⟩
  · rw [upd_ne (fun z => by subst z; rw [f.g] at e; cases e)]; exact R.sub b u e
  · rw [upd_ne (fun z => by subst z; rw [f.h0] at e; cases e)]; exact R.old b u e n
  · refine (R.slot i c e).move (Same.refl _) (fun b oc g => (R.ownG e oc g).1) fun b u oc g hu => ?_
    rw [upd_ne (fun (z : b = a) => f.nh i c e oc (z ▸ g))]
    exact hu
theorem Rel.noio (R : Rel M F G ρ σ H) (f : Free F G H ρ σ a o) : ∀ i, F.io.lookup i ≠ some a := fun i e => by
  obtain ⟨d, e1, e2⟩ := R.ion i a e
  exact f.nh i _ e1 rfl e2
theorem Rel.noG0 (R : Rel M F G ρ σ H) (f : Free F G H ρ σ a o) : F.G0 a = none := by
  cases q : F.G0 a with
  | none => rfl
  | some u => have := R.g0 a u q; rw [f.g] at this; cases this
/-- a new object, free -/
theorem Rel.newFree (R : Rel M F G ρ σ H) (hp : H a = none) (o : HO) : Rel M F G ρ σ (upd H a o) ∧ Free F G (upd H a o) ρ σ a o := ⟨R.alloc hp o, R.freeG hp, R.free0 hp, upd_same, R.nohold hp⟩
theorem Free.cell (f : Free F G H ρ σ a o) {d : PV} (ob : Ob M G o d) : CellOk M F G ρ σ H (.ref a) (.ow d) := ⟨a, rfl, ⟨f.g, o, f.h, ob⟩, f.h0, f.nh⟩
end

/-! ### comprehensions -/
def wipeE (ρ : Env) : List Nat → Env
  | [] => ρ
  | v :: vs => (wipeE ρ vs).set v .un
def okW (ρ : Env) (vs : List Nat) : Bool := vs.all fun v => match ρ[v]? with
  | some .un => true
  | some (.fz _) => true
  | _ => false
def unwipe (ρ1 : Env) : List Nat → Env → Env
  | [], ρ2 => ρ2
  | v :: vs, ρ2 => unwipe ρ1 vs (ρ2.set v (ρ1.getD v .un))
def lcL (vs : List Nat) (g : VG) (t : VT) (ve : VX) : List PV → List PV → Env → Option (List PV × Env)
  | [], acc, ρ => some (acc, ρ)
  | d :: ds, acc, ρ => match g d ρ with
    | .ok _ ρ1 => match t ρ1 with
      | .ok true ρ2 => match ve ρ2 with
        | .ok c ρ3 => match freeze ρ3 c with
          | some (e, ρ4) => if acc.length < sizeLine ∧ okW ρ4 vs = true then lcL vs g t ve ds (acc ++ [e]) (wipeE ρ4 vs) else none
          | none => none
        | _ => none
      | .ok false ρ2 => if okW ρ2 vs = true then lcL vs g t ve ds acc (wipeE ρ2 vs) else none
      | _ => none
    | _ => none
def vLc (vi : VI) (vs : List Nat) (g : VG) (t : VT) (ve : VX) : VX := fun ρ => (vi ρ).bind fun ds ρ1 =>
  if okW ρ1 vs = true then match lcL vs g t ve ds [] (wipeE ρ1 vs) with
    | some (acc, ρ2) => if okW ρ2 vs = true then .ok (.ow (.lst acc)) (unwipe ρ1 vs ρ2) else .bad
    | none => .bad
  else .bad
def tYesV : VT := fun ρ => .ok true ρ
section
variable {X : Cx} {M : Md} {F : Fr} {E : L2.St → XK} {pos : Pos} {σ : L2.St} {H : Hp} {tg : Expr}
theorem okW_cons {ρ : Env} {v : Nat} {vs : List Nat} (h : okW ρ (v :: vs) = true) : (∃ s, ρ[v]? = some s ∧ s.own = false) ∧ okW ρ vs = true := by
  unfold okW at h ⊢
  rw [List.all_cons, Bool.and_eq_true] at h
  refine ⟨?_, h.2⟩
  have h1 := h.1
  cases q : ρ[v]? with
  | none => rw [q] at h1; cases h1
  | some s =>
    rw [q] at h1
    refine ⟨s, rfl, ?_⟩
    cases s with
    | un => rfl
    | fz d => rfl
    | ow d => cases h1
    | io d => cases h1
theorem okW_set {ρ : Env} {v : Nat} {s : Slot} (hs : s.own = false) : ∀ {vs : List Nat}, okW ρ vs = true → okW (ρ.set v s) vs = true
  | [], _ => rfl
  | w :: vs, h => by
    obtain ⟨⟨u, e, _⟩, h2⟩ := okW_cons h
    have ih := okW_set (v := v) hs h2
    unfold okW at h ih ⊢
    rw [List.all_cons, Bool.and_eq_true] at h ⊢
    refine ⟨?_, ih⟩
    by_cases z : v = w
    · subst z
      rw [List.getElem?_set_self (len_of e)]
      cases s with
      | un => rfl
      | fz d => rfl
      | ow d => cases hs
      | io d => cases hs
    · rw [List.getElem?_set_ne z]; exact h.1
theorem wipeE_get {ρ : Env} {v : Nat} : ∀ {vs : List Nat}, v ∉ vs → (wipeE ρ vs)[v]? = ρ[v]?
  | [], _ => rfl
  | w :: vs, h => by
    show ((wipeE ρ vs).set w .un)[v]? = _
    rw [List.getElem?_set_ne (fun (z : w = v) => h (z ▸ List.mem_cons_self)), wipeE_get fun z => h (List.mem_cons_of_mem _ z)]
theorem okW_wipe {ρ : Env} {us : List Nat} : ∀ {vs : List Nat}, okW ρ us = true → okW (wipeE ρ vs) us = true
  | [], h => h
  | v :: vs, h => okW_set rfl (okW_wipe h)
theorem Rel.wipe {G : Hp} {ρ : Env} (R : Rel M F G ρ σ H) : ∀ {vs : List Nat}, okW ρ vs = true → Rel M F G (wipeE ρ vs) (wipe σ vs) H
  | [], _ => R
  | v :: vs, h => by
    obtain ⟨_, h2⟩ := okW_cons h
    obtain ⟨⟨s, e, ns⟩, _⟩ := okW_cons (okW_wipe (vs := vs) h)
    exact (R.wipe h2).setSlot e (fun d z => by subst z; cases ns) trivial (fun _ z => nomatch z) (fun _ z => nomatch z)
theorem wipe_get {σ : L2.St} {v : Nat} : ∀ {vs : List Nat}, v ∉ vs → (L2.wipe σ vs)[v]? = σ[v]?
  | [], _ => rfl
  | w :: vs, h => by
    show ((L2.wipe σ vs).set w none)[v]? = _
    rw [List.getElem?_set_ne (fun (z : w = v) => h (z ▸ List.mem_cons_self)), wipe_get fun z => h (List.mem_cons_of_mem _ z)]
theorem Rel.unwipe {G1 G : Hp} {ρ1 : Env} {H1 : Hp} (R1 : Rel M F G1 ρ1 σ H1) (s : Same G1 G) : ∀ {vs : List Nat} {ρ2 : Env}, vs.Nodup → okW ρ1 vs = true → okW ρ2 vs = true → Rel M F G ρ2 (L2.wipe σ vs) H → Rel M F G (unwipe ρ1 vs ρ2) σ H
  | [], _, _, _, _, R => R
  | v :: vs, ρ2, nd, h1, h2, R => by
    obtain ⟨hv, nd'⟩ := List.nodup_cons.mp nd
    obtain ⟨⟨s1, e1, n1⟩, h1'⟩ := okW_cons h1
    obtain ⟨⟨s2, e2, n2⟩, h2'⟩ := okW_cons h2
    have eg : ρ1.getD v .un = s1 := by rw [List.getD_eq_getElem?_getD, e1]; rfl
    show Rel M F G (VL.unwipe ρ1 vs (ρ2.set v (ρ1.getD v .un))) σ H
    rw [eg]
    have lv : v < σ.length := by rw [R1.len]; exact len_of e1
    refine R1.unwipe s nd' h1' (okW_set n1 h2') ?_
    have R' : Rel M F G ρ2 ((L2.wipe σ vs).set v none) H := R
    have so := R1.slot v s1 e1
    have R3 := R'.setSlot (i := v) (s1 := s1) (v := σ[v]) e2 (fun d z => by subst z; cases n2) ?_ (fun a oc => by rw [n1] at oc; cases oc) (fun d z => by subst z; cases n1)
    · rw [List.set_set, set_self (by rw [wipe_get hv]; exact List.getElem?_eq_getElem lv)] at R3
      exact R3
    · rw [List.getElem?_eq_getElem lv] at so
      cases s1 with
      | un => trivial
      | fz d => obtain ⟨y, e, r⟩ := so; exact ⟨y, e, r.mono s⟩
      | ow d => cases n1
      | io d => cases n1
abbrev EN : L2.St → XK := fun _ _ _ _ => False
theorem vpts_nil : PTs X [] (tT M EN tYesV) := ⟨fun pins s σ H Q I ⟨F, G, ρ, R, h⟩ => pts_nil.run pins s σ H Q I (h G H R (Same.refl _))⟩
theorem vpts_one {c : Expr} {t : VT} (h : PT X c (tT M EN t)) : PTs X [c] (tT M EN t) := pts_one h
theorem wipe_none {σ : L2.St} {u : Nat} {v : Option V} : ∀ {ws : List Nat}, u ∈ ws → (L2.wipe σ ws)[u]? = some v → v = none
  | [], h, _ => nomatch h
  | w :: ws, hw, hv => by
    have hv : ((L2.wipe σ ws).set w none)[u]? = some v := hv
    by_cases z : w = u
    · subst z
      by_cases hl : w < (L2.wipe σ ws).length
      · rw [List.getElem?_set_self hl] at hv; cases hv; rfl
      · rw [List.getElem?_eq_none (by simpa using hl)] at hv; cases hv
    · rw [List.getElem?_set_ne z] at hv
      rcases List.mem_cons.mp hw with q | q
      · exact absurd q.symm z
      · exact wipe_none q hv
theorem wipe_wipe {σ : L2.St} {vs : List Nat} : ∀ {us : List Nat}, (∀ u ∈ us, u ∈ vs) → L2.wipe (L2.wipe σ vs) us = L2.wipe σ vs
  | [], _ => rfl
  | u :: us, hu => by
    show (L2.wipe (L2.wipe σ vs) us).set u none = _
    rw [wipe_wipe fun w hw => hu w (List.mem_cons_of_mem _ hw)]
    have hm := hu u List.mem_cons_self
    cases q : (L2.wipe σ vs)[u]? with
    | none =>
      refine List.ext_getElem? fun j => ?_
      by_cases z : u = j
      · subst z; rw [List.getElem?_eq_none (by simpa using List.getElem?_eq_none_iff.mp q), q]
      · rw [List.getElem?_set_ne z]
    | some v => cases wipe_none hm q; exact set_self q
/-- wiping more -/
theorem wipe_more {σ : L2.St} {vs us : List Nat} (h : ∀ u ∈ us, u ∈ vs) : L2.wipe (L2.wipe σ us) vs = L2.wipe σ vs := by
  induction us with
  | nil => rfl
  | cons u us ih =>
    show L2.wipe ((L2.wipe σ us).set u none) vs = _
    rw [wipe_set (h u List.mem_cons_self), ih fun w hw => h w (List.mem_cons_of_mem _ hw)]
/-- one turn: the list at D grows -/
theorem lc_turn {G : Hp} {ρ : Env} {σw : L2.St} {D : Addr} {accV : List V} {acc : List PV} {vs : List Nat} {t : TG} {g : VG} {tv : VT} {ve : VX} {d : PV} {ds : List PV} {res : List PV × Env} {x : V} {N : Hp → Prop}
    (hw : L2.wipe σw vs = σw) (R : Rel M F G ρ σw H) (f : Free F G H ρ σw D (.lst accV)) (ra : RpAll M G accV acc) (rx : Rp M G x d) (gv : GV M EN t g) (kw : KeepsW t vs) (mg : MonoG t)
    (e : lcL vs g tv ve (d :: ds) acc ρ = some res)
    (hN : ∀ G' ρ' acc' accV' H', Rel M F G' ρ' σw H' → Same G G' → Free F G' H' ρ' σw D (.lst accV') → RpAll M G' accV' acc' → lcL vs g tv ve ds acc' ρ' = some res → N H') :
    t x σw H fun σ2 H2 => L2.wipe σ2 vs = σw ∧ tT M EN tv σ2 H2 fun b H3 =>
      if b = true then tV M EN ve σ2 H3 fun y H4 => ∃ acc, H4 D = some (.lst acc) ∧ acc.length < sizeLine ∧ N (upd H4 D (.lst (acc ++ [y]))) else N H3 := by
  have h0 := f.h0
  have g0 := R.noG0 f
  have ni := R.noio f
  refine mg x σw H (fun σ2 H2 => L2.wipe σ2 vs = L2.wipe σw vs ∧ (L2.wipe σ2 vs = σw → tT M EN tv σ2 H2 fun b H3 =>
      if b = true then tV M EN ve σ2 H3 fun y H4 => ∃ acc, H4 D = some (.lst acc) ∧ acc.length < sizeLine ∧ N (upd H4 D (.lst (acc ++ [y]))) else N H3)) _ (fun σ2 H2 ⟨w, k⟩ => ⟨w.trans hw, k (w.trans hw)⟩) ?_
  refine kw x σw H _ (gv x σw H _ ⟨F.hold D (.lst accV), G, ρ, d, R.hold f, rx, ?_⟩)
  unfold lcL at e
  cases q1 : g d ρ with
  | ex x ρ1 => rw [q1] at e; cases e
  | bad => rw [q1] at e; cases e
  | ok u ρ1 =>
    rw [q1] at e
    dsimp only at e
    intro σ2 G2 H2 R2 s2 w2
    refine ⟨F.hold D (.lst accV), G2, ρ1, R2, ?_⟩
    cases q2 : tv ρ1 with
    | ex x ρ2 => rw [q2] at e; cases e
    | bad => rw [q2] at e; cases e
    | ok b ρ2 =>
      rw [q2] at e
      intro G3 H3 R3 s3
      cases b with
      | false =>
        dsimp only at e
        rw [if_neg Bool.false_ne_true]
        by_cases hk : okW ρ2 vs = true
        · rw [if_pos hk] at e
          have R4 := R3.wipe hk
          rw [w2] at R4
          obtain ⟨R5, f5⟩ := R4.unhold h0 g0 ni
          exact hN G3 _ acc accV H3 R5 (s2.trans s3) f5 (ra.mono (s2.trans s3)) e
        · rw [if_neg hk] at e; cases e
      | true =>
        dsimp only at e
        rw [if_pos rfl]
        refine ⟨F.hold D (.lst accV), G3, ρ2, R3, ?_⟩
        cases q3 : ve ρ2 with
        | ex x ρ3 => rw [q3] at e; cases e
        | bad => rw [q3] at e; cases e
        | ok c ρ3 =>
          rw [q3] at e
          intro G4 H4 R4 s4 y ok
          dsimp only at e
          cases q4 : freeze ρ3 c with
          | none => rw [q4] at e; cases e
          | some p =>
            obtain ⟨pv, ρ4⟩ := p
            rw [q4] at e
            dsimp only at e
            by_cases hk : acc.length < sizeLine ∧ okW ρ4 vs = true
            · rw [if_pos hk] at e
              obtain ⟨G5, R5, s5, r5⟩ := freeze_ok R4 ok q4
              have s0 := s2.trans (s3.trans (s4.trans s5))
              have R6 := R5.wipe hk.2
              rw [w2] at R6
              obtain ⟨R7, f7⟩ := R6.unhold h0 g0 ni
              obtain ⟨R8, f8⟩ := R7.setFree f7 (.lst (accV ++ [y]))
              exact ⟨accV, f7.h, by rw [ra.length]; exact hk.1, hN G5 _ (acc ++ [pv]) (accV ++ [y]) _ R8 s0 f8 ((ra.mono s0).append (.cons r5 .nil)) e⟩
            · rw [if_neg hk] at e; cases e
theorem tV_lc {t : TG} {g : VG} {tv : VT} {ve : VX} {vi : VI} {vs : List Nat} {Q : VK} (gv : GV M EN t g) (kw : KeepsW t vs) (mg : MonoG t) (nd : vs.Nodup) (h : tV M E (vLc vi vs g tv ve) σ H Q) : tLc (tI M E vi) t (tT M EN tv) (tV M EN ve) vs σ H Q := by
  obtain ⟨F, G, ρ, R, h⟩ := h
  refine ⟨F, G, ρ, R, (Post.bind h).imp fun ds ρ1 G1 H1 R1 s1 h1 J it D hD => ?_⟩
  by_cases hk : okW ρ1 vs = true
  · rw [if_pos hk] at h1
    cases q : lcL vs g tv ve ds [] (wipeE ρ1 vs) with
    | none => rw [q] at h1; exact h1.elim
    | some res =>
      rw [q] at h1
      dsimp only at h1
      by_cases hk2 : okW res.2 vs = true
      · rw [if_pos hk2] at h1
        have R2 := R1.wipe hk
        obtain ⟨R3, f3⟩ := R2.newFree hD (.lst [])
        have hw : L2.wipe (L2.wipe σ vs) vs = L2.wipe σ vs := wipe_wipe fun _ h => h
        refine ⟨fun i m H' => ∃ G' ρ' accV acc, Rel M F G' ρ' (L2.wipe σ vs) H' ∧ Same G1 G' ∧ Free F G' H' ρ' (L2.wipe σ vs) D (.lst accV) ∧ RpAll M G' accV acc ∧ m = ds.length - i ∧ i ≤ ds.length ∧ lcL vs g tv ve (ds.drop i) acc ρ' = some res,
          ⟨ds.length, G1, _, [], [], R3, Same.refl _, f3, .nil, by simp, Nat.zero_le _, q⟩, ?_⟩
        rintro i m H' ⟨G', ρ', accV, acc, R', s', f', ra, rfl, hi', hq⟩
        have it' := it.up s'
        by_cases hlt : i < ds.length
        · refine .inr ⟨it'.go i H' hlt R'.sub, fun H2 => ∃ G' ρ' accV acc, Rel M F G' ρ' (L2.wipe σ vs) H2 ∧ Same G1 G' ∧ Free F G' H2 ρ' (L2.wipe σ vs) D (.lst accV) ∧ RpAll M G' accV acc ∧ lcL vs g tv ve (ds.drop (i + 1)) acc ρ' = some res,
            fun H2 ⟨G2, ρ2, a2, c2, R2, s2, f2, r2, h2⟩ => ⟨ds.length - (i + 1), by omega, G2, ρ2, a2, c2, R2, s2, f2, r2, rfl, hlt, h2⟩, fun x H2 y => ?_⟩
          rw [List.drop_eq_getElem_cons hlt] at hq
          obtain ⟨G2, R2, s2, r2⟩ := it'.yld (F.hold D (.lst accV)) G' ρ' _ H' i x H2 ds[i] (List.getElem?_eq_getElem hlt) (R'.hold f') (Same.refl _) y
          obtain ⟨R2', f2'⟩ := R2.unhold f'.h0 (R'.noG0 f') (R'.noio f')
          exact lc_turn hw R2' f2' (ra.mono s2) r2 gv kw mg hq fun G3 ρ3 acc3 accV3 H3 R3 s3 f3 r3 h3 => ⟨G3, ρ3, accV3, acc3, R3, s'.trans (s2.trans s3), f3, r3, h3⟩
        · have e : i = ds.length := by omega
          subst e
          rw [List.drop_length] at hq
          unfold lcL at hq
          cases hq
          refine .inl ⟨it'.stop H' R'.sub, ?_⟩
          obtain ⟨Ra, fa⟩ := R1.newFree hD (.lst accV)
          have R5 := (Ra.hold fa).unwipe s' nd hk hk2 (R'.hold f')
          obtain ⟨R6, f6⟩ := R5.unhold f'.h0 (R'.noG0 f') (R'.noio f')
          exact h1 G' H' R6 s' _ (f6.cell (.lst ra))
      · rw [if_neg hk2] at h1; exact h1.elim
  · rw [if_neg hk] at h1; exact h1.elim
theorem vx_lc {elt tg iter : Expr} {ifs : List Expr} {scope : Scope} {own : List (Str × Nat)} {t : TG} {g : VG} {tv : VT} {ve : VX} {vi : VI} (hN : X.N.Nodup) (hi : PI X tg iter (tI M E vi)) (ok : BlkOk X.N X.env.scope scope own)
    (gv : GV M EN t g) (kw : KeepsW t (own.map (·.2))) (mg : MonoG t)
    (hg : ∀ (s : Shared) (H : Hp) (C : Addr) (cl : List (Str × Addr)) (fp : List Addr), PG (X.blk s H scope (compEnvC scope cl C X.env) fp) tg t)
    (ht : ∀ (s : Shared) (H : Hp) (C : Addr) (cl : List (Str × Addr)) (fp : List Addr), PTs (X.blk s H scope (compEnvC scope cl C X.env) fp) ifs (tT M EN tv))
    (he : ∀ (s : Shared) (H : Hp) (C : Addr) (cl : List (Str × Addr)) (fp : List Addr), PE (X.blk s H scope (compEnvC scope cl C X.env) fp) elt (tV M EN ve))
    (nd : (own.map (·.2)).Nodup := by decide) (hc : X.calm = true := by rfl) (hs : ∀ x, foldedSetIterable iter X.env x = pure x := by intro _; rfl) :
    PE X (.ListComp elt [⟨tg, iter, ifs, 0⟩] scope pos) (tV M E (vLc vi (own.map (·.2)) g tv ve)) :=
  PEimp (pe_lc hc hN hi ok hg ht he hs) fun _ _ _ h => tV_lc gv kw mg nd h
/-- name = [..] -/
theorem vs_setLc (i : Nat) {y : Str} {py spos : Pos} {elt tg iter : Expr} {ifs : List Expr} {scope : Scope} {own : List (Str × Nat)} {t : TG} {g : VG} {tv : VT} {ve : VX} {vi : VI} (hN : X.N.Nodup) (hi : PI X tg iter (tI M E vi)) (ok : BlkOk X.N X.env.scope scope own)
    (gv : GV M EN t g) (kw : KeepsW t (own.map (·.2))) (mg : MonoG t)
    (hsw : swapsWith (.ListComp elt [⟨tg, iter, ifs, 0⟩] scope pos) (some (.Name y py)) spos.line X.env = pure true)
    (hg : ∀ (s : Shared) (H : Hp) (C : Addr) (cl : List (Str × Addr)) (fp : List Addr), PG (X.blk s H scope (compEnvC scope cl C X.env) fp) tg t)
    (ht : ∀ (s : Shared) (H : Hp) (C : Addr) (cl : List (Str × Addr)) (fp : List Addr), PTs (X.blk s H scope (compEnvC scope cl C X.env) fp) ifs (tT M EN tv))
    (he : ∀ (s : Shared) (H : Hp) (C : Addr) (cl : List (Str × Addr)) (fp : List Addr), PE (X.blk s H scope (compEnvC scope cl C X.env) fp) elt (tV M EN ve))
    (nd : (own.map (·.2)).Nodup := by decide) (hy : X.N[i]? = some y := by rfl) (hyl : X.env.scope.names.lookup y = some .local := by rfl) (hc : X.calm = true := by rfl) (hs : ∀ x, foldedSetIterable iter X.env x = pure x := by intro _; rfl) :
    PS X (.Assign [.Name y py] (.ListComp elt [⟨tg, iter, ifs, 0⟩] scope pos) spos) (tS M E (sSet i (vLc vi (own.map (·.2)) g tv ve))) := by
  refine PSimp (ps_setLc hc hN hy hyl hsw hi ok hg ht he hs) fun D σ H ⟨F, G, ρ, R, h⟩ => ?_
  refine tV_lc (E := E) gv kw mg nd ⟨F, G, ρ, R, (PostS.bind h).imp fun c ρ1 G1 H1 R1 s1 h1 x ok => ?_⟩
  cases q : put ρ1 i c with
  | none => rw [q] at h1; exact h1.elim
  | some ρ2 =>
    rw [q] at h1
    obtain ⟨G2, R2, s2⟩ := put_ok R1 ok q
    exact h1 _ G2 H1 R2 s2

/-! two clauses -/
theorem lc_inner {G1 : Hp} {ρ : Env} {σw : L2.St} {D : Addr} {accV : List V} {acc : List PV} {vs : List Nat} {t : TG} {g : VG} {tv : VT} {ve : VX} {ds : List PV} {res : List PV × Env} {J : It} {N : Hp → Prop}
    (hw : L2.wipe σw vs = σw) (it : Iter M G1 J ds) (R : Rel M F G1 ρ σw H) (f : Free F G1 H ρ σw D (.lst accV)) (ra : RpAll M G1 accV acc) (gv : GV M EN t g) (kw : KeepsW t vs) (mg : MonoG t)
    (e : lcL vs g tv ve ds acc ρ = some res)
    (hd : ∀ G' accV' H', Rel M F G' res.2 σw H' → Same G1 G' → Free F G' H' res.2 σw D (.lst accV') → RpAll M G' accV' res.1 → N H') :
    ∃ W1 : Nat → Nat → Hp → Prop, (∃ m, W1 0 m H) ∧ ∀ j k H, W1 j k H → (J.stop j H ∧ N H) ∨ (J.go j H ∧ ∃ Nx1 : Hp → Prop, (∀ H', Nx1 H' → ∃ k', k' < k ∧ W1 (j + 1) k' H') ∧ ∀ x H', J.yld j H x H' →
      t x σw H' fun σ3 H5 => L2.wipe σ3 vs = σw ∧ tT M EN tv σ3 H5 fun b H6 =>
        if b = true then tV M EN ve σ3 H6 fun y H7 => ∃ acc, H7 D = some (.lst acc) ∧ acc.length < sizeLine ∧ Nx1 (upd H7 D (.lst (acc ++ [y]))) else Nx1 H6) := by
  refine ⟨fun i m H' => ∃ G' ρ' accV acc, Rel M F G' ρ' σw H' ∧ Same G1 G' ∧ Free F G' H' ρ' σw D (.lst accV) ∧ RpAll M G' accV acc ∧ m = ds.length - i ∧ i ≤ ds.length ∧ lcL vs g tv ve (ds.drop i) acc ρ' = some res,
    ⟨ds.length, G1, _, _, _, R, Same.refl _, f, ra, by simp, Nat.zero_le _, e⟩, ?_⟩
  rintro i m H' ⟨G', ρ', accV, acc, R', s', f', ra, rfl, hi', hq⟩
  have it' := it.up s'
  by_cases hlt : i < ds.length
  · refine .inr ⟨it'.go i H' hlt R'.sub, fun H2 => ∃ G' ρ' accV acc, Rel M F G' ρ' σw H2 ∧ Same G1 G' ∧ Free F G' H2 ρ' σw D (.lst accV) ∧ RpAll M G' accV acc ∧ lcL vs g tv ve (ds.drop (i + 1)) acc ρ' = some res,
      fun H2 ⟨G2, ρ2, a2, c2, R2, s2, f2, r2, h2⟩ => ⟨ds.length - (i + 1), by omega, G2, ρ2, a2, c2, R2, s2, f2, r2, rfl, hlt, h2⟩, fun x H2 y => ?_⟩
    rw [List.drop_eq_getElem_cons hlt] at hq
    obtain ⟨G2, R2, s2, r2⟩ := it'.yld (F.hold D (.lst accV)) G' ρ' _ H' i x H2 ds[i] (List.getElem?_eq_getElem hlt) (R'.hold f') (Same.refl _) y
    obtain ⟨R2', f2'⟩ := R2.unhold f'.h0 (R'.noG0 f') (R'.noio f')
    exact lc_turn hw R2' f2' (ra.mono s2) r2 gv kw mg hq fun G3 ρ3 acc3 accV3 H3 R3 s3 f3 r3 h3 => ⟨G3, ρ3, accV3, acc3, R3, s'.trans (s2.trans s3), f3, r3, h3⟩
  · have e : i = ds.length := by omega
    subst e
    rw [List.drop_length] at hq
    unfold lcL at hq
    cases hq
    exact .inl ⟨it'.stop H' R'.sub, hd G' accV H' R' s' f' ra⟩
def lcL2 (vs vs1 : List Nat) (g : VG) (t : VT) (vi1 : VI) (g1 : VG) (t1 : VT) (ve : VX) : List PV → List PV → Env → Option (List PV × Env)
  | [], acc, ρ => some (acc, ρ)
  | d :: ds, acc, ρ => match g d ρ with
    | .ok _ ρ1 => match t ρ1 with
      | .ok true ρ2 => match vi1 ρ2 with
        | .ok es ρ3 => if okW ρ3 vs1 = true then match lcL vs1 g1 t1 ve es acc (wipeE ρ3 vs1) with
          | some (acc', ρ4) => if okW ρ4 vs = true then lcL2 vs vs1 g t vi1 g1 t1 ve ds acc' (wipeE ρ4 vs) else none
          | none => none
          else none
        | _ => none
      | .ok false ρ2 => if okW ρ2 vs = true then lcL2 vs vs1 g t vi1 g1 t1 ve ds acc (wipeE ρ2 vs) else none
      | _ => none
    | _ => none
def vLc2 (vi : VI) (vs vs1 : List Nat) (g : VG) (t : VT) (vi1 : VI) (g1 : VG) (t1 : VT) (ve : VX) : VX := fun ρ => (vi ρ).bind fun ds ρ1 =>
  if okW ρ1 vs = true then match lcL2 vs vs1 g t vi1 g1 t1 ve ds [] (wipeE ρ1 vs) with
    | some (acc, ρ2) => if okW ρ2 vs = true then .ok (.ow (.lst acc)) (unwipe ρ1 vs ρ2) else .bad
    | none => .bad
  else .bad
theorem tV_lc2 {t t1 : TG} {g g1 : VG} {tv tv1 : VT} {ve : VX} {vi vi1 : VI} {vs vs1 : List Nat} {Q : VK} (gv : GV M EN t g) (kw : KeepsW t vs) (mg : MonoG t) (gv1 : GV M EN t1 g1) (kw1 : KeepsW t1 vs1) (mg1 : MonoG t1) (nd : vs.Nodup) (hv : ∀ i ∈ vs1, i ∈ vs)
    (h : tV M E (vLc2 vi vs vs1 g tv vi1 g1 tv1 ve) σ H Q) : tLc2 (tI M E vi) t (tT M EN tv) (tI M EN vi1) t1 (tT M EN tv1) (tV M EN ve) vs vs1 σ H Q := by
  obtain ⟨F, G, ρ, R, h⟩ := h
  refine ⟨F, G, ρ, R, (Post.bind h).imp fun ds ρ1 G1 H1 R1 s1 h1 J it D hD => ?_⟩
  by_cases hk : okW ρ1 vs = true
  · rw [if_pos hk] at h1
    cases q : lcL2 vs vs1 g tv vi1 g1 tv1 ve ds [] (wipeE ρ1 vs) with
    | none => rw [q] at h1; exact h1.elim
    | some res =>
      rw [q] at h1
      dsimp only at h1
      by_cases hk2 : okW res.2 vs = true
      · rw [if_pos hk2] at h1
        have R2 := R1.wipe hk
        obtain ⟨R3, f3⟩ := R2.newFree hD (.lst [])
        have hw : L2.wipe (L2.wipe σ vs) vs = L2.wipe σ vs := wipe_wipe fun _ h => h
        refine ⟨fun i m H' => ∃ G' ρ' accV acc, Rel M F G' ρ' (L2.wipe σ vs) H' ∧ Same G1 G' ∧ Free F G' H' ρ' (L2.wipe σ vs) D (.lst accV) ∧ RpAll M G' accV acc ∧ m = ds.length - i ∧ i ≤ ds.length ∧ lcL2 vs vs1 g tv vi1 g1 tv1 ve (ds.drop i) acc ρ' = some res,
          ⟨ds.length, G1, _, [], [], R3, Same.refl _, f3, .nil, by simp, Nat.zero_le _, q⟩, ?_⟩
        rintro i m H' ⟨G', ρ', accV, acc, R', s', f', ra, rfl, hi', hq⟩
        have it' := it.up s'
        have h0 := f'.h0
        have g0 := R'.noG0 f'
        have ni := R'.noio f'
        by_cases hlt : i < ds.length
        · refine .inr ⟨it'.go i H' hlt R'.sub, fun H2 => ∃ G' ρ' accV acc, Rel M F G' ρ' (L2.wipe σ vs) H2 ∧ Same G1 G' ∧ Free F G' H2 ρ' (L2.wipe σ vs) D (.lst accV) ∧ RpAll M G' accV acc ∧ lcL2 vs vs1 g tv vi1 g1 tv1 ve (ds.drop (i + 1)) acc ρ' = some res,
            fun H2 ⟨G2, ρ2, a2, c2, R2, s2, f2, r2, h2⟩ => ⟨ds.length - (i + 1), by omega, G2, ρ2, a2, c2, R2, s2, f2, r2, rfl, hlt, h2⟩, fun x H2 y => ?_⟩
          rw [List.drop_eq_getElem_cons hlt] at hq
          obtain ⟨G2, R2, s2, r2⟩ := it'.yld (F.hold D (.lst accV)) G' ρ' _ H' i x H2 ds[i] (List.getElem?_eq_getElem hlt) (R'.hold f') (Same.refl _) y
          unfold lcL2 at hq
          refine mg x _ H2 (fun σ2 H2 => L2.wipe σ2 vs = L2.wipe (L2.wipe σ vs) vs ∧ (L2.wipe σ2 vs = L2.wipe σ vs → _)) _ (fun σ2 H2 ⟨w, k⟩ => ⟨w.trans hw, k (w.trans hw)⟩) ?_
          refine kw x _ H2 _ (gv x _ H2 _ ⟨F.hold D (.lst accV), G2, ρ', ds[i], R2, r2, ?_⟩)
          cases q1 : g ds[i] ρ' with
          | ex x ρ1 => rw [q1] at hq; cases hq
          | bad => rw [q1] at hq; cases hq
          | ok u ρ3 =>
            rw [q1] at hq
            dsimp only at hq
            intro σ2 G3 H3 R3 s3 w2
            refine ⟨F.hold D (.lst accV), G3, ρ3, R3, ?_⟩
            cases q2 : tv ρ3 with
            | ex x ρ2 => rw [q2] at hq; cases hq
            | bad => rw [q2] at hq; cases hq
            | ok b ρ4 =>
              rw [q2] at hq
              intro G4 H4 R4 s4
              have s14 := s'.trans (s2.trans (s3.trans s4))
              have s24 := s2.trans (s3.trans s4)
              cases b with
              | false =>
                dsimp only at hq
                refine iteF ?_
                by_cases hk : okW ρ4 vs = true
                · rw [if_pos hk] at hq
                  have R5 := R4.wipe hk
                  rw [w2] at R5
                  obtain ⟨R6, f6⟩ := R5.unhold h0 g0 ni
                  exact ⟨G4, _, accV, acc, R6, s14, f6, ra.mono s24, hq⟩
                · rw [if_neg hk] at hq; cases hq
              | true =>
                dsimp only at hq
                refine iteT ?_
                refine ⟨F.hold D (.lst accV), G4, ρ4, R4, ?_⟩
                cases q3 : vi1 ρ4 with
                | ex x ρ2 => rw [q3] at hq; cases hq
                | bad => rw [q3] at hq; cases hq
                | ok es ρ5 =>
                  rw [q3] at hq
                  intro G5 H5 R5 s5 J1 it1
                  dsimp only at hq
                  by_cases hk1 : okW ρ5 vs1 = true
                  · rw [if_pos hk1] at hq
                    cases q4 : lcL vs1 g1 tv1 ve es acc (wipeE ρ5 vs1) with
                    | none => rw [q4] at hq; cases hq
                    | some p =>
                      rw [q4] at hq
                      obtain ⟨R6, f6⟩ := (R5.wipe hk1).unhold h0 g0 ni
                      refine lc_inner (wipe_wipe fun _ h => h) it1 R6 f6 (ra.mono (s24.trans s5)) gv1 kw1 mg1 q4 fun G7 accV7 H7 R7 s7 f7 r7 => ?_
                      dsimp only at hq
                      by_cases hk7 : okW p.2 vs = true
                      · rw [if_pos hk7] at hq
                        have R8 := (R7.hold f7).wipe hk7
                        rw [wipe_more hv, w2] at R8
                        obtain ⟨R9, f9⟩ := R8.unhold h0 g0 ni
                        exact ⟨G7, _, accV7, _, R9, s14.trans (s5.trans s7), f9, r7, hq⟩
                      · rw [if_neg hk7] at hq; cases hq
                  · rw [if_neg hk1] at hq; cases hq
        · have e : i = ds.length := by omega
          subst e
          rw [List.drop_length] at hq
          unfold lcL2 at hq
          cases hq
          refine .inl ⟨it'.stop H' R'.sub, ?_⟩
          obtain ⟨Ra, fa⟩ := R1.newFree hD (.lst accV)
          have R5 := (Ra.hold fa).unwipe s' nd hk hk2 (R'.hold f')
          obtain ⟨R6, f6⟩ := R5.unhold f'.h0 (R'.noG0 f') (R'.noio f')
          exact h1 G' H' R6 s' _ (f6.cell (.lst ra))
      · rw [if_neg hk2] at h1; exact h1.elim
  · rw [if_neg hk] at h1; exact h1.elim
section
variable {elt tg tg1 iter iter1 : Expr} {ifs ifs1 : List Expr} {scope : Scope} {own : List (Str × Nat)} {vs1 : List Nat} {t t1 : TG} {g g1 : VG} {tv tv1 : VT} {ve : VX} {vi vi1 : VI}
theorem vx_lc2 (hN : X.N.Nodup) (hi : PI X tg iter (tI M E vi)) (ok : BlkOk X.N X.env.scope scope own) (hv : ∀ i ∈ vs1, i ∈ own.map (·.2))
    (gv : GV M EN t g) (kw : KeepsW t (own.map (·.2))) (mg : MonoG t) (gv1 : GV M EN t1 g1) (kw1 : KeepsW t1 vs1) (mg1 : MonoG t1)
    (hg : ∀ (s : Shared) (H : Hp) (C : Addr) (cl : List (Str × Addr)) (fp : List Addr), PG (X.blk s H scope (compEnvC scope cl C X.env) fp) tg t)
    (ht : ∀ (s : Shared) (H : Hp) (C : Addr) (cl : List (Str × Addr)) (fp : List Addr), PTs (X.blk s H scope (compEnvC scope cl C X.env) fp) ifs (tT M EN tv))
    (hi1 : ∀ (s : Shared) (H : Hp) (C : Addr) (cl : List (Str × Addr)) (fp : List Addr), PI (X.blk s H scope (compEnvC scope cl C X.env) fp) tg1 iter1 (tI M EN vi1))
    (hg1 : ∀ (s : Shared) (H : Hp) (C : Addr) (cl : List (Str × Addr)) (fp : List Addr), PG (X.blk s H scope (compEnvC scope cl C X.env) fp) tg1 t1)
    (ht1 : ∀ (s : Shared) (H : Hp) (C : Addr) (cl : List (Str × Addr)) (fp : List Addr), PTs (X.blk s H scope (compEnvC scope cl C X.env) fp) ifs1 (tT M EN tv1))
    (he : ∀ (s : Shared) (H : Hp) (C : Addr) (cl : List (Str × Addr)) (fp : List Addr), PE (X.blk s H scope (compEnvC scope cl C X.env) fp) elt (tV M EN ve))
    (nd : (own.map (·.2)).Nodup := by decide) (hc : X.calm = true := by rfl) (hs : ∀ x, foldedSetIterable iter X.env x = pure x := by intro _; rfl) (hs1 : ∀ env x, foldedSetIterable iter1 env x = pure x := by intro _ _; rfl) :
    PE X (.ListComp elt [⟨tg, iter, ifs, 0⟩, ⟨tg1, iter1, ifs1, 0⟩] scope pos) (tV M E (vLc2 vi (own.map (·.2)) vs1 g tv vi1 g1 tv1 ve)) :=
  PEimp (pe_lc2 hc hN hi ok hv hg ht hi1 hg1 ht1 he hs hs1) fun _ _ _ h => tV_lc2 gv kw mg gv1 kw1 mg1 nd hv h
theorem vs_setLc2 (i : Nat) {y : Str} {py spos : Pos} (hN : X.N.Nodup) (hi : PI X tg iter (tI M E vi)) (ok : BlkOk X.N X.env.scope scope own) (hv : ∀ i ∈ vs1, i ∈ own.map (·.2))
    (gv : GV M EN t g) (kw : KeepsW t (own.map (·.2))) (mg : MonoG t) (gv1 : GV M EN t1 g1) (kw1 : KeepsW t1 vs1) (mg1 : MonoG t1)
    (hsw : swapsWith (.ListComp elt [⟨tg, iter, ifs, 0⟩, ⟨tg1, iter1, ifs1, 0⟩] scope pos) (some (.Name y py)) spos.line X.env = pure true)
    (hg : ∀ (s : Shared) (H : Hp) (C : Addr) (cl : List (Str × Addr)) (fp : List Addr), PG (X.blk s H scope (compEnvC scope cl C X.env) fp) tg t)
    (ht : ∀ (s : Shared) (H : Hp) (C : Addr) (cl : List (Str × Addr)) (fp : List Addr), PTs (X.blk s H scope (compEnvC scope cl C X.env) fp) ifs (tT M EN tv))
    (hi1 : ∀ (s : Shared) (H : Hp) (C : Addr) (cl : List (Str × Addr)) (fp : List Addr), PI (X.blk s H scope (compEnvC scope cl C X.env) fp) tg1 iter1 (tI M EN vi1))
    (hg1 : ∀ (s : Shared) (H : Hp) (C : Addr) (cl : List (Str × Addr)) (fp : List Addr), PG (X.blk s H scope (compEnvC scope cl C X.env) fp) tg1 t1)
    (ht1 : ∀ (s : Shared) (H : Hp) (C : Addr) (cl : List (Str × Addr)) (fp : List Addr), PTs (X.blk s H scope (compEnvC scope cl C X.env) fp) ifs1 (tT M EN tv1))
    (he : ∀ (s : Shared) (H : Hp) (C : Addr) (cl : List (Str × Addr)) (fp : List Addr), PE (X.blk s H scope (compEnvC scope cl C X.env) fp) elt (tV M EN ve))
    (nd : (own.map (·.2)).Nodup := by decide) (hy : X.N[i]? = some y := by rfl) (hyl : X.env.scope.names.lookup y = some .local := by rfl) (hc : X.calm = true := by rfl) (hs : ∀ x, foldedSetIterable iter X.env x = pure x := by intro _; rfl) (hs1 : ∀ env x, foldedSetIterable iter1 env x = pure x := by intro _ _; rfl) :
    PS X (.Assign [.Name y py] (.ListComp elt [⟨tg, iter, ifs, 0⟩, ⟨tg1, iter1, ifs1, 0⟩] scope pos) spos) (tS M E (sSet i (vLc2 vi (own.map (·.2)) vs1 g tv vi1 g1 tv1 ve))) := by
  refine PSimp (ps_setLc2 hc hN hy hyl hsw hi ok hv hg ht hi1 hg1 ht1 he hs hs1) fun D σ H ⟨F, G, ρ, R, h⟩ => ?_
  refine tV_lc2 (E := E) gv kw mg gv1 kw1 mg1 nd hv ⟨F, G, ρ, R, (PostS.bind h).imp fun c ρ1 G1 H1 R1 s1 h1 x ok => ?_⟩
  cases q : put ρ1 i c with
  | none => rw [q] at h1; exact h1.elim
  | some ρ2 =>
    rw [q] at h1
    obtain ⟨G2, R2, s2⟩ := put_ok R1 ok q
    exact h1 _ G2 H1 R2 s2
end
end
end L2.VL

set_option Elab.async false
set_option linter.all false
set_option maxRecDepth 100000
/-! VL8: lists changed in place, assignments, pairs. -/
namespace L2.VL
open PySem PySem.Spec PyProof.Rows

/-! ### o.m(e, ..) that changes o -/
def vMut (isT : PV → Bool) (f : PV → List PV → Option (PV × PV)) (vo : VX) (vs : VA) : VX := fun ρ => (vo ρ).bind fun c ρ1 => match (val ρ1 c).map isT with
  | some true => (vs ρ1).bind fun cs ρ2 => match freezeAll ρ2 (cs.map settle) with
    | some (ds, ρ3) => match (val ρ3 (settle c)).bind fun d => f d ds with
      | some (d', r) => match upSlot ρ3 (settle c) fun _ => some d' with
        | some ρ4 => .ok (.fz r) ρ4
        | none => .bad
      | none => .bad
    | none => .bad
  | _ => .bad
def vMut0 (isT : PV → Bool) (f : PV → List PV → Option (PV × PV)) (vo : VX) : VX := fun ρ => (vo ρ).bind fun c ρ1 => match (val ρ1 c).map isT with
  | some true => match (val ρ1 (settle c)).bind fun d => f d [] with
      | some (d', r) => match upSlot ρ1 (settle c) fun _ => some d' with
        | some ρ4 => .ok (.fz r) ρ4
        | none => .bad
      | none => .bad
  | _ => .bad
/-- what such a method asks -/
def MutV (M : Md) (r : V → List V → Hp → VK → Prop) (f : PV → List PV → Option (PV × PV)) : Prop :=
  ∀ (G H : Hp) (a : Addr) (o : HO) (d : PV) (xs : List V) (ds : List PV) (d' e : PV) (Q : VK), Same G H → H a = some o → Ob M G o d → RpAll M G xs ds → f d ds = some (d', e) →
    (∀ o' z, Ob M G o' d' → Rp M G z e → Q z (upd H a o')) → r (.ref a) xs H Q
section
variable {X : Cx} {M : Md} {E : L2.St → XK} {σ : L2.St} {H : Hp}
theorem mut_core {r : V → List V → Hp → VK → Prop} {f : PV → List PV → Option (PV × PV)} (hf : MutV M r f) {F : Fr} {G : Hp} {ρ : Env} {c : Cell} {x : V} {xs : List V} {ds : List PV} {Q : VK} (R : Rel M F G ρ σ H) (ok : CellOk M F G ρ σ H x (settle c)) (rx : RpAll M G xs ds)
    (h : Post M F E G σ (match (val ρ (settle c)).bind fun d => f d ds with
      | some (d', r) => match upSlot ρ (settle c) fun _ => some d' with
        | some ρ4 => .ok (.fz r) ρ4
        | none => .bad
      | none => .bad) fun c ρ' G' H' => ∀ x, CellOk M F G' ρ' σ H' x c → Q x H') : r x xs H Q := by
  cases q : (val ρ (settle c)).bind fun d => f d ds with
  | none => rw [q] at h; exact h.elim
  | some p =>
    obtain ⟨d', e⟩ := p
    rw [q] at h
    dsimp only at h
    obtain ⟨d, e1, e2⟩ := Option.bind_eq_some_iff.mp q
    cases q2 : upSlot ρ (settle c) fun _ => some d' with
    | none => rw [q2] at h; exact h.elim
    | some ρ4 =>
      rw [q2] at h
      obtain ⟨a, o, d0, d1, rfl, ho, ob, e3, e4, k⟩ := upSlot_ok R ok q2
      cases e4
      rw [e1] at e3; cases e3
      exact hf G H a o d xs ds d' e Q R.sub ho ob rx e2 fun o' z ob' rz => h G _ (k o' ob') (Same.refl _) z rz
theorem vx_mut {o e : Expr} {es : List Expr} {vo : VX} {vs : VA} {name : Str} {apos cpos : Pos} {T id : String} {r : V → List V → Hp → VK → Prop} {isT : PV → Bool} {f : PV → List PV → Option (PV × PV)}
    (pa : PlainAttrs T) (slot : PySem.Slot T name id) (hty : typeOf (.builtin id) = pure (.type "method_descriptor")) (hm : MtR X id r) (hT : ∀ (G H : Hp) (x : V) (d : PV), Same G H → View M G H x d → isT d = true → tyV X.K T x H) (hf : MutV M r f)
    (ho : PE X o (tV M E vo)) (ha : PA X (e :: es) (tA M E vs))
    (hbase : attributeBase o name X.env (eval o X.env) = eval o X.env := by rfl)
    (hfew : ((backTo cpos (starEach (e :: es) X.env)).all (fun x => !x.1) && (backToKw cpos (keywordEach [] X.env)).all (fun x => x.1.isSome)
      && decide ((e :: es).length + ([] : List Keyword).length + (if ([] : List Keyword).isEmpty then 0 else 1) < 30)) = true := by rfl)
    (hline : (apos.endLine == cpos.line) = true := by rfl) (hs : starEach (e :: es) X.env = (false, eval e X.env) :: starEach es X.env := by rfl) (hplain : (backTo cpos (starEach es X.env)).any (·.1) = false := by rfl) :
    PE X (.Call (.Attribute o name apos) (e :: es) [] cpos) (tV M E (vMut isT f vo vs)) := by
  refine PEimp (pe_bm pa slot hty hm ho ha hbase hfew hline hs hplain) fun σ H Q ⟨F, G, ρ, R, hq⟩ => ?_
  refine ⟨F, G, ρ, R, (Post.bind hq).imp fun c1 ρ1 G1 H1 R1 s1 h1 x ok1 => ?_⟩
  cases q : (val ρ1 c1).map isT with
  | none => rw [q] at h1; exact h1.elim
  | some b =>
    rw [q] at h1
    cases b with
    | false => exact h1.elim
    | true =>
      dsimp only at h1
      obtain ⟨d0, e0, e1⟩ := Option.map_eq_some_iff.mp q
      refine ⟨hT G1 H1 x d0 R1.sub (ok1.view R1 e0) e1, ?_⟩
      obtain ⟨G1', R1', s1', ok1'⟩ := settle_ok R1 ok1
      refine ⟨F, G1', ρ1, R1', (Post.bind (h1.up s1')).imp fun cs ρ2 G2 H2 R2 s2 h2 xs ok2 => ?_⟩
      cases q3 : freezeAll ρ2 (cs.map settle) with
      | none => rw [q3] at h2; exact h2.elim
      | some p =>
        obtain ⟨ds, ρ3⟩ := p
        rw [q3] at h2
        obtain ⟨G3, R3, s3, r3⟩ := freezeAll_ok R2 ok2 q3
        exact mut_core (E := E) hf R3 (ok1'.at (s2.trans s3)) r3 (h2.up s3)
theorem vx_mut0 {o : Expr} {vo : VX} {name : Str} {apos cpos : Pos} {T id : String} {r : V → List V → Hp → VK → Prop} {isT : PV → Bool} {f : PV → List PV → Option (PV × PV)}
    (pa : PlainAttrs T) (slot : PySem.Slot T name id) (hty : typeOf (.builtin id) = pure (.type "method_descriptor")) (hm : MtR X id r) (hT : ∀ (G H : Hp) (x : V) (d : PV), Same G H → View M G H x d → isT d = true → tyV X.K T x H) (hf : MutV M r f)
    (ho : PE X o (tV M E vo)) (hbase : attributeBase o name X.env (eval o X.env) = eval o X.env := by rfl) (hline : (apos.endLine == cpos.line) = true := by rfl) :
    PE X (.Call (.Attribute o name apos) [] [] cpos) (tV M E (vMut0 isT f vo)) := by
  refine PEimp (pe_bm0 pa slot hty hm ho hbase hline) fun σ H Q ⟨F, G, ρ, R, hq⟩ => ?_
  refine ⟨F, G, ρ, R, (Post.bind hq).imp fun c1 ρ1 G1 H1 R1 s1 h1 x ok1 => ?_⟩
  cases q : (val ρ1 c1).map isT with
  | none => rw [q] at h1; exact h1.elim
  | some b =>
    rw [q] at h1
    cases b with
    | false => exact h1.elim
    | true =>
      dsimp only at h1
      obtain ⟨d0, e0, e1⟩ := Option.map_eq_some_iff.mp q
      refine ⟨hT G1 H1 x d0 R1.sub (ok1.view R1 e0) e1, ?_⟩
      obtain ⟨G1', R1', s1', ok1'⟩ := settle_ok R1 ok1
      exact mut_core (E := E) hf R1' ok1' .nil (h1.up s1')
/-! the methods -/
def fAppend : PV → List PV → Option (PV × PV)
  | .lst xs, [d] => if xs.length < sizeLine then some (.lst (xs ++ [d]), .non) else none
  | _, _ => none
theorem mu_append : MutV M rAppend fAppend := fun G H a o d xs ds d' e Q s ho ob rx eg k => by
  unfold fAppend at eg
  split at eg
  · rename_i ys z
    obtain ⟨vs, rfl, rv⟩ := ob.lst_inv
    cases rx with
    | cons r1 r2 =>
      cases r2
      by_cases hl : ys.length < sizeLine
      · rw [if_pos hl] at eg; cases eg
        exact ⟨a, vs, _, rfl, rfl, ho, by rw [rv.length]; exact hl, k _ _ (.lst (rv.append (.cons r1 .nil))) .non⟩
      · rw [if_neg hl] at eg; cases eg
  · cases eg
def fExtend : PV → List PV → Option (PV × PV)
  | .lst xs, [.lst ys] => if xs.length + ys.length ≤ sizeLine then some (.lst (xs ++ ys), .non) else none
  | _, _ => none
theorem mu_extend : MutV M rExtend fExtend := fun G H a o d xs ds d' e Q s ho ob rx eg k => by
  unfold fExtend at eg
  split at eg
  · rename_i ys zs
    obtain ⟨vs, rfl, rv⟩ := ob.lst_inv
    cases rx with
    | cons r1 r2 =>
      cases r2
      obtain ⟨b, ws, rfl, hb, rb⟩ := r1.lst_sq
      by_cases hl : ys.length + zs.length ≤ sizeLine
      · rw [if_pos hl] at eg; cases eg
        exact ⟨a, b, vs, ws, rfl, rfl, ho, s _ _ hb, by rw [rv.length, rb.length]; exact hl, k _ _ (.lst (rv.append rb)) .non⟩
      · rw [if_neg hl] at eg; cases eg
  · cases eg
def fPop : PV → List PV → Option (PV × PV)
  | .lst xs, [] => (xs[xs.length - 1]?).map fun d => (.lst xs.dropLast, d)
  | _, _ => none
theorem mu_pop : MutV M rPop fPop := fun G H a o d xs ds d' e Q s ho ob rx eg k => by
  unfold fPop at eg
  split at eg
  · obtain ⟨vs, rfl, rv⟩ := ob.lst_inv
    cases rx
    obtain ⟨y, e1, e2⟩ := Option.map_eq_some_iff.mp eg
    cases e2
    obtain ⟨v, h1, h2⟩ := rv.get e1
    exact ⟨a, vs, v, rfl, rfl, ho, by rw [rv.length]; exact h1, k _ _ (.lst rv.dropLast) h2⟩
  · cases eg
def fPopAt : PV → List PV → Option (PV × PV)
  | .lst xs, [.int i] => if -(2 ^ 63) ≤ i ∧ i < 2 ^ 63 then (ixN xs.length i).bind fun j => (xs[j]?).map fun d => (.lst (xs.eraseIdx j), d) else none
  | _, _ => none
theorem mu_popAt : MutV M rPopAt fPopAt := fun G H a o d xs ds d' e Q s ho ob rx eg k => by
  unfold fPopAt at eg
  split at eg
  · rename_i ys i
    obtain ⟨vs, rfl, rv⟩ := ob.lst_inv
    cases rx with
    | cons r1 r2 =>
      cases r2
      cases r1.int_inv
      by_cases hl : -(2 ^ 63) ≤ i ∧ i < 2 ^ 63
      · rw [if_pos hl] at eg
        obtain ⟨j, e1, e2⟩ := Option.bind_eq_some_iff.mp eg
        obtain ⟨y, e3, e4⟩ := Option.map_eq_some_iff.mp e2
        cases e4
        obtain ⟨v, h1, h2⟩ := rv.get e3
        exact ⟨a, vs, i, j, v, rfl, rfl, ho, hl.1, hl.2, by rw [rv.length]; exact (ixN_seq e1).1, h1, k _ _ (.lst (rv.eraseIdx j)) h2⟩
      · rw [if_neg hl] at eg; cases eg
  · cases eg
def fReverse : PV → List PV → Option (PV × PV)
  | .lst xs, [] => some (.lst xs.reverse, .non)
  | _, _ => none
theorem mu_reverse : MutV M rReverse fReverse := fun G H a o d xs ds d' e Q s ho ob rx eg k => by
  unfold fReverse at eg
  split at eg
  · obtain ⟨vs, rfl, rv⟩ := ob.lst_inv
    cases rx; cases eg
    exact ⟨a, vs, rfl, rfl, ho, k _ _ (.lst rv.reverse) .non⟩
  · cases eg
def fClear : PV → List PV → Option (PV × PV)
  | .lst xs, [] => some (.lst [], .non)
  | _, _ => none
theorem mu_clear : MutV M rClear fClear := fun G H a o d xs ds d' e Q s ho ob rx eg k => by
  unfold fClear at eg
  split at eg
  · obtain ⟨vs, rfl, rv⟩ := ob.lst_inv
    cases rx; cases eg
    exact ⟨a, vs, rfl, rfl, ho, k _ _ (.lst .nil) .non⟩
  · cases eg

/-! ### target = e, any target of frozen values -/
def sAsg (ve : VX) (g : VG) : VS := fun ρ => (ve ρ).bind fun c ρ1 => match freeze ρ1 c with
  | some (d, ρ2) => (g d ρ2).bind fun _ ρ3 => .ok .nx ρ3
  | none => .bad
theorem vs_asg {tg e : Expr} {ve : VX} {t : TG} {g : VG} {pos : Pos} (he : PE X e (tV M E ve)) (hg : PG X tg t) (gv : GV M E t g) (hs : swapsWithSole [tg] e pos.line X.env = pure false := by rfl) (hw : swappedStores [tg] e X.env = pure none := by rfl)
    (h1 : (assignEach [tg] X.env).map (·.2) = [assign tg X.env] := by rfl) : PS X (.Assign [tg] e pos) (tS M E (sAsg ve g)) := by
  refine PSimp (ps_asg he hg hs hw h1) fun D σ H ⟨F, G, ρ, R, h⟩ => ?_
  refine ⟨F, G, ρ, R, (PostS.bind h).imp fun c ρ1 G1 H1 R1 s1 h1 x ok => ?_⟩
  cases q : freeze ρ1 c with
  | none => rw [q] at h1; exact h1.elim
  | some p =>
    obtain ⟨d, ρ2⟩ := p
    rw [q] at h1
    obtain ⟨G2, R2, s2, r2⟩ := freeze_ok R1 ok q
    refine gv x σ H1 _ ⟨F, G2, ρ2, d, R2, r2, ((PostG.bindS h1).up s2).imp fun σ' H' ⟨G', ρ', R', s', h'⟩ => ?_⟩
    exact h' σ' G' H' R' (Same.refl _)
/-- o[i] as a target, o a list -/
def setAt (i : PV) (d : PV) : PV → Option PV
  | .lst xs => match i with
    | .int k => (ixN xs.length k).map fun j => .lst (xs.set j d)
    | _ => none
  | _ => none
def gSubV (vo vi : VX) : VG := fun d ρ => (vo ρ).bind fun co ρ1 => (vi ρ1).bind fun ci ρ2 => match val ρ2 (settle ci) with
  | some i => match upSlot ρ2 (settle co) (setAt i d) with
    | some ρ3 => .ok () ρ3
    | none => .bad
  | none => .bad
theorem PostG.bindV {α : Type} {F : Fr} {G : Hp} {r : Rs α} {f : α → Env → Rs Unit} {Q : L2.St → Hp → Prop} (h : PostG M F E G (r.bind f) Q) : Post M F E G σ r (fun a ρ' G' H' => PostG M F E G' (f a ρ') Q) := by
  cases r with
  | ok a ρ' => exact fun G' H' R s => PostG.up h s
  | ex x ρ' => exact fun cls d G' H' R s => h cls d σ G' H' R s
  | bad => exact h
theorem gv_sub {vo vi : VX} {to ti : TE} (hto : to = tV M E vo) (hti : ti = tV M E vi) : GV M E (gSub to ti rSetL) (gSubV vo vi) := by
  subst hto; subst hti
  rintro v σ H Q ⟨F, G, ρ, d, R, r, h⟩
  refine ⟨F, G, ρ, R, (PostG.bindV h).imp fun co ρ1 G1 H1 R1 s1 h1 x ok1 => ?_⟩
  obtain ⟨G1', R1', s1', ok1'⟩ := settle_ok R1 ok1
  refine ⟨F, G1', ρ1, R1', (PostG.bindV (h1.up s1')).imp fun ci ρ2 G2 H2 R2 s2 h2 y ok2 => ?_⟩
  obtain ⟨G2', R2', s2', ok2'⟩ := settle_ok R2 ok2
  cases q : val ρ2 (settle ci) with
  | none => rw [q] at h2; exact h2.elim
  | some iv =>
    rw [q] at h2
    dsimp only at h2
    cases q2 : upSlot ρ2 (settle co) (setAt iv d) with
    | none => rw [q2] at h2; exact h2.elim
    | some ρ3 =>
      rw [q2] at h2
      obtain ⟨a, o, d0, d1, rfl, ho, ob, e3, e4, k⟩ := upSlot_ok R2' (ok1'.at (s2.trans s2')) q2
      unfold setAt at e4
      split at e4
      · rename_i xs
        split at e4
        · rename_i kk
          obtain ⟨j, e5, rfl⟩ := Option.map_eq_some_iff.mp e4
          obtain ⟨vs, rfl, rv⟩ := ob.lst_inv
          cases (ok2'.view R2' q).int
          have r' := r.mono (s1.trans (s1'.trans (s2.trans s2')))
          exact ⟨a, vs, kk, j, rfl, rfl, ho, by rw [rv.length]; exact e5, h2 σ G2' _ (k _ (.lst (RpAll.set r' j rv))) s2'⟩
        · cases e4
      · cases e4
/-! ### a, b = e1, e2 -/
/-- a value to be stored later: a new list stays mine, else it never changes again -/
def keep (ρ : Env) : Cell → Option (Cell × Env)
  | .ow d => some (.ow d, ρ)
  | c => (freeze ρ c).map fun (d, ρ1) => (.fz d, ρ1)
def sPar (i j : Nat) (va vb : VX) : VS := fun ρ => (va ρ).bind fun c1 ρ1 => match keep ρ1 c1 with
  | some (k1, ρ1') => (vb ρ1').bind fun c2 ρ2 => match keep ρ2 c2 with
    | some (k2, ρ2') => match (put ρ2' i k1).bind fun ρ3 => put ρ3 j k2 with
      | some ρ4 => .ok .nx ρ4
      | none => .bad
    | none => .bad
  | none => .bad
def sPar3 (i j k : Nat) (vs : VA) : VS := fun ρ => (vs ρ).bind fun cs ρ1 => match freezeAll ρ1 (cs.map settle) with
  | some ([d1, d2, d3], ρ2) => if canPut ρ2 i = true ∧ canPut ρ2 j = true ∧ canPut ρ2 k = true then .ok .nx (((ρ2.set i (.fz d1)).set j (.fz d2)).set k (.fz d3)) else .bad
  | _ => .bad
theorem keep_ok {F : Fr} {G : Hp} {ρ ρ' : Env} {x : V} {c k : Cell} (R : Rel M F G ρ σ H) (ok : CellOk M F G ρ σ H x c) (e : keep ρ c = some (k, ρ')) :
    ∃ G', Rel M F G' ρ' σ H ∧ Same G G' ∧ CellOk M F G' ρ' σ H x k ∧ ((∃ d, k = .fz d) ∨ ∃ d a o, k = .ow d ∧ x = .ref a ∧ Free F G' H ρ' σ a o ∧ Ob M G' o d) := by
  have gen : ∀ c, CellOk M F G ρ σ H x c → ((freeze ρ c).map fun (d, ρ1) => (Cell.fz d, ρ1)) = some (k, ρ') → ∃ G', Rel M F G' ρ' σ H ∧ Same G G' ∧ CellOk M F G' ρ' σ H x k ∧ ((∃ d, k = .fz d) ∨ ∃ d a o, k = .ow d ∧ x = .ref a ∧ Free F G' H ρ' σ a o ∧ Ob M G' o d) := fun c ok e => by
    obtain ⟨⟨d, ρ1⟩, e1, e2⟩ := Option.map_eq_some_iff.mp e
    cases e2
    obtain ⟨G', R', s', r⟩ := freeze_ok R ok e1
    exact ⟨G', R', s', r, .inl ⟨d, rfl⟩⟩
  cases c with
  | fz d => exact gen _ ok e
  | rf j => exact gen _ ok e
  | ow d =>
    cases e
    refine ⟨G, R, Same.refl _, ok, .inr ?_⟩
    obtain ⟨a, rfl, ⟨hg, o, ho, ob⟩, h0, hf⟩ := ok
    exact ⟨d, a, o, rfl, rfl, ⟨hg, h0, ho, hf⟩, ob⟩
def slotOf : Cell → Slot
  | .ow d => .ow d
  | .fz d => .fz d
  | .rf _ => .un
theorem put_same {F : Fr} {G : Hp} {ρ ρ' : Env} {i : Nat} {x : V} {k : Cell} (R : Rel M F G ρ σ H) (ok : CellOk M F G ρ σ H x k) (h : ∀ n, k ≠ .rf n) (e : put ρ i k = some ρ') :
    Rel M F G ρ' (σ.set i (some x)) H ∧ ρ' = ρ.set i (slotOf k) ∧ i < ρ.length := by
  cases k with
  | rf n => exact absurd rfl (h n)
  | fz d =>
    dsimp only [put, freeze] at e
    by_cases hp : canPut ρ i = true
    · rw [if_pos hp] at e; cases e
      obtain ⟨s, q, _⟩ := canPut_ok hp
      exact ⟨R.setFz hp ok, rfl, len_of q⟩
    · rw [if_neg hp] at e; cases e
  | ow d =>
    dsimp only [put] at e
    by_cases hp : canPut ρ i = true
    · rw [if_pos hp] at e; cases e
      obtain ⟨a, rfl, o, h0, hf⟩ := ok
      obtain ⟨s, q, ni⟩ := canPut_ok hp
      refine ⟨R.setSlot q ni ⟨a, rfl, o, h0⟩ (fun b _ eb j c _ ej oc => ?_) (fun _ z => nomatch z), rfl, len_of q⟩
      cases eb
      exact hf j c ej oc
    · rw [if_neg hp] at e; cases e
theorem par_store {F : Fr} {G : Hp} {ρ ρ3 ρ4 : Env} {x1 x2 : V} {k1 k2 : Cell} {i j : Nat} (R : Rel M F G ρ σ H) (ok1 : CellOk M F G ρ σ H x1 k1) (ok2 : CellOk M F G ρ σ H x2 k2)
    (h1 : ∀ n, k1 ≠ .rf n) (h2 : ∀ n, k2 ≠ .rf n) (hd : ∀ d e, k1 = .ow d → k2 = .ow e → x1 ≠ x2) (e1 : put ρ i k1 = some ρ3) (e2 : put ρ3 j k2 = some ρ4) :
    Rel M F G ρ4 ((σ.set i (some x1)).set j (some x2)) H := by
  obtain ⟨R1, rfl, li⟩ := put_same R ok1 h1 e1
  refine (put_same R1 ?_ h2 e2).1
  cases k2 with
  | rf n => exact absurd rfl (h2 n)
  | fz d => exact ok2
  | ow d =>
    obtain ⟨a, rfl, o, h0, hf⟩ := ok2
    refine ⟨a, rfl, o, h0, fun m c em oc z => ?_⟩
    by_cases im : i = m
    · subst im
      rw [List.getElem?_set_self li] at em
      rw [List.getElem?_set_self (by rw [R.len]; exact li)] at z
      cases k1 with
      | rf n => exact absurd rfl (h1 n)
      | fz d1 => cases em; cases oc
      | ow d1 => cases z; exact hd d1 d rfl rfl rfl
    · rw [List.getElem?_set_ne im] at em z
      exact hf m c em oc z
theorem keep_rf {ρ ρ' : Env} {c k : Cell} (e : keep ρ c = some (k, ρ')) : ∀ n, k ≠ .rf n := fun n z => by
  subst z
  cases c with
  | ow d => cases e
  | fz d => cases e
  | rf j =>
    obtain ⟨⟨d, ρ1⟩, _, e2⟩ := Option.map_eq_some_iff.mp e
    cases e2
theorem Post.hold {α : Type} {F : Fr} {G : Hp} {a : Addr} {o : HO} {r : Rs α} {P : α → Env → Hp → Hp → Prop} (h : Post M F E G σ r P) (h0 : F.H0 a = none) (g0 : F.G0 a = none) (ni : ∀ i, F.io.lookup i ≠ some a) :
    Post M (F.hold a o) E G σ r (fun b ρ' G' H' => Rel M F G' ρ' σ H' ∧ Free F G' H' ρ' σ a o ∧ P b ρ' G' H') := by
  cases r with
  | ok b ρ' => exact fun G' H' R s => let ⟨R', f'⟩ := R.unhold h0 g0 ni; ⟨R', f', h G' H' R' s⟩
  | ex x ρ' => exact fun cls d G' H' R s => h cls d G' H' (R.unhold h0 g0 ni).1 s
  | bad => exact h
theorem CellOk.unhold {F : Fr} {G : Hp} {ρ : Env} {a : Addr} {o : HO} {x : V} {c : Cell} (ok : CellOk M (F.hold a o) G ρ σ H x c) (h0 : F.H0 a = none) : CellOk M F G ρ σ H x c ∧ ∀ d, c = .ow d → x ≠ .ref a := by
  cases c with
  | fz d => exact ⟨ok, fun _ z => nomatch z⟩
  | rf n => exact ⟨ok, fun _ z => nomatch z⟩
  | ow d =>
    obtain ⟨b, rfl, ow, hb, hf⟩ := ok
    have ne : b ≠ a := fun z => by
      subst z
      have hb : upd F.H0 b o b = none := hb
      rw [upd_same] at hb; cases hb
    have hb : upd F.H0 a o b = none := hb
    rw [upd_ne ne] at hb
    exact ⟨⟨b, rfl, ow, hb, hf⟩, fun _ _ z => ne (V.ref.inj z)⟩
theorem vs_par (i j : Nat) {x y : Str} {a b : Expr} {va vb : VX} {px py pt pos : Pos} {kt k2 pt2} (hN : X.N.Nodup) (ha : PE X a (tV M E va)) (hb : PE X b (tV M E vb))
    (hi : X.N[i]? = some x := by rfl) (hj : X.N[j]? = some y := by rfl) (hij : i ≠ j := by decide) (hx : X.env.scope.names.lookup x = some .local := by rfl) (hy : X.env.scope.names.lookup y = some .local := by rfl)
    (hw : swappedStores [.Tuple [.Name x px, .Name y py] kt pt] (.Tuple [a, b] k2 pt2) X.env = pure (some [x, y]) := by rfl)
    (hs : swapsWithSole [.Tuple [.Name x px, .Name y py] kt pt] (.Tuple [a, b] k2 pt2) pos.line X.env = pure false := by rfl) (hc : X.calm = true := by rfl)
    (h2 : starEach [a, b] X.env = (false, eval a X.env) :: starEach [b] X.env := by rfl) (h3 : starEach [b] X.env = (false, eval b X.env) :: starEach [] X.env := by rfl) :
    PS X (.Assign [.Tuple [.Name x px, .Name y py] kt pt] (.Tuple [a, b] k2 pt2) pos) (tS M E (sPar i j va vb)) := by
  refine PSimp (ps_par hc hN hi hj hij hx hy (pa_cons ha (pa_cons hb pa_nil h3) h2) hw hs) fun D σ H ⟨F, G, ρ, R, h⟩ => ?_
  refine ⟨F, G, ρ, R, (PostS.bind h).imp fun c1 ρ1 G1 H1 R1 s1 h1 x1 ok1 => ?_⟩
  cases q1 : keep ρ1 c1 with
  | none => rw [q1] at h1; exact h1.elim
  | some p =>
    obtain ⟨k1, ρ1'⟩ := p
    rw [q1] at h1
    dsimp only at h1
    obtain ⟨G2, R2, s2, ok2, hk⟩ := keep_ok R1 ok1 q1
    have h1 := h1.up s2
    rcases hk with ⟨d, rfl⟩ | ⟨d, p, o, rfl, rfl, fr, ob⟩
    · refine ⟨F, G2, ρ1', R2, (PostS.bind h1).imp fun c2 ρ2 G3 H3 R3 s3 h3 x2 ok3 => ?_⟩
      refine ⟨x1, x2, rfl, ?_⟩
      cases q2 : keep ρ2 c2 with
      | none => rw [q2] at h3; exact h3.elim
      | some p =>
        obtain ⟨k2, ρ2'⟩ := p
        rw [q2] at h3
        dsimp only at h3
        obtain ⟨G4, R4, s4, ok4, _⟩ := keep_ok R3 ok3 q2
        cases q3 : (put ρ2' i (.fz d)).bind fun ρ3 => put ρ3 j k2 with
        | none => rw [q3] at h3; exact h3.elim
        | some ρ4 =>
          rw [q3] at h3
          obtain ⟨ρ3, e1, e2⟩ := Option.bind_eq_some_iff.mp q3
          exact h3 _ G4 H3 (par_store R4 (k1 := .fz d) (Rp.mono (s3.trans s4) ok2) ok4 (fun _ z => nomatch z) (keep_rf q2) (fun _ _ z => nomatch z) e1 e2) s4
    · have h0 := fr.h0
      have g0 := R2.noG0 fr
      have ni := R2.noio fr
      refine ⟨F.hold p o, G2, ρ1', R2.hold fr, ((PostS.bind h1).hold h0 g0 ni).imp fun c2 ρ2 G3 H3 _ s3 ⟨R3, f3, h3⟩ x2 ok3 => ?_⟩
      refine ⟨_, x2, rfl, ?_⟩
      obtain ⟨ok3', ne⟩ := ok3.unhold h0
      cases q2 : keep ρ2 c2 with
      | none => rw [q2] at h3; exact h3.elim
      | some p2 =>
        obtain ⟨k2, ρ2'⟩ := p2
        rw [q2] at h3
        dsimp only at h3
        have R3h := R3.hold f3
        obtain ⟨G4, R4, s4, ok4, _⟩ := keep_ok R3h ok3 q2
        obtain ⟨R5, f5⟩ := R4.unhold h0 g0 ni
        obtain ⟨ok5, ne5⟩ := ok4.unhold h0
        cases q3 : (put ρ2' i (.ow d)).bind fun ρ3 => put ρ3 j k2 with
        | none => rw [q3] at h3; exact h3.elim
        | some ρ4 =>
          rw [q3] at h3
          obtain ⟨ρ3, e1, e2⟩ := Option.bind_eq_some_iff.mp q3
          exact h3 _ G4 H3 (par_store R5 (k1 := .ow d) (f5.cell (ob.mono (s3.trans s4))) ok5 (fun _ z => nomatch z) (keep_rf q2) (fun d1 e1 _ z => fun w => ne5 e1 z w.symm) e1 e2) s4
theorem vs_par3 (i j l : Nat) {x y z : Str} {a b c : Expr} {vs : VA} {px py pz pt pos : Pos} {kt k2 pt2} (hN : X.N.Nodup) (ha : PA X [a, b, c] (tA M E vs))
    (hi : X.N[i]? = some x := by rfl) (hj : X.N[j]? = some y := by rfl) (hl : X.N[l]? = some z := by rfl) (hij : i ≠ j := by decide) (hil : i ≠ l := by decide) (hjl : j ≠ l := by decide)
    (hx : X.env.scope.names.lookup x = some .local := by rfl) (hy : X.env.scope.names.lookup y = some .local := by rfl) (hz : X.env.scope.names.lookup z = some .local := by rfl)
    (hw : swappedStores [.Tuple [.Name x px, .Name y py, .Name z pz] kt pt] (.Tuple [a, b, c] k2 pt2) X.env = pure (some [x, y, z]) := by rfl)
    (hs : swapsWithSole [.Tuple [.Name x px, .Name y py, .Name z pz] kt pt] (.Tuple [a, b, c] k2 pt2) pos.line X.env = pure false := by rfl) (hc : X.calm = true := by rfl) :
    PS X (.Assign [.Tuple [.Name x px, .Name y py, .Name z pz] kt pt] (.Tuple [a, b, c] k2 pt2) pos) (tS M E (sPar3 i j l vs)) := by
  refine PSimp (ps_par3 hc hN hi hj hl hij hil hjl hx hy hz ha hw hs) fun D σ H ⟨F, G, ρ, R, h⟩ => ?_
  refine ⟨F, G, ρ, R, (PostS.bind h).imp fun cs ρ1 G1 H1 R1 s1 h1 xs ok => ?_⟩
  split at h1
  · rename_i d1 d2 d3 ρ2 q
    obtain ⟨G2, R2, s2, r⟩ := freezeAll_ok R1 ok q
    split at h1
    · rename_i hp
      cases r with
      | cons r1 r =>
        cases r with
        | cons r2 r =>
          cases r with
          | cons r3 r =>
            cases r
            refine ⟨_, _, _, rfl, h1 _ G2 H1 ?_ s2⟩
            exact ((R2.setFz hp.1 r1).setFz (canPut_set hp.2.1) r2).setFz (canPut_set (canPut_set hp.2.2)) r3
    · exact h1.elim
  · exact h1.elim
end
end L2.VL

set_option Elab.async false
set_option linter.all false
set_option maxRecDepth 100000
/-! VL9: defs and calls. -/
namespace L2.VL
open PySem PySem.Spec PyProof.Rows

/-- what a def does: its parameters' slots, then what it hands back, and all slots behind it -/
abbrev FM := List Slot → Rs Cell
/-- what is handed back of a slot: a frame's own list goes out of it -/
def retC (ρ : Env) : Cell → Option (Cell × Env)
  | .fz d => some (.fz d, ρ)
  | .ow d => some (.ow d, ρ)
  | .rf i => match ρ[i]? with
    | some (.fz d) => some (.fz d, ρ)
    | some (.ow d) => some (.ow d, ρ.set i .un)
    | _ => none
/-- k parameters, n names in all -/
def runDef (k n : Nat) (body : VS) : FM := fun ss => if ss.length = k then (match body (ss ++ List.replicate (n - ss.length) .un) with
  | .ok .nx ρ => .ok (.fz .non) ρ
  | .ok (.rt c) ρ => match retC ρ c with
    | some (c', ρ') => .ok c' ρ'
    | none => .bad
  | .ok .bk _ => .bad
  | .ok .ct _ => .bad
  | .ex x ρ => .ex x ρ
  | .bad => .bad) else .bad
def PostC (M : Md) (F : Fr) (E : XK) (r : Rs Cell) (Q : VK) : Prop := match r with
  | .ok c ρ' => ∀ x σ' G' H', Rel M F G' ρ' σ' H' → CellOk M F G' ρ' σ' H' x c → Q x H'
  | .ex x ρ' => ∀ cls d σ' G' H', Rel M F G' ρ' σ' H' → ExcOk M G' cls d x → E cls d H'
  | .bad => False
/-- a def's promise by its meaning -/
def spV (M : Md) (k : Nat) (fm : FM) : Sp := fun vs H Q E => ∃ (G : Hp) (ss : List Slot) (io : List (Nat × Addr)), ss.length = k ∧ Rel M ⟨H, G, io⟩ G ss (vs.map some) H ∧ (∀ d, Slot.ow d ∉ ss) ∧ PostC M ⟨H, G, io⟩ E (fm ss) Q

section
variable {M : Md} {F : Fr} {G H : Hp} {σ : L2.St}
theorem get_app {α : Type} {l r : List α} {i : Nat} {x : α} (h : l[i]? = some x) : (l ++ r)[i]? = some x := by
  rw [List.getElem?_append_left (len_of h)]; exact h
theorem Rel.extend {ss : List Slot} {m : Nat} (R : Rel M F G ss σ H) : Rel M F G (ss ++ List.replicate m .un) (σ ++ List.replicate m none) H := by
  have inn : ∀ (i : Nat) (c : Slot), (ss ++ List.replicate m .un)[i]? = some c → c.own = true → ss[i]? = some c := fun i c e oc => by
    by_cases hi : i < ss.length
    · rw [List.getElem?_append_left hi] at e; exact e
    · rw [List.getElem?_append_right (Nat.le_of_not_lt hi), List.getElem?_replicate] at e
      split at e
      · cases e; cases oc
      · cases e
  have sig : ∀ (i : Nat) (c : Slot) (v : Option V), ss[i]? = some c → (σ ++ List.replicate m none)[i]? = some v → σ[i]? = some v := fun i c v e f => by
    have : i < σ.length := by rw [R.len]; exact len_of e
    rw [List.getElem?_append_left this] at f; exact f
  refine ⟨R.sub, R.g0, R.gn, R.old, by rw [List.length_append, List.length_append, R.len, List.length_replicate, List.length_replicate], fun i c e => ?_, fun i j c c' a e1 e2 o1 o2 f1 f2 => ?_, fun i a e => ?_⟩
  · by_cases hi : i < ss.length
    · rw [List.getElem?_append_left hi] at e
      have : i < σ.length := by rw [R.len]; exact hi
      rw [List.getElem?_append_left this]
      exact R.slot i c e
    · rw [List.getElem?_append_right (Nat.le_of_not_lt hi), List.getElem?_replicate] at e
      split at e
      · cases e; trivial
      · cases e
  · have g1 := inn i c e1 o1
    have g2 := inn j c' e2 o2
    exact R.dist i j c c' a g1 g2 o1 o2 (sig i c _ g1 f1) (sig j c' _ g2 f2)
  · obtain ⟨d, e1, e2⟩ := R.ion i a e
    exact ⟨d, get_app e1, get_app e2⟩
theorem retC_ok {ρ ρ' : Env} {c c' : Cell} {x : V} (R : Rel M F G ρ σ H) (ok : CellOk M F G ρ σ H x c) (e : retC ρ c = some (c', ρ')) : ∃ σ', Rel M F G ρ' σ' H ∧ CellOk M F G ρ' σ' H x c' := by
  cases c with
  | fz d => cases e; exact ⟨σ, R, ok⟩
  | ow d => cases e; exact ⟨σ, R, ok⟩
  | rf i =>
    have h' : σ[i]? = some (some x) := ok
    dsimp only [retC] at e
    cases q : ρ[i]? with
    | none => rw [q] at e; cases e
    | some s =>
      rw [q] at e
      have so := R.slot i s q
      rw [h'] at so
      cases s with
      | un => cases e
      | io d => cases e
      | fz d => cases e; obtain ⟨y, e1, r⟩ := so; cases e1; exact ⟨σ, R, r⟩
      | ow d =>
        cases e
        obtain ⟨a, e1, o, h0⟩ := so
        cases e1
        have R2 := R.setSlot (i := i) (s1 := .un) (v := some (V.ref a)) q (fun _ z => nomatch z) trivial (fun _ z => nomatch z) (fun _ z => nomatch z)
        rw [set_self h'] at R2
        refine ⟨σ, R2, a, rfl, o, h0, fun j c e oc z => ?_⟩
        by_cases ij : i = j
        · subst ij; rw [List.getElem?_set_self (len_of q)] at e; cases e; cases oc
        · rw [List.getElem?_set_ne ij] at e
          exact ij (R.dist i j _ c a q e rfl oc h' z)
end

/-- THE RULE for a def -/
theorem fnV {P : Program} {w : World} {M : Md} {base : Heap} {x qual : Str} {params : Arguments} {bd : List Stmt} {scope : Scope} {dvs : List V} {kws : List (Str × V)} {f : Addr} {fd : FuncData} {N ps : List Str} {lv k n : Nat} {body : VS}
    (F : FunD M.K x qual params bd scope dvs kws f fd) (S : FnScope N ps scope) (hk : ps.length = k) (hn : N.length = n)
    (hb : ∀ (cdv : Value) (A : Around) (outer : List PySem.Env) (s : Shared) (H : Hp) (E : XK), Room lv (A.deeper (envOfC qual scope s.heap.objs.size f cdv)) →
      PSs (cxOf (L2.CX P w) P w M.K M.mg base N qual scope f cdv A outer s H E) bd (tS M (fun _ => E) body)) :
    FnOk P w M.K M.mg base (L2.CX P w) (lv + 1) f fd ps (spV M k (runDef k n body)) := by
  refine F.ok S (fun vs H Q E h => ?_) (fun cdv A outer s H vs Q E hr h => ⟨_, hb cdv A outer s H E hr, ?_⟩)
  · obtain ⟨G, ss, io, hl, R, _⟩ := h
    have := R.len
    rw [List.length_map] at this
    omega
  · obtain ⟨G, ss, io, hl, R, _, hp⟩ := h
    have hv : vs.length = ss.length := by have := R.len; rwa [List.length_map] at this
    have e : L2.start N vs = vs.map some ++ List.replicate (n - ss.length) none := by unfold L2.start; rw [hn, hv]
    unfold runDef at hp
    rw [if_pos hl] at hp
    refine ⟨⟨H, G, io⟩, G, _, by rw [e]; exact R.extend, ?_⟩
    cases q : body (ss ++ List.replicate (n - ss.length) Slot.un) with
    | ok fl ρ =>
      rw [q] at hp
      cases fl with
      | nx => exact fun σ' G' H' R' s' => hp .non σ' G' H' R' .non
      | bk => exact hp.elim
      | ct => exact hp.elim
      | rt c =>
        intro v σ' G' H' R' s' ok
        dsimp only at hp
        cases q2 : retC ρ c with
        | none => rw [q2] at hp; exact hp.elim
        | some p =>
          obtain ⟨c', ρ'⟩ := p
          rw [q2] at hp
          obtain ⟨σ2, R2, ok2⟩ := retC_ok R' ok q2
          exact hp v σ2 G' H' R2 ok2
    | ex x ρ => rw [q] at hp; exact fun cls d σ' G' H' R' s' ok => hp cls d σ' G' H' R' ok
    | bad => rw [q] at hp; exact hp

/-- where nothing may be let out -/
theorem FnOk.calm {P : Program} {w : World} {K : PySem.W.Frag} {mg : Str → Option Value} {base : Heap} {k : Nat} {f : Addr} {fd : FuncData} {ps : List Str} {sp : Sp} (F : FnOk P w K mg base (L2.CX P w) k f fd ps sp) :
    FnOk P w K mg base CX0 k f fd ps (fun vs H Q _ => sp vs H Q fun _ _ _ => False) :=
  ⟨fun vs H Q E h => F.len _ _ _ _ h, fun A outer s H args us vs Q E hr he hb hv hs => codeAny_mono (F.run A outer s H args us vs Q (fun _ _ _ => False) hr he hb hv hs) fun r s' h => by
    cases r with
    | error e => obtain ⟨_, _, _, _, _, _, _, _, _, _, _, _, z⟩ := h; exact z.elim
    | ok fl => cases fl <;> exact h⟩
theorem passEN {X : Cx} (σ : L2.St) (E : XK) (hE : ∀ c d H, ¬ E c d H) : PassesAt (L2.CX X.prog X.w) X σ E := fun _ _ _ _ _ _ h => by
  obtain ⟨_, _, _, _, _, _, _, _, _, _, _, _, z⟩ := h
  exact absurd z (hE _ _ _)

/-! ### a call -/
/-- the arguments that are not to be changed are frozen -/
def frzArgs : Env → List Bool → List Cell → Option (List (Option PV) × Env)
  | ρ, [], [] => some ([], ρ)
  | ρ, false :: ms, c :: cs => (freeze ρ c).bind fun (d, ρ1) => (frzArgs ρ1 ms cs).map fun (ds, ρ2) => (some d :: ds, ρ2)
  | ρ, true :: ms, _ :: cs => (frzArgs ρ ms cs).map fun (ds, ρ2) => (none :: ds, ρ2)
  | _, _, _ => none
/-- the parameters' slots -/
def ioArgs (ρ : Env) : List Cell → List (Option PV) → Option (List Slot)
  | [], [] => some []
  | _ :: cs, some d :: ds => (ioArgs ρ cs ds).map fun ss => .fz d :: ss
  | .rf i :: cs, none :: ds => match ρ[i]? with
    | some (.ow d) => (ioArgs ρ cs ds).map fun ss => .io d :: ss
    | some (.io d) => (ioArgs ρ cs ds).map fun ss => .io d :: ss
    | _ => none
  | _, _ => none
/-- the caller's slots of the arguments that may be changed -/
def ioIdx : List Cell → List (Option PV) → List Nat
  | .rf i :: cs, none :: ds => i :: ioIdx cs ds
  | _ :: cs, _ :: ds => ioIdx cs ds
  | _, _ => []
/-- .. with their new contents -/
def takeBack (ρc : Env) : Nat → List Cell → List (Option PV) → Env → Option Env
  | _, [], [], ρ => some ρ
  | j, .rf i :: cs, none :: ds, ρ => match ρc[j]?, ρ[i]? with
    | some (.io d), some (.ow _) => takeBack ρc (j + 1) cs ds (ρ.set i (.ow d))
    | some (.io d), some (.io _) => takeBack ρc (j + 1) cs ds (ρ.set i (.io d))
    | _, _ => none
  | j, _ :: cs, some _ :: ds, ρ => takeBack ρc (j + 1) cs ds ρ
  | _, _, _, _ => none
def nodupB : List Nat → Bool
  | [] => true
  | i :: l => !l.contains i && nodupB l
def norf : Cell → Bool
  | .rf _ => false
  | _ => true
/-- what a def does to the caller's slots; dd: the values of the parameters that lack -/
def callF (fm : FM) (ms : List Bool) (dd : List PV) (cs : List Cell) (ρ1 : Env) : Rs Cell := match frzArgs ρ1 ms cs with
  | some (ds, ρ2) => match ioArgs ρ2 cs ds with
    | some ss => if nodupB (ioIdx cs ds) = true then (match fm (ss ++ dd.map Slot.fz) with
      | .ok c ρc => if norf c = true then (match takeBack ρc 0 cs ds ρ2 with
        | some ρ3 => .ok c ρ3
        | none => .bad) else .bad
      | .ex x ρc => match takeBack ρc 0 cs ds ρ2 with
        | some ρ3 => .ex x ρ3
        | none => .bad
      | .bad => .bad) else .bad
    | none => .bad
  | none => .bad
def vCallF (fm : FM) (ms : List Bool) (dd : List PV) (vs : VA) : VX := fun ρ => (vs ρ).bind fun cs ρ1 => callF fm ms dd (cs.map settle) ρ1

section
variable {M : Md} {F : Fr} {E : L2.St → XK} {σ : L2.St} {H : Hp}
/-- the arguments as they lie in the caller -/
def AO (M : Md) (G : Hp) (ρ : Env) (σ : L2.St) : List Cell → List (Option PV) → List V → List Slot → Prop
  | [], [], [], [] => True
  | c :: cs, o :: ds, x :: xs, s :: ss => (match o with
      | some d => s = .fz d ∧ Rp M G x d
      | none => ∃ i d, c = .rf i ∧ σ[i]? = some (some x) ∧ (ρ[i]? = some (.ow d) ∨ ρ[i]? = some (.io d)) ∧ s = .io d) ∧ AO M G ρ σ cs ds xs ss
  | _, _, _, _ => False
theorem frzArgs_ok : ∀ {ms : List Bool} {cs : List Cell} {xs : List V} {G : Hp} {ρ ρ2 : Env} {ds : List (Option PV)}, Rel M F G ρ σ H → CellsOk M F G ρ σ H xs cs → frzArgs ρ ms (cs.map settle) = some (ds, ρ2) →
    ∃ G', Rel M F G' ρ2 σ H ∧ Same G G' ∧ ∀ ss, ioArgs ρ2 (cs.map settle) ds = some ss → AO M G' ρ2 σ (cs.map settle) ds xs ss
  | [], [], [], G, ρ, ρ2, ds, R, _, e => by cases e; exact ⟨G, R, Same.refl _, fun ss e => by cases e; trivial⟩
  | false :: ms, c :: cs, x :: xs, G, ρ, ρ2, ds, R, h, e => by
    rw [List.map_cons] at e
    obtain ⟨⟨d, ρ1⟩, e1, e2⟩ := Option.bind_eq_some_iff.mp e
    obtain ⟨⟨ds', ρ2'⟩, e3, e4⟩ := Option.map_eq_some_iff.mp e2
    cases e4
    obtain ⟨G1, R1, s1, r1⟩ := freeze_ok R h.1 e1
    obtain ⟨G2, R2, s2, k⟩ := frzArgs_ok R1 (CellsOk.at s1 h.2) e3
    refine ⟨G2, R2, s1.trans s2, fun ss e => ?_⟩
    rw [List.map_cons] at e ⊢
    obtain ⟨ss', e5, rfl⟩ := Option.map_eq_some_iff.mp e
    exact ⟨⟨rfl, r1.mono s2⟩, k ss' e5⟩
  | true :: ms, c :: cs, x :: xs, G, ρ, ρ2, ds, R, h, e => by
    rw [List.map_cons] at e
    obtain ⟨⟨ds', ρ2'⟩, e3, e4⟩ := Option.map_eq_some_iff.mp e
    cases e4
    obtain ⟨G2, R2, s2, k⟩ := frzArgs_ok R h.2 e3
    refine ⟨G2, R2, s2, fun ss e => ?_⟩
    rw [List.map_cons] at e ⊢
    cases q : settle c with
    | fz d => rw [q] at e; cases e
    | ow d => rw [q] at e; cases e
    | rf i =>
      have hx := h.1
      rw [q] at e hx
      have hx : σ[i]? = some (some x) := hx
      dsimp only [ioArgs] at e
      cases q2 : ρ2[i]? with
      | none => rw [q2] at e; cases e
      | some s =>
        rw [q2] at e
        cases s with
        | un => cases e
        | fz d => cases e
        | ow d =>
          obtain ⟨ss', e5, rfl⟩ := Option.map_eq_some_iff.mp e
          exact ⟨⟨i, d, rfl, hx, .inl q2, rfl⟩, k ss' e5⟩
        | io d =>
          obtain ⟨ss', e5, rfl⟩ := Option.map_eq_some_iff.mp e
          exact ⟨⟨i, d, rfl, hx, .inr q2, rfl⟩, k ss' e5⟩
  | [], _ :: _, _, _, _, _, _, _, _, e => by cases e
  | true :: _, [], _, _, _, _, _, _, _, e => by cases e
  | false :: _, [], _, _, _, _, _, _, _, e => by cases e
  | _, [], _ :: _, _, _, _, _, _, h, _ => h.elim
  | _, _ :: _, [], _, _, _, _, _, h, _ => h.elim
/-- where the changed ones lie -/
def ioL : Nat → List (Option PV) → List V → List (Nat × Addr)
  | j, none :: ds, .ref a :: xs => (j, a) :: ioL (j + 1) ds xs
  | j, _ :: ds, _ :: xs => ioL (j + 1) ds xs
  | _, _, _ => []
theorem ioL_ge : ∀ {ds : List (Option PV)} {xs : List V} {j k : Nat} {a : Addr}, (ioL j ds xs).lookup k = some a → j ≤ k
  | [], _, _, _, _, h => by simp [ioL] at h
  | _ :: _, [], _, _, _, h => by rename_i o _ _; cases o <;> simp [ioL] at h
  | some d :: ds, x :: xs, j, k, a, h => Nat.le_of_succ_le (ioL_ge (ds := ds) (xs := xs) (j := j + 1) (by simpa [ioL] using h))
  | none :: ds, x :: xs, j, k, a, h => by
    cases x with
    | ref b =>
      have h : ((j, b) :: ioL (j + 1) ds xs).lookup k = some a := h
      by_cases z : k = j
      · omega
      · have : (k == j) = false := beq_eq_false_iff_ne.mpr z
        rw [List.lookup_cons, this] at h
        exact Nat.le_of_succ_le (ioL_ge h)
    | _ => exact Nat.le_of_succ_le (ioL_ge (ds := ds) (xs := xs) (j := j + 1) (by simpa [ioL] using h))
/-- the slot of the caller that stands for the callee's slot j -/
theorem AO.io {G : Hp} {ρ : Env} : ∀ {cs : List Cell} {ds : List (Option PV)} {xs : List V} {ss : List Slot} {j0 k : Nat} {a : Addr}, Rel M F G ρ σ H → AO M G ρ σ cs ds xs ss → (ioL j0 ds xs).lookup k = some a →
    ∃ j i d, k = j0 + j ∧ cs[j]? = some (.rf i) ∧ ds[j]? = some none ∧ σ[i]? = some (some (.ref a)) ∧ (ρ[i]? = some (.ow d) ∨ ρ[i]? = some (.io d)) ∧ ss[j]? = some (.io d) ∧ xs[j]? = some (.ref a)
  | c :: cs, o :: ds, x :: xs, s :: ss, j0, k, a, R, h, e => by
    cases o with
    | some d =>
      obtain ⟨j, i, d', e1, e2, e3, e4, e5, e6, e7⟩ := AO.io (j0 := j0 + 1) R h.2 (by simpa [ioL] using e)
      exact ⟨j + 1, i, d', by omega, by simpa using e2, by simpa using e3, e4, e5, by simpa using e6, by simpa using e7⟩
    | none =>
      obtain ⟨⟨i, d, rfl, hx, hs, rfl⟩, h2⟩ := h
      obtain ⟨b, rfl⟩ : ∃ b, x = .ref b := by
        rcases hs with hs | hs
        · have so := R.slot i _ hs; rw [hx] at so; obtain ⟨b, e1, _⟩ := so; cases e1; exact ⟨b, rfl⟩
        · have so := R.slot i _ hs; rw [hx] at so; obtain ⟨b, e1, _⟩ := so; cases e1; exact ⟨b, rfl⟩
      have e : ((j0, b) :: ioL (j0 + 1) ds xs).lookup k = some a := e
      by_cases z : k = j0
      · subst z
        rw [List.lookup_cons_self] at e; cases e
        exact ⟨0, i, d, by omega, rfl, rfl, hx, hs, rfl, rfl⟩
      · have zz : (k == j0) = false := beq_eq_false_iff_ne.mpr z
        rw [List.lookup_cons, zz] at e
        obtain ⟨j, i', d', e1, e2, e3, e4, e5, e6, e7⟩ := AO.io R h2 e
        exact ⟨j + 1, i', d', by omega, by simpa using e2, by simpa using e3, e4, e5, by simpa using e6, by simpa using e7⟩
  | [], [], [], [], _, _, _, _, _, e => by simp [ioL] at e
  | [], _ :: _, _, _, _, _, _, _, h, _ => h.elim
  | _ :: _, [], _, _, _, _, _, _, h, _ => h.elim
  | [], [], _ :: _, _, _, _, _, _, h, _ => h.elim
  | [], [], [], _ :: _, _, _, _, _, h, _ => h.elim
  | _ :: _, _ :: _, [], _, _, _, _, _, h, _ => h.elim
  | _ :: _, _ :: _, _ :: _, [], _, _, _, _, h, _ => h.elim
theorem AO.at {G : Hp} {ρ : Env} : ∀ {cs : List Cell} {ds : List (Option PV)} {xs : List V} {ss : List Slot} {j0 j : Nat} {s : Slot}, Rel M F G ρ σ H → AO M G ρ σ cs ds xs ss → ss[j]? = some s →
    (∃ d x, s = .fz d ∧ xs[j]? = some x ∧ Rp M G x d ∧ ds[j]? = some (some d)) ∨ ∃ i d a, s = .io d ∧ cs[j]? = some (.rf i) ∧ ds[j]? = some none ∧ xs[j]? = some (.ref a) ∧ σ[i]? = some (some (.ref a)) ∧ (ρ[i]? = some (.ow d) ∨ ρ[i]? = some (.io d)) ∧ (ioL j0 ds xs).lookup (j0 + j) = some a
  | c :: cs, o :: ds, x :: xs, s0 :: ss, j0, j, s, R, h, e => by
    cases o with
    | some d =>
      cases j with
      | zero =>
        have e : s0 = s := by simpa using e
        subst e
        exact .inl ⟨d, x, h.1.1, rfl, h.1.2, rfl⟩
      | succ j =>
        rcases AO.at (j0 := j0 + 1) R h.2 (by simpa using e) with ⟨d', x', a1, a2, a3, a4⟩ | ⟨i, d', a, a1, a2, a3, a4, a5, a6, a7⟩
        · exact .inl ⟨d', x', a1, by simpa using a2, a3, by simpa using a4⟩
        · exact .inr ⟨i, d', a, a1, by simpa using a2, by simpa using a3, by simpa using a4, a5, a6, by
            have : j0 + (j + 1) = j0 + 1 + j := by omega
            rw [this]; simpa [ioL] using a7⟩
    | none =>
      obtain ⟨⟨i, d, rfl, hx, hs, rfl⟩, h2⟩ := h
      obtain ⟨b, rfl⟩ : ∃ b, x = .ref b := by
        rcases hs with hs | hs
        · have so := R.slot i _ hs; rw [hx] at so; obtain ⟨b, e1, _⟩ := so; cases e1; exact ⟨b, rfl⟩
        · have so := R.slot i _ hs; rw [hx] at so; obtain ⟨b, e1, _⟩ := so; cases e1; exact ⟨b, rfl⟩
      cases j with
      | zero =>
        have e : Slot.io d = s := by simpa using e
        subst e
        exact .inr ⟨i, d, b, rfl, rfl, rfl, rfl, hx, hs, by show ((j0, b) :: ioL (j0 + 1) ds xs).lookup (j0 + 0) = some b; rw [Nat.add_zero, List.lookup_cons_self]⟩
      | succ j =>
        rcases AO.at (j0 := j0 + 1) R h2 (by simpa using e) with ⟨d', x', a1, a2, a3, a4⟩ | ⟨i', d', a, a1, a2, a3, a4, a5, a6, a7⟩
        · exact .inl ⟨d', x', a1, by simpa using a2, a3, by simpa using a4⟩
        · refine .inr ⟨i', d', a, a1, by simpa using a2, by simpa using a3, by simpa using a4, a5, a6, ?_⟩
          have e1 : j0 + (j + 1) = j0 + 1 + j := by omega
          have zz : ((j0 + 1 + j) == j0) = false := beq_eq_false_iff_ne.mpr (by omega)
          show ((j0, b) :: ioL (j0 + 1) ds xs).lookup (j0 + (j + 1)) = some a
          rw [e1, List.lookup_cons, zz]
          exact a7
  | [], [], [], [], _, _, _, _, _, e => by simp at e
  | [], _ :: _, _, _, _, _, _, _, h, _ => h.elim
  | _ :: _, [], _, _, _, _, _, _, h, _ => h.elim
  | [], [], _ :: _, _, _, _, _, _, h, _ => h.elim
  | [], [], [], _ :: _, _, _, _, _, h, _ => h.elim
  | _ :: _, _ :: _, [], _, _, _, _, _, h, _ => h.elim
  | _ :: _, _ :: _, _ :: _, [], _, _, _, _, h, _ => h.elim
theorem AO.len {G : Hp} {ρ : Env} : ∀ {cs : List Cell} {ds : List (Option PV)} {xs : List V} {ss : List Slot}, AO M G ρ σ cs ds xs ss → xs.length = ss.length
  | [], [], [], [], _ => rfl
  | _ :: _, _ :: _, _ :: _, _ :: _, h => by rw [List.length_cons, List.length_cons, AO.len h.2]
  | [], _ :: _, _, _, h => h.elim
  | _ :: _, [], _, _, h => h.elim
  | [], [], _ :: _, _, h => h.elim
  | [], [], [], _ :: _, h => h.elim
  | _ :: _, _ :: _, [], _, h => h.elim
  | _ :: _, _ :: _, _ :: _, [], h => h.elim
theorem nodupB_ok : ∀ {l : List Nat}, nodupB l = true → l.Nodup
  | [], _ => .nil
  | i :: l, h => by
    unfold nodupB at h
    rw [Bool.and_eq_true] at h
    refine List.nodup_cons.mpr ⟨fun hm => ?_, nodupB_ok h.2⟩
    have := h.1
    rw [List.contains_iff_mem.mpr hm] at this
    cases this
/-- unlike places, unlike slots -/
theorem ioIdx_inj : ∀ {cs : List Cell} {ds : List (Option PV)} {j k i : Nat}, (ioIdx cs ds).Nodup → cs[j]? = some (.rf i) → ds[j]? = some none → cs[k]? = some (.rf i) → ds[k]? = some none → j = k
  | [], _, _, _, _, _, e, _, _, _ => by simp at e
  | _ :: _, [], _, _, _, _, _, e, _, _ => by simp at e
  | c :: cs, o :: ds, j, k, i, nd, e1, e2, e3, e4 => by
    have mem : ∀ {cs : List Cell} {ds : List (Option PV)} {m : Nat}, cs[m]? = some (.rf i) → ds[m]? = some none → i ∈ ioIdx cs ds := by
      intro cs
      induction cs with
      | nil => intro ds m e _; simp at e
      | cons c cs ih =>
        intro ds m e f
        cases ds with
        | nil => simp at f
        | cons o ds =>
          cases m with
          | zero =>
            have e : c = .rf i := by simpa using e
            have f : o = none := by simpa using f
            subst e; subst f
            exact List.mem_cons_self
          | succ m =>
            have := ih (ds := ds) (m := m) (by simpa using e) (by simpa using f)
            cases c with
            | rf n => cases o with
              | none => exact List.mem_cons_of_mem _ this
              | some d => exact this
            | fz d => cases o <;> exact this
            | ow d => cases o <;> exact this
    have tl : (ioIdx cs ds).Nodup := by
      cases c with
      | rf n => cases o with
        | none => exact (List.nodup_cons.mp nd).2
        | some d => exact nd
      | fz d => cases o <;> exact nd
      | ow d => cases o <;> exact nd
    cases j with
    | zero =>
      have f1 : c = .rf i := by simpa using e1
      have f2 : o = none := by simpa using e2
      subst f1; subst f2
      cases k with
      | zero => rfl
      | succ k => exact absurd (mem (m := k) (by simpa using e3) (by simpa using e4)) (List.nodup_cons.mp nd).1
    | succ j =>
      cases k with
      | zero =>
        have f1 : c = .rf i := by simpa using e3
        have f2 : o = none := by simpa using e4
        subst f1; subst f2
        exact absurd (mem (m := j) (by simpa using e1) (by simpa using e2)) (List.nodup_cons.mp nd).1
      | succ k => exact congrArg (· + 1) (ioIdx_inj (j := j) (k := k) tl (by simpa using e1) (by simpa using e2) (by simpa using e3) (by simpa using e4))
/-- the values of the parameters that lack -/
theorem RpAll.fz {G : Hp} : ∀ {vs : List V} {ds : List PV} {i : Nat} {s : Slot}, RpAll M G vs ds → (ds.map Slot.fz)[i]? = some s → ∃ d x, s = .fz d ∧ vs[i]? = some x ∧ Rp M G x d := fun {vs ds i s} h e => by
  rw [List.getElem?_map] at e
  obtain ⟨d, e1, rfl⟩ := Option.map_eq_some_iff.mp e
  obtain ⟨v, e2, r⟩ := h.get e1
  exact ⟨d, v, rfl, e2, r⟩
/-- the callee's entry -/
theorem AO.entry {G : Hp} {ρ : Env} {cs : List Cell} {ds : List (Option PV)} {xs dvs : List V} {ss : List Slot} {dd : List PV} (R : Rel M F G ρ σ H) (h : AO M G ρ σ cs ds xs ss) (nd : (ioIdx cs ds).Nodup) (hd : RpAll M G dvs dd) :
    Rel M ⟨H, G, ioL 0 ds xs⟩ G (ss ++ dd.map Slot.fz) ((xs ++ dvs).map some) H := by
  have at' : ∀ (j : Nat) (s : Slot), (ss ++ dd.map Slot.fz)[j]? = some s → (∃ d x, s = .fz d ∧ (xs ++ dvs)[j]? = some x ∧ Rp M G x d) ∨ ∃ i d a, s = .io d ∧ cs[j]? = some (.rf i) ∧ ds[j]? = some none ∧ (xs ++ dvs)[j]? = some (.ref a) ∧ σ[i]? = some (some (.ref a)) ∧ (ρ[i]? = some (.ow d) ∨ ρ[i]? = some (.io d)) ∧ (ioL 0 ds xs).lookup j = some a := by
    intro j s e
    by_cases hj : j < ss.length
    · rw [List.getElem?_append_left hj] at e
      have hx : j < xs.length := by rw [h.len]; exact hj
      rw [List.getElem?_append_left hx]
      rcases AO.at (j0 := 0) R h e with ⟨d, x, e1, e2, r, _⟩ | ⟨i, d, a, e1, e2, e3, e4, e5, e6, e7⟩
      · exact .inl ⟨d, x, e1, e2, r⟩
      · exact .inr ⟨i, d, a, e1, e2, e3, e4, e5, e6, by rwa [Nat.zero_add] at e7⟩
    · have hj := Nat.le_of_not_lt hj
      rw [List.getElem?_append_right hj] at e
      rw [List.getElem?_append_right (by rw [h.len]; exact hj), h.len]
      obtain ⟨d, x, e1, e2, r⟩ := hd.fz e
      exact .inl ⟨d, x, e1, e2, r⟩
  have own : ∀ {i : Nat} {d : PV}, (ρ[i]? = some (Slot.ow d) ∨ ρ[i]? = some (Slot.io d)) → ∃ c : Slot, ρ[i]? = some c ∧ c.own = true := fun hs => by
    rcases hs with hs | hs
    · exact ⟨_, hs, rfl⟩
    · exact ⟨_, hs, rfl⟩
  refine ⟨R.sub, Same.refl _, fun b o e => .inl e, fun b o e _ => e, ?_, fun j s e => ?_, fun j k s s' a e1 e2 o1 o2 f1 f2 => ?_, fun k a e => ?_⟩
  · rw [List.length_map, List.length_append, List.length_append, List.length_map, h.len, hd.length]
  · rcases at' j s e with ⟨d, x, rfl, e2, r⟩ | ⟨i, d, a, rfl, _, _, e2, e3, hs, e4⟩
    · exact ⟨x, by rw [List.getElem?_map, e2]; rfl, r⟩
    · refine ⟨a, by rw [List.getElem?_map, e2]; rfl, ?_, e4⟩
      rcases hs with hs | hs
      · have so := R.slot i _ hs; rw [e3] at so; obtain ⟨b, e5, o, _⟩ := so; cases e5; exact o
      · have so := R.slot i _ hs; rw [e3] at so; obtain ⟨b, e5, o, _⟩ := so; cases e5; exact o
  · rcases at' j s e1 with ⟨d, x, rfl, _⟩ | ⟨i, d, b, rfl, c1, c2, c3, c4, c5, _⟩
    · cases o1
    · rcases at' k s' e2 with ⟨d, x, rfl, _⟩ | ⟨i', d', b', rfl, c1', c2', c3', c4', c5', _⟩
      · cases o2
      · rw [List.getElem?_map, c3] at f1; cases f1
        rw [List.getElem?_map, c3'] at f2; cases f2
        obtain ⟨z1, y1, w1⟩ := own c5
        obtain ⟨z2, y2, w2⟩ := own c5'
        have := R.dist i i' z1 z2 _ y1 y2 w1 w2 c4 c4'
        subst this
        exact ioIdx_inj nd c1 c2 c1' c2'
  · obtain ⟨j, i, d, e1, _, _, _, _, e6, e7⟩ := AO.io R h e
    rw [Nat.zero_add] at e1
    subst e1
    exact ⟨d, get_app e6, by rw [List.getElem?_map, get_app e7]; rfl⟩
/-- a caller's slot behind the call -/
def TBAt (ρc : Env) (cs : List Cell) (ds : List (Option PV)) (j : Nat) (ρ3 : Env) (i : Nat) (s : Slot) : Prop :=
  (ρ3[i]? = some s ∧ ∀ m : Nat, cs[m]? = some (Cell.rf i) → ds[m]? ≠ some none) ∨ ∃ (m : Nat) (d : PV), cs[m]? = some (Cell.rf i) ∧ ds[m]? = some none ∧ ρc[j + m]? = some (Slot.io d) ∧ ((∃ d0, s = Slot.ow d0) ∧ ρ3[i]? = some (Slot.ow d) ∨ (∃ d0, s = Slot.io d0) ∧ ρ3[i]? = some (Slot.io d))
/-- the caller's slots behind the call -/
theorem takeBack_get {ρc : Env} : ∀ {cs : List Cell} {ds : List (Option PV)} {j : Nat} {ρ ρ3 : Env}, takeBack ρc j cs ds ρ = some ρ3 → ρ3.length = ρ.length ∧ ∀ (i : Nat) (s : Slot), ρ[i]? = some s →
    TBAt ρc cs ds j ρ3 i s
  | [], [], j, ρ, ρ3, e => by cases e; exact ⟨rfl, fun i s h => .inl ⟨h, fun m e => by simp at e⟩⟩
  | c :: cs, some d :: ds, j, ρ, ρ3, e => by
    have e : takeBack ρc (j + 1) cs ds ρ = some ρ3 := by cases c <;> exact e
    obtain ⟨hl, k⟩ := takeBack_get e
    refine ⟨hl, fun i s h => ?_⟩
    rcases k i s h with ⟨e1, e2⟩ | ⟨m, d', e1, e2, e3, e4⟩
    · refine .inl ⟨e1, fun m f1 f2 => ?_⟩
      cases m with
      | zero => simp at f2
      | succ m => exact e2 m (by simpa using f1) (by simpa using f2)
    · exact .inr ⟨m + 1, d', by simpa using e1, by simpa using e2, by rw [show j + (m + 1) = j + 1 + m by omega]; exact e3, e4⟩
  | .rf i0 :: cs, none :: ds, j, ρ, ρ3, e => by
    unfold takeBack at e
    cases q : ρc[j]? with
    | none => rw [q] at e; cases e
    | some sc =>
      rw [q] at e
      cases q2 : ρ[i0]? with
      | none => rw [q2] at e; cases sc <;> cases e
      | some s0 =>
        rw [q2] at e
        have key : ∀ (d : PV) (s1 : Slot), ((∃ d0, s0 = .ow d0) ∧ s1 = .ow d ∨ (∃ d0, s0 = .io d0) ∧ s1 = .io d) → sc = .io d → takeBack ρc (j + 1) cs ds (ρ.set i0 s1) = some ρ3 → ρ3.length = ρ.length ∧ ∀ (i : Nat) (s : Slot), ρ[i]? = some s → TBAt ρc (.rf i0 :: cs) (none :: ds) j ρ3 i s := fun d s1 hk hc e => by
          obtain ⟨hl, k⟩ := takeBack_get e
          refine ⟨by rw [hl, List.length_set], fun i s h => ?_⟩
          by_cases z : i0 = i
          · subst z
            rw [q2] at h; cases h
            have hs : (ρ.set i0 s1)[i0]? = some s1 := List.getElem?_set_self (len_of q2)
            rcases k i0 s1 hs with ⟨e1, e2⟩ | ⟨m, d', e1, e2, e3, e4⟩
            · refine .inr ⟨0, d, rfl, rfl, by rw [Nat.add_zero, q, hc], ?_⟩
              rcases hk with ⟨a, b⟩ | ⟨a, b⟩
              · exact .inl ⟨a, by rw [e1, b]⟩
              · exact .inr ⟨a, by rw [e1, b]⟩
            · refine .inr ⟨m + 1, d', by simpa using e1, by simpa using e2, by rw [show j + (m + 1) = j + 1 + m by omega]; exact e3, ?_⟩
              rcases hk with ⟨a, b⟩ | ⟨a, b⟩
              · subst b
                rcases e4 with ⟨_, f⟩ | ⟨⟨_, g⟩, _⟩
                · exact .inl ⟨a, f⟩
                · cases g
              · subst b
                rcases e4 with ⟨⟨_, g⟩, _⟩ | ⟨_, f⟩
                · cases g
                · exact .inr ⟨a, f⟩
          · have hs : (ρ.set i0 s1)[i]? = some s := by rw [List.getElem?_set_ne z]; exact h
            rcases k i s hs with ⟨e1, e2⟩ | ⟨m, d', e1, e2, e3, e4⟩
            · refine .inl ⟨e1, fun m f1 f2 => ?_⟩
              cases m with
              | zero => simp at f1; exact z f1
              | succ m => exact e2 m (by simpa using f1) (by simpa using f2)
            · exact .inr ⟨m + 1, d', by simpa using e1, by simpa using e2, by rw [show j + (m + 1) = j + 1 + m by omega]; exact e3, e4⟩
        cases sc with
        | io d =>
          cases s0 with
          | ow d0 => exact key d (.ow d) (.inl ⟨⟨d0, rfl⟩, rfl⟩) rfl e
          | io d0 => exact key d (.io d) (.inr ⟨⟨d0, rfl⟩, rfl⟩) rfl e
          | un => cases e
          | fz d0 => cases e
        | un => cases e
        | fz d => cases e
        | ow d => cases e
  | [], _ :: _, _, _, _, e => by cases e
  | .fz _ :: _, none :: _, _, _, _, e => by cases e
  | .ow _ :: _, none :: _, _, _, _, e => by cases e
  | .fz _ :: _, [], _, _, _, e => by cases e
  | .ow _ :: _, [], _, _, _, e => by cases e
  | .rf _ :: _, [], _, _, _, e => by cases e
theorem AO.dlen {G : Hp} {ρ : Env} : ∀ {cs : List Cell} {ds : List (Option PV)} {xs : List V} {ss : List Slot}, AO M G ρ σ cs ds xs ss → ds.length = xs.length := by
  intro cs
  induction cs with
  | nil => intro ds xs ss h; cases ds <;> cases xs <;> cases ss <;> first | rfl | exact h.elim
  | cons c cs ih => intro ds xs ss h; cases ds <;> cases xs <;> cases ss <;> first | exact h.elim | (rw [List.length_cons, List.length_cons, ih h.2])
theorem AO.hold {G : Hp} {ρ : Env} {cs : List Cell} {ds : List (Option PV)} {xs : List V} {ss : List Slot} {m i : Nat} (R : Rel M F G ρ σ H) (h : AO M G ρ σ cs ds xs ss) (c1 : cs[m]? = some (.rf i)) (c2 : ds[m]? = some none) :
    ∃ d a, σ[i]? = some (some (V.ref a)) ∧ (ρ[i]? = some (.ow d) ∨ ρ[i]? = some (.io d)) ∧ (ioL 0 ds xs).lookup m = some a := by
  have hm : m < ss.length := by rw [← h.len, ← h.dlen]; exact len_of c2
  have hs : ss[m]? = some ss[m] := List.getElem?_eq_getElem hm
  rcases AO.at (j0 := 0) R h hs with ⟨d, x, _, _, _, e4⟩ | ⟨i2, d, a, e1, e2, e3, e4, e5, e6, e7⟩
  · rw [c2] at e4; cases e4
  · rw [c1] at e2; cases e2
    exact ⟨d, a, e5, e6, by rwa [Nat.zero_add] at e7⟩
/-- behind the call, in the caller -/
theorem callBack {G G' H' : Hp} {ρ ρc ρ3 : Env} {σc : L2.St} {cs : List Cell} {ds : List (Option PV)} {xs : List V} {ss : List Slot} (R : Rel M F G ρ σ H) (h : AO M G ρ σ cs ds xs ss) (Rc : Rel M ⟨H, G, ioL 0 ds xs⟩ G' ρc σc H') (e : takeBack ρc 0 cs ds ρ = some ρ3) :
    Rel M F G' ρ3 σ H' ∧ Same G G' := by
  have g0 : Same G G' := Rc.g0
  obtain ⟨hl, k⟩ := takeBack_get e
  have out : ∀ (a : Addr), (∀ (m i : Nat), cs[m]? = some (Cell.rf i) → ds[m]? = some none → σ[i]? ≠ some (some (V.ref a))) → ∀ j, (ioL 0 ds xs).lookup j ≠ some a := fun a hn j f => by
    obtain ⟨m, i, d, e1, e2, e3, e4, _⟩ := AO.io R h f
    exact hn m i e2 e3 e4
  have back : ∀ (i : Nat) (s : Slot), ρ3[i]? = some s → ∃ s0, ρ[i]? = some s0 := fun i s e => by
    have : i < ρ.length := by rw [← hl]; exact len_of e
    exact ⟨ρ[i], List.getElem?_eq_getElem this⟩
  have same : ∀ (i : Nat) (s : Slot), ρ3[i]? = some s → s.own = true → ∃ s0, ρ[i]? = some s0 ∧ s0.own = true := fun i s e os => by
    obtain ⟨s0, q⟩ := back i s e
    refine ⟨s0, q, ?_⟩
    rcases k i s0 q with ⟨e1, _⟩ | ⟨m, d, _, _, _, ⟨⟨d0, rfl⟩, _⟩ | ⟨⟨d0, rfl⟩, _⟩⟩
    · rw [e] at e1; cases e1; exact os
    · rfl
    · rfl
  have stay : ∀ (i : Nat) (s : Slot) (a : Addr), ρ[i]? = some s → s.own = true → σ[i]? = some (some (V.ref a)) → (∀ m : Nat, cs[m]? = some (Cell.rf i) → ds[m]? ≠ some none) → ∀ j, (ioL 0 ds xs).lookup j ≠ some a := fun i s a q os f hn => out a fun m i' c1 c2 c3 => by
    have hs : ∃ s', ρ[i']? = some s' ∧ s'.own = true := by
      obtain ⟨d, a', _, hs | hs, _⟩ := AO.hold R h c1 c2
      · exact ⟨_, hs, rfl⟩
      · exact ⟨_, hs, rfl⟩
    obtain ⟨s', q', os'⟩ := hs
    have := R.dist i i' s s' a q q' os os' f c3
    subst this
    exact hn m c1 c2
  have free : ∀ (a : Addr), G a = none → (∃ o, H a = some o) → G' a = none := fun a hg ho => by
    cases z : G' a with
    | none => rfl
    | some o =>
      rcases Rc.gn a o z with z1 | z1
      · have z1 : G a = some o := z1
        rw [hg] at z1; cases z1
      · obtain ⟨o', ho⟩ := ho
        have z1 : H a = none := z1
        rw [ho] at z1; cases z1
  refine ⟨⟨Rc.sub, R.g0.trans g0, fun b o e => ?_, fun b o e n => ?_, by rw [hl]; exact R.len, fun i s e => ?_, fun i j s s' a e1 e2 o1 o2 f1 f2 => ?_, fun i a e => ?_⟩, g0⟩
  · rcases Rc.gn b o e with z | z
    · exact R.gn b o z
    · exact .inr (R.free0 z)
  · refine Rc.old b o (R.old b o e n) (out b fun m i c1 c2 c3 => ?_)
    obtain ⟨d, a, f1, f2 | f2, f3⟩ := AO.hold R h c1 c2
    · have so := R.slot i _ f2
      rw [c3] at so
      obtain ⟨a', g1, _, g2⟩ := so
      cases g1
      have e : F.H0 b = some o := e
      rw [g2] at e; cases e
    · have so := R.slot i _ f2
      rw [c3] at so
      obtain ⟨a', g1, _, g2⟩ := so
      cases g1
      exact n i g2
  · obtain ⟨s0, q⟩ := back i s e
    have so := R.slot i s0 q
    rcases k i s0 q with ⟨f1, f2⟩ | ⟨m, d, c1, c2, c3, c4⟩
    · rw [e] at f1; cases f1
      exact so.move g0 (fun a oc f => free a (R.ownG q oc f).1 (R.ownG q oc f).2) fun a o oc f ho => Rc.old a o ho (stay i s a q oc f f2)
    · rw [Nat.zero_add] at c3
      obtain ⟨a, y1, y2, y3⟩ := Rc.slot m _ c3
      obtain ⟨d', a', z1, z2, z3⟩ := AO.hold R h c1 c2
      have y3 : (ioL 0 ds xs).lookup m = some a := y3
      rw [z3] at y3; cases y3
      rw [z1] at so
      rcases c4 with ⟨⟨d0, rfl⟩, f⟩ | ⟨⟨d0, rfl⟩, f⟩
      · rw [e] at f; cases f
        obtain ⟨a2, g1, _, g2⟩ := so
        cases g1
        exact ⟨_, z1, y2, g2⟩
      · rw [e] at f; cases f
        obtain ⟨a2, g1, _, g2⟩ := so
        cases g1
        exact ⟨_, z1, y2, g2⟩
  · obtain ⟨z1, y1, w1⟩ := same i s e1 o1
    obtain ⟨z2, y2, w2⟩ := same j s' e2 o2
    exact R.dist i j z1 z2 a y1 y2 w1 w2 f1 f2
  · obtain ⟨d, e1, e2⟩ := R.ion i a e
    rcases k i _ e1 with ⟨f1, _⟩ | ⟨m, d', _, _, _, ⟨⟨d0, f⟩, _⟩ | ⟨⟨d0, _⟩, f1⟩⟩
    · exact ⟨d, f1, e2⟩
    · cases f
    · exact ⟨d', f1, e2⟩
/-- the call of a def by its promise -/
theorem callF_ok {G : Hp} {ρ : Env} {fm : FM} {k : Nat} {ms : List Bool} {dd : List PV} {cs : List Cell} {xs dvs : List V} {Q : VK} {E : XK} (R : Rel M F G ρ σ H) (ok : CellsOk M F G ρ σ H xs cs) (hd : ∀ G, RpAll M G dvs dd) (hk : ms.length + dd.length = k)
    (h : Post M F (fun _ => E) G σ (callF fm ms dd (cs.map settle) ρ) fun c ρ1 G1 H1 => ∀ x, CellOk M F G1 ρ1 σ H1 x c → Q x H1) : spV M k fm (xs ++ dvs) H Q E := by
  unfold callF at h
  cases q : frzArgs ρ ms (cs.map settle) with
  | none => rw [q] at h; exact h.elim
  | some p =>
    obtain ⟨ds, ρ2⟩ := p
    rw [q] at h
    dsimp only at h
    cases q2 : ioArgs ρ2 (cs.map settle) ds with
    | none => rw [q2] at h; exact h.elim
    | some ss =>
      rw [q2] at h
      dsimp only at h
      split at h
      · rename_i nd
        obtain ⟨G2, R2, s2, ao⟩ := frzArgs_ok R ok q
        have ao := ao ss q2
        have hl : ss.length = ms.length := by
          have : ∀ {ms : List Bool} {cs : List Cell} {ρ ρ2 : Env} {ds : List (Option PV)}, frzArgs ρ ms cs = some (ds, ρ2) → ds.length = ms.length := by
            intro ms
            induction ms with
            | nil => intro cs ρ ρ2 ds e; cases cs with
              | nil => cases e; rfl
              | cons c cs => cases e
            | cons m ms ih => intro cs ρ ρ2 ds e; cases cs with
              | nil => cases m <;> cases e
              | cons c cs => cases m with
                | false =>
                  obtain ⟨⟨d, ρ1⟩, e1, e2⟩ := Option.bind_eq_some_iff.mp e
                  obtain ⟨⟨ds', ρ2'⟩, e3, e4⟩ := Option.map_eq_some_iff.mp e2
                  cases e4
                  rw [List.length_cons, List.length_cons, ih e3]
                | true =>
                  obtain ⟨⟨ds', ρ2'⟩, e3, e4⟩ := Option.map_eq_some_iff.mp e
                  cases e4
                  rw [List.length_cons, List.length_cons, ih e3]
          rw [← ao.len, ← ao.dlen]; exact this q
        refine ⟨G2, ss ++ dd.map Slot.fz, ioL 0 ds xs, by rw [List.length_append, List.length_map, hl]; exact hk, AO.entry R2 ao (nodupB_ok nd) (hd G2), fun d hm => ?_, ?_⟩
        · obtain ⟨j, hj⟩ := List.mem_iff_getElem?.mp hm
          by_cases hlt : j < ss.length
          · rw [List.getElem?_append_left hlt] at hj
            rcases AO.at (j0 := 0) R2 ao hj with ⟨_, _, e, _⟩ | ⟨_, _, _, e, _⟩ <;> cases e
          · rw [List.getElem?_append_right (Nat.le_of_not_lt hlt), List.getElem?_map] at hj
            obtain ⟨_, _, e⟩ := Option.map_eq_some_iff.mp hj
            cases e
        · cases q3 : fm (ss ++ dd.map Slot.fz) with
          | bad => rw [q3] at h; exact h.elim
          | ok c ρc =>
            rw [q3] at h
            dsimp only at h
            split at h
            · rename_i nr
              cases q4 : takeBack ρc 0 (cs.map settle) ds ρ2 with
              | none => rw [q4] at h; exact h.elim
              | some ρ3 =>
                rw [q4] at h
                intro x σc G' H' Rc okc
                obtain ⟨R3, s3⟩ := callBack R2 ao Rc q4
                refine h G' H' R3 (s2.trans s3) x ?_
                cases c with
                | fz d => exact okc
                | ow d =>
                  obtain ⟨a, e1, o, h0, _⟩ := okc
                  have h0 : H a = none := h0
                  refine ⟨a, e1, o, R2.free0 h0, fun i s e oc f => ?_⟩
                  have : ∃ s0, ρ2[i]? = some s0 ∧ s0.own = true := by
                    obtain ⟨hl, k⟩ := takeBack_get q4
                    have hi : i < ρ2.length := by rw [← hl]; exact len_of e
                    have e0 : ρ2[i]? = some ρ2[i] := List.getElem?_eq_getElem hi
                    refine ⟨_, e0, ?_⟩
                    rcases k i _ e0 with ⟨e1, _⟩ | ⟨m, d, _, _, _, ⟨⟨d0, e5⟩, _⟩ | ⟨⟨d0, e5⟩, _⟩⟩
                    · rw [e] at e1; cases e1; exact oc
                    · rw [e5]; rfl
                    · rw [e5]; rfl
                  obtain ⟨s0, e0, oc0⟩ := this
                  obtain ⟨_, o', ho⟩ := R2.ownG e0 oc0 f
                  rw [h0] at ho; cases ho
                | rf i => cases nr
            · exact h.elim
          | ex x ρc =>
            rw [q3] at h
            dsimp only at h
            cases q4 : takeBack ρc 0 (cs.map settle) ds ρ2 with
            | none => rw [q4] at h; exact h.elim
            | some ρ3 =>
              rw [q4] at h
              intro cls d σc G' H' Rc okx
              obtain ⟨R3, s3⟩ := callBack R2 ao Rc q4
              exact h cls d G' H' R3 (s2.trans s3) okx
      · exact h.elim
end
section
variable {X : Cx} {M : Md} {k lv : Nat} {f : Addr} {fd : FuncData} {ps : List Str} {fm : FM} {dvs : List V} {dsv : List Value} {E : XK} {x : Str} {p pos : Pos} {e : Expr} {es : List Expr} {vs : VA} {ms : List Bool} {dd : List PV}
/-- f(e, ..) -/
theorem vx_callF (F : FnOk X.prog X.w X.K X.mg X.base (L2.CX X.prog X.w) lv f fd ps (spV M k fm)) (hr : Room lv X.A) (hg : Gl X x) (hm : X.mg x = some (.ref f)) (hk : PySem.W.keepIn X.K (.ref f) = true) (hb : Binds X.K fd ps dsv) (hv : Vals dvs dsv) (hx : ∀ σ, PassesAt (L2.CX X.prog X.w) X σ E)
    (hd : ∀ G, RpAll M G dvs dd) (hn : ms.length + dd.length = k) (ha : PA X (e :: es) (tA M (fun _ => E) vs)) (hdb : (x == ("__debug__" : Str)) = false := by decide) (he : starEach (e :: es) X.env = (false, eval e X.env) :: starEach es X.env := by rfl)
    (hpl : (backTo pos (starEach es X.env)).any (·.1) = false := by rfl) : PE X (.Call (.Name x p) (e :: es) [] pos) (tV M (fun _ => E) (vCallF fm ms dd vs)) := by
  refine PEimp (pe_callSD (E := fun _ => E) F hr hg hm hk hb hv hx ha hdb he hpl) fun σ H Q ⟨F, G, ρ, R, h⟩ => ?_
  refine ⟨F, G, ρ, R, (Post.bind h).imp fun cs ρ1 G1 H1 R1 s1 h1 xs ok1 => ?_⟩
  exact callF_ok R1 ok1 hd hn h1
end
end L2.VL

set_option Elab.async false
set_option linter.all false
set_option maxRecDepth 100000
/-! VS1: sets of any kind of plain key: made of a walk, their size, their members in order. -/
namespace L2.VL
open PySem PySem.Spec PyProof.Rows

section
variable {P : Program} {w : World} {κ : Type} [DecidableEq κ] {kd : PySem.KeyKind P w κ}

/-- the entries es are the keys S, each once -/
structure Ents (kd : PySem.KeyKind P w κ) (es : List (Int × Value)) (S : κ → Bool) : Prop where
  el : ElemsOf kd es
  mem : ∀ k, S k = true ↔ ∃ e ∈ es, kd.is k e.2 = true
  nd : es.Pairwise fun e e' => ∀ k, kd.is k e.2 = true → kd.is k e'.2 = true → False

theorem Ents.perm {l l' : List (Int × Value)} {S : κ → Bool} (h : Ents kd l S) (p : l'.Perm l) : Ents kd l' S where
  el := h.el.perm p
  mem := fun k => (h.mem k).trans ⟨fun ⟨e, a, b⟩ => ⟨e, p.mem_iff.mpr a, b⟩, fun ⟨e, a, b⟩ => ⟨e, p.mem_iff.mp a, b⟩⟩
  nd := (List.Perm.pairwise_iff (fun {x y} r k a b => r k b a) p).mpr h.nd

/-- the set at a has the keys S, n in number; its table rises and can be walked -/
def SetG (kd : PySem.KeyKind P w κ) (h : Heap) (a : Addr) (S : κ → Bool) (n : Nat) : Prop :=
  ∃ o es ep t, h.get? a = some o ∧ o.ExactSet ∧ o.data = .set es ep t ∧ Ents kd es.toList S ∧ es.size < scanBound ∧ t.fits es.size = true ∧ es.size = n ∧ Ris t.place.toList ∧ (w.params.followText "set-order" = true ∨ t.led = true)

theorem SetG.at {h h' : Heap} {a : Addr} {S : κ → Bool} {n : Nat} (g : SetG kd h a S n) (k : ∀ o, h.get? a = some o → h'.get? a = some o) : SetG kd h' a S n :=
  let ⟨o, es, ep, t, e, r⟩ := g; ⟨o, es, ep, t, k o e, r⟩
theorem SetG.to {h : Heap} {a : Addr} {S S' : κ → Bool} {n n' : Nat} (g : SetG kd h a S n) (e : ∀ k, S' k = S k) (en : n' = n) : SetG kd h a S' n' := by
  subst en; rw [show S' = S from funext e]; exact g

section
variable {A : Around} {E : Value → Shared → Prop} {s : Shared} {a : Addr}
theorem setG_tail {g : Bool → Sem Unit} (free : ∀ (b : Bool) (s₁ : Shared) (Z : Unit → Shared → Prop), Z () s₁ → wpAny (model P w) A (g b) Z E s₁)
    {ob : Obj} {en : Array (Int × Value)} {e0 : Nat} {tb : SetTable} (gets : s.heap.get? a = some ob) (isS : ob.ExactSet) (dat : ob.data = .set en e0 tb)
    {en1 : Array (Int × Value)} {tb1 : SetTable} {S1 : κ → Bool} (ents : Ents kd en1.toList S1) (few : en1.size < scanBound) (fit : tb1.fits en1.size = true) (ris : Ris tb1.place.toList)
    (led : w.params.followText "set-order" = true ∨ tb1.led = true) {dum : Bool} {Z : Option Bool → Shared → Prop}
    (fin : ∀ h', Heap.SameBut a s.heap h' → SetG kd h' a S1 en1.size → Z (some true) { s with heap := h' }) :
    wpAny (model P w) A (do storeSet a en1 tb1; if (!dum && tb1.tooFull) = true then do { g (relayAll tb1 en1 (SetTable.grown en1.size)).2.2; storeSet a (relayAll tb1 en1 (SetTable.grown en1.size)).1 (relayAll tb1 en1 (SetTable.grown en1.size)).2.1; pure (some true) } else pure (some true)) Z E s := by
  refine wpAny_bind (wpAny_storeSet_of gets dat ?_ (fits_of_scanBound few))
  have gets1 := store_at (es' := en1) (t' := tb1) gets dat
  have same1 := Heap.SameBut.update s.heap a (Obj.putSet en1 tb1)
  split
  · have q1 := relayAll_perm tb1 en1 (SetTable.grown en1.size)
    have q2 := relayAll_fits tb1 en1 (SetTable.grown en1.size)
    have q3 := relayAll_ris tb1 en1 (SetTable.grown en1.size)
    have q4 := relayAll_led tb1 en1 (SetTable.grown en1.size)
    generalize relayAll tb1 en1 (SetTable.grown en1.size) = z at q1 q2 q3 q4 ⊢
    obtain ⟨en2, tb2, gv⟩ := z
    dsimp only at q1 q2 q3 q4 ⊢
    have sz : en2.size = en1.size := by rw [← Array.length_toList, q1.length_eq, Array.length_toList]
    have few2 : en2.size < scanBound := by omega
    refine wpAny_bind (free _ _ _ (wpAny_bind (wpAny_storeSet_of gets1 rfl ?_ (fits_of_scanBound few2))))
    have gets2 := store_at (es' := en2) (t' := tb2) gets1 rfl
    exact wpAny_pure (fin _ (same1.trans (Heap.SameBut.update _ a _)) ⟨_, en2, _, tb2, gets2, isS, rfl, ents.perm q1, few2, q2, sz, q3, led.imp id fun y => by rw [q4]; exact y⟩)
  · exact wpAny_pure (fin _ same1 ⟨_, en1, _, tb1, gets1, isS, rfl, ents, few, fit, rfl, ris, led⟩)

theorem Ents.push {l l1 : List (Int × Value)} {S : κ → Bool} {k : κ} {x : Value} (h : Ents kd l S) (hk : kd.is k x = true) (sc : x.scannable = true) (new : S k = false) (p : l1.Perm (l ++ [(kd.hash k, x)])) : Ents kd l1 (fun j => S j || decide (j = k)) where
  el := (h.el.push hk sc).perm p
  mem := fun j => mem_push_iff hk h.mem p j
  nd := by
    refine (List.Perm.pairwise_iff (fun {x y} r k a b => r k b a) p).mpr (List.pairwise_append.mpr ⟨h.nd, List.pairwise_singleton _ _, fun e he e' he' j a b => ?_⟩)
    rw [List.mem_singleton] at he'; subst he'
    have : j = k := kd.inj x j k b hk
    subst this
    have := (h.mem j).mpr ⟨e, he, a⟩
    rw [new] at this; cases this

theorem setG_add {S : κ → Bool} {n : Nat} {k : κ} {x : Value} {Z : Bool → Shared → Prop} (hk : kd.is k x = true) (sc : x.scannable = true) (G : SetG kd s.heap a S n) (room : n + 1 < scanBound)
    (fin : ∀ h', Heap.SameBut a s.heap h' → SetG kd h' a (fun j => S j || decide (j = k)) (if S k = true then n else n + 1) → Z (!S k) { s with heap := h' }) : wpAny (model P w) A (setAddHashed a x (kd.hash k)) Z E s := by
  obtain ⟨ob, en, e0, tb, gets, isS, dat, ents, few, fit, num, ris, led⟩ := G
  unfold setAddHashed setAddHashedIn
  refine wpAny_holding (wpAny_bind (wpAny_setState_of gets dat fit ?_))
  dsimp only
  rw [byScan_of sc few ents.el, if_pos rfl]
  unfold setAddByScan
  refine wpAny_bind (wpAny_bind (wpAny_rule (wpAny_bind (wpAny_setScan_of hk gets dat fit ents.el ?_))))
  cases sch : List.findIdx? (fun e => kd.is k e.2) en.toList with
  | some j =>
    dsimp only
    obtain ⟨lt, is, _⟩ := List.findIdx?_eq_some_iff_getElem.mp sch
    have old : S k = true := (ents.mem k).mpr ⟨en.toList[j], List.getElem_mem lt, is⟩
    have q := fin s.heap (Heap.SameBut.refl a s.heap) ⟨ob, en, e0, tb, gets, isS, dat, ⟨ents.el, fun i => by
      rw [Bool.or_eq_true, decide_eq_true_eq, ← ents.mem i]
      exact ⟨fun z => z.elim id (fun e => e ▸ old), .inl⟩, ents.nd⟩, few, fit, by rw [if_pos old]; exact num, ris, led⟩
    rw [old] at q
    exact wpAny_pure (wpAny_pure q)
  | none =>
    dsimp only
    have new : S k = false := by
      cases c : S k with
      | false => rfl
      | true =>
        obtain ⟨e, he, is⟩ := (ents.mem k).mp c
        have := List.findIdx?_eq_none_iff.mp sch e he
        rw [is] at this; cases this
    have p1 := layNew_perm tb en (kd.hash k) x
    have p2 := layNew_fits tb en (kd.hash k) x
    have p3 := layNew_ris tb en (kd.hash k) x ris
    have p4 := layNew_led tb en (kd.hash k) x
    generalize layNew tb en (kd.hash k) x = z at p1 p2 p3 p4 ⊢
    obtain ⟨en1, tb1, dum, gv⟩ := z
    dsimp only at p1 p2 p3 p4 ⊢
    rw [Array.toList_push] at p1
    have ents1 := ents.push hk sc new p1
    have sz : en1.size = n + 1 := by rw [← Array.length_toList, p1.length_eq, List.length_append, Array.length_toList, num]; rfl
    have few1 : en1.size < scanBound := by omega
    have led1 : w.params.followText "set-order" = true ∨ tb1.led = true := led.imp id fun y => by rw [p4]; exact y
    have last : ∀ h', Heap.SameBut a s.heap h' → SetG kd h' a (fun j => S j || decide (j = k)) en1.size → Z true { s with heap := h' } := fun h' sb r => by
      have q := fin h' sb
      rw [new] at q
      rw [sz] at r
      exact q r
    have way : ∀ (b : Bool) {s₁ : Shared} {Y : Unit → Shared → Prop}, Y () s₁ → wpAny (model P w) A (match b with | true => rule "set.scan.the-table-gave-way" | false => pure ()) Y E s₁ := fun b s₁ Y q => by
      cases b
      · exact wpAny_pure q
      · exact wpAny_rule q
    refine wpAny_bind (way _ ?_)
    split
    · rw [hashByValue_scannable 8 sc]
      refine wpAny_bind (wpAny_pure (setG_tail (kd := kd) ?_ gets isS dat ents1 few1 ?_ ?_ ?_ ?_))
      · intro b s₁ Y q; cases b <;> first | exact wpAny_pure q | exact wpAny_rule q
      · first | (split <;> first | exact p2 | exact SetTable.fits_plain_off p2) | exact p2
      · first | (split <;> exact p3) | exact p3
      · first | (split <;> exact led1) | exact led1
      · intro h' sb r; dsimp only; exact wpAny_pure (last h' sb r)
    · refine wpAny_bind (wpAny_pure ?_)
      rw [if_pos rfl]
      refine setG_tail (kd := kd) ?_ gets isS dat ents1 few1 p2 p3 led1 ?_
      · intro b s₁ Y q; cases b <;> first | exact wpAny_pure q | exact wpAny_rule q
      intro h' sb r; dsimp only; exact wpAny_pure (last h' sb r)
end
end
end L2.VL

set_option Elab.async false
set_option linter.all false
set_option maxRecDepth 100000
/-! VS2: set(text), set(list) of any kind of plain key. -/
namespace L2.VL
open PySem PySem.Spec PyProof.Rows

section
variable {κ : Type} [DecidableEq κ]
def addU (l : List κ) (k : κ) : List κ := if k ∈ l then l else l ++ [k]
/-- each once, as first met -/
def uniq (ks : List κ) : List κ := ks.foldl addU []
theorem uniq_step {ks : List κ} {i : Nat} {k : κ} (e : ks[i]? = some k) : uniq (ks.take (i + 1)) = addU (uniq (ks.take i)) k := by
  have : ks.take (i + 1) = ks.take i ++ [k] := by rw [List.take_add_one, e]; rfl
  rw [this]; unfold uniq; rw [List.foldl_append]; rfl
theorem mem_addU {l : List κ} {k j : κ} : j ∈ addU l k ↔ j ∈ l ∨ j = k := by
  unfold addU
  split
  · rename_i h; exact ⟨.inl, fun z => z.elim id fun e => e ▸ h⟩
  · rw [List.mem_append, List.mem_singleton]
theorem addU_length (l : List κ) (k : κ) : (addU l k).length ≤ l.length + 1 := by
  unfold addU
  split
  · omega
  · rw [List.length_append]; exact Nat.le_refl _
theorem uniq_le {ks : List κ} : ∀ i, i ≤ ks.length → (uniq (ks.take i)).length ≤ i
  | 0, _ => Nat.le_of_eq rfl
  | i + 1, h => by
    have e : ks[i]? = some ks[i] := List.getElem?_eq_getElem h
    rw [uniq_step e]
    have := addU_length (uniq (ks.take i)) ks[i]
    have := uniq_le (ks := ks) i (by omega)
    omega
theorem addU_nodup {l : List κ} {k : κ} (h : l.Nodup) : (addU l k).Nodup := by
  unfold addU
  split
  · exact h
  · rename_i q
    refine List.nodup_append.mpr ⟨h, by simp, fun x hx y hy e => ?_⟩
    rw [List.mem_singleton] at hy; subst hy; subst e; exact q hx
theorem foldl_addU_nodup : ∀ (ks l : List κ), l.Nodup → (ks.foldl addU l).Nodup
  | [], _, h => h
  | k :: ks, l, h => foldl_addU_nodup ks _ (addU_nodup h)
theorem uniq_nodup (ks : List κ) : (uniq ks).Nodup := foldl_addU_nodup ks [] .nil
theorem foldl_addU_mem {j : κ} : ∀ (ks l : List κ), j ∈ ks.foldl addU l ↔ j ∈ l ∨ j ∈ ks
  | [], l => by simp
  | k :: ks, l => by
    rw [List.foldl_cons, foldl_addU_mem ks, mem_addU, List.mem_cons, or_assoc]
theorem mem_uniq {ks : List κ} {j : κ} : j ∈ uniq ks ↔ j ∈ ks := by
  unfold uniq; rw [foldl_addU_mem]; simp
end

section
variable {P : Program} {w : World} {κ : Type} [DecidableEq κ] {kd : PySem.KeyKind P w κ}
abbrev inU (ks : List κ) : κ → Bool := fun j => decide (j ∈ uniq ks)

theorem setG_loop {A : Around} {R : Result → Shared → Prop} {I a : Addr} {fp wr : List Addr} {n : Nat} {Pv : Nat → Value → Prop} {St : Nat → Heap → Prop} (W : Walks P w A.in1 I fp wr n Pv St) (out : a ∉ fp) (ks : List κ) (len : ks.length = n)
    (val : ∀ i v, Pv i v → ∃ k, ks[i]? = some k ∧ kd.is k v = true ∧ v.scannable = true) (few : n + 1 < scanBound) : ∀ (m i : Nat) (s : Shared), n - i = m → i ≤ n → St i s.heap → SetG kd s.heap a (inU (ks.take i)) (uniq (ks.take i)).length →
      (∀ h' tk, (∀ b o, b ∉ a :: wr → s.heap.get? b = some o → h'.get? b = some o) → SetG kd h' a (inU ks) (uniq ks).length → R (.ok (.ret .none)) { s with heap := h', toks := tk }) →
      codeAny (model P w) A (.builtin "set.update.loop" ⟨[.ref a, .ref I], []⟩) R s
  | 0, i, s, hm, hi, st, G, fin => by
    have e : i = n := by omega
    subst e
    have nw : a ∉ wr := fun z => out (W.sub _ z)
    refine codeAny_builtin PyProof.Rows.F.entry_set_update_loop ?_
    rw [Around.under_plainId PyProof.Rows.F.plain_set_update_loop]
    show wpAny _ A.in1 (pyNext (.ref I) >>= _) _ _ _
    refine wpAny_bind (W.done s _ _ st fun h' tk kp => ?_)
    show wpAny _ A.in1 (ret Value.none) _ _ _
    rw [List.take_of_length_le (Nat.le_of_eq len)] at G
    exact wpAny_pure (fin h' tk (fun b o nb => kp b o fun z => nb (List.mem_cons_of_mem _ z)) (G.at fun o => kp a o nw))
  | m + 1, i, s, hm, hi, st, G, fin => by
    have lt : i < n := by omega
    have nw : a ∉ wr := fun z => out (W.sub _ z)
    refine codeAny_builtin PyProof.Rows.F.entry_set_update_loop ?_
    rw [Around.under_plainId PyProof.Rows.F.plain_set_update_loop]
    show wpAny _ A.in1 (pyNext (.ref I) >>= _) _ _ _
    refine wpAny_bind (W.item i s _ _ lt st fun v h1 tk1 pv st1 kp1 => ?_)
    obtain ⟨k, ek, is, sc⟩ := val i v pv
    show wpAny _ A.in1 (holding [v] (setAdd a v) >>= _) _ _ _
    refine wpAny_bind (wpAny_holding ?_)
    unfold setAdd
    refine wpAny_holding (wpAny_bind (kd.pyHash is ?_))
    have hle := uniq_le (ks := ks) i (by omega)
    refine setG_add (s := { s with heap := h1, toks := tk1 + 1 }) is sc (G.at fun o => kp1 a o nw) (by omega) fun h2 sb G2 => ?_
    have G3 : SetG kd h2 a (inU (ks.take (i + 1))) (uniq (ks.take (i + 1))).length := by
      refine G2.to (fun j => ?_) ?_
      · show decide (j ∈ uniq (ks.take (i + 1))) = (decide (j ∈ uniq (ks.take i)) || decide (j = k))
        rw [uniq_step ek, decide_eq_decide.mpr mem_addU, Bool.decide_or]
      · rw [uniq_step ek]; unfold addU
        by_cases z : k ∈ uniq (ks.take i)
        · rw [if_pos z, if_pos (decide_eq_true z)]
        · rw [if_neg z, if_neg (by show ¬ decide (k ∈ uniq (ks.take i)) = true; rw [decide_eq_false z]; decide), List.length_append]; rfl
    refine wpAny_pure ⟨plainId_quiet PyProof.Rows.F.plain_set_update_loop _, setG_loop W out ks len val few m (i + 1) _ (by omega) lt (W.frame _ h1 _ st1 fun b hb o e => ?_) G3 fun h' tk kp G' => ?_⟩
    · show h2.get? b = some o
      rw [sb.2 b (fun z : b = a => out (z ▸ hb))]; exact e
    · refine fin h' tk (fun b o nb e => kp b o nb ?_) G'
      show h2.get? b = some o
      rw [sb.2 b (fun z : b = a => nb (z ▸ List.mem_cons_self))]
      exact kp1 b o (fun z => nb (List.mem_cons_of_mem _ z)) e

/-- the empty set as it is made -/
abbrev freshSet (w : World) : Obj := { cls := .type "set", dict := none, data := .set #[] 0 (.fresh 0 0 (!w.params.followText "set-order")) }
theorem setG_fresh {h : Heap} {a : Addr} (e : h.get? a = some (freshSet w)) : SetG kd h a (inU []) 0 :=
  ⟨_, #[], 0, _, e, ⟨rfl, rfl, rfl⟩, rfl, ⟨fun e he => by simp at he, fun k => by simp [inU, uniq], .nil⟩, by decide, by rfl, rfl, List.Pairwise.nil, by
    show _ ∨ (!w.params.followText "set-order") = true
    cases w.params.followText "set-order"
    · exact .inr rfl
    · exact .inl rfl⟩

theorem not_set_str : isSubtype (.type "str") (.type "set") = pure false := by rw [isSubtype_type]; kernel_rfl
theorem not_frz_str : isSubtype (.type "str") (.type "frozenset") = pure false := by rw [isSubtype_type]; kernel_rfl
theorem feeds_str {x : Str} {t : Tok} {ks : List Str} (few : ks.length + 1 < scanBound) (e : ks = x.cps.toList.map fun c => (⟨#[c]⟩ : Str)) :
    ∀ (A : Around) (E : Value → Shared → Prop) (s : Shared) (a : Addr) (Z : Unit → Shared → Prop), A.handled = none → a < s.heap.objs.size → s.heap.get? a = some (freshSet w) →
  (∀ h' tk, (∀ b o, b ≠ a → b < s.heap.objs.size → s.heap.get? b = some o → h'.get? b = some o) → SetG (PySem.strKind P w) h' a (inU ks) (uniq ks).length → Z () { s with heap := h', toks := tk }) →
  wpAny (model P w) A (Builtin.Frozenset.updateFrom "set.__init__" a (.str x t)) Z E s := by
  intro A E s a Z hh lt fr fin
  have q1 := not_set_str
  have q2 := not_frz_str
  have q3 : (Value.type "str" == Value.type "dict") = false := by decide
  unfold Builtin.Frozenset.updateFrom
  generalize hPI : pyIter = PI
  wp_walk
  subst hPI
  refine wpAny_pyIter_str fun o St W st0 => ?_
  refine wpAny_bind (wpAny_runValue ?_)
  refine setG_loop (kd := PySem.strKind P w) (n := x.cps.size) (W _ (by simp [hh])) (by simpa using Nat.ne_of_lt lt) ks (by rw [e, List.length_map, Array.length_toList]) (fun i v pv => ?_) (by rw [e, List.length_map, Array.length_toList] at few; exact few) (x.cps.size - 0) 0 _ rfl (Nat.zero_le _) st0
    (by exact setG_fresh (kd := PySem.strKind P w) (Heap.get?_push_of_some _ fr)) fun h' tk kp G => ?_
  · obtain ⟨c, u, ec, rfl⟩ := pv
    refine ⟨⟨#[c]⟩, ?_, strKind_is _ _ _ _, rfl⟩
    rw [e, List.getElem?_map, Array.getElem?_toList, ec]; rfl
  · refine wpAny_pure (fin h' tk (fun b o nb lb eb => kp b o ?_ (Heap.get?_push_of_some _ eb)) G)
    simp only [List.mem_cons, List.not_mem_nil, or_false, not_or]
    exact ⟨nb, Nat.ne_of_lt lb⟩
theorem feeds_list {l : Addr} {items : Array Value} {ks : List κ} (few : ks.length + 1 < scanBound) (e : items.size = ks.length) (val : ∀ (i : Nat) (v : Value), items[i]? = some v → ∃ k, ks[i]? = some k ∧ kd.is k v = true ∧ v.scannable = true) :
    ∀ (A : Around) (E : Value → Shared → Prop) (s : Shared) (a : Addr) (Z : Unit → Shared → Prop), A.handled = none → s.heap.IsList l items → a < s.heap.objs.size → l ≠ a → s.heap.get? a = some (freshSet w) →
  (∀ h' tk, (∀ b o, b ≠ a → b < s.heap.objs.size → s.heap.get? b = some o → h'.get? b = some o) → SetG kd h' a (inU ks) (uniq ks).length → Z () { s with heap := h', toks := tk }) →
  wpAny (model P w) A (Builtin.Frozenset.updateFrom "set.__init__" a (.ref l)) Z E s := by
  intro A E s a Z hh hl lt na fr fin
  obtain ⟨ob, gl, cl, nl, dl⟩ := id hl
  obtain ⟨oc, od, oa, os⟩ := ob
  simp only at cl dl
  subst cl dl
  have q1 := PySem.F.sub_list_set
  have q2 := PySem.F.sub_list_frozenset
  have q3 : (Value.type "list" == Value.type "dict") = false := by decide
  unfold Builtin.Frozenset.updateFrom
  generalize hPI : pyIter = PI
  wp_walk
  subst hPI
  have ll : l < s.heap.objs.size := Heap.lt_size gl
  refine wpAny_pyIter_list hl ?_
  refine wpAny_bind (wpAny_runValue ?_)
  refine setG_loop (n := items.size) (Walks.list (by simp [hh]) _ l (Nat.ne_of_lt ll) items) (by simpa using ⟨Nat.ne_of_lt lt, fun z => na z.symm⟩) ks e.symm val (by rw [e]; exact few) (items.size - 0) 0 _ rfl (Nat.zero_le _)
    ⟨⟨_, Heap.get?_push_size _ rfl, rfl, rfl⟩, hl.push _⟩ (by exact setG_fresh (Heap.get?_push_of_some _ fr)) fun h' tk kp G => ?_
  refine wpAny_pure (fin h' tk (fun b o nb lb eb => kp b o ?_ (Heap.get?_push_of_some _ eb)) G)
  simp only [List.mem_cons, List.not_mem_nil, or_false, not_or]
  exact ⟨nb, Nat.ne_of_lt lb⟩

theorem set_new1 {A : Around} {E : Value → Shared → Prop} {s : Shared} (v : Value) {Z : Value → Shared → Prop} (h : Z (.ref s.heap.objs.size) { s with heap := s.heap.push (freshSet w) }) :
    codeAny (model P w) A (.call (.builtin "set.__new__") ⟨[.type "set", v], []⟩) (wants Z E) s := by
  refine codeAny_of_tree ?_
  show wpAny _ A.in1 (checkBuiltinCall "set.__new__" ⟨[.type "set", v], []⟩ >>= fun _ => again (.builtin "set.__new__" ⟨[.type "set", v], []⟩)) _ _ _
  refine wpAny_bind (wpAny_of_eq (PySem.F.newCall_set_1 v) (wpAny_pure ⟨plainId_quiet PySem.F.plain_set_new _, codeAny_builtin PySem.F.entry_set_new ?_⟩))
  rw [Around.under_plainId PySem.F.plain_set_new _]
  unfold Builtin.«set.__new__» Builtin.Frozenset.newClass
  have sb := sub_set_self
  obtain ⟨hp, g, d, tk, os⟩ := s
  dsimp only
  wp_walk
  refine wpAny_askSetting (wpAny_pure ?_)
  dsimp only
  simp only [newObj]
  exact wpAny_bind (wpAny_alloc (wpAny_pure (wpAny_pure h)))

set_option maxHeartbeats 3200000 in
/-- set(v), by what is put into it -/
theorem call_setG {A : Around} {E : Value → Shared → Prop} {s : Shared} {v : Value} {ks : List κ} {Z : Value → Shared → Prop} (hh : A.handled = none)
    (U : ∀ (A : Around) (E : Value → Shared → Prop) (Y : Unit → Shared → Prop), A.handled = none →
      (∀ h' tk, (∀ b o, b < s.heap.objs.size → s.heap.get? b = some o → h'.get? b = some o) → SetG kd h' s.heap.objs.size (inU ks) (uniq ks).length → Y () { s with heap := h', toks := tk }) →
      wpAny (model P w) A (Builtin.Frozenset.updateFrom "set.__init__" s.heap.objs.size v) Y E { s with heap := s.heap.push (freshSet w) })
    (h : ∀ h' tk, (∀ b o, b < s.heap.objs.size → s.heap.get? b = some o → h'.get? b = some o) → SetG kd h' s.heap.objs.size (inU ks) (uniq ks).length → Z (.ref s.heap.objs.size) { s with heap := h', toks := tk }) :
    wpAny (model P w) A (call (.type "set") [v]) Z E s := by
  obtain ⟨mr1, mr2, mro⟩ := PySem.F.called_set.mro
  have md := PySem.F.called_set.made
  have sb := PySem.F.called_set.sub
  refine wpAny_call (codeAny_of_tree ?_)
  show wpAny _ _ (callAny (.type "set") _) _ _ _
  refine wpAny_pure ⟨Code.quiet_builtin _ (by decide +kernel), codeAny_builtin PySem.F.entry_type_call ?_⟩
  rw [Around.under_plain (weight_type_call_type "set" [v] []) rfl]
  have nt := PySem.F.called_set.notType
  have cc := PySem.F.called_set.canCreate
  have tc := PySem.F.typeCall_set_1 v
  repeat (any_goals (first | assumption | wp_step))
  refine codeAny_mono (set_new1 v (E := E) (Z := fun ob s₁ => ob = .ref s.heap.objs.size ∧ s₁ = { s with heap := s.heap.push (freshSet w) }) ⟨rfl, rfl⟩) fun r s₁ hr => ?_
  cases r with
  | error e => exact hr
  | ok fl =>
    cases fl with
    | ret ob =>
      obtain ⟨rfl, rfl⟩ := hr
      have gS : (s.heap.push (freshSet w)).get? s.heap.objs.size = some (freshSet w) := Heap.get?_push_size _ rfl
      have tS : Shared.TypeIs { s with heap := s.heap.push (freshSet w) } (.ref s.heap.objs.size) "set" := ⟨_, gS, rfl⟩
      have lk := PySem.F.called_set.init.lookup
      have bd := PySem.F.called_set.init.bind (.ref s.heap.objs.size)
      repeat (any_goals (first | assumption | wp_step))
      refine codeAny_mono (codeAny_call_builtin (R := wants (fun r s₂ => r = .none ∧ ∃ h' tk, s₂ = { s with heap := h', toks := tk } ∧ (∀ b o, b < s.heap.objs.size → s.heap.get? b = some o → h'.get? b = some o) ∧
        SetG kd h' s.heap.objs.size (inU ks) (uniq ks).length) E) PySem.F.called_set.init.plain PySem.F.entry_set_init (check_set_init_1 tS ?_)) fun r₂ s₂ hr₂ => ?_
      · unfold Builtin.«set.__init__» noKeywords
        generalize hUF : Builtin.Frozenset.updateFrom = UF
        wp_walk
        subst hUF
        refine U _ _ _ (by simp [hh]) fun h' tk kp G => ?_
        show wpAny _ _ (ret Value.none) _ _ _
        exact wpAny_pure ⟨rfl, h', tk, rfl, kp, G⟩
      · cases r₂ with
        | error e => exact hr₂
        | ok fl₂ =>
          cases fl₂ with
          | ret r =>
            obtain ⟨rfl, h', tk, rfl, kp, G⟩ := hr₂
            repeat (any_goals (first | assumption | wp_step))
            exact h _ _ kp G
          | _ => exact hr₂.elim
    | _ => exact hr.elim
end
end L2.VL

set_option Elab.async false
set_option linter.all false
set_option maxRecDepth 100000
/-! VS3: sorted, sorted(set(..)), len(set(..)). -/
namespace L2.VL
open PySem PySem.Spec PyProof.Rows

/-! ### the order -/
section
variable {α : Type}
def insB (le : α → α → Bool) (x : α) : List α → List α
  | [] => [x]
  | y :: l => if le x y = true then x :: y :: l else y :: insB le x l
def isort (le : α → α → Bool) : List α → List α
  | [] => []
  | x :: l => insB le x (isort le l)
structure Ord (le : α → α → Bool) : Prop where
  tot : ∀ a b, le a b = true ∨ le b a = true
  trans : ∀ a b c, le a b = true → le b c = true → le a c = true
  anti : ∀ a b, le a b = true → le b a = true → a = b
variable {le : α → α → Bool}
theorem insB_perm (x : α) : ∀ l : List α, (insB le x l).Perm (x :: l)
  | [] => .refl _
  | y :: l => by
    unfold insB
    split
    · exact .refl _
    · exact ((insB_perm x l).cons y).trans (List.Perm.swap x y l)
theorem isort_perm : ∀ l : List α, (isort le l).Perm l
  | [] => .refl _
  | x :: l => (insB_perm x _).trans ((isort_perm l).cons x)
theorem insB_pw (o : Ord le) (x : α) : ∀ l : List α, l.Pairwise (le · · = true) → (insB le x l).Pairwise (le · · = true)
  | [], _ => List.pairwise_singleton _ _
  | y :: l, h => by
    obtain ⟨h1, h2⟩ := List.pairwise_cons.mp h
    unfold insB
    split
    · rename_i c
      refine List.pairwise_cons.mpr ⟨fun z hz => ?_, h⟩
      rcases List.mem_cons.mp hz with rfl | hz
      · exact c
      · exact o.trans _ _ _ c (h1 z hz)
    · rename_i c
      have c' : le y x = true := (o.tot x y).resolve_left c
      refine List.pairwise_cons.mpr ⟨fun z hz => ?_, insB_pw o x l h2⟩
      rcases List.mem_cons.mp ((insB_perm x l).mem_iff.mp hz) with rfl | hz
      · exact c'
      · exact h1 z hz
theorem isort_pw (o : Ord le) : ∀ l : List α, (isort le l).Pairwise (le · · = true)
  | [] => .nil
  | x :: l => insB_pw o x _ (isort_pw o l)
theorem pw_unique (o : Ord le) : ∀ {l l' : List α}, l.Perm l' → l.Pairwise (le · · = true) → l'.Pairwise (le · · = true) → l = l'
  | [], l', p, _, _ => (List.Perm.nil_eq p)
  | x :: l, l', p, h, h' => by
    cases l' with
    | nil => exact absurd p.length_eq (by simp)
    | cons y r =>
      obtain ⟨a1, a2⟩ := List.pairwise_cons.mp h
      obtain ⟨b1, b2⟩ := List.pairwise_cons.mp h'
      have e : x = y := by
        rcases List.mem_cons.mp (p.mem_iff.mp List.mem_cons_self) with e | hx
        · exact e
        · rcases List.mem_cons.mp (p.mem_iff.mpr List.mem_cons_self) with e | hy
          · exact e.symm
          · exact o.anti _ _ (a1 y hy) (b1 x hx)
      subst e
      rw [pw_unique o (List.Perm.cons_inv p) a2 b2]
theorem sort_is (o : Ord le) {l l' : List α} (p : l'.Perm l) (h : l'.Pairwise (le · · = true)) : l' = isort le l :=
  pw_unique o (p.trans (isort_perm l).symm) h (isort_pw o l)
end
def leZ (a b : Int) : Bool := decide (a ≤ b)
theorem leZ_ord : Ord leZ := ⟨fun a b => by simp [leZ]; omega, fun a b c => by simp [leZ]; omega, fun a b => by simp [leZ]; omega⟩
def leN : List Nat → List Nat → Bool
  | [], _ => true
  | _ :: _, [] => false
  | a :: r, b :: t => decide (a < b) || (a == b && leN r t)
theorem leN_tot : ∀ a b, leN a b = true ∨ leN b a = true
  | [], _ => .inl rfl
  | _ :: _, [] => .inr rfl
  | a :: r, b :: t => by
    simp only [leN, Bool.or_eq_true, Bool.and_eq_true, decide_eq_true_eq, beq_iff_eq]
    rcases Nat.lt_trichotomy a b with h | h | h
    · exact .inl (.inl h)
    · subst h
      rcases leN_tot r t with q | q
      · exact .inl (.inr ⟨rfl, q⟩)
      · exact .inr (.inr ⟨rfl, q⟩)
    · exact .inr (.inl h)
theorem leN_trans : ∀ a b c, leN a b = true → leN b c = true → leN a c = true
  | [], _, _, _, _ => rfl
  | _ :: _, [], _, h, _ => by cases h
  | _ :: _, _ :: _, [], _, h => by cases h
  | a :: r, b :: t, c :: u, h, h' => by
    simp only [leN, Bool.or_eq_true, Bool.and_eq_true, decide_eq_true_eq, beq_iff_eq] at h h' ⊢
    rcases h with h | ⟨rfl, h⟩
    · rcases h' with h' | ⟨rfl, h'⟩
      · exact .inl (Nat.lt_trans h h')
      · exact .inl h
    · rcases h' with h' | ⟨rfl, h'⟩
      · exact .inl h'
      · exact .inr ⟨rfl, leN_trans r t u h h'⟩
theorem leN_anti : ∀ a b, leN a b = true → leN b a = true → a = b
  | [], [], _, _ => rfl
  | [], _ :: _, _, h => by cases h
  | _ :: _, [], h, _ => by cases h
  | a :: r, b :: t, h, h' => by
    simp only [leN, Bool.or_eq_true, Bool.and_eq_true, decide_eq_true_eq, beq_iff_eq] at h h'
    rcases h with h | ⟨rfl, h⟩
    · rcases h' with h' | ⟨rfl, h'⟩
      · omega
      · omega
    · rcases h' with h' | ⟨_, h'⟩
      · omega
      · rw [leN_anti r t h h']
theorem leN_ord : Ord leN := ⟨leN_tot, leN_trans, leN_anti⟩
theorem leN_lt : ∀ a b, leN a b = !ltCps b a
  | [], [] => rfl
  | [], _ :: _ => rfl
  | _ :: _, [] => rfl
  | a :: r, b :: t => by
    have e : (b == a) = (a == b) := by rw [Bool.eq_iff_iff, beq_iff_eq, beq_iff_eq]; exact eq_comm
    show (decide (a < b) || (a == b && leN r t)) = !(decide (b < a) || (b == a && ltCps t r))
    rw [leN_lt r t, e]
    rcases Nat.lt_trichotomy a b with h | h | h
    · have h1 : ¬ b < a := by omega
      have h2 : (a == b) = false := beq_eq_false_iff_ne.mpr (by omega)
      simp [h, h1, h2]
    · subst h; simp
    · have h1 : ¬ a < b := by omega
      have h2 : (a == b) = false := beq_eq_false_iff_ne.mpr (by omega)
      simp [h, h1, h2]
theorem leN_of_sortedS : ∀ {ys : List (List Nat)}, sortedS (ys.map S) = true → ys.Pairwise (leN · · = true) := by
  have r : ∀ (ys : List (List Nat)) (x : List Nat), risingS (S x) (ys.map S) = true → (x :: ys).Pairwise (leN · · = true) := by
    intro ys
    induction ys with
    | nil => intro x _; exact List.pairwise_singleton _ _
    | cons y ys ih =>
      intro x h
      rw [List.map_cons] at h
      have h : (!ltCps y x && risingS (S y) (ys.map S)) = true := h
      rw [Bool.and_eq_true, ← leN_lt] at h
      have p := ih y h.2
      refine List.pairwise_cons.mpr ⟨fun z hz => ?_, p⟩
      rcases List.mem_cons.mp hz with rfl | hz
      · exact h.1
      · exact leN_trans _ _ _ h.1 ((List.pairwise_cons.mp p).1 z hz)
  intro ys h
  cases ys with
  | nil => exact .nil
  | cons y ys => exact r ys y h

/-! ### the set's members, sorted -/
section
variable {P : Program} {w : World} {κ : Type} [DecidableEq κ] {kd : PySem.KeyKind P w κ}
/-- how the keys are told -/
structure Told (kd : PySem.KeyKind P w κ) (f : κ → V) : Prop where
  to : ∀ {k v}, kd.is k v = true → RelV (f k) v
  of : ∀ {k v}, RelV (f k) v → kd.is k v = true ∧ v.scannable = true
theorem told_str : Told (PySem.strKind P w) V.str where
  to := fun {k v} h => Value.isStrOf_shape h
  of := fun {k v} h => by obtain ⟨t, rfl⟩ := h; exact ⟨strKind_is _ _ _ _, rfl⟩
theorem told_int : Told (PySem.intKind P w) V.int where
  to := fun {k v} h => by
    have h : v.isInt k = true := h
    cases v <;> simp [Value.isInt] at h
    subst h; exact ⟨_, rfl⟩
  of := fun {k v} h => by obtain ⟨t, rfl⟩ := h; exact ⟨intKind_is _ _ _ _, rfl⟩

theorem vals_perm {f : κ → V} : ∀ {l out : List Value}, out.Perm l → ∀ {ks : List κ}, Vals (ks.map f) l → ∃ ks' : List κ, ks'.Perm ks ∧ Vals (ks'.map f) out := by
  intro l out p
  induction p with
  | nil => intro ks h; exact ⟨ks, .refl _, h⟩
  | cons x p ih =>
    intro ks h
    cases ks with
    | nil => cases h
    | cons k ks =>
      cases h with
      | cons r h =>
        obtain ⟨ks', a, b⟩ := ih h
        exact ⟨k :: ks', a.cons k, .cons r b⟩
  | swap x y l =>
    intro ks h
    match ks, h with
    | k1 :: k2 :: ks, .cons r1 (.cons r2 h) => exact ⟨k2 :: k1 :: ks, List.Perm.swap _ _ _, .cons r2 (.cons r1 h)⟩
  | trans p q ih1 ih2 =>
    intro ks h
    obtain ⟨k2, a, b⟩ := ih2 h
    obtain ⟨k1, c, d⟩ := ih1 b
    exact ⟨k1, c.trans a, d⟩
theorem ents_keys {f : κ → V} (T : Told kd f) : ∀ {es : List (Int × Value)}, ElemsOf kd es → es.Pairwise (fun e e' => ∀ k, kd.is k e.2 = true → kd.is k e'.2 = true → False) →
    ∃ ks : List κ, Vals (ks.map f) (es.map (·.2)) ∧ (∀ k, k ∈ ks ↔ ∃ e ∈ es, kd.is k e.2 = true) ∧ ks.Nodup
  | [], _, _ => ⟨[], .nil, fun k => by simp, .nil⟩
  | e :: es, el, nd => by
    obtain ⟨⟨k, hk, _⟩, _⟩ := el.head
    obtain ⟨n1, n2⟩ := List.pairwise_cons.mp nd
    obtain ⟨ks, v, m, d⟩ := ents_keys T el.tail n2
    refine ⟨k :: ks, .cons (T.to hk) v, fun j => ?_, List.nodup_cons.mpr ⟨fun hm => ?_, d⟩⟩
    · rw [List.mem_cons, m]
      constructor
      · rintro (rfl | ⟨e', a, b⟩)
        · exact ⟨e, List.mem_cons_self, hk⟩
        · exact ⟨e', List.mem_cons_of_mem _ a, b⟩
      · rintro ⟨e', a, b⟩
        rcases List.mem_cons.mp a with rfl | a
        · exact .inl (kd.inj e'.2 j k b hk)
        · exact .inr ⟨e', a, b⟩
    · obtain ⟨e', a, b⟩ := (m k).mp hm
      exact n1 e' a k hk b

/-- list.sort puts them into the order R -/
def Sorts (P : Program) (w : World) (f : κ → V) (R : κ → κ → Prop) : Prop := ∀ {A : Around} {E : Value → Shared → Prop} {s : Shared} {a : Addr} {vs : List Value} {ks : List κ} {n : Nat} {Z : Fin → Shared → Prop}, s.heap.get? a = some (seqObj "list" vs.toArray n) → Vals (ks.map f) vs → vs.length ≤ sizeLine →
  (∀ (out : Array Value) (ks' : List κ), Vals (ks'.map f) out.toList → ks'.Perm ks → ks'.Pairwise R → Z (.done (.ret .none)) { s with heap := sortedHeap s.heap a vs out }) → wpAny (model P w) A (Builtin.«list.sort» ⟨[.ref a], []⟩) Z E s
theorem sorts_int : Sorts P w V.int (· ≤ ·) := fun {A E s a vs ks n Z} ho r hL h =>
  list_sort_treeAny ho r.ints hL fun out ns' h1 h2 h3 => h out ns' (vals_of_ints h1) h2 h3
theorem sorts_str : Sorts P w V.str (fun x y => leN x.cps.toList y.cps.toList = true) := fun {A E s a vs ks n Z} ho r hL h => by
  refine list_sort_treeKAny strKind_oneLt ho r.strs.keysOf (fun v₁ v₂ rest e => keyKind_strs (by rw [← e]; exact r.strs)) hL fun st' hp hs => ?_
  obtain ⟨ys, h1, h2, h3⟩ := sorted_out_str r.strs hp hs
  refine h _ ys (vals_of_strs h1) h2 ?_
  have e : (ys.map fun y => y.cps.toList).map S = ys := by rw [List.map_map]; exact (List.map_congr_left fun y _ => rfl).trans (List.map_id _)
  have q := leN_of_sortedS (ys := ys.map fun y => y.cps.toList) (by rw [e]; exact h3)
  exact List.pairwise_map.mp q
theorem sorted_setG {f : κ → V} {R : κ → κ → Prop} (T : Told kd f) (O : Sorts P w f R) {A : Around} {E : Value → Shared → Prop} {s : Shared} {a : Addr} {ks : List κ} {n : Nat} {Z : Value → Shared → Prop} (G : SetG kd s.heap a (inU ks) n) (hh : A.handled = none)
    (fin : ∀ s' p (out : Array Value) (c : Nat) (ns : List κ), (∀ b o, s.heap.get? b = some o → s'.heap.get? b = some o) → s'.gens = s.gens → s'.os = s.os → s.heap.objs.size ≤ p →
      s'.heap.get? p = some (seqObj "list" out c) → Vals (ns.map f) out.toList → ns.Pairwise R → ns.Perm (uniq ks) → Z (.ref p) s') :
    wpAny (model P w) A (call (.builtin "sorted") [.ref a]) Z E s := by
  obtain ⟨ob, en, e0, tb, gets, isS, dat, ents, few, fit, num, ris, led⟩ := G
  obtain ⟨k0, v0, m0, d0⟩ := ents_keys T ents.el ents.nd
  refine Calls.call_function_entry kind_sorted plain_sorted entry_sorted (args_sorted1 _) ?_
  unfold Builtin.«sorted»
  refine wpAny_bind (m := checkCount "sorted" 1 1 _) (wpAny_pure (wpAny_bind (collect_set (A := A.in1) hh ⟨ob, gets, isS.1, dat⟩ fit few ris led fun s1 vs kp hz g1 o1 pm => ?_)))
  obtain ⟨k1, p1, v1⟩ := vals_perm pm v0
  have lv : vs.length ≤ sizeLine := by
    rw [pm.length_eq, List.length_map, Array.length_toList]; exact fits_of_scanBound few
  refine wpAny_bind (wpAny_newList ?_ lv)
  have gL : (s1.heap.push (seqObj "list" vs.toArray 0)).get? s1.heap.objs.size = some (seqObj "list" vs.toArray 0) := Heap.get?_push_size _ rfl
  refine wpAny_bind (wpAny_holding (wpAny_call_entry slot_list_sort ⟨_, gL, rfl⟩ entry_list_sort (O gL v1 lv fun out ks' r1 r2 r3 => ⟨_, rfl, ?_⟩) (args_list_sort _)))
  obtain ⟨c, gc⟩ := sortedHeap_at (vs := vs) (out := out) gL
  refine wpAny_pure ⟨_, rfl, fin _ s1.heap.objs.size out c ks' (fun b u e => ?_) g1 o1 hz gc r1 r3 ?_⟩
  · have q := kp b u e
    have lb := Heap.lt_size q
    show (sortedHeap (s1.heap.push (seqObj "list" vs.toArray 0)) s1.heap.objs.size vs out).get? b = some u
    rw [sortedHeap_old (Nat.ne_of_lt lb) (by rw [size_push']; exact Nat.lt_succ_of_lt lb)]
    exact Heap.get?_push_of_some _ q
  · refine r2.trans (p1.trans ?_)
    refine (List.perm_ext_iff_of_nodup d0 (uniq_nodup ks)).mpr fun k => ?_
    rw [m0 k, ← ents.mem k, decide_eq_true_eq]

/-- the set at a -/
def SetGO (kd : PySem.KeyKind P w κ) (a : Addr) (ks : List κ) : HO := .ext fun h => SetG kd h a (inU ks) (uniq ks).length
theorem setGO_new {H : Hp} {h : Heap} {a : Addr} {ks : List κ} (g : SetG kd h a (inU ks) (uniq ks).length) : ObjOk P w H h a (SetGO kd a ks) := by
  have ⟨o, _, _, _, e, _⟩ := g
  exact ⟨g, ⟨o, e⟩, fun h1 h2 g1 k => SetG.at g1 k⟩
end
section
variable {X : Cx} {κ : Type} [DecidableEq κ] {kd : PySem.KeyKind X.prog X.w κ} {f : κ → V} {R : κ → κ → Prop}
/-- set(a text) -/
def rSetStr (P : Program) (w : World) : List V → Hp → VK → Prop := fun xs H Q => ∃ x : Str, xs = [V.str x] ∧ x.cps.size + 1 < scanBound ∧ ∀ p, H p = none → Q (.ref p) (upd H p (SetGO (PySem.strKind P w) p (x.cps.toList.map fun c => (⟨#[c]⟩ : Str))))
theorem cr_setStr (hc : X.calm = true) : CallR X (.type "set") (rSetStr X.prog X.w) := by
  intro pins s σ H xs us Q I r h
  obtain ⟨x, rfl, hx, q⟩ := h
  obtain ⟨t, rfl⟩ : ∃ t, us = [.str x t] := by
    cases r with
    | cons a b => cases b; obtain ⟨t, rfl⟩ := a; exact ⟨t, rfl⟩
  have hn : H s.heap.objs.size = none := I.hok.fresh (Nat.le_refl _)
  refine call_setG (kd := PySem.strKind X.prog X.w) (ks := x.cps.toList.map fun c => (⟨#[c]⟩ : Str)) (I.ok.hd hc) (fun A E Y hh fin => ?_) fun h' tk kp G => ?_
  · refine feeds_str (by rw [List.length_map, Array.length_toList]; exact hx) rfl A E _ _ Y hh (by rw [Heap.size_push]; exact Nat.lt_succ_self _) (Heap.get?_push_size _ rfl) fun h' tk kp G => fin h' tk (fun b o lt e => ?_) G
    exact kp b o (Nat.ne_of_lt lt) (by rw [Heap.size_push]; exact Nat.lt_succ_of_lt lt) (Heap.get?_push_of_some _ e)
  · exact ⟨.ref s.heap.objs.size, _, I.laid (t' := tk) (fun b o e => kp b o (Heap.lt_size e) e) (Nat.le_refl _) (setGO_new G), rfl, q _ hn⟩
/-- set(a list) -/
def rSetLst (P : Program) (w : World) (K : PySem.W.Frag) (kd : PySem.KeyKind P w κ) (f : κ → V) : List V → Hp → VK → Prop := fun xs H Q => ∃ (l : Addr) (ks : List κ), xs = [V.ref l] ∧ SqL K H l (ks.map f) ∧ ks.length + 1 < scanBound ∧ ∀ p, H p = none → Q (.ref p) (upd H p (SetGO kd p ks))
theorem cr_setLst (hc : X.calm = true) (T : Told kd f) : CallR X (.type "set") (rSetLst X.prog X.w X.K kd f) := by
  intro pins s σ H xs us Q I r h
  obtain ⟨l, ks, rfl, hs, hx, q⟩ := h
  rw [Vals.ref1 r]
  obtain ⟨its, rv, hl, _⟩ := I.list hs
  have hl := hl.isList
  have hn : H s.heap.objs.size = none := I.hok.fresh (Nat.le_refl _)
  have ll : l < s.heap.objs.size := by obtain ⟨o, e, _⟩ := hl; exact Heap.lt_size e
  refine call_setG (kd := kd) (ks := ks) (I.ok.hd hc) (fun A E Y hh fin => ?_) fun h' tk kp G => ?_
  · refine feeds_list (items := its.toArray) hx (by have := rv.length; rw [List.length_map] at this; rw [List.size_toArray]; exact this.symm) (fun i v e => ?_) A E _ _ Y hh (hl.push _) (by rw [Heap.size_push]; exact Nat.lt_succ_self _) (Nat.ne_of_lt ll) (Heap.get?_push_size _ rfl) fun h' tk kp G => fin h' tk (fun b o lt e => ?_) G
    · rw [List.getElem?_toArray] at e
      have hi : i < ks.length := by have := rv.length; rw [List.length_map] at this; rw [this]; exact len_of e
      have ek : ks[i]? = some ks[i] := List.getElem?_eq_getElem hi
      obtain ⟨u, e1, e2⟩ := rv.get (i := i) (x := f ks[i]) (by rw [List.getElem?_map, ek]; rfl)
      rw [e] at e1; cases e1
      exact ⟨_, ek, (T.of e2).1, (T.of e2).2⟩
    · exact kp b o (Nat.ne_of_lt lt) (by rw [Heap.size_push]; exact Nat.lt_succ_of_lt lt) (Heap.get?_push_of_some _ e)
  · exact ⟨.ref s.heap.objs.size, _, I.laid (t' := tk) (fun b o e => kp b o (Heap.lt_size e) e) (Nat.le_refl _) (setGO_new G), rfl, q _ hn⟩
/-- sorted(a set) -/
def rSortSet (P : Program) (w : World) (kd : PySem.KeyKind P w κ) (f : κ → V) (R : κ → κ → Prop) : List V → Hp → VK → Prop := fun xs H Q => ∃ (a : Addr) (ks : List κ), xs = [V.ref a] ∧ H a = some (SetGO kd a ks) ∧ (uniq ks).length ≤ sizeLine ∧
  ∀ (ns : List κ) (p : Addr), ns.Pairwise R → ns.Perm (uniq ks) → H p = none → Q (.ref p) (upd H p (.lst (ns.map f)))
theorem cr_sortSet (hc : X.calm = true) (T : Told kd f) (O : Sorts X.prog X.w f R) : CallR X (.builtin "sorted") (rSortSet X.prog X.w kd f R) := by
  intro pins s σ H xs us Q I r h
  obtain ⟨a, ks, rfl, ha, hz, q⟩ := h
  rw [Vals.ref1 r]
  have G : SetG kd s.heap a (inU ks) (uniq ks).length := (I.hok a _ ha).1
  refine sorted_setG T O G (I.ok.hd hc) fun s' p out c ns k g o hp hg hv pw pm => ?_
  have hlen : (ns.map f).length ≤ sizeLine := by rw [List.length_map, pm.length_eq]; exact hz
  have hn : H p = none := I.hok.fresh hp
  have J : Inv X pins σ (upd H p (.lst (ns.map f))) { s with heap := s'.heap, gens := s'.gens, drawn := s'.drawn, toks := s'.toks } :=
    I.call (ch := []) (Un.laid k hp hn) (I.hok.laid k hp ⟨hlen, out.toList, c, hv, hg⟩) (by rw [g]; exact I.bare) (fun _ z => nomatch z)
  have e : s' = { s with heap := s'.heap, gens := s'.gens, drawn := s'.drawn, toks := s'.toks } := by
    obtain ⟨_, _, _, _, _⟩ := s'
    obtain ⟨_, _, _, _, _⟩ := s
    cases o
    rfl
  rw [e]
  exact ⟨.ref p, _, J, rfl, q ns p pw pm hn⟩
/-- len(a set) -/
def rLenSet (P : Program) (w : World) (kd : PySem.KeyKind P w κ) : List V → Hp → VK → Prop := fun xs H Q => ∃ (a : Addr) (ks : List κ), xs = [V.ref a] ∧ H a = some (SetGO kd a ks) ∧ Q (.int ((uniq ks).length : Nat)) H
theorem cr_lenSet : CallR X (.builtin "len") (rLenSet X.prog X.w kd) := by
  intro pins s σ H xs us Q I r h
  obtain ⟨a, ks, rfl, ha, q⟩ := h
  rw [Vals.ref1 r]
  have G : SetG kd s.heap a (inU ks) (uniq ks).length := (I.hok a _ ha).1
  obtain ⟨ob, en, e0, tb, gets, isS, dat, ents, few, fit, num, _⟩ := G
  have few' : en.size < 4096 := few
  refine call_len_set gets isS dat fit (by omega) ⟨.int ((uniq ks).length : Nat), H, I.tok _, ⟨_, by rw [num]⟩, q⟩
end
end L2.VL

set_option Elab.async false
set_option linter.all false
set_option maxRecDepth 100000
/-! VS4: the rules for sorted(..), sorted(set(..)), len(set(..)). -/
namespace L2.VL
open PySem PySem.Spec PyProof.Rows

section
variable {α β : Type} [DecidableEq α] [DecidableEq β]
theorem addU_map {g : α → β} (inj : ∀ a b, g a = g b → a = b) (l : List α) (k : α) : addU (l.map g) (g k) = (addU l k).map g := by
  unfold addU
  have e : g k ∈ l.map g ↔ k ∈ l := ⟨fun h => by obtain ⟨a, h1, h2⟩ := List.mem_map.mp h; rw [← inj a k h2]; exact h1, fun h => List.mem_map.mpr ⟨k, h, rfl⟩⟩
  by_cases c : k ∈ l
  · rw [if_pos c, if_pos (e.mpr c)]
  · rw [if_neg c, if_neg fun z => c (e.mp z), List.map_append]; rfl
theorem foldl_addU_map {g : α → β} (inj : ∀ a b, g a = g b → a = b) : ∀ (ks l : List α), (ks.map g).foldl addU (l.map g) = (ks.foldl addU l).map g
  | [], _ => rfl
  | k :: ks, l => by rw [List.map_cons, List.foldl_cons, List.foldl_cons, addU_map inj, foldl_addU_map inj ks]
theorem uniq_map {g : α → β} (inj : ∀ a b, g a = g b → a = b) (ks : List α) : uniq (ks.map g) = (uniq ks).map g := foldl_addU_map inj ks []
end
theorem S_inj (a b : List Nat) (h : S a = S b) : a = b := by
  have := congrArg (fun x : Str => x.cps.toList) h
  exact this

/-- the keys of what set(..) is made of -/
inductive SKeys where
  | z (ks : List Int) | s (ks : List (List Nat))
def intsOf : List PV → Option (List Int)
  | [] => some []
  | .int i :: r => (intsOf r).map (i :: ·)
  | _ => none
theorem intsOf_map : ∀ {ds : List PV} {ks : List Int}, intsOf ds = some ks → ds = ks.map PV.int
  | [], ks, h => by cases h; rfl
  | d :: ds, ks, h => by
    cases d with
    | int i =>
      obtain ⟨r, e, rfl⟩ := Option.map_eq_some_iff.mp h
      rw [intsOf_map e]; rfl
    | _ => cases h
theorem intsOf_of : ∀ ks : List Int, intsOf (ks.map PV.int) = some ks
  | [] => rfl
  | k :: ks => by show (intsOf (ks.map PV.int)).map (k :: ·) = _; rw [intsOf_of ks]; rfl
def fewK (n : Nat) (k : SKeys) : Option SKeys := if n + 1 < 4096 then some k else none
def lstKeys (ds : List PV) : Option SKeys := match intsOf ds with
  | some ks => fewK ks.length (.z ks)
  | none => (strsOf ds).bind fun ks => fewK ks.length (.s ks)
def keysOf : PV → Option SKeys
  | .str l => fewK l.length (.s (l.map fun c => [c]))
  | .lst ds => lstKeys ds
  | _ => none
def SKeys.sorted : SKeys → List PV
  | .z ks => (isort leZ (uniq ks)).map PV.int
  | .s ks => (isort leN (uniq ks)).map PV.str
def SKeys.size : SKeys → Nat
  | .z ks => (uniq ks).length
  | .s ks => (uniq ks).length
def vSortSet (ve : VX) : VX := fun ρ => (ve ρ).bind fun c ρ1 => opt (((val ρ1 (settle c)).bind keysOf).map fun k => Cell.ow (.lst k.sorted)) ρ1
def vLenSet (ve : VX) : VX := fun ρ => (ve ρ).bind fun c ρ1 => opt (((val ρ1 (settle c)).bind keysOf).map fun k => Cell.fz (.int (k.size : Nat))) ρ1

section
variable {X : Cx} {M : Md}
abbrev sK (X : Cx) := PySem.strKind X.prog X.w
abbrev zK (X : Cx) := PySem.intKind X.prog X.w
/-- any set -/
def rSetA (X : Cx) : List V → Hp → VK → Prop := fun xs H Q => rSetStr X.prog X.w xs H Q ∨ (rSetLst X.prog X.w X.K (zK X) V.int xs H Q ∨ rSetLst X.prog X.w X.K (sK X) V.str xs H Q)
theorem cr_setA (hc : X.calm = true) : CallR X (.type "set") (rSetA X) := (cr_setStr hc).or ((cr_setLst hc told_int).or (cr_setLst hc told_str))
def rSortA (X : Cx) : List V → Hp → VK → Prop := fun xs H Q => rSortSet X.prog X.w (zK X) V.int (· ≤ ·) xs H Q ∨ rSortSet X.prog X.w (sK X) V.str (fun x y => leN x.cps.toList y.cps.toList = true) xs H Q
theorem cr_sortA (hc : X.calm = true) : CallR X (.builtin "sorted") (rSortA X) := (cr_sortSet hc told_int sorts_int).or (cr_sortSet hc told_str sorts_str)
def rLenA (X : Cx) : List V → Hp → VK → Prop := fun xs H Q => rLenSet X.prog X.w (zK X) xs H Q ∨ rLenSet X.prog X.w (sK X) xs H Q
theorem cr_lenA : CallR X (.builtin "len") (rLenA X) := cr_lenSet.or cr_lenSet

/-- what stands at p behind set(x) -/
def keyHO (X : Cx) (p : Addr) : SKeys → HO
  | .z ks => SetGO (zK X) p ks
  | .s ks => SetGO (sK X) p (ks.map S)
theorem set_of_view {G H : Hp} {x : V} {d : PV} {k : SKeys} {Q : VK} (hK : M.K = X.K) (s : Same G H) (v : View M G H x d) (e : keysOf d = some k) (q : ∀ p, H p = none → Q (.ref p) (upd H p (keyHO X p k))) : rSetA X [x] H Q := by
  have sb : scanBound = 4096 := rfl
  cases d with
  | str l =>
    have e : fewK l.length (.s (l.map fun c => [c])) = some k := e
    unfold fewK at e
    split at e
    · rename_i hl
      cases e
      refine .inl ⟨S l, by rw [v.str], by rw [sb]; exact hl, fun p hp => ?_⟩
      have := q p hp
      have e : (S l).cps.toList.map (fun c => (⟨#[c]⟩ : Str)) = (l.map fun c => [c]).map S := by rw [List.map_map]; rfl
      rw [e]; exact this
    · cases e
  | lst ds =>
    obtain ⟨a, xs, rfl, ha, r⟩ := v.lst s
    have e : lstKeys ds = some k := e
    unfold lstKeys at e
    cases q1 : intsOf ds with
    | some ks =>
      rw [q1] at e
      dsimp only at e
      unfold fewK at e
      split at e
      · rename_i hl
        cases e
        rw [intsOf_map q1] at r
        refine .inr (.inl ⟨a, ks, rfl, .inl (.inl (by rw [← r.ints]; exact ha)), by rw [sb]; exact hl, fun p hp => q p hp⟩)
      · cases e
    | none =>
      rw [q1] at e
      dsimp only at e
      obtain ⟨ks, q2, e⟩ := Option.bind_eq_some_iff.mp e
      unfold fewK at e
      split at e
      · rename_i hl
        cases e
        rw [strsOf_map q2] at r
        refine .inr (.inr ⟨a, ks.map S, rfl, .inl (.inl (by rw [← r.strs]; exact ha)), by rw [List.length_map, sb]; exact hl, fun p hp => q p hp⟩)
      · cases e
  | _ => cases e
theorem sort_keys {F : Fr} {G H : Hp} {ρ : Env} {σ : L2.St} {k : SKeys} {p : Addr} {Q : VK} (R : Rel M F G ρ σ (upd H p (keyHO X p k)))
    (few : k.size ≤ sizeLine) (q : ∀ z H', Rel M F G ρ σ H' → CellOk M F G ρ σ H' z (.ow (.lst k.sorted)) → Q z H') : rSortA X [.ref p] (upd H p (keyHO X p k)) Q := by
  cases k with
  | z ks =>
    refine .inl ⟨p, ks, rfl, upd_same, few, fun ns b pw pm hb => ?_⟩
    have e : ns = isort leZ (uniq ks) := sort_is leZ_ord pm (pw.imp fun h => by simpa [leZ] using h)
    obtain ⟨R', ok⟩ := R.newList hb (rpAll_ints ns)
    rw [e] at R' ok
    rw [e]
    exact q _ _ R' ok
  | s ks =>
    refine .inr ⟨p, ks.map S, rfl, upd_same, by rw [uniq_map S_inj, List.length_map]; exact few, fun ns b pw pm hb => ?_⟩
    rw [uniq_map S_inj] at pm
    have e0 : (ns.map fun y => y.cps.toList).map S = ns := by rw [List.map_map]; exact (List.map_congr_left fun y _ => rfl).trans (List.map_id _)
    have pm2 := pm.map fun y : Str => y.cps.toList
    rw [List.map_map, show (fun y : Str => y.cps.toList) ∘ S = id from rfl, List.map_id] at pm2
    have e : (ns.map fun y => y.cps.toList) = isort leN (uniq ks) := sort_is leN_ord pm2 (List.pairwise_map.mpr pw)
    rw [e] at e0
    rw [← e0]
    obtain ⟨R', ok⟩ := R.newList hb (rpAll_strs (isort leN (uniq ks)))
    exact q _ _ R' ok
theorem len_keys {H : Hp} {k : SKeys} {p : Addr} {Q : VK} (q : Q (.int (k.size : Nat)) (upd H p (keyHO X p k))) : rLenA X [.ref p] (upd H p (keyHO X p k)) Q := by
  cases k with
  | z ks => exact .inl ⟨p, ks, rfl, upd_same, q⟩
  | s ks =>
    refine .inr ⟨p, ks.map S, rfl, upd_same, ?_⟩
    rw [uniq_map S_inj, List.length_map]; exact q
theorem keysOf_few {d : PV} {k : SKeys} (e : keysOf d = some k) : k.size ≤ sizeLine := by
  have le : ∀ {α : Type} [DecidableEq α] (ks : List α), ks.length + 1 < 4096 → (uniq ks).length ≤ sizeLine := fun ks h => by
    have := uniq_le (ks := ks) ks.length (Nat.le_refl _)
    rw [List.take_length] at this
    rw [sizeLine_eq]; omega
  cases d with
  | str l =>
    have e : fewK l.length (.s (l.map fun c => [c])) = some k := e
    unfold fewK at e
    split at e
    · rename_i hl; cases e; exact le _ (by rw [List.length_map]; exact hl)
    · cases e
  | lst ds =>
    have e : lstKeys ds = some k := e
    unfold lstKeys at e
    cases q1 : intsOf ds with
    | some ks =>
      rw [q1] at e; dsimp only at e; unfold fewK at e
      split at e
      · rename_i hl; cases e; exact le _ hl
      · cases e
    | none =>
      rw [q1] at e; dsimp only at e
      obtain ⟨ks, q2, e⟩ := Option.bind_eq_some_iff.mp e
      unfold fewK at e
      split at e
      · rename_i hl; cases e; exact le _ hl
      · cases e
  | _ => cases e

variable {E : L2.St → XK} {p1 p2 : Pos} {e : Expr} {ve : VX}
abbrev nSorted : Str := "sorted"
abbrev nSet : Str := "set"
abbrev nLen : Str := "len"
theorem vx_sortSet (hc : X.calm = true) (hK : M.K = X.K) (h1 : Gl X nSorted) (h2 : X.mg nSorted = none) (h3 : Gl X nSet) (h4 : X.mg nSet = none) (he : PE X e (tV M E ve))
    (s1 : starEach [e] X.env = (false, eval e X.env) :: starEach [] X.env := by rfl) (s2 : starEach [.Call (.Name nSet p1) [e] [] pos] X.env = (false, eval (.Call (.Name nSet p1) [e] [] pos) X.env) :: starEach [] X.env := by rfl) :
    PE X (.Call (.Name nSorted p2) [.Call (.Name nSet p1) [e] [] pos] [] pos') (tV M E (vSortSet ve)) := by
  refine PEimp (pe_callB (cr_sortA hc) h1 h2 rfl (pa_cons (pe_callTy (cr_setA hc) h3 h4 rfl (pa_cons he pa_nil s1) (he := s1)) pa_nil s2) (he := s2)) fun σ H Q ⟨F, G, ρ, R, h⟩ => ?_
  refine ⟨F, G, ρ, R, (Post.bind h).imp fun c ρ1 G1 H1 R1 s1 h1 x ok1 => ?_⟩
  obtain ⟨c', ec, k⟩ := opt_post h1
  obtain ⟨G2, R2, s2, ok2⟩ := settle_ok R1 ok1
  obtain ⟨kk, ek, rfl⟩ := Option.map_eq_some_iff.mp ec
  obtain ⟨d, ed, ek⟩ := Option.bind_eq_some_iff.mp ek
  refine set_of_view hK R2.sub (ok2.view R2 ed) ek fun p hp => ?_
  exact sort_keys (R2.alloc hp _) (keysOf_few ek) fun z H' R' ok => k G2 H' R' s2 z ok
theorem vx_lenSet (hc : X.calm = true) (hK : M.K = X.K) (h1 : Gl X nLen) (h2 : X.mg nLen = none) (h3 : Gl X nSet) (h4 : X.mg nSet = none) (he : PE X e (tV M E ve))
    (s1 : starEach [e] X.env = (false, eval e X.env) :: starEach [] X.env := by rfl) (s2 : starEach [.Call (.Name nSet p1) [e] [] pos] X.env = (false, eval (.Call (.Name nSet p1) [e] [] pos) X.env) :: starEach [] X.env := by rfl) :
    PE X (.Call (.Name nLen p2) [.Call (.Name nSet p1) [e] [] pos] [] pos') (tV M E (vLenSet ve)) := by
  refine PEimp (pe_callB cr_lenA h1 h2 rfl (pa_cons (pe_callTy (cr_setA hc) h3 h4 rfl (pa_cons he pa_nil s1) (he := s1)) pa_nil s2) (he := s2)) fun σ H Q ⟨F, G, ρ, R, h⟩ => ?_
  refine ⟨F, G, ρ, R, (Post.bind h).imp fun c ρ1 G1 H1 R1 s1 h1 x ok1 => ?_⟩
  obtain ⟨c', ec, k⟩ := opt_post h1
  obtain ⟨G2, R2, s2, ok2⟩ := settle_ok R1 ok1
  obtain ⟨kk, ek, rfl⟩ := Option.map_eq_some_iff.mp ec
  obtain ⟨d, ed, ek⟩ := Option.bind_eq_some_iff.mp ek
  refine set_of_view hK R2.sub (ok2.view R2 ed) ek fun p hp => ?_
  exact len_keys (k G2 _ (R2.alloc hp _) s2 _ (.int _))
end

/-! ### sorted of a list -/
def pSorted : List PV → Option Cell
  | [.lst ds] => match intsOf ds with
    | some ks => some (.ow (.lst ((isort leZ ks).map PV.int)))
    | none => (strsOf ds).map fun ks => .ow (.lst ((isort leN ks).map PV.str))
  | _ => none
section
variable {X : Cx} {M : Md}
abbrev rSortedI (K : PySem.W.Frag) : List V → Hp → VK → Prop := fun vs H Q => ∃ (a : Addr) (ns : List Int), vs = [V.ref a] ∧ SqL K H a (ns.map V.int) ∧
  ∀ (ns' : List Int) (p : Addr), ns'.Perm ns → ns'.Pairwise (· ≤ ·) → H p = none → Q (.ref p) (upd H p (.lst (ns'.map V.int)))
abbrev rSortedT' (K : PySem.W.Frag) : List V → Hp → VK → Prop := fun vs H Q => ∃ (a : Addr) (xs : List Str), vs = [V.ref a] ∧ SqL K H a (xs.map V.str) ∧
  ∀ (ys : List Str) (p : Addr), ys.Perm xs → sortedS ys = true → H p = none → Q (.ref p) (upd H p (.lst (ys.map V.str)))
theorem cr_sortedI : CallR X (.builtin "sorted") (rSortedI X.K) := by
  intro pins s σ H vs us Q I r ⟨a, ns, e, hs, q⟩
  subst e
  obtain ⟨its, rv, hl, hz⟩ := I.list hs
  have hz : its.length ≤ sizeLine := by have := rv.length; rw [← this]; exact hz
  rw [Vals.ref1 r]
  refine sorted_intsAny hl.isList rv.ints hz fun out ns' h1 h2 h3 => ?_
  obtain ⟨ep, g⟩ := sortedAll_at s.heap its out
  refine ⟨.ref _, upd H (s.heap.objs.size + 1) (.lst (ns'.map V.int)), I.laid (t' := s.toks) (fun _ _ => sortedAll_old) (Nat.le_succ _) ⟨?_, out.toList, ep, vals_of_ints h1, g⟩, rfl, q ns' _ h2 h3 (I.hok.fresh (Nat.le_succ _))⟩
  have := rv.length
  rw [List.length_map] at this ⊢
  rw [h2.length_eq, this]; exact hz
theorem cr_sortedT' : CallR X (.builtin "sorted") (rSortedT' X.K) := by
  intro pins s σ H vs us Q I r ⟨a, ns, e, hs, q⟩
  subst e
  obtain ⟨its, rv, hl, hz⟩ := I.list hs
  have hz : its.length ≤ sizeLine := by have := rv.length; rw [← this]; exact hz
  rw [Vals.ref1 r]
  refine sorted_strsAny hl.isList rv.strs hz fun out ns' h1 h2 h3 => ?_
  obtain ⟨ep, g⟩ := sortedAll_at s.heap its out
  refine ⟨.ref _, upd H (s.heap.objs.size + 1) (.lst (ns'.map V.str)), I.laid (t' := s.toks) (fun _ _ => sortedAll_old) (Nat.le_succ _) ⟨?_, out.toList, ep, vals_of_strs h1, g⟩, rfl, q ns' _ h2 h3 (I.hok.fresh (Nat.le_succ _))⟩
  have := rv.length
  rw [List.length_map] at this ⊢
  rw [h2.length_eq, this]; exact hz
abbrev rSortedV (K : PySem.W.Frag) : List V → Hp → VK → Prop := fun xs H Q => rSortedI K xs H Q ∨ rSortedT' K xs H Q
theorem cr_sortedV : CallR X (.builtin "sorted") (rSortedV X.K) := cr_sortedI.or cr_sortedT'
theorem cv_sorted (hK : M.K = X.K) : CallV M (rSortedV X.K) pSorted := fun F G ρ σ H xs ds c Q R va eg k => by
  match ds, va, eg with
  | [.lst ds], va, eg =>
    obtain ⟨x, rfl, v⟩ := ViewAll.one va
    obtain ⟨a, xs, rfl, ha, r⟩ := v.lst R.sub
    have eg : (match intsOf ds with | some ks => some (Cell.ow (.lst ((isort leZ ks).map PV.int))) | none => (strsOf ds).map fun ks => Cell.ow (.lst ((isort leN ks).map PV.str))) = some c := eg
    cases q1 : intsOf ds with
    | some ks =>
      rw [q1] at eg; cases eg
      rw [intsOf_map q1] at r
      refine .inl ⟨a, ks, rfl, .inl (.inl (by rw [← r.ints]; exact ha)), fun ns p pm pw hp => ?_⟩
      have e : ns = isort leZ ks := sort_is leZ_ord pm (pw.imp fun h => by simpa [leZ] using h)
      obtain ⟨R', ok⟩ := R.newList hp (rpAll_ints ns)
      rw [e] at R' ok
      rw [e]
      exact k _ G _ R' (Same.refl _) ok
    | none =>
      rw [q1] at eg; dsimp only at eg
      obtain ⟨ks, q2, rfl⟩ := Option.map_eq_some_iff.mp eg
      rw [strsOf_map q2] at r
      refine .inr ⟨a, ks.map S, rfl, .inl (.inl (by rw [← r.strs]; exact ha)), fun ns p pm pw hp => ?_⟩
      have e0 : (ns.map fun y => y.cps.toList).map S = ns := by rw [List.map_map]; exact (List.map_congr_left fun y _ => rfl).trans (List.map_id _)
      have pm2 := pm.map fun y : Str => y.cps.toList
      rw [List.map_map, show (fun y : Str => y.cps.toList) ∘ S = id from rfl, List.map_id] at pm2
      have e : (ns.map fun y => y.cps.toList) = isort leN ks := sort_is leN_ord pm2 (leN_of_sortedS (by rw [e0]; exact pw))
      rw [e] at e0
      rw [← e0]
      obtain ⟨R', ok⟩ := R.newList hp (rpAll_strs (isort leN ks))
      exact k _ G _ R' (Same.refl _) ok
end
end L2.VL

set_option Elab.async false
set_option linter.all false
set_option maxRecDepth 100000
/-! VL10: the rules by short names, for the printed texts. -/
namespace L2.VL
open PySem PySem.Spec PyProof.Rows

section
variable {X : Cx} {M : Md} {E : L2.St → XK} {a b : Expr} {va vb : VX} {pos p : Pos} {k : Nat}
theorem r65 (hr : Room k X.A) : X.A.units + 65 < cLine := by have := hr.un; omega

theorem w_gint {x : Str} {i : Int} (h : ∃ t, X.mg x = some (.int i t)) (hg : Gl X x := by rfl) (hd : (x == ("__debug__" : Str)) = false := by decide) : PE X (.Name x pos) (tV M E (vC (.int i))) := by
  obtain ⟨t, h⟩ := h
  exact vx_glob (v := .int i) hg h ⟨t, rfl⟩ (fun _ => .int i) hd
theorem w_gstr (l : List Nat) {x : Str} {y : Str} (h : ∃ t, X.mg x = some (.str y t)) (e : y = S l := by rfl) (hg : Gl X x := by rfl) (hd : (x == ("__debug__" : Str)) = false := by decide) : PE X (.Name x pos) (tV M E (vC (.str l))) := by
  obtain ⟨t, h⟩ := h
  subst e
  exact vx_glob (v := .str (S l)) hg h ⟨t, rfl⟩ (fun _ => .str l) hd
theorem w_ty (n : String) {x : Str} (hm : X.mg x = none) (hv : bootBuiltins x = some (.type n) := by decide +kernel) (hg : Gl X x := by rfl) (hn : x ≠ "__name__" := by decide) (hd : (x == ("__debug__" : Str)) = false := by decide) : PE X (.Name x pos) (tV M E (vC (.ty n))) :=
  vx_c (pe_bltn (v := .ty n) hg hm hv rfl hn hd) fun _ => .ty n

theorem w_add (ha : PE X a (tV M E va)) (hb : PE X b (tV M E vb)) (hK : M.K = X.K := by rfl) : PE X (.BinOp a .Add b pos) (tV M E (vBin pAdd va vb)) := vx_op or_add (ov_add hK) ha hb
theorem w_sub (ha : PE X a (tV M E va)) (hb : PE X b (tV M E vb)) : PE X (.BinOp a .Sub b pos) (tV M E (vBin (pI zSub) va vb)) := vx_op or_sub ov_sub ha hb
theorem w_mul (ha : PE X a (tV M E va)) (hb : PE X b (tV M E vb)) : PE X (.BinOp a .Mult b pos) (tV M E (vBin (pI zMul) va vb)) := vx_op op_mul ov_mul ha hb
theorem w_mod (ha : PE X a (tV M E va)) (hb : PE X b (tV M E vb)) : PE X (.BinOp a .Mod b pos) (tV M E (vBin (pI zMod) va vb)) := vx_op op_mod ov_mod ha hb
theorem w_div (ha : PE X a (tV M E va)) (hb : PE X b (tV M E vb)) : PE X (.BinOp a .FloorDiv b pos) (tV M E (vBin (pI zDiv) va vb)) := vx_op op_fdiv ov_div ha hb
theorem w_pow (ha : PE X a (tV M E va)) (hb : PE X b (tV M E vb)) : PE X (.BinOp a .Pow b pos) (tV M E (vBin (pI zPow) va vb)) := vx_op op_pow ov_pow ha hb

def pNeg : PV → Option Cell
  | .int i => some (.fz (.int (-i)))
  | _ => none
theorem w_neg (ha : PE X a (tV M E va)) : PE X (.UnaryOp .USub a pos) (tV M E (vUn pNeg va)) := by
  refine PEimp (pe_un un_neg ha) fun σ H Q ⟨F, G, ρ, R, h⟩ => ?_
  refine ⟨F, G, ρ, R, (Post.bind h).imp fun c ρ1 G1 H1 R1 s1 h1 x ok1 => ?_⟩
  obtain ⟨c', e, q⟩ := opt_post h1
  obtain ⟨d, e1, e2⟩ := Option.bind_eq_some_iff.mp e
  obtain ⟨G2, R2, s2, ok2⟩ := settle_ok R1 ok1
  have v := ok2.view R2 e1
  cases d with
  | int i => cases e2; cases v.int; exact ⟨i, rfl, q G2 H1 R2 s2 _ (.int _)⟩
  | _ => cases e2

theorem w_eq (hr : Room k X.A) (ha : PE X a (tV M E va)) (hb : PE X b (tV M E vb)) (hK : M.K = X.K := by rfl) : PE X (.Compare a [.Eq] [b] pos) (tV M E (vBin (mkB pEq) va vb)) := vx_cmp (op_eqD hr.units) (ob_eq hK) ha hb (nomark _)
theorem w_ne (hr : Room k X.A) (ha : PE X a (tV M E va)) (hb : PE X b (tV M E vb)) (hK : M.K = X.K := by rfl) : PE X (.Compare a [.NotEq] [b] pos) (tV M E (vBin (mkB pNe) va vb)) := vx_cmp (op_neD hr.units) (ob_ne hK) ha hb (nomark _)
theorem w_lt (ha : PE X a (tV M E va)) (hb : PE X b (tV M E vb)) : PE X (.Compare a [.Lt] [b] pos) (tV M E (vBin (mkB pLt) va vb)) := vx_cmp op_lt ob_int ha hb (nomark _)
theorem w_le (ha : PE X a (tV M E va)) (hb : PE X b (tV M E vb)) : PE X (.Compare a [.LtE] [b] pos) (tV M E (vBin (mkB pLe) va vb)) := vx_cmp op_le ob_int ha hb (nomark _)
theorem w_gt (ha : PE X a (tV M E va)) (hb : PE X b (tV M E vb)) : PE X (.Compare a [.Gt] [b] pos) (tV M E (vBin (mkB pGt) va vb)) := vx_cmp op_gt ob_int ha hb (nomark _)
theorem w_ge (ha : PE X a (tV M E va)) (hb : PE X b (tV M E vb)) : PE X (.Compare a [.GtE] [b] pos) (tV M E (vBin (mkB pGe) va vb)) := vx_cmp op_ge ob_int ha hb (nomark _)
theorem w_in (hr : Room k X.A) (ha : PE X a (tV M E va)) (hb : PE X b (tV M E vb)) (hm : behindInMarks .In b = false := by rfl) (hK : M.K = X.K := by rfl) : PE X (.Compare a [.In] [b] pos) (tV M E (vBin (mkB pIn) va vb)) := vx_cmp (or_in (r65 hr)) (ob_in hK) ha hb hm
theorem w_notIn (hr : Room k X.A) (ha : PE X a (tV M E va)) (hb : PE X b (tV M E vb)) (hm : behindInMarks .NotIn b = false := by rfl) (hK : M.K = X.K := by rfl) : PE X (.Compare a [.NotIn] [b] pos) (tV M E (vBin (mkB pNotIn) va vb)) := vx_cmp (or_notIn (r65 hr)) (ob_notIn hK) ha hb hm

theorem t_eq (hr : Room k X.A) (ha : PE X a (tV M E va)) (hb : PE X b (tV M E vb)) (hK : M.K = X.K := by rfl) : PT X (.Compare a [.Eq] [b] pos) (tT M E (tCmpT pEq va vb)) := vt_cmp (op_eqD hr.units) (ob_eq hK) ha hb (nomark _)
theorem t_ne (hr : Room k X.A) (ha : PE X a (tV M E va)) (hb : PE X b (tV M E vb)) (hK : M.K = X.K := by rfl) : PT X (.Compare a [.NotEq] [b] pos) (tT M E (tCmpT pNe va vb)) := vt_cmp (op_neD hr.units) (ob_ne hK) ha hb (nomark _)
theorem t_lt (ha : PE X a (tV M E va)) (hb : PE X b (tV M E vb)) : PT X (.Compare a [.Lt] [b] pos) (tT M E (tCmpT pLt va vb)) := vt_cmp op_lt ob_int ha hb (nomark _)
theorem t_le (ha : PE X a (tV M E va)) (hb : PE X b (tV M E vb)) : PT X (.Compare a [.LtE] [b] pos) (tT M E (tCmpT pLe va vb)) := vt_cmp op_le ob_int ha hb (nomark _)
theorem t_gt (ha : PE X a (tV M E va)) (hb : PE X b (tV M E vb)) : PT X (.Compare a [.Gt] [b] pos) (tT M E (tCmpT pGt va vb)) := vt_cmp op_gt ob_int ha hb (nomark _)
theorem t_ge (ha : PE X a (tV M E va)) (hb : PE X b (tV M E vb)) : PT X (.Compare a [.GtE] [b] pos) (tT M E (tCmpT pGe va vb)) := vt_cmp op_ge ob_int ha hb (nomark _)
theorem t_in (hr : Room k X.A) (ha : PE X a (tV M E va)) (hb : PE X b (tV M E vb)) (hm : behindInMarks .In b = false := by rfl) (hK : M.K = X.K := by rfl) : PT X (.Compare a [.In] [b] pos) (tT M E (tCmpT pIn va vb)) := vt_cmp (or_in (r65 hr)) (ob_in hK) ha hb hm
theorem t_notIn (hr : Room k X.A) (ha : PE X a (tV M E va)) (hb : PE X b (tV M E vb)) (hm : behindInMarks .NotIn b = false := by rfl) (hK : M.K = X.K := by rfl) : PT X (.Compare a [.NotIn] [b] pos) (tT M E (tCmpT pNotIn va vb)) := vt_cmp (or_notIn (r65 hr)) (ob_notIn hK) ha hb hm
end

section
variable {X : Cx} {M : Md} {E : L2.St → XK} {e : Expr} {es : List Expr} {vs : VA} {pos p : Pos}
theorem c_len (hm : X.mg "len" = none) (ha : PA X (e :: es) (tA M E vs)) (he : starEach (e :: es) X.env = (false, eval e X.env) :: starEach es X.env := by rfl) (hpl : (backTo pos (starEach es X.env)).any (·.1) = false := by rfl) (hg : Gl X "len" := by rfl) (hK : M.K = X.K := by rfl) :
    PE X (.Call (.Name "len" p) (e :: es) [] pos) (tV M E (vCall pLen vs)) := vx_callB call_len (cv_len hK) hg hm (by decide +kernel) ha (he := he) (hpl := hpl)
theorem c_list (hm : X.mg "list" = none) (ha : PA X (e :: es) (tA M E vs)) (he : starEach (e :: es) X.env = (false, eval e X.env) :: starEach es X.env := by rfl) (hpl : (backTo pos (starEach es X.env)).any (·.1) = false := by rfl) (hg : Gl X "list" := by rfl) (hK : M.K = X.K := by rfl) (hc : X.calm = true := by rfl) :
    PE X (.Call (.Name "list" p) (e :: es) [] pos) (tV M E (vCall pList vs)) := vx_callTy (cr_list hc) (cv_list hK) hg hm (by decide +kernel) ha (he := he) (hpl := hpl)
theorem c_tuple (hm : X.mg "tuple" = none) (ha : PA X (e :: es) (tA M E vs)) (he : starEach (e :: es) X.env = (false, eval e X.env) :: starEach es X.env := by rfl) (hpl : (backTo pos (starEach es X.env)).any (·.1) = false := by rfl) (hg : Gl X "tuple" := by rfl) (hK : M.K = X.K := by rfl) :
    PE X (.Call (.Name "tuple" p) (e :: es) [] pos) (tV M E (vCall pTuple vs)) := vx_callTy call_tuple_of (cv_tuple hK) hg hm (by decide +kernel) ha (he := he) (hpl := hpl)
theorem c_all (hm : X.mg "all" = none) (ha : PA X (e :: es) (tA M E vs)) (he : starEach (e :: es) X.env = (false, eval e X.env) :: starEach es X.env := by rfl) (hpl : (backTo pos (starEach es X.env)).any (·.1) = false := by rfl) (hg : Gl X "all" := by rfl) (hK : M.K = X.K := by rfl) (hc : X.calm = true := by rfl) :
    PE X (.Call (.Name "all" p) (e :: es) [] pos) (tV M E (vCall pAll vs)) := vx_callB (cr_all hc) cv_all hg hm (by decide +kernel) ha (he := he) (hpl := hpl)
theorem c_any (hm : X.mg "any" = none) (ha : PA X (e :: es) (tA M E vs)) (he : starEach (e :: es) X.env = (false, eval e X.env) :: starEach es X.env := by rfl) (hpl : (backTo pos (starEach es X.env)).any (·.1) = false := by rfl) (hg : Gl X "any" := by rfl) (hK : M.K = X.K := by rfl) (hc : X.calm = true := by rfl) :
    PE X (.Call (.Name "any" p) (e :: es) [] pos) (tV M E (vCall pAny vs)) := vx_callB (cr_any hc) cv_any hg hm (by decide +kernel) ha (he := he) (hpl := hpl)
theorem c_max (hm : X.mg "max" = none) (ha : PA X (e :: es) (tA M E vs)) (he : starEach (e :: es) X.env = (false, eval e X.env) :: starEach es X.env := by rfl) (hpl : (backTo pos (starEach es X.env)).any (·.1) = false := by rfl) (hg : Gl X "max" := by rfl) (hc : X.calm = true := by rfl) :
    PE X (.Call (.Name "max" p) (e :: es) [] pos) (tV M E (vCall pMax vs)) := vx_callB (call_max2 hc) cv_max hg hm (by decide +kernel) ha (he := he) (hpl := hpl)
theorem c_min (hm : X.mg "min" = none) (ha : PA X (e :: es) (tA M E vs)) (he : starEach (e :: es) X.env = (false, eval e X.env) :: starEach es X.env := by rfl) (hpl : (backTo pos (starEach es X.env)).any (·.1) = false := by rfl) (hg : Gl X "min" := by rfl) (hc : X.calm = true := by rfl) :
    PE X (.Call (.Name "min" p) (e :: es) [] pos) (tV M E (vCall pMin vs)) := vx_callB (call_min2 hc) cv_min hg hm (by decide +kernel) ha (he := he) (hpl := hpl)
theorem c_abs (hm : X.mg "abs" = none) (ha : PA X (e :: es) (tA M E vs)) (he : starEach (e :: es) X.env = (false, eval e X.env) :: starEach es X.env := by rfl) (hpl : (backTo pos (starEach es X.env)).any (·.1) = false := by rfl) (hg : Gl X "abs" := by rfl) :
    PE X (.Call (.Name "abs" p) (e :: es) [] pos) (tV M E (vCall pAbs vs)) := vx_callB call_abs cv_abs hg hm (by decide +kernel) ha (he := he) (hpl := hpl)
theorem c_int (hm : X.mg "int" = none) (ha : PA X (e :: es) (tA M E vs)) (he : starEach (e :: es) X.env = (false, eval e X.env) :: starEach es X.env := by rfl) (hpl : (backTo pos (starEach es X.env)).any (·.1) = false := by rfl) (hg : Gl X "int" := by rfl) :
    PE X (.Call (.Name "int" p) (e :: es) [] pos) (tV M E (vCall pInt vs)) := vx_callTy call_int1 cv_int hg hm (by decide +kernel) ha (he := he) (hpl := hpl)
theorem c_divmod (hm : X.mg "divmod" = none) (ha : PA X (e :: es) (tA M E vs)) (he : starEach (e :: es) X.env = (false, eval e X.env) :: starEach es X.env := by rfl) (hpl : (backTo pos (starEach es X.env)).any (·.1) = false := by rfl) (hg : Gl X "divmod" := by rfl) :
    PE X (.Call (.Name "divmod" p) (e :: es) [] pos) (tV M E (vCall pDivmod vs)) := vx_callB call_divmod cv_divmod hg hm (by decide +kernel) ha (he := he) (hpl := hpl)
theorem c_isinstance (hm : X.mg "isinstance" = none) (ha : PA X (e :: es) (tA M E vs)) (he : starEach (e :: es) X.env = (false, eval e X.env) :: starEach es X.env := by rfl) (hpl : (backTo pos (starEach es X.env)).any (·.1) = false := by rfl) (hg : Gl X "isinstance" := by rfl) (hK : M.K = X.K := by rfl) :
    PE X (.Call (.Name "isinstance" p) (e :: es) [] pos) (tV M E (vCall pIsInst vs)) := vx_callB cr_isi (cv_isi hK) hg hm (by decide +kernel) ha (he := he) (hpl := hpl)
theorem c_sorted (hm : X.mg "sorted" = none) (ha : PA X (e :: es) (tA M E vs)) (he : starEach (e :: es) X.env = (false, eval e X.env) :: starEach es X.env := by rfl) (hpl : (backTo pos (starEach es X.env)).any (·.1) = false := by rfl) (hg : Gl X "sorted" := by rfl) (hK : M.K = X.K := by rfl) :
    PE X (.Call (.Name "sorted" p) (e :: es) [] pos) (tV M E (vCall pSorted vs)) := vx_callB cr_sortedV (cv_sorted hK) hg hm (by decide +kernel) ha (he := he) (hpl := hpl)
end

/-! ### walking any value -/
def iAny (va : VX) : VI := fun ρ => (va ρ).bind fun c ρ1 => match freeze ρ1 c with
  | some (.lst ds, ρ2) => .ok ds ρ2
  | some (.tup ds, ρ2) => .ok ds ρ2
  | some (.str l, ρ2) => .ok (l.map fun c => .str [c]) ρ2
  | _ => .bad
section
variable {X : Cx} {M : Md} {E : L2.St → XK} {e tg : Expr} {va : VX}
theorem pi_or {t t' : TI} (h : PI X tg e t) (h' : PI X tg e t') : PI X tg e (fun σ H Q => t σ H Q ∨ t' σ H Q) := ⟨fun pins s σ H Q I q => q.elim (h.run pins s σ H Q I) (h'.run pins s σ H Q I)⟩
theorem vi_any (he : PE X e (tV M E va)) (hK : M.K = X.K := by rfl) : PI X tg e (tI M E (iAny va)) := by
  refine PIimp (pi_or (vi_list he hK) (pi_or (vi_tup he hK) (vi_str he))) fun σ H Q ⟨F, G, ρ, R, h⟩ => ?_
  cases q : va ρ with
  | ex x ρ1 => exact .inl ⟨F, G, ρ, R, by unfold iAny at h; unfold iSeq; rw [q] at h ⊢; exact h⟩
  | bad => unfold iAny at h; rw [q] at h; exact h.elim
  | ok c ρ1 =>
    cases q2 : freeze ρ1 c with
    | none =>
      have e0 : iAny va ρ = .bad := by simp only [iAny, q, Rs.bind, q2]
      rw [e0] at h; exact h.elim
    | some z =>
      obtain ⟨d, ρ2⟩ := z
      cases d with
      | lst ds =>
        have e0 : iAny va ρ = iSeq va ρ := by simp only [iAny, iSeq, q, Rs.bind, q2]
        rw [e0] at h; exact .inl ⟨F, G, ρ, R, h⟩
      | tup ds =>
        have e0 : iAny va ρ = iTupV va ρ := by simp only [iAny, iTupV, q, Rs.bind, q2]
        rw [e0] at h; exact .inr (.inl ⟨F, G, ρ, R, h⟩)
      | str l =>
        have e0 : iAny va ρ = iStrV va ρ := by simp only [iAny, iStrV, q, Rs.bind, q2]
        rw [e0] at h; exact .inr (.inr ⟨F, G, ρ, R, h⟩)
      | _ =>
        have e0 : iAny va ρ = .bad := by simp only [iAny, q, Rs.bind, q2]
        rw [e0] at h; exact h.elim
end

end L2.VL

set_option Elab.async false
set_option linter.all false
set_option maxRecDepth 100000
/-! VL11: f(a new list that f changes); targets that raise nothing. -/
namespace L2.VL
open PySem PySem.Spec PyProof.Rows

section
variable {M : Md} {F : Fr} {E : L2.St → XK} {σ : L2.St} {H : Hp}
/-- behind a call that was handed nothing of mine but what nobody holds -/
theorem backFree {G G' H' : Hp} {ρ ρc : Env} {σc : L2.St} {io : List (Nat × Addr)} (R : Rel M F G ρ σ H) (Rc : Rel M ⟨H, G, io⟩ G' ρc σc H')
    (hf : ∀ j a, io.lookup j = some a → F.H0 a = none ∧ ∀ (i : Nat) (c : Slot), ρ[i]? = some c → c.own = true → σ[i]? ≠ some (some (V.ref a))) : Rel M F G' ρ σ H' ∧ Same G G' := by
  have g0 : Same G G' := Rc.g0
  refine ⟨⟨Rc.sub, R.g0.trans g0, fun b o e => ?_, fun b o e n => ?_, R.len, fun i s e => ?_, R.dist, R.ion⟩, g0⟩
  · rcases Rc.gn b o e with z | z
    · exact R.gn b o z
    · exact .inr (R.free0 z)
  · refine Rc.old b o (R.old b o e n) fun j z => ?_
    have := (hf j b z).1
    rw [e] at this; cases this
  · refine (R.slot i s e).move g0 (fun a oc f => ?_) fun a o oc f h => Rc.old a o h fun j z => (hf j a z).2 i s e oc f
    obtain ⟨hg, o, ho⟩ := R.ownG e oc f
    cases z : G' a with
    | none => rfl
    | some o' =>
      rcases Rc.gn a o' z with z1 | z1
      · have z1 : G a = some o' := z1
        rw [hg] at z1; cases z1
      · have z1 : H a = none := z1
        rw [ho] at z1; cases z1
/-- f(e), e a new list -/
def vCall1 (fm : FM) (va : VX) : VX := fun ρ => (va ρ).bind fun c ρ1 => match c with
  | .ow d => match fm [.io d] with
    | .ok c' _ => if norf c' = true then .ok c' ρ1 else .bad
    | .ex x _ => .ex x ρ1
    | .bad => .bad
  | _ => .bad
end
section
variable {X : Cx} {M : Md} {lv : Nat} {f : Addr} {fd : FuncData} {ps : List Str} {fm : FM} {E : XK} {x : Str} {p pos : Pos} {e : Expr} {va : VX}
theorem vx_call1 (F : FnOk X.prog X.w X.K X.mg X.base (L2.CX X.prog X.w) lv f fd ps (spV M 1 fm)) (hr : Room lv X.A) (hg : Gl X x) (hm : X.mg x = some (.ref f)) (hk : PySem.W.keepIn X.K (.ref f) = true) (hb : Binds X.K fd ps []) (hx : ∀ σ, PassesAt (L2.CX X.prog X.w) X σ E)
    (ha : PE X e (tV M (fun _ => E) va)) (hdb : (x == ("__debug__" : Str)) = false := by decide) (he : starEach [e] X.env = (false, eval e X.env) :: starEach [] X.env := by rfl) :
    PE X (.Call (.Name x p) [e] [] pos) (tV M (fun _ => E) (vCall1 fm va)) := by
  refine PEimp (pe_callSD (E := fun _ => E) F hr hg hm hk hb .nil hx (pa_cons ha pa_nil he) hdb he) fun σ H Q ⟨F, G, ρ, R, h⟩ => ?_
  refine ⟨F, G, ρ, R, (Post.bind h).imp fun c ρ1 G1 H1 R1 s1 h1 x ok1 => ?_⟩
  cases c with
  | fz d => exact h1.elim
  | rf i => exact h1.elim
  | ow d =>
    obtain ⟨a, rfl, o, h0, nh⟩ := ok1
    have hf : ∀ j b, [(0, a)].lookup j = some b → F.H0 b = none ∧ ∀ (i : Nat) (c : Slot), ρ1[i]? = some c → c.own = true → σ[i]? ≠ some (some (V.ref b)) := fun j b z => by
      have : b = a := by
        by_cases q : j = 0
        · subst q; rw [List.lookup_cons_self] at z; cases z; rfl
        · have zz : (j == 0) = false := beq_eq_false_iff_ne.mpr q
          rw [List.lookup_cons, zz] at z; cases z
      subst this; exact ⟨h0, nh⟩
    refine ⟨G1, [.io d], [(0, a)], rfl, ⟨R1.sub, Same.refl _, fun b o e => .inl e, fun b o e _ => e, rfl, fun j s e => ?_, fun j k s s' b e1 e2 o1 o2 f1 f2 => ?_, fun j b e => ?_⟩, fun d' hm => ?_, ?_⟩
    · cases j with
      | zero => cases e; exact ⟨a, rfl, o, rfl⟩
      | succ j => simp at e
    · cases j with
      | zero => cases k with
        | zero => rfl
        | succ k => simp at e2
      | succ j => simp at e1
    · by_cases q : j = 0
      · subst q; rw [List.lookup_cons_self] at e; cases e; exact ⟨d, rfl, rfl⟩
      · have zz : (j == 0) = false := beq_eq_false_iff_ne.mpr q
        rw [List.lookup_cons, zz] at e; cases e
    · simp at hm
    · dsimp only at h1
      cases q : fm [.io d] with
      | bad => rw [q] at h1; exact h1.elim
      | ok c' ρc =>
        rw [q] at h1
        dsimp only at h1
        split at h1
        · rename_i nr
          intro x σc G' H' Rc okc
          obtain ⟨R3, s3⟩ := backFree R1 Rc hf
          refine h1 G' H' R3 s3 x ?_
          cases c' with
          | fz d' => exact okc
          | ow d' =>
            obtain ⟨b, e1, o', z0, _⟩ := okc
            have z0 : H1 b = none := z0
            exact ⟨b, e1, o', R1.free0 z0, R1.nohold z0⟩
          | rf i => cases nr
        · exact h1.elim
      | ex y ρc =>
        rw [q] at h1
        intro cls dd σc G' H' Rc okx
        obtain ⟨R3, s3⟩ := backFree R1 Rc hf
        exact h1 cls dd G' H' R3 s3 okx
end

/-! ### nothing is raised -/
def NoEx (v : VX) : Prop := ∀ ρ x ρ', v ρ ≠ .ex x ρ'
theorem noex_var {i : Nat} : NoEx (vVar i) := fun ρ x ρ' => by unfold vVar; split <;> exact fun z => nomatch z
theorem noex_c {d : PV} : NoEx (vC d) := fun ρ x ρ' => fun z => nomatch z
theorem calm_sub {vo vi : VX} (h1 : NoEx vo) (h2 : NoEx vi) : Calm (gSubV vo vi) := fun d ρ x ρ' => by
  unfold gSubV
  cases q : vo ρ with
  | bad => exact fun z => nomatch z
  | ex y ρ1 => exact absurd q (h1 _ _ _)
  | ok c ρ1 =>
    show (Rs.bind (vi ρ1) _) ≠ _
    cases q2 : vi ρ1 with
    | bad => exact fun z => nomatch z
    | ex y ρ2 => exact absurd q2 (h2 _ _ _)
    | ok c2 ρ2 =>
      simp only [Rs.bind]
      split
      · split <;> exact fun z => nomatch z
      · exact fun z => nomatch z
theorem calms_nil : ∀ g ∈ ([] : List VG), Calm g := fun g h => nomatch h
theorem calms_cons {g : VG} {gs : List VG} (h : Calm g) (hs : ∀ g ∈ gs, Calm g) : ∀ g' ∈ g :: gs, Calm g' := fun g' m => by
  rcases List.mem_cons.mp m with rfl | m
  · exact h
  · exact hs _ m

/-! ### comprehensions, the own slots told beside -/
section
variable {X : Cx} {M : Md} {E : L2.St → XK} {pos : Pos} {elt tg tg1 iter iter1 : Expr} {ifs ifs1 : List Expr} {scope : Scope} {own : List (Str × Nat)} {vs vs1 : List Nat} {t t1 : TG} {g g1 : VG} {tv tv1 : VT} {ve : VX} {vi vi1 : VI}
theorem l_lc (hN : X.N.Nodup) (hi : PI X tg iter (tI M E vi)) (ok : BlkOk X.N X.env.scope scope own) (gv : GV M EN t g) (kw : KeepsW t vs) (mg : MonoG t)
    (hg : ∀ (s : Shared) (H : Hp) (C : Addr) (cl : List (Str × Addr)) (fp : List Addr), PG (X.blk s H scope (compEnvC scope cl C X.env) fp) tg t)
    (ht : ∀ (s : Shared) (H : Hp) (C : Addr) (cl : List (Str × Addr)) (fp : List Addr), PTs (X.blk s H scope (compEnvC scope cl C X.env) fp) ifs (tT M EN tv))
    (he : ∀ (s : Shared) (H : Hp) (C : Addr) (cl : List (Str × Addr)) (fp : List Addr), PE (X.blk s H scope (compEnvC scope cl C X.env) fp) elt (tV M EN ve))
    (ho : own.map (·.2) = vs := by rfl) (nd : vs.Nodup := by decide) (hc : X.calm = true := by rfl) (hs : ∀ x, foldedSetIterable iter X.env x = pure x := by intro _; rfl) :
    PE X (.ListComp elt [⟨tg, iter, ifs, 0⟩] scope pos) (tV M E (vLc vi vs g tv ve)) := by
  subst ho; exact vx_lc hN hi ok gv kw mg hg ht he nd hc hs
theorem l_setLc (i : Nat) {y : Str} {py spos : Pos} (hN : X.N.Nodup) (hi : PI X tg iter (tI M E vi)) (ok : BlkOk X.N X.env.scope scope own) (gv : GV M EN t g) (kw : KeepsW t vs) (mg : MonoG t)
    (hg : ∀ (s : Shared) (H : Hp) (C : Addr) (cl : List (Str × Addr)) (fp : List Addr), PG (X.blk s H scope (compEnvC scope cl C X.env) fp) tg t)
    (ht : ∀ (s : Shared) (H : Hp) (C : Addr) (cl : List (Str × Addr)) (fp : List Addr), PTs (X.blk s H scope (compEnvC scope cl C X.env) fp) ifs (tT M EN tv))
    (he : ∀ (s : Shared) (H : Hp) (C : Addr) (cl : List (Str × Addr)) (fp : List Addr), PE (X.blk s H scope (compEnvC scope cl C X.env) fp) elt (tV M EN ve))
    (hsw : swapsWith (.ListComp elt [⟨tg, iter, ifs, 0⟩] scope pos) (some (.Name y py)) spos.line X.env = pure true := by exact sw_true rfl rfl rfl (by decide +kernel))
    (ho : own.map (·.2) = vs := by rfl) (nd : vs.Nodup := by decide) (hy : X.N[i]? = some y := by rfl) (hyl : X.env.scope.names.lookup y = some .local := by rfl) (hc : X.calm = true := by rfl) (hs : ∀ x, foldedSetIterable iter X.env x = pure x := by intro _; rfl) :
    PS X (.Assign [.Name y py] (.ListComp elt [⟨tg, iter, ifs, 0⟩] scope pos) spos) (tS M E (sSet i (vLc vi vs g tv ve))) := by
  subst ho; exact vs_setLc i hN hi ok gv kw mg hsw hg ht he nd hy hyl hc hs
theorem l_lc2 (hN : X.N.Nodup) (hi : PI X tg iter (tI M E vi)) (ok : BlkOk X.N X.env.scope scope own) (gv : GV M EN t g) (kw : KeepsW t vs) (mg : MonoG t) (gv1 : GV M EN t1 g1) (kw1 : KeepsW t1 vs1) (mg1 : MonoG t1)
    (hg : ∀ (s : Shared) (H : Hp) (C : Addr) (cl : List (Str × Addr)) (fp : List Addr), PG (X.blk s H scope (compEnvC scope cl C X.env) fp) tg t)
    (ht : ∀ (s : Shared) (H : Hp) (C : Addr) (cl : List (Str × Addr)) (fp : List Addr), PTs (X.blk s H scope (compEnvC scope cl C X.env) fp) ifs (tT M EN tv))
    (hi1 : ∀ (s : Shared) (H : Hp) (C : Addr) (cl : List (Str × Addr)) (fp : List Addr), PI (X.blk s H scope (compEnvC scope cl C X.env) fp) tg1 iter1 (tI M EN vi1))
    (hg1 : ∀ (s : Shared) (H : Hp) (C : Addr) (cl : List (Str × Addr)) (fp : List Addr), PG (X.blk s H scope (compEnvC scope cl C X.env) fp) tg1 t1)
    (ht1 : ∀ (s : Shared) (H : Hp) (C : Addr) (cl : List (Str × Addr)) (fp : List Addr), PTs (X.blk s H scope (compEnvC scope cl C X.env) fp) ifs1 (tT M EN tv1))
    (he : ∀ (s : Shared) (H : Hp) (C : Addr) (cl : List (Str × Addr)) (fp : List Addr), PE (X.blk s H scope (compEnvC scope cl C X.env) fp) elt (tV M EN ve))
    (ho : own.map (·.2) = vs := by rfl) (hv : ∀ i ∈ vs1, i ∈ vs := by decide) (nd : vs.Nodup := by decide) (hc : X.calm = true := by rfl) (hs : ∀ x, foldedSetIterable iter X.env x = pure x := by intro _; rfl) (hs1 : ∀ env x, foldedSetIterable iter1 env x = pure x := by intro _ _; rfl) :
    PE X (.ListComp elt [⟨tg, iter, ifs, 0⟩, ⟨tg1, iter1, ifs1, 0⟩] scope pos) (tV M E (vLc2 vi vs vs1 g tv vi1 g1 tv1 ve)) := by
  subst ho; exact vx_lc2 hN hi ok hv gv kw mg gv1 kw1 mg1 hg ht hi1 hg1 ht1 he nd hc hs hs1
theorem l_setLc2 (i : Nat) {y : Str} {py spos : Pos} (hN : X.N.Nodup) (hi : PI X tg iter (tI M E vi)) (ok : BlkOk X.N X.env.scope scope own) (gv : GV M EN t g) (kw : KeepsW t vs) (mg : MonoG t) (gv1 : GV M EN t1 g1) (kw1 : KeepsW t1 vs1) (mg1 : MonoG t1)
    (hg : ∀ (s : Shared) (H : Hp) (C : Addr) (cl : List (Str × Addr)) (fp : List Addr), PG (X.blk s H scope (compEnvC scope cl C X.env) fp) tg t)
    (ht : ∀ (s : Shared) (H : Hp) (C : Addr) (cl : List (Str × Addr)) (fp : List Addr), PTs (X.blk s H scope (compEnvC scope cl C X.env) fp) ifs (tT M EN tv))
    (hi1 : ∀ (s : Shared) (H : Hp) (C : Addr) (cl : List (Str × Addr)) (fp : List Addr), PI (X.blk s H scope (compEnvC scope cl C X.env) fp) tg1 iter1 (tI M EN vi1))
    (hg1 : ∀ (s : Shared) (H : Hp) (C : Addr) (cl : List (Str × Addr)) (fp : List Addr), PG (X.blk s H scope (compEnvC scope cl C X.env) fp) tg1 t1)
    (ht1 : ∀ (s : Shared) (H : Hp) (C : Addr) (cl : List (Str × Addr)) (fp : List Addr), PTs (X.blk s H scope (compEnvC scope cl C X.env) fp) ifs1 (tT M EN tv1))
    (he : ∀ (s : Shared) (H : Hp) (C : Addr) (cl : List (Str × Addr)) (fp : List Addr), PE (X.blk s H scope (compEnvC scope cl C X.env) fp) elt (tV M EN ve))
    (hsw : swapsWith (.ListComp elt [⟨tg, iter, ifs, 0⟩, ⟨tg1, iter1, ifs1, 0⟩] scope pos) (some (.Name y py)) spos.line X.env = pure true := by exact sw_true rfl rfl rfl (by decide +kernel))
    (ho : own.map (·.2) = vs := by rfl) (hv : ∀ i ∈ vs1, i ∈ vs := by decide) (nd : vs.Nodup := by decide) (hy : X.N[i]? = some y := by rfl) (hyl : X.env.scope.names.lookup y = some .local := by rfl) (hc : X.calm = true := by rfl) (hs : ∀ x, foldedSetIterable iter X.env x = pure x := by intro _; rfl) (hs1 : ∀ env x, foldedSetIterable iter1 env x = pure x := by intro _ _; rfl) :
    PS X (.Assign [.Name y py] (.ListComp elt [⟨tg, iter, ifs, 0⟩, ⟨tg1, iter1, ifs1, 0⟩] scope pos) spos) (tS M E (sSet i (vLc2 vi vs vs1 g tv vi1 g1 tv1 ve))) := by
  subst ho; exact vs_setLc2 i hN hi ok hv gv kw mg gv1 kw1 mg1 hsw hg ht hi1 hg1 ht1 he nd hy hyl hc hs hs1
end
/-- the end of a law -/
theorem law_end {K : PySem.W.Frag} {mg : Str → Option Value} {H : Hp} {a : Addr} {ns : List Int} {fm : FM} (h : ∃ ρ, fm [.fz (.scr ns)] = .ok (.fz (.bl true)) ρ) (hS : SqL K H a (ns.map V.int)) :
    spV ⟨K, mg⟩ 1 fm [.ref a] H (fun v _ => v = .bl true) fun _ _ _ => False := by
  obtain ⟨ρ, e⟩ := h
  refine ⟨H, [.fz (.scr ns)], [], rfl, ⟨Same.refl _, Same.refl _, fun b o e => .inl e, fun b o e _ => e, rfl, fun i c e => ?_, fun i j c c' b e1 e2 o1 o2 f1 f2 => ?_, fun i b e => ?_⟩, fun d hm => ?_, ?_⟩
  · cases i with
    | zero => cases e; exact ⟨_, rfl, .scr hS⟩
    | succ i => simp at e
  · cases i with
    | zero => cases e1; cases o1
    | succ i => simp at e1
  · cases e
  · simp at hm
  · rw [e]; exact fun x σ' G' H' R ok => Rp.bl_inv ok
end L2.VL

set_option Elab.async false
set_option linter.all false
set_option maxRecDepth 100000
/-! VP1: plain facts: == and in on texts and lists of texts; comprehensions and loops as lists. -/
namespace L2.VL
open PySem PySem.Spec PyProof.Rows

/-! ### texts -/
def okS (l : List Nat) : Prop := ∀ c ∈ l, c < 0x110000
theorem okS_lay {l : List Nat} (h : okS l) : PyData.canLay0 (.str (S l)) = true := by
  show (S l).cps.all (· < 0x110000) = true
  rw [← Array.all_toList]
  exact List.all_eq_true.mpr fun c hc => decide_eq_true (h c hc)
theorem shaped_str {l : List Nat} (h : okS l) : SeqAt.shaped (.str (S l)) = true := by
  unfold SeqAt.shaped
  rw [okS_lay h]; rfl
theorem eqv_str (a b : List Nat) : PyData.eqv (.str (S a)) (.str (S b)) = decide (a = b) := by
  rw [PyData.eqv]
  by_cases h : a = b
  · subst h; simp
  · rw [decide_eq_false h]
    exact beq_eq_false_iff_ne.mpr fun e => h (S_inj _ _ e)
theorem pEq_str {a b : List Nat} (ha : okS a) (hb : okS b) : pEq (.str a) (.str b) = some (decide (a = b)) := by
  unfold pEq
  simp only [toD, Option.bind_some, shaped_str ha, shaped_str hb, and_self, if_true, eqv_str]
theorem toDs_strs (xs : List (List Nat)) : toDs (xs.map PV.str) = some (xs.map fun l => PyData.str (S l)) := by
  induction xs with
  | nil => rfl
  | cons x xs ih => rw [List.map_cons, toDs, ih]; rfl
theorem lay_strs : ∀ {xs : List (List Nat)}, (∀ l ∈ xs, okS l) → PyData.canLayAll0 (xs.map fun l => PyData.str (S l)) = true
  | [], _ => rfl
  | x :: xs, h => by
    rw [List.map_cons, PyData.canLayAll0, okS_lay (h x List.mem_cons_self), lay_strs fun l hl => h l (List.mem_cons_of_mem _ hl)]; rfl
theorem depth_strs : ∀ xs : List (List Nat), PyData.depthAll (xs.map fun l => PyData.str (S l)) = 0
  | [] => rfl
  | x :: xs => by rw [List.map_cons, PyData.depthAll, depth_strs xs, PyData.depth]; rfl
theorem shaped_strs {xs : List (List Nat)} (h : ∀ l ∈ xs, okS l) : SeqAt.shaped (.list (xs.map fun l => PyData.str (S l))) = true := by
  unfold SeqAt.shaped
  rw [PyData.canLay0, lay_strs h, PyData.depth, depth_strs]; rfl
theorem eqv_strs : ∀ xs ys : List (List Nat), PyData.eqvAll (xs.map fun l => PyData.str (S l)) (ys.map fun l => PyData.str (S l)) = decide (xs = ys)
  | [], [] => rfl
  | [], _ :: _ => rfl
  | _ :: _, [] => rfl
  | x :: xs, y :: ys => by
    rw [List.map_cons, List.map_cons, PyData.eqvAll, eqv_str, eqv_strs xs ys]
    by_cases h : x = y <;> by_cases h2 : xs = ys <;> simp [h, h2]
theorem pEq_strs {xs ys : List (List Nat)} (hx : ∀ l ∈ xs, okS l) (hy : ∀ l ∈ ys, okS l) : pEq (.lst (xs.map PV.str)) (.lst (ys.map PV.str)) = some (decide (xs = ys)) := by
  unfold pEq
  simp only [toD, toDs_strs, Option.map_some, Option.bind_some, shaped_strs hx, shaped_strs hy, and_self, if_true]
  rw [PyData.eqv, eqv_strs]
theorem pNe_strs {xs ys : List (List Nat)} (hx : ∀ l ∈ xs, okS l) (hy : ∀ l ∈ ys, okS l) : pNe (.lst (xs.map PV.str)) (.lst (ys.map PV.str)) = some (!decide (xs = ys)) := by
  unfold pNe; rw [pEq_strs hx hy]; rfl
theorem pNe_str {a b : List Nat} (ha : okS a) (hb : okS b) : pNe (.str a) (.str b) = some (!decide (a = b)) := by
  unfold pNe; rw [pEq_str ha hb]; rfl
theorem pIn_strs {w : List Nat} {xs : List (List Nat)} (hw : okS w) (hx : ∀ l ∈ xs, okS l) : pIn (.str w) (.lst (xs.map PV.str)) = some (decide (w ∈ xs)) := by
  have e : pIn (.str w) (.lst (xs.map PV.str)) = pInT (.str w) (xs.map PV.str) := by
    unfold pIn
    split
    · rename_i h; cases h
    · rename_i h; cases h; rfl
    · rename_i h; cases h
    · rename_i h _ _; exact absurd rfl (h _)
  rw [e]; clear e; unfold pInT
  simp only [toD, toDs_strs, Option.bind_some, shaped_str hw, shaped_strs hx, and_self, if_true]
  congr 1
  induction xs with
  | nil => rfl
  | cons x xs ih =>
    rw [List.map_cons, List.any_cons, eqv_str, ih fun l hl => hx l (List.mem_cons_of_mem _ hl)]
    by_cases h : x = w
    · subst h; simp
    · have : ¬ w = x := fun z => h z.symm
      simp [h, this]
theorem pNotIn_strs {w : List Nat} {xs : List (List Nat)} (hw : okS w) (hx : ∀ l ∈ xs, okS l) : pNotIn (.str w) (.lst (xs.map PV.str)) = some (!decide (w ∈ xs)) := by
  unfold pNotIn; rw [pIn_strs hw hx]; rfl

/-! ### one turn of a comprehension -/
def lc1 (vs : List Nat) (g : VG) (t : VT) (ve : VX) (d : PV) (ρ : Env) : Option (Option PV × Env) := match g d ρ with
  | .ok _ ρ1 => match t ρ1 with
    | .ok true ρ2 => match ve ρ2 with
      | .ok c ρ3 => match freeze ρ3 c with
        | some (e, ρ4) => if okW ρ4 vs = true then some (some e, wipeE ρ4 vs) else none
        | none => none
      | _ => none
    | .ok false ρ2 => if okW ρ2 vs = true then some (none, wipeE ρ2 vs) else none
    | _ => none
  | _ => none
theorem lcL_step {vs : List Nat} {g : VG} {t : VT} {ve : VX} {d : PV} {ds acc : List PV} {ρ ρ' : Env} {o : Option PV} (h : lc1 vs g t ve d ρ = some (o, ρ')) (hl : acc.length < sizeLine) :
    lcL vs g t ve (d :: ds) acc ρ = lcL vs g t ve ds (acc ++ o.toList) ρ' := by
  cases q1 : g d ρ with
  | bad => simp only [lc1, q1] at h; cases h
  | ex x ρ1 => simp only [lc1, q1] at h; cases h
  | ok u ρ1 =>
    cases q2 : t ρ1 with
    | bad => simp only [lc1, q1, q2] at h; cases h
    | ex x ρ2 => simp only [lc1, q1, q2] at h; cases h
    | ok k ρ2 =>
      cases k with
      | false =>
        simp only [lc1, q1, q2] at h
        by_cases q5 : okW ρ2 vs = true
        · rw [if_pos q5] at h
          cases h
          simp only [lcL, q1, q2, q5, if_true, Option.toList, List.append_nil]
        · rw [if_neg q5] at h; cases h
      | true =>
        cases q3 : ve ρ2 with
        | bad => simp only [lc1, q1, q2, q3] at h; cases h
        | ex x ρ3 => simp only [lc1, q1, q2, q3] at h; cases h
        | ok c ρ3 =>
          cases q4 : freeze ρ3 c with
          | none => simp only [lc1, q1, q2, q3, q4] at h; cases h
          | some z =>
            obtain ⟨e, ρ4⟩ := z
            simp only [lc1, q1, q2, q3, q4] at h
            by_cases q5 : okW ρ4 vs = true
            · rw [if_pos q5] at h
              cases h
              simp only [lcL, q1, q2, q3, q4, q5, hl, and_self, if_true, Option.toList]
            · rw [if_neg q5] at h; cases h
/-- a comprehension whose turns leave the slots as they were -/
theorem lcL_map {α : Type} {vs : List Nat} {g : VG} {t : VT} {ve : VX} {ρ : Env} (inj : α → PV) (f : α → Option PV) : ∀ (xs : List α) (acc : List PV), (∀ x ∈ xs, lc1 vs g t ve (inj x) ρ = some (f x, ρ)) → acc.length + xs.length ≤ sizeLine →
    lcL vs g t ve (xs.map inj) acc ρ = some (acc ++ xs.filterMap f, ρ)
  | [], acc, _, _ => by rw [List.map_nil, lcL, List.filterMap_nil, List.append_nil]
  | x :: xs, acc, h, hl => by
    rw [List.length_cons] at hl
    rw [List.map_cons, lcL_step (h x List.mem_cons_self) (by omega), lcL_map inj f xs _ (fun y hy => h y (List.mem_cons_of_mem _ hy)) (by
      rw [List.length_append]; cases f x <;> simp <;> omega)]
    congr 2
    cases q : f x with
    | none => rw [List.filterMap_cons_none q]; simp
    | some e => rw [List.filterMap_cons_some q]; simp
theorem lcL_map' {α : Type} {vs : List Nat} {g : VG} {t : VT} {ve : VX} {ρ : Env} (inj f : α → PV) (xs : List α) (acc : List PV) (h : ∀ x ∈ xs, lc1 vs g t ve (inj x) ρ = some (some (f x), ρ)) (hl : acc.length + xs.length ≤ sizeLine) :
    lcL vs g t ve (xs.map inj) acc ρ = some (acc ++ xs.map f, ρ) := by
  rw [lcL_map inj (fun x => some (f x)) xs acc h hl, show (fun x => some (f x)) = some ∘ f from rfl, List.filterMap_eq_map]
/-- two clauses -/
theorem lcL2_map {α β : Type} {vs vs1 : List Nat} {g g1 : VG} {t t1 : VT} {vi1 : VI} {ve : VX} {ρ : Env} (inj : α → PV) (inj1 : β → PV) (ys : α → List β) (f : α → β → PV) : ∀ (xs : List α) (acc : List PV),
    (∀ x ∈ xs, ∃ ρ1 ρ2 ρ3, g (inj x) ρ = .ok () ρ1 ∧ t ρ1 = .ok true ρ2 ∧ vi1 ρ2 = .ok ((ys x).map inj1) ρ3 ∧ okW ρ3 vs1 = true ∧ okW (wipeE ρ3 vs1) vs = true ∧ wipeE (wipeE ρ3 vs1) vs = ρ ∧
      ∀ y ∈ ys x, lc1 vs1 g1 t1 ve (inj1 y) (wipeE ρ3 vs1) = some (some (f x y), wipeE ρ3 vs1)) → acc.length + (xs.flatMap ys).length ≤ sizeLine →
    lcL2 vs vs1 g t vi1 g1 t1 ve (xs.map inj) acc ρ = some (acc ++ xs.flatMap (fun x => (ys x).map (f x)), ρ)
  | [], acc, _, _ => by rw [List.map_nil, lcL2, List.flatMap_nil, List.append_nil]
  | x :: xs, acc, h, hl => by
    obtain ⟨ρ1, ρ2, ρ3, e1, e2, e3, e4, e5, e6, e7⟩ := h x List.mem_cons_self
    rw [List.flatMap_cons, List.length_append] at hl
    rw [List.map_cons, lcL2, e1]
    dsimp only
    rw [e2]
    dsimp only
    rw [e3]
    dsimp only
    rw [if_pos e4, lcL_map' inj1 (f x) (ys x) acc e7 (by omega)]
    dsimp only
    rw [if_pos e5, e6, lcL2_map inj inj1 ys f xs _ (fun y hy => h y (List.mem_cons_of_mem _ hy)) (by rw [List.length_append, List.length_map]; omega), List.flatMap_cons, List.append_assoc]

/-! ### loops -/
/-- an invariant by the number of turns -/
theorem loopF_inv {α : Type} {g : VG} {body : VS} (inj : α → PV) (I : Nat → Env → Prop) (xs : List α) (step : ∀ i x ρ, xs[i]? = some x → I i ρ → ∃ ρ1, g (inj x) ρ = .ok () ρ1 ∧ ∃ ρ2, (body ρ1 = .ok .nx ρ2 ∨ body ρ1 = .ok .ct ρ2) ∧ I (i + 1) ρ2) :
    ∀ (k i : Nat) (ρ : Env), xs.length - i = k → i ≤ xs.length → I i ρ → ∃ ρ', loopF g body ((xs.drop i).map inj) ρ = .ok .nx ρ' ∧ I xs.length ρ'
  | 0, i, ρ, hk, hi, h => by
    have e : i = xs.length := by omega
    subst e
    rw [List.drop_length]
    exact ⟨ρ, rfl, h⟩
  | k + 1, i, ρ, hk, hi, h => by
    have lt : i < xs.length := by omega
    obtain ⟨ρ1, e1, ρ2, e2, h2⟩ := step i xs[i] ρ (List.getElem?_eq_getElem lt) h
    obtain ⟨ρ', e3, h3⟩ := loopF_inv inj I xs step k (i + 1) ρ2 (by omega) lt h2
    refine ⟨ρ', ?_, h3⟩
    rw [List.drop_eq_getElem_cons lt, List.map_cons, loopF, e1]
    show (match body ρ1 with | .ok .nx ρ2 => _ | .ok .ct ρ2 => _ | .ok .bk ρ2 => _ | r => r) = _
    rcases e2 with e2 | e2
    · rw [e2]; exact e3
    · rw [e2]; exact e3
theorem loopF_all {α : Type} {g : VG} {body : VS} (inj : α → PV) (I : Nat → Env → Prop) (xs : List α) (step : ∀ i x ρ, xs[i]? = some x → I i ρ → ∃ ρ1, g (inj x) ρ = .ok () ρ1 ∧ ∃ ρ2, (body ρ1 = .ok .nx ρ2 ∨ body ρ1 = .ok .ct ρ2) ∧ I (i + 1) ρ2) (ρ : Env) (h : I 0 ρ) :
    ∃ ρ', loopF g body (xs.map inj) ρ = .ok .nx ρ' ∧ I xs.length ρ' := by
  have := loopF_inv inj I xs step _ 0 ρ rfl (Nat.zero_le _) h
  rwa [List.drop_zero] at this

/-! ### range -/
theorem range0 (n : Nat) : rangeP 0 n = (List.range n).map (fun i : Nat => PV.int (i : Int)) := by simp [rangeP]
theorem iRange1_ok {va : VA} {ρ ρ1 : Env} {cs : List Cell} {j : Int} (h : va ρ = .ok cs ρ1) (hv : valAll ρ1 cs = some [.int j]) (h0 : -1000000 ≤ j) (h1 : j < 1000000) : iRange1 va ρ = .ok ((List.range j.toNat).map (fun i : Nat => PV.int (i : Int))) ρ1 := by
  unfold iRange1
  rw [h, ← range0]
  show (match valAll ρ1 cs with | some [.int j] => if smallZ 1000000000000 j = true then Rs.ok (rangeP 0 j.toNat) ρ1 else .bad | _ => .bad) = _
  rw [hv]
  show (if smallZ 1000000000000 j = true then Rs.ok (rangeP 0 j.toNat) ρ1 else .bad) = _
  rw [if_pos (smallZ_of (by omega) (by omega))]
theorem for_range {va : VA} {ρ ρ1 : Env} {cs : List Cell} {j : Int} {g : VG} {body : VS} (h : va ρ = .ok cs ρ1) (hv : valAll ρ1 cs = some [.int j]) (h0 : -1000000 ≤ j) (h1 : j < 1000000) : sFor (iRange1 va) g body ρ = loopF g body ((List.range j.toNat).map (fun i : Nat => PV.int (i : Int))) ρ1 := by
  unfold sFor
  rw [iRange1_ok h hv h0 h1]; rfl
theorem vLc_eq {vi : VI} {vs : List Nat} {g : VG} {t : VT} {ve : VX} {ρ ρ1 ρ2 : Env} {ds acc : List PV} (h : vi ρ = .ok ds ρ1) (h1 : okW ρ1 vs = true) (h2 : lcL vs g t ve ds [] (wipeE ρ1 vs) = some (acc, ρ2)) (h3 : okW ρ2 vs = true) :
    vLc vi vs g t ve ρ = .ok (.ow (.lst acc)) (unwipe ρ1 vs ρ2) := by
  unfold vLc
  rw [h]
  show (if okW ρ1 vs = true then (match lcL vs g t ve ds [] (wipeE ρ1 vs) with | some (acc, ρ2) => if okW ρ2 vs = true then Rs.ok (Cell.ow (.lst acc)) (unwipe ρ1 vs ρ2) else .bad | none => .bad) else .bad) = _
  rw [if_pos h1, h2]
  show (if okW ρ2 vs = true then Rs.ok (Cell.ow (.lst acc)) (unwipe ρ1 vs ρ2) else .bad) = _
  rw [if_pos h3]
end L2.VL

set_option Elab.async false
set_option linter.all false
set_option maxRecDepth 100000
set_option maxHeartbeats 0
namespace K61
open PySem PySem.Spec PyProof.Rows L2 L2.VL
/-! the texts -/
abbrev tp (i : Nat) : Stmt := PySem.Challenge.pw_fewheld_k61_windows_in_order.main.body.getD i (.Pass ⟨0, 0, 0, 0⟩)
abbrev FnP (K : PySem.W.Frag) (x : Str) (st : Stmt) (f : Addr) (fd : FuncData) : Prop := FunD K x x (defArgs st) (defBody st) (defScope st) [] [] f fd
structure Fx (M : Md) : Prop where
  u_abs : M.mg "abs" = none
  u_all : M.mg "all" = none
  u_bool : M.mg "bool" = none
  u_divmod : M.mg "divmod" = none
  u_int : M.mg "int" = none
  u_isinstance : M.mg "isinstance" = none
  u_len : M.mg "len" = none
  u_list : M.mg "list" = none
  u_max : M.mg "max" = none
  u_min : M.mg "min" = none
  u_range : M.mg "range" = none
  u_set : M.mg "set" = none
  u_sorted : M.mg "sorted" = none
  u_str : M.mg "str" = none
  u_zip : M.mg "zip" = none
  c_ALPHABET : ∃ t, M.mg "ALPHABET" = some (.str "abcdefghijklmnopqrstuvwxyz" t)
  c_MOST_AHEAD : ∃ t, M.mg "MOST_AHEAD" = some (.int 3 t)
  c_MOST_LETTERS : ∃ t, M.mg "MOST_LETTERS" = some (.int 4 t)
  c_STOP : ∃ t, M.mg "STOP" = some (.str "." t)
  d__law_draw : ∃ a fd, FnP M.K "_law_draw" (tp 30) a fd ∧ M.mg "_law_draw" = some (.ref a)
  d__law_pick : ∃ a fd, FnP M.K "_law_pick" (tp 31) a fd ∧ M.mg "_law_pick" = some (.ref a)
  d__law_signs : ∃ a fd, FnP M.K "_law_signs" (tp 35) a fd ∧ M.mg "_law_signs" = some (.ref a)
  d_is_letters : ∃ a fd, FnP M.K "is_letters" (tp 14) a fd ∧ M.mg "is_letters" = some (.ref a)
  d_want_letters : ∃ a fd, FnP M.K "want_letters" (tp 15) a fd ∧ M.mg "want_letters" = some (.ref a)
  d_is_integer : ∃ a fd, FnP M.K "is_integer" (tp 9) a fd ∧ M.mg "is_integer" = some (.ref a)
  d_is_count : ∃ a fd, FnP M.K "is_count" (tp 10) a fd ∧ M.mg "is_count" = some (.ref a)
  d_want_count : ∃ a fd, FnP M.K "want_count" (tp 11) a fd ∧ M.mg "want_count" = some (.ref a)
  d_want_ahead : ∃ a fd, FnP M.K "want_ahead" (tp 20) a fd ∧ M.mg "want_ahead" = some (.ref a)
  d_rows_so_long : ∃ a fd, FnP M.K "rows_so_long" (tp 21) a fd ∧ M.mg "rows_so_long" = some (.ref a)
  d_windows_of : ∃ a fd, FnP M.K "windows_of" (tp 22) a fd ∧ M.mg "windows_of" = some (.ref a)
  d_windows : ∃ a fd, FnP M.K "windows" (tp 26) a fd ∧ M.mg "windows" = some (.ref a)
  d__law_views : ∃ a fd, FnP M.K "_law_views" (tp 32) a fd ∧ M.mg "_law_views" = some (.ref a)
  d_want_window : ∃ a fd, FnP M.K "want_window" (tp 23) a fd ∧ M.mg "want_window" = some (.ref a)
  d_ends_in_stop : ∃ a fd, FnP M.K "ends_in_stop" (tp 24) a fd ∧ M.mg "ends_in_stop" = some (.ref a)
  d_followers : ∃ a fd, FnP M.K "followers" (tp 25) a fd ∧ M.mg "followers" = some (.ref a)
  d_following : ∃ a fd, FnP M.K "following" (tp 27) a fd ∧ M.mg "following" = some (.ref a)
  d__law_many : ∃ a fd, FnP M.K "_law_many" (tp 37) a fd ∧ M.mg "_law_many" = some (.ref a)
  d__law_thens : ∃ a fd, FnP M.K "_law_thens" (tp 34) a fd ∧ M.mg "_law_thens" = some (.ref a)
  d__law_seen : ∃ a fd, FnP M.K "_law_seen" (tp 36) a fd ∧ M.mg "_law_seen" = some (.ref a)
  d__law_rows_right : ∃ a fd, FnP M.K "_law_rows_right" (tp 38) a fd ∧ M.mg "_law_rows_right" = some (.ref a)
  d__law_right : ∃ a fd, FnP M.K "_law_right" (tp 39) a fd ∧ M.mg "_law_right" = some (.ref a)
  d__law_pot : ∃ a fd, FnP M.K "_law_pot" (tp 29) a fd ∧ M.mg "_law_pot" = some (.ref a)
  d_law : ∃ a fd, FnP M.K "law" (tp 40) a fd ∧ M.mg "law" = some (.ref a)
def Okd (P : Program) (w : World) (M : Md) (lv : Nat) (x : Str) (ps : List Str) (k : Nat) (fm : FM) : Prop :=
  ∃ a fd, M.mg x = some (.ref a) ∧ PySem.W.keepIn M.K (.ref a) = true ∧ Binds M.K fd ps [] ∧ (∀ (s : Shared) (us : List Value), us.length = ps.length → BindsTo s fd ⟨us, []⟩ (ps.zip us)) ∧ ∀ base : Heap, FnOk P w M.K M.mg base (L2.CX P w) lv a fd ps (spV M k fm)
section
variable {P : Program} {w : World} {M : Md}
abbrev s__law_draw : Stmt := tp 30
def b__law_draw : VS :=
  sSeq (sIf (tCmpT pGt (vBin pIx (vVar 0) (vC (.int 0))) (vC (.int 0))) (sSeq (sAsg (vCall pDivmod (vACons (vBin pIx (vVar 0) (vC (.int 0))) (vACons (vVar 1) vANil))) (gTupV [gSubV (vVar 0) (vC (.int 0)), gNameV 2])) (sRet (vVar 2))) sNx) (sSeq (sAsg (vBin (pI zMod) (vCall pInt (vACons (vBin pAdd (vBin (pI zMul) (vBin pIx (vVar 0) (vC (.int 1))) (vC (.int 48271))) (vC (.int 12343))) vANil)) (vC (.int 2147483629))) (gSubV (vVar 0) (vC (.int 1)))) (sRet (vBin (pI zMod) (vCall pInt (vACons (vBin (pI zDiv) (vBin (pI zMod) (vCall pInt (vACons (vBin (pI zMul) (vBin pIx (vVar 0) (vC (.int 1))) (vBin pIx (vVar 0) (vC (.int 1)))) vANil)) (vC (.int 2147483579))) (vC (.int 13))) vANil)) (vVar 1))))
def m__law_draw : FM := runDef 2 3 b__law_draw
theorem sc__law_draw : FnScope ["_law_pot_here", "_law_many_here", "_law_digit"] ["_law_pot_here", "_law_many_here"] (defScope s__law_draw) := ⟨rfl, rfl, rfl, by decide +kernel, rfl, by decide +kernel, by decide +kernel⟩
theorem ok__law_draw (Y : Fx M) : Okd P w M 1 "_law_draw" ["_law_pot_here", "_law_many_here"] 2 m__law_draw := by
  obtain ⟨a, fd, F0, g0⟩ := Y.d__law_draw
  have sc := sc__law_draw
  exact ⟨a, fd, g0, F0.kp, F0.bindsN (fun _ _ _ _ _ _ us hl => match us, hl with | [_, _], _ => rfl), F0.bindsA (fun _ _ _ _ _ _ us hl => match us, hl with | [_, _], _ => rfl), fun base => fnV F0 sc rfl rfl fun cdv A outer s H E hr =>
    vs_cons (vs_if (t_gt (vx_ix (vx_var 0) vx_int) vx_int) (vs_cons (vs_asg (c_divmod Y.u_divmod (va_cons (vx_ix (vx_var 0) vx_int) (va_cons (vx_var 1) va_nil))) (pg_tup rfl (pgs_cons (pg_sub (vx_var 0) vx_int set_list) (pgs_cons (pg_name sc.nd rfl (by first | exact .inl rfl | exact .inr rfl)) pgs_nil))) (gv_tup (gvs_cons (gv_sub rfl rfl) (gvs_cons gv_name gvs_nil)) (calms_cons (calm_sub noex_var noex_c) (calms_cons calm_name calms_nil)))) (vs_one (vs_ret (vx_var 2)))) vs_nil) (vs_cons (vs_asg (w_mod (c_int Y.u_int (va_cons (w_add (w_mul (vx_ix (vx_var 0) vx_int) vx_int) vx_int) va_nil)) vx_int) (pg_sub (vx_var 0) vx_int set_list) (gv_sub rfl rfl)) (vs_one (vs_ret (w_mod (c_int Y.u_int (va_cons (w_div (w_mod (c_int Y.u_int (va_cons (w_mul (vx_ix (vx_var 0) vx_int) (vx_ix (vx_var 0) vx_int)) va_nil)) vx_int) vx_int) va_nil)) (vx_var 1)))))⟩
abbrev s__law_pick : Stmt := tp 31
def b__law_pick : VS :=
  sRet (vBin pIx (vVar 1) (vCallF m__law_draw [true, false] [] (vACons (vVar 0) (vACons (vCall pLen (vACons (vVar 1) vANil)) vANil))))
def m__law_pick : FM := runDef 2 2 b__law_pick
theorem sc__law_pick : FnScope ["_law_pot_here", "_law_items"] ["_law_pot_here", "_law_items"] (defScope s__law_pick) := ⟨rfl, rfl, rfl, by decide +kernel, rfl, by decide +kernel, by decide +kernel⟩
theorem ok__law_pick (Y : Fx M) : Okd P w M 2 "_law_pick" ["_law_pot_here", "_law_items"] 2 m__law_pick := by
  obtain ⟨a__law_draw, d__law_draw, g__law_draw, k__law_draw, b__law_draw, _, F__law_draw⟩ := ok__law_draw (P := P) (w := w) Y
  obtain ⟨a, fd, F0, g0⟩ := Y.d__law_pick
  have sc := sc__law_pick
  exact ⟨a, fd, g0, F0.kp, F0.bindsN (fun _ _ _ _ _ _ us hl => match us, hl with | [_, _], _ => rfl), F0.bindsA (fun _ _ _ _ _ _ us hl => match us, hl with | [_, _], _ => rfl), fun base => fnV F0 sc rfl rfl fun cdv A outer s H E hr =>
    vs_one (vs_ret (vx_ix (vx_var 1) (vx_callF (ms := [true, false]) (F__law_draw base) (hr.mono (by decide)) (by rfl) g__law_draw k__law_draw b__law_draw .nil (passAt (takes_of rfl rfl rfl rfl)) (fun _ => .nil) rfl (va_cons (vx_var 0) (va_cons (c_len Y.u_len (va_cons (vx_var 1) va_nil)) va_nil)))))⟩
abbrev s__law_signs : Stmt := tp 35
def b__law_signs : VS :=
  sSeq (sSet 1 (vLst vANil)) (sSeq (sFor (iRange1 (vACons (vBin pAdd (vC (.int 1)) (vCallF m__law_draw [true, false] [] (vACons (vVar 0) (vACons (vC (.int 4)) vANil)))) vANil)) (gNameV 2) (sSeq (sSet 3 (vLc (iAny (vC (.str [97, 98, 99, 100, 101, 102, 103, 104, 105, 106, 107, 108, 109, 110, 111, 112, 113, 114, 115, 116, 117, 118, 119, 120, 121, 122]))) [4] (gNameV 4) (tCmpT pNotIn (vVar 4) (vVar 1)) (vVar 4))) (sExpr (vMut lstT fAppend (vVar 1) (vACons (vCallF m__law_pick [true, false] [] (vACons (vVar 0) (vACons (vVar 3) vANil))) vANil))))) (sRet (vMeth strT pJoin (vC (.str [])) (vACons (vCall pSorted (vACons (vVar 1) vANil)) vANil))))
def m__law_signs : FM := runDef 1 5 b__law_signs
theorem sc__law_signs : FnScope ["_law_pot_here", "_law_found", "_law_turn", "_law_left", "_law_sign"] ["_law_pot_here"] (defScope s__law_signs) := ⟨rfl, rfl, rfl, by decide +kernel, rfl, by decide +kernel, by decide +kernel⟩
theorem ok__law_signs (Y : Fx M) : Okd P w M 3 "_law_signs" ["_law_pot_here"] 1 m__law_signs := by
  obtain ⟨a__law_draw, d__law_draw, g__law_draw, k__law_draw, b__law_draw, _, F__law_draw⟩ := ok__law_draw (P := P) (w := w) Y
  obtain ⟨a__law_pick, d__law_pick, g__law_pick, k__law_pick, b__law_pick, _, F__law_pick⟩ := ok__law_pick (P := P) (w := w) Y
  obtain ⟨a, fd, F0, g0⟩ := Y.d__law_signs
  have sc := sc__law_signs
  exact ⟨a, fd, g0, F0.kp, F0.bindsN (fun _ _ _ _ _ _ us hl => match us, hl with | [_], _ => rfl), F0.bindsA (fun _ _ _ _ _ _ us hl => match us, hl with | [_], _ => rfl), fun base => fnV F0 sc rfl rfl fun cdv A outer s H E hr =>
    vs_cons (vs_set 1 sc.nd (vx_lst va_nil)) (vs_cons (vs_for (passes_of rfl) (vi_range1 (by rfl) Y.u_range (va_cons (w_add vx_int (vx_callF (ms := [true, false]) (F__law_draw base) (hr.mono (by decide)) (by rfl) g__law_draw k__law_draw b__law_draw .nil (passAt (takes_of rfl rfl rfl rfl)) (fun _ => .nil) rfl (va_cons (vx_var 0) (va_cons vx_int va_nil)))) va_nil)) (pg_name sc.nd rfl (by first | exact .inl rfl | exact .inr rfl)) gv_name (vs_cons (l_setLc 3 sc.nd (vi_any (vx_str [97, 98, 99, 100, 101, 102, 103, 104, 105, 106, 107, 108, 109, 110, 111, 112, 113, 114, 115, 116, 117, 118, 119, 120, 121, 122])) (blkOk_by (N := ["_law_pot_here", "_law_found", "_law_turn", "_law_left", "_law_sign"]) (sc := defScope (tp 35)) (own := [("_law_sign", 4)]) (by decide +kernel)) gv_name kw_name mono_name (fun _ _ _ _ _ => pg_name sc.nd rfl (by first | exact .inl rfl | exact .inr rfl)) (fun _ _ _ _ _ => vpts_one (t_notIn hr (vx_var 4) (vx_var 1))) (fun _ _ _ _ _ => vx_var 4)) (vs_one (vs_expr (vx_mut F.plainAttrs_list F.slot_list_append F.type_list_append mt_append ty_lst mu_append (vx_var 1) (va_cons (vx_callF (ms := [true, false]) (F__law_pick base) (hr.mono (by decide)) (by rfl) g__law_pick k__law_pick b__law_pick .nil (passAt (takes_of rfl rfl rfl rfl)) (fun _ => .nil) rfl (va_cons (vx_var 0) (va_cons (vx_var 3) va_nil))) va_nil)))))) (vs_one (vs_ret (vx_meth F.plainAttrs_str F.slot_str_join F.type_str_join mt_join ty_str (mv_join rfl) (vx_str []) (va_cons (c_sorted Y.u_sorted (va_cons (vx_var 1) va_nil)) va_nil)))))⟩
abbrev s_is_letters : Stmt := tp 14
def b_is_letters : VS :=
  sSeq (sIf (tOrT (tNotT (tst (vCall pIsInst (vACons (vVar 0) (vACons (vC (.ty "str")) vANil))))) (tNotT (tChainT pLe pLe (vC (.int 1)) (vCall pLen (vACons (vVar 0) vANil)) (vC (.int 4))))) (sRet (vC (.bl false))) sNx) (sRet (vAnd (vCall pAll (vACons (vLc (iAny (vVar 0)) [1] (gNameV 1) tYesV (vBin (mkB pIn) (vVar 1) (vC (.str [97, 98, 99, 100, 101, 102, 103, 104, 105, 106, 107, 108, 109, 110, 111, 112, 113, 114, 115, 116, 117, 118, 119, 120, 121, 122])))) vANil)) (vBin (mkB pEq) (vCall pList (vACons (vVar 0) vANil)) (vSortSet (vVar 0)))))
def m_is_letters : FM := runDef 1 2 b_is_letters
theorem sc_is_letters : FnScope ["value", "sign"] ["value"] (defScope s_is_letters) := ⟨rfl, rfl, rfl, by decide +kernel, rfl, by decide +kernel, by decide +kernel⟩
theorem ok_is_letters (Y : Fx M) : Okd P w M 1 "is_letters" ["value"] 1 m_is_letters := by
  obtain ⟨a, fd, F0, g0⟩ := Y.d_is_letters
  have sc := sc_is_letters
  exact ⟨a, fd, g0, F0.kp, F0.bindsN (fun _ _ _ _ _ _ us hl => match us, hl with | [_], _ => rfl), F0.bindsA (fun _ _ _ _ _ _ us hl => match us, hl with | [_], _ => rfl), fun base => fnV F0 sc rfl rfl fun cdv A outer s H E hr =>
    vs_cons (vs_if (PW.pt (vw_or (vt_not (vt_val (c_isinstance Y.u_isinstance (va_cons (vx_var 0) (va_cons (w_ty "str" Y.u_str) va_nil))))) (vw_or1 (vt_not (vt_chain op_le ob_int op_le ob_int vx_int (c_len Y.u_len (va_cons (vx_var 0) va_nil)) (w_gint Y.c_MOST_LETTERS)))))) (vs_one (vs_ret vx_bl)) vs_nil) (vs_one (vs_ret (vx_and (c_all Y.u_all (va_cons (l_lc sc.nd (vi_any (vx_var 0)) (blkOk_by (N := ["value", "sign"]) (sc := defScope (tp 14)) (own := [("sign", 1)]) (by decide +kernel)) gv_name kw_name mono_name (fun _ _ _ _ _ => pg_name sc.nd rfl (by first | exact .inl rfl | exact .inr rfl)) (fun _ _ _ _ _ => vpts_nil) (fun _ _ _ _ _ => w_in hr (vx_var 1) (w_gstr [97, 98, 99, 100, 101, 102, 103, 104, 105, 106, 107, 108, 109, 110, 111, 112, 113, 114, 115, 116, 117, 118, 119, 120, 121, 122] Y.c_ALPHABET))) va_nil)) (vx_one (w_eq hr (c_list Y.u_list (va_cons (vx_var 0) va_nil)) (vx_sortSet (by rfl) (by rfl) (by rfl) Y.u_sorted (by rfl) Y.u_set (vx_var 0)))))))⟩
abbrev s_want_letters : Stmt := tp 15
def b_want_letters : VS :=
  sIf (tNotT (tst (vCallF m_is_letters [false] [] (vACons (vVar 0) vANil)))) sBad sNx
def m_want_letters : FM := runDef 1 1 b_want_letters
theorem sc_want_letters : FnScope ["value"] ["value"] (defScope s_want_letters) := ⟨rfl, rfl, rfl, by decide +kernel, rfl, by decide +kernel, by decide +kernel⟩
theorem ok_want_letters (Y : Fx M) : Okd P w M 2 "want_letters" ["value"] 1 m_want_letters := by
  obtain ⟨a_is_letters, d_is_letters, g_is_letters, k_is_letters, b_is_letters, _, F_is_letters⟩ := ok_is_letters (P := P) (w := w) Y
  obtain ⟨a, fd, F0, g0⟩ := Y.d_want_letters
  have sc := sc_want_letters
  exact ⟨a, fd, g0, F0.kp, F0.bindsN (fun _ _ _ _ _ _ us hl => match us, hl with | [_], _ => rfl), F0.bindsA (fun _ _ _ _ _ _ us hl => match us, hl with | [_], _ => rfl), fun base => fnV F0 sc rfl rfl fun cdv A outer s H E hr =>
    vs_one (vs_if (vt_not (vt_val (vx_callF (ms := [false]) (F_is_letters base) (hr.mono (by decide)) (by rfl) g_is_letters k_is_letters b_is_letters .nil (passAt (takes_of rfl rfl rfl rfl)) (fun _ => .nil) rfl (va_cons (vx_var 0) va_nil)))) (vs_one vs_never) vs_nil)⟩
abbrev s_is_integer : Stmt := tp 9
def b_is_integer : VS :=
  sRet (vAnd (vCall pIsInst (vACons (vVar 0) (vACons (vC (.ty "int")) vANil))) (vNot (vCall pIsInst (vACons (vVar 0) (vACons (vC (.ty "bool")) vANil)))))
def m_is_integer : FM := runDef 1 1 b_is_integer
theorem sc_is_integer : FnScope ["value"] ["value"] (defScope s_is_integer) := ⟨rfl, rfl, rfl, by decide +kernel, rfl, by decide +kernel, by decide +kernel⟩
theorem ok_is_integer (Y : Fx M) : Okd P w M 1 "is_integer" ["value"] 1 m_is_integer := by
  obtain ⟨a, fd, F0, g0⟩ := Y.d_is_integer
  have sc := sc_is_integer
  exact ⟨a, fd, g0, F0.kp, F0.bindsN (fun _ _ _ _ _ _ us hl => match us, hl with | [_], _ => rfl), F0.bindsA (fun _ _ _ _ _ _ us hl => match us, hl with | [_], _ => rfl), fun base => fnV F0 sc rfl rfl fun cdv A outer s H E hr =>
    vs_one (vs_ret (vx_and (c_isinstance Y.u_isinstance (va_cons (vx_var 0) (va_cons (w_ty "int" Y.u_int) va_nil))) (vx_one (vx_not (c_isinstance Y.u_isinstance (va_cons (vx_var 0) (va_cons (w_ty "bool" Y.u_bool) va_nil)))))))⟩
abbrev s_is_count : Stmt := tp 10
def b_is_count : VS :=
  sRet (vAnd (vCallF m_is_integer [false] [] (vACons (vVar 0) vANil)) (vBin (mkB pGe) (vVar 0) (vC (.int 0))))
def m_is_count : FM := runDef 1 1 b_is_count
theorem sc_is_count : FnScope ["value"] ["value"] (defScope s_is_count) := ⟨rfl, rfl, rfl, by decide +kernel, rfl, by decide +kernel, by decide +kernel⟩
theorem ok_is_count (Y : Fx M) : Okd P w M 2 "is_count" ["value"] 1 m_is_count := by
  obtain ⟨a_is_integer, d_is_integer, g_is_integer, k_is_integer, b_is_integer, _, F_is_integer⟩ := ok_is_integer (P := P) (w := w) Y
  obtain ⟨a, fd, F0, g0⟩ := Y.d_is_count
  have sc := sc_is_count
  exact ⟨a, fd, g0, F0.kp, F0.bindsN (fun _ _ _ _ _ _ us hl => match us, hl with | [_], _ => rfl), F0.bindsA (fun _ _ _ _ _ _ us hl => match us, hl with | [_], _ => rfl), fun base => fnV F0 sc rfl rfl fun cdv A outer s H E hr =>
    vs_one (vs_ret (vx_and (vx_callF (ms := [false]) (F_is_integer base) (hr.mono (by decide)) (by rfl) g_is_integer k_is_integer b_is_integer .nil (passAt (takes_of rfl rfl rfl rfl)) (fun _ => .nil) rfl (va_cons (vx_var 0) va_nil)) (vx_one (w_ge (vx_var 0) vx_int))))⟩
abbrev s_want_count : Stmt := tp 11
def b_want_count : VS :=
  sIf (tNotT (tst (vCallF m_is_count [false] [] (vACons (vVar 0) vANil)))) sBad sNx
def m_want_count : FM := runDef 1 1 b_want_count
theorem sc_want_count : FnScope ["value"] ["value"] (defScope s_want_count) := ⟨rfl, rfl, rfl, by decide +kernel, rfl, by decide +kernel, by decide +kernel⟩
theorem ok_want_count (Y : Fx M) : Okd P w M 3 "want_count" ["value"] 1 m_want_count := by
  obtain ⟨a_is_count, d_is_count, g_is_count, k_is_count, b_is_count, _, F_is_count⟩ := ok_is_count (P := P) (w := w) Y
  obtain ⟨a, fd, F0, g0⟩ := Y.d_want_count
  have sc := sc_want_count
  exact ⟨a, fd, g0, F0.kp, F0.bindsN (fun _ _ _ _ _ _ us hl => match us, hl with | [_], _ => rfl), F0.bindsA (fun _ _ _ _ _ _ us hl => match us, hl with | [_], _ => rfl), fun base => fnV F0 sc rfl rfl fun cdv A outer s H E hr =>
    vs_one (vs_if (vt_not (vt_val (vx_callF (ms := [false]) (F_is_count base) (hr.mono (by decide)) (by rfl) g_is_count k_is_count b_is_count .nil (passAt (takes_of rfl rfl rfl rfl)) (fun _ => .nil) rfl (va_cons (vx_var 0) va_nil)))) (vs_one vs_never) vs_nil)⟩
abbrev s_want_ahead : Stmt := tp 20
def b_want_ahead : VS :=
  sSeq (sExpr (vCallF m_want_count [false] [] (vACons (vVar 0) vANil))) (sIf (tCmpT pGt (vVar 0) (vC (.int 3))) sBad sNx)
def m_want_ahead : FM := runDef 1 1 b_want_ahead
theorem sc_want_ahead : FnScope ["value"] ["value"] (defScope s_want_ahead) := ⟨rfl, rfl, rfl, by decide +kernel, rfl, by decide +kernel, by decide +kernel⟩
theorem ok_want_ahead (Y : Fx M) : Okd P w M 4 "want_ahead" ["value"] 1 m_want_ahead := by
  obtain ⟨a_want_count, d_want_count, g_want_count, k_want_count, b_want_count, _, F_want_count⟩ := ok_want_count (P := P) (w := w) Y
  obtain ⟨a, fd, F0, g0⟩ := Y.d_want_ahead
  have sc := sc_want_ahead
  exact ⟨a, fd, g0, F0.kp, F0.bindsN (fun _ _ _ _ _ _ us hl => match us, hl with | [_], _ => rfl), F0.bindsA (fun _ _ _ _ _ _ us hl => match us, hl with | [_], _ => rfl), fun base => fnV F0 sc rfl rfl fun cdv A outer s H E hr =>
    vs_cons (vs_expr (vx_callF (ms := [false]) (F_want_count base) (hr.mono (by decide)) (by rfl) g_want_count k_want_count b_want_count .nil (passAt (takes_of rfl rfl rfl rfl)) (fun _ => .nil) rfl (va_cons (vx_var 0) va_nil))) (vs_one (vs_if (t_gt (vx_var 0) (w_gint Y.c_MOST_AHEAD)) (vs_one vs_never) vs_nil))⟩
abbrev s_rows_so_long : Stmt := tp 21
def b_rows_so_long : VS :=
  sSeq (sSet 2 (vLst (vACons (vC (.str [])) vANil))) (sSeq (sFor (iRange1 (vACons (vVar 1) vANil)) (gNameV 3) (sSet 2 (vLc2 (iAny (vVar 2)) [4, 5] [5] (gNameV 4) tYesV (iAny (vVar 0)) (gNameV 5) tYesV (vBin pAdd (vVar 4) (vVar 5))))) (sRet (vVar 2)))
def m_rows_so_long : FM := runDef 2 6 b_rows_so_long
theorem sc_rows_so_long : FnScope ["letters", "length", "found", "turn", "row", "letter"] ["letters", "length"] (defScope s_rows_so_long) := ⟨rfl, rfl, rfl, by decide +kernel, rfl, by decide +kernel, by decide +kernel⟩
theorem ok_rows_so_long (Y : Fx M) : Okd P w M 1 "rows_so_long" ["letters", "length"] 2 m_rows_so_long := by
  obtain ⟨a, fd, F0, g0⟩ := Y.d_rows_so_long
  have sc := sc_rows_so_long
  exact ⟨a, fd, g0, F0.kp, F0.bindsN (fun _ _ _ _ _ _ us hl => match us, hl with | [_, _], _ => rfl), F0.bindsA (fun _ _ _ _ _ _ us hl => match us, hl with | [_, _], _ => rfl), fun base => fnV F0 sc rfl rfl fun cdv A outer s H E hr =>
    vs_cons (vs_set 2 sc.nd (vx_lst (va_cons (vx_str []) va_nil))) (vs_cons (vs_for (passes_of rfl) (vi_range1 (by rfl) Y.u_range (va_cons (vx_var 1) va_nil)) (pg_name sc.nd rfl (by first | exact .inl rfl | exact .inr rfl)) gv_name (vs_one (l_setLc2 2 sc.nd (vi_any (vx_var 2)) (blkOk_by (N := ["letters", "length", "found", "turn", "row", "letter"]) (sc := defScope (tp 21)) (own := [("row", 4), ("letter", 5)]) (by decide +kernel)) gv_name kw_name mono_name gv_name kw_name mono_name (fun _ _ _ _ _ => pg_name sc.nd rfl (by first | exact .inl rfl | exact .inr rfl)) (fun _ _ _ _ _ => vpts_nil) (fun _ _ _ _ _ => vi_any (vx_var 0)) (fun _ _ _ _ _ => pg_name sc.nd rfl (by first | exact .inl rfl | exact .inr rfl)) (fun _ _ _ _ _ => vpts_nil) (fun _ _ _ _ _ => w_add (vx_var 4) (vx_var 5))))) (vs_one (vs_ret (vx_var 2))))⟩
abbrev s_windows_of : Stmt := tp 22
def b_windows_of : VS :=
  sSeq (sSet 2 (vLst vANil)) (sSeq (sFor (iRange1 (vACons (vVar 1) vANil)) (gNameV 3) (sExpr (vMut lstT fExtend (vVar 2) (vACons (vLc (iAny (vCallF m_rows_so_long [false, false] [] (vACons (vVar 0) (vACons (vVar 3) vANil)))) [4] (gNameV 4) tYesV (vBin pAdd (vVar 4) (vC (.str [46])))) vANil)))) (sRet (vBin pAdd (vVar 2) (vCallF m_rows_so_long [false, false] [] (vACons (vVar 0) (vACons (vVar 1) vANil))))))
def m_windows_of : FM := runDef 2 5 b_windows_of
theorem sc_windows_of : FnScope ["letters", "ahead", "found", "length", "row"] ["letters", "ahead"] (defScope s_windows_of) := ⟨rfl, rfl, rfl, by decide +kernel, rfl, by decide +kernel, by decide +kernel⟩
theorem ok_windows_of (Y : Fx M) : Okd P w M 2 "windows_of" ["letters", "ahead"] 2 m_windows_of := by
  obtain ⟨a_rows_so_long, d_rows_so_long, g_rows_so_long, k_rows_so_long, b_rows_so_long, _, F_rows_so_long⟩ := ok_rows_so_long (P := P) (w := w) Y
  obtain ⟨a, fd, F0, g0⟩ := Y.d_windows_of
  have sc := sc_windows_of
  exact ⟨a, fd, g0, F0.kp, F0.bindsN (fun _ _ _ _ _ _ us hl => match us, hl with | [_, _], _ => rfl), F0.bindsA (fun _ _ _ _ _ _ us hl => match us, hl with | [_, _], _ => rfl), fun base => fnV F0 sc rfl rfl fun cdv A outer s H E hr =>
    vs_cons (vs_set 2 sc.nd (vx_lst va_nil)) (vs_cons (vs_for (passes_of rfl) (vi_range1 (by rfl) Y.u_range (va_cons (vx_var 1) va_nil)) (pg_name sc.nd rfl (by first | exact .inl rfl | exact .inr rfl)) gv_name (vs_one (vs_expr (vx_mut F.plainAttrs_list F.slot_list_extend F.type_list_extend mt_extend ty_lst mu_extend (vx_var 2) (va_cons (l_lc sc.nd (vi_any (vx_callF (ms := [false, false]) (F_rows_so_long base) (hr.mono (by decide)) (by rfl) g_rows_so_long k_rows_so_long b_rows_so_long .nil (passAt (takes_of rfl rfl rfl rfl)) (fun _ => .nil) rfl (va_cons (vx_var 0) (va_cons (vx_var 3) va_nil)))) (blkOk_by (N := ["letters", "ahead", "found", "length", "row"]) (sc := defScope (tp 22)) (own := [("row", 4)]) (by decide +kernel)) gv_name kw_name mono_name (fun _ _ _ _ _ => pg_name sc.nd rfl (by first | exact .inl rfl | exact .inr rfl)) (fun _ _ _ _ _ => vpts_nil) (fun _ _ _ _ _ => w_add (vx_var 4) (w_gstr [46] Y.c_STOP))) va_nil))))) (vs_one (vs_ret (w_add (vx_var 2) (vx_callF (ms := [false, false]) (F_rows_so_long base) (hr.mono (by decide)) (by rfl) g_rows_so_long k_rows_so_long b_rows_so_long .nil (passAt (takes_of rfl rfl rfl rfl)) (fun _ => .nil) rfl (va_cons (vx_var 0) (va_cons (vx_var 1) va_nil)))))))⟩
abbrev s_windows : Stmt := tp 26
def b_windows : VS :=
  sSeq (sExpr (vCallF m_want_letters [false] [] (vACons (vVar 0) vANil))) (sSeq (sExpr (vCallF m_want_ahead [false] [] (vACons (vVar 1) vANil))) (sRet (vCallF m_windows_of [false, false] [] (vACons (vVar 0) (vACons (vVar 1) vANil)))))
def m_windows : FM := runDef 2 2 b_windows
theorem sc_windows : FnScope ["letters", "d"] ["letters", "d"] (defScope s_windows) := ⟨rfl, rfl, rfl, by decide +kernel, rfl, by decide +kernel, by decide +kernel⟩
theorem ok_windows (Y : Fx M) : Okd P w M 5 "windows" ["letters", "d"] 2 m_windows := by
  obtain ⟨a_want_letters, d_want_letters, g_want_letters, k_want_letters, b_want_letters, _, F_want_letters⟩ := ok_want_letters (P := P) (w := w) Y
  obtain ⟨a_want_ahead, d_want_ahead, g_want_ahead, k_want_ahead, b_want_ahead, _, F_want_ahead⟩ := ok_want_ahead (P := P) (w := w) Y
  obtain ⟨a_windows_of, d_windows_of, g_windows_of, k_windows_of, b_windows_of, _, F_windows_of⟩ := ok_windows_of (P := P) (w := w) Y
  obtain ⟨a, fd, F0, g0⟩ := Y.d_windows
  have sc := sc_windows
  exact ⟨a, fd, g0, F0.kp, F0.bindsN (fun _ _ _ _ _ _ us hl => match us, hl with | [_, _], _ => rfl), F0.bindsA (fun _ _ _ _ _ _ us hl => match us, hl with | [_, _], _ => rfl), fun base => fnV F0 sc rfl rfl fun cdv A outer s H E hr =>
    vs_cons (vs_expr (vx_callF (ms := [false]) (F_want_letters base) (hr.mono (by decide)) (by rfl) g_want_letters k_want_letters b_want_letters .nil (passAt (takes_of rfl rfl rfl rfl)) (fun _ => .nil) rfl (va_cons (vx_var 0) va_nil))) (vs_cons (vs_expr (vx_callF (ms := [false]) (F_want_ahead base) (hr.mono (by decide)) (by rfl) g_want_ahead k_want_ahead b_want_ahead .nil (passAt (takes_of rfl rfl rfl rfl)) (fun _ => .nil) rfl (va_cons (vx_var 1) va_nil))) (vs_one (vs_ret (vx_callF (ms := [false, false]) (F_windows_of base) (hr.mono (by decide)) (by rfl) g_windows_of k_windows_of b_windows_of .nil (passAt (takes_of rfl rfl rfl rfl)) (fun _ => .nil) rfl (va_cons (vx_var 0) (va_cons (vx_var 1) va_nil))))))⟩
abbrev s__law_views : Stmt := tp 32
def b__law_views : VS :=
  sSeq (sPar 2 3 (vLst (vACons (vC (.str [])) vANil)) (vLst vANil)) (sSeq (sFor (iRange1 (vACons (vVar 1) vANil)) (gNameV 4) (sSeq (sExpr (vMut lstT fExtend (vVar 3) (vACons (vLc (iAny (vVar 2)) [6] (gNameV 6) tYesV (vBin pAdd (vVar 6) (vC (.str [46])))) vANil))) (sSeq (sSet 5 (vLst vANil)) (sSeq (sFor (iAny (vVar 2)) (gNameV 6) (sExpr (vMut lstT fExtend (vVar 5) (vACons (vLc (iAny (vVar 0)) [7] (gNameV 7) tYesV (vBin pAdd (vVar 6) (vVar 7))) vANil)))) (sSet 2 (vVar 5)))))) (sRet (vBin pAdd (vVar 3) (vVar 2))))
def m__law_views : FM := runDef 2 8 b__law_views
theorem sc__law_views : FnScope ["_law_signs_here", "_law_far", "_law_lines", "_law_found", "_law_turn", "_law_longer", "_law_line", "_law_sign"] ["_law_signs_here", "_law_far"] (defScope s__law_views) := ⟨rfl, rfl, rfl, by decide +kernel, rfl, by decide +kernel, by decide +kernel⟩
theorem ok__law_views (Y : Fx M) : Okd P w M 1 "_law_views" ["_law_signs_here", "_law_far"] 2 m__law_views := by
  obtain ⟨a, fd, F0, g0⟩ := Y.d__law_views
  have sc := sc__law_views
  exact ⟨a, fd, g0, F0.kp, F0.bindsN (fun _ _ _ _ _ _ us hl => match us, hl with | [_, _], _ => rfl), F0.bindsA (fun _ _ _ _ _ _ us hl => match us, hl with | [_, _], _ => rfl), fun base => fnV F0 sc rfl rfl fun cdv A outer s H E hr =>
    vs_cons (vs_par 2 3 sc.nd (vx_lst (va_cons (vx_str []) va_nil)) (vx_lst va_nil)) (vs_cons (vs_for (passes_of rfl) (vi_range1 (by rfl) Y.u_range (va_cons (vx_var 1) va_nil)) (pg_name sc.nd rfl (by first | exact .inl rfl | exact .inr rfl)) gv_name (vs_cons (vs_expr (vx_mut F.plainAttrs_list F.slot_list_extend F.type_list_extend mt_extend ty_lst mu_extend (vx_var 3) (va_cons (l_lc sc.nd (vi_any (vx_var 2)) (blkOk_by (N := ["_law_signs_here", "_law_far", "_law_lines", "_law_found", "_law_turn", "_law_longer", "_law_line", "_law_sign"]) (sc := defScope (tp 32)) (own := [("_law_line", 6)]) (by decide +kernel)) gv_name kw_name mono_name (fun _ _ _ _ _ => pg_name sc.nd rfl (by first | exact .inl rfl | exact .inr rfl)) (fun _ _ _ _ _ => vpts_nil) (fun _ _ _ _ _ => w_add (vx_var 6) (vx_str [46]))) va_nil))) (vs_cons (vs_set 5 sc.nd (vx_lst va_nil)) (vs_cons (vs_for (passes_of rfl) (vi_any (vx_var 2)) (pg_name sc.nd rfl (by first | exact .inl rfl | exact .inr rfl)) gv_name (vs_one (vs_expr (vx_mut F.plainAttrs_list F.slot_list_extend F.type_list_extend mt_extend ty_lst mu_extend (vx_var 5) (va_cons (l_lc sc.nd (vi_any (vx_var 0)) (blkOk_by (N := ["_law_signs_here", "_law_far", "_law_lines", "_law_found", "_law_turn", "_law_longer", "_law_line", "_law_sign"]) (sc := defScope (tp 32)) (own := [("_law_sign", 7)]) (by decide +kernel)) gv_name kw_name mono_name (fun _ _ _ _ _ => pg_name sc.nd rfl (by first | exact .inl rfl | exact .inr rfl)) (fun _ _ _ _ _ => vpts_nil) (fun _ _ _ _ _ => w_add (vx_var 6) (vx_var 7))) va_nil))))) (vs_one (vs_set 2 sc.nd (vx_var 5))))))) (vs_one (vs_ret (w_add (vx_var 3) (vx_var 2)))))⟩
abbrev s_want_window : Stmt := tp 23
def b_want_window : VS :=
  sIf (tOrT (tNotT (tst (vCall pIsInst (vACons (vVar 2) (vACons (vC (.ty "str")) vANil))))) (tCmpT pNotIn (vVar 2) (vCallF m_windows_of [false, false] [] (vACons (vVar 0) (vACons (vVar 1) vANil))))) sBad sNx
def m_want_window : FM := runDef 3 3 b_want_window
theorem sc_want_window : FnScope ["letters", "ahead", "value"] ["letters", "ahead", "value"] (defScope s_want_window) := ⟨rfl, rfl, rfl, by decide +kernel, rfl, by decide +kernel, by decide +kernel⟩
theorem ok_want_window (Y : Fx M) : Okd P w M 3 "want_window" ["letters", "ahead", "value"] 3 m_want_window := by
  obtain ⟨a_windows_of, d_windows_of, g_windows_of, k_windows_of, b_windows_of, _, F_windows_of⟩ := ok_windows_of (P := P) (w := w) Y
  obtain ⟨a, fd, F0, g0⟩ := Y.d_want_window
  have sc := sc_want_window
  exact ⟨a, fd, g0, F0.kp, F0.bindsN (fun _ _ _ _ _ _ us hl => match us, hl with | [_, _, _], _ => rfl), F0.bindsA (fun _ _ _ _ _ _ us hl => match us, hl with | [_, _, _], _ => rfl), fun base => fnV F0 sc rfl rfl fun cdv A outer s H E hr =>
    vs_one (vs_if (PW.pt (vw_or (vt_not (vt_val (c_isinstance Y.u_isinstance (va_cons (vx_var 2) (va_cons (w_ty "str" Y.u_str) va_nil))))) (vw_or1 (t_notIn hr (vx_var 2) (vx_callF (ms := [false, false]) (F_windows_of base) (hr.mono (by decide)) (by rfl) g_windows_of k_windows_of b_windows_of .nil (passAt (takes_of rfl rfl rfl rfl)) (fun _ => .nil) rfl (va_cons (vx_var 0) (va_cons (vx_var 1) va_nil))))))) (vs_one vs_never) vs_nil)⟩
abbrev s_ends_in_stop : Stmt := tp 24
def b_ends_in_stop : VS :=
  sRet (vBin (mkB pEq) (vCut (vVar 0) (oSome (vUn pNeg (vC (.int 1)))) oNone) (vC (.str [46])))
def m_ends_in_stop : FM := runDef 1 1 b_ends_in_stop
theorem sc_ends_in_stop : FnScope ["window"] ["window"] (defScope s_ends_in_stop) := ⟨rfl, rfl, rfl, by decide +kernel, rfl, by decide +kernel, by decide +kernel⟩
theorem ok_ends_in_stop (Y : Fx M) : Okd P w M 1 "ends_in_stop" ["window"] 1 m_ends_in_stop := by
  obtain ⟨a, fd, F0, g0⟩ := Y.d_ends_in_stop
  have sc := sc_ends_in_stop
  exact ⟨a, fd, g0, F0.kp, F0.bindsN (fun _ _ _ _ _ _ us hl => match us, hl with | [_], _ => rfl), F0.bindsA (fun _ _ _ _ _ _ us hl => match us, hl with | [_], _ => rfl), fun base => fnV F0 sc rfl rfl fun cdv A outer s H E hr =>
    vs_one (vs_ret (w_eq hr (vx_cut (vx_var 0) (vo_some (w_neg vx_int)) vo_none) (w_gstr [46] Y.c_STOP)))⟩
abbrev s_followers : Stmt := tp 25
def b_followers : VS :=
  sSeq (sIf (tCmpT pIn (vVar 1) (vTup (vACons (vC (.str [])) (vACons (vC (.str [46])) vANil)))) (sRet (vIf (tCmpT pEq (vVar 1) (vC (.str []))) (vLst (vACons (vC (.str [])) vANil)) (vLst vANil))) sNx) (sSeq (sSet 2 (vCut (vVar 1) (oSome (vC (.int 1))) oNone)) (sSeq (sIf (tst (vCallF m_ends_in_stop [false] [] (vACons (vVar 1) vANil))) (sRet (vLst (vACons (vVar 2) vANil))) sNx) (sRet (vBin pAdd (vLst (vACons (vBin pAdd (vVar 2) (vC (.str [46]))) vANil)) (vLc (iAny (vVar 0)) [3] (gNameV 3) tYesV (vBin pAdd (vVar 2) (vVar 3)))))))
def m_followers : FM := runDef 2 4 b_followers
theorem sc_followers : FnScope ["letters", "window", "rest", "letter"] ["letters", "window"] (defScope s_followers) := ⟨rfl, rfl, rfl, by decide +kernel, rfl, by decide +kernel, by decide +kernel⟩
theorem ok_followers (Y : Fx M) : Okd P w M 2 "followers" ["letters", "window"] 2 m_followers := by
  obtain ⟨a_ends_in_stop, d_ends_in_stop, g_ends_in_stop, k_ends_in_stop, b_ends_in_stop, _, F_ends_in_stop⟩ := ok_ends_in_stop (P := P) (w := w) Y
  obtain ⟨a, fd, F0, g0⟩ := Y.d_followers
  have sc := sc_followers
  exact ⟨a, fd, g0, F0.kp, F0.bindsN (fun _ _ _ _ _ _ us hl => match us, hl with | [_, _], _ => rfl), F0.bindsA (fun _ _ _ _ _ _ us hl => match us, hl with | [_, _], _ => rfl), fun base => fnV F0 sc rfl rfl fun cdv A outer s H E hr =>
    vs_cons (vs_if (t_in hr (vx_var 1) (vx_tup (va_cons (vx_str []) (va_cons (w_gstr [46] Y.c_STOP) va_nil)))) (vs_one (vs_ret (vx_if (t_eq hr (vx_var 1) (vx_str [])) (vx_lst (va_cons (vx_str []) va_nil)) (vx_lst va_nil)))) vs_nil) (vs_cons (vs_set 2 sc.nd (vx_cut (vx_var 1) (vo_some vx_int) vo_none)) (vs_cons (vs_if (vt_val (vx_callF (ms := [false]) (F_ends_in_stop base) (hr.mono (by decide)) (by rfl) g_ends_in_stop k_ends_in_stop b_ends_in_stop .nil (passAt (takes_of rfl rfl rfl rfl)) (fun _ => .nil) rfl (va_cons (vx_var 1) va_nil))) (vs_one (vs_ret (vx_lst (va_cons (vx_var 2) va_nil)))) vs_nil) (vs_one (vs_ret (w_add (vx_lst (va_cons (w_add (vx_var 2) (w_gstr [46] Y.c_STOP)) va_nil)) (l_lc sc.nd (vi_any (vx_var 0)) (blkOk_by (N := ["letters", "window", "rest", "letter"]) (sc := defScope (tp 25)) (own := [("letter", 3)]) (by decide +kernel)) gv_name kw_name mono_name (fun _ _ _ _ _ => pg_name sc.nd rfl (by first | exact .inl rfl | exact .inr rfl)) (fun _ _ _ _ _ => vpts_nil) (fun _ _ _ _ _ => w_add (vx_var 2) (vx_var 3))))))))⟩
abbrev s_following : Stmt := tp 27
def b_following : VS :=
  sSeq (sExpr (vCallF m_want_letters [false] [] (vACons (vVar 0) vANil))) (sSeq (sExpr (vCallF m_want_ahead [false] [] (vACons (vVar 1) vANil))) (sSeq (sExpr (vCallF m_want_window [false, false, false] [] (vACons (vVar 0) (vACons (vVar 1) (vACons (vVar 2) vANil))))) (sRet (vCallF m_followers [false, false] [] (vACons (vVar 0) (vACons (vVar 2) vANil))))))
def m_following : FM := runDef 3 3 b_following
theorem sc_following : FnScope ["letters", "d", "window"] ["letters", "d", "window"] (defScope s_following) := ⟨rfl, rfl, rfl, by decide +kernel, rfl, by decide +kernel, by decide +kernel⟩
theorem ok_following (Y : Fx M) : Okd P w M 5 "following" ["letters", "d", "window"] 3 m_following := by
  obtain ⟨a_want_letters, d_want_letters, g_want_letters, k_want_letters, b_want_letters, _, F_want_letters⟩ := ok_want_letters (P := P) (w := w) Y
  obtain ⟨a_want_ahead, d_want_ahead, g_want_ahead, k_want_ahead, b_want_ahead, _, F_want_ahead⟩ := ok_want_ahead (P := P) (w := w) Y
  obtain ⟨a_want_window, d_want_window, g_want_window, k_want_window, b_want_window, _, F_want_window⟩ := ok_want_window (P := P) (w := w) Y
  obtain ⟨a_followers, d_followers, g_followers, k_followers, b_followers, _, F_followers⟩ := ok_followers (P := P) (w := w) Y
  obtain ⟨a, fd, F0, g0⟩ := Y.d_following
  have sc := sc_following
  exact ⟨a, fd, g0, F0.kp, F0.bindsN (fun _ _ _ _ _ _ us hl => match us, hl with | [_, _, _], _ => rfl), F0.bindsA (fun _ _ _ _ _ _ us hl => match us, hl with | [_, _, _], _ => rfl), fun base => fnV F0 sc rfl rfl fun cdv A outer s H E hr =>
    vs_cons (vs_expr (vx_callF (ms := [false]) (F_want_letters base) (hr.mono (by decide)) (by rfl) g_want_letters k_want_letters b_want_letters .nil (passAt (takes_of rfl rfl rfl rfl)) (fun _ => .nil) rfl (va_cons (vx_var 0) va_nil))) (vs_cons (vs_expr (vx_callF (ms := [false]) (F_want_ahead base) (hr.mono (by decide)) (by rfl) g_want_ahead k_want_ahead b_want_ahead .nil (passAt (takes_of rfl rfl rfl rfl)) (fun _ => .nil) rfl (va_cons (vx_var 1) va_nil))) (vs_cons (vs_expr (vx_callF (ms := [false, false, false]) (F_want_window base) (hr.mono (by decide)) (by rfl) g_want_window k_want_window b_want_window .nil (passAt (takes_of rfl rfl rfl rfl)) (fun _ => .nil) rfl (va_cons (vx_var 0) (va_cons (vx_var 1) (va_cons (vx_var 2) va_nil))))) (vs_one (vs_ret (vx_callF (ms := [false, false]) (F_followers base) (hr.mono (by decide)) (by rfl) g_followers k_followers b_followers .nil (passAt (takes_of rfl rfl rfl rfl)) (fun _ => .nil) rfl (va_cons (vx_var 0) (va_cons (vx_var 2) va_nil)))))))⟩
abbrev s__law_many : Stmt := tp 37
def b__law_many : VS :=
  sSeq (sSet 2 (vC (.int 1))) (sSeq (sFor (iRange1 (vACons (vVar 1) vANil)) (gNameV 3) (sSet 2 (vBin pAdd (vBin (pI zMul) (vVar 2) (vVar 0)) (vC (.int 1))))) (sRet (vVar 2)))
def m__law_many : FM := runDef 2 4 b__law_many
theorem sc__law_many : FnScope ["_law_many_here", "_law_far", "_law_found", "_law_turn"] ["_law_many_here", "_law_far"] (defScope s__law_many) := ⟨rfl, rfl, rfl, by decide +kernel, rfl, by decide +kernel, by decide +kernel⟩
theorem ok__law_many (Y : Fx M) : Okd P w M 1 "_law_many" ["_law_many_here", "_law_far"] 2 m__law_many := by
  obtain ⟨a, fd, F0, g0⟩ := Y.d__law_many
  have sc := sc__law_many
  exact ⟨a, fd, g0, F0.kp, F0.bindsN (fun _ _ _ _ _ _ us hl => match us, hl with | [_, _], _ => rfl), F0.bindsA (fun _ _ _ _ _ _ us hl => match us, hl with | [_, _], _ => rfl), fun base => fnV F0 sc rfl rfl fun cdv A outer s H E hr =>
    vs_cons (vs_set 2 sc.nd vx_int) (vs_cons (vs_for (passes_of rfl) (vi_range1 (by rfl) Y.u_range (va_cons (vx_var 1) va_nil)) (pg_name sc.nd rfl (by first | exact .inl rfl | exact .inr rfl)) gv_name (vs_one (vs_set 2 sc.nd (w_add (w_mul (vx_var 2) (vx_var 0)) vx_int)))) (vs_one (vs_ret (vx_var 2))))⟩
abbrev s__law_thens : Stmt := tp 34
def b__law_thens : VS :=
  sSeq (sIf (tCmpT pIn (vVar 1) (vTup (vACons (vC (.str [])) (vACons (vC (.str [46])) vANil)))) (sRet (vIf (tCmpT pEq (vVar 1) (vC (.str []))) (vLst (vACons (vC (.str [])) vANil)) (vLst vANil))) sNx) (sSeq (sIf (tCmpT pEq (vBin pIx (vVar 1) (vUn pNeg (vC (.int 1)))) (vC (.str [46]))) (sRet (vLst (vACons (vCut (vVar 1) (oSome (vC (.int 1))) oNone) vANil))) sNx) (sRet (vBin pAdd (vLst (vACons (vBin pAdd (vCut (vVar 1) (oSome (vC (.int 1))) oNone) (vC (.str [46]))) vANil)) (vLc (iAny (vVar 0)) [2] (gNameV 2) tYesV (vBin pAdd (vCut (vVar 1) (oSome (vC (.int 1))) oNone) (vVar 2))))))
def m__law_thens : FM := runDef 2 3 b__law_thens
theorem sc__law_thens : FnScope ["_law_signs_here", "_law_view", "_law_sign"] ["_law_signs_here", "_law_view"] (defScope s__law_thens) := ⟨rfl, rfl, rfl, by decide +kernel, rfl, by decide +kernel, by decide +kernel⟩
theorem ok__law_thens (Y : Fx M) : Okd P w M 1 "_law_thens" ["_law_signs_here", "_law_view"] 2 m__law_thens := by
  obtain ⟨a, fd, F0, g0⟩ := Y.d__law_thens
  have sc := sc__law_thens
  exact ⟨a, fd, g0, F0.kp, F0.bindsN (fun _ _ _ _ _ _ us hl => match us, hl with | [_, _], _ => rfl), F0.bindsA (fun _ _ _ _ _ _ us hl => match us, hl with | [_, _], _ => rfl), fun base => fnV F0 sc rfl rfl fun cdv A outer s H E hr =>
    vs_cons (vs_if (t_in hr (vx_var 1) (vx_tup (va_cons (vx_str []) (va_cons (vx_str [46]) va_nil)))) (vs_one (vs_ret (vx_if (t_eq hr (vx_var 1) (vx_str [])) (vx_lst (va_cons (vx_str []) va_nil)) (vx_lst va_nil)))) vs_nil) (vs_cons (vs_if (t_eq hr (vx_ix (vx_var 1) (w_neg vx_int)) (vx_str [46])) (vs_one (vs_ret (vx_lst (va_cons (vx_cut (vx_var 1) (vo_some vx_int) vo_none) va_nil)))) vs_nil) (vs_one (vs_ret (w_add (vx_lst (va_cons (w_add (vx_cut (vx_var 1) (vo_some vx_int) vo_none) (vx_str [46])) va_nil)) (l_lc sc.nd (vi_any (vx_var 0)) (blkOk_by (N := ["_law_signs_here", "_law_view", "_law_sign"]) (sc := defScope (tp 34)) (own := [("_law_sign", 2)]) (by decide +kernel)) gv_name kw_name mono_name (fun _ _ _ _ _ => pg_name sc.nd rfl (by first | exact .inl rfl | exact .inr rfl)) (fun _ _ _ _ _ => vpts_nil) (fun _ _ _ _ _ => w_add (vx_cut (vx_var 1) (vo_some vx_int) vo_none) (vx_var 2)))))))⟩
abbrev s__law_seen : Stmt := tp 36
def b__law_seen : VS :=
  sSeq (sSet 3 (vCut (vVar 0) (oSome (vVar 1)) oNone)) (sRet (vIf (tCmpT pGe (vCall pLen (vACons (vVar 3) vANil)) (vVar 2)) (vCut (vVar 3) oNone (oSome (vVar 2))) (vBin pAdd (vVar 3) (vC (.str [46])))))
def m__law_seen : FM := runDef 3 4 b__law_seen
theorem sc__law_seen : FnScope ["_law_line", "_law_place", "_law_far", "_law_rest"] ["_law_line", "_law_place", "_law_far"] (defScope s__law_seen) := ⟨rfl, rfl, rfl, by decide +kernel, rfl, by decide +kernel, by decide +kernel⟩
theorem ok__law_seen (Y : Fx M) : Okd P w M 1 "_law_seen" ["_law_line", "_law_place", "_law_far"] 3 m__law_seen := by
  obtain ⟨a, fd, F0, g0⟩ := Y.d__law_seen
  have sc := sc__law_seen
  exact ⟨a, fd, g0, F0.kp, F0.bindsN (fun _ _ _ _ _ _ us hl => match us, hl with | [_, _, _], _ => rfl), F0.bindsA (fun _ _ _ _ _ _ us hl => match us, hl with | [_, _, _], _ => rfl), fun base => fnV F0 sc rfl rfl fun cdv A outer s H E hr =>
    vs_cons (vs_set 3 sc.nd (vx_cut (vx_var 0) (vo_some (vx_var 1)) vo_none)) (vs_one (vs_ret (vx_if (t_ge (c_len Y.u_len (va_cons (vx_var 3) va_nil)) (vx_var 2)) (vx_cut (vx_var 3) vo_none (vo_some (vx_var 2))) (w_add (vx_var 3) (vx_str [46])))))⟩
abbrev s__law_rows_right : Stmt := tp 38
def b__law_rows_right : VS :=
  sSeq (sSet 3 (vMeth strT pJoin (vC (.str [])) (vACons (vLc (iRange1 (vACons (vCallF m__law_draw [true, false] [] (vACons (vVar 0) (vACons (vC (.int 10)) vANil))) vANil)) [5] (gNameV 5) tYesV (vCallF m__law_pick [true, false] [] (vACons (vVar 0) (vACons (vVar 1) vANil)))) vANil))) (sSeq (sSet 4 (vLc (iRange1 (vACons (vBin pAdd (vCall pLen (vACons (vVar 3) vANil)) (vC (.int 1))) vANil)) [6] (gNameV 6) tYesV (vCallF m__law_seen [false, false, false] [] (vACons (vVar 3) (vACons (vVar 6) (vACons (vVar 2) vANil)))))) (sSeq (sIf (tNotT (tst (vCall pAll (vACons (vLc (iAny (vVar 4)) [7] (gNameV 7) tYesV (vBin (mkB pIn) (vVar 7) (vCallF m_windows [false, false] [] (vACons (vVar 1) (vACons (vVar 2) vANil))))) vANil)))) (sRet (vC (.bl false))) sNx) (sSeq (sIf (tAndT (tCmpT pGt (vVar 2) (vC (.int 0))) (tOrT (tCmpT pNe (vCallF m_following [false, false, false] [] (vACons (vVar 1) (vACons (vVar 2) (vACons (vBin pIx (vVar 4) (vUn pNeg (vC (.int 1)))) vANil)))) (vLst vANil)) (tCmpT pNe (vBin pIx (vVar 4) (vUn pNeg (vC (.int 1)))) (vC (.str [46]))))) (sRet (vC (.bl false))) sNx) (sRet (vCall pAll (vACons (vLc (iZipV (vACons (vVar 4) (vACons (vCut (vVar 4) (oSome (vC (.int 1))) oNone) vANil))) [7, 8] (gTupV [gNameV 7, gNameV 8]) tYesV (vBin (mkB pIn) (vVar 8) (vCallF m_following [false, false, false] [] (vACons (vVar 1) (vACons (vVar 2) (vACons (vVar 7) vANil)))))) vANil))))))
def m__law_rows_right : FM := runDef 3 9 b__law_rows_right
theorem sc__law_rows_right : FnScope ["_law_pot_here", "_law_signs_here", "_law_far", "_law_line", "_law_seen_here", "_law_turn", "_law_place", "_law_view", "_law_later"] ["_law_pot_here", "_law_signs_here", "_law_far"] (defScope s__law_rows_right) := ⟨rfl, rfl, rfl, by decide +kernel, rfl, by decide +kernel, by decide +kernel⟩
theorem ok__law_rows_right (Y : Fx M) : Okd P w M 6 "_law_rows_right" ["_law_pot_here", "_law_signs_here", "_law_far"] 3 m__law_rows_right := by
  obtain ⟨a__law_seen, d__law_seen, g__law_seen, k__law_seen, b__law_seen, _, F__law_seen⟩ := ok__law_seen (P := P) (w := w) Y
  obtain ⟨a__law_pick, d__law_pick, g__law_pick, k__law_pick, b__law_pick, _, F__law_pick⟩ := ok__law_pick (P := P) (w := w) Y
  obtain ⟨a_following, d_following, g_following, k_following, b_following, _, F_following⟩ := ok_following (P := P) (w := w) Y
  obtain ⟨a__law_draw, d__law_draw, g__law_draw, k__law_draw, b__law_draw, _, F__law_draw⟩ := ok__law_draw (P := P) (w := w) Y
  obtain ⟨a_windows, d_windows, g_windows, k_windows, b_windows, _, F_windows⟩ := ok_windows (P := P) (w := w) Y
  obtain ⟨a, fd, F0, g0⟩ := Y.d__law_rows_right
  have sc := sc__law_rows_right
  exact ⟨a, fd, g0, F0.kp, F0.bindsN (fun _ _ _ _ _ _ us hl => match us, hl with | [_, _, _], _ => rfl), F0.bindsA (fun _ _ _ _ _ _ us hl => match us, hl with | [_, _, _], _ => rfl), fun base => fnV F0 sc rfl rfl fun cdv A outer s H E hr =>
    vs_cons (vs_set 3 sc.nd (vx_meth F.plainAttrs_str F.slot_str_join F.type_str_join mt_join ty_str (mv_join rfl) (vx_str []) (va_cons (l_lc sc.nd (vi_range1 (by rfl) Y.u_range (va_cons (vx_callF (ms := [true, false]) (F__law_draw base) (hr.mono (by decide)) (by rfl) g__law_draw k__law_draw b__law_draw .nil (passAt (takes_of rfl rfl rfl rfl)) (fun _ => .nil) rfl (va_cons (vx_var 0) (va_cons vx_int va_nil))) va_nil)) (blkOk_by (N := ["_law_pot_here", "_law_signs_here", "_law_far", "_law_line", "_law_seen_here", "_law_turn", "_law_place", "_law_view", "_law_later"]) (sc := defScope (tp 38)) (own := [("_law_turn", 5)]) (by decide +kernel)) gv_name kw_name mono_name (fun _ _ _ _ _ => pg_name sc.nd rfl (by first | exact .inl rfl | exact .inr rfl)) (fun _ _ _ _ _ => vpts_nil) (fun _ _ _ _ _ => vx_callF (ms := [true, false]) (F__law_pick base) (hr.mono (by decide)) (by rfl) g__law_pick k__law_pick b__law_pick .nil (fun σ => passEN σ _ fun _ _ _ h => h) (fun _ => .nil) rfl (va_cons (vx_var 0) (va_cons (vx_var 1) va_nil)))) va_nil))) (vs_cons (l_setLc 4 sc.nd (vi_range1 (by rfl) Y.u_range (va_cons (w_add (c_len Y.u_len (va_cons (vx_var 3) va_nil)) vx_int) va_nil)) (blkOk_by (N := ["_law_pot_here", "_law_signs_here", "_law_far", "_law_line", "_law_seen_here", "_law_turn", "_law_place", "_law_view", "_law_later"]) (sc := defScope (tp 38)) (own := [("_law_place", 6)]) (by decide +kernel)) gv_name kw_name mono_name (fun _ _ _ _ _ => pg_name sc.nd rfl (by first | exact .inl rfl | exact .inr rfl)) (fun _ _ _ _ _ => vpts_nil) (fun _ _ _ _ _ => vx_callF (ms := [false, false, false]) (F__law_seen base) (hr.mono (by decide)) (by rfl) g__law_seen k__law_seen b__law_seen .nil (fun σ => passEN σ _ fun _ _ _ h => h) (fun _ => .nil) rfl (va_cons (vx_var 3) (va_cons (vx_var 6) (va_cons (vx_var 2) va_nil))))) (vs_cons (vs_if (vt_not (vt_val (c_all Y.u_all (va_cons (l_lc sc.nd (vi_any (vx_var 4)) (blkOk_by (N := ["_law_pot_here", "_law_signs_here", "_law_far", "_law_line", "_law_seen_here", "_law_turn", "_law_place", "_law_view", "_law_later"]) (sc := defScope (tp 38)) (own := [("_law_view", 7)]) (by decide +kernel)) gv_name kw_name mono_name (fun _ _ _ _ _ => pg_name sc.nd rfl (by first | exact .inl rfl | exact .inr rfl)) (fun _ _ _ _ _ => vpts_nil) (fun _ _ _ _ _ => w_in hr (vx_var 7) (vx_callF (ms := [false, false]) (F_windows base) (hr.mono (by decide)) (by rfl) g_windows k_windows b_windows .nil (fun σ => passEN σ _ fun _ _ _ h => h) (fun _ => .nil) rfl (va_cons (vx_var 1) (va_cons (vx_var 2) va_nil))))) va_nil)))) (vs_one (vs_ret vx_bl)) vs_nil) (vs_cons (vs_if (PW.pt (vw_and (t_gt (vx_var 2) vx_int) (vw_and1 (PW.pt (vw_or (t_ne hr (vx_callF (ms := [false, false, false]) (F_following base) (hr.mono (by decide)) (by rfl) g_following k_following b_following .nil (passAt (takes_of rfl rfl rfl rfl)) (fun _ => .nil) rfl (va_cons (vx_var 1) (va_cons (vx_var 2) (va_cons (vx_ix (vx_var 4) (w_neg vx_int)) va_nil)))) (vx_lst va_nil)) (vw_or1 (t_ne hr (vx_ix (vx_var 4) (w_neg vx_int)) (vx_str [46])))))))) (vs_one (vs_ret vx_bl)) vs_nil) (vs_one (vs_ret (c_all Y.u_all (va_cons (l_lc sc.nd (vi_zip (by rfl) Y.u_zip (va_cons (vx_var 4) (va_cons (vx_cut (vx_var 4) (vo_some vx_int) vo_none) va_nil))) (blkOk_by (N := ["_law_pot_here", "_law_signs_here", "_law_far", "_law_line", "_law_seen_here", "_law_turn", "_law_place", "_law_view", "_law_later"]) (sc := defScope (tp 38)) (own := [("_law_view", 7), ("_law_later", 8)]) (by decide +kernel)) (gv_tup (gvs_cons gv_name (gvs_cons gv_name gvs_nil)) (calms_cons calm_name (calms_cons calm_name calms_nil))) (kw_tup (kws_cons mono_name (monos_cons mono_name monos_nil) kw_name (kws_cons mono_name monos_nil kw_name kws_nil))) (mono_tup (monos_cons mono_name (monos_cons mono_name monos_nil))) (fun _ _ _ _ _ => pg_tup rfl (pgs_cons (pg_name sc.nd rfl (by first | exact .inl rfl | exact .inr rfl)) (pgs_cons (pg_name sc.nd rfl (by first | exact .inl rfl | exact .inr rfl)) pgs_nil))) (fun _ _ _ _ _ => vpts_nil) (fun _ _ _ _ _ => w_in hr (vx_var 8) (vx_callF (ms := [false, false, false]) (F_following base) (hr.mono (by decide)) (by rfl) g_following k_following b_following .nil (fun σ => passEN σ _ fun _ _ _ h => h) (fun _ => .nil) rfl (va_cons (vx_var 1) (va_cons (vx_var 2) (va_cons (vx_var 7) va_nil)))))) va_nil)))))))⟩
abbrev s__law_right : Stmt := tp 39
def b__law_right : VS :=
  sSeq (sSet 1 (vCallF m__law_signs [true] [] (vACons (vVar 0) vANil))) (sSeq (sFor (iRange1 (vACons (vC (.int 4)) vANil)) (gNameV 2) (sSeq (sPar 3 4 (vCallF m__law_views [false, false] [] (vACons (vVar 1) (vACons (vVar 2) vANil))) (vCallF m_windows [false, false] [] (vACons (vVar 1) (vACons (vVar 2) vANil)))) (sSeq (sIf (tOrT (tCmpT pNe (vVar 4) (vVar 3)) (tOrT (tCmpT pNe (vLenSet (vVar 4)) (vCall pLen (vACons (vVar 4) vANil))) (tCmpT pNe (vCall pLen (vACons (vVar 4) vANil)) (vCallF m__law_many [false, false] [] (vACons (vCall pLen (vACons (vVar 1) vANil)) (vACons (vVar 2) vANil)))))) (sRet (vC (.bl false))) sNx) (sSeq (sFor (iAny (vVar 3)) (gNameV 5) (sSeq (sSet 4 (vCallF m_following [false, false, false] [] (vACons (vVar 1) (vACons (vVar 2) (vACons (vVar 5) vANil))))) (sSeq (sIf (tCmpT pNe (vVar 4) (vCallF m__law_thens [false, false] [] (vACons (vVar 1) (vACons (vVar 5) vANil)))) (sRet (vC (.bl false))) sNx) (sSeq (sExpr (vMut lstT fAppend (vVar 4) (vACons (vC (.str [120])) vANil))) (sIf (tCmpT pNe (vCallF m_following [false, false, false] [] (vACons (vVar 1) (vACons (vVar 2) (vACons (vVar 5) vANil)))) (vCallF m__law_thens [false, false] [] (vACons (vVar 1) (vACons (vVar 5) vANil)))) (sRet (vC (.bl false))) sNx))))) (sSeq (sSet 4 (vCallF m_windows [false, false] [] (vACons (vVar 1) (vACons (vVar 2) vANil)))) (sSeq (sExpr (vMut0 lstT fClear (vVar 4))) (sIf (tOrT (tCmpT pNe (vCallF m_windows [false, false] [] (vACons (vVar 1) (vACons (vVar 2) vANil))) (vVar 3)) (tNotT (tst (vCallF m__law_rows_right [true, false, false] [] (vACons (vVar 0) (vACons (vVar 1) (vACons (vVar 2) vANil))))))) (sRet (vC (.bl false))) sNx))))))) (sRet (vAnd (vBin (mkB pEq) (vCallF m_windows [false, false] [] (vACons (vC (.str [97, 98])) (vACons (vC (.int 1)) vANil))) (vLst (vACons (vC (.str [46])) (vACons (vC (.str [97])) (vACons (vC (.str [98])) vANil))))) (vBin (mkB pEq) (vCallF m_following [false, false, false] [] (vACons (vC (.str [97, 98])) (vACons (vC (.int 1)) (vACons (vC (.str [98])) vANil)))) (vLst (vACons (vC (.str [46])) (vACons (vC (.str [97])) (vACons (vC (.str [98])) vANil))))))))
def m__law_right : FM := runDef 1 6 b__law_right
theorem sc__law_right : FnScope ["_law_pot_here", "_law_signs_here", "_law_far", "_law_due", "_law_said", "_law_view"] ["_law_pot_here"] (defScope s__law_right) := ⟨rfl, rfl, rfl, by decide +kernel, rfl, by decide +kernel, by decide +kernel⟩
theorem ok__law_right (Y : Fx M) : Okd P w M 7 "_law_right" ["_law_pot_here"] 1 m__law_right := by
  obtain ⟨a__law_signs, d__law_signs, g__law_signs, k__law_signs, b__law_signs, _, F__law_signs⟩ := ok__law_signs (P := P) (w := w) Y
  obtain ⟨a_windows, d_windows, g_windows, k_windows, b_windows, _, F_windows⟩ := ok_windows (P := P) (w := w) Y
  obtain ⟨a__law_views, d__law_views, g__law_views, k__law_views, b__law_views, _, F__law_views⟩ := ok__law_views (P := P) (w := w) Y
  obtain ⟨a_following, d_following, g_following, k_following, b_following, _, F_following⟩ := ok_following (P := P) (w := w) Y
  obtain ⟨a__law_many, d__law_many, g__law_many, k__law_many, b__law_many, _, F__law_many⟩ := ok__law_many (P := P) (w := w) Y
  obtain ⟨a__law_thens, d__law_thens, g__law_thens, k__law_thens, b__law_thens, _, F__law_thens⟩ := ok__law_thens (P := P) (w := w) Y
  obtain ⟨a__law_rows_right, d__law_rows_right, g__law_rows_right, k__law_rows_right, b__law_rows_right, _, F__law_rows_right⟩ := ok__law_rows_right (P := P) (w := w) Y
  obtain ⟨a, fd, F0, g0⟩ := Y.d__law_right
  have sc := sc__law_right
  exact ⟨a, fd, g0, F0.kp, F0.bindsN (fun _ _ _ _ _ _ us hl => match us, hl with | [_], _ => rfl), F0.bindsA (fun _ _ _ _ _ _ us hl => match us, hl with | [_], _ => rfl), fun base => fnV F0 sc rfl rfl fun cdv A outer s H E hr =>
    vs_cons (vs_set 1 sc.nd (vx_callF (ms := [true]) (F__law_signs base) (hr.mono (by decide)) (by rfl) g__law_signs k__law_signs b__law_signs .nil (passAt (takes_of rfl rfl rfl rfl)) (fun _ => .nil) rfl (va_cons (vx_var 0) va_nil))) (vs_cons (vs_for (passes_of rfl) (vi_range1 (by rfl) Y.u_range (va_cons vx_int va_nil)) (pg_name sc.nd rfl (by first | exact .inl rfl | exact .inr rfl)) gv_name (vs_cons (vs_par 3 4 sc.nd (vx_callF (ms := [false, false]) (F__law_views base) (hr.mono (by decide)) (by rfl) g__law_views k__law_views b__law_views .nil (passAt (takes_of rfl rfl rfl rfl)) (fun _ => .nil) rfl (va_cons (vx_var 1) (va_cons (vx_var 2) va_nil))) (vx_callF (ms := [false, false]) (F_windows base) (hr.mono (by decide)) (by rfl) g_windows k_windows b_windows .nil (passAt (takes_of rfl rfl rfl rfl)) (fun _ => .nil) rfl (va_cons (vx_var 1) (va_cons (vx_var 2) va_nil)))) (vs_cons (vs_if (PW.pt (vw_or (t_ne hr (vx_var 4) (vx_var 3)) (vw_or (t_ne hr (vx_lenSet (by rfl) (by rfl) (by rfl) Y.u_len (by rfl) Y.u_set (vx_var 4)) (c_len Y.u_len (va_cons (vx_var 4) va_nil))) (vw_or1 (t_ne hr (c_len Y.u_len (va_cons (vx_var 4) va_nil)) (vx_callF (ms := [false, false]) (F__law_many base) (hr.mono (by decide)) (by rfl) g__law_many k__law_many b__law_many .nil (passAt (takes_of rfl rfl rfl rfl)) (fun _ => .nil) rfl (va_cons (c_len Y.u_len (va_cons (vx_var 1) va_nil)) (va_cons (vx_var 2) va_nil)))))))) (vs_one (vs_ret vx_bl)) vs_nil) (vs_cons (vs_for (passes_of rfl) (vi_any (vx_var 3)) (pg_name sc.nd rfl (by first | exact .inl rfl | exact .inr rfl)) gv_name (vs_cons (vs_set 4 sc.nd (vx_callF (ms := [false, false, false]) (F_following base) (hr.mono (by decide)) (by rfl) g_following k_following b_following .nil (passAt (takes_of rfl rfl rfl rfl)) (fun _ => .nil) rfl (va_cons (vx_var 1) (va_cons (vx_var 2) (va_cons (vx_var 5) va_nil))))) (vs_cons (vs_if (t_ne hr (vx_var 4) (vx_callF (ms := [false, false]) (F__law_thens base) (hr.mono (by decide)) (by rfl) g__law_thens k__law_thens b__law_thens .nil (passAt (takes_of rfl rfl rfl rfl)) (fun _ => .nil) rfl (va_cons (vx_var 1) (va_cons (vx_var 5) va_nil)))) (vs_one (vs_ret vx_bl)) vs_nil) (vs_cons (vs_expr (vx_mut F.plainAttrs_list F.slot_list_append F.type_list_append mt_append ty_lst mu_append (vx_var 4) (va_cons (vx_str [120]) va_nil))) (vs_one (vs_if (t_ne hr (vx_callF (ms := [false, false, false]) (F_following base) (hr.mono (by decide)) (by rfl) g_following k_following b_following .nil (passAt (takes_of rfl rfl rfl rfl)) (fun _ => .nil) rfl (va_cons (vx_var 1) (va_cons (vx_var 2) (va_cons (vx_var 5) va_nil)))) (vx_callF (ms := [false, false]) (F__law_thens base) (hr.mono (by decide)) (by rfl) g__law_thens k__law_thens b__law_thens .nil (passAt (takes_of rfl rfl rfl rfl)) (fun _ => .nil) rfl (va_cons (vx_var 1) (va_cons (vx_var 5) va_nil)))) (vs_one (vs_ret vx_bl)) vs_nil)))))) (vs_cons (vs_set 4 sc.nd (vx_callF (ms := [false, false]) (F_windows base) (hr.mono (by decide)) (by rfl) g_windows k_windows b_windows .nil (passAt (takes_of rfl rfl rfl rfl)) (fun _ => .nil) rfl (va_cons (vx_var 1) (va_cons (vx_var 2) va_nil)))) (vs_cons (vs_expr (vx_mut0 F.plainAttrs_list F.slot_list_clear F.type_list_clear mt_clear ty_lst mu_clear (vx_var 4))) (vs_one (vs_if (PW.pt (vw_or (t_ne hr (vx_callF (ms := [false, false]) (F_windows base) (hr.mono (by decide)) (by rfl) g_windows k_windows b_windows .nil (passAt (takes_of rfl rfl rfl rfl)) (fun _ => .nil) rfl (va_cons (vx_var 1) (va_cons (vx_var 2) va_nil))) (vx_var 3)) (vw_or1 (vt_not (vt_val (vx_callF (ms := [true, false, false]) (F__law_rows_right base) (hr.mono (by decide)) (by rfl) g__law_rows_right k__law_rows_right b__law_rows_right .nil (passAt (takes_of rfl rfl rfl rfl)) (fun _ => .nil) rfl (va_cons (vx_var 0) (va_cons (vx_var 1) (va_cons (vx_var 2) va_nil))))))))) (vs_one (vs_ret vx_bl)) vs_nil)))))))) (vs_one (vs_ret (vx_and (w_eq hr (vx_callF (ms := [false, false]) (F_windows base) (hr.mono (by decide)) (by rfl) g_windows k_windows b_windows .nil (passAt (takes_of rfl rfl rfl rfl)) (fun _ => .nil) rfl (va_cons (vx_str [97, 98]) (va_cons vx_int va_nil))) (vx_lst (va_cons (vx_str [46]) (va_cons (vx_str [97]) (va_cons (vx_str [98]) va_nil))))) (vx_one (w_eq hr (vx_callF (ms := [false, false, false]) (F_following base) (hr.mono (by decide)) (by rfl) g_following k_following b_following .nil (passAt (takes_of rfl rfl rfl rfl)) (fun _ => .nil) rfl (va_cons (vx_str [97, 98]) (va_cons vx_int (va_cons (vx_str [98]) va_nil)))) (vx_lst (va_cons (vx_str [46]) (va_cons (vx_str [97]) (va_cons (vx_str [98]) va_nil))))))))))⟩
abbrev s__law_pot : Stmt := tp 29
def b__law_pot : VS :=
  sSeq (sSet 2 (vBin pAdd (vBin (pI zMul) (vC (.int 41)) (vVar 1)) (vC (.int 19)))) (sSeq (sIf (tCmpT pLt (vVar 1) (vCall pLen (vACons (vVar 0) vANil))) (sSet 2 (vCall pAbs (vACons (vBin pIx (vVar 0) (vVar 1)) vANil))) sNx) (sRet (vLst (vACons (vCall pMax (vACons (vC (.int 0)) (vACons (vBin (pI zSub) (vVar 2) (vBin (pI zPow) (vC (.int 10)) (vC (.int 18)))) vANil))) (vACons (vBin pAdd (vBin (pI zMod) (vBin (pI zMul) (vCall pInt (vACons (vBin pAdd (vBin (pI zMod) (vCall pInt (vACons (vVar 2) vANil)) (vC (.int 2147483549))) (vC (.int 5))) vANil)) (vBin (pI zPow) (vBin pAdd (vBin (pI zMul) (vC (.int 2)) (vVar 1)) (vC (.int 3))) (vC (.int 3)))) (vC (.int 2147483587))) (vC (.int 1))) vANil)))))
def m__law_pot : FM := runDef 2 3 b__law_pot
theorem sc__law_pot : FnScope ["_law_script", "_law_cell", "_law_own"] ["_law_script", "_law_cell"] (defScope s__law_pot) := ⟨rfl, rfl, rfl, by decide +kernel, rfl, by decide +kernel, by decide +kernel⟩
theorem ok__law_pot (Y : Fx M) : Okd P w M 1 "_law_pot" ["_law_script", "_law_cell"] 2 m__law_pot := by
  obtain ⟨a, fd, F0, g0⟩ := Y.d__law_pot
  have sc := sc__law_pot
  exact ⟨a, fd, g0, F0.kp, F0.bindsN (fun _ _ _ _ _ _ us hl => match us, hl with | [_, _], _ => rfl), F0.bindsA (fun _ _ _ _ _ _ us hl => match us, hl with | [_, _], _ => rfl), fun base => fnV F0 sc rfl rfl fun cdv A outer s H E hr =>
    vs_cons (vs_set 2 sc.nd (w_add (w_mul vx_int (vx_var 1)) vx_int)) (vs_cons (vs_if (t_lt (vx_var 1) (c_len Y.u_len (va_cons (vx_var 0) va_nil))) (vs_one (vs_set 2 sc.nd (c_abs Y.u_abs (va_cons (vx_ix (vx_var 0) (vx_var 1)) va_nil)))) vs_nil) (vs_one (vs_ret (vx_lst (va_cons (c_max Y.u_max (va_cons vx_int (va_cons (w_sub (vx_var 2) (w_pow vx_int vx_int)) va_nil))) (va_cons (w_add (w_mod (w_mul (c_int Y.u_int (va_cons (w_add (w_mod (c_int Y.u_int (va_cons (vx_var 2) va_nil)) vx_int) vx_int) va_nil)) (w_pow (w_add (w_mul vx_int (vx_var 1)) vx_int) vx_int)) vx_int) vx_int) va_nil))))))⟩
abbrev s_law : Stmt := tp 40
def b_law : VS :=
  sRet (vCall pAll (vACons (vLc (iRange1 (vACons (vCall pMax (vACons (vC (.int 1)) (vACons (vCall pMin (vACons (vC (.int 6)) (vACons (vCall pLen (vACons (vVar 0) vANil)) vANil))) vANil))) vANil)) [1] (gNameV 1) tYesV (vCall1 m__law_right (vCallF m__law_pot [false, false] [] (vACons (vVar 0) (vACons (vVar 1) vANil))))) vANil))
def m_law : FM := runDef 1 2 b_law
theorem sc_law : FnScope ["_law_script", "_law_cell"] ["_law_script"] (defScope s_law) := ⟨rfl, rfl, rfl, by decide +kernel, rfl, by decide +kernel, by decide +kernel⟩
theorem ok_law (Y : Fx M) : Okd P w M 8 "law" ["_law_script"] 1 m_law := by
  obtain ⟨a__law_right, d__law_right, g__law_right, k__law_right, b__law_right, _, F__law_right⟩ := ok__law_right (P := P) (w := w) Y
  obtain ⟨a__law_pot, d__law_pot, g__law_pot, k__law_pot, b__law_pot, _, F__law_pot⟩ := ok__law_pot (P := P) (w := w) Y
  obtain ⟨a, fd, F0, g0⟩ := Y.d_law
  have sc := sc_law
  exact ⟨a, fd, g0, F0.kp, F0.bindsN (fun _ _ _ _ _ _ us hl => match us, hl with | [_], _ => rfl), F0.bindsA (fun _ _ _ _ _ _ us hl => match us, hl with | [_], _ => rfl), fun base => fnV F0 sc rfl rfl fun cdv A outer s H E hr =>
    vs_one (vs_ret (c_all Y.u_all (va_cons (l_lc sc.nd (vi_range1 (by rfl) Y.u_range (va_cons (c_max Y.u_max (va_cons vx_int (va_cons (c_min Y.u_min (va_cons vx_int (va_cons (c_len Y.u_len (va_cons (vx_var 0) va_nil)) va_nil))) va_nil))) va_nil)) (blkOk_by (N := ["_law_script", "_law_cell"]) (sc := defScope (tp 40)) (own := [("_law_cell", 1)]) (by decide +kernel)) gv_name kw_name mono_name (fun _ _ _ _ _ => pg_name sc.nd rfl (by first | exact .inl rfl | exact .inr rfl)) (fun _ _ _ _ _ => vpts_nil) (fun _ _ _ _ _ => vx_call1 (F__law_right base) (hr.mono (by decide)) (by rfl) g__law_right k__law_right b__law_right (fun σ => passEN σ _ fun _ _ _ h => h) (vx_callF (ms := [false, false]) (F__law_pot base) (hr.mono (by decide)) (by rfl) g__law_pot k__law_pot b__law_pot .nil (fun σ => passEN σ _ fun _ _ _ h => h) (fun _ => .nil) rfl (va_cons (vx_var 0) (va_cons (vx_var 1) va_nil))))) va_nil)))⟩
end
end K61

set_option Elab.async false
set_option linter.all false
set_option maxRecDepth 100000
set_option maxHeartbeats 0
namespace K61
open PySem PySem.Spec PyProof.Rows L2 L2.VL
abbrev pt (a b : Int) : PV := .lst [.int a, .int b]
structure Pot (a b : Int) : Prop where
  a0 : 0 ≤ a
  b0 : 0 ≤ b
  b1 : b < 4294967296
theorem e_draw {a b m : Int} (P : Pot a b) (m0 : 0 < m) (m1 : m < 1000) : ∃ d a' b' s, m__law_draw [.io (pt a b), .fz (.int m)] = .ok (.fz (.int d)) [.io (pt a' b'), .fz (.int m), s] ∧ 0 ≤ d ∧ d < m ∧ Pot a' b' := by
  unfold m__law_draw b__law_draw
  by_cases h : 0 < a
  · refine ⟨a % m, a / m, b, .fz (.int (a % m)), ?_, Int.emod_nonneg _ (by omega), Int.emod_lt_of_pos _ m0, ⟨Int.ediv_nonneg P.a0 (by omega), P.b0, P.b1⟩⟩
    simp [Rs.bind, opt, vVar, vC, vBin, vUn, vAnd, vOr, vNot, vIf, vANil, vACons, vTup, vLst, freezeAll, vCall, valAll, truth, tst, tAndT, tOrT, tNotT, tCmpT, tChainT, vChainV, mkB, boolOf, L2.VL.settle, val, freeze, sNx, sBk, sCt, sBad, sSeq, sExpr, sRet, sRetN, sIf, canPut, put, sSet, gNameV, gAll, gTupV, gSubV, sAsg, setAt, upSlot, keep, sPar, vMut, vMut0, lstT, strT, vMeth, fAppend, fExtend, fClear, runDef, retC, callF, vCallF, frzArgs, ioArgs, ioIdx, takeBack, nodupB, norf, vCall1, pAdd, pI, zSub, zMul, cMul, zMod, zDiv, zPow, gLtI, pIx, pNeg, pInt, pMax, pMin, pAbs, pDivmod, pLen, pList, intOf, oSome, oNone, vCut, pCut, iAny, atI, ixN, tYesV, h, m0, smallZ_of (k := 1073741823) (i := m) (by omega) (by omega)]
  · have z : (0 : Int) ≤ (b * 48271 + 12343) % 2147483629 := Int.emod_nonneg _ (by decide)
    have y : (b * 48271 + 12343) % 2147483629 < 2147483629 := Int.emod_lt_of_pos _ (by decide)
    have b0 := P.b0
    have b1 := P.b1
    generalize q : (b * 48271 + 12343) % 2147483629 = b' at z y
    refine ⟨b' * b' % 2147483579 / 13 % m, a, b', .un, ?_, Int.emod_nonneg _ (by omega), Int.emod_lt_of_pos _ m0, ⟨P.a0, z, by omega⟩⟩
    simp [Rs.bind, opt, vVar, vC, vBin, vUn, vAnd, vOr, vNot, vIf, vANil, vACons, vTup, vLst, freezeAll, vCall, valAll, truth, tst, tAndT, tOrT, tNotT, tCmpT, tChainT, vChainV, mkB, boolOf, L2.VL.settle, val, freeze, sNx, sBk, sCt, sBad, sSeq, sExpr, sRet, sRetN, sIf, canPut, put, sSet, gNameV, gAll, gTupV, gSubV, sAsg, setAt, upSlot, keep, sPar, vMut, vMut0, lstT, strT, vMeth, fAppend, fExtend, fClear, runDef, retC, callF, vCallF, frzArgs, ioArgs, ioIdx, takeBack, nodupB, norf, vCall1, pAdd, pI, zSub, zMul, cMul, zMod, zDiv, zPow, gLtI, pIx, pNeg, pInt, pMax, pMin, pAbs, pDivmod, pLen, pList, intOf, oSome, oNone, vCut, pCut, iAny, atI, ixN, tYesV, h, m0, q, smallZ_of (k := 18446744073709551614) (i := b) (by omega) (by omega), smallZ_of (k := 18446744073709551614) (i := b') (by omega) (by omega), smallZ_of (k := 1073741823) (i := 13) (by omega) (by omega)]
theorem e_pickS {a b : Int} {l : List Nat} (P : Pot a b) (h0 : 0 < l.length) (h1 : l.length < 1000) : ∃ c a' b', m__law_pick [.io (pt a b), .fz (.str l)] = .ok (.fz (.str [c])) [.io (pt a' b'), .fz (.str l)] ∧ c ∈ l ∧ Pot a' b' := by
  obtain ⟨d, a', b', s, e, d0, d1, P'⟩ := e_draw (m := (l.length : Int)) P (by omega) (by omega)
  have hd : d.toNat < l.length := by omega
  refine ⟨l[d.toNat], a', b', ?_, List.getElem_mem hd, P'⟩
  unfold m__law_pick b__law_pick
  have e1 : l[d.toNat]? = some l[d.toNat] := List.getElem?_eq_getElem hd
  simp [Rs.bind, opt, vVar, vC, vBin, vUn, vAnd, vOr, vNot, vIf, vANil, vACons, vTup, vLst, freezeAll, vCall, valAll, truth, tst, tAndT, tOrT, tNotT, tCmpT, tChainT, vChainV, mkB, boolOf, L2.VL.settle, val, freeze, sNx, sBk, sCt, sBad, sSeq, sExpr, sRet, sRetN, sIf, canPut, put, sSet, gNameV, gAll, gTupV, gSubV, sAsg, setAt, upSlot, keep, sPar, vMut, vMut0, lstT, strT, vMeth, fAppend, fExtend, fClear, runDef, retC, callF, vCallF, frzArgs, ioArgs, ioIdx, takeBack, nodupB, norf, vCall1, pAdd, pI, zSub, zMul, cMul, zMod, zDiv, zPow, gLtI, pIx, pNeg, pInt, pMax, pMin, pAbs, pDivmod, pLen, pList, intOf, oSome, oNone, vCut, pCut, iAny, atI, ixN, tYesV, e, e1, d0, d1, show l.length ≤ sizeLine by rw [sizeLine_eq]; omega]
theorem e_pickL {a b : Int} {xs : List (List Nat)} (P : Pot a b) (h0 : 0 < xs.length) (h1 : xs.length < 1000) : ∃ x a' b', m__law_pick [.io (pt a b), .fz (.lst (xs.map PV.str))] = .ok (.fz (.str x)) [.io (pt a' b'), .fz (.lst (xs.map PV.str))] ∧ x ∈ xs ∧ Pot a' b' := by
  obtain ⟨d, a', b', s, e, d0, d1, P'⟩ := e_draw (m := (xs.length : Int)) P (by omega) (by omega)
  have hd : d.toNat < xs.length := by omega
  refine ⟨xs[d.toNat], a', b', ?_, List.getElem_mem hd, P'⟩
  unfold m__law_pick b__law_pick
  have e1 : xs[d.toNat]? = some xs[d.toNat] := List.getElem?_eq_getElem hd
  simp [Rs.bind, opt, vVar, vC, vBin, vUn, vAnd, vOr, vNot, vIf, vANil, vACons, vTup, vLst, freezeAll, vCall, valAll, truth, tst, tAndT, tOrT, tNotT, tCmpT, tChainT, vChainV, mkB, boolOf, L2.VL.settle, val, freeze, sNx, sBk, sCt, sBad, sSeq, sExpr, sRet, sRetN, sIf, canPut, put, sSet, gNameV, gAll, gTupV, gSubV, sAsg, setAt, upSlot, keep, sPar, vMut, vMut0, lstT, strT, vMeth, fAppend, fExtend, fClear, runDef, retC, callF, vCallF, frzArgs, ioArgs, ioIdx, takeBack, nodupB, norf, vCall1, pAdd, pI, zSub, zMul, cMul, zMod, zDiv, zPow, gLtI, pIx, pNeg, pInt, pMax, pMin, pAbs, pDivmod, pLen, pList, intOf, oSome, oNone, vCut, pCut, iAny, atI, ixN, tYesV, e, e1, d0, d1]

/-! ### rows and windows -/
def R (l : List Nat) : Nat → List (List Nat)
  | 0 => [[]]
  | n + 1 => (R l n).flatMap fun r => l.map fun c => r ++ [c]
theorem R_len {l : List Nat} : ∀ {n : Nat} {w : List Nat}, w ∈ R l n → w.length = n
  | 0, w, h => by simp [R] at h; subst h; rfl
  | n + 1, w, h => by
    obtain ⟨r, h1, h2⟩ := List.mem_flatMap.mp h
    obtain ⟨c, h3, rfl⟩ := List.mem_map.mp h2
    rw [List.length_append, R_len h1]; rfl
theorem R_mem {l : List Nat} : ∀ {n : Nat} {w : List Nat}, w ∈ R l n ↔ w.length = n ∧ ∀ c ∈ w, c ∈ l
  | 0, w => by
    simp only [R, List.mem_singleton]
    constructor
    · rintro rfl; exact ⟨rfl, fun c h => nomatch h⟩
    · rintro ⟨h, _⟩; exact List.length_eq_zero_iff.mp h
  | n + 1, w => by
    constructor
    · intro h
      obtain ⟨r, h1, h2⟩ := List.mem_flatMap.mp h
      obtain ⟨c, h3, rfl⟩ := List.mem_map.mp h2
      obtain ⟨a1, a2⟩ := R_mem.mp h1
      refine ⟨by rw [List.length_append, a1]; rfl, fun x hx => ?_⟩
      rcases List.mem_append.mp hx with hx | hx
      · exact a2 x hx
      · rw [List.mem_singleton.mp hx]; exact h3
    · rintro ⟨h1, h2⟩
      have hne : w ≠ [] := fun z => by rw [z] at h1; simp at h1
      refine List.mem_flatMap.mpr ⟨w.dropLast, R_mem.mpr ⟨by rw [List.length_dropLast, h1]; rfl, fun c hc => h2 c ((List.dropLast_sublist w).mem hc)⟩, List.mem_map.mpr ⟨w.getLast hne, h2 _ (List.getLast_mem hne), List.dropLast_concat_getLast hne⟩⟩
theorem R_length (l : List Nat) : ∀ n : Nat, (R l n).length = l.length ^ n
  | 0 => rfl
  | n + 1 => by
    have : ∀ xs : List (List Nat), (xs.flatMap fun r => l.map fun c => r ++ [c]).length = xs.length * l.length := by
      intro xs
      induction xs with
      | nil => simp
      | cons x xs ih => rw [List.flatMap_cons, List.length_append, ih, List.length_map, List.length_cons, Nat.succ_mul]; omega
    rw [R, this, R_length l n]; rfl
theorem pow_le {a n : Nat} (h : a ≤ 4) (hn : n ≤ 3) : a ^ n ≤ 64 := Nat.le_trans (Nat.pow_le_pow_left h n) (Nat.le_trans (Nat.pow_le_pow_right (by decide) hn) (by decide))
structure Good (l : List Nat) : Prop where
  lo : 1 ≤ l.length
  hi : l.length ≤ 4
  ab : ∀ c ∈ l, 97 ≤ c ∧ c ≤ 122
  pw : l.Pairwise (· < ·)
theorem sz {n : Nat} (h : n ≤ 100000) : n ≤ sizeLine := by rw [sizeLine_eq]; omega
theorem k_rows {l : List Nat} (g : Good l) (n x : Nat) (hi : x < 3) : lcL2 [4, 5] [5] (gNameV 4) tYesV (iAny (vVar 0)) (gNameV 5) tYesV (vBin pAdd (vVar 4) (vVar 5)) ((R l x).map PV.str) [] [Slot.fz (.str l), .fz (.int n), .fz (.lst ((R l x).map PV.str)), .fz (.int (x : Int)), .un, .un] = some ((R l (x + 1)).map PV.str, [Slot.fz (.str l), .fz (.int n), .fz (.lst ((R l x).map PV.str)), .fz (.int (x : Int)), .un, .un]) := by
      have hp := pow_le g.hi (n := x + 1) (by omega)
      have hR := R_length l (x + 1)
      have := lcL2_map (vs := [4, 5]) (vs1 := [5]) (g := gNameV 4) (g1 := gNameV 5) (t := tYesV) (t1 := tYesV) (vi1 := iAny (vVar 0)) (ve := vBin pAdd (vVar 4) (vVar 5)) (ρ := [Slot.fz (.str l), .fz (.int n), .fz (.lst ((R l x).map PV.str)), .fz (.int (x : Int)), .un, .un]) PV.str (fun c : Nat => PV.str [c]) (fun _ => l) (fun r c => PV.str (r ++ [c])) (R l x) [] (fun r hr => ?_) ?_
      · rw [this, R]
        simp [List.map_flatMap, Function.comp_def]
      · refine ⟨[.fz (.str l), .fz (.int n), .fz (.lst ((R l x).map PV.str)), .fz (.int (x : Int)), .fz (.str r), .un], [.fz (.str l), .fz (.int n), .fz (.lst ((R l x).map PV.str)), .fz (.int (x : Int)), .fz (.str r), .un], [.fz (.str l), .fz (.int n), .fz (.lst ((R l x).map PV.str)), .fz (.int (x : Int)), .fz (.str r), .un], ?_, ?_, ?_, ?_, ?_, ?_, fun c hc => ?_⟩
        · simp [Rs.bind, opt, vVar, vC, vBin, vUn, vAnd, vOr, vNot, vIf, vANil, vACons, vTup, vLst, freezeAll, vCall, valAll, truth, tst, tAndT, tOrT, tNotT, tCmpT, tChainT, vChainV, mkB, boolOf, L2.VL.settle, val, freeze, sNx, sBk, sCt, sBad, sSeq, sExpr, sRet, sRetN, sIf, canPut, put, sSet, gNameV, gAll, gTupV, gSubV, sAsg, setAt, upSlot, keep, sPar, vMut, vMut0, lstT, strT, vMeth, fAppend, fExtend, fClear, runDef, retC, callF, vCallF, frzArgs, ioArgs, ioIdx, takeBack, nodupB, norf, vCall1, pAdd, pI, zSub, zMul, cMul, zMod, zDiv, zPow, gLtI, pIx, pNeg, pInt, pMax, pMin, pAbs, pDivmod, pLen, pList, intOf, oSome, oNone, vCut, pCut, iAny, atI, ixN, tYesV]
        · simp [Rs.bind, opt, vVar, vC, vBin, vUn, vAnd, vOr, vNot, vIf, vANil, vACons, vTup, vLst, freezeAll, vCall, valAll, truth, tst, tAndT, tOrT, tNotT, tCmpT, tChainT, vChainV, mkB, boolOf, L2.VL.settle, val, freeze, sNx, sBk, sCt, sBad, sSeq, sExpr, sRet, sRetN, sIf, canPut, put, sSet, gNameV, gAll, gTupV, gSubV, sAsg, setAt, upSlot, keep, sPar, vMut, vMut0, lstT, strT, vMeth, fAppend, fExtend, fClear, runDef, retC, callF, vCallF, frzArgs, ioArgs, ioIdx, takeBack, nodupB, norf, vCall1, pAdd, pI, zSub, zMul, cMul, zMod, zDiv, zPow, gLtI, pIx, pNeg, pInt, pMax, pMin, pAbs, pDivmod, pLen, pList, intOf, oSome, oNone, vCut, pCut, iAny, atI, ixN, tYesV]
        · simp [Rs.bind, opt, vVar, vC, vBin, vUn, vAnd, vOr, vNot, vIf, vANil, vACons, vTup, vLst, freezeAll, vCall, valAll, truth, tst, tAndT, tOrT, tNotT, tCmpT, tChainT, vChainV, mkB, boolOf, L2.VL.settle, val, freeze, sNx, sBk, sCt, sBad, sSeq, sExpr, sRet, sRetN, sIf, canPut, put, sSet, gNameV, gAll, gTupV, gSubV, sAsg, setAt, upSlot, keep, sPar, vMut, vMut0, lstT, strT, vMeth, fAppend, fExtend, fClear, runDef, retC, callF, vCallF, frzArgs, ioArgs, ioIdx, takeBack, nodupB, norf, vCall1, pAdd, pI, zSub, zMul, cMul, zMod, zDiv, zPow, gLtI, pIx, pNeg, pInt, pMax, pMin, pAbs, pDivmod, pLen, pList, intOf, oSome, oNone, vCut, pCut, iAny, atI, ixN, tYesV]
        · simp [Rs.bind, opt, vVar, vC, vBin, vUn, vAnd, vOr, vNot, vIf, vANil, vACons, vTup, vLst, freezeAll, vCall, valAll, truth, tst, tAndT, tOrT, tNotT, tCmpT, tChainT, vChainV, mkB, boolOf, L2.VL.settle, val, freeze, sNx, sBk, sCt, sBad, sSeq, sExpr, sRet, sRetN, sIf, canPut, put, sSet, gNameV, gAll, gTupV, gSubV, sAsg, setAt, upSlot, keep, sPar, vMut, vMut0, lstT, strT, vMeth, fAppend, fExtend, fClear, runDef, retC, callF, vCallF, frzArgs, ioArgs, ioIdx, takeBack, nodupB, norf, vCall1, pAdd, pI, zSub, zMul, cMul, zMod, zDiv, zPow, gLtI, pIx, pNeg, pInt, pMax, pMin, pAbs, pDivmod, pLen, pList, intOf, oSome, oNone, vCut, pCut, iAny, atI, ixN, tYesV, okW]
        · simp [Rs.bind, opt, vVar, vC, vBin, vUn, vAnd, vOr, vNot, vIf, vANil, vACons, vTup, vLst, freezeAll, vCall, valAll, truth, tst, tAndT, tOrT, tNotT, tCmpT, tChainT, vChainV, mkB, boolOf, L2.VL.settle, val, freeze, sNx, sBk, sCt, sBad, sSeq, sExpr, sRet, sRetN, sIf, canPut, put, sSet, gNameV, gAll, gTupV, gSubV, sAsg, setAt, upSlot, keep, sPar, vMut, vMut0, lstT, strT, vMeth, fAppend, fExtend, fClear, runDef, retC, callF, vCallF, frzArgs, ioArgs, ioIdx, takeBack, nodupB, norf, vCall1, pAdd, pI, zSub, zMul, cMul, zMod, zDiv, zPow, gLtI, pIx, pNeg, pInt, pMax, pMin, pAbs, pDivmod, pLen, pList, intOf, oSome, oNone, vCut, pCut, iAny, atI, ixN, tYesV, okW, wipeE]
        · simp [Rs.bind, opt, vVar, vC, vBin, vUn, vAnd, vOr, vNot, vIf, vANil, vACons, vTup, vLst, freezeAll, vCall, valAll, truth, tst, tAndT, tOrT, tNotT, tCmpT, tChainT, vChainV, mkB, boolOf, L2.VL.settle, val, freeze, sNx, sBk, sCt, sBad, sSeq, sExpr, sRet, sRetN, sIf, canPut, put, sSet, gNameV, gAll, gTupV, gSubV, sAsg, setAt, upSlot, keep, sPar, vMut, vMut0, lstT, strT, vMeth, fAppend, fExtend, fClear, runDef, retC, callF, vCallF, frzArgs, ioArgs, ioIdx, takeBack, nodupB, norf, vCall1, pAdd, pI, zSub, zMul, cMul, zMod, zDiv, zPow, gLtI, pIx, pNeg, pInt, pMax, pMin, pAbs, pDivmod, pLen, pList, intOf, oSome, oNone, vCut, pCut, iAny, atI, ixN, tYesV, wipeE]
        · have hl := R_len hr
          simp [Rs.bind, opt, vVar, vC, vBin, vUn, vAnd, vOr, vNot, vIf, vANil, vACons, vTup, vLst, freezeAll, vCall, valAll, truth, tst, tAndT, tOrT, tNotT, tCmpT, tChainT, vChainV, mkB, boolOf, L2.VL.settle, val, freeze, sNx, sBk, sCt, sBad, sSeq, sExpr, sRet, sRetN, sIf, canPut, put, sSet, gNameV, gAll, gTupV, gSubV, sAsg, setAt, upSlot, keep, sPar, vMut, vMut0, lstT, strT, vMeth, fAppend, fExtend, fClear, runDef, retC, callF, vCallF, frzArgs, ioArgs, ioIdx, takeBack, nodupB, norf, vCall1, pAdd, pI, zSub, zMul, cMul, zMod, zDiv, zPow, gLtI, pIx, pNeg, pInt, pMax, pMin, pAbs, pDivmod, pLen, pList, intOf, oSome, oNone, vCut, pCut, iAny, atI, ixN, tYesV, lc1, okW, wipeE, hl, show x + 1 ≤ sizeLine from sz (by omega)]
      · rw [R] at hR
        have : ((R l x).flatMap fun _ => l).length = ((R l x).flatMap fun r => l.map fun c => r ++ [c]).length := by
          simp [List.length_flatMap]
        rw [this, hR]; exact sz (by simp; omega)
theorem e_rows {l : List Nat} (g : Good l) (n : Nat) (hn : n ≤ 3) : ∃ ρ, m_rows_so_long [.fz (.str l), .fz (.int n)] = .ok (.ow (.lst ((R l n).map PV.str))) ρ := by
  have loop := loopF_all (g := gNameV 3) (body := sSet 2 (vLc2 (iAny (vVar 2)) [4, 5] [5] (gNameV 4) tYesV (iAny (vVar 0)) (gNameV 5) tYesV (vBin pAdd (vVar 4) (vVar 5)))) (fun i : Nat => PV.int (i : Int))
    (fun i ρ => ∃ s, (s = Slot.un ∨ ∃ d, s = .fz d) ∧ ρ = [.fz (.str l), .fz (.int n), .ow (.lst ((R l i).map PV.str)), s, .un, .un]) (List.range n) (fun i x ρ hx h => ?_) [.fz (.str l), .fz (.int n), .ow (.lst ((R l 0).map PV.str)), .un, .un, .un] ⟨.un, .inl rfl, rfl⟩
  · obtain ⟨ρ', e, s, hs, rfl⟩ := loop
    rw [List.length_range, show (R l 0).map PV.str = [PV.str []] from rfl] at e
    have fr : sFor (iRange1 (vACons (vVar 1) vANil)) (gNameV 3) (sSet 2 (vLc2 (iAny (vVar 2)) [4, 5] [5] (gNameV 4) tYesV (iAny (vVar 0)) (gNameV 5) tYesV (vBin pAdd (vVar 4) (vVar 5)))) [.fz (.str l), .fz (.int n), .ow (.lst [.str []]), .un, .un, .un] = _ :=
      (for_range (cs := [.fz (.int n)]) (j := (n : Int)) (by simp [Rs.bind, opt, vVar, vC, vBin, vUn, vAnd, vOr, vNot, vIf, vANil, vACons, vTup, vLst, freezeAll, vCall, valAll, truth, tst, tAndT, tOrT, tNotT, tCmpT, tChainT, vChainV, mkB, boolOf, L2.VL.settle, val, freeze, sNx, sBk, sCt, sBad, sSeq, sExpr, sRet, sRetN, sIf, canPut, put, sSet, gNameV, gAll, gTupV, gSubV, sAsg, setAt, upSlot, keep, sPar, vMut, vMut0, lstT, strT, vMeth, fAppend, fExtend, fClear, runDef, retC, callF, vCallF, frzArgs, ioArgs, ioIdx, takeBack, nodupB, norf, vCall1, pAdd, pI, zSub, zMul, cMul, zMod, zDiv, zPow, gLtI, pIx, pNeg, pInt, pMax, pMin, pAbs, pDivmod, pLen, pList, intOf, oSome, oNone, vCut, pCut, iAny, atI, ixN, tYesV]) (by simp [Rs.bind, opt, vVar, vC, vBin, vUn, vAnd, vOr, vNot, vIf, vANil, vACons, vTup, vLst, freezeAll, vCall, valAll, truth, tst, tAndT, tOrT, tNotT, tCmpT, tChainT, vChainV, mkB, boolOf, L2.VL.settle, val, freeze, sNx, sBk, sCt, sBad, sSeq, sExpr, sRet, sRetN, sIf, canPut, put, sSet, gNameV, gAll, gTupV, gSubV, sAsg, setAt, upSlot, keep, sPar, vMut, vMut0, lstT, strT, vMeth, fAppend, fExtend, fClear, runDef, retC, callF, vCallF, frzArgs, ioArgs, ioIdx, takeBack, nodupB, norf, vCall1, pAdd, pI, zSub, zMul, cMul, zMod, zDiv, zPow, gLtI, pIx, pNeg, pInt, pMax, pMin, pAbs, pDivmod, pLen, pList, intOf, oSome, oNone, vCut, pCut, iAny, atI, ixN, tYesV]) (by omega) (by omega)).trans e
    unfold m_rows_so_long b_rows_so_long
    rcases hs with rfl | ⟨d, rfl⟩ <;> simp [Rs.bind, opt, vVar, vC, vBin, vUn, vAnd, vOr, vNot, vIf, vANil, vACons, vTup, vLst, freezeAll, vCall, valAll, truth, tst, tAndT, tOrT, tNotT, tCmpT, tChainT, vChainV, mkB, boolOf, L2.VL.settle, val, freeze, sNx, sBk, sCt, sBad, sSeq, sExpr, sRet, sRetN, sIf, canPut, put, sSet, gNameV, gAll, gTupV, gSubV, sAsg, setAt, upSlot, keep, sPar, vMut, vMut0, lstT, strT, vMeth, fAppend, fExtend, fClear, runDef, retC, callF, vCallF, frzArgs, ioArgs, ioIdx, takeBack, nodupB, norf, vCall1, pAdd, pI, zSub, zMul, cMul, zMod, zDiv, zPow, gLtI, pIx, pNeg, pInt, pMax, pMin, pAbs, pDivmod, pLen, pList, intOf, oSome, oNone, vCut, pCut, iAny, atI, ixN, tYesV, fr, show (1 : Nat) ≤ sizeLine from sz (by decide)]
  · obtain ⟨s, hs, rfl⟩ := h
    have hi : i < n := by have := len_of hx; simpa using this
    have hxi : x = i := by rw [List.getElem?_range hi] at hx; exact (Option.some.inj hx).symm
    subst hxi
    have key := k_rows g n x (by omega)
    refine ⟨[.fz (.str l), .fz (.int n), .ow (.lst ((R l x).map PV.str)), .fz (.int (x : Int)), .un, .un], ?_, [.fz (.str l), .fz (.int n), .ow (.lst ((R l (x + 1)).map PV.str)), .fz (.int (x : Int)), .un, .un], .inl ?_, _, .inr ⟨_, rfl⟩, rfl⟩
    · rcases hs with rfl | ⟨d, rfl⟩ <;> simp [Rs.bind, opt, vVar, vC, vBin, vUn, vAnd, vOr, vNot, vIf, vANil, vACons, vTup, vLst, freezeAll, vCall, valAll, truth, tst, tAndT, tOrT, tNotT, tCmpT, tChainT, vChainV, mkB, boolOf, L2.VL.settle, val, freeze, sNx, sBk, sCt, sBad, sSeq, sExpr, sRet, sRetN, sIf, canPut, put, sSet, gNameV, gAll, gTupV, gSubV, sAsg, setAt, upSlot, keep, sPar, vMut, vMut0, lstT, strT, vMeth, fAppend, fExtend, fClear, runDef, retC, callF, vCallF, frzArgs, ioArgs, ioIdx, takeBack, nodupB, norf, vCall1, pAdd, pI, zSub, zMul, cMul, zMod, zDiv, zPow, gLtI, pIx, pNeg, pInt, pMax, pMin, pAbs, pDivmod, pLen, pList, intOf, oSome, oNone, vCut, pCut, iAny, atI, ixN, tYesV]
    · simp [Rs.bind, opt, vVar, vC, vBin, vUn, vAnd, vOr, vNot, vIf, vANil, vACons, vTup, vLst, freezeAll, vCall, valAll, truth, tst, tAndT, tOrT, tNotT, tCmpT, tChainT, vChainV, mkB, boolOf, L2.VL.settle, val, freeze, sNx, sBk, sCt, sBad, sSeq, sExpr, sRet, sRetN, sIf, canPut, put, sSet, gNameV, gAll, gTupV, gSubV, sAsg, setAt, upSlot, keep, sPar, vMut, vMut0, lstT, strT, vMeth, fAppend, fExtend, fClear, runDef, retC, callF, vCallF, frzArgs, ioArgs, ioIdx, takeBack, nodupB, norf, vCall1, pAdd, pI, zSub, zMul, cMul, zMod, zDiv, zPow, gLtI, pIx, pNeg, pInt, pMax, pMin, pAbs, pDivmod, pLen, pList, intOf, oSome, oNone, vCut, pCut, iAny, atI, ixN, tYesV, vLc2, okW, wipeE, unwipe, key]
def D (l : List Nat) : Nat → List (List Nat)
  | 0 => []
  | n + 1 => D l n ++ (R l n).map fun r => r ++ [46]
def W (l : List Nat) (n : Nat) : List (List Nat) := D l n ++ R l n
theorem D_length {l : List Nat} (g : Good l) : ∀ {n : Nat}, n ≤ 4 → (D l n).length ≤ n * 64
  | 0, _ => Nat.le_refl _
  | n + 1, h => by
    have := D_length g (n := n) (by omega)
    have h2 := pow_le g.hi (n := n) (by omega)
    rw [D, List.length_append, List.length_map, R_length]; omega
theorem R_small {l : List Nat} (g : Good l) {n : Nat} (h : n ≤ 3) : (R l n).length ≤ 64 := by rw [R_length]; exact pow_le g.hi h
theorem k_stop {a b c d : VL.Slot} {l : List Nat} (g : Good l) (x : Nat) (hx : x ≤ 3) : lcL [4] (gNameV 4) tYesV (vBin pAdd (vVar 4) (vC (.str [46]))) ((R l x).map PV.str) [] [a, b, c, d, .un] = some (((R l x).map fun r => r ++ [46]).map PV.str, [a, b, c, d, .un]) := by
  have := lcL_map' (vs := [4]) (g := gNameV 4) (t := tYesV) (ve := vBin pAdd (vVar 4) (vC (.str [46]))) (ρ := [a, b, c, d, .un]) PV.str (fun r => PV.str (r ++ [46])) (R l x) [] (fun r hr => ?_) (sz (by have := R_small g hx; simp; omega))
  · rw [this]; simp
  · have hl := R_len hr
    simp [Rs.bind, opt, vVar, vC, vBin, vUn, vAnd, vOr, vNot, vIf, vANil, vACons, vTup, vLst, freezeAll, vCall, valAll, truth, tst, tAndT, tOrT, tNotT, tCmpT, tChainT, vChainV, mkB, boolOf, L2.VL.settle, val, freeze, sNx, sBk, sCt, sBad, sSeq, sExpr, sRet, sRetN, sIf, canPut, put, sSet, gNameV, gAll, gTupV, gSubV, sAsg, setAt, upSlot, keep, sPar, vMut, vMut0, lstT, strT, vMeth, fAppend, fExtend, fClear, runDef, retC, callF, vCallF, frzArgs, ioArgs, ioIdx, takeBack, nodupB, norf, vCall1, pAdd, pI, zSub, zMul, cMul, zMod, zDiv, zPow, gLtI, pIx, pNeg, pInt, pMax, pMin, pAbs, pDivmod, pLen, pList, intOf, oSome, oNone, vCut, pCut, iAny, atI, ixN, tYesV, lc1, okW, wipeE, hl, show x + 1 ≤ sizeLine from sz (by omega)]
theorem e_windows_of {l : List Nat} (g : Good l) (n : Nat) (hn : n ≤ 3) : ∃ ρ, m_windows_of [.fz (.str l), .fz (.int n)] = .ok (.ow (.lst ((W l n).map PV.str))) ρ := by
  have loop := loopF_all (g := gNameV 3) (body := sExpr (vMut lstT fExtend (vVar 2) (vACons (vLc (iAny (vCallF m_rows_so_long [false, false] [] (vACons (vVar 0) (vACons (vVar 3) vANil)))) [4] (gNameV 4) tYesV (vBin pAdd (vVar 4) (vC (.str [46])))) vANil))) (fun i : Nat => PV.int (i : Int))
    (fun i ρ => ∃ s, (s = Slot.un ∨ ∃ d, s = .fz d) ∧ ρ = [.fz (.str l), .fz (.int n), .ow (.lst ((D l i).map PV.str)), s, .un]) (List.range n) (fun i x ρ hx h => ?_) [.fz (.str l), .fz (.int n), .ow (.lst []), .un, .un] ⟨.un, .inl rfl, rfl⟩
  · obtain ⟨ρ', e, s, hs, rfl⟩ := loop
    rw [List.length_range] at e
    have fr := (for_range (g := gNameV 3) (va := vACons (vVar 1) vANil) (ρ := [.fz (.str l), .fz (.int n), .ow (.lst []), .un, .un]) (cs := [.fz (.int n)]) (j := (n : Int)) (by simp [Rs.bind, opt, vVar, vC, vBin, vUn, vAnd, vOr, vNot, vIf, vANil, vACons, vTup, vLst, freezeAll, vCall, valAll, truth, tst, tAndT, tOrT, tNotT, tCmpT, tChainT, vChainV, mkB, boolOf, L2.VL.settle, val, freeze, sNx, sBk, sCt, sBad, sSeq, sExpr, sRet, sRetN, sIf, canPut, put, sSet, gNameV, gAll, gTupV, gSubV, sAsg, setAt, upSlot, keep, sPar, vMut, vMut0, lstT, strT, vMeth, fAppend, fExtend, fClear, runDef, retC, callF, vCallF, frzArgs, ioArgs, ioIdx, takeBack, nodupB, norf, vCall1, pAdd, pI, zSub, zMul, cMul, zMod, zDiv, zPow, gLtI, pIx, pNeg, pInt, pMax, pMin, pAbs, pDivmod, pLen, pList, intOf, oSome, oNone, vCut, pCut, iAny, atI, ixN, tYesV]) (by simp [Rs.bind, opt, vVar, vC, vBin, vUn, vAnd, vOr, vNot, vIf, vANil, vACons, vTup, vLst, freezeAll, vCall, valAll, truth, tst, tAndT, tOrT, tNotT, tCmpT, tChainT, vChainV, mkB, boolOf, L2.VL.settle, val, freeze, sNx, sBk, sCt, sBad, sSeq, sExpr, sRet, sRetN, sIf, canPut, put, sSet, gNameV, gAll, gTupV, gSubV, sAsg, setAt, upSlot, keep, sPar, vMut, vMut0, lstT, strT, vMeth, fAppend, fExtend, fClear, runDef, retC, callF, vCallF, frzArgs, ioArgs, ioIdx, takeBack, nodupB, norf, vCall1, pAdd, pI, zSub, zMul, cMul, zMod, zDiv, zPow, gLtI, pIx, pNeg, pInt, pMax, pMin, pAbs, pDivmod, pLen, pList, intOf, oSome, oNone, vCut, pCut, iAny, atI, ixN, tYesV]) (by omega) (by omega)).trans e
    obtain ⟨ρr, er⟩ := e_rows g n hn
    unfold m_windows_of b_windows_of
    have h1 : (D l n).length + (R l n).length ≤ sizeLine := sz (by have := D_length g (n := n) (by omega); have := R_small g hn; omega)
    rcases hs with rfl | ⟨d, rfl⟩ <;> simp [Rs.bind, opt, vVar, vC, vBin, vUn, vAnd, vOr, vNot, vIf, vANil, vACons, vTup, vLst, freezeAll, vCall, valAll, truth, tst, tAndT, tOrT, tNotT, tCmpT, tChainT, vChainV, mkB, boolOf, L2.VL.settle, val, freeze, sNx, sBk, sCt, sBad, sSeq, sExpr, sRet, sRetN, sIf, canPut, put, sSet, gNameV, gAll, gTupV, gSubV, sAsg, setAt, upSlot, keep, sPar, vMut, vMut0, lstT, strT, vMeth, fAppend, fExtend, fClear, runDef, retC, callF, vCallF, frzArgs, ioArgs, ioIdx, takeBack, nodupB, norf, vCall1, pAdd, pI, zSub, zMul, cMul, zMod, zDiv, zPow, gLtI, pIx, pNeg, pInt, pMax, pMin, pAbs, pDivmod, pLen, pList, intOf, oSome, oNone, vCut, pCut, iAny, atI, ixN, tYesV, fr, er, W, h1]
  · obtain ⟨s, hs, rfl⟩ := h
    have hi : i < n := by have := len_of hx; simpa using this
    have hxi : x = i := by rw [List.getElem?_range hi] at hx; exact (Option.some.inj hx).symm
    subst hxi
    obtain ⟨ρr, er⟩ := e_rows g x (by omega)
    have key := @k_stop (.fz (.str l)) (.fz (.int n)) (.ow (.lst ((D l x).map PV.str))) (.fz (.int (x : Int))) l g x (by omega)
    have h1 : (D l x).length + (R l x).length ≤ sizeLine := sz (by have := D_length g (n := x) (by omega); have := R_small g (n := x) (by omega); omega)
    refine ⟨[.fz (.str l), .fz (.int n), .ow (.lst ((D l x).map PV.str)), .fz (.int (x : Int)), .un], ?_, [.fz (.str l), .fz (.int n), .ow (.lst ((D l (x + 1)).map PV.str)), .fz (.int (x : Int)), .un], .inl ?_, _, .inr ⟨_, rfl⟩, rfl⟩
    · rcases hs with rfl | ⟨d, rfl⟩ <;> simp [Rs.bind, opt, vVar, vC, vBin, vUn, vAnd, vOr, vNot, vIf, vANil, vACons, vTup, vLst, freezeAll, vCall, valAll, truth, tst, tAndT, tOrT, tNotT, tCmpT, tChainT, vChainV, mkB, boolOf, L2.VL.settle, val, freeze, sNx, sBk, sCt, sBad, sSeq, sExpr, sRet, sRetN, sIf, canPut, put, sSet, gNameV, gAll, gTupV, gSubV, sAsg, setAt, upSlot, keep, sPar, vMut, vMut0, lstT, strT, vMeth, fAppend, fExtend, fClear, runDef, retC, callF, vCallF, frzArgs, ioArgs, ioIdx, takeBack, nodupB, norf, vCall1, pAdd, pI, zSub, zMul, cMul, zMod, zDiv, zPow, gLtI, pIx, pNeg, pInt, pMax, pMin, pAbs, pDivmod, pLen, pList, intOf, oSome, oNone, vCut, pCut, iAny, atI, ixN, tYesV]
    · simp [Rs.bind, opt, vVar, vC, vBin, vUn, vAnd, vOr, vNot, vIf, vANil, vACons, vTup, vLst, freezeAll, vCall, valAll, truth, tst, tAndT, tOrT, tNotT, tCmpT, tChainT, vChainV, mkB, boolOf, L2.VL.settle, val, freeze, sNx, sBk, sCt, sBad, sSeq, sExpr, sRet, sRetN, sIf, canPut, put, sSet, gNameV, gAll, gTupV, gSubV, sAsg, setAt, upSlot, keep, sPar, vMut, vMut0, lstT, strT, vMeth, fAppend, fExtend, fClear, runDef, retC, callF, vCallF, frzArgs, ioArgs, ioIdx, takeBack, nodupB, norf, vCall1, pAdd, pI, zSub, zMul, cMul, zMod, zDiv, zPow, gLtI, pIx, pNeg, pInt, pMax, pMin, pAbs, pDivmod, pLen, pList, intOf, oSome, oNone, vCut, pCut, iAny, atI, ixN, tYesV, vLc, okW, wipeE, unwipe, key, er, h1, D]

/-! ### the law's own views -/
theorem k_stop6 {a b c d e f h : VL.Slot} {l : List Nat} (g : Good l) (x : Nat) (hx : x ≤ 3) : lcL [6] (gNameV 6) tYesV (vBin pAdd (vVar 6) (vC (.str [46]))) ((R l x).map PV.str) [] [a, b, c, d, e, f, .un, h] = some (((R l x).map fun r => r ++ [46]).map PV.str, [a, b, c, d, e, f, .un, h]) := by
  have := lcL_map' (vs := [6]) (g := gNameV 6) (t := tYesV) (ve := vBin pAdd (vVar 6) (vC (.str [46]))) (ρ := [a, b, c, d, e, f, .un, h]) PV.str (fun r => PV.str (r ++ [46])) (R l x) [] (fun r hr => ?_) (sz (by have := R_small g hx; simp; omega))
  · rw [this]; simp
  · have hl := R_len hr
    simp [Rs.bind, opt, vVar, vC, vBin, vUn, vAnd, vOr, vNot, vIf, vANil, vACons, vTup, vLst, freezeAll, vCall, valAll, truth, tst, tAndT, tOrT, tNotT, tCmpT, tChainT, vChainV, mkB, boolOf, L2.VL.settle, val, freeze, sNx, sBk, sCt, sBad, sSeq, sExpr, sRet, sRetN, sIf, canPut, put, sSet, gNameV, gAll, gTupV, gSubV, sAsg, setAt, upSlot, keep, sPar, vMut, vMut0, lstT, strT, vMeth, fAppend, fExtend, fClear, runDef, retC, callF, vCallF, frzArgs, ioArgs, ioIdx, takeBack, nodupB, norf, vCall1, pAdd, pI, zSub, zMul, cMul, zMod, zDiv, zPow, gLtI, pIx, pNeg, pInt, pMax, pMin, pAbs, pDivmod, pLen, pList, intOf, oSome, oNone, vCut, pCut, iAny, atI, ixN, tYesV, lc1, okW, wipeE, hl, show x + 1 ≤ sizeLine from sz (by omega)]
theorem k_grow {a b c d e f : VL.Slot} {l r : List Nat} (g : Good l) (hr : r.length ≤ 3) : lcL [7] (gNameV 7) tYesV (vBin pAdd (vVar 6) (vVar 7)) (l.map fun c => PV.str [c]) [] [a, b, c, d, e, f, .fz (.str r), .un] = some ((l.map fun c => r ++ [c]).map PV.str, [a, b, c, d, e, f, .fz (.str r), .un]) := by
  have := lcL_map' (vs := [7]) (g := gNameV 7) (t := tYesV) (ve := vBin pAdd (vVar 6) (vVar 7)) (ρ := [a, b, c, d, e, f, .fz (.str r), .un]) (fun c : Nat => PV.str [c]) (fun c => PV.str (r ++ [c])) l [] (fun c hc => ?_) (sz (by have := g.hi; simp; omega))
  · rw [this]; simp
  · simp [Rs.bind, opt, vVar, vC, vBin, vUn, vAnd, vOr, vNot, vIf, vANil, vACons, vTup, vLst, freezeAll, vCall, valAll, truth, tst, tAndT, tOrT, tNotT, tCmpT, tChainT, vChainV, mkB, boolOf, L2.VL.settle, val, freeze, sNx, sBk, sCt, sBad, sSeq, sExpr, sRet, sRetN, sIf, canPut, put, sSet, gNameV, gAll, gTupV, gSubV, sAsg, setAt, upSlot, keep, sPar, vMut, vMut0, lstT, strT, vMeth, fAppend, fExtend, fClear, runDef, retC, callF, vCallF, frzArgs, ioArgs, ioIdx, takeBack, nodupB, norf, vCall1, pAdd, pI, zSub, zMul, cMul, zMod, zDiv, zPow, gLtI, pIx, pNeg, pInt, pMax, pMin, pAbs, pDivmod, pLen, pList, intOf, oSome, oNone, vCut, pCut, iAny, atI, ixN, tYesV, lc1, okW, wipeE, show r.length + 1 ≤ sizeLine from sz (by omega)]
theorem l_grow {a b c d : VL.Slot} {l : List Nat} (g : Good l) (x : Nat) (hx : x ≤ 2) (s6 : VL.Slot) (h6 : s6 = Slot.un ∨ ∃ d, s6 = .fz d) : ∃ s, (s = Slot.un ∨ ∃ d, s = .fz d) ∧
    loopF (gNameV 6) (sExpr (vMut lstT fExtend (vVar 5) (vACons (vLc (iAny (vVar 0)) [7] (gNameV 7) tYesV (vBin pAdd (vVar 6) (vVar 7))) vANil))) ((R l x).map PV.str) [.fz (.str l), a, b, c, d, .ow (.lst []), s6, .un] = .ok .nx [.fz (.str l), a, b, c, d, .ow (.lst ((R l (x + 1)).map PV.str)), s, .un] := by
  have loop := loopF_all (g := gNameV 6) (body := sExpr (vMut lstT fExtend (vVar 5) (vACons (vLc (iAny (vVar 0)) [7] (gNameV 7) tYesV (vBin pAdd (vVar 6) (vVar 7))) vANil))) PV.str
    (fun i ρ => ∃ s, (s = Slot.un ∨ ∃ d, s = .fz d) ∧ ρ = [.fz (.str l), a, b, c, d, .ow (.lst ((((R l x).take i).flatMap fun r => l.map fun c => r ++ [c]).map PV.str)), s, .un]) (R l x) (fun i r ρ hx2 h => ?_) [.fz (.str l), a, b, c, d, .ow (.lst []), s6, .un] ⟨s6, h6, rfl⟩
  · obtain ⟨ρ', e, s, hs, rfl⟩ := loop
    rw [List.take_length] at e
    exact ⟨s, hs, e⟩
  · obtain ⟨s, hs, rfl⟩ := h
    have hr : r ∈ R l x := List.mem_of_getElem? hx2
    have hl := R_len hr
    have key := @k_grow (.fz (.str l)) a b c d (.ow (.lst ((((R l x).take i).flatMap fun r => l.map fun c => r ++ [c]).map PV.str))) l r g (by omega)
    have ht : (R l x).take (i + 1) = (R l x).take i ++ [r] := by rw [List.take_add_one, hx2]; rfl
    have h1 : ((((R l x).take i).flatMap fun r => l.map fun c => r ++ [c]).length + l.length) ≤ sizeLine := by
      have h0 : ∀ xs : List (List Nat), (xs.flatMap fun r => l.map fun c => r ++ [c]).length = xs.length * l.length := by
        intro xs
        induction xs with
        | nil => simp
        | cons x xs ih => rw [List.flatMap_cons, List.length_append, ih, List.length_map, List.length_cons, Nat.succ_mul]; omega
      rw [h0]
      have h2 := R_small g (n := x) (by omega)
      have h3 : ((R l x).take i).length ≤ 64 := by rw [List.length_take]; omega
      have h4 := Nat.mul_le_mul h3 g.hi
      have := g.hi
      exact sz (by omega)
    refine ⟨[.fz (.str l), a, b, c, d, .ow (.lst ((((R l x).take i).flatMap fun r => l.map fun c => r ++ [c]).map PV.str)), .fz (.str r), .un], ?_, [.fz (.str l), a, b, c, d, .ow (.lst ((((R l x).take (i + 1)).flatMap fun r => l.map fun c => r ++ [c]).map PV.str)), .fz (.str r), .un], .inl ?_, _, .inr ⟨_, rfl⟩, rfl⟩
    · rcases hs with rfl | ⟨d, rfl⟩ <;> simp [Rs.bind, opt, vVar, vC, vBin, vUn, vAnd, vOr, vNot, vIf, vANil, vACons, vTup, vLst, freezeAll, vCall, valAll, truth, tst, tAndT, tOrT, tNotT, tCmpT, tChainT, vChainV, mkB, boolOf, L2.VL.settle, val, freeze, sNx, sBk, sCt, sBad, sSeq, sExpr, sRet, sRetN, sIf, canPut, put, sSet, gNameV, gAll, gTupV, gSubV, sAsg, setAt, upSlot, keep, sPar, vMut, vMut0, lstT, strT, vMeth, fAppend, fExtend, fClear, runDef, retC, callF, vCallF, frzArgs, ioArgs, ioIdx, takeBack, nodupB, norf, vCall1, pAdd, pI, zSub, zMul, cMul, zMod, zDiv, zPow, gLtI, pIx, pNeg, pInt, pMax, pMin, pAbs, pDivmod, pLen, pList, intOf, oSome, oNone, vCut, pCut, iAny, atI, ixN, tYesV]
    · have h1' := h1
      rw [← List.length_map (f := PV.str)] at h1'
      simp only [List.length_map] at h1'
      rw [ht, List.flatMap_append]
      simp only [List.flatMap_cons, List.flatMap_nil, List.append_nil]
      generalize hA : ((R l x).take i).flatMap (fun r => l.map fun c => r ++ [c]) = A at key h1 ⊢
      simp [Rs.bind, opt, vVar, vC, vBin, vUn, vAnd, vOr, vNot, vIf, vANil, vACons, vTup, vLst, freezeAll, vCall, valAll, truth, tst, tAndT, tOrT, tNotT, tCmpT, tChainT, vChainV, mkB, boolOf, L2.VL.settle, val, freeze, sNx, sBk, sCt, sBad, sSeq, sExpr, sRet, sRetN, sIf, canPut, put, sSet, gNameV, gAll, gTupV, gSubV, sAsg, setAt, upSlot, keep, sPar, vMut, vMut0, lstT, strT, vMeth, fAppend, fExtend, fClear, runDef, retC, callF, vCallF, frzArgs, ioArgs, ioIdx, takeBack, nodupB, norf, vCall1, pAdd, pI, zSub, zMul, cMul, zMod, zDiv, zPow, gLtI, pIx, pNeg, pInt, pMax, pMin, pAbs, pDivmod, pLen, pList, intOf, oSome, oNone, vCut, pCut, iAny, atI, ixN, tYesV, vLc, okW, wipeE, unwipe, key, h1]
def Pl (s : VL.Slot) : Prop := s = Slot.un ∨ ∃ d, s = .fz d
theorem e_views {l : List Nat} (g : Good l) (n : Nat) (hn : n ≤ 3) : ∃ ρ, m__law_views [.fz (.str l), .fz (.int n)] = .ok (.ow (.lst ((W l n).map PV.str))) ρ := by
  have loop := loopF_all (g := gNameV 4) (body := sSeq (sExpr (vMut lstT fExtend (vVar 3) (vACons (vLc (iAny (vVar 2)) [6] (gNameV 6) tYesV (vBin pAdd (vVar 6) (vC (.str [46])))) vANil))) (sSeq (sSet 5 (vLst vANil)) (sSeq (sFor (iAny (vVar 2)) (gNameV 6) (sExpr (vMut lstT fExtend (vVar 5) (vACons (vLc (iAny (vVar 0)) [7] (gNameV 7) tYesV (vBin pAdd (vVar 6) (vVar 7))) vANil)))) (sSet 2 (vVar 5))))) (fun i : Nat => PV.int (i : Int))
    (fun i ρ => ∃ s2 s4 s5 s6, (s2 = .ow (.lst ((R l i).map PV.str)) ∨ s2 = .fz (.lst ((R l i).map PV.str))) ∧ Pl s4 ∧ Pl s5 ∧ Pl s6 ∧ ρ = [.fz (.str l), .fz (.int n), s2, .ow (.lst ((D l i).map PV.str)), s4, s5, s6, .un]) (List.range n) (fun i x ρ hx h => ?_) [.fz (.str l), .fz (.int n), .ow (.lst [.str []]), .ow (.lst []), .un, .un, .un, .un]
    ⟨_, .un, .un, .un, .inl rfl, .inl rfl, .inl rfl, .inl rfl, rfl⟩
  · obtain ⟨ρ', e, s2, s4, s5, s6, h2, _, _, _, rfl⟩ := loop
    rw [List.length_range] at e h2
    have fr := (for_range (g := gNameV 4) (va := vACons (vVar 1) vANil) (ρ := [.fz (.str l), .fz (.int n), .ow (.lst [.str []]), .ow (.lst []), .un, .un, .un, .un]) (cs := [.fz (.int n)]) (j := (n : Int)) (by simp [Rs.bind, opt, vVar, vC, vBin, vUn, vAnd, vOr, vNot, vIf, vANil, vACons, vTup, vLst, freezeAll, vCall, valAll, truth, tst, tAndT, tOrT, tNotT, tCmpT, tChainT, vChainV, mkB, boolOf, L2.VL.settle, val, freeze, sNx, sBk, sCt, sBad, sSeq, sExpr, sRet, sRetN, sIf, canPut, put, sSet, gNameV, gAll, gTupV, gSubV, sAsg, setAt, upSlot, keep, sPar, vMut, vMut0, lstT, strT, vMeth, fAppend, fExtend, fClear, runDef, retC, callF, vCallF, frzArgs, ioArgs, ioIdx, takeBack, nodupB, norf, vCall1, pAdd, pI, zSub, zMul, cMul, zMod, zDiv, zPow, gLtI, pIx, pNeg, pInt, pMax, pMin, pAbs, pDivmod, pLen, pList, intOf, oSome, oNone, vCut, pCut, iAny, atI, ixN, tYesV]) (by simp [Rs.bind, opt, vVar, vC, vBin, vUn, vAnd, vOr, vNot, vIf, vANil, vACons, vTup, vLst, freezeAll, vCall, valAll, truth, tst, tAndT, tOrT, tNotT, tCmpT, tChainT, vChainV, mkB, boolOf, L2.VL.settle, val, freeze, sNx, sBk, sCt, sBad, sSeq, sExpr, sRet, sRetN, sIf, canPut, put, sSet, gNameV, gAll, gTupV, gSubV, sAsg, setAt, upSlot, keep, sPar, vMut, vMut0, lstT, strT, vMeth, fAppend, fExtend, fClear, runDef, retC, callF, vCallF, frzArgs, ioArgs, ioIdx, takeBack, nodupB, norf, vCall1, pAdd, pI, zSub, zMul, cMul, zMod, zDiv, zPow, gLtI, pIx, pNeg, pInt, pMax, pMin, pAbs, pDivmod, pLen, pList, intOf, oSome, oNone, vCut, pCut, iAny, atI, ixN, tYesV]) (by omega) (by omega)).trans e
    unfold m__law_views b__law_views
    have h1 : (D l n).length + (R l n).length ≤ sizeLine := sz (by have := D_length g (n := n) (by omega); have := R_small g hn; omega)
    rcases h2 with rfl | rfl <;> simp [Rs.bind, opt, vVar, vC, vBin, vUn, vAnd, vOr, vNot, vIf, vANil, vACons, vTup, vLst, freezeAll, vCall, valAll, truth, tst, tAndT, tOrT, tNotT, tCmpT, tChainT, vChainV, mkB, boolOf, L2.VL.settle, val, freeze, sNx, sBk, sCt, sBad, sSeq, sExpr, sRet, sRetN, sIf, canPut, put, sSet, gNameV, gAll, gTupV, gSubV, sAsg, setAt, upSlot, keep, sPar, vMut, vMut0, lstT, strT, vMeth, fAppend, fExtend, fClear, runDef, retC, callF, vCallF, frzArgs, ioArgs, ioIdx, takeBack, nodupB, norf, vCall1, pAdd, pI, zSub, zMul, cMul, zMod, zDiv, zPow, gLtI, pIx, pNeg, pInt, pMax, pMin, pAbs, pDivmod, pLen, pList, intOf, oSome, oNone, vCut, pCut, iAny, atI, ixN, tYesV, fr, W, h1, show (1 : Nat) ≤ sizeLine from sz (by decide)]
  · obtain ⟨s2, s4, s5, s6, h2, h4, h5, h6, rfl⟩ := h
    have hi : i < n := by have := len_of hx; simpa using this
    have hxi : x = i := by rw [List.getElem?_range hi] at hx; exact (Option.some.inj hx).symm
    subst hxi
    have h1 : (D l x).length + (R l x).length ≤ sizeLine := sz (by have := D_length g (n := x) (by omega); have := R_small g (n := x) (by omega); omega)
    have key := @k_stop6 (.fz (.str l)) (.fz (.int n)) (.fz (.lst ((R l x).map PV.str))) (.ow (.lst ((D l x).map PV.str))) (.fz (.int (x : Int))) s5 .un l g x (by omega)
    obtain ⟨s, hs, inner⟩ := @l_grow (.fz (.int n)) (.fz (.lst ((R l x).map PV.str))) (.ow (.lst ((D l (x + 1)).map PV.str))) (.fz (.int (x : Int))) l g x (by omega) s6 h6
    refine ⟨[.fz (.str l), .fz (.int n), s2, .ow (.lst ((D l x).map PV.str)), .fz (.int (x : Int)), s5, s6, .un], ?_, [.fz (.str l), .fz (.int n), .fz (.lst ((R l (x + 1)).map PV.str)), .ow (.lst ((D l (x + 1)).map PV.str)), .fz (.int (x : Int)), .fz (.lst ((R l (x + 1)).map PV.str)), s, .un], .inl ?_, _, _, _, _, .inr rfl, .inr ⟨_, rfl⟩, .inr ⟨_, rfl⟩, hs, rfl⟩
    · rcases h4 with rfl | ⟨d, rfl⟩ <;> simp [Rs.bind, opt, vVar, vC, vBin, vUn, vAnd, vOr, vNot, vIf, vANil, vACons, vTup, vLst, freezeAll, vCall, valAll, truth, tst, tAndT, tOrT, tNotT, tCmpT, tChainT, vChainV, mkB, boolOf, L2.VL.settle, val, freeze, sNx, sBk, sCt, sBad, sSeq, sExpr, sRet, sRetN, sIf, canPut, put, sSet, gNameV, gAll, gTupV, gSubV, sAsg, setAt, upSlot, keep, sPar, vMut, vMut0, lstT, strT, vMeth, fAppend, fExtend, fClear, runDef, retC, callF, vCallF, frzArgs, ioArgs, ioIdx, takeBack, nodupB, norf, vCall1, pAdd, pI, zSub, zMul, cMul, zMod, zDiv, zPow, gLtI, pIx, pNeg, pInt, pMax, pMin, pAbs, pDivmod, pLen, pList, intOf, oSome, oNone, vCut, pCut, iAny, atI, ixN, tYesV]
    · have first : sExpr (vMut lstT fExtend (vVar 3) (vACons (vLc (iAny (vVar 2)) [6] (gNameV 6) tYesV (vBin pAdd (vVar 6) (vC (.str [46])))) vANil)) [.fz (.str l), .fz (.int n), s2, .ow (.lst ((D l x).map PV.str)), .fz (.int (x : Int)), s5, s6, .un] =
          .ok .nx [.fz (.str l), .fz (.int n), .fz (.lst ((R l x).map PV.str)), .ow (.lst ((D l (x + 1)).map PV.str)), .fz (.int (x : Int)), s5, s6, .un] := by
        rcases h2 with rfl | rfl <;> rcases h6 with rfl | ⟨d6, rfl⟩ <;> simp [Rs.bind, opt, vVar, vC, vBin, vUn, vAnd, vOr, vNot, vIf, vANil, vACons, vTup, vLst, freezeAll, vCall, valAll, truth, tst, tAndT, tOrT, tNotT, tCmpT, tChainT, vChainV, mkB, boolOf, L2.VL.settle, val, freeze, sNx, sBk, sCt, sBad, sSeq, sExpr, sRet, sRetN, sIf, canPut, put, sSet, gNameV, gAll, gTupV, gSubV, sAsg, setAt, upSlot, keep, sPar, vMut, vMut0, lstT, strT, vMeth, fAppend, fExtend, fClear, runDef, retC, callF, vCallF, frzArgs, ioArgs, ioIdx, takeBack, nodupB, norf, vCall1, pAdd, pI, zSub, zMul, cMul, zMod, zDiv, zPow, gLtI, pIx, pNeg, pInt, pMax, pMin, pAbs, pDivmod, pLen, pList, intOf, oSome, oNone, vCut, pCut, iAny, atI, ixN, tYesV, vLc, okW, wipeE, unwipe, key, h1, D]
      have second : sSet 5 (vLst vANil) [.fz (.str l), .fz (.int n), .fz (.lst ((R l x).map PV.str)), .ow (.lst ((D l (x + 1)).map PV.str)), .fz (.int (x : Int)), s5, s6, .un] =
          .ok .nx [.fz (.str l), .fz (.int n), .fz (.lst ((R l x).map PV.str)), .ow (.lst ((D l (x + 1)).map PV.str)), .fz (.int (x : Int)), .ow (.lst []), s6, .un] := by
        rcases h5 with rfl | ⟨d5, rfl⟩ <;> simp [Rs.bind, opt, vVar, vC, vBin, vUn, vAnd, vOr, vNot, vIf, vANil, vACons, vTup, vLst, freezeAll, vCall, valAll, truth, tst, tAndT, tOrT, tNotT, tCmpT, tChainT, vChainV, mkB, boolOf, L2.VL.settle, val, freeze, sNx, sBk, sCt, sBad, sSeq, sExpr, sRet, sRetN, sIf, canPut, put, sSet, gNameV, gAll, gTupV, gSubV, sAsg, setAt, upSlot, keep, sPar, vMut, vMut0, lstT, strT, vMeth, fAppend, fExtend, fClear, runDef, retC, callF, vCallF, frzArgs, ioArgs, ioIdx, takeBack, nodupB, norf, vCall1, pAdd, pI, zSub, zMul, cMul, zMod, zDiv, zPow, gLtI, pIx, pNeg, pInt, pMax, pMin, pAbs, pDivmod, pLen, pList, intOf, oSome, oNone, vCut, pCut, iAny, atI, ixN, tYesV]
      have third : sFor (iAny (vVar 2)) (gNameV 6) (sExpr (vMut lstT fExtend (vVar 5) (vACons (vLc (iAny (vVar 0)) [7] (gNameV 7) tYesV (vBin pAdd (vVar 6) (vVar 7))) vANil))) [.fz (.str l), .fz (.int n), .fz (.lst ((R l x).map PV.str)), .ow (.lst ((D l (x + 1)).map PV.str)), .fz (.int (x : Int)), .ow (.lst []), s6, .un] = _ := inner
      have fourth : sSet 2 (vVar 5) [.fz (.str l), .fz (.int n), .fz (.lst ((R l x).map PV.str)), .ow (.lst ((D l (x + 1)).map PV.str)), .fz (.int (x : Int)), .ow (.lst ((R l (x + 1)).map PV.str)), s, .un] =
          .ok .nx [.fz (.str l), .fz (.int n), .fz (.lst ((R l (x + 1)).map PV.str)), .ow (.lst ((D l (x + 1)).map PV.str)), .fz (.int (x : Int)), .fz (.lst ((R l (x + 1)).map PV.str)), s, .un] := by
        simp [Rs.bind, opt, vVar, vC, vBin, vUn, vAnd, vOr, vNot, vIf, vANil, vACons, vTup, vLst, freezeAll, vCall, valAll, truth, tst, tAndT, tOrT, tNotT, tCmpT, tChainT, vChainV, mkB, boolOf, L2.VL.settle, val, freeze, sNx, sBk, sCt, sBad, sSeq, sExpr, sRet, sRetN, sIf, canPut, put, sSet, gNameV, gAll, gTupV, gSubV, sAsg, setAt, upSlot, keep, sPar, vMut, vMut0, lstT, strT, vMeth, fAppend, fExtend, fClear, runDef, retC, callF, vCallF, frzArgs, ioArgs, ioIdx, takeBack, nodupB, norf, vCall1, pAdd, pI, zSub, zMul, cMul, zMod, zDiv, zPow, gLtI, pIx, pNeg, pInt, pMax, pMin, pAbs, pDivmod, pLen, pList, intOf, oSome, oNone, vCut, pCut, iAny, atI, ixN, tYesV]
      simp only [sSeq, first, second, third, fourth]

/-! ### letters -/
theorem okS_good {l : List Nat} (g : Good l) {w : List Nat} (h : ∀ c ∈ w, c ∈ l ∨ c = 46) : okS w := fun c hc => by
  rcases h c hc with h | h
  · have := (g.ab c h).2; omega
  · omega
theorem R_ok {l : List Nat} (g : Good l) {n : Nat} {w : List Nat} (h : w ∈ R l n) : okS w := okS_good g fun c hc => .inl ((R_mem.mp h).2 c hc)
theorem D_mem {l : List Nat} : ∀ {n : Nat} {w : List Nat}, w ∈ D l n ↔ ∃ k, k < n ∧ ∃ r ∈ R l k, w = r ++ [46]
  | 0, w => by simp [D]
  | n + 1, w => by
    rw [D, List.mem_append, D_mem, List.mem_map]
    constructor
    · rintro (⟨k, h, r, a, b⟩ | ⟨r, a, rfl⟩)
      · exact ⟨k, by omega, r, a, b⟩
      · exact ⟨n, by omega, r, a, rfl⟩
    · rintro ⟨k, h, r, a, rfl⟩
      by_cases q : k = n
      · subst q; exact .inr ⟨r, a, rfl⟩
      · exact .inl ⟨k, by omega, r, a, rfl⟩
theorem W_ok {l : List Nat} (g : Good l) {n : Nat} {w : List Nat} (h : w ∈ W l n) : okS w := by
  rcases List.mem_append.mp h with h | h
  · obtain ⟨k, _, r, a, rfl⟩ := D_mem.mp h
    exact okS_good g fun c hc => by
      rcases List.mem_append.mp hc with hc | hc
      · exact .inl ((R_mem.mp a).2 c hc)
      · exact .inr (List.mem_singleton.mp hc)
  · exact R_ok g h
theorem single_inj {l : List Nat} : uniq (l.map fun c => [c]) = (uniq l).map fun c => [c] := uniq_map (g := fun c : Nat => [c]) (fun a b h => (List.cons.inj h).1) l
theorem uniq_of_nodup {α : Type} [DecidableEq α] {l : List α} (h : l.Nodup) : uniq l = l := by
  have : ∀ (ks acc : List α), (acc ++ ks).Nodup → ks.foldl addU acc = acc ++ ks := by
    intro ks
    induction ks with
    | nil => intro acc _; simp
    | cons k ks ih =>
      intro acc hn
      have hk : k ∉ acc := fun hm => by
        have := (List.nodup_append.mp hn).2.2 k hm k List.mem_cons_self
        exact this rfl
      rw [List.foldl_cons]
      have : addU acc k = acc ++ [k] := by unfold addU; rw [if_neg hk]
      rw [this, ih _ (by rw [List.append_assoc]; exact hn), List.append_assoc]; rfl
  have := this l [] (by simpa using h)
  simpa [uniq] using this
theorem Good.nodup {l : List Nat} (g : Good l) : l.Nodup := g.pw.imp fun h => by omega
theorem leN_one (a b : Nat) : leN [a] [b] = decide (a ≤ b) := by
  simp only [leN]
  rcases Nat.lt_trichotomy a b with h | h | h
  · simp [h, Nat.le_of_lt h]
  · subst h; simp
  · have h1 : ¬ a < b := by omega
    have h2 : ¬ a ≤ b := by omega
    have h3 : ¬ a = b := by omega
    simp [h1, h2, h3]
theorem sort_good {l : List Nat} (h : l.Pairwise (· ≤ ·)) : isort leN (l.map fun c => [c]) = l.map fun c => [c] := by
  refine (sort_is leN_ord (List.Perm.refl _) ?_).symm
  exact List.pairwise_map.mpr (h.imp fun h => by rw [leN_one]; exact decide_eq_true h)
theorem pEq_singles {l : List Nat} (g : Good l) : pEq (.lst (l.map fun c => PV.str [c])) (.lst (l.map fun c => PV.str [c])) = some true := by
  have e : (l.map fun c => PV.str [c]) = (l.map fun c => [c]).map PV.str := by simp
  rw [e, pEq_strs (fun w hw => ?_) (fun w hw => ?_)]
  · simp
  all_goals
    obtain ⟨c, hc, rfl⟩ := List.mem_map.mp hw
    exact okS_good g fun x hx => .inl (by rw [List.mem_singleton.mp hx]; exact hc)
theorem bools_true (n : Nat) : bools (List.replicate n (PV.bl true)) = some (List.replicate n true) := by
  induction n with
  | zero => rfl
  | succ n ih => rw [List.replicate_succ, bools, ih]; rfl
theorem pAll_true (n : Nat) : pAll [.lst (List.replicate n (PV.bl true))] = some (.fz (.bl true)) := by
  show (bools (List.replicate n (PV.bl true))).map (fun bs => Cell.fz (PV.bl (bs.all id))) = _
  rw [bools_true]
  simp
theorem e_is_letters {l : List Nat} (g : Good l) : ∃ ρ, m_is_letters [.fz (.str l)] = .ok (.fz (.bl true)) ρ := by
  have key : lcL [1] (gNameV 1) tYesV (vBin (mkB pIn) (vVar 1) (vC (.str [97, 98, 99, 100, 101, 102, 103, 104, 105, 106, 107, 108, 109, 110, 111, 112, 113, 114, 115, 116, 117, 118, 119, 120, 121, 122]))) (l.map fun c => PV.str [c]) [] [.fz (.str l), .un] = some (List.replicate l.length (PV.bl true), [.fz (.str l), .un]) := by
    have := lcL_map' (vs := [1]) (g := gNameV 1) (t := tYesV) (ve := vBin (mkB pIn) (vVar 1) (vC (.str [97, 98, 99, 100, 101, 102, 103, 104, 105, 106, 107, 108, 109, 110, 111, 112, 113, 114, 115, 116, 117, 118, 119, 120, 121, 122]))) (ρ := [.fz (.str l), .un]) (fun c : Nat => PV.str [c]) (fun _ => PV.bl true) l [] (fun c hc => ?_) (sz (by have := g.hi; simp; omega))
    · rw [this]; simp [List.map_const']
    · have hc := g.ab c hc
      have hm : c ∈ [97, 98, 99, 100, 101, 102, 103, 104, 105, 106, 107, 108, 109, 110, 111, 112, 113, 114, 115, 116, 117, 118, 119, 120, 121, 122] := by
        simp only [List.mem_cons, List.not_mem_nil, or_false]; omega
      have hp : pIn (.str [c]) (.str [97, 98, 99, 100, 101, 102, 103, 104, 105, 106, 107, 108, 109, 110, 111, 112, 113, 114, 115, 116, 117, 118, 119, 120, 121, 122]) = some true := by
        show some (decide (c ∈ _)) = some true
        rw [decide_eq_true hm]
      simp [Rs.bind, opt, vVar, vC, vBin, vUn, vAnd, vOr, vNot, vIf, vANil, vACons, vTup, vLst, freezeAll, vCall, valAll, truth, tst, tAndT, tOrT, tNotT, tCmpT, tChainT, vChainV, mkB, boolOf, L2.VL.settle, val, freeze, sNx, sBk, sCt, sBad, sSeq, sExpr, sRet, sRetN, sIf, canPut, put, sSet, gNameV, gAll, gTupV, gSubV, sAsg, setAt, upSlot, keep, sPar, vMut, vMut0, lstT, strT, vMeth, fAppend, fExtend, fClear, runDef, retC, callF, vCallF, frzArgs, ioArgs, ioIdx, takeBack, nodupB, norf, vCall1, pAdd, pI, zSub, zMul, cMul, zMod, zDiv, zPow, gLtI, pIx, pNeg, pInt, pMax, pMin, pAbs, pDivmod, pLen, pList, intOf, oSome, oNone, vCut, pCut, iAny, atI, ixN, tYesV, lc1, okW, wipeE, hp]
  have hk : keysOf (.str l) = some (.s (l.map fun c => [c])) := by
    show fewK l.length (.s (l.map fun c => [c])) = _
    unfold fewK; rw [if_pos (by have := g.hi; omega)]
  have hs : SKeys.sorted (.s (l.map fun c => [c])) = l.map fun c => PV.str [c] := by
    show (isort leN (uniq (l.map fun c => [c]))).map PV.str = _
    rw [single_inj, uniq_of_nodup g.nodup, sort_good (g.pw.imp fun h => Nat.le_of_lt h)]; simp
  have ht : pIsInst [.str l, .ty "str"] = some (.fz (.bl true)) := rfl
  have lo := g.lo
  have hi := g.hi
  unfold m_is_letters b_is_letters
  simp [Rs.bind, opt, vVar, vC, vBin, vUn, vAnd, vOr, vNot, vIf, vANil, vACons, vTup, vLst, freezeAll, vCall, valAll, truth, tst, tAndT, tOrT, tNotT, tCmpT, tChainT, vChainV, mkB, boolOf, L2.VL.settle, val, freeze, sNx, sBk, sCt, sBad, sSeq, sExpr, sRet, sRetN, sIf, canPut, put, sSet, gNameV, gAll, gTupV, gSubV, sAsg, setAt, upSlot, keep, sPar, vMut, vMut0, lstT, strT, vMeth, fAppend, fExtend, fClear, runDef, retC, callF, vCallF, frzArgs, ioArgs, ioIdx, takeBack, nodupB, norf, vCall1, pAdd, pI, zSub, zMul, cMul, zMod, zDiv, zPow, gLtI, pIx, pNeg, pInt, pMax, pMin, pAbs, pDivmod, pLen, pList, intOf, oSome, oNone, vCut, pCut, iAny, atI, ixN, tYesV, vLc, okW, wipeE, unwipe, key, hk, hs, ht, vSortSet, pAll_true, pEq_singles g, show l.length ≤ sizeLine from sz (by omega), show (1 : Int) ≤ (l.length : Int) by omega, show (l.length : Int) ≤ 4 by omega]
theorem e_want_letters {l : List Nat} (g : Good l) : ∃ ρ, m_want_letters [.fz (.str l)] = .ok (.fz .non) ρ := by
  obtain ⟨ρ, e⟩ := e_is_letters g
  unfold m_want_letters b_want_letters
  simp [Rs.bind, opt, vVar, vC, vBin, vUn, vAnd, vOr, vNot, vIf, vANil, vACons, vTup, vLst, freezeAll, vCall, valAll, truth, tst, tAndT, tOrT, tNotT, tCmpT, tChainT, vChainV, mkB, boolOf, L2.VL.settle, val, freeze, sNx, sBk, sCt, sBad, sSeq, sExpr, sRet, sRetN, sIf, canPut, put, sSet, gNameV, gAll, gTupV, gSubV, sAsg, setAt, upSlot, keep, sPar, vMut, vMut0, lstT, strT, vMeth, fAppend, fExtend, fClear, runDef, retC, callF, vCallF, frzArgs, ioArgs, ioIdx, takeBack, nodupB, norf, vCall1, pAdd, pI, zSub, zMul, cMul, zMod, zDiv, zPow, gLtI, pIx, pNeg, pInt, pMax, pMin, pAbs, pDivmod, pLen, pList, intOf, oSome, oNone, vCut, pCut, iAny, atI, ixN, tYesV, e]
theorem e_want_ahead {n : Nat} (h : n ≤ 3) : ∃ ρ, m_want_ahead [.fz (.int n)] = .ok (.fz .non) ρ := by
  have t1 : pIsInst [.int n, .ty "int"] = some (.fz (.bl true)) := rfl
  have t2 : pIsInst [.int n, .ty "bool"] = some (.fz (.bl false)) := rfl
  have e1 : ∃ ρ, m_is_integer [.fz (.int n)] = .ok (.fz (.bl true)) ρ := by
    unfold m_is_integer b_is_integer
    simp [Rs.bind, opt, vVar, vC, vBin, vUn, vAnd, vOr, vNot, vIf, vANil, vACons, vTup, vLst, freezeAll, vCall, valAll, truth, tst, tAndT, tOrT, tNotT, tCmpT, tChainT, vChainV, mkB, boolOf, L2.VL.settle, val, freeze, sNx, sBk, sCt, sBad, sSeq, sExpr, sRet, sRetN, sIf, canPut, put, sSet, gNameV, gAll, gTupV, gSubV, sAsg, setAt, upSlot, keep, sPar, vMut, vMut0, lstT, strT, vMeth, fAppend, fExtend, fClear, runDef, retC, callF, vCallF, frzArgs, ioArgs, ioIdx, takeBack, nodupB, norf, vCall1, pAdd, pI, zSub, zMul, cMul, zMod, zDiv, zPow, gLtI, pIx, pNeg, pInt, pMax, pMin, pAbs, pDivmod, pLen, pList, intOf, oSome, oNone, vCut, pCut, iAny, atI, ixN, tYesV, t1, t2]
  obtain ⟨ρ1, e1⟩ := e1
  have e2 : ∃ ρ, m_is_count [.fz (.int n)] = .ok (.fz (.bl true)) ρ := by
    unfold m_is_count b_is_count
    simp [Rs.bind, opt, vVar, vC, vBin, vUn, vAnd, vOr, vNot, vIf, vANil, vACons, vTup, vLst, freezeAll, vCall, valAll, truth, tst, tAndT, tOrT, tNotT, tCmpT, tChainT, vChainV, mkB, boolOf, L2.VL.settle, val, freeze, sNx, sBk, sCt, sBad, sSeq, sExpr, sRet, sRetN, sIf, canPut, put, sSet, gNameV, gAll, gTupV, gSubV, sAsg, setAt, upSlot, keep, sPar, vMut, vMut0, lstT, strT, vMeth, fAppend, fExtend, fClear, runDef, retC, callF, vCallF, frzArgs, ioArgs, ioIdx, takeBack, nodupB, norf, vCall1, pAdd, pI, zSub, zMul, cMul, zMod, zDiv, zPow, gLtI, pIx, pNeg, pInt, pMax, pMin, pAbs, pDivmod, pLen, pList, intOf, oSome, oNone, vCut, pCut, iAny, atI, ixN, tYesV, e1]
  obtain ⟨ρ2, e2⟩ := e2
  have e3 : ∃ ρ, m_want_count [.fz (.int n)] = .ok (.fz .non) ρ := by
    unfold m_want_count b_want_count
    simp [Rs.bind, opt, vVar, vC, vBin, vUn, vAnd, vOr, vNot, vIf, vANil, vACons, vTup, vLst, freezeAll, vCall, valAll, truth, tst, tAndT, tOrT, tNotT, tCmpT, tChainT, vChainV, mkB, boolOf, L2.VL.settle, val, freeze, sNx, sBk, sCt, sBad, sSeq, sExpr, sRet, sRetN, sIf, canPut, put, sSet, gNameV, gAll, gTupV, gSubV, sAsg, setAt, upSlot, keep, sPar, vMut, vMut0, lstT, strT, vMeth, fAppend, fExtend, fClear, runDef, retC, callF, vCallF, frzArgs, ioArgs, ioIdx, takeBack, nodupB, norf, vCall1, pAdd, pI, zSub, zMul, cMul, zMod, zDiv, zPow, gLtI, pIx, pNeg, pInt, pMax, pMin, pAbs, pDivmod, pLen, pList, intOf, oSome, oNone, vCut, pCut, iAny, atI, ixN, tYesV, e2]
  obtain ⟨ρ3, e3⟩ := e3
  unfold m_want_ahead b_want_ahead
  simp [Rs.bind, opt, vVar, vC, vBin, vUn, vAnd, vOr, vNot, vIf, vANil, vACons, vTup, vLst, freezeAll, vCall, valAll, truth, tst, tAndT, tOrT, tNotT, tCmpT, tChainT, vChainV, mkB, boolOf, L2.VL.settle, val, freeze, sNx, sBk, sCt, sBad, sSeq, sExpr, sRet, sRetN, sIf, canPut, put, sSet, gNameV, gAll, gTupV, gSubV, sAsg, setAt, upSlot, keep, sPar, vMut, vMut0, lstT, strT, vMeth, fAppend, fExtend, fClear, runDef, retC, callF, vCallF, frzArgs, ioArgs, ioIdx, takeBack, nodupB, norf, vCall1, pAdd, pI, zSub, zMul, cMul, zMod, zDiv, zPow, gLtI, pIx, pNeg, pInt, pMax, pMin, pAbs, pDivmod, pLen, pList, intOf, oSome, oNone, vCut, pCut, iAny, atI, ixN, tYesV, e3, show ¬ (3 : Int) < (n : Int) by omega]
theorem e_windows {l : List Nat} (g : Good l) (n : Nat) (hn : n ≤ 3) : ∃ ρ, m_windows [.fz (.str l), .fz (.int n)] = .ok (.ow (.lst ((W l n).map PV.str))) ρ := by
  obtain ⟨ρ1, e1⟩ := e_want_letters g
  obtain ⟨ρ2, e2⟩ := e_want_ahead hn
  obtain ⟨ρ3, e3⟩ := e_windows_of g n hn
  unfold m_windows b_windows
  simp [Rs.bind, opt, vVar, vC, vBin, vUn, vAnd, vOr, vNot, vIf, vANil, vACons, vTup, vLst, freezeAll, vCall, valAll, truth, tst, tAndT, tOrT, tNotT, tCmpT, tChainT, vChainV, mkB, boolOf, L2.VL.settle, val, freeze, sNx, sBk, sCt, sBad, sSeq, sExpr, sRet, sRetN, sIf, canPut, put, sSet, gNameV, gAll, gTupV, gSubV, sAsg, setAt, upSlot, keep, sPar, vMut, vMut0, lstT, strT, vMeth, fAppend, fExtend, fClear, runDef, retC, callF, vCallF, frzArgs, ioArgs, ioIdx, takeBack, nodupB, norf, vCall1, pAdd, pI, zSub, zMul, cMul, zMod, zDiv, zPow, gLtI, pIx, pNeg, pInt, pMax, pMin, pAbs, pDivmod, pLen, pList, intOf, oSome, oNone, vCut, pCut, iAny, atI, ixN, tYesV, e1, e2, e3]
theorem cut_1 (w : List Nat) : cutL w (some 1) none = w.drop 1 := by
  unfold cutL
  cases w with
  | nil => rfl
  | cons c w =>
    have e : HT.sIx (c :: w).length 0 (some 1) = 1 := by show min 1 (c :: w).length = 1; rw [List.length_cons]; omega
    rw [e]; show List.take ((c :: w).length - 1) (List.drop 1 (c :: w)) = _
    rw [List.take_of_length_le]; rw [List.length_drop]; exact Nat.le_refl _
theorem cut_from (w : List Nat) (n : Nat) : cutL w (some (n : Int)) none = w.drop n := by
  unfold cutL
  rw [HT.sIx_nat, HT.sIx_none]
  by_cases h : n ≤ w.length
  · rw [Nat.min_eq_left h, List.take_of_length_le]; rw [List.length_drop]; exact Nat.le_refl _
  · rw [Nat.min_eq_right (by omega), List.drop_length, List.take_nil, List.drop_eq_nil_of_le (by omega)]
theorem cut_to (w : List Nat) (n : Nat) : cutL w none (some (n : Int)) = w.take n := by
  unfold cutL
  rw [HT.sIx_nat, HT.sIx_none, List.drop_zero, Nat.sub_zero]
  by_cases h : n ≤ w.length
  · rw [Nat.min_eq_left h]
  · rw [Nat.min_eq_right (by omega), List.take_length, List.take_of_length_le (by omega)]
theorem cut_last (v : List Nat) (c : Nat) : cutL (v ++ [c]) (some (-1)) none = [c] := by
  unfold cutL
  have e : HT.sIx (v ++ [c]).length 0 (some (-1)) = v.length := by
    show (if (-1 : Int) < 0 then ((-1 : Int) + ((v ++ [c]).length : Int)).toNat else min (-1 : Int).toNat (v ++ [c]).length) = _
    rw [if_pos (by decide), List.length_append]
    show ((-1 : Int) + ((v.length + 1 : Nat) : Int)).toNat = _
    omega
  rw [e, HT.sIx_none, List.drop_left, List.length_append, Nat.add_sub_cancel_left]; rfl
theorem S_beq (a b : List Nat) : (S a == S b) = decide (a = b) := by
  by_cases h : a = b
  · subst h; simp
  · rw [decide_eq_false h]
    exact beq_eq_false_iff_ne.mpr fun e => h (S_inj _ _ e)
theorem pIn_two {w : List Nat} : pIn (.str w) (.tup [.str [], .str [46]]) = some (decide (w = [] ∨ w = [46])) := by
  have e : pIn (.str w) (.tup [.str [], .str [46]]) = some (inV (V.str (S w)) [V.str (S []), V.str (S [46])]) := by
    unfold pIn
    split
    · rename_i h; cases h
    · rename_i h; cases h
    · rename_i h; cases h; rfl
    · rename_i h2 h1 h; first | exact absurd rfl (h1 _) | exact absurd rfl (h _) | exact absurd rfl (h2 _)
  rw [e]; congr 1
  simp only [inV, List.any_cons, List.any_nil, Bool.or_false, eqV, S_beq]
  rw [show decide (w = [] ∨ w = [46]) = (decide (w = []) || decide (w = [46])) from Bool.decide_or _ _, decide_eq_decide.mpr (eq_comm (a := w) (b := [])), decide_eq_decide.mpr (eq_comm (a := w) (b := [46]))]
def F (l w : List Nat) : List (List Nat) := if w = [] then [[]] else if w = [46] then [] else if w.getLast? = some 46 then [w.drop 1] else (w.drop 1 ++ [46]) :: l.map fun c => w.drop 1 ++ [c]
theorem ok46 : okS [46] := fun c hc => by rw [List.mem_singleton.mp hc]; decide
theorem ok0 : okS [] := fun c hc => nomatch hc
theorem e_ends {v : List Nat} {c : Nat} (hc : c < 0x110000) (hv : v.length ≤ 100) : ∃ ρ, m_ends_in_stop [.fz (.str (v ++ [c]))] = .ok (.fz (.bl (decide (c = 46)))) ρ := by
  have e1 := pEq_str (a := [c]) (b := [46]) (fun x hx => by rw [List.mem_singleton.mp hx]; exact hc) ok46
  have e2 : decide ([c] = [46]) = decide (c = 46) := by simp
  rw [e2] at e1
  unfold m_ends_in_stop b_ends_in_stop
  simp [Rs.bind, opt, vVar, vC, vBin, vUn, vAnd, vOr, vNot, vIf, vANil, vACons, vTup, vLst, freezeAll, vCall, valAll, truth, tst, tAndT, tOrT, tNotT, tCmpT, tChainT, vChainV, mkB, boolOf, L2.VL.settle, val, freeze, sNx, sBk, sCt, sBad, sSeq, sExpr, sRet, sRetN, sIf, canPut, put, sSet, gNameV, gAll, gTupV, gSubV, sAsg, setAt, upSlot, keep, sPar, vMut, vMut0, lstT, strT, vMeth, fAppend, fExtend, fClear, runDef, retC, callF, vCallF, frzArgs, ioArgs, ioIdx, takeBack, nodupB, norf, vCall1, pAdd, pI, zSub, zMul, cMul, zMod, zDiv, zPow, gLtI, pIx, pNeg, pInt, pMax, pMin, pAbs, pDivmod, pLen, pList, intOf, oSome, oNone, vCut, pCut, iAny, atI, ixN, tYesV, cut_last, e1, show v.length + 1 ≤ sizeLine from sz (by omega)]
theorem k_foll {a b c : VL.Slot} {l r : List Nat} (g : Good l) (hr : r.length ≤ 100) : lcL [3] (gNameV 3) tYesV (vBin pAdd (vVar 2) (vVar 3)) (l.map fun c => PV.str [c]) [] [a, b, .fz (.str r), .un] = some ((l.map fun c => r ++ [c]).map PV.str, [a, b, .fz (.str r), .un]) := by
  have := lcL_map' (vs := [3]) (g := gNameV 3) (t := tYesV) (ve := vBin pAdd (vVar 2) (vVar 3)) (ρ := [a, b, .fz (.str r), .un]) (fun c : Nat => PV.str [c]) (fun c => PV.str (r ++ [c])) l [] (fun c hc => ?_) (sz (by have := g.hi; simp; omega))
  · rw [this]; simp
  · simp [Rs.bind, opt, vVar, vC, vBin, vUn, vAnd, vOr, vNot, vIf, vANil, vACons, vTup, vLst, freezeAll, vCall, valAll, truth, tst, tAndT, tOrT, tNotT, tCmpT, tChainT, vChainV, mkB, boolOf, L2.VL.settle, val, freeze, sNx, sBk, sCt, sBad, sSeq, sExpr, sRet, sRetN, sIf, canPut, put, sSet, gNameV, gAll, gTupV, gSubV, sAsg, setAt, upSlot, keep, sPar, vMut, vMut0, lstT, strT, vMeth, fAppend, fExtend, fClear, runDef, retC, callF, vCallF, frzArgs, ioArgs, ioIdx, takeBack, nodupB, norf, vCall1, pAdd, pI, zSub, zMul, cMul, zMod, zDiv, zPow, gLtI, pIx, pNeg, pInt, pMax, pMin, pAbs, pDivmod, pLen, pList, intOf, oSome, oNone, vCut, pCut, iAny, atI, ixN, tYesV, lc1, okW, wipeE, show r.length + 1 ≤ sizeLine from sz (by omega)]
theorem k_then {a : VL.Slot} {l w : List Nat} (g : Good l) (hr : w.length ≤ 100) : lcL [2] (gNameV 2) tYesV (vBin pAdd (vCut (vVar 1) (oSome (vC (.int 1))) oNone) (vVar 2)) (l.map fun c => PV.str [c]) [] [a, .fz (.str w), .un] = some ((l.map fun c => w.drop 1 ++ [c]).map PV.str, [a, .fz (.str w), .un]) := by
  have := lcL_map' (vs := [2]) (g := gNameV 2) (t := tYesV) (ve := vBin pAdd (vCut (vVar 1) (oSome (vC (.int 1))) oNone) (vVar 2)) (ρ := [a, .fz (.str w), .un]) (fun c : Nat => PV.str [c]) (fun c => PV.str (w.drop 1 ++ [c])) l [] (fun c hc => ?_) (sz (by have := g.hi; simp; omega))
  · rw [this]; simp
  · simp [Rs.bind, opt, vVar, vC, vBin, vUn, vAnd, vOr, vNot, vIf, vANil, vACons, vTup, vLst, freezeAll, vCall, valAll, truth, tst, tAndT, tOrT, tNotT, tCmpT, tChainT, vChainV, mkB, boolOf, L2.VL.settle, val, freeze, sNx, sBk, sCt, sBad, sSeq, sExpr, sRet, sRetN, sIf, canPut, put, sSet, gNameV, gAll, gTupV, gSubV, sAsg, setAt, upSlot, keep, sPar, vMut, vMut0, lstT, strT, vMeth, fAppend, fExtend, fClear, runDef, retC, callF, vCallF, frzArgs, ioArgs, ioIdx, takeBack, nodupB, norf, vCall1, pAdd, pI, zSub, zMul, cMul, zMod, zDiv, zPow, gLtI, pIx, pNeg, pInt, pMax, pMin, pAbs, pDivmod, pLen, pList, intOf, oSome, oNone, vCut, pCut, iAny, atI, ixN, tYesV, lc1, okW, wipeE, cut_1, show w.length ≤ sizeLine from sz (by omega), show w.length - 1 + 1 ≤ sizeLine from sz (by omega)]
theorem last_of {w : List Nat} (h : w ≠ []) : ∃ v c, w = v ++ [c] := ⟨w.dropLast, w.getLast h, (List.dropLast_concat_getLast h).symm⟩
theorem e_followers {l w : List Nat} (g : Good l) (hw : okS w) (hl : w.length ≤ 50) : ∃ ρ, m_followers [.fz (.str l), .fz (.str w)] = .ok (.ow (.lst ((F l w).map PV.str))) ρ := by
  have p1 := @pIn_two w
  have p2 := pEq_str hw ok0
  have s1 : (1 : Nat) ≤ sizeLine := sz (by decide)
  have s0 : (2 : Nat) ≤ sizeLine := sz (by decide)
  unfold m_followers b_followers
  by_cases h0 : w = []
  · subst h0
    simp [Rs.bind, opt, vVar, vC, vBin, vUn, vAnd, vOr, vNot, vIf, vANil, vACons, vTup, vLst, freezeAll, vCall, valAll, truth, tst, tAndT, tOrT, tNotT, tCmpT, tChainT, vChainV, mkB, boolOf, L2.VL.settle, val, freeze, sNx, sBk, sCt, sBad, sSeq, sExpr, sRet, sRetN, sIf, canPut, put, sSet, gNameV, gAll, gTupV, gSubV, sAsg, setAt, upSlot, keep, sPar, vMut, vMut0, lstT, strT, vMeth, fAppend, fExtend, fClear, runDef, retC, callF, vCallF, frzArgs, ioArgs, ioIdx, takeBack, nodupB, norf, vCall1, pAdd, pI, zSub, zMul, cMul, zMod, zDiv, zPow, gLtI, pIx, pNeg, pInt, pMax, pMin, pAbs, pDivmod, pLen, pList, intOf, oSome, oNone, vCut, pCut, iAny, atI, ixN, tYesV, p1, p2, F, s1, s0]
  · by_cases h1 : w = [46]
    · subst h1
      have p3 := pEq_str ok46 ok0
      have p1 : pIn (.str [46]) (.tup [.str [], .str [46]]) = some true := by rw [pIn_two]; simp
      have p3 : pEq (.str [46]) (.str []) = some false := by rw [pEq_str ok46 ok0]; simp
      simp [Rs.bind, opt, vVar, vC, vBin, vUn, vAnd, vOr, vNot, vIf, vANil, vACons, vTup, vLst, freezeAll, vCall, valAll, truth, tst, tAndT, tOrT, tNotT, tCmpT, tChainT, vChainV, mkB, boolOf, L2.VL.settle, val, freeze, sNx, sBk, sCt, sBad, sSeq, sExpr, sRet, sRetN, sIf, canPut, put, sSet, gNameV, gAll, gTupV, gSubV, sAsg, setAt, upSlot, keep, sPar, vMut, vMut0, lstT, strT, vMeth, fAppend, fExtend, fClear, runDef, retC, callF, vCallF, frzArgs, ioArgs, ioIdx, takeBack, nodupB, norf, vCall1, pAdd, pI, zSub, zMul, cMul, zMod, zDiv, zPow, gLtI, pIx, pNeg, pInt, pMax, pMin, pAbs, pDivmod, pLen, pList, intOf, oSome, oNone, vCut, pCut, iAny, atI, ixN, tYesV, p1, p3, F, s1, s0]
    · obtain ⟨v, c, rfl⟩ := last_of h0
      have hc : c < 0x110000 := hw c (by simp)
      have hv : v.length ≤ 50 := by rw [List.length_append] at hl; omega
      obtain ⟨ρ1, e1⟩ := e_ends hc (v := v) (by omega)
      have p1 : pIn (.str (v ++ [c])) (.tup [.str [], .str [46]]) = some false := by rw [pIn_two]; simp [h0, h1]
      have key := @k_foll (.fz (.str l)) (.fz (.str (v ++ [c]))) .un l ((v ++ [c]).drop 1) g (by simp; omega)
      have s2 : v.length + 1 ≤ sizeLine := sz (by omega)
      have s3 : v.length + 1 - 1 + 1 ≤ sizeLine := sz (by omega)
      have s4 : 1 + l.length ≤ sizeLine := sz (by have := g.hi; omega)
      have hF : F l (v ++ [c]) = if c = 46 then [(v ++ [c]).drop 1] else ((v ++ [c]).drop 1 ++ [46]) :: l.map fun x => (v ++ [c]).drop 1 ++ [x] := by
        unfold F
        rw [if_neg h0, if_neg h1, List.getLast?_concat]
        simp
      generalize hz : (v ++ [c]).drop 1 = z at key hF
      have hzl : z.length = v.length := by rw [← hz, List.length_drop, List.length_append]; simp
      rw [hF]
      by_cases h46 : c = 46
      · subst h46
        simp [Rs.bind, opt, vVar, vC, vBin, vUn, vAnd, vOr, vNot, vIf, vANil, vACons, vTup, vLst, freezeAll, vCall, valAll, truth, tst, tAndT, tOrT, tNotT, tCmpT, tChainT, vChainV, mkB, boolOf, L2.VL.settle, val, freeze, sNx, sBk, sCt, sBad, sSeq, sExpr, sRet, sRetN, sIf, canPut, put, sSet, gNameV, gAll, gTupV, gSubV, sAsg, setAt, upSlot, keep, sPar, vMut, vMut0, lstT, strT, vMeth, fAppend, fExtend, fClear, runDef, retC, callF, vCallF, frzArgs, ioArgs, ioIdx, takeBack, nodupB, norf, vCall1, pAdd, pI, zSub, zMul, cMul, zMod, zDiv, zPow, gLtI, pIx, pNeg, pInt, pMax, pMin, pAbs, pDivmod, pLen, pList, intOf, oSome, oNone, vCut, pCut, iAny, atI, ixN, tYesV, p1, e1, cut_1, hz, s1, s2, s0]
      · have sL : l.length + 1 ≤ sizeLine := sz (by have := g.hi; omega)
        simp [Rs.bind, opt, vVar, vC, vBin, vUn, vAnd, vOr, vNot, vIf, vANil, vACons, vTup, vLst, freezeAll, vCall, valAll, truth, tst, tAndT, tOrT, tNotT, tCmpT, tChainT, vChainV, mkB, boolOf, L2.VL.settle, val, freeze, sNx, sBk, sCt, sBad, sSeq, sExpr, sRet, sRetN, sIf, canPut, put, sSet, gNameV, gAll, gTupV, gSubV, sAsg, setAt, upSlot, keep, sPar, vMut, vMut0, lstT, strT, vMeth, fAppend, fExtend, fClear, runDef, retC, callF, vCallF, frzArgs, ioArgs, ioIdx, takeBack, nodupB, norf, vCall1, pAdd, pI, zSub, zMul, cMul, zMod, zDiv, zPow, gLtI, pIx, pNeg, pInt, pMax, pMin, pAbs, pDivmod, pLen, pList, intOf, oSome, oNone, vCut, pCut, iAny, atI, ixN, tYesV, p1, e1, h46, cut_1, hz, s1, s2, s0, vLc, okW, wipeE, unwipe, key, sL, s4, hzl]
end K61

set_option Elab.async false
set_option linter.all false
set_option maxRecDepth 100000
set_option maxHeartbeats 0
namespace K61
open PySem PySem.Spec PyProof.Rows L2 L2.VL
theorem ix_last (v : List Nat) (c : Nat) (h : v.length ≤ 100) : pIx (.str (v ++ [c])) (.int (-1)) = some (.fz (.str [c])) := by
  have e : atI (v ++ [c]) (-1) = some c := by
    unfold atI ixN
    rw [if_neg (by decide), if_pos (by rw [List.length_append]; simp; omega)]
    have : ((-1 : Int) + ((v ++ [c]).length : Int)).toNat = v.length := by rw [List.length_append]; simp; omega
    show (v ++ [c])[((-1 : Int) + ((v ++ [c]).length : Int)).toNat]? = some c
    rw [this]; simp
  show (if (v ++ [c]).length ≤ sizeLine then (atI (v ++ [c]) (-1)).map fun c => Cell.fz (.str [c]) else none) = _
  rw [e, if_pos (sz (by rw [List.length_append]; simp; omega))]; rfl
theorem e_thens {l w : List Nat} (g : Good l) (hw : okS w) (hl : w.length ≤ 50) : ∃ ρ, m__law_thens [.fz (.str l), .fz (.str w)] = .ok (.ow (.lst ((F l w).map PV.str))) ρ := by
  have p1 := @pIn_two w
  have p2 := pEq_str hw ok0
  have s1 : (1 : Nat) ≤ sizeLine := sz (by decide)
  have s0 : (2 : Nat) ≤ sizeLine := sz (by decide)
  unfold m__law_thens b__law_thens
  by_cases h0 : w = []
  · subst h0
    simp [Rs.bind, opt, vVar, vC, vBin, vUn, vAnd, vOr, vNot, vIf, vANil, vACons, vTup, vLst, freezeAll, vCall, valAll, truth, tst, tAndT, tOrT, tNotT, tCmpT, tChainT, vChainV, mkB, boolOf, L2.VL.settle, val, freeze, sNx, sBk, sCt, sBad, sSeq, sExpr, sRet, sRetN, sIf, canPut, put, sSet, gNameV, gAll, gTupV, gSubV, sAsg, setAt, upSlot, keep, sPar, vMut, vMut0, lstT, strT, vMeth, fAppend, fExtend, fClear, runDef, retC, callF, vCallF, frzArgs, ioArgs, ioIdx, takeBack, nodupB, norf, vCall1, pAdd, pI, zSub, zMul, cMul, zMod, zDiv, zPow, gLtI, pNeg, pInt, pMax, pMin, pAbs, pDivmod, pLen, pList, intOf, oSome, oNone, vCut, pCut, iAny, tYesV, p1, p2, F, s1, s0]
  · by_cases h1 : w = [46]
    · subst h1
      have p1 : pIn (.str [46]) (.tup [.str [], .str [46]]) = some true := by rw [pIn_two]; simp
      have p3 : pEq (.str [46]) (.str []) = some false := by rw [pEq_str ok46 ok0]; simp
      simp [Rs.bind, opt, vVar, vC, vBin, vUn, vAnd, vOr, vNot, vIf, vANil, vACons, vTup, vLst, freezeAll, vCall, valAll, truth, tst, tAndT, tOrT, tNotT, tCmpT, tChainT, vChainV, mkB, boolOf, L2.VL.settle, val, freeze, sNx, sBk, sCt, sBad, sSeq, sExpr, sRet, sRetN, sIf, canPut, put, sSet, gNameV, gAll, gTupV, gSubV, sAsg, setAt, upSlot, keep, sPar, vMut, vMut0, lstT, strT, vMeth, fAppend, fExtend, fClear, runDef, retC, callF, vCallF, frzArgs, ioArgs, ioIdx, takeBack, nodupB, norf, vCall1, pAdd, pI, zSub, zMul, cMul, zMod, zDiv, zPow, gLtI, pNeg, pInt, pMax, pMin, pAbs, pDivmod, pLen, pList, intOf, oSome, oNone, vCut, pCut, iAny, tYesV, p1, p3, F, s1, s0]
    · obtain ⟨v, c, rfl⟩ := last_of h0
      have hc : c < 0x110000 := hw c (by simp)
      have hv : v.length ≤ 50 := by rw [List.length_append] at hl; omega
      have ix := ix_last v c (by omega)
      have p4 : pEq (.str [c]) (.str [46]) = some (decide (c = 46)) := by
        rw [pEq_str (fun x hx => by rw [List.mem_singleton.mp hx]; exact hc) ok46]; simp
      have p1 : pIn (.str (v ++ [c])) (.tup [.str [], .str [46]]) = some false := by rw [pIn_two]; simp [h0, h1]
      have key := @k_then (.fz (.str l)) l (v ++ [c]) g (by simp; omega)
      have s2 : v.length + 1 ≤ sizeLine := sz (by omega)
      have s4 : 1 + l.length ≤ sizeLine := sz (by have := g.hi; omega)
      have hF : F l (v ++ [c]) = if c = 46 then [(v ++ [c]).drop 1] else ((v ++ [c]).drop 1 ++ [46]) :: l.map fun x => (v ++ [c]).drop 1 ++ [x] := by
        unfold F
        rw [if_neg h0, if_neg h1, List.getLast?_concat]
        simp
      generalize hz : (v ++ [c]).drop 1 = z at key hF
      have hzl : z.length = v.length := by rw [← hz, List.length_drop, List.length_append]; simp
      rw [hF]
      by_cases h46 : c = 46
      · subst h46
        simp [Rs.bind, opt, vVar, vC, vBin, vUn, vAnd, vOr, vNot, vIf, vANil, vACons, vTup, vLst, freezeAll, vCall, valAll, truth, tst, tAndT, tOrT, tNotT, tCmpT, tChainT, vChainV, mkB, boolOf, L2.VL.settle, val, freeze, sNx, sBk, sCt, sBad, sSeq, sExpr, sRet, sRetN, sIf, canPut, put, sSet, gNameV, gAll, gTupV, gSubV, sAsg, setAt, upSlot, keep, sPar, vMut, vMut0, lstT, strT, vMeth, fAppend, fExtend, fClear, runDef, retC, callF, vCallF, frzArgs, ioArgs, ioIdx, takeBack, nodupB, norf, vCall1, pAdd, pI, zSub, zMul, cMul, zMod, zDiv, zPow, gLtI, pNeg, pInt, pMax, pMin, pAbs, pDivmod, pLen, pList, intOf, oSome, oNone, vCut, pCut, iAny, tYesV, p1, p4, ix, cut_1, hz, s1, s2, s0]
      · have sL : l.length + 1 ≤ sizeLine := sz (by have := g.hi; omega)
        simp [Rs.bind, opt, vVar, vC, vBin, vUn, vAnd, vOr, vNot, vIf, vANil, vACons, vTup, vLst, freezeAll, vCall, valAll, truth, tst, tAndT, tOrT, tNotT, tCmpT, tChainT, vChainV, mkB, boolOf, L2.VL.settle, val, freeze, sNx, sBk, sCt, sBad, sSeq, sExpr, sRet, sRetN, sIf, canPut, put, sSet, gNameV, gAll, gTupV, gSubV, sAsg, setAt, upSlot, keep, sPar, vMut, vMut0, lstT, strT, vMeth, fAppend, fExtend, fClear, runDef, retC, callF, vCallF, frzArgs, ioArgs, ioIdx, takeBack, nodupB, norf, vCall1, pAdd, pI, zSub, zMul, cMul, zMod, zDiv, zPow, gLtI, pNeg, pInt, pMax, pMin, pAbs, pDivmod, pLen, pList, intOf, oSome, oNone, vCut, pCut, iAny, tYesV, p1, p4, ix, h46, cut_1, hz, s1, s2, s0, vLc, okW, wipeE, unwipe, key, sL, s4, hzl]
theorem W_len {l : List Nat} {n : Nat} {w : List Nat} (h : w ∈ W l n) (hn : n ≤ 3) : w.length ≤ 3 := by
  rcases List.mem_append.mp h with h | h
  · obtain ⟨k, hk, r, a, rfl⟩ := D_mem.mp h
    rw [List.length_append, R_len a]; simp; omega
  · rw [R_len h]; exact hn
theorem e_following {l w : List Nat} (g : Good l) (n : Nat) (hn : n ≤ 3) (hw : w ∈ W l n) : ∃ ρ, m_following [.fz (.str l), .fz (.int n), .fz (.str w)] = .ok (.ow (.lst ((F l w).map PV.str))) ρ := by
  obtain ⟨ρ1, e1⟩ := e_want_letters g
  obtain ⟨ρ2, e2⟩ := e_want_ahead hn
  obtain ⟨ρ3, e3⟩ := e_windows_of g n hn
  obtain ⟨ρ4, e4⟩ := e_followers g (W_ok g hw) (Nat.le_trans (W_len hw hn) (by decide))
  have t1 : pIsInst [.str w, .ty "str"] = some (.fz (.bl true)) := rfl
  have t2 : pNotIn (.str w) (.lst ((W l n).map PV.str)) = some false := by rw [pNotIn_strs (W_ok g hw) fun x hx => W_ok g hx, decide_eq_true hw]; rfl
  have e5 : ∃ ρ, m_want_window [.fz (.str l), .fz (.int n), .fz (.str w)] = .ok (.fz .non) ρ := by
    unfold m_want_window b_want_window
    simp [Rs.bind, opt, vVar, vC, vBin, vUn, vAnd, vOr, vNot, vIf, vANil, vACons, vTup, vLst, freezeAll, vCall, valAll, truth, tst, tAndT, tOrT, tNotT, tCmpT, tChainT, vChainV, mkB, boolOf, L2.VL.settle, val, freeze, sNx, sBk, sCt, sBad, sSeq, sExpr, sRet, sRetN, sIf, canPut, put, sSet, gNameV, gAll, gTupV, gSubV, sAsg, setAt, upSlot, keep, sPar, vMut, vMut0, lstT, strT, vMeth, fAppend, fExtend, fClear, runDef, retC, callF, vCallF, frzArgs, ioArgs, ioIdx, takeBack, nodupB, norf, vCall1, pAdd, pI, zSub, zMul, cMul, zMod, zDiv, zPow, gLtI, pIx, pNeg, pInt, pMax, pMin, pAbs, pDivmod, pLen, pList, intOf, oSome, oNone, vCut, pCut, iAny, atI, ixN, tYesV, t1, t2, e3]
  obtain ⟨ρ5, e5⟩ := e5
  unfold m_following b_following
  simp [Rs.bind, opt, vVar, vC, vBin, vUn, vAnd, vOr, vNot, vIf, vANil, vACons, vTup, vLst, freezeAll, vCall, valAll, truth, tst, tAndT, tOrT, tNotT, tCmpT, tChainT, vChainV, mkB, boolOf, L2.VL.settle, val, freeze, sNx, sBk, sCt, sBad, sSeq, sExpr, sRet, sRetN, sIf, canPut, put, sSet, gNameV, gAll, gTupV, gSubV, sAsg, setAt, upSlot, keep, sPar, vMut, vMut0, lstT, strT, vMeth, fAppend, fExtend, fClear, runDef, retC, callF, vCallF, frzArgs, ioArgs, ioIdx, takeBack, nodupB, norf, vCall1, pAdd, pI, zSub, zMul, cMul, zMod, zDiv, zPow, gLtI, pIx, pNeg, pInt, pMax, pMin, pAbs, pDivmod, pLen, pList, intOf, oSome, oNone, vCut, pCut, iAny, atI, ixN, tYesV, e1, e2, e5, e4]
def seen (w : List Nat) (p far : Nat) : List Nat := if far ≤ (w.drop p).length then (w.drop p).take far else w.drop p ++ [46]
theorem e_seen (w : List Nat) (p far : Nat) (hw : w.length ≤ 100) : ∃ ρ, m__law_seen [.fz (.str w), .fz (.int p), .fz (.int far)] = .ok (.fz (.str (seen w p far))) ρ := by
  have s1 : w.length ≤ sizeLine := sz (by omega)
  have s2 : (w.drop p).length ≤ sizeLine := sz (by rw [List.length_drop]; omega)
  have s3 : (w.drop p).length + 1 ≤ sizeLine := sz (by rw [List.length_drop]; omega)
  unfold m__law_seen b__law_seen
  by_cases h : far ≤ (w.drop p).length
  · have h' : (far : Int) ≤ ((w.drop p).length : Int) := by omega
    generalize hz : w.drop p = z at s2 s3 h h'
    simp [Rs.bind, opt, vVar, vC, vBin, vUn, vAnd, vOr, vNot, vIf, vANil, vACons, vTup, vLst, freezeAll, vCall, valAll, truth, tst, tAndT, tOrT, tNotT, tCmpT, tChainT, vChainV, mkB, boolOf, L2.VL.settle, val, freeze, sNx, sBk, sCt, sBad, sSeq, sExpr, sRet, sRetN, sIf, canPut, put, sSet, gNameV, gAll, gTupV, gSubV, sAsg, setAt, upSlot, keep, sPar, vMut, vMut0, lstT, strT, vMeth, fAppend, fExtend, fClear, runDef, retC, callF, vCallF, frzArgs, ioArgs, ioIdx, takeBack, nodupB, norf, vCall1, pAdd, pI, zSub, zMul, cMul, zMod, zDiv, zPow, gLtI, pIx, pNeg, pInt, pMax, pMin, pAbs, pDivmod, pLen, pList, intOf, oSome, oNone, vCut, pCut, iAny, atI, ixN, tYesV, cut_from, cut_to, s1, hz, s2, h', seen, h]
  · have h' : ¬ (far : Int) ≤ ((w.drop p).length : Int) := by omega
    generalize hz : w.drop p = z at s2 s3 h h'
    simp [Rs.bind, opt, vVar, vC, vBin, vUn, vAnd, vOr, vNot, vIf, vANil, vACons, vTup, vLst, freezeAll, vCall, valAll, truth, tst, tAndT, tOrT, tNotT, tCmpT, tChainT, vChainV, mkB, boolOf, L2.VL.settle, val, freeze, sNx, sBk, sCt, sBad, sSeq, sExpr, sRet, sRetN, sIf, canPut, put, sSet, gNameV, gAll, gTupV, gSubV, sAsg, setAt, upSlot, keep, sPar, vMut, vMut0, lstT, strT, vMeth, fAppend, fExtend, fClear, runDef, retC, callF, vCallF, frzArgs, ioArgs, ioIdx, takeBack, nodupB, norf, vCall1, pAdd, pI, zSub, zMul, cMul, zMod, zDiv, zPow, gLtI, pIx, pNeg, pInt, pMax, pMin, pAbs, pDivmod, pLen, pList, intOf, oSome, oNone, vCut, pCut, iAny, atI, ixN, tYesV, cut_from, cut_to, s1, hz, s2, s3, h', seen, h]
/-! ### their number -/
def Mn (a : Nat) : Nat → Nat
  | 0 => 1
  | n + 1 => Mn a n * a + 1
theorem Mn_le {a : Nat} (h : a ≤ 4) : ∀ {n : Nat}, n ≤ 3 → Mn a n ≤ 85
  | 0, _ => by simp [Mn]
  | 1, _ => by simp [Mn]; omega
  | 2, _ => by simp only [Mn]; have : (1 * a + 1) * a ≤ 5 * 4 := Nat.mul_le_mul (by omega) h; omega
  | 3, _ => by
    simp only [Mn]
    have h1 : (1 * a + 1) * a ≤ 5 * 4 := Nat.mul_le_mul (by omega) h
    have : ((1 * a + 1) * a + 1) * a ≤ 21 * 4 := Nat.mul_le_mul (by omega) h
    omega
theorem D_num (l : List Nat) : ∀ n : Nat, (D l n).length * l.length + 1 = (D l n).length + l.length ^ n
  | 0 => by simp [D]
  | n + 1 => by
    have := D_num l n
    rw [D, List.length_append, List.length_map, R_length, Nat.add_mul, Nat.pow_succ]; omega
theorem W_length (l : List Nat) : ∀ n : Nat, (W l n).length = Mn l.length n
  | 0 => rfl
  | n + 1 => by
    have h1 := W_length l n
    have h2 := D_num l n
    unfold W at h1 ⊢
    rw [List.length_append, R_length] at h1 ⊢
    rw [D, List.length_append, List.length_map, R_length, Mn, ← h1, Nat.add_mul, Nat.pow_succ]; omega
theorem e_many (a n : Nat) (ha : a ≤ 4) (hn : n ≤ 3) : ∃ ρ, m__law_many [.fz (.int a), .fz (.int n)] = .ok (.fz (.int (Mn a n))) ρ := by
  have loop := loopF_all (g := gNameV 3) (body := sSet 2 (vBin pAdd (vBin (pI zMul) (vVar 2) (vVar 0)) (vC (.int 1)))) (fun i : Nat => PV.int (i : Int))
    (fun i ρ => ∃ s, Pl s ∧ ρ = [.fz (.int a), .fz (.int n), .fz (.int (Mn a i)), s]) (List.range n) (fun i x ρ hx h => ?_) [.fz (.int a), .fz (.int n), .fz (.int 1), .un] ⟨.un, .inl rfl, rfl⟩
  · obtain ⟨ρ', e, s, hs, rfl⟩ := loop
    rw [List.length_range] at e
    have fr := (for_range (g := gNameV 3) (va := vACons (vVar 1) vANil) (ρ := [.fz (.int a), .fz (.int n), .fz (.int 1), .un]) (cs := [.fz (.int n)]) (j := (n : Int)) (by simp [Rs.bind, opt, vVar, vC, vBin, vUn, vAnd, vOr, vNot, vIf, vANil, vACons, vTup, vLst, freezeAll, vCall, valAll, truth, tst, tAndT, tOrT, tNotT, tCmpT, tChainT, vChainV, mkB, boolOf, L2.VL.settle, val, freeze, sNx, sBk, sCt, sBad, sSeq, sExpr, sRet, sRetN, sIf, canPut, put, sSet, gNameV, gAll, gTupV, gSubV, sAsg, setAt, upSlot, keep, sPar, vMut, vMut0, lstT, strT, vMeth, fAppend, fExtend, fClear, runDef, retC, callF, vCallF, frzArgs, ioArgs, ioIdx, takeBack, nodupB, norf, vCall1, pAdd, pI, zSub, zMul, cMul, zMod, zDiv, zPow, gLtI, pIx, pNeg, pInt, pMax, pMin, pAbs, pDivmod, pLen, pList, intOf, oSome, oNone, vCut, pCut, iAny, atI, ixN, tYesV]) (by simp [Rs.bind, opt, vVar, vC, vBin, vUn, vAnd, vOr, vNot, vIf, vANil, vACons, vTup, vLst, freezeAll, vCall, valAll, truth, tst, tAndT, tOrT, tNotT, tCmpT, tChainT, vChainV, mkB, boolOf, L2.VL.settle, val, freeze, sNx, sBk, sCt, sBad, sSeq, sExpr, sRet, sRetN, sIf, canPut, put, sSet, gNameV, gAll, gTupV, gSubV, sAsg, setAt, upSlot, keep, sPar, vMut, vMut0, lstT, strT, vMeth, fAppend, fExtend, fClear, runDef, retC, callF, vCallF, frzArgs, ioArgs, ioIdx, takeBack, nodupB, norf, vCall1, pAdd, pI, zSub, zMul, cMul, zMod, zDiv, zPow, gLtI, pIx, pNeg, pInt, pMax, pMin, pAbs, pDivmod, pLen, pList, intOf, oSome, oNone, vCut, pCut, iAny, atI, ixN, tYesV]) (by omega) (by omega)).trans e
    unfold m__law_many b__law_many
    simp [Rs.bind, opt, vVar, vC, vBin, vUn, vAnd, vOr, vNot, vIf, vANil, vACons, vTup, vLst, freezeAll, vCall, valAll, truth, tst, tAndT, tOrT, tNotT, tCmpT, tChainT, vChainV, mkB, boolOf, L2.VL.settle, val, freeze, sNx, sBk, sCt, sBad, sSeq, sExpr, sRet, sRetN, sIf, canPut, put, sSet, gNameV, gAll, gTupV, gSubV, sAsg, setAt, upSlot, keep, sPar, vMut, vMut0, lstT, strT, vMeth, fAppend, fExtend, fClear, runDef, retC, callF, vCallF, frzArgs, ioArgs, ioIdx, takeBack, nodupB, norf, vCall1, pAdd, pI, zSub, zMul, cMul, zMod, zDiv, zPow, gLtI, pIx, pNeg, pInt, pMax, pMin, pAbs, pDivmod, pLen, pList, intOf, oSome, oNone, vCut, pCut, iAny, atI, ixN, tYesV, fr]
  · obtain ⟨s, hs, rfl⟩ := h
    have hi : i < n := by have := len_of hx; simpa using this
    have hxi : x = i := by rw [List.getElem?_range hi] at hx; exact (Option.some.inj hx).symm
    subst hxi
    have hz := smallZ_of (k := 18446744073709551614) (i := (a : Int)) (by omega) (by omega)
    refine ⟨[.fz (.int a), .fz (.int n), .fz (.int (Mn a x)), .fz (.int (x : Int))], ?_, [.fz (.int a), .fz (.int n), .fz (.int (Mn a (x + 1))), .fz (.int (x : Int))], .inl ?_, _, .inr ⟨_, rfl⟩, rfl⟩
    · rcases hs with rfl | ⟨d, rfl⟩ <;> simp [Rs.bind, opt, vVar, vC, vBin, vUn, vAnd, vOr, vNot, vIf, vANil, vACons, vTup, vLst, freezeAll, vCall, valAll, truth, tst, tAndT, tOrT, tNotT, tCmpT, tChainT, vChainV, mkB, boolOf, L2.VL.settle, val, freeze, sNx, sBk, sCt, sBad, sSeq, sExpr, sRet, sRetN, sIf, canPut, put, sSet, gNameV, gAll, gTupV, gSubV, sAsg, setAt, upSlot, keep, sPar, vMut, vMut0, lstT, strT, vMeth, fAppend, fExtend, fClear, runDef, retC, callF, vCallF, frzArgs, ioArgs, ioIdx, takeBack, nodupB, norf, vCall1, pAdd, pI, zSub, zMul, cMul, zMod, zDiv, zPow, gLtI, pIx, pNeg, pInt, pMax, pMin, pAbs, pDivmod, pLen, pList, intOf, oSome, oNone, vCut, pCut, iAny, atI, ixN, tYesV]
    · simp [Rs.bind, opt, vVar, vC, vBin, vUn, vAnd, vOr, vNot, vIf, vANil, vACons, vTup, vLst, freezeAll, vCall, valAll, truth, tst, tAndT, tOrT, tNotT, tCmpT, tChainT, vChainV, mkB, boolOf, L2.VL.settle, val, freeze, sNx, sBk, sCt, sBad, sSeq, sExpr, sRet, sRetN, sIf, canPut, put, sSet, gNameV, gAll, gTupV, gSubV, sAsg, setAt, upSlot, keep, sPar, vMut, vMut0, lstT, strT, vMeth, fAppend, fExtend, fClear, runDef, retC, callF, vCallF, frzArgs, ioArgs, ioIdx, takeBack, nodupB, norf, vCall1, pAdd, pI, zSub, zMul, cMul, zMod, zDiv, zPow, gLtI, pIx, pNeg, pInt, pMax, pMin, pAbs, pDivmod, pLen, pList, intOf, oSome, oNone, vCut, pCut, iAny, atI, ixN, tYesV, hz, Mn]
end K61

set_option Elab.async false
set_option linter.all false
set_option maxRecDepth 100000
set_option maxHeartbeats 0
namespace K61
open PySem PySem.Spec PyProof.Rows L2 L2.VL
/-! ### plain facts of seen -/
theorem seen_mem {l w : List Nat} {p far : Nat} (hw : ∀ c ∈ w, c ∈ l) : seen w p far ∈ W l far := by
  unfold seen W
  have hd : ∀ c ∈ w.drop p, c ∈ l := fun c hc => hw c (List.mem_of_mem_drop hc)
  by_cases h : far ≤ (w.drop p).length
  · rw [if_pos h]
    exact List.mem_append_right _ (R_mem.mpr ⟨by rw [List.length_take]; omega, fun c hc => hd c (List.mem_of_mem_take hc)⟩)
  · rw [if_neg h]
    exact List.mem_append_left _ (D_mem.mpr ⟨(w.drop p).length, by omega, w.drop p, R_mem.mpr ⟨rfl, hd⟩, rfl⟩)
theorem seen_end (w : List Nat) {far : Nat} (h : 0 < far) : seen w w.length far = [46] := by
  unfold seen
  rw [List.drop_length, if_neg (by simp; omega)]; rfl
theorem no46 {l : List Nat} (g : Good l) : 46 ∉ l := fun h => by have := (g.ab 46 h).1; omega
theorem seen_next {l w : List Nat} {p far : Nat} (g : Good l) (hw : ∀ c ∈ w, c ∈ l) (hp : p < w.length) : seen w (p + 1) far ∈ F l (seen w p far) := by
  have hd : ∀ c ∈ w.drop p, c ∈ l := fun c hc => hw c (List.mem_of_mem_drop hc)
  have e1 : w.drop (p + 1) = (w.drop p).drop 1 := by rw [List.drop_drop, Nat.add_comm]
  have hl : (w.drop p).length = w.length - p := List.length_drop
  unfold seen
  rw [e1]
  generalize hz : w.drop p = z at hd hl ⊢
  have hzl : 0 < z.length := by omega
  have hz1 : (z.drop 1).length = z.length - 1 := List.length_drop
  have n46 := no46 g
  by_cases h0 : far = 0
  · subst h0
    rw [if_pos (Nat.zero_le _), if_pos (Nat.zero_le _), List.take_zero, List.take_zero]
    simp [F]
  · by_cases h : far ≤ z.length
    · rw [if_pos h]
      have hne : z.take far ≠ [] := fun q => by have := congrArg List.length q; rw [List.length_take, List.length_nil] at this; omega
      have hm : ∀ c ∈ z.take far, c ∈ l := fun c hc => hd c (List.mem_of_mem_take hc)
      have h46 : z.take far ≠ [46] := fun q => n46 (hm 46 (by rw [q]; exact List.mem_cons_self))
      have hlast : ¬ (z.take far).getLast? = some 46 := fun q => n46 (hm 46 (List.mem_of_getLast? q))
      unfold F
      rw [if_neg hne, if_neg h46, if_neg hlast]
      by_cases h2 : far ≤ (z.drop 1).length
      · rw [if_pos h2]
        refine List.mem_cons_of_mem _ (List.mem_map.mpr ⟨z[far]'(by rw [hz1] at h2; omega), hd _ (List.getElem_mem _), ?_⟩)
        have e2 : (z.drop 1).take far = (z.take (far + 1)).drop 1 := by rw [List.drop_take]; rfl
        rw [e2, List.take_add_one, List.getElem?_eq_getElem (by rw [hz1] at h2; omega)]
        rw [List.drop_append_of_le_length (by rw [List.length_take]; omega)]; rfl
      · rw [if_neg h2]
        have e3 : z.take far = z := List.take_of_length_le (by rw [hz1] at h2; omega)
        rw [e3]; exact List.mem_cons_self
    · rw [if_neg h, if_neg (by rw [hz1]; omega)]
      have hne : z ++ [46] ≠ [] := by simp
      have h46 : z ++ [46] ≠ [46] := fun q => by have := congrArg List.length q; simp at this; subst this; simp at hzl
      unfold F
      rw [if_neg hne, if_neg h46, List.getLast?_concat, if_pos rfl]
      rw [List.drop_append_of_le_length hzl]; exact List.mem_singleton.mpr rfl
/-! ### no window twice -/
theorem R_nodup {l : List Nat} (g : Good l) : ∀ n : Nat, (R l n).Nodup
  | 0 => by simp [R]
  | n + 1 => by
    rw [R]
    refine List.pairwise_flatMap.mpr ⟨fun r hr => List.pairwise_map.mpr (g.nodup.imp fun h q => h (by simpa using q)), (R_nodup g n).imp fun h x hx y hy q => ?_⟩
    obtain ⟨c, _, rfl⟩ := List.mem_map.mp hx
    obtain ⟨d, _, rfl⟩ := List.mem_map.mp hy
    exact h (List.append_inj_left' q rfl)
theorem D_nodup {l : List Nat} (g : Good l) : ∀ n : Nat, (D l n).Nodup
  | 0 => .nil
  | n + 1 => by
    rw [D]
    refine List.nodup_append.mpr ⟨D_nodup g n, List.pairwise_map.mpr ((R_nodup g n).imp fun h q => h (List.append_inj_left' q rfl)), fun x hx y hy q => ?_⟩
    obtain ⟨k, hk, r, a, rfl⟩ := D_mem.mp hx
    obtain ⟨r', b, rfl⟩ := List.mem_map.mp hy
    have := congrArg List.length q
    rw [List.length_append, List.length_append, R_len a, R_len b] at this
    simp at this; omega
theorem W_nodup {l : List Nat} (g : Good l) (n : Nat) : (W l n).Nodup := by
  refine List.nodup_append.mpr ⟨D_nodup g n, R_nodup g n, fun x hx y hy q => ?_⟩
  subst q
  obtain ⟨k, hk, r, a, rfl⟩ := D_mem.mp hx
  exact no46 g ((R_mem.mp hy).2 46 (by simp))
theorem W_ne {l : List Nat} (n : Nat) (g : Good l) : W l n ≠ [] := fun q => by
  have h := W_length l n
  rw [q] at h
  cases n with
  | zero => simp [Mn] at h
  | succ n => simp [Mn] at h
/-! ### signs drawn -/
def leB (a b : Nat) : Bool := decide (a ≤ b)
theorem leB_ord : Ord leB := ⟨fun a b => by simp [leB]; omega, fun a b c => by simp [leB]; omega, fun a b => by simp [leB]; omega⟩
theorem insB_one (c : Nat) : ∀ gs : List Nat, insB leN [c] (gs.map fun c => [c]) = (insB leB c gs).map fun c => [c]
  | [] => rfl
  | x :: gs => by
    rw [List.map_cons, insB, insB, leN_one]
    by_cases h : c ≤ x
    · rw [if_pos (decide_eq_true h), if_pos (show leB c x = true from decide_eq_true h)]; rfl
    · rw [if_neg (by simpa using h), if_neg (by simpa [leB] using h), List.map_cons, insB_one c gs]
theorem isort_one : ∀ fs : List Nat, isort leN (fs.map fun c => [c]) = (isort leB fs).map fun c => [c]
  | [] => rfl
  | c :: fs => by rw [List.map_cons, isort, isort, isort_one fs, insB_one]
theorem joinN_one : ∀ cs : List Nat, joinN [] (cs.map fun c => [c]) = cs
  | [] => rfl
  | [c] => rfl
  | c :: d :: cs => by
    have := joinN_one (d :: cs)
    rw [List.map_cons] at this
    rw [List.map_cons, List.map_cons, joinN, this]; rfl
abbrev ABC : List Nat := [97, 98, 99, 100, 101, 102, 103, 104, 105, 106, 107, 108, 109, 110, 111, 112, 113, 114, 115, 116, 117, 118, 119, 120, 121, 122]
theorem free_letter {fs : List Nat} (h : fs.length ≤ 3) : 0 < (ABC.filter fun c => !decide (c ∈ fs)).length := by
  have : ∃ c ∈ ABC, c ∉ fs := by
    match fs, h with
    | [], _ => exact ⟨97, by simp, by simp⟩
    | [x], _ =>
      by_cases hx : x = 97
      · exact ⟨98, by simp, by simp [hx]⟩
      · exact ⟨97, by simp, by simp; omega⟩
    | [x, y], _ =>
      by_cases h1 : 97 = x ∨ 97 = y
      · by_cases h2 : 98 = x ∨ 98 = y
        · exact ⟨99, by simp, by simp; omega⟩
        · exact ⟨98, by simp, by simpa using h2⟩
      · exact ⟨97, by simp, by simpa using h1⟩
    | [x, y, z], _ =>
      by_cases h1 : 97 = x ∨ 97 = y ∨ 97 = z
      · by_cases h2 : 98 = x ∨ 98 = y ∨ 98 = z
        · by_cases h3 : 99 = x ∨ 99 = y ∨ 99 = z
          · exact ⟨100, by simp, by simp; omega⟩
          · exact ⟨99, by simp, by simpa using h3⟩
        · exact ⟨98, by simp, by simpa using h2⟩
      · exact ⟨97, by simp, by simpa using h1⟩
  obtain ⟨c, a, b⟩ := this
  exact List.length_pos_of_mem (List.mem_filter.mpr ⟨a, by simp [b]⟩)
theorem k_left {p s2 s3 : VL.Slot} {fs : List Nat} (h : ∀ c ∈ fs, 97 ≤ c ∧ c ≤ 122) : lcL [4] (gNameV 4) (tCmpT pNotIn (vVar 4) (vVar 1)) (vVar 4) (ABC.map fun c => PV.str [c]) [] [p, .ow (.lst (fs.map fun c => PV.str [c])), s2, s3, .un] =
    some (((ABC.filter fun c => !decide (c ∈ fs)).map fun c => [c]).map PV.str, [p, .ow (.lst (fs.map fun c => PV.str [c])), s2, s3, .un]) := by
  have := lcL_map (vs := [4]) (g := gNameV 4) (t := tCmpT pNotIn (vVar 4) (vVar 1)) (ve := vVar 4) (ρ := [p, .ow (.lst (fs.map fun c => PV.str [c])), s2, s3, .un]) (fun c : Nat => PV.str [c]) (fun c => if c ∈ fs then none else some (PV.str [c])) ABC [] (fun c hc => ?_) (sz (by decide))
  · rw [this]
    have : ∀ xs : List Nat, xs.filterMap (fun c => if c ∈ fs then none else some (PV.str [c])) = ((xs.filter fun c => !decide (c ∈ fs)).map fun c => [c]).map PV.str := by
      intro xs
      induction xs with
      | nil => rfl
      | cons x xs ih => by_cases h : x ∈ fs <;> simp [h, ih]
    rw [this]; rfl
  · have hc2 : c ≤ 122 := by simp only [ABC, List.mem_cons, List.not_mem_nil, or_false] at hc; omega
    have e : (fs.map fun c => PV.str [c]) = (fs.map fun c => [c]).map PV.str := by simp
    have hp : pNotIn (.str [c]) (.lst (fs.map fun c => PV.str [c])) = some (!decide (c ∈ fs)) := by
      rw [e, pNotIn_strs (fun x hx => by rw [List.mem_singleton.mp hx]; omega) (fun w hw => ?_)]
      · simp
      · obtain ⟨d, hd, rfl⟩ := List.mem_map.mp hw
        exact fun x hx => by have := (h d hd).2; rw [List.mem_singleton.mp hx]; omega
    by_cases hm : c ∈ fs
    · simp [Rs.bind, opt, vVar, vC, vBin, vUn, vAnd, vOr, vNot, vIf, vANil, vACons, vTup, vLst, freezeAll, vCall, valAll, truth, tst, tAndT, tOrT, tNotT, tCmpT, tChainT, vChainV, mkB, boolOf, L2.VL.settle, val, freeze, sNx, sBk, sCt, sBad, sSeq, sExpr, sRet, sRetN, sIf, canPut, put, sSet, gNameV, gAll, gTupV, gSubV, sAsg, setAt, upSlot, keep, sPar, vMut, vMut0, lstT, strT, vMeth, fAppend, fExtend, fClear, runDef, retC, callF, vCallF, frzArgs, ioArgs, ioIdx, takeBack, nodupB, norf, vCall1, pAdd, pI, zSub, zMul, cMul, zMod, zDiv, zPow, gLtI, pIx, pNeg, pInt, pMax, pMin, pAbs, pDivmod, pLen, pList, intOf, oSome, oNone, vCut, pCut, iAny, atI, ixN, tYesV, lc1, okW, wipeE, hp, hm]
    · simp [Rs.bind, opt, vVar, vC, vBin, vUn, vAnd, vOr, vNot, vIf, vANil, vACons, vTup, vLst, freezeAll, vCall, valAll, truth, tst, tAndT, tOrT, tNotT, tCmpT, tChainT, vChainV, mkB, boolOf, L2.VL.settle, val, freeze, sNx, sBk, sCt, sBad, sSeq, sExpr, sRet, sRetN, sIf, canPut, put, sSet, gNameV, gAll, gTupV, gSubV, sAsg, setAt, upSlot, keep, sPar, vMut, vMut0, lstT, strT, vMeth, fAppend, fExtend, fClear, runDef, retC, callF, vCallF, frzArgs, ioArgs, ioIdx, takeBack, nodupB, norf, vCall1, pAdd, pI, zSub, zMul, cMul, zMod, zDiv, zPow, gLtI, pIx, pNeg, pInt, pMax, pMin, pAbs, pDivmod, pLen, pList, intOf, oSome, oNone, vCut, pCut, iAny, atI, ixN, tYesV, lc1, okW, wipeE, hp, hm]
theorem sorted_Good {fs : List Nat} (n1 : 1 ≤ fs.length) (n4 : fs.length ≤ 4) (nd : fs.Nodup) (h : ∀ c ∈ fs, 97 ≤ c ∧ c ≤ 122) : Good (isort leB fs) where
  lo := by rw [(isort_perm fs).length_eq]; exact n1
  hi := by rw [(isort_perm fs).length_eq]; exact n4
  ab := fun c hc => h c ((isort_perm fs).mem_iff.mp hc)
  pw := by
    have h1 := isort_pw leB_ord fs
    have h2 : (isort leB fs).Nodup := (isort_perm fs).nodup_iff.mpr nd
    refine (h1.and h2).imp fun ⟨a, b⟩ => ?_
    have a : _ ≤ _ := of_decide_eq_true a
    omega
theorem e_signs {a b : Int} (P : Pot a b) : ∃ l a' b' ρ, m__law_signs [.io (pt a b)] = .ok (.fz (.str l)) (.io (pt a' b') :: ρ) ∧ Good l ∧ Pot a' b' := by
  obtain ⟨d, a1, b1, s, e, d0, d4, P1⟩ := e_draw (m := 4) P (by decide) (by decide)
  have s1 : (1 : Nat) ≤ sizeLine := sz (by decide)
  have loop := loopF_all (g := gNameV 2) (body := sSeq (sSet 3 (vLc (iAny (vC (.str ABC))) [4] (gNameV 4) (tCmpT pNotIn (vVar 4) (vVar 1)) (vVar 4))) (sExpr (vMut lstT fAppend (vVar 1) (vACons (vCallF m__law_pick [true, false] [] (vACons (vVar 0) (vACons (vVar 3) vANil))) vANil)))) (fun i : Nat => PV.int (i : Int))
    (fun i ρ => ∃ (a b : Int) (fs : List Nat) (s2 s3 : VL.Slot), Pot a b ∧ fs.length = i ∧ fs.Nodup ∧ (∀ c ∈ fs, 97 ≤ c ∧ c ≤ 122) ∧ Pl s2 ∧ Pl s3 ∧ ρ = [.io (pt a b), .ow (.lst (fs.map fun c => PV.str [c])), s2, s3, .un]) (List.range (1 + d).toNat) (fun i x ρ hx h => ?_) [.io (pt a1 b1), .ow (.lst []), .un, .un, .un]
    ⟨a1, b1, [], .un, .un, P1, rfl, .nil, (fun c h => nomatch h), .inl rfl, .inl rfl, rfl⟩
  · obtain ⟨ρ', el, a2, b2, fs, s2, s3, P2, hn, hnd, hab, h2, h3, rfl⟩ := loop
    rw [List.length_range] at hn
    have fr := (for_range (g := gNameV 2) (va := vACons (vBin pAdd (vC (.int 1)) (vCallF m__law_draw [true, false] [] (vACons (vVar 0) (vACons (vC (.int 4)) vANil)))) vANil) (ρ := [.io (pt a b), .ow (.lst []), .un, .un, .un]) (ρ1 := [.io (pt a1 b1), .ow (.lst []), .un, .un, .un]) (cs := [.fz (.int (1 + d))]) (j := 1 + d) (by simp [Rs.bind, opt, vVar, vC, vBin, vUn, vAnd, vOr, vNot, vIf, vANil, vACons, vTup, vLst, freezeAll, vCall, valAll, truth, tst, tAndT, tOrT, tNotT, tCmpT, tChainT, vChainV, mkB, boolOf, L2.VL.settle, val, freeze, sNx, sBk, sCt, sBad, sSeq, sExpr, sRet, sRetN, sIf, canPut, put, sSet, gNameV, gAll, gTupV, gSubV, sAsg, setAt, upSlot, keep, sPar, vMut, vMut0, lstT, strT, vMeth, fAppend, fExtend, fClear, runDef, retC, callF, vCallF, frzArgs, ioArgs, ioIdx, takeBack, nodupB, norf, vCall1, pAdd, pI, zSub, zMul, cMul, zMod, zDiv, zPow, gLtI, pIx, pNeg, pInt, pMax, pMin, pAbs, pDivmod, pLen, pList, intOf, oSome, oNone, vCut, pCut, iAny, atI, ixN, tYesV, e]) (by simp [Rs.bind, opt, vVar, vC, vBin, vUn, vAnd, vOr, vNot, vIf, vANil, vACons, vTup, vLst, freezeAll, vCall, valAll, truth, tst, tAndT, tOrT, tNotT, tCmpT, tChainT, vChainV, mkB, boolOf, L2.VL.settle, val, freeze, sNx, sBk, sCt, sBad, sSeq, sExpr, sRet, sRetN, sIf, canPut, put, sSet, gNameV, gAll, gTupV, gSubV, sAsg, setAt, upSlot, keep, sPar, vMut, vMut0, lstT, strT, vMeth, fAppend, fExtend, fClear, runDef, retC, callF, vCallF, frzArgs, ioArgs, ioIdx, takeBack, nodupB, norf, vCall1, pAdd, pI, zSub, zMul, cMul, zMod, zDiv, zPow, gLtI, pIx, pNeg, pInt, pMax, pMin, pAbs, pDivmod, pLen, pList, intOf, oSome, oNone, vCut, pCut, iAny, atI, ixN, tYesV]) (by omega) (by omega)).trans el
    have g := sorted_Good (fs := fs) (by omega) (by omega) hnd hab
    have hne : fs ≠ [] := fun q => by subst q; simp at hn; omega
    have hs : pSorted [.lst (fs.map fun c => PV.str [c])] = some (.ow (.lst (((isort leB fs).map fun c => [c]).map PV.str))) := by
      have e1 : (fs.map fun c => PV.str [c]) = (fs.map fun c => [c]).map PV.str := by simp
      have e2 : intsOf (fs.map fun c => PV.str [c]) = none := by cases fs with
        | nil => exact absurd rfl hne
        | cons c fs => rfl
      show (match intsOf (fs.map fun c => PV.str [c]) with | some ks => some (Cell.ow (.lst ((isort leZ ks).map PV.int))) | none => (strsOf (fs.map fun c => PV.str [c])).map fun ks => Cell.ow (.lst ((isort leN ks).map PV.str))) = _
      rw [e2, e1, strsOf_of]
      show some (Cell.ow (.lst ((isort leN (fs.map fun c => [c])).map PV.str))) = _
      rw [isort_one]
    have hj : pJoin (.str []) [.lst (((isort leB fs).map fun c => [c]).map PV.str)] = some (.fz (.str (isort leB fs))) := by
      show (strsOf (((isort leB fs).map fun c => [c]).map PV.str)).bind (fun ls => if (ls.map (·.length)).sum + ls.length * ([] : List Nat).length ≤ 16777216 then some (Cell.fz (.str (joinN [] ls))) else none) = _
      rw [strsOf_of, Option.bind_some, joinN_one, if_pos]
      have : (((isort leB fs).map fun c => [c]).map (·.length)).sum = (isort leB fs).length := by
        have : ∀ xs : List Nat, ((xs.map fun c => [c]).map (·.length)).sum = xs.length := by
          intro xs
          induction xs with
          | nil => rfl
          | cons x xs ih => rw [List.map_cons, List.map_cons, List.sum_cons, ih, List.length_cons]; simp; omega
        exact this _
      rw [this]; have := g.hi; simp; omega
    refine ⟨isort leB fs, a2, b2, [.ow (.lst (fs.map fun c => PV.str [c])), s2, s3, .un], ?_, g, P2⟩
    generalize hL : ((isort leB fs).map fun c => [c]).map PV.str = L at hs hj
    unfold m__law_signs b__law_signs
    simp [Rs.bind, opt, vVar, vC, vBin, vUn, vAnd, vOr, vNot, vIf, vANil, vACons, vTup, vLst, freezeAll, vCall, valAll, truth, tst, tAndT, tOrT, tNotT, tCmpT, tChainT, vChainV, mkB, boolOf, L2.VL.settle, val, freeze, sNx, sBk, sCt, sBad, sSeq, sExpr, sRet, sRetN, sIf, canPut, put, sSet, gNameV, gAll, gTupV, gSubV, sAsg, setAt, upSlot, keep, sPar, vMut, vMut0, lstT, strT, vMeth, fAppend, fExtend, fClear, runDef, retC, callF, vCallF, frzArgs, ioArgs, ioIdx, takeBack, nodupB, norf, vCall1, pAdd, pI, zSub, zMul, cMul, zMod, zDiv, zPow, gLtI, pIx, pNeg, pInt, pMax, pMin, pAbs, pDivmod, pLen, pList, intOf, oSome, oNone, vCut, pCut, iAny, atI, ixN, tYesV, fr, hs, hj]
  · obtain ⟨a2, b2, fs, s2, s3, P2, hn, hnd, hab, h2, h3, rfl⟩ := h
    have hi : i < (1 + d).toNat := by have := len_of hx; simpa using this
    have hxi : x = i := by rw [List.getElem?_range hi] at hx; exact (Option.some.inj hx).symm
    subst hxi
    have key := @k_left (.io (pt a2 b2)) (.fz (.int (x : Int))) s3 fs hab
    have h0 := free_letter (fs := fs) (by omega)
    have h26 : (ABC.filter fun c => !decide (c ∈ fs)).length ≤ 26 := Nat.le_trans (List.length_filter_le _ _) (by decide)
    have hmem : ∀ c ∈ ABC.filter (fun c => !decide (c ∈ fs)), 97 ≤ c ∧ c ≤ 122 ∧ c ∉ fs := fun c hc => by
      obtain ⟨h1, h2⟩ := List.mem_filter.mp hc
      simp only [ABC, List.mem_cons, List.not_mem_nil, or_false] at h1
      have : c ∉ fs := by simpa using h2
      exact ⟨by omega, by omega, this⟩
    generalize hX : (ABC.filter fun c => !decide (c ∈ fs)) = X at key h0 h26 hmem
    obtain ⟨y, a3, b3, ep, hy, P3⟩ := e_pickL (xs := X.map fun c => [c]) P2 (by rw [List.length_map]; exact h0) (by rw [List.length_map]; omega)
    obtain ⟨c, hc, rfl⟩ := List.mem_map.mp hy
    generalize hL : (X.map fun c => [c]).map PV.str = L at key ep
    obtain ⟨c1, c2, c3⟩ := hmem c hc
    have hap : (fs.map fun c => PV.str [c]) ++ [PV.str [c]] = (fs ++ [c]).map fun c => PV.str [c] := by simp
    have hal : iAny (vC (.str ABC)) [.io (pt a2 b2), .ow (.lst (fs.map fun c => PV.str [c])), .fz (.int (x : Int)), s3, .un] = .ok (ABC.map fun c => PV.str [c]) [.io (pt a2 b2), .ow (.lst (fs.map fun c => PV.str [c])), .fz (.int (x : Int)), s3, .un] := by simp [Rs.bind, opt, vVar, vC, vBin, vUn, vAnd, vOr, vNot, vIf, vANil, vACons, vTup, vLst, freezeAll, vCall, valAll, truth, tst, tAndT, tOrT, tNotT, tCmpT, tChainT, vChainV, mkB, boolOf, L2.VL.settle, val, freeze, sNx, sBk, sCt, sBad, sSeq, sExpr, sRet, sRetN, sIf, canPut, put, sSet, gNameV, gAll, gTupV, gSubV, sAsg, setAt, upSlot, keep, sPar, vMut, vMut0, lstT, strT, vMeth, fAppend, fExtend, fClear, runDef, retC, callF, vCallF, frzArgs, ioArgs, ioIdx, takeBack, nodupB, norf, vCall1, pAdd, pI, zSub, zMul, cMul, zMod, zDiv, zPow, gLtI, pIx, pNeg, pInt, pMax, pMin, pAbs, pDivmod, pLen, pList, intOf, oSome, oNone, vCut, pCut, iAny, atI, ixN, tYesV]
    refine ⟨[.io (pt a2 b2), .ow (.lst (fs.map fun c => PV.str [c])), .fz (.int (x : Int)), s3, .un], ?_, [.io (pt a3 b3), .ow (.lst ((fs ++ [c]).map fun c => PV.str [c])), .fz (.int (x : Int)), .fz (.lst L), .un], .inl ?_, a3, b3, fs ++ [c], _, _, P3, by rw [List.length_append, hn]; rfl, ?_, fun z hz => ?_, .inr ⟨_, rfl⟩, .inr ⟨_, rfl⟩, rfl⟩
    · rcases h2 with rfl | ⟨d, rfl⟩ <;> simp [Rs.bind, opt, vVar, vC, vBin, vUn, vAnd, vOr, vNot, vIf, vANil, vACons, vTup, vLst, freezeAll, vCall, valAll, truth, tst, tAndT, tOrT, tNotT, tCmpT, tChainT, vChainV, mkB, boolOf, L2.VL.settle, val, freeze, sNx, sBk, sCt, sBad, sSeq, sExpr, sRet, sRetN, sIf, canPut, put, sSet, gNameV, gAll, gTupV, gSubV, sAsg, setAt, upSlot, keep, sPar, vMut, vMut0, lstT, strT, vMeth, fAppend, fExtend, fClear, runDef, retC, callF, vCallF, frzArgs, ioArgs, ioIdx, takeBack, nodupB, norf, vCall1, pAdd, pI, zSub, zMul, cMul, zMod, zDiv, zPow, gLtI, pIx, pNeg, pInt, pMax, pMin, pAbs, pDivmod, pLen, pList, intOf, oSome, oNone, vCut, pCut, iAny, atI, ixN, tYesV]
    · have hv : vLc (iAny (vC (.str ABC))) [4] (gNameV 4) (tCmpT pNotIn (vVar 4) (vVar 1)) (vVar 4) [.io (pt a2 b2), .ow (.lst (fs.map fun c => PV.str [c])), .fz (.int (x : Int)), s3, .un] = .ok (.ow (.lst L)) [.io (pt a2 b2), .ow (.lst (fs.map fun c => PV.str [c])), .fz (.int (x : Int)), s3, .un] := vLc_eq hal rfl key rfl
      have one : sSet 3 (vLc (iAny (vC (.str ABC))) [4] (gNameV 4) (tCmpT pNotIn (vVar 4) (vVar 1)) (vVar 4)) [.io (pt a2 b2), .ow (.lst (fs.map fun c => PV.str [c])), .fz (.int (x : Int)), s3, .un] = .ok .nx [.io (pt a2 b2), .ow (.lst (fs.map fun c => PV.str [c])), .fz (.int (x : Int)), .ow (.lst L), .un] := by
        unfold sSet
        rw [hv]
        rcases h3 with rfl | ⟨d3, rfl⟩ <;> simp [Rs.bind, opt, vVar, vC, vBin, vUn, vAnd, vOr, vNot, vIf, vANil, vACons, vTup, vLst, freezeAll, vCall, valAll, truth, tst, tAndT, tOrT, tNotT, tCmpT, tChainT, vChainV, mkB, boolOf, L2.VL.settle, val, freeze, sNx, sBk, sCt, sBad, sSeq, sExpr, sRet, sRetN, sIf, canPut, put, sSet, gNameV, gAll, gTupV, gSubV, sAsg, setAt, upSlot, keep, sPar, vMut, vMut0, lstT, strT, vMeth, fAppend, fExtend, fClear, runDef, retC, callF, vCallF, frzArgs, ioArgs, ioIdx, takeBack, nodupB, norf, vCall1, pAdd, pI, zSub, zMul, cMul, zMod, zDiv, zPow, gLtI, pIx, pNeg, pInt, pMax, pMin, pAbs, pDivmod, pLen, pList, intOf, oSome, oNone, vCut, pCut, iAny, atI, ixN, tYesV]
      have two : sExpr (vMut lstT fAppend (vVar 1) (vACons (vCallF m__law_pick [true, false] [] (vACons (vVar 0) (vACons (vVar 3) vANil))) vANil)) [.io (pt a2 b2), .ow (.lst (fs.map fun c => PV.str [c])), .fz (.int (x : Int)), .ow (.lst L), .un] = .ok .nx [.io (pt a3 b3), .ow (.lst ((fs ++ [c]).map fun c => PV.str [c])), .fz (.int (x : Int)), .fz (.lst L), .un] := by
        have hl : fs.length < sizeLine := by have := sz (n := 100) (by decide); omega
        simp [Rs.bind, opt, vVar, vC, vBin, vUn, vAnd, vOr, vNot, vIf, vANil, vACons, vTup, vLst, freezeAll, vCall, valAll, truth, tst, tAndT, tOrT, tNotT, tCmpT, tChainT, vChainV, mkB, boolOf, L2.VL.settle, val, freeze, sNx, sBk, sCt, sBad, sSeq, sExpr, sRet, sRetN, sIf, canPut, put, sSet, gNameV, gAll, gTupV, gSubV, sAsg, setAt, upSlot, keep, sPar, vMut, vMut0, lstT, strT, vMeth, fAppend, fExtend, fClear, runDef, retC, callF, vCallF, frzArgs, ioArgs, ioIdx, takeBack, nodupB, norf, vCall1, pAdd, pI, zSub, zMul, cMul, zMod, zDiv, zPow, gLtI, pIx, pNeg, pInt, pMax, pMin, pAbs, pDivmod, pLen, pList, intOf, oSome, oNone, vCut, pCut, iAny, atI, ixN, tYesV, ep, hl]
      simp only [sSeq, one, two]
    · exact List.nodup_append.mpr ⟨hnd, by simp, fun u hu v hv q => by rw [List.mem_singleton.mp hv] at q; subst q; exact c3 hu⟩
    · rcases List.mem_append.mp hz with hz | hz
      · exact hab z hz
      · rw [List.mem_singleton.mp hz]; exact ⟨c1, c2⟩
end K61

set_option Elab.async false
set_option linter.all false
set_option maxRecDepth 100000
set_option maxHeartbeats 0
namespace K61
open PySem PySem.Spec PyProof.Rows L2 L2.VL
/-! ### the pot -/
theorem e_pot {ns : List Int} (c : Nat) (hc : c < 1000) : ∃ a b ρ, m__law_pot [.fz (.scr ns), .fz (.int c)] = .ok (.ow (pt a b)) ρ ∧ Pot a b := by
  have z1 := smallZ_of (k := 18446744073709551614) (i := 41) (by decide) (by decide)
  have z2 := smallZ_of (k := 18446744073709551614) (i := 2) (by decide) (by decide)
  have z3 := smallZ_of (k := 1000000) (i := 3) (by decide) (by decide)
  have z4 := smallZ_of (k := 1000000) (i := 18) (by decide) (by decide)
  have z5 := smallZ_of (k := 18446744073709551614) (i := 10) (by decide) (by decide)
  have z6 := smallZ_of (k := 18446744073709551614) (i := 2 * (c : Int) + 3) (by omega) (by omega)
  have fin : ∀ own : Int, ∃ a b, Pot a b ∧ (if own - 1000000000000000000 > 0 then own - 1000000000000000000 else 0) = a ∧ ((own % 2147483549 + 5) * (2 * (c : Int) + 3) ^ 3) % 2147483587 + 1 = b ∧ smallZ 18446744073709551614 (own % 2147483549 + 5) = true := fun own => by
    have h1 := Int.emod_nonneg own (b := 2147483549) (by decide)
    have h2 := Int.emod_lt_of_pos own (b := 2147483549) (by decide)
    have h3 := Int.emod_nonneg ((own % 2147483549 + 5) * (2 * (c : Int) + 3) ^ 3) (b := 2147483587) (by decide)
    have h4 := Int.emod_lt_of_pos ((own % 2147483549 + 5) * (2 * (c : Int) + 3) ^ 3) (b := 2147483587) (by decide)
    refine ⟨_, _, ⟨?_, by omega, by omega⟩, rfl, rfl, smallZ_of (by omega) (by omega)⟩
    split <;> omega
  have s2 : (2 : Nat) ≤ sizeLine := sz (by decide)
  by_cases h : c < ns.length
  · have hn : ns[c]? = some ns[c] := List.getElem?_eq_getElem h
    obtain ⟨a, b, P, e1, e2, e3⟩ := fin (if ns[c] < 0 then -ns[c] else ns[c])
    suffices hh : ∃ ρ, m__law_pot [.fz (.scr ns), .fz (.int c)] = .ok (.ow (pt a b)) ρ by obtain ⟨ρ, hh⟩ := hh; exact ⟨a, b, ρ, hh, P⟩
    · unfold m__law_pot b__law_pot
      generalize hw : (if ns[c] < 0 then -ns[c] else ns[c]) = own at e1 e2 e3
      subst e1; subst e2
      simp [Rs.bind, opt, vVar, vC, vBin, vUn, vAnd, vOr, vNot, vIf, vANil, vACons, vTup, vLst, freezeAll, vCall, valAll, truth, tst, tAndT, tOrT, tNotT, tCmpT, tChainT, vChainV, mkB, boolOf, L2.VL.settle, val, freeze, sNx, sBk, sCt, sBad, sSeq, sExpr, sRet, sRetN, sIf, canPut, put, sSet, gNameV, gAll, gTupV, gSubV, sAsg, setAt, upSlot, keep, sPar, vMut, vMut0, lstT, strT, vMeth, fAppend, fExtend, fClear, runDef, retC, callF, vCallF, frzArgs, ioArgs, ioIdx, takeBack, nodupB, norf, vCall1, pAdd, pI, zSub, zMul, cMul, zMod, zDiv, zPow, gLtI, pIx, pNeg, pInt, pMax, pMin, pAbs, pDivmod, pLen, pList, intOf, oSome, oNone, vCut, pCut, iAny, atI, ixN, tYesV, z1, z2, z3, z4, z5, z6, e3, h, hn, hw, s2]
  · obtain ⟨a, b, P, e1, e2, e3⟩ := fin (41 * (c : Int) + 19)
    suffices hh : ∃ ρ, m__law_pot [.fz (.scr ns), .fz (.int c)] = .ok (.ow (pt a b)) ρ by obtain ⟨ρ, hh⟩ := hh; exact ⟨a, b, ρ, hh, P⟩
    · unfold m__law_pot b__law_pot
      generalize hw : 41 * (c : Int) + 19 = own at e1 e2 e3
      subst e1; subst e2
      simp [Rs.bind, opt, vVar, vC, vBin, vUn, vAnd, vOr, vNot, vIf, vANil, vACons, vTup, vLst, freezeAll, vCall, valAll, truth, tst, tAndT, tOrT, tNotT, tCmpT, tChainT, vChainV, mkB, boolOf, L2.VL.settle, val, freeze, sNx, sBk, sCt, sBad, sSeq, sExpr, sRet, sRetN, sIf, canPut, put, sSet, gNameV, gAll, gTupV, gSubV, sAsg, setAt, upSlot, keep, sPar, vMut, vMut0, lstT, strT, vMeth, fAppend, fExtend, fClear, runDef, retC, callF, vCallF, frzArgs, ioArgs, ioIdx, takeBack, nodupB, norf, vCall1, pAdd, pI, zSub, zMul, cMul, zMod, zDiv, zPow, gLtI, pIx, pNeg, pInt, pMax, pMin, pAbs, pDivmod, pLen, pList, intOf, oSome, oNone, vCut, pCut, iAny, atI, ixN, tYesV, z1, z2, z3, z4, z5, z6, e3, h, hw, s2]
/-! ### a drawn line -/
theorem l_line {l : List Nat} (g : Good l) {far s3 s4 s6 s7 s8 : VL.Slot} : ∀ (xs acc : List PV) (a b : Int), (∀ x ∈ xs, ∃ i : Int, x = .int i) → Pot a b → acc.length + xs.length ≤ sizeLine → ∃ (cs : List Nat) (a' b' : Int), cs.length = xs.length ∧ (∀ c ∈ cs, c ∈ l) ∧ Pot a' b' ∧
    lcL [5] (gNameV 5) tYesV (vCallF m__law_pick [true, false] [] (vACons (vVar 0) (vACons (vVar 1) vANil))) xs acc [.io (pt a b), .fz (.str l), far, s3, s4, .un, s6, s7, s8] = some (acc ++ cs.map (fun c => PV.str [c]), [.io (pt a' b'), .fz (.str l), far, s3, s4, .un, s6, s7, s8])
  | [], acc, a, b, _, P, _ => ⟨[], a, b, rfl, (fun c h => nomatch h), P, by simp [lcL]⟩
  | x :: xs, acc, a, b, hx, P, hl => by
    obtain ⟨i, rfl⟩ := hx x List.mem_cons_self
    obtain ⟨c, a1, b1, e, hc, P1⟩ := e_pickS (l := l) P (by have := g.lo; omega) (by have := g.hi; omega)
    rw [List.length_cons] at hl
    have one : lc1 [5] (gNameV 5) tYesV (vCallF m__law_pick [true, false] [] (vACons (vVar 0) (vACons (vVar 1) vANil))) (.int i) [.io (pt a b), .fz (.str l), far, s3, s4, .un, s6, s7, s8] = some (some (PV.str [c]), [.io (pt a1 b1), .fz (.str l), far, s3, s4, .un, s6, s7, s8]) := by
      simp [Rs.bind, opt, vVar, vC, vBin, vUn, vAnd, vOr, vNot, vIf, vANil, vACons, vTup, vLst, freezeAll, vCall, valAll, truth, tst, tAndT, tOrT, tNotT, tCmpT, tChainT, vChainV, mkB, boolOf, L2.VL.settle, val, freeze, sNx, sBk, sCt, sBad, sSeq, sExpr, sRet, sRetN, sIf, canPut, put, sSet, gNameV, gAll, gTupV, gSubV, sAsg, setAt, upSlot, keep, sPar, vMut, vMut0, lstT, strT, vMeth, fAppend, fExtend, fClear, runDef, retC, callF, vCallF, frzArgs, ioArgs, ioIdx, takeBack, nodupB, norf, vCall1, pAdd, pI, zSub, zMul, cMul, zMod, zDiv, zPow, gLtI, pIx, pNeg, pInt, pMax, pMin, pAbs, pDivmod, pLen, pList, intOf, oSome, oNone, vCut, pCut, iAny, atI, ixN, tYesV, lc1, okW, wipeE, e]
    obtain ⟨cs, a2, b2, h1, h2, P2, e2⟩ := l_line g (far := far) (s3 := s3) (s4 := s4) (s6 := s6) (s7 := s7) (s8 := s8) xs (acc ++ [PV.str [c]]) a1 b1 (fun y hy => hx y (List.mem_cons_of_mem _ hy)) P1 (by rw [List.length_append]; simp; omega)
    refine ⟨c :: cs, a2, b2, by rw [List.length_cons, List.length_cons, h1], fun d hd => ?_, P2, ?_⟩
    · rcases List.mem_cons.mp hd with rfl | hd
      · exact hc
      · exact h2 d hd
    · rw [lcL_step one (by omega)]
      show lcL _ _ _ _ xs (acc ++ [PV.str [c]]) _ = _
      rw [e2]; simp
theorem join_line {cs : List Nat} (h : cs.length ≤ 100) : pJoin (.str []) [.lst (cs.map fun c => PV.str [c])] = some (.fz (.str cs)) := by
  have e : (cs.map fun c => PV.str [c]) = (cs.map fun c => [c]).map PV.str := by simp
  show (strsOf (cs.map fun c => PV.str [c])).bind (fun ls => if (ls.map (·.length)).sum + ls.length * ([] : List Nat).length ≤ 16777216 then some (Cell.fz (.str (joinN [] ls))) else none) = _
  rw [e, strsOf_of, Option.bind_some, joinN_one, if_pos]
  have : ∀ xs : List Nat, ((xs.map fun c => [c]).map (·.length)).sum = xs.length := by
    intro xs
    induction xs with
    | nil => rfl
    | cons x xs ih => rw [List.map_cons, List.map_cons, List.sum_cons, ih, List.length_cons]; simp; omega
  rw [this]; simp; omega
theorem all_map {α : Type} (xs : List α) : pAll [.lst (xs.map fun _ => PV.bl true)] = some (.fz (.bl true)) := by
  rw [show xs.map (fun _ => PV.bl true) = List.replicate xs.length (PV.bl true) from List.map_const', pAll_true]
def sn (w : List Nat) (far : Nat) : List (List Nat) := (List.range (w.length + 1)).map fun p => seen w p far
theorem sn_mem {l w v : List Nat} {far : Nat} (hw : ∀ c ∈ w, c ∈ l) (h : v ∈ sn w far) : v ∈ W l far := by
  obtain ⟨p, _, rfl⟩ := List.mem_map.mp h
  exact seen_mem hw
theorem sn_pairs {l w : List Nat} {far : Nat} (g : Good l) (hw : ∀ c ∈ w, c ∈ l) : ∀ q ∈ (sn w far).zip ((sn w far).drop 1), q.1 ∈ W l far ∧ q.2 ∈ F l q.1 := fun q hq => by
  obtain ⟨i, hi, e⟩ := List.mem_iff_getElem.mp hq
  have h1 : (sn w far).length = w.length + 1 := by unfold sn; simp
  rw [List.length_zip, List.length_drop, h1] at hi
  rw [List.getElem_zip] at e
  subst e
  have hi2 : i < w.length := by omega
  dsimp only
  rw [List.getElem_drop]
  unfold sn
  rw [List.getElem_map, List.getElem_map, List.getElem_range, List.getElem_range]
  exact ⟨seen_mem hw, by rw [Nat.add_comm 1 i]; exact seen_next g hw hi2⟩
theorem sn_last {w : List Nat} {far : Nat} (h : 0 < far) (h2 : w.length ≤ 100) : pIx (.lst ((sn w far).map PV.str)) (.int (-1)) = some (.fz (.str [46])) := by
  have e : atI ((sn w far).map PV.str) (-1) = some (PV.str [46]) := by
    have hl : ((sn w far).map PV.str).length = w.length + 1 := by unfold sn; simp
    unfold atI ixN
    rw [if_neg (by decide), if_pos (by rw [hl]; omega), hl]
    have : ((-1 : Int) + ((w.length + 1 : Nat) : Int)).toNat = w.length := by omega
    show ((sn w far).map PV.str)[((-1 : Int) + ((w.length + 1 : Nat) : Int)).toNat]? = _
    rw [this]
    unfold sn
    simp [seen_end w h]
  show (atI ((sn w far).map PV.str) (-1)).map Cell.fz = _
  rw [e]; rfl
theorem F_mem_ok {l v w : List Nat} (g : Good l) {far : Nat} (hf : far ≤ 3) (hv : v ∈ W l far) (h : w ∈ F l v) : okS w := by
  have ov := W_ok g hv
  have od : okS (v.drop 1) := fun c hc => ov c (List.mem_of_mem_drop hc)
  unfold F at h
  split at h
  · rw [List.mem_singleton.mp h]; exact ok0
  · split at h
    · cases h
    · split at h
      · rw [List.mem_singleton.mp h]; exact od
      · rcases List.mem_cons.mp h with rfl | h
        · exact fun c hc => by rcases List.mem_append.mp hc with hc | hc; exact od c hc; rw [List.mem_singleton.mp hc]; decide
        · obtain ⟨x, hx, rfl⟩ := List.mem_map.mp h
          exact fun c hc => by rcases List.mem_append.mp hc with hc | hc; exact od c hc; rw [List.mem_singleton.mp hc]; have := (g.ab x hx).2; omega
end K61

set_option Elab.async false
set_option linter.all false
set_option maxRecDepth 100000
set_option maxHeartbeats 0
namespace K61
open PySem PySem.Spec PyProof.Rows L2 L2.VL
theorem sn_ok {l w : List Nat} {far : Nat} (g : Good l) (hw : ∀ c ∈ w, c ∈ l) {v : List Nat} (h : v ∈ sn w far) : okS v := W_ok g (sn_mem hw h)
theorem pNe_nil : pNe (.lst []) (.lst []) = some false := by
  have := pNe_strs (xs := []) (ys := []) (fun l h => nomatch h) (fun l h => nomatch h)
  simpa using this
theorem e_rows_right {a b : Int} {l : List Nat} {far : Nat} (P : Pot a b) (g : Good l) (hf : far ≤ 3) : ∃ a' b' ρ, m__law_rows_right [.io (pt a b), .fz (.str l), .fz (.int far)] = .ok (.fz (.bl true)) (.io (pt a' b') :: ρ) ∧ Pot a' b' := by
  obtain ⟨d, a1, b1, s, ed, d0, d10, P1⟩ := e_draw (m := 10) P (by decide) (by decide)
  obtain ⟨cs, a2, b2, hcs, hm, P2, el⟩ := l_line g (far := .fz (.int far)) (s3 := .un) (s4 := .un) (s6 := .un) (s7 := .un) (s8 := .un) ((List.range d.toNat).map fun i : Nat => PV.int (i : Int)) [] a1 b1 (fun x hx => by obtain ⟨i, _, rfl⟩ := List.mem_map.mp hx; exact ⟨_, rfl⟩) P1 (sz (by simp; omega))
  rw [List.length_map, List.length_range] at hcs
  have hlen : cs.length ≤ 10 := by omega
  have r1 := iRange1_ok (va := vACons (vCallF m__law_draw [true, false] [] (vACons (vVar 0) (vACons (vC (.int 10)) vANil))) vANil) (ρ := [.io (pt a b), .fz (.str l), .fz (.int far), .un, .un, .un, .un, .un, .un]) (ρ1 := [.io (pt a1 b1), .fz (.str l), .fz (.int far), .un, .un, .un, .un, .un, .un]) (cs := [.fz (.int d)]) (j := d) (by simp [Rs.bind, opt, vVar, vC, vBin, vUn, vAnd, vOr, vNot, vIf, vANil, vACons, vTup, vLst, freezeAll, vCall, valAll, truth, tst, tAndT, tOrT, tNotT, tCmpT, tChainT, vChainV, mkB, boolOf, L2.VL.settle, val, freeze, sNx, sBk, sCt, sBad, sSeq, sExpr, sRet, sRetN, sIf, canPut, put, sSet, gNameV, gAll, gTupV, gSubV, sAsg, setAt, upSlot, keep, sPar, vMut, vMut0, lstT, strT, vMeth, fAppend, fExtend, fClear, runDef, retC, callF, vCallF, frzArgs, ioArgs, ioIdx, takeBack, nodupB, norf, vCall1, pAdd, pI, zSub, zMul, cMul, zMod, zDiv, zPow, gLtI, pIx, pNeg, pInt, pMax, pMin, pAbs, pDivmod, pLen, pList, intOf, oSome, oNone, vCut, pCut, iAny, atI, ixN, tYesV, ed]) (by simp [Rs.bind, opt, vVar, vC, vBin, vUn, vAnd, vOr, vNot, vIf, vANil, vACons, vTup, vLst, freezeAll, vCall, valAll, truth, tst, tAndT, tOrT, tNotT, tCmpT, tChainT, vChainV, mkB, boolOf, L2.VL.settle, val, freeze, sNx, sBk, sCt, sBad, sSeq, sExpr, sRet, sRetN, sIf, canPut, put, sSet, gNameV, gAll, gTupV, gSubV, sAsg, setAt, upSlot, keep, sPar, vMut, vMut0, lstT, strT, vMeth, fAppend, fExtend, fClear, runDef, retC, callF, vCallF, frzArgs, ioArgs, ioIdx, takeBack, nodupB, norf, vCall1, pAdd, pI, zSub, zMul, cMul, zMod, zDiv, zPow, gLtI, pIx, pNeg, pInt, pMax, pMin, pAbs, pDivmod, pLen, pList, intOf, oSome, oNone, vCut, pCut, iAny, atI, ixN, tYesV]) (by omega) (by omega)
  have v1 := vLc_eq (vs := [5]) r1 rfl el rfl
  rw [List.nil_append] at v1
  have one : sSet 3 (vMeth strT pJoin (vC (.str [])) (vACons (vLc (iRange1 (vACons (vCallF m__law_draw [true, false] [] (vACons (vVar 0) (vACons (vC (.int 10)) vANil))) vANil)) [5] (gNameV 5) tYesV (vCallF m__law_pick [true, false] [] (vACons (vVar 0) (vACons (vVar 1) vANil)))) vANil)) [.io (pt a b), .fz (.str l), .fz (.int far), .un, .un, .un, .un, .un, .un] =
      .ok .nx [.io (pt a2 b2), .fz (.str l), .fz (.int far), .fz (.str cs), .un, .un, .un, .un, .un] := by
    have hj := join_line (cs := cs) (by omega)
    generalize hL : cs.map (fun c => PV.str [c]) = L at v1 hj
    simp [Rs.bind, opt, vVar, vC, vBin, vUn, vAnd, vOr, vNot, vIf, vANil, vACons, vTup, vLst, freezeAll, vCall, valAll, truth, tst, tAndT, tOrT, tNotT, tCmpT, tChainT, vChainV, mkB, boolOf, L2.VL.settle, val, freeze, sNx, sBk, sCt, sBad, sSeq, sExpr, sRet, sRetN, sIf, canPut, put, sSet, gNameV, gAll, gTupV, gSubV, sAsg, setAt, upSlot, keep, sPar, vMut, vMut0, lstT, strT, vMeth, fAppend, fExtend, fClear, runDef, retC, callF, vCallF, frzArgs, ioArgs, ioIdx, takeBack, nodupB, norf, vCall1, pAdd, pI, zSub, zMul, cMul, zMod, zDiv, zPow, gLtI, pIx, pNeg, pInt, pMax, pMin, pAbs, pDivmod, pLen, pList, intOf, oSome, oNone, vCut, pCut, iAny, atI, ixN, tYesV, v1, unwipe, hj]
  have sl : cs.length ≤ sizeLine := sz (by omega)
  have r2 := iRange1_ok (va := vACons (vBin pAdd (vCall pLen (vACons (vVar 3) vANil)) (vC (.int 1))) vANil) (ρ := [.io (pt a2 b2), .fz (.str l), .fz (.int far), .fz (.str cs), .un, .un, .un, .un, .un]) (ρ1 := [.io (pt a2 b2), .fz (.str l), .fz (.int far), .fz (.str cs), .un, .un, .un, .un, .un]) (cs := [.fz (.int (cs.length + 1))]) (j := (cs.length : Int) + 1) (by simp [Rs.bind, opt, vVar, vC, vBin, vUn, vAnd, vOr, vNot, vIf, vANil, vACons, vTup, vLst, freezeAll, vCall, valAll, truth, tst, tAndT, tOrT, tNotT, tCmpT, tChainT, vChainV, mkB, boolOf, L2.VL.settle, val, freeze, sNx, sBk, sCt, sBad, sSeq, sExpr, sRet, sRetN, sIf, canPut, put, sSet, gNameV, gAll, gTupV, gSubV, sAsg, setAt, upSlot, keep, sPar, vMut, vMut0, lstT, strT, vMeth, fAppend, fExtend, fClear, runDef, retC, callF, vCallF, frzArgs, ioArgs, ioIdx, takeBack, nodupB, norf, vCall1, pAdd, pI, zSub, zMul, cMul, zMod, zDiv, zPow, gLtI, pIx, pNeg, pInt, pMax, pMin, pAbs, pDivmod, pLen, pList, intOf, oSome, oNone, vCut, pCut, iAny, atI, ixN, tYesV, sl]) (by simp [Rs.bind, opt, vVar, vC, vBin, vUn, vAnd, vOr, vNot, vIf, vANil, vACons, vTup, vLst, freezeAll, vCall, valAll, truth, tst, tAndT, tOrT, tNotT, tCmpT, tChainT, vChainV, mkB, boolOf, L2.VL.settle, val, freeze, sNx, sBk, sCt, sBad, sSeq, sExpr, sRet, sRetN, sIf, canPut, put, sSet, gNameV, gAll, gTupV, gSubV, sAsg, setAt, upSlot, keep, sPar, vMut, vMut0, lstT, strT, vMeth, fAppend, fExtend, fClear, runDef, retC, callF, vCallF, frzArgs, ioArgs, ioIdx, takeBack, nodupB, norf, vCall1, pAdd, pI, zSub, zMul, cMul, zMod, zDiv, zPow, gLtI, pIx, pNeg, pInt, pMax, pMin, pAbs, pDivmod, pLen, pList, intOf, oSome, oNone, vCut, pCut, iAny, atI, ixN, tYesV]) (by omega) (by omega)
  have hR : ((cs.length : Int) + 1).toNat = cs.length + 1 := by omega
  rw [hR] at r2
  have k2 := lcL_map' (vs := [6]) (g := gNameV 6) (t := tYesV) (ve := vCallF m__law_seen [false, false, false] [] (vACons (vVar 3) (vACons (vVar 6) (vACons (vVar 2) vANil)))) (ρ := [.io (pt a2 b2), .fz (.str l), .fz (.int far), .fz (.str cs), .un, .un, .un, .un, .un]) (fun i : Nat => PV.int (i : Int)) (fun p => PV.str (seen cs p far)) (List.range (cs.length + 1)) [] (fun p hp => by
    obtain ⟨ρs, es⟩ := e_seen cs p far (by omega)
    simp [Rs.bind, opt, vVar, vC, vBin, vUn, vAnd, vOr, vNot, vIf, vANil, vACons, vTup, vLst, freezeAll, vCall, valAll, truth, tst, tAndT, tOrT, tNotT, tCmpT, tChainT, vChainV, mkB, boolOf, L2.VL.settle, val, freeze, sNx, sBk, sCt, sBad, sSeq, sExpr, sRet, sRetN, sIf, canPut, put, sSet, gNameV, gAll, gTupV, gSubV, sAsg, setAt, upSlot, keep, sPar, vMut, vMut0, lstT, strT, vMeth, fAppend, fExtend, fClear, runDef, retC, callF, vCallF, frzArgs, ioArgs, ioIdx, takeBack, nodupB, norf, vCall1, pAdd, pI, zSub, zMul, cMul, zMod, zDiv, zPow, gLtI, pIx, pNeg, pInt, pMax, pMin, pAbs, pDivmod, pLen, pList, intOf, oSome, oNone, vCut, pCut, iAny, atI, ixN, tYesV, lc1, okW, wipeE, es]) (sz (by simp; omega))
  rw [List.nil_append, show (List.range (cs.length + 1)).map (fun p => PV.str (seen cs p far)) = (sn cs far).map PV.str by unfold sn; simp] at k2
  have v2 := vLc_eq (vs := [6]) r2 rfl k2 rfl
  have two : sSet 4 (vLc (iRange1 (vACons (vBin pAdd (vCall pLen (vACons (vVar 3) vANil)) (vC (.int 1))) vANil)) [6] (gNameV 6) tYesV (vCallF m__law_seen [false, false, false] [] (vACons (vVar 3) (vACons (vVar 6) (vACons (vVar 2) vANil))))) [.io (pt a2 b2), .fz (.str l), .fz (.int far), .fz (.str cs), .un, .un, .un, .un, .un] =
      .ok .nx [.io (pt a2 b2), .fz (.str l), .fz (.int far), .fz (.str cs), .ow (.lst ((sn cs far).map PV.str)), .un, .un, .un, .un] := by
    simp [Rs.bind, opt, vVar, vC, vBin, vUn, vAnd, vOr, vNot, vIf, vANil, vACons, vTup, vLst, freezeAll, vCall, valAll, truth, tst, tAndT, tOrT, tNotT, tCmpT, tChainT, vChainV, mkB, boolOf, L2.VL.settle, val, freeze, sNx, sBk, sCt, sBad, sSeq, sExpr, sRet, sRetN, sIf, canPut, put, sSet, gNameV, gAll, gTupV, gSubV, sAsg, setAt, upSlot, keep, sPar, vMut, vMut0, lstT, strT, vMeth, fAppend, fExtend, fClear, runDef, retC, callF, vCallF, frzArgs, ioArgs, ioIdx, takeBack, nodupB, norf, vCall1, pAdd, pI, zSub, zMul, cMul, zMod, zDiv, zPow, gLtI, pIx, pNeg, pInt, pMax, pMin, pAbs, pDivmod, pLen, pList, intOf, oSome, oNone, vCut, pCut, iAny, atI, ixN, tYesV, v2, unwipe]
  obtain ⟨ρw, ew⟩ := e_windows g far hf
  have snl : (sn cs far).length = cs.length + 1 := by unfold sn; simp
  have k3 := lcL_map' (vs := [7]) (g := gNameV 7) (t := tYesV) (ve := vBin (mkB pIn) (vVar 7) (vCallF m_windows [false, false] [] (vACons (vVar 1) (vACons (vVar 2) vANil)))) (ρ := [.io (pt a2 b2), .fz (.str l), .fz (.int far), .fz (.str cs), .fz (.lst ((sn cs far).map PV.str)), .un, .un, .un, .un]) PV.str (fun _ => PV.bl true) (sn cs far) [] (fun v hv => by
    have hp : pIn (.str v) (.lst ((W l far).map PV.str)) = some true := by rw [pIn_strs (sn_ok g hm hv) fun x hx => W_ok g hx, decide_eq_true (sn_mem hm hv)]
    simp [Rs.bind, opt, vVar, vC, vBin, vUn, vAnd, vOr, vNot, vIf, vANil, vACons, vTup, vLst, freezeAll, vCall, valAll, truth, tst, tAndT, tOrT, tNotT, tCmpT, tChainT, vChainV, mkB, boolOf, L2.VL.settle, val, freeze, sNx, sBk, sCt, sBad, sSeq, sExpr, sRet, sRetN, sIf, canPut, put, sSet, gNameV, gAll, gTupV, gSubV, sAsg, setAt, upSlot, keep, sPar, vMut, vMut0, lstT, strT, vMeth, fAppend, fExtend, fClear, runDef, retC, callF, vCallF, frzArgs, ioArgs, ioIdx, takeBack, nodupB, norf, vCall1, pAdd, pI, zSub, zMul, cMul, zMod, zDiv, zPow, gLtI, pIx, pNeg, pInt, pMax, pMin, pAbs, pDivmod, pLen, pList, intOf, oSome, oNone, vCut, pCut, iAny, atI, ixN, tYesV, lc1, okW, wipeE, ew, hp]) (sz (by simp; omega))
  rw [List.nil_append] at k3
  have i3 : iAny (vVar 4) [.io (pt a2 b2), .fz (.str l), .fz (.int far), .fz (.str cs), .ow (.lst ((sn cs far).map PV.str)), .un, .un, .un, .un] = .ok ((sn cs far).map PV.str) [.io (pt a2 b2), .fz (.str l), .fz (.int far), .fz (.str cs), .fz (.lst ((sn cs far).map PV.str)), .un, .un, .un, .un] := by simp [Rs.bind, opt, vVar, vC, vBin, vUn, vAnd, vOr, vNot, vIf, vANil, vACons, vTup, vLst, freezeAll, vCall, valAll, truth, tst, tAndT, tOrT, tNotT, tCmpT, tChainT, vChainV, mkB, boolOf, L2.VL.settle, val, freeze, sNx, sBk, sCt, sBad, sSeq, sExpr, sRet, sRetN, sIf, canPut, put, sSet, gNameV, gAll, gTupV, gSubV, sAsg, setAt, upSlot, keep, sPar, vMut, vMut0, lstT, strT, vMeth, fAppend, fExtend, fClear, runDef, retC, callF, vCallF, frzArgs, ioArgs, ioIdx, takeBack, nodupB, norf, vCall1, pAdd, pI, zSub, zMul, cMul, zMod, zDiv, zPow, gLtI, pIx, pNeg, pInt, pMax, pMin, pAbs, pDivmod, pLen, pList, intOf, oSome, oNone, vCut, pCut, iAny, atI, ixN, tYesV]
  have v3 := vLc_eq (vs := [7]) i3 rfl k3 rfl
  have hall := all_map (sn cs far)
  have three : sIf (tNotT (tst (vCall pAll (vACons (vLc (iAny (vVar 4)) [7] (gNameV 7) tYesV (vBin (mkB pIn) (vVar 7) (vCallF m_windows [false, false] [] (vACons (vVar 1) (vACons (vVar 2) vANil))))) vANil)))) (sRet (vC (.bl false))) sNx [.io (pt a2 b2), .fz (.str l), .fz (.int far), .fz (.str cs), .ow (.lst ((sn cs far).map PV.str)), .un, .un, .un, .un] =
      .ok .nx [.io (pt a2 b2), .fz (.str l), .fz (.int far), .fz (.str cs), .fz (.lst ((sn cs far).map PV.str)), .un, .un, .un, .un] := by
    generalize hL : (sn cs far).map (fun _ => PV.bl true) = L at v3 hall
    simp [Rs.bind, opt, vVar, vC, vBin, vUn, vAnd, vOr, vNot, vIf, vANil, vACons, vTup, vLst, freezeAll, vCall, valAll, truth, tst, tAndT, tOrT, tNotT, tCmpT, tChainT, vChainV, mkB, boolOf, L2.VL.settle, val, freeze, sNx, sBk, sCt, sBad, sSeq, sExpr, sRet, sRetN, sIf, canPut, put, sSet, gNameV, gAll, gTupV, gSubV, sAsg, setAt, upSlot, keep, sPar, vMut, vMut0, lstT, strT, vMeth, fAppend, fExtend, fClear, runDef, retC, callF, vCallF, frzArgs, ioArgs, ioIdx, takeBack, nodupB, norf, vCall1, pAdd, pI, zSub, zMul, cMul, zMod, zDiv, zPow, gLtI, pIx, pNeg, pInt, pMax, pMin, pAbs, pDivmod, pLen, pList, intOf, oSome, oNone, vCut, pCut, iAny, atI, ixN, tYesV, v3, unwipe, hall]
  have four : sIf (tAndT (tCmpT pGt (vVar 2) (vC (.int 0))) (tOrT (tCmpT pNe (vCallF m_following [false, false, false] [] (vACons (vVar 1) (vACons (vVar 2) (vACons (vBin pIx (vVar 4) (vUn pNeg (vC (.int 1)))) vANil)))) (vLst vANil)) (tCmpT pNe (vBin pIx (vVar 4) (vUn pNeg (vC (.int 1)))) (vC (.str [46]))))) (sRet (vC (.bl false))) sNx [.io (pt a2 b2), .fz (.str l), .fz (.int far), .fz (.str cs), .fz (.lst ((sn cs far).map PV.str)), .un, .un, .un, .un] =
      .ok .nx [.io (pt a2 b2), .fz (.str l), .fz (.int far), .fz (.str cs), .fz (.lst ((sn cs far).map PV.str)), .un, .un, .un, .un] := by
    by_cases h0 : 0 < far
    · have hl := sn_last (w := cs) h0 (by omega)
      have h46 : [46] ∈ W l far := by
        have := seen_mem (p := cs.length) (far := far) hm
        rwa [seen_end cs h0] at this
      obtain ⟨ρf, ef⟩ := e_following g far hf h46
      have hF : F l [46] = [] := by simp [F]
      rw [hF] at ef
      have hn : pNe (.str [46]) (.str [46]) = some false := by rw [pNe_str ok46 ok46]; simp
      have hn2 := pNe_nil
      have hgt : (0 : Int) < (far : Int) := by omega
      have ef : m_following [.fz (.str l), .fz (.int far), .fz (.str [46])] = .ok (.ow (.lst [])) ρf := ef
      generalize hL : (sn cs far).map PV.str = L at hl
      simp [Rs.bind, opt, vVar, vC, vBin, vUn, vAnd, vOr, vNot, vIf, vANil, vACons, vTup, vLst, freezeAll, vCall, valAll, truth, tst, tAndT, tOrT, tNotT, tCmpT, tChainT, vChainV, mkB, boolOf, L2.VL.settle, val, freeze, sNx, sBk, sCt, sBad, sSeq, sExpr, sRet, sRetN, sIf, canPut, put, sSet, gNameV, gAll, gTupV, gSubV, sAsg, setAt, upSlot, keep, sPar, vMut, vMut0, lstT, strT, vMeth, fAppend, fExtend, fClear, runDef, retC, callF, vCallF, frzArgs, ioArgs, ioIdx, takeBack, nodupB, norf, vCall1, pAdd, pI, zSub, zMul, cMul, zMod, zDiv, zPow, gLtI, pNeg, pInt, pMax, pMin, pAbs, pDivmod, pLen, pList, intOf, oSome, oNone, vCut, pCut, iAny, tYesV, hgt, h0, hl, ef, hn, hn2]
    · have : ¬ (0 : Int) < (far : Int) := by omega
      simp [Rs.bind, opt, vVar, vC, vBin, vUn, vAnd, vOr, vNot, vIf, vANil, vACons, vTup, vLst, freezeAll, vCall, valAll, truth, tst, tAndT, tOrT, tNotT, tCmpT, tChainT, vChainV, mkB, boolOf, L2.VL.settle, val, freeze, sNx, sBk, sCt, sBad, sSeq, sExpr, sRet, sRetN, sIf, canPut, put, sSet, gNameV, gAll, gTupV, gSubV, sAsg, setAt, upSlot, keep, sPar, vMut, vMut0, lstT, strT, vMeth, fAppend, fExtend, fClear, runDef, retC, callF, vCallF, frzArgs, ioArgs, ioIdx, takeBack, nodupB, norf, vCall1, pAdd, pI, zSub, zMul, cMul, zMod, zDiv, zPow, gLtI, pNeg, pInt, pMax, pMin, pAbs, pDivmod, pLen, pList, intOf, oSome, oNone, vCut, pCut, iAny, tYesV, this, h0]
  have hz : zipP ((sn cs far).map PV.str) (((sn cs far).drop 1).map PV.str) = ((sn cs far).zip ((sn cs far).drop 1)).map fun q => PV.tup [.str q.1, .str q.2] := by
    unfold zipP
    rw [List.zip_map, List.map_map]; rfl
  have k5 := lcL_map' (vs := [7, 8]) (g := gTupV [gNameV 7, gNameV 8]) (t := tYesV) (ve := vBin (mkB pIn) (vVar 8) (vCallF m_following [false, false, false] [] (vACons (vVar 1) (vACons (vVar 2) (vACons (vVar 7) vANil))))) (ρ := [.io (pt a2 b2), .fz (.str l), .fz (.int far), .fz (.str cs), .fz (.lst ((sn cs far).map PV.str)), .un, .un, .un, .un]) (fun q : List Nat × List Nat => PV.tup [.str q.1, .str q.2]) (fun _ => PV.bl true) ((sn cs far).zip ((sn cs far).drop 1)) [] (fun q hq => by
    obtain ⟨h1, h2⟩ := sn_pairs g hm q hq
    obtain ⟨ρf, ef⟩ := e_following g far hf h1
    have hp : pIn (.str q.2) (.lst ((F l q.1).map PV.str)) = some true := by rw [pIn_strs (F_mem_ok g hf h1 h2) fun x hx => F_mem_ok g hf h1 hx, decide_eq_true h2]
    generalize hL : (sn cs far).map PV.str = L
    generalize hLb : (F l q.1).map PV.str = Lb at ef hp
    simp [Rs.bind, opt, vVar, vC, vBin, vUn, vAnd, vOr, vNot, vIf, vANil, vACons, vTup, vLst, freezeAll, vCall, valAll, truth, tst, tAndT, tOrT, tNotT, tCmpT, tChainT, vChainV, mkB, boolOf, L2.VL.settle, val, freeze, sNx, sBk, sCt, sBad, sSeq, sExpr, sRet, sRetN, sIf, canPut, put, sSet, gNameV, gAll, gTupV, gSubV, sAsg, setAt, upSlot, keep, sPar, vMut, vMut0, lstT, strT, vMeth, fAppend, fExtend, fClear, runDef, retC, callF, vCallF, frzArgs, ioArgs, ioIdx, takeBack, nodupB, norf, vCall1, pAdd, pI, zSub, zMul, cMul, zMod, zDiv, zPow, gLtI, pIx, pNeg, pInt, pMax, pMin, pAbs, pDivmod, pLen, pList, intOf, oSome, oNone, vCut, pCut, iAny, atI, ixN, tYesV, lc1, okW, wipeE, ef, hp]) (sz (by simp; omega))
  rw [List.nil_append] at k5
  have hc1 : cutL ((sn cs far).map PV.str) (some 1) none = ((sn cs far).drop 1).map PV.str := by
    unfold cutL
    have hl : ((sn cs far).map PV.str).length = cs.length + 1 := by rw [List.length_map, snl]
    have e : HT.sIx ((sn cs far).map PV.str).length 0 (some 1) = 1 := by show min 1 ((sn cs far).map PV.str).length = 1; rw [hl]; omega
    rw [e, HT.sIx_none, ← List.map_drop, List.take_of_length_le (by rw [List.length_map, List.length_map, List.length_drop]; exact Nat.le_refl _)]
  have i5 : iZipV (vACons (vVar 4) (vACons (vCut (vVar 4) (oSome (vC (.int 1))) oNone) vANil)) [.io (pt a2 b2), .fz (.str l), .fz (.int far), .fz (.str cs), .fz (.lst ((sn cs far).map PV.str)), .un, .un, .un, .un] = .ok (((sn cs far).zip ((sn cs far).drop 1)).map fun q => PV.tup [.str q.1, .str q.2]) [.io (pt a2 b2), .fz (.str l), .fz (.int far), .fz (.str cs), .fz (.lst ((sn cs far).map PV.str)), .un, .un, .un, .un] := by
    rw [← hz]
    generalize hL : (sn cs far).map PV.str = L at hc1
    generalize hLb : ((sn cs far).drop 1).map PV.str = Lb at hc1
    simp [Rs.bind, opt, vVar, vC, vBin, vUn, vAnd, vOr, vNot, vIf, vANil, vACons, vTup, vLst, freezeAll, vCall, valAll, truth, tst, tAndT, tOrT, tNotT, tCmpT, tChainT, vChainV, mkB, boolOf, L2.VL.settle, val, freeze, sNx, sBk, sCt, sBad, sSeq, sExpr, sRet, sRetN, sIf, canPut, put, sSet, gNameV, gAll, gTupV, gSubV, sAsg, setAt, upSlot, keep, sPar, vMut, vMut0, lstT, strT, vMeth, fAppend, fExtend, fClear, runDef, retC, callF, vCallF, frzArgs, ioArgs, ioIdx, takeBack, nodupB, norf, vCall1, pAdd, pI, zSub, zMul, cMul, zMod, zDiv, zPow, gLtI, pIx, pNeg, pInt, pMax, pMin, pAbs, pDivmod, pLen, pList, intOf, oSome, oNone, vCut, pCut, iAny, atI, ixN, tYesV, iZipV, hc1]
  have v5 := vLc_eq (vs := [7, 8]) i5 rfl k5 rfl
  have hall5 := all_map ((sn cs far).zip ((sn cs far).drop 1))
  refine ⟨a2, b2, [.fz (.str l), .fz (.int far), .fz (.str cs), .fz (.lst ((sn cs far).map PV.str)), .un, .un, .un, .un], ?_, P2⟩
  have five : sRet (vCall pAll (vACons (vLc (iZipV (vACons (vVar 4) (vACons (vCut (vVar 4) (oSome (vC (.int 1))) oNone) vANil))) [7, 8] (gTupV [gNameV 7, gNameV 8]) tYesV (vBin (mkB pIn) (vVar 8) (vCallF m_following [false, false, false] [] (vACons (vVar 1) (vACons (vVar 2) (vACons (vVar 7) vANil)))))) vANil)) [.io (pt a2 b2), .fz (.str l), .fz (.int far), .fz (.str cs), .fz (.lst ((sn cs far).map PV.str)), .un, .un, .un, .un] =
      .ok (.rt (.fz (.bl true))) [.io (pt a2 b2), .fz (.str l), .fz (.int far), .fz (.str cs), .fz (.lst ((sn cs far).map PV.str)), .un, .un, .un, .un] := by
    generalize hL : ((sn cs far).zip ((sn cs far).drop 1)).map (fun _ => PV.bl true) = L at v5 hall5
    simp [Rs.bind, opt, vVar, vC, vBin, vUn, vAnd, vOr, vNot, vIf, vANil, vACons, vTup, vLst, freezeAll, vCall, valAll, truth, tst, tAndT, tOrT, tNotT, tCmpT, tChainT, vChainV, mkB, boolOf, L2.VL.settle, val, freeze, sNx, sBk, sCt, sBad, sSeq, sExpr, sRet, sRetN, sIf, canPut, put, sSet, gNameV, gAll, gTupV, gSubV, sAsg, setAt, upSlot, keep, sPar, vMut, vMut0, lstT, strT, vMeth, fAppend, fExtend, fClear, runDef, retC, callF, vCallF, frzArgs, ioArgs, ioIdx, takeBack, nodupB, norf, vCall1, pAdd, pI, zSub, zMul, cMul, zMod, zDiv, zPow, gLtI, pIx, pNeg, pInt, pMax, pMin, pAbs, pDivmod, pLen, pList, intOf, oSome, oNone, vCut, pCut, iAny, atI, ixN, tYesV, v5, unwipe, hall5]
  have body : b__law_rows_right [.io (pt a b), .fz (.str l), .fz (.int far), .un, .un, .un, .un, .un, .un] = .ok (.rt (.fz (.bl true))) [.io (pt a2 b2), .fz (.str l), .fz (.int far), .fz (.str cs), .fz (.lst ((sn cs far).map PV.str)), .un, .un, .un, .un] := by
    unfold b__law_rows_right
    simp only [sSeq, one, two, three, four, five]
  unfold m__law_rows_right
  simp [runDef, body, retC]
end K61

set_option Elab.async false
set_option linter.all false
set_option maxRecDepth 100000
set_option maxHeartbeats 0
namespace K61
open PySem PySem.Spec PyProof.Rows L2 L2.VL
def Ow (s : VL.Slot) : Prop := s = Slot.un ∨ ∃ d, s = .ow d
theorem keys_W {l : List Nat} (g : Good l) {n : Nat} (hn : n ≤ 3) : keysOf (.lst ((W l n).map PV.str)) = some (.s (W l n)) := by
  have hne := W_ne n g
  have hlen : (W l n).length ≤ 85 := by rw [W_length]; exact Mn_le g.hi hn
  have e2 : intsOf ((W l n).map PV.str) = none := by
    generalize W l n = X at hne
    cases X with
    | nil => exact absurd rfl hne
    | cons x X => rfl
  show lstKeys _ = _
  unfold lstKeys
  rw [e2]
  show (strsOf ((W l n).map PV.str)).bind (fun ks => fewK ks.length (.s ks)) = _
  rw [strsOf_of, Option.bind_some]
  unfold fewK
  rw [if_pos (by omega)]
theorem pNe_same {xs : List (List Nat)} (h : ∀ x ∈ xs, okS x) : pNe (.lst (xs.map PV.str)) (.lst (xs.map PV.str)) = some false := by rw [pNe_strs h h]; simp
theorem pNe_int (i : Int) : pNe (.int i) (.int i) = some false := by
  unfold pNe pEq
  simp [toD, SeqAt.shaped, PyData.canLay0, PyData.depth, PyData.eqv]
/-- one view -/
theorem l_views {p : VL.Slot} {l : List Nat} (g : Good l) {n : Nat} (hn : n ≤ 3) (s4 s5 : VL.Slot) (h4 : Ow s4) (h5 : Pl s5) : ∃ s4' s5', Ow s4' ∧ Pl s5' ∧
    loopF (gNameV 5) (sSeq (sSet 4 (vCallF m_following [false, false, false] [] (vACons (vVar 1) (vACons (vVar 2) (vACons (vVar 5) vANil))))) (sSeq (sIf (tCmpT pNe (vVar 4) (vCallF m__law_thens [false, false] [] (vACons (vVar 1) (vACons (vVar 5) vANil)))) (sRet (vC (.bl false))) sNx) (sSeq (sExpr (vMut lstT fAppend (vVar 4) (vACons (vC (.str [120])) vANil))) (sIf (tCmpT pNe (vCallF m_following [false, false, false] [] (vACons (vVar 1) (vACons (vVar 2) (vACons (vVar 5) vANil)))) (vCallF m__law_thens [false, false] [] (vACons (vVar 1) (vACons (vVar 5) vANil)))) (sRet (vC (.bl false))) sNx))))
      ((W l n).map PV.str) [p, .fz (.str l), .fz (.int n), .fz (.lst ((W l n).map PV.str)), s4, s5] = .ok .nx [p, .fz (.str l), .fz (.int n), .fz (.lst ((W l n).map PV.str)), s4', s5'] := by
  have loop := loopF_all (g := gNameV 5) (body := sSeq (sSet 4 (vCallF m_following [false, false, false] [] (vACons (vVar 1) (vACons (vVar 2) (vACons (vVar 5) vANil))))) (sSeq (sIf (tCmpT pNe (vVar 4) (vCallF m__law_thens [false, false] [] (vACons (vVar 1) (vACons (vVar 5) vANil)))) (sRet (vC (.bl false))) sNx) (sSeq (sExpr (vMut lstT fAppend (vVar 4) (vACons (vC (.str [120])) vANil))) (sIf (tCmpT pNe (vCallF m_following [false, false, false] [] (vACons (vVar 1) (vACons (vVar 2) (vACons (vVar 5) vANil)))) (vCallF m__law_thens [false, false] [] (vACons (vVar 1) (vACons (vVar 5) vANil)))) (sRet (vC (.bl false))) sNx)))) PV.str
    (fun _ ρ => ∃ s4 s5, Ow s4 ∧ Pl s5 ∧ ρ = [p, .fz (.str l), .fz (.int n), .fz (.lst ((W l n).map PV.str)), s4, s5]) (W l n) (fun i w ρ hx h => ?_) [p, .fz (.str l), .fz (.int n), .fz (.lst ((W l n).map PV.str)), s4, s5] ⟨s4, s5, h4, h5, rfl⟩
  · obtain ⟨ρ', e, s4', s5', h4', h5', rfl⟩ := loop
    exact ⟨s4', s5', h4', h5', e⟩
  · obtain ⟨s4, s5, h4, h5, rfl⟩ := h
    have hw : w ∈ W l n := List.mem_of_getElem? hx
    obtain ⟨ρ1, e1⟩ := e_following g n hn hw
    obtain ⟨ρ2, e2⟩ := e_thens g (W_ok g hw) (Nat.le_trans (W_len hw hn) (by decide))
    have hne := pNe_same (xs := F l w) fun x hx => F_mem_ok g hn hw hx
    have hFl : (F l w).length < sizeLine := by
      have h1 : (F l w).length ≤ 5 := by
        have := g.hi
        unfold F
        split
        · simp
        · split
          · simp
          · split
            · simp
            · simp; omega
      have := sz (n := 100) (by decide); omega
    have hlen : ((F l w).map PV.str).length < sizeLine := by rw [List.length_map]; exact hFl
    generalize (W l n).map PV.str = Wl at *
    generalize (F l w).map PV.str = Fl at *
    refine ⟨[p, .fz (.str l), .fz (.int n), .fz (.lst Wl), s4, .fz (.str w)], ?_, [p, .fz (.str l), .fz (.int n), .fz (.lst Wl), .ow (.lst (Fl ++ [.str [120]])), .fz (.str w)], .inl ?_, _, _, .inr ⟨_, rfl⟩, .inr ⟨_, rfl⟩, rfl⟩
    · rcases h5 with rfl | ⟨d, rfl⟩ <;> simp [Rs.bind, opt, vVar, vC, vBin, vUn, vAnd, vOr, vNot, vIf, vANil, vACons, vTup, vLst, freezeAll, vCall, valAll, truth, tst, tAndT, tOrT, tNotT, tCmpT, tChainT, vChainV, mkB, boolOf, L2.VL.settle, val, freeze, sNx, sBk, sCt, sBad, sSeq, sExpr, sRet, sRetN, sIf, canPut, put, sSet, gNameV, gAll, gTupV, gSubV, sAsg, setAt, upSlot, keep, sPar, vMut, vMut0, lstT, strT, vMeth, fAppend, fExtend, fClear, runDef, retC, callF, vCallF, frzArgs, ioArgs, ioIdx, takeBack, nodupB, norf, vCall1, pAdd, pI, zSub, zMul, cMul, zMod, zDiv, zPow, gLtI, pIx, pNeg, pInt, pMax, pMin, pAbs, pDivmod, pLen, pList, intOf, oSome, oNone, vCut, pCut, iAny, atI, ixN, tYesV]
    · rcases h4 with rfl | ⟨d, rfl⟩ <;> simp [Rs.bind, opt, vVar, vC, vBin, vUn, vAnd, vOr, vNot, vIf, vANil, vACons, vTup, vLst, freezeAll, vCall, valAll, truth, tst, tAndT, tOrT, tNotT, tCmpT, tChainT, vChainV, mkB, boolOf, L2.VL.settle, val, freeze, sNx, sBk, sCt, sBad, sSeq, sExpr, sRet, sRetN, sIf, canPut, put, sSet, gNameV, gAll, gTupV, gSubV, sAsg, setAt, upSlot, keep, sPar, vMut, vMut0, lstT, strT, vMeth, fAppend, fExtend, fClear, runDef, retC, callF, vCallF, frzArgs, ioArgs, ioIdx, takeBack, nodupB, norf, vCall1, pAdd, pI, zSub, zMul, cMul, zMod, zDiv, zPow, gLtI, pIx, pNeg, pInt, pMax, pMin, pAbs, pDivmod, pLen, pList, intOf, oSome, oNone, vCut, pCut, iAny, atI, ixN, tYesV, e1, e2, hne, hlen]
def bodyR : VS := sSeq (sPar 3 4 (vCallF m__law_views [false, false] [] (vACons (vVar 1) (vACons (vVar 2) vANil))) (vCallF m_windows [false, false] [] (vACons (vVar 1) (vACons (vVar 2) vANil)))) (sSeq (sIf (tOrT (tCmpT pNe (vVar 4) (vVar 3)) (tOrT (tCmpT pNe (vLenSet (vVar 4)) (vCall pLen (vACons (vVar 4) vANil))) (tCmpT pNe (vCall pLen (vACons (vVar 4) vANil)) (vCallF m__law_many [false, false] [] (vACons (vCall pLen (vACons (vVar 1) vANil)) (vACons (vVar 2) vANil)))))) (sRet (vC (.bl false))) sNx) (sSeq (sFor (iAny (vVar 3)) (gNameV 5) (sSeq (sSet 4 (vCallF m_following [false, false, false] [] (vACons (vVar 1) (vACons (vVar 2) (vACons (vVar 5) vANil))))) (sSeq (sIf (tCmpT pNe (vVar 4) (vCallF m__law_thens [false, false] [] (vACons (vVar 1) (vACons (vVar 5) vANil)))) (sRet (vC (.bl false))) sNx) (sSeq (sExpr (vMut lstT fAppend (vVar 4) (vACons (vC (.str [120])) vANil))) (sIf (tCmpT pNe (vCallF m_following [false, false, false] [] (vACons (vVar 1) (vACons (vVar 2) (vACons (vVar 5) vANil)))) (vCallF m__law_thens [false, false] [] (vACons (vVar 1) (vACons (vVar 5) vANil)))) (sRet (vC (.bl false))) sNx))))) (sSeq (sSet 4 (vCallF m_windows [false, false] [] (vACons (vVar 1) (vACons (vVar 2) vANil)))) (sSeq (sExpr (vMut0 lstT fClear (vVar 4))) (sIf (tOrT (tCmpT pNe (vCallF m_windows [false, false] [] (vACons (vVar 1) (vACons (vVar 2) vANil))) (vVar 3)) (tNotT (tst (vCallF m__law_rows_right [true, false, false] [] (vACons (vVar 0) (vACons (vVar 1) (vACons (vVar 2) vANil))))))) (sRet (vC (.bl false))) sNx)))))
theorem turn {a b : Int} {l : List Nat} {n : Nat} {s3 s4 s5 : VL.Slot} (P : Pot a b) (g : Good l) (hn : n ≤ 3) (h3 : Pl s3) (h4 : Ow s4) (h5 : Pl s5) : ∃ a' b' s3' s4' s5', Pot a' b' ∧ Pl s3' ∧ Ow s4' ∧ Pl s5' ∧ bodyR [.io (pt a b), .fz (.str l), .fz (.int n), s3, s4, s5] = .ok .nx [.io (pt a' b'), .fz (.str l), .fz (.int n), s3', s4', s5'] := by
  obtain ⟨ρv, ev⟩ := e_views g n hn
  obtain ⟨ρw, ew⟩ := e_windows g n hn
  obtain ⟨ρm, em⟩ := e_many l.length n g.hi hn
  obtain ⟨a', b', ρr, er, P'⟩ := e_rows_right P g hn
  have hk := keys_W g hn
  have hsz : (SKeys.s (W l n)).size = Mn l.length n := by
    show (uniq (W l n)).length = _
    rw [uniq_of_nodup (W_nodup g n), W_length]
  have hlen : ((W l n).map PV.str).length = Mn l.length n := by rw [List.length_map, W_length]
  have hne := pNe_same (xs := W l n) fun x hx => W_ok g hx
  have hni := pNe_int (Mn l.length n : Int)
  have sl : l.length ≤ sizeLine := sz (by have := g.hi; omega)
  obtain ⟨s4', s5', h4', h5', ei⟩ := l_views (p := .io (pt a b)) g hn (.ow (.lst ((W l n).map PV.str))) s5 (.inr ⟨_, rfl⟩) h5
  generalize hW : (W l n).map PV.str = Wl at *
  refine ⟨a', b', .fz (.lst Wl), .ow (.lst []), s5', P', .inr ⟨_, rfl⟩, .inr ⟨_, rfl⟩, h5', ?_⟩
  have x1 : (sPar 3 4 (vCallF m__law_views [false, false] [] (vACons (vVar 1) (vACons (vVar 2) vANil))) (vCallF m_windows [false, false] [] (vACons (vVar 1) (vACons (vVar 2) vANil)))) [.io (pt a b), .fz (.str l), .fz (.int n), s3, s4, s5] = .ok .nx [.io (pt a b), .fz (.str l), .fz (.int n), .ow (.lst Wl), .ow (.lst Wl), s5] := by
    rcases h3 with rfl | ⟨d3, rfl⟩ <;> rcases h4 with rfl | ⟨d4, rfl⟩ <;> simp [Rs.bind, opt, vVar, vC, vBin, vUn, vAnd, vOr, vNot, vIf, vANil, vACons, vTup, vLst, freezeAll, vCall, valAll, truth, tst, tAndT, tOrT, tNotT, tCmpT, tChainT, vChainV, mkB, boolOf, L2.VL.settle, val, freeze, sNx, sBk, sCt, sBad, sSeq, sExpr, sRet, sRetN, sIf, canPut, put, sSet, gNameV, gAll, gTupV, gSubV, sAsg, setAt, upSlot, keep, sPar, vMut, vMut0, lstT, strT, vMeth, fAppend, fExtend, fClear, runDef, retC, callF, vCallF, frzArgs, ioArgs, ioIdx, takeBack, nodupB, norf, vCall1, pAdd, pI, zSub, zMul, cMul, zMod, zDiv, zPow, gLtI, pIx, pNeg, pInt, pMax, pMin, pAbs, pDivmod, pLen, pList, intOf, oSome, oNone, vCut, pCut, iAny, atI, ixN, tYesV, ev, ew]
  have x2 : (sIf (tOrT (tCmpT pNe (vVar 4) (vVar 3)) (tOrT (tCmpT pNe (vLenSet (vVar 4)) (vCall pLen (vACons (vVar 4) vANil))) (tCmpT pNe (vCall pLen (vACons (vVar 4) vANil)) (vCallF m__law_many [false, false] [] (vACons (vCall pLen (vACons (vVar 1) vANil)) (vACons (vVar 2) vANil)))))) (sRet (vC (.bl false))) sNx) [.io (pt a b), .fz (.str l), .fz (.int n), .ow (.lst Wl), .ow (.lst Wl), s5] = .ok .nx [.io (pt a b), .fz (.str l), .fz (.int n), .ow (.lst Wl), .ow (.lst Wl), s5] := by
    simp [Rs.bind, opt, vVar, vC, vBin, vUn, vAnd, vOr, vNot, vIf, vANil, vACons, vTup, vLst, freezeAll, vCall, valAll, truth, tst, tAndT, tOrT, tNotT, tCmpT, tChainT, vChainV, mkB, boolOf, L2.VL.settle, val, freeze, sNx, sBk, sCt, sBad, sSeq, sExpr, sRet, sRetN, sIf, canPut, put, sSet, gNameV, gAll, gTupV, gSubV, sAsg, setAt, upSlot, keep, sPar, vMut, vMut0, lstT, strT, vMeth, fAppend, fExtend, fClear, runDef, retC, callF, vCallF, frzArgs, ioArgs, ioIdx, takeBack, nodupB, norf, vCall1, pAdd, pI, zSub, zMul, cMul, zMod, zDiv, zPow, gLtI, pIx, pNeg, pInt, pMax, pMin, pAbs, pDivmod, pLen, pList, intOf, oSome, oNone, vCut, pCut, iAny, atI, ixN, tYesV, vLenSet, hk, hsz, hlen, hne, hni, em, sl]
  have x3 : (sFor (iAny (vVar 3)) (gNameV 5) (sSeq (sSet 4 (vCallF m_following [false, false, false] [] (vACons (vVar 1) (vACons (vVar 2) (vACons (vVar 5) vANil))))) (sSeq (sIf (tCmpT pNe (vVar 4) (vCallF m__law_thens [false, false] [] (vACons (vVar 1) (vACons (vVar 5) vANil)))) (sRet (vC (.bl false))) sNx) (sSeq (sExpr (vMut lstT fAppend (vVar 4) (vACons (vC (.str [120])) vANil))) (sIf (tCmpT pNe (vCallF m_following [false, false, false] [] (vACons (vVar 1) (vACons (vVar 2) (vACons (vVar 5) vANil)))) (vCallF m__law_thens [false, false] [] (vACons (vVar 1) (vACons (vVar 5) vANil)))) (sRet (vC (.bl false))) sNx))))) [.io (pt a b), .fz (.str l), .fz (.int n), .ow (.lst Wl), .ow (.lst Wl), s5] = .ok .nx [.io (pt a b), .fz (.str l), .fz (.int n), .fz (.lst Wl), s4', s5'] := by
    have i3 : iAny (vVar 3) [.io (pt a b), .fz (.str l), .fz (.int n), .ow (.lst Wl), .ow (.lst Wl), s5] = .ok Wl [.io (pt a b), .fz (.str l), .fz (.int n), .fz (.lst Wl), .ow (.lst Wl), s5] := by simp [Rs.bind, opt, vVar, vC, vBin, vUn, vAnd, vOr, vNot, vIf, vANil, vACons, vTup, vLst, freezeAll, vCall, valAll, truth, tst, tAndT, tOrT, tNotT, tCmpT, tChainT, vChainV, mkB, boolOf, L2.VL.settle, val, freeze, sNx, sBk, sCt, sBad, sSeq, sExpr, sRet, sRetN, sIf, canPut, put, sSet, gNameV, gAll, gTupV, gSubV, sAsg, setAt, upSlot, keep, sPar, vMut, vMut0, lstT, strT, vMeth, fAppend, fExtend, fClear, runDef, retC, callF, vCallF, frzArgs, ioArgs, ioIdx, takeBack, nodupB, norf, vCall1, pAdd, pI, zSub, zMul, cMul, zMod, zDiv, zPow, gLtI, pIx, pNeg, pInt, pMax, pMin, pAbs, pDivmod, pLen, pList, intOf, oSome, oNone, vCut, pCut, iAny, atI, ixN, tYesV]
    unfold sFor
    rw [i3]
    exact ei
  have x4 : (sSet 4 (vCallF m_windows [false, false] [] (vACons (vVar 1) (vACons (vVar 2) vANil)))) [.io (pt a b), .fz (.str l), .fz (.int n), .fz (.lst Wl), s4', s5'] = .ok .nx [.io (pt a b), .fz (.str l), .fz (.int n), .fz (.lst Wl), .ow (.lst Wl), s5'] := by
    rcases h4' with rfl | ⟨d4, rfl⟩ <;> simp [Rs.bind, opt, vVar, vC, vBin, vUn, vAnd, vOr, vNot, vIf, vANil, vACons, vTup, vLst, freezeAll, vCall, valAll, truth, tst, tAndT, tOrT, tNotT, tCmpT, tChainT, vChainV, mkB, boolOf, L2.VL.settle, val, freeze, sNx, sBk, sCt, sBad, sSeq, sExpr, sRet, sRetN, sIf, canPut, put, sSet, gNameV, gAll, gTupV, gSubV, sAsg, setAt, upSlot, keep, sPar, vMut, vMut0, lstT, strT, vMeth, fAppend, fExtend, fClear, runDef, retC, callF, vCallF, frzArgs, ioArgs, ioIdx, takeBack, nodupB, norf, vCall1, pAdd, pI, zSub, zMul, cMul, zMod, zDiv, zPow, gLtI, pIx, pNeg, pInt, pMax, pMin, pAbs, pDivmod, pLen, pList, intOf, oSome, oNone, vCut, pCut, iAny, atI, ixN, tYesV, ew]
  have x5 : (sExpr (vMut0 lstT fClear (vVar 4))) [.io (pt a b), .fz (.str l), .fz (.int n), .fz (.lst Wl), .ow (.lst Wl), s5'] = .ok .nx [.io (pt a b), .fz (.str l), .fz (.int n), .fz (.lst Wl), .ow (.lst []), s5'] := by
    simp [Rs.bind, opt, vVar, vC, vBin, vUn, vAnd, vOr, vNot, vIf, vANil, vACons, vTup, vLst, freezeAll, vCall, valAll, truth, tst, tAndT, tOrT, tNotT, tCmpT, tChainT, vChainV, mkB, boolOf, L2.VL.settle, val, freeze, sNx, sBk, sCt, sBad, sSeq, sExpr, sRet, sRetN, sIf, canPut, put, sSet, gNameV, gAll, gTupV, gSubV, sAsg, setAt, upSlot, keep, sPar, vMut, vMut0, lstT, strT, vMeth, fAppend, fExtend, fClear, runDef, retC, callF, vCallF, frzArgs, ioArgs, ioIdx, takeBack, nodupB, norf, vCall1, pAdd, pI, zSub, zMul, cMul, zMod, zDiv, zPow, gLtI, pIx, pNeg, pInt, pMax, pMin, pAbs, pDivmod, pLen, pList, intOf, oSome, oNone, vCut, pCut, iAny, atI, ixN, tYesV]
  have x6 : (sIf (tOrT (tCmpT pNe (vCallF m_windows [false, false] [] (vACons (vVar 1) (vACons (vVar 2) vANil))) (vVar 3)) (tNotT (tst (vCallF m__law_rows_right [true, false, false] [] (vACons (vVar 0) (vACons (vVar 1) (vACons (vVar 2) vANil))))))) (sRet (vC (.bl false))) sNx) [.io (pt a b), .fz (.str l), .fz (.int n), .fz (.lst Wl), .ow (.lst []), s5'] = .ok .nx [.io (pt a' b'), .fz (.str l), .fz (.int n), .fz (.lst Wl), .ow (.lst []), s5'] := by
    simp [Rs.bind, opt, vVar, vC, vBin, vUn, vAnd, vOr, vNot, vIf, vANil, vACons, vTup, vLst, freezeAll, vCall, valAll, truth, tst, tAndT, tOrT, tNotT, tCmpT, tChainT, vChainV, mkB, boolOf, L2.VL.settle, val, freeze, sNx, sBk, sCt, sBad, sSeq, sExpr, sRet, sRetN, sIf, canPut, put, sSet, gNameV, gAll, gTupV, gSubV, sAsg, setAt, upSlot, keep, sPar, vMut, vMut0, lstT, strT, vMeth, fAppend, fExtend, fClear, runDef, retC, callF, vCallF, frzArgs, ioArgs, ioIdx, takeBack, nodupB, norf, vCall1, pAdd, pI, zSub, zMul, cMul, zMod, zDiv, zPow, gLtI, pIx, pNeg, pInt, pMax, pMin, pAbs, pDivmod, pLen, pList, intOf, oSome, oNone, vCut, pCut, iAny, atI, ixN, tYesV, ew, hne, er]
  unfold bodyR
  simp only [sSeq, x1, x2, x3, x4, x5, x6]
theorem g_ab : Good [97, 98] := ⟨by decide, by decide, fun c hc => by simp at hc; omega, by decide⟩
theorem e_right {a b : Int} (P : Pot a b) : ∃ ρ, m__law_right [.io (pt a b)] = .ok (.fz (.bl true)) ρ := by
  obtain ⟨l, a1, b1, ρs, es, g, P1⟩ := e_signs P
  have one : sSet 1 (vCallF m__law_signs [true] [] (vACons (vVar 0) vANil)) [.io (pt a b), .un, .un, .un, .un, .un] = .ok .nx [.io (pt a1 b1), .fz (.str l), .un, .un, .un, .un] := by
    simp [Rs.bind, opt, vVar, vC, vBin, vUn, vAnd, vOr, vNot, vIf, vANil, vACons, vTup, vLst, freezeAll, vCall, valAll, truth, tst, tAndT, tOrT, tNotT, tCmpT, tChainT, vChainV, mkB, boolOf, L2.VL.settle, val, freeze, sNx, sBk, sCt, sBad, sSeq, sExpr, sRet, sRetN, sIf, canPut, put, sSet, gNameV, gAll, gTupV, gSubV, sAsg, setAt, upSlot, keep, sPar, vMut, vMut0, lstT, strT, vMeth, fAppend, fExtend, fClear, runDef, retC, callF, vCallF, frzArgs, ioArgs, ioIdx, takeBack, nodupB, norf, vCall1, pAdd, pI, zSub, zMul, cMul, zMod, zDiv, zPow, gLtI, pIx, pNeg, pInt, pMax, pMin, pAbs, pDivmod, pLen, pList, intOf, oSome, oNone, vCut, pCut, iAny, atI, ixN, tYesV, es]
  have loop := loopF_all (g := gNameV 2) (body := bodyR) (fun i : Nat => PV.int (i : Int))
    (fun _ ρ => ∃ (a b : Int) (s2 s3 s4 s5 : VL.Slot), Pot a b ∧ Pl s2 ∧ Pl s3 ∧ Ow s4 ∧ Pl s5 ∧ ρ = [.io (pt a b), .fz (.str l), s2, s3, s4, s5]) (List.range 4) (fun i x ρ hx h => ?_) [.io (pt a1 b1), .fz (.str l), .un, .un, .un, .un] ⟨a1, b1, .un, .un, .un, .un, P1, .inl rfl, .inl rfl, .inl rfl, .inl rfl, rfl⟩
  · obtain ⟨ρ', e, a2, b2, s2, s3, s4, s5, _, _, _, _, _, rfl⟩ := loop
    have fr := (for_range (g := gNameV 2) (body := bodyR) (va := vACons (vC (.int 4)) vANil) (ρ := [.io (pt a1 b1), .fz (.str l), .un, .un, .un, .un]) (cs := [.fz (.int 4)]) (j := 4) (by simp [Rs.bind, opt, vVar, vC, vBin, vUn, vAnd, vOr, vNot, vIf, vANil, vACons, vTup, vLst, freezeAll, vCall, valAll, truth, tst, tAndT, tOrT, tNotT, tCmpT, tChainT, vChainV, mkB, boolOf, L2.VL.settle, val, freeze, sNx, sBk, sCt, sBad, sSeq, sExpr, sRet, sRetN, sIf, canPut, put, sSet, gNameV, gAll, gTupV, gSubV, sAsg, setAt, upSlot, keep, sPar, vMut, vMut0, lstT, strT, vMeth, fAppend, fExtend, fClear, runDef, retC, callF, vCallF, frzArgs, ioArgs, ioIdx, takeBack, nodupB, norf, vCall1, pAdd, pI, zSub, zMul, cMul, zMod, zDiv, zPow, gLtI, pIx, pNeg, pInt, pMax, pMin, pAbs, pDivmod, pLen, pList, intOf, oSome, oNone, vCut, pCut, iAny, atI, ixN, tYesV]) (by simp [Rs.bind, opt, vVar, vC, vBin, vUn, vAnd, vOr, vNot, vIf, vANil, vACons, vTup, vLst, freezeAll, vCall, valAll, truth, tst, tAndT, tOrT, tNotT, tCmpT, tChainT, vChainV, mkB, boolOf, L2.VL.settle, val, freeze, sNx, sBk, sCt, sBad, sSeq, sExpr, sRet, sRetN, sIf, canPut, put, sSet, gNameV, gAll, gTupV, gSubV, sAsg, setAt, upSlot, keep, sPar, vMut, vMut0, lstT, strT, vMeth, fAppend, fExtend, fClear, runDef, retC, callF, vCallF, frzArgs, ioArgs, ioIdx, takeBack, nodupB, norf, vCall1, pAdd, pI, zSub, zMul, cMul, zMod, zDiv, zPow, gLtI, pIx, pNeg, pInt, pMax, pMin, pAbs, pDivmod, pLen, pList, intOf, oSome, oNone, vCut, pCut, iAny, atI, ixN, tYesV]) (by decide) (by decide)).trans e
    unfold bodyR at fr
    obtain ⟨ρw, ew⟩ := e_windows g_ab 1 (by decide)
    have hW : W [97, 98] 1 = [[46], [97], [98]] := rfl
    obtain ⟨ρf, ef⟩ := e_following (w := [98]) g_ab 1 (by decide) (by rw [hW]; simp)
    have hF : F [97, 98] [98] = [[46], [97], [98]] := by simp [F]
    rw [hW] at ew
    rw [hF] at ef
    have hq : pEq (.lst [.str [46], .str [97], .str [98]]) (.lst [.str [46], .str [97], .str [98]]) = some true := by
      have := pEq_strs (xs := [[46], [97], [98]]) (ys := [[46], [97], [98]]) (fun w hw => by simp at hw; rcases hw with rfl | rfl | rfl <;> exact fun c hc => by simp at hc; omega) (fun w hw => by simp at hw; rcases hw with rfl | rfl | rfl <;> exact fun c hc => by simp at hc; omega)
      simpa using this
    have ew : m_windows [.fz (.str [97, 98]), .fz (.int 1)] = .ok (.ow (.lst [.str [46], .str [97], .str [98]])) ρw := ew
    have ef : m_following [.fz (.str [97, 98]), .fz (.int 1), .fz (.str [98])] = .ok (.ow (.lst [.str [46], .str [97], .str [98]])) ρf := ef
    have s3' : (3 : Nat) ≤ sizeLine := sz (by decide)
    have last : (sRet (vAnd (vBin (mkB pEq) (vCallF m_windows [false, false] [] (vACons (vC (.str [97, 98])) (vACons (vC (.int 1)) vANil))) (vLst (vACons (vC (.str [46])) (vACons (vC (.str [97])) (vACons (vC (.str [98])) vANil))))) (vBin (mkB pEq) (vCallF m_following [false, false, false] [] (vACons (vC (.str [97, 98])) (vACons (vC (.int 1)) (vACons (vC (.str [98])) vANil)))) (vLst (vACons (vC (.str [46])) (vACons (vC (.str [97])) (vACons (vC (.str [98])) vANil))))))) [.io (pt a2 b2), .fz (.str l), s2, s3, s4, s5] = .ok (.rt (.fz (.bl true))) [.io (pt a2 b2), .fz (.str l), s2, s3, s4, s5] := by
      simp [Rs.bind, opt, vVar, vC, vBin, vUn, vAnd, vOr, vNot, vIf, vANil, vACons, vTup, vLst, freezeAll, vCall, valAll, truth, tst, tAndT, tOrT, tNotT, tCmpT, tChainT, vChainV, mkB, boolOf, L2.VL.settle, val, freeze, sNx, sBk, sCt, sBad, sSeq, sExpr, sRet, sRetN, sIf, canPut, put, sSet, gNameV, gAll, gTupV, gSubV, sAsg, setAt, upSlot, keep, sPar, vMut, vMut0, lstT, strT, vMeth, fAppend, fExtend, fClear, runDef, retC, callF, vCallF, frzArgs, ioArgs, ioIdx, takeBack, nodupB, norf, vCall1, pAdd, pI, zSub, zMul, cMul, zMod, zDiv, zPow, gLtI, pIx, pNeg, pInt, pMax, pMin, pAbs, pDivmod, pLen, pList, intOf, oSome, oNone, vCut, pCut, iAny, atI, ixN, tYesV, ew, ef, hq, s3']
    have body : b__law_right [.io (pt a b), .un, .un, .un, .un, .un] = .ok (.rt (.fz (.bl true))) [.io (pt a2 b2), .fz (.str l), s2, s3, s4, s5] := by
      unfold b__law_right
      simp only [sSeq, one, fr, last]
    unfold m__law_right
    simp [runDef, body, retC]
  · obtain ⟨a2, b2, s2, s3, s4, s5, P2, h2, h3, h4, h5, rfl⟩ := h
    have hi : i < 4 := by have := len_of hx; simpa using this
    have hxi : x = i := by rw [List.getElem?_range hi] at hx; exact (Option.some.inj hx).symm
    subst hxi
    obtain ⟨a3, b3, s3', s4', s5', P3, q3, q4, q5, e⟩ := turn P2 g (n := x) (by omega) h3 h4 h5
    refine ⟨[.io (pt a2 b2), .fz (.str l), .fz (.int (x : Int)), s3, s4, s5], ?_, _, .inl e, a3, b3, _, s3', s4', s5', P3, .inr ⟨_, rfl⟩, q3, q4, q5, rfl⟩
    rcases h2 with rfl | ⟨d, rfl⟩ <;> simp [Rs.bind, opt, vVar, vC, vBin, vUn, vAnd, vOr, vNot, vIf, vANil, vACons, vTup, vLst, freezeAll, vCall, valAll, truth, tst, tAndT, tOrT, tNotT, tCmpT, tChainT, vChainV, mkB, boolOf, L2.VL.settle, val, freeze, sNx, sBk, sCt, sBad, sSeq, sExpr, sRet, sRetN, sIf, canPut, put, sSet, gNameV, gAll, gTupV, gSubV, sAsg, setAt, upSlot, keep, sPar, vMut, vMut0, lstT, strT, vMeth, fAppend, fExtend, fClear, runDef, retC, callF, vCallF, frzArgs, ioArgs, ioIdx, takeBack, nodupB, norf, vCall1, pAdd, pI, zSub, zMul, cMul, zMod, zDiv, zPow, gLtI, pIx, pNeg, pInt, pMax, pMin, pAbs, pDivmod, pLen, pList, intOf, oSome, oNone, vCut, pCut, iAny, atI, ixN, tYesV]
theorem plain : (∀ ns : List Int, ns.length ≤ 63 → ∃ ρ, m_law [.fz (.scr ns)] = .ok (.fz (.bl true)) ρ) := fun ns hn => by
  have hj : ∃ j : Nat, 1 ≤ j ∧ j ≤ 6 ∧ (if (if (ns.length : Int) < 6 then (ns.length : Int) else 6) > 1 then (if (ns.length : Int) < 6 then (ns.length : Int) else 6) else 1) = (j : Int) := by
    by_cases h1 : (ns.length : Int) < 6
    · rw [if_pos h1]
      by_cases h2 : (ns.length : Int) > 1
      · rw [if_pos h2]; exact ⟨ns.length, by omega, by omega, rfl⟩
      · rw [if_neg h2]; exact ⟨1, by omega, by omega, rfl⟩
    · rw [if_neg h1, if_pos (by decide)]; exact ⟨6, by omega, by omega, rfl⟩
  obtain ⟨j, j1, j6, ej⟩ := hj
  have r1 := iRange1_ok (va := vACons (vCall pMax (vACons (vC (.int 1)) (vACons (vCall pMin (vACons (vC (.int 6)) (vACons (vCall pLen (vACons (vVar 0) vANil)) vANil))) vANil))) vANil) (ρ := [.fz (.scr ns), .un]) (ρ1 := [.fz (.scr ns), .un]) (cs := [.fz (.int (if (if (ns.length : Int) < 6 then (ns.length : Int) else 6) > 1 then (if (ns.length : Int) < 6 then (ns.length : Int) else 6) else 1))]) (j := (j : Int)) (by simp [Rs.bind, opt, vVar, vC, vBin, vUn, vAnd, vOr, vNot, vIf, vANil, vACons, vTup, vLst, freezeAll, vCall, valAll, truth, tst, tAndT, tOrT, tNotT, tCmpT, tChainT, vChainV, mkB, boolOf, L2.VL.settle, val, freeze, sNx, sBk, sCt, sBad, sSeq, sExpr, sRet, sRetN, sIf, canPut, put, sSet, gNameV, gAll, gTupV, gSubV, sAsg, setAt, upSlot, keep, sPar, vMut, vMut0, lstT, strT, vMeth, fAppend, fExtend, fClear, runDef, retC, callF, vCallF, frzArgs, ioArgs, ioIdx, takeBack, nodupB, norf, vCall1, pAdd, pI, zSub, zMul, cMul, zMod, zDiv, zPow, gLtI, pIx, pNeg, pInt, pMax, pMin, pAbs, pDivmod, pLen, pList, intOf, oSome, oNone, vCut, pCut, iAny, atI, ixN, tYesV]) (by rw [ej]; simp [Rs.bind, opt, vVar, vC, vBin, vUn, vAnd, vOr, vNot, vIf, vANil, vACons, vTup, vLst, freezeAll, vCall, valAll, truth, tst, tAndT, tOrT, tNotT, tCmpT, tChainT, vChainV, mkB, boolOf, L2.VL.settle, val, freeze, sNx, sBk, sCt, sBad, sSeq, sExpr, sRet, sRetN, sIf, canPut, put, sSet, gNameV, gAll, gTupV, gSubV, sAsg, setAt, upSlot, keep, sPar, vMut, vMut0, lstT, strT, vMeth, fAppend, fExtend, fClear, runDef, retC, callF, vCallF, frzArgs, ioArgs, ioIdx, takeBack, nodupB, norf, vCall1, pAdd, pI, zSub, zMul, cMul, zMod, zDiv, zPow, gLtI, pIx, pNeg, pInt, pMax, pMin, pAbs, pDivmod, pLen, pList, intOf, oSome, oNone, vCut, pCut, iAny, atI, ixN, tYesV]) (by omega) (by omega)
  rw [Int.toNat_natCast] at r1
  have key := lcL_map' (vs := [1]) (g := gNameV 1) (t := tYesV) (ve := vCall1 m__law_right (vCallF m__law_pot [false, false] [] (vACons (vVar 0) (vACons (vVar 1) vANil)))) (ρ := [.fz (.scr ns), .un]) (fun i : Nat => PV.int (i : Int)) (fun _ => PV.bl true) (List.range j) [] (fun c hc => by
    have hc : c < j := List.mem_range.mp hc
    obtain ⟨a, b, ρp, ep, P⟩ := e_pot (ns := ns) c (by omega)
    obtain ⟨ρr, er⟩ := e_right P
    simp [Rs.bind, opt, vVar, vC, vBin, vUn, vAnd, vOr, vNot, vIf, vANil, vACons, vTup, vLst, freezeAll, vCall, valAll, truth, tst, tAndT, tOrT, tNotT, tCmpT, tChainT, vChainV, mkB, boolOf, L2.VL.settle, val, freeze, sNx, sBk, sCt, sBad, sSeq, sExpr, sRet, sRetN, sIf, canPut, put, sSet, gNameV, gAll, gTupV, gSubV, sAsg, setAt, upSlot, keep, sPar, vMut, vMut0, lstT, strT, vMeth, fAppend, fExtend, fClear, runDef, retC, callF, vCallF, frzArgs, ioArgs, ioIdx, takeBack, nodupB, norf, vCall1, pAdd, pI, zSub, zMul, cMul, zMod, zDiv, zPow, gLtI, pIx, pNeg, pInt, pMax, pMin, pAbs, pDivmod, pLen, pList, intOf, oSome, oNone, vCut, pCut, iAny, atI, ixN, tYesV, lc1, okW, wipeE, ep, er]) (sz (by simp; omega))
  rw [List.nil_append] at key
  have v1 := vLc_eq (vs := [1]) r1 rfl key rfl
  have hall := all_map (List.range j)
  generalize (List.range j).map (fun _ => PV.bl true) = L at v1 hall
  unfold m_law b_law
  simp [Rs.bind, opt, vVar, vC, vBin, vUn, vAnd, vOr, vNot, vIf, vANil, vACons, vTup, vLst, freezeAll, vCall, valAll, truth, tst, tAndT, tOrT, tNotT, tCmpT, tChainT, vChainV, mkB, boolOf, L2.VL.settle, val, freeze, sNx, sBk, sCt, sBad, sSeq, sExpr, sRet, sRetN, sIf, canPut, put, sSet, gNameV, gAll, gTupV, gSubV, sAsg, setAt, upSlot, keep, sPar, vMut, vMut0, lstT, strT, vMeth, fAppend, fExtend, fClear, runDef, retC, callF, vCallF, frzArgs, ioArgs, ioIdx, takeBack, nodupB, norf, vCall1, pAdd, pI, zSub, zMul, cMul, zMod, zDiv, zPow, gLtI, pIx, pNeg, pInt, pMax, pMin, pAbs, pDivmod, pLen, pList, intOf, oSome, oNone, vCut, pCut, iAny, atI, ixN, tYesV, v1, unwipe, hall]
end K61

set_option Elab.async false
set_option linter.all false
set_option maxRecDepth 100000
set_option maxHeartbeats 0
namespace K61
open PySem PySem.Spec PyProof.Rows L2 L2.VL
/-! the head -/
def dd__law_draw : He.DefD := ⟨("_law_draw", none), "_law_draw", "_law_draw", defArgs s__law_draw, defBody s__law_draw, defScope s__law_draw, [], []⟩
def dd__law_pick : He.DefD := ⟨("_law_pick", none), "_law_pick", "_law_pick", defArgs s__law_pick, defBody s__law_pick, defScope s__law_pick, [], []⟩
def dd__law_signs : He.DefD := ⟨("_law_signs", none), "_law_signs", "_law_signs", defArgs s__law_signs, defBody s__law_signs, defScope s__law_signs, [], []⟩
def dd_is_letters : He.DefD := ⟨("is_letters", none), "is_letters", "is_letters", defArgs s_is_letters, defBody s_is_letters, defScope s_is_letters, [], []⟩
def dd_want_letters : He.DefD := ⟨("want_letters", none), "want_letters", "want_letters", defArgs s_want_letters, defBody s_want_letters, defScope s_want_letters, [], []⟩
def dd_is_integer : He.DefD := ⟨("is_integer", none), "is_integer", "is_integer", defArgs s_is_integer, defBody s_is_integer, defScope s_is_integer, [], []⟩
def dd_is_count : He.DefD := ⟨("is_count", none), "is_count", "is_count", defArgs s_is_count, defBody s_is_count, defScope s_is_count, [], []⟩
def dd_want_count : He.DefD := ⟨("want_count", none), "want_count", "want_count", defArgs s_want_count, defBody s_want_count, defScope s_want_count, [], []⟩
def dd_want_ahead : He.DefD := ⟨("want_ahead", none), "want_ahead", "want_ahead", defArgs s_want_ahead, defBody s_want_ahead, defScope s_want_ahead, [], []⟩
def dd_rows_so_long : He.DefD := ⟨("rows_so_long", none), "rows_so_long", "rows_so_long", defArgs s_rows_so_long, defBody s_rows_so_long, defScope s_rows_so_long, [], []⟩
def dd_windows_of : He.DefD := ⟨("windows_of", none), "windows_of", "windows_of", defArgs s_windows_of, defBody s_windows_of, defScope s_windows_of, [], []⟩
def dd_windows : He.DefD := ⟨("windows", none), "windows", "windows", defArgs s_windows, defBody s_windows, defScope s_windows, [], []⟩
def dd__law_views : He.DefD := ⟨("_law_views", none), "_law_views", "_law_views", defArgs s__law_views, defBody s__law_views, defScope s__law_views, [], []⟩
def dd_want_window : He.DefD := ⟨("want_window", none), "want_window", "want_window", defArgs s_want_window, defBody s_want_window, defScope s_want_window, [], []⟩
def dd_ends_in_stop : He.DefD := ⟨("ends_in_stop", none), "ends_in_stop", "ends_in_stop", defArgs s_ends_in_stop, defBody s_ends_in_stop, defScope s_ends_in_stop, [], []⟩
def dd_followers : He.DefD := ⟨("followers", none), "followers", "followers", defArgs s_followers, defBody s_followers, defScope s_followers, [], []⟩
def dd_following : He.DefD := ⟨("following", none), "following", "following", defArgs s_following, defBody s_following, defScope s_following, [], []⟩
def dd__law_many : He.DefD := ⟨("_law_many", none), "_law_many", "_law_many", defArgs s__law_many, defBody s__law_many, defScope s__law_many, [], []⟩
def dd__law_thens : He.DefD := ⟨("_law_thens", none), "_law_thens", "_law_thens", defArgs s__law_thens, defBody s__law_thens, defScope s__law_thens, [], []⟩
def dd__law_seen : He.DefD := ⟨("_law_seen", none), "_law_seen", "_law_seen", defArgs s__law_seen, defBody s__law_seen, defScope s__law_seen, [], []⟩
def dd__law_rows_right : He.DefD := ⟨("_law_rows_right", none), "_law_rows_right", "_law_rows_right", defArgs s__law_rows_right, defBody s__law_rows_right, defScope s__law_rows_right, [], []⟩
def dd__law_right : He.DefD := ⟨("_law_right", none), "_law_right", "_law_right", defArgs s__law_right, defBody s__law_right, defScope s__law_right, [], []⟩
def dd__law_pot : He.DefD := ⟨("_law_pot", none), "_law_pot", "_law_pot", defArgs s__law_pot, defBody s__law_pot, defScope s__law_pot, [], []⟩
def dd_law : He.DefD := ⟨("law", none), "law", "law", defArgs s_law, defBody s_law, defScope s_law, [], []⟩
def fn : List He.DefD := [dd__law_draw, dd__law_pick, dd__law_signs, dd_is_letters, dd_want_letters, dd_is_integer, dd_is_count, dd_want_count, dd_want_ahead, dd_rows_so_long, dd_windows_of, dd_windows, dd__law_views, dd_want_window, dd_ends_in_stop, dd_followers, dd_following, dd__law_many, dd__law_thens, dd__law_seen, dd__law_rows_right, dd__law_right, dd__law_pot, dd_law]
def fa : List He.Fa := [.glo "_law_draw", .glo "_law_pick", .glo "_law_signs", .glo "is_letters", .glo "want_letters", .glo "is_integer", .glo "is_count", .glo "want_count", .glo "want_ahead", .glo "rows_so_long", .glo "windows_of", .glo "windows", .glo "_law_views", .glo "want_window", .glo "ends_in_stop", .glo "followers", .glo "following", .glo "_law_many", .glo "_law_thens", .glo "_law_seen", .glo "_law_rows_right", .glo "_law_right", .glo "_law_pot", .glo "law", .free "abs", .free "all", .free "bool", .free "divmod", .free "int", .free "isinstance", .free "len", .free "list", .free "max", .free "min", .free "range", .free "set", .free "sorted", .free "str", .free "zip", .str "ALPHABET" "abcdefghijklmnopqrstuvwxyz", .int "MOST_AHEAD" 3, .int "MOST_LETTERS" 4, .str "STOP" "."]
def names0 : List PySem.Str := ["BookError", "InvalidLetters", "InvalidCount", "InvalidWindow", "LimitError", "TooMany", "ALPHABET", "is_integer", "is_count", "want_count", "MOST_LETTERS", "is_letters", "want_letters", "MOST_AHEAD", "LETTERS_AHEAD", "STOP", "want_ahead", "rows_so_long", "windows_of", "want_window", "ends_in_stop", "followers", "windows", "following", "_law_pot", "_law_draw", "_law_pick", "_law_views", "_law_nexts", "_law_thens"]
def names1 : List PySem.Str := ["_law_signs", "_law_seen", "_law_many", "_law_rows_right", "_law_right"]
def names : List PySem.Str := names0 ++ names1
abbrev rowO : PySem.W.OpenRow := PySem.W.OpenLaw.row PySem.Challenge.rw_fewheld_k61_windows_in_order
abbrev hk : PySem.W.Hook := He.hookD 4 fa fn
def ob (s : PySem.W.SharedT) : He.AlD := He.obsDG 4 fa fn (HandSHeadRun.getT s)
theorem ob_eq (s : PySem.W.SharedT) : ob s = hk.obs s.abs := He.obsDG_eq (HandSHeadRun.getT_eq s)
abbrev qv : Program := PySem.W.view rowO.prog [40]
theorem run (w : World) : HandSHeadRun.RunEq rowO qv hk ob 20000 names w := by
  intro os
  kernel_rfl
theorem fx {K : PySem.W.Frag} {h : Heap} {mg : Str → Option Value} (X : K.In h) (G : h.Ns mainGlobals mg) (c : He.SaysD fa fn K) : Fx ⟨K, mg⟩ where
  d__law_draw := let ⟨fd, F⟩ := c.def_ 0 (d := dd__law_draw) rfl; ⟨_, fd, F, He.glo_ok X G (c.fact 0 (f := .glo "_law_draw") rfl)⟩
  d__law_pick := let ⟨fd, F⟩ := c.def_ 1 (d := dd__law_pick) rfl; ⟨_, fd, F, He.glo_ok X G (c.fact 1 (f := .glo "_law_pick") rfl)⟩
  d__law_signs := let ⟨fd, F⟩ := c.def_ 2 (d := dd__law_signs) rfl; ⟨_, fd, F, He.glo_ok X G (c.fact 2 (f := .glo "_law_signs") rfl)⟩
  d_is_letters := let ⟨fd, F⟩ := c.def_ 3 (d := dd_is_letters) rfl; ⟨_, fd, F, He.glo_ok X G (c.fact 3 (f := .glo "is_letters") rfl)⟩
  d_want_letters := let ⟨fd, F⟩ := c.def_ 4 (d := dd_want_letters) rfl; ⟨_, fd, F, He.glo_ok X G (c.fact 4 (f := .glo "want_letters") rfl)⟩
  d_is_integer := let ⟨fd, F⟩ := c.def_ 5 (d := dd_is_integer) rfl; ⟨_, fd, F, He.glo_ok X G (c.fact 5 (f := .glo "is_integer") rfl)⟩
  d_is_count := let ⟨fd, F⟩ := c.def_ 6 (d := dd_is_count) rfl; ⟨_, fd, F, He.glo_ok X G (c.fact 6 (f := .glo "is_count") rfl)⟩
  d_want_count := let ⟨fd, F⟩ := c.def_ 7 (d := dd_want_count) rfl; ⟨_, fd, F, He.glo_ok X G (c.fact 7 (f := .glo "want_count") rfl)⟩
  d_want_ahead := let ⟨fd, F⟩ := c.def_ 8 (d := dd_want_ahead) rfl; ⟨_, fd, F, He.glo_ok X G (c.fact 8 (f := .glo "want_ahead") rfl)⟩
  d_rows_so_long := let ⟨fd, F⟩ := c.def_ 9 (d := dd_rows_so_long) rfl; ⟨_, fd, F, He.glo_ok X G (c.fact 9 (f := .glo "rows_so_long") rfl)⟩
  d_windows_of := let ⟨fd, F⟩ := c.def_ 10 (d := dd_windows_of) rfl; ⟨_, fd, F, He.glo_ok X G (c.fact 10 (f := .glo "windows_of") rfl)⟩
  d_windows := let ⟨fd, F⟩ := c.def_ 11 (d := dd_windows) rfl; ⟨_, fd, F, He.glo_ok X G (c.fact 11 (f := .glo "windows") rfl)⟩
  d__law_views := let ⟨fd, F⟩ := c.def_ 12 (d := dd__law_views) rfl; ⟨_, fd, F, He.glo_ok X G (c.fact 12 (f := .glo "_law_views") rfl)⟩
  d_want_window := let ⟨fd, F⟩ := c.def_ 13 (d := dd_want_window) rfl; ⟨_, fd, F, He.glo_ok X G (c.fact 13 (f := .glo "want_window") rfl)⟩
  d_ends_in_stop := let ⟨fd, F⟩ := c.def_ 14 (d := dd_ends_in_stop) rfl; ⟨_, fd, F, He.glo_ok X G (c.fact 14 (f := .glo "ends_in_stop") rfl)⟩
  d_followers := let ⟨fd, F⟩ := c.def_ 15 (d := dd_followers) rfl; ⟨_, fd, F, He.glo_ok X G (c.fact 15 (f := .glo "followers") rfl)⟩
  d_following := let ⟨fd, F⟩ := c.def_ 16 (d := dd_following) rfl; ⟨_, fd, F, He.glo_ok X G (c.fact 16 (f := .glo "following") rfl)⟩
  d__law_many := let ⟨fd, F⟩ := c.def_ 17 (d := dd__law_many) rfl; ⟨_, fd, F, He.glo_ok X G (c.fact 17 (f := .glo "_law_many") rfl)⟩
  d__law_thens := let ⟨fd, F⟩ := c.def_ 18 (d := dd__law_thens) rfl; ⟨_, fd, F, He.glo_ok X G (c.fact 18 (f := .glo "_law_thens") rfl)⟩
  d__law_seen := let ⟨fd, F⟩ := c.def_ 19 (d := dd__law_seen) rfl; ⟨_, fd, F, He.glo_ok X G (c.fact 19 (f := .glo "_law_seen") rfl)⟩
  d__law_rows_right := let ⟨fd, F⟩ := c.def_ 20 (d := dd__law_rows_right) rfl; ⟨_, fd, F, He.glo_ok X G (c.fact 20 (f := .glo "_law_rows_right") rfl)⟩
  d__law_right := let ⟨fd, F⟩ := c.def_ 21 (d := dd__law_right) rfl; ⟨_, fd, F, He.glo_ok X G (c.fact 21 (f := .glo "_law_right") rfl)⟩
  d__law_pot := let ⟨fd, F⟩ := c.def_ 22 (d := dd__law_pot) rfl; ⟨_, fd, F, He.glo_ok X G (c.fact 22 (f := .glo "_law_pot") rfl)⟩
  d_law := let ⟨fd, F⟩ := c.def_ 23 (d := dd_law) rfl; ⟨_, fd, F, He.glo_ok X G (c.fact 23 (f := .glo "law") rfl)⟩
  u_abs := He.free_ok X G (c.fact 24 (f := .free "abs") rfl)
  u_all := He.free_ok X G (c.fact 25 (f := .free "all") rfl)
  u_bool := He.free_ok X G (c.fact 26 (f := .free "bool") rfl)
  u_divmod := He.free_ok X G (c.fact 27 (f := .free "divmod") rfl)
  u_int := He.free_ok X G (c.fact 28 (f := .free "int") rfl)
  u_isinstance := He.free_ok X G (c.fact 29 (f := .free "isinstance") rfl)
  u_len := He.free_ok X G (c.fact 30 (f := .free "len") rfl)
  u_list := He.free_ok X G (c.fact 31 (f := .free "list") rfl)
  u_max := He.free_ok X G (c.fact 32 (f := .free "max") rfl)
  u_min := He.free_ok X G (c.fact 33 (f := .free "min") rfl)
  u_range := He.free_ok X G (c.fact 34 (f := .free "range") rfl)
  u_set := He.free_ok X G (c.fact 35 (f := .free "set") rfl)
  u_sorted := He.free_ok X G (c.fact 36 (f := .free "sorted") rfl)
  u_str := He.free_ok X G (c.fact 37 (f := .free "str") rfl)
  u_zip := He.free_ok X G (c.fact 38 (f := .free "zip") rfl)
  c_ALPHABET := He.str_ok X G (c.fact 39 (f := .str "ALPHABET" "abcdefghijklmnopqrstuvwxyz") rfl)
  c_MOST_AHEAD := He.int_ok X G (c.fact 40 (f := .int "MOST_AHEAD" 3) rfl)
  c_MOST_LETTERS := He.int_ok X G (c.fact 41 (f := .int "MOST_LETTERS" 4) rfl)
  c_STOP := He.str_ok X G (c.fact 42 (f := .str "STOP" ".") rfl)
/-- what is left: the plain law -/
def Plain : Prop := ∀ ns : List Int, ns.length ≤ 63 → ∃ ρ, m_law [.fz (.scr ns)] = .ok (.fz (.bl true)) ρ
end K61
open PySem PySem.W PySem.Calls PyProof.Rows
theorem K61.holds (law : K61.Plain) : PySem.Challenge.rw_fewheld_k61_windows_in_order.Holds := by
  w_on; o_law
  refine HandSHeadRun.head_any (r := OpenLaw.row PySem.Challenge.rw_fewheld_k61_windows_in_order) (q := K61.qv) (H := K61.hk) (ob := K61.ob) (M := 20000) (loose := K61.names) (d := HandSHeadRun.topDef (OpenLaw.row PySem.Challenge.rw_fewheld_k61_windows_in_order).prog 40) (kwd := []) K61.ob_eq
    (by kernel_rfl) (fun s => by kernel_rfl) K61.run (by kernel_rfl) (by kernel_rfl) (by kernel_rfl) (by rfl) (by first | assumption | decide +kernel) (by decide +kernel) ⟨rfl, rfl, rfl, rfl, rfl, by decide +kernel⟩ ?hw ?hc
  case hw => w_witness2
  case hc =>
    refine L2.walk_ofE (l := PySem.Challenge.rw_fewheld_k61_windows_in_order) (n := 63) (k := 8) (x := "_law_script") (CX := L2.CX0) rfl (by decide) (by kernel_rfl) ⟨rfl, by decide, by decide⟩ ?F (fun _ _ _ _ z => z)
    intro w mg fa h Y G hmg0
    obtain ⟨K, KX, c⟩ := Y
    have hmg : mg ("law" : PySem.Str) = some (.ref fa) := by
      have e : (HandSHeadRun.topDef (OpenLaw.row PySem.Challenge.rw_fewheld_k61_windows_in_order).prog 40).name = ("law" : PySem.Str) := by kernel_rfl
      rw [← e]
      exact hmg0
    obtain ⟨a, fd, g, _, _, hb, hF⟩ := K61.ok_law (P := (PySem.Challenge.rw_fewheld_k61_windows_in_order).prog) (w := w) (K61.fx KX G c)
    have e : a = fa := by have := g.symm.trans hmg; cases this; rfl
    subst e
    exact ⟨K, fd, (fun vs H Q _ => L2.VL.spV ⟨K, mg⟩ 1 K61.m_law vs H Q fun _ _ _ => False), KX, fun s u => hb s [u] rfl, fun H a ns hl _ hS => L2.VL.law_end (law ns hl) hS, fun base _ _ => L2.VL.FnOk.calm (hF base)⟩

theorem PySem.Challenge.cw_fewheld_k61_windows_in_order_holds : PySem.Challenge.rw_fewheld_k61_windows_in_order.Holds := by
  exact K61.holds K61.plain
