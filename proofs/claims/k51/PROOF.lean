import PyProof.Rows.All
import HandS.ForMost
import HandS.ForExc
import HandS.Flow
import HandS.Wide
import HandS.Lambda
import HandS.WideBits
import Wide.All
import OpenK.AllK
import Wide.FinOn
import HandS.IsInst
import HandS.Style
import HandS.WordsList
import HandS.WordsExc
import HandS.EndBits
import PySem.Challenge.RW_hindprice_k51_whole_best_prices_hang_tog
set_option Elab.async false
set_option linter.all false
set_option maxRecDepth 100000
set_option maxHeartbeats 4000000
/-! EvA: plain data, slots, outcomes, how they lie in the abstract heap. -/
namespace Ev
open PySem PySem.Spec PyProof.Rows L2

/-- a built-in class -/
inductive Ty where | int | bool | str | list | tuple | dict
  deriving DecidableEq
def Ty.nm : Ty → String
  | .int => "int" | .bool => "bool" | .str => "str" | .list => "list" | .tuple => "tuple" | .dict => "dict"
/-- plain data: functions, classes, fields by numbers -/
inductive D where
  | non | bl (b : Bool) | int (i : Int) | str (x : Str)
  | lst (l : List D) | tup (l : List D) | dic (l : List (Key × D))
  | scr (l : List Int)
  | gl (x : Nat) | ty (n : Ty)
  | obj (c : Nat) (fs : List (Nat × D))
  | exc (c : Nat) (fs : List (Nat × D))
/-- what the numbers mean: the module's names, the fields' names -/
structure Nm where
  gm : Nat → Option Value
  fn : Nat → Str
  inj : ∀ i j, fn i = fn j → i = j
  /-- the script, should it be one of the module's own objects -/
  scrK : Addr → List Int → Prop

abbrev Fz := Addr → Prop
def ExcH (a C : Addr) (d : Option Addr) : HO := .ext fun h => ∃ (oe : Obj) (vs : Array Value), h.get? a = some oe ∧ Zc (.ref C) d oe ∧ oe.data = .fields vs

mutual
inductive Rp (N : Nm) (F : Fz) (H : Hp) : V → D → Prop
  | non : Rp N F H .non .non
  | bl (b : Bool) : Rp N F H (.bl b) (.bl b)
  | int (i : Int) : Rp N F H (.int i) (.int i)
  | str (x : Str) : Rp N F H (.str x) (.str x)
  | ty (n : Ty) : Rp N F H (.ty n.nm) (.ty n)
  | gl {x : Nat} {a : Addr} : N.gm x = some (.ref a) → Rp N F H (.ref a) (.gl x)
  | lst {a : Addr} {xs : List V} {ds : List D} : F a → H a = some (.lst xs) → RpL N F H xs ds → Rp N F H (.ref a) (.lst ds)
  | scr {a : Addr} {ns : List Int} : (F a ∧ Rd H a (.lst (ns.map V.int))) ∨ N.scrK a ns → Rp N F H (.ref a) (.scr ns)
  | tup {a : Addr} {xs : List V} {ds : List D} : F a → H a = some (.tup xs) → RpL N F H xs ds → Rp N F H (.ref a) (.tup ds)
  | dic {a : Addr} {xs : List (Key × V)} {ds : List (Key × D)} : F a → H a = some (.dK xs) → RpK N F H xs ds → Rp N F H (.ref a) (.dic ds)
  | obj {a C dx : Addr} {c : Nat} {xs : List (Str × V)} {ds : List (Nat × D)} : N.gm c = some (.ref C) → F a → H a = some (.ins C dx xs) → RpF N F H xs ds → Rp N F H (.ref a) (.obj c ds)
  | exc {a C d : Addr} {c : Nat} {xs : List (Str × V)} {ds : List (Nat × D)} : N.gm c = some (.ref C) → F a → F d → H a = some (ExcH a C (some d)) → H d = some (.xd xs) → RpF N F H xs ds → Rp N F H (.ref a) (.exc c ds)
inductive RpL (N : Nm) (F : Fz) (H : Hp) : List V → List D → Prop
  | nil : RpL N F H [] []
  | cons {v : V} {d : D} {vs : List V} {ds : List D} : Rp N F H v d → RpL N F H vs ds → RpL N F H (v :: vs) (d :: ds)
inductive RpK (N : Nm) (F : Fz) (H : Hp) : List (Key × V) → List (Key × D) → Prop
  | nil : RpK N F H [] []
  | cons {k : Key} {v : V} {d : D} {vs : List (Key × V)} {ds : List (Key × D)} : Rp N F H v d → RpK N F H vs ds → RpK N F H ((k, v) :: vs) ((k, d) :: ds)
inductive RpF (N : Nm) (F : Fz) (H : Hp) : List (Str × V) → List (Nat × D) → Prop
  | nil : RpF N F H [] []
  | cons {k : Nat} {v : V} {d : D} {vs : List (Str × V)} {ds : List (Nat × D)} : Rp N F H v d → RpF N F H vs ds → RpF N F H ((N.fn k, v) :: vs) ((k, d) :: ds)
end

section
variable {N : Nm} {F F' : Fz} {H H' : Hp}
theorem Rd.to {a : Addr} {u : HO} (h : Rd H a u) (e : H' a = H a) : Rd H' a u := by
  unfold Rd at *
  rw [e]
  exact h
mutual
theorem Rp.mono (hF : ∀ a, F a → F' a) (hH : ∀ a, F a → H' a = H a) : ∀ {v : V} {d : D}, Rp N F H v d → Rp N F' H' v d
  | _, _, .non => .non
  | _, _, .bl b => .bl b
  | _, _, .int i => .int i
  | _, _, .str x => .str x
  | _, _, .ty n => .ty n
  | _, _, .gl h => .gl h
  | _, _, .lst f r l => .lst (hF _ f) ((hH _ f).trans r) (RpL.mono hF hH l)
  | _, _, .scr h => .scr (h.imp (fun h => ⟨hF _ h.1, Rd.to h.2 (hH _ h.1)⟩) id)
  | _, _, .tup f r l => .tup (hF _ f) ((hH _ f).trans r) (RpL.mono hF hH l)
  | _, _, .dic f r l => .dic (hF _ f) ((hH _ f).trans r) (RpK.mono hF hH l)
  | _, _, .obj m f r l => .obj m (hF _ f) ((hH _ f).trans r) (RpF.mono hF hH l)
  | _, _, .exc m f g r q l => .exc m (hF _ f) (hF _ g) ((hH _ f).trans r) ((hH _ g).trans q) (RpF.mono hF hH l)
theorem RpL.mono (hF : ∀ a, F a → F' a) (hH : ∀ a, F a → H' a = H a) : ∀ {v : List V} {d : List D}, RpL N F H v d → RpL N F' H' v d
  | _, _, .nil => .nil
  | _, _, .cons r l => .cons (Rp.mono hF hH r) (RpL.mono hF hH l)
theorem RpK.mono (hF : ∀ a, F a → F' a) (hH : ∀ a, F a → H' a = H a) : ∀ {v : List (Key × V)} {d : List (Key × D)}, RpK N F H v d → RpK N F' H' v d
  | _, _, .nil => .nil
  | _, _, .cons r l => .cons (Rp.mono hF hH r) (RpK.mono hF hH l)
theorem RpF.mono (hF : ∀ a, F a → F' a) (hH : ∀ a, F a → H' a = H a) : ∀ {v : List (Str × V)} {d : List (Nat × D)}, RpF N F H v d → RpF N F' H' v d
  | _, _, .nil => .nil
  | _, _, .cons r l => .cons (Rp.mono hF hH r) (RpF.mono hF hH l)
end
theorem RpL.length : ∀ {v : List V} {d : List D}, RpL N F H v d → v.length = d.length
  | _, _, .nil => rfl
  | _, _, .cons _ l => congrArg (· + 1) (RpL.length l)
theorem RpL.get : ∀ {v : List V} {d : List D} {i : Nat} {x : D}, RpL N F H v d → d[i]? = some x → ∃ y, v[i]? = some y ∧ Rp N F H y x
  | _, _, _, _, .nil, e => by simp at e
  | _, _, 0, _, .cons r _, e => by simp at e; subst e; exact ⟨_, rfl, r⟩
  | _, _, i + 1, x, .cons _ l, e => by
    obtain ⟨y, h1, h2⟩ := RpL.get (i := i) (x := x) l (by simpa using e)
    exact ⟨y, by simpa using h1, h2⟩
theorem RpL.get' : ∀ {v : List V} {d : List D} {i : Nat} {y : V}, RpL N F H v d → v[i]? = some y → ∃ x, d[i]? = some x ∧ Rp N F H y x
  | _, _, _, _, .nil, e => by simp at e
  | _, _, 0, _, .cons r _, e => by simp at e; subst e; exact ⟨_, rfl, r⟩
  | _, _, i + 1, x, .cons _ l, e => by
    obtain ⟨y, h1, h2⟩ := RpL.get' (i := i) (y := x) l (by simpa using e)
    exact ⟨y, by simpa using h1, h2⟩
theorem RpL.append : ∀ {v w : List V} {d e : List D}, RpL N F H v d → RpL N F H w e → RpL N F H (v ++ w) (d ++ e)
  | _, _, _, _, .nil, r => r
  | _, _, _, _, .cons r l, q => .cons r (RpL.append l q)
theorem RpL.set {x : V} {y : D} (r : Rp N F H x y) : ∀ {v : List V} {d : List D} (i : Nat), RpL N F H v d → RpL N F H (v.set i x) (d.set i y)
  | _, _, _, .nil => .nil
  | _, _, 0, .cons _ l => .cons r l
  | _, _, i + 1, .cons q l => .cons q (RpL.set r i l)
theorem RpL.take : ∀ {v : List V} {d : List D} (n : Nat), RpL N F H v d → RpL N F H (v.take n) (d.take n)
  | _, _, 0, _ => .nil
  | _, _, _ + 1, .nil => .nil
  | _, _, n + 1, .cons r t => .cons r (RpL.take n t)
theorem RpL.drop : ∀ {v : List V} {d : List D} (n : Nat), RpL N F H v d → RpL N F H (v.drop n) (d.drop n)
  | _, _, 0, r => r
  | _, _, _ + 1, .nil => .nil
  | _, _, n + 1, .cons _ t => RpL.drop n t
theorem Nm.beq {k f : Nat} : (N.fn f == N.fn k) = (f == k) := by
  by_cases h : f = k
  · subst h
    simp
  · have h2 : ¬ N.fn f = N.fn k := fun e => h (N.inj _ _ e)
    rw [beq_eq_false_iff_ne.mpr h, beq_eq_false_iff_ne.mpr h2]
theorem RpF.lookup {f : Nat} : ∀ {v : List (Str × V)} {d : List (Nat × D)} {x : D}, RpF N F H v d → d.lookup f = some x → ∃ y, v.lookup (N.fn f) = some y ∧ Rp N F H y x
  | _, _, _, .nil, e => by simp at e
  | _, _, x, .cons (k := k) (v := v) (d := d) r l, e => by
    by_cases h : (f == k) = true
    · simp only [List.lookup, Nm.beq, h] at e ⊢
      cases e
      exact ⟨_, rfl, r⟩
    · have h' : (f == k) = false := by simpa using h
      simp only [List.lookup, Nm.beq, h'] at e ⊢
      exact RpF.lookup l e
theorem RpF.lookup_none {f : Nat} : ∀ {v : List (Str × V)} {d : List (Nat × D)}, RpF N F H v d → d.lookup f = none → v.lookup (N.fn f) = none
  | _, _, .nil, e => by simp
  | _, _, .cons (k := k) (v := v) (d := d) r l, e => by
    by_cases h : (f == k) = true
    · simp only [List.lookup, h] at e
      cases e
    · have h' : (f == k) = false := by simpa using h
      simp only [List.lookup, Nm.beq, h'] at e ⊢
      exact RpF.lookup_none l e
theorem RpF.length : ∀ {v : List (Str × V)} {d : List (Nat × D)}, RpF N F H v d → v.length = d.length
  | _, _, .nil => rfl
  | _, _, .cons _ l => congrArg (· + 1) (RpF.length l)
end

/-! ### slots, outcomes -/
inductive CO where | ok (d : D) | ex (d : D) | no
/-- a slot: not assigned; a frozen value; an object of one's own; one lent by the caller; a lent one that is frozen meanwhile; a closure -/
inductive Sl where | un | fz (d : D) | ow (d : D) | ln (d : D) | lf (d : D) | cl (f : List D → CO)
abbrev Rho := List Sl
inductive Out (α : Type) where | ok (a : α) (ρ : Rho) | ex (e : D) (ρ : Rho) | no
abbrev M (α : Type) := Rho → Out α
/-- a value: frozen, or a new object nobody else holds -/
inductive Vl where | fz (d : D) | nw (d : D)
inductive FOut where | ok (r : Vl) (outs : List Sl) | ex (e : D) (outs : List Sl) | no
abbrev Fn := List Sl → FOut
inductive Fl where | nx | rt (r : Vl) | bk | ct
def Vl.d : Vl → D
  | .fz d => d
  | .nw d => d
@[inline] def Out.bind {α β : Type} (o : Out α) (f : α → Rho → Out β) : Out β := match o with
  | .ok a ρ => f a ρ
  | .ex e ρ => .ex e ρ
  | .no => .no
theorem bind_ok {α β : Type} {o : Out α} {f : α → Rho → Out β} {b : β} {ρ : Rho} (h : o.bind f = .ok b ρ) : ∃ a ρ1, o = .ok a ρ1 ∧ f a ρ1 = .ok b ρ := by
  cases o with
  | ok a ρ1 => exact ⟨a, ρ1, rfl, h⟩
  | ex e ρ1 => cases h
  | no => cases h

def isOw : Sl → Bool
  | .ow _ => true
  | .ln _ => true
  | _ => false
def isMut : HO → Bool
  | .lst _ => true
  | .dK _ => true
  | .ins _ _ _ => true
  | _ => false
def Ow (N : Nm) (F : Fz) (H : Hp) (a : Addr) : D → Prop
  | .lst ds => ¬ F a ∧ ∃ xs, H a = some (.lst xs) ∧ RpL N F H xs ds
  | .dic ds => ¬ F a ∧ ∃ xs, H a = some (.dK xs) ∧ RpK N F H xs ds
  | .obj c ds => ¬ F a ∧ ∃ C dx xs, N.gm c = some (.ref C) ∧ H a = some (.ins C dx xs) ∧ RpF N F H xs ds
  | _ => False

/-- what the whole body has in common: the module's names, closures, tables -/
structure Gc where
  N : Nm
  clo : Fz → Hp → V → (List D → CO) → Prop
  tabs : Hp → Prop
  tb : Addr → Prop
  cloMono : ∀ {F F' : Fz} {H H' : Hp} {v : V} {f : List D → CO}, (∀ a, F a → F' a) → (∀ a, F a → H' a = H a) → clo F H v f → clo F' H' v f
  tabsUpd : ∀ {H : Hp} {p : Addr} {o : HO}, tabs H → (H p = none ∨ ∃ u, H p = some u ∧ isMut u = true) → tabs (upd H p o)
  tbAt : ∀ {H : Hp} {a : Addr}, tabs H → tb a → ∃ ps, H a = some (.tbl ps)

def SlR (G : Gc) (F : Fz) (H : Hp) (o : Option (Option V)) : Sl → Prop
  | .un => True
  | .fz d => ∃ v : V, o = some (some v) ∧ Rp G.N F H v d
  | .ow d => ∃ a : Addr, o = some (some (V.ref a)) ∧ Ow G.N F H a d
  | .ln d => ∃ a : Addr, o = some (some (V.ref a)) ∧ Ow G.N F H a d
  | .lf d => ∃ v : V, o = some (some v) ∧ Rp G.N F H v d
  | .cl f => ∃ v : V, o = some (some v) ∧ G.clo F H v f

def Own (G : Gc) (σ : L2.St) (ρ : Rho) (a : Addr) : Prop := G.tb a ∨ ∃ (i : Nat) (s : Sl), ρ[i]? = some s ∧ isOw s = true ∧ σ[i]? = some (some (V.ref a))

abbrev Lt := List (Option Addr)
structure StR (G : Gc) (L : Lt) (F : Fz) (H : Hp) (σ : L2.St) (ρ : Rho) : Prop where
  len : ρ.length = σ.length
  sl : ∀ (i : Nat) (s : Sl), ρ[i]? = some s → SlR G F H σ[i]? s
  sep : ∀ (i j : Nat) (s t : Sl) (a : Addr), i ≠ j → ρ[i]? = some s → isOw s = true → ρ[j]? = some t → isOw t = true → σ[i]? = some (some (V.ref a)) → σ[j]? = some (some (V.ref a)) → False
  lent : ∀ (i : Nat) (a : Addr), L[i]? = some (some a) → σ[i]? = some (some (V.ref a)) ∧ ∃ d : D, ρ[i]? = some (Sl.ln d) ∨ ρ[i]? = some (Sl.lf d)
  lnL : ∀ (i : Nat) (d : D), ρ[i]? = some (Sl.ln d) ∨ ρ[i]? = some (Sl.lf d) → ∃ a, L[i]? = some (some a)
  trk : ∀ a, F a → (∃ o, H a = some o) ∧ ¬ G.tb a
  tabs : G.tabs H

structure Ext (O F : Fz) (H : Hp) (O' F' : Fz) (H' : Hp) : Prop where
  keep : ∀ a o, H a = some o → ¬ O a → H' a = some o
  mono : ∀ a, F a → F' a
  new : ∀ a, F' a → F a ∨ H a = none ∨ O a
  sub : ∀ a, O' a → O a ∨ H a = none

theorem Ext.refl {O F : Fz} {H : Hp} : Ext O F H O F H := ⟨fun _ _ h _ => h, fun _ h => h, fun _ h => .inl h, fun _ h => .inl h⟩
theorem Ext.was {O F O1 F1 : Fz} {H H1 : Hp} (a : Ext O F H O1 F1 H1) {c : Addr} (h : H1 c = none) : O c ∨ H c = none := by
  cases e : H c with
  | none => exact .inr rfl
  | some o =>
    refine .inl (Classical.byContradiction fun n => ?_)
    have := a.keep c o e n
    rw [h] at this; cases this
theorem Ext.trans {O F O1 F1 O2 F2 : Fz} {H H1 H2 : Hp} (a : Ext O F H O1 F1 H1) (b : Ext O1 F1 H1 O2 F2 H2) : Ext O F H O2 F2 H2 where
  keep := fun c o h n => b.keep c o (a.keep c o h n) fun z => (a.sub c z).elim n fun e => by rw [h] at e; cases e
  mono := fun c h => b.mono c (a.mono c h)
  new := fun c h => by
    rcases b.new c h with z | z | z
    · exact a.new c z
    · exact (a.was z).elim (fun q => .inr (.inr q)) fun q => .inr (.inl q)
    · exact (a.sub c z).elim (fun q => .inr (.inr q)) fun q => .inr (.inl q)
  sub := fun c h => (b.sub c h).elim (a.sub c) fun z => a.was z

section
variable {G : Gc} {L : Lt} {F F' : Fz} {H H' : Hp} {σ σ' : L2.St} {ρ ρ' : Rho} {a : Addr} {d : D}
theorem Ow.nf (h : Ow G.N F H a d) : ¬ F a := by
  cases d <;> first | exact h.1 | exact h.elim
theorem Ow.at (h : Ow G.N F H a d) : ∃ u, H a = some u ∧ isMut u = true := by
  cases d with
  | lst l => obtain ⟨_, xs, e, _⟩ := h; exact ⟨_, e, rfl⟩
  | dic l => obtain ⟨_, xs, e, _⟩ := h; exact ⟨_, e, rfl⟩
  | obj c l => obtain ⟨_, C, dx, xs, _, e, _⟩ := h; exact ⟨_, e, rfl⟩
  | _ => exact h.elim
theorem Ow.mono (h : Ow G.N F H a d) (hF : ∀ b, F b → F' b) (hH : ∀ b, F b → H' b = H b) (n : ¬ F' a) (e : H' a = H a) : Ow G.N F' H' a d := by
  cases d with
  | lst l => obtain ⟨_, xs, q, r⟩ := h; exact ⟨n, xs, e.trans q, r.mono hF hH⟩
  | dic l => obtain ⟨_, xs, q, r⟩ := h; exact ⟨n, xs, e.trans q, r.mono hF hH⟩
  | obj c l => obtain ⟨_, C, dx, xs, m, q, r⟩ := h; exact ⟨n, C, dx, xs, m, e.trans q, r.mono hF hH⟩
  | _ => exact h.elim
/-- an object of one's own is given away: from now on it never changes -/
theorem Ow.freeze (h : Ow G.N F H a d) (hF : ∀ b, F b → F' b) (f : F' a) : Rp G.N F' H (.ref a) d := by
  cases d with
  | lst l => obtain ⟨_, xs, q, r⟩ := h; exact .lst f q (r.mono hF fun _ _ => rfl)
  | dic l => obtain ⟨_, xs, q, r⟩ := h; exact .dic f q (r.mono hF fun _ _ => rfl)
  | obj c l => obtain ⟨_, C, dx, xs, m, q, r⟩ := h; exact .obj m f q (r.mono hF fun _ _ => rfl)
  | _ => exact h.elim
theorem SlR.own {s : Sl} {o : Option (Option V)} (h : SlR G F H o s) (w : isOw s = true) : ∃ (a : Addr) (d : D), o = some (some (V.ref a)) ∧ Ow G.N F H a d ∧ (s = .ow d ∨ s = .ln d) := by
  cases s with
  | ow d => obtain ⟨a, e, q⟩ := h; exact ⟨a, d, e, q, .inl rfl⟩
  | ln d => obtain ⟨a, e, q⟩ := h; exact ⟨a, d, e, q, .inr rfl⟩
  | _ => cases w
theorem StR.own (h : StR G L F H σ ρ) {i : Nat} {s : Sl} (e : ρ[i]? = some s) (w : isOw s = true) : ∃ (a : Addr) (d : D), σ[i]? = some (some (V.ref a)) ∧ Ow G.N F H a d ∧ (s = .ow d ∨ s = .ln d) := (h.sl i s e).own w
theorem StR.notOwn (h : StR G L F H σ ρ) (f : F a) : ¬ Own G σ ρ a := by
  rintro (z | ⟨i, s, e, w, q⟩)
  · exact (h.trk a f).2 z
  · obtain ⟨b, d, e2, o, _⟩ := h.own e w
    rw [q] at e2
    cases e2
    exact o.nf f
theorem StR.ownAt (h : StR G L F H σ ρ) (o : Own G σ ρ a) : ∃ u, H a = some u := by
  rcases o with z | ⟨i, s, e, w, q⟩
  · obtain ⟨ps, e⟩ := G.tbAt h.tabs z
    exact ⟨_, e⟩
  · obtain ⟨b, d, e2, o, _⟩ := h.own e w
    rw [q] at e2
    cases e2
    obtain ⟨u, e, _⟩ := o.at
    exact ⟨u, e⟩
/-- frozen things stay -/
theorem Ext.fz {O' : Fz} (x : Ext (Own G σ ρ) F H O' F' H') (h : StR G L F H σ ρ) (f : F a) : H' a = H a := by
  obtain ⟨⟨o, e⟩, _⟩ := h.trk a f
  rw [e]
  exact x.keep a o e (h.notOwn f)
theorem Ext.rp {O' : Fz} {v : V} (x : Ext (Own G σ ρ) F H O' F' H') (h : StR G L F H σ ρ) (r : Rp G.N F H v d) : Rp G.N F' H' v d := r.mono x.mono fun _ f => x.fz h f
theorem Ext.rpl {O' : Fz} {vs : List V} {ds : List D} (x : Ext (Own G σ ρ) F H O' F' H') (h : StR G L F H σ ρ) (r : RpL G.N F H vs ds) : RpL G.N F' H' vs ds := r.mono x.mono fun _ f => x.fz h f
theorem SlR.mono {s : Sl} {o : Option (Option V)} (h : SlR G F H o s) (hF : ∀ b, F b → F' b) (hH : ∀ b, F b → H' b = H b) (hO : isOw s = true → ∀ a : Addr, o = some (some (V.ref a)) → ¬ F' a ∧ H' a = H a) : SlR G F' H' o s := by
  cases s with
  | un => trivial
  | fz d => obtain ⟨v, e, r⟩ := h; exact ⟨v, e, r.mono hF hH⟩
  | ow d => obtain ⟨a, e, r⟩ := h; obtain ⟨n, q⟩ := hO rfl a e; exact ⟨a, e, r.mono hF hH n q⟩
  | ln d => obtain ⟨a, e, r⟩ := h; obtain ⟨n, q⟩ := hO rfl a e; exact ⟨a, e, r.mono hF hH n q⟩
  | lf d => obtain ⟨v, e, r⟩ := h; exact ⟨v, e, r.mono hF hH⟩
  | cl f => obtain ⟨v, e, r⟩ := h; exact ⟨v, e, G.cloMono hF hH r⟩
/-- the heap grows by a new object at p, frozen or not yet -/
theorem StR.grow {p : Addr} {o : HO} (h : StR G L F H σ ρ) (n : H p = none) (hF : ∀ a, F a → F' a) (hF' : ∀ a, F' a → F a ∨ a = p) : StR G L F' (upd H p o) σ ρ where
  len := h.len
  sl := fun i s e => (h.sl i s e).mono hF (fun b f => by
    obtain ⟨⟨u, q⟩, _⟩ := h.trk b f
    exact upd_ne (ne_of_none q n)) fun w a q => by
      obtain ⟨b, d, e2, ow, _⟩ := h.own e w
      rw [q] at e2
      cases e2
      obtain ⟨u, e3, _⟩ := ow.at
      have ne := ne_of_none e3 n
      exact ⟨fun z => (hF' a z).elim ow.nf ne, upd_ne ne⟩
  sep := h.sep
  lent := h.lent
  lnL := h.lnL
  trk := fun a f => by
    rcases hF' a f with z | z
    · obtain ⟨⟨u, q⟩, m⟩ := h.trk a z
      exact ⟨⟨u, by rw [upd_ne (ne_of_none q n)]; exact q⟩, m⟩
    · subst z
      refine ⟨⟨o, upd_same⟩, fun t => ?_⟩
      obtain ⟨ps, q⟩ := G.tbAt h.tabs t
      rw [n] at q; cases q
  tabs := G.tabsUpd h.tabs (.inl n)
theorem Ext.grow {p : Addr} {o : HO} (h : StR G L F H σ ρ) (n : H p = none) (hF : ∀ a, F a → F' a) (hF' : ∀ a, F' a → F a ∨ a = p) : Ext (Own G σ ρ) F H (Own G σ ρ) F' (upd H p o) where
  keep := fun a u e _ => by rw [upd_ne (ne_of_none e n)]; exact e
  mono := hF
  new := fun a f => (hF' a f).elim .inl fun z => .inr (.inl (z ▸ n))
  sub := fun _ z => .inl z
/-- F with one more -/
def plus (F : Fz) (p : Addr) : Fz := fun a => F a ∨ a = p
/-- a slot whose object is given away -/
def frzSl : Sl → D → Sl
  | .ln _, d => .lf d
  | .lf _, d => .lf d
  | _, d => .fz d
theorem frzSl_ow {s : Sl} {d : D} : isOw (frzSl s d) = false := by cases s <;> rfl
theorem frzSl_rel {s : Sl} {d : D} {v : V} {o : Option (Option V)} (e : o = some (some v)) (r : Rp G.N F H v d) : SlR G F H o (frzSl s d) := by
  cases s <;> exact ⟨v, e, r⟩
/-- slot i holds an object of its own: it is given away -/
theorem StR.give {i : Nat} {s : Sl} (h : StR G L F H σ ρ) (e : ρ[i]? = some s) (w : isOw s = true) (q : σ[i]? = some (some (V.ref a))) (hd : s = .ow d ∨ s = .ln d) :
    StR G L (plus F a) H σ (ρ.set i (frzSl s d)) ∧ Ext (Own G σ ρ) F H (Own G σ (ρ.set i (frzSl s d))) (plus F a) H ∧ Rp G.N (plus F a) H (.ref a) d := by
  obtain ⟨b, d', e2, ow, hd'⟩ := h.own e w
  rw [q] at e2
  cases e2
  have ed : d' = d := by
    rcases hd with rfl | rfl <;> rcases hd' with z | z <;> cases z <;> rfl
  subst ed
  have hi : i < ρ.length := (List.getElem?_eq_some_iff.mp e).1
  have rp : Rp G.N (plus F a) H (.ref a) d' := ow.freeze (fun _ z => .inl z) (.inr rfl)
  have at_ : ∀ (j : Nat) (t : Sl), (ρ.set i (frzSl s d'))[j]? = some t → (j = i ∧ t = frzSl s d') ∨ (j ≠ i ∧ ρ[j]? = some t) := fun j t z => by
    by_cases hj : j = i
    · subst hj
      rw [List.getElem?_set_self hi] at z
      exact .inl ⟨rfl, (Option.some.inj z).symm⟩
    · rw [List.getElem?_set_ne (Ne.symm hj)] at z
      exact .inr ⟨hj, z⟩
  have sub : ∀ b, Own G σ (ρ.set i (frzSl s d')) b → Own G σ ρ b ∧ b ≠ a := fun b z => by
    rcases z with z | ⟨j, t, z, wt, qt⟩
    · refine ⟨.inl z, fun y => ?_⟩
      subst y
      obtain ⟨ps, y⟩ := G.tbAt h.tabs z
      obtain ⟨u, y2, m⟩ := ow.at
      rw [y] at y2
      cases y2
      cases m
    · rcases at_ j t z with ⟨rfl, rfl⟩ | ⟨hj, z⟩
      · rw [frzSl_ow] at wt; cases wt
      · refine ⟨.inr ⟨j, t, z, wt, qt⟩, fun y => ?_⟩
        subst y
        exact h.sep j i t s _ hj z wt e w qt q
  refine ⟨⟨?_, ?_, ?_, ?_, ?_, ?_, h.tabs⟩, ⟨fun _ _ z _ => z, fun _ z => .inl z, fun b z => z.elim .inl fun y => .inr (.inr (y ▸ .inr ⟨i, s, e, w, q⟩)), fun b z => .inl (sub b z).1⟩, rp⟩
  · rw [List.length_set]; exact h.len
  · intro j t z
    rcases at_ j t z with ⟨rfl, rfl⟩ | ⟨hj, z⟩
    · exact frzSl_rel q rp
    · refine (h.sl j t z).mono (fun _ f => .inl f) (fun _ _ => rfl) fun wt b qb => ⟨?_, rfl⟩
      obtain ⟨c, dd, e3, ow3, _⟩ := h.own z wt
      rw [qb] at e3
      cases e3
      rintro (f | rfl)
      · exact ow3.nf f
      · exact h.sep j i t s _ hj z wt e w qb q
  · intro j k t u b hjk z wt z2 wu q1 q2
    rcases at_ j t z with ⟨rfl, rfl⟩ | ⟨hj, z⟩
    · rw [frzSl_ow] at wt; cases wt
    · rcases at_ k u z2 with ⟨rfl, rfl⟩ | ⟨hk, z2⟩
      · rw [frzSl_ow] at wu; cases wu
      · exact h.sep j k t u b hjk z wt z2 wu q1 q2
  · intro j b z
    obtain ⟨h1, dd, h2⟩ := h.lent j b z
    refine ⟨h1, ?_⟩
    by_cases hj : j = i
    · subst hj
      refine ⟨d', .inr ?_⟩
      rw [List.getElem?_set_self hi]
      rw [e] at h2
      rcases h2 with h2 | h2
      · cases h2; rfl
      · cases h2; rfl
    · exact ⟨dd, by rw [List.getElem?_set_ne (Ne.symm hj)]; exact h2⟩
  · intro j dd z
    have lnl : ∀ t : Sl, (t = .ln dd ∨ t = .lf dd) → (ρ.set i (frzSl s d'))[j]? = some t → ∃ a, L[j]? = some (some a) := fun t ht z => by
      rcases at_ j t z with ⟨rfl, y⟩ | ⟨hj, z⟩
      · rcases hd with rfl | rfl
        · rcases ht with rfl | rfl <;> cases y
        · exact h.lnL j d' (.inl e)
      · rcases ht with rfl | rfl
        · exact h.lnL j dd (.inl z)
        · exact h.lnL j dd (.inr z)
    rcases z with z | z
    · exact lnl _ (.inl rfl) z
    · exact lnl _ (.inr rfl) z
  · rintro b (f | rfl)
    · exact h.trk b f
    · obtain ⟨u, y2, m⟩ := ow.at
      refine ⟨⟨u, y2⟩, fun z => ?_⟩
      obtain ⟨ps, y⟩ := G.tbAt h.tabs z
      rw [y] at y2
      cases y2
      cases m
end
end Ev

/-! EvB: the judgements; names, constants, operators, displays. -/
namespace Ev
open PySem PySem.Spec PyProof.Rows L2

structure Cf where
  σ : L2.St
  ρ : Rho
  F : Fz
  H : Hp
abbrev Cf.own (G : Gc) (c : Cf) : Fz := Own G c.σ c.ρ
abbrev Ok (G : Gc) (L : Lt) (c : Cf) : Prop := StR G L c.F c.H c.σ c.ρ
abbrev Ex (G : Gc) (c c' : Cf) : Prop := Ext (c.own G) c.F c.H (c'.own G) c'.F c'.H
def XR (G : Gc) (F : Fz) (H : Hp) (cls : Value) (dd : Option Addr) : D → Prop
  | .exc x fs => ∃ C a xs, G.N.gm x = some (.ref C) ∧ cls = .ref C ∧ dd = some a ∧ F a ∧ H a = some (.xd xs) ∧ RpF G.N F H xs fs
  | _ => False
def Req {α : Type} (G : Gc) (L : Lt) (W : WX) (c : Cf) (o : Out α) (P : α → Cf → Prop) : Prop := match o with
  | .ok r ρ' => ∀ F' H', Ex G c ⟨c.σ, ρ', F', H'⟩ → Ok G L ⟨c.σ, ρ', F', H'⟩ → P r ⟨c.σ, ρ', F', H'⟩
  | .ex d ρ' => ∀ F' H', Ex G c ⟨c.σ, ρ', F', H'⟩ → Ok G L ⟨c.σ, ρ', F', H'⟩ → ∀ cls dd, XR G F' H' cls dd d → W cls dd c.σ H'
  | .no => False
def VR (G : Gc) (c0 c : Cf) (v : V) : Vl → Prop
  | .fz d => Rp G.N c.F c.H v d
  | .nw d => ∃ a, v = .ref a ∧ Ow G.N c.F c.H a d ∧ ¬ c.own G a ∧ (c0.H a = none ∨ c0.own G a)
section
variable {G : Gc} {L : Lt} {W : WX} {c c0 c1 : Cf} {α β : Type}
theorem Req.shift {o : Out α} {P : α → Cf → Prop} (h : Req G L W c o P) (x : Ex G c c1) (e : c1.σ = c.σ) : Req G L W c1 o P := by
  obtain ⟨σ, ρ, F, H⟩ := c
  obtain ⟨σ1, ρ1, F1, H1⟩ := c1
  cases e
  cases o with
  | ok r ρ' => exact fun F' H' y s => h F' H' (x.trans y) s
  | ex d ρ' => exact fun F' H' y s => h F' H' (x.trans y) s
  | no => exact h
theorem Req.imp {o : Out α} {P P' : α → Cf → Prop} (h : Req G L W c o P) (f : ∀ r c', o = .ok r c'.ρ → c'.σ = c.σ → Ex G c c' → Ok G L c' → P r c' → P' r c') : Req G L W c o P' := by
  cases o with
  | ok r ρ' => exact fun F' H' y s => f r _ rfl rfl y s (h F' H' y s)
  | ex d ρ' => exact h
  | no => exact h
theorem Req.bind {o : Out α} {f : α → Rho → Out β} {P : β → Cf → Prop} (h : Req G L W c (o.bind f) P) : Req G L W c o (fun a c1 => Req G L W c1 (f a c1.ρ) P) := by
  cases o with
  | ok r ρ' => exact fun F' H' y s => Req.shift (c1 := ⟨c.σ, ρ', F', H'⟩) h y rfl
  | ex d ρ' => exact h
  | no => exact h
theorem Req.here {r : α} {P : α → Cf → Prop} (h : Req G L W c (.ok r c.ρ) P) (s : Ok G L c) : P r c := h c.F c.H Ext.refl s
theorem Ex.pre {a : Addr} (x : Ex G c0 c) (h : c.H a = none ∨ c.own G a) : c0.H a = none ∨ c0.own G a := by
  rcases h with h | h
  · exact (x.was h).symm
  · exact (x.sub a h).symm
end

structure SE (X : Cx) (W : WX) (G : Gc) (L : Lt) (e : Expr) (m : M Vl) : Prop where
  ex : ∃ t : TE, PE X e t ∧ ∀ (c : Cf) (Q : VK), Ok G L c → Req G L W c (m c.ρ) (fun r c' => ∀ v, VR G c c' v r → Q v c'.H) → t c.σ c.H Q
structure SD (X : Cx) (W : WX) (G : Gc) (L : Lt) (e : Expr) (m : M D) : Prop where
  ex : ∃ t : TE, PE X e t ∧ ∀ (c : Cf) (Q : VK), Ok G L c → Req G L W c (m c.ρ) (fun d c' => ∀ v, Rp G.N c'.F c'.H v d → Q v c'.H) → t c.σ c.H Q
structure ST (X : Cx) (W : WX) (G : Gc) (L : Lt) (e : Expr) (m : M Bool) : Prop where
  ex : ∃ t : TT, PT X e t ∧ ∀ (c : Cf) (Q : Bool → Hp → Prop), Ok G L c → Req G L W c (m c.ρ) (fun b c' => Q b c'.H) → t c.σ c.H Q
structure SW (X : Cx) (W : WX) (G : Gc) (L : Lt) (e : Expr) (m : M Bool) : Prop where
  ex : ∃ t : TT, PW X e t ∧ ∀ (c : Cf) (Q : Bool → Hp → Prop), Ok G L c → Req G L W c (m c.ρ) (fun b c' => Q b c'.H) → t c.σ c.H Q
structure SA (X : Cx) (W : WX) (G : Gc) (L : Lt) (es : List Expr) (m : M (List D)) : Prop where
  ex : ∃ t : TA, PA X es t ∧ ∀ (c : Cf) (Q : List V → Hp → Prop), Ok G L c → Req G L W c (m c.ρ) (fun ds c' => ∀ vs, RpL G.N c'.F c'.H vs ds → Q vs c'.H) → t c.σ c.H Q

def liftO {α : Type} (o : Option α) : M α := fun ρ => match o with
  | some a => .ok a ρ
  | none => .no
@[inline] def M.bind {α β : Type} (m : M α) (f : α → M β) : M β := fun ρ => (m ρ).bind f
def mpure {α : Type} (a : α) : M α := fun ρ => .ok a ρ
/-- a value, frozen from now on -/
def toD (m : M Vl) : M D := m.bind fun r => mpure r.d
def toV (m : M D) : M Vl := m.bind fun d => mpure (.fz d)

section
variable {X : Cx} {W : WX} {G : Gc} {L : Lt} {e a b : Expr} {pos : Pos} {c c0 c1 : Cf}

/-- a new object of no slot is frozen -/
theorem Ok.frz {p : Addr} {d : D} (s : Ok G L c) (o : Ow G.N c.F c.H p d) (n : ¬ c.own G p) : Ok G L ⟨c.σ, c.ρ, plus c.F p, c.H⟩ := by
  refine ⟨s.len, fun i t e => ?_, s.sep, s.lent, s.lnL, fun q f => ?_, s.tabs⟩
  · refine (s.sl i t e).mono (fun _ f => .inl f) (fun _ _ => rfl) fun w q z => ⟨fun f => ?_, rfl⟩
    rcases f with f | rfl
    · exact s.notOwn f (.inr ⟨i, t, e, w, z⟩)
    · exact n (.inr ⟨i, t, e, w, z⟩)
  · rcases f with f | rfl
    · exact s.trk q f
    · obtain ⟨u, e, _⟩ := o.at
      exact ⟨⟨u, e⟩, fun t => n (.inl t)⟩
theorem Ex.frz {p : Addr} (x : Ex G c0 c) (pre : c0.H p = none ∨ c0.own G p) : Ex G c0 ⟨c.σ, c.ρ, plus c.F p, c.H⟩ :=
  ⟨x.keep, fun b z => .inl (x.mono b z), fun b z => z.elim (x.new b) fun e => by subst e; exact .inr pre, x.sub⟩
theorem SE.toD {m : M Vl} (h : SE X W G L e m) : SD X W G L e (toD m) := by
  obtain ⟨t, p, q⟩ := h.ex
  refine ⟨t, p, fun c Q s r => q c Q s ?_⟩
  have r : Req G L W c ((m c.ρ).bind fun r ρ => .ok r.d ρ) _ := r
  cases em : m c.ρ with
  | no => rw [em] at r; exact r
  | ex d ρ => rw [em] at r; exact r
  | ok v ρ1 =>
    rw [em] at r
    intro F1 H1 x s1 y vr
    cases v with
    | fz d => exact r F1 H1 x s1 y vr
    | nw d =>
      obtain ⟨p, rfl, ow, no, pre⟩ := vr
      exact r (plus F1 p) H1 (Ex.frz x pre) (Ok.frz s1 ow no) _ (ow.freeze (fun _ z => .inl z) (.inr rfl))
theorem SD.toE {m : M D} (h : SD X W G L e m) : SE X W G L e (toV m) := by
  obtain ⟨t, p, q⟩ := h.ex
  refine ⟨t, p, fun c Q s r => q c Q s ((Req.bind r).imp fun d c1 eo es x s1 r1 y rp => ?_)⟩
  exact Req.here (r := Vl.fz d) r1 s1 y rp
/-! ### names, constants -/
def evVar (i : Nat) : M D := fun ρ => match ρ[i]? with
  | some (.fz d) => .ok d ρ
  | some (.ow d) => .ok d (ρ.set i (.fz d))
  | some (.ln d) => .ok d (ρ.set i (.lf d))
  | some (.lf d) => .ok d ρ
  | _ => .no
theorem SD.var (i : Nat) {x : Str} (hN : X.N[i]? = some x) (hv : Vis X.env.scope x) (hd : (x == ("__debug__" : Str)) = false := by decide) (hcd : (x == ("__classdict__" : Str)) = false := by decide) : SD X W G L (.Name x pos) (evVar i) := by
  refine ⟨tVar i, pe_var hN hv hd hcd, fun c Q s r => ?_⟩
  unfold evVar at r
  cases e : c.ρ[i]? with
  | none => rw [e] at r; exact r.elim
  | some t =>
    rw [e] at r
    cases t with
    | un => exact r.elim
    | cl f => exact r.elim
    | fz d =>
      obtain ⟨v, h1, h2⟩ := s.sl i _ e
      exact ⟨v, h1, r _ _ Ext.refl s _ h2⟩
    | lf d =>
      obtain ⟨v, h1, h2⟩ := s.sl i _ e
      exact ⟨v, h1, r _ _ Ext.refl s _ h2⟩
    | ow d =>
      obtain ⟨a, h1, h2⟩ := s.sl i _ e
      obtain ⟨z1, z2, z3⟩ := StR.give s e rfl h1 (.inl rfl)
      exact ⟨.ref a, h1, r _ _ z2 z1 _ z3⟩
    | ln d =>
      obtain ⟨a, h1, h2⟩ := s.sl i _ e
      obtain ⟨z1, z2, z3⟩ := StR.give s e rfl h1 (.inr rfl)
      exact ⟨.ref a, h1, r _ _ z2 z1 _ z3⟩
theorem SD.int {i : Int} {j} : SD X W G L (.Constant (.int i) j pos) (mpure (.int i)) := ⟨_, pe_int, fun c Q s r => r _ _ Ext.refl s _ (.int i)⟩
theorem SD.bl {i : Bool} {j} : SD X W G L (.Constant (.bool i) j pos) (mpure (.bl i)) := ⟨_, pe_bl, fun c Q s r => r _ _ Ext.refl s _ (.bl i)⟩
theorem SD.non {j} : SD X W G L (.Constant .none j pos) (mpure .non) := ⟨_, pe_non, fun c Q s r => r _ _ Ext.refl s _ .non⟩
theorem SD.str {i : Str} {j} : SD X W G L (.Constant (.str i) j pos) (mpure (.str i)) := ⟨_, pe_str, fun c Q s r => r _ _ Ext.refl s _ (.str i)⟩
theorem SD.glob {x : Str} {n : Nat} {f : Addr} (hg : Gl X x) (eg : G.N.gm n = X.mg x) (hm : X.mg x = some (.ref f)) (hd : (x == ("__debug__" : Str)) = false := by decide) : SD X W G L (.Name x pos) (mpure (.gl n)) :=
  ⟨_, pe_glob (v := .ref f) hg hm rfl hd, fun c Q s r => r _ _ Ext.refl s _ (.gl (by rw [eg]; exact hm))⟩
theorem SD.bltn {x : Str} {n : Ty} (hg : Gl X x) (hm : X.mg x = none) (hv : bootBuiltins x = some (.type n.nm)) (hn : x ≠ "__name__" := by decide) (hd : (x == ("__debug__" : Str)) = false := by decide) : SD X W G L (.Name x pos) (mpure (.ty n)) :=
  ⟨_, pe_bltn (v := .ty n.nm) hg hm hv rfl hn hd, fun c Q s r => r _ _ Ext.refl s _ (.ty n)⟩
/-- a module's constant -/
theorem SD.globI {x : Str} {i : Int} {t : Tok} (hg : Gl X x) (hm : X.mg x = some (.int i t)) (hd : (x == ("__debug__" : Str)) = false := by decide) : SD X W G L (.Name x pos) (mpure (.int i)) :=
  ⟨_, pe_glob (v := .int i) hg hm ⟨t, rfl⟩ hd, fun c Q s r => r _ _ Ext.refl s _ (.int i)⟩

/-! ### two operands -/
/-- what an operator's rule gives for data -/
def BinOk (X : Cx) (W : WX) (G : Gc) (L : Lt) (r : R2) (f : D → D → Option Vl) : Prop := ∀ (c0 c : Cf) (x y : D) (v u : V) (Q : VK), c.σ = c0.σ → Ex G c0 c → Ok G L c → Rp G.N c.F c.H v x → Rp G.N c.F c.H u y →
  Req G L W c (liftO (f x y) c.ρ) (fun r c' => ∀ v, VR G c0 c' v r → Q v c'.H) → r v u c.H Q
def ev2 (f : D → D → Option Vl) (ma mb : M D) : M Vl := ma.bind fun x => mb.bind fun y => liftO (f x y)
theorem SE.two {ma mb : M D} {f : D → D → Option Vl} {r : R2} (hf : BinOk X W G L r f) (ha : SD X W G L a ma) (hb : SD X W G L b mb) (mk : ∀ {ta tb : TE}, PE X a ta → PE X b tb → PE X e (tOp r ta tb)) : SE X W G L e (ev2 f ma mb) := by
  obtain ⟨ta, pa, qa⟩ := ha.ex
  obtain ⟨tb, pb, qb⟩ := hb.ex
  refine ⟨tOp r ta tb, mk pa pb, fun c Q s h => ?_⟩
  refine qa c _ s ((Req.bind h).imp fun x c1 _ e1 x1 s1 h1 v rv => ?_)
  have h1' := h1
  show tb c.σ c1.H _
  rw [← e1]
  refine qb c1 _ s1 ((Req.bind h1).imp fun y c2 _ e2 x2 s2 h2 u ru => ?_)
  exact hf c c2 x y v u Q (e2.trans e1) (x1.trans x2) s2 (x2.rp s1 rv) ru h2
theorem SE.bin {op : Operator} {ma mb : M D} {f : D → D → Option Vl} {r : R2} (ho : OpR X (binaryOp op) r) (hf : BinOk X W G L r f) (ha : SD X W G L a ma) (hb : SD X W G L b mb) : SE X W G L (.BinOp a op b pos) (ev2 f ma mb) :=
  SE.two hf ha hb fun pa pb => pe_op ho pa pb
theorem SE.cmp {op : CmpOp} {ma mb : M D} {f : D → D → Option Vl} {r : R2} (ho : OpR X (compareOp op) r) (hf : BinOk X W G L r f) (ha : SD X W G L a ma) (hb : SD X W G L b mb) (hm : behindInMarks op b = false) : SE X W G L (.Compare a [op] [b] pos) (ev2 f ma mb) :=
  SE.two hf ha hb fun pa pb => pe_cmpR ho pa pb hm
def vBool (r : Option Vl) : Option Bool := match r with
  | some (.fz (.bl b)) => some b
  | _ => none
def ev2T (f : D → D → Option Vl) (ma mb : M D) : M Bool := ma.bind fun x => mb.bind fun y => liftO (vBool (f x y))
theorem ST.cmp {op : CmpOp} {ma mb : M D} {f : D → D → Option Vl} {r : R2} (ho : OpR X (compareOp op) r) (hf : BinOk X W G L r f) (ha : SD X W G L a ma) (hb : SD X W G L b mb) (hm : behindInMarks op b = false) : ST X W G L (.Compare a [op] [b] pos) (ev2T f ma mb) := by
  obtain ⟨ta, pa, qa⟩ := ha.ex
  obtain ⟨tb, pb, qb⟩ := hb.ex
  refine ⟨tTest (tOp r ta tb), pt_cmpR ho pa pb hm, fun c Q s h => ?_⟩
  refine qa c _ s ((Req.bind h).imp fun x c1 _ e1 x1 s1 h1 v rv => ?_)
  show tb c.σ c1.H _
  rw [← e1]
  refine qb c1 _ s1 ((Req.bind h1).imp fun y c2 _ e2 x2 s2 h2 u ru => ?_)
  refine hf c2 c2 x y v u _ rfl Ext.refl s2 (x2.rp s1 rv) ru ?_
  have h2 : Req G L W c2 (liftO (vBool (f x y)) c2.ρ) _ := h2
  cases ef : f x y with
  | none => rw [ef] at h2; exact h2.elim
  | some r =>
    rw [ef] at h2
    cases r with
    | nw d => exact h2.elim
    | fz d =>
      cases d with
      | bl k =>
        intro F' H' x3 s3 v rv
        cases rv
        exact ⟨k, rfl, h2 F' H' x3 s3⟩
      | _ => exact h2.elim
/-- one operand -/
def UnOk (X : Cx) (W : WX) (G : Gc) (L : Lt) (r : V → Hp → VK → Prop) (f : D → Option Vl) : Prop := ∀ (c0 c : Cf) (x : D) (v : V) (Q : VK), c.σ = c0.σ → Ex G c0 c → Ok G L c → Rp G.N c.F c.H v x →
  Req G L W c (liftO (f x) c.ρ) (fun r c' => ∀ v, VR G c0 c' v r → Q v c'.H) → r v c.H Q
def ev1 (f : D → Option Vl) (ma : M D) : M Vl := ma.bind fun x => liftO (f x)
theorem SE.un {op : UnaryOp} {ma : M D} {f : D → Option Vl} {r : V → Hp → VK → Prop} (ho : UnR X (unaryOp op) r) (hf : UnOk X W G L r f) (ha : SD X W G L a ma) : SE X W G L (.UnaryOp op a pos) (ev1 f ma) := by
  obtain ⟨ta, pa, qa⟩ := ha.ex
  refine ⟨tUn r ta, pe_un ho pa, fun c Q s h => ?_⟩
  refine qa c _ s ((Req.bind h).imp fun x c1 _ e1 x1 s1 h1 v rv => ?_)
  exact hf c c1 x v Q e1 x1 s1 rv h1

/-! ### numbers -/
def mulOk (i j : Int) : Bool := decide ((Builtin.Int.intBits i : Int) + (Builtin.Int.intBits j : Int) ≤ 134217728)
def divOk (j : Int) : Bool := decide (j ≠ 0) && decide (j.natAbs.log2 < 9000)
def powOk (i j : Int) : Bool := decide (0 ≤ j) && decide (j ≤ 1000000) && decide (i.natAbs < 2 ^ 64)
def i2 (f : Int → Int → Option D) : D → D → Option Vl
  | .int i, .int j => (f i j).map .fz
  | _, _ => none
theorem i2_ok {f : Int → Int → Option D} {C : Int → Int → Prop} {g : Int → Int → V} (h : ∀ i j d, f i j = some d → C i j ∧ ∀ mg F H, Rp mg F H (g i j) d) : BinOk X W G L (rI C g) (i2 f) := by
  intro c0 c x y v u Q _ ex s rx ry hr
  cases x with
  | int i =>
    cases y with
    | int j =>
      cases rx
      cases ry
      have hr : Req G L W c (liftO ((f i j).map Vl.fz) c.ρ) _ := hr
      cases e : f i j with
      | none => rw [e] at hr; exact hr.elim
      | some d =>
        rw [e] at hr
        obtain ⟨h1, h2⟩ := h i j d e
        exact ⟨i, j, rfl, rfl, h1, Req.here hr s _ (h2 _ _ _)⟩
    | _ => exact hr.elim
  | _ => exact hr.elim
theorem i2_ok0 {f : Int → Int → D} {g : Int → Int → V} (h : ∀ i j mg F H, Rp mg F H (g i j) (f i j)) : BinOk X W G L (rI0 g) (i2 fun i j => some (f i j)) := by
  intro c0 c x y v u Q _ ex s rx ry hr
  cases x with
  | int i =>
    cases y with
    | int j =>
      cases rx
      cases ry
      exact ⟨i, j, rfl, rfl, Req.here (r := Vl.fz (f i j)) hr s _ (h i j _ _ _)⟩
    | _ => exact hr.elim
  | _ => exact hr.elim
def fMul (i j : Int) : Option D := if mulOk i j then some (.int (i * j)) else none
def fDiv (i j : Int) : Option D := if divOk j then some (.int (i.fdiv j)) else none
def fMod (i j : Int) : Option D := if j = 0 then none else some (.int (i.fmod j))
def fPow (i j : Int) : Option D := if powOk i j then some (.int (i ^ j.toNat)) else none
def fShr (i j : Int) : Option D := if 0 ≤ j then some (.int (i / 2 ^ j.toNat)) else none
def fShl (i j : Int) : Option D := if powOk i j then some (.int (i * 2 ^ j.toNat)) else none
theorem op_fdivG : OpR X (binaryOp .FloorDiv) (rI (fun _ j => divOk j = true) fun i j => .int (i.fdiv j)) := opI fun i j _ _ _ _ _ hc q => by
  have hc : (decide (j ≠ 0) && decide (j.natAbs.log2 < 9000)) = true := hc
  rw [Bool.and_eq_true] at hc
  exact floordiv_int (of_decide_eq_true hc.1) q (.inl (PyProof.noPylong_of_log2 (of_decide_eq_true hc.2)))
theorem SE.sub {ma mb : M D} (ha : SD X W G L a ma) (hb : SD X W G L b mb) : SE X W G L (.BinOp a .Sub b pos) (ev2 (i2 fun i j => some (.int (i - j))) ma mb) := SE.bin op_sub (i2_ok0 fun i j _ _ _ => .int _) ha hb
theorem SE.mulI {ma mb : M D} (ha : SD X W G L a ma) (hb : SD X W G L b mb) : SE X W G L (.BinOp a .Mult b pos) (ev2 (i2 fMul) ma mb) := SE.bin op_mulX (i2_ok fun i j d h => by
  unfold fMul at h
  split at h
  · rename_i q
    cases h
    exact ⟨of_decide_eq_true (p := (Builtin.Int.intBits i : Int) + (Builtin.Int.intBits j : Int) ≤ 134217728) q, fun _ _ _ => .int _⟩
  · cases h) ha hb
theorem SE.fdiv {ma mb : M D} (ha : SD X W G L a ma) (hb : SD X W G L b mb) : SE X W G L (.BinOp a .FloorDiv b pos) (ev2 (i2 fDiv) ma mb) := SE.bin op_fdivG (i2_ok fun i j d h => by
  unfold fDiv at h
  split at h
  · rename_i q
    cases h
    exact ⟨q, fun _ _ _ => .int _⟩
  · cases h) ha hb
theorem SE.mod {ma mb : M D} (ha : SD X W G L a ma) (hb : SD X W G L b mb) : SE X W G L (.BinOp a .Mod b pos) (ev2 (i2 fMod) ma mb) := SE.bin op_modN (i2_ok fun i j d h => by
  unfold fMod at h
  split at h
  · cases h
  · rename_i q
    cases h
    exact ⟨q, fun _ _ _ => .int _⟩) ha hb
theorem powOk_c {i j : Int} (h : powOk i j = true) : CPow i j := by
  unfold powOk at h
  rw [Bool.and_eq_true, Bool.and_eq_true] at h
  exact ⟨of_decide_eq_true h.1.1, of_decide_eq_true h.1.2, of_decide_eq_true h.2⟩
theorem SE.pow {ma mb : M D} (ha : SD X W G L a ma) (hb : SD X W G L b mb) : SE X W G L (.BinOp a .Pow b pos) (ev2 (i2 fPow) ma mb) := SE.bin op_pow (i2_ok fun i j d h => by
  unfold fPow at h
  split at h
  · rename_i q
    cases h
    exact ⟨powOk_c q, fun _ _ _ => .int _⟩
  · cases h) ha hb
theorem SE.shl {ma mb : M D} (ha : SD X W G L a ma) (hb : SD X W G L b mb) : SE X W G L (.BinOp a .LShift b pos) (ev2 (i2 fShl) ma mb) := SE.bin op_shl (i2_ok fun i j d h => by
  unfold fShl at h
  split at h
  · rename_i q
    cases h
    exact ⟨powOk_c q, fun _ _ _ => .int _⟩
  · cases h) ha hb
theorem SE.shr {ma mb : M D} (ha : SD X W G L a ma) (hb : SD X W G L b mb) : SE X W G L (.BinOp a .RShift b pos) (ev2 (i2 fShr) ma mb) := SE.bin op_shr (i2_ok fun i j d h => by
  unfold fShr at h
  split at h
  · rename_i q
    cases h
    exact ⟨q, fun _ _ _ => .int _⟩
  · cases h) ha hb
theorem SE.band {ma mb : M D} (ha : SD X W G L a ma) (hb : SD X W G L b mb) : SE X W G L (.BinOp a .BitAnd b pos) (ev2 (i2 fun i j => some (.int (Builtin.bitAnd i j))) ma mb) := SE.bin op_and (i2_ok0 fun i j _ _ _ => .int _) ha hb
def u1 (f : Int → D) : D → Option Vl
  | .int i => some (.fz (f i))
  | _ => none
theorem u1_ok {f : Int → D} {g : Int → V} (h : ∀ i mg F H, Rp mg F H (g i) (f i)) : UnOk X W G L (rU g) (u1 f) := by
  intro c0 c x v Q _ ex s rx hr
  cases x with
  | int i => cases rx; exact ⟨i, rfl, Req.here (r := Vl.fz (f i)) hr s _ (h i _ _ _)⟩
  | _ => exact hr.elim
theorem SE.neg {ma : M D} (ha : SD X W G L a ma) : SE X W G L (.UnaryOp .USub a pos) (ev1 (u1 fun i => .int (-i)) ma) := SE.un un_neg (u1_ok fun i _ _ _ => .int _) ha
def cLt : D → D → Option Vl := i2 fun i j => some (.bl (decide (i < j)))
def cLe : D → D → Option Vl := i2 fun i j => some (.bl (decide (i ≤ j)))
def cGt : D → D → Option Vl := i2 fun i j => some (.bl (decide (j < i)))
def cGe : D → D → Option Vl := i2 fun i j => some (.bl (decide (j ≤ i)))
theorem cLt_ok : BinOk X W G L (rI0 fun i j => .bl (decide (i < j))) cLt := i2_ok0 fun i j _ _ _ => .bl _
theorem cLe_ok : BinOk X W G L (rI0 fun i j => .bl (decide (i ≤ j))) cLe := i2_ok0 fun i j _ _ _ => .bl _
theorem cGt_ok : BinOk X W G L (rI0 fun i j => .bl (decide (j < i))) cGt := i2_ok0 fun i j _ _ _ => .bl _
theorem cGe_ok : BinOk X W G L (rI0 fun i j => .bl (decide (j ≤ i))) cGe := i2_ok0 fun i j _ _ _ => .bl _
/-! ### displays -/
theorem SA.nil : SA X W G L [] (mpure []) := ⟨tNil, pa_nil, fun c Q s r => r _ _ Ext.refl s _ .nil⟩
def evCons (ma : M D) (mr : M (List D)) : M (List D) := ma.bind fun x => mr.bind fun xs => mpure (x :: xs)
theorem SA.cons {es : List Expr} {ma : M D} {mr : M (List D)} (ha : SD X W G L e ma) (hr : SA X W G L es mr) (hs : starEach (e :: es) X.env = (false, eval e X.env) :: starEach es X.env := by rfl) : SA X W G L (e :: es) (evCons ma mr) := by
  obtain ⟨ta, pa, qa⟩ := ha.ex
  obtain ⟨tb, pb, qb⟩ := hr.ex
  refine ⟨tCons ta tb, pa_cons pa pb hs, fun c Q s h => ?_⟩
  refine qa c _ s ((Req.bind h).imp fun x c1 _ e1 x1 s1 h1 v rv => ?_)
  show tb c.σ c1.H _
  rw [← e1]
  refine qb c1 _ s1 ((Req.bind h1).imp fun y c2 _ e2 x2 s2 h2 u ru => ?_)
  exact Req.here (r := x :: y) h2 s2 _ (.cons (x2.rp s1 rv) ru)
def lenOk (n : Nat) : Bool := decide (n ≤ 16777216)
theorem lenOk_line {n : Nat} (h : lenOk n = true) : n ≤ sizeLine := by
  rw [sizeLine_eq]
  exact of_decide_eq_true h
def mkTup (l : List D) : Option Vl := if lenOk l.length then some (.fz (.tup l)) else none
def mkLst (l : List D) : Option Vl := if lenOk l.length then some (.nw (.lst l)) else none
/-- a new tuple -/
theorem newTup {p : Addr} {vs : List V} {ds : List D} {Q : VK} (x0 : Ex G c0 c) (s : Ok G L c) (r : RpL G.N c.F c.H vs ds) (n : c.H p = none) (h : Req G L W c (.ok (.fz (.tup ds)) c.ρ) (fun r c' => ∀ v, VR G c0 c' v r → Q v c'.H)) : Q (.ref p) (upd c.H p (.tup vs)) := by
  have y : Ex G c ⟨c.σ, c.ρ, plus c.F p, upd c.H p (.tup vs)⟩ := Ext.grow s n (fun _ z => .inl z) fun _ z => z
  refine h (plus c.F p) (upd c.H p (.tup vs)) y (StR.grow s n (fun _ z => .inl z) fun _ z => z) _ ?_
  exact .tup (.inr rfl) upd_same (y.rpl s r)
theorem newLst {p : Addr} {vs : List V} {ds : List D} {Q : VK} (x0 : Ex G c0 c) (s : Ok G L c) (r : RpL G.N c.F c.H vs ds) (n : c.H p = none) (h : Req G L W c (.ok (.nw (.lst ds)) c.ρ) (fun r c' => ∀ v, VR G c0 c' v r → Q v c'.H)) : Q (.ref p) (upd c.H p (.lst vs)) := by
  have y : Ex G c ⟨c.σ, c.ρ, c.F, upd c.H p (.lst vs)⟩ := Ext.grow s n (fun _ z => z) fun _ z => .inl z
  have no : ∀ {u : Sl} {i : Nat}, True := trivial
  refine h c.F (upd c.H p (.lst vs)) y (StR.grow s n (fun _ z => z) fun _ z => .inl z) _ ⟨p, rfl, ⟨fun f => ?_, vs, upd_same, y.rpl s r⟩, fun o => ?_, Ex.pre x0 (.inl n)⟩
  · obtain ⟨⟨u, e⟩, _⟩ := s.trk p f
    rw [n] at e; cases e
  · obtain ⟨u, e⟩ := s.ownAt o
    rw [n] at e; cases e
theorem SE.tup {es : List Expr} {x1} {m : M (List D)} (h : SA X W G L es m) : SE X W G L (.Tuple es x1 pos) (m.bind fun l => liftO (mkTup l)) := by
  obtain ⟨t, p, q⟩ := h.ex
  refine ⟨tTup t, pe_tup p, fun c Q s h => ?_⟩
  refine q c _ s ((Req.bind h).imp fun l c1 _ e1 x1 s1 h1 vs rv => ?_)
  have h1 : Req G L W c1 (liftO (if lenOk l.length then some (Vl.fz (.tup l)) else none) c1.ρ) _ := h1
  by_cases hl : lenOk l.length = true
  · rw [if_pos hl] at h1
    exact ⟨by rw [rv.length]; exact lenOk_line hl, fun p n => newTup x1 s1 rv n h1⟩
  · rw [if_neg hl] at h1
    exact h1.elim
theorem SE.lst {es : List Expr} {m : M (List D)} (h : SA X W G L es m) : SE X W G L (.List es pos) (m.bind fun l => liftO (mkLst l)) := by
  obtain ⟨t, p, q⟩ := h.ex
  refine ⟨tLst t, pe_lst p, fun c Q s h => ?_⟩
  refine q c _ s ((Req.bind h).imp fun l c1 _ e1 x1 s1 h1 vs rv => ?_)
  have h1 : Req G L W c1 (liftO (if lenOk l.length then some (Vl.nw (.lst l)) else none) c1.ρ) _ := h1
  by_cases hl : lenOk l.length = true
  · rw [if_pos hl] at h1
    exact ⟨by rw [rv.length]; exact lenOk_line hl, fun p n => newLst x1 s1 rv n h1⟩
  · rw [if_neg hl] at h1
    exact h1.elim
end
end Ev

/-! EvC: tests, and, or, if else, subscripts, equality, built-ins. -/
namespace Ev
open PySem PySem.Spec PyProof.Rows L2
section
variable {X : Cx} {W : WX} {G : Gc} {L : Lt} {e a b : Expr} {pos : Pos} {c c0 c1 : Cf} {rest : List Expr}

/-! ### tests -/
theorem ST.val {m : M D} (h : SD X W G L e m) (he : ∀ whole, isTrue e X.env whole = (do let v ← whole; standAt e.pos; holding [v] (truthy v)) := by intro _; rfl) :
    ST X W G L e (m.bind fun d => match d with | .bl k => mpure k | _ => fun _ => .no) := by
  obtain ⟨t, p, q⟩ := h.ex
  refine ⟨tB t, pt_val p he, fun c Q s h => ?_⟩
  refine q c _ s ((Req.bind h).imp fun d c1 _ e1 x1 s1 h1 v rv => ?_)
  cases d with
  | bl k => cases rv; exact ⟨k, rfl, Req.here h1 s1⟩
  | _ => exact h1.elim
def truth : D → Option Bool
  | .non => some false
  | .bl b => some b
  | .int i => some (i != 0)
  | .str y => if lenOk y.length then some ((y.length : Int) != 0) else none
  | .lst l => some (!l.isEmpty)
  | .tup l => some (!l.isEmpty)
  | .dic l => some (!l.isEmpty)
  | _ => none
theorem truth_ok {d : D} {v : V} {k : Bool} {F : Fz} {H : Hp} (r : Rp G.N F H v d) (h : truth d = some k) : TruV X.K v H k := by
  cases r with
  | non => cases h; rfl
  | bl b => cases h; rfl
  | int i => cases h; rfl
  | str y =>
    have h : (if lenOk y.length then some ((y.length : Int) != 0) else none) = some k := h
    split at h
    · rename_i z
      cases h
      exact ⟨lenOk_line z, rfl⟩
    · cases h
  | lst f r l =>
    cases h
    refine .inl ⟨_, .inl (.inl r), ?_⟩
    cases l <;> rfl
  | tup f r l =>
    cases h
    refine .inr (.inl ⟨_, .inl (.inl r), ?_⟩)
    cases l <;> rfl
  | dic f r l =>
    cases h
    refine .inr (.inr ⟨_, r, ?_⟩)
    cases l <;> rfl
  | _ => cases h
/-- any value as a test, by its truth -/
theorem ST.truth {m : M D} (h : SD X W G L e m) (he : ∀ whole, isTrue e X.env whole = (do let v ← whole; standAt e.pos; holding [v] (truthy v)) := by intro _; rfl) :
    ST X W G L e (m.bind fun d => liftO (truth d)) := by
  obtain ⟨t, p, q⟩ := h.ex
  refine ⟨_, pt_truth p he, fun c Q s h => ?_⟩
  refine q c _ s ((Req.bind h).imp fun d c1 _ e1 x1 s1 h1 v rv => ?_)
  cases ed : Ev.truth d with
  | none => unfold liftO at h1; rw [ed] at h1; exact h1.elim
  | some k =>
    unfold liftO at h1
    rw [ed] at h1
    exact ⟨k, truth_ok rv ed, Req.here h1 s1⟩
theorem ST.not {m : M Bool} (h : ST X W G L a m) : ST X W G L (.UnaryOp .Not a pos) (m.bind fun k => mpure (!k)) := by
  obtain ⟨t, p, q⟩ := h.ex
  refine ⟨_, pt_not p, fun c Q s h => ?_⟩
  exact q c _ s ((Req.bind h).imp fun d c1 _ e1 x1 s1 h1 => Req.here h1 s1)
theorem SW.t {m : M Bool} (h : SW X W G L e m) : ST X W G L e m := by
  obtain ⟨t, p, q⟩ := h.ex
  exact ⟨t, p.pt, q⟩
theorem SW.and1 {m : M Bool} (h : ST X W G L a m) : SW X W G L (.BoolOp .And [a] pos) m := by
  obtain ⟨t, p, q⟩ := h.ex
  exact ⟨t, pw_and1 p, q⟩
theorem SW.or1 {m : M Bool} (h : ST X W G L a m) : SW X W G L (.BoolOp .Or [a] pos) m := by
  obtain ⟨t, p, q⟩ := h.ex
  exact ⟨t, pw_or1 p, q⟩
def tAnd' (m n : M Bool) : M Bool := m.bind fun k => if k = true then n else mpure false
def tOr' (m n : M Bool) : M Bool := m.bind fun k => if k = true then mpure true else n
theorem SW.and {m n : M Bool} (h : ST X W G L a m) (hr : SW X W G L (.BoolOp .And (b :: rest) pos) n) : SW X W G L (.BoolOp .And (a :: b :: rest) pos) (tAnd' m n) := by
  obtain ⟨t, p, q⟩ := h.ex
  obtain ⟨t', p', q'⟩ := hr.ex
  refine ⟨_, pw_and p p', fun c Q s h => ?_⟩
  refine q c _ s ((Req.bind h).imp fun k c1 _ e1 x1 s1 h1 => ?_)
  cases k with
  | true =>
    rw [if_pos rfl]
    rw [if_pos rfl] at h1
    show t' c.σ c1.H Q
    rw [← e1]
    exact q' c1 Q s1 h1
  | false =>
    rw [if_neg Bool.false_ne_true]
    rw [if_neg Bool.false_ne_true] at h1
    exact Req.here h1 s1
theorem SW.or {m n : M Bool} (h : ST X W G L a m) (hr : SW X W G L (.BoolOp .Or (b :: rest) pos) n) : SW X W G L (.BoolOp .Or (a :: b :: rest) pos) (tOr' m n) := by
  obtain ⟨t, p, q⟩ := h.ex
  obtain ⟨t', p', q'⟩ := hr.ex
  refine ⟨_, pw_or p p', fun c Q s h => ?_⟩
  refine q c _ s ((Req.bind h).imp fun k c1 _ e1 x1 s1 h1 => ?_)
  cases k with
  | false =>
    rw [if_neg Bool.false_ne_true]
    rw [if_neg Bool.false_ne_true] at h1
    show t' c.σ c1.H Q
    rw [← e1]
    exact q' c1 Q s1 h1
  | true =>
    rw [if_pos rfl]
    rw [if_pos rfl] at h1
    exact Req.here h1 s1
/-! ### and, or, not as values (all but the last True or False) -/
def evAnd (m n : M D) : M D := m.bind fun d => match d with
  | .bl true => n
  | .bl false => mpure (.bl false)
  | _ => fun _ => .no
def evOr (m n : M D) : M D := m.bind fun d => match d with
  | .bl true => mpure (.bl true)
  | .bl false => n
  | _ => fun _ => .no
def evNot (m : M D) : M D := m.bind fun d => match d with
  | .bl k => mpure (.bl (!k))
  | _ => fun _ => .no
theorem SD.one {op} {m : M D} (h : SD X W G L a m) : SD X W G L (.BoolOp op [a] pos) m := by
  obtain ⟨t, p, q⟩ := h.ex
  exact ⟨t, pe_one p, q⟩
theorem SD.and {m n : M D} (h : SD X W G L a m) (hr : SD X W G L (.BoolOp .And (b :: rest) pos) n) : SD X W G L (.BoolOp .And (a :: b :: rest) pos) (evAnd m n) := by
  obtain ⟨t, p, q⟩ := h.ex
  obtain ⟨t', p', q'⟩ := hr.ex
  refine ⟨_, pe_and p p', fun c Q s h => ?_⟩
  refine q c _ s ((Req.bind h).imp fun d c1 _ e1 x1 s1 h1 v rv => ?_)
  cases d with
  | bl k =>
    cases rv
    refine ⟨k, rfl, ?_⟩
    cases k with
    | true => rw [if_pos rfl, ← e1]; exact q' c1 Q s1 h1
    | false => rw [if_neg Bool.false_ne_true]; exact Req.here h1 s1 _ (.bl _)
  | _ => exact h1.elim
theorem SD.or {m n : M D} (h : SD X W G L a m) (hr : SD X W G L (.BoolOp .Or (b :: rest) pos) n) : SD X W G L (.BoolOp .Or (a :: b :: rest) pos) (evOr m n) := by
  obtain ⟨t, p, q⟩ := h.ex
  obtain ⟨t', p', q'⟩ := hr.ex
  refine ⟨_, pe_or p p', fun c Q s h => ?_⟩
  refine q c _ s ((Req.bind h).imp fun d c1 _ e1 x1 s1 h1 v rv => ?_)
  cases d with
  | bl k =>
    cases rv
    refine ⟨k, rfl, ?_⟩
    cases k with
    | false => rw [if_neg Bool.false_ne_true, ← e1]; exact q' c1 Q s1 h1
    | true => rw [if_pos rfl]; exact Req.here h1 s1 _ (.bl _)
  | _ => exact h1.elim
theorem SD.not {m : M D} (h : SD X W G L a m) : SD X W G L (.UnaryOp .Not a pos) (evNot m) := by
  obtain ⟨t, p, q⟩ := h.ex
  refine ⟨_, pe_not p, fun c Q s h => ?_⟩
  refine q c _ s ((Req.bind h).imp fun d c1 _ e1 x1 s1 h1 v rv => ?_)
  cases d with
  | bl k => cases rv; exact ⟨k, rfl, Req.here h1 s1 _ (.bl _)⟩
  | _ => exact h1.elim
def evIf {α : Type} (mc : M Bool) (ma mb : M α) : M α := mc.bind fun k => if k = true then ma else mb
theorem SE.ite {cnd : Expr} {mc : M Bool} {ma mb : M Vl} (hc : ST X W G L cnd mc) (ha : SE X W G L a ma) (hb : SE X W G L b mb) : SE X W G L (.IfExp cnd a b pos) (evIf mc ma mb) := by
  obtain ⟨t, p, q⟩ := hc.ex
  obtain ⟨ta, pa, qa⟩ := ha.ex
  obtain ⟨tb, pb, qb⟩ := hb.ex
  refine ⟨_, pe_ifExp p pa pb, fun c Q s h => ?_⟩
  refine q c _ s ((Req.bind h).imp fun k c1 _ e1 x1 s1 h1 => ?_)
  have up : ∀ {o : Out Vl}, Req G L W c1 o (fun r c' => ∀ v, VR G c c' v r → Q v c'.H) → Req G L W c1 o (fun r c' => ∀ v, VR G c1 c' v r → Q v c'.H) := fun {o} hq => hq.imp fun r c2 _ _ x2 s2 h2 v rv => h2 v (by
    cases r with
    | fz d => exact rv
    | nw d =>
      obtain ⟨p, z1, z2, z3, z4⟩ := rv
      exact ⟨p, z1, z2, z3, Ex.pre x1 z4⟩)
  cases k with
  | true =>
    rw [if_pos rfl] at h1 ⊢
    rw [← e1]
    exact qa c1 Q s1 (up h1)
  | false =>
    rw [if_neg Bool.false_ne_true] at h1 ⊢
    rw [← e1]
    exact qb c1 Q s1 (up h1)

/-! ### items -/
theorem atI_rel {F : Fz} {H : Hp} {vs : List V} {ds : List D} {i : Int} {d : D} (r : RpL G.N F H vs ds) (h : atI ds i = some d) : ∃ v, atI vs i = some v ∧ Rp G.N F H v d := by
  unfold atI at *
  rw [r.length]
  cases e : ixN ds.length i with
  | none => rw [e] at h; cases h
  | some j => rw [e] at h; exact r.get h
def item : D → D → Option Vl
  | .lst l, .int i => (atI l i).map .fz
  | .tup l, .int i => (atI l i).map .fz
  | .str z, .int i => if lenOk z.length then (atI z.cps.toList i).map fun c => .fz (.str ⟨#[c]⟩) else none
  | _, _ => none
theorem liftO_req {α : Type} {o : Option α} {ρ : Rho} {P : α → Cf → Prop} (h : Req G L W c (liftO o ρ) P) : ∃ r, o = some r ∧ Req G L W c (.ok r ρ) P := by
  cases o with
  | none => exact h.elim
  | some r => exact ⟨r, rfl, h⟩
theorem item_ok : BinOk X W G L (rIx X.K) item := by
  intro c0 c x y v u Q _ ex s rx ry hr
  obtain ⟨r, er, hr⟩ := liftO_req hr
  cases x with
  | lst l =>
    cases y with
    | int i =>
      cases ry
      cases rx with
      | lst f r ll =>
        obtain ⟨d, e, rfl⟩ := Option.map_eq_some_iff.mp (show (atI l i).map Vl.fz = some _ from er)
        obtain ⟨w, e1, e2⟩ := atI_rel ll e
        exact .inl ⟨_, _, i, w, rfl, rfl, .inl (.inl r), e1, Req.here hr s _ e2⟩
    | _ => cases er
  | tup l =>
    cases y with
    | int i =>
      cases ry
      cases rx with
      | tup f r ll =>
        obtain ⟨d, e, rfl⟩ := Option.map_eq_some_iff.mp (show (atI l i).map Vl.fz = some _ from er)
        obtain ⟨w, e1, e2⟩ := atI_rel ll e
        exact .inr (.inl ⟨_, _, i, w, rfl, rfl, .inl (.inl r), e1, Req.here hr s _ e2⟩)
    | _ => cases er
  | str z =>
    cases y with
    | int i =>
      cases ry
      cases rx
      have er : (if lenOk z.length then (atI z.cps.toList i).map fun c => Vl.fz (.str ⟨#[c]⟩) else none) = some r := er
      split at er
      · rename_i hz
        obtain ⟨d, e, rfl⟩ := Option.map_eq_some_iff.mp er
        exact .inr (.inr ⟨z, i, d, rfl, rfl, lenOk_line hz, e, Req.here hr s _ (.str _)⟩)
      · cases er
    | _ => cases er
  | _ => cases er
theorem SE.ix {ma mb : M D} (ha : SD X W G L a ma) (hb : SD X W G L b mb) (hs : PlainIx b := by intro _ _; rfl) : SE X W G L (.Subscript a b pos) (ev2 item ma mb) :=
  SE.two item_ok ha hb fun pa pb => pe_ix ix_seq pa pb hs
/-- what slot i holds, read in passing -/
def slotD (ρ : Rho) (i : Nat) : Option D := match ρ[i]? with
  | some (.fz d) => some d
  | some (.ow d) => some d
  | some (.ln d) => some d
  | some (.lf d) => some d
  | _ => none
/-- reading without freezing: the value of a slot for an operator that only looks -/
theorem look {i : Nat} {d : D} {x : Str} (s : Ok G L c) (h : slotD c.ρ i = some d) : ∃ v, c.σ[i]? = some (some v) ∧
    ((Rp G.N c.F c.H v d) ∨ ∃ a : Addr, v = .ref a ∧ Ow G.N c.F c.H a d) := by
  unfold slotD at h
  split at h
  · rename_i d' e; cases h
    obtain ⟨v, h1, h2⟩ := s.sl i _ e
    exact ⟨v, h1, .inl h2⟩
  · rename_i d' e; cases h
    obtain ⟨a, h1, h2⟩ := s.sl i _ e
    exact ⟨.ref a, h1, .inr ⟨a, rfl, h2⟩⟩
  · rename_i d' e; cases h
    obtain ⟨a, h1, h2⟩ := s.sl i _ e
    exact ⟨.ref a, h1, .inr ⟨a, rfl, h2⟩⟩
  · rename_i d' e; cases h
    obtain ⟨v, h1, h2⟩ := s.sl i _ e
    exact ⟨v, h1, .inl h2⟩
  · cases h
def evLook {α : Type} (i : Nat) (m : M α) : M α := fun ρ => match slotD ρ i with
  | some _ => m ρ
  | none => .no
def evIxS (i : Nat) (mb : M D) : M Vl := evLook i (mb.bind fun y ρ => match slotD ρ i with
  | some d => liftO (item d y) ρ
  | none => .no)
theorem SE.ixS (i : Nat) {x : Str} {p : Pos} {mb : M D} (hN : X.N[i]? = some x) (hv : Vis X.env.scope x) (hb : SD X W G L b mb) (hs : PlainIx b := by intro _ _; rfl) (hd : (x == ("__debug__" : Str)) = false := by decide) (hcd : (x == ("__classdict__" : Str)) = false := by decide) :
    SE X W G L (.Subscript (.Name x p) b pos) (evIxS i mb) := by
  obtain ⟨tb, pb, qb⟩ := hb.ex
  refine ⟨_, pe_ix ix_seq (pe_var hN hv hd hcd) pb hs, fun c Q s h => ?_⟩
  unfold evIxS evLook at h
  cases es : slotD c.ρ i with
  | none => rw [es] at h; exact h.elim
  | some d0 =>
    rw [es] at h
    obtain ⟨v, h1, _⟩ := look (x := x) s es
    refine ⟨v, h1, ?_⟩
    refine qb c _ s ((Req.bind h).imp fun y c1 _ e1 x1 s1 h2 u ru => ?_)
    cases es1 : slotD c1.ρ i with
    | none => simp only [es1] at h2; exact h2.elim
    | some d =>
      simp only [es1] at h2
      obtain ⟨v', h3, h4⟩ := look (x := x) s1 es1
      rw [e1, h1] at h3
      cases h3
      rcases h4 with h4 | ⟨a, rfl, h4⟩
      · exact item_ok c c1 d y v u Q e1 x1 s1 h4 ru h2
      · obtain ⟨r, er, hr⟩ := liftO_req h2
        cases d with
        | lst l =>
          cases y with
          | int i =>
            cases ru
            obtain ⟨_, xs, q, ll⟩ := h4
            obtain ⟨d, e, rfl⟩ := Option.map_eq_some_iff.mp (show (atI l i).map Vl.fz = some _ from er)
            obtain ⟨w, e1, e2⟩ := atI_rel ll e
            exact .inl ⟨_, _, i, w, rfl, rfl, .inl (.inl q), e1, Req.here hr s1 _ e2⟩
          | _ => cases er
        | _ => first | exact h4.elim | cases er

/-! ### equality of data, None, truths -/
mutual
def isP : D → Bool
  | .non => true
  | .bl _ => true
  | .int _ => true
  | .str _ => true
  | .lst l => isPs l
  | .tup l => isPs l
  | _ => false
def isPs : List D → Bool
  | [] => true
  | d :: l => isP d && isPs l
end
mutual
def toP : D → PyData
  | .bl b => .bool b
  | .int i => .int i
  | .str x => .str x
  | .lst l => .list (toPs l)
  | .tup l => .tuple (toPs l)
  | .dic l => .dict (toPk l)
  | _ => .none
def toPs : List D → List PyData
  | [] => []
  | d :: l => toP d :: toPs l
def toPk : List (Key × D) → List (PyData × PyData)
  | [] => []
  | (k, d) :: l => ((match k with | .inl i => .int i | .inr x => .str x), toP d) :: toPk l
end
mutual
theorem toDp {F : Fz} {H : Hp} : ∀ {d : D} {v : V}, Rp G.N F H v d → isP d = true → Dp X.K H v (toP d)
  | .non, _, r, _ => by cases r; exact .non
  | .bl _, _, r, _ => by cases r; exact .bl _
  | .int _, _, r, _ => by cases r; exact .int _
  | .str _, _, r, _ => by cases r; exact .str _
  | .lst l, _, r, h => by
    cases r with
    | lst f r ll => exact .lst (.inl (.inl r)) (toDps ll h)
  | .tup l, _, r, h => by
    cases r with
    | tup f r ll => exact .tup (.inl (.inl r)) (toDps ll h)
  | .dic _, _, _, h => nomatch h
  | .gl _, _, _, h => nomatch h
  | .scr _, _, _, h => nomatch h
  | .ty _, _, _, h => nomatch h
  | .obj _ _, _, _, h => nomatch h
  | .exc _ _, _, _, h => nomatch h
theorem toDps {F : Fz} {H : Hp} : ∀ {ds : List D} {vs : List V}, RpL G.N F H vs ds → isPs ds = true → DpAll X.K H vs (toPs ds)
  | [], _, r, _ => by cases r; exact .nil
  | d :: l, _, r, h => by
    have h : (isP d && isPs l) = true := h
    rw [Bool.and_eq_true] at h
    cases r with
    | cons r1 r2 => exact .cons (toDp r1 h.1) (toDps r2 h.2)
end
def shP (d : D) : Bool := isP d && SeqAt.shaped (toP d)
def cEq (x y : D) : Option Vl := if shP x && shP y then some (.fz (.bl (PyData.eqv (toP x) (toP y)))) else none
def cNe (x y : D) : Option Vl := if shP x && shP y then some (.fz (.bl (!PyData.eqv (toP x) (toP y)))) else none
theorem cEq_ok : BinOk X W G L (rEqD X.K) cEq := by
  intro c0 c x y v u Q _ ex s rx ry hr
  obtain ⟨r, er, hr⟩ := liftO_req hr
  unfold cEq at er
  split at er
  · rename_i h
    cases er
    rw [Bool.and_eq_true] at h
    have h1 := Bool.and_eq_true_iff.mp h.1
    have h2 := Bool.and_eq_true_iff.mp h.2
    exact ⟨_, _, toDp rx h1.1, toDp ry h2.1, h1.2, h2.2, Req.here hr s _ (.bl _)⟩
  · cases er
theorem cNe_ok : BinOk X W G L (rNeD X.K) cNe := by
  intro c0 c x y v u Q _ ex s rx ry hr
  obtain ⟨r, er, hr⟩ := liftO_req hr
  unfold cNe at er
  split at er
  · rename_i h
    cases er
    rw [Bool.and_eq_true] at h
    have h1 := Bool.and_eq_true_iff.mp h.1
    have h2 := Bool.and_eq_true_iff.mp h.2
    exact ⟨_, _, toDp rx h1.1, toDp ry h2.1, h1.2, h2.2, Req.here hr s _ (.bl _)⟩
  · cases er
def isNon : D → Bool
  | .non => true
  | _ => false
theorem isNon_ok {F : Fz} {H : Hp} {v : V} {d : D} (r : Rp G.N F H v d) : decide (v = .non) = isNon d := by
  cases r <;> rfl
def cIsN (x y : D) : Option Vl := if isNon y then some (.fz (.bl (isNon x))) else none
def cNotN (x y : D) : Option Vl := if isNon y then some (.fz (.bl (!isNon x))) else none
theorem cIsN_ok : BinOk X W G L (fun x y H Q => y = .non ∧ Q (.bl (decide (x = .non))) H) cIsN := by
  intro c0 c x y v u Q _ ex s rx ry hr
  obtain ⟨r, er, hr⟩ := liftO_req hr
  unfold cIsN at er
  split at er
  · rename_i h
    cases er
    rw [isNon_ok rx]
    refine ⟨?_, Req.here hr s _ (.bl _)⟩
    cases ry <;> first | rfl | cases h
  · cases er
theorem cNotN_ok : BinOk X W G L (fun x y H Q => y = .non ∧ Q (.bl (!decide (x = .non))) H) cNotN := by
  intro c0 c x y v u Q _ ex s rx ry hr
  obtain ⟨r, er, hr⟩ := liftO_req hr
  unfold cNotN at er
  split at er
  · rename_i h
    cases er
    rw [isNon_ok rx]
    refine ⟨?_, Req.here hr s _ (.bl _)⟩
    cases ry <;> first | rfl | cases h
  · cases er

/-! ### built-ins by their names -/
def CallOk (X : Cx) (W : WX) (G : Gc) (L : Lt) (r : List V → Hp → VK → Prop) (f : List D → Option Vl) : Prop := ∀ (c0 c : Cf) (ds : List D) (vs : List V) (Q : VK), c.σ = c0.σ → Ex G c0 c → Ok G L c → RpL G.N c.F c.H vs ds →
  Req G L W c (liftO (f ds) c.ρ) (fun r c' => ∀ v, VR G c0 c' v r → Q v c'.H) → r vs c.H Q
def evC (f : List D → Option Vl) (m : M (List D)) : M Vl := m.bind fun l => liftO (f l)
theorem SE.callB {x : Str} {p : Pos} {id : String} {r : List V → Hp → VK → Prop} {f : List D → Option Vl} {es : List Expr} {m : M (List D)} (hc : CallR X (.builtin id) r) (hf : CallOk X W G L r f) (hg : Gl X x) (hm : X.mg x = none) (hv : bootBuiltins x = some (.builtin id)) (ha : SA X W G L (e :: es) m)
    (hn : x ≠ "__name__" := by decide) (hdb : (x == ("__debug__" : Str)) = false := by decide) (he : starEach (e :: es) X.env = (false, eval e X.env) :: starEach es X.env := by rfl) (hpl : (backTo pos (starEach es X.env)).any (·.1) = false := by rfl) : SE X W G L (.Call (.Name x p) (e :: es) [] pos) (evC f m) := by
  obtain ⟨t, pa, q⟩ := ha.ex
  refine ⟨_, pe_callB hc hg hm hv pa hn hdb he hpl, fun c Q s h => ?_⟩
  exact q c _ s ((Req.bind h).imp fun l c1 _ e1 x1 s1 h1 vs rv => hf c c1 l vs Q e1 x1 s1 rv h1)
theorem SE.callT {x : Str} {p : Pos} {T : String} {r : List V → Hp → VK → Prop} {f : List D → Option Vl} {es : List Expr} {m : M (List D)} (hc : CallR X (.type T) r) (hf : CallOk X W G L r f) (hg : Gl X x) (hm : X.mg x = none) (hv : bootBuiltins x = some (.type T)) (ha : SA X W G L (e :: es) m)
    (hn : x ≠ "__name__" := by decide) (hdb : (x == ("__debug__" : Str)) = false := by decide) (he : starEach (e :: es) X.env = (false, eval e X.env) :: starEach es X.env := by rfl) (hpl : (backTo pos (starEach es X.env)).any (·.1) = false := by rfl) : SE X W G L (.Call (.Name x p) (e :: es) [] pos) (evC f m) := by
  obtain ⟨t, pa, q⟩ := ha.ex
  refine ⟨_, pe_callTy hc hg hm hv pa hn hdb he hpl, fun c Q s h => ?_⟩
  exact q c _ s ((Req.bind h).imp fun l c1 _ e1 x1 s1 h1 vs rv => hf c c1 l vs Q e1 x1 s1 rv h1)
def bAbs : List D → Option Vl
  | [.int i] => some (.fz (.int (if i < 0 then -i else i)))
  | _ => none
theorem bAbs_ok : CallOk X W G L (fun xs H Q => ∃ i, xs = [.int i] ∧ Q (.int (if i < 0 then -i else i)) H) bAbs := by
  intro c0 c ds vs Q _ ex s r hr
  obtain ⟨w, er, hr⟩ := liftO_req hr
  unfold bAbs at er
  split at er
  · cases er
    cases r with
    | cons r1 r2 =>
      cases r2
      cases r1
      exact ⟨_, rfl, Req.here hr s _ (.int _)⟩
  · cases er
def bInt : List D → Option Vl
  | [.int i] => some (.fz (.int i))
  | [.bl k] => some (.fz (.int (if k then 1 else 0)))
  | _ => none
theorem bInt_ok : CallOk X W G L (fun xs H Q => (∃ i, xs = [.int i] ∧ Q (.int i) H) ∨ ∃ k, xs = [.bl k] ∧ Q (.int (if k then 1 else 0)) H) bInt := by
  intro c0 c ds vs Q _ ex s r hr
  obtain ⟨w, er, hr⟩ := liftO_req hr
  unfold bInt at er
  split at er
  · cases er
    cases r with
    | cons r1 r2 =>
      cases r2
      cases r1
      exact .inl ⟨_, rfl, Req.here hr s _ (.int _)⟩
  · cases er
    cases r with
    | cons r1 r2 =>
      cases r2
      cases r1
      exact .inr ⟨_, rfl, Req.here hr s _ (.int _)⟩
  · cases er
def dLen : D → Option Nat
  | .lst l => some l.length
  | .tup l => some l.length
  | .str y => if lenOk y.length then some y.length else none
  | _ => none
def bLen : List D → Option Vl
  | [d] => (dLen d).map fun n => .fz (.int (n : Nat))
  | _ => none
theorem dLen_ok {F : Fz} {H : Hp} {v : V} {d : D} {n : Nat} (r : Rp G.N F H v d) (h : dLen d = some n) : LenV X.K v H n := by
  cases r with
  | lst f r l => cases h; exact .inl ⟨_, .inl (.inl r), l.length.symm⟩
  | tup f r l => cases h; exact .inr ⟨_, .inl (.inl r), l.length.symm⟩
  | str y =>
    have h : (if lenOk y.length then some y.length else none) = some n := h
    split at h
    · rename_i z
      cases h
      exact ⟨lenOk_line z, rfl⟩
    · cases h
  | _ => cases h
theorem bLen_ok : CallOk X W G L (fun xs H Q => ∃ (x : V) (n : Nat), xs = [x] ∧ LenV X.K x H n ∧ Q (.int n) H) bLen := by
  intro c0 c ds vs Q _ ex s r hr
  obtain ⟨w, er, hr⟩ := liftO_req hr
  unfold bLen at er
  split at er
  · obtain ⟨n, e, rfl⟩ := Option.map_eq_some_iff.mp er
    cases r with
    | cons r1 r2 =>
      cases r2
      exact ⟨_, n, rfl, dLen_ok r1 e, Req.here hr s _ (.int _)⟩
  · cases er
def bTuple : List D → Option Vl
  | [.lst l] => some (.fz (.tup l))
  | [.tup l] => some (.fz (.tup l))
  | _ => none
theorem bTuple_ok : CallOk X W G L (fun xs H Q => ∃ p ys, xs = [.ref p] ∧ ((SqL X.K H p ys ∧ ∀ l, H l = none → Q (.ref l) (upd H l (.tup ys))) ∨ (SqT X.K H p ys ∧ Q (.ref p) H))) bTuple := by
  intro c0 c ds vs Q _ ex s r hr
  obtain ⟨w, er, hr⟩ := liftO_req hr
  unfold bTuple at er
  split at er
  · cases er
    cases r with
    | cons r1 r2 =>
      cases r2
      cases r1 with
      | lst f r l => exact ⟨_, _, rfl, .inl ⟨.inl (.inl r), fun p n => newTup ex s l n hr⟩⟩
  · cases er
    cases r with
    | cons r1 r2 =>
      cases r2
      cases r1 with
      | tup f r l => exact ⟨_, _, rfl, .inr ⟨.inl (.inl r), Req.here hr s _ (.tup f r l)⟩⟩
  · cases er
def bList : List D → Option Vl
  | [.lst l] => some (.nw (.lst l))
  | [.tup l] => some (.nw (.lst l))
  | _ => none
theorem bList_ok : CallOk X W G L (fun xs H Q => ∃ p ys, xs = [.ref p] ∧ (SqL X.K H p ys ∨ SqT X.K H p ys) ∧ ∀ l, H l = none → Q (.ref l) (upd H l (.lst ys))) bList := by
  intro c0 c ds vs Q _ ex s r hr
  obtain ⟨w, er, hr⟩ := liftO_req hr
  unfold bList at er
  split at er
  · cases er
    cases r with
    | cons r1 r2 =>
      cases r2
      cases r1 with
      | lst f r l => exact ⟨_, _, rfl, .inl (.inl (.inl r)), fun p n => newLst ex s l n hr⟩
  · cases er
    cases r with
    | cons r1 r2 =>
      cases r2
      cases r1 with
      | tup f r l => exact ⟨_, _, rfl, .inr (.inl (.inl r)), fun p n => newLst ex s l n hr⟩
  · cases er
def allBl : List D → Option (List Bool)
  | [] => some []
  | .bl b :: l => (allBl l).map (b :: ·)
  | _ => none
theorem allBl_ok {F : Fz} {H : Hp} : ∀ {ds : List D} {vs : List V} {bs : List Bool}, RpL G.N F H vs ds → allBl ds = some bs → vs = bs.map V.bl
  | [], _, _, r, h => by cases r; cases h; rfl
  | d :: l, _, bs, r, h => by
    cases r with
    | cons r1 r2 =>
      cases d with
      | bl b =>
        obtain ⟨cs, e, rfl⟩ := Option.map_eq_some_iff.mp (show (allBl l).map (b :: ·) = some bs from h)
        cases r1
        rw [allBl_ok r2 e]
        rfl
      | _ => cases h
def bAll : List D → Option Vl
  | [.lst l] => (allBl l).map fun bs => .fz (.bl (bs.all id))
  | _ => none
theorem bAll_ok : CallOk X W G L (rAll X.K) bAll := by
  intro c0 c ds vs Q _ ex s r hr
  obtain ⟨w, er, hr⟩ := liftO_req hr
  unfold bAll at er
  split at er
  · obtain ⟨bs, e, rfl⟩ := Option.map_eq_some_iff.mp er
    cases r with
    | cons r1 r2 =>
      cases r2
      cases r1 with
      | lst f r l =>
        have := allBl_ok l e
        subst this
        exact ⟨_, bs, rfl, .inl (.inl r), Req.here hr s _ (.bl _)⟩
  · cases er
def allI : List D → Option (List Int)
  | [] => some []
  | .int b :: l => (allI l).map (b :: ·)
  | _ => none
theorem allI_ok {F : Fz} {H : Hp} : ∀ {ds : List D} {vs : List V} {bs : List Int}, RpL G.N F H vs ds → allI ds = some bs → vs = bs.map V.int
  | [], _, _, r, h => by cases r; cases h; rfl
  | d :: l, _, bs, r, h => by
    cases r with
    | cons r1 r2 =>
      cases d with
      | int b =>
        obtain ⟨cs, e, rfl⟩ := Option.map_eq_some_iff.mp (show (allI l).map (b :: ·) = some bs from h)
        cases r1
        rw [allI_ok r2 e]
        rfl
      | _ => cases h
def bSum : List D → Option Vl
  | [.lst l] => (allI l).map fun bs => .fz (.int bs.sum)
  | _ => none
theorem bSum_ok : CallOk X W G L (rSum X.K) bSum := by
  intro c0 c ds vs Q _ ex s r hr
  obtain ⟨w, er, hr⟩ := liftO_req hr
  unfold bSum at er
  split at er
  · obtain ⟨bs, e, rfl⟩ := Option.map_eq_some_iff.mp er
    cases r with
    | cons r1 r2 =>
      cases r2
      cases r1 with
      | lst f r l =>
        have := allI_ok l e
        subst this
        exact ⟨_, bs, rfl, .inl (.inl r), Req.here hr s _ (.int _)⟩
  · cases er
end
end Ev

/-! EvD: statements, targets, loops. -/
namespace Ev
open PySem PySem.Spec PyProof.Rows L2

def ReqS {α : Type} (G : Gc) (L : Lt) (W : WX) (c : Cf) (o : Out α) (P : α → Cf → Prop) : Prop := match o with
  | .ok r ρ' => ∀ σ' F' H', Ex G c ⟨σ', ρ', F', H'⟩ → Ok G L ⟨σ', ρ', F', H'⟩ → P r ⟨σ', ρ', F', H'⟩
  | .ex d ρ' => ∀ σ' F' H', Ex G c ⟨σ', ρ', F', H'⟩ → Ok G L ⟨σ', ρ', F', H'⟩ → ∀ cls dd, XR G F' H' cls dd d → W cls dd σ' H'
  | .no => False
def EndsP (G : Gc) (D : Ends) (c : Cf) : Fl → Cf → Prop
  | .nx, c' => D.nx c'.σ c'.H
  | .rt r, c' => ∀ v, VR G c c' v r → D.rt v c'.H
  | .bk, c' => D.bk c'.σ c'.H
  | .ct, c' => D.ct c'.σ c'.H
section
variable {G : Gc} {L : Lt} {W : WX} {c c0 c1 : Cf} {α β : Type}
theorem ReqS.shift {o : Out α} {P : α → Cf → Prop} (h : ReqS G L W c o P) (x : Ex G c c1) : ReqS G L W c1 o P := by
  cases o with
  | ok r ρ' => exact fun σ' F' H' y s => h σ' F' H' (x.trans y) s
  | ex d ρ' => exact fun σ' F' H' y s => h σ' F' H' (x.trans y) s
  | no => exact h
theorem ReqS.imp {o : Out α} {P P' : α → Cf → Prop} (h : ReqS G L W c o P) (f : ∀ r c', o = .ok r c'.ρ → Ex G c c' → Ok G L c' → P r c' → P' r c') : ReqS G L W c o P' := by
  cases o with
  | ok r ρ' => exact fun σ' F' H' y s => f r _ rfl y s (h σ' F' H' y s)
  | ex d ρ' => exact h
  | no => exact h
theorem ReqS.bind {o : Out α} {f : α → Rho → Out β} {P : β → Cf → Prop} (h : ReqS G L W c (o.bind f) P) : ReqS G L W c o (fun a c1 => ReqS G L W c1 (f a c1.ρ) P) := by
  cases o with
  | ok r ρ' => exact fun σ' F' H' y s => ReqS.shift (c1 := ⟨σ', ρ', F', H'⟩) h y
  | ex d ρ' => exact h
  | no => exact h
/-- an expression first -/
theorem ReqS.toE {o : Out α} {P : α → Cf → Prop} (h : ReqS G L W c o P) : Req G L W c o P := by
  cases o with
  | ok r ρ' => exact fun F' H' y s => h c.σ F' H' y s
  | ex d ρ' => exact fun F' H' y s => h c.σ F' H' y s
  | no => exact h
theorem ReqS.bindE {o : Out α} {f : α → Rho → Out β} {P : β → Cf → Prop} (h : ReqS G L W c (o.bind f) P) : Req G L W c o (fun a c1 => ReqS G L W c1 (f a c1.ρ) P) := h.bind.toE
theorem ReqS.here {r : α} {P : α → Cf → Prop} (h : ReqS G L W c (.ok r c.ρ) P) (s : Ok G L c) : P r c := h c.σ c.F c.H Ext.refl s
theorem VR.base {v : V} {r : Vl} (x : Ex G c0 c) (h : VR G c c1 v r) : VR G c0 c1 v r := by
  cases r with
  | fz d => exact h
  | nw d =>
    obtain ⟨p, z1, z2, z3, z4⟩ := h
    exact ⟨p, z1, z2, z3, Ex.pre x z4⟩
theorem EndsP.base {D : Ends} {f : Fl} (x : Ex G c0 c) (h : EndsP G D c0 f c1) : EndsP G D c f c1 := by
  cases f with
  | rt r => exact fun v hv => h v (VR.base x hv)
  | _ => exact h
/-- a value that is held by nobody stays so while others are reckoned -/
theorem VR.keep {v : V} {r : Vl} (h : VR G c0 c v r) (s : Ok G L c) (x : Ex G c c1) (s1 : Ok G L c1) : VR G c0 c1 v r := by
  cases r with
  | fz d => exact x.rp s h
  | nw d =>
    obtain ⟨p, z1, z2, z3, z4⟩ := h
    obtain ⟨u, e, _⟩ := z2.at
    have e1 : c1.H p = c.H p := by rw [e]; exact x.keep p u e z3
    have n1 : ¬ c1.own G p := fun o => (x.sub p o).elim z3 fun q => by rw [e] at q; cases q
    have nf : ¬ c1.F p := fun f => (x.new p f).elim z2.nf fun q => q.elim (fun q => by rw [e] at q; cases q) z3
    exact ⟨p, z1, z2.mono x.mono (fun b f => x.fz s f) nf e1, n1, z4⟩
end

structure SS (X : Cx) (W : WX) (G : Gc) (L : Lt) (st : Stmt) (m : M Fl) : Prop where
  ex : ∃ t : TS, PS X st t ∧ ∀ (c : Cf) (D : Ends), Ok G L c → ReqS G L W c (m c.ρ) (EndsP G D c) → t D c.σ c.H
structure SSs (X : Cx) (W : WX) (G : Gc) (L : Lt) (st : List Stmt) (m : M Fl) : Prop where
  ex : ∃ t : TS, PSs X st t ∧ ∀ (c : Cf) (D : Ends), Ok G L c → ReqS G L W c (m c.ρ) (EndsP G D c) → t D c.σ c.H
structure SG (X : Cx) (W : WX) (G : Gc) (L : Lt) (tg : Expr) (g : D → M Unit) : Prop where
  ex : ∃ t : TG, PG X tg t ∧ ∀ (c : Cf) (v : V) (d : D) (Q : L2.St → Hp → Prop), Ok G L c → Rp G.N c.F c.H v d → ReqS G L W c (g d c.ρ) (fun _ c' => Q c'.σ c'.H) → t v c.σ c.H Q
structure SGs (X : Cx) (W : WX) (G : Gc) (L : Lt) (tgs : List Expr) (g : List D → M Unit) : Prop where
  ex : ∃ t : TGs, PGs X tgs t ∧ ∀ (c : Cf) (vs : List V) (ds : List D) (Q : L2.St → Hp → Prop), Ok G L c → RpL G.N c.F c.H vs ds → ReqS G L W c (g ds c.ρ) (fun _ c' => Q c'.σ c'.H) → t vs c.σ c.H Q

def mseq (m n : M Fl) : M Fl := m.bind fun f => match f with
  | .nx => n
  | f => mpure f
section
variable {X : Cx} {W : WX} {G : Gc} {L : Lt} {e a b tg : Expr} {pos : Pos} {c c0 c1 : Cf} {st : Stmt} {sts : List Stmt}
theorem ReqS.seq {m n : M Fl} {D : Ends} {t : TS} (h : ReqS G L W c (mseq m n c.ρ) (EndsP G D c)) (q : ∀ (c : Cf) (D : Ends), Ok G L c → ReqS G L W c (n c.ρ) (EndsP G D c) → t D c.σ c.H) : ReqS G L W c (m c.ρ) (EndsP G { D with nx := t D } c) := by
  refine (ReqS.bind h).imp fun f c1 _ x1 s1 h1 => ?_
  cases f with
  | nx => exact q c1 D s1 (h1.imp fun f c2 _ x2 s2 h2 => h2.base x1)
  | rt r => exact ReqS.here (W := W) (r := Fl.rt r) (P := EndsP G D c) h1 s1
  | bk => exact ReqS.here (W := W) (r := Fl.bk) (P := EndsP G D c) h1 s1
  | ct => exact ReqS.here (W := W) (r := Fl.ct) (P := EndsP G D c) h1 s1
theorem SSs.nil : SSs X W G L [] (mpure .nx) := ⟨_, pss_nil, fun c D s h => h c.σ c.F c.H Ext.refl s⟩
theorem SSs.cons {m n : M Fl} (h : SS X W G L st m) (hr : SSs X W G L sts n) : SSs X W G L (st :: sts) (mseq m n) := by
  obtain ⟨t, p, q⟩ := h.ex
  obtain ⟨u, p', q'⟩ := hr.ex
  exact ⟨_, pss_cons p p', fun c D s h => q c _ s (ReqS.seq h q')⟩
theorem SSs.one {m : M Fl} (h : SS X W G L st m) : SSs X W G L [st] m := by
  obtain ⟨t, p, q⟩ := h.ex
  exact ⟨_, pss_one p, q⟩
theorem SS.pass : SS X W G L (.Pass pos) (mpure .nx) := ⟨_, ps_pass, fun c D s h => h c.σ c.F c.H Ext.refl s⟩
theorem SS.brk : SS X W G L (.Break pos) (mpure .bk) := ⟨_, ps_break, fun c D s h => h c.σ c.F c.H Ext.refl s⟩
theorem SS.cont : SS X W G L (.Continue pos) (mpure .ct) := ⟨_, ps_continue, fun c D s h => h c.σ c.F c.H Ext.refl s⟩
theorem SS.expr {m : M D} (h : SD X W G L e m) (hs : swapsWith e none pos.line X.env = pure false := by rfl) : SS X W G L (.Expr e pos) (m.bind fun _ => mpure .nx) := by
  obtain ⟨t, p, q⟩ := h.ex
  refine ⟨_, ps_expr p hs, fun c D s h => ?_⟩
  refine q c _ s (h.bindE.imp fun d c1 _ e1 x1 s1 h1 v rv => ?_)
  rw [← e1]
  exact ReqS.here (r := Fl.nx) h1 s1
theorem SS.ret {m : M Vl} (h : SE X W G L e m) : SS X W G L (.Return (some e) pos) (m.bind fun r => mpure (.rt r)) := by
  obtain ⟨t, p, q⟩ := h.ex
  refine ⟨_, ps_ret p, fun c D s h => ?_⟩
  exact q c _ s (h.bindE.imp fun r c1 _ e1 x1 s1 h1 v rv => ReqS.here (r := Fl.rt r) h1 s1 v rv)
theorem SS.retN : SS X W G L (.Return none pos) (mpure (.rt (.fz .non))) := ⟨_, ps_retN, fun c D s h => ReqS.here (r := Fl.rt (.fz .non)) h s _ .non⟩
theorem SS.ite {mc : M Bool} {ma mb : M Fl} {l r : List Stmt} (hc : ST X W G L e mc) (ha : SSs X W G L l ma) (hb : SSs X W G L r mb) : SS X W G L (.If e l r pos) (evIf mc ma mb) := by
  obtain ⟨t, p, q⟩ := hc.ex
  obtain ⟨ta, pa, qa⟩ := ha.ex
  obtain ⟨tb, pb, qb⟩ := hb.ex
  refine ⟨_, ps_if p pa pb, fun c D s h => ?_⟩
  refine q c _ s (h.bindE.imp fun k c1 _ e1 x1 s1 h1 => ?_)
  cases k with
  | true =>
    rw [if_pos rfl] at h1 ⊢
    rw [← e1]
    exact qa c1 D s1 (h1.imp fun f c2 _ x2 s2 h2 => h2.base x1)
  | false =>
    rw [if_neg Bool.false_ne_true] at h1 ⊢
    rw [← e1]
    exact qb c1 D s1 (h1.imp fun f c2 _ x2 s2 h2 => h2.base x1)
/-! ### a slot is stored -/
def slOf : Vl → Sl
  | .fz d => .fz d
  | .nw d => .ow d
/-- slot i gets a value; a lent one can't -/
def setSlot (i : Nat) (r : Vl) : M Unit := fun ρ => match ρ[i]? with
  | some (.ln _) => .no
  | some (.lf _) => .no
  | none => .no
  | some _ => .ok () (ρ.set i (slOf r))
theorem Ok.put {i : Nat} {v : V} {r : Vl} {t : Sl} (s : Ok G L c) (x : Ex G c0 c) (hv : VR G c0 c v r) (e : c.ρ[i]? = some t) (n1 : ∀ d, t ≠ .ln d) (n2 : ∀ d, t ≠ .lf d) :
    Ok G L ⟨c.σ.set i (some v), c.ρ.set i (slOf r), c.F, c.H⟩ ∧ Ex G c0 ⟨c.σ.set i (some v), c.ρ.set i (slOf r), c.F, c.H⟩ := by
  have hi : i < c.ρ.length := (List.getElem?_eq_some_iff.mp e).1
  have hi' : i < c.σ.length := by rw [← s.len]; exact hi
  have at_ : ∀ (j : Nat) (u : Sl), (c.ρ.set i (slOf r))[j]? = some u → (j = i ∧ u = slOf r) ∨ (j ≠ i ∧ c.ρ[j]? = some u) := fun j u z => by
    by_cases hj : j = i
    · subst hj
      rw [List.getElem?_set_self hi] at z
      exact .inl ⟨rfl, (Option.some.inj z).symm⟩
    · rw [List.getElem?_set_ne (Ne.symm hj)] at z
      exact .inr ⟨hj, z⟩
  have sig : ∀ j, j ≠ i → (c.σ.set i (some v))[j]? = c.σ[j]? := fun j hj => List.getElem?_set_ne (Ne.symm hj)
  have sii : (c.σ.set i (some v))[i]? = some (some v) := List.getElem?_set_self hi'
  have new : isOw (slOf r) = true → ∃ (d : D) (p : Addr), r = .nw d ∧ v = .ref p ∧ ¬ c.own G p ∧ (c0.H p = none ∨ c0.own G p) := fun w => by
    cases r with
    | fz d => cases w
    | nw d =>
      obtain ⟨p, z1, z2, z3, z4⟩ := hv
      exact ⟨d, p, rfl, z1, z3, z4⟩
  have ownN : ∀ b, Own G (c.σ.set i (some v)) (c.ρ.set i (slOf r)) b → c.own G b ∨ (c0.H b = none ∨ c0.own G b) := fun b z => by
    rcases z with z | ⟨j, u, z, w, q⟩
    · exact .inl (.inl z)
    · rcases at_ j u z with ⟨rfl, rfl⟩ | ⟨hj, z⟩
      · obtain ⟨d, p, _, e2, _, pre⟩ := new w
        rw [sii, e2] at q
        cases q
        exact .inr pre
      · rw [sig j hj] at q
        exact .inl (.inr ⟨j, u, z, w, q⟩)
  have ti : ∀ d, (c.ρ.set i (slOf r))[i]? ≠ some (.ln d) ∧ (c.ρ.set i (slOf r))[i]? ≠ some (.lf d) := fun d => by
    rw [List.getElem?_set_self hi]
    cases r <;> exact ⟨fun z => (by cases z), fun z => (by cases z)⟩
  refine ⟨⟨?_, ?_, ?_, ?_, ?_, s.trk, s.tabs⟩, ⟨x.keep, x.mono, x.new, fun b z => ?_⟩⟩
  · rw [List.length_set, List.length_set]; exact s.len
  · intro j u z
    rcases at_ j u z with ⟨rfl, rfl⟩ | ⟨hj, z⟩
    · rw [sii]
      cases r with
      | fz d => exact ⟨v, rfl, hv⟩
      | nw d =>
        obtain ⟨p, z1, z2, z3, z4⟩ := hv
        subst z1
        exact ⟨p, rfl, z2⟩
    · rw [sig j hj]
      exact s.sl j u z
  · intro j k u w p hjk z0 wu z2 ww q1 q2
    rcases at_ j u z0 with ⟨ej, eu⟩ | ⟨hj, zj⟩
    · subst ej
      rw [eu] at wu
      obtain ⟨d, p', _, e2, no, _⟩ := new wu
      rw [sii, e2] at q1
      cases q1
      rcases at_ k w z2 with ⟨ek, ew⟩ | ⟨hk, zk⟩
      · exact hjk ek.symm
      · rw [sig k hk] at q2
        exact no (.inr ⟨k, w, zk, ww, q2⟩)
    · rcases at_ k w z2 with ⟨ek, ew⟩ | ⟨hk, zk⟩
      · subst ek
        rw [ew] at ww
        obtain ⟨d, p', _, e2, no, _⟩ := new ww
        rw [sii, e2] at q2
        cases q2
        rw [sig j hj] at q1
        exact no (.inr ⟨j, u, zj, wu, q1⟩)
      · rw [sig j hj] at q1
        rw [sig k hk] at q2
        exact s.sep j k u w p hjk zj wu zk ww q1 q2
  · intro j p z
    obtain ⟨h1, d, h2⟩ := s.lent j p z
    have hj : j ≠ i := fun q => by
      subst q
      rw [e] at h2
      rcases h2 with h2 | h2
      · exact n1 d (Option.some.inj h2)
      · exact n2 d (Option.some.inj h2)
    refine ⟨(sig j hj).trans h1, d, ?_⟩
    show (c.ρ.set i (slOf r))[j]? = _ ∨ (c.ρ.set i (slOf r))[j]? = _
    rw [List.getElem?_set_ne (Ne.symm hj)]
    exact h2
  · intro j d z
    have hj : j ≠ i := fun q => by
      subst q
      rcases z with z | z
      · exact (ti d).1 z
      · exact (ti d).2 z
    have z : (c.ρ.set i (slOf r))[j]? = some (.ln d) ∨ (c.ρ.set i (slOf r))[j]? = some (.lf d) := z
    rw [List.getElem?_set_ne (Ne.symm hj)] at z
    exact s.lnL j d z
  · rcases ownN b z with z | z
    · exact x.sub b z
    · exact z.symm
theorem setSlot_req {i : Nat} {v : V} {r : Vl} {P : Unit → Cf → Prop} (s : Ok G L c) (x : Ex G c0 c) (hv : VR G c0 c v r) (h : ReqS G L W c0 (setSlot i r c.ρ) P) : P () ⟨c.σ.set i (some v), c.ρ.set i (slOf r), c.F, c.H⟩ ∧ Ok G L ⟨c.σ.set i (some v), c.ρ.set i (slOf r), c.F, c.H⟩ := by
  unfold setSlot at h
  cases e : c.ρ[i]? with
  | none => rw [e] at h; exact h.elim
  | some t =>
    rw [e] at h
    cases t with
    | ln d => exact h.elim
    | lf d => exact h.elim
    | _ =>
      obtain ⟨s1, x1⟩ := Ok.put s x hv e (fun d z => by cases z) (fun d z => by cases z)
      exact ⟨h _ _ _ x1 s1, s1⟩
/-- name = e -/
def evSet (i : Nat) (m : M Vl) : M Fl := m.bind fun r => M.bind (setSlot i r) fun _ => mpure .nx
theorem SS.set_of {i : Nat} {m : M Vl} {t : TE} (hp : PS X st (tAsg t (gName i))) (q : ∀ (c : Cf) (Q : VK), Ok G L c → Req G L W c (m c.ρ) (fun r c' => ∀ v, VR G c c' v r → Q v c'.H) → t c.σ c.H Q) : SS X W G L st (evSet i m) := by
  refine ⟨_, hp, fun c D s h => ?_⟩
  have h : ReqS G L W c ((m c.ρ).bind fun r => M.bind (setSlot i r) fun _ => mpure Fl.nx) (EndsP G D c) := h
  refine q c _ s ?_
  cases em : m c.ρ with
  | no => rw [em] at h; exact h
  | ex d ρ => rw [em] at h; exact ReqS.toE (o := .ex d ρ) (P := EndsP G D c) h
  | ok r ρ1 =>
    rw [em] at h
    intro F1 H1 x1 s1 v rv
    have h2 : ReqS G L W c (setSlot i r ρ1) (fun a c1 => ReqS G L W c1 (Out.ok Fl.nx c1.ρ) (EndsP G D c)) := ReqS.bind h
    obtain ⟨h3, s3⟩ := setSlot_req (c := ⟨c.σ, ρ1, F1, H1⟩) s1 x1 rv h2
    exact ReqS.here (r := Fl.nx) h3 s3
theorem SS.set (i : Nat) {x : Str} {m : M Vl} {pos' : Pos} (hN : X.N.Nodup) (hi : X.N[i]? = some x) (hx : Loc X.env.scope x) (he : SE X W G L e m) (hs : swapsWith e (some (.Name x pos')) pos.line X.env = pure false := by rfl) (hf : X.fn x = true ∨ X.env.scope.names.lookup x = some .local := by first | exact .inl rfl | exact .inr rfl | assumption) :
    SS X W G L (.Assign [.Name x pos'] e pos) (evSet i m) := by
  obtain ⟨t, p, q⟩ := he.ex
  exact SS.set_of (ps_set hN hi hx p hs hf) q
/-! ### targets -/
theorem SG.name (i : Nat) {x : Str} (hN : X.N.Nodup) (hi : X.N[i]? = some x) (hx : Loc X.env.scope x) (hf : X.fn x = true ∨ X.env.scope.names.lookup x = some .local := by first | exact .inl rfl | exact .inr rfl | assumption) : SG X W G L (.Name x pos) (fun d => setSlot i (.fz d)) := by
  refine ⟨_, pg_name hN hi hx hf, fun c v d Q s rv h => ?_⟩
  exact (setSlot_req s Ext.refl (show VR G c c v (.fz d) from rv) h).1
theorem SGs.nil : SGs X W G L [] (fun ds => match ds with | [] => mpure () | _ => fun _ => .no) := by
  refine ⟨_, pgs_nil, fun c vs ds Q s r h => ?_⟩
  cases r with
  | nil => exact ⟨rfl, ReqS.here (r := ()) h s⟩
  | cons => exact h.elim
def gsCons (g : D → M Unit) (gr : List D → M Unit) : List D → M Unit
  | d :: ds => M.bind (g d) fun _ => gr ds
  | [] => fun _ => .no
theorem SGs.cons {es : List Expr} {g : D → M Unit} {gr : List D → M Unit} (h1 : SG X W G L e g) (h2 : SGs X W G L es gr) (hs : (assignEach (e :: es) X.env).map (·.2) = assign e X.env :: (assignEach es X.env).map (·.2) := by rfl) : SGs X W G L (e :: es) (gsCons g gr) := by
  obtain ⟨t, p, q⟩ := h1.ex
  obtain ⟨u, p', q'⟩ := h2.ex
  refine ⟨_, pgs_cons p p' hs, fun c vs ds Q s r h => ?_⟩
  cases r with
  | nil => exact h.elim
  | cons r1 r2 =>
    refine ⟨_, _, rfl, q c _ _ _ s r1 ((ReqS.bind h).imp fun _ c1 _ x1 s1 h1 => ?_)⟩
    exact q' c1 _ _ Q s1 (x1.rpl s r2) h1
def evUnp (n : Nat) (g : List D → M Unit) : D → M Unit
  | .tup l => if l.length = n then g l else fun _ => .no
  | _ => fun _ => .no
theorem SG.tup {es : List Expr} {k n : Nat} {g : List D → M Unit} (hc : X.calm = true) (h : SGs X W G L es g) (hn : (assignEach es X.env).length = n := by rfl) (hst : (assignEach es X.env).findIdx? (·.1) = none := by rfl) : SG X W G L (.Tuple es k pos) (evUnp n g) := by
  obtain ⟨t, p, q⟩ := h.ex
  refine ⟨_, pg_tup hc p hn hst, fun c v d Q s rv h => ?_⟩
  cases d with
  | tup l =>
    cases rv with
    | tup f r ll =>
      have h : ReqS G L W c ((if l.length = n then g l else fun _ => Out.no) c.ρ) _ := h
      by_cases hl : l.length = n
      · rw [if_pos hl] at h
        exact ⟨_, _, rfl, .inl (.inl r), ll.length.trans hl, q c _ _ Q s ll h⟩
      · rw [if_neg hl] at h
        exact h.elim
  | _ => exact h.elim
def evAsg (m : M D) (g : D → M Unit) : M Fl := m.bind fun d => M.bind (g d) fun _ => mpure .nx
theorem SS.asg {m : M D} {g : D → M Unit} (he : SD X W G L e m) (hg : SG X W G L tg g) (hs : swapsWithSole [tg] e pos.line X.env = pure false := by rfl) (hw : swappedStores [tg] e X.env = pure none := by rfl)
    (h1 : (assignEach [tg] X.env).map (·.2) = [assign tg X.env] := by rfl) : SS X W G L (.Assign [tg] e pos) (evAsg m g) := by
  obtain ⟨t, p, q⟩ := he.ex
  obtain ⟨u, p', q'⟩ := hg.ex
  refine ⟨_, ps_asg p p' hs hw h1, fun c D s h => ?_⟩
  refine q c _ s (h.bindE.imp fun d c1 _ e1 x1 s1 h1 v rv => ?_)
  show u v c.σ c1.H D.nx
  rw [← e1]
  exact q' c1 v d _ s1 rv ((ReqS.bind h1).imp fun _ c2 _ x2 s2 h2 => ReqS.here (r := Fl.nx) h2 s2)
/-! ### loops -/
def loopEnd (m : M Fl) : Fl → M Fl
  | .nx => m
  | .ct => m
  | .bk => mpure .nx
  | .rt r => mpure (.rt r)
def whileN (mc : M Bool) (mb : M Fl) : Nat → M Fl
  | 0 => fun _ => .no
  | n + 1 => mc.bind fun k => if k = true then mb.bind (loopEnd (whileN mc mb n)) else mpure .nx
open Classical in
noncomputable def mWhile (mc : M Bool) (mb : M Fl) : M Fl := fun ρ => if h : ∃ n, whileN mc mb n ρ ≠ .no then whileN mc mb (Classical.choose h) ρ else .no
theorem SS.while {mc : M Bool} {mb : M Fl} {body : List Stmt} (hp : PassesOwn (model X.prog X.w) X.A X.env X.xe) (hc : ST X W G L e mc) (hb : SSs X W G L body mb) : SS X W G L (.While e body [] pos) (mWhile mc mb) := by
  obtain ⟨t, p, q⟩ := hc.ex
  obtain ⟨u, p', q'⟩ := hb.ex
  refine ⟨_, ps_while hp p p', fun c D s h => ?_⟩
  unfold mWhile at h
  split at h
  · rename_i hn
    refine ⟨fun m σ H => ∃ c1 : Cf, c1.σ = σ ∧ c1.H = H ∧ Ok G L c1 ∧ Ex G c c1 ∧ ReqS G L W c1 (whileN mc mb m c1.ρ) (EndsP G D c), ⟨_, c, rfl, rfl, s, Ext.refl, h⟩, ?_⟩
    rintro m σ H ⟨c1, rfl, rfl, s1, x1, h1⟩
    cases m with
    | zero => exact h1.elim
    | succ n =>
      refine q c1 _ s1 (h1.bindE.imp fun k c2 _ e2 x2 s2 h2 => ?_)
      cases k with
      | false =>
        rw [if_neg Bool.false_ne_true] at h2 ⊢
        rw [← e2]
        exact ReqS.here (r := Fl.nx) h2 s2
      | true =>
        rw [if_pos rfl] at h2 ⊢
        refine ⟨fun σ' H' => ∃ c1 : Cf, c1.σ = σ' ∧ c1.H = H' ∧ Ok G L c1 ∧ Ex G c c1 ∧ ReqS G L W c1 (whileN mc mb n c1.ρ) (EndsP G D c), fun σ' H' hN => ⟨n, Nat.lt_succ_self n, hN⟩, ?_⟩
        rw [← e2]
        refine q' c2 _ s2 ((ReqS.bind h2).imp fun f c3 _ x3 s3 h3 => ?_)
        have x13 := (x1.trans x2).trans x3
        cases f with
        | nx => exact ⟨c3, rfl, rfl, s3, x13, h3⟩
        | ct => exact ⟨c3, rfl, rfl, s3, x13, h3⟩
        | bk => exact ReqS.here (r := Fl.nx) h3 s3
        | rt r => exact fun v rv => ReqS.here (r := Fl.rt r) h3 s3 v (VR.base (x1.trans x2) rv)
  · exact h.elim
/-- the iterator hands out just these -/
def Iter (G : Gc) (L : Lt) (J : It) (ds : List D) (F : Fz) (H : Hp) : Prop := ∀ c : Cf, Ok G L c → (∀ a, F a → c.F a) → (∀ a, F a → c.H a = H a) → ∀ i,
  (∀ d, ds[i]? = some d → J.go i c.H ∧ ∀ x H', J.yld i c.H x H' → ∃ F', Ex G c ⟨c.σ, c.ρ, F', H'⟩ ∧ Ok G L ⟨c.σ, c.ρ, F', H'⟩ ∧ Rp G.N F' H' x d) ∧ (ds.length ≤ i → J.stop i c.H)
structure SI (X : Cx) (W : WX) (G : Gc) (L : Lt) (tg iter : Expr) (m : M (List D)) : Prop where
  ex : ∃ wi : TI, PI X tg iter wi ∧ ∀ (c : Cf) (R : It → Hp → Prop), Ok G L c → Req G L W c (m c.ρ) (fun ds c' => ∀ J, Iter G L J ds c'.F c'.H → R J c'.H) → wi c.σ c.H R
def loopD (g : D → M Unit) (mb : M Fl) : List D → M Fl
  | [] => mpure .nx
  | d :: ds => M.bind (g d) fun _ => mb.bind (loopEnd (loopD g mb ds))
def mFor (mi : M (List D)) (g : D → M Unit) (mb : M Fl) : M Fl := mi.bind fun ds => loopD g mb ds
theorem SS.for {mi : M (List D)} {g : D → M Unit} {mb : M Fl} {iter : Expr} {body : List Stmt} (hp : PassesOwn (model X.prog X.w) X.A X.env X.xe) (hc : X.calm = true) (hi : SI X W G L tg iter mi) (hg : SG X W G L tg g) (hb : SSs X W G L body mb)
    (hs : ∀ x, foldedSetIterable iter X.env x = pure x := by intro _; rfl) : SS X W G L (.For tg iter body [] pos) (mFor mi g mb) := by
  obtain ⟨wi, p, q⟩ := hi.ex
  obtain ⟨tgt, pg, qg⟩ := hg.ex
  obtain ⟨u, pb, qb⟩ := hb.ex
  refine ⟨_, ps_for hp hc p pg pb hs, fun c D s h => ?_⟩
  refine q c _ s (h.bindE.imp fun ds c1 _ e1 x1 s1 h1 J it => ?_)
  refine ⟨fun i m σ H => m = ds.length - i ∧ i ≤ ds.length ∧ ∃ c2 : Cf, c2.σ = σ ∧ c2.H = H ∧ Ok G L c2 ∧ Ex G c1 c2 ∧ ReqS G L W c2 (loopD g mb (ds.drop i) c2.ρ) (EndsP G D c), ⟨_, rfl, Nat.zero_le _, c1, e1, rfl, s1, Ext.refl, h1⟩, ?_⟩
  rintro i m σ H ⟨rfl, hi, c2, rfl, rfl, s2, x2, h2⟩
  obtain ⟨it1, it2⟩ := it c2 s2 x2.mono (fun a f => x2.fz s1 f) i
  by_cases hlt : i < ds.length
  · refine .inr ?_
    obtain ⟨go, yl⟩ := it1 ds[i] (List.getElem?_eq_getElem hlt)
    refine ⟨go, fun σ' H' => i + 1 ≤ ds.length ∧ ∃ c2 : Cf, c2.σ = σ' ∧ c2.H = H' ∧ Ok G L c2 ∧ Ex G c1 c2 ∧ ReqS G L W c2 (loopD g mb (ds.drop (i + 1)) c2.ρ) (EndsP G D c), fun σ' H' hN => ⟨ds.length - (i + 1), by omega, rfl, hN.1, hN.2⟩, fun x H' y => ?_⟩
    obtain ⟨F', x3, s3, rx⟩ := yl x H' y
    rw [List.drop_eq_getElem_cons hlt] at h2
    have h3 := h2.shift x3
    refine qg ⟨c2.σ, c2.ρ, F', H'⟩ x _ _ s3 rx ((ReqS.bind h3).imp fun _ c4 _ x4 s4 h4 => ?_)
    refine qb c4 _ s4 ((ReqS.bind h4).imp fun f c5 _ x5 s5 h5 => ?_)
    have x15 := ((x2.trans x3).trans x4).trans x5
    cases f with
    | nx => exact ⟨hlt, c5, rfl, rfl, s5, x15, h5⟩
    | ct => exact ⟨hlt, c5, rfl, rfl, s5, x15, h5⟩
    | bk => exact ReqS.here (r := Fl.nx) h5 s5
    | rt r => exact fun v rv => ReqS.here (r := Fl.rt r) h5 s5 v (VR.base (((x1.trans x2).trans x3).trans x4) rv)
  · refine .inl ⟨it2 (by omega), ?_⟩
    have e : ds.drop i = [] := List.drop_eq_nil_of_le (by omega)
    rw [e] at h2
    exact ReqS.here (r := Fl.nx) h2 s2
def dSeq : D → Option (List D)
  | .lst l => some l
  | .tup l => some l
  | _ => none
def dLst : D → Option (List D)
  | .lst l => some l
  | _ => none
def dTup : D → Option (List D)
  | .tup l => some l
  | _ => none
theorem iter_tup {a : Addr} {xs : List V} {ds : List D} {K : PySem.W.Frag} {F : Fz} {H : Hp} (f : F a) (r : H a = some (.tup xs)) (rl : RpL G.N F H xs ds) : Iter G L (Itt K a) ds F H := by
  intro c s hF hH i
  have r' : Rd c.H a (.tup xs) := .inl ((hH a f).trans r)
  have rl' : RpL G.N c.F c.H xs ds := rl.mono hF hH
  refine ⟨fun d hd => ?_, fun hl => ⟨xs, .inl r', by rw [rl.length]; exact hl⟩⟩
  obtain ⟨y, e1, e2⟩ := rl'.get hd
  refine ⟨⟨xs, y, .inl r', e1⟩, fun x H' z => ?_⟩
  obtain ⟨z1, z2⟩ := z
  have := z2 xs (.inl r')
  rw [e1] at this
  cases this
  subst z1
  exact ⟨c.F, Ext.refl, s, e2⟩
end
end Ev

/-! EvE: what is walked, objects changed through their slots, returns, isinstance, repr. -/
namespace Ev
open PySem PySem.Spec PyProof.Rows L2
section
variable {X : Cx} {W : WX} {G : Gc} {L : Lt} {e a b tg : Expr} {pos : Pos} {c c0 c1 : Cf} {st : Stmt} {sts : List Stmt} {es : List Expr}

/-! ### what is walked -/
theorem PI.or {l : Expr} {w1 w2 : TI} (h1 : PI X tg l w1) (h2 : PI X tg l w2) : PI X tg l (fun σ H R => w1 σ H R ∨ w2 σ H R) :=
  ⟨fun pins s σ H R I h => h.elim (h1.run pins s σ H R I) (h2.run pins s σ H R I)⟩
def evSeq (m : M D) : M (List D) := m.bind fun d => liftO (dSeq d)
theorem iter_list' {a : Addr} {xs : List V} {ds : List D} {K : PySem.W.Frag} {F : Fz} {H : Hp} (f : F a) (r : H a = some (.lst xs)) (rl : RpL G.N F H xs ds) : Iter G L (Itl K a) ds F H := by
  intro c s hF hH i
  have r' : Rd c.H a (.lst xs) := .inl ((hH a f).trans r)
  have rl' : RpL G.N c.F c.H xs ds := rl.mono hF hH
  refine ⟨fun d hd => ?_, fun hl => ⟨xs, .inl r', by rw [rl.length]; exact hl⟩⟩
  obtain ⟨y, e1, e2⟩ := rl'.get hd
  refine ⟨⟨xs, y, .inl r', e1⟩, fun x H' z => ?_⟩
  obtain ⟨z1, z2⟩ := z
  have := z2 xs (.inl r')
  rw [e1] at this
  cases this
  subst z1
  exact ⟨c.F, Ext.refl, s, e2⟩
/-- a list or a tuple -/
theorem SI.seq {m : M D} (h : SD X W G L e m) : SI X W G L tg e (evSeq m) := by
  obtain ⟨t, p, q⟩ := h.ex
  refine ⟨_, PI.or (pi_list p) (pi_tup p), fun c R s h => ?_⟩
  have h : Req G L W c ((m c.ρ).bind fun d => liftO (dSeq d)) _ := h
  cases em : m c.ρ with
  | no => rw [em] at h; exact h.elim
  | ex d ρ => rw [em] at h; exact .inl (q c _ s (by rw [em]; exact h))
  | ok d ρ =>
    rw [em] at h
    have h : Req G L W c (liftO (dSeq d) ρ) _ := h
    cases d with
    | lst l =>
      refine .inl (q c _ s ?_)
      rw [em]
      intro F' H' x s' v rv
      cases rv with
      | lst f r ll => exact ⟨_, rfl, ⟨_, .inl (.inl r)⟩, h F' H' x s' _ (iter_list' f r ll)⟩
    | tup l =>
      refine .inr (q c _ s ?_)
      rw [em]
      intro F' H' x s' v rv
      cases rv with
      | tup f r ll => exact ⟨_, rfl, ⟨_, .inl (.inl r)⟩, h F' H' x s' _ (iter_tup f r ll)⟩
    | _ => exact h.elim
def rangeL (lo : Int) (n : Nat) : List D := (List.range n).map fun (i : Nat) => D.int (lo + i)
theorem iter_range {lo : Int} {n : Nat} {F : Fz} {H : Hp} : Iter G L (Itr lo n) (rangeL lo n) F H := by
  intro c s hF hH i
  have hl : (rangeL lo n).length = n := by unfold rangeL; rw [List.length_map, List.length_range]
  refine ⟨fun d hd => ?_, fun h => by rw [hl] at h; exact h⟩
  have hi : i < n := by
    have := (List.getElem?_eq_some_iff.mp hd).1
    omega
  refine ⟨hi, fun x H' z => ?_⟩
  obtain ⟨rfl, rfl⟩ := z
  unfold rangeL at hd
  rw [List.getElem?_map, List.getElem?_range hi] at hd
  cases hd
  exact ⟨c.F, Ext.refl, s, .int _⟩
def inR (i : Int) : Bool := decide (-(2 ^ 62) ≤ i) && decide (i < 2 ^ 62)
theorem inR_ok {i : Int} (h : inR i = true) : -(2 ^ 62) ≤ i ∧ i < 2 ^ 62 := by
  unfold inR at h
  rw [Bool.and_eq_true] at h
  exact ⟨of_decide_eq_true h.1, of_decide_eq_true h.2⟩
def rng1 : List D → Option (List D)
  | [.int j] => if inR j then some (rangeL 0 j.toNat) else none
  | _ => none
def rng2 : List D → Option (List D)
  | [.int i, .int j] => if inR i && inR j then some (rangeL i (j - i).toNat) else none
  | _ => none
def evL {α : Type} (f : List D → Option α) (m : M (List D)) : M α := m.bind fun l => liftO (f l)
theorem SI.range1 {p : Pos} {m : M (List D)} (hg : Gl X "range") (hm : X.mg "range" = none) (h : SA X W G L [a] m) (hs : starEach [a] X.env = [(false, eval a X.env)] := by rfl) : SI X W G L tg (.Call (.Name "range" p) [a] [] pos) (evL rng1 m) := by
  obtain ⟨t, pa, q⟩ := h.ex
  refine ⟨_, pi_range1 hg hm pa hs, fun c R s h => ?_⟩
  refine q c _ s ((Req.bind h).imp fun l c1 _ e1 x1 s1 h1 vs rv => ?_)
  obtain ⟨ds, er, h1⟩ := liftO_req h1
  unfold rng1 at er
  split at er
  · rename_i j
    cases rv with
    | cons r1 r2 =>
      cases r2
      cases r1
      split at er
      · rename_i hj
        cases er
        obtain ⟨z1, z2⟩ := inR_ok hj
        exact ⟨_, rfl, z1, z2, Req.here h1 s1 _ iter_range⟩
      · cases er
  · cases er
theorem SI.range2 {p : Pos} {m : M (List D)} (hg : Gl X "range") (hm : X.mg "range" = none) (h : SA X W G L [a, b] m) (hs : starEach [a, b] X.env = [(false, eval a X.env), (false, eval b X.env)] := by rfl) (hs2 : starEach [b] X.env = [(false, eval b X.env)] := by rfl) : SI X W G L tg (.Call (.Name "range" p) [a, b] [] pos) (evL rng2 m) := by
  obtain ⟨t, pa, q⟩ := h.ex
  refine ⟨_, pi_range2 hg hm pa hs hs2, fun c R s h => ?_⟩
  refine q c _ s ((Req.bind h).imp fun l c1 _ e1 x1 s1 h1 vs rv => ?_)
  obtain ⟨ds, er, h1⟩ := liftO_req h1
  unfold rng2 at er
  split at er
  · rename_i i j
    cases rv with
    | cons r1 r2 =>
      cases r2 with
      | cons r2 r3 =>
        cases r3
        cases r1
        cases r2
        split at er
        · rename_i hj
          cases er
          rw [Bool.and_eq_true] at hj
          obtain ⟨z1, z2⟩ := inR_ok hj.1
          obtain ⟨z3, z4⟩ := inR_ok hj.2
          exact ⟨_, _, rfl, ⟨z1, z2, z3, z4⟩, Req.here h1 s1 _ iter_range⟩
        · cases er
  · cases er

/-! ### return of a name -/
def evMove (i : Nat) : M Vl := fun ρ => match ρ[i]? with
  | some (.fz d) => .ok (.fz d) ρ
  | some (.lf d) => .ok (.fz d) ρ
  | some (.ow d) => .ok (.nw d) (ρ.set i .un)
  | some (.ln d) => .ok (.fz d) (ρ.set i (.lf d))
  | _ => .no
/-- slot i lets its object go -/
theorem Ok.move {i : Nat} {p : Addr} {d : D} (s : Ok G L c) (e : c.ρ[i]? = some (.ow d)) (q : c.σ[i]? = some (some (V.ref p))) (ow : Ow G.N c.F c.H p d) :
    Ok G L ⟨c.σ, c.ρ.set i .un, c.F, c.H⟩ ∧ Ex G c ⟨c.σ, c.ρ.set i .un, c.F, c.H⟩ ∧ ¬ Own G c.σ (c.ρ.set i .un) p := by
  have hi : i < c.ρ.length := (List.getElem?_eq_some_iff.mp e).1
  have at_ : ∀ (j : Nat) (u : Sl), (c.ρ.set i .un)[j]? = some u → (j = i ∧ u = .un) ∨ (j ≠ i ∧ c.ρ[j]? = some u) := fun j u z => by
    by_cases hj : j = i
    · subst hj
      rw [List.getElem?_set_self hi] at z
      exact .inl ⟨rfl, (Option.some.inj z).symm⟩
    · rw [List.getElem?_set_ne (Ne.symm hj)] at z
      exact .inr ⟨hj, z⟩
  have ownN : ∀ b, Own G c.σ (c.ρ.set i .un) b → c.own G b ∧ b ≠ p := fun b z => by
    rcases z with z | ⟨j, u, z, w, qj⟩
    · refine ⟨.inl z, fun y => ?_⟩
      subst y
      obtain ⟨ps, y⟩ := G.tbAt s.tabs z
      obtain ⟨u, y2, m⟩ := ow.at
      rw [y] at y2
      cases y2
      cases m
    · rcases at_ j u z with ⟨ej, eu⟩ | ⟨hj, zj⟩
      · rw [eu] at w; cases w
      · refine ⟨.inr ⟨j, u, zj, w, qj⟩, fun y => ?_⟩
        subst y
        exact s.sep j i u _ _ hj zj w e rfl qj q
  refine ⟨⟨?_, ?_, ?_, ?_, ?_, s.trk, s.tabs⟩, ⟨fun _ _ z _ => z, fun _ z => z, fun _ z => .inl z, fun b z => .inl (ownN b z).1⟩, fun z => (ownN p z).2 rfl⟩
  · rw [List.length_set]; exact s.len
  · intro j u z
    rcases at_ j u z with ⟨ej, eu⟩ | ⟨hj, zj⟩
    · rw [eu]; trivial
    · exact s.sl j u zj
  · intro j k u w p hjk z0 wu z2 ww q1 q2
    rcases at_ j u z0 with ⟨ej, eu⟩ | ⟨hj, zj⟩
    · rw [eu] at wu; cases wu
    · rcases at_ k w z2 with ⟨ek, ew⟩ | ⟨hk, zk⟩
      · rw [ew] at ww; cases ww
      · exact s.sep j k u w p hjk zj wu zk ww q1 q2
  · intro j p z
    obtain ⟨h1, d2, h2⟩ := s.lent j p z
    have hj : j ≠ i := fun y => by
      subst y
      rw [e] at h2
      rcases h2 with h2 | h2 <;> cases h2
    refine ⟨h1, d2, ?_⟩
    show (c.ρ.set i .un)[j]? = _ ∨ (c.ρ.set i .un)[j]? = _
    rw [List.getElem?_set_ne (Ne.symm hj)]
    exact h2
  · intro j d2 z
    rcases z with z | z
    · rcases at_ j _ z with ⟨ej, eu⟩ | ⟨hj, zj⟩
      · cases eu
      · exact s.lnL j d2 (.inl zj)
    · rcases at_ j _ z with ⟨ej, eu⟩ | ⟨hj, zj⟩
      · cases eu
      · exact s.lnL j d2 (.inr zj)
theorem SE.move (i : Nat) {x : Str} (hN : X.N[i]? = some x) (hv : Vis X.env.scope x) (hd : (x == ("__debug__" : Str)) = false := by decide) (hcd : (x == ("__classdict__" : Str)) = false := by decide) : SE X W G L (.Name x pos) (evMove i) := by
  refine ⟨tVar i, pe_var hN hv hd hcd, fun c Q s r => ?_⟩
  unfold evMove at r
  cases e : c.ρ[i]? with
  | none => rw [e] at r; exact r.elim
  | some t =>
    rw [e] at r
    cases t with
    | un => exact r.elim
    | cl f => exact r.elim
    | fz d =>
      obtain ⟨v, h1, h2⟩ := s.sl i _ e
      exact ⟨v, h1, r _ _ Ext.refl s _ h2⟩
    | lf d =>
      obtain ⟨v, h1, h2⟩ := s.sl i _ e
      exact ⟨v, h1, r _ _ Ext.refl s _ h2⟩
    | ow d =>
      obtain ⟨a, h1, h2⟩ := s.sl i _ e
      obtain ⟨z1, z2, z3⟩ := Ok.move s e h1 h2
      exact ⟨.ref a, h1, r _ _ z2 z1 _ ⟨a, rfl, h2, z3, .inr (.inr ⟨i, _, e, rfl, h1⟩)⟩⟩
    | ln d =>
      obtain ⟨a, h1, h2⟩ := s.sl i _ e
      obtain ⟨z1, z2, z3⟩ := StR.give s e rfl h1 (.inr rfl)
      exact ⟨.ref a, h1, r _ _ z2 z1 _ z3⟩

/-! ### an object changed through its slot -/
def reSl : Sl → D → Sl
  | .ow _, d => .ow d
  | .ln _, d => .ln d
  | s, _ => s
def updSlot (i : Nat) (f : D → Option D) : M Unit := fun ρ => match ρ[i]? with
  | some (.ow d) => match f d with
    | some d' => .ok () (ρ.set i (.ow d'))
    | none => .no
  | some (.ln d) => match f d with
    | some d' => .ok () (ρ.set i (.ln d'))
    | none => .no
  | _ => .no
/-- slot i's object at p is written -/
theorem Ok.mut {i : Nat} {p : Addr} {t : Sl} {d' : D} {o : HO} (s : Ok G L c) (e : c.ρ[i]? = some t) (w : isOw t = true) (q : c.σ[i]? = some (some (V.ref p)))
    (ow' : Ow G.N c.F (upd c.H p o) p d') : Ok G L ⟨c.σ, c.ρ.set i (reSl t d'), c.F, upd c.H p o⟩ ∧ Ex G c ⟨c.σ, c.ρ.set i (reSl t d'), c.F, upd c.H p o⟩ := by
  have hi : i < c.ρ.length := (List.getElem?_eq_some_iff.mp e).1
  obtain ⟨p', d, q', ow, ht⟩ := s.own e w
  rw [q] at q'
  cases q'
  have own : c.own G p := .inr ⟨i, t, e, w, q⟩
  have wre : isOw (reSl t d') = true := by rcases ht with rfl | rfl <;> rfl
  have at_ : ∀ (j : Nat) (u : Sl), (c.ρ.set i (reSl t d'))[j]? = some u → (j = i ∧ u = reSl t d') ∨ (j ≠ i ∧ c.ρ[j]? = some u) := fun j u z => by
    by_cases hj : j = i
    · subst hj
      rw [List.getElem?_set_self hi] at z
      exact .inl ⟨rfl, (Option.some.inj z).symm⟩
    · rw [List.getElem?_set_ne (Ne.symm hj)] at z
      exact .inr ⟨hj, z⟩
  have keepF : ∀ b, c.F b → upd c.H p o b = c.H b := fun b f => upd_ne fun y => by subst y; exact s.notOwn f own
  have ownN : ∀ b, Own G c.σ (c.ρ.set i (reSl t d')) b → c.own G b := fun b z => by
    rcases z with z | ⟨j, u, z, wu, qj⟩
    · exact .inl z
    · rcases at_ j u z with ⟨ej, eu⟩ | ⟨hj, zj⟩
      · subst ej
        exact .inr ⟨j, t, e, w, qj⟩
      · exact .inr ⟨j, u, zj, wu, qj⟩
  refine ⟨⟨?_, ?_, ?_, ?_, ?_, fun b f => ?_, ?_⟩, ⟨fun b u z n => ?_, fun _ z => z, fun _ z => .inl z, fun b z => .inl (ownN b z)⟩⟩
  · rw [List.length_set]; exact s.len
  · intro j u z
    rcases at_ j u z with ⟨ej, eu⟩ | ⟨hj, zj⟩
    · rw [eu, ej]
      rcases ht with rfl | rfl
      · exact ⟨p, q, ow'⟩
      · exact ⟨p, q, ow'⟩
    · refine (s.sl j u zj).mono (fun _ f => f) keepF fun wu b qb => ?_
      obtain ⟨b', dd, qb', owb, _⟩ := s.own zj wu
      rw [qb] at qb'
      cases qb'
      refine ⟨owb.nf, upd_ne fun y => ?_⟩
      subst y
      exact s.sep j i u t _ hj zj wu e w qb q
  · intro j k u x p hjk z0 wu z2 ww q1 q2
    rcases at_ j u z0 with ⟨ej, eu⟩ | ⟨hj, zj⟩
    · subst ej
      rcases at_ k x z2 with ⟨ek, ew⟩ | ⟨hk, zk⟩
      · exact hjk ek.symm
      · exact s.sep j k t x p hjk e w zk ww q1 q2
    · rcases at_ k x z2 with ⟨ek, ew⟩ | ⟨hk, zk⟩
      · subst ek
        exact s.sep j k u t p hjk zj wu e w q1 q2
      · exact s.sep j k u x p hjk zj wu zk ww q1 q2
  · intro j pp z
    obtain ⟨h1, d2, h2⟩ := s.lent j pp z
    refine ⟨h1, ?_⟩
    by_cases hj : j = i
    · subst hj
      rw [e] at h2
      refine ⟨d', .inl ?_⟩
      show (c.ρ.set j (reSl t d'))[j]? = _
      rw [List.getElem?_set_self hi]
      rcases h2 with h2 | h2
      · cases h2; rfl
      · cases h2; cases w
    · refine ⟨d2, ?_⟩
      show (c.ρ.set i (reSl t d'))[j]? = _ ∨ (c.ρ.set i (reSl t d'))[j]? = _
      rw [List.getElem?_set_ne (Ne.symm hj)]
      exact h2
  · intro j d2 z
    have go : ∀ u : Sl, (u = .ln d2 ∨ u = .lf d2) → (c.ρ.set i (reSl t d'))[j]? = some u → ∃ a, L[j]? = some (some a) := fun u hu z => by
      rcases at_ j u z with ⟨ej, eu⟩ | ⟨hj, zj⟩
      · subst ej
        rcases ht with rfl | rfl
        · rcases hu with rfl | rfl <;> cases eu
        · exact s.lnL j d (.inl e)
      · rcases hu with rfl | rfl
        · exact s.lnL j d2 (.inl zj)
        · exact s.lnL j d2 (.inr zj)
    rcases z with z | z
    · exact go _ (.inl rfl) z
    · exact go _ (.inr rfl) z
  · obtain ⟨⟨u, z⟩, n⟩ := s.trk b f
    exact ⟨⟨u, (keepF b f).trans z⟩, n⟩
  · exact G.tabsUpd s.tabs (.inr ow.at)
  · have nb : b ≠ p := fun y => by subst y; exact n own
    exact (upd_ne nb).trans z
theorem updSlot_req {i : Nat} {f : D → Option D} {ρ : Rho} {P : Unit → Cf → Prop} (h : ReqS G L W c (updSlot i f ρ) P) : ∃ t d d', ρ[i]? = some t ∧ isOw t = true ∧ (t = .ow d ∨ t = .ln d) ∧ f d = some d' ∧ ReqS G L W c (.ok () (ρ.set i (reSl t d'))) P := by
  unfold updSlot at h
  split at h
  · rename_i d e
    cases ef : f d with
    | none => rw [ef] at h; exact h.elim
    | some d' => rw [ef] at h; exact ⟨_, d, d', e, rfl, .inl rfl, ef, h⟩
  · rename_i d e
    cases ef : f d with
    | none => rw [ef] at h; exact h.elim
    | some d' => rw [ef] at h; exact ⟨_, d, d', e, rfl, .inr rfl, ef, h⟩
  · exact h.elim
theorem updSlot_reqE {i : Nat} {f : D → Option D} {ρ : Rho} {P : Unit → Cf → Prop} (h : Req G L W c (updSlot i f ρ) P) : ∃ t d d', ρ[i]? = some t ∧ isOw t = true ∧ (t = .ow d ∨ t = .ln d) ∧ f d = some d' ∧ Req G L W c (.ok () (ρ.set i (reSl t d'))) P := by
  unfold updSlot at h
  split at h
  · rename_i d e
    cases ef : f d with
    | none => rw [ef] at h; exact h.elim
    | some d' => rw [ef] at h; exact ⟨_, d, d', e, rfl, .inl rfl, ef, h⟩
  · rename_i d e
    cases ef : f d with
    | none => rw [ef] at h; exact h.elim
    | some d' => rw [ef] at h; exact ⟨_, d, d', e, rfl, .inr rfl, ef, h⟩
  · exact h.elim
/-- xs[i] = v of a list -/
def putIx (y d : D) : D → Option D
  | .lst l => match y with
    | .int i => (ixN l.length i).map fun j => .lst (l.set j d)
    | _ => none
  | _ => none
def gIx (k : Nat) (mi : M D) (d : D) : M Unit := evLook k (mi.bind fun y => updSlot k (putIx y d))
theorem SG.ix (k : Nat) {x : Str} {p : Pos} {mi : M D} (hN : X.N[k]? = some x) (hv : Vis X.env.scope x) (hi : SD X W G L b mi)
    (ha : ∀ v, assign (.Subscript (.Name x p) b pos) X.env v = (do
      let ov ← holding [v] (eval (.Name x p) X.env)
      let iv ← holding [v, ov] (eval b X.env)
      standAt pos
      holding [v, ov, iv] (setItem ov iv v)
      release [v, ov, iv] []) := by intro _; rfl) (hd : (x == ("__debug__" : Str)) = false := by decide) (hcd : (x == ("__classdict__" : Str)) = false := by decide) : SG X W G L (.Subscript (.Name x p) b pos) (gIx k mi) := by
  obtain ⟨tb, pb, qb⟩ := hi.ex
  refine ⟨_, pg_sub (pe_var hN hv hd hcd) pb set_list ha, fun c v d Q s rv h => ?_⟩
  unfold gIx evLook at h
  cases es : slotD c.ρ k with
  | none => rw [es] at h; exact h.elim
  | some d0 =>
    rw [es] at h
    obtain ⟨o, h1, _⟩ := look (x := x) s es
    refine ⟨o, h1, ?_⟩
    refine qb c _ s (h.bindE.imp fun y c1 _ e1 x1 s1 h2 u ru => ?_)
    obtain ⟨t, dd, d', et, w, ht, ef, h2⟩ := updSlot_req h2
    obtain ⟨p, d2, q, ow, ht2⟩ := s1.own et w
    have e3 : d2 = dd := by rcases ht with rfl | rfl <;> rcases ht2 with z | z <;> cases z <;> rfl
    subst e3
    rw [e1, h1] at q
    cases q
    cases d2 with
    | lst l =>
      cases y with
      | int i =>
        cases ru
        obtain ⟨nf, xs, hx, ll⟩ := ow
        obtain ⟨j, ej, rfl⟩ := Option.map_eq_some_iff.mp (show (ixN l.length i).map _ = some d' from ef)
        refine ⟨p, xs, i, j, rfl, rfl, hx, by rw [ll.length]; exact ej, ?_⟩
        have rv1 := x1.rp s rv
        have ke : ∀ b, c1.F b → upd c1.H p (.lst (xs.set j v)) b = c1.H b := fun b f => upd_ne fun z => by subst z; exact nf f
        obtain ⟨s2, x2⟩ := Ok.mut (o := .lst (xs.set j v)) (d' := .lst (l.set j d)) s1 et w (by rw [e1]; exact h1) ⟨nf, _, upd_same, (ll.set rv1 j).mono (fun _ f => f) ke⟩
        have h3 := h2 _ _ _ x2 s2
        rw [e1] at h3
        exact h3
      | _ => cases ef
    | _ => cases ef
/-- xs.append(e), a slot's list -/
def app1 (d : D) : D → Option D
  | .lst l => if decide (l.length < 16777216) then some (.lst (l ++ [d])) else none
  | _ => none
def isLst : D → Bool
  | .lst _ => true
  | _ => false
def evLookL {α : Type} (i : Nat) (m : M α) : M α := fun ρ => match slotD ρ i with
  | some d => if isLst d = true then m ρ else .no
  | none => .no
theorem lookL {i : Nat} {d : D} {x : Str} (s : Ok G L c) (h : slotD c.ρ i = some d) (hl : isLst d = true) : ∃ p xs, c.σ[i]? = some (some (V.ref p)) ∧ Rd c.H p (.lst xs) := by
  obtain ⟨v, h1, h2⟩ := look (x := x) s h
  cases d with
  | lst l =>
    rcases h2 with h2 | ⟨a, rfl, _, xs, q, _⟩
    · cases h2 with
      | lst f r ll => exact ⟨_, _, h1, .inl r⟩
    · exact ⟨a, xs, h1, .inl q⟩
  | _ => cases hl
/-- a list's method that changes it -/
def MutOk (G : Gc) (r : V → List V → Hp → VK → Prop) (f : List D → D → Option D) : Prop := ∀ (F : Fz) (H : Hp) (p : Addr) (xs : List V) (l : List D) (vs : List V) (ds : List D) (d' : D) (Q : VK), ¬ F p → H p = some (.lst xs) → RpL G.N F H xs l → RpL G.N F H vs ds → f ds (.lst l) = some d' →
  (∀ ys, (∃ l', d' = .lst l' ∧ RpL G.N F H ys l') → Q .non (upd H p (.lst ys))) → r (.ref p) vs H Q
def onLst (f : D → Option D) : D → Option D
  | .lst l => f (.lst l)
  | _ => none
def evMut (k : Nat) (f : List D → D → Option D) (m : M (List D)) : M D := evLookL k (m.bind fun ds => M.bind (updSlot k (onLst (f ds))) fun _ => mpure .non)
theorem SD.mut (k : Nat) {x : Str} {name : Str} {id : String} {p ap : Pos} {es : List Expr} {m : M (List D)} {r : V → List V → Hp → VK → Prop} {f : List D → D → Option D} (slot : Slot "list" name id) (hty : typeOf (.builtin id) = pure (.type "method_descriptor")) (hm : MtR X id r) (hf : MutOk G r f)
    (hN : X.N[k]? = some x) (hv : Vis X.env.scope x) (h : SA X W G L (e :: es) m)
    (hbase : attributeBase (.Name x p) name X.env (eval (.Name x p) X.env) = eval (.Name x p) X.env := by rfl)
    (hfew : ((backTo pos (starEach (e :: es) X.env)).all (fun x => !x.1) && (backToKw pos (keywordEach [] X.env)).all (fun x => x.1.isSome)
      && decide ((e :: es).length + ([] : List Keyword).length + (if ([] : List Keyword).isEmpty then 0 else 1) < 30)) = true := by rfl)
    (hline : (ap.endLine == pos.line) = true := by rfl) (hs : starEach (e :: es) X.env = (false, eval e X.env) :: starEach es X.env := by rfl) (hplain : (backTo pos (starEach es X.env)).any (·.1) = false := by rfl)
    (hd : (x == ("__debug__" : Str)) = false := by decide) (hcd : (x == ("__classdict__" : Str)) = false := by decide) : SD X W G L (.Call (.Attribute (.Name x p) name ap) (e :: es) [] pos) (evMut k f m) := by
  obtain ⟨t, pa, q⟩ := h.ex
  refine ⟨_, pe_bm PySem.F.plainAttrs_list slot hty hm (pe_var hN hv hd hcd) pa hbase hfew hline hs hplain, fun c Q s h => ?_⟩
  unfold evMut evLookL at h
  cases es : slotD c.ρ k with
  | none => rw [es] at h; exact h.elim
  | some d0 =>
    rw [es] at h
    by_cases hl : isLst d0 = true
    · simp only [hl, if_true] at h
      obtain ⟨a, xs0, h1, ho⟩ := lookL (x := x) s es hl
      refine ⟨.ref a, h1, .inl ⟨rfl, _, .inl ho⟩, ?_⟩
      refine q c _ s ((Req.bind h).imp fun ds c1 _ e1 x1 s1 h2 vs rv => ?_)
      have h2 := updSlot_reqE (f := onLst (f ds)) (P := fun _ c2 => Req G L W c2 (mpure D.non c2.ρ) (fun d c' => ∀ v, Rp G.N c'.F c'.H v d → Q v c'.H)) (Req.bind h2)
      obtain ⟨t, dd, d', et, w, ht, ef, h2⟩ := h2
      obtain ⟨p, d2, q, ow, ht2⟩ := s1.own et w
      have e3 : d2 = dd := by rcases ht with rfl | rfl <;> rcases ht2 with z | z <;> cases z <;> rfl
      subst e3
      have q' := q
      rw [e1, h1] at q
      cases q
      cases d2 with
      | lst l =>
        obtain ⟨nf, xs, hx, ll⟩ := ow
        refine hf c1.F c1.H a xs l vs ds d' Q nf hx ll rv ef fun ys ⟨l', el, ry⟩ => ?_
        subst el
        have ke : ∀ b, c1.F b → upd c1.H a (.lst ys) b = c1.H b := fun b f => upd_ne fun z => by subst z; exact nf f
        obtain ⟨s2, x2⟩ := Ok.mut (o := .lst ys) (d' := .lst l') s1 et w q' ⟨nf, _, upd_same, ry.mono (fun _ f => f) ke⟩
        exact Req.here (c := ⟨c1.σ, c1.ρ.set k (reSl t (.lst l')), c1.F, upd c1.H a (.lst ys)⟩) (r := D.non) (h2 _ _ x2 s2) s2 _ .non
      | _ => cases ef
    · simp only [hl] at h
      exact h.elim
def fApp : List D → D → Option D
  | [d], .lst l => if l.length < 16777216 then some (.lst (l ++ [d])) else none
  | _, _ => none
theorem fApp_ok : MutOk G rAppend fApp := by
  intro F H p xs l vs ds d' Q nf hx ll rv ef hq
  unfold fApp at ef
  split at ef
  · rename_i d l0 z
    cases z
    cases rv with
    | cons r1 r2 =>
      cases r2
      split at ef
      · rename_i hz
        cases ef
        exact ⟨p, xs, _, rfl, rfl, hx, by rw [ll.length, sizeLine_eq]; exact hz, hq _ ⟨_, rfl, ll.append (.cons r1 .nil)⟩⟩
      · cases ef
  · cases ef
/-! ### isinstance -/
/-- the kinds of built-in values -/
inductive Tg where | non | bool | int | str | list | tuple | dict
def Tg.nm : Tg → String
  | .non => "NoneType" | .bool => "bool" | .int => "int" | .str => "str" | .list => "list" | .tuple => "tuple" | .dict => "dict"
def subTy : Tg → Ty → Bool
  | .bool, .bool => true
  | .bool, .int => true
  | .int, .int => true
  | .str, .str => true
  | .list, .list => true
  | .tuple, .tuple => true
  | .dict, .dict => true
  | _, _ => false
theorem subTy_ok {K : PySem.W.Frag} (t : Tg) (n : Ty) : PySem.W.kitOne K (.type t.nm) (.type n.nm) = some (subTy t n) := by
  cases t <;> cases n <;> exact kit_ty (by decide +kernel)
def tgOf : D → Option Tg
  | .non => some .non
  | .bl _ => some .bool
  | .int _ => some .int
  | .str _ => some .str
  | .lst _ => some .list
  | .tup _ => some .tuple
  | .dic _ => some .dict
  | _ => none
theorem tgOf_ok {K : PySem.W.Frag} {F : Fz} {H : Hp} {v : V} {d : D} {t : Tg} (r : Rp G.N F H v d) (h : tgOf d = some t) : TyX K H v (.type t.nm) := by
  cases r with
  | non => cases h; exact .base .non
  | bl b => cases h; exact .base (.bl b)
  | int i => cases h; exact .base (.int i)
  | str x => cases h; exact .base (.str x)
  | lst f r l =>
    cases h
    exact .base (.lst r)
  | tup f r l =>
    cases h
    exact .base (.tup r)
  | dic f r l => cases h; exact .base (.dK r)
  | _ => cases h
def isOne (d : D) : D → Option Bool
  | .ty n => (tgOf d).map fun t => subTy t n
  | _ => none
def allTy : List D → Option (List Ty)
  | [] => some []
  | .ty n :: l => (allTy l).map (n :: ·)
  | _ => none
def isAny (d : D) (l : List D) : Option Bool := match allTy l, tgOf d with
  | some ns, some t => some (ns.any (subTy t))
  | _, _ => none
def bIsi : List D → Option Vl
  | [d, .tup l] => (isAny d l).map fun b => .fz (.bl b)
  | [d, c] => (isOne d c).map fun b => .fz (.bl b)
  | _ => none
theorem isOne_ok {K : PySem.W.Frag} {F : Fz} {H : Hp} {v u : V} {d c : D} {b : Bool} (rd : Rp G.N F H v d) (rc : Rp G.N F H u c) (h : isOne d c = some b) : ∃ t w, ClsV u w ∧ TyX K H v t ∧ PySem.W.kitOne K t w = some b := by
  cases c with
  | ty n =>
    cases rc
    obtain ⟨t, e, rfl⟩ := Option.map_eq_some_iff.mp (show (tgOf d).map _ = some b from h)
    exact ⟨_, _, .ty _, tgOf_ok rd e, subTy_ok t n⟩
  | _ => cases h
theorem allTy_ok {F : Fz} {H : Hp} : ∀ {l : List D} {us : List V} {ns : List Ty}, RpL G.N F H us l → allTy l = some ns → us = ns.map fun n => .ty n.nm
  | [], _, _, r, h => by cases r; cases h; rfl
  | c :: l, _, _, r, h => by
    cases r with
    | cons r1 r2 =>
      cases c with
      | ty n =>
        obtain ⟨ms, e, rfl⟩ := Option.map_eq_some_iff.mp (show (allTy l).map (n :: ·) = some _ from h)
        cases r1
        rw [allTy_ok r2 e]
        rfl
      | _ => cases h
theorem clsV_all : ∀ ns : List Ty, Paired ClsV (ns.map fun n => V.ty n.nm) (ns.map fun n => Value.type n.nm)
  | [] => .nil
  | n :: ns => .cons (.ty _) (clsV_all ns)
theorem kitAny_ty {K : PySem.W.Frag} {t : Tg} : ∀ ns : List Ty, PySem.W.kitAny K (.type t.nm) (ns.map fun n => Value.type n.nm) = some (ns.any (subTy t))
  | [] => rfl
  | n :: ns => by
    cases es : subTy t n with
    | true => exact kitAny_cons ((subTy_ok t n).trans (by rw [es])) (fun z => by cases z) (fun _ => by simp [es])
    | false => exact kitAny_cons ((subTy_ok t n).trans (by rw [es])) (fun _ => by rw [kitAny_ty ns]; simp [es]) (fun z => by cases z)
theorem CallR.or {id : Value} {r r' : List V → Hp → VK → Prop} (h : CallR X id r) (h' : CallR X id r') : CallR X id (fun xs H Q => r xs H Q ∨ r' xs H Q) := by
  intro pins s σ H xs us Q I rx q
  rcases q with q | q
  · exact h pins s σ H xs us Q I rx q
  · exact h' pins s σ H xs us Q I rx q
theorem bIsi_ok : CallOk X W G L (fun xs H Q => rIsi X.K xs H Q ∨ rIsiT X.K xs H Q) bIsi := by
  intro c0 c ds vs Q _ ex s r hr
  obtain ⟨w, er, hr⟩ := liftO_req hr
  unfold bIsi at er
  split at er
  · rename_i d l
    obtain ⟨b, e, rfl⟩ := Option.map_eq_some_iff.mp er
    unfold isAny at e
    split at e
    · rename_i ns t e1 e2
      cases e
      cases r with
      | cons r1 r2 =>
        cases r2 with
        | cons r2 r3 =>
          cases r3
          cases r2 with
          | tup f rr ll =>
            have h1 := allTy_ok ll e1
            subst h1
            exact .inr ⟨_, _, _, _, _, _, rfl, rr, clsV_all ns, tgOf_ok r1 e2, kitAny_ty ns, Req.here hr s _ (.bl _)⟩
    · cases e
  · rename_i d cc hn
    obtain ⟨b, e, rfl⟩ := Option.map_eq_some_iff.mp er
    cases r with
    | cons r1 r2 =>
      cases r2 with
      | cons r2 r3 =>
        cases r3
        obtain ⟨t, w, z1, z2, z3⟩ := isOne_ok r1 r2 e
        exact .inl ⟨_, _, t, w, b, rfl, z1, z2, z3, Req.here hr s _ (.bl _)⟩
  · cases er
theorem call_isi' : CallR X (.builtin "isinstance") (fun xs H Q => rIsi X.K xs H Q ∨ rIsiT X.K xs H Q) := CallR.or call_isi call_isiT
end
end Ev

/-! EvF: defs: their promises by their plain meaning; calls. -/
namespace Ev
open PySem PySem.Spec PyProof.Rows L2

/-! ### room with no repr under way -/
structure RoomG (k : Nat) (A : Around) : Prop where
  room : Room k A
  gd : A.guards = some []
theorem RoomG.mono {j k : Nat} {A : Around} (r : RoomG k A) (h : j ≤ k) : RoomG j A := ⟨r.room.mono h, r.gd⟩
theorem RoomG.deeper {k : Nat} {A : Around} (r : RoomG (k + 1) A) (env : Env) : RoomG k (A.deeper env) := ⟨r.room.deeper env, r.gd⟩
structure FnG (P : Program) (w : World) (K : PySem.W.Frag) (mg : Str → Option Value) (base : Heap) (CX : CXT) (k : Nat) (f : Addr) (fd : FuncData) (ps : List Str) (sp : Sp) : Prop where
  len : ∀ vs H Q E, sp vs H Q E → vs.length = ps.length
  run : ∀ (A : Around) (outer : List Env) (s : Shared) (H : Hp) (args : Args) (us : List Value) (vs : List V) (Q : VK) (E : XK), RoomG k A → Env0 P w K mg base A outer s H → BindsTo s fd args (ps.zip us) → Vals vs us → sp vs H Q E →
    codeAny (model P w) A (.call (.ref f) args) (CR CX outer P w H s Q E) s
theorem FnG.mono {P : Program} {w : World} {K : PySem.W.Frag} {mg : Str → Option Value} {base : Heap} {CX : CXT} {j k : Nat} {f : Addr} {fd : FuncData} {ps : List Str} {sp : Sp} (F : FnG P w K mg base CX j f fd ps sp) (h : j ≤ k) :
    FnG P w K mg base CX k f fd ps sp := ⟨F.len, fun A outer s H args us vs Q E hr => F.run A outer s H args us vs Q E (hr.mono h)⟩
/-- the heap at a call holds what the ground holds -/
theorem grounded {P : Program} {w : World} {K : PySem.W.Frag} {mg : Str → Option Value} {base : Heap} {A : Around} {outer : List Env} {s : Shared} {H : Hp} (g : Env0 P w K mg base A outer s H) : K.In s.heap ∧ s.heap.NoLimit :=
  have st : ∀ b o, base.get? b = some o → s.heap.get? b = some o := fun b o q => (g.bs b o q).1
  ⟨g.mod.kin.keeps st, g.mod.nolimit.keeps st⟩
/-- a def by its body, with no repr under way -/
theorem fn_ofG {CX : CXT} {P : Program} {w : World} {K : PySem.W.Frag} {mg : Str → Option Value} {base : Heap} {k : Nat} {f : Addr} {name qual : Str} {params : Arguments} {body : List Stmt} {scope : Scope} {dV kV doc pm cdv ct oc : Value} {an od : Option Addr}
    {osl : Array (Option Value)} {N ps : List Str} {sp : Sp} (at_ : K.lookup f = some ⟨oc, od, .func (PySem.W.fnOf name qual params body scope dV kV doc pm an cdv ct), osl⟩) (code : PySem.W.codeIn K cdv qual = true) (S : FnScope N ps scope)
    (many : ∀ vs H Q E, sp vs H Q E → vs.length = ps.length)
    (inside : ∀ (A : Around) (outer : List Env) (s : Shared) (H : Hp) (vs : List V) (Q : VK) (E : XK), RoomG k (A.deeper (envOfC qual scope s.heap.objs.size f cdv)) → sp vs H Q E →
      ∃ t, PSs (cxOf CX P w K mg base N qual scope f cdv A outer s H E) body t ∧ t { nx := fun _ H' => Q .non H', rt := Q } (start N vs) H) :
    FnG P w K mg base CX (k + 1) f (PySem.W.fnOf name qual params body scope dV kV doc pm an cdv ct) ps sp where
  len := many
  run := by
    intro A outer s H args us vs Q E room g binds vals wish
    obtain ⟨kin, nolim⟩ := grounded g
    -- each parameter is a name of the frame, or a cell of it
    have place : ∀ y ∈ ps.zip us, scope.names.lookup y.1 = some .local ∨ (scope.names.lookup y.1 = some .cell ∧ ((cellsFrom (s.heap.objs.size + 1) scope.names []).lookup y.1).isSome = true) := by
      intro y hy
      have := S.par y.1 (List.of_mem_zip (show (y.1, y.2) ∈ ps.zip us from hy)).1
      exact this.imp id fun q => ⟨q, PySem.W.cellsFrom_some _ _ _ (.inl q)⟩
    refine codeAny_call_function room.room.depth (kin _ _ at_) rfl S.co S.gen rfl (PySem.W.codeRec_of kin code) (binds _ _ _ _ ?_)
    refine wpAny_newFunctionEnv_cells S.kind place fun env he s1 begun => ?_
    cases he
    refine ⟨nolim.keeps begun.toInCall.keep, codeAny_func ?_⟩
    obtain ⟨t, walk, reads⟩ := inside A outer s H vs Q E (room.deeper _) wish
    have first := inv_start (CX := CX) (E := E) S room.room.hd g (many _ _ _ _ wish) vals begun
    refine wpAny_mono (walk.run [] s1 (start N vs) H _ first reads) (fun fl s' ends => ?_) fun e s' q => q
    cases fl with
    | brk => exact (ends.elim fun _ q => q.elim fun _ q => q.2.elim)
    | cont => exact (ends.elim fun _ q => q.elim fun _ q => q.2.elim)
    | next =>
      obtain ⟨σ', H', J, q⟩ := ends
      exact ⟨.non, H', J.os, J.bare, J.base, J.hok, rfl, q⟩
    | ret u =>
      obtain ⟨v, σ', H', J, rel, q⟩ := ends
      exact ⟨v, H', J.os, J.bare, J.base, J.hok, rel, q⟩

/-! ### the plain meaning as a promise -/
/-- which arguments are lent -/
def lentOf : List V → List Sl → Lt
  | .ref a :: vs, .ln _ :: as => some a :: lentOf vs as
  | _ :: vs, _ :: as => none :: lentOf vs as
  | _, _ => []
def cleanA : Sl → Bool
  | .fz _ => true
  | .ln _ => true
  | .cl _ => true
  | _ => false
def argC (vs : List V) (as : List Sl) (F : Fz) (H : Hp) : Cf := ⟨vs.map some, as, F, H⟩
def ReqF (G : Gc) (vs : List V) (as : List Sl) (F : Fz) (H : Hp) (o : FOut) (Q : VK) (E : XK) : Prop := match o with
  | .ok r outs => ∀ F' H', Ex G (argC vs as F H) (argC vs outs F' H') → Ok G (lentOf vs as) (argC vs outs F' H') → ∀ v, VR G (argC vs as F H) (argC vs outs F' H') v r → Q v H'
  | .ex d outs => ∀ F' H', Ex G (argC vs as F H) (argC vs outs F' H') → Ok G (lentOf vs as) (argC vs outs F' H') → ∀ cls dd, XR G F' H' cls dd d → E cls dd H'
  | .no => False
def spEv (G : Gc) (φ : Fn) (n : Nat) : Sp := fun vs H Q E => vs.length = n ∧ ∃ (F : Fz) (as : List Sl), (∀ s ∈ as, cleanA s = true) ∧ Ok G (lentOf vs as) (argC vs as F H) ∧ ReqF G vs as F H (φ as) Q E
def outsOf : List Sl → Rho → List Sl
  | .ln _ :: as, s :: ρ => s :: outsOf as ρ
  | a :: as, _ :: ρ => a :: outsOf as ρ
  | as, [] => as
  | [], _ => []
/-- the meaning of a def by that of its body -/
def withOuts (as : List Sl) (ρ : Rho) (f : List Sl → FOut) : FOut := if as.length ≤ ρ.length then f (outsOf as ρ) else .no
def fnSem (m : M Fl) (z : Nat) : Fn := fun as => match m (as ++ List.replicate (z - as.length) .un) with
  | .ok (.rt r) ρ => withOuts as ρ (.ok r)
  | .ok .nx ρ => withOuts as ρ (.ok (.fz .non))
  | .ok _ _ => .no
  | .ex e ρ => withOuts as ρ (.ex e)
  | .no => .no
theorem outsOf_get : ∀ {as : List Sl} {ρ : Rho} {i : Nat} {s : Sl}, as.length ≤ ρ.length → (outsOf as ρ)[i]? = some s → ∃ a, as[i]? = some a ∧ (((∃ d, a = .ln d) ∧ ρ[i]? = some s) ∨ ((∀ d, a ≠ .ln d) ∧ s = a))
  | [], ρ, i, s, _, h => by cases ρ <;> simp [outsOf] at h
  | a :: as, [], i, s, hl, h => by simp at hl
  | a :: as, r :: ρ, 0, s, hl, h => by
    cases a with
    | ln d => simp [outsOf] at h; subst h; exact ⟨_, rfl, .inl ⟨⟨d, rfl⟩, rfl⟩⟩
    | _ => simp [outsOf] at h; subst h; exact ⟨_, rfl, .inr ⟨fun d z => (by cases z), rfl⟩⟩
  | a :: as, r :: ρ, i + 1, s, hl, h => by
    have hl' : as.length ≤ ρ.length := by simpa using hl
    have h' : (outsOf as ρ)[i]? = some s := by cases a <;> simpa [outsOf] using h
    obtain ⟨b, e, q⟩ := outsOf_get (i := i) hl' h'
    exact ⟨b, by simpa using e, by simpa using q⟩
theorem outsOf_length : ∀ {as : List Sl} {ρ : Rho}, as.length ≤ ρ.length → (outsOf as ρ).length = as.length
  | [], ρ, _ => by cases ρ <;> simp [outsOf]
  | a :: as, [], hl => by simp at hl
  | a :: as, r :: ρ, hl => by
    have := outsOf_length (as := as) (ρ := ρ) (by simpa using hl)
    cases a <;> simp [outsOf, this]
theorem lentOf_get : ∀ {vs : List V} {as : List Sl} {i : Nat} {a : Addr}, (lentOf vs as)[i]? = some (some a) → vs[i]? = some (V.ref a) ∧ ∃ d, as[i]? = some (.ln d)
  | [], as, i, a, h => by cases as <;> simp [lentOf] at h
  | v :: vs, [], i, a, h => by cases v <;> simp [lentOf] at h
  | v :: vs, s :: as, 0, a, h => by
    cases v <;> cases s <;> simp [lentOf] at h
    subst h
    exact ⟨rfl, _, rfl⟩
  | v :: vs, s :: as, i + 1, a, h => by
    have h' : (lentOf vs as)[i]? = some (some a) := by cases v <;> cases s <;> simpa [lentOf] using h
    obtain ⟨h1, d, h2⟩ := lentOf_get (i := i) h'
    exact ⟨by simpa using h1, d, by simpa using h2⟩
theorem lentOf_ln : ∀ {vs : List V} {as : List Sl} {i : Nat} {a : Addr} {d : D}, vs[i]? = some (V.ref a) → as[i]? = some (.ln d) → (lentOf vs as)[i]? = some (some a)
  | [], as, i, a, d, h, _ => by simp at h
  | v :: vs, [], i, a, d, _, h => by simp at h
  | v :: vs, s :: as, 0, a, d, h, h2 => by
    simp at h h2
    subst h
    subst h2
    rfl
  | v :: vs, s :: as, i + 1, a, d, h, h2 => by
    have := lentOf_ln (vs := vs) (as := as) (i := i) (by simpa using h) (by simpa using h2)
    cases v <;> cases s <;> simpa [lentOf] using this
section
variable {G : Gc} {vs : List V} {as : List Sl} {F F' : Fz} {H H' : Hp} {L : Lt}
theorem args_sig {i : Nat} {v : V} : (vs.map some)[i]? = some (some v) ↔ vs[i]? = some v := by
  rw [List.getElem?_map]
  cases vs[i]? <;> simp
/-- the body's first configuration -/
def bodyC (N : List Str) (vs : List V) (as : List Sl) (F : Fz) (H : Hp) : Cf := ⟨start N vs, as ++ List.replicate (N.length - as.length) .un, F, H⟩
theorem body_rho {N : List Str} {i : Nat} {s : Sl} (h : (bodyC N vs as F H).ρ[i]? = some s) : (as[i]? = some s) ∨ s = .un := by
  have h : (as ++ List.replicate (N.length - as.length) Sl.un)[i]? = some s := h
  by_cases hi : i < as.length
  · rw [List.getElem?_append_left hi] at h
    exact .inl h
  · rw [List.getElem?_append_right (by omega), List.getElem?_replicate] at h
    split at h
    · exact .inr (Option.some.inj h).symm
    · cases h
theorem body_own {N : List Str} (hl : as.length = vs.length) (hn : vs.length ≤ N.length) (b : Addr) : (bodyC N vs as F H).own G b ↔ (argC vs as F H).own G b := by
  constructor
  · rintro (z | ⟨i, s, e, w, q⟩)
    · exact .inl z
    · rcases body_rho e with e | rfl
      · refine .inr ⟨i, s, e, w, ?_⟩
        have hi : i < as.length := (List.getElem?_eq_some_iff.mp e).1
        have q : (vs.map some ++ List.replicate (N.length - vs.length) none)[i]? = some (some (V.ref b)) := q
        rw [List.getElem?_append_left (by rw [List.length_map]; omega)] at q
        exact q
      · cases w
  · rintro (z | ⟨i, s, e, w, q⟩)
    · exact .inl z
    · have hi : i < as.length := (List.getElem?_eq_some_iff.mp e).1
      refine .inr ⟨i, s, ?_, w, ?_⟩
      · show (as ++ List.replicate _ Sl.un)[i]? = some s
        rw [List.getElem?_append_left hi]; exact e
      · show (vs.map some ++ List.replicate _ none)[i]? = _
        rw [List.getElem?_append_left (by rw [List.length_map]; omega)]
        exact q
theorem body_ok {N : List Str} (s : Ok G L (argC vs as F H)) (hn : vs.length ≤ N.length) (hL : ∀ (i : Nat) (a : Addr), L[i]? = some (some a) → vs[i]? = some (V.ref a) ∧ ∃ d : D, as[i]? = some (Sl.ln d)) : Ok G L (bodyC N vs as F H) := by
  have hl : as.length = vs.length := by have := s.len; simpa [argC] using this
  have sig : ∀ i, i < as.length → (bodyC N vs as F H).σ[i]? = (argC vs as F H).σ[i]? := fun i hi => by
    show (vs.map some ++ List.replicate _ none)[i]? = (vs.map some)[i]?
    rw [List.getElem?_append_left (by rw [List.length_map]; omega)]
  have lt : ∀ {i : Nat} {s : Sl}, as[i]? = some s → i < as.length := fun e => (List.getElem?_eq_some_iff.mp e).1
  refine ⟨?_, ?_, ?_, ?_, ?_, s.trk, s.tabs⟩
  · show (as ++ List.replicate _ Sl.un).length = (vs.map some ++ List.replicate _ none).length
    simp only [List.length_append, List.length_replicate, List.length_map]
    omega
  · intro i t e
    rcases body_rho e with e | rfl
    · rw [sig i (lt e)]
      exact s.sl i t e
    · trivial
  · intro i j t u a hij e w e2 w2 q q2
    rcases body_rho e with e | rfl
    · rcases body_rho e2 with e2 | rfl
      · rw [sig i (lt e)] at q
        rw [sig j (lt e2)] at q2
        exact s.sep i j t u a hij e w e2 w2 q q2
      · cases w2
    · cases w
  · intro i a e
    obtain ⟨h1, d, h2⟩ := hL i a e
    refine ⟨?_, d, .inl ?_⟩
    · rw [sig i (lt h2)]
      exact args_sig.mpr h1
    · show (as ++ List.replicate _ Sl.un)[i]? = _
      rw [List.getElem?_append_left (lt h2)]
      exact h2
  · intro i d e
    have go : ∀ t : Sl, (t = .ln d ∨ t = .lf d) → (bodyC N vs as F H).ρ[i]? = some t → ∃ a, L[i]? = some (some a) := fun t ht e => by
      rcases body_rho e with e | rfl
      · rcases ht with rfl | rfl
        · exact s.lnL i d (.inl e)
        · exact s.lnL i d (.inr e)
      · rcases ht with z | z <;> cases z
    rcases e with e | e
    · exact go _ (.inl rfl) e
    · exact go _ (.inr rfl) e
/-- behind the body: what the caller sees -/
theorem body_end {N : List Str} {σ' : L2.St} {ρ' : Rho} (s : Ok G (lentOf vs as) (argC vs as F H)) (hn : vs.length ≤ N.length) (hcl : ∀ t ∈ as, cleanA t = true) (x : Ex G (bodyC N vs as F H) ⟨σ', ρ', F', H'⟩) (s' : Ok G (lentOf vs as) ⟨σ', ρ', F', H'⟩) (hlen : as.length ≤ ρ'.length) :
    Ex G (argC vs as F H) (argC vs (outsOf as ρ') F' H') ∧ Ok G (lentOf vs as) (argC vs (outsOf as ρ') F' H') ∧ (∀ b, (argC vs (outsOf as ρ') F' H').own G b → Own G σ' ρ' b) := by
  have hl : as.length = vs.length := by have := s.len; simpa [argC] using this
  have sb := body_ok (N := N) s hn (fun i a e => lentOf_get e)
  have kf : ∀ a, F a → H' a = H a := fun a f => x.fz sb f
  have ln : ∀ {i : Nat} {d : D}, as[i]? = some (.ln d) → ∃ a, vs[i]? = some (V.ref a) ∧ σ'[i]? = some (some (V.ref a)) ∧ ∃ d' : D, ρ'[i]? = some (Sl.ln d') ∨ ρ'[i]? = some (Sl.lf d') := fun {i d} e => by
    obtain ⟨a, q, _⟩ := s.sl i _ e
    have q := args_sig.mp q
    obtain ⟨h1, h2⟩ := s'.lent i a (lentOf_ln q e)
    exact ⟨a, q, h1, h2⟩
  have own : ∀ b, (argC vs (outsOf as ρ') F' H').own G b → Own G σ' ρ' b := by
    rintro b (z | ⟨i, t, e, w, q⟩)
    · exact .inl z
    · obtain ⟨a, ea, ⟨⟨d, rfl⟩, e2⟩ | ⟨n, rfl⟩⟩ := outsOf_get hlen e
      · obtain ⟨a, h1, h2, _⟩ := ln ea
        have q := args_sig.mp q
        rw [h1] at q
        cases q
        exact .inr ⟨i, t, e2, w, h2⟩
      · have cl := hcl t (List.mem_of_getElem? ea)
        cases t with
        | ln d => exact absurd rfl (n d)
        | ow d => cases cl
        | _ => cases w
  refine ⟨⟨fun b o e n => x.keep b o e fun z => n ((body_own hl hn b).mp z), x.mono, fun b f => (x.new b f).imp id (fun z => z.imp id fun z => (body_own hl hn b).mp z), fun b z => (x.sub b (own b z)).imp (fun z => (body_own hl hn b).mp z) id⟩, ⟨?_, ?_, ?_, ?_, ?_, s'.trk, s'.tabs⟩, own⟩
  · show (outsOf as ρ').length = (vs.map some).length
    rw [outsOf_length hlen, List.length_map, hl]
  · intro i t e
    obtain ⟨a, ea, ⟨⟨d, rfl⟩, e2⟩ | ⟨n, rfl⟩⟩ := outsOf_get hlen e
    · obtain ⟨a, h1, h2, _⟩ := ln ea
      have q := s'.sl i t e2
      show SlR G F' H' (vs.map some)[i]? t
      rw [args_sig.mpr h1, ← h2]
      exact q
    · have cl := hcl t (List.mem_of_getElem? ea)
      refine (s.sl i t ea).mono x.mono kf fun w b q => ?_
      cases t with
      | ln d => exact absurd rfl (n d)
      | ow d => cases cl
      | _ => cases w
  · intro i j t u a hij e w e2 w2 q q2
    obtain ⟨b, eb, ⟨⟨d, rfl⟩, e3⟩ | ⟨n, rfl⟩⟩ := outsOf_get hlen e
    · obtain ⟨b2, eb2, ⟨⟨d2, rfl⟩, e4⟩ | ⟨n2, rfl⟩⟩ := outsOf_get hlen e2
      · obtain ⟨a1, h1, h2, _⟩ := ln eb
        obtain ⟨a2, h3, h4, _⟩ := ln eb2
        have q := args_sig.mp q
        have q2 := args_sig.mp q2
        rw [h1] at q
        rw [h3] at q2
        cases q
        cases q2
        exact s'.sep i j t u _ hij e3 w e4 w2 h2 h4
      · have cl := hcl u (List.mem_of_getElem? eb2)
        cases u with
        | ln d => exact absurd rfl (n2 d)
        | ow d => cases cl
        | _ => cases w2
    · have cl := hcl t (List.mem_of_getElem? eb)
      cases t with
      | ln d => exact absurd rfl (n d)
      | ow d => cases cl
      | _ => cases w
  · intro i a e
    obtain ⟨h1, d, h2⟩ := lentOf_get e
    refine ⟨args_sig.mpr h1, ?_⟩
    obtain ⟨a', h3, h4, d', h5⟩ := ln h2
    have hi : i < as.length := (List.getElem?_eq_some_iff.mp h2).1
    have ho : i < (outsOf as ρ').length := by rw [outsOf_length hlen]; exact hi
    obtain ⟨b, eb, ⟨_, e3⟩ | ⟨n, _⟩⟩ := outsOf_get hlen (List.getElem?_eq_getElem ho)
    · refine ⟨d', ?_⟩
      show (outsOf as ρ')[i]? = _ ∨ (outsOf as ρ')[i]? = _
      rw [List.getElem?_eq_getElem ho, ← e3]
      exact h5
    · rw [h2] at eb
      cases eb
      exact absurd rfl (n d)
  · intro i d e
    have go : ∀ t : Sl, (t = .ln d ∨ t = .lf d) → (outsOf as ρ')[i]? = some t → ∃ a, (lentOf vs as)[i]? = some (some a) := fun t ht e => by
      obtain ⟨b, eb, ⟨⟨d2, rfl⟩, e3⟩ | ⟨n, rfl⟩⟩ := outsOf_get hlen e
      · obtain ⟨a, h1, _, _⟩ := ln eb
        exact ⟨a, lentOf_ln h1 eb⟩
      · have cl := hcl t (List.mem_of_getElem? eb)
        rcases ht with rfl | rfl
        · exact absurd rfl (n d)
        · cases cl
    rcases e with e | e
    · exact go _ (.inl rfl) e
    · exact go _ (.inr rfl) e
end
end Ev

/-! EvG: a def keeps its plain meaning; calls of defs. -/
namespace Ev
open PySem PySem.Spec PyProof.Rows L2

theorem fnSem_req {G : Gc} {m : M Fl} {N : List Str} {vs : List V} {as : List Sl} {F : Fz} {H : Hp} {Q : VK} {E : XK} (s : Ok G (lentOf vs as) (argC vs as F H)) (hn : vs.length ≤ N.length) (hcl : ∀ t ∈ as, cleanA t = true)
    (h : ReqF G vs as F H (fnSem m N.length as) Q E) : ReqS G (lentOf vs as) (fun cls d _ H => E cls d H) (bodyC N vs as F H) (m (bodyC N vs as F H).ρ) (EndsP G { nx := fun _ H' => Q .non H', rt := Q } (bodyC N vs as F H)) := by
  have hl : as.length = vs.length := by have := s.len; simpa [argC] using this
  have h : ReqF G vs as F H (match m (bodyC N vs as F H).ρ with
    | .ok (.rt r) ρ => withOuts as ρ (.ok r)
    | .ok .nx ρ => withOuts as ρ (.ok (.fz .non))
    | .ok _ _ => .no
    | .ex e ρ => withOuts as ρ (.ex e)
    | .no => .no) Q E := h
  generalize hm : m (bodyC N vs as F H).ρ = o at h ⊢
  cases o with
  | no => exact h.elim
  | ex d ρ =>
    intro σ' F' H' x s' cls dd xr
    have h : ReqF G vs as F H (if as.length ≤ ρ.length then FOut.ex d (outsOf as ρ) else .no) Q E := h
    by_cases hz : as.length ≤ ρ.length
    · rw [if_pos hz] at h
      obtain ⟨x1, s1, _⟩ := body_end s hn hcl x s' hz
      exact h F' H' x1 s1 cls dd xr
    · rw [if_neg hz] at h
      exact h.elim
  | ok f ρ =>
    intro σ' F' H' x s'
    cases f with
    | bk => exact h.elim
    | ct => exact h.elim
    | nx =>
      have h : ReqF G vs as F H (if as.length ≤ ρ.length then FOut.ok (.fz .non) (outsOf as ρ) else .no) Q E := h
      by_cases hz : as.length ≤ ρ.length
      · rw [if_pos hz] at h
        obtain ⟨x1, s1, _⟩ := body_end s hn hcl x s' hz
        exact h F' H' x1 s1 .non .non
      · rw [if_neg hz] at h
        exact h.elim
    | rt r =>
      have h : ReqF G vs as F H (if as.length ≤ ρ.length then FOut.ok r (outsOf as ρ) else .no) Q E := h
      by_cases hz : as.length ≤ ρ.length
      · rw [if_pos hz] at h
        obtain ⟨x1, s1, ow⟩ := body_end s hn hcl x s' hz
        intro v rv
        refine h F' H' x1 s1 v ?_
        cases r with
        | fz d => exact rv
        | nw d =>
          obtain ⟨p, z1, z2, z3, z4⟩ := rv
          exact ⟨p, z1, z2, fun z => z3 (ow p z), z4.imp id fun z => (body_own hl hn p).mp z⟩
      · rw [if_neg hz] at h
        exact h.elim
/-- what a body may use -/
structure Bd (X : Cx) (W : WX) (k : Nat) : Prop where
  calm : X.calm = true
  hp : PassesOwn (model X.prog X.w) X.A X.env X.xe
  tk : Takes X W
  room : RoomG k X.A
/-- a def keeps the meaning of its body -/
theorem fn_sound {P : Program} {w : World} {K : PySem.W.Frag} {mg : Str → Option Value} {base : Heap} {G : Gc} {x qual : Str} {st : Stmt} {f : Addr} {fd : FuncData} {N ps : List Str} {k : Nat} {m : M Fl} (F : Fun K x qual st f fd) (S : FnScope N ps (defScope st))
    (hbody : ∀ (cdv : Value) (A : Around) (outer : List Env) (s : Shared) (H : Hp) (E : XK) (L : Lt), Bd (cxOf (L2.CX P w) P w K mg base N qual (defScope st) f cdv A outer s H E) (fun cls d _ H => E cls d H) k →
      SSs (cxOf (L2.CX P w) P w K mg base N qual (defScope st) f cdv A outer s H E) (fun cls d _ H => E cls d H) G L (defBody st) m) :
    FnG P w K mg base (L2.CX P w) (k + 1) f fd ps (spEv G (fnSem m N.length) ps.length) := by
  obtain ⟨oc, od, kV, doc, pm, an, cdv, ct, osl, rfl, lk, hcd⟩ := F.ex
  refine fn_ofG lk hcd S (fun vs H Q E h => h.1) fun A outer s H vs Q E hr hsp => ?_
  obtain ⟨hv, F0, as, hcl, ok, hq⟩ := hsp
  have hpl : ps.length ≤ N.length := by have := congrArg List.length S.pre; rw [List.length_take] at this; omega
  obtain ⟨t, p, q⟩ := (hbody cdv A outer s H E (lentOf vs as) ⟨rfl, passes_of rfl, takes_of rfl rfl rfl rfl, hr⟩).ex
  refine ⟨t, p, ?_⟩
  exact q (bodyC N vs as F0 H) _ (body_ok ok (by omega) fun i a e => lentOf_get e) (fnSem_req ok (by omega) hcl hq)

/-! ### arguments -/
/-- an argument: a frozen value, or what a slot holds -/
inductive Ar where | v (d : D) | r (i : Nat)
inductive RA (G : Gc) (c : Cf) : V → Ar → Prop
  | v {v : V} {d : D} : Rp G.N c.F c.H v d → RA G c v (.v d)
  | r {v : V} {i : Nat} : c.σ[i]? = some (some v) → RA G c v (.r i)
abbrev RAs (G : Gc) (c : Cf) : List V → List Ar → Prop := Paired (RA G c)
structure SR (X : Cx) (W : WX) (G : Gc) (L : Lt) (es : List Expr) (m : M (List Ar)) : Prop where
  ex : ∃ t : TA, PA X es t ∧ ∀ (c : Cf) (Q : List V → Hp → Prop), Ok G L c → Req G L W c (m c.ρ) (fun as c' => ∀ vs, RAs G c' vs as → Q vs c'.H) → t c.σ c.H Q
structure SK (X : Cx) (W : WX) (G : Gc) (L : Lt) (kws : List Keyword) (m : M (List Ar)) : Prop where
  ex : ∃ t : TA, PK X kws t ∧ ∀ (c : Cf) (Q : List V → Hp → Prop), Ok G L c → Req G L W c (m c.ρ) (fun as c' => ∀ vs, RAs G c' vs as → Q vs c'.H) → t c.σ c.H Q
theorem RA.keep {G : Gc} {L : Lt} {c c1 : Cf} {v : V} {a : Ar} (h : RA G c v a) (s : Ok G L c) (x : Ex G c c1) (e : c1.σ = c.σ) : RA G c1 v a := by
  cases h with
  | v r => exact .v (x.rp s r)
  | r q => exact .r (by rw [e]; exact q)
theorem RAs.keep {G : Gc} {L : Lt} {c c1 : Cf} : ∀ {vs : List V} {as : List Ar}, RAs G c vs as → Ok G L c → Ex G c c1 → c1.σ = c.σ → RAs G c1 vs as
  | _, _, .nil, _, _, _ => .nil
  | _, _, .cons r t, s, x, e => .cons (r.keep s x e) (RAs.keep t s x e)
section
variable {X : Cx} {W : WX} {G : Gc} {L : Lt} {e a b : Expr} {pos : Pos} {c c0 c1 : Cf} {es : List Expr} {kws : List Keyword}
theorem SR.nil : SR X W G L [] (mpure []) := ⟨tNil, pa_nil, fun c Q s r => r _ _ Ext.refl s _ .nil⟩
def arCons (ma : M Ar) (mr : M (List Ar)) : M (List Ar) := ma.bind fun x => mr.bind fun xs => mpure (x :: xs)
def arV (m : M D) : M Ar := m.bind fun d => mpure (.v d)
/-- a name handed on as it is -/
def arR (i : Nat) : M Ar := fun ρ => match ρ[i]? with
  | some .un => .no
  | none => .no
  | some _ => .ok (.r i) ρ
theorem SR.cons {ma : M D} {mr : M (List Ar)} (ha : SD X W G L e ma) (hr : SR X W G L es mr) (hs : starEach (e :: es) X.env = (false, eval e X.env) :: starEach es X.env := by rfl) : SR X W G L (e :: es) (arCons (arV ma) mr) := by
  obtain ⟨ta, pa, qa⟩ := ha.ex
  obtain ⟨tb, pb, qb⟩ := hr.ex
  refine ⟨tCons ta tb, pa_cons pa pb hs, fun c Q s h => ?_⟩
  have h : Req G L W c (((ma c.ρ).bind fun d ρ => Out.ok (Ar.v d) ρ).bind fun x => mr.bind fun xs => mpure (x :: xs)) _ := h
  refine qa c _ s ((Req.bind (Req.bind h)).imp fun x c1 _ e1 x1 s1 h1 v rv => ?_)
  have h1 := Req.here (r := Ar.v x) h1 s1
  show tb c.σ c1.H _
  rw [← e1]
  refine qb c1 _ s1 ((Req.bind h1).imp fun y c2 _ e2 x2 s2 h2 u ru => ?_)
  exact Req.here (r := Ar.v x :: y) h2 s2 _ (.cons (.v (x2.rp s1 rv)) ru)
theorem sl_val {i : Nat} {t : Sl} (s : Ok G L c) (e : c.ρ[i]? = some t) (n : t ≠ .un) : ∃ v, c.σ[i]? = some (some v) := by
  have h := s.sl i t e
  cases t with
  | un => exact absurd rfl n
  | ow d => obtain ⟨a, h, _⟩ := h; exact ⟨_, h⟩
  | ln d => obtain ⟨a, h, _⟩ := h; exact ⟨_, h⟩
  | fz d => obtain ⟨a, h, _⟩ := h; exact ⟨_, h⟩
  | lf d => obtain ⟨a, h, _⟩ := h; exact ⟨_, h⟩
  | cl d => obtain ⟨a, h, _⟩ := h; exact ⟨_, h⟩
theorem arR_req {i : Nat} {P : Ar → Cf → Prop} (h : Req G L W c (arR i c.ρ) P) (s : Ok G L c) : (∃ v, c.σ[i]? = some (some v)) ∧ P (.r i) c := by
  unfold arR at h
  cases e : c.ρ[i]? with
  | none => rw [e] at h; exact h.elim
  | some t =>
    rw [e] at h
    cases t with
    | un => exact h.elim
    | _ => exact ⟨sl_val s e (fun z => by cases z), Req.here h s⟩
theorem SR.ref (i : Nat) {x : Str} {p : Pos} {mr : M (List Ar)} (hN : X.N[i]? = some x) (hv : Vis X.env.scope x) (hr : SR X W G L es mr) (hs : starEach (.Name x p :: es) X.env = (false, eval (.Name x p) X.env) :: starEach es X.env := by rfl)
    (hd : (x == ("__debug__" : Str)) = false := by decide) (hcd : (x == ("__classdict__" : Str)) = false := by decide) : SR X W G L (.Name x p :: es) (arCons (arR i) mr) := by
  obtain ⟨tb, pb, qb⟩ := hr.ex
  refine ⟨tCons (tVar i) tb, pa_cons (pe_var hN hv hd hcd) pb hs, fun c Q s h => ?_⟩
  obtain ⟨⟨v, hv⟩, h1⟩ := arR_req (Req.bind h) s
  refine ⟨v, hv, ?_⟩
  refine qb c _ s ((Req.bind h1).imp fun y c2 _ e2 x2 s2 h2 u ru => ?_)
  exact Req.here (r := Ar.r i :: y) h2 s2 _ (.cons (.r (by rw [e2]; exact hv)) ru)
theorem SK.nil : SK X W G L [] (mpure []) := ⟨tNil, pk_nil, fun c Q s r => r _ _ Ext.refl s _ .nil⟩
theorem SK.cons {nm : Option Str} {kpos : Pos} {ma : M D} {mr : M (List Ar)} (ha : SD X W G L e ma) (hr : SK X W G L kws mr) : SK X W G L (⟨nm, e, kpos⟩ :: kws) (arCons (arV ma) mr) := by
  obtain ⟨ta, pa, qa⟩ := ha.ex
  obtain ⟨tb, pb, qb⟩ := hr.ex
  refine ⟨tCons ta tb, pk_cons pa pb, fun c Q s h => ?_⟩
  have h : Req G L W c (((ma c.ρ).bind fun d ρ => Out.ok (Ar.v d) ρ).bind fun x => mr.bind fun xs => mpure (x :: xs)) _ := h
  refine qa c _ s ((Req.bind (Req.bind h)).imp fun x c1 _ e1 x1 s1 h1 v rv => ?_)
  have h1 := Req.here (r := Ar.v x) h1 s1
  show tb c.σ c1.H _
  rw [← e1]
  refine qb c1 _ s1 ((Req.bind h1).imp fun y c2 _ e2 x2 s2 h2 u ru => ?_)
  exact Req.here (r := Ar.v x :: y) h2 s2 _ (.cons (.v (x2.rp s1 rv)) ru)
theorem SK.ref (i : Nat) {nm : Option Str} {kpos : Pos} {x : Str} {p : Pos} {mr : M (List Ar)} (hN : X.N[i]? = some x) (hv : Vis X.env.scope x) (hr : SK X W G L kws mr)
    (hd : (x == ("__debug__" : Str)) = false := by decide) (hcd : (x == ("__classdict__" : Str)) = false := by decide) : SK X W G L (⟨nm, .Name x p, kpos⟩ :: kws) (arCons (arR i) mr) := by
  obtain ⟨tb, pb, qb⟩ := hr.ex
  refine ⟨tCons (tVar i) tb, pk_cons (pe_var hN hv hd hcd) pb, fun c Q s h => ?_⟩
  obtain ⟨⟨v, hv⟩, h1⟩ := arR_req (Req.bind h) s
  refine ⟨v, hv, ?_⟩
  refine qb c _ s ((Req.bind h1).imp fun y c2 _ e2 x2 s2 h2 u ru => ?_)
  exact Req.here (r := Ar.r i :: y) h2 s2 _ (.cons (.r (by rw [e2]; exact hv)) ru)

/-! ### what is handed over, and what comes back -/
def lend : Sl → Option Sl
  | .fz d => some (.fz d)
  | .lf d => some (.fz d)
  | .ow d => some (.ln d)
  | .ln d => some (.ln d)
  | .cl f => some (.cl f)
  | .un => none
def gath (ρ : Rho) : Ar → Option Sl
  | .v d => some (.fz d)
  | .r i => match ρ[i]? with
    | some s => lend s
    | none => none
def gather (ρ : Rho) : List Ar → Option (List Sl)
  | [] => some []
  | a :: as => match gath ρ a, gather ρ as with
    | some s, some ss => some (s :: ss)
    | _, _ => none
def refs : List Ar → List Nat
  | [] => []
  | .v _ :: as => refs as
  | .r i :: as => i :: refs as
def dist : List Nat → Bool
  | [] => true
  | i :: l => !(l.contains i) && dist l
def backSl : Sl → Sl → Sl
  | .ow _, .ln d => .ow d
  | .ow _, .lf d => .fz d
  | .ln _, .ln d => .ln d
  | .ln _, .lf d => .lf d
  | s, _ => s
def findR (i : Nat) : List Ar → List Sl → Option Sl
  | .r j :: as, o :: os => if i = j then some o else findR i as os
  | .v _ :: as, _ :: os => findR i as os
  | _, _ => none
def scat (ars : List Ar) (outs : List Sl) : Nat → Rho → Rho
  | _, [] => []
  | k, s :: ρ => (match findR k ars outs with | some o => backSl s o | none => s) :: scat ars outs (k + 1) ρ
def callAr (φ : Fn) (ars : List Ar) : M Vl := fun ρ => if dist (refs ars) = true then match gather ρ ars with
    | some as => match φ as with
      | .ok r outs => .ok r (scat ars outs 0 ρ)
      | .ex d outs => .ex d (scat ars outs 0 ρ)
      | .no => .no
    | none => .no
  else .no
theorem scat_get {ars : List Ar} {outs : List Sl} : ∀ {ρ : Rho} {k i : Nat}, (scat ars outs k ρ)[i]? = (ρ[i]?).map fun s => match findR (k + i) ars outs with | some o => backSl s o | none => s
  | [], k, i => by simp [scat]
  | s :: ρ, k, 0 => by simp [scat]
  | s :: ρ, k, i + 1 => by
    simp only [scat, List.getElem?_cons_succ]
    rw [scat_get (ρ := ρ) (k := k + 1) (i := i)]
    rw [show k + 1 + i = k + (i + 1) by omega]
theorem scat_length {ars : List Ar} {outs : List Sl} : ∀ {ρ : Rho} {k : Nat}, (scat ars outs k ρ).length = ρ.length
  | [], k => rfl
  | s :: ρ, k => by simp [scat, scat_length (ρ := ρ)]
theorem findR_get : ∀ {ars : List Ar} {outs : List Sl} {i : Nat} {o : Sl}, findR i ars outs = some o → ∃ j : Nat, ars[j]? = some (Ar.r i) ∧ outs[j]? = some o
  | [], outs, i, o, h => by simp [findR] at h
  | .v d :: as, [], i, o, h => by simp [findR] at h
  | .r j :: as, [], i, o, h => by simp [findR] at h
  | .v d :: as, s :: outs, i, o, h => by
    obtain ⟨j, h1, h2⟩ := findR_get (ars := as) (outs := outs) (i := i) (o := o) (by simpa [findR] using h)
    exact ⟨j + 1, by simpa using h1, by simpa using h2⟩
  | .r k :: as, s :: outs, i, o, h => by
    by_cases hk : i = k
    · subst hk
      simp [findR] at h
      exact ⟨0, rfl, by simp [h]⟩
    · obtain ⟨j, h1, h2⟩ := findR_get (ars := as) (outs := outs) (i := i) (o := o) (by simpa [findR, hk] using h)
      exact ⟨j + 1, by simpa using h1, by simpa using h2⟩
theorem findR_some : ∀ {ars : List Ar} {outs : List Sl} {i j : Nat}, ars[j]? = some (.r i) → ars.length = outs.length → ∃ o, findR i ars outs = some o
  | [], outs, i, j, h, _ => by simp at h
  | a :: as, [], i, j, h, hl => by simp at hl
  | .v d :: as, s :: outs, i, 0, h, hl => by simp at h
  | .v d :: as, s :: outs, i, j + 1, h, hl => by
    obtain ⟨o, e⟩ := findR_some (ars := as) (outs := outs) (i := i) (j := j) (by simpa using h) (by simpa using hl)
    exact ⟨o, by simpa [findR] using e⟩
  | .r k :: as, s :: outs, i, j, h, hl => by
    by_cases hk : i = k
    · exact ⟨s, by simp [findR, hk]⟩
    · cases j with
      | zero => simp at h; exact absurd h.symm hk
      | succ j =>
        obtain ⟨o, e⟩ := findR_some (ars := as) (outs := outs) (i := i) (j := j) (by simpa using h) (by simpa using hl)
        exact ⟨o, by simpa [findR, hk] using e⟩
theorem mem_refs : ∀ {ars : List Ar} {i j : Nat}, ars[j]? = some (.r i) → i ∈ refs ars
  | [], i, j, h => by simp at h
  | .v d :: as, i, 0, h => by simp at h
  | .v d :: as, i, j + 1, h => by
    simpa [refs] using mem_refs (ars := as) (i := i) (j := j) (by simpa using h)
  | .r k :: as, i, 0, h => by simp at h; subst h; simp [refs]
  | .r k :: as, i, j + 1, h => by
    have := mem_refs (ars := as) (i := i) (j := j) (by simpa using h)
    simp [refs, this]
theorem dist_inj : ∀ {ars : List Ar} {i j k : Nat}, dist (refs ars) = true → ars[j]? = some (.r i) → ars[k]? = some (.r i) → j = k
  | [], i, j, k, _, h, _ => by simp at h
  | .v d :: as, i, 0, k, _, h, _ => by simp at h
  | .v d :: as, i, j + 1, 0, _, _, h => by simp at h
  | .v d :: as, i, j + 1, k + 1, hd, h, h2 => by
    have := dist_inj (ars := as) (i := i) (j := j) (k := k) (by simpa [refs] using hd) (by simpa using h) (by simpa using h2)
    omega
  | .r n :: as, i, 0, 0, hd, h, h2 => rfl
  | .r n :: as, i, 0, k + 1, hd, h, h2 => by
    simp at h
    subst h
    have := mem_refs (ars := as) (i := n) (j := k) (by simpa using h2)
    simp [refs, dist] at hd
    exact absurd this hd.1
  | .r n :: as, i, j + 1, 0, hd, h, h2 => by
    simp at h2
    subst h2
    have := mem_refs (ars := as) (i := n) (j := j) (by simpa using h)
    simp [refs, dist] at hd
    exact absurd this hd.1
  | .r n :: as, i, j + 1, k + 1, hd, h, h2 => by
    simp [refs, dist] at hd
    have := dist_inj (ars := as) (i := i) (j := j) (k := k) hd.2 (by simpa using h) (by simpa using h2)
    omega
theorem gather_get : ∀ {ρ : Rho} {ars : List Ar} {as : List Sl}, gather ρ ars = some as → as.length = ars.length ∧ ∀ (i : Nat) (a : Ar), ars[i]? = some a → ∃ s, as[i]? = some s ∧ gath ρ a = some s
  | ρ, [], as, h => by simp [gather] at h; subst h; exact ⟨rfl, fun i a h => by simp at h⟩
  | ρ, a :: ars, as, h => by
    unfold gather at h
    cases e1 : gath ρ a with
    | none => rw [e1] at h; cases h
    | some s =>
      cases e2 : gather ρ ars with
      | none => rw [e1, e2] at h; cases h
      | some ss =>
        rw [e1, e2] at h
        cases h
        obtain ⟨h1, h2⟩ := gather_get e2
        refine ⟨by simp [h1], fun i b hb => ?_⟩
        cases i with
        | zero => simp at hb; subst hb; exact ⟨s, rfl, e1⟩
        | succ i => simpa using h2 i b (by simpa using hb)
end
end Ev

/-! EvH: the call rule. -/
namespace Ev
open PySem PySem.Spec PyProof.Rows L2
section
variable {G : Gc} {L : Lt} {c : Cf} {vs : List V} {ars : List Ar} {as : List Sl}
/-- each argument by its place -/
theorem RAs.get : ∀ {vs : List V} {ars : List Ar} {i : Nat} {a : Ar}, RAs G c vs ars → ars[i]? = some a → ∃ v, vs[i]? = some v ∧ RA G c v a
  | _, _, _, _, .nil, h => by simp at h
  | _, _, 0, _, .cons r _, h => by simp at h; subst h; exact ⟨_, rfl, r⟩
  | _, _, i + 1, a, .cons _ t, h => by
    obtain ⟨v, h1, h2⟩ := RAs.get (i := i) t (by simpa using h)
    exact ⟨v, by simpa using h1, h2⟩
theorem lend_lent {s t : Sl} {d : D} (h : lend s = some t) (e : t = .ln d) : isOw s = true ∧ (s = .ow d ∨ s = .ln d) := by
  cases s <;> simp [lend] at h <;> subst h <;> cases e
  · exact ⟨rfl, .inl rfl⟩
  · exact ⟨rfl, .inr rfl⟩
theorem lend_clean {s t : Sl} (h : lend s = some t) : cleanA t = true := by
  cases s <;> simp [lend] at h <;> subst h <;> rfl
/-- the arguments as the callee has them -/
theorem args_ok (s : Ok G L c) (r : RAs G c vs ars) (hd : dist (refs ars) = true) (hg : gather c.ρ ars = some as) :
    Ok G (lentOf vs as) (argC vs as c.F c.H) ∧ (∀ t ∈ as, cleanA t = true) ∧ (∀ b, (argC vs as c.F c.H).own G b → c.own G b) ∧
    (∀ (j : Nat) (t : Sl), as[j]? = some t → isOw t = true → ∃ (i : Nat) (u : Sl) (a : Addr), ars[j]? = some (.r i) ∧ c.ρ[i]? = some u ∧ isOw u = true ∧ vs[j]? = some (V.ref a) ∧ c.σ[i]? = some (some (V.ref a))) := by
  obtain ⟨hl, hget⟩ := gather_get hg
  have hvl : vs.length = ars.length := Paired.length r
  -- an argument's origin
  have at_ : ∀ (j : Nat) (t : Sl), as[j]? = some t → ∃ a v, ars[j]? = some a ∧ vs[j]? = some v ∧ RA G c v a ∧ gath c.ρ a = some t := fun j t e => by
    have hj : j < ars.length := by rw [← hl]; exact (List.getElem?_eq_some_iff.mp e).1
    obtain ⟨t', e1, e2⟩ := hget j _ (List.getElem?_eq_getElem hj)
    rw [e] at e1
    cases e1
    obtain ⟨v, h1, h2⟩ := r.get (List.getElem?_eq_getElem hj)
    exact ⟨_, v, List.getElem?_eq_getElem hj, h1, h2, e2⟩
  have org : ∀ (j : Nat) (t : Sl), as[j]? = some t → isOw t = true → ∃ (i : Nat) (u : Sl) (a : Addr), ars[j]? = some (.r i) ∧ c.ρ[i]? = some u ∧ isOw u = true ∧ vs[j]? = some (V.ref a) ∧ c.σ[i]? = some (some (V.ref a)) := fun j t e w => by
    obtain ⟨a, v, h1, h2, h3, h4⟩ := at_ j t e
    cases h3 with
    | v rp => cases h4; cases w
    | @r i q =>
      unfold gath at h4
      cases eu : c.ρ[i]? with
      | none => simp only [eu] at h4; cases h4
      | some u =>
        simp only [eu] at h4
        have hu : isOw u = true := by
          cases t with
          | ln d => exact (lend_lent h4 rfl).1
          | ow d => have := lend_clean h4; cases this
          | _ => cases w
        obtain ⟨a, d, q2, _⟩ := s.own eu hu
        rw [q] at q2
        cases q2
        exact ⟨i, u, a, h1, eu, hu, h2, q⟩
  have own : ∀ b, (argC vs as c.F c.H).own G b → c.own G b := by
    rintro b (z | ⟨j, t, e, w, q⟩)
    · exact .inl z
    · obtain ⟨i, u, a, h1, h2, h3, h4, h5⟩ := org j t e w
      have q := args_sig.mp q
      rw [h4] at q
      cases q
      exact .inr ⟨i, u, h2, h3, h5⟩
  refine ⟨⟨?_, ?_, ?_, ?_, ?_, s.trk, s.tabs⟩, ?_, own, org⟩
  · show as.length = (vs.map some).length
    rw [List.length_map, hl, hvl]
  · intro j t e
    obtain ⟨a, v, h1, h2, h3, h4⟩ := at_ j t e
    show SlR G c.F c.H (vs.map some)[j]? t
    rw [args_sig.mpr h2]
    cases h3 with
    | v rp => cases h4; exact ⟨v, rfl, rp⟩
    | @r i q =>
      unfold gath at h4
      cases eu : c.ρ[i]? with
      | none => simp only [eu] at h4; cases h4
      | some u =>
        simp only [eu] at h4
        have := s.sl i u eu
        rw [q] at this
        cases u <;> simp [lend] at h4 <;> subst h4 <;> exact this
  · intro j k t u a hjk e w e2 w2 q q2
    obtain ⟨i1, u1, a1, h1, h2, h3, h4, h5⟩ := org j t e w
    obtain ⟨i2, u2, a2, g1, g2, g3, g4, g5⟩ := org k u e2 w2
    have q := args_sig.mp q
    have q2 := args_sig.mp q2
    rw [h4] at q
    rw [g4] at q2
    cases q
    cases q2
    by_cases hi : i1 = i2
    · subst hi
      exact hjk (dist_inj hd h1 g1)
    · exact s.sep i1 i2 u1 u2 _ hi h2 h3 g2 g3 h5 g5
  · intro j a e
    obtain ⟨h1, d, h2⟩ := lentOf_get e
    exact ⟨args_sig.mpr h1, d, .inl h2⟩
  · intro j d e
    rcases e with e | e
    · obtain ⟨i, u, a, h1, h2, h3, h4, h5⟩ := org j _ e rfl
      exact ⟨a, lentOf_ln h4 e⟩
    · obtain ⟨a, v, h1, h2, h3, h4⟩ := at_ j _ e
      have : cleanA (.lf d) = true := by
        cases h3 with
        | v rp => cases h4
        | @r i q =>
          unfold gath at h4
          cases eu : c.ρ[i]? with
          | none => simp only [eu] at h4; cases h4
          | some u => simp only [eu] at h4; exact lend_clean h4
      cases this
  · intro t ht
    obtain ⟨j, hj⟩ := List.getElem?_of_mem ht
    obtain ⟨a, v, h1, h2, h3, h4⟩ := at_ j t hj
    cases h3 with
    | v rp => cases h4; rfl
    | @r i q =>
      unfold gath at h4
      cases eu : c.ρ[i]? with
      | none => simp only [eu] at h4; cases h4
      | some u => simp only [eu] at h4; exact lend_clean h4
/-- behind the call: the caller's slots -/
theorem args_back {outs : List Sl} {F' : Fz} {H' : Hp} (s : Ok G L c) (r : RAs G c vs ars) (hd : dist (refs ars) = true) (hg : gather c.ρ ars = some as)
    (x : Ex G (argC vs as c.F c.H) (argC vs outs F' H')) (s' : Ok G (lentOf vs as) (argC vs outs F' H')) :
    Ex G c ⟨c.σ, scat ars outs 0 c.ρ, F', H'⟩ ∧ Ok G L ⟨c.σ, scat ars outs 0 c.ρ, F', H'⟩ ∧
    ∀ v rr, VR G (argC vs as c.F c.H) (argC vs outs F' H') v rr → VR G c ⟨c.σ, scat ars outs 0 c.ρ, F', H'⟩ v rr := by
  obtain ⟨sa, cl, own, org⟩ := args_ok s r hd hg
  obtain ⟨hl, hget⟩ := gather_get hg
  have hvl : vs.length = ars.length := Paired.length r
  have hol : outs.length = ars.length := by have := s'.len; simp [argC] at this; omega
  have kf : ∀ a, c.F a → H' a = c.H a := fun a f => x.fz sa f
  -- a slot afterwards
  have at_ : ∀ (i : Nat) (t : Sl), (scat ars outs 0 c.ρ)[i]? = some t → ∃ u, c.ρ[i]? = some u ∧ t = (match findR i ars outs with | some o => backSl u o | none => u) := fun i t e => by
    rw [scat_get, Nat.zero_add] at e
    obtain ⟨u, h1, h2⟩ := Option.map_eq_some_iff.mp e
    exact ⟨u, h1, h2.symm⟩
  -- an own slot that is handed over
  have lentS : ∀ (i : Nat) (u : Sl) (o : Sl), c.ρ[i]? = some u → isOw u = true → findR i ars outs = some o → ∃ (j : Nat) (a : Addr) (d : D), ars[j]? = some (.r i) ∧ outs[j]? = some o ∧ as[j]? = some (.ln d) ∧ vs[j]? = some (V.ref a) ∧ c.σ[i]? = some (some (V.ref a)) ∧ (∃ d', o = .ln d' ∨ o = .lf d') := fun i u o e w f => by
    obtain ⟨j, h1, h2⟩ := findR_get f
    obtain ⟨t, h3, h4⟩ := hget j _ h1
    unfold gath at h4
    simp only [e] at h4
    have ht : ∃ d, t = .ln d := by
      cases u with
      | ow d => cases h4; exact ⟨d, rfl⟩
      | ln d => cases h4; exact ⟨d, rfl⟩
      | _ => cases w
    obtain ⟨d, rfl⟩ := ht
    obtain ⟨v, h5, h6⟩ := r.get h1
    cases h6 with
    | r q =>
      obtain ⟨a, d2, q2, _⟩ := s.own e w
      rw [q] at q2
      cases q2
      obtain ⟨_, d', h7⟩ := s'.lent j a (lentOf_ln h5 h3)
      have h7 : outs[j]? = some (Sl.ln d') ∨ outs[j]? = some (Sl.lf d') := h7
      rw [h2] at h7
      refine ⟨j, a, d, h1, h2, h3, h5, q, d', ?_⟩
      rcases h7 with h7 | h7
      · exact .inl (Option.some.inj h7)
      · exact .inr (Option.some.inj h7)
  -- an own slot afterwards was one before
  have wasOwn : ∀ (i : Nat) (t u : Sl), t = (match findR i ars outs with | some o => backSl u o | none => u) → isOw t = true → isOw u = true := fun i t u e w => by
    cases f : findR i ars outs with
    | none => simp only [f] at e; rw [← e]; exact w
    | some o =>
      simp only [f] at e
      subst e
      cases u <;> cases o <;> first | exact w | rfl
  have ownS : ∀ b, Own G c.σ (scat ars outs 0 c.ρ) b → c.own G b := by
    rintro b (z | ⟨i, t, e, w, q⟩)
    · exact .inl z
    · obtain ⟨u, e1, e2⟩ := at_ i t e
      exact .inr ⟨i, u, e1, wasOwn i t u e2 w, q⟩
  -- an own slot that is not handed over lies apart
  have apart : ∀ (i : Nat) (u : Sl) (a : Addr), c.ρ[i]? = some u → isOw u = true → c.σ[i]? = some (some (V.ref a)) → findR i ars outs = none → ¬ (argC vs as c.F c.H).own G a := by
    rintro i u a e w q f (z | ⟨j, t, e2, w2, q2⟩)
    · obtain ⟨ps, e3⟩ := G.tbAt s.tabs z
      obtain ⟨a', d, q', ow, _⟩ := s.own e w
      rw [q] at q'
      cases q'
      obtain ⟨uu, e4, m⟩ := ow.at
      rw [e3] at e4
      cases e4
      cases m
    · obtain ⟨i2, u2, a2, h1, h2, h3, h4, h5⟩ := org j t e2 w2
      have q2 := args_sig.mp q2
      rw [h4] at q2
      cases q2
      by_cases hi : i = i2
      · subst hi
        obtain ⟨o, hf⟩ := findR_some h1 hol.symm
        rw [f] at hf
        cases hf
      · exact s.sep i i2 u u2 _ hi e w h2 h3 q h5
  have exc : Ex G c ⟨c.σ, scat ars outs 0 c.ρ, F', H'⟩ :=
    ⟨fun b o e n => x.keep b o e fun z => n (own b z), x.mono, fun b f => (x.new b f).imp id fun z => z.imp id (own b), fun b z => .inl (ownS b z)⟩
  have sNew : Ok G L ⟨c.σ, scat ars outs 0 c.ρ, F', H'⟩ := by
    refine ⟨?_, ?_, ?_, ?_, ?_, s'.trk, s'.tabs⟩
    · rw [scat_length]; exact s.len
    · intro i t e
      obtain ⟨u, e1, e2⟩ := at_ i t e
      by_cases w : isOw u = true
      · cases f : findR i ars outs with
        | none =>
          simp only [f] at e2
          subst e2
          refine (s.sl i t e1).mono x.mono kf fun _ b q => ?_
          have na := apart i t b e1 w q f
          obtain ⟨b', d, q', ow, _⟩ := s.own e1 w
          rw [q] at q'
          cases q'
          obtain ⟨uu, e4, _⟩ := ow.at
          refine ⟨fun z => (x.new b z).elim ow.nf fun z => z.elim (fun z => ?_) na, (x.keep b uu e4 na).trans e4.symm⟩
          have z : c.H b = none := z
          rw [e4] at z
          cases z
        | some o =>
          simp only [f] at e2
          obtain ⟨j, a, d, h1, h2, h3, h4, h5, d', h6⟩ := lentS i u o e1 w f
          have := s'.sl j o h2
          have this : SlR G F' H' (vs.map some)[j]? o := this
          rw [args_sig.mpr h4] at this
          show SlR G F' H' c.σ[i]? t
          rw [h5]
          subst e2
          rcases h6 with rfl | rfl
          · cases u <;> first | exact this | cases w
          · cases u <;> first | exact this | cases w
      · have tu : t = u := by
          cases f : findR i ars outs with
          | none => simp only [f] at e2; exact e2
          | some o =>
            simp only [f] at e2
            cases u <;> first | exact e2 | exact absurd rfl w
        subst tu
        exact (s.sl i t e1).mono x.mono kf fun z => absurd z w
    · intro i j t u a hij e w e2 w2 q q2
      obtain ⟨t', e3, e4⟩ := at_ i t e
      obtain ⟨u', e5, e6⟩ := at_ j u e2
      exact s.sep i j t' u' a hij e3 (wasOwn i t t' e4 w) e5 (wasOwn j u u' e6 w2) q q2
    · intro i a e
      obtain ⟨h1, d, h2⟩ := s.lent i a e
      refine ⟨h1, ?_⟩
      show ∃ d, (scat ars outs 0 c.ρ)[i]? = _ ∨ (scat ars outs 0 c.ρ)[i]? = _
      rw [scat_get, Nat.zero_add]
      cases f : findR i ars outs with
      | none =>
        refine ⟨d, ?_⟩
        rcases h2 with h2 | h2 <;> rw [h2]
        · exact .inl rfl
        · exact .inr rfl
      | some o =>
        rcases h2 with h2 | h2
        · obtain ⟨j, a2, d2, g1, g2, g3, g4, g5, d', g6⟩ := lentS i _ o h2 rfl f
          rw [h2]
          refine ⟨d', ?_⟩
          rcases g6 with rfl | rfl
          · exact .inl rfl
          · exact .inr rfl
        · rw [h2]
          exact ⟨d, .inr (by cases o <;> rfl)⟩
    · intro i d e
      have go : ∀ t : Sl, (t = .ln d ∨ t = .lf d) → (scat ars outs 0 c.ρ)[i]? = some t → ∃ a, L[i]? = some (some a) := fun t ht e => by
        obtain ⟨u, e1, e2⟩ := at_ i t e
        have hu : ∃ d', u = .ln d' ∨ u = .lf d' := by
          cases f : findR i ars outs with
          | none => simp only [f] at e2; subst e2; exact ⟨d, ht⟩
          | some o =>
            simp only [f] at e2
            subst e2
            cases u with
            | ln d2 => exact ⟨d2, .inl rfl⟩
            | lf d2 => exact ⟨d2, .inr rfl⟩
            | ow d2 => cases o <;> rcases ht with z | z <;> cases z
            | un => rcases ht with z | z <;> cases o <;> cases z
            | fz d2 => rcases ht with z | z <;> cases o <;> cases z
            | cl d2 => rcases ht with z | z <;> cases o <;> cases z
        obtain ⟨d', rfl | rfl⟩ := hu
        · exact s.lnL i d' (.inl e1)
        · exact s.lnL i d' (.inr e1)
      rcases e with e | e
      · exact go _ (.inl rfl) e
      · exact go _ (.inr rfl) e
  refine ⟨exc, sNew, fun v rr rv => ?_⟩
  cases rr with
  | fz d => exact rv
  | nw d =>
    obtain ⟨p, z1, z2, z3, z4⟩ := rv
    refine ⟨p, z1, z2, fun z => ?_, z4.imp id (own p)⟩
    rcases z with z | ⟨i, t, e, w, q⟩
    · exact z3 (.inl z)
    · obtain ⟨u, e1, e2⟩ := at_ i t e
      have wu := wasOwn i t u e2 w
      cases f : findR i ars outs with
      | none =>
        have na := apart i u p e1 wu q f
        rcases z4 with z4 | z4
        · obtain ⟨a', d', q', ow, _⟩ := s.own e1 wu
          have q : c.σ[i]? = some (some (V.ref p)) := q
          rw [q] at q'
          cases q'
          obtain ⟨uu, e4, _⟩ := ow.at
          have z4 : c.H p = none := z4
          rw [e4] at z4
          cases z4
        · exact na z4
      | some o =>
        simp only [f] at e2
        obtain ⟨j, a, d2, h1, h2, h3, h4, h5, d', h6⟩ := lentS i u o e1 wu f
        have q : c.σ[i]? = some (some (V.ref p)) := q
        rw [h5] at q
        cases q
        refine z3 (.inr ⟨j, o, h2, ?_, args_sig.mpr h4⟩)
        rcases h6 with rfl | rfl
        · rfl
        · subst e2
          cases u <;> first | exact w | cases wu
/-- a callee's meaning from the caller's -/
theorem call_req {W : WX} {φ : Fn} {n : Nat} {Q : VK} (s : Ok G L c) (r : RAs G c vs ars) (hn : vs.length = n) (h : Req G L W c (callAr φ ars c.ρ) (fun r c' => ∀ v, VR G c c' v r → Q v c'.H)) :
    spEv G φ n vs c.H Q (fun cls d H' => W cls d c.σ H') := by
  unfold callAr at h
  by_cases hd : dist (refs ars) = true
  · rw [if_pos hd] at h
    cases hg : gather c.ρ ars with
    | none => rw [hg] at h; exact h.elim
    | some as =>
      rw [hg] at h
      obtain ⟨sa, cl, own, org⟩ := args_ok s r hd hg
      refine ⟨hn, c.F, as, cl, sa, ?_⟩
      have h : Req G L W c (match φ as with
        | .ok r outs => .ok r (scat ars outs 0 c.ρ)
        | .ex d outs => .ex d (scat ars outs 0 c.ρ)
        | .no => .no) (fun r c' => ∀ v, VR G c c' v r → Q v c'.H) := h
      cases ef : φ as with
      | no => rw [ef] at h; exact h.elim
      | ok rr outs =>
        rw [ef] at h
        intro F' H' x s' v rv
        obtain ⟨x2, s2, k⟩ := args_back s r hd hg x s'
        exact h F' H' x2 s2 v (k v rr rv)
      | ex d outs =>
        rw [ef] at h
        intro F' H' x s' cls dd xr
        obtain ⟨x2, s2, k⟩ := args_back s r hd hg x s'
        exact h F' H' x2 s2 cls dd xr
  · rw [if_neg hd] at h
    exact h.elim
end
end Ev

/-! EvI: calls of defs by name; list comprehensions. -/
namespace Ev
open PySem PySem.Spec PyProof.Rows L2
section
variable {X : Cx} {W : WX} {G : Gc} {L : Lt} {e a b tg : Expr} {pos : Pos} {c c0 c1 : Cf} {es : List Expr} {kws : List Keyword} {k : Nat} {f : Addr} {fd : FuncData} {ps ks : List Str} {φ : Fn} {n : Nat} {x : Str} {p : Pos}
  {g : List Value → List Value → List Value} {gV : List V → List V → List V} {gA : List Ar → List Ar → List Ar}

theorem run_fnG {pins : List (Addr × Obj)} {σ : L2.St} {H : Hp} {s : Shared} {Q : VK} {us ws : List Value} {vs zs : List V} {sp : Sp} (F : FnG X.prog X.w X.K X.mg X.base (L2.CX X.prog X.w) k f fd ps sp) (hr : RoomG k X.A) (hb : KBinds X.K fd ps ks g gV) (tk : Takes X W)
    (I : Inv X pins σ H s) (r : Vals vs us) (rz : Vals zs ws) (h : sp (gV vs zs) H Q (fun cls d H' => W cls d σ H')) : wpAny (model X.prog X.w) X.A (call (.ref f) us (ks.zip ws)) (EP X pins σ Q) X.xe s := by
  have r2 := hb.rel r rz
  have hl : (g us ws).length = ps.length := by rw [← r2.length]; exact F.len _ _ _ _ h
  refine wpAny_call (codeAny_mono (F.run X.A X.stack s H ⟨us, ks.zip ws⟩ (g us ws) (gV vs zs) Q _ hr I.env0 (hb.to s us ws I.kIn hl) r2 h) fun r s' hq => ?_)
  cases r with
  | error e => exact tk e s' (XE.of_call I (fun cls d H' h => h) hq)
  | ok fl =>
    cases fl with
    | ret u => exact I.after hq
    | next => exact False.elim hq
    | brk => exact False.elim hq
    | cont => exact False.elim hq
def tCallG (W : WX) (sp : Sp) (gV : List V → List V → List V) (t tk : TA) : TE := fun σ H Q => t σ H fun vs H1 => tk σ H1 fun zs H2 => sp (gV vs zs) H2 Q (fun cls d H' => W cls d σ H')
/-- what a call does with its arguments -/
def evCall (φ : Fn) (n : Nat) (gA : List Ar → List Ar → List Ar) (m mk : M (List Ar)) : M Vl := m.bind fun as => mk.bind fun bs => if (gA as bs).length = n then callAr φ (gA as bs) else fun _ => .no
/-- gA does with the arguments what gV does with the values -/
def GRel (gV : List V → List V → List V) (gA : List Ar → List Ar → List Ar) : Prop := ∀ {G : Gc} {c : Cf} {vs zs : List V} {as bs : List Ar}, RAs G c vs as → RAs G c zs bs → RAs G c (gV vs zs) (gA as bs)
theorem SE.call_of {t tk : TA} {m mk : M (List Ar)} {ex : Expr} (hA : GRel gV gA) (hp : PE X ex (tCallG W (spEv G φ n) gV t tk))
    (qa : ∀ (c : Cf) (Q : List V → Hp → Prop), Ok G L c → Req G L W c (m c.ρ) (fun as c' => ∀ vs, RAs G c' vs as → Q vs c'.H) → t c.σ c.H Q)
    (qk : ∀ (c : Cf) (Q : List V → Hp → Prop), Ok G L c → Req G L W c (mk c.ρ) (fun as c' => ∀ vs, RAs G c' vs as → Q vs c'.H) → tk c.σ c.H Q) : SE X W G L ex (evCall φ n gA m mk) := by
  refine ⟨_, hp, fun c Q s h => ?_⟩
  refine qa c _ s ((Req.bind h).imp fun as c1 _ e1 x1 s1 h1 vs rv => ?_)
  show tk c.σ c1.H _
  rw [← e1]
  refine qk c1 _ s1 ((Req.bind h1).imp fun bs c2 _ e2 x2 s2 h2 zs rz => ?_)
  have r := hA (rv.keep s1 x2 e2) rz
  by_cases hn : (gA as bs).length = n
  · rw [if_pos hn] at h2
    have h3 : Req G L W c2 (callAr φ (gA as bs) c2.ρ) (fun r c' => ∀ v, VR G c2 c' v r → Q v c'.H) := h2.imp fun r c3 _ _ x3 s3 h3 v rv => h3 v (VR.base (x1.trans x2) rv)
    rw [← e2]
    exact call_req s2 r ((Paired.length r).trans hn) h3
  · rw [if_neg hn] at h2
    exact h2.elim
/-- f(e, ..) -/
theorem SE.call1 {m : M (List Ar)} (F : FnG X.prog X.w X.K X.mg X.base (L2.CX X.prog X.w) k f fd ps (spEv G φ n)) (hr : RoomG k X.A) (tk : Takes X W) (hg : Gl X x) (hm : X.mg x = some (.ref f)) (hk : PySem.W.keepIn X.K (.ref f) = true) (hb : KBinds X.K fd ps [] g gV) (hA : GRel gV gA)
    (ha : SR X W G L (e :: es) m) (hdb : (x == ("__debug__" : Str)) = false := by decide) (he : starEach (e :: es) X.env = (false, eval e X.env) :: starEach es X.env := by rfl) (hpl : (backTo pos (starEach es X.env)).any (·.1) = false := by rfl) :
    SE X W G L (.Call (.Name x p) (e :: es) [] pos) (evCall φ n gA m (mpure [])) := by
  obtain ⟨t, pa, qa⟩ := ha.ex
  obtain ⟨t2, pk, qk⟩ := (SK.nil (X := X) (W := W) (G := G) (L := L)).ex
  refine SE.call_of (t := t) (tk := tNil) hA ⟨fun pins s σ H Q I h => ?_⟩ qa (fun c Q s r => r _ _ Ext.refl s _ .nil)
  refine wpAny_Call_Name_kw (ld_glob I hg hm ?_ hdb)
  refine PySem.W.callWith_K (h₀ := X.base) I.ok.mod.kin hk (thn (pa.run pos pins s σ H _ I h) fun us s1 ⟨vs, H1, I1, r, q⟩ => ⟨I1.kIn, ?_⟩) he hpl
  exact run_fnG F hr hb tk I1 r (zs := []) (ws := []) .nil q
/-- f() -/
theorem SE.call0 (F : FnG X.prog X.w X.K X.mg X.base (L2.CX X.prog X.w) k f fd ps (spEv G φ n)) (hr : RoomG k X.A) (tk : Takes X W) (hg : Gl X x) (hm : X.mg x = some (.ref f)) (hk : PySem.W.keepIn X.K (.ref f) = true) (hb : KBinds X.K fd ps [] g gV) (hA : GRel gV gA)
    (hdb : (x == ("__debug__" : Str)) = false := by decide) : SE X W G L (.Call (.Name x p) [] [] pos) (evCall φ n gA (mpure []) (mpure [])) := by
  refine SE.call_of (t := tNil) (tk := tNil) hA ⟨fun pins s σ H Q I h => ?_⟩ (fun c Q s r => r _ _ Ext.refl s _ .nil) (fun c Q s r => r _ _ Ext.refl s _ .nil)
  refine wpAny_Call_Name_kw (ld_glob I hg hm ?_ hdb)
  exact PySem.W.callWith_K0 I.kIn hk (run_fnG (us := []) (ws := []) (vs := []) (zs := []) F hr hb tk I .nil .nil h)
/-- f(e, .., k = e, ..) -/
theorem SE.callK {m mk : M (List Ar)} (F : FnG X.prog X.w X.K X.mg X.base (L2.CX X.prog X.w) k f fd ps (spEv G φ n)) (hr : RoomG k X.A) (tk : Takes X W) (hg : Gl X x) (hm : X.mg x = some (.ref f)) (hk : PySem.W.keepIn X.K (.ref f) = true) (hb : KBinds X.K fd ps ks g gV) (hA : GRel gV gA)
    (ha : SR X W G L (e :: es) m) (hkw : SK X W G L kws mk) (hall : (backToKw pos (keywordEach kws X.env)).all (·.1.isSome) = true := by rfl) (hks : (backToKw pos (keywordEach kws X.env)).filterMap (·.1) = ks := by rfl)
    (hdb : (x == ("__debug__" : Str)) = false := by decide) (he : starEach (e :: es) X.env = (false, eval e X.env) :: starEach es X.env := by rfl)
    (hpl : ((backTo pos (starEach (e :: es) X.env)).any (·.1) || (backToKw pos (keywordEach kws X.env)).any (·.1.isNone)) = false := by rfl) :
    SE X W G L (.Call (.Name x p) (e :: es) kws pos) (evCall φ n gA m mk) := by
  obtain ⟨t, pa, qa⟩ := ha.ex
  obtain ⟨t2, pk, qk⟩ := hkw.ex
  refine SE.call_of (t := t) (tk := t2) hA ⟨fun pins s σ H Q I h => ?_⟩ qa qk
  refine wpAny_Call_Name_kw (ld_glob I hg hm ?_ hdb)
  refine PySem.W.callWith_KW (h₀ := X.base) I.ok.mod.kin hk hall (thn (pa.run pos pins s σ H _ I h) fun us s1 ⟨vs, H1, I1, r, q⟩ => ?_) hpl he
  refine thn (pk.run pos pins s1 σ H1 _ I1 q) fun ws s2 ⟨zs, H2, I2, rz, q2⟩ => ⟨I2.kIn, ?_⟩
  rw [hks]
  exact run_fnG F hr hb tk I2 r rz q2
/-- f(k = e, ..) -/
theorem SE.callK0 {mk : M (List Ar)} (F : FnG X.prog X.w X.K X.mg X.base (L2.CX X.prog X.w) k f fd ps (spEv G φ n)) (hr : RoomG k X.A) (tk : Takes X W) (hg : Gl X x) (hm : X.mg x = some (.ref f)) (hk : PySem.W.keepIn X.K (.ref f) = true) (hb : KBinds X.K fd ps ks g gV) (hA : GRel gV gA)
    (hkw : SK X W G L kws mk) (hall : (backToKw pos (keywordEach kws X.env)).all (·.1.isSome) = true := by rfl) (hks : (backToKw pos (keywordEach kws X.env)).filterMap (·.1) = ks := by rfl)
    (hdb : (x == ("__debug__" : Str)) = false := by decide)
    (hpl : ((backTo pos (starEach [] X.env)).any (·.1) || (backToKw pos (keywordEach kws X.env)).any (·.1.isNone)) = false := by rfl) :
    SE X W G L (.Call (.Name x p) [] kws pos) (evCall φ n gA (mpure []) mk) := by
  obtain ⟨t2, pk, qk⟩ := hkw.ex
  refine SE.call_of (t := tNil) (tk := t2) hA ⟨fun pins s σ H Q I h => ?_⟩ (fun c Q s r => r _ _ Ext.refl s _ .nil) qk
  refine wpAny_Call_Name_kw (ld_glob I hg hm ?_ hdb)
  refine PySem.W.callWith_KW0 (h₀ := X.base) I.ok.mod.kin hk hall ?_ hpl
  refine thn (pk.run pos pins s σ H _ I h) fun ws s2 ⟨zs, H2, I2, rz, q2⟩ => ⟨I2.kIn, ?_⟩
  rw [hks]
  exact run_fnG (us := []) (vs := []) F hr hb tk I2 .nil rz q2
/-- all arguments by place -/
theorem GRel.ofPos : GRel (fun vs _ => vs) (fun as _ => as) := fun r _ => r
theorem KBinds.ofPos {K : PySem.W.Frag} (h : Binds K fd ps []) : KBinds K fd ps [] (fun us _ => us) (fun vs _ => vs) := ⟨fun s us ws hk hl => by
  have := h s us hk (by simpa using hl)
  simpa using this, fun r _ => r⟩
/-- by a permutation of the arguments by place and by name -/
def perm {α : Type} (z : α) (ix : List Nat) (us ws : List α) : List α := ix.map fun i => (us ++ ws).getD i z
theorem RAs.append {G : Gc} {c : Cf} : ∀ {vs ws : List V} {as bs : List Ar}, RAs G c vs as → RAs G c ws bs → RAs G c (vs ++ ws) (as ++ bs)
  | _, _, _, _, .nil, r => r
  | _, _, _, _, .cons r t, q => .cons r (RAs.append t q)
theorem RAs.getD {G : Gc} {c : Cf} : ∀ {vs : List V} {as : List Ar} (i : Nat), RAs G c vs as → RA G c (vs.getD i .non) (as.getD i (.v .non))
  | _, _, i, .nil => by simpa using RA.v .non
  | _, _, 0, .cons r _ => r
  | _, _, i + 1, .cons _ t => by simpa using RAs.getD i t
theorem GRel.perm (ix : List Nat) : GRel (Ev.perm .non ix) (Ev.perm (.v .non) ix) := by
  intro G c vs zs as bs r q
  unfold Ev.perm
  induction ix with
  | nil => exact .nil
  | cons i ix ih => exact .cons (RAs.getD i (r.append q)) ih
theorem Vals.getD : ∀ {vs : List V} {us : List Value} (i : Nat), Vals vs us → RelV (vs.getD i .non) (us.getD i .none)
  | _, _, i, .nil => by
    rw [List.getD_nil, List.getD_nil]
    exact (rfl : Value.none = Value.none)
  | _, _, 0, .cons r _ => r
  | _, _, i + 1, .cons _ t => by simpa using Vals.getD i t
theorem Vals.perm {vs zs : List V} {us ws : List Value} (ix : List Nat) (r : Vals vs us) (q : Vals zs ws) : Vals (Ev.perm .non ix vs zs) (Ev.perm .none ix us ws) := by
  unfold Ev.perm
  induction ix with
  | nil => exact .nil
  | cons i ix ih => exact .cons (Vals.getD i (L2.Vals.append r q)) ih
end
end Ev

/-! EvJ: list comprehensions. -/
namespace Ev
open PySem PySem.Spec PyProof.Rows L2

theorem PE.weak {X : Cx} {e : Expr} {t t' : TE} (h : PE X e t) (w : ∀ σ H Q, t' σ H Q → t σ H Q) : PE X e t' := ⟨fun pins s σ H Q I q => h.run pins s σ H Q I (w _ _ _ q)⟩
theorem PTs.weak {X : Cx} {e : List Expr} {t t' : TT} (h : PTs X e t) (w : ∀ σ H Q, t' σ H Q → t σ H Q) : PTs X e t' := ⟨fun pins s σ H Q I q => h.run pins s σ H Q I (w _ _ _ q)⟩
theorem PG.weak {X : Cx} {e : Expr} {t t' : TG} (h : PG X e t) (w : ∀ v σ H Q, t' v σ H Q → t v σ H Q) : PG X e t' := ⟨fun pins s σ H v u Q I r q => h.run pins s σ H v u Q I r (w _ _ _ _ q)⟩

/-- no exception is let out of a comprehension -/
abbrev W0 : WX := fun _ _ _ _ => False
/-- a target of a comprehension: it stores the places vs alone -/
structure SGv (X : Cx) (G : Gc) (L : Lt) (vs : List Nat) (tg : Expr) (g : D → M Unit) : Prop where
  ex : ∃ t : TG, PG X tg t ∧ ∀ (c : Cf) (v : V) (d : D) (Q : L2.St → Hp → Prop), Ok G L c → Rp G.N c.F c.H v d → ReqS G L W0 c (g d c.ρ) (fun _ c' => wipe c'.σ vs = wipe c.σ vs → Q c'.σ c'.H) → t v c.σ c.H Q
structure SGvs (X : Cx) (G : Gc) (L : Lt) (vs : List Nat) (tgs : List Expr) (g : List D → M Unit) : Prop where
  ex : ∃ t : TGs, PGs X tgs t ∧ ∀ (c : Cf) (us : List V) (ds : List D) (Q : L2.St → Hp → Prop), Ok G L c → RpL G.N c.F c.H us ds → ReqS G L W0 c (g ds c.ρ) (fun _ c' => wipe c'.σ vs = wipe c.σ vs → Q c'.σ c'.H) → t us c.σ c.H Q
structure SPT (X : Cx) (G : Gc) (L : Lt) (ifs : List Expr) (m : M Bool) : Prop where
  ex : ∃ t : TT, PTs X ifs t ∧ ∀ (c : Cf) (Q : Bool → Hp → Prop), Ok G L c → Req G L W0 c (m c.ρ) (fun b c' => Q b c'.H) → t c.σ c.H Q
theorem wipe_set {σ : L2.St} {i : Nat} {x : Option V} : ∀ {vs : List Nat}, i ∈ vs → wipe (σ.set i x) vs = wipe σ vs
  | [], h => by simp at h
  | v :: vs, h => by
    by_cases hv : i ∈ vs
    · show (wipe (σ.set i x) vs).set v none = (wipe σ vs).set v none
      rw [wipe_set hv]
    · have hi : i = v := by simpa [hv] using h
      subst hi
      show (wipe (σ.set i x) vs).set i none = (wipe σ vs).set i none
      have com : ∀ ws : List Nat, i ∉ ws → wipe (σ.set i x) ws = (wipe σ ws).set i x := by
        intro ws
        induction ws with
        | nil => intro _; rfl
        | cons w ws ih =>
          intro hn
          simp only [List.mem_cons, not_or] at hn
          show (wipe (σ.set i x) ws).set w none = ((wipe σ ws).set w none).set i x
          rw [ih hn.2, List.set_comm _ _ hn.1]
      rw [com vs hv, List.set_set]
theorem wipe_get {σ : L2.St} {i : Nat} : ∀ {vs : List Nat}, i ∉ vs → (wipe σ vs)[i]? = σ[i]? := fun h => wipe_out h
theorem wipe_wipe {σ : L2.St} (vs : List Nat) : wipe (wipe σ vs) vs = wipe σ vs := by
  have go : ∀ ws : List Nat, (∀ i ∈ ws, i ∈ vs) → wipe (wipe σ ws) vs = wipe σ vs := by
    intro ws
    induction ws with
    | nil => intro _; rfl
    | cons w ws ih =>
      intro h
      show wipe ((wipe σ ws).set w none) vs = _
      rw [wipe_set (h w (by simp)), ih fun i hi => h i (by simp [hi])]
  exact go vs fun _ h => h
section
variable {X : Cx} {W : WX} {G : Gc} {L : Lt} {e a b tg : Expr} {pos : Pos} {c c0 c1 : Cf} {es : List Expr} {vs : List Nat}
theorem SGv.name (i : Nat) {x : Str} (hN : X.N.Nodup) (hi : X.N[i]? = some x) (hx : L2.Loc X.env.scope x) (hm : i ∈ vs) (hf : X.fn x = true ∨ X.env.scope.names.lookup x = some .local) : SGv X G L vs (.Name x pos) (fun d => setSlot i (.fz d)) := by
  refine ⟨_, pg_name hN hi hx hf, fun c v d Q s rv h => ?_⟩
  exact (setSlot_req s Ext.refl (show VR G c c v (.fz d) from rv) h).1 (wipe_set hm)
theorem SGvs.nil : SGvs X G L vs [] (fun ds => match ds with | [] => mpure () | _ => fun _ => .no) := by
  refine ⟨_, pgs_nil, fun c us ds Q s r h => ?_⟩
  cases r with
  | nil => exact ⟨rfl, ReqS.here (r := ()) h s rfl⟩
  | cons => exact h.elim
theorem SGvs.cons {es : List Expr} {g : D → M Unit} {gr : List D → M Unit} (h1 : SGv X G L vs e g) (h2 : SGvs X G L vs es gr) (hs : (assignEach (e :: es) X.env).map (·.2) = assign e X.env :: (assignEach es X.env).map (·.2) := by rfl) : SGvs X G L vs (e :: es) (gsCons g gr) := by
  obtain ⟨t, p, q⟩ := h1.ex
  obtain ⟨u, p', q'⟩ := h2.ex
  refine ⟨_, pgs_cons p p' hs, fun c us ds Q s r h => ?_⟩
  cases r with
  | nil => exact h.elim
  | cons r1 r2 =>
    refine ⟨_, _, rfl, q c _ _ _ s r1 ((ReqS.bind h).imp fun _ c1 _ x1 s1 h1 w1 => ?_)⟩
    exact q' c1 _ _ Q s1 (x1.rpl s r2) (h1.imp fun _ c2 _ x2 s2 h2 w2 => h2 (w2.trans w1))
theorem SGv.tup {es : List Expr} {k n : Nat} {g : List D → M Unit} (hc : X.calm = true) (h : SGvs X G L vs es g) (hn : (assignEach es X.env).length = n := by rfl) (hst : (assignEach es X.env).findIdx? (·.1) = none := by rfl) : SGv X G L vs (.Tuple es k pos) (evUnp n g) := by
  obtain ⟨t, p, q⟩ := h.ex
  refine ⟨_, pg_tup hc p hn hst, fun c v d Q s rv h => ?_⟩
  cases d with
  | tup l =>
    cases rv with
    | tup f r ll =>
      have h : ReqS G L W0 c ((if l.length = n then g l else fun _ => Out.no) c.ρ) _ := h
      by_cases hl : l.length = n
      · rw [if_pos hl] at h
        exact ⟨_, _, rfl, .inl (.inl r), ll.length.trans hl, q c _ _ Q s ll h⟩
      · rw [if_neg hl] at h
        exact h.elim
  | _ => exact h.elim
theorem SPT.nil : SPT X G L [] (mpure true) := ⟨tYes, pts_nil, fun c Q s r => Req.here (r := true) r s⟩
theorem SPT.one {m : M Bool} (h : ST X W0 G L e m) : SPT X G L [e] m := by
  obtain ⟨t, p, q⟩ := h.ex
  exact ⟨t, pts_one p, q⟩

def wipeR : Rho → List Nat → Rho
  | ρ, [] => ρ
  | ρ, v :: vs => (wipeR ρ vs).set v .un
/-- the places may be used by a comprehension: nothing that is one's own stands there -/
def wipeOk (ρ : Rho) (vs : List Nat) : Bool := vs.all fun v => match ρ[v]? with
  | some .un => true
  | some (.fz _) => true
  | _ => false
def restore (vs : List Nat) : Nat → Rho → Rho → Rho
  | k, s :: ρ, t :: ρ' => (if vs.contains k then s else t) :: restore vs (k + 1) ρ ρ'
  | _, _, _ => []
def lcLoop (vs : List Nat) (g : D → M Unit) (mt : M Bool) (me : M D) : List D → M (List D)
  | [] => mpure []
  | d :: ds => fun ρ => ((g d) (wipeR ρ vs)).bind fun _ ρ1 => (mt ρ1).bind fun k ρ2 => if k = true then (me ρ2).bind fun y ρ3 => (lcLoop vs g mt me ds ρ3).bind fun ys ρ4 => .ok (y :: ys) ρ4 else lcLoop vs g mt me ds ρ2
def mLc (vs : List Nat) (mi : M (List D)) (g : D → M Unit) (mt : M Bool) (me : M D) : M Vl := mi.bind fun ds ρ => if wipeOk ρ vs = true then match lcLoop vs g mt me ds ρ with
    | .ok ys ρ' => if lenOk ys.length = true ∧ ρ'.length = ρ.length then .ok (.nw (.lst ys)) (restore vs 0 ρ ρ') else .no
    | _ => .no
  else .no
theorem wipeR_length {ρ : Rho} : ∀ vs : List Nat, (wipeR ρ vs).length = ρ.length
  | [] => rfl
  | v :: vs => by unfold wipeR; rw [List.length_set, wipeR_length vs]
theorem wipeR_get {ρ : Rho} {i : Nat} {s : Sl} : ∀ {vs : List Nat}, (wipeR ρ vs)[i]? = some s → (i ∉ vs ∧ ρ[i]? = some s) ∨ s = .un
  | [], h => .inl ⟨by simp, h⟩
  | v :: vs, h => by
    unfold wipeR at h
    by_cases hi : v = i
    · subst hi
      by_cases hv : v < (wipeR ρ vs).length
      · rw [List.getElem?_set_self hv] at h
        exact .inr (Option.some.inj h).symm
      · rw [List.getElem?_eq_none (by simpa using hv)] at h
        cases h
    · rw [List.getElem?_set_ne hi] at h
      rcases wipeR_get h with ⟨h1, h2⟩ | h1
      · exact .inl ⟨by simp only [List.mem_cons, not_or]; exact ⟨fun e => hi e.symm, h1⟩, h2⟩
      · exact .inr h1
theorem wipe_ok (s : Ok G L c) (hv : ∀ v ∈ vs, ∀ a, L[v]? ≠ some (some a)) : Ok G L ⟨wipe c.σ vs, wipeR c.ρ vs, c.F, c.H⟩ ∧ Ex G c ⟨wipe c.σ vs, wipeR c.ρ vs, c.F, c.H⟩ := by
  have own : ∀ b, Own G (wipe c.σ vs) (wipeR c.ρ vs) b → c.own G b := by
    rintro b (z | ⟨i, t, e, w, q⟩)
    · exact .inl z
    · rcases wipeR_get e with ⟨h1, h2⟩ | rfl
      · rw [wipe_get h1] at q
        exact .inr ⟨i, t, h2, w, q⟩
      · cases w
  refine ⟨⟨?_, ?_, ?_, ?_, ?_, s.trk, s.tabs⟩, ⟨fun _ _ z _ => z, fun _ z => z, fun _ z => .inl z, fun b z => .inl (own b z)⟩⟩
  · rw [wipeR_length, wipe_length]; exact s.len
  · intro i t e
    rcases wipeR_get e with ⟨h1, h2⟩ | rfl
    · show SlR G c.F c.H (wipe c.σ vs)[i]? t
      rw [wipe_get h1]
      exact s.sl i t h2
    · trivial
  · intro i j t u a hij e w e2 w2 q q2
    rcases wipeR_get e with ⟨h1, h2⟩ | rfl
    · rcases wipeR_get e2 with ⟨h3, h4⟩ | rfl
      · have q : (wipe c.σ vs)[i]? = _ := q
        have q2 : (wipe c.σ vs)[j]? = _ := q2
        rw [wipe_get h1] at q
        rw [wipe_get h3] at q2
        exact s.sep i j t u a hij h2 w h4 w2 q q2
      · cases w2
    · cases w
  · intro i a e
    have hi : i ∉ vs := fun z => hv i z a e
    obtain ⟨h1, d, h2⟩ := s.lent i a e
    refine ⟨(wipe_get hi).trans h1, d, ?_⟩
    have keep : ∀ t, c.ρ[i]? = some t → (wipeR c.ρ vs)[i]? = some t := fun t ht => by
      have : ∀ ws : List Nat, i ∉ ws → (wipeR c.ρ ws)[i]? = c.ρ[i]? := by
        intro ws
        induction ws with
        | nil => intro _; rfl
        | cons w ws ih =>
          intro hn
          simp only [List.mem_cons, not_or] at hn
          unfold wipeR
          rw [List.getElem?_set_ne (Ne.symm hn.1)]
          exact ih hn.2
      rw [this vs hi]
      exact ht
    exact h2.imp (keep _) (keep _)
  · intro i d e
    rcases e with e | e
    · rcases wipeR_get e with ⟨h1, h2⟩ | z
      · exact s.lnL i d (.inl h2)
      · cases z
    · rcases wipeR_get e with ⟨h1, h2⟩ | z
      · exact s.lnL i d (.inr h2)
      · cases z
theorem wipeOk_lent (s : Ok G L c) (h : wipeOk c.ρ vs = true) : ∀ v ∈ vs, ∀ a, L[v]? ≠ some (some a) := fun v hv a e => by
  obtain ⟨_, d, h2⟩ := s.lent v a e
  unfold wipeOk at h
  have := List.all_eq_true.mp h v hv
  rcases h2 with h2 | h2 <;> rw [h2] at this <;> cases this
theorem restore_get {ρ ρ' : Rho} : ∀ {k i : Nat}, ρ.length = ρ'.length → (restore vs k ρ ρ')[i]? = if vs.contains (k + i) then ρ[i]? else ρ'[i]? := by
  induction ρ generalizing ρ' with
  | nil =>
    intro k i h
    cases ρ' with
    | nil => simp [restore]
    | cons => simp at h
  | cons s ρ ih =>
    intro k i h
    cases ρ' with
    | nil => simp at h
    | cons t ρ' =>
      cases i with
      | zero =>
        simp only [restore, List.getElem?_cons_zero, Nat.add_zero]
        split <;> rfl
      | succ i =>
        simp only [restore, List.getElem?_cons_succ]
        rw [ih (by simpa using h)]
        rw [show k + 1 + i = k + (i + 1) by omega]
theorem restore_length {ρ ρ' : Rho} : ∀ {k : Nat}, ρ.length = ρ'.length → (restore vs k ρ ρ').length = ρ.length := by
  induction ρ generalizing ρ' with
  | nil => intro k h; simp [restore]
  | cons s ρ ih =>
    intro k h
    cases ρ' with
    | nil => simp at h
    | cons t ρ' => simp [restore, ih (ρ' := ρ') (by simpa using h)]
/-- the block is over: the places have what they had -/
theorem restore_ok {ρ' : Rho} {σ2 : L2.St} {F' : Fz} {H' : Hp} (s : Ok G L c) (h : wipeOk c.ρ vs = true) (hl : ρ'.length = c.ρ.length) (hw : wipe σ2 vs = wipe c.σ vs) (x : Ex G c ⟨σ2, ρ', F', H'⟩) (s2 : Ok G L ⟨σ2, ρ', F', H'⟩) :
    Ok G L ⟨c.σ, restore vs 0 c.ρ ρ', F', H'⟩ ∧ Ex G c ⟨c.σ, restore vs 0 c.ρ ρ', F', H'⟩ ∧ ∀ b, Own G c.σ (restore vs 0 c.ρ ρ') b → Own G σ2 ρ' b := by
  have at_ : ∀ (i : Nat) (t : Sl), (restore vs 0 c.ρ ρ')[i]? = some t → (i ∈ vs ∧ c.ρ[i]? = some t ∧ isOw t = false ∧ (∀ d, t ≠ .ln d) ∧ ∀ d, t ≠ .lf d) ∨ (i ∉ vs ∧ ρ'[i]? = some t) := fun i t e => by
    rw [restore_get hl.symm, Nat.zero_add] at e
    split at e
    · rename_i hi
      have hi : i ∈ vs := by simpa using hi
      refine .inl ⟨hi, e, ?_⟩
      unfold wipeOk at h
      have := List.all_eq_true.mp h i hi
      rw [e] at this
      cases t with
      | un => exact ⟨rfl, fun d z => (by cases z), fun d z => (by cases z)⟩
      | fz d => exact ⟨rfl, fun d z => (by cases z), fun d z => (by cases z)⟩
      | _ => cases this
    · rename_i hi
      exact .inr ⟨by simpa using hi, e⟩
  have sg : ∀ i, i ∉ vs → σ2[i]? = c.σ[i]? := fun i hi => by
    rw [← wipe_get (σ := σ2) hi, hw, wipe_get hi]
  have own : ∀ b, Own G c.σ (restore vs 0 c.ρ ρ') b → Own G σ2 ρ' b := by
    rintro b (z | ⟨i, t, e, w, q⟩)
    · exact .inl z
    · rcases at_ i t e with ⟨_, _, z, _⟩ | ⟨hi, e2⟩
      · rw [z] at w; cases w
      · exact .inr ⟨i, t, e2, w, by rw [sg i hi]; exact q⟩
  refine ⟨⟨?_, ?_, ?_, ?_, ?_, s2.trk, s2.tabs⟩, ⟨x.keep, x.mono, x.new, fun b z => x.sub b (own b z)⟩, own⟩
  · rw [restore_length hl.symm]; exact s.len
  · intro i t e
    rcases at_ i t e with ⟨_, e2, z, _⟩ | ⟨hi, e2⟩
    · exact (s.sl i t e2).mono x.mono (fun a f => x.fz s f) fun w => by rw [z] at w; cases w
    · show SlR G F' H' c.σ[i]? t
      rw [← sg i hi]
      exact s2.sl i t e2
  · intro i j t u a hij e w e2 w2 q q2
    rcases at_ i t e with ⟨_, _, z, _⟩ | ⟨hi, e3⟩
    · rw [z] at w; cases w
    · rcases at_ j u e2 with ⟨_, _, z, _⟩ | ⟨hj, e4⟩
      · rw [z] at w2; cases w2
      · exact s2.sep i j t u a hij e3 w e4 w2 ((sg i hi).trans q) ((sg j hj).trans q2)
  · intro i a e
    have hi : i ∉ vs := fun z => wipeOk_lent s h i z a e
    obtain ⟨h1, _⟩ := s.lent i a e
    obtain ⟨_, d, h2⟩ := s2.lent i a e
    refine ⟨h1, d, ?_⟩
    show (restore vs 0 c.ρ ρ')[i]? = _ ∨ (restore vs 0 c.ρ ρ')[i]? = _
    rw [restore_get hl.symm, Nat.zero_add, if_neg (by simpa using hi)]
    exact h2
  · intro i d e
    have go : ∀ t : Sl, (t = .ln d ∨ t = .lf d) → (restore vs 0 c.ρ ρ')[i]? = some t → ∃ a, L[i]? = some (some a) := fun t ht e => by
      rcases at_ i t e with ⟨_, _, _, z1, z2⟩ | ⟨hi, e2⟩
      · rcases ht with rfl | rfl
        · exact absurd rfl (z1 d)
        · exact absurd rfl (z2 d)
      · rcases ht with rfl | rfl
        · exact s2.lnL i d (.inl e2)
        · exact s2.lnL i d (.inr e2)
    rcases e with e | e
    · exact go _ (.inl rfl) e
    · exact go _ (.inr rfl) e
/-- an object that no slot holds is written: nothing else changes -/
theorem Ok.hid {p : Addr} {o : HO} (s : Ok G L c) (nf : ¬ c.F p) (no : ¬ c.own G p) (hm : ∃ u, c.H p = some u ∧ isMut u = true) : Ok G L ⟨c.σ, c.ρ, c.F, upd c.H p o⟩ := by
  have kf : ∀ b, c.F b → upd c.H p o b = c.H b := fun b f => upd_ne fun z => nf (z ▸ f)
  refine ⟨s.len, fun i t e => (s.sl i t e).mono (fun _ f => f) kf fun w b q => ?_, s.sep, s.lent, s.lnL, fun b f => ?_, G.tabsUpd s.tabs (.inr hm)⟩
  · obtain ⟨b', d, q', ow, _⟩ := s.own e w
    rw [q] at q'
    cases q'
    exact ⟨ow.nf, upd_ne fun z => no (z ▸ .inr ⟨i, t, e, w, q⟩)⟩
  · obtain ⟨⟨u, e⟩, n⟩ := s.trk b f
    exact ⟨⟨u, (kf b f).trans e⟩, n⟩
theorem Ex.hid {p : Addr} {o : HO} (x : Ex G c0 c) (n : c0.H p = none) : Ex G c0 ⟨c.σ, c.ρ, c.F, upd c.H p o⟩ :=
  ⟨fun b u e z => (upd_ne (ne_of_none e n)).trans (x.keep b u e z), x.mono, x.new, x.sub⟩
end
end Ev

/-! EvK: the rule of list comprehensions. -/
namespace Ev
open PySem PySem.Spec PyProof.Rows L2
section
variable {X : Cx} {W : WX} {G : Gc} {L : Lt} {e a b tg elt iter : Expr} {pos : Pos} {c c0 c1 : Cf} {es ifs : List Expr} {scope : Scope} {own : List (Str × Nat)}
/-- an object that nobody holds stays -/
theorem Ex.hidden {p : Addr} {u : HO} (x : Ex G c c1) (h : c.H p = some u) (nf : ¬ c.F p) (no : ¬ c.own G p) : c1.H p = some u ∧ ¬ c1.F p ∧ ¬ c1.own G p :=
  ⟨x.keep p u h no, fun f => (x.new p f).elim nf fun z => z.elim (fun z => by rw [h] at z; cases z) no, fun o => (x.sub p o).elim no fun z => by rw [h] at z; cases z⟩
theorem lc_spec {mi : M (List D)} {g : D → M Unit} {mt : M Bool} {me : M D} (hi : SI X W G L tg iter mi)
    (hg : ∀ (s : Shared) (H : Hp) (C : Addr) (cl : List (Str × Addr)) (fp : List Addr), SGv (X.blk s H scope (compEnvC scope cl C X.env) fp) G L (own.map (·.2)) tg g)
    (ht : ∀ (s : Shared) (H : Hp) (C : Addr) (cl : List (Str × Addr)) (fp : List Addr), SPT (X.blk s H scope (compEnvC scope cl C X.env) fp) G L ifs mt)
    (he : ∀ (s : Shared) (H : Hp) (C : Addr) (cl : List (Str × Addr)) (fp : List Addr), SD (X.blk s H scope (compEnvC scope cl C X.env) fp) W0 G L elt me) :
    ∃ (wi : TI) (tg' : TG) (tt' : TT) (te' : TE), PI X tg iter wi ∧
      (∀ (s : Shared) (H : Hp) (C : Addr) (cl : List (Str × Addr)) (fp : List Addr), PG (X.blk s H scope (compEnvC scope cl C X.env) fp) tg tg') ∧
      (∀ (s : Shared) (H : Hp) (C : Addr) (cl : List (Str × Addr)) (fp : List Addr), PTs (X.blk s H scope (compEnvC scope cl C X.env) fp) ifs tt') ∧
      (∀ (s : Shared) (H : Hp) (C : Addr) (cl : List (Str × Addr)) (fp : List Addr), PE (X.blk s H scope (compEnvC scope cl C X.env) fp) elt te') ∧
      ∀ (c : Cf) (Q : VK), Ok G L c → Req G L W c (mLc (own.map (·.2)) mi g mt me c.ρ) (fun r c' => ∀ v, VR G c c' v r → Q v c'.H) → tLc wi tg' tt' te' (own.map (·.2)) c.σ c.H Q := by
  obtain ⟨wi, p, q⟩ := hi.ex
  generalize hvs : own.map (·.2) = vs at *
  refine ⟨wi, fun v σ H Q => ∀ s H0 C cl fp, (Classical.choose (hg s H0 C cl fp).ex) v σ H Q, fun σ H Q => ∀ s H0 C cl fp, (Classical.choose (ht s H0 C cl fp).ex) σ H Q,
    fun σ H Q => ∀ s H0 C cl fp, (Classical.choose (he s H0 C cl fp).ex) σ H Q, p, fun s H C cl fp => PG.weak (Classical.choose_spec (hg s H C cl fp).ex).1 (fun v σ H' Q h => h s H C cl fp),
    fun s H C cl fp => PTs.weak (Classical.choose_spec (ht s H C cl fp).ex).1 (fun σ H' Q h => h s H C cl fp), fun s H C cl fp => PE.weak (Classical.choose_spec (he s H C cl fp).ex).1 (fun σ H' Q h => h s H C cl fp), fun c Q s h => ?_⟩
  refine q c _ s ((Req.bind h).imp fun ds c1 _ e1 x1 s1 h1 J it => ?_)
  intro Dd nD
  have h1 : Req G L W c1 (if wipeOk c1.ρ vs = true then match lcLoop vs g mt me ds c1.ρ with
    | .ok ys ρ' => if lenOk ys.length = true ∧ ρ'.length = c1.ρ.length then .ok (Vl.nw (.lst ys)) (restore vs 0 c1.ρ ρ') else .no
    | _ => .no
    else .no) _ := h1
  by_cases hw : wipeOk c1.ρ vs = true
  · rw [if_pos hw] at h1
    have hvl := wipeOk_lent s1 hw
    cases el : lcLoop vs g mt me ds c1.ρ with
    | no => rw [el] at h1; exact h1.elim
    | ex d ρ => rw [el] at h1; exact h1.elim
    | ok ws ρf =>
      rw [el] at h1
      have h1 : Req G L W c1 (if lenOk ws.length = true ∧ ρf.length = c1.ρ.length then .ok (Vl.nw (.lst ws)) (restore vs 0 c1.ρ ρf) else .no) _ := h1
      by_cases hz : lenOk ws.length = true ∧ ρf.length = c1.ρ.length
      · rw [if_pos hz] at h1
        refine ⟨fun i m H => m = ds.length - i ∧ i ≤ ds.length ∧ ∃ (c2 : Cf) (acc : List V) (ys zs : List D), c2.H = H ∧ wipe c2.σ vs = wipe c1.σ vs ∧ Ok G L c2 ∧ Ex G c1 c2 ∧ ¬ c2.F Dd ∧ ¬ c2.own G Dd ∧ c2.H Dd = some (.lst acc) ∧ RpL G.N c2.F c2.H acc ys ∧ lcLoop vs g mt me (ds.drop i) c2.ρ = .ok zs ρf ∧ ys ++ zs = ws,
          ⟨_, rfl, Nat.zero_le _, ⟨c1.σ, c1.ρ, c1.F, upd c1.H Dd (.lst [])⟩, [], [], ws, rfl, rfl, StR.grow s1 nD (fun _ z => z) (fun _ z => .inl z), Ext.grow s1 nD (fun _ z => z) (fun _ z => .inl z), fun f => ?_, fun o => ?_, upd_same, .nil, el, rfl⟩, ?_⟩
        · obtain ⟨⟨u, e⟩, _⟩ := s1.trk Dd f
          rw [nD] at e; cases e
        · obtain ⟨u, e⟩ := s1.ownAt o
          rw [nD] at e; cases e
        · rintro i m H ⟨rfl, hi, c2, acc, ys, zs, rfl, hws, s2, x2, nf, no, hD, rl, ez, ew⟩
          obtain ⟨it1, it2⟩ := it c2 s2 x2.mono (fun a f => x2.fz s1 f) i
          by_cases hlt : i < ds.length
          · refine .inr ?_
            obtain ⟨go, yl⟩ := it1 ds[i] (List.getElem?_eq_getElem hlt)
            refine ⟨go, fun H' => i + 1 ≤ ds.length ∧ ∃ (c2 : Cf) (acc : List V) (ys zs : List D), c2.H = H' ∧ wipe c2.σ vs = wipe c1.σ vs ∧ Ok G L c2 ∧ Ex G c1 c2 ∧ ¬ c2.F Dd ∧ ¬ c2.own G Dd ∧ c2.H Dd = some (.lst acc) ∧ RpL G.N c2.F c2.H acc ys ∧ lcLoop vs g mt me (ds.drop (i + 1)) c2.ρ = .ok zs ρf ∧ ys ++ zs = ws,
              fun H' hN => ⟨ds.length - (i + 1), by omega, rfl, hN.1, hN.2⟩, fun x H' y => ?_⟩
            obtain ⟨F', x3, s3, rx⟩ := yl x H' y
            rw [List.drop_eq_getElem_cons hlt] at ez
            obtain ⟨u5, ρ5, eg, ez⟩ := bind_ok ez
            obtain ⟨k, ρ6, et, ez⟩ := bind_ok ez
            obtain ⟨s4, x4⟩ := wipe_ok (vs := vs) s3 hvl
            have hsig : wipe c.σ vs = wipe c2.σ vs := by rw [hws, e1]
            intro sh H0 C cl fp
            have sg := (Classical.choose_spec (hg sh H0 C cl fp).ex).2 ⟨wipe c2.σ vs, wipeR c2.ρ vs, F', H'⟩ x ds[i]
            rw [hsig]
            refine sg _ s4 rx ?_
            show ReqS G L W0 _ (g ds[i] (wipeR c2.ρ vs)) _
            rw [eg]
            intro σ5 F5 H5 x5 s5 hw5
            have hw5 : wipe σ5 vs = wipe (wipe c2.σ vs) vs := hw5
            rw [wipe_wipe] at hw5
            refine ⟨hw5, ?_⟩
            intro sh2 H02 C2 cl2 fp2
            refine (Classical.choose_spec (ht sh2 H02 C2 cl2 fp2).ex).2 ⟨σ5, ρ5, F5, H5⟩ _ s5 ?_
            show Req G L W0 _ (mt ρ5) _
            rw [et]
            intro F6 H6 x6 s6
            have x26 := ((x3.trans x4).trans x5).trans x6
            cases k with
            | true =>
              rw [if_pos rfl] at ez ⊢
              obtain ⟨y7, ρ7, em, ez⟩ := bind_ok ez
              obtain ⟨zs', ρ8, ezs, ez⟩ := bind_ok ez
              cases ez
              intro sh3 H03 C3 cl3 fp3
              refine (Classical.choose_spec (he sh3 H03 C3 cl3 fp3).ex).2 ⟨σ5, ρ6, F6, H6⟩ _ s6 ?_
              show Req G L W0 _ (me ρ6) _
              rw [em]
              intro F7 H7 x7 s7 v rv
              have x27 := x26.trans x7
              obtain ⟨hD7, nf7, no7⟩ := Ex.hidden (c1 := ⟨σ5, ρ7, F7, H7⟩) x27 hD nf no
              have rl7 := x27.rpl s2 rl
              have hlen : ys.length < 16777216 := by
                have := lenOk_line hz.1
                rw [sizeLine_eq, ← ew, List.length_append] at this
                simp only [List.length_cons] at this
                omega
              refine ⟨acc, hD7, by rw [rl.length, sizeLine_eq]; exact hlen, hlt, ⟨σ5, ρ7, F7, upd H7 Dd (.lst (acc ++ [v]))⟩, acc ++ [v], ys ++ [y7], zs', rfl, hw5.trans hws, Ok.hid (c := ⟨σ5, ρ7, F7, H7⟩) s7 nf7 no7 ⟨_, hD7, rfl⟩, Ex.hid (c := ⟨σ5, ρ7, F7, H7⟩) (x2.trans x27) nD, nf7, no7, upd_same, ?_, ezs, ?_⟩
              · exact (rl7.append (.cons rv .nil)).mono (fun _ f => f) fun b f => upd_ne (fun (z : b = Dd) => nf7 (by rw [← z]; exact f))
              · rw [← ew, List.append_assoc]; rfl
            | false =>
              rw [if_neg Bool.false_ne_true] at ez ⊢
              obtain ⟨hD6, nf6, no6⟩ := Ex.hidden (c1 := ⟨σ5, ρ6, F6, H6⟩) x26 hD nf no
              exact ⟨hlt, ⟨σ5, ρ6, F6, H6⟩, acc, ys, zs, rfl, hw5.trans hws, s6, x2.trans x26, nf6, no6, hD6, x26.rpl s2 rl, ez, ew⟩
          · have e : ds.drop i = [] := List.drop_eq_nil_of_le (by omega)
            rw [e] at ez
            cases ez
            rw [List.append_nil] at ew
            subst ew
            refine .inl ⟨it2 (by omega), ?_⟩
            obtain ⟨s3, x3, ow3⟩ := restore_ok s1 hw hz.2 hws x2 s2
            exact h1 c2.F c2.H x3 s3 _ ⟨Dd, rfl, ⟨nf, acc, hD, rl⟩, fun z => no (ow3 Dd z), Ex.pre x1 (.inl nD)⟩
      · rw [if_neg hz] at h1
        exact h1.elim
  · rw [if_neg hw] at h1
    exact h1.elim
theorem SE.lc {mi : M (List D)} {g : D → M Unit} {mt : M Bool} {me : M D} (hc : X.calm = true) (hN : X.N.Nodup) (ok : BlkOk X.N X.env.scope scope own) (hi : SI X W G L tg iter mi)
    (hg : ∀ (s : Shared) (H : Hp) (C : Addr) (cl : List (Str × Addr)) (fp : List Addr), SGv (X.blk s H scope (compEnvC scope cl C X.env) fp) G L (own.map (·.2)) tg g)
    (ht : ∀ (s : Shared) (H : Hp) (C : Addr) (cl : List (Str × Addr)) (fp : List Addr), SPT (X.blk s H scope (compEnvC scope cl C X.env) fp) G L ifs mt)
    (he : ∀ (s : Shared) (H : Hp) (C : Addr) (cl : List (Str × Addr)) (fp : List Addr), SD (X.blk s H scope (compEnvC scope cl C X.env) fp) W0 G L elt me) (hs : ∀ x, foldedSetIterable iter X.env x = pure x := by intro _; rfl) :
    SE X W G L (.ListComp elt [⟨tg, iter, ifs, 0⟩] scope pos) (mLc (own.map (·.2)) mi g mt me) := by
  obtain ⟨wi, tg', tt', te', p, h1, h2, h3, q⟩ := lc_spec (own := own) hi hg ht he
  exact ⟨_, pe_lc hc hN p ok h1 h2 h3 hs, q⟩
/-- name = [..] on one line -/
theorem SS.setLc (i : Nat) {y : Str} {py spos : Pos} {mi : M (List D)} {g : D → M Unit} {mt : M Bool} {me : M D} (hc : X.calm = true) (hN : X.N.Nodup) (hy : X.N[i]? = some y) (hyl : X.env.scope.names.lookup y = some .local)
    (hsw : swapsWith (.ListComp elt [⟨tg, iter, ifs, 0⟩] scope pos) (some (.Name y py)) spos.line X.env = pure true) (ok : BlkOk X.N X.env.scope scope own) (hi : SI X W G L tg iter mi)
    (hg : ∀ (s : Shared) (H : Hp) (C : Addr) (cl : List (Str × Addr)) (fp : List Addr), SGv (X.blk s H scope (compEnvC scope cl C X.env) fp) G L (own.map (·.2)) tg g)
    (ht : ∀ (s : Shared) (H : Hp) (C : Addr) (cl : List (Str × Addr)) (fp : List Addr), SPT (X.blk s H scope (compEnvC scope cl C X.env) fp) G L ifs mt)
    (he : ∀ (s : Shared) (H : Hp) (C : Addr) (cl : List (Str × Addr)) (fp : List Addr), SD (X.blk s H scope (compEnvC scope cl C X.env) fp) W0 G L elt me) (hs : ∀ x, foldedSetIterable iter X.env x = pure x := by intro _; rfl) :
    SS X W G L (.Assign [.Name y py] (.ListComp elt [⟨tg, iter, ifs, 0⟩] scope pos) spos) (evSet i (mLc (own.map (·.2)) mi g mt me)) := by
  obtain ⟨wi, tg', tt', te', p, h1, h2, h3, q⟩ := lc_spec (own := own) hi hg ht he
  exact SS.set_of (ps_setLc hc hN hy hyl hsw p ok h1 h2 h3 hs) q
end
end Ev

/-! EvL: several names at once, slices, + and * of lists, dicts, repr, truths compared. -/
namespace Ev
open PySem PySem.Spec PyProof.Rows L2

/-- values of an argument list, new ones apart from one another -/
inductive VRs (G : Gc) (c0 c : Cf) : List V → List Vl → Prop
  | nil : VRs G c0 c [] []
  | cons {v : V} {r : Vl} {vs : List V} {rs : List Vl} : VR G c0 c v r → (∀ d, r = .nw d → ∀ (j : Nat) (d' : D), rs[j]? = some (.nw d') → vs[j]? ≠ some v) → VRs G c0 c vs rs → VRs G c0 c (v :: vs) (r :: rs)
structure SV (X : Cx) (W : WX) (G : Gc) (L : Lt) (es : List Expr) (m : M (List Vl)) : Prop where
  ex : ∃ t : TA, PA X es t ∧ ∀ (c : Cf) (Q : List V → Hp → Prop), Ok G L c → Req G L W c (m c.ρ) (fun rs c' => ∀ vs, VRs G c c' vs rs → Q vs c'.H) → t c.σ c.H Q
section
variable {X : Cx} {W : WX} {G : Gc} {L : Lt} {e a b tg : Expr} {pos : Pos} {c c0 c1 : Cf} {es : List Expr}
theorem VRs.base {vs : List V} {rs : List Vl} (x : Ex G c0 c) (h : VRs G c c1 vs rs) : VRs G c0 c1 vs rs := by
  induction h with
  | nil => exact .nil
  | cons r n _ ih => exact .cons (VR.base x r) n ih
theorem VRs.nw {vs : List V} {rs : List Vl} {j : Nat} {d : D} (h : VRs G c c1 vs rs) (e : rs[j]? = some (.nw d)) : ∃ p, vs[j]? = some (V.ref p) ∧ (c.H p = none ∨ c.own G p) ∧ ¬ c1.own G p := by
  induction h generalizing j with
  | nil => simp at e
  | cons r n _ ih =>
    cases j with
    | zero =>
      simp at e
      subst e
      obtain ⟨p, rfl, _, no, pre⟩ := r
      exact ⟨p, rfl, pre, no⟩
    | succ j => simpa using ih (j := j) (by simpa using e)
theorem SV.nil : SV X W G L [] (mpure []) := ⟨tNil, pa_nil, fun c Q s r => r _ _ Ext.refl s _ .nil⟩
def vCons (ma : M Vl) (mr : M (List Vl)) : M (List Vl) := ma.bind fun x => mr.bind fun xs => mpure (x :: xs)
theorem SV.cons {ma : M Vl} {mr : M (List Vl)} (ha : SE X W G L e ma) (hr : SV X W G L es mr) (hs : starEach (e :: es) X.env = (false, eval e X.env) :: starEach es X.env := by rfl) : SV X W G L (e :: es) (vCons ma mr) := by
  obtain ⟨ta, pa, qa⟩ := ha.ex
  obtain ⟨tb, pb, qb⟩ := hr.ex
  refine ⟨tCons ta tb, pa_cons pa pb hs, fun c Q s h => ?_⟩
  refine qa c _ s ((Req.bind h).imp fun x c1 _ e1 x1 s1 h1 v rv => ?_)
  show tb c.σ c1.H _
  rw [← e1]
  refine qb c1 _ s1 ((Req.bind h1).imp fun y c2 _ e2 x2 s2 h2 u ru => ?_)
  refine Req.here (r := x :: y) h2 s2 _ (.cons (VR.keep rv s1 x2 s2) (fun d ex j d' ej ev => ?_) (VRs.base x1 ru))
  subst ex
  obtain ⟨p, rfl, ow, no, _⟩ := rv
  obtain ⟨p', e3, pre, _⟩ := ru.nw ej
  rw [ev] at e3
  cases e3
  obtain ⟨uu, e4, _⟩ := ow.at
  rcases pre with z | z
  · rw [e4] at z; cases z
  · exact no z
def setSlots : List Nat → List Vl → M Unit
  | [], [] => mpure ()
  | i :: is, r :: rs => M.bind (setSlot i r) fun _ => setSlots is rs
  | _, _ => fun _ => .no
def sets : L2.St → List Nat → List V → L2.St
  | σ, i :: is, v :: vs => sets (σ.set i (some v)) is vs
  | σ, _, _ => σ
theorem setSlots_req {P : Unit → Cf → Prop} : ∀ {is : List Nat} {rs : List Vl} {vs : List V} {c : Cf}, Ok G L c → Ex G c0 c → VRs G c0 c vs rs → ReqS G L W c0 (setSlots is rs c.ρ) P → ∃ ρ' , P () ⟨sets c.σ is vs, ρ', c.F, c.H⟩ ∧ Ok G L ⟨sets c.σ is vs, ρ', c.F, c.H⟩
  | [], [], vs, c, s, x, r, h => by
    cases r
    exact ⟨c.ρ, h _ _ _ x s, s⟩
  | [], _ :: _, vs, c, s, x, r, h => h.elim
  | _ :: _, [], vs, c, s, x, r, h => h.elim
  | i :: is, rr :: rs, vs, c, s, x, r, h => by
    cases r with
    | @cons v _ vs _ r1 n r2 =>
      have h : ReqS G L W c0 ((setSlot i rr c.ρ).bind fun _ => setSlots is rs) P := h
      unfold setSlot at h
      cases e : c.ρ[i]? with
      | none => rw [e] at h; exact h.elim
      | some t =>
        rw [e] at h
        have key : (∀ d, t ≠ .ln d) → (∀ d, t ≠ .lf d) → ReqS G L W c0 (setSlots is rs (c.ρ.set i (slOf rr))) P → ∃ ρ' , P () ⟨sets c.σ (i :: is) (v :: vs), ρ', c.F, c.H⟩ ∧ Ok G L ⟨sets c.σ (i :: is) (v :: vs), ρ', c.F, c.H⟩ := fun n1 n2 h => by
          obtain ⟨s1, x1⟩ := Ok.put s x r1 e n1 n2
          refine setSlots_req (c := ⟨c.σ.set i (some v), c.ρ.set i (slOf rr), c.F, c.H⟩) s1 x1 ?_ h
          -- the others are held by nobody still
          have own : ∀ b, Own G (c.σ.set i (some v)) (c.ρ.set i (slOf rr)) b → c.own G b ∨ (∃ d, rr = .nw d ∧ v = .ref b) := fun b z => by
            rcases z with z | ⟨j, u, z, w, q⟩
            · exact .inl (.inl z)
            · by_cases hj : j = i
              · subst hj
                rw [List.getElem?_set_self (List.getElem?_eq_some_iff.mp e).1] at z
                cases z
                have hl : j < c.σ.length := by rw [← s.len]; exact (List.getElem?_eq_some_iff.mp e).1
                rw [List.getElem?_set_self hl] at q
                cases rr with
                | fz d => cases w
                | nw d => exact .inr ⟨d, rfl, by simpa using q⟩
              · rw [List.getElem?_set_ne (Ne.symm hj)] at z q
                exact .inl (.inr ⟨j, u, z, w, q⟩)
          have go : ∀ {vs' : List V} {rs' : List Vl}, VRs G c0 c vs' rs' → (∀ d, rr = .nw d → ∀ (j : Nat) (d' : D), rs'[j]? = some (.nw d') → vs'[j]? ≠ some v) → VRs G c0 ⟨c.σ.set i (some v), c.ρ.set i (slOf rr), c.F, c.H⟩ vs' rs' := by
            intro vs' rs' r
            induction r with
            | nil => intro _; exact .nil
            | @cons v2 r2 vs2 rs2 q nn _ ih =>
              intro hn
              refine .cons ?_ nn (ih fun d ed j d' ej => by simpa using hn d ed (j + 1) d' (by simpa using ej))
              cases r2 with
              | fz d => exact q
              | nw d =>
                obtain ⟨p, z1, z2, z3, z4⟩ := q
                refine ⟨p, z1, z2, fun z => ?_, z4⟩
                rcases own p z with z | ⟨d2, e2, e3⟩
                · exact z3 z
                · exact hn d2 e2 0 d rfl (by simp [z1, e3])
          exact go r2 n
        cases t with
        | ln d => exact h.elim
        | lf d => exact h.elim
        | _ => exact key (fun d z => by cases z) (fun d z => by cases z) h
/-- a, b = e1, e2 of local names -/
def evPar (is : List Nat) (m : M (List Vl)) : M Fl := m.bind fun rs => M.bind (setSlots is rs) fun _ => mpure .nx
theorem par_spec {is : List Nat} {m : M (List Vl)} {t : TA} {D : Ends} (q : ∀ (c : Cf) (Q : List V → Hp → Prop), Ok G L c → Req G L W c (m c.ρ) (fun rs c' => ∀ vs, VRs G c c' vs rs → Q vs c'.H) → t c.σ c.H Q)
    (s : Ok G L c) (h : ReqS G L W c (evPar is m c.ρ) (EndsP G D c)) {Qt : List V → Hp → Prop} (hQ : ∀ vs H1, vs.length = is.length → D.nx (sets c.σ is vs) H1 → Qt vs H1) : t c.σ c.H Qt := by
  refine q c _ s ?_
  have h : ReqS G L W c ((m c.ρ).bind fun rs => M.bind (setSlots is rs) fun _ => mpure Fl.nx) (EndsP G D c) := h
  cases em : m c.ρ with
  | no => rw [em] at h; exact h
  | ex d ρ => rw [em] at h; exact ReqS.toE (o := .ex d ρ) (P := EndsP G D c) h
  | ok rs ρ1 =>
    rw [em] at h
    intro F1 H1 x1 s1 vs rv
    have h2 : ReqS G L W c (setSlots is rs ρ1) (fun a c1 => ReqS G L W c1 (Out.ok Fl.nx c1.ρ) (EndsP G D c)) := ReqS.bind h
    have hlen : vs.length = is.length := by
      have e1 : vs.length = rs.length := by
        clear h h2 em
        induction rv with
        | nil => rfl
        | cons _ _ _ ih => simp [ih]
      rw [e1]
      clear rv e1 h
      have go : ∀ (is : List Nat) (rs : List Vl) (ρ : Rho), setSlots is rs ρ ≠ .no → rs.length = is.length := by
        intro is
        induction is with
        | nil => intro rs ρ h; cases rs with
          | nil => rfl
          | cons => exact absurd rfl h
        | cons i is ih =>
          intro rs ρ h
          cases rs with
          | nil => exact absurd rfl h
          | cons r rs =>
            have h : (setSlot i r ρ).bind (fun _ => setSlots is rs) ≠ .no := h
            cases es : setSlot i r ρ with
            | no => rw [es] at h; exact absurd rfl h
            | ex d ρ' => unfold setSlot at es; split at es <;> cases es
            | ok u ρ' => rw [es] at h; simp [ih rs ρ' h]
      refine go is rs ρ1 fun z => ?_
      rw [z] at h2
      exact h2.elim
    obtain ⟨ρ', h3, s3⟩ := setSlots_req (c := ⟨c.σ, ρ1, F1, H1⟩) s1 x1 rv h2
    exact hQ vs H1 hlen (ReqS.here (r := Fl.nx) h3 s3)
theorem SS.par2 (i j : Nat) {x y : Str} {px py pt : Pos} {kt k2 : Nat} {pt2 : Pos} {m : M (List Vl)} (hc : X.calm = true) (hN : X.N.Nodup) (hi : X.N[i]? = some x) (hj : X.N[j]? = some y) (hij : i ≠ j)
    (hx : X.env.scope.names.lookup x = some .local) (hy : X.env.scope.names.lookup y = some .local) (ha : SV X W G L [a, b] m)
    (hw : swappedStores [.Tuple [.Name x px, .Name y py] kt pt] (.Tuple [a, b] k2 pt2) X.env = pure (some [x, y]))
    (hs : swapsWithSole [.Tuple [.Name x px, .Name y py] kt pt] (.Tuple [a, b] k2 pt2) pos.line X.env = pure false := by rfl) :
    SS X W G L (.Assign [.Tuple [.Name x px, .Name y py] kt pt] (.Tuple [a, b] k2 pt2) pos) (evPar [i, j] m) := by
  obtain ⟨t, p, q⟩ := ha.ex
  refine ⟨_, ps_par hc hN hi hj hij hx hy p hw hs, fun c D s h => ?_⟩
  refine par_spec q s h fun vs H1 hl hd => ?_
  match vs, hl with
  | [v, w], _ => exact ⟨v, w, rfl, hd⟩
theorem SS.par3 (i j l : Nat) {x y z : Str} {d : Expr} {px py pz pt : Pos} {kt k2 : Nat} {pt2 : Pos} {m : M (List Vl)} (hc : X.calm = true) (hN : X.N.Nodup) (hi : X.N[i]? = some x) (hj : X.N[j]? = some y) (hl : X.N[l]? = some z) (hij : i ≠ j) (hil : i ≠ l) (hjl : j ≠ l)
    (hx : X.env.scope.names.lookup x = some .local) (hy : X.env.scope.names.lookup y = some .local) (hz : X.env.scope.names.lookup z = some .local) (ha : SV X W G L [a, b, d] m)
    (hw : swappedStores [.Tuple [.Name x px, .Name y py, .Name z pz] kt pt] (.Tuple [a, b, d] k2 pt2) X.env = pure (some [x, y, z]))
    (hs : swapsWithSole [.Tuple [.Name x px, .Name y py, .Name z pz] kt pt] (.Tuple [a, b, d] k2 pt2) pos.line X.env = pure false := by rfl) :
    SS X W G L (.Assign [.Tuple [.Name x px, .Name y py, .Name z pz] kt pt] (.Tuple [a, b, d] k2 pt2) pos) (evPar [i, j, l] m) := by
  obtain ⟨t, p, q⟩ := ha.ex
  refine ⟨_, ps_par3 hc hN hi hj hl hij hil hjl hx hy hz p hw hs, fun c D s h => ?_⟩
  refine par_spec q s h fun vs H1 hl hd => ?_
  match vs, hl with
  | [u, v, w], _ => exact ⟨u, v, w, rfl, hd⟩

/-! ### slices -/
def sIxOk : Option D → Option (Option Int)
  | none => some none
  | some (.int i) => some (some i)
  | _ => none
def cutD (xs : List D) (lo hi : Option Int) : List D := (xs.drop (HT.sIx xs.length 0 lo)).take (HT.sIx xs.length xs.length hi - HT.sIx xs.length 0 lo)
theorem cut_rel {F : Fz} {H : Hp} {vs : List V} {ds : List D} (r : RpL G.N F H vs ds) (lo hi : Option Int) : RpL G.N F H (cutV vs lo hi) (cutD ds lo hi) := by
  unfold cutV cutD
  rw [r.length]
  exact (r.drop _).take _
theorem ints_rel {F : Fz} {H : Hp} : ∀ ns : List Int, RpL G.N F H (ns.map V.int) (ns.map D.int)
  | [] => .nil
  | n :: ns => .cons (.int n) (ints_rel ns)
/-- an optional part of a slice -/
structure SO (X : Cx) (W : WX) (G : Gc) (L : Lt) (e : Option Expr) (m : M (Option Int)) : Prop where
  ex : ∃ t : TO, PO X e t ∧ ∀ (c : Cf) (Q : Option Int → Hp → Prop), Ok G L c → Req G L W c (m c.ρ) (fun o c' => Q o c'.H) → t c.σ c.H Q
theorem SO.none : SO X W G L none (mpure none) := ⟨_, po_none, fun c Q s h => Req.here (r := Option.none) h s⟩
def asInt : D → Option (Option Int)
  | .int i => some (some i)
  | _ => none
theorem SO.some {m : M D} (h : SD X W G L e m) : SO X W G L (some e) (m.bind fun d => liftO (asInt d)) := by
  obtain ⟨t, p, q⟩ := h.ex
  refine ⟨_, po_some p, fun c Q s h => ?_⟩
  refine q c _ s ((Req.bind h).imp fun d c1 _ e1 x1 s1 h1 v rv => ?_)
  obtain ⟨r, er, h1⟩ := liftO_req h1
  cases d with
  | int i => cases rv; cases er; exact ⟨i, rfl, Req.here h1 s1⟩
  | _ => cases er
def rSlA (K : PySem.W.Frag) : V → Option Int → Option Int → Hp → VK → Prop := fun x lo hi H Q => rSlL K x lo hi H Q ∨ rSlT K x lo hi H Q
def cutOf (lo hi : Option Int) : D → Option Vl
  | .lst l => some (.nw (.lst (cutD l lo hi)))
  | .scr l => some (.nw (.lst (cutD (l.map .int) lo hi)))
  | .tup l => if HT.sIx l.length 0 lo = 0 ∧ HT.sIx l.length l.length hi = l.length then none else some (.fz (.tup (cutD l lo hi)))
  | _ => none
def evSl (m : M D) (ml mh : M (Option Int)) : M Vl := m.bind fun d => ml.bind fun lo => mh.bind fun hi => liftO (cutOf lo hi d)
theorem SE.slice {lo hi : Option Expr} {p2 : Pos} {m : M D} {ml mh : M (Option Int)} (hS : ∀ a ns H, G.N.scrK a ns → SqL X.K H a (ns.map V.int)) (h : SD X W G L e m) (hl : SO X W G L lo ml) (hh : SO X W G L hi mh) : SE X W G L (.Subscript e (.Slice lo hi .none p2) pos) (evSl m ml mh) := by
  obtain ⟨t, p, q⟩ := h.ex
  obtain ⟨tl, pl, ql⟩ := hl.ex
  obtain ⟨th, ph, qh⟩ := hh.ex
  refine ⟨_, pe_slice (L2.SlR.or sl_list sl_tup) p pl ph, fun c Q s h => ?_⟩
  refine q c _ s ((Req.bind h).imp fun d c1 _ e1 x1 s1 h1 v rv => ?_)
  show tl c.σ c1.H _
  rw [← e1]
  refine ql c1 _ s1 ((Req.bind h1).imp fun ol c2 _ e2 x2 s2 h2 => ?_)
  show th c1.σ c2.H _
  rw [← e2]
  refine qh c2 _ s2 ((Req.bind h2).imp fun oh c3 _ e3 x3 s3 h3 => ?_)
  obtain ⟨r, er, h3⟩ := liftO_req h3
  have rv3 := x3.rp s2 (x2.rp s1 rv)
  cases d with
  | lst l =>
    cases er
    cases rv3 with
    | lst f r ll => exact .inl ⟨_, _, rfl, .inl (.inl r), fun p n => newLst ((x1.trans x2).trans x3) s3 (cut_rel ll ol oh) n h3⟩
  | scr l =>
    cases er
    cases rv3 with
    | scr hs =>
      refine .inl ⟨_, _, rfl, ?_, fun p n => newLst ((x1.trans x2).trans x3) s3 (cut_rel (ints_rel l) ol oh) n h3⟩
      rcases hs with hs | hs
      · exact .inl hs.2
      · exact hS _ _ _ hs
  | tup l =>
    have er : (if HT.sIx l.length 0 ol = 0 ∧ HT.sIx l.length l.length oh = l.length then Option.none else Option.some (Vl.fz (.tup (cutD l ol oh)))) = Option.some r := er
    split at er
    · cases er
    · rename_i hn
      cases er
      cases rv3 with
      | tup f r ll => exact .inr ⟨_, _, rfl, .inl (.inl r), by rw [ll.length]; exact hn, fun p n => newTup ((x1.trans x2).trans x3) s3 (cut_rel ll ol oh) n h3⟩
  | _ => cases er

/-! ### + and * -/
def opAdd : D → D → Option Vl
  | .int i, .int j => some (.fz (.int (i + j)))
  | .lst a, .lst b => if lenOk (a.length + b.length) then some (.nw (.lst (a ++ b))) else none
  | .str a, .str b => if lenOk (a.length + b.length) then some (.fz (.str (a ++ b))) else none
  | .tup a, .tup b => if lenOk (a.length + b.length) && !a.isEmpty && !b.isEmpty then some (.fz (.tup (a ++ b))) else none
  | _, _ => none
def rAddA (K : PySem.W.Frag) : R2 := fun x y H Q => rI0 (fun i j => .int (i + j)) x y H Q ∨ rCat x y H Q ∨ (∃ i j, x = .str i ∧ y = .str j ∧ i.length + j.length ≤ sizeLine ∧ Q (.str (i ++ j)) H) ∨ rCatT K x y H Q
theorem op_addA : OpR X (binaryOp .Add) (rAddA X.K) := OpR.or op_add (OpR.or op_cat (OpR.or op_add_str op_catT))
theorem opAdd_ok : BinOk X W G L (rAddA X.K) opAdd := by
  intro c0 c x y v u Q _ ex s rx ry hr
  obtain ⟨r, er, hr⟩ := liftO_req hr
  unfold opAdd at er
  split at er
  · cases er
    cases rx
    cases ry
    exact .inl ⟨_, _, rfl, rfl, Req.here hr s _ (.int _)⟩
  · split at er
    · rename_i hz
      cases er
      cases rx with
      | lst f r l =>
        cases ry with
        | lst f2 r2 l2 =>
          exact .inr (.inl ⟨_, _, _, _, rfl, rfl, r, r2, by rw [l.length, l2.length]; exact lenOk_line hz, fun p n => newLst ex s (l.append l2) n hr⟩)
    · cases er
  · split at er
    · rename_i hz
      cases er
      cases rx
      cases ry
      exact .inr (.inr (.inl ⟨_, _, rfl, rfl, lenOk_line hz, Req.here hr s _ (.str _)⟩))
    · cases er
  · split at er
    · rename_i a' b' hz
      cases er
      rw [Bool.and_eq_true, Bool.and_eq_true] at hz
      obtain ⟨⟨h1, h2⟩, h3⟩ := hz
      cases rx with
      | tup f r l =>
        cases ry with
        | tup f2 r2 l2 =>
          refine .inr (.inr (.inr ⟨_, _, _, _, rfl, rfl, .inl (.inl r), .inl (.inl r2), fun z => ?_, by rw [l.length, l2.length]; exact lenOk_line h1, fun z => ?_, fun _ p n => newTup ex s (l.append l2) n hr⟩))
          · subst z
            cases l
            cases h2
          · subst z
            cases l2
            cases h3
    · cases er
  · cases er
theorem SE.add {ma mb : M D} (ha : SD X W G L a ma) (hb : SD X W G L b mb) : SE X W G L (.BinOp a .Add b pos) (ev2 opAdd ma mb) := SE.bin op_addA opAdd_ok ha hb
def opMul : D → D → Option Vl
  | .int i, .int j => (fMul i j).map .fz
  | .lst l, .int k => if inR k && lenOk (l.length * k.toNat) then some (.nw (.lst (List.replicate k.toNat l).flatten)) else none
  | _, _ => none
theorem rep_rel {F : Fz} {H : Hp} {vs : List V} {ds : List D} (r : RpL G.N F H vs ds) : ∀ k : Nat, RpL G.N F H (List.replicate k vs).flatten (List.replicate k ds).flatten
  | 0 => .nil
  | k + 1 => by
    rw [List.replicate_succ, List.replicate_succ, List.flatten_cons, List.flatten_cons]
    exact r.append (rep_rel r k)
theorem op_mulA : OpR X (binaryOp .Mult) (fun x y H Q => rI CMulX (fun i j => .int (i * j)) x y H Q ∨ rRep x y H Q) := OpR.or op_mulX op_rep
theorem opMul_ok : BinOk X W G L (fun x y H Q => rI CMulX (fun i j => .int (i * j)) x y H Q ∨ rRep x y H Q) opMul := by
  intro c0 c x y v u Q _ ex s rx ry hr
  obtain ⟨r, er, hr⟩ := liftO_req hr
  unfold opMul at er
  split at er
  · rename_i i j
    obtain ⟨d, ed, rfl⟩ := Option.map_eq_some_iff.mp er
    unfold fMul at ed
    split at ed
    · rename_i hz
      cases ed
      cases rx
      cases ry
      exact .inl ⟨_, _, rfl, rfl, of_decide_eq_true (p := (Builtin.Int.intBits i : Int) + (Builtin.Int.intBits j : Int) ≤ 134217728) hz, Req.here hr s _ (.int _)⟩
    · cases ed
  · split at er
    · rename_i hz
      cases er
      rw [Bool.and_eq_true] at hz
      obtain ⟨z1, z2⟩ := inR_ok hz.1
      cases rx with
      | lst f r l =>
        cases ry
        exact .inr ⟨_, _, _, rfl, rfl, r, by omega, by omega, by rw [l.length]; exact lenOk_line hz.2, fun p n => newLst ex s (rep_rel l _) n hr⟩
    · cases er
  · cases er
theorem SE.mul {ma mb : M D} (ha : SD X W G L a ma) (hb : SD X W G L b mb) : SE X W G L (.BinOp a .Mult b pos) (ev2 opMul ma mb) := SE.bin op_mulA opMul_ok ha hb
/-! ### is True, is False -/
def cIsB : D → D → Option Vl
  | .bl i, .bl j => some (.fz (.bl (decide (i = j))))
  | _, _ => none
theorem cIsB_ok : BinOk X W G L rIsB cIsB := by
  intro c0 c x y v u Q _ ex s rx ry hr
  obtain ⟨r, er, hr⟩ := liftO_req hr
  unfold cIsB at er
  split at er
  · cases er
    cases rx
    cases ry
    exact ⟨_, _, rfl, rfl, Req.here hr s _ (.bl _)⟩
  · cases er
/-! ### equality, texts by themselves -/
def eqA : D → D → Option Vl
  | .str x, .str y => some (.fz (.bl (decide (x = y))))
  | x, y => cEq x y
def neA : D → D → Option Vl
  | .str x, .str y => some (.fz (.bl (!decide (x = y))))
  | x, y => cNe x y
theorem dec_strV {x y : Str} : decide (V.str x = V.str y) = decide (x = y) := by
  by_cases h : x = y
  · subst h; simp
  · rw [decide_eq_false h, decide_eq_false fun z => h (V.str.inj z)]
theorem op_eqA (hu : X.A.units + 64 < cLine) : OpR X (compareOp .Eq) (fun x y H Q => rEq x y H Q ∨ rEqD X.K x y H Q) := OpR.or op_eq (op_eqD hu)
theorem op_neA (hu : X.A.units + 64 < cLine) : OpR X (compareOp .NotEq) (fun x y H Q => rNe x y H Q ∨ rNeD X.K x y H Q) := OpR.or op_ne (op_neD hu)
theorem eqA_ok : BinOk X W G L (fun x y H Q => rEq x y H Q ∨ rEqD X.K x y H Q) eqA := by
  intro c0 c x y v u Q e0 ex s rx ry hr
  by_cases hs : ∃ p q, x = .str p ∧ y = .str q
  · obtain ⟨p, q, rfl, rfl⟩ := hs
    cases rx
    cases ry
    refine .inl ⟨rfl, ?_⟩
    rw [dec_strV]
    exact Req.here (r := Vl.fz (.bl (decide (p = q)))) hr s _ (.bl _)
  · have e : eqA x y = cEq x y := by
      unfold eqA
      split
      · exact absurd ⟨_, _, rfl, rfl⟩ hs
      · rfl
    rw [e] at hr
    exact .inr (cEq_ok c0 c x y v u Q e0 ex s rx ry hr)
theorem neA_ok : BinOk X W G L (fun x y H Q => rNe x y H Q ∨ rNeD X.K x y H Q) neA := by
  intro c0 c x y v u Q e0 ex s rx ry hr
  by_cases hs : ∃ p q, x = .str p ∧ y = .str q
  · obtain ⟨p, q, rfl, rfl⟩ := hs
    cases rx
    cases ry
    refine .inl ⟨rfl, ?_⟩
    rw [dec_strV]
    exact Req.here (r := Vl.fz (.bl (!decide (p = q)))) hr s _ (.bl _)
  · have e : neA x y = cNe x y := by
      unfold neA
      split
      · exact absurd ⟨_, _, rfl, rfl⟩ hs
      · rfl
    rw [e] at hr
    exact .inr (cNe_ok c0 c x y v u Q e0 ex s rx ry hr)
/-! ### dict displays of at most one entry -/
theorem newDic {p : Addr} {vs : List (Key × V)} {ds : List (Key × D)} {Q : VK} (x0 : Ex G c0 c) (s : Ok G L c) (r : RpK G.N c.F c.H vs ds) (n : c.H p = none) (h : Req G L W c (.ok (.nw (.dic ds)) c.ρ) (fun r c' => ∀ v, VR G c0 c' v r → Q v c'.H)) : Q (.ref p) (upd c.H p (.dK vs)) := by
  have y : Ex G c ⟨c.σ, c.ρ, c.F, upd c.H p (.dK vs)⟩ := Ext.grow s n (fun _ z => z) fun _ z => .inl z
  refine h c.F (upd c.H p (.dK vs)) y (StR.grow s n (fun _ z => z) fun _ z => .inl z) _ ⟨p, rfl, ⟨fun f => ?_, vs, upd_same, r.mono y.mono fun a f => y.fz s f⟩, fun o => ?_, Ex.pre x0 (.inl n)⟩
  · obtain ⟨⟨u, e⟩, _⟩ := s.trk p f
    rw [n] at e; cases e
  · obtain ⟨u, e⟩ := s.ownAt o
    rw [n] at e; cases e
theorem SE.dic0 : SE X W G L (.Dict [] [] pos) (mpure (.nw (.dic []))) := ⟨_, pe_dnewK, fun c Q s h => fun p n => newDic Ext.refl s .nil n h⟩
def keyOf : D → Option Key
  | .int i => some (.inl i)
  | .str x => some (.inr x)
  | _ => none
def mkDic1 (k v : D) : Option Vl := (keyOf k).map fun k => .nw (.dic [(k, v)])
/-- {k: v}, written -/
theorem SE.dic1 {k v : Expr} {mk mv : M D} (hk : SD X W G L k mk) (hv : SD X W G L v mv) : SE X W G L (.Dict [some k] [v] pos) (mk.bind fun k => mv.bind fun v => liftO (mkDic1 k v)) := by
  obtain ⟨tk, pk, qk⟩ := hk.ex
  obtain ⟨tv, pv, qv⟩ := hv.ex
  refine ⟨_, pe_disp (pps_cons pk pv pps_nil) rfl rfl (by simp) (by simp), fun c Q s h => ?_⟩
  intro p n
  -- the empty dict, held by nobody
  have y : Ex G c ⟨c.σ, c.ρ, c.F, upd c.H p (.dK [])⟩ := Ext.grow s n (fun _ z => z) fun _ z => .inl z
  have s0 : Ok G L ⟨c.σ, c.ρ, c.F, upd c.H p (.dK [])⟩ := StR.grow s n (fun _ z => z) fun _ z => .inl z
  have nf : ¬ c.F p := fun f => by
    obtain ⟨⟨u, e⟩, _⟩ := s.trk p f
    rw [n] at e; cases e
  have no : ¬ c.own G p := fun o => by
    obtain ⟨u, e⟩ := s.ownAt o
    rw [n] at e; cases e
  have h0 : Req G L W ⟨c.σ, c.ρ, c.F, upd c.H p (.dK [])⟩ ((mk c.ρ).bind fun k => mv.bind fun v => liftO (mkDic1 k v)) (fun r c' => ∀ v, VR G c c' v r → Q v c'.H) := Req.shift (c1 := ⟨c.σ, c.ρ, c.F, upd c.H p (.dK [])⟩) h y rfl
  refine qk ⟨c.σ, c.ρ, c.F, upd c.H p (.dK [])⟩ _ s0 ((Req.bind h0).imp fun kk c1 q1 e1 x1 s1 h1 u ru => ?_)
  show tv c.σ c1.H _
  have e1' : c1.σ = c.σ := e1
  rw [← e1']
  refine qv c1 _ s1 ((Req.bind h1).imp fun vv c2 q2 e2 x2 s2 h2 w rw' => ?_)
  obtain ⟨r, er, h2⟩ := liftO_req h2
  obtain ⟨key, ek, rfl⟩ := Option.map_eq_some_iff.mp er
  obtain ⟨hp, nf2, no2⟩ := Ex.hidden (x1.trans x2) (upd_same (H := c.H) (a := p) (o := .dK [])) nf no
  have ru2 := x2.rp s1 ru
  have eu : u = kV key := by
    cases kk with
    | int i => cases ru; cases ek; rfl
    | str i => cases ru; cases ek; rfl
    | _ => cases ek
  subst eu
  refine ⟨hp, [(key, w)], rfl, by simp, ?_⟩
  have hw : ((mk c.ρ).bind fun k => mv.bind fun v => liftO (mkDic1 k v)) = Out.ok (.nw (.dic [(key, vv)])) c2.ρ := by
    have q1 : mk c.ρ = Out.ok kk c1.ρ := q1
    rw [q1]
    show ((mv c1.ρ).bind fun v => liftO (mkDic1 kk v)) = _
    rw [q2]
    show liftO (mkDic1 kk vv) c2.ρ = _
    rw [er]
    rfl
  have h : Req G L W c ((mk c.ρ).bind fun k => mv.bind fun v => liftO (mkDic1 k v)) (fun r c' => ∀ v, VR G c c' v r → Q v c'.H) := h
  rw [hw] at h
  have s3 : Ok G L ⟨c2.σ, c2.ρ, c2.F, upd c2.H p (.dK (mergeK [] [(key, w)]))⟩ := Ok.hid s2 nf2 no2 ⟨_, hp, rfl⟩
  have x3 : Ex G c ⟨c2.σ, c2.ρ, c2.F, upd c2.H p (.dK (mergeK [] [(key, w)]))⟩ := Ex.hid ((y.trans x1).trans x2) n
  have e2' : c2.σ = c.σ := e2.trans e1'
  rw [e2'] at s3 x3
  refine h c2.F _ x3 s3 _ ⟨p, rfl, ⟨nf2, _, upd_same, ?_⟩, fun z => no2 (by rw [← e2'] at z; exact z), .inl n⟩
  show RpK G.N c2.F _ (mergeK [] [(key, w)]) [(key, vv)]
  have em : mergeK [] [(key, w)] = [(key, w)] := rfl
  rw [em]
  exact .cons (rw'.mono (fun _ f => f) fun b f => upd_ne (fun (z : b = p) => nf2 (by rw [← z]; exact f))) .nil
end
end Ev

/-! EvM: repr; the end of a law. -/
namespace Ev
open PySem PySem.Spec PyProof.Rows L2
section
variable {X : Cx} {W : WX} {G : Gc} {L : Lt} {e a b tg : Expr} {pos : Pos} {c c0 c1 : Cf} {es : List Expr}
/-! ### repr -/
def showOk (d : PyData) : Bool := d.showable && !d.hasDict && decide (d.depth ≤ 64) && lenOk d.shown.length
def rRepr (K : PySem.W.Frag) : List V → Hp → VK → Prop := fun xs H Q => (∃ x d, xs = [x] ∧ Dp K H x d ∧ showOk d = true ∧ Q (.str d.shown) H) ∨ (∃ p, xs = [.ref p] ∧ H p = some (.dK []) ∧ Q (.str (PyData.shown (.dict []))) H)
theorem reads_dic0 {P : Program} {w : World} {H : Hp} {h : Heap} {p : Addr} (ok : ObjOk P w H h p (.dK [])) : Reads h (.ref p) (.dict []) [p] ∧ sysModules ≠ p := by
  obtain ⟨_, ns, vs, kv, o, es, ep, e1, e2, e3, _, prs, _⟩ := ok
  cases kv
  have e0 : es.toList = [] := by
    have := prs.length
    simpa using this
  have r : Reads h (.ref p) (.dict []) (p :: [] ++ []) := .dict e1 e2.1 e3 (by rw [e0]; exact .nil) (by rw [e0]; exact .nil)
  refine ⟨r, fun z => ?_⟩
  rw [z] at ns
  simp at ns
theorem call_reprG {k : Nat} (hr : RoomG k X.A) : CallR X (.builtin "repr") (rRepr X.K) := by
  intro pins s σ H xs us Q I r h
  have hu : X.A.units + 70 < cLine := by
    have := hr.room.un
    omega
  rcases h with ⟨x, d, rfl, hd, ok, q⟩ | ⟨p, rfl, hp, q⟩
  · obtain ⟨u, rfl, rx⟩ := vals1 r
    unfold showOk at ok
    simp only [Bool.and_eq_true] at ok
    obtain ⟨⟨⟨o1, o2⟩, o3⟩, o4⟩ := ok
    have o2 : d.hasDict = false := by simpa using o2
    have o3 := of_decide_eq_true o3
    have o4 := lenOk_line o4
    have disp : ∀ p : Addr, x = .ref p → wpAny (model X.prog X.w) X.A (call (.builtin "repr") [u]) (EP X pins σ Q) X.xe s := fun p ep => by
      subst ep
      cases rx
      obtain ⟨as, rd⟩ := Dp.reads I d _ _ hd rfl
      exact repr_of_reads' rd o1 (PyData.noDict_hsm o2) hr.gd (by omega) (fun _ _ e => e) (fun h' u tk hk => ⟨.str d.shown, H, I.kept hk, ⟨_, rfl⟩, q⟩) o4
    cases hd with
    | non =>
      cases rx
      exact PySem.P.repr_of_none ⟨.str _, H, I.tok _, ⟨_, rfl⟩, q⟩
    | bl b =>
      cases rx
      exact PySem.P.repr_of_bool ⟨.str _, H, I.tok _, ⟨_, rfl⟩, q⟩
    | int i =>
      obtain ⟨t, rfl⟩ := rx
      exact PySem.P.repr_of_int (of_decide_eq_true o1) ⟨.str _, H, I.tok _, ⟨_, rfl⟩, q⟩
    | str y =>
      obtain ⟨t, rfl⟩ := rx
      exact PySem.P.repr_of_str ⟨.str _, H, I.tok _, ⟨_, rfl⟩, q⟩ o4
    | lst _ _ => exact disp _ rfl
    | tup _ _ => exact disp _ rfl
  · obtain ⟨u, rfl, rx⟩ := vals1 r
    cases rx
    obtain ⟨rd, ns⟩ := reads_dic0 (I.hok p _ hp)
    have sz : (PyData.shown (.dict [])).length ≤ sizeLine := by
      rw [sizeLine_eq]
      decide +kernel
    exact repr_of_reads' rd rfl (fun _ z => ns (by simpa using z)) hr.gd (by show X.A.units + (PyData.depth (.dict []) + 1) < cLine; simp only [PyData.depth, PyData.depthKv]; omega) (fun _ _ e => e) (fun h' u tk hk => ⟨.str _, H, I.kept hk, ⟨_, rfl⟩, q⟩) sz
def reprD (d : D) : Option Vl := if isP d && showOk (toP d) then some (.fz (.str (toP d).shown)) else none
def bRepr : List D → Option Vl
  | [.dic []] => some (.fz (.str (PyData.shown (.dict []))))
  | [d] => reprD d
  | _ => none
theorem bRepr_ok : CallOk X W G L (rRepr X.K) bRepr := by
  intro c0 c ds vs Q _ ex s r hr
  obtain ⟨w, er, hr⟩ := liftO_req hr
  unfold bRepr at er
  split at er
  · cases er
    cases r with
    | cons r1 r2 =>
      cases r2
      cases r1 with
      | dic f rr l =>
        cases l
        exact .inr ⟨_, rfl, rr, Req.here hr s _ (.str _)⟩
  · rename_i d hn
    unfold reprD at er
    split at er
    · rename_i hz
      cases er
      rw [Bool.and_eq_true] at hz
      cases r with
      | cons r1 r2 =>
        cases r2
        exact .inl ⟨_, _, rfl, toDp r1 hz.1, hz.2, Req.here hr s _ (.str _)⟩
    · cases er
  · cases er
end

/-! ### the end of a law -/
/-- the abstract heap at a law's call: the script alone -/
def scriptH (a : Addr) (o : Obj) (ns : List Int) : Hp := fun b => if b = a then some (.frz o (.lst (ns.map V.int))) else none
def emptyH : Hp := fun _ => none
/-- the law's def is called with the script -/
theorem law_end {P : Program} {w : World} {K : PySem.W.Frag} {mg mb : Str → Option Value} {k : Nat} {fa a : Addr} {fd : FuncData} {x : Str} {sp : Sp} {s₁ : Shared} {vs : List Value} {ns : List Int} {H : Hp}
    (kin : K.In s₁.heap) (glob : s₁.heap.Ns mainGlobals mg) (blt : s₁.heap.Ns builtinsNs mb) (bltv : ∀ x : Str, x ≠ "__name__" → mb x = bootBuiltins x) (nolim : s₁.heap.NoLimit) (nogen : s₁.gens = #[])
    (obj : s₁.heap.get? a = some { cls := .type "list", data := .seq vs.toArray }) (hH : (H = emptyH) ∨ (H = scriptH a { cls := .type "list", data := .seq vs.toArray } ns ∧ K.lookup a = none)) (hok : HOk P w H s₁.heap)
    (room : RoomG k callerA) (F : ∀ base : Heap, K.In base → base.Ns mainGlobals mg → FnG P w K mg base (L2.CX P w) k fa fd [x] sp) (binds : ∀ (s : Shared) (u : Value), BindsTo s fd ⟨[u], []⟩ [(x, u)])
    (wish : sp [.ref a] H (fun v _ => v = .bl true) fun _ _ _ => False) :
    codeAny (model P w) callerA (.call (.ref fa) ⟨[.ref a], []⟩) (fun r s' => r = .ok (.ret (.bool true)) ∧ OldK s₁.heap s'.heap ∧ s'.os = s₁.os ∧ AllBare s'.gens) s₁ := by
  -- what is tracked is the script, if anything
  have only : ∀ b u, H b = some u → b = a ∧ u = .frz { cls := .type "list", data := .seq vs.toArray } (.lst (ns.map V.int)) ∧ K.lookup a = none := by
    intro b u e
    rcases hH with rfl | ⟨rfl, hk⟩
    · cases e
    · unfold scriptH at e
      split at e
      · rename_i hb
        exact ⟨hb, (Option.some.inj e).symm, hk⟩
      · cases e
  have low : ∀ {b : Addr} {o : Obj}, s₁.heap.get? b = some o → b ≠ a → (hidT s₁.heap H).get? b = some o := fun {b o} e n => hidT_get e (by
    cases q : H b with
    | none => rfl
    | some u => exact absurd (only b u q).1 n)
  have lowNs : ∀ {b : Addr} {m : Str → Option Value}, s₁.heap.Ns b m → (hidT s₁.heap H).Ns b m := fun {b m} ⟨o, es, ep, e, d, r⟩ => ⟨o, es, ep, low e (fun z => by
    subst z
    rw [obj] at e
    cases e
    cases d), d, r⟩
  have lowK : K.In (hidT s₁.heap H) := fun b o e => hidT_get (kin b o e) (by
    cases q : H b with
    | none => rfl
    | some u =>
      obtain ⟨rfl, _, hk⟩ := only b u q
      rw [hk] at e
      cases e)
  obtain ⟨mc, hc1, hc2⟩ := nolim
  have ground : Env0 P w K mg (hidT s₁.heap H) callerA [] s₁ H := {
    frames := rfl
    mod := ⟨lowK, lowNs glob, ⟨mb, lowNs blt, bltv⟩, ⟨mc, lowNs hc1, hc2⟩⟩
    bs := fun b o e => of_hidT e
    bsz := Nat.le_of_eq (hidT_size _ _)
    funs := trivial
    frf := fun b hb => by cases (show b ∈ ([] : List Addr) from hb)
    hok := hok
    bare := .of_eq nogen }
  refine codeAny_mono ((F _ lowK (lowNs glob)).run callerA [] s₁ H ⟨[.ref a], []⟩ [.ref a] [.ref a] _ _ room ground (binds s₁ (.ref a)) (.cons rfl .nil) wish) fun r s' out => ?_
  match r, out with
  | .error e, out =>
    obtain ⟨_, _, _, _, _, _, _, _, _, _, _, _, no⟩ := out
    exact no.elim
  | .ok .next, out => exact out.elim
  | .ok .brk, out => exact out.elim
  | .ok .cont, out => exact out.elim
  | .ok (.ret u), out =>
    obtain ⟨v, H', os, bare, un, hok', rel, yes⟩ := out
    have yes : v = .bl true := yes
    cases yes
    cases (show u = Value.bool true from rel)
    refine ⟨rfl, OldK.of_keep fun b o e => ?_, os, bare⟩
    cases q : H b with
    | none => exact un.keep b o e q (fun z => by cases (show b ∈ ([] : List Addr) from z)) (by simp)
    | some u =>
      obtain ⟨rfl, rfl, _⟩ := only b u q
      obtain ⟨e1, _⟩ := hok _ _ q
      obtain ⟨e2, _⟩ := hok' _ _ (un.frzs _ _ _ q)
      rw [e] at e1
      cases e1
      exact e2
/-- the module's own script, should there be one -/
def scrKof (K : PySem.W.Frag) (a : Addr) (ns : List Int) : Prop := ∃ (o : Obj) (its : Array Value) (n : Nat), K.lookup a = some o ∧ o.cls = .type "list" ∧ o.dict = none ∧ o.data = .seq its n ∧ its.size ≤ sizeLine ∧ Vals (ns.map V.int) its.toList
/-- the goal that the word k_head leaves, from the plain meaning of the law -/
theorem walk_ev {l : PySem.W.OpenLaw} {n k : Nat} {q : Program} {loose : List Str} {XP : (Str → Option Value) → Heap → Prop} {YP : World → Heap → Prop} {d : DefRec} {K : Params → PySem.W.Frag} {x : Str} {φ : Fn}
    (hn : l.most = some n) (hn2 : n ≤ sizeLine) (hdf : d.params.defaults = []) (room : Room k callerA)
    (hY : ∀ (w : World) (h : Heap), YP w h → (K w.params).In h)
    (F : ∀ (w : World) (mg : Str → Option Value) (fa : Addr) (h : Heap), (K w.params).In h → h.Ns mainGlobals mg → mg d.name = some (.ref fa) →
      ∃ (fd : FuncData) (G : Gc), (∀ (s : Shared) (u : Value), BindsTo s fd ⟨[u], []⟩ [(x, u)]) ∧ G.N.scrK = scrKof (K w.params) ∧ (∀ H, (∀ b, H b = none ∨ ∃ o u, H b = some (.frz o u)) → G.tabs H) ∧ (∀ b, ¬ G.tb b) ∧
        ∀ base : Heap, (K w.params).In base → base.Ns mainGlobals mg → FnG l.prog w (K w.params) mg base (L2.CX l.prog w) k fa fd [x] (spEv G φ 1))
    (law : ∀ ns : List Int, ns.length ≤ n → (∀ z ∈ ns, Builtin.Int.intBits z ≤ 1048576) → ∃ outs, φ [.fz (.scr ns)] = .ok (.fz (.bl true)) outs) :
    PySem.W.WalkO q loose XP YP l.row.toRowW d [] (fun f vs => PySem.call f vs) := by
  refine Att.attach_callB hn hdf fun w s₀ s₁ mg mb fa o pm cd doc a vs ns GG Y ho hd hcd hmg hobj hints hlen hbits hg => ?_
  have KX := hY w _ Y
  obtain ⟨fd, G, hb, hS, hT, hTb, hF⟩ := F w mg fa _ KX GG.T.g hmg
  have rv := vals_ints hints
  have roomG : RoomG k callerA := ⟨room, rfl⟩
  obtain ⟨outs, el⟩ := law ns hlen hbits
  -- the promise, in either heap
  have wish : ∀ (H : Hp) (F0 : Fz), (∀ b, H b = none ∨ ∃ o u, H b = some (.frz o u)) → (∀ b, F0 b → ∃ o, H b = some o) → ((F0 a ∧ Rd H a (.lst (ns.map V.int))) ∨ scrKof (K w.params) a ns) → spEv G φ 1 [.ref a] H (fun v _ => v = .bl true) fun _ _ _ => False := by
    intro H F0 hH hF0 hr
    refine ⟨rfl, F0, [.fz (.scr ns)], fun s hs => ?_, ?_, ?_⟩
    · cases List.mem_singleton.mp hs
      rfl
    · refine ⟨rfl, ?_, ?_, ?_, ?_, fun b f => ⟨hF0 b f, hTb b⟩, hT H hH⟩
      · intro i s e
        cases i with
        | zero =>
          cases (show some (Sl.fz (.scr ns)) = some s from e)
          exact ⟨_, rfl, .scr (by rw [hS]; exact hr)⟩
        | succ i => cases (show (none : Option Sl) = some s by simpa [argC] using e)
      · intro i j s t b hij e w' e2 w2
        cases i with
        | zero =>
          cases (show some (Sl.fz (.scr ns)) = some s from e)
          cases w'
        | succ i => cases (show (none : Option Sl) = some s by simpa [argC] using e)
      · intro i b e
        cases i with
        | zero => cases (show some (none : Option Addr) = some (some b) from e)
        | succ i => cases (show (none : Option (Option Addr)) = some (some b) by simpa [lentOf] using e)
      · intro i d e
        cases i with
        | zero => rcases e with e | e <;> cases e
        | succ i => rcases e with e | e <;> simp [argC] at e
    · rw [el]
      intro F' H' x s' v rv
      cases rv
      rfl
  have lenV := hints.length
  cases hk : (K w.params).lookup a with
  | some o =>
    have e := KX a o hk
    rw [hobj] at e
    cases e
    refine law_end KX GG.T.g GG.T.b GG.T.builtins GG.T.nolimit hg hobj (H := emptyH) (ns := ns) (.inl rfl) (fun b u z => by cases z) roomG hF hb (wish _ (fun _ => False) (fun b => .inl rfl) (fun b f => f.elim) (.inr ⟨_, vs.toArray, _, hk, rfl, rfl, rfl, ?_, by simpa using rv⟩))
    rw [List.size_toArray, lenV]
    omega
  | none =>
    have at_ : scriptH a { cls := .type "list", data := .seq vs.toArray } ns a = some (.frz { cls := .type "list", data := .seq vs.toArray } (.lst (ns.map V.int))) := if_pos rfl
    have or_ : ∀ b, scriptH a { cls := .type "list", data := .seq vs.toArray } ns b = none ∨ ∃ o u, scriptH a { cls := .type "list", data := .seq vs.toArray } ns b = some (.frz o u) := fun b => by
      by_cases hb : b = a
      · exact .inr ⟨_, _, if_pos hb⟩
      · exact .inl (if_neg hb)
    refine law_end KX GG.T.g GG.T.b GG.T.builtins GG.T.nolimit hg hobj (H := scriptH a { cls := .type "list", data := .seq vs.toArray } ns) (ns := ns) (.inr ⟨rfl, hk⟩) (fun b u z => ?_) roomG hF hb (wish _ (fun b => b = a) or_ (fun b f => by subst f; exact ⟨_, at_⟩) (.inl ⟨rfl, .inr ⟨_, at_⟩⟩))
    unfold scriptH at z
    split at z
    · rename_i hb'
      cases z
      subst hb'
      exact ⟨hobj, by rw [List.length_map]; omega, vs, _, rv, hobj⟩
    · cases z
end Ev

/-! EvN: short words for the printed derivations. -/
namespace Ev
open PySem PySem.Spec PyProof.Rows L2
theorem tk0 {X : Cx} : Takes X W0 := fun u s' ⟨_, _, _, _, _, _, _, _, _, _, _, _, _, _, _, _, no⟩ => False.elim no
theorem bt_isinstance : bootBuiltins "isinstance" = some (.builtin "isinstance") := by decide +kernel
theorem bt_abs : bootBuiltins "abs" = some (.builtin "abs") := by decide +kernel
theorem bt_len : bootBuiltins "len" = some (.builtin "len") := by decide +kernel
theorem bt_all : bootBuiltins "all" = some (.builtin "all") := by decide +kernel
theorem bt_sum : bootBuiltins "sum" = some (.builtin "sum") := by decide +kernel
theorem bt_repr : bootBuiltins "repr" = some (.builtin "repr") := by decide +kernel
theorem bt_int : bootBuiltins "int" = some (.type "int") := by decide +kernel
theorem bt_bool : bootBuiltins "bool" = some (.type "bool") := by decide +kernel
theorem bt_str : bootBuiltins "str" = some (.type "str") := by decide +kernel
theorem bt_list : bootBuiltins "list" = some (.type "list") := by decide +kernel
theorem bt_tuple : bootBuiltins "tuple" = some (.type "tuple") := by decide +kernel
theorem bt_dict : bootBuiltins "dict" = some (.type "dict") := by decide +kernel
/-- arguments by place and by name, just so many -/
def permN {α : Type} (z : α) (nu nk : Nat) (ix : List Nat) (us ws : List α) : List α := if us.length = nu ∧ ws.length = nk then perm z ix us ws else []
theorem GRel.permN (nu nk : Nat) (ix : List Nat) : GRel (Ev.permN .non nu nk ix) (Ev.permN (.v .non) nu nk ix) := by
  intro G c vs zs as bs r q
  unfold Ev.permN
  rw [Paired.length r, Paired.length q]
  split
  · exact GRel.perm ix r q
  · exact .nil
theorem kbinds_mk {K : PySem.W.Frag} {x qual : Str} {st : Stmt} {f : Addr} {fd : FuncData} {p : Str} {ps ks : List Str} (F : Fun K x qual st f fd) (nu nk : Nat) (ix : List Nat)
    (h : ∀ (kV doc pm : Value) (an : Option Addr) (cdv ct : Value) (us ws : List Value), us.length = nu → ws.length = nk → bindArgs (PySem.W.fnOf x qual (defArgs st) (defBody st) (defScope st) .none kV doc pm an cdv ct) ⟨us, ks.zip ws⟩ = pure ((p :: ps).zip (perm .none ix us ws))) :
    KBinds K fd (p :: ps) ks (permN .none nu nk ix) (permN .non nu nk ix) := by
  obtain ⟨oc, od, kV, doc, pm, an, cdv, ct, osl, rfl, lk, hcd⟩ := F.ex
  refine ⟨fun s us ws _ hl => ?_, fun {vs us zs ws} r q => ?_⟩
  · unfold permN at hl ⊢
    split at hl
    · rename_i hn
      rw [if_pos hn]
      exact .of_eq (h kV doc pm an cdv ct us ws hn.1 hn.2)
    · cases hl
  · unfold permN
    rw [Paired.length r, Paired.length q]
    split
    · exact Vals.perm ix r q
    · exact .nil
section
variable {X : Cx} {W : WX} {G : Gc} {L : Lt} {e a b : Expr} {pos : Pos} {es : List Expr} {m : M (List D)} {k : Nat} {p : Pos}
theorem SE.isinst (hg : Gl X "isinstance") (hm : X.mg "isinstance" = none) (ha : SA X W G L (e :: es) m) (he : starEach (e :: es) X.env = (false, eval e X.env) :: starEach es X.env := by rfl) (hpl : (backTo pos (starEach es X.env)).any (·.1) = false := by rfl) : SE X W G L (.Call (.Name "isinstance" p) (e :: es) [] pos) (evC bIsi m) := SE.callB call_isi' bIsi_ok hg hm bt_isinstance ha (by decide) (by decide) he hpl
theorem SE.abs (hg : Gl X "abs") (hm : X.mg "abs" = none) (ha : SA X W G L (e :: es) m) (he : starEach (e :: es) X.env = (false, eval e X.env) :: starEach es X.env := by rfl) (hpl : (backTo pos (starEach es X.env)).any (·.1) = false := by rfl) : SE X W G L (.Call (.Name "abs" p) (e :: es) [] pos) (evC bAbs m) := SE.callB call_abs bAbs_ok hg hm bt_abs ha (by decide) (by decide) he hpl
theorem SE.len (hg : Gl X "len") (hm : X.mg "len" = none) (ha : SA X W G L (e :: es) m) (he : starEach (e :: es) X.env = (false, eval e X.env) :: starEach es X.env := by rfl) (hpl : (backTo pos (starEach es X.env)).any (·.1) = false := by rfl) : SE X W G L (.Call (.Name "len" p) (e :: es) [] pos) (evC bLen m) := SE.callB call_len bLen_ok hg hm bt_len ha (by decide) (by decide) he hpl
theorem SE.all (hc : X.calm = true) (hg : Gl X "all") (hm : X.mg "all" = none) (ha : SA X W G L (e :: es) m) (he : starEach (e :: es) X.env = (false, eval e X.env) :: starEach es X.env := by rfl) (hpl : (backTo pos (starEach es X.env)).any (·.1) = false := by rfl) : SE X W G L (.Call (.Name "all" p) (e :: es) [] pos) (evC bAll m) := SE.callB (cr_all hc) bAll_ok hg hm bt_all ha (by decide) (by decide) he hpl
theorem SE.sum (hc : X.calm = true) (hg : Gl X "sum") (hm : X.mg "sum" = none) (ha : SA X W G L (e :: es) m) (he : starEach (e :: es) X.env = (false, eval e X.env) :: starEach es X.env := by rfl) (hpl : (backTo pos (starEach es X.env)).any (·.1) = false := by rfl) : SE X W G L (.Call (.Name "sum" p) (e :: es) [] pos) (evC bSum m) := SE.callB (cr_sum hc) bSum_ok hg hm bt_sum ha (by decide) (by decide) he hpl
theorem SE.repr (hr : RoomG k X.A) (hg : Gl X "repr") (hm : X.mg "repr" = none) (ha : SA X W G L (e :: es) m) (he : starEach (e :: es) X.env = (false, eval e X.env) :: starEach es X.env := by rfl) (hpl : (backTo pos (starEach es X.env)).any (·.1) = false := by rfl) : SE X W G L (.Call (.Name "repr" p) (e :: es) [] pos) (evC bRepr m) := SE.callB (call_reprG hr) bRepr_ok hg hm bt_repr ha (by decide) (by decide) he hpl
theorem SE.int (hg : Gl X "int") (hm : X.mg "int" = none) (ha : SA X W G L (e :: es) m) (he : starEach (e :: es) X.env = (false, eval e X.env) :: starEach es X.env := by rfl) (hpl : (backTo pos (starEach es X.env)).any (·.1) = false := by rfl) : SE X W G L (.Call (.Name "int" p) (e :: es) [] pos) (evC bInt m) := SE.callT call_int1 bInt_ok hg hm bt_int ha (by decide) (by decide) he hpl
theorem SE.tuple (hg : Gl X "tuple") (hm : X.mg "tuple" = none) (ha : SA X W G L (e :: es) m) (he : starEach (e :: es) X.env = (false, eval e X.env) :: starEach es X.env := by rfl) (hpl : (backTo pos (starEach es X.env)).any (·.1) = false := by rfl) : SE X W G L (.Call (.Name "tuple" p) (e :: es) [] pos) (evC bTuple m) := SE.callT call_tuple_of bTuple_ok hg hm bt_tuple ha (by decide) (by decide) he hpl
theorem SE.list (hg : Gl X "list") (hm : X.mg "list" = none) (ha : SA X W G L (e :: es) m) (he : starEach (e :: es) X.env = (false, eval e X.env) :: starEach es X.env := by rfl) (hpl : (backTo pos (starEach es X.env)).any (·.1) = false := by rfl) : SE X W G L (.Call (.Name "list" p) (e :: es) [] pos) (evC bList m) := SE.callT call_list_of bList_ok hg hm bt_list ha (by decide) (by decide) he hpl
theorem SE.gt {ma mb : M D} (ha : SD X W G L a ma) (hb : SD X W G L b mb) : SE X W G L (.Compare a [.Gt] [b] pos) (ev2 cGt ma mb) := SE.cmp op_gt cGt_ok ha hb (nomark _)
theorem SE.lt {ma mb : M D} (ha : SD X W G L a ma) (hb : SD X W G L b mb) : SE X W G L (.Compare a [.Lt] [b] pos) (ev2 cLt ma mb) := SE.cmp op_lt cLt_ok ha hb (nomark _)
theorem SE.le {ma mb : M D} (ha : SD X W G L a ma) (hb : SD X W G L b mb) : SE X W G L (.Compare a [.LtE] [b] pos) (ev2 cLe ma mb) := SE.cmp op_le cLe_ok ha hb (nomark _)
theorem SE.ge {ma mb : M D} (ha : SD X W G L a ma) (hb : SD X W G L b mb) : SE X W G L (.Compare a [.GtE] [b] pos) (ev2 cGe ma mb) := SE.cmp op_ge cGe_ok ha hb (nomark _)
theorem SE.eq {ma mb : M D} (hr : RoomG k X.A) (ha : SD X W G L a ma) (hb : SD X W G L b mb) : SE X W G L (.Compare a [.Eq] [b] pos) (ev2 eqA ma mb) := SE.cmp (op_eqA hr.room.units) eqA_ok ha hb (nomark _)
theorem SE.ne {ma mb : M D} (hr : RoomG k X.A) (ha : SD X W G L a ma) (hb : SD X W G L b mb) : SE X W G L (.Compare a [.NotEq] [b] pos) (ev2 neA ma mb) := SE.cmp (op_neA hr.room.units) neA_ok ha hb (nomark _)
theorem SE.isN {ma mb : M D} (ha : SD X W G L a ma) (hb : SD X W G L b mb) : SE X W G L (.Compare a [.Is] [b] pos) (ev2 cIsN ma mb) := SE.cmp op_isN cIsN_ok ha hb (nomark _)
theorem SE.notN {ma mb : M D} (ha : SD X W G L a ma) (hb : SD X W G L b mb) : SE X W G L (.Compare a [.IsNot] [b] pos) (ev2 cNotN ma mb) := SE.cmp op_notN cNotN_ok ha hb (nomark _)
theorem SE.isB {ma mb : M D} (ha : SD X W G L a ma) (hb : SD X W G L b mb) : SE X W G L (.Compare a [.Is] [b] pos) (ev2 cIsB ma mb) := SE.cmp op_isBl cIsB_ok ha hb (nomark _)
theorem ST.gt {ma mb : M D} (ha : SD X W G L a ma) (hb : SD X W G L b mb) : ST X W G L (.Compare a [.Gt] [b] pos) (ev2T cGt ma mb) := ST.cmp op_gt cGt_ok ha hb (nomark _)
theorem ST.lt {ma mb : M D} (ha : SD X W G L a ma) (hb : SD X W G L b mb) : ST X W G L (.Compare a [.Lt] [b] pos) (ev2T cLt ma mb) := ST.cmp op_lt cLt_ok ha hb (nomark _)
theorem ST.le {ma mb : M D} (ha : SD X W G L a ma) (hb : SD X W G L b mb) : ST X W G L (.Compare a [.LtE] [b] pos) (ev2T cLe ma mb) := ST.cmp op_le cLe_ok ha hb (nomark _)
theorem ST.ge {ma mb : M D} (ha : SD X W G L a ma) (hb : SD X W G L b mb) : ST X W G L (.Compare a [.GtE] [b] pos) (ev2T cGe ma mb) := ST.cmp op_ge cGe_ok ha hb (nomark _)
theorem ST.eq {ma mb : M D} (hr : RoomG k X.A) (ha : SD X W G L a ma) (hb : SD X W G L b mb) : ST X W G L (.Compare a [.Eq] [b] pos) (ev2T eqA ma mb) := ST.cmp (op_eqA hr.room.units) eqA_ok ha hb (nomark _)
theorem ST.ne {ma mb : M D} (hr : RoomG k X.A) (ha : SD X W G L a ma) (hb : SD X W G L b mb) : ST X W G L (.Compare a [.NotEq] [b] pos) (ev2T neA ma mb) := ST.cmp (op_neA hr.room.units) neA_ok ha hb (nomark _)
theorem ST.isN {ma mb : M D} (ha : SD X W G L a ma) (hb : SD X W G L b mb) : ST X W G L (.Compare a [.Is] [b] pos) (ev2T cIsN ma mb) := ST.cmp op_isN cIsN_ok ha hb (nomark _)
theorem ST.notN {ma mb : M D} (ha : SD X W G L a ma) (hb : SD X W G L b mb) : ST X W G L (.Compare a [.IsNot] [b] pos) (ev2T cNotN ma mb) := ST.cmp op_notN cNotN_ok ha hb (nomark _)
theorem ST.isB {ma mb : M D} (ha : SD X W G L a ma) (hb : SD X W G L b mb) : ST X W G L (.Compare a [.Is] [b] pos) (ev2T cIsB ma mb) := ST.cmp op_isBl cIsB_ok ha hb (nomark _)
theorem SD.app (i : Nat) {x : Str} {xp ap : Pos} (hN : X.N[i]? = some x) (hv : Vis X.env.scope x) (h : SA X W G L (e :: es) m)
    (hbase : attributeBase (.Name x xp) "append" X.env (eval (.Name x xp) X.env) = eval (.Name x xp) X.env := by rfl)
    (hfew : ((backTo pos (starEach (e :: es) X.env)).all (fun x => !x.1) && (backToKw pos (keywordEach [] X.env)).all (fun x => x.1.isSome) && decide ((e :: es).length + ([] : List Keyword).length + (if ([] : List Keyword).isEmpty then 0 else 1) < 30)) = true := by rfl)
    (hline : (ap.endLine == pos.line) = true := by rfl) (hs : starEach (e :: es) X.env = (false, eval e X.env) :: starEach es X.env := by rfl) (hplain : (backTo pos (starEach es X.env)).any (·.1) = false := by rfl)
    (hd : (x == ("__debug__" : Str)) = false := by decide) (hcd : (x == ("__classdict__" : Str)) = false := by decide) : SD X W G L (.Call (.Attribute (.Name x xp) "append" ap) (e :: es) [] pos) (evMut i fApp m) :=
  SD.mut i PySem.F.slot_list_append PySem.F.type_list_append mt_append fApp_ok hN hv h hbase hfew hline hs hplain hd hcd
end
/-! ### meanings by short names -/
def evO (m : M D) : M (Option Int) := m.bind fun d => liftO (asInt d)
def evRet (m : M Vl) : M Fl := m.bind fun r => mpure (.rt r)
def evExpr (m : M D) : M Fl := m.bind fun _ => mpure .nx
def tNot' (m : M Bool) : M Bool := m.bind fun k => mpure (!k)
def tTruth (m : M D) : M Bool := m.bind fun d => liftO (truth d)
def gsNil : List D → M Unit := fun ds => match ds with | [] => mpure () | _ => fun _ => .no
theorem scr_sq {G : Gc} {K : PySem.W.Frag} (h : G.N.scrK = scrKof K) : ∀ a ns H, G.N.scrK a ns → SqL K H a (ns.map V.int) := fun a ns H q => .inr (by rw [h] at q; exact q)
end Ev

/-! EvP: reckoning with plain meanings: one equation for each step. -/
namespace Ev
open PySem PySem.Spec PyProof.Rows L2
variable {α β : Type} {ρ : Rho}
/-- it ends well, so -/
def Wq (o : Out α) (P : α → Rho → Prop) : Prop := ∃ a ρ, o = .ok a ρ ∧ P a ρ
def Fw (o : FOut) (P : Vl → List Sl → Prop) : Prop := ∃ a ρ, o = .ok a ρ ∧ P a ρ
theorem Wq.mono {o : Out α} {P Q : α → Rho → Prop} (h : Wq o P) (q : ∀ a ρ, P a ρ → Q a ρ) : Wq o Q := by
  obtain ⟨a, ρ, e, p⟩ := h
  exact ⟨a, ρ, e, q a ρ p⟩
theorem Fw.mono {o : FOut} {P Q : Vl → List Sl → Prop} (h : Fw o P) (q : ∀ a ρ, P a ρ → Q a ρ) : Fw o Q := by
  obtain ⟨a, ρ, e, p⟩ := h
  exact ⟨a, ρ, e, q a ρ p⟩
theorem q_ok {a : α} {P : α → Rho → Prop} : Wq (.ok a ρ) P = P a ρ := propext ⟨fun ⟨_, _, e, p⟩ => by cases e; exact p, fun p => ⟨a, ρ, rfl, p⟩⟩
theorem q_bind {o : Out α} {f : α → Rho → Out β} {P : β → Rho → Prop} : Wq (o.bind f) P = Wq o (fun a ρ => Wq (f a ρ) P) := propext ⟨fun ⟨b, ρ, e, p⟩ => by
    obtain ⟨a, ρ1, e1, e2⟩ := bind_ok e
    exact ⟨a, ρ1, e1, b, ρ, e2, p⟩, fun ⟨a, ρ1, e1, b, ρ, e2, p⟩ => ⟨b, ρ, by rw [e1]; exact e2, p⟩⟩
theorem fw_ok {a : Vl} {os : List Sl} {P : Vl → List Sl → Prop} : Fw (.ok a os) P = P a os := propext ⟨fun ⟨_, _, e, p⟩ => by cases e; exact p, fun p => ⟨a, os, rfl, p⟩⟩
/-- a def from its body -/
theorem fw_of {m : M Fl} {z : Nat} {as : List Sl} {P : Vl → List Sl → Prop} (h : Wq (m (as ++ List.replicate (z - as.length) .un)) fun f ρ => as.length ≤ ρ.length ∧ ((∃ r, f = .rt r ∧ P r (outsOf as ρ)) ∨ (f = .nx ∧ P (.fz .non) (outsOf as ρ)))) : Fw (fnSem m z as) P := by
  obtain ⟨f, ρ, e, l, h⟩ := h
  unfold fnSem
  rw [e]
  rcases h with ⟨r, rfl, p⟩ | ⟨rfl, p⟩
  · refine ⟨r, outsOf as ρ, ?_, p⟩
    show (if as.length ≤ ρ.length then _ else _) = _
    rw [if_pos l]
  · refine ⟨.fz .non, outsOf as ρ, ?_, p⟩
    show (if as.length ≤ ρ.length then _ else _) = _
    rw [if_pos l]
/-- a call by what its def does -/
theorem q_call {φ : Fn} {ars : List Ar} {as : List Sl} {P : Vl → Rho → Prop} (hd : dist (refs ars) = true) (hg : gather ρ ars = some as) (h : Fw (φ as) fun r outs => P r (scat ars outs 0 ρ)) : Wq (callAr φ ars ρ) P := by
  obtain ⟨r, outs, e, p⟩ := h
  refine ⟨r, _, ?_, p⟩
  unfold callAr
  rw [if_pos hd, hg]
  show (match φ as with | .ok r outs => _ | .ex d outs => _ | .no => _) = _
  rw [e]
/-! ### one equation for each step -/
theorem p_pure (a : α) : mpure a ρ = .ok a ρ := (rfl)
theorem p_bind (m : M α) (f : α → M β) : M.bind m f ρ = (m ρ).bind f := (rfl)
theorem p_ok (a : α) (f : α → Rho → Out β) : (Out.ok a ρ).bind f = f a ρ := (rfl)
theorem p_assoc {γ : Type} (o : Out α) (f : α → Rho → Out β) (g : β → Rho → Out γ) : (o.bind f).bind g = o.bind fun a ρ => (f a ρ).bind g := by cases o <;> rfl
def kD (r : Vl) : M D := mpure r.d
theorem p_toD (m : M Vl) : toD m ρ = (m ρ).bind kD := (rfl)
theorem p_kDf (d : D) : kD (.fz d) ρ = .ok d ρ := (rfl)
theorem p_kDn (d : D) : kD (.nw d) ρ = .ok d ρ := (rfl)
def kV (d : D) : M Vl := mpure (.fz d)
theorem p_toV (m : M D) : toV m ρ = (m ρ).bind kV := (rfl)
theorem p_kV (d : D) : kV d ρ = .ok (.fz d) ρ := (rfl)
theorem p_some (a : α) : liftO (some a) ρ = .ok a ρ := (rfl)
def varO (i : Nat) (ρ : Rho) : Option Sl → Out D
  | some (.fz d) => .ok d ρ
  | some (.ow d) => .ok d (ρ.set i (.fz d))
  | some (.ln d) => .ok d (ρ.set i (.lf d))
  | some (.lf d) => .ok d ρ
  | _ => .no
theorem p_var (i : Nat) : evVar i ρ = varO i ρ ρ[i]? := by
  unfold evVar varO
  rfl
theorem p_varF (i : Nat) (d : D) : varO i ρ (some (.fz d)) = .ok d ρ := (rfl)
theorem p_varL (i : Nat) (d : D) : varO i ρ (some (.lf d)) = .ok d ρ := (rfl)
theorem p_varO (i : Nat) (d : D) : varO i ρ (some (.ow d)) = .ok d (ρ.set i (.fz d)) := (rfl)
theorem p_varN (i : Nat) (d : D) : varO i ρ (some (.ln d)) = .ok d (ρ.set i (.lf d)) := (rfl)
def movO (i : Nat) (ρ : Rho) : Option Sl → Out Vl
  | some (.fz d) => .ok (.fz d) ρ
  | some (.lf d) => .ok (.fz d) ρ
  | some (.ow d) => .ok (.nw d) (ρ.set i .un)
  | some (.ln d) => .ok (.fz d) (ρ.set i (.lf d))
  | _ => .no
theorem p_mov (i : Nat) : evMove i ρ = movO i ρ ρ[i]? := by
  unfold evMove movO
  rfl
theorem p_movF (i : Nat) (d : D) : movO i ρ (some (.fz d)) = .ok (.fz d) ρ := (rfl)
theorem p_movL (i : Nat) (d : D) : movO i ρ (some (.lf d)) = .ok (.fz d) ρ := (rfl)
theorem p_movO (i : Nat) (d : D) : movO i ρ (some (.ow d)) = .ok (.nw d) (ρ.set i .un) := (rfl)
theorem p_movN (i : Nat) (d : D) : movO i ρ (some (.ln d)) = .ok (.fz d) (ρ.set i (.lf d)) := (rfl)
def k2 (f : D → D → Option Vl) (mb : M D) (x : D) : M Vl := mb.bind fun y => liftO (f x y)
def k2' (f : D → D → Option Vl) (x y : D) : M Vl := liftO (f x y)
theorem p_ev2 (f : D → D → Option Vl) (ma mb : M D) : ev2 f ma mb ρ = (ma ρ).bind (k2 f mb) := (rfl)
theorem p_k2 (f : D → D → Option Vl) (mb : M D) (x : D) : k2 f mb x ρ = (mb ρ).bind (k2' f x) := (rfl)
theorem p_k2' (f : D → D → Option Vl) (x y : D) : k2' f x y ρ = liftO (f x y) ρ := (rfl)
def kT (f : D → D → Option Vl) (mb : M D) (x : D) : M Bool := mb.bind fun y => liftO (vBool (f x y))
def kT' (f : D → D → Option Vl) (x y : D) : M Bool := liftO (vBool (f x y))
theorem p_ev2T (f : D → D → Option Vl) (ma mb : M D) : ev2T f ma mb ρ = (ma ρ).bind (kT f mb) := (rfl)
theorem p_kT (f : D → D → Option Vl) (mb : M D) (x : D) : kT f mb x ρ = (mb ρ).bind (kT' f x) := (rfl)
theorem p_kT' (f : D → D → Option Vl) (x y : D) : kT' f x y ρ = liftO (vBool (f x y)) ρ := (rfl)
theorem p_vb (b : Bool) : vBool (some (.fz (.bl b))) = some b := (rfl)
def kf {γ : Type} (f : α → Option γ) (x : α) : M γ := liftO (f x)
theorem p_ev1 (f : D → Option Vl) (ma : M D) : ev1 f ma ρ = (ma ρ).bind (kf f) := (rfl)
theorem p_evC (f : List D → Option Vl) (ma : M (List D)) : evC f ma ρ = (ma ρ).bind (kf f) := (rfl)
theorem p_evL (f : List D → Option α) (ma : M (List D)) : evL f ma ρ = (ma ρ).bind (kf f) := (rfl)
theorem p_evO (m : M D) : evO m ρ = (m ρ).bind (kf asInt) := (rfl)
theorem p_evSeq (m : M D) : evSeq m ρ = (m ρ).bind (kf dSeq) := (rfl)
theorem p_tTruth (m : M D) : tTruth m ρ = (m ρ).bind (kf truth) := (rfl)
theorem p_kf {γ : Type} (f : α → Option γ) (x : α) : kf f x ρ = liftO (f x) ρ := (rfl)
def kC1 (mr : M (List α)) (x : α) : M (List α) := mr.bind fun xs => mpure (x :: xs)
def kC2 (x : α) (xs : List α) : M (List α) := mpure (x :: xs)
theorem p_cons (ma : M D) (mr : M (List D)) : evCons ma mr ρ = (ma ρ).bind (kC1 mr) := (rfl)
theorem p_vcons (ma : M Vl) (mr : M (List Vl)) : vCons ma mr ρ = (ma ρ).bind (kC1 mr) := (rfl)
theorem p_acons (ma : M Ar) (mr : M (List Ar)) : arCons ma mr ρ = (ma ρ).bind (kC1 mr) := (rfl)
theorem p_kC1 (mr : M (List α)) (x : α) : kC1 mr x ρ = (mr ρ).bind (kC2 x) := (rfl)
theorem p_kC2 (x : α) (xs : List α) : kC2 x xs ρ = .ok (x :: xs) ρ := (rfl)
def kAr (d : D) : M Ar := mpure (.v d)
theorem p_arV (m : M D) : arV m ρ = (m ρ).bind kAr := (rfl)
theorem p_kAr (d : D) : kAr d ρ = .ok (.v d) ρ := (rfl)
def arO (i : Nat) (ρ : Rho) : Option Sl → Out Ar
  | some .un => .no
  | none => .no
  | some _ => .ok (.r i) ρ
theorem p_arR (i : Nat) : arR i ρ = arO i ρ ρ[i]? := by
  unfold arR arO
  rfl
theorem p_arF (i : Nat) (d : D) : arO i ρ (some (.fz d)) = .ok (.r i) ρ := (rfl)
theorem p_arOw (i : Nat) (d : D) : arO i ρ (some (.ow d)) = .ok (.r i) ρ := (rfl)
theorem p_arN (i : Nat) (d : D) : arO i ρ (some (.ln d)) = .ok (.r i) ρ := (rfl)
theorem p_arL (i : Nat) (d : D) : arO i ρ (some (.lf d)) = .ok (.r i) ρ := (rfl)
def kL1 (φ : Fn) (n : Nat) (gA : List Ar → List Ar → List Ar) (mk : M (List Ar)) (as : List Ar) : M Vl := mk.bind fun bs => if (gA as bs).length = n then callAr φ (gA as bs) else fun _ => .no
def kL2 (φ : Fn) (n : Nat) (gA : List Ar → List Ar → List Ar) (as bs : List Ar) : M Vl := if (gA as bs).length = n then callAr φ (gA as bs) else fun _ => .no
theorem p_call (φ : Fn) (n : Nat) (gA : List Ar → List Ar → List Ar) (m mk : M (List Ar)) : evCall φ n gA m mk ρ = (m ρ).bind (kL1 φ n gA mk) := (rfl)
theorem p_kL1 (φ : Fn) (n : Nat) (gA : List Ar → List Ar → List Ar) (mk : M (List Ar)) (as : List Ar) : kL1 φ n gA mk as ρ = (mk ρ).bind (kL2 φ n gA as) := (rfl)
theorem p_kL2 (φ : Fn) (n : Nat) (gA : List Ar → List Ar → List Ar) (as bs : List Ar) (h : (gA as bs).length = n) : kL2 φ n gA as bs ρ = callAr φ (gA as bs) ρ := by
  unfold kL2
  rw [if_pos h]
def kI {α : Type} (ma mb : M α) (k : Bool) : M α := if k = true then ma else mb
theorem p_if (mc : M Bool) (ma mb : M α) : evIf mc ma mb ρ = (mc ρ).bind (kI ma mb) := (rfl)
theorem p_kIt (ma mb : M α) : kI ma mb true ρ = ma ρ := (rfl)
theorem p_kIf (ma mb : M α) : kI ma mb false ρ = mb ρ := (rfl)
theorem p_tAnd (m n : M Bool) : tAnd' m n ρ = (m ρ).bind (kI n (mpure false)) := (rfl)
theorem p_tOr (m n : M Bool) : tOr' m n ρ = (m ρ).bind (kI (mpure true) n) := (rfl)
def kN (k : Bool) : M Bool := mpure (!k)
theorem p_tNot (m : M Bool) : tNot' m ρ = (m ρ).bind kN := (rfl)
theorem p_kN (k : Bool) : kN k ρ = .ok (!k) ρ := (rfl)
def kA (n : M D) : D → M D
  | .bl k => kI n (mpure (.bl false)) k
  | _ => fun _ => .no
theorem p_and (m n : M D) : evAnd m n ρ = (m ρ).bind (kA n) := by
  show (m ρ).bind _ = _
  congr 1
  funext d
  cases d with
  | bl k => cases k <;> rfl
  | _ => rfl
theorem p_kA (n : M D) (k : Bool) : kA n (.bl k) ρ = kI n (mpure (.bl false)) k ρ := (rfl)
def kO (n : M D) : D → M D
  | .bl k => kI (mpure (.bl true)) n k
  | _ => fun _ => .no
theorem p_or (m n : M D) : evOr m n ρ = (m ρ).bind (kO n) := by
  show (m ρ).bind _ = _
  congr 1
  funext d
  cases d with
  | bl k => cases k <;> rfl
  | _ => rfl
theorem p_kO (n : M D) (k : Bool) : kO n (.bl k) ρ = kI (mpure (.bl true)) n k ρ := (rfl)
def kNt : D → M D
  | .bl k => mpure (.bl (!k))
  | _ => fun _ => .no
theorem p_not (m : M D) : evNot m ρ = (m ρ).bind kNt := (rfl)
theorem p_kNt (k : Bool) : kNt (.bl k) ρ = .ok (.bl (!k)) ρ := (rfl)
/-- reading an item of a slot -/
def kXO (y : D) (ρ : Rho) : Option D → Out Vl
  | some d => liftO (item d y) ρ
  | none => .no
def kX (i : Nat) (y : D) : M Vl := fun ρ => kXO y ρ (slotD ρ i)
def ixO (i : Nat) (m : M D) (ρ : Rho) : Option D → Out Vl
  | some _ => (m ρ).bind (kX i)
  | none => .no
theorem p_ixS (i : Nat) (m : M D) : evIxS i m ρ = ixO i m ρ (slotD ρ i) := by
  unfold evIxS evLook
  cases slotD ρ i <;> rfl
theorem p_ixO (i : Nat) (m : M D) (d : D) : ixO i m ρ (some d) = (m ρ).bind (kX i) := (rfl)
theorem p_kX (i : Nat) (y : D) : kX i y ρ = kXO y ρ (slotD ρ i) := (rfl)
theorem p_kXO (y d : D) : kXO y ρ (some d) = liftO (item d y) ρ := (rfl)
def slO : Option Sl → Option D
  | some (.fz d) => some d
  | some (.ow d) => some d
  | some (.ln d) => some d
  | some (.lf d) => some d
  | _ => none
theorem p_slotD (i : Nat) : slotD ρ i = slO ρ[i]? := by
  unfold slotD slO
  rfl
theorem p_slF (d : D) : slO (some (.fz d)) = some d := (rfl)
theorem p_slO (d : D) : slO (some (.ow d)) = some d := (rfl)
theorem p_slN (d : D) : slO (some (.ln d)) = some d := (rfl)
theorem p_slL (d : D) : slO (some (.lf d)) = some d := (rfl)
/-! ### statements -/
def kS (n : M Fl) : Fl → M Fl
  | .nx => n
  | f => mpure f
theorem p_seq (m n : M Fl) : mseq m n ρ = (m ρ).bind (kS n) := by
  show (m ρ).bind _ = _
  exact congrArg _ (funext fun d => by cases d <;> rfl)
theorem p_kSn (n : M Fl) : kS n .nx ρ = n ρ := (rfl)
theorem p_kSr (n : M Fl) (r : Vl) : kS n (.rt r) ρ = .ok (.rt r) ρ := (rfl)
theorem p_kSb (n : M Fl) : kS n .bk ρ = .ok .bk ρ := (rfl)
theorem p_kSc (n : M Fl) : kS n .ct ρ = .ok .ct ρ := (rfl)
def setO (i : Nat) (r : Vl) (ρ : Rho) : Option Sl → Out Unit
  | some (.ln _) => .no
  | some (.lf _) => .no
  | none => .no
  | some _ => .ok () (ρ.set i (slOf r))
theorem p_slot (i : Nat) (r : Vl) : setSlot i r ρ = setO i r ρ ρ[i]? := by
  unfold setSlot setO
  rfl
theorem p_setU (i : Nat) (r : Vl) : setO i r ρ (some .un) = .ok () (ρ.set i (slOf r)) := (rfl)
theorem p_setF (i : Nat) (r : Vl) (d : D) : setO i r ρ (some (.fz d)) = .ok () (ρ.set i (slOf r)) := (rfl)
theorem p_setO (i : Nat) (r : Vl) (d : D) : setO i r ρ (some (.ow d)) = .ok () (ρ.set i (slOf r)) := (rfl)
theorem p_ofF (d : D) : slOf (.fz d) = .fz d := (rfl)
theorem p_ofN (d : D) : slOf (.nw d) = .ow d := (rfl)
def kNx (_ : Unit) : M Fl := mpure .nx
theorem p_kNx (u : Unit) : kNx u ρ = .ok .nx ρ := (rfl)
def kSet (i : Nat) (r : Vl) : M Fl := M.bind (setSlot i r) kNx
theorem p_set (i : Nat) (m : M Vl) : evSet i m ρ = (m ρ).bind (kSet i) := (rfl)
theorem p_kSet (i : Nat) (r : Vl) : kSet i r ρ = (setSlot i r ρ).bind kNx := (rfl)
def kRt (r : Vl) : M Fl := mpure (.rt r)
theorem p_ret (m : M Vl) : evRet m ρ = (m ρ).bind kRt := (rfl)
theorem p_kRt (r : Vl) : kRt r ρ = .ok (.rt r) ρ := (rfl)
def kEx (_ : D) : M Fl := mpure .nx
theorem p_expr (m : M D) : evExpr m ρ = (m ρ).bind kEx := (rfl)
theorem p_kEx (d : D) : kEx d ρ = .ok .nx ρ := (rfl)
def kPar (is : List Nat) (rs : List Vl) : M Fl := M.bind (setSlots is rs) kNx
theorem p_par (is : List Nat) (m : M (List Vl)) : evPar is m ρ = (m ρ).bind (kPar is) := (rfl)
theorem p_kPar (is : List Nat) (rs : List Vl) : kPar is rs ρ = (setSlots is rs ρ).bind kNx := (rfl)
def kSs (is : List Nat) (rs : List Vl) (_ : Unit) : M Unit := setSlots is rs
theorem p_kSs (is : List Nat) (rs : List Vl) (u : Unit) : kSs is rs u ρ = setSlots is rs ρ := (rfl)
theorem p_ss0 : setSlots [] [] ρ = .ok () ρ := (rfl)
theorem p_ss (i : Nat) (is : List Nat) (r : Vl) (rs : List Vl) : setSlots (i :: is) (r :: rs) ρ = (setSlot i r ρ).bind (kSs is rs) := (rfl)
def kAsg (g : D → M Unit) (d : D) : M Fl := M.bind (g d) kNx
theorem p_asg (m : M D) (g : D → M Unit) : evAsg m g ρ = (m ρ).bind (kAsg g) := (rfl)
theorem p_kAsg (g : D → M Unit) (d : D) : kAsg g d ρ = (g d ρ).bind kNx := (rfl)
theorem p_unp (n : Nat) (g : List D → M Unit) (l : List D) (h : l.length = n) : evUnp n g (.tup l) ρ = g l ρ := by
  show (if l.length = n then g l else fun _ => .no) ρ = _
  rw [if_pos h]
def kG (gr : List D → M Unit) (ds : List D) (_ : Unit) : M Unit := gr ds
theorem p_gs (g : D → M Unit) (gr : List D → M Unit) (d : D) (ds : List D) : gsCons g gr (d :: ds) ρ = (g d ρ).bind (kG gr ds) := (rfl)
theorem p_kG (gr : List D → M Unit) (ds : List D) (u : Unit) : kG gr ds u ρ = gr ds ρ := (rfl)
theorem p_gs0 : gsNil [] ρ = .ok () ρ := (rfl)
def kUp (k : Nat) (d y : D) : M Unit := updSlot k (putIx y d)
def gIO (k : Nat) (m : M D) (d : D) (ρ : Rho) : Option D → Out Unit
  | some _ => (m ρ).bind (kUp k d)
  | none => .no
theorem p_gIx (k : Nat) (mi : M D) (d : D) : gIx k mi d ρ = gIO k mi d ρ (slotD ρ k) := by
  unfold gIx evLook
  cases slotD ρ k <;> rfl
theorem p_gIO (k : Nat) (mi : M D) (d e : D) : gIO k mi d ρ (some e) = (mi ρ).bind (kUp k d) := (rfl)
theorem p_kUp (k : Nat) (d y : D) : kUp k d y ρ = updSlot k (putIx y d) ρ := (rfl)
def upD (i : Nat) (ρ : Rho) (b : Bool) : Option D → Out Unit
  | some d' => .ok () (ρ.set i (if b then .ow d' else .ln d'))
  | none => .no
def upO (i : Nat) (f : D → Option D) (ρ : Rho) : Option Sl → Out Unit
  | some (.ow d) => upD i ρ true (f d)
  | some (.ln d) => upD i ρ false (f d)
  | _ => .no
theorem p_upd (i : Nat) (f : D → Option D) : updSlot i f ρ = upO i f ρ ρ[i]? := by
  unfold updSlot upO upD
  cases ρ[i]? with
  | none => rfl
  | some s => cases s with
    | ow d => cases f d <;> rfl
    | ln d => cases f d <;> rfl
    | _ => rfl
theorem p_upO (i : Nat) (f : D → Option D) (d : D) : upO i f ρ (some (.ow d)) = upD i ρ true (f d) := (rfl)
theorem p_upN (i : Nat) (f : D → Option D) (d : D) : upO i f ρ (some (.ln d)) = upD i ρ false (f d) := (rfl)
theorem p_upDt (i : Nat) (d : D) : upD i ρ true (some d) = .ok () (ρ.set i (.ow d)) := (rfl)
theorem p_upDf (i : Nat) (d : D) : upD i ρ false (some d) = .ok () (ρ.set i (.ln d)) := (rfl)
theorem p_put (l : List D) (d : D) (i : Int) : putIx (.int i) d (.lst l) = (ixN l.length i).map fun j => .lst (l.set j d) := (rfl)
def kM1 (k : Nat) (f : List D → D → Option D) (ds : List D) : M D := M.bind (updSlot k (onLst (f ds))) fun _ => mpure .non
def mutO (k : Nat) (f : List D → D → Option D) (m : M (List D)) (ρ : Rho) : Option D → Out D
  | some (.lst _) => (m ρ).bind (kM1 k f)
  | _ => .no
theorem p_mut (k : Nat) (f : List D → D → Option D) (m : M (List D)) : evMut k f m ρ = mutO k f m ρ (slotD ρ k) := by
  unfold evMut evLookL mutO
  cases slotD ρ k with
  | none => rfl
  | some d => cases d <;> rfl
theorem p_mutO (k : Nat) (f : List D → D → Option D) (m : M (List D)) (l : List D) : mutO k f m ρ (some (.lst l)) = (m ρ).bind (kM1 k f) := (rfl)
def kNon (_ : Unit) : M D := mpure .non
theorem p_kNon (u : Unit) : kNon u ρ = .ok .non ρ := (rfl)
theorem p_kM1 (k : Nat) (f : List D → D → Option D) (ds : List D) : kM1 k f ds ρ = (updSlot k (onLst (f ds)) ρ).bind kNon := (rfl)
theorem p_app (l : List D) (d : D) (h : l.length < 16777216) : onLst (fApp [d]) (.lst l) = some (.lst (l ++ [d])) := by
  show (if l.length < 16777216 then _ else _) = _
  rw [if_pos h]
def kSl1 (ml mh : M (Option Int)) (d : D) : M Vl := ml.bind fun lo => mh.bind fun hi => liftO (cutOf lo hi d)
def kSl2 (mh : M (Option Int)) (d : D) (lo : Option Int) : M Vl := mh.bind fun hi => liftO (cutOf lo hi d)
def kSl3 (d : D) (lo hi : Option Int) : M Vl := liftO (cutOf lo hi d)
theorem p_sl (m : M D) (ml mh : M (Option Int)) : evSl m ml mh ρ = (m ρ).bind (kSl1 ml mh) := (rfl)
theorem p_kSl1 (ml mh : M (Option Int)) (d : D) : kSl1 ml mh d ρ = (ml ρ).bind (kSl2 mh d) := (rfl)
theorem p_kSl2 (mh : M (Option Int)) (d : D) (lo : Option Int) : kSl2 mh d lo ρ = (mh ρ).bind (kSl3 d lo) := (rfl)
theorem p_kSl3 (d : D) (lo hi : Option Int) : kSl3 d lo hi ρ = liftO (cutOf lo hi d) ρ := (rfl)
/-! ### operators -/
theorem p_add (i j : Int) : opAdd (.int i) (.int j) = some (.fz (.int (i + j))) := (rfl)
theorem p_addL (a b : List D) (h : lenOk (a.length + b.length) = true) : opAdd (.lst a) (.lst b) = some (.nw (.lst (a ++ b))) := by
  show (if _ then _ else _) = _
  rw [if_pos h]
theorem p_mul (i j : Int) (h : mulOk i j = true) : opMul (.int i) (.int j) = some (.fz (.int (i * j))) := by
  show (fMul i j).map _ = _
  unfold fMul
  rw [if_pos h]
  rfl
theorem p_i2 (f : Int → Int → Option D) (i j : Int) : i2 f (.int i) (.int j) = (f i j).map .fz := (rfl)
theorem p_u1 (f : Int → D) (i : Int) : u1 f (.int i) = some (.fz (f i)) := (rfl)
theorem p_div (i j : Int) (h : divOk j = true) : fDiv i j = some (.int (i.fdiv j)) := by
  unfold fDiv
  rw [if_pos h]
theorem p_mod (i j : Int) (h : j ≠ 0) : fMod i j = some (.int (i.fmod j)) := by
  unfold fMod
  rw [if_neg h]
theorem p_pow (i j : Int) (h : powOk i j = true) : fPow i j = some (.int (i ^ j.toNat)) := by
  unfold fPow
  rw [if_pos h]
theorem p_lt (i j : Int) : cLt (.int i) (.int j) = some (.fz (.bl (decide (i < j)))) := (rfl)
theorem p_le (i j : Int) : cLe (.int i) (.int j) = some (.fz (.bl (decide (i ≤ j)))) := (rfl)
theorem p_gt (i j : Int) : cGt (.int i) (.int j) = some (.fz (.bl (decide (j < i)))) := (rfl)
theorem p_ge (i j : Int) : cGe (.int i) (.int j) = some (.fz (.bl (decide (j ≤ i)))) := (rfl)
theorem p_eqI (i j : Int) : eqA (.int i) (.int j) = some (.fz (.bl (decide (i = j)))) := by
  have e : PyData.eqv (.int i) (.int j) = decide (i = j) := by
    unfold PyData.eqv
    by_cases h : i = j
    · subst h
      simp
    · simp [h]
  show (if (true && SeqAt.shaped (.int i)) && (true && SeqAt.shaped (.int j)) then some (Vl.fz (.bl (PyData.eqv (.int i) (.int j)))) else none) = _
  rw [e]
  rfl
theorem p_neI (i j : Int) : neA (.int i) (.int j) = some (.fz (.bl (!decide (i = j)))) := by
  have e : PyData.eqv (.int i) (.int j) = decide (i = j) := by
    unfold PyData.eqv
    by_cases h : i = j
    · subst h
      simp
    · simp [h]
  show (if (true && SeqAt.shaped (.int i)) && (true && SeqAt.shaped (.int j)) then some (Vl.fz (.bl (!PyData.eqv (.int i) (.int j)))) else none) = _
  rw [e]
  rfl
theorem p_eqS (x y : Str) : eqA (.str x) (.str y) = some (.fz (.bl (decide (x = y)))) := (rfl)
theorem p_neS (x y : Str) : neA (.str x) (.str y) = some (.fz (.bl (!decide (x = y)))) := (rfl)
theorem p_isB (i j : Bool) : cIsB (.bl i) (.bl j) = some (.fz (.bl (decide (i = j)))) := (rfl)
theorem p_isN (x : D) : cIsN x .non = some (.fz (.bl (isNon x))) := (rfl)
theorem p_notN (x : D) : cNotN x .non = some (.fz (.bl (!isNon x))) := (rfl)
theorem p_tup (l : List D) (h : lenOk l.length = true) : mkTup l = some (.fz (.tup l)) := by
  unfold mkTup
  rw [if_pos h]
theorem p_lst (l : List D) (h : lenOk l.length = true) : mkLst l = some (.nw (.lst l)) := by
  unfold mkLst
  rw [if_pos h]
theorem p_abs (i : Int) : bAbs [.int i] = some (.fz (.int (if i < 0 then -i else i))) := (rfl)
theorem p_intI (i : Int) : bInt [.int i] = some (.fz (.int i)) := (rfl)
theorem p_intB (k : Bool) : bInt [.bl k] = some (.fz (.int (if k then 1 else 0))) := (rfl)
theorem p_len (d : D) : bLen [d] = (dLen d).map fun n => .fz (.int (n : Nat)) := (rfl)
theorem p_dlL (l : List D) : dLen (.lst l) = some l.length := (rfl)
theorem p_dlT (l : List D) : dLen (.tup l) = some l.length := (rfl)
theorem p_itL (l : List D) (i : Int) : item (.lst l) (.int i) = (atI l i).map .fz := (rfl)
theorem p_itT (l : List D) (i : Int) : item (.tup l) (.int i) = (atI l i).map .fz := (rfl)
theorem p_d (d : D) : (Vl.fz d).d = d := (rfl)
theorem p_dn (d : D) : (Vl.nw d).d = d := (rfl)
/-! ### bounds -/
theorem inR_of {i : Int} (h0 : -(2 ^ 62) ≤ i) (h1 : i < 2 ^ 62) : Ev.inR i = true := by
  unfold Ev.inR
  rw [decide_eq_true h0, decide_eq_true h1]
  rfl
theorem p_rng1 (j : Int) (h : Ev.inR j = true) : rng1 [.int j] = some (rangeL 0 j.toNat) := by
  show (if Ev.inR j = true then _ else _) = _
  rw [if_pos h]
theorem p_rng2 (i j : Int) (h : Ev.inR i = true) (h2 : Ev.inR j = true) : rng2 [.int i, .int j] = some (rangeL i (j - i).toNat) := by
  show (if (Ev.inR i && Ev.inR j) = true then _ else _) = _
  rw [h, h2]
  rfl
theorem p_lo0 : lenOk 0 = true := by decide
theorem p_lo1 : lenOk 1 = true := by decide
theorem p_lo2 : lenOk 2 = true := by decide
theorem p_lo3 : lenOk 3 = true := by decide
theorem p_lo4 : lenOk 4 = true := by decide
theorem p_lo5 : lenOk 5 = true := by decide
theorem p_lo6 : lenOk 6 = true := by decide
theorem p_lo7 : lenOk 7 = true := by decide
theorem p_lo8 : lenOk 8 = true := by decide
theorem p_lo9 : lenOk 9 = true := by decide
theorem p_lo10 : lenOk 10 = true := by decide
theorem p_lo11 : lenOk 11 = true := by decide
theorem p_lo12 : lenOk 12 = true := by decide
theorem p_lo13 : lenOk 13 = true := by decide
theorem p_lo14 : lenOk 14 = true := by decide
theorem p_lo15 : lenOk 15 = true := by decide
theorem p_lo16 : lenOk 16 = true := by decide
theorem p_lo17 : lenOk 17 = true := by decide
theorem p_lo18 : lenOk 18 = true := by decide
theorem p_lo19 : lenOk 19 = true := by decide
theorem p_lo20 : lenOk 20 = true := by decide
theorem p_lo21 : lenOk 21 = true := by decide
theorem p_lo22 : lenOk 22 = true := by decide
theorem p_lo23 : lenOk 23 = true := by decide
theorem p_lo24 : lenOk 24 = true := by decide
theorem p_p18 : fPow 10 18 = some (.int (10 ^ 18)) := by
  unfold fPow
  rw [if_pos (by decide +kernel)]
  rfl
theorem p_p40 : fPow 10 40 = some (.int (10 ^ 40)) := by
  unfold fPow
  rw [if_pos (by decide +kernel)]
  rfl
theorem mulOk_of {i j : Int} {a b : Nat} (ha : i.natAbs < 2 ^ a) (hb : j.natAbs < 2 ^ b) (h : a + b ≤ 134217728) : mulOk i j = true := decide_eq_true (mulx_ok ha hb h)
theorem divOk_of {j : Int} {b : Nat} (h0 : j ≠ 0) (hb : j.natAbs < 2 ^ b) (h1 : 0 < b) (h : b ≤ 9000) : divOk j = true := by
  have w := PySem.Flt.log2_lt_of h1 hb
  unfold divOk
  rw [decide_eq_true h0, decide_eq_true (show j.natAbs.log2 < 9000 by omega)]
  rfl
theorem powOk_of {i j : Int} (h0 : 0 ≤ j) (h1 : j ≤ 1000000) (h : i.natAbs < 2 ^ 64) : powOk i j = true := by
  unfold powOk
  rw [decide_eq_true h0, decide_eq_true h1, decide_eq_true h]
  rfl
/-! ### loops -/
/-- how a loop's body ends -/
def lpE (f : Fl) (A B : Prop) (C : Vl → Prop) : Prop := match f with
  | .nx => A
  | .ct => A
  | .bk => B
  | .rt r => C r
theorem p_lpN (A B : Prop) (C : Vl → Prop) : lpE .nx A B C = A := (rfl)
theorem p_lpC (A B : Prop) (C : Vl → Prop) : lpE .ct A B C = A := (rfl)
theorem p_lpB (A B : Prop) (C : Vl → Prop) : lpE .bk A B C = B := (rfl)
theorem p_lpR (A B : Prop) (C : Vl → Prop) (r : Vl) : lpE (.rt r) A B C = C r := (rfl)
theorem lpE_or {f : Fl} {A B : Prop} {C : Vl → Prop} (h : lpE f A B C) : (f = .nx ∧ A) ∨ (f = .ct ∧ A) ∨ (f = .bk ∧ B) ∨ (∃ r, f = .rt r ∧ C r) := by
  cases f with
  | nx => exact .inl ⟨rfl, h⟩
  | ct => exact .inr (.inl ⟨rfl, h⟩)
  | bk => exact .inr (.inr (.inl ⟨rfl, h⟩))
  | rt r => exact .inr (.inr (.inr ⟨r, rfl, h⟩))
theorem for_inv {g : D → M Unit} {mb : M Fl} {P : Fl → Rho → Prop} (I : List D → Rho → Prop)
    (step : ∀ d ds ρ, I (d :: ds) ρ → Wq (g d ρ) fun _ ρ1 => Wq (mb ρ1) fun f ρ2 => lpE f (I ds ρ2) (P .nx ρ2) (fun r => P (.rt r) ρ2))
    (last : ∀ ρ, I [] ρ → P .nx ρ) : ∀ (ds : List D) (ρ : Rho), I ds ρ → Wq (loopD g mb ds ρ) P
  | [], ρ, h => ⟨_, _, rfl, last ρ h⟩
  | d :: ds, ρ, h => by
    obtain ⟨u, ρ1, e1, f, ρ2, e2, q⟩ := step d ds ρ h
    replace q := lpE_or q
    show Wq ((g d ρ).bind fun _ => mb.bind (loopEnd (loopD g mb ds))) P
    rw [e1]
    show Wq ((mb ρ1).bind (loopEnd (loopD g mb ds))) P
    rw [e2]
    rcases q with ⟨rfl, q⟩ | ⟨rfl, q⟩ | ⟨rfl, q⟩ | ⟨r, rfl, q⟩
    · exact for_inv I step last ds ρ2 q
    · exact for_inv I step last ds ρ2 q
    · exact ⟨_, _, rfl, q⟩
    · exact ⟨_, _, rfl, q⟩
def kFor (g : D → M Unit) (mb : M Fl) (ds : List D) : M Fl := loopD g mb ds
theorem p_for (mi : M (List D)) (g : D → M Unit) (mb : M Fl) : mFor mi g mb ρ = (mi ρ).bind (loopD g mb) := (rfl)
theorem whileN_succ {mc : M Bool} {mb : M Fl} : ∀ (n : Nat) (ρ : Rho), whileN mc mb n ρ ≠ .no → whileN mc mb (n + 1) ρ = whileN mc mb n ρ
  | 0, ρ, h => absurd rfl h
  | n + 1, ρ, h => by
    show (mc ρ).bind _ = (mc ρ).bind _
    have h' : (mc ρ).bind (fun k => if k = true then mb.bind (loopEnd (whileN mc mb n)) else mpure .nx) ≠ .no := h
    cases e : mc ρ with
    | no => rfl
    | ex d r => rfl
    | ok k ρ1 =>
      rw [e] at h'
      cases k with
      | false => rfl
      | true =>
        show (mb ρ1).bind _ = (mb ρ1).bind _
        have h2 : (mb ρ1).bind (loopEnd (whileN mc mb n)) ≠ .no := h'
        cases e2 : mb ρ1 with
        | no => rfl
        | ex d r => rfl
        | ok f ρ2 =>
          rw [e2] at h2
          cases f with
          | nx => exact whileN_succ n ρ2 h2
          | ct => exact whileN_succ n ρ2 h2
          | bk => rfl
          | rt r => rfl
theorem whileN_add {mc : M Bool} {mb : M Fl} {n : Nat} {ρ : Rho} (h : whileN mc mb n ρ ≠ .no) : ∀ k : Nat, whileN mc mb (n + k) ρ = whileN mc mb n ρ
  | 0 => rfl
  | k + 1 => by
    have ih := whileN_add h k
    rw [← Nat.add_assoc, whileN_succ _ _ (by rw [ih]; exact h), ih]
theorem mWhile_eq {mc : M Bool} {mb : M Fl} {n : Nat} {ρ : Rho} (h : whileN mc mb n ρ ≠ .no) : mWhile mc mb ρ = whileN mc mb n ρ := by
  have hx : ∃ n, whileN mc mb n ρ ≠ .no := ⟨n, h⟩
  have c := Classical.choose_spec hx
  unfold mWhile
  rw [dif_pos hx]
  have a := whileN_add h (Classical.choose hx)
  have b := whileN_add c n
  rw [Nat.add_comm] at b
  rw [← b, a]
/-- what a test's outcome asks -/
def whB (k : Bool) (A B : Prop) : Prop := (k = false → A) ∧ (k = true → B)
theorem p_whT (A B : Prop) : whB true A B = B := propext ⟨fun h => h.2 rfl, fun h => ⟨fun z => (by cases z), fun _ => h⟩⟩
theorem p_whF (A B : Prop) : whB false A B = A := propext ⟨fun h => h.1 rfl, fun h => ⟨fun _ => h, fun z => (by cases z)⟩⟩
theorem while_inv {mc : M Bool} {mb : M Fl} {P : Fl → Rho → Prop} (I : Nat → Rho → Prop)
    (step : ∀ n ρ, I n ρ → Wq (mc ρ) fun k ρ1 => whB k (P .nx ρ1) (Wq (mb ρ1) fun f ρ2 => lpE f (∃ m, m < n ∧ I m ρ2) (P .nx ρ2) (fun r => P (.rt r) ρ2))) (n : Nat) (ρ : Rho) (h : I n ρ) : Wq (mWhile mc mb ρ) P := by
  have key : ∀ (n : Nat) (ρ : Rho) (m : Nat), m ≤ n → I m ρ → Wq (whileN mc mb (n + 1) ρ) P := by
    intro n
    induction n with
    | zero =>
      intro ρ m hm h
      obtain ⟨k, ρ1, e1, hf, ht⟩ := step m ρ h
      show Wq ((mc ρ).bind _) P
      rw [e1]
      cases k with
      | false => exact ⟨_, _, rfl, hf rfl⟩
      | true =>
        obtain ⟨f, ρ2, e2, q⟩ := ht rfl
        replace q := lpE_or q
        show Wq ((mb ρ1).bind _) P
        rw [e2]
        rcases q with ⟨rfl, m2, l, q⟩ | ⟨rfl, m2, l, q⟩ | ⟨rfl, q⟩ | ⟨r, rfl, q⟩
        · omega
        · omega
        · exact ⟨_, _, rfl, q⟩
        · exact ⟨_, _, rfl, q⟩
    | succ n ih =>
      intro ρ m hm h
      obtain ⟨k, ρ1, e1, hf, ht⟩ := step m ρ h
      show Wq ((mc ρ).bind _) P
      rw [e1]
      cases k with
      | false => exact ⟨_, _, rfl, hf rfl⟩
      | true =>
        obtain ⟨f, ρ2, e2, q⟩ := ht rfl
        replace q := lpE_or q
        show Wq ((mb ρ1).bind _) P
        rw [e2]
        rcases q with ⟨rfl, m2, l, q⟩ | ⟨rfl, m2, l, q⟩ | ⟨rfl, q⟩ | ⟨r, rfl, q⟩
        · exact ih ρ2 m2 (by omega) q
        · exact ih ρ2 m2 (by omega) q
        · exact ⟨_, _, rfl, q⟩
        · exact ⟨_, _, rfl, q⟩
  obtain ⟨a, ρ2, e, p⟩ := key n ρ n (Nat.le_refl _) h
  refine ⟨a, ρ2, ?_, p⟩
  rw [mWhile_eq (n := n + 1) (by rw [e]; exact fun z => by cases z), e]
/-! ### list comprehensions that read alone -/
theorem lc_read {vs : List Nat} {g : D → M Unit} {mt : M Bool} {me : M D} {ρ0 : Rho} (f : D → Option D) :
    ∀ (ds : List D) (h : ∀ d ∈ ds, Wq (g d ρ0) fun _ ρ1 => Wq (mt ρ1) fun k ρ2 => whB k (f d = none ∧ wipeR ρ2 vs = ρ0) (Wq (me ρ2) fun y ρ3 => f d = some y ∧ wipeR ρ3 vs = ρ0)) (ρ : Rho) (_ : wipeR ρ vs = ρ0),
      Wq (lcLoop vs g mt me ds ρ) fun ys ρ' => ys = ds.filterMap f ∧ wipeR ρ' vs = ρ0
  | [], h, ρ, e => ⟨[], ρ, rfl, rfl, e⟩
  | d :: ds, h, ρ, e => by
    obtain ⟨u, ρ1, e1, k, ρ2, e2, hf, ht⟩ := h d List.mem_cons_self
    have ih := lc_read f ds (fun d hd => h d (List.mem_cons_of_mem _ hd))
    show Wq (((g d) (wipeR ρ vs)).bind fun _ ρ1 => (mt ρ1).bind fun k ρ2 => if k = true then (me ρ2).bind fun y ρ3 => (lcLoop vs g mt me ds ρ3).bind fun ys ρ4 => .ok (y :: ys) ρ4 else lcLoop vs g mt me ds ρ2) _
    rw [e, e1]
    show Wq ((mt ρ1).bind _) _
    rw [e2]
    cases k with
    | false =>
      obtain ⟨fn, w⟩ := hf rfl
      rw [List.filterMap_cons_none fn]
      exact ih ρ2 w
    | true =>
      obtain ⟨y, ρ3, e3, fs, w⟩ := ht rfl
      rw [List.filterMap_cons_some fs]
      obtain ⟨ys, ρ4, e4, ey, w4⟩ := ih ρ3 w
      refine ⟨y :: ys, ρ4, ?_, by rw [ey], w4⟩
      show ((me ρ2).bind _) = _
      rw [e3]
      show ((lcLoop vs g mt me ds ρ3).bind _) = _
      rw [e4]
      rfl
theorem wipe_at {vs : List Nat} {ρ : Rho} {i : Nat} (h : i ∉ vs) : (wipeR ρ vs)[i]? = ρ[i]? := by
  induction vs with
  | nil => rfl
  | cons v vs ih =>
    show ((wipeR ρ vs).set v .un)[i]? = _
    rw [List.getElem?_set_ne (fun e => h (by rw [e]; exact List.mem_cons_self)), ih (fun z => h (List.mem_cons_of_mem _ z))]
theorem wipe_len {vs : List Nat} {ρ : Rho} : (wipeR ρ vs).length = ρ.length := by
  induction vs with
  | nil => rfl
  | cons v vs ih =>
    show ((wipeR ρ vs).set v .un).length = _
    rw [List.length_set, ih]
theorem restore_eq {vs : List Nat} : ∀ (k : Nat) (ρ ρ' : Rho), ρ'.length = ρ.length → (∀ i, k + i ∉ vs → ρ'[i]? = ρ[i]?) → restore vs k ρ ρ' = ρ
  | _, [], ρ', h, _ => by
    cases ρ' <;> rfl
  | k, s :: ρ, [], h, _ => by simp at h
  | k, s :: ρ, t :: ρ', h, hi => by
    show (if vs.contains k then s else t) :: restore vs (k + 1) ρ ρ' = _
    rw [restore_eq (k + 1) ρ ρ' (by simpa using h) fun i ni => by
      have := hi (i + 1) (by rw [← Nat.add_assoc, Nat.add_right_comm]; exact ni)
      simpa using this]
    by_cases c : vs.contains k = true
    · rw [if_pos c]
    · rw [if_neg c]
      have := hi 0 (by simpa using c)
      have e : t = s := by simpa using this
      rw [e]
def kLc (vs : List Nat) (g : D → M Unit) (mt : M Bool) (me : M D) (ds : List D) : M Vl := mLc vs (mpure ds) g mt me
theorem p_lc (vs : List Nat) (mi : M (List D)) (g : D → M Unit) (mt : M Bool) (me : M D) : mLc vs mi g mt me ρ = (mi ρ).bind (kLc vs g mt me) := (rfl)
/-- a comprehension that reads alone: what it makes -/
theorem lc_eq {vs : List Nat} {g : D → M Unit} {mt : M Bool} {me : M D} {ds : List D} (f : D → Option D) (hw : wipeOk ρ vs = true) (hl : ds.length ≤ 16777216)
    (h : ∀ d ∈ ds, Wq (g d (wipeR ρ vs)) fun _ ρ1 => Wq (mt ρ1) fun k ρ2 => whB k (f d = none ∧ wipeR ρ2 vs = wipeR ρ vs) (Wq (me ρ2) fun y ρ3 => f d = some y ∧ wipeR ρ3 vs = wipeR ρ vs))
    : kLc vs g mt me ds ρ = .ok (.nw (.lst (ds.filterMap f))) ρ := by
  obtain ⟨ys, ρ', e, rfl, w⟩ := lc_read f ds h ρ rfl
  have el : ρ'.length = ρ.length := by rw [← wipe_len (vs := vs) (ρ := ρ'), w, wipe_len]
  have er : restore vs 0 ρ ρ' = ρ := restore_eq 0 ρ ρ' el fun i ni => by
    rw [Nat.zero_add] at ni
    rw [← wipe_at (ρ := ρ') ni, w, wipe_at ni]
  show (if wipeOk ρ vs = true then match lcLoop vs g mt me ds ρ with | .ok ys ρ' => if lenOk ys.length = true ∧ ρ'.length = ρ.length then Out.ok (Vl.nw (D.lst ys)) (restore vs 0 ρ ρ') else .no | _ => .no else .no) = _
  rw [if_pos hw, e]
  show (if _ then _ else _) = _
  rw [if_pos ⟨decide_eq_true (Nat.le_trans (List.length_filterMap_le _ _) hl), el⟩, er]

/-! ### calls as equations -/
def callO2 (ars : List Ar) (ρ : Rho) : FOut → Out Vl
  | .ok r outs => .ok r (scat ars outs 0 ρ)
  | .ex d outs => .ex d (scat ars outs 0 ρ)
  | .no => .no
def callO1 (φ : Fn) (ars : List Ar) (ρ : Rho) : Option (List Sl) → Out Vl
  | some as => callO2 ars ρ (φ as)
  | none => .no
theorem p_callAr (φ : Fn) (ars : List Ar) (h : dist (refs ars) = true) : callAr φ ars ρ = callO1 φ ars ρ (gather ρ ars) := by
  unfold callAr callO1 callO2
  rw [if_pos h] <;> (cases gather ρ ars <;> rfl)
theorem p_callO1 (φ : Fn) (ars : List Ar) (as : List Sl) : callO1 φ ars ρ (some as) = callO2 ars ρ (φ as) := (rfl)
theorem p_callO2 (ars : List Ar) (r : Vl) (outs : List Sl) : callO2 ars ρ (.ok r outs) = .ok r (scat ars outs 0 ρ) := (rfl)
theorem p_refV (d : D) (as : List Ar) : refs (.v d :: as) = refs as := (rfl)
theorem p_refR (i : Nat) (as : List Ar) : refs (.r i :: as) = i :: refs as := (rfl)
theorem p_ref0 : refs [] = [] := (rfl)
def gaO : Option Sl → Option (List Sl) → Option (List Sl)
  | some s, some ss => some (s :: ss)
  | _, _ => none
theorem p_ga (a : Ar) (as : List Ar) : gather ρ (a :: as) = gaO (gath ρ a) (gather ρ as) := by
  show (match gath ρ a, gather ρ as with | some s, some ss => some (s :: ss) | _, _ => none) = _
  cases gath ρ a <;> cases gather ρ as <;> rfl
theorem p_ga0 : gather ρ [] = some [] := (rfl)
theorem p_gaO (s : Sl) (ss : List Sl) : gaO (some s) (some ss) = some (s :: ss) := (rfl)
theorem p_gaV (d : D) : gath ρ (.v d) = some (.fz d) := (rfl)
def lendO : Option Sl → Option Sl
  | some s => lend s
  | none => none
theorem p_gaR (i : Nat) : gath ρ (.r i) = lendO ρ[i]? := by
  unfold gath lendO
  rfl
theorem p_leF (d : D) : lendO (some (.fz d)) = some (.fz d) := (rfl)
theorem p_leL (d : D) : lendO (some (.lf d)) = some (.fz d) := (rfl)
theorem p_leO (d : D) : lendO (some (.ow d)) = some (.ln d) := (rfl)
theorem p_leN (d : D) : lendO (some (.ln d)) = some (.ln d) := (rfl)
def scS (s : Sl) : Option Sl → Sl
  | some o => backSl s o
  | none => s
theorem p_sc (ars : List Ar) (outs : List Sl) (k : Nat) (s : Sl) (ρ : Rho) : scat ars outs k (s :: ρ) = scS s (findR k ars outs) :: scat ars outs (k + 1) ρ := by
  show (match findR k ars outs with | some o => backSl s o | none => s) :: _ = _
  cases findR k ars outs <;> rfl
theorem p_sc0 (ars : List Ar) (outs : List Sl) (k : Nat) : scat ars outs k [] = [] := (rfl)
theorem p_scN (s : Sl) : scS s none = s := (rfl)
theorem p_scFs (d : D) (o : Sl) : scS (.fz d) (some o) = .fz d := by cases o <;> rfl
theorem p_scLs (d : D) (o : Sl) : scS (.lf d) (some o) = .lf d := by cases o <;> rfl
theorem p_scOn (d e : D) : scS (.ow d) (some (.ln e)) = .ow e := (rfl)
theorem p_scOl (d e : D) : scS (.ow d) (some (.lf e)) = .fz e := (rfl)
theorem p_scNn (d e : D) : scS (.ln d) (some (.ln e)) = .ln e := (rfl)
theorem p_scNl (d e : D) : scS (.ln d) (some (.lf e)) = .lf e := (rfl)
theorem p_fiR (i j : Nat) (as : List Ar) (o : Sl) (os : List Sl) : findR i (.r j :: as) (o :: os) = bif i == j then some o else findR i as os := by
  show (if i = j then _ else _) = _
  by_cases h : i = j
  · subst h
    simp
  · rw [if_neg h, beq_false_of_ne h]
    rfl
theorem p_fiV (i : Nat) (d : D) (as : List Ar) (o : Sl) (os : List Sl) : findR i (.v d :: as) (o :: os) = findR i as os := (rfl)
theorem p_fi0 (i : Nat) (os : List Sl) : findR i [] os = none := (rfl)
/-- a def's end -/
def fin (as : List Sl) (P : Vl → List Sl → Prop) : Fl → Rho → Prop
  | .rt r, ρ => as.length ≤ ρ.length ∧ P r (outsOf as ρ)
  | .nx, ρ => as.length ≤ ρ.length ∧ P (.fz .non) (outsOf as ρ)
  | _, _ => False
theorem fw_fin {m : M Fl} {z : Nat} {as : List Sl} {P : Vl → List Sl → Prop} (h : Wq (m (as ++ List.replicate (z - as.length) .un)) (fin as P)) : Fw (fnSem m z as) P := by
  refine fw_of (h.mono fun f ρ q => ?_)
  cases f with
  | rt r => exact ⟨q.1, .inl ⟨r, rfl, q.2⟩⟩
  | nx => exact ⟨q.1, .inr ⟨rfl, q.2⟩⟩
  | bk => exact q.elim
  | ct => exact q.elim
theorem fin_rt (as : List Sl) (P : Vl → List Sl → Prop) (r : Vl) : fin as P (.rt r) ρ = (as.length ≤ ρ.length ∧ P r (outsOf as ρ)) := (rfl)
theorem fin_nx (as : List Sl) (P : Vl → List Sl → Prop) : fin as P .nx ρ = (as.length ≤ ρ.length ∧ P (.fz .non) (outsOf as ρ)) := (rfl)
theorem ou_ln (d : D) (as : List Sl) (s : Sl) : outsOf (.ln d :: as) (s :: ρ) = s :: outsOf as ρ := (rfl)
theorem ou_fz (d : D) (as : List Sl) (s : Sl) : outsOf (.fz d :: as) (s :: ρ) = .fz d :: outsOf as ρ := (rfl)
theorem ou_0 : outsOf [] ρ = [] := by cases ρ <;> rfl
theorem at_0 {α : Type} (l : List α) : atI l 0 = l[0]? := by
  cases l with
  | nil => rfl
  | cons a l => exact atI_nat (j := 0) rfl
theorem at_1 {α : Type} (a b : α) (l : List α) : atI (a :: b :: l) 1 = some b := atI_nat (j := 1) rfl
theorem at_2 {α : Type} (a b c : α) (l : List α) : atI (a :: b :: c :: l) 2 = some c := atI_nat (j := 2) rfl
theorem at_3 {α : Type} (a b c d : α) (l : List α) : atI (a :: b :: c :: d :: l) 3 = some d := atI_nat (j := 3) rfl
theorem ixn {n : Nat} {i : Int} (h0 : 0 ≤ i) (h : i < n) : ixN n i = some i.toNat := by
  unfold ixN
  rw [if_pos h0, if_pos h]
end Ev

/-! EvQ: which data is shown and compared. -/
namespace Ev
open PySem PySem.Spec PyProof.Rows L2
mutual
def rsz : D → Nat
  | .non => 4
  | .bl _ => 5
  | .int _ => 1921
  | .str x => (reprText x).length
  | .lst l => rszs l + 4
  | .tup l => rszs l + 4
  | _ => 0
def rszs : List D → Nat
  | [] => 0
  | d :: l => rsz d + 2 + rszs l
end
mutual
/-- what repr takes without a look -/
def nice : D → Bool
  | .non => true
  | .bl _ => true
  | .int i => decide (i.natAbs.log2 < 1920)
  | .str x => true
  | .lst l => nices l
  | .tup l => nices l
  | _ => false
def nices : List D → Bool
  | [] => true
  | d :: l => nice d && nices l
end
mutual
def dep : D → Nat
  | .lst l => deps l + 1
  | .tup l => deps l + 1
  | _ => 0
def deps : List D → Nat
  | [] => 0
  | d :: l => max (dep d) (deps l)
end
theorem len_textFrom : ∀ (ts : List Str) (k : Nat) (acc : Str), (textFrom k acc ts).length ≤ acc.length + (ts.map fun t => t.length + 2).sum
  | [], k, acc => by
    show acc.length ≤ acc.length + 0
    omega
  | t :: r, k, acc => by
    have h := len_textFrom r (k + 1) (acc ++ (if k > 0 then ", " else "" : String) ++ t)
    have e : (acc ++ (if k > 0 then ", " else "" : String) ++ t).length = acc.length + (if k > 0 then 2 else 0) + t.length := by
      rw [strLen_append, strLen_append]
      split <;> rfl
    have e2 : (if k > 0 then 2 else 0) ≤ 2 := by split <;> omega
    show (textFrom (k + 1) (acc ++ (if k > 0 then ", " else "" : String) ++ t) r).length ≤ _
    rw [List.map_cons, List.sum_cons]
    omega
theorem len_piled : ∀ ts : List Str, piled ts = (ts.map fun t => t.length + 2).sum
  | [] => rfl
  | t :: r => by
    rw [piled_cons, len_piled r, List.map_cons, List.sum_cons]
    try omega
theorem len_tupleText (ts : List Str) : (tupleText ts).length ≤ 3 + (ts.map fun t => t.length + 2).sum := by
  unfold tupleText
  rw [strLen_append, strLen_append]
  have e1 : ((("(" : String) : Str)).length = 1 := rfl
  have e3 : (((if ts.length == 1 then ",)" else ")" : String) : Str)).length ≤ 2 := by split <;> decide
  rw [e1, ← len_piled]
  by_cases h : ts = []
  · subst h
    have : (Str.join ", " ([] : List Str)).length = 0 := rfl
    omega
  · have := join_length_add ts h
    omega
mutual
theorem nice_isP : ∀ d : D, nice d = true → isP d = true ∧ (toP d).showable = true ∧ (toP d).hasDict = false ∧ (toP d).depth ≤ dep d ∧ (toP d).shown.length ≤ rsz d
  | .non, _ => ⟨rfl, by simp [toP, PyData.showable], by simp [toP, PyData.hasDict], by simp [toP, PyData.depth], by simp [toP, PyData.shown, rsz]; decide⟩
  | .bl b, _ => ⟨rfl, by simp [toP, PyData.showable], by simp [toP, PyData.hasDict], by simp [toP, PyData.depth], by cases b <;> simp [toP, PyData.shown, rsz] <;> decide⟩
  | .int i, h => by
    have h : decide (i.natAbs.log2 < 1920) = true := by simpa [nice] using h
    refine ⟨rfl, by simpa [toP, PyData.showable] using h, by simp [toP, PyData.hasDict], by simp [toP, PyData.depth], ?_⟩
    rw [toP, PyData.shown, rsz]
    exact int_text_len_1921 (of_decide_eq_true h)
  | .str x, _ => ⟨rfl, by simp [toP, PyData.showable], by simp [toP, PyData.hasDict], by simp [toP, PyData.depth], by simp [toP, PyData.shown, rsz]⟩
  | .lst l, h => by
    obtain ⟨h1, h2, h3, h4, h5⟩ := nices_isP l (by simpa [nice] using h)
    refine ⟨by simpa [isP] using h1, by simpa [toP, PyData.showable] using h2, by simpa [toP, PyData.hasDict] using h3, by simpa [toP, PyData.depth, dep] using h4, ?_⟩
    rw [toP, PyData.shown, rsz]
    unfold listText
    rw [strLen_append]
    have := len_textFrom (PyData.shownAll (toPs l)) 0 "["
    have e1 : ((("[" : String) : Str)).length = 1 := rfl
    have e2 : ((("]" : String) : Str)).length = 1 := rfl
    omega
  | .tup l, h => by
    obtain ⟨h1, h2, h3, h4, h5⟩ := nices_isP l (by simpa [nice] using h)
    refine ⟨by simpa [isP] using h1, by simpa [toP, PyData.showable] using h2, by simpa [toP, PyData.hasDict] using h3, by simpa [toP, PyData.depth, dep] using h4, ?_⟩
    rw [toP, PyData.shown, rsz]
    have := len_tupleText (PyData.shownAll (toPs l))
    omega
  | .dic _, h => by simp [nice] at h
  | .scr _, h => by simp [nice] at h
  | .gl _, h => by simp [nice] at h
  | .ty _, h => by simp [nice] at h
  | .obj _ _, h => by simp [nice] at h
  | .exc _ _, h => by simp [nice] at h
theorem nices_isP : ∀ l : List D, nices l = true → isPs l = true ∧ PyData.showableAll (toPs l) = true ∧ PyData.hasDictAll (toPs l) = false ∧ PyData.depthAll (toPs l) ≤ deps l ∧ ((PyData.shownAll (toPs l)).map fun t => t.length + 2).sum ≤ rszs l
  | [], _ => ⟨rfl, by simp [toPs, PyData.showableAll], by simp [toPs, PyData.hasDictAll], by simp [toPs, PyData.depthAll], by simp [toPs, PyData.shownAll, rszs]⟩
  | d :: l, h => by
    have h : nice d = true ∧ nices l = true := by simpa [nices] using h
    obtain ⟨h1, h2, h3, h4, h5⟩ := nices_isP l h.2
    obtain ⟨g1, g2, g3, g4, g5⟩ := nice_isP d h.1
    refine ⟨by simp [isPs, g1, h1], by simp [toPs, PyData.showableAll, g2, h2], by simp [toPs, PyData.hasDictAll, g3, h3], ?_, ?_⟩
    · simp only [toPs, PyData.depthAll, deps]
      omega
    · simp only [toPs, PyData.shownAll, rszs, List.map_cons, List.sum_cons]
      omega
end
def shw (d : D) : Str := (toP d).shown
theorem p_repr {d : D} (h : nice d = true) (h2 : dep d ≤ 64) (h3 : rsz d ≤ 16777216) : bRepr [d] = some (.fz (.str (shw d))) := by
  obtain ⟨h1, g2, g3, g4, g5⟩ := nice_isP d h
  have e : reprD d = some (.fz (.str (shw d))) := by
    unfold reprD showOk
    rw [h1, g2, g3, decide_eq_true (Nat.le_trans g4 h2), show lenOk (toP d).shown.length = true from decide_eq_true (Nat.le_trans g5 h3)]
    rfl
  cases d with
  | dic l => simp [nice] at h
  | _ => exact e
theorem p_repr0 : bRepr [.dic []] = some (.fz (.str (PyData.shown (.dict [])))) := rfl
theorem shP_ints (cs : List Int) : shP (.lst (cs.map .int)) = true := by
  have k : ∀ cs : List Int, isPs (cs.map .int) = true ∧ PyData.canLayAll0 (toPs (cs.map .int)) = true ∧ PyData.depthAll (toPs (cs.map .int)) ≤ 0 := by
    intro cs
    induction cs with
    | nil => exact ⟨rfl, by simp [toPs, PyData.canLayAll0], by simp [toPs, PyData.depthAll]⟩
    | cons c cs ih =>
      obtain ⟨h1, h2, h3⟩ := ih
      refine ⟨by simpa [isPs, isP] using h1, by simpa [toPs, toP, PyData.canLayAll0, PyData.canLay0] using h2, ?_⟩
      simp only [List.map_cons, toPs, toP, PyData.depthAll, PyData.depth]
      omega
  obtain ⟨h1, h2, h3⟩ := k cs
  unfold shP SeqAt.shaped
  rw [show isP (.lst (cs.map .int)) = true by simpa [isP] using h1, show (toP (.lst (cs.map .int))).canLay0 = true by simpa [toP, PyData.canLay0] using h2]
  simp only [toP, PyData.depth, Bool.true_and]
  exact decide_eq_true (by omega)
theorem eqv_ints_nil (cs : List Int) : PyData.eqv (toP (.lst (cs.map .int))) (toP (.lst [])) = decide (cs = []) := by
  cases cs with
  | nil => simp [toP, toPs, PyData.eqv, PyData.eqvAll]
  | cons c cs => simp [toP, toPs, PyData.eqv, PyData.eqvAll]
theorem p_eqNil (cs : List Int) : eqA (.lst (cs.map .int)) (.lst []) = some (.fz (.bl (decide (cs = [])))) := by
  show cEq _ _ = _
  unfold cEq
  rw [shP_ints, show shP (.lst []) = true from shP_ints [], eqv_ints_nil]
  rfl
theorem p_neNil (cs : List Int) : neA (.lst (cs.map .int)) (.lst []) = some (.fz (.bl (!decide (cs = [])))) := by
  show cNe _ _ = _
  unfold cNe
  rw [shP_ints, show shP (.lst []) = true from shP_ints [], eqv_ints_nil]
  rfl
end Ev

/-! EvR: statements that are not reached. -/
namespace Ev
open PySem PySem.Spec PyProof.Rows L2
/-- no meaning: whoever reckons must show that it is not reached -/
def deadM : M Fl := fun _ => .no
theorem SS.dead {X : Cx} {W : WX} {G : Gc} {L : Lt} {st : Stmt} : SS X W G L st deadM := ⟨fun _ _ _ => False, ⟨fun _ _ _ _ _ _ h => h.elim⟩, fun _ _ _ h => h.elim⟩
section
variable {X : Cx} {W : WX} {G : Gc} {L : Lt} {e a b : Expr} {pos : Pos} {c c0 c1 : Cf} {es : List Expr}
theorem VRs.keep (s : Ok G L c) (x : Ex G c c1) (s1 : Ok G L c1) {vs : List V} {rs : List Vl} (h : VRs G c0 c vs rs) : VRs G c0 c1 vs rs := by
  induction h with
  | nil => exact .nil
  | cons r n _ ih => exact .cons (VR.keep r s x s1) n ih
theorem setSlots_len : ∀ {is : List Nat} {rs : List Vl} {ρ : Rho}, setSlots is rs ρ ≠ .no → rs.length = is.length
  | [], [], _, _ => rfl
  | [], _ :: _, _, h => absurd rfl h
  | _ :: _, [], _, h => absurd rfl h
  | i :: is, r :: rs, ρ, h => by
    have h : (setSlot i r ρ).bind (fun _ => setSlots is rs) ≠ .no := h
    cases es : setSlot i r ρ with
    | no =>
      rw [es] at h
      exact absurd rfl h
    | ex d ρ' =>
      unfold setSlot at es
      split at es <;> cases es
    | ok u ρ' =>
      rw [es] at h
      rw [List.length_cons, List.length_cons, setSlots_len (ρ := ρ') h]
theorem VRs.length {vs : List V} {rs : List Vl} (h : VRs G c c1 vs rs) : vs.length = rs.length := by
  induction h with
  | nil => rfl
  | cons _ _ _ ih => rw [List.length_cons, List.length_cons, ih]
/-- several names told at once through a tuple that is laid between -/
theorem parT_spec {is : List Nat} {m : M (List Vl)} {t : TA} {D : Ends} (q : ∀ (c : Cf) (Q : List V → Hp → Prop), Ok G L c → Req G L W c (m c.ρ) (fun rs c' => ∀ vs, VRs G c c' vs rs → Q vs c'.H) → t c.σ c.H Q)
    (s : Ok G L c) (h : ReqS G L W c (evPar is m c.ρ) (EndsP G D c)) {Qt : List V → Hp → Prop} (hQ : ∀ vs H1, vs.length = is.length → (∀ p, H1 p = none → D.nx (sets c.σ is vs) (upd H1 p (.tup vs))) → Qt vs H1) : t c.σ c.H Qt := by
  refine q c _ s ?_
  have h : ReqS G L W c ((m c.ρ).bind fun rs => M.bind (setSlots is rs) fun _ => mpure Fl.nx) (EndsP G D c) := h
  cases em : m c.ρ with
  | no => rw [em] at h; exact h
  | ex d ρ => rw [em] at h; exact ReqS.toE (o := .ex d ρ) (P := EndsP G D c) h
  | ok rs ρ1 =>
    rw [em] at h
    intro F1 H1 x1 s1 vs rv
    have h2 : ReqS G L W c (setSlots is rs ρ1) (fun a c1 => ReqS G L W c1 (Out.ok Fl.nx c1.ρ) (EndsP G D c)) := ReqS.bind h
    have hl : rs.length = is.length := setSlots_len fun z => by
      rw [z] at h2
      exact h2.elim
    refine hQ vs H1 (rv.length.trans hl) fun p np => ?_
    have y : Ex G ⟨c.σ, ρ1, F1, H1⟩ ⟨c.σ, ρ1, F1, upd H1 p (.tup vs)⟩ := Ext.grow s1 np (fun _ z => z) fun _ z => .inl z
    have s2 : Ok G L ⟨c.σ, ρ1, F1, upd H1 p (.tup vs)⟩ := StR.grow s1 np (fun _ z => z) fun _ z => .inl z
    obtain ⟨ρ', h3, s3⟩ := setSlots_req (c := ⟨c.σ, ρ1, F1, upd H1 p (.tup vs)⟩) s2 (Ext.trans x1 y) (rv.keep s1 y s2) h2
    exact ReqS.here (r := Fl.nx) h3 s3
theorem SS.parT2 (i j : Nat) {x y : Str} {px py pt : Pos} {kt k2 : Nat} {pt2 : Pos} {m : M (List Vl)} (hc : X.calm = true) (hN : X.N.Nodup) (hi : X.N[i]? = some x) (hj : X.N[j]? = some y)
    (hx : Loc X.env.scope x) (hy : Loc X.env.scope y) (fx : X.fn x = true ∨ X.env.scope.names.lookup x = some .local) (fy : X.fn y = true ∨ X.env.scope.names.lookup y = some .local) (ha : SV X W G L [a, b] m)
    (hs : swapsWithSole [.Tuple [.Name x px, .Name y py] kt pt] (.Tuple [a, b] k2 pt2) pos.line X.env = pure false := by rfl) (hw : swappedStores [.Tuple [.Name x px, .Name y py] kt pt] (.Tuple [a, b] k2 pt2) X.env = pure none := by rfl)
    (h1 : (assignEach [.Tuple [.Name x px, .Name y py] kt pt] X.env).map (·.2) = [assign (.Tuple [.Name x px, .Name y py] kt pt) X.env] := by rfl) :
    SS X W G L (.Assign [.Tuple [.Name x px, .Name y py] kt pt] (.Tuple [a, b] k2 pt2) pos) (evPar [i, j] m) := by
  obtain ⟨t, p, q⟩ := ha.ex
  refine ⟨_, ps_asg (pe_tup p) (pg_tup hc (pgs_cons (pg_name hN hi hx fx) (pgs_cons (pg_name hN hj hy fy) pgs_nil)) rfl rfl) hs hw h1, fun c D s h => ?_⟩
  refine parT_spec q s h fun vs H1 hl hd => ?_
  match vs, hl with
  | [v, w], _ => exact ⟨show (2 : Nat) ≤ sizeLine by decide, fun p np => ⟨p, [v, w], rfl, .inl (.inl upd_same), rfl, v, [w], rfl, w, [], rfl, rfl, hd p np⟩⟩
/-- len of a name: its object stays its own -/
def lenO (ρ : Rho) : Option D → Out Vl
  | some d => liftO (bLen [d]) ρ
  | none => .no
def evLenS (i : Nat) : M Vl := fun ρ => lenO ρ (slotD ρ i)
theorem SE.lenS (i : Nat) {x : Str} {p q : Pos} (hg : Gl X "len") (hm : X.mg "len" = none) (hN : X.N[i]? = some x) (hv : Vis X.env.scope x) (hd : (x == ("__debug__" : Str)) = false := by decide) (hcd : (x == ("__classdict__" : Str)) = false := by decide)
    (he : starEach [.Name x q] X.env = (false, eval (.Name x q) X.env) :: starEach [] X.env := by rfl) (hpl : (backTo pos (starEach [] X.env)).any (·.1) = false := by rfl) : SE X W G L (.Call (.Name "len" p) [.Name x q] [] pos) (evLenS i) := by
  refine ⟨_, pe_callB call_len hg hm bt_len (pa_cons (pe_var hN hv hd hcd) pa_nil he) (by decide) (by decide) he hpl, fun c Q s h => ?_⟩
  have h : Req G L W c (lenO c.ρ (slotD c.ρ i)) _ := h
  cases es : slotD c.ρ i with
  | none =>
    rw [es] at h
    exact h.elim
  | some d =>
    rw [es] at h
    obtain ⟨v, h1, h2⟩ := look (x := x) s es
    obtain ⟨w, er, hr⟩ := liftO_req (show Req G L W c (liftO (bLen [d]) c.ρ) _ from h)
    obtain ⟨n, en, rfl⟩ := Option.map_eq_some_iff.mp (show (dLen d).map _ = some w from er)
    refine ⟨v, h1, v, n, rfl, ?_, Req.here hr s _ (.int _)⟩
    rcases h2 with h2 | ⟨a, rfl, h2⟩
    · exact dLen_ok h2 en
    · cases d with
      | lst l =>
        obtain ⟨_, xs, q, ll⟩ := h2
        cases en
        exact .inl ⟨_, .inl (.inl q), ll.length.symm⟩
      | tup l => exact h2.elim
      | str l => exact h2.elim
      | _ => cases en
theorem p_lenS (i : Nat) {ρ : Rho} : evLenS i ρ = lenO ρ (slotD ρ i) := (rfl)
theorem p_lenO (d : D) {ρ : Rho} : lenO ρ (some d) = liftO (bLen [d]) ρ := (rfl)
end
/-! ### loops by place -/
theorem for_idx {g : D → M Unit} {mb : M Fl} {P : Fl → Rho → Prop} (l : List D) (I : Nat → Rho → Prop)
    (step : ∀ k d ρ, l[k]? = some d → I k ρ → Wq (g d ρ) fun _ ρ1 => Wq (mb ρ1) fun f ρ2 => lpE f (I (k + 1) ρ2) (P .nx ρ2) (fun r => P (.rt r) ρ2))
    (last : ∀ ρ, I l.length ρ → P .nx ρ) (ρ : Rho) (h : I 0 ρ) : Wq (loopD g mb l ρ) P := by
  refine for_inv (I := fun ds ρ => ∃ k, k + ds.length = l.length ∧ ds = l.drop k ∧ I k ρ) (fun d ds ρ hI => ?_) (fun ρ hI => ?_) l ρ ⟨0, by omega, rfl, h⟩
  · obtain ⟨k, hk, e, hi⟩ := hI
    have hd : l[k]? = some d := by
      have := congrArg (fun z => z[0]?) e
      simpa [List.getElem?_drop] using this.symm
    refine (step k d ρ hd hi).mono fun u ρ1 q => q.mono fun f ρ2 z => ?_
    have nx : I (k + 1) ρ2 → ∃ k, k + ds.length = l.length ∧ ds = l.drop k ∧ I k ρ2 := fun h2 => ⟨k + 1, by rw [List.length_cons] at hk; omega, by
      have := congrArg List.tail e
      simpa [List.tail_drop] using this, h2⟩
    cases f with
    | nx => exact nx z
    | ct => exact nx z
    | bk => exact z
    | rt r => exact z
  · obtain ⟨k, hk, e, hi⟩ := hI
    rw [List.length_nil, Nat.add_zero] at hk
    rw [hk] at hi
    exact last ρ hi
theorem rangeL_at {n k : Nat} {d : D} (h : (rangeL 0 n)[k]? = some d) : d = .int k ∧ k < n := by
  unfold rangeL at h
  rw [List.getElem?_map] at h
  cases e : (List.range n)[k]? with
  | none =>
    rw [e] at h
    cases h
  | some j =>
    rw [e] at h
    obtain ⟨hk, ej⟩ := List.getElem?_eq_some_iff.mp e
    rw [List.getElem_range] at ej
    subst ej
    rw [List.length_range] at hk
    refine ⟨?_, hk⟩
    have := Option.some.inj h
    rw [← this]
    show D.int (0 + (k : Int)) = _
    rw [Int.zero_add]
theorem rangeL_len {lo : Int} {n : Nat} : (rangeL lo n).length = n := by
  unfold rangeL
  rw [List.length_map, List.length_range]
/-- a loop over range(n) -/
theorem for_range {g : D → M Unit} {mb : M Fl} {P : Fl → Rho → Prop} (n : Nat) (I : Nat → Rho → Prop)
    (step : ∀ k ρ, k < n → I k ρ → Wq (g (.int k) ρ) fun _ ρ1 => Wq (mb ρ1) fun f ρ2 => lpE f (I (k + 1) ρ2) (P .nx ρ2) (fun r => P (.rt r) ρ2))
    (last : ∀ ρ, I n ρ → P .nx ρ) (ρ : Rho) (h : I 0 ρ) : Wq (loopD g mb (rangeL 0 n) ρ) P := by
  refine for_idx (rangeL 0 n) I (fun k d ρ hd hi => ?_) (fun ρ hi => last ρ (by rw [rangeL_len] at hi; exact hi)) ρ h
  obtain ⟨rfl, hk⟩ := rangeL_at hd
  exact step k ρ hk hi
theorem at_int {cs : List Int} {i : Int} {n : Nat} (e : i = (n : Nat)) (h : n < cs.length) : atI (cs.map D.int) i = some (.int (cs.getD n 0)) := by
  subst e
  refine atI_nat ?_
  rw [List.getElem?_map, List.getElem?_eq_getElem h, List.getD_eq_getElem?_getD, List.getElem?_eq_getElem h]
  rfl
theorem at_neg {α : Type} {l : List α} {i : Int} {j : Nat} (e : i = -(j : Int)) (h0 : 0 < j) (h : j ≤ l.length) : atI l i = l[l.length - j]? := by
  subst e
  have : ixN l.length (-(j : Int)) = some (l.length - j) := by
    unfold ixN
    rw [if_neg (by omega), if_pos (by omega)]
    congr 1
    omega
  unfold atI
  rw [this]
  rfl
end Ev

namespace K51
open PySem PySem.Spec PyProof.Rows L2 Ev
def topS (i : Nat) : Stmt := PySem.Challenge.pw_hindprice_k51_whole_best_prices_hang_tog.main.body.getD i (.Pass ⟨0, 0, 0, 0⟩)
abbrev s_is_integer : Stmt := topS 4
abbrev s_is_within : Stmt := topS 5
abbrev s_common : Stmt := topS 6
abbrev s_need_integer : Stmt := topS 7
abbrev s_lowest : Stmt := topS 9
abbrev s_raised : Stmt := topS 10
abbrev s_tower : Stmt := topS 14
abbrev s_joined : Stmt := topS 15
abbrev s_prices_to : Stmt := topS 16
abbrev s_all_best : Stmt := topS 18
abbrev s_best_price : Stmt := topS 17
abbrev s_law_loom : Stmt := topS 20
abbrev s_law_weave : Stmt := topS 21
abbrev s_law_one_of : Stmt := topS 22
abbrev s_law_number : Stmt := topS 23
abbrev s_law_halves : Stmt := topS 24
abbrev s_law_tower : Stmt := topS 25
abbrev s_law_arrows : Stmt := topS 26
abbrev s_law_parted : Stmt := topS 27
abbrev s_law_times : Stmt := topS 28
abbrev s_law : Stmt := topS 29
/-- what the top has left -/
structure Tops (K : PySem.W.Frag) (mg : Str → Option Value) where
  f_is_integer : Addr
  fd_is_integer : FuncData
  F_is_integer : Fun K "is_integer" "is_integer" s_is_integer f_is_integer fd_is_integer
  g_is_integer : mg "is_integer" = some (.ref f_is_integer)
  f_is_within : Addr
  fd_is_within : FuncData
  F_is_within : Fun K "is_within" "is_within" s_is_within f_is_within fd_is_within
  g_is_within : mg "is_within" = some (.ref f_is_within)
  f_common : Addr
  fd_common : FuncData
  F_common : Fun K "common" "common" s_common f_common fd_common
  g_common : mg "common" = some (.ref f_common)
  f_need_integer : Addr
  fd_need_integer : FuncData
  F_need_integer : Fun K "need_integer" "need_integer" s_need_integer f_need_integer fd_need_integer
  g_need_integer : mg "need_integer" = some (.ref f_need_integer)
  f_lowest : Addr
  fd_lowest : FuncData
  F_lowest : Fun K "lowest" "lowest" s_lowest f_lowest fd_lowest
  g_lowest : mg "lowest" = some (.ref f_lowest)
  f_raised : Addr
  fd_raised : FuncData
  F_raised : Fun K "raised" "raised" s_raised f_raised fd_raised
  g_raised : mg "raised" = some (.ref f_raised)
  f_tower : Addr
  fd_tower : FuncData
  F_tower : Fun K "tower" "tower" s_tower f_tower fd_tower
  g_tower : mg "tower" = some (.ref f_tower)
  f_joined : Addr
  fd_joined : FuncData
  F_joined : Fun K "joined" "joined" s_joined f_joined fd_joined
  g_joined : mg "joined" = some (.ref f_joined)
  f_prices_to : Addr
  fd_prices_to : FuncData
  F_prices_to : Fun K "prices_to" "prices_to" s_prices_to f_prices_to fd_prices_to
  g_prices_to : mg "prices_to" = some (.ref f_prices_to)
  f_all_best : Addr
  fd_all_best : FuncData
  F_all_best : Fun K "all_best" "all_best" s_all_best f_all_best fd_all_best
  g_all_best : mg "all_best" = some (.ref f_all_best)
  f_best_price : Addr
  fd_best_price : FuncData
  F_best_price : Fun K "best_price" "best_price" s_best_price f_best_price fd_best_price
  g_best_price : mg "best_price" = some (.ref f_best_price)
  f_law_loom : Addr
  fd_law_loom : FuncData
  F_law_loom : Fun K "_law_loom" "_law_loom" s_law_loom f_law_loom fd_law_loom
  g_law_loom : mg "_law_loom" = some (.ref f_law_loom)
  f_law_weave : Addr
  fd_law_weave : FuncData
  F_law_weave : Fun K "_law_weave" "_law_weave" s_law_weave f_law_weave fd_law_weave
  g_law_weave : mg "_law_weave" = some (.ref f_law_weave)
  f_law_one_of : Addr
  fd_law_one_of : FuncData
  F_law_one_of : Fun K "_law_one_of" "_law_one_of" s_law_one_of f_law_one_of fd_law_one_of
  g_law_one_of : mg "_law_one_of" = some (.ref f_law_one_of)
  f_law_number : Addr
  fd_law_number : FuncData
  F_law_number : Fun K "_law_number" "_law_number" s_law_number f_law_number fd_law_number
  g_law_number : mg "_law_number" = some (.ref f_law_number)
  f_law_halves : Addr
  fd_law_halves : FuncData
  F_law_halves : Fun K "_law_halves" "_law_halves" s_law_halves f_law_halves fd_law_halves
  g_law_halves : mg "_law_halves" = some (.ref f_law_halves)
  f_law_tower : Addr
  fd_law_tower : FuncData
  F_law_tower : Fun K "_law_tower" "_law_tower" s_law_tower f_law_tower fd_law_tower
  g_law_tower : mg "_law_tower" = some (.ref f_law_tower)
  f_law_arrows : Addr
  fd_law_arrows : FuncData
  F_law_arrows : Fun K "_law_arrows" "_law_arrows" s_law_arrows f_law_arrows fd_law_arrows
  g_law_arrows : mg "_law_arrows" = some (.ref f_law_arrows)
  f_law_parted : Addr
  fd_law_parted : FuncData
  F_law_parted : Fun K "_law_parted" "_law_parted" s_law_parted f_law_parted fd_law_parted
  g_law_parted : mg "_law_parted" = some (.ref f_law_parted)
  f_law_times : Addr
  fd_law_times : FuncData
  F_law_times : Fun K "_law_times" "_law_times" s_law_times f_law_times fd_law_times
  g_law_times : mg "_law_times" = some (.ref f_law_times)
  f_law : Addr
  fd_law : FuncData
  F_law : Fun K "law" "law" s_law f_law fd_law
  g_law : mg "law" = some (.ref f_law)
  z_abs : mg "abs" = none
  z_bool : mg "bool" = none
  z_int : mg "int" = none
  z_isinstance : mg "isinstance" = none
  z_len : mg "len" = none
  z_range : mg "range" = none
  z_tuple : mg "tuple" = none
  t_MOST_LOTS : Tok
  c_MOST_LOTS : mg "MOST_LOTS" = some (.int 60 t_MOST_LOTS)
  t_MOST_BEST_DAYS : Tok
  c_MOST_BEST_DAYS : mg "MOST_BEST_DAYS" = some (.int 250 t_MOST_BEST_DAYS)
structure GOk (G : Gc) (K : PySem.W.Frag) (mg : Str → Option Value) : Prop where
  scr : G.N.scrK = scrKof K
theorem sc_is_integer : FnScope ["value"] ["value"] (defScope s_is_integer) := ⟨rfl, rfl, rfl, by decide +kernel, rfl, by decide +kernel, by decide +kernel⟩
theorem sc_is_within : FnScope ["value", "least", "most"] ["value", "least", "most"] (defScope s_is_within) := ⟨rfl, rfl, rfl, by decide +kernel, rfl, by decide +kernel, by decide +kernel⟩
theorem sc_common : FnScope ["one", "other"] ["one", "other"] (defScope s_common) := ⟨rfl, rfl, rfl, by decide +kernel, rfl, by decide +kernel, by decide +kernel⟩
theorem sc_need_integer : FnScope ["value", "part", "least", "most"] ["value", "part", "least", "most"] (defScope s_need_integer) := ⟨rfl, rfl, rfl, by decide +kernel, rfl, by decide +kernel, by decide +kernel⟩
theorem sc_lowest : FnScope ["above", "under", "part"] ["above", "under"] (defScope s_lowest) := ⟨rfl, rfl, rfl, by decide +kernel, rfl, by decide +kernel, by decide +kernel⟩
theorem sc_raised : FnScope ["integer", "many", "found", "base", "left"] ["integer", "many"] (defScope s_raised) := ⟨rfl, rfl, rfl, by decide +kernel, rfl, by decide +kernel, by decide +kernel⟩
theorem sc_tower : FnScope ["number"] ["number"] (defScope s_tower) := ⟨rfl, rfl, rfl, by decide +kernel, rfl, by decide +kernel, by decide +kernel⟩
theorem sc_joined : FnScope ["row", "towers", "days", "found", "lots", "many"] ["row", "towers", "days"] (defScope s_joined) := ⟨rfl, rfl, rfl, by decide +kernel, rfl, by decide +kernel, by decide +kernel⟩
theorem sc_prices_to : FnScope ["goods", "days", "towers", "under", "found", "many", "above"] ["goods", "days"] (defScope s_prices_to) := ⟨rfl, rfl, rfl, by decide +kernel, rfl, by decide +kernel, by decide +kernel⟩
theorem sc_all_best : FnScope ["goods", "days"] ["goods", "days"] (defScope s_all_best) := ⟨rfl, rfl, rfl, by decide +kernel, rfl, by decide +kernel, by decide +kernel⟩
theorem sc_best_price : FnScope ["goods", "days"] ["goods", "days"] (defScope s_best_price) := ⟨rfl, rfl, rfl, by decide +kernel, rfl, by decide +kernel, by decide +kernel⟩
theorem sc_law_loom : FnScope ["_law_script", "_law_cell"] ["_law_script"] (defScope s_law_loom) := ⟨rfl, rfl, rfl, by decide +kernel, rfl, by decide +kernel, by decide +kernel⟩
theorem sc_law_weave : FnScope ["_law_loom_here", "_law_many", "_law_left", "_law_turn", "_law_cell", "_law_mixed"] ["_law_loom_here", "_law_many"] (defScope s_law_weave) := ⟨rfl, rfl, rfl, by decide +kernel, rfl, by decide +kernel, by decide +kernel⟩
theorem sc_law_one_of : FnScope ["_law_loom_here", "_law_some"] ["_law_loom_here", "_law_some"] (defScope s_law_one_of) := ⟨rfl, rfl, rfl, by decide +kernel, rfl, by decide +kernel, by decide +kernel⟩
theorem sc_law_number : FnScope ["_law_above", "_law_under", "_law_one", "_law_other", "_law_sign"] ["_law_above", "_law_under"] (defScope s_law_number) := ⟨rfl, rfl, rfl, by decide +kernel, rfl, by decide +kernel, by decide +kernel⟩
theorem sc_law_halves : FnScope ["_law_number_here"] ["_law_number_here"] (defScope s_law_halves) := ⟨rfl, rfl, rfl, by decide +kernel, rfl, by decide +kernel, by decide +kernel⟩
theorem sc_law_tower : FnScope ["_law_number_here", "_law_found", "_law_turn"] ["_law_number_here"] (defScope s_law_tower) := ⟨rfl, rfl, rfl, by decide +kernel, rfl, by decide +kernel, by decide +kernel⟩
theorem sc_law_arrows : FnScope ["_law_goods", "_law_things", "_law_many", "_law_thing", "_law_found", "_law_number_here", "_law_left", "_law_told", "_law_good", "_law_arrow"] ["_law_goods", "_law_things"] (defScope s_law_arrows) := ⟨rfl, rfl, rfl, by decide +kernel, rfl, by decide +kernel, by decide +kernel⟩
theorem sc_law_parted : FnScope ["_law_row", "_law_other", "_law_found", "_law_things", "_law_whole", "_law_lots", "_law_some"] ["_law_row", "_law_other"] (defScope s_law_parted) := ⟨rfl, rfl, rfl, by decide +kernel, rfl, by decide +kernel, by decide +kernel⟩
theorem sc_law_times : FnScope ["_law_number_here", "_law_days", "_law_above", "_law_under"] ["_law_number_here", "_law_days"] (defScope s_law_times) := ⟨rfl, rfl, rfl, by decide +kernel, rfl, by decide +kernel, by decide +kernel⟩
theorem sc_law : FnScope ["_law_script", "_law_loom_here", "_law_goods", "_law_things", "_law_days", "_law_most", "_law_told", "_law_rows", "_law_one", "_law_lots", "_law_great", "_law_each", "_law_at", "_law_price"] ["_law_script"] (defScope s_law) := ⟨rfl, rfl, rfl, by decide +kernel, rfl, by decide +kernel, by decide +kernel⟩
noncomputable def b_is_integer : M Fl := (evRet (toV (evAnd (toD (evC bIsi (evCons (evVar 0) (evCons (mpure (.ty .int)) (mpure []))))) (evNot (toD (evC bIsi (evCons (evVar 0) (evCons (mpure (.ty .bool)) (mpure [])))))))))
noncomputable def m_is_integer : Fn := fnSem b_is_integer 1
noncomputable def b_is_within : M Fl := (mseq (evIf (tNot' (tTruth (toD (evCall m_is_integer 1 (fun as _ => as) (arCons (arR 0) (mpure [])) (mpure [])))))
    (evRet (toV (mpure (.bl false))))
    (mpure .nx))
    (evRet (toV (evAnd (evOr (toD (ev2 cIsN (evVar 1) (mpure .non))) (toD (ev2 cLe (evVar 1) (evVar 0)))) (evOr (toD (ev2 cIsN (evVar 2) (mpure .non))) (toD (ev2 cLe (evVar 0) (evVar 2))))))))
noncomputable def m_is_within : Fn := fnSem b_is_within 3
noncomputable def b_common : M Fl := (mseq (evPar [0, 1] (vCons (evC bAbs (evCons (evVar 0) (mpure []))) (vCons (evC bAbs (evCons (evVar 1) (mpure []))) (mpure []))))
    (mseq (mWhile (ev2T cGt (evVar 1) (mpure (.int 0)))
    (evPar [0, 1] (vCons (toV (evVar 1)) (vCons (ev2 (i2 fMod) (evVar 0) (evVar 1)) (mpure [])))))
    (evRet (evMove 0))))
noncomputable def m_common : Fn := fnSem b_common 2
noncomputable def b_need_integer : M Fl := (evIf (tNot' (tTruth (toD (evCall m_is_within 3 (fun as _ => as) (arCons (arR 0) (arCons (arR 2) (arCons (arR 3) (mpure [])))) (mpure [])))))
    deadM
    (mpure .nx))
noncomputable def m_need_integer : Fn := fnSem b_need_integer 4
noncomputable def b_lowest : M Fl := (mseq (evSet 2 (evCall m_common 2 (fun as _ => as) (arCons (arR 0) (arCons (arR 1) (mpure []))) (mpure [])))
    (mseq (evSet 2 (evIf (ev2T cLt (evVar 1) (mpure (.int 0))) (ev1 (u1 fun i => .int (-i)) (evVar 2)) (toV (evVar 2))))
    (mseq (evPar [0, 1] (vCons (ev2 (i2 fDiv) (evVar 0) (evVar 2)) (vCons (ev2 (i2 fDiv) (evVar 1) (evVar 2)) (mpure []))))
    (evRet (evIf (ev2T eqA (evVar 1) (mpure (.int 1))) (toV (evVar 0)) (evC mkTup (evCons (evVar 0) (evCons (evVar 1) (mpure [])))))))))
noncomputable def m_lowest : Fn := fnSem b_lowest 3
noncomputable def b_raised : M Fl := (mseq (evPar [2, 3, 4] (vCons (toV (mpure (.int 1))) (vCons (toV (evVar 0)) (vCons (toV (evVar 1)) (mpure [])))))
    (mseq (mWhile (ev2T cGt (evVar 4) (mpure (.int 0)))
    (mseq (evIf (ev2T eqA (toD (ev2 (i2 fun i j => some (.int (Builtin.bitAnd i j))) (evVar 4) (mpure (.int 1)))) (mpure (.int 1)))
    (evSet 2 (ev2 opMul (evVar 2) (evVar 3)))
    (mpure .nx))
    (evPar [3, 4] (vCons (ev2 opMul (evVar 3) (evVar 3)) (vCons (ev2 (i2 fShr) (evVar 4) (mpure (.int 1))) (mpure []))))))
    (evRet (evMove 2))))
noncomputable def m_raised : Fn := fnSem b_raised 5
noncomputable def b_tower : M Fl := (evRet (evCall m_raised 2 (fun as _ => as) (arCons (arV (evVar 0)) (arCons (arV (evVar 0)) (mpure []))) (mpure [])))
noncomputable def m_tower : Fn := fnSem b_tower 1
noncomputable def b_joined : M Fl := (mseq (evAsg (toD (evC mkTup (evCons (mpure (.int 0)) (evCons (mpure (.int 1)) (mpure []))))) (evUnp 2 (gsCons (fun d => setSlot 3 (.fz d)) (gsCons (fun d => setSlot 4 (.fz d)) gsNil))))
    (mseq (mFor (evL rng1 (evCons (toD (ev2 opAdd (evVar 2) (mpure (.int 1)))) (mpure []))) (fun d => setSlot 5 (.fz d))
    (mseq (evSet 3 (ev2 opAdd (evVar 3) (toD (ev2 opMul (toD (ev2 opMul (evVar 4) (toD (evIxS 0 (toD (ev2 (i2 fun i j => some (.int (i - j))) (evVar 2) (evVar 5))))))) (toD (evIxS 1 (evVar 5)))))))
    (evSet 4 (ev2 (i2 fDiv) (toD (ev2 opMul (evVar 4) (toD (ev2 (i2 fun i j => some (.int (i - j))) (evVar 2) (evVar 5))))) (toD (ev2 opAdd (evVar 5) (mpure (.int 1))))))))
    (evRet (evMove 3))))
noncomputable def m_joined : Fn := fnSem b_joined 6
noncomputable def b_prices_to : M Fl := (mseq (evPar [2, 3] (vCons (mLc [5] (evL rng1 (evCons (toD (ev2 opAdd (evVar 1) (mpure (.int 1)))) (mpure []))) (fun d => setSlot 5 (.fz d)) (mpure true) (toD (evCall m_tower 1 (fun as _ => as) (arCons (arR 5) (mpure [])) (mpure [])))) (vCons (evCall m_tower 1 (fun as _ => as) (arCons (arR 1) (mpure [])) (mpure [])) (mpure []))))
    (mseq (evSet 4 (evC mkLst (evCons (evVar 3) (evCons (toD (evCall m_joined 3 (fun as _ => as) (arCons (arV (evVar 2)) (arCons (arV (evVar 2)) (arCons (arR 1) (mpure [])))) (mpure []))) (mpure [])))))
    (mseq (mWhile (ev2T cLt (toD (evLenS 4)) (evVar 0))
    (evExpr (evMut 4 fApp (evCons (toD (ev2 opAdd (toD (evIxS 4 (toD (ev1 (u1 fun i => .int (-i)) (mpure (.int 1)))))) (toD (ev2 (i2 fDiv) (toD (ev2 opMul (evVar 1) (toD (evIxS 4 (toD (ev1 (u1 fun i => .int (-i)) (mpure (.int 2)))))))) (toD (ev2 (i2 fun i j => some (.int (i - j))) (toD (evLenS 4)) (mpure (.int 1)))))))) (mpure [])))))
    (evRet (mLc [6] (evSeq (toD (evSl (evVar 4) (mpure none) (evO (evVar 0))))) (fun d => setSlot 6 (.fz d)) (mpure true) (toD (evCall m_lowest 2 (fun as _ => as) (arCons (arR 6) (arCons (arR 3) (mpure []))) (mpure []))))))))
noncomputable def m_prices_to : Fn := fnSem b_prices_to 7
noncomputable def b_all_best : M Fl := (mseq (evExpr (toD (evCall m_need_integer 4 (fun as _ => as) (arCons (arR 0) (arCons (arV (mpure (.str "goods"))) (arCons (arV (mpure (.int 1))) (arCons (arV (mpure (.int 60))) (mpure []))))) (mpure []))))
    (mseq (evExpr (toD (evCall m_need_integer 4 (fun as _ => as) (arCons (arR 1) (arCons (arV (mpure (.str "days"))) (arCons (arV (mpure (.int 0))) (arCons (arV (mpure (.int 250))) (mpure []))))) (mpure []))))
    (evRet (evC bTuple (evCons (toD (evCall m_prices_to 2 (fun as _ => as) (arCons (arR 0) (arCons (arR 1) (mpure []))) (mpure []))) (mpure []))))))
noncomputable def m_all_best : Fn := fnSem b_all_best 2
noncomputable def b_best_price : M Fl := (evRet (ev2 item (toD (evCall m_all_best 2 (fun as _ => as) (arCons (arR 0) (arCons (arR 1) (mpure []))) (mpure []))) (toD (ev1 (u1 fun i => .int (-i)) (mpure (.int 1))))))
noncomputable def m_best_price : Fn := fnSem b_best_price 2
noncomputable def b_law_loom : M Fl := (evRet (evC mkLst (evCons (toD (mLc [1] (evSeq (toD (evSl (evVar 0) (mpure none) (evO (mpure (.int 60)))))) (fun d => setSlot 1 (.fz d)) (mpure true) (toD (evC bInt (evCons (evVar 1) (mpure [])))))) (evCons (mpure (.int 0)) (evCons (mpure (.int 0)) (mpure []))))))
noncomputable def m_law_loom : Fn := fnSem b_law_loom 2
noncomputable def b_law_weave : M Fl := (mseq (evIf (ev2T cGt (toD (evIxS 0 (mpure (.int 2)))) (mpure (.int 0)))
    (mseq (evSet 2 (evC bInt (evCons (toD (evIxS 0 (mpure (.int 2)))) (mpure []))))
    (mseq (evAsg (toD (ev2 (i2 fDiv) (evVar 2) (evVar 1))) (gIx 0 (mpure (.int 2))))
    (evRet (ev2 (i2 fMod) (toD (evC bInt (evCons (evVar 2) (mpure [])))) (evVar 1)))))
    (mpure .nx))
    (mseq (evSet 3 (evIxS 0 (mpure (.int 1))))
    (mseq (evAsg (toD (ev2 opAdd (evVar 3) (mpure (.int 1)))) (gIx 0 (mpure (.int 1))))
    (mseq (evSet 4 (ev2 opAdd (toD (ev2 opMul (mpure (.int 70067)) (evVar 3))) (mpure (.int 9161))))
    (mseq (evIf (ev2T neA (toD (evIxS 0 (mpure (.int 0)))) (toD (evC mkLst (mpure []))))
    (evSet 4 (ev2 item (toD (evIxS 0 (mpure (.int 0)))) (toD (ev2 (i2 fMod) (toD (evC bInt (evCons (evVar 3) (mpure [])))) (toD (evC bLen (evCons (toD (evIxS 0 (mpure (.int 0)))) (mpure []))))))))
    (mpure .nx))
    (mseq (evIf (tAnd' (ev2T cLt (evVar 3) (toD (evC bLen (evCons (toD (evIxS 0 (mpure (.int 0)))) (mpure []))))) (ev2T cGe (toD (evC bAbs (evCons (evVar 4) (mpure [])))) (toD (ev2 (i2 fPow) (mpure (.int 10)) (mpure (.int 18))))))
    (mseq (evSet 2 (ev2 opAdd (toD (ev2 opMul (mpure (.int 2)) (toD (ev2 (i2 fun i j => some (.int (i - j))) (toD (evC bAbs (evCons (toD (evC bInt (evCons (evVar 4) (mpure [])))) (mpure [])))) (toD (ev2 (i2 fPow) (mpure (.int 10)) (mpure (.int 18)))))))) (toD (evC bInt (evCons (toD (ev2 cLt (evVar 4) (mpure (.int 0)))) (mpure []))))))
    (mseq (evAsg (toD (ev2 (i2 fDiv) (evVar 2) (evVar 1))) (gIx 0 (mpure (.int 2))))
    (evRet (ev2 (i2 fMod) (toD (evC bInt (evCons (evVar 2) (mpure [])))) (evVar 1)))))
    (mpure .nx))
    (mseq (evSet 5 (ev2 (i2 fMod) (toD (evC bInt (evCons (toD (ev2 (i2 fPow) (toD (ev2 opAdd (toD (ev2 opAdd (toD (ev2 (i2 fMod) (toD (evC bInt (evCons (evVar 4) (mpure [])))) (mpure (.int 2147483549)))) (toD (ev2 opMul (mpure (.int 52081)) (evVar 3))))) (mpure (.int 9161)))) (mpure (.int 5)))) (mpure [])))) (mpure (.int 2147483587))))
    (mseq (evSet 5 (ev2 (i2 fMod) (toD (evC bInt (evCons (toD (ev2 (i2 fPow) (toD (ev2 opAdd (toD (ev2 opAdd (toD (ev2 opMul (evVar 5) (toD (ev2 opAdd (toD (ev2 opMul (mpure (.int 2)) (evVar 3))) (mpure (.int 3067)))))) (toD (ev2 opMul (toD (ev2 opMul (mpure (.int 70067)) (evVar 3))) (evVar 3))))) (mpure (.int 52081)))) (mpure (.int 3)))) (mpure [])))) (mpure (.int 2147483563))))
    (evRet (ev2 (i2 fMod) (toD (evC bInt (evCons (toD (ev2 (i2 fDiv) (evVar 5) (mpure (.int 64)))) (mpure [])))) (evVar 1)))))))))))
noncomputable def m_law_weave : Fn := fnSem b_law_weave 6
noncomputable def b_law_one_of : M Fl := (evRet (evIxS 1 (toD (evCall m_law_weave 2 (fun as _ => as) (arCons (arR 0) (arCons (arV (toD (evLenS 1))) (mpure []))) (mpure [])))))
noncomputable def m_law_one_of : Fn := fnSem b_law_one_of 2
noncomputable def b_law_number : M Fl := (mseq (evPar [2, 3] (vCons (evC bAbs (evCons (evVar 0) (mpure []))) (vCons (evC bAbs (evCons (evVar 1) (mpure []))) (mpure []))))
    (mseq (mWhile (ev2T cGt (evVar 3) (mpure (.int 0)))
    (evPar [2, 3] (vCons (toV (evVar 3)) (vCons (ev2 (i2 fMod) (toD (evC bInt (evCons (evVar 2) (mpure [])))) (evVar 3)) (mpure [])))))
    (mseq (evSet 4 (evIf (ev2T cLt (evVar 1) (mpure (.int 0))) (ev1 (u1 fun i => .int (-i)) (mpure (.int 1))) (toV (mpure (.int 1)))))
    (mseq (evPar [0, 1] (vCons (ev2 (i2 fDiv) (toD (ev2 opMul (evVar 4) (evVar 0))) (evVar 2)) (vCons (ev2 (i2 fDiv) (toD (ev2 opMul (evVar 4) (evVar 1))) (evVar 2)) (mpure []))))
    (evRet (evIf (ev2T eqA (evVar 1) (mpure (.int 1))) (toV (evVar 0)) (evC mkTup (evCons (evVar 0) (evCons (evVar 1) (mpure []))))))))))
noncomputable def m_law_number : Fn := fnSem b_law_number 5
noncomputable def b_law_halves : M Fl := (evRet (evIf (tTruth (toD (evC bIsi (evCons (evVar 0) (evCons (mpure (.ty .int)) (mpure [])))))) (evC mkTup (evCons (evVar 0) (evCons (mpure (.int 1)) (mpure [])))) (evC mkTup (evCons (toD (evIxS 0 (mpure (.int 0)))) (evCons (toD (evIxS 0 (mpure (.int 1)))) (mpure []))))))
noncomputable def m_law_halves : Fn := fnSem b_law_halves 1
noncomputable def b_law_tower : M Fl := (mseq (evSet 1 (toV (mpure (.int 1))))
    (mseq (mFor (evL rng1 (evCons (evVar 0) (mpure []))) (fun d => setSlot 2 (.fz d))
    (evSet 1 (ev2 opMul (evVar 1) (evVar 0))))
    (evRet (evMove 1))))
noncomputable def m_law_tower : Fn := fnSem b_law_tower 3
noncomputable def b_law_arrows : M Fl := (mseq (evSet 2 (toV (mpure (.int 1))))
    (mseq (mFor (evL rng1 (evCons (evVar 1) (mpure []))) (fun d => setSlot 3 (.fz d))
    (evSet 2 (ev2 opMul (toD (ev2 opMul (evVar 2) (evVar 0))) (evVar 1))))
    (mseq (evSet 4 (toV (mpure (.int 0))))
    (mseq (mFor (evL rng1 (evCons (evVar 2) (mpure []))) (fun d => setSlot 5 (.fz d))
    (mseq (evPar [6, 7] (vCons (toV (evVar 5)) (vCons (evC mkLst (mpure [])) (mpure []))))
    (mseq (mFor (evL rng1 (evCons (evVar 1) (mpure []))) (fun d => setSlot 3 (.fz d))
    (mseq (evExpr (evMut 7 fApp (evCons (toD (evC mkTup (evCons (toD (ev2 (i2 fMod) (toD (evC bInt (evCons (evVar 6) (mpure [])))) (evVar 0))) (evCons (toD (ev2 (i2 fMod) (toD (evC bInt (evCons (toD (ev2 (i2 fDiv) (evVar 6) (evVar 0))) (mpure [])))) (evVar 1))) (mpure []))))) (mpure []))))
    (evSet 6 (ev2 (i2 fDiv) (evVar 6) (toD (ev2 opMul (evVar 0) (evVar 1)))))))
    (evSet 4 (ev2 opAdd (evVar 4) (toD (evC bInt (evCons (toD (ev2 eqA (toD (mLc [8, 9] (evSeq (evVar 7)) (evUnp 2 (gsCons (fun d => setSlot 8 (.fz d)) (gsCons (fun d => setSlot 9 (.fz d)) gsNil))) (ev2T neA (toD (ev2 item (toD (evIxS 7 (evVar 9))) (mpure (.int 0)))) (evVar 8)) (mpure (.int 1)))) (toD (evC mkLst (mpure []))))) (mpure [])))))))))
    (evRet (evMove 4))))))
noncomputable def m_law_arrows : Fn := fnSem b_law_arrows 10
noncomputable def b_law_parted : M Fl := (mseq (evSet 2 (evC mkLst (mpure [])))
    (mseq (mFor (evL rng1 (evCons (toD (evLenS 0)) (mpure []))) (fun d => setSlot 3 (.fz d))
    (mseq (evAsg (toD (evC mkTup (evCons (mpure (.int 0)) (evCons (mpure (.int 1)) (mpure []))))) (evUnp 2 (gsCons (fun d => setSlot 4 (.fz d)) (gsCons (fun d => setSlot 5 (.fz d)) gsNil))))
    (mseq (mFor (evL rng1 (evCons (toD (ev2 opAdd (evVar 3) (mpure (.int 1)))) (mpure []))) (fun d => setSlot 6 (.fz d))
    (mseq (evSet 4 (ev2 opAdd (evVar 4) (toD (ev2 opMul (toD (ev2 opMul (evVar 5) (toD (evIxS 0 (evVar 6))))) (toD (evIxS 1 (toD (ev2 (i2 fun i j => some (.int (i - j))) (evVar 3) (evVar 6)))))))))
    (evSet 5 (ev2 (i2 fDiv) (toD (ev2 opMul (evVar 5) (toD (ev2 (i2 fun i j => some (.int (i - j))) (evVar 3) (evVar 6))))) (toD (ev2 opAdd (evVar 6) (mpure (.int 1))))))))
    (evExpr (evMut 2 fApp (evCons (evVar 4) (mpure [])))))))
    (evRet (evMove 2))))
noncomputable def m_law_parted : Fn := fnSem b_law_parted 7
noncomputable def b_law_times : M Fl := (mseq (evAsg (toD (evCall m_law_halves 1 (fun as _ => as) (arCons (arR 0) (mpure [])) (mpure []))) (evUnp 2 (gsCons (fun d => setSlot 2 (.fz d)) (gsCons (fun d => setSlot 3 (.fz d)) gsNil))))
    (evRet (evCall m_law_number 2 (fun as _ => as) (arCons (arV (toD (ev2 opMul (evVar 2) (toD (evCall m_law_tower 1 (fun as _ => as) (arCons (arR 1) (mpure [])) (mpure [])))))) (arCons (arR 3) (mpure []))) (mpure []))))
noncomputable def m_law_times : Fn := fnSem b_law_times 4
noncomputable def b_law : M Fl := (mseq (evSet 1 (evCall m_law_loom 1 (fun as _ => as) (arCons (arR 0) (mpure [])) (mpure [])))
    (mseq (evPar [2, 3] (vCons (ev2 opAdd (mpure (.int 1)) (toD (evCall m_law_weave 2 (fun as _ => as) (arCons (arR 1) (arCons (arV (mpure (.int 3))) (mpure []))) (mpure [])))) (vCons (evCall m_law_weave 2 (fun as _ => as) (arCons (arR 1) (arCons (arV (mpure (.int 4))) (mpure []))) (mpure [])) (mpure []))))
    (mseq (evIf (ev2T neA (toD (evCall m_law_times 2 (fun as _ => as) (arCons (arV (toD (evCall m_best_price 2 (fun as _ => as) (arCons (arR 2) (arCons (arR 3) (mpure []))) (mpure [])))) (arCons (arR 3) (mpure []))) (mpure []))) (toD (evCall m_law_arrows 2 (fun as _ => as) (arCons (arR 2) (arCons (arR 3) (mpure []))) (mpure []))))
    (evRet (toV (mpure (.bl false))))
    (mpure .nx))
    (mseq (evPar [4, 5] (vCons (evCall m_law_one_of 2 (fun as _ => as) (arCons (arR 1) (arCons (arV (toD (evC mkLst (evCons (toD (evCall m_law_weave 2 (fun as _ => as) (arCons (arR 1) (arCons (arV (mpure (.int 13))) (mpure []))) (mpure []))) (evCons (toD (evCall m_law_weave 2 (fun as _ => as) (arCons (arR 1) (arCons (arV (mpure (.int 26))) (mpure []))) (mpure []))) (mpure [])))))) (mpure []))) (mpure [])) (vCons (ev2 opAdd (mpure (.int 2)) (toD (evCall m_law_weave 2 (fun as _ => as) (arCons (arR 1) (arCons (arV (mpure (.int 7))) (mpure []))) (mpure [])))) (mpure []))))
    (mseq (evPar [6, 7] (vCons (evCall m_all_best 2 (fun as _ => as) (arCons (arV (mpure (.int 8))) (arCons (arR 4) (mpure []))) (mpure [])) (vCons (evC mkLst (evCons (toD (mLc [11] (evL rng1 (evCons (toD (ev2 opAdd (evVar 4) (mpure (.int 1)))) (mpure []))) (fun d => setSlot 11 (.fz d)) (mpure true) (toD (evCall m_law_tower 1 (fun as _ => as) (arCons (arR 11) (mpure [])) (mpure []))))) (mpure []))) (mpure []))))
    (mseq (mFor (evL rng2 (evCons (mpure (.int 2)) (evCons (toD (ev2 opAdd (evVar 5) (mpure (.int 1)))) (mpure [])))) (fun d => setSlot 2 (.fz d))
    (mseq (evSet 8 (evCall m_law_weave 2 (fun as _ => as) (arCons (arR 1) (arCons (arV (toD (ev2 (i2 fun i j => some (.int (i - j))) (evVar 2) (mpure (.int 1))))) (mpure []))) (mpure [])))
    (evExpr (evMut 7 fApp (evCons (toD (evCall m_law_parted 2 (fun as _ => as) (arCons (arV (toD (evIxS 7 (evVar 8)))) (arCons (arV (toD (evIxS 7 (toD (ev2 (i2 fun i j => some (.int (i - j))) (toD (ev2 (i2 fun i j => some (.int (i - j))) (evVar 2) (mpure (.int 2)))) (evVar 8)))))) (mpure []))) (mpure []))) (mpure []))))))
    (mseq (evIf (ev2T neA (toD (mLc [12] (evL rng1 (evCons (evVar 5) (mpure []))) (fun d => setSlot 12 (.fz d)) (ev2T neA (toD (evCall m_law_times 2 (fun as _ => as) (arCons (arV (toD (evIxS 6 (evVar 12)))) (arCons (arR 4) (mpure []))) (mpure []))) (toD (ev2 item (toD (evIxS 7 (evVar 12))) (evVar 4)))) (evVar 12))) (toD (evC mkLst (mpure []))))
    (evRet (toV (mpure (.bl false))))
    (mpure .nx))
    (mseq (evSet 9 (mLc [13] (evSeq (evVar 6)) (fun d => setSlot 13 (.fz d)) (mpure true) (toD (evCall m_law_times 2 (fun as _ => as) (arCons (arR 13) (arCons (arR 4) (mpure []))) (mpure [])))))
    (mseq (evIf (ev2T neA (toD (mLc [11] (evSeq (evVar 9)) (fun d => setSlot 11 (.fz d)) (tNot' (tTruth (toD (evC bIsi (evCons (evVar 11) (evCons (mpure (.ty .int)) (mpure []))))))) (evVar 11))) (toD (evC mkLst (mpure []))))
    (evRet (toV (mpure (.bl false))))
    (mpure .nx))
    (mseq (evIf (tAnd' (ev2T neA (toD (mLc [12] (evL rng1 (evCons (mpure (.int 6)) (mpure []))) (fun d => setSlot 12 (.fz d)) (ev2T neA (toD (ev2 opMul (toD (evIxS 9 (toD (ev2 opAdd (evVar 12) (mpure (.int 2)))))) (toD (ev2 opAdd (evVar 12) (mpure (.int 1)))))) (toD (ev2 opAdd (toD (ev2 opMul (toD (evIxS 9 (toD (ev2 opAdd (evVar 12) (mpure (.int 1)))))) (toD (ev2 opAdd (evVar 12) (mpure (.int 1)))))) (toD (ev2 opMul (evVar 4) (toD (evIxS 9 (evVar 12)))))))) (evVar 12))) (toD (evC mkLst (mpure [])))) (ev2T cGt (evVar 4) (mpure (.int 0))))
    (evRet (toV (mpure (.bl false))))
    (mpure .nx))
    (mseq (evIf (ev2T neA (toD (evCall m_law_weave 2 (fun as _ => as) (arCons (arR 1) (arCons (arV (mpure (.int 30))) (mpure []))) (mpure []))) (mpure (.int 3)))
    (evRet (toV (mpure (.bl true))))
    (mpure .nx))
    (mseq (evSet 10 (mLc [13] (evSeq (toD (evCall m_all_best 2 (fun as _ => as) (arCons (arV (mpure (.int 60))) (arCons (arV (mpure (.int 250))) (mpure []))) (mpure [])))) (fun d => setSlot 13 (.fz d)) (mpure true) (toD (evCall m_law_times 2 (fun as _ => as) (arCons (arR 13) (arCons (arV (mpure (.int 250))) (mpure []))) (mpure [])))))
    (mseq (evIf (ev2T neA (toD (mLc [11] (evSeq (evVar 10)) (fun d => setSlot 11 (.fz d)) (tNot' (tTruth (toD (evC bIsi (evCons (evVar 11) (evCons (mpure (.ty .int)) (mpure []))))))) (evVar 11))) (toD (evC mkLst (mpure []))))
    (evRet (toV (mpure (.bl false))))
    (mpure .nx))
    (evRet (ev2 eqA (toD (mLc [12] (evL rng1 (evCons (mpure (.int 58)) (mpure []))) (fun d => setSlot 12 (.fz d)) (ev2T neA (toD (ev2 opMul (toD (evIxS 10 (toD (ev2 opAdd (evVar 12) (mpure (.int 2)))))) (toD (ev2 opAdd (evVar 12) (mpure (.int 1)))))) (toD (ev2 opAdd (toD (ev2 opMul (toD (evIxS 10 (toD (ev2 opAdd (evVar 12) (mpure (.int 1)))))) (toD (ev2 opAdd (evVar 12) (mpure (.int 1)))))) (toD (ev2 opMul (mpure (.int 250)) (toD (evIxS 10 (evVar 12)))))))) (evVar 12))) (toD (evC mkLst (mpure []))))))))))))))))))
noncomputable def m_law : Fn := fnSem b_law 14
section
variable {P : Program} {w : World} {K : PySem.W.Frag} {mg : Str → Option Value} {base : Heap} {G : Gc}
theorem bd_is_integer (T : Tops K mg) : Binds K T.fd_is_integer ["value"] [] := T.F_is_integer.binds (ps := ["value"]) fun _ _ _ _ _ _ us hl => match us, hl with | [_], _ => rfl
theorem bd_is_within (T : Tops K mg) : Binds K T.fd_is_within ["value", "least", "most"] [] := T.F_is_within.binds (ps := ["value", "least", "most"]) fun _ _ _ _ _ _ us hl => match us, hl with | [_, _, _], _ => rfl
theorem bd_common (T : Tops K mg) : Binds K T.fd_common ["one", "other"] [] := T.F_common.binds (ps := ["one", "other"]) fun _ _ _ _ _ _ us hl => match us, hl with | [_, _], _ => rfl
theorem bd_need_integer (T : Tops K mg) : Binds K T.fd_need_integer ["value", "part", "least", "most"] [] := T.F_need_integer.binds (ps := ["value", "part", "least", "most"]) fun _ _ _ _ _ _ us hl => match us, hl with | [_, _, _, _], _ => rfl
theorem bd_lowest (T : Tops K mg) : Binds K T.fd_lowest ["above", "under"] [] := T.F_lowest.binds (ps := ["above", "under"]) fun _ _ _ _ _ _ us hl => match us, hl with | [_, _], _ => rfl
theorem bd_raised (T : Tops K mg) : Binds K T.fd_raised ["integer", "many"] [] := T.F_raised.binds (ps := ["integer", "many"]) fun _ _ _ _ _ _ us hl => match us, hl with | [_, _], _ => rfl
theorem bd_tower (T : Tops K mg) : Binds K T.fd_tower ["number"] [] := T.F_tower.binds (ps := ["number"]) fun _ _ _ _ _ _ us hl => match us, hl with | [_], _ => rfl
theorem bd_joined (T : Tops K mg) : Binds K T.fd_joined ["row", "towers", "days"] [] := T.F_joined.binds (ps := ["row", "towers", "days"]) fun _ _ _ _ _ _ us hl => match us, hl with | [_, _, _], _ => rfl
theorem bd_prices_to (T : Tops K mg) : Binds K T.fd_prices_to ["goods", "days"] [] := T.F_prices_to.binds (ps := ["goods", "days"]) fun _ _ _ _ _ _ us hl => match us, hl with | [_, _], _ => rfl
theorem bd_all_best (T : Tops K mg) : Binds K T.fd_all_best ["goods", "days"] [] := T.F_all_best.binds (ps := ["goods", "days"]) fun _ _ _ _ _ _ us hl => match us, hl with | [_, _], _ => rfl
theorem bd_best_price (T : Tops K mg) : Binds K T.fd_best_price ["goods", "days"] [] := T.F_best_price.binds (ps := ["goods", "days"]) fun _ _ _ _ _ _ us hl => match us, hl with | [_, _], _ => rfl
theorem bd_law_loom (T : Tops K mg) : Binds K T.fd_law_loom ["_law_script"] [] := T.F_law_loom.binds (ps := ["_law_script"]) fun _ _ _ _ _ _ us hl => match us, hl with | [_], _ => rfl
theorem bd_law_weave (T : Tops K mg) : Binds K T.fd_law_weave ["_law_loom_here", "_law_many"] [] := T.F_law_weave.binds (ps := ["_law_loom_here", "_law_many"]) fun _ _ _ _ _ _ us hl => match us, hl with | [_, _], _ => rfl
theorem bd_law_one_of (T : Tops K mg) : Binds K T.fd_law_one_of ["_law_loom_here", "_law_some"] [] := T.F_law_one_of.binds (ps := ["_law_loom_here", "_law_some"]) fun _ _ _ _ _ _ us hl => match us, hl with | [_, _], _ => rfl
theorem bd_law_number (T : Tops K mg) : Binds K T.fd_law_number ["_law_above", "_law_under"] [] := T.F_law_number.binds (ps := ["_law_above", "_law_under"]) fun _ _ _ _ _ _ us hl => match us, hl with | [_, _], _ => rfl
theorem bd_law_halves (T : Tops K mg) : Binds K T.fd_law_halves ["_law_number_here"] [] := T.F_law_halves.binds (ps := ["_law_number_here"]) fun _ _ _ _ _ _ us hl => match us, hl with | [_], _ => rfl
theorem bd_law_tower (T : Tops K mg) : Binds K T.fd_law_tower ["_law_number_here"] [] := T.F_law_tower.binds (ps := ["_law_number_here"]) fun _ _ _ _ _ _ us hl => match us, hl with | [_], _ => rfl
theorem bd_law_arrows (T : Tops K mg) : Binds K T.fd_law_arrows ["_law_goods", "_law_things"] [] := T.F_law_arrows.binds (ps := ["_law_goods", "_law_things"]) fun _ _ _ _ _ _ us hl => match us, hl with | [_, _], _ => rfl
theorem bd_law_parted (T : Tops K mg) : Binds K T.fd_law_parted ["_law_row", "_law_other"] [] := T.F_law_parted.binds (ps := ["_law_row", "_law_other"]) fun _ _ _ _ _ _ us hl => match us, hl with | [_, _], _ => rfl
theorem bd_law_times (T : Tops K mg) : Binds K T.fd_law_times ["_law_number_here", "_law_days"] [] := T.F_law_times.binds (ps := ["_law_number_here", "_law_days"]) fun _ _ _ _ _ _ us hl => match us, hl with | [_, _], _ => rfl
theorem bd_law (T : Tops K mg) : Binds K T.fd_law ["_law_script"] [] := T.F_law.binds (ps := ["_law_script"]) fun _ _ _ _ _ _ us hl => match us, hl with | [_], _ => rfl
theorem ok_is_integer (T : Tops K mg) (hG : GOk G K mg) : FnG P w K mg base (L2.CX P w) 1 T.f_is_integer T.fd_is_integer ["value"] (spEv G m_is_integer 1) :=
  fn_sound T.F_is_integer sc_is_integer fun cdv A outer s H E L B => (SSs.one (SS.ret (SD.toE (SD.and (SE.toD (SE.isinst rfl T.z_isinstance (SA.cons (SD.var 0 rfl (.inl rfl)) (SA.cons (SD.bltn (n := .int) rfl T.z_int bt_int) SA.nil)))) (SD.one (SD.not (SE.toD (SE.isinst rfl T.z_isinstance (SA.cons (SD.var 0 rfl (.inl rfl)) (SA.cons (SD.bltn (n := .bool) rfl T.z_bool bt_bool) SA.nil))))))))))
theorem ok_is_within (T : Tops K mg) (hG : GOk G K mg) : FnG P w K mg base (L2.CX P w) 2 T.f_is_within T.fd_is_within ["value", "least", "most"] (spEv G m_is_within 3) :=
  fn_sound T.F_is_within sc_is_within fun cdv A outer s H E L B => (SSs.cons (SS.ite (ST.not (ST.truth (SE.toD (SE.call1 (ok_is_integer T hG) (B.room.mono (by decide)) B.tk rfl T.g_is_integer T.F_is_integer.kp (KBinds.ofPos (bd_is_integer T)) GRel.ofPos (SR.ref 0 rfl (.inl rfl) SR.nil)))))
    (SSs.one (SS.ret (SD.toE SD.bl)))
    SSs.nil)
    (SSs.one (SS.ret (SD.toE (SD.and (SD.or (SE.toD (SE.isN (SD.var 1 rfl (.inl rfl)) SD.non)) (SD.one (SE.toD (SE.le (SD.var 1 rfl (.inl rfl)) (SD.var 0 rfl (.inl rfl)))))) (SD.one (SD.or (SE.toD (SE.isN (SD.var 2 rfl (.inl rfl)) SD.non)) (SD.one (SE.toD (SE.le (SD.var 0 rfl (.inl rfl)) (SD.var 2 rfl (.inl rfl))))))))))))
theorem ok_common (T : Tops K mg) (hG : GOk G K mg) : FnG P w K mg base (L2.CX P w) 1 T.f_common T.fd_common ["one", "other"] (spEv G m_common 2) :=
  fn_sound T.F_common sc_common fun cdv A outer s H E L B => (SSs.cons (SS.par2 0 1 B.calm sc_common.nd rfl rfl (by decide) rfl rfl (SV.cons (SE.abs rfl T.z_abs (SA.cons (SD.var 0 rfl (.inl rfl)) SA.nil)) (SV.cons (SE.abs rfl T.z_abs (SA.cons (SD.var 1 rfl (.inl rfl)) SA.nil)) SV.nil)) (by rfl))
    (SSs.cons (SS.while B.hp (ST.gt (SD.var 1 rfl (.inl rfl)) SD.int)
    (SSs.one (SS.par2 0 1 B.calm sc_common.nd rfl rfl (by decide) rfl rfl (SV.cons (SD.toE (SD.var 1 rfl (.inl rfl))) (SV.cons (SE.mod (SD.var 0 rfl (.inl rfl)) (SD.var 1 rfl (.inl rfl))) SV.nil)) (by rfl))))
    (SSs.one (SS.ret (SE.move 0 rfl (.inl rfl))))))
theorem ok_need_integer (T : Tops K mg) (hG : GOk G K mg) : FnG P w K mg base (L2.CX P w) 3 T.f_need_integer T.fd_need_integer ["value", "part", "least", "most"] (spEv G m_need_integer 4) :=
  fn_sound T.F_need_integer sc_need_integer fun cdv A outer s H E L B => (SSs.one (SS.ite (ST.not (ST.truth (SE.toD (SE.call1 (ok_is_within T hG) (B.room.mono (by decide)) B.tk rfl T.g_is_within T.F_is_within.kp (KBinds.ofPos (bd_is_within T)) GRel.ofPos (SR.ref 0 rfl (.inl rfl) (SR.ref 2 rfl (.inl rfl) (SR.ref 3 rfl (.inl rfl) SR.nil)))))))
    (SSs.one SS.dead)
    SSs.nil))
theorem ok_lowest (T : Tops K mg) (hG : GOk G K mg) : FnG P w K mg base (L2.CX P w) 2 T.f_lowest T.fd_lowest ["above", "under"] (spEv G m_lowest 2) :=
  fn_sound T.F_lowest sc_lowest fun cdv A outer s H E L B => (SSs.cons (SS.set 2 sc_lowest.nd rfl (.inl rfl) (SE.call1 (ok_common T hG) (B.room.mono (by decide)) B.tk rfl T.g_common T.F_common.kp (KBinds.ofPos (bd_common T)) GRel.ofPos (SR.ref 0 rfl (.inl rfl) (SR.ref 1 rfl (.inl rfl) SR.nil))))
    (SSs.cons (SS.set 2 sc_lowest.nd rfl (.inl rfl) (SE.ite (ST.lt (SD.var 1 rfl (.inl rfl)) SD.int) (SE.neg (SD.var 2 rfl (.inl rfl))) (SD.toE (SD.var 2 rfl (.inl rfl)))))
    (SSs.cons (SS.par2 0 1 B.calm sc_lowest.nd rfl rfl (by decide) rfl rfl (SV.cons (SE.fdiv (SD.var 0 rfl (.inl rfl)) (SD.var 2 rfl (.inl rfl))) (SV.cons (SE.fdiv (SD.var 1 rfl (.inl rfl)) (SD.var 2 rfl (.inl rfl))) SV.nil)) (by rfl))
    (SSs.one (SS.ret (SE.ite (ST.eq B.room (SD.var 1 rfl (.inl rfl)) SD.int) (SD.toE (SD.var 0 rfl (.inl rfl))) (SE.tup (SA.cons (SD.var 0 rfl (.inl rfl)) (SA.cons (SD.var 1 rfl (.inl rfl)) SA.nil)))))))))
theorem ok_raised (T : Tops K mg) (hG : GOk G K mg) : FnG P w K mg base (L2.CX P w) 1 T.f_raised T.fd_raised ["integer", "many"] (spEv G m_raised 2) :=
  fn_sound T.F_raised sc_raised fun cdv A outer s H E L B => (SSs.cons (SS.par3 2 3 4 B.calm sc_raised.nd rfl rfl rfl (by decide) (by decide) (by decide) rfl rfl rfl (SV.cons (SD.toE SD.int) (SV.cons (SD.toE (SD.var 0 rfl (.inl rfl))) (SV.cons (SD.toE (SD.var 1 rfl (.inl rfl))) SV.nil))) (by rfl))
    (SSs.cons (SS.while B.hp (ST.gt (SD.var 4 rfl (.inl rfl)) SD.int)
    (SSs.cons (SS.ite (ST.eq B.room (SE.toD (SE.band (SD.var 4 rfl (.inl rfl)) SD.int)) SD.int)
    (SSs.one (SS.set 2 sc_raised.nd rfl (.inl rfl) (SE.mul (SD.var 2 rfl (.inl rfl)) (SD.var 3 rfl (.inl rfl)))))
    SSs.nil)
    (SSs.one (SS.par2 3 4 B.calm sc_raised.nd rfl rfl (by decide) rfl rfl (SV.cons (SE.mul (SD.var 3 rfl (.inl rfl)) (SD.var 3 rfl (.inl rfl))) (SV.cons (SE.shr (SD.var 4 rfl (.inl rfl)) SD.int) SV.nil)) (by rfl)))))
    (SSs.one (SS.ret (SE.move 2 rfl (.inl rfl))))))
theorem ok_tower (T : Tops K mg) (hG : GOk G K mg) : FnG P w K mg base (L2.CX P w) 2 T.f_tower T.fd_tower ["number"] (spEv G m_tower 1) :=
  fn_sound T.F_tower sc_tower fun cdv A outer s H E L B => (SSs.one (SS.ret (SE.call1 (ok_raised T hG) (B.room.mono (by decide)) B.tk rfl T.g_raised T.F_raised.kp (KBinds.ofPos (bd_raised T)) GRel.ofPos (SR.cons (SD.var 0 rfl (.inl rfl)) (SR.cons (SD.var 0 rfl (.inl rfl)) SR.nil)))))
theorem ok_joined (T : Tops K mg) (hG : GOk G K mg) : FnG P w K mg base (L2.CX P w) 1 T.f_joined T.fd_joined ["row", "towers", "days"] (spEv G m_joined 3) :=
  fn_sound T.F_joined sc_joined fun cdv A outer s H E L B => (SSs.cons (SS.asg (SE.toD (SE.tup (SA.cons SD.int (SA.cons SD.int SA.nil)))) (SG.tup B.calm (SGs.cons (SG.name 3 sc_joined.nd rfl (.inl rfl)) (SGs.cons (SG.name 4 sc_joined.nd rfl (.inl rfl)) SGs.nil))))
    (SSs.cons (SS.for B.hp B.calm (SI.range1 rfl T.z_range (SA.cons (SE.toD (SE.add (SD.var 2 rfl (.inl rfl)) SD.int)) SA.nil)) (SG.name 5 sc_joined.nd rfl (.inl rfl))
    (SSs.cons (SS.set 3 sc_joined.nd rfl (.inl rfl) (SE.add (SD.var 3 rfl (.inl rfl)) (SE.toD (SE.mul (SE.toD (SE.mul (SD.var 4 rfl (.inl rfl)) (SE.toD (SE.ixS 0 rfl (.inl rfl) (SE.toD (SE.sub (SD.var 2 rfl (.inl rfl)) (SD.var 5 rfl (.inl rfl)))))))) (SE.toD (SE.ixS 1 rfl (.inl rfl) (SD.var 5 rfl (.inl rfl))))))))
    (SSs.one (SS.set 4 sc_joined.nd rfl (.inl rfl) (SE.fdiv (SE.toD (SE.mul (SD.var 4 rfl (.inl rfl)) (SE.toD (SE.sub (SD.var 2 rfl (.inl rfl)) (SD.var 5 rfl (.inl rfl)))))) (SE.toD (SE.add (SD.var 5 rfl (.inl rfl)) SD.int)))))))
    (SSs.one (SS.ret (SE.move 3 rfl (.inl rfl))))))
theorem ok_prices_to (T : Tops K mg) (hG : GOk G K mg) : FnG P w K mg base (L2.CX P w) 3 T.f_prices_to T.fd_prices_to ["goods", "days"] (spEv G m_prices_to 2) :=
  fn_sound T.F_prices_to sc_prices_to fun cdv A outer s H E L B => (SSs.cons (SS.parT2 2 3 B.calm sc_prices_to.nd rfl rfl (.inl rfl) (.inr rfl) (by first | exact .inl rfl | exact .inr rfl) (by first | exact .inl rfl | exact .inr rfl) (SV.cons (SE.lc (own := [("many", 5)]) B.calm sc_prices_to.nd (blkOk_by (N := ["goods", "days", "towers", "under", "found", "many", "above"]) (sc := defScope s_prices_to) (by decide +kernel)) (SI.range1 rfl T.z_range (SA.cons (SE.toD (SE.add (SD.var 1 rfl (.inl rfl)) SD.int)) SA.nil)) (fun _ _ _ _ _ => (SGv.name 5 sc_prices_to.nd rfl (.inl rfl) (by decide) (.inr rfl))) (fun _ _ _ _ _ => SPT.nil) (fun _ _ _ _ _ => (SE.toD (SE.call1 (ok_tower T hG) (B.room.mono (by decide)) tk0 rfl T.g_tower T.F_tower.kp (KBinds.ofPos (bd_tower T)) GRel.ofPos (SR.ref 5 rfl (.inl rfl) SR.nil))))) (SV.cons (SE.call1 (ok_tower T hG) (B.room.mono (by decide)) B.tk rfl T.g_tower T.F_tower.kp (KBinds.ofPos (bd_tower T)) GRel.ofPos (SR.ref 1 rfl (.inl rfl) SR.nil)) SV.nil)))
    (SSs.cons (SS.set 4 sc_prices_to.nd rfl (.inl rfl) (SE.lst (SA.cons (SD.var 3 rfl (.inr (.inl rfl))) (SA.cons (SE.toD (SE.call1 (ok_joined T hG) (B.room.mono (by decide)) B.tk rfl T.g_joined T.F_joined.kp (KBinds.ofPos (bd_joined T)) GRel.ofPos (SR.cons (SD.var 2 rfl (.inl rfl)) (SR.cons (SD.var 2 rfl (.inl rfl)) (SR.ref 1 rfl (.inl rfl) SR.nil))))) SA.nil))))
    (SSs.cons (SS.while B.hp (ST.lt (SE.toD (SE.lenS 4 rfl T.z_len rfl (.inl rfl))) (SD.var 0 rfl (.inl rfl)))
    (SSs.one (SS.expr (SD.app 4 rfl (.inl rfl) (SA.cons (SE.toD (SE.add (SE.toD (SE.ixS 4 rfl (.inl rfl) (SE.toD (SE.neg SD.int)))) (SE.toD (SE.fdiv (SE.toD (SE.mul (SD.var 1 rfl (.inl rfl)) (SE.toD (SE.ixS 4 rfl (.inl rfl) (SE.toD (SE.neg SD.int)))))) (SE.toD (SE.sub (SE.toD (SE.lenS 4 rfl T.z_len rfl (.inl rfl))) SD.int)))))) SA.nil)))))
    (SSs.one (SS.ret (SE.lc (own := [("above", 6)]) B.calm sc_prices_to.nd (blkOk_by (N := ["goods", "days", "towers", "under", "found", "many", "above"]) (sc := defScope s_prices_to) (by decide +kernel)) (SI.seq (SE.toD (SE.slice (scr_sq hG.scr) (SD.var 4 rfl (.inl rfl)) SO.none (SO.some (SD.var 0 rfl (.inl rfl)))))) (fun _ _ _ _ _ => (SGv.name 6 sc_prices_to.nd rfl (.inl rfl) (by decide) (.inr rfl))) (fun _ _ _ _ _ => SPT.nil) (fun _ _ _ _ _ => (SE.toD (SE.call1 (ok_lowest T hG) (B.room.mono (by decide)) tk0 rfl T.g_lowest T.F_lowest.kp (KBinds.ofPos (bd_lowest T)) GRel.ofPos (SR.ref 6 rfl (.inl rfl) (SR.ref 3 rfl (.inr (.inl rfl)) SR.nil)))))))))))
theorem ok_all_best (T : Tops K mg) (hG : GOk G K mg) : FnG P w K mg base (L2.CX P w) 4 T.f_all_best T.fd_all_best ["goods", "days"] (spEv G m_all_best 2) :=
  fn_sound T.F_all_best sc_all_best fun cdv A outer s H E L B => (SSs.cons (SS.expr (SE.toD (SE.call1 (ok_need_integer T hG) (B.room.mono (by decide)) B.tk rfl T.g_need_integer T.F_need_integer.kp (KBinds.ofPos (bd_need_integer T)) GRel.ofPos (SR.ref 0 rfl (.inl rfl) (SR.cons SD.str (SR.cons SD.int (SR.cons (SD.globI rfl T.c_MOST_LOTS) SR.nil)))))))
    (SSs.cons (SS.expr (SE.toD (SE.call1 (ok_need_integer T hG) (B.room.mono (by decide)) B.tk rfl T.g_need_integer T.F_need_integer.kp (KBinds.ofPos (bd_need_integer T)) GRel.ofPos (SR.ref 1 rfl (.inl rfl) (SR.cons SD.str (SR.cons SD.int (SR.cons (SD.globI rfl T.c_MOST_BEST_DAYS) SR.nil)))))))
    (SSs.one (SS.ret (SE.tuple rfl T.z_tuple (SA.cons (SE.toD (SE.call1 (ok_prices_to T hG) (B.room.mono (by decide)) B.tk rfl T.g_prices_to T.F_prices_to.kp (KBinds.ofPos (bd_prices_to T)) GRel.ofPos (SR.ref 0 rfl (.inl rfl) (SR.ref 1 rfl (.inl rfl) SR.nil)))) SA.nil))))))
theorem ok_best_price (T : Tops K mg) (hG : GOk G K mg) : FnG P w K mg base (L2.CX P w) 5 T.f_best_price T.fd_best_price ["goods", "days"] (spEv G m_best_price 2) :=
  fn_sound T.F_best_price sc_best_price fun cdv A outer s H E L B => (SSs.one (SS.ret (SE.ix (SE.toD (SE.call1 (ok_all_best T hG) (B.room.mono (by decide)) B.tk rfl T.g_all_best T.F_all_best.kp (KBinds.ofPos (bd_all_best T)) GRel.ofPos (SR.ref 0 rfl (.inl rfl) (SR.ref 1 rfl (.inl rfl) SR.nil)))) (SE.toD (SE.neg SD.int)))))
theorem ok_law_loom (T : Tops K mg) (hG : GOk G K mg) : FnG P w K mg base (L2.CX P w) 1 T.f_law_loom T.fd_law_loom ["_law_script"] (spEv G m_law_loom 1) :=
  fn_sound T.F_law_loom sc_law_loom fun cdv A outer s H E L B => (SSs.one (SS.ret (SE.lst (SA.cons (SE.toD (SE.lc (own := [("_law_cell", 1)]) B.calm sc_law_loom.nd (blkOk_by (N := ["_law_script", "_law_cell"]) (sc := defScope s_law_loom) (by decide +kernel)) (SI.seq (SE.toD (SE.slice (scr_sq hG.scr) (SD.var 0 rfl (.inl rfl)) SO.none (SO.some SD.int)))) (fun _ _ _ _ _ => (SGv.name 1 sc_law_loom.nd rfl (.inl rfl) (by decide) (.inr rfl))) (fun _ _ _ _ _ => SPT.nil) (fun _ _ _ _ _ => (SE.toD (SE.int rfl T.z_int (SA.cons (SD.var 1 rfl (.inl rfl)) SA.nil)))))) (SA.cons SD.int (SA.cons SD.int SA.nil))))))
theorem ok_law_weave (T : Tops K mg) (hG : GOk G K mg) : FnG P w K mg base (L2.CX P w) 1 T.f_law_weave T.fd_law_weave ["_law_loom_here", "_law_many"] (spEv G m_law_weave 2) :=
  fn_sound T.F_law_weave sc_law_weave fun cdv A outer s H E L B => (SSs.cons (SS.ite (ST.gt (SE.toD (SE.ixS 0 rfl (.inl rfl) SD.int)) SD.int)
    (SSs.cons (SS.set 2 sc_law_weave.nd rfl (.inl rfl) (SE.int rfl T.z_int (SA.cons (SE.toD (SE.ixS 0 rfl (.inl rfl) SD.int)) SA.nil)))
    (SSs.cons (SS.asg (SE.toD (SE.fdiv (SD.var 2 rfl (.inl rfl)) (SD.var 1 rfl (.inl rfl)))) (SG.ix 0 rfl (.inl rfl) SD.int))
    (SSs.one (SS.ret (SE.mod (SE.toD (SE.int rfl T.z_int (SA.cons (SD.var 2 rfl (.inl rfl)) SA.nil))) (SD.var 1 rfl (.inl rfl)))))))
    SSs.nil)
    (SSs.cons (SS.set 3 sc_law_weave.nd rfl (.inl rfl) (SE.ixS 0 rfl (.inl rfl) SD.int))
    (SSs.cons (SS.asg (SE.toD (SE.add (SD.var 3 rfl (.inl rfl)) SD.int)) (SG.ix 0 rfl (.inl rfl) SD.int))
    (SSs.cons (SS.set 4 sc_law_weave.nd rfl (.inl rfl) (SE.add (SE.toD (SE.mul SD.int (SD.var 3 rfl (.inl rfl)))) SD.int))
    (SSs.cons (SS.ite (ST.ne B.room (SE.toD (SE.ixS 0 rfl (.inl rfl) SD.int)) (SE.toD (SE.lst SA.nil)))
    (SSs.one (SS.set 4 sc_law_weave.nd rfl (.inl rfl) (SE.ix (SE.toD (SE.ixS 0 rfl (.inl rfl) SD.int)) (SE.toD (SE.mod (SE.toD (SE.int rfl T.z_int (SA.cons (SD.var 3 rfl (.inl rfl)) SA.nil))) (SE.toD (SE.len rfl T.z_len (SA.cons (SE.toD (SE.ixS 0 rfl (.inl rfl) SD.int)) SA.nil))))))))
    SSs.nil)
    (SSs.cons (SS.ite (SW.t (SW.and (ST.lt (SD.var 3 rfl (.inl rfl)) (SE.toD (SE.len rfl T.z_len (SA.cons (SE.toD (SE.ixS 0 rfl (.inl rfl) SD.int)) SA.nil)))) (SW.and1 (ST.ge (SE.toD (SE.abs rfl T.z_abs (SA.cons (SD.var 4 rfl (.inl rfl)) SA.nil))) (SE.toD (SE.pow SD.int SD.int))))))
    (SSs.cons (SS.set 2 sc_law_weave.nd rfl (.inl rfl) (SE.add (SE.toD (SE.mul SD.int (SE.toD (SE.sub (SE.toD (SE.abs rfl T.z_abs (SA.cons (SE.toD (SE.int rfl T.z_int (SA.cons (SD.var 4 rfl (.inl rfl)) SA.nil))) SA.nil))) (SE.toD (SE.pow SD.int SD.int)))))) (SE.toD (SE.int rfl T.z_int (SA.cons (SE.toD (SE.lt (SD.var 4 rfl (.inl rfl)) SD.int)) SA.nil)))))
    (SSs.cons (SS.asg (SE.toD (SE.fdiv (SD.var 2 rfl (.inl rfl)) (SD.var 1 rfl (.inl rfl)))) (SG.ix 0 rfl (.inl rfl) SD.int))
    (SSs.one (SS.ret (SE.mod (SE.toD (SE.int rfl T.z_int (SA.cons (SD.var 2 rfl (.inl rfl)) SA.nil))) (SD.var 1 rfl (.inl rfl)))))))
    SSs.nil)
    (SSs.cons (SS.set 5 sc_law_weave.nd rfl (.inl rfl) (SE.mod (SE.toD (SE.int rfl T.z_int (SA.cons (SE.toD (SE.pow (SE.toD (SE.add (SE.toD (SE.add (SE.toD (SE.mod (SE.toD (SE.int rfl T.z_int (SA.cons (SD.var 4 rfl (.inl rfl)) SA.nil))) SD.int)) (SE.toD (SE.mul SD.int (SD.var 3 rfl (.inl rfl)))))) SD.int)) SD.int)) SA.nil))) SD.int))
    (SSs.cons (SS.set 5 sc_law_weave.nd rfl (.inl rfl) (SE.mod (SE.toD (SE.int rfl T.z_int (SA.cons (SE.toD (SE.pow (SE.toD (SE.add (SE.toD (SE.add (SE.toD (SE.mul (SD.var 5 rfl (.inl rfl)) (SE.toD (SE.add (SE.toD (SE.mul SD.int (SD.var 3 rfl (.inl rfl)))) SD.int)))) (SE.toD (SE.mul (SE.toD (SE.mul SD.int (SD.var 3 rfl (.inl rfl)))) (SD.var 3 rfl (.inl rfl)))))) SD.int)) SD.int)) SA.nil))) SD.int))
    (SSs.one (SS.ret (SE.mod (SE.toD (SE.int rfl T.z_int (SA.cons (SE.toD (SE.fdiv (SD.var 5 rfl (.inl rfl)) SD.int)) SA.nil))) (SD.var 1 rfl (.inl rfl)))))))))))))
theorem ok_law_one_of (T : Tops K mg) (hG : GOk G K mg) : FnG P w K mg base (L2.CX P w) 2 T.f_law_one_of T.fd_law_one_of ["_law_loom_here", "_law_some"] (spEv G m_law_one_of 2) :=
  fn_sound T.F_law_one_of sc_law_one_of fun cdv A outer s H E L B => (SSs.one (SS.ret (SE.ixS 1 rfl (.inl rfl) (SE.toD (SE.call1 (ok_law_weave T hG) (B.room.mono (by decide)) B.tk rfl T.g_law_weave T.F_law_weave.kp (KBinds.ofPos (bd_law_weave T)) GRel.ofPos (SR.ref 0 rfl (.inl rfl) (SR.cons (SE.toD (SE.lenS 1 rfl T.z_len rfl (.inl rfl))) SR.nil)))))))
theorem ok_law_number (T : Tops K mg) (hG : GOk G K mg) : FnG P w K mg base (L2.CX P w) 1 T.f_law_number T.fd_law_number ["_law_above", "_law_under"] (spEv G m_law_number 2) :=
  fn_sound T.F_law_number sc_law_number fun cdv A outer s H E L B => (SSs.cons (SS.par2 2 3 B.calm sc_law_number.nd rfl rfl (by decide) rfl rfl (SV.cons (SE.abs rfl T.z_abs (SA.cons (SD.var 0 rfl (.inl rfl)) SA.nil)) (SV.cons (SE.abs rfl T.z_abs (SA.cons (SD.var 1 rfl (.inl rfl)) SA.nil)) SV.nil)) (by rfl))
    (SSs.cons (SS.while B.hp (ST.gt (SD.var 3 rfl (.inl rfl)) SD.int)
    (SSs.one (SS.par2 2 3 B.calm sc_law_number.nd rfl rfl (by decide) rfl rfl (SV.cons (SD.toE (SD.var 3 rfl (.inl rfl))) (SV.cons (SE.mod (SE.toD (SE.int rfl T.z_int (SA.cons (SD.var 2 rfl (.inl rfl)) SA.nil))) (SD.var 3 rfl (.inl rfl))) SV.nil)) (by rfl))))
    (SSs.cons (SS.set 4 sc_law_number.nd rfl (.inl rfl) (SE.ite (ST.lt (SD.var 1 rfl (.inl rfl)) SD.int) (SE.neg SD.int) (SD.toE SD.int)))
    (SSs.cons (SS.par2 0 1 B.calm sc_law_number.nd rfl rfl (by decide) rfl rfl (SV.cons (SE.fdiv (SE.toD (SE.mul (SD.var 4 rfl (.inl rfl)) (SD.var 0 rfl (.inl rfl)))) (SD.var 2 rfl (.inl rfl))) (SV.cons (SE.fdiv (SE.toD (SE.mul (SD.var 4 rfl (.inl rfl)) (SD.var 1 rfl (.inl rfl)))) (SD.var 2 rfl (.inl rfl))) SV.nil)) (by rfl))
    (SSs.one (SS.ret (SE.ite (ST.eq B.room (SD.var 1 rfl (.inl rfl)) SD.int) (SD.toE (SD.var 0 rfl (.inl rfl))) (SE.tup (SA.cons (SD.var 0 rfl (.inl rfl)) (SA.cons (SD.var 1 rfl (.inl rfl)) SA.nil))))))))))
theorem ok_law_halves (T : Tops K mg) (hG : GOk G K mg) : FnG P w K mg base (L2.CX P w) 1 T.f_law_halves T.fd_law_halves ["_law_number_here"] (spEv G m_law_halves 1) :=
  fn_sound T.F_law_halves sc_law_halves fun cdv A outer s H E L B => (SSs.one (SS.ret (SE.ite (ST.truth (SE.toD (SE.isinst rfl T.z_isinstance (SA.cons (SD.var 0 rfl (.inl rfl)) (SA.cons (SD.bltn (n := .int) rfl T.z_int bt_int) SA.nil))))) (SE.tup (SA.cons (SD.var 0 rfl (.inl rfl)) (SA.cons SD.int SA.nil))) (SE.tup (SA.cons (SE.toD (SE.ixS 0 rfl (.inl rfl) SD.int)) (SA.cons (SE.toD (SE.ixS 0 rfl (.inl rfl) SD.int)) SA.nil))))))
theorem ok_law_tower (T : Tops K mg) (hG : GOk G K mg) : FnG P w K mg base (L2.CX P w) 1 T.f_law_tower T.fd_law_tower ["_law_number_here"] (spEv G m_law_tower 1) :=
  fn_sound T.F_law_tower sc_law_tower fun cdv A outer s H E L B => (SSs.cons (SS.set 1 sc_law_tower.nd rfl (.inl rfl) (SD.toE SD.int))
    (SSs.cons (SS.for B.hp B.calm (SI.range1 rfl T.z_range (SA.cons (SD.var 0 rfl (.inl rfl)) SA.nil)) (SG.name 2 sc_law_tower.nd rfl (.inl rfl))
    (SSs.one (SS.set 1 sc_law_tower.nd rfl (.inl rfl) (SE.mul (SD.var 1 rfl (.inl rfl)) (SD.var 0 rfl (.inl rfl))))))
    (SSs.one (SS.ret (SE.move 1 rfl (.inl rfl))))))
theorem ok_law_arrows (T : Tops K mg) (hG : GOk G K mg) : FnG P w K mg base (L2.CX P w) 1 T.f_law_arrows T.fd_law_arrows ["_law_goods", "_law_things"] (spEv G m_law_arrows 2) :=
  fn_sound T.F_law_arrows sc_law_arrows fun cdv A outer s H E L B => (SSs.cons (SS.set 2 sc_law_arrows.nd rfl (.inl rfl) (SD.toE SD.int))
    (SSs.cons (SS.for B.hp B.calm (SI.range1 rfl T.z_range (SA.cons (SD.var 1 rfl (.inl rfl)) SA.nil)) (SG.name 3 sc_law_arrows.nd rfl (.inl rfl))
    (SSs.one (SS.set 2 sc_law_arrows.nd rfl (.inl rfl) (SE.mul (SE.toD (SE.mul (SD.var 2 rfl (.inl rfl)) (SD.var 0 rfl (.inl rfl)))) (SD.var 1 rfl (.inl rfl))))))
    (SSs.cons (SS.set 4 sc_law_arrows.nd rfl (.inl rfl) (SD.toE SD.int))
    (SSs.cons (SS.for B.hp B.calm (SI.range1 rfl T.z_range (SA.cons (SD.var 2 rfl (.inl rfl)) SA.nil)) (SG.name 5 sc_law_arrows.nd rfl (.inl rfl))
    (SSs.cons (SS.parT2 6 7 B.calm sc_law_arrows.nd rfl rfl (.inl rfl) (.inr rfl) (by first | exact .inl rfl | exact .inr rfl) (by first | exact .inl rfl | exact .inr rfl) (SV.cons (SD.toE (SD.var 5 rfl (.inl rfl))) (SV.cons (SE.lst SA.nil) SV.nil)))
    (SSs.cons (SS.for B.hp B.calm (SI.range1 rfl T.z_range (SA.cons (SD.var 1 rfl (.inl rfl)) SA.nil)) (SG.name 3 sc_law_arrows.nd rfl (.inl rfl))
    (SSs.cons (SS.expr (SD.app 7 rfl (.inr (.inl rfl)) (SA.cons (SE.toD (SE.tup (SA.cons (SE.toD (SE.mod (SE.toD (SE.int rfl T.z_int (SA.cons (SD.var 6 rfl (.inl rfl)) SA.nil))) (SD.var 0 rfl (.inl rfl)))) (SA.cons (SE.toD (SE.mod (SE.toD (SE.int rfl T.z_int (SA.cons (SE.toD (SE.fdiv (SD.var 6 rfl (.inl rfl)) (SD.var 0 rfl (.inl rfl)))) SA.nil))) (SD.var 1 rfl (.inl rfl)))) SA.nil)))) SA.nil)))
    (SSs.one (SS.set 6 sc_law_arrows.nd rfl (.inl rfl) (SE.fdiv (SD.var 6 rfl (.inl rfl)) (SE.toD (SE.mul (SD.var 0 rfl (.inl rfl)) (SD.var 1 rfl (.inl rfl)))))))))
    (SSs.one (SS.set 4 sc_law_arrows.nd rfl (.inl rfl) (SE.add (SD.var 4 rfl (.inl rfl)) (SE.toD (SE.int rfl T.z_int (SA.cons (SE.toD (SE.eq B.room (SE.toD (SE.lc (own := [("_law_good", 8), ("_law_arrow", 9)]) B.calm sc_law_arrows.nd (blkOk_by (N := ["_law_goods", "_law_things", "_law_many", "_law_thing", "_law_found", "_law_number_here", "_law_left", "_law_told", "_law_good", "_law_arrow"]) (sc := defScope s_law_arrows) (by decide +kernel)) (SI.seq (SD.var 7 rfl (.inr (.inl rfl)))) (fun _ _ _ _ _ => (SGv.tup B.calm (SGvs.cons (SGv.name 8 sc_law_arrows.nd rfl (.inl rfl) (by decide) (.inr rfl)) (SGvs.cons (SGv.name 9 sc_law_arrows.nd rfl (.inl rfl) (by decide) (.inr rfl)) SGvs.nil)))) (fun _ _ _ _ _ => (SPT.one (ST.ne B.room (SE.toD (SE.ix (SE.toD (SE.ixS 7 rfl (.inr (.inl rfl)) (SD.var 9 rfl (.inl rfl)))) SD.int)) (SD.var 8 rfl (.inl rfl))))) (fun _ _ _ _ _ => SD.int))) (SE.toD (SE.lst SA.nil)))) SA.nil)))))))))
    (SSs.one (SS.ret (SE.move 4 rfl (.inl rfl))))))))
theorem ok_law_parted (T : Tops K mg) (hG : GOk G K mg) : FnG P w K mg base (L2.CX P w) 1 T.f_law_parted T.fd_law_parted ["_law_row", "_law_other"] (spEv G m_law_parted 2) :=
  fn_sound T.F_law_parted sc_law_parted fun cdv A outer s H E L B => (SSs.cons (SS.set 2 sc_law_parted.nd rfl (.inl rfl) (SE.lst SA.nil))
    (SSs.cons (SS.for B.hp B.calm (SI.range1 rfl T.z_range (SA.cons (SE.toD (SE.lenS 0 rfl T.z_len rfl (.inl rfl))) SA.nil)) (SG.name 3 sc_law_parted.nd rfl (.inl rfl))
    (SSs.cons (SS.asg (SE.toD (SE.tup (SA.cons SD.int (SA.cons SD.int SA.nil)))) (SG.tup B.calm (SGs.cons (SG.name 4 sc_law_parted.nd rfl (.inl rfl)) (SGs.cons (SG.name 5 sc_law_parted.nd rfl (.inl rfl)) SGs.nil))))
    (SSs.cons (SS.for B.hp B.calm (SI.range1 rfl T.z_range (SA.cons (SE.toD (SE.add (SD.var 3 rfl (.inl rfl)) SD.int)) SA.nil)) (SG.name 6 sc_law_parted.nd rfl (.inl rfl))
    (SSs.cons (SS.set 4 sc_law_parted.nd rfl (.inl rfl) (SE.add (SD.var 4 rfl (.inl rfl)) (SE.toD (SE.mul (SE.toD (SE.mul (SD.var 5 rfl (.inl rfl)) (SE.toD (SE.ixS 0 rfl (.inl rfl) (SD.var 6 rfl (.inl rfl)))))) (SE.toD (SE.ixS 1 rfl (.inl rfl) (SE.toD (SE.sub (SD.var 3 rfl (.inl rfl)) (SD.var 6 rfl (.inl rfl))))))))))
    (SSs.one (SS.set 5 sc_law_parted.nd rfl (.inl rfl) (SE.fdiv (SE.toD (SE.mul (SD.var 5 rfl (.inl rfl)) (SE.toD (SE.sub (SD.var 3 rfl (.inl rfl)) (SD.var 6 rfl (.inl rfl)))))) (SE.toD (SE.add (SD.var 6 rfl (.inl rfl)) SD.int)))))))
    (SSs.one (SS.expr (SD.app 2 rfl (.inl rfl) (SA.cons (SD.var 4 rfl (.inl rfl)) SA.nil)))))))
    (SSs.one (SS.ret (SE.move 2 rfl (.inl rfl))))))
theorem ok_law_times (T : Tops K mg) (hG : GOk G K mg) : FnG P w K mg base (L2.CX P w) 2 T.f_law_times T.fd_law_times ["_law_number_here", "_law_days"] (spEv G m_law_times 2) :=
  fn_sound T.F_law_times sc_law_times fun cdv A outer s H E L B => (SSs.cons (SS.asg (SE.toD (SE.call1 (ok_law_halves T hG) (B.room.mono (by decide)) B.tk rfl T.g_law_halves T.F_law_halves.kp (KBinds.ofPos (bd_law_halves T)) GRel.ofPos (SR.ref 0 rfl (.inl rfl) SR.nil))) (SG.tup B.calm (SGs.cons (SG.name 2 sc_law_times.nd rfl (.inl rfl)) (SGs.cons (SG.name 3 sc_law_times.nd rfl (.inl rfl)) SGs.nil))))
    (SSs.one (SS.ret (SE.call1 (ok_law_number T hG) (B.room.mono (by decide)) B.tk rfl T.g_law_number T.F_law_number.kp (KBinds.ofPos (bd_law_number T)) GRel.ofPos (SR.cons (SE.toD (SE.mul (SD.var 2 rfl (.inl rfl)) (SE.toD (SE.call1 (ok_law_tower T hG) (B.room.mono (by decide)) B.tk rfl T.g_law_tower T.F_law_tower.kp (KBinds.ofPos (bd_law_tower T)) GRel.ofPos (SR.ref 1 rfl (.inl rfl) SR.nil))))) (SR.ref 3 rfl (.inl rfl) SR.nil))))))
theorem ok_law (T : Tops K mg) (hG : GOk G K mg) : FnG P w K mg base (L2.CX P w) 6 T.f_law T.fd_law ["_law_script"] (spEv G m_law 1) :=
  fn_sound T.F_law sc_law fun cdv A outer s H E L B => (SSs.cons (SS.set 1 sc_law.nd rfl (.inl rfl) (SE.call1 (ok_law_loom T hG) (B.room.mono (by decide)) B.tk rfl T.g_law_loom T.F_law_loom.kp (KBinds.ofPos (bd_law_loom T)) GRel.ofPos (SR.ref 0 rfl (.inl rfl) SR.nil)))
    (SSs.cons (SS.par2 2 3 B.calm sc_law.nd rfl rfl (by decide) rfl rfl (SV.cons (SE.add SD.int (SE.toD (SE.call1 (ok_law_weave T hG) (B.room.mono (by decide)) B.tk rfl T.g_law_weave T.F_law_weave.kp (KBinds.ofPos (bd_law_weave T)) GRel.ofPos (SR.ref 1 rfl (.inl rfl) (SR.cons SD.int SR.nil))))) (SV.cons (SE.call1 (ok_law_weave T hG) (B.room.mono (by decide)) B.tk rfl T.g_law_weave T.F_law_weave.kp (KBinds.ofPos (bd_law_weave T)) GRel.ofPos (SR.ref 1 rfl (.inl rfl) (SR.cons SD.int SR.nil))) SV.nil)) (by rfl))
    (SSs.cons (SS.ite (ST.ne B.room (SE.toD (SE.call1 (ok_law_times T hG) (B.room.mono (by decide)) B.tk rfl T.g_law_times T.F_law_times.kp (KBinds.ofPos (bd_law_times T)) GRel.ofPos (SR.cons (SE.toD (SE.call1 (ok_best_price T hG) (B.room.mono (by decide)) B.tk rfl T.g_best_price T.F_best_price.kp (KBinds.ofPos (bd_best_price T)) GRel.ofPos (SR.ref 2 rfl (.inl rfl) (SR.ref 3 rfl (.inl rfl) SR.nil)))) (SR.ref 3 rfl (.inl rfl) SR.nil)))) (SE.toD (SE.call1 (ok_law_arrows T hG) (B.room.mono (by decide)) B.tk rfl T.g_law_arrows T.F_law_arrows.kp (KBinds.ofPos (bd_law_arrows T)) GRel.ofPos (SR.ref 2 rfl (.inl rfl) (SR.ref 3 rfl (.inl rfl) SR.nil)))))
    (SSs.one (SS.ret (SD.toE SD.bl)))
    SSs.nil)
    (SSs.cons (SS.parT2 4 5 B.calm sc_law.nd rfl rfl (.inr rfl) (.inl rfl) (by first | exact .inl rfl | exact .inr rfl) (by first | exact .inl rfl | exact .inr rfl) (SV.cons (SE.call1 (ok_law_one_of T hG) (B.room.mono (by decide)) B.tk rfl T.g_law_one_of T.F_law_one_of.kp (KBinds.ofPos (bd_law_one_of T)) GRel.ofPos (SR.ref 1 rfl (.inl rfl) (SR.cons (SE.toD (SE.lst (SA.cons (SE.toD (SE.call1 (ok_law_weave T hG) (B.room.mono (by decide)) B.tk rfl T.g_law_weave T.F_law_weave.kp (KBinds.ofPos (bd_law_weave T)) GRel.ofPos (SR.ref 1 rfl (.inl rfl) (SR.cons SD.int SR.nil)))) (SA.cons (SE.toD (SE.call1 (ok_law_weave T hG) (B.room.mono (by decide)) B.tk rfl T.g_law_weave T.F_law_weave.kp (KBinds.ofPos (bd_law_weave T)) GRel.ofPos (SR.ref 1 rfl (.inl rfl) (SR.cons SD.int SR.nil)))) SA.nil)))) SR.nil))) (SV.cons (SE.add SD.int (SE.toD (SE.call1 (ok_law_weave T hG) (B.room.mono (by decide)) B.tk rfl T.g_law_weave T.F_law_weave.kp (KBinds.ofPos (bd_law_weave T)) GRel.ofPos (SR.ref 1 rfl (.inl rfl) (SR.cons SD.int SR.nil))))) SV.nil)))
    (SSs.cons (SS.parT2 6 7 B.calm sc_law.nd rfl rfl (.inr rfl) (.inr rfl) (by first | exact .inl rfl | exact .inr rfl) (by first | exact .inl rfl | exact .inr rfl) (SV.cons (SE.call1 (ok_all_best T hG) (B.room.mono (by decide)) B.tk rfl T.g_all_best T.F_all_best.kp (KBinds.ofPos (bd_all_best T)) GRel.ofPos (SR.cons SD.int (SR.ref 4 rfl (.inr (.inl rfl)) SR.nil))) (SV.cons (SE.lst (SA.cons (SE.toD (SE.lc (own := [("_law_each", 11)]) B.calm sc_law.nd (blkOk_by (N := ["_law_script", "_law_loom_here", "_law_goods", "_law_things", "_law_days", "_law_most", "_law_told", "_law_rows", "_law_one", "_law_lots", "_law_great", "_law_each", "_law_at", "_law_price"]) (sc := defScope s_law) (by decide +kernel)) (SI.range1 rfl T.z_range (SA.cons (SE.toD (SE.add (SD.var 4 rfl (.inr (.inl rfl))) SD.int)) SA.nil)) (fun _ _ _ _ _ => (SGv.name 11 sc_law.nd rfl (.inl rfl) (by decide) (.inr rfl))) (fun _ _ _ _ _ => SPT.nil) (fun _ _ _ _ _ => (SE.toD (SE.call1 (ok_law_tower T hG) (B.room.mono (by decide)) tk0 rfl T.g_law_tower T.F_law_tower.kp (KBinds.ofPos (bd_law_tower T)) GRel.ofPos (SR.ref 11 rfl (.inl rfl) SR.nil)))))) SA.nil)) SV.nil)))
    (SSs.cons (SS.for B.hp B.calm (SI.range2 rfl T.z_range (SA.cons SD.int (SA.cons (SE.toD (SE.add (SD.var 5 rfl (.inl rfl)) SD.int)) SA.nil))) (SG.name 2 sc_law.nd rfl (.inl rfl))
    (SSs.cons (SS.set 8 sc_law.nd rfl (.inl rfl) (SE.call1 (ok_law_weave T hG) (B.room.mono (by decide)) B.tk rfl T.g_law_weave T.F_law_weave.kp (KBinds.ofPos (bd_law_weave T)) GRel.ofPos (SR.ref 1 rfl (.inl rfl) (SR.cons (SE.toD (SE.sub (SD.var 2 rfl (.inl rfl)) SD.int)) SR.nil))))
    (SSs.one (SS.expr (SD.app 7 rfl (.inr (.inl rfl)) (SA.cons (SE.toD (SE.call1 (ok_law_parted T hG) (B.room.mono (by decide)) B.tk rfl T.g_law_parted T.F_law_parted.kp (KBinds.ofPos (bd_law_parted T)) GRel.ofPos (SR.cons (SE.toD (SE.ixS 7 rfl (.inr (.inl rfl)) (SD.var 8 rfl (.inl rfl)))) (SR.cons (SE.toD (SE.ixS 7 rfl (.inr (.inl rfl)) (SE.toD (SE.sub (SE.toD (SE.sub (SD.var 2 rfl (.inl rfl)) SD.int)) (SD.var 8 rfl (.inl rfl)))))) SR.nil)))) SA.nil))))))
    (SSs.cons (SS.ite (ST.ne B.room (SE.toD (SE.lc (own := [("_law_at", 12)]) B.calm sc_law.nd (blkOk_by (N := ["_law_script", "_law_loom_here", "_law_goods", "_law_things", "_law_days", "_law_most", "_law_told", "_law_rows", "_law_one", "_law_lots", "_law_great", "_law_each", "_law_at", "_law_price"]) (sc := defScope s_law) (by decide +kernel)) (SI.range1 rfl T.z_range (SA.cons (SD.var 5 rfl (.inl rfl)) SA.nil)) (fun _ _ _ _ _ => (SGv.name 12 sc_law.nd rfl (.inl rfl) (by decide) (.inr rfl))) (fun _ _ _ _ _ => (SPT.one (ST.ne B.room (SE.toD (SE.call1 (ok_law_times T hG) (B.room.mono (by decide)) tk0 rfl T.g_law_times T.F_law_times.kp (KBinds.ofPos (bd_law_times T)) GRel.ofPos (SR.cons (SE.toD (SE.ixS 6 rfl (.inr (.inl rfl)) (SD.var 12 rfl (.inl rfl)))) (SR.ref 4 rfl (.inr (.inl rfl)) SR.nil)))) (SE.toD (SE.ix (SE.toD (SE.ixS 7 rfl (.inr (.inl rfl)) (SD.var 12 rfl (.inl rfl)))) (SD.var 4 rfl (.inr (.inl rfl)))))))) (fun _ _ _ _ _ => (SD.var 12 rfl (.inl rfl))))) (SE.toD (SE.lst SA.nil)))
    (SSs.one (SS.ret (SD.toE SD.bl)))
    SSs.nil)
    (SSs.cons (SS.set 9 sc_law.nd rfl (.inr rfl) (SE.lc (own := [("_law_price", 13)]) B.calm sc_law.nd (blkOk_by (N := ["_law_script", "_law_loom_here", "_law_goods", "_law_things", "_law_days", "_law_most", "_law_told", "_law_rows", "_law_one", "_law_lots", "_law_great", "_law_each", "_law_at", "_law_price"]) (sc := defScope s_law) (by decide +kernel)) (SI.seq (SD.var 6 rfl (.inr (.inl rfl)))) (fun _ _ _ _ _ => (SGv.name 13 sc_law.nd rfl (.inl rfl) (by decide) (.inr rfl))) (fun _ _ _ _ _ => SPT.nil) (fun _ _ _ _ _ => (SE.toD (SE.call1 (ok_law_times T hG) (B.room.mono (by decide)) tk0 rfl T.g_law_times T.F_law_times.kp (KBinds.ofPos (bd_law_times T)) GRel.ofPos (SR.ref 13 rfl (.inl rfl) (SR.ref 4 rfl (.inr (.inl rfl)) SR.nil)))))))
    (SSs.cons (SS.ite (ST.ne B.room (SE.toD (SE.lc (own := [("_law_each", 11)]) B.calm sc_law.nd (blkOk_by (N := ["_law_script", "_law_loom_here", "_law_goods", "_law_things", "_law_days", "_law_most", "_law_told", "_law_rows", "_law_one", "_law_lots", "_law_great", "_law_each", "_law_at", "_law_price"]) (sc := defScope s_law) (by decide +kernel)) (SI.seq (SD.var 9 rfl (.inr (.inl rfl)))) (fun _ _ _ _ _ => (SGv.name 11 sc_law.nd rfl (.inl rfl) (by decide) (.inr rfl))) (fun _ _ _ _ _ => (SPT.one (ST.not (ST.truth (SE.toD (SE.isinst rfl T.z_isinstance (SA.cons (SD.var 11 rfl (.inl rfl)) (SA.cons (SD.bltn (n := .int) rfl T.z_int bt_int) SA.nil)))))))) (fun _ _ _ _ _ => (SD.var 11 rfl (.inl rfl))))) (SE.toD (SE.lst SA.nil)))
    (SSs.one (SS.ret (SD.toE SD.bl)))
    SSs.nil)
    (SSs.cons (SS.ite (SW.t (SW.and (ST.ne B.room (SE.toD (SE.lc (own := [("_law_at", 12)]) B.calm sc_law.nd (blkOk_by (N := ["_law_script", "_law_loom_here", "_law_goods", "_law_things", "_law_days", "_law_most", "_law_told", "_law_rows", "_law_one", "_law_lots", "_law_great", "_law_each", "_law_at", "_law_price"]) (sc := defScope s_law) (by decide +kernel)) (SI.range1 rfl T.z_range (SA.cons SD.int SA.nil)) (fun _ _ _ _ _ => (SGv.name 12 sc_law.nd rfl (.inl rfl) (by decide) (.inr rfl))) (fun _ _ _ _ _ => (SPT.one (ST.ne B.room (SE.toD (SE.mul (SE.toD (SE.ixS 9 rfl (.inr (.inl rfl)) (SE.toD (SE.add (SD.var 12 rfl (.inl rfl)) SD.int)))) (SE.toD (SE.add (SD.var 12 rfl (.inl rfl)) SD.int)))) (SE.toD (SE.add (SE.toD (SE.mul (SE.toD (SE.ixS 9 rfl (.inr (.inl rfl)) (SE.toD (SE.add (SD.var 12 rfl (.inl rfl)) SD.int)))) (SE.toD (SE.add (SD.var 12 rfl (.inl rfl)) SD.int)))) (SE.toD (SE.mul (SD.var 4 rfl (.inr (.inl rfl))) (SE.toD (SE.ixS 9 rfl (.inr (.inl rfl)) (SD.var 12 rfl (.inl rfl))))))))))) (fun _ _ _ _ _ => (SD.var 12 rfl (.inl rfl))))) (SE.toD (SE.lst SA.nil))) (SW.and1 (ST.gt (SD.var 4 rfl (.inr (.inl rfl))) SD.int))))
    (SSs.one (SS.ret (SD.toE SD.bl)))
    SSs.nil)
    (SSs.cons (SS.ite (ST.ne B.room (SE.toD (SE.call1 (ok_law_weave T hG) (B.room.mono (by decide)) B.tk rfl T.g_law_weave T.F_law_weave.kp (KBinds.ofPos (bd_law_weave T)) GRel.ofPos (SR.ref 1 rfl (.inl rfl) (SR.cons SD.int SR.nil)))) SD.int)
    (SSs.one (SS.ret (SD.toE SD.bl)))
    SSs.nil)
    (SSs.cons (SS.set 10 sc_law.nd rfl (.inr rfl) (SE.lc (own := [("_law_price", 13)]) B.calm sc_law.nd (blkOk_by (N := ["_law_script", "_law_loom_here", "_law_goods", "_law_things", "_law_days", "_law_most", "_law_told", "_law_rows", "_law_one", "_law_lots", "_law_great", "_law_each", "_law_at", "_law_price"]) (sc := defScope s_law) (by decide +kernel)) (SI.seq (SE.toD (SE.call1 (ok_all_best T hG) (B.room.mono (by decide)) B.tk rfl T.g_all_best T.F_all_best.kp (KBinds.ofPos (bd_all_best T)) GRel.ofPos (SR.cons SD.int (SR.cons SD.int SR.nil))))) (fun _ _ _ _ _ => (SGv.name 13 sc_law.nd rfl (.inl rfl) (by decide) (.inr rfl))) (fun _ _ _ _ _ => SPT.nil) (fun _ _ _ _ _ => (SE.toD (SE.call1 (ok_law_times T hG) (B.room.mono (by decide)) tk0 rfl T.g_law_times T.F_law_times.kp (KBinds.ofPos (bd_law_times T)) GRel.ofPos (SR.ref 13 rfl (.inl rfl) (SR.cons SD.int SR.nil)))))))
    (SSs.cons (SS.ite (ST.ne B.room (SE.toD (SE.lc (own := [("_law_each", 11)]) B.calm sc_law.nd (blkOk_by (N := ["_law_script", "_law_loom_here", "_law_goods", "_law_things", "_law_days", "_law_most", "_law_told", "_law_rows", "_law_one", "_law_lots", "_law_great", "_law_each", "_law_at", "_law_price"]) (sc := defScope s_law) (by decide +kernel)) (SI.seq (SD.var 10 rfl (.inr (.inl rfl)))) (fun _ _ _ _ _ => (SGv.name 11 sc_law.nd rfl (.inl rfl) (by decide) (.inr rfl))) (fun _ _ _ _ _ => (SPT.one (ST.not (ST.truth (SE.toD (SE.isinst rfl T.z_isinstance (SA.cons (SD.var 11 rfl (.inl rfl)) (SA.cons (SD.bltn (n := .int) rfl T.z_int bt_int) SA.nil)))))))) (fun _ _ _ _ _ => (SD.var 11 rfl (.inl rfl))))) (SE.toD (SE.lst SA.nil)))
    (SSs.one (SS.ret (SD.toE SD.bl)))
    SSs.nil)
    (SSs.one (SS.ret (SE.eq B.room (SE.toD (SE.lc (own := [("_law_at", 12)]) B.calm sc_law.nd (blkOk_by (N := ["_law_script", "_law_loom_here", "_law_goods", "_law_things", "_law_days", "_law_most", "_law_told", "_law_rows", "_law_one", "_law_lots", "_law_great", "_law_each", "_law_at", "_law_price"]) (sc := defScope s_law) (by decide +kernel)) (SI.range1 rfl T.z_range (SA.cons SD.int SA.nil)) (fun _ _ _ _ _ => (SGv.name 12 sc_law.nd rfl (.inl rfl) (by decide) (.inr rfl))) (fun _ _ _ _ _ => (SPT.one (ST.ne B.room (SE.toD (SE.mul (SE.toD (SE.ixS 10 rfl (.inr (.inl rfl)) (SE.toD (SE.add (SD.var 12 rfl (.inl rfl)) SD.int)))) (SE.toD (SE.add (SD.var 12 rfl (.inl rfl)) SD.int)))) (SE.toD (SE.add (SE.toD (SE.mul (SE.toD (SE.ixS 10 rfl (.inr (.inl rfl)) (SE.toD (SE.add (SD.var 12 rfl (.inl rfl)) SD.int)))) (SE.toD (SE.add (SD.var 12 rfl (.inl rfl)) SD.int)))) (SE.toD (SE.mul SD.int (SE.toD (SE.ixS 10 rfl (.inr (.inl rfl)) (SD.var 12 rfl (.inl rfl))))))))))) (fun _ _ _ _ _ => (SD.var 12 rfl (.inl rfl))))) (SE.toD (SE.lst SA.nil))))))))))))))))))
end
end K51

namespace K51
open PySem PySem.Spec PyProof.Rows L2 Ev
theorem gcd_step (x y : Int) (h0 : 0 ≤ x) (h : 0 < y) : Int.gcd y (x.fmod y) = Int.gcd x y := by
  rw [Int.fmod_eq_emod_of_nonneg x (by omega)]
  obtain ⟨n, rfl⟩ := Int.eq_ofNat_of_zero_le h0
  obtain ⟨m, rfl⟩ := Int.eq_ofNat_of_zero_le (Int.le_of_lt h)
  show Nat.gcd m (n % m) = Nat.gcd n m
  rw [Nat.gcd_comm m, Nat.gcd_comm n, Nat.gcd_rec m n]
theorem common_sp (a b : Int) : m_common [.fz (.int a), .fz (.int b)] = .ok (.fz (.int (Int.gcd a b))) [.fz (.int a), .fz (.int b)] := by
  have w : Fw (m_common [.fz (.int a), .fz (.int b)]) fun r os => r = .fz (.int (Int.gcd a b)) ∧ os = [.fz (.int a), .fz (.int b)] := by
    refine fw_fin ?_
    change Wq (b_common [.fz (.int a), .fz (.int b)]) _
    unfold b_common
    simp only [Ev.p_pure, Ev.p_ok, Ev.p_toD, Ev.p_kDf, Ev.p_kDn, Ev.p_toV, Ev.p_kV, Ev.p_some, Ev.p_var, Ev.p_varF, Ev.p_varL, Ev.p_varO, Ev.p_varN, Ev.p_mov, Ev.p_movF, Ev.p_movL, Ev.p_movO, Ev.p_movN, Ev.p_ev2, Ev.p_k2, Ev.p_k2', Ev.p_ev2T, Ev.p_kT, Ev.p_kT', Ev.p_vb, Ev.p_ev1, Ev.p_evC, Ev.p_evL, Ev.p_evO, Ev.p_evSeq, Ev.p_tTruth, Ev.p_kf, Ev.p_cons, Ev.p_vcons, Ev.p_acons, Ev.p_kC1, Ev.p_kC2, Ev.p_arV, Ev.p_kAr, Ev.p_arR, Ev.p_arF, Ev.p_arOw, Ev.p_arN, Ev.p_arL, Ev.p_call, Ev.p_kL1, Ev.p_kL2, Ev.p_if, Ev.p_kIt, Ev.p_kIf, Ev.p_tAnd, Ev.p_tOr, Ev.p_tNot, Ev.p_kN, Ev.p_and, Ev.p_kA, Ev.p_or, Ev.p_kO, Ev.p_not, Ev.p_kNt, Ev.p_ixS, Ev.p_ixO, Ev.p_kX, Ev.p_kXO, Ev.p_slotD, Ev.p_slF, Ev.p_slO, Ev.p_slN, Ev.p_slL, Ev.p_seq, Ev.p_kSn, Ev.p_kSr, Ev.p_kSb, Ev.p_kSc, Ev.p_slot, Ev.p_setU, Ev.p_setF, Ev.p_setO, Ev.p_ofF, Ev.p_ofN, Ev.p_kNx, Ev.p_set, Ev.p_kSet, Ev.p_ret, Ev.p_kRt, Ev.p_expr, Ev.p_kEx, Ev.p_par, Ev.p_kPar, Ev.p_kSs, Ev.p_ss0, Ev.p_ss, Ev.p_asg, Ev.p_kAsg, Ev.p_unp, Ev.p_gs, Ev.p_kG, Ev.p_gs0, Ev.p_gIx, Ev.p_gIO, Ev.p_kUp, Ev.p_upd, Ev.p_upO, Ev.p_upN, Ev.p_upDt, Ev.p_upDf, Ev.p_put, Ev.p_mut, Ev.p_mutO, Ev.p_kNon, Ev.p_kM1, Ev.p_app, Ev.p_sl, Ev.p_kSl1, Ev.p_kSl2, Ev.p_kSl3, Ev.p_add, Ev.p_addL, Ev.p_i2, Ev.p_u1, Ev.p_lt, Ev.p_le, Ev.p_gt, Ev.p_ge, Ev.p_eqI, Ev.p_neI, Ev.p_eqS, Ev.p_neS, Ev.p_isB, Ev.p_isN, Ev.p_notN, Ev.p_tup, Ev.p_lst, Ev.p_abs, Ev.p_intI, Ev.p_intB, Ev.p_len, Ev.p_dlL, Ev.p_dlT, Ev.p_itL, Ev.p_itT, Ev.p_d, Ev.p_dn, Ev.p_rng1, Ev.p_rng2, Ev.p_lo0, Ev.p_lo1, Ev.p_lo2, Ev.p_lo3, Ev.p_lo4, Ev.p_lo5, Ev.p_lo6, Ev.p_lo7, Ev.p_lo8, Ev.p_lo9, Ev.p_lo10, Ev.p_lo11, Ev.p_lo12, Ev.p_lo13, Ev.p_lo14, Ev.p_lo15, Ev.p_lo16, Ev.p_lo17, Ev.p_lo18, Ev.p_lo19, Ev.p_lo20, Ev.p_lo21, Ev.p_lo22, Ev.p_lo23, Ev.p_lo24, Ev.p_p18, Ev.p_p40, Ev.p_lpN, Ev.p_lpC, Ev.p_lpB, Ev.p_lpR, Ev.p_for, Ev.p_whT, Ev.p_whF, Ev.p_lc, Ev.p_callAr, Ev.p_callO1, Ev.p_callO2, Ev.p_refV, Ev.p_refR, Ev.p_ref0, Ev.p_ga, Ev.p_ga0, Ev.p_gaO, Ev.p_gaV, Ev.p_gaR, Ev.p_leF, Ev.p_leL, Ev.p_leO, Ev.p_leN, Ev.p_sc, Ev.p_sc0, Ev.p_scN, Ev.p_scFs, Ev.p_scLs, Ev.p_scOn, Ev.p_scOl, Ev.p_scNn, Ev.p_scNl, Ev.p_fiR, Ev.p_fiV, Ev.p_fi0, Ev.fin_rt, Ev.fin_nx, Ev.ou_ln, Ev.ou_fz, Ev.ou_0, Ev.at_0, Ev.at_1, Ev.at_2, Ev.at_3, Ev.p_lenS, Ev.p_lenO, Ev.p_bind, Ev.q_ok, List.getElem?_cons_zero, List.getElem?_cons_succ, List.set_cons_zero, List.set_cons_succ, List.length_cons, List.length_nil, List.cons_append, List.nil_append, Option.map_some, ↓reduceIte, Bool.not_true, Bool.not_false, decide_true, decide_false, Ev.p_div, Ev.p_mod, Ev.p_pow, Ev.p_mul, Ev.dist, List.contains_cons, List.contains_nil, Bool.or_false, Bool.false_and, Bool.and_true, Bool.true_and, Nat.reduceAdd, Nat.reduceBEq, Ev.permN, Ev.perm, List.map_cons, List.map_nil, List.getD_cons_zero, List.getD_cons_succ, and_self, cond_true, cond_false, Int.cast_ofNat_Int, Int.natCast_one, Int.natCast_zero, Int.reduceEq, Int.reduceLE, Int.reduceLT, Int.reduceNeg, Int.reduceGT, Int.reduceAdd, Int.reduceMul, Int.reduceSub, Int.reduceToNat, Int.reducePow, Int.reduceNe, reduceCtorEq, eq_self]
    have ea : (if a < 0 then -a else a) = (a.natAbs : Int) := by split <;> omega
    have eb : (if b < 0 then -b else b) = (b.natAbs : Int) := by split <;> omega
    rw [ea, eb, q_bind]
    refine while_inv (I := fun n ρ => ∃ x y : Int, ρ = [.fz (.int x), .fz (.int y)] ∧ 0 ≤ x ∧ 0 ≤ y ∧ n = y.toNat ∧ Int.gcd x y = Int.gcd a b) (fun n ρ h => ?_) _ _ ⟨a.natAbs, b.natAbs, rfl, by omega, by omega, rfl, by simp [Int.gcd]⟩
    obtain ⟨x, y, rfl, hx, hy, rfl, hg⟩ := h
    simp only [Ev.p_pure, Ev.p_ok, Ev.p_toD, Ev.p_kDf, Ev.p_kDn, Ev.p_toV, Ev.p_kV, Ev.p_some, Ev.p_var, Ev.p_varF, Ev.p_varL, Ev.p_varO, Ev.p_varN, Ev.p_mov, Ev.p_movF, Ev.p_movL, Ev.p_movO, Ev.p_movN, Ev.p_ev2, Ev.p_k2, Ev.p_k2', Ev.p_ev2T, Ev.p_kT, Ev.p_kT', Ev.p_vb, Ev.p_ev1, Ev.p_evC, Ev.p_evL, Ev.p_evO, Ev.p_evSeq, Ev.p_tTruth, Ev.p_kf, Ev.p_cons, Ev.p_vcons, Ev.p_acons, Ev.p_kC1, Ev.p_kC2, Ev.p_arV, Ev.p_kAr, Ev.p_arR, Ev.p_arF, Ev.p_arOw, Ev.p_arN, Ev.p_arL, Ev.p_call, Ev.p_kL1, Ev.p_kL2, Ev.p_if, Ev.p_kIt, Ev.p_kIf, Ev.p_tAnd, Ev.p_tOr, Ev.p_tNot, Ev.p_kN, Ev.p_and, Ev.p_kA, Ev.p_or, Ev.p_kO, Ev.p_not, Ev.p_kNt, Ev.p_ixS, Ev.p_ixO, Ev.p_kX, Ev.p_kXO, Ev.p_slotD, Ev.p_slF, Ev.p_slO, Ev.p_slN, Ev.p_slL, Ev.p_seq, Ev.p_kSn, Ev.p_kSr, Ev.p_kSb, Ev.p_kSc, Ev.p_slot, Ev.p_setU, Ev.p_setF, Ev.p_setO, Ev.p_ofF, Ev.p_ofN, Ev.p_kNx, Ev.p_set, Ev.p_kSet, Ev.p_ret, Ev.p_kRt, Ev.p_expr, Ev.p_kEx, Ev.p_par, Ev.p_kPar, Ev.p_kSs, Ev.p_ss0, Ev.p_ss, Ev.p_asg, Ev.p_kAsg, Ev.p_unp, Ev.p_gs, Ev.p_kG, Ev.p_gs0, Ev.p_gIx, Ev.p_gIO, Ev.p_kUp, Ev.p_upd, Ev.p_upO, Ev.p_upN, Ev.p_upDt, Ev.p_upDf, Ev.p_put, Ev.p_mut, Ev.p_mutO, Ev.p_kNon, Ev.p_kM1, Ev.p_app, Ev.p_sl, Ev.p_kSl1, Ev.p_kSl2, Ev.p_kSl3, Ev.p_add, Ev.p_addL, Ev.p_i2, Ev.p_u1, Ev.p_lt, Ev.p_le, Ev.p_gt, Ev.p_ge, Ev.p_eqI, Ev.p_neI, Ev.p_eqS, Ev.p_neS, Ev.p_isB, Ev.p_isN, Ev.p_notN, Ev.p_tup, Ev.p_lst, Ev.p_abs, Ev.p_intI, Ev.p_intB, Ev.p_len, Ev.p_dlL, Ev.p_dlT, Ev.p_itL, Ev.p_itT, Ev.p_d, Ev.p_dn, Ev.p_rng1, Ev.p_rng2, Ev.p_lo0, Ev.p_lo1, Ev.p_lo2, Ev.p_lo3, Ev.p_lo4, Ev.p_lo5, Ev.p_lo6, Ev.p_lo7, Ev.p_lo8, Ev.p_lo9, Ev.p_lo10, Ev.p_lo11, Ev.p_lo12, Ev.p_lo13, Ev.p_lo14, Ev.p_lo15, Ev.p_lo16, Ev.p_lo17, Ev.p_lo18, Ev.p_lo19, Ev.p_lo20, Ev.p_lo21, Ev.p_lo22, Ev.p_lo23, Ev.p_lo24, Ev.p_p18, Ev.p_p40, Ev.p_lpN, Ev.p_lpC, Ev.p_lpB, Ev.p_lpR, Ev.p_for, Ev.p_whT, Ev.p_whF, Ev.p_lc, Ev.p_callAr, Ev.p_callO1, Ev.p_callO2, Ev.p_refV, Ev.p_refR, Ev.p_ref0, Ev.p_ga, Ev.p_ga0, Ev.p_gaO, Ev.p_gaV, Ev.p_gaR, Ev.p_leF, Ev.p_leL, Ev.p_leO, Ev.p_leN, Ev.p_sc, Ev.p_sc0, Ev.p_scN, Ev.p_scFs, Ev.p_scLs, Ev.p_scOn, Ev.p_scOl, Ev.p_scNn, Ev.p_scNl, Ev.p_fiR, Ev.p_fiV, Ev.p_fi0, Ev.fin_rt, Ev.fin_nx, Ev.ou_ln, Ev.ou_fz, Ev.ou_0, Ev.at_0, Ev.at_1, Ev.at_2, Ev.at_3, Ev.p_lenS, Ev.p_lenO, Ev.p_bind, Ev.q_ok, List.getElem?_cons_zero, List.getElem?_cons_succ, List.set_cons_zero, List.set_cons_succ, List.length_cons, List.length_nil, List.cons_append, List.nil_append, Option.map_some, ↓reduceIte, Bool.not_true, Bool.not_false, decide_true, decide_false, Ev.p_div, Ev.p_mod, Ev.p_pow, Ev.p_mul, Ev.dist, List.contains_cons, List.contains_nil, Bool.or_false, Bool.false_and, Bool.and_true, Bool.true_and, Nat.reduceAdd, Nat.reduceBEq, Ev.permN, Ev.perm, List.map_cons, List.map_nil, List.getD_cons_zero, List.getD_cons_succ, and_self, cond_true, cond_false, Int.cast_ofNat_Int, Int.natCast_one, Int.natCast_zero, Int.reduceEq, Int.reduceLE, Int.reduceLT, Int.reduceNeg, Int.reduceGT, Int.reduceAdd, Int.reduceMul, Int.reduceSub, Int.reduceToNat, Int.reducePow, Int.reduceNe, reduceCtorEq, eq_self]
    by_cases h : 0 < y
    · simp only [Ev.p_pure, Ev.p_ok, Ev.p_toD, Ev.p_kDf, Ev.p_kDn, Ev.p_toV, Ev.p_kV, Ev.p_some, Ev.p_var, Ev.p_varF, Ev.p_varL, Ev.p_varO, Ev.p_varN, Ev.p_mov, Ev.p_movF, Ev.p_movL, Ev.p_movO, Ev.p_movN, Ev.p_ev2, Ev.p_k2, Ev.p_k2', Ev.p_ev2T, Ev.p_kT, Ev.p_kT', Ev.p_vb, Ev.p_ev1, Ev.p_evC, Ev.p_evL, Ev.p_evO, Ev.p_evSeq, Ev.p_tTruth, Ev.p_kf, Ev.p_cons, Ev.p_vcons, Ev.p_acons, Ev.p_kC1, Ev.p_kC2, Ev.p_arV, Ev.p_kAr, Ev.p_arR, Ev.p_arF, Ev.p_arOw, Ev.p_arN, Ev.p_arL, Ev.p_call, Ev.p_kL1, Ev.p_kL2, Ev.p_if, Ev.p_kIt, Ev.p_kIf, Ev.p_tAnd, Ev.p_tOr, Ev.p_tNot, Ev.p_kN, Ev.p_and, Ev.p_kA, Ev.p_or, Ev.p_kO, Ev.p_not, Ev.p_kNt, Ev.p_ixS, Ev.p_ixO, Ev.p_kX, Ev.p_kXO, Ev.p_slotD, Ev.p_slF, Ev.p_slO, Ev.p_slN, Ev.p_slL, Ev.p_seq, Ev.p_kSn, Ev.p_kSr, Ev.p_kSb, Ev.p_kSc, Ev.p_slot, Ev.p_setU, Ev.p_setF, Ev.p_setO, Ev.p_ofF, Ev.p_ofN, Ev.p_kNx, Ev.p_set, Ev.p_kSet, Ev.p_ret, Ev.p_kRt, Ev.p_expr, Ev.p_kEx, Ev.p_par, Ev.p_kPar, Ev.p_kSs, Ev.p_ss0, Ev.p_ss, Ev.p_asg, Ev.p_kAsg, Ev.p_unp, Ev.p_gs, Ev.p_kG, Ev.p_gs0, Ev.p_gIx, Ev.p_gIO, Ev.p_kUp, Ev.p_upd, Ev.p_upO, Ev.p_upN, Ev.p_upDt, Ev.p_upDf, Ev.p_put, Ev.p_mut, Ev.p_mutO, Ev.p_kNon, Ev.p_kM1, Ev.p_app, Ev.p_sl, Ev.p_kSl1, Ev.p_kSl2, Ev.p_kSl3, Ev.p_add, Ev.p_addL, Ev.p_i2, Ev.p_u1, Ev.p_lt, Ev.p_le, Ev.p_gt, Ev.p_ge, Ev.p_eqI, Ev.p_neI, Ev.p_eqS, Ev.p_neS, Ev.p_isB, Ev.p_isN, Ev.p_notN, Ev.p_tup, Ev.p_lst, Ev.p_abs, Ev.p_intI, Ev.p_intB, Ev.p_len, Ev.p_dlL, Ev.p_dlT, Ev.p_itL, Ev.p_itT, Ev.p_d, Ev.p_dn, Ev.p_rng1, Ev.p_rng2, Ev.p_lo0, Ev.p_lo1, Ev.p_lo2, Ev.p_lo3, Ev.p_lo4, Ev.p_lo5, Ev.p_lo6, Ev.p_lo7, Ev.p_lo8, Ev.p_lo9, Ev.p_lo10, Ev.p_lo11, Ev.p_lo12, Ev.p_lo13, Ev.p_lo14, Ev.p_lo15, Ev.p_lo16, Ev.p_lo17, Ev.p_lo18, Ev.p_lo19, Ev.p_lo20, Ev.p_lo21, Ev.p_lo22, Ev.p_lo23, Ev.p_lo24, Ev.p_p18, Ev.p_p40, Ev.p_lpN, Ev.p_lpC, Ev.p_lpB, Ev.p_lpR, Ev.p_for, Ev.p_whT, Ev.p_whF, Ev.p_lc, Ev.p_callAr, Ev.p_callO1, Ev.p_callO2, Ev.p_refV, Ev.p_refR, Ev.p_ref0, Ev.p_ga, Ev.p_ga0, Ev.p_gaO, Ev.p_gaV, Ev.p_gaR, Ev.p_leF, Ev.p_leL, Ev.p_leO, Ev.p_leN, Ev.p_sc, Ev.p_sc0, Ev.p_scN, Ev.p_scFs, Ev.p_scLs, Ev.p_scOn, Ev.p_scOl, Ev.p_scNn, Ev.p_scNl, Ev.p_fiR, Ev.p_fiV, Ev.p_fi0, Ev.fin_rt, Ev.fin_nx, Ev.ou_ln, Ev.ou_fz, Ev.ou_0, Ev.at_0, Ev.at_1, Ev.at_2, Ev.at_3, Ev.p_lenS, Ev.p_lenO, Ev.p_bind, Ev.q_ok, List.getElem?_cons_zero, List.getElem?_cons_succ, List.set_cons_zero, List.set_cons_succ, List.length_cons, List.length_nil, List.cons_append, List.nil_append, Option.map_some, ↓reduceIte, Bool.not_true, Bool.not_false, decide_true, decide_false, Ev.p_div, Ev.p_mod, Ev.p_pow, Ev.p_mul, Ev.dist, List.contains_cons, List.contains_nil, Bool.or_false, Bool.false_and, Bool.and_true, Bool.true_and, Nat.reduceAdd, Nat.reduceBEq, Ev.permN, Ev.perm, List.map_cons, List.map_nil, List.getD_cons_zero, List.getD_cons_succ, and_self, cond_true, cond_false, Int.cast_ofNat_Int, Int.natCast_one, Int.natCast_zero, Int.reduceEq, Int.reduceLE, Int.reduceLT, Int.reduceNeg, Int.reduceGT, Int.reduceAdd, Int.reduceMul, Int.reduceSub, Int.reduceToNat, Int.reducePow, Int.reduceNe, reduceCtorEq, eq_self, decide_eq_true h]
      have hn : y ≠ 0 := by omega
      simp only [Ev.p_pure, Ev.p_ok, Ev.p_toD, Ev.p_kDf, Ev.p_kDn, Ev.p_toV, Ev.p_kV, Ev.p_some, Ev.p_var, Ev.p_varF, Ev.p_varL, Ev.p_varO, Ev.p_varN, Ev.p_mov, Ev.p_movF, Ev.p_movL, Ev.p_movO, Ev.p_movN, Ev.p_ev2, Ev.p_k2, Ev.p_k2', Ev.p_ev2T, Ev.p_kT, Ev.p_kT', Ev.p_vb, Ev.p_ev1, Ev.p_evC, Ev.p_evL, Ev.p_evO, Ev.p_evSeq, Ev.p_tTruth, Ev.p_kf, Ev.p_cons, Ev.p_vcons, Ev.p_acons, Ev.p_kC1, Ev.p_kC2, Ev.p_arV, Ev.p_kAr, Ev.p_arR, Ev.p_arF, Ev.p_arOw, Ev.p_arN, Ev.p_arL, Ev.p_call, Ev.p_kL1, Ev.p_kL2, Ev.p_if, Ev.p_kIt, Ev.p_kIf, Ev.p_tAnd, Ev.p_tOr, Ev.p_tNot, Ev.p_kN, Ev.p_and, Ev.p_kA, Ev.p_or, Ev.p_kO, Ev.p_not, Ev.p_kNt, Ev.p_ixS, Ev.p_ixO, Ev.p_kX, Ev.p_kXO, Ev.p_slotD, Ev.p_slF, Ev.p_slO, Ev.p_slN, Ev.p_slL, Ev.p_seq, Ev.p_kSn, Ev.p_kSr, Ev.p_kSb, Ev.p_kSc, Ev.p_slot, Ev.p_setU, Ev.p_setF, Ev.p_setO, Ev.p_ofF, Ev.p_ofN, Ev.p_kNx, Ev.p_set, Ev.p_kSet, Ev.p_ret, Ev.p_kRt, Ev.p_expr, Ev.p_kEx, Ev.p_par, Ev.p_kPar, Ev.p_kSs, Ev.p_ss0, Ev.p_ss, Ev.p_asg, Ev.p_kAsg, Ev.p_unp, Ev.p_gs, Ev.p_kG, Ev.p_gs0, Ev.p_gIx, Ev.p_gIO, Ev.p_kUp, Ev.p_upd, Ev.p_upO, Ev.p_upN, Ev.p_upDt, Ev.p_upDf, Ev.p_put, Ev.p_mut, Ev.p_mutO, Ev.p_kNon, Ev.p_kM1, Ev.p_app, Ev.p_sl, Ev.p_kSl1, Ev.p_kSl2, Ev.p_kSl3, Ev.p_add, Ev.p_addL, Ev.p_i2, Ev.p_u1, Ev.p_lt, Ev.p_le, Ev.p_gt, Ev.p_ge, Ev.p_eqI, Ev.p_neI, Ev.p_eqS, Ev.p_neS, Ev.p_isB, Ev.p_isN, Ev.p_notN, Ev.p_tup, Ev.p_lst, Ev.p_abs, Ev.p_intI, Ev.p_intB, Ev.p_len, Ev.p_dlL, Ev.p_dlT, Ev.p_itL, Ev.p_itT, Ev.p_d, Ev.p_dn, Ev.p_rng1, Ev.p_rng2, Ev.p_lo0, Ev.p_lo1, Ev.p_lo2, Ev.p_lo3, Ev.p_lo4, Ev.p_lo5, Ev.p_lo6, Ev.p_lo7, Ev.p_lo8, Ev.p_lo9, Ev.p_lo10, Ev.p_lo11, Ev.p_lo12, Ev.p_lo13, Ev.p_lo14, Ev.p_lo15, Ev.p_lo16, Ev.p_lo17, Ev.p_lo18, Ev.p_lo19, Ev.p_lo20, Ev.p_lo21, Ev.p_lo22, Ev.p_lo23, Ev.p_lo24, Ev.p_p18, Ev.p_p40, Ev.p_lpN, Ev.p_lpC, Ev.p_lpB, Ev.p_lpR, Ev.p_for, Ev.p_whT, Ev.p_whF, Ev.p_lc, Ev.p_callAr, Ev.p_callO1, Ev.p_callO2, Ev.p_refV, Ev.p_refR, Ev.p_ref0, Ev.p_ga, Ev.p_ga0, Ev.p_gaO, Ev.p_gaV, Ev.p_gaR, Ev.p_leF, Ev.p_leL, Ev.p_leO, Ev.p_leN, Ev.p_sc, Ev.p_sc0, Ev.p_scN, Ev.p_scFs, Ev.p_scLs, Ev.p_scOn, Ev.p_scOl, Ev.p_scNn, Ev.p_scNl, Ev.p_fiR, Ev.p_fiV, Ev.p_fi0, Ev.fin_rt, Ev.fin_nx, Ev.ou_ln, Ev.ou_fz, Ev.ou_0, Ev.at_0, Ev.at_1, Ev.at_2, Ev.at_3, Ev.p_lenS, Ev.p_lenO, Ev.p_bind, Ev.q_ok, List.getElem?_cons_zero, List.getElem?_cons_succ, List.set_cons_zero, List.set_cons_succ, List.length_cons, List.length_nil, List.cons_append, List.nil_append, Option.map_some, ↓reduceIte, Bool.not_true, Bool.not_false, decide_true, decide_false, Ev.p_div, Ev.p_mod, Ev.p_pow, Ev.p_mul, Ev.dist, List.contains_cons, List.contains_nil, Bool.or_false, Bool.false_and, Bool.and_true, Bool.true_and, Nat.reduceAdd, Nat.reduceBEq, Ev.permN, Ev.perm, List.map_cons, List.map_nil, List.getD_cons_zero, List.getD_cons_succ, and_self, cond_true, cond_false, Int.cast_ofNat_Int, Int.natCast_one, Int.natCast_zero, Int.reduceEq, Int.reduceLE, Int.reduceLT, Int.reduceNeg, Int.reduceGT, Int.reduceAdd, Int.reduceMul, Int.reduceSub, Int.reduceToNat, Int.reducePow, Int.reduceNe, reduceCtorEq, eq_self, p_mod x y hn]
      refine ⟨(x.fmod y).toNat, ?_, _, _, rfl, hy, ?_, rfl, ?_⟩
      · rw [Int.fmod_eq_emod_of_nonneg x hy]
        have := Int.emod_lt_of_pos x h
        have := Int.emod_nonneg x hn
        omega
      · rw [Int.fmod_eq_emod_of_nonneg x hy]
        exact Int.emod_nonneg x hn
      · rw [gcd_step x y hx h, hg]
    · simp only [Ev.p_pure, Ev.p_ok, Ev.p_toD, Ev.p_kDf, Ev.p_kDn, Ev.p_toV, Ev.p_kV, Ev.p_some, Ev.p_var, Ev.p_varF, Ev.p_varL, Ev.p_varO, Ev.p_varN, Ev.p_mov, Ev.p_movF, Ev.p_movL, Ev.p_movO, Ev.p_movN, Ev.p_ev2, Ev.p_k2, Ev.p_k2', Ev.p_ev2T, Ev.p_kT, Ev.p_kT', Ev.p_vb, Ev.p_ev1, Ev.p_evC, Ev.p_evL, Ev.p_evO, Ev.p_evSeq, Ev.p_tTruth, Ev.p_kf, Ev.p_cons, Ev.p_vcons, Ev.p_acons, Ev.p_kC1, Ev.p_kC2, Ev.p_arV, Ev.p_kAr, Ev.p_arR, Ev.p_arF, Ev.p_arOw, Ev.p_arN, Ev.p_arL, Ev.p_call, Ev.p_kL1, Ev.p_kL2, Ev.p_if, Ev.p_kIt, Ev.p_kIf, Ev.p_tAnd, Ev.p_tOr, Ev.p_tNot, Ev.p_kN, Ev.p_and, Ev.p_kA, Ev.p_or, Ev.p_kO, Ev.p_not, Ev.p_kNt, Ev.p_ixS, Ev.p_ixO, Ev.p_kX, Ev.p_kXO, Ev.p_slotD, Ev.p_slF, Ev.p_slO, Ev.p_slN, Ev.p_slL, Ev.p_seq, Ev.p_kSn, Ev.p_kSr, Ev.p_kSb, Ev.p_kSc, Ev.p_slot, Ev.p_setU, Ev.p_setF, Ev.p_setO, Ev.p_ofF, Ev.p_ofN, Ev.p_kNx, Ev.p_set, Ev.p_kSet, Ev.p_ret, Ev.p_kRt, Ev.p_expr, Ev.p_kEx, Ev.p_par, Ev.p_kPar, Ev.p_kSs, Ev.p_ss0, Ev.p_ss, Ev.p_asg, Ev.p_kAsg, Ev.p_unp, Ev.p_gs, Ev.p_kG, Ev.p_gs0, Ev.p_gIx, Ev.p_gIO, Ev.p_kUp, Ev.p_upd, Ev.p_upO, Ev.p_upN, Ev.p_upDt, Ev.p_upDf, Ev.p_put, Ev.p_mut, Ev.p_mutO, Ev.p_kNon, Ev.p_kM1, Ev.p_app, Ev.p_sl, Ev.p_kSl1, Ev.p_kSl2, Ev.p_kSl3, Ev.p_add, Ev.p_addL, Ev.p_i2, Ev.p_u1, Ev.p_lt, Ev.p_le, Ev.p_gt, Ev.p_ge, Ev.p_eqI, Ev.p_neI, Ev.p_eqS, Ev.p_neS, Ev.p_isB, Ev.p_isN, Ev.p_notN, Ev.p_tup, Ev.p_lst, Ev.p_abs, Ev.p_intI, Ev.p_intB, Ev.p_len, Ev.p_dlL, Ev.p_dlT, Ev.p_itL, Ev.p_itT, Ev.p_d, Ev.p_dn, Ev.p_rng1, Ev.p_rng2, Ev.p_lo0, Ev.p_lo1, Ev.p_lo2, Ev.p_lo3, Ev.p_lo4, Ev.p_lo5, Ev.p_lo6, Ev.p_lo7, Ev.p_lo8, Ev.p_lo9, Ev.p_lo10, Ev.p_lo11, Ev.p_lo12, Ev.p_lo13, Ev.p_lo14, Ev.p_lo15, Ev.p_lo16, Ev.p_lo17, Ev.p_lo18, Ev.p_lo19, Ev.p_lo20, Ev.p_lo21, Ev.p_lo22, Ev.p_lo23, Ev.p_lo24, Ev.p_p18, Ev.p_p40, Ev.p_lpN, Ev.p_lpC, Ev.p_lpB, Ev.p_lpR, Ev.p_for, Ev.p_whT, Ev.p_whF, Ev.p_lc, Ev.p_callAr, Ev.p_callO1, Ev.p_callO2, Ev.p_refV, Ev.p_refR, Ev.p_ref0, Ev.p_ga, Ev.p_ga0, Ev.p_gaO, Ev.p_gaV, Ev.p_gaR, Ev.p_leF, Ev.p_leL, Ev.p_leO, Ev.p_leN, Ev.p_sc, Ev.p_sc0, Ev.p_scN, Ev.p_scFs, Ev.p_scLs, Ev.p_scOn, Ev.p_scOl, Ev.p_scNn, Ev.p_scNl, Ev.p_fiR, Ev.p_fiV, Ev.p_fi0, Ev.fin_rt, Ev.fin_nx, Ev.ou_ln, Ev.ou_fz, Ev.ou_0, Ev.at_0, Ev.at_1, Ev.at_2, Ev.at_3, Ev.p_lenS, Ev.p_lenO, Ev.p_bind, Ev.q_ok, List.getElem?_cons_zero, List.getElem?_cons_succ, List.set_cons_zero, List.set_cons_succ, List.length_cons, List.length_nil, List.cons_append, List.nil_append, Option.map_some, ↓reduceIte, Bool.not_true, Bool.not_false, decide_true, decide_false, Ev.p_div, Ev.p_mod, Ev.p_pow, Ev.p_mul, Ev.dist, List.contains_cons, List.contains_nil, Bool.or_false, Bool.false_and, Bool.and_true, Bool.true_and, Nat.reduceAdd, Nat.reduceBEq, Ev.permN, Ev.perm, List.map_cons, List.map_nil, List.getD_cons_zero, List.getD_cons_succ, and_self, cond_true, cond_false, Int.cast_ofNat_Int, Int.natCast_one, Int.natCast_zero, Int.reduceEq, Int.reduceLE, Int.reduceLT, Int.reduceNeg, Int.reduceGT, Int.reduceAdd, Int.reduceMul, Int.reduceSub, Int.reduceToNat, Int.reducePow, Int.reduceNe, reduceCtorEq, eq_self, decide_eq_false h]
      have : y = 0 := by omega
      subst this
      refine ⟨by decide, ?_, trivial⟩
      rw [← hg]
      simp [Int.gcd]
      omega
  obtain ⟨_, _, e, rfl, rfl⟩ := w
  exact e
/-- the tray behind at most k lifts -/
def Tr (k : Nat) (t : D) : Prop := ∃ (cs : List Int) (u l : Int), t = .lst [.lst (cs.map .int), .int u, .int l] ∧ 0 ≤ u ∧ u ≤ k ∧ 0 ≤ l ∧ ∀ c ∈ cs, c.natAbs < 2 ^ 1048576
theorem Tr.le {k m : Nat} {t : D} (h : Tr k t) (l : k ≤ m) : Tr m t := by
  obtain ⟨cs, u, r, e, h0, h1, h2, h3⟩ := h
  exact ⟨cs, u, r, e, h0, by omega, h2, h3⟩
set_option exponentiation.threshold 100 in
theorem tray_sp (ns : List Int) (hb : ∀ z ∈ ns, Builtin.Int.intBits z ≤ 1048576) (hl : ns.length ≤ 63) : ∃ t, m_law_loom [.fz (.scr ns)] = .ok (.nw t) [.fz (.scr ns)] ∧ Tr 0 t := by
  have w : Fw (m_law_loom [.fz (.scr ns)]) fun r os => os = [.fz (.scr ns)] ∧ ∃ t, r = .nw t ∧ Tr 0 t := by
    refine fw_fin ?_
    change Wq (b_law_loom [.fz (.scr ns), .un]) _
    unfold b_law_loom
    have e1 : asInt (.int 60) = some (some 60) := rfl
    have e2 : cutOf none (some 60) (.scr ns) = some (.nw (.lst (Ev.cutD (ns.map .int) none (some 60)))) := rfl
    have e3 : dSeq (.lst (Ev.cutD (ns.map .int) none (some 60))) = some (Ev.cutD (ns.map .int) none (some 60)) := rfl
    obtain ⟨cs, ec, hc, hcl⟩ : ∃ cs : List Int, Ev.cutD (ns.map .int) none (some 60) = cs.map .int ∧ (∀ c ∈ cs, c ∈ ns) ∧ cs.length ≤ ns.length := by
      unfold Ev.cutD
      rw [← List.map_drop, ← List.map_take]
      exact ⟨_, rfl, fun c h => List.mem_of_mem_drop (List.mem_of_mem_take h), by rw [List.length_take, List.length_drop]; omega⟩
    have l3 : lenOk 3 = true := rfl
    simp only [Ev.p_pure, Ev.p_ok, Ev.p_toD, Ev.p_kDf, Ev.p_kDn, Ev.p_toV, Ev.p_kV, Ev.p_some, Ev.p_var, Ev.p_varF, Ev.p_varL, Ev.p_varO, Ev.p_varN, Ev.p_mov, Ev.p_movF, Ev.p_movL, Ev.p_movO, Ev.p_movN, Ev.p_ev2, Ev.p_k2, Ev.p_k2', Ev.p_ev2T, Ev.p_kT, Ev.p_kT', Ev.p_vb, Ev.p_ev1, Ev.p_evC, Ev.p_evL, Ev.p_evO, Ev.p_evSeq, Ev.p_tTruth, Ev.p_kf, Ev.p_cons, Ev.p_vcons, Ev.p_acons, Ev.p_kC1, Ev.p_kC2, Ev.p_arV, Ev.p_kAr, Ev.p_arR, Ev.p_arF, Ev.p_arOw, Ev.p_arN, Ev.p_arL, Ev.p_call, Ev.p_kL1, Ev.p_kL2, Ev.p_if, Ev.p_kIt, Ev.p_kIf, Ev.p_tAnd, Ev.p_tOr, Ev.p_tNot, Ev.p_kN, Ev.p_and, Ev.p_kA, Ev.p_or, Ev.p_kO, Ev.p_not, Ev.p_kNt, Ev.p_ixS, Ev.p_ixO, Ev.p_kX, Ev.p_kXO, Ev.p_slotD, Ev.p_slF, Ev.p_slO, Ev.p_slN, Ev.p_slL, Ev.p_seq, Ev.p_kSn, Ev.p_kSr, Ev.p_kSb, Ev.p_kSc, Ev.p_slot, Ev.p_setU, Ev.p_setF, Ev.p_setO, Ev.p_ofF, Ev.p_ofN, Ev.p_kNx, Ev.p_set, Ev.p_kSet, Ev.p_ret, Ev.p_kRt, Ev.p_expr, Ev.p_kEx, Ev.p_par, Ev.p_kPar, Ev.p_kSs, Ev.p_ss0, Ev.p_ss, Ev.p_asg, Ev.p_kAsg, Ev.p_unp, Ev.p_gs, Ev.p_kG, Ev.p_gs0, Ev.p_gIx, Ev.p_gIO, Ev.p_kUp, Ev.p_upd, Ev.p_upO, Ev.p_upN, Ev.p_upDt, Ev.p_upDf, Ev.p_put, Ev.p_mut, Ev.p_mutO, Ev.p_kNon, Ev.p_kM1, Ev.p_app, Ev.p_sl, Ev.p_kSl1, Ev.p_kSl2, Ev.p_kSl3, Ev.p_add, Ev.p_addL, Ev.p_i2, Ev.p_u1, Ev.p_lt, Ev.p_le, Ev.p_gt, Ev.p_ge, Ev.p_eqI, Ev.p_neI, Ev.p_eqS, Ev.p_neS, Ev.p_isB, Ev.p_isN, Ev.p_notN, Ev.p_tup, Ev.p_lst, Ev.p_abs, Ev.p_intI, Ev.p_intB, Ev.p_len, Ev.p_dlL, Ev.p_dlT, Ev.p_itL, Ev.p_itT, Ev.p_d, Ev.p_dn, Ev.p_rng1, Ev.p_rng2, Ev.p_lo0, Ev.p_lo1, Ev.p_lo2, Ev.p_lo3, Ev.p_lo4, Ev.p_lo5, Ev.p_lo6, Ev.p_lo7, Ev.p_lo8, Ev.p_lo9, Ev.p_lo10, Ev.p_lo11, Ev.p_lo12, Ev.p_lo13, Ev.p_lo14, Ev.p_lo15, Ev.p_lo16, Ev.p_lo17, Ev.p_lo18, Ev.p_lo19, Ev.p_lo20, Ev.p_lo21, Ev.p_lo22, Ev.p_lo23, Ev.p_lo24, Ev.p_p18, Ev.p_p40, Ev.p_lpN, Ev.p_lpC, Ev.p_lpB, Ev.p_lpR, Ev.p_for, Ev.p_whT, Ev.p_whF, Ev.p_lc, Ev.p_callAr, Ev.p_callO1, Ev.p_callO2, Ev.p_refV, Ev.p_refR, Ev.p_ref0, Ev.p_ga, Ev.p_ga0, Ev.p_gaO, Ev.p_gaV, Ev.p_gaR, Ev.p_leF, Ev.p_leL, Ev.p_leO, Ev.p_leN, Ev.p_sc, Ev.p_sc0, Ev.p_scN, Ev.p_scFs, Ev.p_scLs, Ev.p_scOn, Ev.p_scOl, Ev.p_scNn, Ev.p_scNl, Ev.p_fiR, Ev.p_fiV, Ev.p_fi0, Ev.fin_rt, Ev.fin_nx, Ev.ou_ln, Ev.ou_fz, Ev.ou_0, Ev.at_0, Ev.at_1, Ev.at_2, Ev.at_3, Ev.p_lenS, Ev.p_lenO, Ev.p_bind, Ev.q_ok, List.getElem?_cons_zero, List.getElem?_cons_succ, List.set_cons_zero, List.set_cons_succ, List.length_cons, List.length_nil, List.cons_append, List.nil_append, Option.map_some, ↓reduceIte, Bool.not_true, Bool.not_false, decide_true, decide_false, Ev.p_div, Ev.p_mod, Ev.p_pow, Ev.p_mul, Ev.dist, List.contains_cons, List.contains_nil, Bool.or_false, Bool.false_and, Bool.and_true, Bool.true_and, Nat.reduceAdd, Nat.reduceBEq, Ev.permN, Ev.perm, List.map_cons, List.map_nil, List.getD_cons_zero, List.getD_cons_succ, and_self, cond_true, cond_false, Int.cast_ofNat_Int, Int.natCast_one, Int.natCast_zero, Int.reduceEq, Int.reduceLE, Int.reduceLT, Int.reduceNeg, Int.reduceGT, Int.reduceAdd, Int.reduceMul, Int.reduceSub, Int.reduceToNat, Int.reducePow, Int.reduceNe, reduceCtorEq, eq_self, e1, e2, e3]
    rw [ec, lc_eq (fun d => some d) rfl (by rw [List.length_map]; omega) (fun x hx => ?_)]
    · simp only [Ev.p_pure, Ev.p_ok, Ev.p_toD, Ev.p_kDf, Ev.p_kDn, Ev.p_toV, Ev.p_kV, Ev.p_some, Ev.p_var, Ev.p_varF, Ev.p_varL, Ev.p_varO, Ev.p_varN, Ev.p_mov, Ev.p_movF, Ev.p_movL, Ev.p_movO, Ev.p_movN, Ev.p_ev2, Ev.p_k2, Ev.p_k2', Ev.p_ev2T, Ev.p_kT, Ev.p_kT', Ev.p_vb, Ev.p_ev1, Ev.p_evC, Ev.p_evL, Ev.p_evO, Ev.p_evSeq, Ev.p_tTruth, Ev.p_kf, Ev.p_cons, Ev.p_vcons, Ev.p_acons, Ev.p_kC1, Ev.p_kC2, Ev.p_arV, Ev.p_kAr, Ev.p_arR, Ev.p_arF, Ev.p_arOw, Ev.p_arN, Ev.p_arL, Ev.p_call, Ev.p_kL1, Ev.p_kL2, Ev.p_if, Ev.p_kIt, Ev.p_kIf, Ev.p_tAnd, Ev.p_tOr, Ev.p_tNot, Ev.p_kN, Ev.p_and, Ev.p_kA, Ev.p_or, Ev.p_kO, Ev.p_not, Ev.p_kNt, Ev.p_ixS, Ev.p_ixO, Ev.p_kX, Ev.p_kXO, Ev.p_slotD, Ev.p_slF, Ev.p_slO, Ev.p_slN, Ev.p_slL, Ev.p_seq, Ev.p_kSn, Ev.p_kSr, Ev.p_kSb, Ev.p_kSc, Ev.p_slot, Ev.p_setU, Ev.p_setF, Ev.p_setO, Ev.p_ofF, Ev.p_ofN, Ev.p_kNx, Ev.p_set, Ev.p_kSet, Ev.p_ret, Ev.p_kRt, Ev.p_expr, Ev.p_kEx, Ev.p_par, Ev.p_kPar, Ev.p_kSs, Ev.p_ss0, Ev.p_ss, Ev.p_asg, Ev.p_kAsg, Ev.p_unp, Ev.p_gs, Ev.p_kG, Ev.p_gs0, Ev.p_gIx, Ev.p_gIO, Ev.p_kUp, Ev.p_upd, Ev.p_upO, Ev.p_upN, Ev.p_upDt, Ev.p_upDf, Ev.p_put, Ev.p_mut, Ev.p_mutO, Ev.p_kNon, Ev.p_kM1, Ev.p_app, Ev.p_sl, Ev.p_kSl1, Ev.p_kSl2, Ev.p_kSl3, Ev.p_add, Ev.p_addL, Ev.p_i2, Ev.p_u1, Ev.p_lt, Ev.p_le, Ev.p_gt, Ev.p_ge, Ev.p_eqI, Ev.p_neI, Ev.p_eqS, Ev.p_neS, Ev.p_isB, Ev.p_isN, Ev.p_notN, Ev.p_tup, Ev.p_lst, Ev.p_abs, Ev.p_intI, Ev.p_intB, Ev.p_len, Ev.p_dlL, Ev.p_dlT, Ev.p_itL, Ev.p_itT, Ev.p_d, Ev.p_dn, Ev.p_rng1, Ev.p_rng2, Ev.p_lo0, Ev.p_lo1, Ev.p_lo2, Ev.p_lo3, Ev.p_lo4, Ev.p_lo5, Ev.p_lo6, Ev.p_lo7, Ev.p_lo8, Ev.p_lo9, Ev.p_lo10, Ev.p_lo11, Ev.p_lo12, Ev.p_lo13, Ev.p_lo14, Ev.p_lo15, Ev.p_lo16, Ev.p_lo17, Ev.p_lo18, Ev.p_lo19, Ev.p_lo20, Ev.p_lo21, Ev.p_lo22, Ev.p_lo23, Ev.p_lo24, Ev.p_p18, Ev.p_p40, Ev.p_lpN, Ev.p_lpC, Ev.p_lpB, Ev.p_lpR, Ev.p_for, Ev.p_whT, Ev.p_whF, Ev.p_lc, Ev.p_callAr, Ev.p_callO1, Ev.p_callO2, Ev.p_refV, Ev.p_refR, Ev.p_ref0, Ev.p_ga, Ev.p_ga0, Ev.p_gaO, Ev.p_gaV, Ev.p_gaR, Ev.p_leF, Ev.p_leL, Ev.p_leO, Ev.p_leN, Ev.p_sc, Ev.p_sc0, Ev.p_scN, Ev.p_scFs, Ev.p_scLs, Ev.p_scOn, Ev.p_scOl, Ev.p_scNn, Ev.p_scNl, Ev.p_fiR, Ev.p_fiV, Ev.p_fi0, Ev.fin_rt, Ev.fin_nx, Ev.ou_ln, Ev.ou_fz, Ev.ou_0, Ev.at_0, Ev.at_1, Ev.at_2, Ev.at_3, Ev.p_lenS, Ev.p_lenO, Ev.p_bind, Ev.q_ok, List.getElem?_cons_zero, List.getElem?_cons_succ, List.set_cons_zero, List.set_cons_succ, List.length_cons, List.length_nil, List.cons_append, List.nil_append, Option.map_some, ↓reduceIte, Bool.not_true, Bool.not_false, decide_true, decide_false, Ev.p_div, Ev.p_mod, Ev.p_pow, Ev.p_mul, Ev.dist, List.contains_cons, List.contains_nil, Bool.or_false, Bool.false_and, Bool.and_true, Bool.true_and, Nat.reduceAdd, Nat.reduceBEq, Ev.permN, Ev.perm, List.map_cons, List.map_nil, List.getD_cons_zero, List.getD_cons_succ, and_self, cond_true, cond_false, Int.cast_ofNat_Int, Int.natCast_one, Int.natCast_zero, Int.reduceEq, Int.reduceLE, Int.reduceLT, Int.reduceNeg, Int.reduceGT, Int.reduceAdd, Int.reduceMul, Int.reduceSub, Int.reduceToNat, Int.reducePow, Int.reduceNe, reduceCtorEq, eq_self, l3, List.filterMap_some]
      refine ⟨by decide, trivial, _, rfl, cs, 0, 0, rfl, by omega, by omega, by omega, fun c h => ?_⟩
      have hz := hb c (hc c h)
      have : c.natAbs < 2 ^ (Builtin.Int.intBits c) := by
        unfold Builtin.Int.intBits
        split
        · rename_i h0
          simp at h0
          subst h0
          simp
        · exact Nat.lt_log2_self
      exact Nat.lt_of_lt_of_le this (Nat.pow_le_pow_right (by omega) hz)
    · obtain ⟨c, _, rfl⟩ := List.mem_map.mp hx
      simp only [Ev.p_pure, Ev.p_ok, Ev.p_toD, Ev.p_kDf, Ev.p_kDn, Ev.p_toV, Ev.p_kV, Ev.p_some, Ev.p_var, Ev.p_varF, Ev.p_varL, Ev.p_varO, Ev.p_varN, Ev.p_mov, Ev.p_movF, Ev.p_movL, Ev.p_movO, Ev.p_movN, Ev.p_ev2, Ev.p_k2, Ev.p_k2', Ev.p_ev2T, Ev.p_kT, Ev.p_kT', Ev.p_vb, Ev.p_ev1, Ev.p_evC, Ev.p_evL, Ev.p_evO, Ev.p_evSeq, Ev.p_tTruth, Ev.p_kf, Ev.p_cons, Ev.p_vcons, Ev.p_acons, Ev.p_kC1, Ev.p_kC2, Ev.p_arV, Ev.p_kAr, Ev.p_arR, Ev.p_arF, Ev.p_arOw, Ev.p_arN, Ev.p_arL, Ev.p_call, Ev.p_kL1, Ev.p_kL2, Ev.p_if, Ev.p_kIt, Ev.p_kIf, Ev.p_tAnd, Ev.p_tOr, Ev.p_tNot, Ev.p_kN, Ev.p_and, Ev.p_kA, Ev.p_or, Ev.p_kO, Ev.p_not, Ev.p_kNt, Ev.p_ixS, Ev.p_ixO, Ev.p_kX, Ev.p_kXO, Ev.p_slotD, Ev.p_slF, Ev.p_slO, Ev.p_slN, Ev.p_slL, Ev.p_seq, Ev.p_kSn, Ev.p_kSr, Ev.p_kSb, Ev.p_kSc, Ev.p_slot, Ev.p_setU, Ev.p_setF, Ev.p_setO, Ev.p_ofF, Ev.p_ofN, Ev.p_kNx, Ev.p_set, Ev.p_kSet, Ev.p_ret, Ev.p_kRt, Ev.p_expr, Ev.p_kEx, Ev.p_par, Ev.p_kPar, Ev.p_kSs, Ev.p_ss0, Ev.p_ss, Ev.p_asg, Ev.p_kAsg, Ev.p_unp, Ev.p_gs, Ev.p_kG, Ev.p_gs0, Ev.p_gIx, Ev.p_gIO, Ev.p_kUp, Ev.p_upd, Ev.p_upO, Ev.p_upN, Ev.p_upDt, Ev.p_upDf, Ev.p_put, Ev.p_mut, Ev.p_mutO, Ev.p_kNon, Ev.p_kM1, Ev.p_app, Ev.p_sl, Ev.p_kSl1, Ev.p_kSl2, Ev.p_kSl3, Ev.p_add, Ev.p_addL, Ev.p_i2, Ev.p_u1, Ev.p_lt, Ev.p_le, Ev.p_gt, Ev.p_ge, Ev.p_eqI, Ev.p_neI, Ev.p_eqS, Ev.p_neS, Ev.p_isB, Ev.p_isN, Ev.p_notN, Ev.p_tup, Ev.p_lst, Ev.p_abs, Ev.p_intI, Ev.p_intB, Ev.p_len, Ev.p_dlL, Ev.p_dlT, Ev.p_itL, Ev.p_itT, Ev.p_d, Ev.p_dn, Ev.p_rng1, Ev.p_rng2, Ev.p_lo0, Ev.p_lo1, Ev.p_lo2, Ev.p_lo3, Ev.p_lo4, Ev.p_lo5, Ev.p_lo6, Ev.p_lo7, Ev.p_lo8, Ev.p_lo9, Ev.p_lo10, Ev.p_lo11, Ev.p_lo12, Ev.p_lo13, Ev.p_lo14, Ev.p_lo15, Ev.p_lo16, Ev.p_lo17, Ev.p_lo18, Ev.p_lo19, Ev.p_lo20, Ev.p_lo21, Ev.p_lo22, Ev.p_lo23, Ev.p_lo24, Ev.p_p18, Ev.p_p40, Ev.p_lpN, Ev.p_lpC, Ev.p_lpB, Ev.p_lpR, Ev.p_for, Ev.p_whT, Ev.p_whF, Ev.p_lc, Ev.p_callAr, Ev.p_callO1, Ev.p_callO2, Ev.p_refV, Ev.p_refR, Ev.p_ref0, Ev.p_ga, Ev.p_ga0, Ev.p_gaO, Ev.p_gaV, Ev.p_gaR, Ev.p_leF, Ev.p_leL, Ev.p_leO, Ev.p_leN, Ev.p_sc, Ev.p_sc0, Ev.p_scN, Ev.p_scFs, Ev.p_scLs, Ev.p_scOn, Ev.p_scOl, Ev.p_scNn, Ev.p_scNl, Ev.p_fiR, Ev.p_fiV, Ev.p_fi0, Ev.fin_rt, Ev.fin_nx, Ev.ou_ln, Ev.ou_fz, Ev.ou_0, Ev.at_0, Ev.at_1, Ev.at_2, Ev.at_3, Ev.p_lenS, Ev.p_lenO, Ev.p_bind, Ev.q_ok, List.getElem?_cons_zero, List.getElem?_cons_succ, List.set_cons_zero, List.set_cons_succ, List.length_cons, List.length_nil, List.cons_append, List.nil_append, Option.map_some, ↓reduceIte, Bool.not_true, Bool.not_false, decide_true, decide_false, Ev.p_div, Ev.p_mod, Ev.p_pow, Ev.p_mul, Ev.dist, List.contains_cons, List.contains_nil, Bool.or_false, Bool.false_and, Bool.and_true, Bool.true_and, Nat.reduceAdd, Nat.reduceBEq, Ev.permN, Ev.perm, List.map_cons, List.map_nil, List.getD_cons_zero, List.getD_cons_succ, and_self, cond_true, cond_false, Int.cast_ofNat_Int, Int.natCast_one, Int.natCast_zero, Int.reduceEq, Int.reduceLE, Int.reduceLT, Int.reduceNeg, Int.reduceGT, Int.reduceAdd, Int.reduceMul, Int.reduceSub, Int.reduceToNat, Int.reducePow, Int.reduceNe, reduceCtorEq, eq_self, wipeR]
  obtain ⟨_, _, e, rfl, t, rfl, ht⟩ := w
  exact ⟨t, e, ht⟩
theorem len_cast_ne {cs : List Int} (h : cs ≠ []) : (((cs.map D.int).length : Nat) : Int) ≠ 0 := by
  cases cs with
  | nil => exact absurd rfl h
  | cons c cs =>
    rw [List.map_cons, List.length_cons]
    omega
theorem at_mod {cs : List Int} (h : cs ≠ []) (u : Int) : ∃ c ∈ cs, atI (cs.map D.int) (u.fmod (((cs.map D.int).length : Nat) : Int)) = some (.int c) := by
  have nl := len_cast_ne h
  have hp : (0 : Int) < (((cs.map D.int).length : Nat) : Int) := by omega
  rw [Int.fmod_eq_emod_of_nonneg u (by omega)]
  have a := Int.emod_nonneg u nl
  have b := Int.emod_lt_of_pos u hp
  generalize u % (((cs.map D.int).length : Nat) : Int) = i at a b
  obtain ⟨n, rfl⟩ := Int.eq_ofNat_of_zero_le a
  rw [List.length_map] at b
  have hn : n < cs.length := by omega
  refine ⟨cs[n], List.getElem_mem hn, atI_nat (j := n) ?_⟩
  rw [List.getElem?_map, List.getElem?_eq_getElem hn]
  rfl
theorem lift_sp {k : Nat} {t : D} (h : Tr k t) (hk : k ≤ 100000) (many : Int) (hm : 0 < many) (hm2 : many < 2 ^ 64) :
    ∃ r t', m_law_weave [.ln t, .fz (.int many)] = .ok (.fz (.int r)) [.ln t', .fz (.int many)] ∧ Tr (k + 1) t' ∧ 0 ≤ r ∧ r < many := by
  obtain ⟨cs, u, l, rfl, h0, h1, h2, h3⟩ := h
  have w : Fw (m_law_weave [.ln (.lst [.lst (cs.map .int), .int u, .int l]), .fz (.int many)]) fun a os => ∃ r t', a = .fz (.int r) ∧ os = [.ln t', .fz (.int many)] ∧ Tr (k + 1) t' ∧ 0 ≤ r ∧ r < many := by
    refine fw_fin ?_
    change Wq (b_law_weave [.ln (.lst [.lst (cs.map .int), .int u, .int l]), .fz (.int many), .un, .un, .un, .un]) _
    unfold b_law_weave
    have dm : divOk many = true := divOk_of (b := 64) (by omega) (by omega) (by omega) (by omega)
    have nm : many ≠ 0 := by omega
    have md : ∀ x : Int, 0 ≤ x.fmod many ∧ x.fmod many < many := fun x => by
      rw [Int.fmod_eq_emod_of_nonneg x (by omega)]
      exact ⟨Int.emod_nonneg x nm, Int.emod_lt_of_pos x hm⟩
    have dv : ∀ x : Int, 0 ≤ x → 0 ≤ x.fdiv many := fun x hx => by
      rw [Int.fdiv_eq_ediv_of_nonneg x (by omega)]
      exact Int.ediv_nonneg hx (by omega)
    have i2 : ixN 3 2 = some 2 := rfl
    have i1 : ixN 3 1 = some 1 := rfl
    by_cases hl : 0 < l
    · simp only [Ev.p_pure, Ev.p_ok, Ev.p_toD, Ev.p_kDf, Ev.p_kDn, Ev.p_toV, Ev.p_kV, Ev.p_some, Ev.p_var, Ev.p_varF, Ev.p_varL, Ev.p_varO, Ev.p_varN, Ev.p_mov, Ev.p_movF, Ev.p_movL, Ev.p_movO, Ev.p_movN, Ev.p_ev2, Ev.p_k2, Ev.p_k2', Ev.p_ev2T, Ev.p_kT, Ev.p_kT', Ev.p_vb, Ev.p_ev1, Ev.p_evC, Ev.p_evL, Ev.p_evO, Ev.p_evSeq, Ev.p_tTruth, Ev.p_kf, Ev.p_cons, Ev.p_vcons, Ev.p_acons, Ev.p_kC1, Ev.p_kC2, Ev.p_arV, Ev.p_kAr, Ev.p_arR, Ev.p_arF, Ev.p_arOw, Ev.p_arN, Ev.p_arL, Ev.p_call, Ev.p_kL1, Ev.p_kL2, Ev.p_if, Ev.p_kIt, Ev.p_kIf, Ev.p_tAnd, Ev.p_tOr, Ev.p_tNot, Ev.p_kN, Ev.p_and, Ev.p_kA, Ev.p_or, Ev.p_kO, Ev.p_not, Ev.p_kNt, Ev.p_ixS, Ev.p_ixO, Ev.p_kX, Ev.p_kXO, Ev.p_slotD, Ev.p_slF, Ev.p_slO, Ev.p_slN, Ev.p_slL, Ev.p_seq, Ev.p_kSn, Ev.p_kSr, Ev.p_kSb, Ev.p_kSc, Ev.p_slot, Ev.p_setU, Ev.p_setF, Ev.p_setO, Ev.p_ofF, Ev.p_ofN, Ev.p_kNx, Ev.p_set, Ev.p_kSet, Ev.p_ret, Ev.p_kRt, Ev.p_expr, Ev.p_kEx, Ev.p_par, Ev.p_kPar, Ev.p_kSs, Ev.p_ss0, Ev.p_ss, Ev.p_asg, Ev.p_kAsg, Ev.p_unp, Ev.p_gs, Ev.p_kG, Ev.p_gs0, Ev.p_gIx, Ev.p_gIO, Ev.p_kUp, Ev.p_upd, Ev.p_upO, Ev.p_upN, Ev.p_upDt, Ev.p_upDf, Ev.p_put, Ev.p_mut, Ev.p_mutO, Ev.p_kNon, Ev.p_kM1, Ev.p_app, Ev.p_sl, Ev.p_kSl1, Ev.p_kSl2, Ev.p_kSl3, Ev.p_add, Ev.p_addL, Ev.p_i2, Ev.p_u1, Ev.p_lt, Ev.p_le, Ev.p_gt, Ev.p_ge, Ev.p_eqI, Ev.p_neI, Ev.p_eqS, Ev.p_neS, Ev.p_isB, Ev.p_isN, Ev.p_notN, Ev.p_tup, Ev.p_lst, Ev.p_abs, Ev.p_intI, Ev.p_intB, Ev.p_len, Ev.p_dlL, Ev.p_dlT, Ev.p_itL, Ev.p_itT, Ev.p_d, Ev.p_dn, Ev.p_rng1, Ev.p_rng2, Ev.p_lo0, Ev.p_lo1, Ev.p_lo2, Ev.p_lo3, Ev.p_lo4, Ev.p_lo5, Ev.p_lo6, Ev.p_lo7, Ev.p_lo8, Ev.p_lo9, Ev.p_lo10, Ev.p_lo11, Ev.p_lo12, Ev.p_lo13, Ev.p_lo14, Ev.p_lo15, Ev.p_lo16, Ev.p_lo17, Ev.p_lo18, Ev.p_lo19, Ev.p_lo20, Ev.p_lo21, Ev.p_lo22, Ev.p_lo23, Ev.p_lo24, Ev.p_p18, Ev.p_p40, Ev.p_lpN, Ev.p_lpC, Ev.p_lpB, Ev.p_lpR, Ev.p_for, Ev.p_whT, Ev.p_whF, Ev.p_lc, Ev.p_callAr, Ev.p_callO1, Ev.p_callO2, Ev.p_refV, Ev.p_refR, Ev.p_ref0, Ev.p_ga, Ev.p_ga0, Ev.p_gaO, Ev.p_gaV, Ev.p_gaR, Ev.p_leF, Ev.p_leL, Ev.p_leO, Ev.p_leN, Ev.p_sc, Ev.p_sc0, Ev.p_scN, Ev.p_scFs, Ev.p_scLs, Ev.p_scOn, Ev.p_scOl, Ev.p_scNn, Ev.p_scNl, Ev.p_fiR, Ev.p_fiV, Ev.p_fi0, Ev.fin_rt, Ev.fin_nx, Ev.ou_ln, Ev.ou_fz, Ev.ou_0, Ev.at_0, Ev.at_1, Ev.at_2, Ev.at_3, Ev.p_lenS, Ev.p_lenO, Ev.p_bind, Ev.q_ok, List.getElem?_cons_zero, List.getElem?_cons_succ, List.set_cons_zero, List.set_cons_succ, List.length_cons, List.length_nil, List.cons_append, List.nil_append, Option.map_some, ↓reduceIte, Bool.not_true, Bool.not_false, decide_true, decide_false, Ev.p_div, Ev.p_mod, Ev.p_pow, Ev.p_mul, Ev.dist, List.contains_cons, List.contains_nil, Bool.or_false, Bool.false_and, Bool.and_true, Bool.true_and, Nat.reduceAdd, Nat.reduceBEq, Ev.permN, Ev.perm, List.map_cons, List.map_nil, List.getD_cons_zero, List.getD_cons_succ, and_self, cond_true, cond_false, Int.cast_ofNat_Int, Int.natCast_one, Int.natCast_zero, Int.reduceEq, Int.reduceLE, Int.reduceLT, Int.reduceNeg, Int.reduceGT, Int.reduceAdd, Int.reduceMul, Int.reduceSub, Int.reduceToNat, Int.reducePow, Int.reduceNe, reduceCtorEq, eq_self, decide_eq_true hl, i2, i1, p_div _ _ dm, p_mod _ _ nm]
      exact ⟨by decide, _, _, rfl, rfl, ⟨cs, u, l.fdiv many, rfl, h0, by omega, dv l (by omega), h3⟩, (md l).1, (md l).2⟩
    · have m1 : mulOk 70067 u = true := mulOk_of (a := 64) (b := 64) (by omega) (by omega) (by omega)
      have m2 : mulOk 52081 u = true := mulOk_of (a := 64) (b := 64) (by omega) (by omega) (by omega)
      have m3 : mulOk 2 u = true := mulOk_of (a := 64) (b := 64) (by omega) (by omega) (by omega)
      have m4 : mulOk (70067 * u) u = true := mulOk_of (a := 64) (b := 64) (by omega) (by omega) (by omega)
      have d64 : divOk 64 = true := by decide +kernel
      have n1 : (2147483549 : Int) ≠ 0 := by decide
      have n2 : (2147483587 : Int) ≠ 0 := by decide
      have n3 : (2147483563 : Int) ≠ 0 := by decide
      have p18 : powOk 10 18 = true := by decide +kernel
      have uu : 70067 * u * u ≤ 7006700000 * 100000 := Int.mul_le_mul (by omega) (by omega) h0 (by omega)
      have uu0 : 0 ≤ 70067 * u * u := Int.mul_nonneg (by omega) h0
      -- the last mixing
      have mix : ∀ c : Int, powOk (c.fmod 2147483549 + 52081 * u + 9161) 5 = true ∧ (∀ m : Int, 0 ≤ m → m < 2147483587 → mulOk m (2 * u + 3067) = true ∧ powOk (m * (2 * u + 3067) + 70067 * u * u + 52081) 3 = true) := by
        intro c
        have b1 := Int.emod_nonneg c n1
        have b2 := Int.emod_lt_of_pos c (show (0 : Int) < 2147483549 by decide)
        have b3 : c.fmod 2147483549 = c % 2147483549 := Int.fmod_eq_emod_of_nonneg c (by decide)
        refine ⟨powOk_of (by decide) (by decide) (by omega), fun m hm0 hm1 => ?_⟩
        have q1 : m * (2 * u + 3067) ≤ 2147483587 * 203067 := Int.mul_le_mul (by omega) (by omega) (by omega) (by omega)
        have q2 : 0 ≤ m * (2 * u + 3067) := Int.mul_nonneg hm0 (by omega)
        exact ⟨mulOk_of (a := 64) (b := 64) (by omega) (by omega) (by omega), powOk_of (by decide) (by decide) (by omega)⟩
      have mm : ∀ x : Int, 0 ≤ x.fmod 2147483587 ∧ x.fmod 2147483587 < 2147483587 := fun x => by
        rw [Int.fmod_eq_emod_of_nonneg x (by decide)]
        exact ⟨Int.emod_nonneg x n2, Int.emod_lt_of_pos x (by decide)⟩
      have T1 : Tr (k + 1) (.lst [.lst (cs.map .int), .int (u + 1), .int l]) := ⟨cs, u + 1, l, rfl, by omega, by omega, h2, h3⟩
      by_cases hc : cs = []
      · subst hc
        have g1 := (mix (70067 * u + 9161)).1
        have g2 := (mix (70067 * u + 9161)).2 (((70067 * u + 9161).fmod 2147483549 + 52081 * u + 9161) ^ 5 |>.fmod 2147483587) (mm _).1 (mm _).2
        have hu : ¬ u < 0 := by omega
        have n0 : neA (.lst []) (.lst []) = some (.fz (.bl false)) := p_neNil []
        simp only [Ev.p_pure, Ev.p_ok, Ev.p_toD, Ev.p_kDf, Ev.p_kDn, Ev.p_toV, Ev.p_kV, Ev.p_some, Ev.p_var, Ev.p_varF, Ev.p_varL, Ev.p_varO, Ev.p_varN, Ev.p_mov, Ev.p_movF, Ev.p_movL, Ev.p_movO, Ev.p_movN, Ev.p_ev2, Ev.p_k2, Ev.p_k2', Ev.p_ev2T, Ev.p_kT, Ev.p_kT', Ev.p_vb, Ev.p_ev1, Ev.p_evC, Ev.p_evL, Ev.p_evO, Ev.p_evSeq, Ev.p_tTruth, Ev.p_kf, Ev.p_cons, Ev.p_vcons, Ev.p_acons, Ev.p_kC1, Ev.p_kC2, Ev.p_arV, Ev.p_kAr, Ev.p_arR, Ev.p_arF, Ev.p_arOw, Ev.p_arN, Ev.p_arL, Ev.p_call, Ev.p_kL1, Ev.p_kL2, Ev.p_if, Ev.p_kIt, Ev.p_kIf, Ev.p_tAnd, Ev.p_tOr, Ev.p_tNot, Ev.p_kN, Ev.p_and, Ev.p_kA, Ev.p_or, Ev.p_kO, Ev.p_not, Ev.p_kNt, Ev.p_ixS, Ev.p_ixO, Ev.p_kX, Ev.p_kXO, Ev.p_slotD, Ev.p_slF, Ev.p_slO, Ev.p_slN, Ev.p_slL, Ev.p_seq, Ev.p_kSn, Ev.p_kSr, Ev.p_kSb, Ev.p_kSc, Ev.p_slot, Ev.p_setU, Ev.p_setF, Ev.p_setO, Ev.p_ofF, Ev.p_ofN, Ev.p_kNx, Ev.p_set, Ev.p_kSet, Ev.p_ret, Ev.p_kRt, Ev.p_expr, Ev.p_kEx, Ev.p_par, Ev.p_kPar, Ev.p_kSs, Ev.p_ss0, Ev.p_ss, Ev.p_asg, Ev.p_kAsg, Ev.p_unp, Ev.p_gs, Ev.p_kG, Ev.p_gs0, Ev.p_gIx, Ev.p_gIO, Ev.p_kUp, Ev.p_upd, Ev.p_upO, Ev.p_upN, Ev.p_upDt, Ev.p_upDf, Ev.p_put, Ev.p_mut, Ev.p_mutO, Ev.p_kNon, Ev.p_kM1, Ev.p_app, Ev.p_sl, Ev.p_kSl1, Ev.p_kSl2, Ev.p_kSl3, Ev.p_add, Ev.p_addL, Ev.p_i2, Ev.p_u1, Ev.p_lt, Ev.p_le, Ev.p_gt, Ev.p_ge, Ev.p_eqI, Ev.p_neI, Ev.p_eqS, Ev.p_neS, Ev.p_isB, Ev.p_isN, Ev.p_notN, Ev.p_tup, Ev.p_lst, Ev.p_abs, Ev.p_intI, Ev.p_intB, Ev.p_len, Ev.p_dlL, Ev.p_dlT, Ev.p_itL, Ev.p_itT, Ev.p_d, Ev.p_dn, Ev.p_rng1, Ev.p_rng2, Ev.p_lo0, Ev.p_lo1, Ev.p_lo2, Ev.p_lo3, Ev.p_lo4, Ev.p_lo5, Ev.p_lo6, Ev.p_lo7, Ev.p_lo8, Ev.p_lo9, Ev.p_lo10, Ev.p_lo11, Ev.p_lo12, Ev.p_lo13, Ev.p_lo14, Ev.p_lo15, Ev.p_lo16, Ev.p_lo17, Ev.p_lo18, Ev.p_lo19, Ev.p_lo20, Ev.p_lo21, Ev.p_lo22, Ev.p_lo23, Ev.p_lo24, Ev.p_p18, Ev.p_p40, Ev.p_lpN, Ev.p_lpC, Ev.p_lpB, Ev.p_lpR, Ev.p_for, Ev.p_whT, Ev.p_whF, Ev.p_lc, Ev.p_callAr, Ev.p_callO1, Ev.p_callO2, Ev.p_refV, Ev.p_refR, Ev.p_ref0, Ev.p_ga, Ev.p_ga0, Ev.p_gaO, Ev.p_gaV, Ev.p_gaR, Ev.p_leF, Ev.p_leL, Ev.p_leO, Ev.p_leN, Ev.p_sc, Ev.p_sc0, Ev.p_scN, Ev.p_scFs, Ev.p_scLs, Ev.p_scOn, Ev.p_scOl, Ev.p_scNn, Ev.p_scNl, Ev.p_fiR, Ev.p_fiV, Ev.p_fi0, Ev.fin_rt, Ev.fin_nx, Ev.ou_ln, Ev.ou_fz, Ev.ou_0, Ev.at_0, Ev.at_1, Ev.at_2, Ev.at_3, Ev.p_lenS, Ev.p_lenO, Ev.p_bind, Ev.q_ok, List.getElem?_cons_zero, List.getElem?_cons_succ, List.set_cons_zero, List.set_cons_succ, List.length_cons, List.length_nil, List.cons_append, List.nil_append, Option.map_some, ↓reduceIte, Bool.not_true, Bool.not_false, decide_true, decide_false, Ev.p_div, Ev.p_mod, Ev.p_pow, Ev.p_mul, Ev.dist, List.contains_cons, List.contains_nil, Bool.or_false, Bool.false_and, Bool.and_true, Bool.true_and, Nat.reduceAdd, Nat.reduceBEq, Ev.permN, Ev.perm, List.map_cons, List.map_nil, List.getD_cons_zero, List.getD_cons_succ, and_self, cond_true, cond_false, Int.cast_ofNat_Int, Int.natCast_one, Int.natCast_zero, Int.reduceEq, Int.reduceLE, Int.reduceLT, Int.reduceNeg, Int.reduceGT, Int.reduceAdd, Int.reduceMul, Int.reduceSub, Int.reduceToNat, Int.reducePow, Int.reduceNe, reduceCtorEq, eq_self, decide_eq_false hl, i2, i1, m1, m2, m3, m4, n0, decide_eq_false hu, p_mod _ _ n1, p_mod _ _ n2, p_mod _ _ n3, g1, g2.1, g2.2, d64, p_mod _ _ nm]
        exact ⟨by decide, _, _, rfl, rfl, T1, (md _).1, (md _).2⟩
      · have nl := len_cast_ne hc
        obtain ⟨c, hm, ec⟩ := at_mod hc u
        have hc2 : c.natAbs < 2 ^ 1048576 := h3 c hm
        have g1 := (mix c).1
        have g2 := (mix c).2 ((c.fmod 2147483549 + 52081 * u + 9161) ^ 5 |>.fmod 2147483587) (mm _).1 (mm _).2
        by_cases hu : u < (((cs.map D.int).length : Nat) : Int)
        · by_cases ha : 1000000000000000000 ≤ (if c < 0 then -c else c)
          · have m5 : mulOk 2 ((if c < 0 then -c else c) - 1000000000000000000) = true := by
              refine mulOk_of (a := 64) (b := 1048576) (by omega) (Nat.lt_of_le_of_lt ?_ hc2) (by omega)
              split <;> omega
            have nn : 0 ≤ 2 * ((if c < 0 then -c else c) - 1000000000000000000) + (if decide (c < 0) = true then 1 else 0) := by
              split <;> split <;> omega
            simp only [Ev.p_pure, Ev.p_ok, Ev.p_toD, Ev.p_kDf, Ev.p_kDn, Ev.p_toV, Ev.p_kV, Ev.p_some, Ev.p_var, Ev.p_varF, Ev.p_varL, Ev.p_varO, Ev.p_varN, Ev.p_mov, Ev.p_movF, Ev.p_movL, Ev.p_movO, Ev.p_movN, Ev.p_ev2, Ev.p_k2, Ev.p_k2', Ev.p_ev2T, Ev.p_kT, Ev.p_kT', Ev.p_vb, Ev.p_ev1, Ev.p_evC, Ev.p_evL, Ev.p_evO, Ev.p_evSeq, Ev.p_tTruth, Ev.p_kf, Ev.p_cons, Ev.p_vcons, Ev.p_acons, Ev.p_kC1, Ev.p_kC2, Ev.p_arV, Ev.p_kAr, Ev.p_arR, Ev.p_arF, Ev.p_arOw, Ev.p_arN, Ev.p_arL, Ev.p_call, Ev.p_kL1, Ev.p_kL2, Ev.p_if, Ev.p_kIt, Ev.p_kIf, Ev.p_tAnd, Ev.p_tOr, Ev.p_tNot, Ev.p_kN, Ev.p_and, Ev.p_kA, Ev.p_or, Ev.p_kO, Ev.p_not, Ev.p_kNt, Ev.p_ixS, Ev.p_ixO, Ev.p_kX, Ev.p_kXO, Ev.p_slotD, Ev.p_slF, Ev.p_slO, Ev.p_slN, Ev.p_slL, Ev.p_seq, Ev.p_kSn, Ev.p_kSr, Ev.p_kSb, Ev.p_kSc, Ev.p_slot, Ev.p_setU, Ev.p_setF, Ev.p_setO, Ev.p_ofF, Ev.p_ofN, Ev.p_kNx, Ev.p_set, Ev.p_kSet, Ev.p_ret, Ev.p_kRt, Ev.p_expr, Ev.p_kEx, Ev.p_par, Ev.p_kPar, Ev.p_kSs, Ev.p_ss0, Ev.p_ss, Ev.p_asg, Ev.p_kAsg, Ev.p_unp, Ev.p_gs, Ev.p_kG, Ev.p_gs0, Ev.p_gIx, Ev.p_gIO, Ev.p_kUp, Ev.p_upd, Ev.p_upO, Ev.p_upN, Ev.p_upDt, Ev.p_upDf, Ev.p_put, Ev.p_mut, Ev.p_mutO, Ev.p_kNon, Ev.p_kM1, Ev.p_app, Ev.p_sl, Ev.p_kSl1, Ev.p_kSl2, Ev.p_kSl3, Ev.p_add, Ev.p_addL, Ev.p_i2, Ev.p_u1, Ev.p_lt, Ev.p_le, Ev.p_gt, Ev.p_ge, Ev.p_eqI, Ev.p_neI, Ev.p_eqS, Ev.p_neS, Ev.p_isB, Ev.p_isN, Ev.p_notN, Ev.p_tup, Ev.p_lst, Ev.p_abs, Ev.p_intI, Ev.p_intB, Ev.p_len, Ev.p_dlL, Ev.p_dlT, Ev.p_itL, Ev.p_itT, Ev.p_d, Ev.p_dn, Ev.p_rng1, Ev.p_rng2, Ev.p_lo0, Ev.p_lo1, Ev.p_lo2, Ev.p_lo3, Ev.p_lo4, Ev.p_lo5, Ev.p_lo6, Ev.p_lo7, Ev.p_lo8, Ev.p_lo9, Ev.p_lo10, Ev.p_lo11, Ev.p_lo12, Ev.p_lo13, Ev.p_lo14, Ev.p_lo15, Ev.p_lo16, Ev.p_lo17, Ev.p_lo18, Ev.p_lo19, Ev.p_lo20, Ev.p_lo21, Ev.p_lo22, Ev.p_lo23, Ev.p_lo24, Ev.p_p18, Ev.p_p40, Ev.p_lpN, Ev.p_lpC, Ev.p_lpB, Ev.p_lpR, Ev.p_for, Ev.p_whT, Ev.p_whF, Ev.p_lc, Ev.p_callAr, Ev.p_callO1, Ev.p_callO2, Ev.p_refV, Ev.p_refR, Ev.p_ref0, Ev.p_ga, Ev.p_ga0, Ev.p_gaO, Ev.p_gaV, Ev.p_gaR, Ev.p_leF, Ev.p_leL, Ev.p_leO, Ev.p_leN, Ev.p_sc, Ev.p_sc0, Ev.p_scN, Ev.p_scFs, Ev.p_scLs, Ev.p_scOn, Ev.p_scOl, Ev.p_scNn, Ev.p_scNl, Ev.p_fiR, Ev.p_fiV, Ev.p_fi0, Ev.fin_rt, Ev.fin_nx, Ev.ou_ln, Ev.ou_fz, Ev.ou_0, Ev.at_0, Ev.at_1, Ev.at_2, Ev.at_3, Ev.p_lenS, Ev.p_lenO, Ev.p_bind, Ev.q_ok, List.getElem?_cons_zero, List.getElem?_cons_succ, List.set_cons_zero, List.set_cons_succ, List.length_cons, List.length_nil, List.cons_append, List.nil_append, Option.map_some, ↓reduceIte, Bool.not_true, Bool.not_false, decide_true, decide_false, Ev.p_div, Ev.p_mod, Ev.p_pow, Ev.p_mul, Ev.dist, List.contains_cons, List.contains_nil, Bool.or_false, Bool.false_and, Bool.and_true, Bool.true_and, Nat.reduceAdd, Nat.reduceBEq, Ev.permN, Ev.perm, List.map_cons, List.map_nil, List.getD_cons_zero, List.getD_cons_succ, and_self, cond_true, cond_false, Int.cast_ofNat_Int, Int.natCast_one, Int.natCast_zero, Int.reduceEq, Int.reduceLE, Int.reduceLT, Int.reduceNeg, Int.reduceGT, Int.reduceAdd, Int.reduceMul, Int.reduceSub, Int.reduceToNat, Int.reducePow, Int.reduceNe, reduceCtorEq, eq_self, decide_eq_false hl, i2, i1, m1, m2, m3, m4, p_neNil, decide_eq_false hc, p_mod _ _ nl, ec, decide_eq_true hu, decide_eq_true ha, m5, p_div _ _ dm, p_mod _ _ nm]
            exact ⟨by decide, _, _, rfl, rfl, ⟨cs, u + 1, _, rfl, by omega, by omega, dv _ nn, h3⟩, (md _).1, (md _).2⟩
          · simp only [Ev.p_pure, Ev.p_ok, Ev.p_toD, Ev.p_kDf, Ev.p_kDn, Ev.p_toV, Ev.p_kV, Ev.p_some, Ev.p_var, Ev.p_varF, Ev.p_varL, Ev.p_varO, Ev.p_varN, Ev.p_mov, Ev.p_movF, Ev.p_movL, Ev.p_movO, Ev.p_movN, Ev.p_ev2, Ev.p_k2, Ev.p_k2', Ev.p_ev2T, Ev.p_kT, Ev.p_kT', Ev.p_vb, Ev.p_ev1, Ev.p_evC, Ev.p_evL, Ev.p_evO, Ev.p_evSeq, Ev.p_tTruth, Ev.p_kf, Ev.p_cons, Ev.p_vcons, Ev.p_acons, Ev.p_kC1, Ev.p_kC2, Ev.p_arV, Ev.p_kAr, Ev.p_arR, Ev.p_arF, Ev.p_arOw, Ev.p_arN, Ev.p_arL, Ev.p_call, Ev.p_kL1, Ev.p_kL2, Ev.p_if, Ev.p_kIt, Ev.p_kIf, Ev.p_tAnd, Ev.p_tOr, Ev.p_tNot, Ev.p_kN, Ev.p_and, Ev.p_kA, Ev.p_or, Ev.p_kO, Ev.p_not, Ev.p_kNt, Ev.p_ixS, Ev.p_ixO, Ev.p_kX, Ev.p_kXO, Ev.p_slotD, Ev.p_slF, Ev.p_slO, Ev.p_slN, Ev.p_slL, Ev.p_seq, Ev.p_kSn, Ev.p_kSr, Ev.p_kSb, Ev.p_kSc, Ev.p_slot, Ev.p_setU, Ev.p_setF, Ev.p_setO, Ev.p_ofF, Ev.p_ofN, Ev.p_kNx, Ev.p_set, Ev.p_kSet, Ev.p_ret, Ev.p_kRt, Ev.p_expr, Ev.p_kEx, Ev.p_par, Ev.p_kPar, Ev.p_kSs, Ev.p_ss0, Ev.p_ss, Ev.p_asg, Ev.p_kAsg, Ev.p_unp, Ev.p_gs, Ev.p_kG, Ev.p_gs0, Ev.p_gIx, Ev.p_gIO, Ev.p_kUp, Ev.p_upd, Ev.p_upO, Ev.p_upN, Ev.p_upDt, Ev.p_upDf, Ev.p_put, Ev.p_mut, Ev.p_mutO, Ev.p_kNon, Ev.p_kM1, Ev.p_app, Ev.p_sl, Ev.p_kSl1, Ev.p_kSl2, Ev.p_kSl3, Ev.p_add, Ev.p_addL, Ev.p_i2, Ev.p_u1, Ev.p_lt, Ev.p_le, Ev.p_gt, Ev.p_ge, Ev.p_eqI, Ev.p_neI, Ev.p_eqS, Ev.p_neS, Ev.p_isB, Ev.p_isN, Ev.p_notN, Ev.p_tup, Ev.p_lst, Ev.p_abs, Ev.p_intI, Ev.p_intB, Ev.p_len, Ev.p_dlL, Ev.p_dlT, Ev.p_itL, Ev.p_itT, Ev.p_d, Ev.p_dn, Ev.p_rng1, Ev.p_rng2, Ev.p_lo0, Ev.p_lo1, Ev.p_lo2, Ev.p_lo3, Ev.p_lo4, Ev.p_lo5, Ev.p_lo6, Ev.p_lo7, Ev.p_lo8, Ev.p_lo9, Ev.p_lo10, Ev.p_lo11, Ev.p_lo12, Ev.p_lo13, Ev.p_lo14, Ev.p_lo15, Ev.p_lo16, Ev.p_lo17, Ev.p_lo18, Ev.p_lo19, Ev.p_lo20, Ev.p_lo21, Ev.p_lo22, Ev.p_lo23, Ev.p_lo24, Ev.p_p18, Ev.p_p40, Ev.p_lpN, Ev.p_lpC, Ev.p_lpB, Ev.p_lpR, Ev.p_for, Ev.p_whT, Ev.p_whF, Ev.p_lc, Ev.p_callAr, Ev.p_callO1, Ev.p_callO2, Ev.p_refV, Ev.p_refR, Ev.p_ref0, Ev.p_ga, Ev.p_ga0, Ev.p_gaO, Ev.p_gaV, Ev.p_gaR, Ev.p_leF, Ev.p_leL, Ev.p_leO, Ev.p_leN, Ev.p_sc, Ev.p_sc0, Ev.p_scN, Ev.p_scFs, Ev.p_scLs, Ev.p_scOn, Ev.p_scOl, Ev.p_scNn, Ev.p_scNl, Ev.p_fiR, Ev.p_fiV, Ev.p_fi0, Ev.fin_rt, Ev.fin_nx, Ev.ou_ln, Ev.ou_fz, Ev.ou_0, Ev.at_0, Ev.at_1, Ev.at_2, Ev.at_3, Ev.p_lenS, Ev.p_lenO, Ev.p_bind, Ev.q_ok, List.getElem?_cons_zero, List.getElem?_cons_succ, List.set_cons_zero, List.set_cons_succ, List.length_cons, List.length_nil, List.cons_append, List.nil_append, Option.map_some, ↓reduceIte, Bool.not_true, Bool.not_false, decide_true, decide_false, Ev.p_div, Ev.p_mod, Ev.p_pow, Ev.p_mul, Ev.dist, List.contains_cons, List.contains_nil, Bool.or_false, Bool.false_and, Bool.and_true, Bool.true_and, Nat.reduceAdd, Nat.reduceBEq, Ev.permN, Ev.perm, List.map_cons, List.map_nil, List.getD_cons_zero, List.getD_cons_succ, and_self, cond_true, cond_false, Int.cast_ofNat_Int, Int.natCast_one, Int.natCast_zero, Int.reduceEq, Int.reduceLE, Int.reduceLT, Int.reduceNeg, Int.reduceGT, Int.reduceAdd, Int.reduceMul, Int.reduceSub, Int.reduceToNat, Int.reducePow, Int.reduceNe, reduceCtorEq, eq_self, decide_eq_false hl, i2, i1, m1, m2, m3, m4, p_neNil, decide_eq_false hc, p_mod _ _ nl, ec, decide_eq_true hu, decide_eq_false ha, p_mod _ _ n1, p_mod _ _ n2, p_mod _ _ n3, g1, g2.1, g2.2, d64, p_mod _ _ nm]
            exact ⟨by decide, _, _, rfl, rfl, T1, (md _).1, (md _).2⟩
        · simp only [Ev.p_pure, Ev.p_ok, Ev.p_toD, Ev.p_kDf, Ev.p_kDn, Ev.p_toV, Ev.p_kV, Ev.p_some, Ev.p_var, Ev.p_varF, Ev.p_varL, Ev.p_varO, Ev.p_varN, Ev.p_mov, Ev.p_movF, Ev.p_movL, Ev.p_movO, Ev.p_movN, Ev.p_ev2, Ev.p_k2, Ev.p_k2', Ev.p_ev2T, Ev.p_kT, Ev.p_kT', Ev.p_vb, Ev.p_ev1, Ev.p_evC, Ev.p_evL, Ev.p_evO, Ev.p_evSeq, Ev.p_tTruth, Ev.p_kf, Ev.p_cons, Ev.p_vcons, Ev.p_acons, Ev.p_kC1, Ev.p_kC2, Ev.p_arV, Ev.p_kAr, Ev.p_arR, Ev.p_arF, Ev.p_arOw, Ev.p_arN, Ev.p_arL, Ev.p_call, Ev.p_kL1, Ev.p_kL2, Ev.p_if, Ev.p_kIt, Ev.p_kIf, Ev.p_tAnd, Ev.p_tOr, Ev.p_tNot, Ev.p_kN, Ev.p_and, Ev.p_kA, Ev.p_or, Ev.p_kO, Ev.p_not, Ev.p_kNt, Ev.p_ixS, Ev.p_ixO, Ev.p_kX, Ev.p_kXO, Ev.p_slotD, Ev.p_slF, Ev.p_slO, Ev.p_slN, Ev.p_slL, Ev.p_seq, Ev.p_kSn, Ev.p_kSr, Ev.p_kSb, Ev.p_kSc, Ev.p_slot, Ev.p_setU, Ev.p_setF, Ev.p_setO, Ev.p_ofF, Ev.p_ofN, Ev.p_kNx, Ev.p_set, Ev.p_kSet, Ev.p_ret, Ev.p_kRt, Ev.p_expr, Ev.p_kEx, Ev.p_par, Ev.p_kPar, Ev.p_kSs, Ev.p_ss0, Ev.p_ss, Ev.p_asg, Ev.p_kAsg, Ev.p_unp, Ev.p_gs, Ev.p_kG, Ev.p_gs0, Ev.p_gIx, Ev.p_gIO, Ev.p_kUp, Ev.p_upd, Ev.p_upO, Ev.p_upN, Ev.p_upDt, Ev.p_upDf, Ev.p_put, Ev.p_mut, Ev.p_mutO, Ev.p_kNon, Ev.p_kM1, Ev.p_app, Ev.p_sl, Ev.p_kSl1, Ev.p_kSl2, Ev.p_kSl3, Ev.p_add, Ev.p_addL, Ev.p_i2, Ev.p_u1, Ev.p_lt, Ev.p_le, Ev.p_gt, Ev.p_ge, Ev.p_eqI, Ev.p_neI, Ev.p_eqS, Ev.p_neS, Ev.p_isB, Ev.p_isN, Ev.p_notN, Ev.p_tup, Ev.p_lst, Ev.p_abs, Ev.p_intI, Ev.p_intB, Ev.p_len, Ev.p_dlL, Ev.p_dlT, Ev.p_itL, Ev.p_itT, Ev.p_d, Ev.p_dn, Ev.p_rng1, Ev.p_rng2, Ev.p_lo0, Ev.p_lo1, Ev.p_lo2, Ev.p_lo3, Ev.p_lo4, Ev.p_lo5, Ev.p_lo6, Ev.p_lo7, Ev.p_lo8, Ev.p_lo9, Ev.p_lo10, Ev.p_lo11, Ev.p_lo12, Ev.p_lo13, Ev.p_lo14, Ev.p_lo15, Ev.p_lo16, Ev.p_lo17, Ev.p_lo18, Ev.p_lo19, Ev.p_lo20, Ev.p_lo21, Ev.p_lo22, Ev.p_lo23, Ev.p_lo24, Ev.p_p18, Ev.p_p40, Ev.p_lpN, Ev.p_lpC, Ev.p_lpB, Ev.p_lpR, Ev.p_for, Ev.p_whT, Ev.p_whF, Ev.p_lc, Ev.p_callAr, Ev.p_callO1, Ev.p_callO2, Ev.p_refV, Ev.p_refR, Ev.p_ref0, Ev.p_ga, Ev.p_ga0, Ev.p_gaO, Ev.p_gaV, Ev.p_gaR, Ev.p_leF, Ev.p_leL, Ev.p_leO, Ev.p_leN, Ev.p_sc, Ev.p_sc0, Ev.p_scN, Ev.p_scFs, Ev.p_scLs, Ev.p_scOn, Ev.p_scOl, Ev.p_scNn, Ev.p_scNl, Ev.p_fiR, Ev.p_fiV, Ev.p_fi0, Ev.fin_rt, Ev.fin_nx, Ev.ou_ln, Ev.ou_fz, Ev.ou_0, Ev.at_0, Ev.at_1, Ev.at_2, Ev.at_3, Ev.p_lenS, Ev.p_lenO, Ev.p_bind, Ev.q_ok, List.getElem?_cons_zero, List.getElem?_cons_succ, List.set_cons_zero, List.set_cons_succ, List.length_cons, List.length_nil, List.cons_append, List.nil_append, Option.map_some, ↓reduceIte, Bool.not_true, Bool.not_false, decide_true, decide_false, Ev.p_div, Ev.p_mod, Ev.p_pow, Ev.p_mul, Ev.dist, List.contains_cons, List.contains_nil, Bool.or_false, Bool.false_and, Bool.and_true, Bool.true_and, Nat.reduceAdd, Nat.reduceBEq, Ev.permN, Ev.perm, List.map_cons, List.map_nil, List.getD_cons_zero, List.getD_cons_succ, and_self, cond_true, cond_false, Int.cast_ofNat_Int, Int.natCast_one, Int.natCast_zero, Int.reduceEq, Int.reduceLE, Int.reduceLT, Int.reduceNeg, Int.reduceGT, Int.reduceAdd, Int.reduceMul, Int.reduceSub, Int.reduceToNat, Int.reducePow, Int.reduceNe, reduceCtorEq, eq_self, decide_eq_false hl, i2, i1, m1, m2, m3, m4, p_neNil, decide_eq_false hc, p_mod _ _ nl, ec, decide_eq_false hu, p_mod _ _ n1, p_mod _ _ n2, p_mod _ _ n3, g1, g2.1, g2.2, d64, p_mod _ _ nm]
          exact ⟨by decide, _, _, rfl, rfl, T1, (md _).1, (md _).2⟩
  obtain ⟨_, _, e, r, t', rfl, rfl, q⟩ := w
  exact ⟨r, t', e, q⟩
theorem pick_sp {k : Nat} {t : D} (h : Tr k t) (hk : k ≤ 100000) (l : List D) (h0 : l ≠ []) (h1 : l.length ≤ 1000) :
    ∃ d t', m_law_one_of [.ln t, .fz (.lst l)] = .ok (.fz d) [.ln t', .fz (.lst l)] ∧ Tr (k + 1) t' ∧ d ∈ l := by
  have hp : 0 < l.length := List.length_pos_iff.mpr h0
  obtain ⟨r, t', e, ht, r0, r1⟩ := lift_sp h hk (l.length : Nat) (by omega) (by omega)
  obtain ⟨n, rfl⟩ := Int.eq_ofNat_of_zero_le r0
  have hn : n < l.length := by omega
  have ea : atI l (n : Int) = some l[n] := atI_nat (List.getElem?_eq_getElem hn)
  have w : Fw (m_law_one_of [.ln t, .fz (.lst l)]) fun a os => a = .fz l[n] ∧ os = [.ln t', .fz (.lst l)] := by
    refine fw_fin ?_
    change Wq (b_law_one_of [.ln t, .fz (.lst l)]) _
    unfold b_law_one_of
    simp only [Ev.p_pure, Ev.p_ok, Ev.p_toD, Ev.p_kDf, Ev.p_kDn, Ev.p_toV, Ev.p_kV, Ev.p_some, Ev.p_var, Ev.p_varF, Ev.p_varL, Ev.p_varO, Ev.p_varN, Ev.p_mov, Ev.p_movF, Ev.p_movL, Ev.p_movO, Ev.p_movN, Ev.p_ev2, Ev.p_k2, Ev.p_k2', Ev.p_ev2T, Ev.p_kT, Ev.p_kT', Ev.p_vb, Ev.p_ev1, Ev.p_evC, Ev.p_evL, Ev.p_evO, Ev.p_evSeq, Ev.p_tTruth, Ev.p_kf, Ev.p_cons, Ev.p_vcons, Ev.p_acons, Ev.p_kC1, Ev.p_kC2, Ev.p_arV, Ev.p_kAr, Ev.p_arR, Ev.p_arF, Ev.p_arOw, Ev.p_arN, Ev.p_arL, Ev.p_call, Ev.p_kL1, Ev.p_kL2, Ev.p_if, Ev.p_kIt, Ev.p_kIf, Ev.p_tAnd, Ev.p_tOr, Ev.p_tNot, Ev.p_kN, Ev.p_and, Ev.p_kA, Ev.p_or, Ev.p_kO, Ev.p_not, Ev.p_kNt, Ev.p_ixS, Ev.p_ixO, Ev.p_kX, Ev.p_kXO, Ev.p_slotD, Ev.p_slF, Ev.p_slO, Ev.p_slN, Ev.p_slL, Ev.p_seq, Ev.p_kSn, Ev.p_kSr, Ev.p_kSb, Ev.p_kSc, Ev.p_slot, Ev.p_setU, Ev.p_setF, Ev.p_setO, Ev.p_ofF, Ev.p_ofN, Ev.p_kNx, Ev.p_set, Ev.p_kSet, Ev.p_ret, Ev.p_kRt, Ev.p_expr, Ev.p_kEx, Ev.p_par, Ev.p_kPar, Ev.p_kSs, Ev.p_ss0, Ev.p_ss, Ev.p_asg, Ev.p_kAsg, Ev.p_unp, Ev.p_gs, Ev.p_kG, Ev.p_gs0, Ev.p_gIx, Ev.p_gIO, Ev.p_kUp, Ev.p_upd, Ev.p_upO, Ev.p_upN, Ev.p_upDt, Ev.p_upDf, Ev.p_put, Ev.p_mut, Ev.p_mutO, Ev.p_kNon, Ev.p_kM1, Ev.p_app, Ev.p_sl, Ev.p_kSl1, Ev.p_kSl2, Ev.p_kSl3, Ev.p_add, Ev.p_addL, Ev.p_i2, Ev.p_u1, Ev.p_lt, Ev.p_le, Ev.p_gt, Ev.p_ge, Ev.p_eqI, Ev.p_neI, Ev.p_eqS, Ev.p_neS, Ev.p_isB, Ev.p_isN, Ev.p_notN, Ev.p_tup, Ev.p_lst, Ev.p_abs, Ev.p_intI, Ev.p_intB, Ev.p_len, Ev.p_dlL, Ev.p_dlT, Ev.p_itL, Ev.p_itT, Ev.p_d, Ev.p_dn, Ev.p_rng1, Ev.p_rng2, Ev.p_lo0, Ev.p_lo1, Ev.p_lo2, Ev.p_lo3, Ev.p_lo4, Ev.p_lo5, Ev.p_lo6, Ev.p_lo7, Ev.p_lo8, Ev.p_lo9, Ev.p_lo10, Ev.p_lo11, Ev.p_lo12, Ev.p_lo13, Ev.p_lo14, Ev.p_lo15, Ev.p_lo16, Ev.p_lo17, Ev.p_lo18, Ev.p_lo19, Ev.p_lo20, Ev.p_lo21, Ev.p_lo22, Ev.p_lo23, Ev.p_lo24, Ev.p_p18, Ev.p_p40, Ev.p_lpN, Ev.p_lpC, Ev.p_lpB, Ev.p_lpR, Ev.p_for, Ev.p_whT, Ev.p_whF, Ev.p_lc, Ev.p_callAr, Ev.p_callO1, Ev.p_callO2, Ev.p_refV, Ev.p_refR, Ev.p_ref0, Ev.p_ga, Ev.p_ga0, Ev.p_gaO, Ev.p_gaV, Ev.p_gaR, Ev.p_leF, Ev.p_leL, Ev.p_leO, Ev.p_leN, Ev.p_sc, Ev.p_sc0, Ev.p_scN, Ev.p_scFs, Ev.p_scLs, Ev.p_scOn, Ev.p_scOl, Ev.p_scNn, Ev.p_scNl, Ev.p_fiR, Ev.p_fiV, Ev.p_fi0, Ev.fin_rt, Ev.fin_nx, Ev.ou_ln, Ev.ou_fz, Ev.ou_0, Ev.at_0, Ev.at_1, Ev.at_2, Ev.at_3, Ev.p_lenS, Ev.p_lenO, Ev.p_bind, Ev.q_ok, List.getElem?_cons_zero, List.getElem?_cons_succ, List.set_cons_zero, List.set_cons_succ, List.length_cons, List.length_nil, List.cons_append, List.nil_append, Option.map_some, ↓reduceIte, Bool.not_true, Bool.not_false, decide_true, decide_false, Ev.p_div, Ev.p_mod, Ev.p_pow, Ev.p_mul, Ev.dist, List.contains_cons, List.contains_nil, Bool.or_false, Bool.false_and, Bool.and_true, Bool.true_and, Nat.reduceAdd, Nat.reduceBEq, Ev.permN, Ev.perm, List.map_cons, List.map_nil, List.getD_cons_zero, List.getD_cons_succ, and_self, cond_true, cond_false, Int.cast_ofNat_Int, Int.natCast_one, Int.natCast_zero, Int.reduceEq, Int.reduceLE, Int.reduceLT, Int.reduceNeg, Int.reduceGT, Int.reduceAdd, Int.reduceMul, Int.reduceSub, Int.reduceToNat, Int.reducePow, Int.reduceNe, reduceCtorEq, eq_self, e, ea]
    exact ⟨by decide, trivial⟩
  obtain ⟨_, _, e, rfl, rfl⟩ := w
  exact ⟨_, t', e, ht, List.getElem_mem hn⟩

theorem tr_b (b : Bool) : truth (.bl b) = some b := rfl
theorem non_i (i : Int) : isNon (.int i) = false := rfl
theorem isint_sp (i : Int) : m_is_integer [.fz (.int i)] = .ok (.fz (.bl true)) [.fz (.int i)] := by
  have e1 : bIsi [.int i, .ty .int] = some (.fz (.bl true)) := rfl
  have e2 : bIsi [.int i, .ty .bool] = some (.fz (.bl false)) := rfl
  have w : Fw (m_is_integer [.fz (.int i)]) fun r os => r = .fz (.bl true) ∧ os = [.fz (.int i)] := by
    refine fw_fin ?_
    change Wq (b_is_integer [.fz (.int i)]) _
    unfold b_is_integer
    simp only [Ev.p_pure, Ev.p_ok, Ev.p_toD, Ev.p_kDf, Ev.p_kDn, Ev.p_toV, Ev.p_kV, Ev.p_some, Ev.p_var, Ev.p_varF, Ev.p_varL, Ev.p_varO, Ev.p_varN, Ev.p_mov, Ev.p_movF, Ev.p_movL, Ev.p_movO, Ev.p_movN, Ev.p_ev2, Ev.p_k2, Ev.p_k2', Ev.p_ev2T, Ev.p_kT, Ev.p_kT', Ev.p_vb, Ev.p_ev1, Ev.p_evC, Ev.p_evL, Ev.p_evO, Ev.p_evSeq, Ev.p_tTruth, Ev.p_kf, Ev.p_cons, Ev.p_vcons, Ev.p_acons, Ev.p_kC1, Ev.p_kC2, Ev.p_arV, Ev.p_kAr, Ev.p_arR, Ev.p_arF, Ev.p_arOw, Ev.p_arN, Ev.p_arL, Ev.p_call, Ev.p_kL1, Ev.p_kL2, Ev.p_if, Ev.p_kIt, Ev.p_kIf, Ev.p_tAnd, Ev.p_tOr, Ev.p_tNot, Ev.p_kN, Ev.p_and, Ev.p_kA, Ev.p_or, Ev.p_kO, Ev.p_not, Ev.p_kNt, Ev.p_ixS, Ev.p_ixO, Ev.p_kX, Ev.p_kXO, Ev.p_slotD, Ev.p_slF, Ev.p_slO, Ev.p_slN, Ev.p_slL, Ev.p_seq, Ev.p_kSn, Ev.p_kSr, Ev.p_kSb, Ev.p_kSc, Ev.p_slot, Ev.p_setU, Ev.p_setF, Ev.p_setO, Ev.p_ofF, Ev.p_ofN, Ev.p_kNx, Ev.p_set, Ev.p_kSet, Ev.p_ret, Ev.p_kRt, Ev.p_expr, Ev.p_kEx, Ev.p_par, Ev.p_kPar, Ev.p_kSs, Ev.p_ss0, Ev.p_ss, Ev.p_asg, Ev.p_kAsg, Ev.p_unp, Ev.p_gs, Ev.p_kG, Ev.p_gs0, Ev.p_gIx, Ev.p_gIO, Ev.p_kUp, Ev.p_upd, Ev.p_upO, Ev.p_upN, Ev.p_upDt, Ev.p_upDf, Ev.p_put, Ev.p_mut, Ev.p_mutO, Ev.p_kNon, Ev.p_kM1, Ev.p_app, Ev.p_sl, Ev.p_kSl1, Ev.p_kSl2, Ev.p_kSl3, Ev.p_add, Ev.p_addL, Ev.p_i2, Ev.p_u1, Ev.p_lt, Ev.p_le, Ev.p_gt, Ev.p_ge, Ev.p_eqI, Ev.p_neI, Ev.p_eqS, Ev.p_neS, Ev.p_isB, Ev.p_isN, Ev.p_notN, Ev.p_tup, Ev.p_lst, Ev.p_abs, Ev.p_intI, Ev.p_intB, Ev.p_len, Ev.p_dlL, Ev.p_dlT, Ev.p_itL, Ev.p_itT, Ev.p_d, Ev.p_dn, Ev.p_rng1, Ev.p_rng2, Ev.p_lo0, Ev.p_lo1, Ev.p_lo2, Ev.p_lo3, Ev.p_lo4, Ev.p_lo5, Ev.p_lo6, Ev.p_lo7, Ev.p_lo8, Ev.p_lo9, Ev.p_lo10, Ev.p_lo11, Ev.p_lo12, Ev.p_lo13, Ev.p_lo14, Ev.p_lo15, Ev.p_lo16, Ev.p_lo17, Ev.p_lo18, Ev.p_lo19, Ev.p_lo20, Ev.p_lo21, Ev.p_lo22, Ev.p_lo23, Ev.p_lo24, Ev.p_p18, Ev.p_p40, Ev.p_lpN, Ev.p_lpC, Ev.p_lpB, Ev.p_lpR, Ev.p_for, Ev.p_whT, Ev.p_whF, Ev.p_lc, Ev.p_callAr, Ev.p_callO1, Ev.p_callO2, Ev.p_refV, Ev.p_refR, Ev.p_ref0, Ev.p_ga, Ev.p_ga0, Ev.p_gaO, Ev.p_gaV, Ev.p_gaR, Ev.p_leF, Ev.p_leL, Ev.p_leO, Ev.p_leN, Ev.p_sc, Ev.p_sc0, Ev.p_scN, Ev.p_scFs, Ev.p_scLs, Ev.p_scOn, Ev.p_scOl, Ev.p_scNn, Ev.p_scNl, Ev.p_fiR, Ev.p_fiV, Ev.p_fi0, Ev.fin_rt, Ev.fin_nx, Ev.ou_ln, Ev.ou_fz, Ev.ou_0, Ev.at_0, Ev.at_1, Ev.at_2, Ev.at_3, Ev.p_lenS, Ev.p_lenO, Ev.p_bind, Ev.q_ok, List.getElem?_cons_zero, List.getElem?_cons_succ, List.set_cons_zero, List.set_cons_succ, List.length_cons, List.length_nil, List.cons_append, List.nil_append, Option.map_some, ↓reduceIte, Bool.not_true, Bool.not_false, decide_true, decide_false, Ev.p_div, Ev.p_mod, Ev.p_pow, Ev.p_mul, Ev.dist, List.contains_cons, List.contains_nil, Bool.or_false, Bool.false_and, Bool.and_true, Bool.true_and, Nat.reduceAdd, Nat.reduceBEq, Ev.permN, Ev.perm, List.map_cons, List.map_nil, List.getD_cons_zero, List.getD_cons_succ, and_self, cond_true, cond_false, Int.cast_ofNat_Int, Int.natCast_one, Int.natCast_zero, Int.reduceEq, Int.reduceLE, Int.reduceLT, Int.reduceNeg, Int.reduceGT, Int.reduceAdd, Int.reduceMul, Int.reduceSub, Int.reduceToNat, Int.reducePow, Int.reduceNe, reduceCtorEq, eq_self, e1, e2]
    exact ⟨by decide, trivial⟩
  obtain ⟨_, _, e, rfl, rfl⟩ := w
  exact e
theorem within_sp (v lo hi : Int) (h1 : lo ≤ v) (h2 : v ≤ hi) : m_is_within [.fz (.int v), .fz (.int lo), .fz (.int hi)] = .ok (.fz (.bl true)) [.fz (.int v), .fz (.int lo), .fz (.int hi)] := by
  have w : Fw (m_is_within [.fz (.int v), .fz (.int lo), .fz (.int hi)]) fun r os => r = .fz (.bl true) ∧ os = [.fz (.int v), .fz (.int lo), .fz (.int hi)] := by
    refine fw_fin ?_
    change Wq (b_is_within [.fz (.int v), .fz (.int lo), .fz (.int hi)]) _
    unfold b_is_within
    simp only [Ev.p_pure, Ev.p_ok, Ev.p_toD, Ev.p_kDf, Ev.p_kDn, Ev.p_toV, Ev.p_kV, Ev.p_some, Ev.p_var, Ev.p_varF, Ev.p_varL, Ev.p_varO, Ev.p_varN, Ev.p_mov, Ev.p_movF, Ev.p_movL, Ev.p_movO, Ev.p_movN, Ev.p_ev2, Ev.p_k2, Ev.p_k2', Ev.p_ev2T, Ev.p_kT, Ev.p_kT', Ev.p_vb, Ev.p_ev1, Ev.p_evC, Ev.p_evL, Ev.p_evO, Ev.p_evSeq, Ev.p_tTruth, Ev.p_kf, Ev.p_cons, Ev.p_vcons, Ev.p_acons, Ev.p_kC1, Ev.p_kC2, Ev.p_arV, Ev.p_kAr, Ev.p_arR, Ev.p_arF, Ev.p_arOw, Ev.p_arN, Ev.p_arL, Ev.p_call, Ev.p_kL1, Ev.p_kL2, Ev.p_if, Ev.p_kIt, Ev.p_kIf, Ev.p_tAnd, Ev.p_tOr, Ev.p_tNot, Ev.p_kN, Ev.p_and, Ev.p_kA, Ev.p_or, Ev.p_kO, Ev.p_not, Ev.p_kNt, Ev.p_ixS, Ev.p_ixO, Ev.p_kX, Ev.p_kXO, Ev.p_slotD, Ev.p_slF, Ev.p_slO, Ev.p_slN, Ev.p_slL, Ev.p_seq, Ev.p_kSn, Ev.p_kSr, Ev.p_kSb, Ev.p_kSc, Ev.p_slot, Ev.p_setU, Ev.p_setF, Ev.p_setO, Ev.p_ofF, Ev.p_ofN, Ev.p_kNx, Ev.p_set, Ev.p_kSet, Ev.p_ret, Ev.p_kRt, Ev.p_expr, Ev.p_kEx, Ev.p_par, Ev.p_kPar, Ev.p_kSs, Ev.p_ss0, Ev.p_ss, Ev.p_asg, Ev.p_kAsg, Ev.p_unp, Ev.p_gs, Ev.p_kG, Ev.p_gs0, Ev.p_gIx, Ev.p_gIO, Ev.p_kUp, Ev.p_upd, Ev.p_upO, Ev.p_upN, Ev.p_upDt, Ev.p_upDf, Ev.p_put, Ev.p_mut, Ev.p_mutO, Ev.p_kNon, Ev.p_kM1, Ev.p_app, Ev.p_sl, Ev.p_kSl1, Ev.p_kSl2, Ev.p_kSl3, Ev.p_add, Ev.p_addL, Ev.p_i2, Ev.p_u1, Ev.p_lt, Ev.p_le, Ev.p_gt, Ev.p_ge, Ev.p_eqI, Ev.p_neI, Ev.p_eqS, Ev.p_neS, Ev.p_isB, Ev.p_isN, Ev.p_notN, Ev.p_tup, Ev.p_lst, Ev.p_abs, Ev.p_intI, Ev.p_intB, Ev.p_len, Ev.p_dlL, Ev.p_dlT, Ev.p_itL, Ev.p_itT, Ev.p_d, Ev.p_dn, Ev.p_rng1, Ev.p_rng2, Ev.p_lo0, Ev.p_lo1, Ev.p_lo2, Ev.p_lo3, Ev.p_lo4, Ev.p_lo5, Ev.p_lo6, Ev.p_lo7, Ev.p_lo8, Ev.p_lo9, Ev.p_lo10, Ev.p_lo11, Ev.p_lo12, Ev.p_lo13, Ev.p_lo14, Ev.p_lo15, Ev.p_lo16, Ev.p_lo17, Ev.p_lo18, Ev.p_lo19, Ev.p_lo20, Ev.p_lo21, Ev.p_lo22, Ev.p_lo23, Ev.p_lo24, Ev.p_p18, Ev.p_p40, Ev.p_lpN, Ev.p_lpC, Ev.p_lpB, Ev.p_lpR, Ev.p_for, Ev.p_whT, Ev.p_whF, Ev.p_lc, Ev.p_callAr, Ev.p_callO1, Ev.p_callO2, Ev.p_refV, Ev.p_refR, Ev.p_ref0, Ev.p_ga, Ev.p_ga0, Ev.p_gaO, Ev.p_gaV, Ev.p_gaR, Ev.p_leF, Ev.p_leL, Ev.p_leO, Ev.p_leN, Ev.p_sc, Ev.p_sc0, Ev.p_scN, Ev.p_scFs, Ev.p_scLs, Ev.p_scOn, Ev.p_scOl, Ev.p_scNn, Ev.p_scNl, Ev.p_fiR, Ev.p_fiV, Ev.p_fi0, Ev.fin_rt, Ev.fin_nx, Ev.ou_ln, Ev.ou_fz, Ev.ou_0, Ev.at_0, Ev.at_1, Ev.at_2, Ev.at_3, Ev.p_lenS, Ev.p_lenO, Ev.p_bind, Ev.q_ok, List.getElem?_cons_zero, List.getElem?_cons_succ, List.set_cons_zero, List.set_cons_succ, List.length_cons, List.length_nil, List.cons_append, List.nil_append, Option.map_some, ↓reduceIte, Bool.not_true, Bool.not_false, decide_true, decide_false, Ev.p_div, Ev.p_mod, Ev.p_pow, Ev.p_mul, Ev.dist, List.contains_cons, List.contains_nil, Bool.or_false, Bool.false_and, Bool.and_true, Bool.true_and, Nat.reduceAdd, Nat.reduceBEq, Ev.permN, Ev.perm, List.map_cons, List.map_nil, List.getD_cons_zero, List.getD_cons_succ, and_self, cond_true, cond_false, Int.cast_ofNat_Int, Int.natCast_one, Int.natCast_zero, Int.reduceEq, Int.reduceLE, Int.reduceLT, Int.reduceNeg, Int.reduceGT, Int.reduceAdd, Int.reduceMul, Int.reduceSub, Int.reduceToNat, Int.reducePow, Int.reduceNe, reduceCtorEq, eq_self, isint_sp v, tr_b, non_i, decide_eq_true h1, decide_eq_true h2]
    exact ⟨by decide, trivial⟩
  obtain ⟨_, _, e, rfl, rfl⟩ := w
  exact e
theorem need_sp (v lo hi : Int) (x : Str) (h1 : lo ≤ v) (h2 : v ≤ hi) : m_need_integer [.fz (.int v), .fz (.str x), .fz (.int lo), .fz (.int hi)] = .ok (.fz .non) [.fz (.int v), .fz (.str x), .fz (.int lo), .fz (.int hi)] := by
  have w : Fw (m_need_integer [.fz (.int v), .fz (.str x), .fz (.int lo), .fz (.int hi)]) fun r os => r = .fz .non ∧ os = [.fz (.int v), .fz (.str x), .fz (.int lo), .fz (.int hi)] := by
    refine fw_fin ?_
    change Wq (b_need_integer [.fz (.int v), .fz (.str x), .fz (.int lo), .fz (.int hi)]) _
    unfold b_need_integer
    simp only [Ev.p_pure, Ev.p_ok, Ev.p_toD, Ev.p_kDf, Ev.p_kDn, Ev.p_toV, Ev.p_kV, Ev.p_some, Ev.p_var, Ev.p_varF, Ev.p_varL, Ev.p_varO, Ev.p_varN, Ev.p_mov, Ev.p_movF, Ev.p_movL, Ev.p_movO, Ev.p_movN, Ev.p_ev2, Ev.p_k2, Ev.p_k2', Ev.p_ev2T, Ev.p_kT, Ev.p_kT', Ev.p_vb, Ev.p_ev1, Ev.p_evC, Ev.p_evL, Ev.p_evO, Ev.p_evSeq, Ev.p_tTruth, Ev.p_kf, Ev.p_cons, Ev.p_vcons, Ev.p_acons, Ev.p_kC1, Ev.p_kC2, Ev.p_arV, Ev.p_kAr, Ev.p_arR, Ev.p_arF, Ev.p_arOw, Ev.p_arN, Ev.p_arL, Ev.p_call, Ev.p_kL1, Ev.p_kL2, Ev.p_if, Ev.p_kIt, Ev.p_kIf, Ev.p_tAnd, Ev.p_tOr, Ev.p_tNot, Ev.p_kN, Ev.p_and, Ev.p_kA, Ev.p_or, Ev.p_kO, Ev.p_not, Ev.p_kNt, Ev.p_ixS, Ev.p_ixO, Ev.p_kX, Ev.p_kXO, Ev.p_slotD, Ev.p_slF, Ev.p_slO, Ev.p_slN, Ev.p_slL, Ev.p_seq, Ev.p_kSn, Ev.p_kSr, Ev.p_kSb, Ev.p_kSc, Ev.p_slot, Ev.p_setU, Ev.p_setF, Ev.p_setO, Ev.p_ofF, Ev.p_ofN, Ev.p_kNx, Ev.p_set, Ev.p_kSet, Ev.p_ret, Ev.p_kRt, Ev.p_expr, Ev.p_kEx, Ev.p_par, Ev.p_kPar, Ev.p_kSs, Ev.p_ss0, Ev.p_ss, Ev.p_asg, Ev.p_kAsg, Ev.p_unp, Ev.p_gs, Ev.p_kG, Ev.p_gs0, Ev.p_gIx, Ev.p_gIO, Ev.p_kUp, Ev.p_upd, Ev.p_upO, Ev.p_upN, Ev.p_upDt, Ev.p_upDf, Ev.p_put, Ev.p_mut, Ev.p_mutO, Ev.p_kNon, Ev.p_kM1, Ev.p_app, Ev.p_sl, Ev.p_kSl1, Ev.p_kSl2, Ev.p_kSl3, Ev.p_add, Ev.p_addL, Ev.p_i2, Ev.p_u1, Ev.p_lt, Ev.p_le, Ev.p_gt, Ev.p_ge, Ev.p_eqI, Ev.p_neI, Ev.p_eqS, Ev.p_neS, Ev.p_isB, Ev.p_isN, Ev.p_notN, Ev.p_tup, Ev.p_lst, Ev.p_abs, Ev.p_intI, Ev.p_intB, Ev.p_len, Ev.p_dlL, Ev.p_dlT, Ev.p_itL, Ev.p_itT, Ev.p_d, Ev.p_dn, Ev.p_rng1, Ev.p_rng2, Ev.p_lo0, Ev.p_lo1, Ev.p_lo2, Ev.p_lo3, Ev.p_lo4, Ev.p_lo5, Ev.p_lo6, Ev.p_lo7, Ev.p_lo8, Ev.p_lo9, Ev.p_lo10, Ev.p_lo11, Ev.p_lo12, Ev.p_lo13, Ev.p_lo14, Ev.p_lo15, Ev.p_lo16, Ev.p_lo17, Ev.p_lo18, Ev.p_lo19, Ev.p_lo20, Ev.p_lo21, Ev.p_lo22, Ev.p_lo23, Ev.p_lo24, Ev.p_p18, Ev.p_p40, Ev.p_lpN, Ev.p_lpC, Ev.p_lpB, Ev.p_lpR, Ev.p_for, Ev.p_whT, Ev.p_whF, Ev.p_lc, Ev.p_callAr, Ev.p_callO1, Ev.p_callO2, Ev.p_refV, Ev.p_refR, Ev.p_ref0, Ev.p_ga, Ev.p_ga0, Ev.p_gaO, Ev.p_gaV, Ev.p_gaR, Ev.p_leF, Ev.p_leL, Ev.p_leO, Ev.p_leN, Ev.p_sc, Ev.p_sc0, Ev.p_scN, Ev.p_scFs, Ev.p_scLs, Ev.p_scOn, Ev.p_scOl, Ev.p_scNn, Ev.p_scNl, Ev.p_fiR, Ev.p_fiV, Ev.p_fi0, Ev.fin_rt, Ev.fin_nx, Ev.ou_ln, Ev.ou_fz, Ev.ou_0, Ev.at_0, Ev.at_1, Ev.at_2, Ev.at_3, Ev.p_lenS, Ev.p_lenO, Ev.p_bind, Ev.q_ok, List.getElem?_cons_zero, List.getElem?_cons_succ, List.set_cons_zero, List.set_cons_succ, List.length_cons, List.length_nil, List.cons_append, List.nil_append, Option.map_some, ↓reduceIte, Bool.not_true, Bool.not_false, decide_true, decide_false, Ev.p_div, Ev.p_mod, Ev.p_pow, Ev.p_mul, Ev.dist, List.contains_cons, List.contains_nil, Bool.or_false, Bool.false_and, Bool.and_true, Bool.true_and, Nat.reduceAdd, Nat.reduceBEq, Ev.permN, Ev.perm, List.map_cons, List.map_nil, List.getD_cons_zero, List.getD_cons_succ, and_self, cond_true, cond_false, Int.cast_ofNat_Int, Int.natCast_one, Int.natCast_zero, Int.reduceEq, Int.reduceLE, Int.reduceLT, Int.reduceNeg, Int.reduceGT, Int.reduceAdd, Int.reduceMul, Int.reduceSub, Int.reduceToNat, Int.reducePow, Int.reduceNe, reduceCtorEq, eq_self, within_sp v lo hi h1 h2, tr_b]
    exact ⟨by decide, trivial⟩
  obtain ⟨_, _, e, rfl, rfl⟩ := w
  exact e
/-- in lowest terms -/
def lowD (a u : Int) : D := if u.fdiv (Int.gcd a u : Int) = 1 then .int (a.fdiv (Int.gcd a u : Int)) else .tup [.int (a.fdiv (Int.gcd a u : Int)), .int (u.fdiv (Int.gcd a u : Int))]
theorem gcd_pos {a u : Int} (h : 0 < u) : (0 : Int) < (Int.gcd a u : Int) ∧ (Int.gcd a u : Int) ≤ u := by
  have g1 : (Int.gcd a u : Int) ∣ u := Int.gcd_dvd_right ..
  have gp : (Int.gcd a u : Int) ≠ 0 := by
    intro z
    rw [z] at g1
    have := Int.zero_dvd.mp g1
    omega
  exact ⟨by omega, Int.le_of_dvd h g1⟩
theorem lowest_sp (a u : Int) (h : 0 < u) (hb : u.natAbs < 2 ^ 8000) : m_lowest [.fz (.int a), .fz (.int u)] = .ok (.fz (lowD a u)) [.fz (.int a), .fz (.int u)] := by
  obtain ⟨g0, g1⟩ := gcd_pos (a := a) h
  have dg : divOk (Int.gcd a u : Int) = true := divOk_of (b := 8000) (by omega) (Nat.lt_of_le_of_lt (by omega) hb) (by decide) (by decide)
  have hu : ¬ u < 0 := by omega
  have w : Fw (m_lowest [.fz (.int a), .fz (.int u)]) fun r os => r = .fz (lowD a u) ∧ os = [.fz (.int a), .fz (.int u)] := by
    refine fw_fin ?_
    change Wq (b_lowest [.fz (.int a), .fz (.int u), .un]) _
    unfold b_lowest
    by_cases h1 : u.fdiv (Int.gcd a u : Int) = 1
    · simp only [Ev.p_pure, Ev.p_ok, Ev.p_toD, Ev.p_kDf, Ev.p_kDn, Ev.p_toV, Ev.p_kV, Ev.p_some, Ev.p_var, Ev.p_varF, Ev.p_varL, Ev.p_varO, Ev.p_varN, Ev.p_mov, Ev.p_movF, Ev.p_movL, Ev.p_movO, Ev.p_movN, Ev.p_ev2, Ev.p_k2, Ev.p_k2', Ev.p_ev2T, Ev.p_kT, Ev.p_kT', Ev.p_vb, Ev.p_ev1, Ev.p_evC, Ev.p_evL, Ev.p_evO, Ev.p_evSeq, Ev.p_tTruth, Ev.p_kf, Ev.p_cons, Ev.p_vcons, Ev.p_acons, Ev.p_kC1, Ev.p_kC2, Ev.p_arV, Ev.p_kAr, Ev.p_arR, Ev.p_arF, Ev.p_arOw, Ev.p_arN, Ev.p_arL, Ev.p_call, Ev.p_kL1, Ev.p_kL2, Ev.p_if, Ev.p_kIt, Ev.p_kIf, Ev.p_tAnd, Ev.p_tOr, Ev.p_tNot, Ev.p_kN, Ev.p_and, Ev.p_kA, Ev.p_or, Ev.p_kO, Ev.p_not, Ev.p_kNt, Ev.p_ixS, Ev.p_ixO, Ev.p_kX, Ev.p_kXO, Ev.p_slotD, Ev.p_slF, Ev.p_slO, Ev.p_slN, Ev.p_slL, Ev.p_seq, Ev.p_kSn, Ev.p_kSr, Ev.p_kSb, Ev.p_kSc, Ev.p_slot, Ev.p_setU, Ev.p_setF, Ev.p_setO, Ev.p_ofF, Ev.p_ofN, Ev.p_kNx, Ev.p_set, Ev.p_kSet, Ev.p_ret, Ev.p_kRt, Ev.p_expr, Ev.p_kEx, Ev.p_par, Ev.p_kPar, Ev.p_kSs, Ev.p_ss0, Ev.p_ss, Ev.p_asg, Ev.p_kAsg, Ev.p_unp, Ev.p_gs, Ev.p_kG, Ev.p_gs0, Ev.p_gIx, Ev.p_gIO, Ev.p_kUp, Ev.p_upd, Ev.p_upO, Ev.p_upN, Ev.p_upDt, Ev.p_upDf, Ev.p_put, Ev.p_mut, Ev.p_mutO, Ev.p_kNon, Ev.p_kM1, Ev.p_app, Ev.p_sl, Ev.p_kSl1, Ev.p_kSl2, Ev.p_kSl3, Ev.p_add, Ev.p_addL, Ev.p_i2, Ev.p_u1, Ev.p_lt, Ev.p_le, Ev.p_gt, Ev.p_ge, Ev.p_eqI, Ev.p_neI, Ev.p_eqS, Ev.p_neS, Ev.p_isB, Ev.p_isN, Ev.p_notN, Ev.p_tup, Ev.p_lst, Ev.p_abs, Ev.p_intI, Ev.p_intB, Ev.p_len, Ev.p_dlL, Ev.p_dlT, Ev.p_itL, Ev.p_itT, Ev.p_d, Ev.p_dn, Ev.p_rng1, Ev.p_rng2, Ev.p_lo0, Ev.p_lo1, Ev.p_lo2, Ev.p_lo3, Ev.p_lo4, Ev.p_lo5, Ev.p_lo6, Ev.p_lo7, Ev.p_lo8, Ev.p_lo9, Ev.p_lo10, Ev.p_lo11, Ev.p_lo12, Ev.p_lo13, Ev.p_lo14, Ev.p_lo15, Ev.p_lo16, Ev.p_lo17, Ev.p_lo18, Ev.p_lo19, Ev.p_lo20, Ev.p_lo21, Ev.p_lo22, Ev.p_lo23, Ev.p_lo24, Ev.p_p18, Ev.p_p40, Ev.p_lpN, Ev.p_lpC, Ev.p_lpB, Ev.p_lpR, Ev.p_for, Ev.p_whT, Ev.p_whF, Ev.p_lc, Ev.p_callAr, Ev.p_callO1, Ev.p_callO2, Ev.p_refV, Ev.p_refR, Ev.p_ref0, Ev.p_ga, Ev.p_ga0, Ev.p_gaO, Ev.p_gaV, Ev.p_gaR, Ev.p_leF, Ev.p_leL, Ev.p_leO, Ev.p_leN, Ev.p_sc, Ev.p_sc0, Ev.p_scN, Ev.p_scFs, Ev.p_scLs, Ev.p_scOn, Ev.p_scOl, Ev.p_scNn, Ev.p_scNl, Ev.p_fiR, Ev.p_fiV, Ev.p_fi0, Ev.fin_rt, Ev.fin_nx, Ev.ou_ln, Ev.ou_fz, Ev.ou_0, Ev.at_0, Ev.at_1, Ev.at_2, Ev.at_3, Ev.p_lenS, Ev.p_lenO, Ev.p_bind, Ev.q_ok, List.getElem?_cons_zero, List.getElem?_cons_succ, List.set_cons_zero, List.set_cons_succ, List.length_cons, List.length_nil, List.cons_append, List.nil_append, Option.map_some, ↓reduceIte, Bool.not_true, Bool.not_false, decide_true, decide_false, Ev.p_div, Ev.p_mod, Ev.p_pow, Ev.p_mul, Ev.dist, List.contains_cons, List.contains_nil, Bool.or_false, Bool.false_and, Bool.and_true, Bool.true_and, Nat.reduceAdd, Nat.reduceBEq, Ev.permN, Ev.perm, List.map_cons, List.map_nil, List.getD_cons_zero, List.getD_cons_succ, and_self, cond_true, cond_false, Int.cast_ofNat_Int, Int.natCast_one, Int.natCast_zero, Int.reduceEq, Int.reduceLE, Int.reduceLT, Int.reduceNeg, Int.reduceGT, Int.reduceAdd, Int.reduceMul, Int.reduceSub, Int.reduceToNat, Int.reducePow, Int.reduceNe, reduceCtorEq, eq_self, common_sp a u, decide_eq_false hu, Ev.p_div _ _ dg, decide_eq_true h1]
      refine ⟨by decide, ?_, trivial⟩
      unfold lowD
      rw [if_pos h1]
    · simp only [Ev.p_pure, Ev.p_ok, Ev.p_toD, Ev.p_kDf, Ev.p_kDn, Ev.p_toV, Ev.p_kV, Ev.p_some, Ev.p_var, Ev.p_varF, Ev.p_varL, Ev.p_varO, Ev.p_varN, Ev.p_mov, Ev.p_movF, Ev.p_movL, Ev.p_movO, Ev.p_movN, Ev.p_ev2, Ev.p_k2, Ev.p_k2', Ev.p_ev2T, Ev.p_kT, Ev.p_kT', Ev.p_vb, Ev.p_ev1, Ev.p_evC, Ev.p_evL, Ev.p_evO, Ev.p_evSeq, Ev.p_tTruth, Ev.p_kf, Ev.p_cons, Ev.p_vcons, Ev.p_acons, Ev.p_kC1, Ev.p_kC2, Ev.p_arV, Ev.p_kAr, Ev.p_arR, Ev.p_arF, Ev.p_arOw, Ev.p_arN, Ev.p_arL, Ev.p_call, Ev.p_kL1, Ev.p_kL2, Ev.p_if, Ev.p_kIt, Ev.p_kIf, Ev.p_tAnd, Ev.p_tOr, Ev.p_tNot, Ev.p_kN, Ev.p_and, Ev.p_kA, Ev.p_or, Ev.p_kO, Ev.p_not, Ev.p_kNt, Ev.p_ixS, Ev.p_ixO, Ev.p_kX, Ev.p_kXO, Ev.p_slotD, Ev.p_slF, Ev.p_slO, Ev.p_slN, Ev.p_slL, Ev.p_seq, Ev.p_kSn, Ev.p_kSr, Ev.p_kSb, Ev.p_kSc, Ev.p_slot, Ev.p_setU, Ev.p_setF, Ev.p_setO, Ev.p_ofF, Ev.p_ofN, Ev.p_kNx, Ev.p_set, Ev.p_kSet, Ev.p_ret, Ev.p_kRt, Ev.p_expr, Ev.p_kEx, Ev.p_par, Ev.p_kPar, Ev.p_kSs, Ev.p_ss0, Ev.p_ss, Ev.p_asg, Ev.p_kAsg, Ev.p_unp, Ev.p_gs, Ev.p_kG, Ev.p_gs0, Ev.p_gIx, Ev.p_gIO, Ev.p_kUp, Ev.p_upd, Ev.p_upO, Ev.p_upN, Ev.p_upDt, Ev.p_upDf, Ev.p_put, Ev.p_mut, Ev.p_mutO, Ev.p_kNon, Ev.p_kM1, Ev.p_app, Ev.p_sl, Ev.p_kSl1, Ev.p_kSl2, Ev.p_kSl3, Ev.p_add, Ev.p_addL, Ev.p_i2, Ev.p_u1, Ev.p_lt, Ev.p_le, Ev.p_gt, Ev.p_ge, Ev.p_eqI, Ev.p_neI, Ev.p_eqS, Ev.p_neS, Ev.p_isB, Ev.p_isN, Ev.p_notN, Ev.p_tup, Ev.p_lst, Ev.p_abs, Ev.p_intI, Ev.p_intB, Ev.p_len, Ev.p_dlL, Ev.p_dlT, Ev.p_itL, Ev.p_itT, Ev.p_d, Ev.p_dn, Ev.p_rng1, Ev.p_rng2, Ev.p_lo0, Ev.p_lo1, Ev.p_lo2, Ev.p_lo3, Ev.p_lo4, Ev.p_lo5, Ev.p_lo6, Ev.p_lo7, Ev.p_lo8, Ev.p_lo9, Ev.p_lo10, Ev.p_lo11, Ev.p_lo12, Ev.p_lo13, Ev.p_lo14, Ev.p_lo15, Ev.p_lo16, Ev.p_lo17, Ev.p_lo18, Ev.p_lo19, Ev.p_lo20, Ev.p_lo21, Ev.p_lo22, Ev.p_lo23, Ev.p_lo24, Ev.p_p18, Ev.p_p40, Ev.p_lpN, Ev.p_lpC, Ev.p_lpB, Ev.p_lpR, Ev.p_for, Ev.p_whT, Ev.p_whF, Ev.p_lc, Ev.p_callAr, Ev.p_callO1, Ev.p_callO2, Ev.p_refV, Ev.p_refR, Ev.p_ref0, Ev.p_ga, Ev.p_ga0, Ev.p_gaO, Ev.p_gaV, Ev.p_gaR, Ev.p_leF, Ev.p_leL, Ev.p_leO, Ev.p_leN, Ev.p_sc, Ev.p_sc0, Ev.p_scN, Ev.p_scFs, Ev.p_scLs, Ev.p_scOn, Ev.p_scOl, Ev.p_scNn, Ev.p_scNl, Ev.p_fiR, Ev.p_fiV, Ev.p_fi0, Ev.fin_rt, Ev.fin_nx, Ev.ou_ln, Ev.ou_fz, Ev.ou_0, Ev.at_0, Ev.at_1, Ev.at_2, Ev.at_3, Ev.p_lenS, Ev.p_lenO, Ev.p_bind, Ev.q_ok, List.getElem?_cons_zero, List.getElem?_cons_succ, List.set_cons_zero, List.set_cons_succ, List.length_cons, List.length_nil, List.cons_append, List.nil_append, Option.map_some, ↓reduceIte, Bool.not_true, Bool.not_false, decide_true, decide_false, Ev.p_div, Ev.p_mod, Ev.p_pow, Ev.p_mul, Ev.dist, List.contains_cons, List.contains_nil, Bool.or_false, Bool.false_and, Bool.and_true, Bool.true_and, Nat.reduceAdd, Nat.reduceBEq, Ev.permN, Ev.perm, List.map_cons, List.map_nil, List.getD_cons_zero, List.getD_cons_succ, and_self, cond_true, cond_false, Int.cast_ofNat_Int, Int.natCast_one, Int.natCast_zero, Int.reduceEq, Int.reduceLE, Int.reduceLT, Int.reduceNeg, Int.reduceGT, Int.reduceAdd, Int.reduceMul, Int.reduceSub, Int.reduceToNat, Int.reducePow, Int.reduceNe, reduceCtorEq, eq_self, common_sp a u, decide_eq_false hu, Ev.p_div _ _ dg, decide_eq_false h1]
      refine ⟨by decide, ?_, trivial⟩
      unfold lowD
      rw [if_neg h1]
  obtain ⟨_, _, e, rfl, rfl⟩ := w
  exact e
theorem and_one {l : Int} (h : 0 ≤ l) : Builtin.bitAnd l 1 = l % 2 := PySem.W.kbt_mask l 1
theorem pow_lt {i : Int} (hi : i.natAbs < 2 ^ 8) (k : Nat) : (i ^ k).natAbs < 2 ^ (8 * k + 1) := by
  rw [Int.natAbs_pow]
  have h1 : i.natAbs ^ k ≤ (2 ^ 8) ^ k := Nat.pow_le_pow_left (by omega) k
  rw [← Nat.pow_mul] at h1
  have h2 : 2 ^ (8 * k) < 2 ^ (8 * k + 1) := Nat.pow_lt_pow_right (by omega) (by omega)
  omega
theorem raised_sp (i : Int) (n : Nat) (hi : i.natAbs < 2 ^ 8) (hn : n ≤ 1000) : m_raised [.fz (.int i), .fz (.int n)] = .ok (.fz (.int (i ^ n))) [.fz (.int i), .fz (.int n)] := by
  have w : Fw (m_raised [.fz (.int i), .fz (.int n)]) fun r os => r = .fz (.int (i ^ n)) ∧ os = [.fz (.int i), .fz (.int n)] := by
    refine fw_fin ?_
    change Wq (b_raised [.fz (.int i), .fz (.int n), .un, .un, .un]) _
    unfold b_raised
    simp only [Ev.p_pure, Ev.p_ok, Ev.p_toD, Ev.p_kDf, Ev.p_kDn, Ev.p_toV, Ev.p_kV, Ev.p_some, Ev.p_var, Ev.p_varF, Ev.p_varL, Ev.p_varO, Ev.p_varN, Ev.p_mov, Ev.p_movF, Ev.p_movL, Ev.p_movO, Ev.p_movN, Ev.p_ev2, Ev.p_k2, Ev.p_k2', Ev.p_ev2T, Ev.p_kT, Ev.p_kT', Ev.p_vb, Ev.p_ev1, Ev.p_evC, Ev.p_evL, Ev.p_evO, Ev.p_evSeq, Ev.p_tTruth, Ev.p_kf, Ev.p_cons, Ev.p_vcons, Ev.p_acons, Ev.p_kC1, Ev.p_kC2, Ev.p_arV, Ev.p_kAr, Ev.p_arR, Ev.p_arF, Ev.p_arOw, Ev.p_arN, Ev.p_arL, Ev.p_call, Ev.p_kL1, Ev.p_kL2, Ev.p_if, Ev.p_kIt, Ev.p_kIf, Ev.p_tAnd, Ev.p_tOr, Ev.p_tNot, Ev.p_kN, Ev.p_and, Ev.p_kA, Ev.p_or, Ev.p_kO, Ev.p_not, Ev.p_kNt, Ev.p_ixS, Ev.p_ixO, Ev.p_kX, Ev.p_kXO, Ev.p_slotD, Ev.p_slF, Ev.p_slO, Ev.p_slN, Ev.p_slL, Ev.p_seq, Ev.p_kSn, Ev.p_kSr, Ev.p_kSb, Ev.p_kSc, Ev.p_slot, Ev.p_setU, Ev.p_setF, Ev.p_setO, Ev.p_ofF, Ev.p_ofN, Ev.p_kNx, Ev.p_set, Ev.p_kSet, Ev.p_ret, Ev.p_kRt, Ev.p_expr, Ev.p_kEx, Ev.p_par, Ev.p_kPar, Ev.p_kSs, Ev.p_ss0, Ev.p_ss, Ev.p_asg, Ev.p_kAsg, Ev.p_unp, Ev.p_gs, Ev.p_kG, Ev.p_gs0, Ev.p_gIx, Ev.p_gIO, Ev.p_kUp, Ev.p_upd, Ev.p_upO, Ev.p_upN, Ev.p_upDt, Ev.p_upDf, Ev.p_put, Ev.p_mut, Ev.p_mutO, Ev.p_kNon, Ev.p_kM1, Ev.p_app, Ev.p_sl, Ev.p_kSl1, Ev.p_kSl2, Ev.p_kSl3, Ev.p_add, Ev.p_addL, Ev.p_i2, Ev.p_u1, Ev.p_lt, Ev.p_le, Ev.p_gt, Ev.p_ge, Ev.p_eqI, Ev.p_neI, Ev.p_eqS, Ev.p_neS, Ev.p_isB, Ev.p_isN, Ev.p_notN, Ev.p_tup, Ev.p_lst, Ev.p_abs, Ev.p_intI, Ev.p_intB, Ev.p_len, Ev.p_dlL, Ev.p_dlT, Ev.p_itL, Ev.p_itT, Ev.p_d, Ev.p_dn, Ev.p_rng1, Ev.p_rng2, Ev.p_lo0, Ev.p_lo1, Ev.p_lo2, Ev.p_lo3, Ev.p_lo4, Ev.p_lo5, Ev.p_lo6, Ev.p_lo7, Ev.p_lo8, Ev.p_lo9, Ev.p_lo10, Ev.p_lo11, Ev.p_lo12, Ev.p_lo13, Ev.p_lo14, Ev.p_lo15, Ev.p_lo16, Ev.p_lo17, Ev.p_lo18, Ev.p_lo19, Ev.p_lo20, Ev.p_lo21, Ev.p_lo22, Ev.p_lo23, Ev.p_lo24, Ev.p_p18, Ev.p_p40, Ev.p_lpN, Ev.p_lpC, Ev.p_lpB, Ev.p_lpR, Ev.p_for, Ev.p_whT, Ev.p_whF, Ev.p_lc, Ev.p_callAr, Ev.p_callO1, Ev.p_callO2, Ev.p_refV, Ev.p_refR, Ev.p_ref0, Ev.p_ga, Ev.p_ga0, Ev.p_gaO, Ev.p_gaV, Ev.p_gaR, Ev.p_leF, Ev.p_leL, Ev.p_leO, Ev.p_leN, Ev.p_sc, Ev.p_sc0, Ev.p_scN, Ev.p_scFs, Ev.p_scLs, Ev.p_scOn, Ev.p_scOl, Ev.p_scNn, Ev.p_scNl, Ev.p_fiR, Ev.p_fiV, Ev.p_fi0, Ev.fin_rt, Ev.fin_nx, Ev.ou_ln, Ev.ou_fz, Ev.ou_0, Ev.at_0, Ev.at_1, Ev.at_2, Ev.at_3, Ev.p_lenS, Ev.p_lenO, Ev.p_bind, Ev.q_ok, List.getElem?_cons_zero, List.getElem?_cons_succ, List.set_cons_zero, List.set_cons_succ, List.length_cons, List.length_nil, List.cons_append, List.nil_append, Option.map_some, ↓reduceIte, Bool.not_true, Bool.not_false, decide_true, decide_false, Ev.p_div, Ev.p_mod, Ev.p_pow, Ev.p_mul, Ev.dist, List.contains_cons, List.contains_nil, Bool.or_false, Bool.false_and, Bool.and_true, Bool.true_and, Nat.reduceAdd, Nat.reduceBEq, Ev.permN, Ev.perm, List.map_cons, List.map_nil, List.getD_cons_zero, List.getD_cons_succ, and_self, cond_true, cond_false, Int.cast_ofNat_Int, Int.natCast_one, Int.natCast_zero, Int.reduceEq, Int.reduceLE, Int.reduceLT, Int.reduceNeg, Int.reduceGT, Int.reduceAdd, Int.reduceMul, Int.reduceSub, Int.reduceToNat, Int.reducePow, Int.reduceNe, reduceCtorEq, eq_self]
    rw [q_bind]
    refine while_inv (I := fun m ρ => ∃ p q l : Nat, ρ = [.fz (.int i), .fz (.int n), .fz (.int (i ^ q)), .fz (.int (i ^ p)), .fz (.int l)] ∧ q + p * l = n ∧ m = l ∧ (0 < l → p ≤ n)) (fun m ρ h => ?_) n _ ⟨1, 0, n, by rw [Int.pow_zero, show i ^ 1 = i by rw [Int.pow_succ, Int.pow_zero, Int.one_mul]], by omega, rfl, fun _ => by omega⟩
    obtain ⟨p, q, l, rfl, hs, rfl, hp⟩ := h
    simp only [Ev.p_pure, Ev.p_ok, Ev.p_toD, Ev.p_kDf, Ev.p_kDn, Ev.p_toV, Ev.p_kV, Ev.p_some, Ev.p_var, Ev.p_varF, Ev.p_varL, Ev.p_varO, Ev.p_varN, Ev.p_mov, Ev.p_movF, Ev.p_movL, Ev.p_movO, Ev.p_movN, Ev.p_ev2, Ev.p_k2, Ev.p_k2', Ev.p_ev2T, Ev.p_kT, Ev.p_kT', Ev.p_vb, Ev.p_ev1, Ev.p_evC, Ev.p_evL, Ev.p_evO, Ev.p_evSeq, Ev.p_tTruth, Ev.p_kf, Ev.p_cons, Ev.p_vcons, Ev.p_acons, Ev.p_kC1, Ev.p_kC2, Ev.p_arV, Ev.p_kAr, Ev.p_arR, Ev.p_arF, Ev.p_arOw, Ev.p_arN, Ev.p_arL, Ev.p_call, Ev.p_kL1, Ev.p_kL2, Ev.p_if, Ev.p_kIt, Ev.p_kIf, Ev.p_tAnd, Ev.p_tOr, Ev.p_tNot, Ev.p_kN, Ev.p_and, Ev.p_kA, Ev.p_or, Ev.p_kO, Ev.p_not, Ev.p_kNt, Ev.p_ixS, Ev.p_ixO, Ev.p_kX, Ev.p_kXO, Ev.p_slotD, Ev.p_slF, Ev.p_slO, Ev.p_slN, Ev.p_slL, Ev.p_seq, Ev.p_kSn, Ev.p_kSr, Ev.p_kSb, Ev.p_kSc, Ev.p_slot, Ev.p_setU, Ev.p_setF, Ev.p_setO, Ev.p_ofF, Ev.p_ofN, Ev.p_kNx, Ev.p_set, Ev.p_kSet, Ev.p_ret, Ev.p_kRt, Ev.p_expr, Ev.p_kEx, Ev.p_par, Ev.p_kPar, Ev.p_kSs, Ev.p_ss0, Ev.p_ss, Ev.p_asg, Ev.p_kAsg, Ev.p_unp, Ev.p_gs, Ev.p_kG, Ev.p_gs0, Ev.p_gIx, Ev.p_gIO, Ev.p_kUp, Ev.p_upd, Ev.p_upO, Ev.p_upN, Ev.p_upDt, Ev.p_upDf, Ev.p_put, Ev.p_mut, Ev.p_mutO, Ev.p_kNon, Ev.p_kM1, Ev.p_app, Ev.p_sl, Ev.p_kSl1, Ev.p_kSl2, Ev.p_kSl3, Ev.p_add, Ev.p_addL, Ev.p_i2, Ev.p_u1, Ev.p_lt, Ev.p_le, Ev.p_gt, Ev.p_ge, Ev.p_eqI, Ev.p_neI, Ev.p_eqS, Ev.p_neS, Ev.p_isB, Ev.p_isN, Ev.p_notN, Ev.p_tup, Ev.p_lst, Ev.p_abs, Ev.p_intI, Ev.p_intB, Ev.p_len, Ev.p_dlL, Ev.p_dlT, Ev.p_itL, Ev.p_itT, Ev.p_d, Ev.p_dn, Ev.p_rng1, Ev.p_rng2, Ev.p_lo0, Ev.p_lo1, Ev.p_lo2, Ev.p_lo3, Ev.p_lo4, Ev.p_lo5, Ev.p_lo6, Ev.p_lo7, Ev.p_lo8, Ev.p_lo9, Ev.p_lo10, Ev.p_lo11, Ev.p_lo12, Ev.p_lo13, Ev.p_lo14, Ev.p_lo15, Ev.p_lo16, Ev.p_lo17, Ev.p_lo18, Ev.p_lo19, Ev.p_lo20, Ev.p_lo21, Ev.p_lo22, Ev.p_lo23, Ev.p_lo24, Ev.p_p18, Ev.p_p40, Ev.p_lpN, Ev.p_lpC, Ev.p_lpB, Ev.p_lpR, Ev.p_for, Ev.p_whT, Ev.p_whF, Ev.p_lc, Ev.p_callAr, Ev.p_callO1, Ev.p_callO2, Ev.p_refV, Ev.p_refR, Ev.p_ref0, Ev.p_ga, Ev.p_ga0, Ev.p_gaO, Ev.p_gaV, Ev.p_gaR, Ev.p_leF, Ev.p_leL, Ev.p_leO, Ev.p_leN, Ev.p_sc, Ev.p_sc0, Ev.p_scN, Ev.p_scFs, Ev.p_scLs, Ev.p_scOn, Ev.p_scOl, Ev.p_scNn, Ev.p_scNl, Ev.p_fiR, Ev.p_fiV, Ev.p_fi0, Ev.fin_rt, Ev.fin_nx, Ev.ou_ln, Ev.ou_fz, Ev.ou_0, Ev.at_0, Ev.at_1, Ev.at_2, Ev.at_3, Ev.p_lenS, Ev.p_lenO, Ev.p_bind, Ev.q_ok, List.getElem?_cons_zero, List.getElem?_cons_succ, List.set_cons_zero, List.set_cons_succ, List.length_cons, List.length_nil, List.cons_append, List.nil_append, Option.map_some, ↓reduceIte, Bool.not_true, Bool.not_false, decide_true, decide_false, Ev.p_div, Ev.p_mod, Ev.p_pow, Ev.p_mul, Ev.dist, List.contains_cons, List.contains_nil, Bool.or_false, Bool.false_and, Bool.and_true, Bool.true_and, Nat.reduceAdd, Nat.reduceBEq, Ev.permN, Ev.perm, List.map_cons, List.map_nil, List.getD_cons_zero, List.getD_cons_succ, and_self, cond_true, cond_false, Int.cast_ofNat_Int, Int.natCast_one, Int.natCast_zero, Int.reduceEq, Int.reduceLE, Int.reduceLT, Int.reduceNeg, Int.reduceGT, Int.reduceAdd, Int.reduceMul, Int.reduceSub, Int.reduceToNat, Int.reducePow, Int.reduceNe, reduceCtorEq, eq_self]
    by_cases h : (0 : Int) < (m : Int)
    · have hm : 0 < m := by omega
      have hp := hp hm
      have hq : q ≤ n := by omega
      have sp := pow_lt hi p
      have sq := pow_lt hi q
      have m1 : mulOk (i ^ q) (i ^ p) = true := mulOk_of sq sp (by omega)
      have m2 : mulOk (i ^ p) (i ^ p) = true := mulOk_of sp sp (by omega)
      have e1 : fShr (m : Int) 1 = some (.int ((m / 2 : Nat) : Int)) := by
        show (if (0 : Int) ≤ 1 then some (D.int ((m : Int) / 2 ^ (1 : Int).toNat)) else none) = _
        rw [if_pos (by decide)]
        rfl
      have ea := and_one (l := (m : Int)) (by omega)
      have pp : i ^ p * i ^ p = i ^ (2 * p) := by rw [← Int.pow_add]; congr 1; omega
      have qp : i ^ q * i ^ p = i ^ (q + p) := by rw [← Int.pow_add]
      by_cases ho : (m : Int) % 2 = 1
      · simp only [Ev.p_pure, Ev.p_ok, Ev.p_toD, Ev.p_kDf, Ev.p_kDn, Ev.p_toV, Ev.p_kV, Ev.p_some, Ev.p_var, Ev.p_varF, Ev.p_varL, Ev.p_varO, Ev.p_varN, Ev.p_mov, Ev.p_movF, Ev.p_movL, Ev.p_movO, Ev.p_movN, Ev.p_ev2, Ev.p_k2, Ev.p_k2', Ev.p_ev2T, Ev.p_kT, Ev.p_kT', Ev.p_vb, Ev.p_ev1, Ev.p_evC, Ev.p_evL, Ev.p_evO, Ev.p_evSeq, Ev.p_tTruth, Ev.p_kf, Ev.p_cons, Ev.p_vcons, Ev.p_acons, Ev.p_kC1, Ev.p_kC2, Ev.p_arV, Ev.p_kAr, Ev.p_arR, Ev.p_arF, Ev.p_arOw, Ev.p_arN, Ev.p_arL, Ev.p_call, Ev.p_kL1, Ev.p_kL2, Ev.p_if, Ev.p_kIt, Ev.p_kIf, Ev.p_tAnd, Ev.p_tOr, Ev.p_tNot, Ev.p_kN, Ev.p_and, Ev.p_kA, Ev.p_or, Ev.p_kO, Ev.p_not, Ev.p_kNt, Ev.p_ixS, Ev.p_ixO, Ev.p_kX, Ev.p_kXO, Ev.p_slotD, Ev.p_slF, Ev.p_slO, Ev.p_slN, Ev.p_slL, Ev.p_seq, Ev.p_kSn, Ev.p_kSr, Ev.p_kSb, Ev.p_kSc, Ev.p_slot, Ev.p_setU, Ev.p_setF, Ev.p_setO, Ev.p_ofF, Ev.p_ofN, Ev.p_kNx, Ev.p_set, Ev.p_kSet, Ev.p_ret, Ev.p_kRt, Ev.p_expr, Ev.p_kEx, Ev.p_par, Ev.p_kPar, Ev.p_kSs, Ev.p_ss0, Ev.p_ss, Ev.p_asg, Ev.p_kAsg, Ev.p_unp, Ev.p_gs, Ev.p_kG, Ev.p_gs0, Ev.p_gIx, Ev.p_gIO, Ev.p_kUp, Ev.p_upd, Ev.p_upO, Ev.p_upN, Ev.p_upDt, Ev.p_upDf, Ev.p_put, Ev.p_mut, Ev.p_mutO, Ev.p_kNon, Ev.p_kM1, Ev.p_app, Ev.p_sl, Ev.p_kSl1, Ev.p_kSl2, Ev.p_kSl3, Ev.p_add, Ev.p_addL, Ev.p_i2, Ev.p_u1, Ev.p_lt, Ev.p_le, Ev.p_gt, Ev.p_ge, Ev.p_eqI, Ev.p_neI, Ev.p_eqS, Ev.p_neS, Ev.p_isB, Ev.p_isN, Ev.p_notN, Ev.p_tup, Ev.p_lst, Ev.p_abs, Ev.p_intI, Ev.p_intB, Ev.p_len, Ev.p_dlL, Ev.p_dlT, Ev.p_itL, Ev.p_itT, Ev.p_d, Ev.p_dn, Ev.p_rng1, Ev.p_rng2, Ev.p_lo0, Ev.p_lo1, Ev.p_lo2, Ev.p_lo3, Ev.p_lo4, Ev.p_lo5, Ev.p_lo6, Ev.p_lo7, Ev.p_lo8, Ev.p_lo9, Ev.p_lo10, Ev.p_lo11, Ev.p_lo12, Ev.p_lo13, Ev.p_lo14, Ev.p_lo15, Ev.p_lo16, Ev.p_lo17, Ev.p_lo18, Ev.p_lo19, Ev.p_lo20, Ev.p_lo21, Ev.p_lo22, Ev.p_lo23, Ev.p_lo24, Ev.p_p18, Ev.p_p40, Ev.p_lpN, Ev.p_lpC, Ev.p_lpB, Ev.p_lpR, Ev.p_for, Ev.p_whT, Ev.p_whF, Ev.p_lc, Ev.p_callAr, Ev.p_callO1, Ev.p_callO2, Ev.p_refV, Ev.p_refR, Ev.p_ref0, Ev.p_ga, Ev.p_ga0, Ev.p_gaO, Ev.p_gaV, Ev.p_gaR, Ev.p_leF, Ev.p_leL, Ev.p_leO, Ev.p_leN, Ev.p_sc, Ev.p_sc0, Ev.p_scN, Ev.p_scFs, Ev.p_scLs, Ev.p_scOn, Ev.p_scOl, Ev.p_scNn, Ev.p_scNl, Ev.p_fiR, Ev.p_fiV, Ev.p_fi0, Ev.fin_rt, Ev.fin_nx, Ev.ou_ln, Ev.ou_fz, Ev.ou_0, Ev.at_0, Ev.at_1, Ev.at_2, Ev.at_3, Ev.p_lenS, Ev.p_lenO, Ev.p_bind, Ev.q_ok, List.getElem?_cons_zero, List.getElem?_cons_succ, List.set_cons_zero, List.set_cons_succ, List.length_cons, List.length_nil, List.cons_append, List.nil_append, Option.map_some, ↓reduceIte, Bool.not_true, Bool.not_false, decide_true, decide_false, Ev.p_div, Ev.p_mod, Ev.p_pow, Ev.p_mul, Ev.dist, List.contains_cons, List.contains_nil, Bool.or_false, Bool.false_and, Bool.and_true, Bool.true_and, Nat.reduceAdd, Nat.reduceBEq, Ev.permN, Ev.perm, List.map_cons, List.map_nil, List.getD_cons_zero, List.getD_cons_succ, and_self, cond_true, cond_false, Int.cast_ofNat_Int, Int.natCast_one, Int.natCast_zero, Int.reduceEq, Int.reduceLE, Int.reduceLT, Int.reduceNeg, Int.reduceGT, Int.reduceAdd, Int.reduceMul, Int.reduceSub, Int.reduceToNat, Int.reducePow, Int.reduceNe, reduceCtorEq, eq_self, decide_eq_true h, ea, decide_eq_true ho, m1, m2, e1, pp, qp]
        refine ⟨m / 2, by omega, 2 * p, q + p, m / 2, rfl, ?_, rfl, fun h0 => ?_⟩
        · have : m = 2 * (m / 2) + 1 := by omega
          have e : p * m = 2 * p * (m / 2) + p := by
            conv => lhs; rw [this]
            rw [Nat.mul_add, Nat.mul_one, ← Nat.mul_assoc, Nat.mul_comm p 2]
          omega
        · have : p * 2 ≤ p * m := Nat.mul_le_mul_left p (by omega)
          omega
      · simp only [Ev.p_pure, Ev.p_ok, Ev.p_toD, Ev.p_kDf, Ev.p_kDn, Ev.p_toV, Ev.p_kV, Ev.p_some, Ev.p_var, Ev.p_varF, Ev.p_varL, Ev.p_varO, Ev.p_varN, Ev.p_mov, Ev.p_movF, Ev.p_movL, Ev.p_movO, Ev.p_movN, Ev.p_ev2, Ev.p_k2, Ev.p_k2', Ev.p_ev2T, Ev.p_kT, Ev.p_kT', Ev.p_vb, Ev.p_ev1, Ev.p_evC, Ev.p_evL, Ev.p_evO, Ev.p_evSeq, Ev.p_tTruth, Ev.p_kf, Ev.p_cons, Ev.p_vcons, Ev.p_acons, Ev.p_kC1, Ev.p_kC2, Ev.p_arV, Ev.p_kAr, Ev.p_arR, Ev.p_arF, Ev.p_arOw, Ev.p_arN, Ev.p_arL, Ev.p_call, Ev.p_kL1, Ev.p_kL2, Ev.p_if, Ev.p_kIt, Ev.p_kIf, Ev.p_tAnd, Ev.p_tOr, Ev.p_tNot, Ev.p_kN, Ev.p_and, Ev.p_kA, Ev.p_or, Ev.p_kO, Ev.p_not, Ev.p_kNt, Ev.p_ixS, Ev.p_ixO, Ev.p_kX, Ev.p_kXO, Ev.p_slotD, Ev.p_slF, Ev.p_slO, Ev.p_slN, Ev.p_slL, Ev.p_seq, Ev.p_kSn, Ev.p_kSr, Ev.p_kSb, Ev.p_kSc, Ev.p_slot, Ev.p_setU, Ev.p_setF, Ev.p_setO, Ev.p_ofF, Ev.p_ofN, Ev.p_kNx, Ev.p_set, Ev.p_kSet, Ev.p_ret, Ev.p_kRt, Ev.p_expr, Ev.p_kEx, Ev.p_par, Ev.p_kPar, Ev.p_kSs, Ev.p_ss0, Ev.p_ss, Ev.p_asg, Ev.p_kAsg, Ev.p_unp, Ev.p_gs, Ev.p_kG, Ev.p_gs0, Ev.p_gIx, Ev.p_gIO, Ev.p_kUp, Ev.p_upd, Ev.p_upO, Ev.p_upN, Ev.p_upDt, Ev.p_upDf, Ev.p_put, Ev.p_mut, Ev.p_mutO, Ev.p_kNon, Ev.p_kM1, Ev.p_app, Ev.p_sl, Ev.p_kSl1, Ev.p_kSl2, Ev.p_kSl3, Ev.p_add, Ev.p_addL, Ev.p_i2, Ev.p_u1, Ev.p_lt, Ev.p_le, Ev.p_gt, Ev.p_ge, Ev.p_eqI, Ev.p_neI, Ev.p_eqS, Ev.p_neS, Ev.p_isB, Ev.p_isN, Ev.p_notN, Ev.p_tup, Ev.p_lst, Ev.p_abs, Ev.p_intI, Ev.p_intB, Ev.p_len, Ev.p_dlL, Ev.p_dlT, Ev.p_itL, Ev.p_itT, Ev.p_d, Ev.p_dn, Ev.p_rng1, Ev.p_rng2, Ev.p_lo0, Ev.p_lo1, Ev.p_lo2, Ev.p_lo3, Ev.p_lo4, Ev.p_lo5, Ev.p_lo6, Ev.p_lo7, Ev.p_lo8, Ev.p_lo9, Ev.p_lo10, Ev.p_lo11, Ev.p_lo12, Ev.p_lo13, Ev.p_lo14, Ev.p_lo15, Ev.p_lo16, Ev.p_lo17, Ev.p_lo18, Ev.p_lo19, Ev.p_lo20, Ev.p_lo21, Ev.p_lo22, Ev.p_lo23, Ev.p_lo24, Ev.p_p18, Ev.p_p40, Ev.p_lpN, Ev.p_lpC, Ev.p_lpB, Ev.p_lpR, Ev.p_for, Ev.p_whT, Ev.p_whF, Ev.p_lc, Ev.p_callAr, Ev.p_callO1, Ev.p_callO2, Ev.p_refV, Ev.p_refR, Ev.p_ref0, Ev.p_ga, Ev.p_ga0, Ev.p_gaO, Ev.p_gaV, Ev.p_gaR, Ev.p_leF, Ev.p_leL, Ev.p_leO, Ev.p_leN, Ev.p_sc, Ev.p_sc0, Ev.p_scN, Ev.p_scFs, Ev.p_scLs, Ev.p_scOn, Ev.p_scOl, Ev.p_scNn, Ev.p_scNl, Ev.p_fiR, Ev.p_fiV, Ev.p_fi0, Ev.fin_rt, Ev.fin_nx, Ev.ou_ln, Ev.ou_fz, Ev.ou_0, Ev.at_0, Ev.at_1, Ev.at_2, Ev.at_3, Ev.p_lenS, Ev.p_lenO, Ev.p_bind, Ev.q_ok, List.getElem?_cons_zero, List.getElem?_cons_succ, List.set_cons_zero, List.set_cons_succ, List.length_cons, List.length_nil, List.cons_append, List.nil_append, Option.map_some, ↓reduceIte, Bool.not_true, Bool.not_false, decide_true, decide_false, Ev.p_div, Ev.p_mod, Ev.p_pow, Ev.p_mul, Ev.dist, List.contains_cons, List.contains_nil, Bool.or_false, Bool.false_and, Bool.and_true, Bool.true_and, Nat.reduceAdd, Nat.reduceBEq, Ev.permN, Ev.perm, List.map_cons, List.map_nil, List.getD_cons_zero, List.getD_cons_succ, and_self, cond_true, cond_false, Int.cast_ofNat_Int, Int.natCast_one, Int.natCast_zero, Int.reduceEq, Int.reduceLE, Int.reduceLT, Int.reduceNeg, Int.reduceGT, Int.reduceAdd, Int.reduceMul, Int.reduceSub, Int.reduceToNat, Int.reducePow, Int.reduceNe, reduceCtorEq, eq_self, decide_eq_true h, ea, decide_eq_false ho, m1, m2, e1, pp, qp]
        refine ⟨m / 2, by omega, 2 * p, q, m / 2, rfl, ?_, rfl, fun h0 => ?_⟩
        · have : m = 2 * (m / 2) := by omega
          have e : p * m = 2 * p * (m / 2) := by
            conv => lhs; rw [this]
            rw [← Nat.mul_assoc, Nat.mul_comm p 2]
          omega
        · have : p * 2 ≤ p * m := Nat.mul_le_mul_left p (by omega)
          omega
    · simp only [Ev.p_pure, Ev.p_ok, Ev.p_toD, Ev.p_kDf, Ev.p_kDn, Ev.p_toV, Ev.p_kV, Ev.p_some, Ev.p_var, Ev.p_varF, Ev.p_varL, Ev.p_varO, Ev.p_varN, Ev.p_mov, Ev.p_movF, Ev.p_movL, Ev.p_movO, Ev.p_movN, Ev.p_ev2, Ev.p_k2, Ev.p_k2', Ev.p_ev2T, Ev.p_kT, Ev.p_kT', Ev.p_vb, Ev.p_ev1, Ev.p_evC, Ev.p_evL, Ev.p_evO, Ev.p_evSeq, Ev.p_tTruth, Ev.p_kf, Ev.p_cons, Ev.p_vcons, Ev.p_acons, Ev.p_kC1, Ev.p_kC2, Ev.p_arV, Ev.p_kAr, Ev.p_arR, Ev.p_arF, Ev.p_arOw, Ev.p_arN, Ev.p_arL, Ev.p_call, Ev.p_kL1, Ev.p_kL2, Ev.p_if, Ev.p_kIt, Ev.p_kIf, Ev.p_tAnd, Ev.p_tOr, Ev.p_tNot, Ev.p_kN, Ev.p_and, Ev.p_kA, Ev.p_or, Ev.p_kO, Ev.p_not, Ev.p_kNt, Ev.p_ixS, Ev.p_ixO, Ev.p_kX, Ev.p_kXO, Ev.p_slotD, Ev.p_slF, Ev.p_slO, Ev.p_slN, Ev.p_slL, Ev.p_seq, Ev.p_kSn, Ev.p_kSr, Ev.p_kSb, Ev.p_kSc, Ev.p_slot, Ev.p_setU, Ev.p_setF, Ev.p_setO, Ev.p_ofF, Ev.p_ofN, Ev.p_kNx, Ev.p_set, Ev.p_kSet, Ev.p_ret, Ev.p_kRt, Ev.p_expr, Ev.p_kEx, Ev.p_par, Ev.p_kPar, Ev.p_kSs, Ev.p_ss0, Ev.p_ss, Ev.p_asg, Ev.p_kAsg, Ev.p_unp, Ev.p_gs, Ev.p_kG, Ev.p_gs0, Ev.p_gIx, Ev.p_gIO, Ev.p_kUp, Ev.p_upd, Ev.p_upO, Ev.p_upN, Ev.p_upDt, Ev.p_upDf, Ev.p_put, Ev.p_mut, Ev.p_mutO, Ev.p_kNon, Ev.p_kM1, Ev.p_app, Ev.p_sl, Ev.p_kSl1, Ev.p_kSl2, Ev.p_kSl3, Ev.p_add, Ev.p_addL, Ev.p_i2, Ev.p_u1, Ev.p_lt, Ev.p_le, Ev.p_gt, Ev.p_ge, Ev.p_eqI, Ev.p_neI, Ev.p_eqS, Ev.p_neS, Ev.p_isB, Ev.p_isN, Ev.p_notN, Ev.p_tup, Ev.p_lst, Ev.p_abs, Ev.p_intI, Ev.p_intB, Ev.p_len, Ev.p_dlL, Ev.p_dlT, Ev.p_itL, Ev.p_itT, Ev.p_d, Ev.p_dn, Ev.p_rng1, Ev.p_rng2, Ev.p_lo0, Ev.p_lo1, Ev.p_lo2, Ev.p_lo3, Ev.p_lo4, Ev.p_lo5, Ev.p_lo6, Ev.p_lo7, Ev.p_lo8, Ev.p_lo9, Ev.p_lo10, Ev.p_lo11, Ev.p_lo12, Ev.p_lo13, Ev.p_lo14, Ev.p_lo15, Ev.p_lo16, Ev.p_lo17, Ev.p_lo18, Ev.p_lo19, Ev.p_lo20, Ev.p_lo21, Ev.p_lo22, Ev.p_lo23, Ev.p_lo24, Ev.p_p18, Ev.p_p40, Ev.p_lpN, Ev.p_lpC, Ev.p_lpB, Ev.p_lpR, Ev.p_for, Ev.p_whT, Ev.p_whF, Ev.p_lc, Ev.p_callAr, Ev.p_callO1, Ev.p_callO2, Ev.p_refV, Ev.p_refR, Ev.p_ref0, Ev.p_ga, Ev.p_ga0, Ev.p_gaO, Ev.p_gaV, Ev.p_gaR, Ev.p_leF, Ev.p_leL, Ev.p_leO, Ev.p_leN, Ev.p_sc, Ev.p_sc0, Ev.p_scN, Ev.p_scFs, Ev.p_scLs, Ev.p_scOn, Ev.p_scOl, Ev.p_scNn, Ev.p_scNl, Ev.p_fiR, Ev.p_fiV, Ev.p_fi0, Ev.fin_rt, Ev.fin_nx, Ev.ou_ln, Ev.ou_fz, Ev.ou_0, Ev.at_0, Ev.at_1, Ev.at_2, Ev.at_3, Ev.p_lenS, Ev.p_lenO, Ev.p_bind, Ev.q_ok, List.getElem?_cons_zero, List.getElem?_cons_succ, List.set_cons_zero, List.set_cons_succ, List.length_cons, List.length_nil, List.cons_append, List.nil_append, Option.map_some, ↓reduceIte, Bool.not_true, Bool.not_false, decide_true, decide_false, Ev.p_div, Ev.p_mod, Ev.p_pow, Ev.p_mul, Ev.dist, List.contains_cons, List.contains_nil, Bool.or_false, Bool.false_and, Bool.and_true, Bool.true_and, Nat.reduceAdd, Nat.reduceBEq, Ev.permN, Ev.perm, List.map_cons, List.map_nil, List.getD_cons_zero, List.getD_cons_succ, and_self, cond_true, cond_false, Int.cast_ofNat_Int, Int.natCast_one, Int.natCast_zero, Int.reduceEq, Int.reduceLE, Int.reduceLT, Int.reduceNeg, Int.reduceGT, Int.reduceAdd, Int.reduceMul, Int.reduceSub, Int.reduceToNat, Int.reducePow, Int.reduceNe, reduceCtorEq, eq_self, decide_eq_false h]
      have : m = 0 := by omega
      subst this
      refine ⟨by decide, ?_, trivial⟩
      rw [show q = n by omega]
  obtain ⟨_, _, e, rfl, rfl⟩ := w
  exact e
/-- n to the n -/
def tow (n : Nat) : Int := (n : Int) ^ n
theorem tower_sp (n : Nat) (hn : n ≤ 250) : m_tower [.fz (.int n)] = .ok (.fz (.int (tow n))) [.fz (.int n)] := by
  have w : Fw (m_tower [.fz (.int n)]) fun r os => r = .fz (.int (tow n)) ∧ os = [.fz (.int n)] := by
    refine fw_fin ?_
    change Wq (b_tower [.fz (.int n)]) _
    unfold b_tower
    simp only [Ev.p_pure, Ev.p_ok, Ev.p_toD, Ev.p_kDf, Ev.p_kDn, Ev.p_toV, Ev.p_kV, Ev.p_some, Ev.p_var, Ev.p_varF, Ev.p_varL, Ev.p_varO, Ev.p_varN, Ev.p_mov, Ev.p_movF, Ev.p_movL, Ev.p_movO, Ev.p_movN, Ev.p_ev2, Ev.p_k2, Ev.p_k2', Ev.p_ev2T, Ev.p_kT, Ev.p_kT', Ev.p_vb, Ev.p_ev1, Ev.p_evC, Ev.p_evL, Ev.p_evO, Ev.p_evSeq, Ev.p_tTruth, Ev.p_kf, Ev.p_cons, Ev.p_vcons, Ev.p_acons, Ev.p_kC1, Ev.p_kC2, Ev.p_arV, Ev.p_kAr, Ev.p_arR, Ev.p_arF, Ev.p_arOw, Ev.p_arN, Ev.p_arL, Ev.p_call, Ev.p_kL1, Ev.p_kL2, Ev.p_if, Ev.p_kIt, Ev.p_kIf, Ev.p_tAnd, Ev.p_tOr, Ev.p_tNot, Ev.p_kN, Ev.p_and, Ev.p_kA, Ev.p_or, Ev.p_kO, Ev.p_not, Ev.p_kNt, Ev.p_ixS, Ev.p_ixO, Ev.p_kX, Ev.p_kXO, Ev.p_slotD, Ev.p_slF, Ev.p_slO, Ev.p_slN, Ev.p_slL, Ev.p_seq, Ev.p_kSn, Ev.p_kSr, Ev.p_kSb, Ev.p_kSc, Ev.p_slot, Ev.p_setU, Ev.p_setF, Ev.p_setO, Ev.p_ofF, Ev.p_ofN, Ev.p_kNx, Ev.p_set, Ev.p_kSet, Ev.p_ret, Ev.p_kRt, Ev.p_expr, Ev.p_kEx, Ev.p_par, Ev.p_kPar, Ev.p_kSs, Ev.p_ss0, Ev.p_ss, Ev.p_asg, Ev.p_kAsg, Ev.p_unp, Ev.p_gs, Ev.p_kG, Ev.p_gs0, Ev.p_gIx, Ev.p_gIO, Ev.p_kUp, Ev.p_upd, Ev.p_upO, Ev.p_upN, Ev.p_upDt, Ev.p_upDf, Ev.p_put, Ev.p_mut, Ev.p_mutO, Ev.p_kNon, Ev.p_kM1, Ev.p_app, Ev.p_sl, Ev.p_kSl1, Ev.p_kSl2, Ev.p_kSl3, Ev.p_add, Ev.p_addL, Ev.p_i2, Ev.p_u1, Ev.p_lt, Ev.p_le, Ev.p_gt, Ev.p_ge, Ev.p_eqI, Ev.p_neI, Ev.p_eqS, Ev.p_neS, Ev.p_isB, Ev.p_isN, Ev.p_notN, Ev.p_tup, Ev.p_lst, Ev.p_abs, Ev.p_intI, Ev.p_intB, Ev.p_len, Ev.p_dlL, Ev.p_dlT, Ev.p_itL, Ev.p_itT, Ev.p_d, Ev.p_dn, Ev.p_rng1, Ev.p_rng2, Ev.p_lo0, Ev.p_lo1, Ev.p_lo2, Ev.p_lo3, Ev.p_lo4, Ev.p_lo5, Ev.p_lo6, Ev.p_lo7, Ev.p_lo8, Ev.p_lo9, Ev.p_lo10, Ev.p_lo11, Ev.p_lo12, Ev.p_lo13, Ev.p_lo14, Ev.p_lo15, Ev.p_lo16, Ev.p_lo17, Ev.p_lo18, Ev.p_lo19, Ev.p_lo20, Ev.p_lo21, Ev.p_lo22, Ev.p_lo23, Ev.p_lo24, Ev.p_p18, Ev.p_p40, Ev.p_lpN, Ev.p_lpC, Ev.p_lpB, Ev.p_lpR, Ev.p_for, Ev.p_whT, Ev.p_whF, Ev.p_lc, Ev.p_callAr, Ev.p_callO1, Ev.p_callO2, Ev.p_refV, Ev.p_refR, Ev.p_ref0, Ev.p_ga, Ev.p_ga0, Ev.p_gaO, Ev.p_gaV, Ev.p_gaR, Ev.p_leF, Ev.p_leL, Ev.p_leO, Ev.p_leN, Ev.p_sc, Ev.p_sc0, Ev.p_scN, Ev.p_scFs, Ev.p_scLs, Ev.p_scOn, Ev.p_scOl, Ev.p_scNn, Ev.p_scNl, Ev.p_fiR, Ev.p_fiV, Ev.p_fi0, Ev.fin_rt, Ev.fin_nx, Ev.ou_ln, Ev.ou_fz, Ev.ou_0, Ev.at_0, Ev.at_1, Ev.at_2, Ev.at_3, Ev.p_lenS, Ev.p_lenO, Ev.p_bind, Ev.q_ok, List.getElem?_cons_zero, List.getElem?_cons_succ, List.set_cons_zero, List.set_cons_succ, List.length_cons, List.length_nil, List.cons_append, List.nil_append, Option.map_some, ↓reduceIte, Bool.not_true, Bool.not_false, decide_true, decide_false, Ev.p_div, Ev.p_mod, Ev.p_pow, Ev.p_mul, Ev.dist, List.contains_cons, List.contains_nil, Bool.or_false, Bool.false_and, Bool.and_true, Bool.true_and, Nat.reduceAdd, Nat.reduceBEq, Ev.permN, Ev.perm, List.map_cons, List.map_nil, List.getD_cons_zero, List.getD_cons_succ, and_self, cond_true, cond_false, Int.cast_ofNat_Int, Int.natCast_one, Int.natCast_zero, Int.reduceEq, Int.reduceLE, Int.reduceLT, Int.reduceNeg, Int.reduceGT, Int.reduceAdd, Int.reduceMul, Int.reduceSub, Int.reduceToNat, Int.reducePow, Int.reduceNe, reduceCtorEq, eq_self, raised_sp n n (by omega) (by omega)]
    exact ⟨by decide, rfl, trivial⟩
  obtain ⟨_, _, e, rfl, rfl⟩ := w
  exact e
/-! ### the program's prices -/
def jnS (row t : List Int) (d : Nat) : Nat → Int × Int
  | 0 => (0, 1)
  | k + 1 => ((jnS row t d k).1 + (jnS row t d k).2 * row.getD (d - k) 0 * t.getD k 0, ((jnS row t d k).2 * ((d : Int) - k)).fdiv ((k : Int) + 1))
theorem mul3 {l r t : Int} {a b c : Nat} (hl : l.natAbs < 2 ^ a) (hr : r.natAbs < 2 ^ b) (ht : t.natAbs < 2 ^ c) (h : a + b + c ≤ 134217728) : mulOk l r = true ∧ mulOk (l * r) t = true :=
  ⟨mulOk_of hl hr (by omega), mulOk_of (wide_lt hl hr) ht h⟩
theorem jn_1 (row t : List Int) (d k : Nat) : (jnS row t d (k + 1)).1 = (jnS row t d k).1 + (jnS row t d k).2 * row.getD (d - k) 0 * t.getD k 0 := rfl
theorem jn_2 (row t : List Int) (d k : Nat) : (jnS row t d (k + 1)).2 = ((jnS row t d k).2 * ((d : Int) - k)).fdiv ((k : Int) + 1) := rfl
theorem joined_sp (row t : List Int) (d : Nat) (hd : d ≤ 1000) (hr : d < row.length) (ht : d < t.length) (br : ∀ n, (row.getD n 0).natAbs < 2 ^ 4000) (bt : ∀ n, (t.getD n 0).natAbs < 2 ^ 4000) (bj : ∀ k, k ≤ d → (jnS row t d k).2.natAbs < 2 ^ 1000) :
    m_joined [.fz (.lst (row.map .int)), .fz (.lst (t.map .int)), .fz (.int d)] = .ok (.fz (.int (jnS row t d (d + 1)).1)) [.fz (.lst (row.map .int)), .fz (.lst (t.map .int)), .fz (.int d)] := by
  have w : Fw (m_joined [.fz (.lst (row.map .int)), .fz (.lst (t.map .int)), .fz (.int d)]) fun r os => r = .fz (.int (jnS row t d (d + 1)).1) ∧ os = [.fz (.lst (row.map .int)), .fz (.lst (t.map .int)), .fz (.int d)] := by
    refine fw_fin ?_
    change Wq (b_joined [.fz (.lst (row.map .int)), .fz (.lst (t.map .int)), .fz (.int d), .un, .un, .un]) _
    unfold b_joined
    have er : rng1 [.int ((d : Int) + 1)] = some (rangeL 0 (d + 1)) := by
      rw [Ev.p_rng1 _ (inR_of (by omega) (by omega)), show ((d : Int) + 1).toNat = d + 1 by omega]
    simp only [Ev.p_pure, Ev.p_ok, Ev.p_toD, Ev.p_kDf, Ev.p_kDn, Ev.p_toV, Ev.p_kV, Ev.p_some, Ev.p_var, Ev.p_varF, Ev.p_varL, Ev.p_varO, Ev.p_varN, Ev.p_mov, Ev.p_movF, Ev.p_movL, Ev.p_movO, Ev.p_movN, Ev.p_ev2, Ev.p_k2, Ev.p_k2', Ev.p_ev2T, Ev.p_kT, Ev.p_kT', Ev.p_vb, Ev.p_ev1, Ev.p_evC, Ev.p_evL, Ev.p_evO, Ev.p_evSeq, Ev.p_tTruth, Ev.p_kf, Ev.p_cons, Ev.p_vcons, Ev.p_acons, Ev.p_kC1, Ev.p_kC2, Ev.p_arV, Ev.p_kAr, Ev.p_arR, Ev.p_arF, Ev.p_arOw, Ev.p_arN, Ev.p_arL, Ev.p_call, Ev.p_kL1, Ev.p_kL2, Ev.p_if, Ev.p_kIt, Ev.p_kIf, Ev.p_tAnd, Ev.p_tOr, Ev.p_tNot, Ev.p_kN, Ev.p_and, Ev.p_kA, Ev.p_or, Ev.p_kO, Ev.p_not, Ev.p_kNt, Ev.p_ixS, Ev.p_ixO, Ev.p_kX, Ev.p_kXO, Ev.p_slotD, Ev.p_slF, Ev.p_slO, Ev.p_slN, Ev.p_slL, Ev.p_seq, Ev.p_kSn, Ev.p_kSr, Ev.p_kSb, Ev.p_kSc, Ev.p_slot, Ev.p_setU, Ev.p_setF, Ev.p_setO, Ev.p_ofF, Ev.p_ofN, Ev.p_kNx, Ev.p_set, Ev.p_kSet, Ev.p_ret, Ev.p_kRt, Ev.p_expr, Ev.p_kEx, Ev.p_par, Ev.p_kPar, Ev.p_kSs, Ev.p_ss0, Ev.p_ss, Ev.p_asg, Ev.p_kAsg, Ev.p_unp, Ev.p_gs, Ev.p_kG, Ev.p_gs0, Ev.p_gIx, Ev.p_gIO, Ev.p_kUp, Ev.p_upd, Ev.p_upO, Ev.p_upN, Ev.p_upDt, Ev.p_upDf, Ev.p_put, Ev.p_mut, Ev.p_mutO, Ev.p_kNon, Ev.p_kM1, Ev.p_app, Ev.p_sl, Ev.p_kSl1, Ev.p_kSl2, Ev.p_kSl3, Ev.p_add, Ev.p_addL, Ev.p_i2, Ev.p_u1, Ev.p_lt, Ev.p_le, Ev.p_gt, Ev.p_ge, Ev.p_eqI, Ev.p_neI, Ev.p_eqS, Ev.p_neS, Ev.p_isB, Ev.p_isN, Ev.p_notN, Ev.p_tup, Ev.p_lst, Ev.p_abs, Ev.p_intI, Ev.p_intB, Ev.p_len, Ev.p_dlL, Ev.p_dlT, Ev.p_itL, Ev.p_itT, Ev.p_d, Ev.p_dn, Ev.p_rng1, Ev.p_rng2, Ev.p_lo0, Ev.p_lo1, Ev.p_lo2, Ev.p_lo3, Ev.p_lo4, Ev.p_lo5, Ev.p_lo6, Ev.p_lo7, Ev.p_lo8, Ev.p_lo9, Ev.p_lo10, Ev.p_lo11, Ev.p_lo12, Ev.p_lo13, Ev.p_lo14, Ev.p_lo15, Ev.p_lo16, Ev.p_lo17, Ev.p_lo18, Ev.p_lo19, Ev.p_lo20, Ev.p_lo21, Ev.p_lo22, Ev.p_lo23, Ev.p_lo24, Ev.p_p18, Ev.p_p40, Ev.p_lpN, Ev.p_lpC, Ev.p_lpB, Ev.p_lpR, Ev.p_for, Ev.p_whT, Ev.p_whF, Ev.p_lc, Ev.p_callAr, Ev.p_callO1, Ev.p_callO2, Ev.p_refV, Ev.p_refR, Ev.p_ref0, Ev.p_ga, Ev.p_ga0, Ev.p_gaO, Ev.p_gaV, Ev.p_gaR, Ev.p_leF, Ev.p_leL, Ev.p_leO, Ev.p_leN, Ev.p_sc, Ev.p_sc0, Ev.p_scN, Ev.p_scFs, Ev.p_scLs, Ev.p_scOn, Ev.p_scOl, Ev.p_scNn, Ev.p_scNl, Ev.p_fiR, Ev.p_fiV, Ev.p_fi0, Ev.fin_rt, Ev.fin_nx, Ev.ou_ln, Ev.ou_fz, Ev.ou_0, Ev.at_0, Ev.at_1, Ev.at_2, Ev.at_3, Ev.p_lenS, Ev.p_lenO, Ev.p_bind, Ev.q_ok, List.getElem?_cons_zero, List.getElem?_cons_succ, List.set_cons_zero, List.set_cons_succ, List.length_cons, List.length_nil, List.cons_append, List.nil_append, Option.map_some, ↓reduceIte, Bool.not_true, Bool.not_false, decide_true, decide_false, Ev.p_div, Ev.p_mod, Ev.p_pow, Ev.p_mul, Ev.dist, List.contains_cons, List.contains_nil, Bool.or_false, Bool.false_and, Bool.and_true, Bool.true_and, Nat.reduceAdd, Nat.reduceBEq, Ev.permN, Ev.perm, List.map_cons, List.map_nil, List.getD_cons_zero, List.getD_cons_succ, and_self, cond_true, cond_false, Int.cast_ofNat_Int, Int.natCast_one, Int.natCast_zero, Int.reduceEq, Int.reduceLE, Int.reduceLT, Int.reduceNeg, Int.reduceGT, Int.reduceAdd, Int.reduceMul, Int.reduceSub, Int.reduceToNat, Int.reducePow, Int.reduceNe, reduceCtorEq, eq_self, er]
    rw [q_bind]
    refine for_range (d + 1) (I := fun k ρ => ∃ x5, ρ = [.fz (.lst (row.map .int)), .fz (.lst (t.map .int)), .fz (.int d), .fz (.int (jnS row t d k).1), .fz (.int (jnS row t d k).2), x5] ∧ (x5 = .un ∨ ∃ z, x5 = .fz z)) (fun k ρ hk hI => ?_) (fun ρ hI => ?_) _ ⟨_, rfl, .inl rfl⟩
    · obtain ⟨x5, rfl, hx⟩ := hI
      have hkd : k ≤ d := by omega
      have e1 : atI (row.map D.int) ((d : Int) - k) = some (.int (row.getD (d - k) 0)) := at_int (by omega) (by omega)
      have e2 : atI (t.map D.int) (k : Int) = some (.int (t.getD k 0)) := at_int rfl (by omega)
      have q3 : ((d : Int) - k).natAbs < 2 ^ 64 := by omega
      have dk : divOk ((k : Int) + 1) = true := divOk_of (b := 64) (by omega) (by omega) (by decide) (by decide)
      have s2 : 1000 + 4000 + 4000 ≤ 134217728 := by decide
      have s3 : 1000 + 64 ≤ 134217728 := by decide
      obtain ⟨m1, m2⟩ := mul3 (bj k hkd) (br (d - k)) (bt k) s2
      have m3 : mulOk (jnS row t d k).2 ((d : Int) - k) = true := mulOk_of (bj k hkd) q3 s3
      clear s2 s3 q3
      rcases hx with rfl | ⟨z, rfl⟩
      · simp only [Ev.p_pure, Ev.p_ok, Ev.p_toD, Ev.p_kDf, Ev.p_kDn, Ev.p_toV, Ev.p_kV, Ev.p_some, Ev.p_var, Ev.p_varF, Ev.p_varL, Ev.p_varO, Ev.p_varN, Ev.p_mov, Ev.p_movF, Ev.p_movL, Ev.p_movO, Ev.p_movN, Ev.p_ev2, Ev.p_k2, Ev.p_k2', Ev.p_ev2T, Ev.p_kT, Ev.p_kT', Ev.p_vb, Ev.p_ev1, Ev.p_evC, Ev.p_evL, Ev.p_evO, Ev.p_evSeq, Ev.p_tTruth, Ev.p_kf, Ev.p_cons, Ev.p_vcons, Ev.p_acons, Ev.p_kC1, Ev.p_kC2, Ev.p_arV, Ev.p_kAr, Ev.p_arR, Ev.p_arF, Ev.p_arOw, Ev.p_arN, Ev.p_arL, Ev.p_call, Ev.p_kL1, Ev.p_kL2, Ev.p_if, Ev.p_kIt, Ev.p_kIf, Ev.p_tAnd, Ev.p_tOr, Ev.p_tNot, Ev.p_kN, Ev.p_and, Ev.p_kA, Ev.p_or, Ev.p_kO, Ev.p_not, Ev.p_kNt, Ev.p_ixS, Ev.p_ixO, Ev.p_kX, Ev.p_kXO, Ev.p_slotD, Ev.p_slF, Ev.p_slO, Ev.p_slN, Ev.p_slL, Ev.p_seq, Ev.p_kSn, Ev.p_kSr, Ev.p_kSb, Ev.p_kSc, Ev.p_slot, Ev.p_setU, Ev.p_setF, Ev.p_setO, Ev.p_ofF, Ev.p_ofN, Ev.p_kNx, Ev.p_set, Ev.p_kSet, Ev.p_ret, Ev.p_kRt, Ev.p_expr, Ev.p_kEx, Ev.p_par, Ev.p_kPar, Ev.p_kSs, Ev.p_ss0, Ev.p_ss, Ev.p_asg, Ev.p_kAsg, Ev.p_unp, Ev.p_gs, Ev.p_kG, Ev.p_gs0, Ev.p_gIx, Ev.p_gIO, Ev.p_kUp, Ev.p_upd, Ev.p_upO, Ev.p_upN, Ev.p_upDt, Ev.p_upDf, Ev.p_put, Ev.p_mut, Ev.p_mutO, Ev.p_kNon, Ev.p_kM1, Ev.p_app, Ev.p_sl, Ev.p_kSl1, Ev.p_kSl2, Ev.p_kSl3, Ev.p_add, Ev.p_addL, Ev.p_i2, Ev.p_u1, Ev.p_lt, Ev.p_le, Ev.p_gt, Ev.p_ge, Ev.p_eqI, Ev.p_neI, Ev.p_eqS, Ev.p_neS, Ev.p_isB, Ev.p_isN, Ev.p_notN, Ev.p_tup, Ev.p_lst, Ev.p_abs, Ev.p_intI, Ev.p_intB, Ev.p_len, Ev.p_dlL, Ev.p_dlT, Ev.p_itL, Ev.p_itT, Ev.p_d, Ev.p_dn, Ev.p_rng1, Ev.p_rng2, Ev.p_lo0, Ev.p_lo1, Ev.p_lo2, Ev.p_lo3, Ev.p_lo4, Ev.p_lo5, Ev.p_lo6, Ev.p_lo7, Ev.p_lo8, Ev.p_lo9, Ev.p_lo10, Ev.p_lo11, Ev.p_lo12, Ev.p_lo13, Ev.p_lo14, Ev.p_lo15, Ev.p_lo16, Ev.p_lo17, Ev.p_lo18, Ev.p_lo19, Ev.p_lo20, Ev.p_lo21, Ev.p_lo22, Ev.p_lo23, Ev.p_lo24, Ev.p_p18, Ev.p_p40, Ev.p_lpN, Ev.p_lpC, Ev.p_lpB, Ev.p_lpR, Ev.p_for, Ev.p_whT, Ev.p_whF, Ev.p_lc, Ev.p_callAr, Ev.p_callO1, Ev.p_callO2, Ev.p_refV, Ev.p_refR, Ev.p_ref0, Ev.p_ga, Ev.p_ga0, Ev.p_gaO, Ev.p_gaV, Ev.p_gaR, Ev.p_leF, Ev.p_leL, Ev.p_leO, Ev.p_leN, Ev.p_sc, Ev.p_sc0, Ev.p_scN, Ev.p_scFs, Ev.p_scLs, Ev.p_scOn, Ev.p_scOl, Ev.p_scNn, Ev.p_scNl, Ev.p_fiR, Ev.p_fiV, Ev.p_fi0, Ev.fin_rt, Ev.fin_nx, Ev.ou_ln, Ev.ou_fz, Ev.ou_0, Ev.at_0, Ev.at_1, Ev.at_2, Ev.at_3, Ev.p_lenS, Ev.p_lenO, Ev.p_bind, Ev.q_ok, List.getElem?_cons_zero, List.getElem?_cons_succ, List.set_cons_zero, List.set_cons_succ, List.length_cons, List.length_nil, List.cons_append, List.nil_append, Option.map_some, ↓reduceIte, Bool.not_true, Bool.not_false, decide_true, decide_false, Ev.p_div, Ev.p_mod, Ev.p_pow, Ev.p_mul, Ev.dist, List.contains_cons, List.contains_nil, Bool.or_false, Bool.false_and, Bool.and_true, Bool.true_and, Nat.reduceAdd, Nat.reduceBEq, Ev.permN, Ev.perm, List.map_cons, List.map_nil, List.getD_cons_zero, List.getD_cons_succ, and_self, cond_true, cond_false, Int.cast_ofNat_Int, Int.natCast_one, Int.natCast_zero, Int.reduceEq, Int.reduceLE, Int.reduceLT, Int.reduceNeg, Int.reduceGT, Int.reduceAdd, Int.reduceMul, Int.reduceSub, Int.reduceToNat, Int.reducePow, Int.reduceNe, reduceCtorEq, eq_self, e1, e2, m1, m2, m3, Ev.p_div _ _ dk]
        rw [jn_1, jn_2]
        exact ⟨_, rfl, .inr ⟨_, rfl⟩⟩
      · simp only [Ev.p_pure, Ev.p_ok, Ev.p_toD, Ev.p_kDf, Ev.p_kDn, Ev.p_toV, Ev.p_kV, Ev.p_some, Ev.p_var, Ev.p_varF, Ev.p_varL, Ev.p_varO, Ev.p_varN, Ev.p_mov, Ev.p_movF, Ev.p_movL, Ev.p_movO, Ev.p_movN, Ev.p_ev2, Ev.p_k2, Ev.p_k2', Ev.p_ev2T, Ev.p_kT, Ev.p_kT', Ev.p_vb, Ev.p_ev1, Ev.p_evC, Ev.p_evL, Ev.p_evO, Ev.p_evSeq, Ev.p_tTruth, Ev.p_kf, Ev.p_cons, Ev.p_vcons, Ev.p_acons, Ev.p_kC1, Ev.p_kC2, Ev.p_arV, Ev.p_kAr, Ev.p_arR, Ev.p_arF, Ev.p_arOw, Ev.p_arN, Ev.p_arL, Ev.p_call, Ev.p_kL1, Ev.p_kL2, Ev.p_if, Ev.p_kIt, Ev.p_kIf, Ev.p_tAnd, Ev.p_tOr, Ev.p_tNot, Ev.p_kN, Ev.p_and, Ev.p_kA, Ev.p_or, Ev.p_kO, Ev.p_not, Ev.p_kNt, Ev.p_ixS, Ev.p_ixO, Ev.p_kX, Ev.p_kXO, Ev.p_slotD, Ev.p_slF, Ev.p_slO, Ev.p_slN, Ev.p_slL, Ev.p_seq, Ev.p_kSn, Ev.p_kSr, Ev.p_kSb, Ev.p_kSc, Ev.p_slot, Ev.p_setU, Ev.p_setF, Ev.p_setO, Ev.p_ofF, Ev.p_ofN, Ev.p_kNx, Ev.p_set, Ev.p_kSet, Ev.p_ret, Ev.p_kRt, Ev.p_expr, Ev.p_kEx, Ev.p_par, Ev.p_kPar, Ev.p_kSs, Ev.p_ss0, Ev.p_ss, Ev.p_asg, Ev.p_kAsg, Ev.p_unp, Ev.p_gs, Ev.p_kG, Ev.p_gs0, Ev.p_gIx, Ev.p_gIO, Ev.p_kUp, Ev.p_upd, Ev.p_upO, Ev.p_upN, Ev.p_upDt, Ev.p_upDf, Ev.p_put, Ev.p_mut, Ev.p_mutO, Ev.p_kNon, Ev.p_kM1, Ev.p_app, Ev.p_sl, Ev.p_kSl1, Ev.p_kSl2, Ev.p_kSl3, Ev.p_add, Ev.p_addL, Ev.p_i2, Ev.p_u1, Ev.p_lt, Ev.p_le, Ev.p_gt, Ev.p_ge, Ev.p_eqI, Ev.p_neI, Ev.p_eqS, Ev.p_neS, Ev.p_isB, Ev.p_isN, Ev.p_notN, Ev.p_tup, Ev.p_lst, Ev.p_abs, Ev.p_intI, Ev.p_intB, Ev.p_len, Ev.p_dlL, Ev.p_dlT, Ev.p_itL, Ev.p_itT, Ev.p_d, Ev.p_dn, Ev.p_rng1, Ev.p_rng2, Ev.p_lo0, Ev.p_lo1, Ev.p_lo2, Ev.p_lo3, Ev.p_lo4, Ev.p_lo5, Ev.p_lo6, Ev.p_lo7, Ev.p_lo8, Ev.p_lo9, Ev.p_lo10, Ev.p_lo11, Ev.p_lo12, Ev.p_lo13, Ev.p_lo14, Ev.p_lo15, Ev.p_lo16, Ev.p_lo17, Ev.p_lo18, Ev.p_lo19, Ev.p_lo20, Ev.p_lo21, Ev.p_lo22, Ev.p_lo23, Ev.p_lo24, Ev.p_p18, Ev.p_p40, Ev.p_lpN, Ev.p_lpC, Ev.p_lpB, Ev.p_lpR, Ev.p_for, Ev.p_whT, Ev.p_whF, Ev.p_lc, Ev.p_callAr, Ev.p_callO1, Ev.p_callO2, Ev.p_refV, Ev.p_refR, Ev.p_ref0, Ev.p_ga, Ev.p_ga0, Ev.p_gaO, Ev.p_gaV, Ev.p_gaR, Ev.p_leF, Ev.p_leL, Ev.p_leO, Ev.p_leN, Ev.p_sc, Ev.p_sc0, Ev.p_scN, Ev.p_scFs, Ev.p_scLs, Ev.p_scOn, Ev.p_scOl, Ev.p_scNn, Ev.p_scNl, Ev.p_fiR, Ev.p_fiV, Ev.p_fi0, Ev.fin_rt, Ev.fin_nx, Ev.ou_ln, Ev.ou_fz, Ev.ou_0, Ev.at_0, Ev.at_1, Ev.at_2, Ev.at_3, Ev.p_lenS, Ev.p_lenO, Ev.p_bind, Ev.q_ok, List.getElem?_cons_zero, List.getElem?_cons_succ, List.set_cons_zero, List.set_cons_succ, List.length_cons, List.length_nil, List.cons_append, List.nil_append, Option.map_some, ↓reduceIte, Bool.not_true, Bool.not_false, decide_true, decide_false, Ev.p_div, Ev.p_mod, Ev.p_pow, Ev.p_mul, Ev.dist, List.contains_cons, List.contains_nil, Bool.or_false, Bool.false_and, Bool.and_true, Bool.true_and, Nat.reduceAdd, Nat.reduceBEq, Ev.permN, Ev.perm, List.map_cons, List.map_nil, List.getD_cons_zero, List.getD_cons_succ, and_self, cond_true, cond_false, Int.cast_ofNat_Int, Int.natCast_one, Int.natCast_zero, Int.reduceEq, Int.reduceLE, Int.reduceLT, Int.reduceNeg, Int.reduceGT, Int.reduceAdd, Int.reduceMul, Int.reduceSub, Int.reduceToNat, Int.reducePow, Int.reduceNe, reduceCtorEq, eq_self, e1, e2, m1, m2, m3, Ev.p_div _ _ dk]
        rw [jn_1, jn_2]
        exact ⟨_, rfl, .inr ⟨_, rfl⟩⟩
    · obtain ⟨x5, rfl, hx⟩ := hI
      simp only [Ev.p_pure, Ev.p_ok, Ev.p_toD, Ev.p_kDf, Ev.p_kDn, Ev.p_toV, Ev.p_kV, Ev.p_some, Ev.p_var, Ev.p_varF, Ev.p_varL, Ev.p_varO, Ev.p_varN, Ev.p_mov, Ev.p_movF, Ev.p_movL, Ev.p_movO, Ev.p_movN, Ev.p_ev2, Ev.p_k2, Ev.p_k2', Ev.p_ev2T, Ev.p_kT, Ev.p_kT', Ev.p_vb, Ev.p_ev1, Ev.p_evC, Ev.p_evL, Ev.p_evO, Ev.p_evSeq, Ev.p_tTruth, Ev.p_kf, Ev.p_cons, Ev.p_vcons, Ev.p_acons, Ev.p_kC1, Ev.p_kC2, Ev.p_arV, Ev.p_kAr, Ev.p_arR, Ev.p_arF, Ev.p_arOw, Ev.p_arN, Ev.p_arL, Ev.p_call, Ev.p_kL1, Ev.p_kL2, Ev.p_if, Ev.p_kIt, Ev.p_kIf, Ev.p_tAnd, Ev.p_tOr, Ev.p_tNot, Ev.p_kN, Ev.p_and, Ev.p_kA, Ev.p_or, Ev.p_kO, Ev.p_not, Ev.p_kNt, Ev.p_ixS, Ev.p_ixO, Ev.p_kX, Ev.p_kXO, Ev.p_slotD, Ev.p_slF, Ev.p_slO, Ev.p_slN, Ev.p_slL, Ev.p_seq, Ev.p_kSn, Ev.p_kSr, Ev.p_kSb, Ev.p_kSc, Ev.p_slot, Ev.p_setU, Ev.p_setF, Ev.p_setO, Ev.p_ofF, Ev.p_ofN, Ev.p_kNx, Ev.p_set, Ev.p_kSet, Ev.p_ret, Ev.p_kRt, Ev.p_expr, Ev.p_kEx, Ev.p_par, Ev.p_kPar, Ev.p_kSs, Ev.p_ss0, Ev.p_ss, Ev.p_asg, Ev.p_kAsg, Ev.p_unp, Ev.p_gs, Ev.p_kG, Ev.p_gs0, Ev.p_gIx, Ev.p_gIO, Ev.p_kUp, Ev.p_upd, Ev.p_upO, Ev.p_upN, Ev.p_upDt, Ev.p_upDf, Ev.p_put, Ev.p_mut, Ev.p_mutO, Ev.p_kNon, Ev.p_kM1, Ev.p_app, Ev.p_sl, Ev.p_kSl1, Ev.p_kSl2, Ev.p_kSl3, Ev.p_add, Ev.p_addL, Ev.p_i2, Ev.p_u1, Ev.p_lt, Ev.p_le, Ev.p_gt, Ev.p_ge, Ev.p_eqI, Ev.p_neI, Ev.p_eqS, Ev.p_neS, Ev.p_isB, Ev.p_isN, Ev.p_notN, Ev.p_tup, Ev.p_lst, Ev.p_abs, Ev.p_intI, Ev.p_intB, Ev.p_len, Ev.p_dlL, Ev.p_dlT, Ev.p_itL, Ev.p_itT, Ev.p_d, Ev.p_dn, Ev.p_rng1, Ev.p_rng2, Ev.p_lo0, Ev.p_lo1, Ev.p_lo2, Ev.p_lo3, Ev.p_lo4, Ev.p_lo5, Ev.p_lo6, Ev.p_lo7, Ev.p_lo8, Ev.p_lo9, Ev.p_lo10, Ev.p_lo11, Ev.p_lo12, Ev.p_lo13, Ev.p_lo14, Ev.p_lo15, Ev.p_lo16, Ev.p_lo17, Ev.p_lo18, Ev.p_lo19, Ev.p_lo20, Ev.p_lo21, Ev.p_lo22, Ev.p_lo23, Ev.p_lo24, Ev.p_p18, Ev.p_p40, Ev.p_lpN, Ev.p_lpC, Ev.p_lpB, Ev.p_lpR, Ev.p_for, Ev.p_whT, Ev.p_whF, Ev.p_lc, Ev.p_callAr, Ev.p_callO1, Ev.p_callO2, Ev.p_refV, Ev.p_refR, Ev.p_ref0, Ev.p_ga, Ev.p_ga0, Ev.p_gaO, Ev.p_gaV, Ev.p_gaR, Ev.p_leF, Ev.p_leL, Ev.p_leO, Ev.p_leN, Ev.p_sc, Ev.p_sc0, Ev.p_scN, Ev.p_scFs, Ev.p_scLs, Ev.p_scOn, Ev.p_scOl, Ev.p_scNn, Ev.p_scNl, Ev.p_fiR, Ev.p_fiV, Ev.p_fi0, Ev.fin_rt, Ev.fin_nx, Ev.ou_ln, Ev.ou_fz, Ev.ou_0, Ev.at_0, Ev.at_1, Ev.at_2, Ev.at_3, Ev.p_lenS, Ev.p_lenO, Ev.p_bind, Ev.q_ok, List.getElem?_cons_zero, List.getElem?_cons_succ, List.set_cons_zero, List.set_cons_succ, List.length_cons, List.length_nil, List.cons_append, List.nil_append, Option.map_some, ↓reduceIte, Bool.not_true, Bool.not_false, decide_true, decide_false, Ev.p_div, Ev.p_mod, Ev.p_pow, Ev.p_mul, Ev.dist, List.contains_cons, List.contains_nil, Bool.or_false, Bool.false_and, Bool.and_true, Bool.true_and, Nat.reduceAdd, Nat.reduceBEq, Ev.permN, Ev.perm, List.map_cons, List.map_nil, List.getD_cons_zero, List.getD_cons_succ, and_self, cond_true, cond_false, Int.cast_ofNat_Int, Int.natCast_one, Int.natCast_zero, Int.reduceEq, Int.reduceLE, Int.reduceLT, Int.reduceNeg, Int.reduceGT, Int.reduceAdd, Int.reduceMul, Int.reduceSub, Int.reduceToNat, Int.reducePow, Int.reduceNe, reduceCtorEq, eq_self]
      exact ⟨by decide, trivial⟩
  obtain ⟨_, _, e, rfl, rfl⟩ := w
  exact e
def tws (d : Nat) : List Int := (List.range (d + 1)).map tow
structure TabOk (d : Nat) (T : List Int) : Prop where
  two : 2 ≤ T.length
  h0 : T.getD 0 0 = tow d
  h1 : T.getD 1 0 = (jnS (tws d) (tws d) d (d + 1)).1
  step : ∀ k, k + 2 < T.length → T.getD (k + 2) 0 = T.getD (k + 1) 0 + ((d : Int) * T.getD k 0).fdiv ((k : Int) + 1)
  jb : ∀ k, k ≤ d → (jnS (tws d) (tws d) d k).2.natAbs < 2 ^ 1000
  tb : ∀ n, (T.getD n 0).natAbs < 2 ^ 8000
theorem tow_lt {n : Nat} (h : n ≤ 250) : (tow n).natAbs < 2 ^ 4000 := by
  have h1 := pow_lt (i := (n : Int)) (by omega) n
  exact Nat.lt_of_lt_of_le h1 (Nat.pow_le_pow_right (by omega) (by omega))
theorem tws_lt {d : Nat} (h : d ≤ 250) (n : Nat) : ((tws d).getD n 0).natAbs < 2 ^ 4000 := by
  unfold tws
  rw [List.getD_eq_getElem?_getD, List.getElem?_map]
  cases e : (List.range (d + 1))[n]? with
  | none =>
    exact Nat.pow_pos (a := 2) (n := 4000) (by decide)
  | some j =>
    have hj := List.mem_range.mp (List.mem_of_getElem? e)
    exact tow_lt (by omega)
theorem tow_pos (n : Nat) : 0 < tow n := by
  unfold tow
  cases n with
  | zero => decide
  | succ n => exact Int.pow_pos (by omega)
def towF : D → Option D
  | .int i => some (.int (tow i.toNat))
  | _ => none
theorem towF_map : ∀ n : Nat, (rangeL 0 n).filterMap towF = ((List.range n).map tow).map D.int := by
  intro n
  unfold rangeL
  rw [List.filterMap_map, List.map_map]
  rw [show (towF ∘ fun (i : Nat) => D.int (0 + (i : Int))) = fun i => some ((D.int ∘ tow) i) from funext fun i => by
    show some (D.int (tow (0 + (i : Int)).toNat)) = _
    rw [show (0 + (i : Int)).toNat = i by omega]
    rfl]
  rw [List.filterMap_eq_map']
def lowF (u : Int) : D → Option D
  | .int a => some (lowD a u)
  | _ => none
theorem lowF_map (u : Int) (l : List Int) : (l.map D.int).filterMap (lowF u) = l.map fun a => lowD a u := by
  rw [List.filterMap_map]
  rw [show (lowF u ∘ D.int) = fun a => some (lowD a u) from rfl]
  rw [List.filterMap_eq_map']
theorem cut_take (l : List Int) (g : Nat) : Ev.cutD (l.map D.int) none (some (g : Int)) = (l.take g).map D.int := by
  unfold Ev.cutD
  rw [HT.sIx_none, HT.sIx_nat, List.drop_zero, Nat.sub_zero, List.map_take]
  rw [List.length_map]
  by_cases h : g ≤ l.length
  · rw [Nat.min_eq_left h]
  · rw [Nat.min_eq_right (by omega), List.take_of_length_le (by rw [List.length_map]; omega), List.take_of_length_le (by rw [List.length_map]; omega)]
def allB (T : List Int) (u : Int) (g : Nat) : List D := (T.take g).map fun a => lowD a u
theorem take_snoc {T : List Int} {m : Nat} (h : m < T.length) : (T.take m).map D.int ++ [.int (T.getD m 0)] = (T.take (m + 1)).map D.int := by
  rw [List.take_add_one, List.map_append, List.getD_eq_getElem?_getD, List.getElem?_eq_getElem h]
  rfl
theorem take_at {T : List Int} {m n : Nat} (h : n < m) (hm : m ≤ T.length) : ((T.take m).map D.int)[n]? = some (.int (T.getD n 0)) := by
  rw [List.getElem?_map, List.getElem?_take_of_lt h, List.getD_eq_getElem?_getD, List.getElem?_eq_getElem (by omega)]
  rfl
theorem two_take {T : List Int} (h : 2 ≤ T.length) : (T.take 2).map D.int = [D.int (T.getD 0 0), D.int (T.getD 1 0)] := by
  match T, h with
  | a :: b :: r, _ => rfl
theorem prices_sp (g d : Nat) (T : List Int) (hg : 1 ≤ g) (hg2 : g ≤ 60) (hd : d ≤ 250) (hT : TabOk d T) (hl : g ≤ T.length) :
    m_prices_to [.fz (.int g), .fz (.int d)] = .ok (.nw (.lst (allB T (tow d) g))) [.fz (.int g), .fz (.int d)] := by
  have w : Fw (m_prices_to [.fz (.int g), .fz (.int d)]) fun r os => r = .nw (.lst (allB T (tow d) g)) ∧ os = [.fz (.int g), .fz (.int d)] := by
    refine fw_fin ?_
    change Wq (b_prices_to [.fz (.int g), .fz (.int d), .un, .un, .un, .un, .un]) _
    unfold b_prices_to
    have er : rng1 [.int ((d : Int) + 1)] = some (rangeL 0 (d + 1)) := by
      rw [Ev.p_rng1 _ (inR_of (by omega) (by omega)), show ((d : Int) + 1).toNat = d + 1 by omega]
    have et : (rangeL 0 (d + 1)).filterMap towF = (tws d).map D.int := towF_map (d + 1)
    simp only [Ev.p_pure, Ev.p_ok, Ev.p_toD, Ev.p_kDf, Ev.p_kDn, Ev.p_toV, Ev.p_kV, Ev.p_some, Ev.p_var, Ev.p_varF, Ev.p_varL, Ev.p_varO, Ev.p_varN, Ev.p_mov, Ev.p_movF, Ev.p_movL, Ev.p_movO, Ev.p_movN, Ev.p_ev2, Ev.p_k2, Ev.p_k2', Ev.p_ev2T, Ev.p_kT, Ev.p_kT', Ev.p_vb, Ev.p_ev1, Ev.p_evC, Ev.p_evL, Ev.p_evO, Ev.p_evSeq, Ev.p_tTruth, Ev.p_kf, Ev.p_cons, Ev.p_vcons, Ev.p_acons, Ev.p_kC1, Ev.p_kC2, Ev.p_arV, Ev.p_kAr, Ev.p_arR, Ev.p_arF, Ev.p_arOw, Ev.p_arN, Ev.p_arL, Ev.p_call, Ev.p_kL1, Ev.p_kL2, Ev.p_if, Ev.p_kIt, Ev.p_kIf, Ev.p_tAnd, Ev.p_tOr, Ev.p_tNot, Ev.p_kN, Ev.p_and, Ev.p_kA, Ev.p_or, Ev.p_kO, Ev.p_not, Ev.p_kNt, Ev.p_ixS, Ev.p_ixO, Ev.p_kX, Ev.p_kXO, Ev.p_slotD, Ev.p_slF, Ev.p_slO, Ev.p_slN, Ev.p_slL, Ev.p_seq, Ev.p_kSn, Ev.p_kSr, Ev.p_kSb, Ev.p_kSc, Ev.p_slot, Ev.p_setU, Ev.p_setF, Ev.p_setO, Ev.p_ofF, Ev.p_ofN, Ev.p_kNx, Ev.p_set, Ev.p_kSet, Ev.p_ret, Ev.p_kRt, Ev.p_expr, Ev.p_kEx, Ev.p_par, Ev.p_kPar, Ev.p_kSs, Ev.p_ss0, Ev.p_ss, Ev.p_asg, Ev.p_kAsg, Ev.p_unp, Ev.p_gs, Ev.p_kG, Ev.p_gs0, Ev.p_gIx, Ev.p_gIO, Ev.p_kUp, Ev.p_upd, Ev.p_upO, Ev.p_upN, Ev.p_upDt, Ev.p_upDf, Ev.p_put, Ev.p_mut, Ev.p_mutO, Ev.p_kNon, Ev.p_kM1, Ev.p_app, Ev.p_sl, Ev.p_kSl1, Ev.p_kSl2, Ev.p_kSl3, Ev.p_add, Ev.p_addL, Ev.p_i2, Ev.p_u1, Ev.p_lt, Ev.p_le, Ev.p_gt, Ev.p_ge, Ev.p_eqI, Ev.p_neI, Ev.p_eqS, Ev.p_neS, Ev.p_isB, Ev.p_isN, Ev.p_notN, Ev.p_tup, Ev.p_lst, Ev.p_abs, Ev.p_intI, Ev.p_intB, Ev.p_len, Ev.p_dlL, Ev.p_dlT, Ev.p_itL, Ev.p_itT, Ev.p_d, Ev.p_dn, Ev.p_rng1, Ev.p_rng2, Ev.p_lo0, Ev.p_lo1, Ev.p_lo2, Ev.p_lo3, Ev.p_lo4, Ev.p_lo5, Ev.p_lo6, Ev.p_lo7, Ev.p_lo8, Ev.p_lo9, Ev.p_lo10, Ev.p_lo11, Ev.p_lo12, Ev.p_lo13, Ev.p_lo14, Ev.p_lo15, Ev.p_lo16, Ev.p_lo17, Ev.p_lo18, Ev.p_lo19, Ev.p_lo20, Ev.p_lo21, Ev.p_lo22, Ev.p_lo23, Ev.p_lo24, Ev.p_p18, Ev.p_p40, Ev.p_lpN, Ev.p_lpC, Ev.p_lpB, Ev.p_lpR, Ev.p_for, Ev.p_whT, Ev.p_whF, Ev.p_lc, Ev.p_callAr, Ev.p_callO1, Ev.p_callO2, Ev.p_refV, Ev.p_refR, Ev.p_ref0, Ev.p_ga, Ev.p_ga0, Ev.p_gaO, Ev.p_gaV, Ev.p_gaR, Ev.p_leF, Ev.p_leL, Ev.p_leO, Ev.p_leN, Ev.p_sc, Ev.p_sc0, Ev.p_scN, Ev.p_scFs, Ev.p_scLs, Ev.p_scOn, Ev.p_scOl, Ev.p_scNn, Ev.p_scNl, Ev.p_fiR, Ev.p_fiV, Ev.p_fi0, Ev.fin_rt, Ev.fin_nx, Ev.ou_ln, Ev.ou_fz, Ev.ou_0, Ev.at_0, Ev.at_1, Ev.at_2, Ev.at_3, Ev.p_lenS, Ev.p_lenO, Ev.p_bind, Ev.q_ok, List.getElem?_cons_zero, List.getElem?_cons_succ, List.set_cons_zero, List.set_cons_succ, List.length_cons, List.length_nil, List.cons_append, List.nil_append, Option.map_some, ↓reduceIte, Bool.not_true, Bool.not_false, decide_true, decide_false, Ev.p_div, Ev.p_mod, Ev.p_pow, Ev.p_mul, Ev.dist, List.contains_cons, List.contains_nil, Bool.or_false, Bool.false_and, Bool.and_true, Bool.true_and, Nat.reduceAdd, Nat.reduceBEq, Ev.permN, Ev.perm, List.map_cons, List.map_nil, List.getD_cons_zero, List.getD_cons_succ, and_self, cond_true, cond_false, Int.cast_ofNat_Int, Int.natCast_one, Int.natCast_zero, Int.reduceEq, Int.reduceLE, Int.reduceLT, Int.reduceNeg, Int.reduceGT, Int.reduceAdd, Int.reduceMul, Int.reduceSub, Int.reduceToNat, Int.reducePow, Int.reduceNe, reduceCtorEq, eq_self, er]
    rw [lc_eq towF rfl (by rw [rangeL_len]; omega) (fun x hx => ?_), et]
    · have ej := joined_sp (tws d) (tws d) d (by omega) (by unfold tws; rw [List.length_map, List.length_range]; omega) (by unfold tws; rw [List.length_map, List.length_range]; omega) (tws_lt hd) (tws_lt hd) hT.jb
      rw [← hT.h1] at ej
      have e0 : (T.take 2).map D.int = [D.int (T.getD 0 0), D.int (T.getD 1 0)] := two_take hT.two
      rw [hT.h0] at e0
      have ew := tower_sp d hd
      simp only [Ev.p_pure, Ev.p_ok, Ev.p_toD, Ev.p_kDf, Ev.p_kDn, Ev.p_toV, Ev.p_kV, Ev.p_some, Ev.p_var, Ev.p_varF, Ev.p_varL, Ev.p_varO, Ev.p_varN, Ev.p_mov, Ev.p_movF, Ev.p_movL, Ev.p_movO, Ev.p_movN, Ev.p_ev2, Ev.p_k2, Ev.p_k2', Ev.p_ev2T, Ev.p_kT, Ev.p_kT', Ev.p_vb, Ev.p_ev1, Ev.p_evC, Ev.p_evL, Ev.p_evO, Ev.p_evSeq, Ev.p_tTruth, Ev.p_kf, Ev.p_cons, Ev.p_vcons, Ev.p_acons, Ev.p_kC1, Ev.p_kC2, Ev.p_arV, Ev.p_kAr, Ev.p_arR, Ev.p_arF, Ev.p_arOw, Ev.p_arN, Ev.p_arL, Ev.p_call, Ev.p_kL1, Ev.p_kL2, Ev.p_if, Ev.p_kIt, Ev.p_kIf, Ev.p_tAnd, Ev.p_tOr, Ev.p_tNot, Ev.p_kN, Ev.p_and, Ev.p_kA, Ev.p_or, Ev.p_kO, Ev.p_not, Ev.p_kNt, Ev.p_ixS, Ev.p_ixO, Ev.p_kX, Ev.p_kXO, Ev.p_slotD, Ev.p_slF, Ev.p_slO, Ev.p_slN, Ev.p_slL, Ev.p_seq, Ev.p_kSn, Ev.p_kSr, Ev.p_kSb, Ev.p_kSc, Ev.p_slot, Ev.p_setU, Ev.p_setF, Ev.p_setO, Ev.p_ofF, Ev.p_ofN, Ev.p_kNx, Ev.p_set, Ev.p_kSet, Ev.p_ret, Ev.p_kRt, Ev.p_expr, Ev.p_kEx, Ev.p_par, Ev.p_kPar, Ev.p_kSs, Ev.p_ss0, Ev.p_ss, Ev.p_asg, Ev.p_kAsg, Ev.p_unp, Ev.p_gs, Ev.p_kG, Ev.p_gs0, Ev.p_gIx, Ev.p_gIO, Ev.p_kUp, Ev.p_upd, Ev.p_upO, Ev.p_upN, Ev.p_upDt, Ev.p_upDf, Ev.p_put, Ev.p_mut, Ev.p_mutO, Ev.p_kNon, Ev.p_kM1, Ev.p_app, Ev.p_sl, Ev.p_kSl1, Ev.p_kSl2, Ev.p_kSl3, Ev.p_add, Ev.p_addL, Ev.p_i2, Ev.p_u1, Ev.p_lt, Ev.p_le, Ev.p_gt, Ev.p_ge, Ev.p_eqI, Ev.p_neI, Ev.p_eqS, Ev.p_neS, Ev.p_isB, Ev.p_isN, Ev.p_notN, Ev.p_tup, Ev.p_lst, Ev.p_abs, Ev.p_intI, Ev.p_intB, Ev.p_len, Ev.p_dlL, Ev.p_dlT, Ev.p_itL, Ev.p_itT, Ev.p_d, Ev.p_dn, Ev.p_rng1, Ev.p_rng2, Ev.p_lo0, Ev.p_lo1, Ev.p_lo2, Ev.p_lo3, Ev.p_lo4, Ev.p_lo5, Ev.p_lo6, Ev.p_lo7, Ev.p_lo8, Ev.p_lo9, Ev.p_lo10, Ev.p_lo11, Ev.p_lo12, Ev.p_lo13, Ev.p_lo14, Ev.p_lo15, Ev.p_lo16, Ev.p_lo17, Ev.p_lo18, Ev.p_lo19, Ev.p_lo20, Ev.p_lo21, Ev.p_lo22, Ev.p_lo23, Ev.p_lo24, Ev.p_p18, Ev.p_p40, Ev.p_lpN, Ev.p_lpC, Ev.p_lpB, Ev.p_lpR, Ev.p_for, Ev.p_whT, Ev.p_whF, Ev.p_lc, Ev.p_callAr, Ev.p_callO1, Ev.p_callO2, Ev.p_refV, Ev.p_refR, Ev.p_ref0, Ev.p_ga, Ev.p_ga0, Ev.p_gaO, Ev.p_gaV, Ev.p_gaR, Ev.p_leF, Ev.p_leL, Ev.p_leO, Ev.p_leN, Ev.p_sc, Ev.p_sc0, Ev.p_scN, Ev.p_scFs, Ev.p_scLs, Ev.p_scOn, Ev.p_scOl, Ev.p_scNn, Ev.p_scNl, Ev.p_fiR, Ev.p_fiV, Ev.p_fi0, Ev.fin_rt, Ev.fin_nx, Ev.ou_ln, Ev.ou_fz, Ev.ou_0, Ev.at_0, Ev.at_1, Ev.at_2, Ev.at_3, Ev.p_lenS, Ev.p_lenO, Ev.p_bind, Ev.q_ok, List.getElem?_cons_zero, List.getElem?_cons_succ, List.set_cons_zero, List.set_cons_succ, List.length_cons, List.length_nil, List.cons_append, List.nil_append, Option.map_some, ↓reduceIte, Bool.not_true, Bool.not_false, decide_true, decide_false, Ev.p_div, Ev.p_mod, Ev.p_pow, Ev.p_mul, Ev.dist, List.contains_cons, List.contains_nil, Bool.or_false, Bool.false_and, Bool.and_true, Bool.true_and, Nat.reduceAdd, Nat.reduceBEq, Ev.permN, Ev.perm, List.map_cons, List.map_nil, List.getD_cons_zero, List.getD_cons_succ, and_self, cond_true, cond_false, Int.cast_ofNat_Int, Int.natCast_one, Int.natCast_zero, Int.reduceEq, Int.reduceLE, Int.reduceLT, Int.reduceNeg, Int.reduceGT, Int.reduceAdd, Int.reduceMul, Int.reduceSub, Int.reduceToNat, Int.reducePow, Int.reduceNe, reduceCtorEq, eq_self, ew, ej]
      rw [← e0, q_bind]
      refine while_inv (I := fun n ρ => ∃ m, ρ = [.fz (.int g), .fz (.int d), .fz (.lst ((tws d).map .int)), .fz (.int (tow d)), .ow (.lst ((T.take m).map .int)), .un, .un] ∧ 2 ≤ m ∧ m ≤ T.length ∧ (m = 2 ∨ m ≤ g) ∧ n = g - m) (fun n ρ hI => ?_) (g - 2) _ ⟨2, rfl, by omega, hT.two, .inl rfl, rfl⟩
      obtain ⟨m, rfl, h2, hm, hmg, rfl⟩ := hI
      have lt : ((T.take m).map D.int).length = m := by rw [List.length_map, List.length_take]; omega
      by_cases h : (m : Int) < (g : Int)
      · have hmT : m < T.length := by omega
        have a1 : atI ((T.take m).map D.int) (-1) = some (.int (T.getD (m - 1) 0)) := by
          rw [at_neg (i := -1) (j := 1) rfl (by omega) (by omega), lt, take_at (by omega) hm]
        have a2 : atI ((T.take m).map D.int) (-2) = some (.int (T.getD (m - 2) 0)) := by
          rw [at_neg (i := -2) (j := 2) rfl (by omega) (by omega), lt, take_at (by omega) hm]
        have mo : mulOk (d : Int) (T.getD (m - 2) 0) = true := mulOk_of (a := 64) (by omega) (hT.tb (m - 2)) (by decide)
        have dk : divOk ((m : Int) - 1) = true := divOk_of (b := 64) (by omega) (by omega) (by decide) (by decide)
        have la : m < 16777216 := by omega
        have st := hT.step (m - 2) (by omega)
        rw [show m - 2 + 2 = m by omega, show m - 2 + 1 = m - 1 by omega, show ((m - 2 : Nat) : Int) + 1 = (m : Int) - 1 by omega] at st
        simp only [Ev.p_pure, Ev.p_ok, Ev.p_toD, Ev.p_kDf, Ev.p_kDn, Ev.p_toV, Ev.p_kV, Ev.p_some, Ev.p_var, Ev.p_varF, Ev.p_varL, Ev.p_varO, Ev.p_varN, Ev.p_mov, Ev.p_movF, Ev.p_movL, Ev.p_movO, Ev.p_movN, Ev.p_ev2, Ev.p_k2, Ev.p_k2', Ev.p_ev2T, Ev.p_kT, Ev.p_kT', Ev.p_vb, Ev.p_ev1, Ev.p_evC, Ev.p_evL, Ev.p_evO, Ev.p_evSeq, Ev.p_tTruth, Ev.p_kf, Ev.p_cons, Ev.p_vcons, Ev.p_acons, Ev.p_kC1, Ev.p_kC2, Ev.p_arV, Ev.p_kAr, Ev.p_arR, Ev.p_arF, Ev.p_arOw, Ev.p_arN, Ev.p_arL, Ev.p_call, Ev.p_kL1, Ev.p_kL2, Ev.p_if, Ev.p_kIt, Ev.p_kIf, Ev.p_tAnd, Ev.p_tOr, Ev.p_tNot, Ev.p_kN, Ev.p_and, Ev.p_kA, Ev.p_or, Ev.p_kO, Ev.p_not, Ev.p_kNt, Ev.p_ixS, Ev.p_ixO, Ev.p_kX, Ev.p_kXO, Ev.p_slotD, Ev.p_slF, Ev.p_slO, Ev.p_slN, Ev.p_slL, Ev.p_seq, Ev.p_kSn, Ev.p_kSr, Ev.p_kSb, Ev.p_kSc, Ev.p_slot, Ev.p_setU, Ev.p_setF, Ev.p_setO, Ev.p_ofF, Ev.p_ofN, Ev.p_kNx, Ev.p_set, Ev.p_kSet, Ev.p_ret, Ev.p_kRt, Ev.p_expr, Ev.p_kEx, Ev.p_par, Ev.p_kPar, Ev.p_kSs, Ev.p_ss0, Ev.p_ss, Ev.p_asg, Ev.p_kAsg, Ev.p_unp, Ev.p_gs, Ev.p_kG, Ev.p_gs0, Ev.p_gIx, Ev.p_gIO, Ev.p_kUp, Ev.p_upd, Ev.p_upO, Ev.p_upN, Ev.p_upDt, Ev.p_upDf, Ev.p_put, Ev.p_mut, Ev.p_mutO, Ev.p_kNon, Ev.p_kM1, Ev.p_app, Ev.p_sl, Ev.p_kSl1, Ev.p_kSl2, Ev.p_kSl3, Ev.p_add, Ev.p_addL, Ev.p_i2, Ev.p_u1, Ev.p_lt, Ev.p_le, Ev.p_gt, Ev.p_ge, Ev.p_eqI, Ev.p_neI, Ev.p_eqS, Ev.p_neS, Ev.p_isB, Ev.p_isN, Ev.p_notN, Ev.p_tup, Ev.p_lst, Ev.p_abs, Ev.p_intI, Ev.p_intB, Ev.p_len, Ev.p_dlL, Ev.p_dlT, Ev.p_itL, Ev.p_itT, Ev.p_d, Ev.p_dn, Ev.p_rng1, Ev.p_rng2, Ev.p_lo0, Ev.p_lo1, Ev.p_lo2, Ev.p_lo3, Ev.p_lo4, Ev.p_lo5, Ev.p_lo6, Ev.p_lo7, Ev.p_lo8, Ev.p_lo9, Ev.p_lo10, Ev.p_lo11, Ev.p_lo12, Ev.p_lo13, Ev.p_lo14, Ev.p_lo15, Ev.p_lo16, Ev.p_lo17, Ev.p_lo18, Ev.p_lo19, Ev.p_lo20, Ev.p_lo21, Ev.p_lo22, Ev.p_lo23, Ev.p_lo24, Ev.p_p18, Ev.p_p40, Ev.p_lpN, Ev.p_lpC, Ev.p_lpB, Ev.p_lpR, Ev.p_for, Ev.p_whT, Ev.p_whF, Ev.p_lc, Ev.p_callAr, Ev.p_callO1, Ev.p_callO2, Ev.p_refV, Ev.p_refR, Ev.p_ref0, Ev.p_ga, Ev.p_ga0, Ev.p_gaO, Ev.p_gaV, Ev.p_gaR, Ev.p_leF, Ev.p_leL, Ev.p_leO, Ev.p_leN, Ev.p_sc, Ev.p_sc0, Ev.p_scN, Ev.p_scFs, Ev.p_scLs, Ev.p_scOn, Ev.p_scOl, Ev.p_scNn, Ev.p_scNl, Ev.p_fiR, Ev.p_fiV, Ev.p_fi0, Ev.fin_rt, Ev.fin_nx, Ev.ou_ln, Ev.ou_fz, Ev.ou_0, Ev.at_0, Ev.at_1, Ev.at_2, Ev.at_3, Ev.p_lenS, Ev.p_lenO, Ev.p_bind, Ev.q_ok, List.getElem?_cons_zero, List.getElem?_cons_succ, List.set_cons_zero, List.set_cons_succ, List.length_cons, List.length_nil, List.cons_append, List.nil_append, Option.map_some, ↓reduceIte, Bool.not_true, Bool.not_false, decide_true, decide_false, Ev.p_div, Ev.p_mod, Ev.p_pow, Ev.p_mul, Ev.dist, List.contains_cons, List.contains_nil, Bool.or_false, Bool.false_and, Bool.and_true, Bool.true_and, Nat.reduceAdd, Nat.reduceBEq, Ev.permN, Ev.perm, List.map_cons, List.map_nil, List.getD_cons_zero, List.getD_cons_succ, and_self, cond_true, cond_false, Int.cast_ofNat_Int, Int.natCast_one, Int.natCast_zero, Int.reduceEq, Int.reduceLE, Int.reduceLT, Int.reduceNeg, Int.reduceGT, Int.reduceAdd, Int.reduceMul, Int.reduceSub, Int.reduceToNat, Int.reducePow, Int.reduceNe, reduceCtorEq, eq_self, lt, decide_eq_true h, a1, a2, mo, Ev.p_div _ _ dk, la, ← st, take_snoc hmT]
        exact ⟨g - (m + 1), by omega, m + 1, rfl, by omega, by omega, .inr (by omega), rfl⟩
      · simp only [Ev.p_pure, Ev.p_ok, Ev.p_toD, Ev.p_kDf, Ev.p_kDn, Ev.p_toV, Ev.p_kV, Ev.p_some, Ev.p_var, Ev.p_varF, Ev.p_varL, Ev.p_varO, Ev.p_varN, Ev.p_mov, Ev.p_movF, Ev.p_movL, Ev.p_movO, Ev.p_movN, Ev.p_ev2, Ev.p_k2, Ev.p_k2', Ev.p_ev2T, Ev.p_kT, Ev.p_kT', Ev.p_vb, Ev.p_ev1, Ev.p_evC, Ev.p_evL, Ev.p_evO, Ev.p_evSeq, Ev.p_tTruth, Ev.p_kf, Ev.p_cons, Ev.p_vcons, Ev.p_acons, Ev.p_kC1, Ev.p_kC2, Ev.p_arV, Ev.p_kAr, Ev.p_arR, Ev.p_arF, Ev.p_arOw, Ev.p_arN, Ev.p_arL, Ev.p_call, Ev.p_kL1, Ev.p_kL2, Ev.p_if, Ev.p_kIt, Ev.p_kIf, Ev.p_tAnd, Ev.p_tOr, Ev.p_tNot, Ev.p_kN, Ev.p_and, Ev.p_kA, Ev.p_or, Ev.p_kO, Ev.p_not, Ev.p_kNt, Ev.p_ixS, Ev.p_ixO, Ev.p_kX, Ev.p_kXO, Ev.p_slotD, Ev.p_slF, Ev.p_slO, Ev.p_slN, Ev.p_slL, Ev.p_seq, Ev.p_kSn, Ev.p_kSr, Ev.p_kSb, Ev.p_kSc, Ev.p_slot, Ev.p_setU, Ev.p_setF, Ev.p_setO, Ev.p_ofF, Ev.p_ofN, Ev.p_kNx, Ev.p_set, Ev.p_kSet, Ev.p_ret, Ev.p_kRt, Ev.p_expr, Ev.p_kEx, Ev.p_par, Ev.p_kPar, Ev.p_kSs, Ev.p_ss0, Ev.p_ss, Ev.p_asg, Ev.p_kAsg, Ev.p_unp, Ev.p_gs, Ev.p_kG, Ev.p_gs0, Ev.p_gIx, Ev.p_gIO, Ev.p_kUp, Ev.p_upd, Ev.p_upO, Ev.p_upN, Ev.p_upDt, Ev.p_upDf, Ev.p_put, Ev.p_mut, Ev.p_mutO, Ev.p_kNon, Ev.p_kM1, Ev.p_app, Ev.p_sl, Ev.p_kSl1, Ev.p_kSl2, Ev.p_kSl3, Ev.p_add, Ev.p_addL, Ev.p_i2, Ev.p_u1, Ev.p_lt, Ev.p_le, Ev.p_gt, Ev.p_ge, Ev.p_eqI, Ev.p_neI, Ev.p_eqS, Ev.p_neS, Ev.p_isB, Ev.p_isN, Ev.p_notN, Ev.p_tup, Ev.p_lst, Ev.p_abs, Ev.p_intI, Ev.p_intB, Ev.p_len, Ev.p_dlL, Ev.p_dlT, Ev.p_itL, Ev.p_itT, Ev.p_d, Ev.p_dn, Ev.p_rng1, Ev.p_rng2, Ev.p_lo0, Ev.p_lo1, Ev.p_lo2, Ev.p_lo3, Ev.p_lo4, Ev.p_lo5, Ev.p_lo6, Ev.p_lo7, Ev.p_lo8, Ev.p_lo9, Ev.p_lo10, Ev.p_lo11, Ev.p_lo12, Ev.p_lo13, Ev.p_lo14, Ev.p_lo15, Ev.p_lo16, Ev.p_lo17, Ev.p_lo18, Ev.p_lo19, Ev.p_lo20, Ev.p_lo21, Ev.p_lo22, Ev.p_lo23, Ev.p_lo24, Ev.p_p18, Ev.p_p40, Ev.p_lpN, Ev.p_lpC, Ev.p_lpB, Ev.p_lpR, Ev.p_for, Ev.p_whT, Ev.p_whF, Ev.p_lc, Ev.p_callAr, Ev.p_callO1, Ev.p_callO2, Ev.p_refV, Ev.p_refR, Ev.p_ref0, Ev.p_ga, Ev.p_ga0, Ev.p_gaO, Ev.p_gaV, Ev.p_gaR, Ev.p_leF, Ev.p_leL, Ev.p_leO, Ev.p_leN, Ev.p_sc, Ev.p_sc0, Ev.p_scN, Ev.p_scFs, Ev.p_scLs, Ev.p_scOn, Ev.p_scOl, Ev.p_scNn, Ev.p_scNl, Ev.p_fiR, Ev.p_fiV, Ev.p_fi0, Ev.fin_rt, Ev.fin_nx, Ev.ou_ln, Ev.ou_fz, Ev.ou_0, Ev.at_0, Ev.at_1, Ev.at_2, Ev.at_3, Ev.p_lenS, Ev.p_lenO, Ev.p_bind, Ev.q_ok, List.getElem?_cons_zero, List.getElem?_cons_succ, List.set_cons_zero, List.set_cons_succ, List.length_cons, List.length_nil, List.cons_append, List.nil_append, Option.map_some, ↓reduceIte, Bool.not_true, Bool.not_false, decide_true, decide_false, Ev.p_div, Ev.p_mod, Ev.p_pow, Ev.p_mul, Ev.dist, List.contains_cons, List.contains_nil, Bool.or_false, Bool.false_and, Bool.and_true, Bool.true_and, Nat.reduceAdd, Nat.reduceBEq, Ev.permN, Ev.perm, List.map_cons, List.map_nil, List.getD_cons_zero, List.getD_cons_succ, and_self, cond_true, cond_false, Int.cast_ofNat_Int, Int.natCast_one, Int.natCast_zero, Int.reduceEq, Int.reduceLE, Int.reduceLT, Int.reduceNeg, Int.reduceGT, Int.reduceAdd, Int.reduceMul, Int.reduceSub, Int.reduceToNat, Int.reducePow, Int.reduceNe, reduceCtorEq, eq_self, lt, decide_eq_false h]
        have ea : asInt (.int (g : Int)) = some (some (g : Int)) := rfl
        have ec : cutOf none (some (g : Int)) (.lst ((T.take m).map D.int)) = some (.nw (.lst ((T.take g).map D.int))) := by
          show some (Vl.nw (D.lst (Ev.cutD ((T.take m).map D.int) none (some (g : Int))))) = _
          rw [cut_take, List.take_take, Nat.min_eq_left (by omega)]
        have es : dSeq (.lst ((T.take g).map D.int)) = some ((T.take g).map D.int) := rfl
        simp only [Ev.p_pure, Ev.p_ok, Ev.p_toD, Ev.p_kDf, Ev.p_kDn, Ev.p_toV, Ev.p_kV, Ev.p_some, Ev.p_var, Ev.p_varF, Ev.p_varL, Ev.p_varO, Ev.p_varN, Ev.p_mov, Ev.p_movF, Ev.p_movL, Ev.p_movO, Ev.p_movN, Ev.p_ev2, Ev.p_k2, Ev.p_k2', Ev.p_ev2T, Ev.p_kT, Ev.p_kT', Ev.p_vb, Ev.p_ev1, Ev.p_evC, Ev.p_evL, Ev.p_evO, Ev.p_evSeq, Ev.p_tTruth, Ev.p_kf, Ev.p_cons, Ev.p_vcons, Ev.p_acons, Ev.p_kC1, Ev.p_kC2, Ev.p_arV, Ev.p_kAr, Ev.p_arR, Ev.p_arF, Ev.p_arOw, Ev.p_arN, Ev.p_arL, Ev.p_call, Ev.p_kL1, Ev.p_kL2, Ev.p_if, Ev.p_kIt, Ev.p_kIf, Ev.p_tAnd, Ev.p_tOr, Ev.p_tNot, Ev.p_kN, Ev.p_and, Ev.p_kA, Ev.p_or, Ev.p_kO, Ev.p_not, Ev.p_kNt, Ev.p_ixS, Ev.p_ixO, Ev.p_kX, Ev.p_kXO, Ev.p_slotD, Ev.p_slF, Ev.p_slO, Ev.p_slN, Ev.p_slL, Ev.p_seq, Ev.p_kSn, Ev.p_kSr, Ev.p_kSb, Ev.p_kSc, Ev.p_slot, Ev.p_setU, Ev.p_setF, Ev.p_setO, Ev.p_ofF, Ev.p_ofN, Ev.p_kNx, Ev.p_set, Ev.p_kSet, Ev.p_ret, Ev.p_kRt, Ev.p_expr, Ev.p_kEx, Ev.p_par, Ev.p_kPar, Ev.p_kSs, Ev.p_ss0, Ev.p_ss, Ev.p_asg, Ev.p_kAsg, Ev.p_unp, Ev.p_gs, Ev.p_kG, Ev.p_gs0, Ev.p_gIx, Ev.p_gIO, Ev.p_kUp, Ev.p_upd, Ev.p_upO, Ev.p_upN, Ev.p_upDt, Ev.p_upDf, Ev.p_put, Ev.p_mut, Ev.p_mutO, Ev.p_kNon, Ev.p_kM1, Ev.p_app, Ev.p_sl, Ev.p_kSl1, Ev.p_kSl2, Ev.p_kSl3, Ev.p_add, Ev.p_addL, Ev.p_i2, Ev.p_u1, Ev.p_lt, Ev.p_le, Ev.p_gt, Ev.p_ge, Ev.p_eqI, Ev.p_neI, Ev.p_eqS, Ev.p_neS, Ev.p_isB, Ev.p_isN, Ev.p_notN, Ev.p_tup, Ev.p_lst, Ev.p_abs, Ev.p_intI, Ev.p_intB, Ev.p_len, Ev.p_dlL, Ev.p_dlT, Ev.p_itL, Ev.p_itT, Ev.p_d, Ev.p_dn, Ev.p_rng1, Ev.p_rng2, Ev.p_lo0, Ev.p_lo1, Ev.p_lo2, Ev.p_lo3, Ev.p_lo4, Ev.p_lo5, Ev.p_lo6, Ev.p_lo7, Ev.p_lo8, Ev.p_lo9, Ev.p_lo10, Ev.p_lo11, Ev.p_lo12, Ev.p_lo13, Ev.p_lo14, Ev.p_lo15, Ev.p_lo16, Ev.p_lo17, Ev.p_lo18, Ev.p_lo19, Ev.p_lo20, Ev.p_lo21, Ev.p_lo22, Ev.p_lo23, Ev.p_lo24, Ev.p_p18, Ev.p_p40, Ev.p_lpN, Ev.p_lpC, Ev.p_lpB, Ev.p_lpR, Ev.p_for, Ev.p_whT, Ev.p_whF, Ev.p_lc, Ev.p_callAr, Ev.p_callO1, Ev.p_callO2, Ev.p_refV, Ev.p_refR, Ev.p_ref0, Ev.p_ga, Ev.p_ga0, Ev.p_gaO, Ev.p_gaV, Ev.p_gaR, Ev.p_leF, Ev.p_leL, Ev.p_leO, Ev.p_leN, Ev.p_sc, Ev.p_sc0, Ev.p_scN, Ev.p_scFs, Ev.p_scLs, Ev.p_scOn, Ev.p_scOl, Ev.p_scNn, Ev.p_scNl, Ev.p_fiR, Ev.p_fiV, Ev.p_fi0, Ev.fin_rt, Ev.fin_nx, Ev.ou_ln, Ev.ou_fz, Ev.ou_0, Ev.at_0, Ev.at_1, Ev.at_2, Ev.at_3, Ev.p_lenS, Ev.p_lenO, Ev.p_bind, Ev.q_ok, List.getElem?_cons_zero, List.getElem?_cons_succ, List.set_cons_zero, List.set_cons_succ, List.length_cons, List.length_nil, List.cons_append, List.nil_append, Option.map_some, ↓reduceIte, Bool.not_true, Bool.not_false, decide_true, decide_false, Ev.p_div, Ev.p_mod, Ev.p_pow, Ev.p_mul, Ev.dist, List.contains_cons, List.contains_nil, Bool.or_false, Bool.false_and, Bool.and_true, Bool.true_and, Nat.reduceAdd, Nat.reduceBEq, Ev.permN, Ev.perm, List.map_cons, List.map_nil, List.getD_cons_zero, List.getD_cons_succ, and_self, cond_true, cond_false, Int.cast_ofNat_Int, Int.natCast_one, Int.natCast_zero, Int.reduceEq, Int.reduceLE, Int.reduceLT, Int.reduceNeg, Int.reduceGT, Int.reduceAdd, Int.reduceMul, Int.reduceSub, Int.reduceToNat, Int.reducePow, Int.reduceNe, reduceCtorEq, eq_self, ea, ec, es]
        rw [lc_eq (lowF (tow d)) rfl (by rw [List.length_map, List.length_take]; omega) (fun x hx => ?_), lowF_map]
        · simp only [Ev.p_pure, Ev.p_ok, Ev.p_toD, Ev.p_kDf, Ev.p_kDn, Ev.p_toV, Ev.p_kV, Ev.p_some, Ev.p_var, Ev.p_varF, Ev.p_varL, Ev.p_varO, Ev.p_varN, Ev.p_mov, Ev.p_movF, Ev.p_movL, Ev.p_movO, Ev.p_movN, Ev.p_ev2, Ev.p_k2, Ev.p_k2', Ev.p_ev2T, Ev.p_kT, Ev.p_kT', Ev.p_vb, Ev.p_ev1, Ev.p_evC, Ev.p_evL, Ev.p_evO, Ev.p_evSeq, Ev.p_tTruth, Ev.p_kf, Ev.p_cons, Ev.p_vcons, Ev.p_acons, Ev.p_kC1, Ev.p_kC2, Ev.p_arV, Ev.p_kAr, Ev.p_arR, Ev.p_arF, Ev.p_arOw, Ev.p_arN, Ev.p_arL, Ev.p_call, Ev.p_kL1, Ev.p_kL2, Ev.p_if, Ev.p_kIt, Ev.p_kIf, Ev.p_tAnd, Ev.p_tOr, Ev.p_tNot, Ev.p_kN, Ev.p_and, Ev.p_kA, Ev.p_or, Ev.p_kO, Ev.p_not, Ev.p_kNt, Ev.p_ixS, Ev.p_ixO, Ev.p_kX, Ev.p_kXO, Ev.p_slotD, Ev.p_slF, Ev.p_slO, Ev.p_slN, Ev.p_slL, Ev.p_seq, Ev.p_kSn, Ev.p_kSr, Ev.p_kSb, Ev.p_kSc, Ev.p_slot, Ev.p_setU, Ev.p_setF, Ev.p_setO, Ev.p_ofF, Ev.p_ofN, Ev.p_kNx, Ev.p_set, Ev.p_kSet, Ev.p_ret, Ev.p_kRt, Ev.p_expr, Ev.p_kEx, Ev.p_par, Ev.p_kPar, Ev.p_kSs, Ev.p_ss0, Ev.p_ss, Ev.p_asg, Ev.p_kAsg, Ev.p_unp, Ev.p_gs, Ev.p_kG, Ev.p_gs0, Ev.p_gIx, Ev.p_gIO, Ev.p_kUp, Ev.p_upd, Ev.p_upO, Ev.p_upN, Ev.p_upDt, Ev.p_upDf, Ev.p_put, Ev.p_mut, Ev.p_mutO, Ev.p_kNon, Ev.p_kM1, Ev.p_app, Ev.p_sl, Ev.p_kSl1, Ev.p_kSl2, Ev.p_kSl3, Ev.p_add, Ev.p_addL, Ev.p_i2, Ev.p_u1, Ev.p_lt, Ev.p_le, Ev.p_gt, Ev.p_ge, Ev.p_eqI, Ev.p_neI, Ev.p_eqS, Ev.p_neS, Ev.p_isB, Ev.p_isN, Ev.p_notN, Ev.p_tup, Ev.p_lst, Ev.p_abs, Ev.p_intI, Ev.p_intB, Ev.p_len, Ev.p_dlL, Ev.p_dlT, Ev.p_itL, Ev.p_itT, Ev.p_d, Ev.p_dn, Ev.p_rng1, Ev.p_rng2, Ev.p_lo0, Ev.p_lo1, Ev.p_lo2, Ev.p_lo3, Ev.p_lo4, Ev.p_lo5, Ev.p_lo6, Ev.p_lo7, Ev.p_lo8, Ev.p_lo9, Ev.p_lo10, Ev.p_lo11, Ev.p_lo12, Ev.p_lo13, Ev.p_lo14, Ev.p_lo15, Ev.p_lo16, Ev.p_lo17, Ev.p_lo18, Ev.p_lo19, Ev.p_lo20, Ev.p_lo21, Ev.p_lo22, Ev.p_lo23, Ev.p_lo24, Ev.p_p18, Ev.p_p40, Ev.p_lpN, Ev.p_lpC, Ev.p_lpB, Ev.p_lpR, Ev.p_for, Ev.p_whT, Ev.p_whF, Ev.p_lc, Ev.p_callAr, Ev.p_callO1, Ev.p_callO2, Ev.p_refV, Ev.p_refR, Ev.p_ref0, Ev.p_ga, Ev.p_ga0, Ev.p_gaO, Ev.p_gaV, Ev.p_gaR, Ev.p_leF, Ev.p_leL, Ev.p_leO, Ev.p_leN, Ev.p_sc, Ev.p_sc0, Ev.p_scN, Ev.p_scFs, Ev.p_scLs, Ev.p_scOn, Ev.p_scOl, Ev.p_scNn, Ev.p_scNl, Ev.p_fiR, Ev.p_fiV, Ev.p_fi0, Ev.fin_rt, Ev.fin_nx, Ev.ou_ln, Ev.ou_fz, Ev.ou_0, Ev.at_0, Ev.at_1, Ev.at_2, Ev.at_3, Ev.p_lenS, Ev.p_lenO, Ev.p_bind, Ev.q_ok, List.getElem?_cons_zero, List.getElem?_cons_succ, List.set_cons_zero, List.set_cons_succ, List.length_cons, List.length_nil, List.cons_append, List.nil_append, Option.map_some, ↓reduceIte, Bool.not_true, Bool.not_false, decide_true, decide_false, Ev.p_div, Ev.p_mod, Ev.p_pow, Ev.p_mul, Ev.dist, List.contains_cons, List.contains_nil, Bool.or_false, Bool.false_and, Bool.and_true, Bool.true_and, Nat.reduceAdd, Nat.reduceBEq, Ev.permN, Ev.perm, List.map_cons, List.map_nil, List.getD_cons_zero, List.getD_cons_succ, and_self, cond_true, cond_false, Int.cast_ofNat_Int, Int.natCast_one, Int.natCast_zero, Int.reduceEq, Int.reduceLE, Int.reduceLT, Int.reduceNeg, Int.reduceGT, Int.reduceAdd, Int.reduceMul, Int.reduceSub, Int.reduceToNat, Int.reducePow, Int.reduceNe, reduceCtorEq, eq_self]
          exact ⟨by decide, rfl, trivial⟩
        · obtain ⟨a, _, rfl⟩ := List.mem_map.mp hx
          have el := lowest_sp a (tow d) (tow_pos d) (Nat.lt_of_lt_of_le (tow_lt hd) (Nat.pow_le_pow_right (by decide) (by decide)))
          simp only [Ev.p_pure, Ev.p_ok, Ev.p_toD, Ev.p_kDf, Ev.p_kDn, Ev.p_toV, Ev.p_kV, Ev.p_some, Ev.p_var, Ev.p_varF, Ev.p_varL, Ev.p_varO, Ev.p_varN, Ev.p_mov, Ev.p_movF, Ev.p_movL, Ev.p_movO, Ev.p_movN, Ev.p_ev2, Ev.p_k2, Ev.p_k2', Ev.p_ev2T, Ev.p_kT, Ev.p_kT', Ev.p_vb, Ev.p_ev1, Ev.p_evC, Ev.p_evL, Ev.p_evO, Ev.p_evSeq, Ev.p_tTruth, Ev.p_kf, Ev.p_cons, Ev.p_vcons, Ev.p_acons, Ev.p_kC1, Ev.p_kC2, Ev.p_arV, Ev.p_kAr, Ev.p_arR, Ev.p_arF, Ev.p_arOw, Ev.p_arN, Ev.p_arL, Ev.p_call, Ev.p_kL1, Ev.p_kL2, Ev.p_if, Ev.p_kIt, Ev.p_kIf, Ev.p_tAnd, Ev.p_tOr, Ev.p_tNot, Ev.p_kN, Ev.p_and, Ev.p_kA, Ev.p_or, Ev.p_kO, Ev.p_not, Ev.p_kNt, Ev.p_ixS, Ev.p_ixO, Ev.p_kX, Ev.p_kXO, Ev.p_slotD, Ev.p_slF, Ev.p_slO, Ev.p_slN, Ev.p_slL, Ev.p_seq, Ev.p_kSn, Ev.p_kSr, Ev.p_kSb, Ev.p_kSc, Ev.p_slot, Ev.p_setU, Ev.p_setF, Ev.p_setO, Ev.p_ofF, Ev.p_ofN, Ev.p_kNx, Ev.p_set, Ev.p_kSet, Ev.p_ret, Ev.p_kRt, Ev.p_expr, Ev.p_kEx, Ev.p_par, Ev.p_kPar, Ev.p_kSs, Ev.p_ss0, Ev.p_ss, Ev.p_asg, Ev.p_kAsg, Ev.p_unp, Ev.p_gs, Ev.p_kG, Ev.p_gs0, Ev.p_gIx, Ev.p_gIO, Ev.p_kUp, Ev.p_upd, Ev.p_upO, Ev.p_upN, Ev.p_upDt, Ev.p_upDf, Ev.p_put, Ev.p_mut, Ev.p_mutO, Ev.p_kNon, Ev.p_kM1, Ev.p_app, Ev.p_sl, Ev.p_kSl1, Ev.p_kSl2, Ev.p_kSl3, Ev.p_add, Ev.p_addL, Ev.p_i2, Ev.p_u1, Ev.p_lt, Ev.p_le, Ev.p_gt, Ev.p_ge, Ev.p_eqI, Ev.p_neI, Ev.p_eqS, Ev.p_neS, Ev.p_isB, Ev.p_isN, Ev.p_notN, Ev.p_tup, Ev.p_lst, Ev.p_abs, Ev.p_intI, Ev.p_intB, Ev.p_len, Ev.p_dlL, Ev.p_dlT, Ev.p_itL, Ev.p_itT, Ev.p_d, Ev.p_dn, Ev.p_rng1, Ev.p_rng2, Ev.p_lo0, Ev.p_lo1, Ev.p_lo2, Ev.p_lo3, Ev.p_lo4, Ev.p_lo5, Ev.p_lo6, Ev.p_lo7, Ev.p_lo8, Ev.p_lo9, Ev.p_lo10, Ev.p_lo11, Ev.p_lo12, Ev.p_lo13, Ev.p_lo14, Ev.p_lo15, Ev.p_lo16, Ev.p_lo17, Ev.p_lo18, Ev.p_lo19, Ev.p_lo20, Ev.p_lo21, Ev.p_lo22, Ev.p_lo23, Ev.p_lo24, Ev.p_p18, Ev.p_p40, Ev.p_lpN, Ev.p_lpC, Ev.p_lpB, Ev.p_lpR, Ev.p_for, Ev.p_whT, Ev.p_whF, Ev.p_lc, Ev.p_callAr, Ev.p_callO1, Ev.p_callO2, Ev.p_refV, Ev.p_refR, Ev.p_ref0, Ev.p_ga, Ev.p_ga0, Ev.p_gaO, Ev.p_gaV, Ev.p_gaR, Ev.p_leF, Ev.p_leL, Ev.p_leO, Ev.p_leN, Ev.p_sc, Ev.p_sc0, Ev.p_scN, Ev.p_scFs, Ev.p_scLs, Ev.p_scOn, Ev.p_scOl, Ev.p_scNn, Ev.p_scNl, Ev.p_fiR, Ev.p_fiV, Ev.p_fi0, Ev.fin_rt, Ev.fin_nx, Ev.ou_ln, Ev.ou_fz, Ev.ou_0, Ev.at_0, Ev.at_1, Ev.at_2, Ev.at_3, Ev.p_lenS, Ev.p_lenO, Ev.p_bind, Ev.q_ok, List.getElem?_cons_zero, List.getElem?_cons_succ, List.set_cons_zero, List.set_cons_succ, List.length_cons, List.length_nil, List.cons_append, List.nil_append, Option.map_some, ↓reduceIte, Bool.not_true, Bool.not_false, decide_true, decide_false, Ev.p_div, Ev.p_mod, Ev.p_pow, Ev.p_mul, Ev.dist, List.contains_cons, List.contains_nil, Bool.or_false, Bool.false_and, Bool.and_true, Bool.true_and, Nat.reduceAdd, Nat.reduceBEq, Ev.permN, Ev.perm, List.map_cons, List.map_nil, List.getD_cons_zero, List.getD_cons_succ, and_self, cond_true, cond_false, Int.cast_ofNat_Int, Int.natCast_one, Int.natCast_zero, Int.reduceEq, Int.reduceLE, Int.reduceLT, Int.reduceNeg, Int.reduceGT, Int.reduceAdd, Int.reduceMul, Int.reduceSub, Int.reduceToNat, Int.reducePow, Int.reduceNe, reduceCtorEq, eq_self, wipeR, el]
          exact ⟨rfl, trivial⟩
    · obtain ⟨k, hk⟩ := List.getElem?_of_mem hx
      obtain ⟨rfl, hk2⟩ := rangeL_at hk
      have ew := tower_sp k (by omega)
      simp only [Ev.p_pure, Ev.p_ok, Ev.p_toD, Ev.p_kDf, Ev.p_kDn, Ev.p_toV, Ev.p_kV, Ev.p_some, Ev.p_var, Ev.p_varF, Ev.p_varL, Ev.p_varO, Ev.p_varN, Ev.p_mov, Ev.p_movF, Ev.p_movL, Ev.p_movO, Ev.p_movN, Ev.p_ev2, Ev.p_k2, Ev.p_k2', Ev.p_ev2T, Ev.p_kT, Ev.p_kT', Ev.p_vb, Ev.p_ev1, Ev.p_evC, Ev.p_evL, Ev.p_evO, Ev.p_evSeq, Ev.p_tTruth, Ev.p_kf, Ev.p_cons, Ev.p_vcons, Ev.p_acons, Ev.p_kC1, Ev.p_kC2, Ev.p_arV, Ev.p_kAr, Ev.p_arR, Ev.p_arF, Ev.p_arOw, Ev.p_arN, Ev.p_arL, Ev.p_call, Ev.p_kL1, Ev.p_kL2, Ev.p_if, Ev.p_kIt, Ev.p_kIf, Ev.p_tAnd, Ev.p_tOr, Ev.p_tNot, Ev.p_kN, Ev.p_and, Ev.p_kA, Ev.p_or, Ev.p_kO, Ev.p_not, Ev.p_kNt, Ev.p_ixS, Ev.p_ixO, Ev.p_kX, Ev.p_kXO, Ev.p_slotD, Ev.p_slF, Ev.p_slO, Ev.p_slN, Ev.p_slL, Ev.p_seq, Ev.p_kSn, Ev.p_kSr, Ev.p_kSb, Ev.p_kSc, Ev.p_slot, Ev.p_setU, Ev.p_setF, Ev.p_setO, Ev.p_ofF, Ev.p_ofN, Ev.p_kNx, Ev.p_set, Ev.p_kSet, Ev.p_ret, Ev.p_kRt, Ev.p_expr, Ev.p_kEx, Ev.p_par, Ev.p_kPar, Ev.p_kSs, Ev.p_ss0, Ev.p_ss, Ev.p_asg, Ev.p_kAsg, Ev.p_unp, Ev.p_gs, Ev.p_kG, Ev.p_gs0, Ev.p_gIx, Ev.p_gIO, Ev.p_kUp, Ev.p_upd, Ev.p_upO, Ev.p_upN, Ev.p_upDt, Ev.p_upDf, Ev.p_put, Ev.p_mut, Ev.p_mutO, Ev.p_kNon, Ev.p_kM1, Ev.p_app, Ev.p_sl, Ev.p_kSl1, Ev.p_kSl2, Ev.p_kSl3, Ev.p_add, Ev.p_addL, Ev.p_i2, Ev.p_u1, Ev.p_lt, Ev.p_le, Ev.p_gt, Ev.p_ge, Ev.p_eqI, Ev.p_neI, Ev.p_eqS, Ev.p_neS, Ev.p_isB, Ev.p_isN, Ev.p_notN, Ev.p_tup, Ev.p_lst, Ev.p_abs, Ev.p_intI, Ev.p_intB, Ev.p_len, Ev.p_dlL, Ev.p_dlT, Ev.p_itL, Ev.p_itT, Ev.p_d, Ev.p_dn, Ev.p_rng1, Ev.p_rng2, Ev.p_lo0, Ev.p_lo1, Ev.p_lo2, Ev.p_lo3, Ev.p_lo4, Ev.p_lo5, Ev.p_lo6, Ev.p_lo7, Ev.p_lo8, Ev.p_lo9, Ev.p_lo10, Ev.p_lo11, Ev.p_lo12, Ev.p_lo13, Ev.p_lo14, Ev.p_lo15, Ev.p_lo16, Ev.p_lo17, Ev.p_lo18, Ev.p_lo19, Ev.p_lo20, Ev.p_lo21, Ev.p_lo22, Ev.p_lo23, Ev.p_lo24, Ev.p_p18, Ev.p_p40, Ev.p_lpN, Ev.p_lpC, Ev.p_lpB, Ev.p_lpR, Ev.p_for, Ev.p_whT, Ev.p_whF, Ev.p_lc, Ev.p_callAr, Ev.p_callO1, Ev.p_callO2, Ev.p_refV, Ev.p_refR, Ev.p_ref0, Ev.p_ga, Ev.p_ga0, Ev.p_gaO, Ev.p_gaV, Ev.p_gaR, Ev.p_leF, Ev.p_leL, Ev.p_leO, Ev.p_leN, Ev.p_sc, Ev.p_sc0, Ev.p_scN, Ev.p_scFs, Ev.p_scLs, Ev.p_scOn, Ev.p_scOl, Ev.p_scNn, Ev.p_scNl, Ev.p_fiR, Ev.p_fiV, Ev.p_fi0, Ev.fin_rt, Ev.fin_nx, Ev.ou_ln, Ev.ou_fz, Ev.ou_0, Ev.at_0, Ev.at_1, Ev.at_2, Ev.at_3, Ev.p_lenS, Ev.p_lenO, Ev.p_bind, Ev.q_ok, List.getElem?_cons_zero, List.getElem?_cons_succ, List.set_cons_zero, List.set_cons_succ, List.length_cons, List.length_nil, List.cons_append, List.nil_append, Option.map_some, ↓reduceIte, Bool.not_true, Bool.not_false, decide_true, decide_false, Ev.p_div, Ev.p_mod, Ev.p_pow, Ev.p_mul, Ev.dist, List.contains_cons, List.contains_nil, Bool.or_false, Bool.false_and, Bool.and_true, Bool.true_and, Nat.reduceAdd, Nat.reduceBEq, Ev.permN, Ev.perm, List.map_cons, List.map_nil, List.getD_cons_zero, List.getD_cons_succ, and_self, cond_true, cond_false, Int.cast_ofNat_Int, Int.natCast_one, Int.natCast_zero, Int.reduceEq, Int.reduceLE, Int.reduceLT, Int.reduceNeg, Int.reduceGT, Int.reduceAdd, Int.reduceMul, Int.reduceSub, Int.reduceToNat, Int.reducePow, Int.reduceNe, reduceCtorEq, eq_self, wipeR, ew]
      exact ⟨rfl, trivial⟩
  obtain ⟨_, _, e, rfl, rfl⟩ := w
  exact e
theorem all_best_sp (g d : Nat) (T : List Int) (hg : 1 ≤ g) (hg2 : g ≤ 60) (hd : d ≤ 250) (hT : TabOk d T) (hl : g ≤ T.length) :
    m_all_best [.fz (.int g), .fz (.int d)] = .ok (.fz (.tup (allB T (tow d) g))) [.fz (.int g), .fz (.int d)] := by
  have w : Fw (m_all_best [.fz (.int g), .fz (.int d)]) fun r os => r = .fz (.tup (allB T (tow d) g)) ∧ os = [.fz (.int g), .fz (.int d)] := by
    refine fw_fin ?_
    change Wq (b_all_best [.fz (.int g), .fz (.int d)]) _
    unfold b_all_best
    have e1 := need_sp (g : Int) 1 60 "goods" (by omega) (by omega)
    have e2 := need_sp (d : Int) 0 250 "days" (by omega) (by omega)
    have e3 := prices_sp g d T hg hg2 hd hT hl
    have e4 : bTuple [.lst (allB T (tow d) g)] = some (.fz (.tup (allB T (tow d) g))) := rfl
    simp only [Ev.p_pure, Ev.p_ok, Ev.p_toD, Ev.p_kDf, Ev.p_kDn, Ev.p_toV, Ev.p_kV, Ev.p_some, Ev.p_var, Ev.p_varF, Ev.p_varL, Ev.p_varO, Ev.p_varN, Ev.p_mov, Ev.p_movF, Ev.p_movL, Ev.p_movO, Ev.p_movN, Ev.p_ev2, Ev.p_k2, Ev.p_k2', Ev.p_ev2T, Ev.p_kT, Ev.p_kT', Ev.p_vb, Ev.p_ev1, Ev.p_evC, Ev.p_evL, Ev.p_evO, Ev.p_evSeq, Ev.p_tTruth, Ev.p_kf, Ev.p_cons, Ev.p_vcons, Ev.p_acons, Ev.p_kC1, Ev.p_kC2, Ev.p_arV, Ev.p_kAr, Ev.p_arR, Ev.p_arF, Ev.p_arOw, Ev.p_arN, Ev.p_arL, Ev.p_call, Ev.p_kL1, Ev.p_kL2, Ev.p_if, Ev.p_kIt, Ev.p_kIf, Ev.p_tAnd, Ev.p_tOr, Ev.p_tNot, Ev.p_kN, Ev.p_and, Ev.p_kA, Ev.p_or, Ev.p_kO, Ev.p_not, Ev.p_kNt, Ev.p_ixS, Ev.p_ixO, Ev.p_kX, Ev.p_kXO, Ev.p_slotD, Ev.p_slF, Ev.p_slO, Ev.p_slN, Ev.p_slL, Ev.p_seq, Ev.p_kSn, Ev.p_kSr, Ev.p_kSb, Ev.p_kSc, Ev.p_slot, Ev.p_setU, Ev.p_setF, Ev.p_setO, Ev.p_ofF, Ev.p_ofN, Ev.p_kNx, Ev.p_set, Ev.p_kSet, Ev.p_ret, Ev.p_kRt, Ev.p_expr, Ev.p_kEx, Ev.p_par, Ev.p_kPar, Ev.p_kSs, Ev.p_ss0, Ev.p_ss, Ev.p_asg, Ev.p_kAsg, Ev.p_unp, Ev.p_gs, Ev.p_kG, Ev.p_gs0, Ev.p_gIx, Ev.p_gIO, Ev.p_kUp, Ev.p_upd, Ev.p_upO, Ev.p_upN, Ev.p_upDt, Ev.p_upDf, Ev.p_put, Ev.p_mut, Ev.p_mutO, Ev.p_kNon, Ev.p_kM1, Ev.p_app, Ev.p_sl, Ev.p_kSl1, Ev.p_kSl2, Ev.p_kSl3, Ev.p_add, Ev.p_addL, Ev.p_i2, Ev.p_u1, Ev.p_lt, Ev.p_le, Ev.p_gt, Ev.p_ge, Ev.p_eqI, Ev.p_neI, Ev.p_eqS, Ev.p_neS, Ev.p_isB, Ev.p_isN, Ev.p_notN, Ev.p_tup, Ev.p_lst, Ev.p_abs, Ev.p_intI, Ev.p_intB, Ev.p_len, Ev.p_dlL, Ev.p_dlT, Ev.p_itL, Ev.p_itT, Ev.p_d, Ev.p_dn, Ev.p_rng1, Ev.p_rng2, Ev.p_lo0, Ev.p_lo1, Ev.p_lo2, Ev.p_lo3, Ev.p_lo4, Ev.p_lo5, Ev.p_lo6, Ev.p_lo7, Ev.p_lo8, Ev.p_lo9, Ev.p_lo10, Ev.p_lo11, Ev.p_lo12, Ev.p_lo13, Ev.p_lo14, Ev.p_lo15, Ev.p_lo16, Ev.p_lo17, Ev.p_lo18, Ev.p_lo19, Ev.p_lo20, Ev.p_lo21, Ev.p_lo22, Ev.p_lo23, Ev.p_lo24, Ev.p_p18, Ev.p_p40, Ev.p_lpN, Ev.p_lpC, Ev.p_lpB, Ev.p_lpR, Ev.p_for, Ev.p_whT, Ev.p_whF, Ev.p_lc, Ev.p_callAr, Ev.p_callO1, Ev.p_callO2, Ev.p_refV, Ev.p_refR, Ev.p_ref0, Ev.p_ga, Ev.p_ga0, Ev.p_gaO, Ev.p_gaV, Ev.p_gaR, Ev.p_leF, Ev.p_leL, Ev.p_leO, Ev.p_leN, Ev.p_sc, Ev.p_sc0, Ev.p_scN, Ev.p_scFs, Ev.p_scLs, Ev.p_scOn, Ev.p_scOl, Ev.p_scNn, Ev.p_scNl, Ev.p_fiR, Ev.p_fiV, Ev.p_fi0, Ev.fin_rt, Ev.fin_nx, Ev.ou_ln, Ev.ou_fz, Ev.ou_0, Ev.at_0, Ev.at_1, Ev.at_2, Ev.at_3, Ev.p_lenS, Ev.p_lenO, Ev.p_bind, Ev.q_ok, List.getElem?_cons_zero, List.getElem?_cons_succ, List.set_cons_zero, List.set_cons_succ, List.length_cons, List.length_nil, List.cons_append, List.nil_append, Option.map_some, ↓reduceIte, Bool.not_true, Bool.not_false, decide_true, decide_false, Ev.p_div, Ev.p_mod, Ev.p_pow, Ev.p_mul, Ev.dist, List.contains_cons, List.contains_nil, Bool.or_false, Bool.false_and, Bool.and_true, Bool.true_and, Nat.reduceAdd, Nat.reduceBEq, Ev.permN, Ev.perm, List.map_cons, List.map_nil, List.getD_cons_zero, List.getD_cons_succ, and_self, cond_true, cond_false, Int.cast_ofNat_Int, Int.natCast_one, Int.natCast_zero, Int.reduceEq, Int.reduceLE, Int.reduceLT, Int.reduceNeg, Int.reduceGT, Int.reduceAdd, Int.reduceMul, Int.reduceSub, Int.reduceToNat, Int.reducePow, Int.reduceNe, reduceCtorEq, eq_self, e1, e2, e3, e4]
    exact ⟨by decide, trivial⟩
  obtain ⟨_, _, e, rfl, rfl⟩ := w
  exact e
theorem best_price_sp (g d : Nat) (T : List Int) (hg : 1 ≤ g) (hg2 : g ≤ 60) (hd : d ≤ 250) (hT : TabOk d T) (hl : g ≤ T.length) :
    m_best_price [.fz (.int g), .fz (.int d)] = .ok (.fz (lowD (T.getD (g - 1) 0) (tow d))) [.fz (.int g), .fz (.int d)] := by
  have w : Fw (m_best_price [.fz (.int g), .fz (.int d)]) fun r os => r = .fz (lowD (T.getD (g - 1) 0) (tow d)) ∧ os = [.fz (.int g), .fz (.int d)] := by
    refine fw_fin ?_
    change Wq (b_best_price [.fz (.int g), .fz (.int d)]) _
    unfold b_best_price
    have e3 := all_best_sp g d T hg hg2 hd hT hl
    have lt : (allB T (tow d) g).length = g := by unfold allB; rw [List.length_map, List.length_take]; omega
    have e4 : atI (allB T (tow d) g) (-1) = some (lowD (T.getD (g - 1) 0) (tow d)) := by
      rw [at_neg (i := -1) (j := 1) rfl (by omega) (by omega), lt]
      unfold allB
      rw [List.getElem?_map, List.getElem?_take_of_lt (by omega), List.getD_eq_getElem?_getD, List.getElem?_eq_getElem (by omega)]
      rfl
    simp only [Ev.p_pure, Ev.p_ok, Ev.p_toD, Ev.p_kDf, Ev.p_kDn, Ev.p_toV, Ev.p_kV, Ev.p_some, Ev.p_var, Ev.p_varF, Ev.p_varL, Ev.p_varO, Ev.p_varN, Ev.p_mov, Ev.p_movF, Ev.p_movL, Ev.p_movO, Ev.p_movN, Ev.p_ev2, Ev.p_k2, Ev.p_k2', Ev.p_ev2T, Ev.p_kT, Ev.p_kT', Ev.p_vb, Ev.p_ev1, Ev.p_evC, Ev.p_evL, Ev.p_evO, Ev.p_evSeq, Ev.p_tTruth, Ev.p_kf, Ev.p_cons, Ev.p_vcons, Ev.p_acons, Ev.p_kC1, Ev.p_kC2, Ev.p_arV, Ev.p_kAr, Ev.p_arR, Ev.p_arF, Ev.p_arOw, Ev.p_arN, Ev.p_arL, Ev.p_call, Ev.p_kL1, Ev.p_kL2, Ev.p_if, Ev.p_kIt, Ev.p_kIf, Ev.p_tAnd, Ev.p_tOr, Ev.p_tNot, Ev.p_kN, Ev.p_and, Ev.p_kA, Ev.p_or, Ev.p_kO, Ev.p_not, Ev.p_kNt, Ev.p_ixS, Ev.p_ixO, Ev.p_kX, Ev.p_kXO, Ev.p_slotD, Ev.p_slF, Ev.p_slO, Ev.p_slN, Ev.p_slL, Ev.p_seq, Ev.p_kSn, Ev.p_kSr, Ev.p_kSb, Ev.p_kSc, Ev.p_slot, Ev.p_setU, Ev.p_setF, Ev.p_setO, Ev.p_ofF, Ev.p_ofN, Ev.p_kNx, Ev.p_set, Ev.p_kSet, Ev.p_ret, Ev.p_kRt, Ev.p_expr, Ev.p_kEx, Ev.p_par, Ev.p_kPar, Ev.p_kSs, Ev.p_ss0, Ev.p_ss, Ev.p_asg, Ev.p_kAsg, Ev.p_unp, Ev.p_gs, Ev.p_kG, Ev.p_gs0, Ev.p_gIx, Ev.p_gIO, Ev.p_kUp, Ev.p_upd, Ev.p_upO, Ev.p_upN, Ev.p_upDt, Ev.p_upDf, Ev.p_put, Ev.p_mut, Ev.p_mutO, Ev.p_kNon, Ev.p_kM1, Ev.p_app, Ev.p_sl, Ev.p_kSl1, Ev.p_kSl2, Ev.p_kSl3, Ev.p_add, Ev.p_addL, Ev.p_i2, Ev.p_u1, Ev.p_lt, Ev.p_le, Ev.p_gt, Ev.p_ge, Ev.p_eqI, Ev.p_neI, Ev.p_eqS, Ev.p_neS, Ev.p_isB, Ev.p_isN, Ev.p_notN, Ev.p_tup, Ev.p_lst, Ev.p_abs, Ev.p_intI, Ev.p_intB, Ev.p_len, Ev.p_dlL, Ev.p_dlT, Ev.p_itL, Ev.p_itT, Ev.p_d, Ev.p_dn, Ev.p_rng1, Ev.p_rng2, Ev.p_lo0, Ev.p_lo1, Ev.p_lo2, Ev.p_lo3, Ev.p_lo4, Ev.p_lo5, Ev.p_lo6, Ev.p_lo7, Ev.p_lo8, Ev.p_lo9, Ev.p_lo10, Ev.p_lo11, Ev.p_lo12, Ev.p_lo13, Ev.p_lo14, Ev.p_lo15, Ev.p_lo16, Ev.p_lo17, Ev.p_lo18, Ev.p_lo19, Ev.p_lo20, Ev.p_lo21, Ev.p_lo22, Ev.p_lo23, Ev.p_lo24, Ev.p_p18, Ev.p_p40, Ev.p_lpN, Ev.p_lpC, Ev.p_lpB, Ev.p_lpR, Ev.p_for, Ev.p_whT, Ev.p_whF, Ev.p_lc, Ev.p_callAr, Ev.p_callO1, Ev.p_callO2, Ev.p_refV, Ev.p_refR, Ev.p_ref0, Ev.p_ga, Ev.p_ga0, Ev.p_gaO, Ev.p_gaV, Ev.p_gaR, Ev.p_leF, Ev.p_leL, Ev.p_leO, Ev.p_leN, Ev.p_sc, Ev.p_sc0, Ev.p_scN, Ev.p_scFs, Ev.p_scLs, Ev.p_scOn, Ev.p_scOl, Ev.p_scNn, Ev.p_scNl, Ev.p_fiR, Ev.p_fiV, Ev.p_fi0, Ev.fin_rt, Ev.fin_nx, Ev.ou_ln, Ev.ou_fz, Ev.ou_0, Ev.at_0, Ev.at_1, Ev.at_2, Ev.at_3, Ev.p_lenS, Ev.p_lenO, Ev.p_bind, Ev.q_ok, List.getElem?_cons_zero, List.getElem?_cons_succ, List.set_cons_zero, List.set_cons_succ, List.length_cons, List.length_nil, List.cons_append, List.nil_append, Option.map_some, ↓reduceIte, Bool.not_true, Bool.not_false, decide_true, decide_false, Ev.p_div, Ev.p_mod, Ev.p_pow, Ev.p_mul, Ev.dist, List.contains_cons, List.contains_nil, Bool.or_false, Bool.false_and, Bool.and_true, Bool.true_and, Nat.reduceAdd, Nat.reduceBEq, Ev.permN, Ev.perm, List.map_cons, List.map_nil, List.getD_cons_zero, List.getD_cons_succ, and_self, cond_true, cond_false, Int.cast_ofNat_Int, Int.natCast_one, Int.natCast_zero, Int.reduceEq, Int.reduceLE, Int.reduceLT, Int.reduceNeg, Int.reduceGT, Int.reduceAdd, Int.reduceMul, Int.reduceSub, Int.reduceToNat, Int.reducePow, Int.reduceNe, reduceCtorEq, eq_self, e3, e4]
    exact ⟨by decide, trivial⟩
  obtain ⟨_, _, e, rfl, rfl⟩ := w
  exact e
/-! ### the law's own reckoning -/
theorem number_sp (a u : Int) {b : Nat} (hb1 : b ≤ 100000) (ha : a.natAbs < 2 ^ b) (h : 0 < u) (hb : u.natAbs < 2 ^ 8000) : m_law_number [.fz (.int a), .fz (.int u)] = .ok (.fz (lowD a u)) [.fz (.int a), .fz (.int u)] := by
  obtain ⟨g0, g1⟩ := gcd_pos (a := a) h
  have dg : divOk (Int.gcd a u : Int) = true := divOk_of (b := 8000) (by omega) (Nat.lt_of_le_of_lt (by omega) hb) (by decide) (by decide)
  have hu : ¬ u < 0 := by omega
  have m1 : mulOk 1 a = true := mulOk_of (a := 1) (by decide) ha (by omega)
  have m2 : mulOk 1 u = true := mulOk_of (a := 1) (by decide) hb (by decide)
  have ea : (if a < 0 then -a else a) = (a.natAbs : Int) := by split <;> omega
  have eu : (if u < 0 then -u else u) = (u.natAbs : Int) := by split <;> omega
  have w : Fw (m_law_number [.fz (.int a), .fz (.int u)]) fun r os => r = .fz (lowD a u) ∧ os = [.fz (.int a), .fz (.int u)] := by
    refine fw_fin ?_
    change Wq (b_law_number [.fz (.int a), .fz (.int u), .un, .un, .un]) _
    unfold b_law_number
    simp only [Ev.p_pure, Ev.p_ok, Ev.p_toD, Ev.p_kDf, Ev.p_kDn, Ev.p_toV, Ev.p_kV, Ev.p_some, Ev.p_var, Ev.p_varF, Ev.p_varL, Ev.p_varO, Ev.p_varN, Ev.p_mov, Ev.p_movF, Ev.p_movL, Ev.p_movO, Ev.p_movN, Ev.p_ev2, Ev.p_k2, Ev.p_k2', Ev.p_ev2T, Ev.p_kT, Ev.p_kT', Ev.p_vb, Ev.p_ev1, Ev.p_evC, Ev.p_evL, Ev.p_evO, Ev.p_evSeq, Ev.p_tTruth, Ev.p_kf, Ev.p_cons, Ev.p_vcons, Ev.p_acons, Ev.p_kC1, Ev.p_kC2, Ev.p_arV, Ev.p_kAr, Ev.p_arR, Ev.p_arF, Ev.p_arOw, Ev.p_arN, Ev.p_arL, Ev.p_call, Ev.p_kL1, Ev.p_kL2, Ev.p_if, Ev.p_kIt, Ev.p_kIf, Ev.p_tAnd, Ev.p_tOr, Ev.p_tNot, Ev.p_kN, Ev.p_and, Ev.p_kA, Ev.p_or, Ev.p_kO, Ev.p_not, Ev.p_kNt, Ev.p_ixS, Ev.p_ixO, Ev.p_kX, Ev.p_kXO, Ev.p_slotD, Ev.p_slF, Ev.p_slO, Ev.p_slN, Ev.p_slL, Ev.p_seq, Ev.p_kSn, Ev.p_kSr, Ev.p_kSb, Ev.p_kSc, Ev.p_slot, Ev.p_setU, Ev.p_setF, Ev.p_setO, Ev.p_ofF, Ev.p_ofN, Ev.p_kNx, Ev.p_set, Ev.p_kSet, Ev.p_ret, Ev.p_kRt, Ev.p_expr, Ev.p_kEx, Ev.p_par, Ev.p_kPar, Ev.p_kSs, Ev.p_ss0, Ev.p_ss, Ev.p_asg, Ev.p_kAsg, Ev.p_unp, Ev.p_gs, Ev.p_kG, Ev.p_gs0, Ev.p_gIx, Ev.p_gIO, Ev.p_kUp, Ev.p_upd, Ev.p_upO, Ev.p_upN, Ev.p_upDt, Ev.p_upDf, Ev.p_put, Ev.p_mut, Ev.p_mutO, Ev.p_kNon, Ev.p_kM1, Ev.p_app, Ev.p_sl, Ev.p_kSl1, Ev.p_kSl2, Ev.p_kSl3, Ev.p_add, Ev.p_addL, Ev.p_i2, Ev.p_u1, Ev.p_lt, Ev.p_le, Ev.p_gt, Ev.p_ge, Ev.p_eqI, Ev.p_neI, Ev.p_eqS, Ev.p_neS, Ev.p_isB, Ev.p_isN, Ev.p_notN, Ev.p_tup, Ev.p_lst, Ev.p_abs, Ev.p_intI, Ev.p_intB, Ev.p_len, Ev.p_dlL, Ev.p_dlT, Ev.p_itL, Ev.p_itT, Ev.p_d, Ev.p_dn, Ev.p_rng1, Ev.p_rng2, Ev.p_lo0, Ev.p_lo1, Ev.p_lo2, Ev.p_lo3, Ev.p_lo4, Ev.p_lo5, Ev.p_lo6, Ev.p_lo7, Ev.p_lo8, Ev.p_lo9, Ev.p_lo10, Ev.p_lo11, Ev.p_lo12, Ev.p_lo13, Ev.p_lo14, Ev.p_lo15, Ev.p_lo16, Ev.p_lo17, Ev.p_lo18, Ev.p_lo19, Ev.p_lo20, Ev.p_lo21, Ev.p_lo22, Ev.p_lo23, Ev.p_lo24, Ev.p_p18, Ev.p_p40, Ev.p_lpN, Ev.p_lpC, Ev.p_lpB, Ev.p_lpR, Ev.p_for, Ev.p_whT, Ev.p_whF, Ev.p_lc, Ev.p_callAr, Ev.p_callO1, Ev.p_callO2, Ev.p_refV, Ev.p_refR, Ev.p_ref0, Ev.p_ga, Ev.p_ga0, Ev.p_gaO, Ev.p_gaV, Ev.p_gaR, Ev.p_leF, Ev.p_leL, Ev.p_leO, Ev.p_leN, Ev.p_sc, Ev.p_sc0, Ev.p_scN, Ev.p_scFs, Ev.p_scLs, Ev.p_scOn, Ev.p_scOl, Ev.p_scNn, Ev.p_scNl, Ev.p_fiR, Ev.p_fiV, Ev.p_fi0, Ev.fin_rt, Ev.fin_nx, Ev.ou_ln, Ev.ou_fz, Ev.ou_0, Ev.at_0, Ev.at_1, Ev.at_2, Ev.at_3, Ev.p_lenS, Ev.p_lenO, Ev.p_bind, Ev.q_ok, List.getElem?_cons_zero, List.getElem?_cons_succ, List.set_cons_zero, List.set_cons_succ, List.length_cons, List.length_nil, List.cons_append, List.nil_append, Option.map_some, ↓reduceIte, Bool.not_true, Bool.not_false, decide_true, decide_false, Ev.p_div, Ev.p_mod, Ev.p_pow, Ev.p_mul, Ev.dist, List.contains_cons, List.contains_nil, Bool.or_false, Bool.false_and, Bool.and_true, Bool.true_and, Nat.reduceAdd, Nat.reduceBEq, Ev.permN, Ev.perm, List.map_cons, List.map_nil, List.getD_cons_zero, List.getD_cons_succ, and_self, cond_true, cond_false, Int.cast_ofNat_Int, Int.natCast_one, Int.natCast_zero, Int.reduceEq, Int.reduceLE, Int.reduceLT, Int.reduceNeg, Int.reduceGT, Int.reduceAdd, Int.reduceMul, Int.reduceSub, Int.reduceToNat, Int.reducePow, Int.reduceNe, reduceCtorEq, eq_self]
    rw [ea, eu, q_bind]
    refine while_inv (I := fun n ρ => ∃ x y : Int, ρ = [.fz (.int a), .fz (.int u), .fz (.int x), .fz (.int y), .un] ∧ 0 ≤ x ∧ 0 ≤ y ∧ n = y.toNat ∧ Int.gcd x y = Int.gcd a u) (fun n ρ h => ?_) _ _ ⟨a.natAbs, u.natAbs, rfl, by omega, by omega, rfl, by simp [Int.gcd]⟩
    obtain ⟨x, y, rfl, hx, hy, rfl, hg⟩ := h
    simp only [Ev.p_pure, Ev.p_ok, Ev.p_toD, Ev.p_kDf, Ev.p_kDn, Ev.p_toV, Ev.p_kV, Ev.p_some, Ev.p_var, Ev.p_varF, Ev.p_varL, Ev.p_varO, Ev.p_varN, Ev.p_mov, Ev.p_movF, Ev.p_movL, Ev.p_movO, Ev.p_movN, Ev.p_ev2, Ev.p_k2, Ev.p_k2', Ev.p_ev2T, Ev.p_kT, Ev.p_kT', Ev.p_vb, Ev.p_ev1, Ev.p_evC, Ev.p_evL, Ev.p_evO, Ev.p_evSeq, Ev.p_tTruth, Ev.p_kf, Ev.p_cons, Ev.p_vcons, Ev.p_acons, Ev.p_kC1, Ev.p_kC2, Ev.p_arV, Ev.p_kAr, Ev.p_arR, Ev.p_arF, Ev.p_arOw, Ev.p_arN, Ev.p_arL, Ev.p_call, Ev.p_kL1, Ev.p_kL2, Ev.p_if, Ev.p_kIt, Ev.p_kIf, Ev.p_tAnd, Ev.p_tOr, Ev.p_tNot, Ev.p_kN, Ev.p_and, Ev.p_kA, Ev.p_or, Ev.p_kO, Ev.p_not, Ev.p_kNt, Ev.p_ixS, Ev.p_ixO, Ev.p_kX, Ev.p_kXO, Ev.p_slotD, Ev.p_slF, Ev.p_slO, Ev.p_slN, Ev.p_slL, Ev.p_seq, Ev.p_kSn, Ev.p_kSr, Ev.p_kSb, Ev.p_kSc, Ev.p_slot, Ev.p_setU, Ev.p_setF, Ev.p_setO, Ev.p_ofF, Ev.p_ofN, Ev.p_kNx, Ev.p_set, Ev.p_kSet, Ev.p_ret, Ev.p_kRt, Ev.p_expr, Ev.p_kEx, Ev.p_par, Ev.p_kPar, Ev.p_kSs, Ev.p_ss0, Ev.p_ss, Ev.p_asg, Ev.p_kAsg, Ev.p_unp, Ev.p_gs, Ev.p_kG, Ev.p_gs0, Ev.p_gIx, Ev.p_gIO, Ev.p_kUp, Ev.p_upd, Ev.p_upO, Ev.p_upN, Ev.p_upDt, Ev.p_upDf, Ev.p_put, Ev.p_mut, Ev.p_mutO, Ev.p_kNon, Ev.p_kM1, Ev.p_app, Ev.p_sl, Ev.p_kSl1, Ev.p_kSl2, Ev.p_kSl3, Ev.p_add, Ev.p_addL, Ev.p_i2, Ev.p_u1, Ev.p_lt, Ev.p_le, Ev.p_gt, Ev.p_ge, Ev.p_eqI, Ev.p_neI, Ev.p_eqS, Ev.p_neS, Ev.p_isB, Ev.p_isN, Ev.p_notN, Ev.p_tup, Ev.p_lst, Ev.p_abs, Ev.p_intI, Ev.p_intB, Ev.p_len, Ev.p_dlL, Ev.p_dlT, Ev.p_itL, Ev.p_itT, Ev.p_d, Ev.p_dn, Ev.p_rng1, Ev.p_rng2, Ev.p_lo0, Ev.p_lo1, Ev.p_lo2, Ev.p_lo3, Ev.p_lo4, Ev.p_lo5, Ev.p_lo6, Ev.p_lo7, Ev.p_lo8, Ev.p_lo9, Ev.p_lo10, Ev.p_lo11, Ev.p_lo12, Ev.p_lo13, Ev.p_lo14, Ev.p_lo15, Ev.p_lo16, Ev.p_lo17, Ev.p_lo18, Ev.p_lo19, Ev.p_lo20, Ev.p_lo21, Ev.p_lo22, Ev.p_lo23, Ev.p_lo24, Ev.p_p18, Ev.p_p40, Ev.p_lpN, Ev.p_lpC, Ev.p_lpB, Ev.p_lpR, Ev.p_for, Ev.p_whT, Ev.p_whF, Ev.p_lc, Ev.p_callAr, Ev.p_callO1, Ev.p_callO2, Ev.p_refV, Ev.p_refR, Ev.p_ref0, Ev.p_ga, Ev.p_ga0, Ev.p_gaO, Ev.p_gaV, Ev.p_gaR, Ev.p_leF, Ev.p_leL, Ev.p_leO, Ev.p_leN, Ev.p_sc, Ev.p_sc0, Ev.p_scN, Ev.p_scFs, Ev.p_scLs, Ev.p_scOn, Ev.p_scOl, Ev.p_scNn, Ev.p_scNl, Ev.p_fiR, Ev.p_fiV, Ev.p_fi0, Ev.fin_rt, Ev.fin_nx, Ev.ou_ln, Ev.ou_fz, Ev.ou_0, Ev.at_0, Ev.at_1, Ev.at_2, Ev.at_3, Ev.p_lenS, Ev.p_lenO, Ev.p_bind, Ev.q_ok, List.getElem?_cons_zero, List.getElem?_cons_succ, List.set_cons_zero, List.set_cons_succ, List.length_cons, List.length_nil, List.cons_append, List.nil_append, Option.map_some, ↓reduceIte, Bool.not_true, Bool.not_false, decide_true, decide_false, Ev.p_div, Ev.p_mod, Ev.p_pow, Ev.p_mul, Ev.dist, List.contains_cons, List.contains_nil, Bool.or_false, Bool.false_and, Bool.and_true, Bool.true_and, Nat.reduceAdd, Nat.reduceBEq, Ev.permN, Ev.perm, List.map_cons, List.map_nil, List.getD_cons_zero, List.getD_cons_succ, and_self, cond_true, cond_false, Int.cast_ofNat_Int, Int.natCast_one, Int.natCast_zero, Int.reduceEq, Int.reduceLE, Int.reduceLT, Int.reduceNeg, Int.reduceGT, Int.reduceAdd, Int.reduceMul, Int.reduceSub, Int.reduceToNat, Int.reducePow, Int.reduceNe, reduceCtorEq, eq_self]
    by_cases h : 0 < y
    · have hn : y ≠ 0 := by omega
      simp only [Ev.p_pure, Ev.p_ok, Ev.p_toD, Ev.p_kDf, Ev.p_kDn, Ev.p_toV, Ev.p_kV, Ev.p_some, Ev.p_var, Ev.p_varF, Ev.p_varL, Ev.p_varO, Ev.p_varN, Ev.p_mov, Ev.p_movF, Ev.p_movL, Ev.p_movO, Ev.p_movN, Ev.p_ev2, Ev.p_k2, Ev.p_k2', Ev.p_ev2T, Ev.p_kT, Ev.p_kT', Ev.p_vb, Ev.p_ev1, Ev.p_evC, Ev.p_evL, Ev.p_evO, Ev.p_evSeq, Ev.p_tTruth, Ev.p_kf, Ev.p_cons, Ev.p_vcons, Ev.p_acons, Ev.p_kC1, Ev.p_kC2, Ev.p_arV, Ev.p_kAr, Ev.p_arR, Ev.p_arF, Ev.p_arOw, Ev.p_arN, Ev.p_arL, Ev.p_call, Ev.p_kL1, Ev.p_kL2, Ev.p_if, Ev.p_kIt, Ev.p_kIf, Ev.p_tAnd, Ev.p_tOr, Ev.p_tNot, Ev.p_kN, Ev.p_and, Ev.p_kA, Ev.p_or, Ev.p_kO, Ev.p_not, Ev.p_kNt, Ev.p_ixS, Ev.p_ixO, Ev.p_kX, Ev.p_kXO, Ev.p_slotD, Ev.p_slF, Ev.p_slO, Ev.p_slN, Ev.p_slL, Ev.p_seq, Ev.p_kSn, Ev.p_kSr, Ev.p_kSb, Ev.p_kSc, Ev.p_slot, Ev.p_setU, Ev.p_setF, Ev.p_setO, Ev.p_ofF, Ev.p_ofN, Ev.p_kNx, Ev.p_set, Ev.p_kSet, Ev.p_ret, Ev.p_kRt, Ev.p_expr, Ev.p_kEx, Ev.p_par, Ev.p_kPar, Ev.p_kSs, Ev.p_ss0, Ev.p_ss, Ev.p_asg, Ev.p_kAsg, Ev.p_unp, Ev.p_gs, Ev.p_kG, Ev.p_gs0, Ev.p_gIx, Ev.p_gIO, Ev.p_kUp, Ev.p_upd, Ev.p_upO, Ev.p_upN, Ev.p_upDt, Ev.p_upDf, Ev.p_put, Ev.p_mut, Ev.p_mutO, Ev.p_kNon, Ev.p_kM1, Ev.p_app, Ev.p_sl, Ev.p_kSl1, Ev.p_kSl2, Ev.p_kSl3, Ev.p_add, Ev.p_addL, Ev.p_i2, Ev.p_u1, Ev.p_lt, Ev.p_le, Ev.p_gt, Ev.p_ge, Ev.p_eqI, Ev.p_neI, Ev.p_eqS, Ev.p_neS, Ev.p_isB, Ev.p_isN, Ev.p_notN, Ev.p_tup, Ev.p_lst, Ev.p_abs, Ev.p_intI, Ev.p_intB, Ev.p_len, Ev.p_dlL, Ev.p_dlT, Ev.p_itL, Ev.p_itT, Ev.p_d, Ev.p_dn, Ev.p_rng1, Ev.p_rng2, Ev.p_lo0, Ev.p_lo1, Ev.p_lo2, Ev.p_lo3, Ev.p_lo4, Ev.p_lo5, Ev.p_lo6, Ev.p_lo7, Ev.p_lo8, Ev.p_lo9, Ev.p_lo10, Ev.p_lo11, Ev.p_lo12, Ev.p_lo13, Ev.p_lo14, Ev.p_lo15, Ev.p_lo16, Ev.p_lo17, Ev.p_lo18, Ev.p_lo19, Ev.p_lo20, Ev.p_lo21, Ev.p_lo22, Ev.p_lo23, Ev.p_lo24, Ev.p_p18, Ev.p_p40, Ev.p_lpN, Ev.p_lpC, Ev.p_lpB, Ev.p_lpR, Ev.p_for, Ev.p_whT, Ev.p_whF, Ev.p_lc, Ev.p_callAr, Ev.p_callO1, Ev.p_callO2, Ev.p_refV, Ev.p_refR, Ev.p_ref0, Ev.p_ga, Ev.p_ga0, Ev.p_gaO, Ev.p_gaV, Ev.p_gaR, Ev.p_leF, Ev.p_leL, Ev.p_leO, Ev.p_leN, Ev.p_sc, Ev.p_sc0, Ev.p_scN, Ev.p_scFs, Ev.p_scLs, Ev.p_scOn, Ev.p_scOl, Ev.p_scNn, Ev.p_scNl, Ev.p_fiR, Ev.p_fiV, Ev.p_fi0, Ev.fin_rt, Ev.fin_nx, Ev.ou_ln, Ev.ou_fz, Ev.ou_0, Ev.at_0, Ev.at_1, Ev.at_2, Ev.at_3, Ev.p_lenS, Ev.p_lenO, Ev.p_bind, Ev.q_ok, List.getElem?_cons_zero, List.getElem?_cons_succ, List.set_cons_zero, List.set_cons_succ, List.length_cons, List.length_nil, List.cons_append, List.nil_append, Option.map_some, ↓reduceIte, Bool.not_true, Bool.not_false, decide_true, decide_false, Ev.p_div, Ev.p_mod, Ev.p_pow, Ev.p_mul, Ev.dist, List.contains_cons, List.contains_nil, Bool.or_false, Bool.false_and, Bool.and_true, Bool.true_and, Nat.reduceAdd, Nat.reduceBEq, Ev.permN, Ev.perm, List.map_cons, List.map_nil, List.getD_cons_zero, List.getD_cons_succ, and_self, cond_true, cond_false, Int.cast_ofNat_Int, Int.natCast_one, Int.natCast_zero, Int.reduceEq, Int.reduceLE, Int.reduceLT, Int.reduceNeg, Int.reduceGT, Int.reduceAdd, Int.reduceMul, Int.reduceSub, Int.reduceToNat, Int.reducePow, Int.reduceNe, reduceCtorEq, eq_self, decide_eq_true h, Ev.p_mod x y hn]
      refine ⟨(x.fmod y).toNat, ?_, _, _, rfl, hy, ?_, rfl, ?_⟩
      · rw [Int.fmod_eq_emod_of_nonneg x hy]
        have := Int.emod_lt_of_pos x h
        have := Int.emod_nonneg x hn
        omega
      · rw [Int.fmod_eq_emod_of_nonneg x hy]
        exact Int.emod_nonneg x hn
      · rw [gcd_step x y hx h, hg]
    · have : y = 0 := by omega
      subst this
      have hxg : x = (Int.gcd a u : Int) := by
        rw [← hg]
        simp [Int.gcd]
        omega
      by_cases h1 : u.fdiv (Int.gcd a u : Int) = 1
      · simp only [Ev.p_pure, Ev.p_ok, Ev.p_toD, Ev.p_kDf, Ev.p_kDn, Ev.p_toV, Ev.p_kV, Ev.p_some, Ev.p_var, Ev.p_varF, Ev.p_varL, Ev.p_varO, Ev.p_varN, Ev.p_mov, Ev.p_movF, Ev.p_movL, Ev.p_movO, Ev.p_movN, Ev.p_ev2, Ev.p_k2, Ev.p_k2', Ev.p_ev2T, Ev.p_kT, Ev.p_kT', Ev.p_vb, Ev.p_ev1, Ev.p_evC, Ev.p_evL, Ev.p_evO, Ev.p_evSeq, Ev.p_tTruth, Ev.p_kf, Ev.p_cons, Ev.p_vcons, Ev.p_acons, Ev.p_kC1, Ev.p_kC2, Ev.p_arV, Ev.p_kAr, Ev.p_arR, Ev.p_arF, Ev.p_arOw, Ev.p_arN, Ev.p_arL, Ev.p_call, Ev.p_kL1, Ev.p_kL2, Ev.p_if, Ev.p_kIt, Ev.p_kIf, Ev.p_tAnd, Ev.p_tOr, Ev.p_tNot, Ev.p_kN, Ev.p_and, Ev.p_kA, Ev.p_or, Ev.p_kO, Ev.p_not, Ev.p_kNt, Ev.p_ixS, Ev.p_ixO, Ev.p_kX, Ev.p_kXO, Ev.p_slotD, Ev.p_slF, Ev.p_slO, Ev.p_slN, Ev.p_slL, Ev.p_seq, Ev.p_kSn, Ev.p_kSr, Ev.p_kSb, Ev.p_kSc, Ev.p_slot, Ev.p_setU, Ev.p_setF, Ev.p_setO, Ev.p_ofF, Ev.p_ofN, Ev.p_kNx, Ev.p_set, Ev.p_kSet, Ev.p_ret, Ev.p_kRt, Ev.p_expr, Ev.p_kEx, Ev.p_par, Ev.p_kPar, Ev.p_kSs, Ev.p_ss0, Ev.p_ss, Ev.p_asg, Ev.p_kAsg, Ev.p_unp, Ev.p_gs, Ev.p_kG, Ev.p_gs0, Ev.p_gIx, Ev.p_gIO, Ev.p_kUp, Ev.p_upd, Ev.p_upO, Ev.p_upN, Ev.p_upDt, Ev.p_upDf, Ev.p_put, Ev.p_mut, Ev.p_mutO, Ev.p_kNon, Ev.p_kM1, Ev.p_app, Ev.p_sl, Ev.p_kSl1, Ev.p_kSl2, Ev.p_kSl3, Ev.p_add, Ev.p_addL, Ev.p_i2, Ev.p_u1, Ev.p_lt, Ev.p_le, Ev.p_gt, Ev.p_ge, Ev.p_eqI, Ev.p_neI, Ev.p_eqS, Ev.p_neS, Ev.p_isB, Ev.p_isN, Ev.p_notN, Ev.p_tup, Ev.p_lst, Ev.p_abs, Ev.p_intI, Ev.p_intB, Ev.p_len, Ev.p_dlL, Ev.p_dlT, Ev.p_itL, Ev.p_itT, Ev.p_d, Ev.p_dn, Ev.p_rng1, Ev.p_rng2, Ev.p_lo0, Ev.p_lo1, Ev.p_lo2, Ev.p_lo3, Ev.p_lo4, Ev.p_lo5, Ev.p_lo6, Ev.p_lo7, Ev.p_lo8, Ev.p_lo9, Ev.p_lo10, Ev.p_lo11, Ev.p_lo12, Ev.p_lo13, Ev.p_lo14, Ev.p_lo15, Ev.p_lo16, Ev.p_lo17, Ev.p_lo18, Ev.p_lo19, Ev.p_lo20, Ev.p_lo21, Ev.p_lo22, Ev.p_lo23, Ev.p_lo24, Ev.p_p18, Ev.p_p40, Ev.p_lpN, Ev.p_lpC, Ev.p_lpB, Ev.p_lpR, Ev.p_for, Ev.p_whT, Ev.p_whF, Ev.p_lc, Ev.p_callAr, Ev.p_callO1, Ev.p_callO2, Ev.p_refV, Ev.p_refR, Ev.p_ref0, Ev.p_ga, Ev.p_ga0, Ev.p_gaO, Ev.p_gaV, Ev.p_gaR, Ev.p_leF, Ev.p_leL, Ev.p_leO, Ev.p_leN, Ev.p_sc, Ev.p_sc0, Ev.p_scN, Ev.p_scFs, Ev.p_scLs, Ev.p_scOn, Ev.p_scOl, Ev.p_scNn, Ev.p_scNl, Ev.p_fiR, Ev.p_fiV, Ev.p_fi0, Ev.fin_rt, Ev.fin_nx, Ev.ou_ln, Ev.ou_fz, Ev.ou_0, Ev.at_0, Ev.at_1, Ev.at_2, Ev.at_3, Ev.p_lenS, Ev.p_lenO, Ev.p_bind, Ev.q_ok, List.getElem?_cons_zero, List.getElem?_cons_succ, List.set_cons_zero, List.set_cons_succ, List.length_cons, List.length_nil, List.cons_append, List.nil_append, Option.map_some, ↓reduceIte, Bool.not_true, Bool.not_false, decide_true, decide_false, Ev.p_div, Ev.p_mod, Ev.p_pow, Ev.p_mul, Ev.dist, List.contains_cons, List.contains_nil, Bool.or_false, Bool.false_and, Bool.and_true, Bool.true_and, Nat.reduceAdd, Nat.reduceBEq, Ev.permN, Ev.perm, List.map_cons, List.map_nil, List.getD_cons_zero, List.getD_cons_succ, and_self, cond_true, cond_false, Int.cast_ofNat_Int, Int.natCast_one, Int.natCast_zero, Int.reduceEq, Int.reduceLE, Int.reduceLT, Int.reduceNeg, Int.reduceGT, Int.reduceAdd, Int.reduceMul, Int.reduceSub, Int.reduceToNat, Int.reducePow, Int.reduceNe, reduceCtorEq, eq_self, decide_eq_false h, hxg, decide_eq_false hu, m1, m2, Int.one_mul, Ev.p_div _ _ dg, decide_eq_true h1]
        refine ⟨by decide, ?_, trivial⟩
        unfold lowD
        rw [if_pos h1]
      · simp only [Ev.p_pure, Ev.p_ok, Ev.p_toD, Ev.p_kDf, Ev.p_kDn, Ev.p_toV, Ev.p_kV, Ev.p_some, Ev.p_var, Ev.p_varF, Ev.p_varL, Ev.p_varO, Ev.p_varN, Ev.p_mov, Ev.p_movF, Ev.p_movL, Ev.p_movO, Ev.p_movN, Ev.p_ev2, Ev.p_k2, Ev.p_k2', Ev.p_ev2T, Ev.p_kT, Ev.p_kT', Ev.p_vb, Ev.p_ev1, Ev.p_evC, Ev.p_evL, Ev.p_evO, Ev.p_evSeq, Ev.p_tTruth, Ev.p_kf, Ev.p_cons, Ev.p_vcons, Ev.p_acons, Ev.p_kC1, Ev.p_kC2, Ev.p_arV, Ev.p_kAr, Ev.p_arR, Ev.p_arF, Ev.p_arOw, Ev.p_arN, Ev.p_arL, Ev.p_call, Ev.p_kL1, Ev.p_kL2, Ev.p_if, Ev.p_kIt, Ev.p_kIf, Ev.p_tAnd, Ev.p_tOr, Ev.p_tNot, Ev.p_kN, Ev.p_and, Ev.p_kA, Ev.p_or, Ev.p_kO, Ev.p_not, Ev.p_kNt, Ev.p_ixS, Ev.p_ixO, Ev.p_kX, Ev.p_kXO, Ev.p_slotD, Ev.p_slF, Ev.p_slO, Ev.p_slN, Ev.p_slL, Ev.p_seq, Ev.p_kSn, Ev.p_kSr, Ev.p_kSb, Ev.p_kSc, Ev.p_slot, Ev.p_setU, Ev.p_setF, Ev.p_setO, Ev.p_ofF, Ev.p_ofN, Ev.p_kNx, Ev.p_set, Ev.p_kSet, Ev.p_ret, Ev.p_kRt, Ev.p_expr, Ev.p_kEx, Ev.p_par, Ev.p_kPar, Ev.p_kSs, Ev.p_ss0, Ev.p_ss, Ev.p_asg, Ev.p_kAsg, Ev.p_unp, Ev.p_gs, Ev.p_kG, Ev.p_gs0, Ev.p_gIx, Ev.p_gIO, Ev.p_kUp, Ev.p_upd, Ev.p_upO, Ev.p_upN, Ev.p_upDt, Ev.p_upDf, Ev.p_put, Ev.p_mut, Ev.p_mutO, Ev.p_kNon, Ev.p_kM1, Ev.p_app, Ev.p_sl, Ev.p_kSl1, Ev.p_kSl2, Ev.p_kSl3, Ev.p_add, Ev.p_addL, Ev.p_i2, Ev.p_u1, Ev.p_lt, Ev.p_le, Ev.p_gt, Ev.p_ge, Ev.p_eqI, Ev.p_neI, Ev.p_eqS, Ev.p_neS, Ev.p_isB, Ev.p_isN, Ev.p_notN, Ev.p_tup, Ev.p_lst, Ev.p_abs, Ev.p_intI, Ev.p_intB, Ev.p_len, Ev.p_dlL, Ev.p_dlT, Ev.p_itL, Ev.p_itT, Ev.p_d, Ev.p_dn, Ev.p_rng1, Ev.p_rng2, Ev.p_lo0, Ev.p_lo1, Ev.p_lo2, Ev.p_lo3, Ev.p_lo4, Ev.p_lo5, Ev.p_lo6, Ev.p_lo7, Ev.p_lo8, Ev.p_lo9, Ev.p_lo10, Ev.p_lo11, Ev.p_lo12, Ev.p_lo13, Ev.p_lo14, Ev.p_lo15, Ev.p_lo16, Ev.p_lo17, Ev.p_lo18, Ev.p_lo19, Ev.p_lo20, Ev.p_lo21, Ev.p_lo22, Ev.p_lo23, Ev.p_lo24, Ev.p_p18, Ev.p_p40, Ev.p_lpN, Ev.p_lpC, Ev.p_lpB, Ev.p_lpR, Ev.p_for, Ev.p_whT, Ev.p_whF, Ev.p_lc, Ev.p_callAr, Ev.p_callO1, Ev.p_callO2, Ev.p_refV, Ev.p_refR, Ev.p_ref0, Ev.p_ga, Ev.p_ga0, Ev.p_gaO, Ev.p_gaV, Ev.p_gaR, Ev.p_leF, Ev.p_leL, Ev.p_leO, Ev.p_leN, Ev.p_sc, Ev.p_sc0, Ev.p_scN, Ev.p_scFs, Ev.p_scLs, Ev.p_scOn, Ev.p_scOl, Ev.p_scNn, Ev.p_scNl, Ev.p_fiR, Ev.p_fiV, Ev.p_fi0, Ev.fin_rt, Ev.fin_nx, Ev.ou_ln, Ev.ou_fz, Ev.ou_0, Ev.at_0, Ev.at_1, Ev.at_2, Ev.at_3, Ev.p_lenS, Ev.p_lenO, Ev.p_bind, Ev.q_ok, List.getElem?_cons_zero, List.getElem?_cons_succ, List.set_cons_zero, List.set_cons_succ, List.length_cons, List.length_nil, List.cons_append, List.nil_append, Option.map_some, ↓reduceIte, Bool.not_true, Bool.not_false, decide_true, decide_false, Ev.p_div, Ev.p_mod, Ev.p_pow, Ev.p_mul, Ev.dist, List.contains_cons, List.contains_nil, Bool.or_false, Bool.false_and, Bool.and_true, Bool.true_and, Nat.reduceAdd, Nat.reduceBEq, Ev.permN, Ev.perm, List.map_cons, List.map_nil, List.getD_cons_zero, List.getD_cons_succ, and_self, cond_true, cond_false, Int.cast_ofNat_Int, Int.natCast_one, Int.natCast_zero, Int.reduceEq, Int.reduceLE, Int.reduceLT, Int.reduceNeg, Int.reduceGT, Int.reduceAdd, Int.reduceMul, Int.reduceSub, Int.reduceToNat, Int.reducePow, Int.reduceNe, reduceCtorEq, eq_self, decide_eq_false h, hxg, decide_eq_false hu, m1, m2, Int.one_mul, Ev.p_div _ _ dg, decide_eq_false h1]
        refine ⟨by decide, ?_, trivial⟩
        unfold lowD
        rw [if_neg h1]
  obtain ⟨_, _, e, rfl, rfl⟩ := w
  exact e
theorem halves_i (a : Int) : m_law_halves [.fz (.int a)] = .ok (.fz (.tup [.int a, .int 1])) [.fz (.int a)] := by
  have e1 : bIsi [.int a, .ty .int] = some (.fz (.bl true)) := rfl
  have w : Fw (m_law_halves [.fz (.int a)]) fun r os => r = .fz (.tup [.int a, .int 1]) ∧ os = [.fz (.int a)] := by
    refine fw_fin ?_
    change Wq (b_law_halves [.fz (.int a)]) _
    unfold b_law_halves
    simp only [Ev.p_pure, Ev.p_ok, Ev.p_toD, Ev.p_kDf, Ev.p_kDn, Ev.p_toV, Ev.p_kV, Ev.p_some, Ev.p_var, Ev.p_varF, Ev.p_varL, Ev.p_varO, Ev.p_varN, Ev.p_mov, Ev.p_movF, Ev.p_movL, Ev.p_movO, Ev.p_movN, Ev.p_ev2, Ev.p_k2, Ev.p_k2', Ev.p_ev2T, Ev.p_kT, Ev.p_kT', Ev.p_vb, Ev.p_ev1, Ev.p_evC, Ev.p_evL, Ev.p_evO, Ev.p_evSeq, Ev.p_tTruth, Ev.p_kf, Ev.p_cons, Ev.p_vcons, Ev.p_acons, Ev.p_kC1, Ev.p_kC2, Ev.p_arV, Ev.p_kAr, Ev.p_arR, Ev.p_arF, Ev.p_arOw, Ev.p_arN, Ev.p_arL, Ev.p_call, Ev.p_kL1, Ev.p_kL2, Ev.p_if, Ev.p_kIt, Ev.p_kIf, Ev.p_tAnd, Ev.p_tOr, Ev.p_tNot, Ev.p_kN, Ev.p_and, Ev.p_kA, Ev.p_or, Ev.p_kO, Ev.p_not, Ev.p_kNt, Ev.p_ixS, Ev.p_ixO, Ev.p_kX, Ev.p_kXO, Ev.p_slotD, Ev.p_slF, Ev.p_slO, Ev.p_slN, Ev.p_slL, Ev.p_seq, Ev.p_kSn, Ev.p_kSr, Ev.p_kSb, Ev.p_kSc, Ev.p_slot, Ev.p_setU, Ev.p_setF, Ev.p_setO, Ev.p_ofF, Ev.p_ofN, Ev.p_kNx, Ev.p_set, Ev.p_kSet, Ev.p_ret, Ev.p_kRt, Ev.p_expr, Ev.p_kEx, Ev.p_par, Ev.p_kPar, Ev.p_kSs, Ev.p_ss0, Ev.p_ss, Ev.p_asg, Ev.p_kAsg, Ev.p_unp, Ev.p_gs, Ev.p_kG, Ev.p_gs0, Ev.p_gIx, Ev.p_gIO, Ev.p_kUp, Ev.p_upd, Ev.p_upO, Ev.p_upN, Ev.p_upDt, Ev.p_upDf, Ev.p_put, Ev.p_mut, Ev.p_mutO, Ev.p_kNon, Ev.p_kM1, Ev.p_app, Ev.p_sl, Ev.p_kSl1, Ev.p_kSl2, Ev.p_kSl3, Ev.p_add, Ev.p_addL, Ev.p_i2, Ev.p_u1, Ev.p_lt, Ev.p_le, Ev.p_gt, Ev.p_ge, Ev.p_eqI, Ev.p_neI, Ev.p_eqS, Ev.p_neS, Ev.p_isB, Ev.p_isN, Ev.p_notN, Ev.p_tup, Ev.p_lst, Ev.p_abs, Ev.p_intI, Ev.p_intB, Ev.p_len, Ev.p_dlL, Ev.p_dlT, Ev.p_itL, Ev.p_itT, Ev.p_d, Ev.p_dn, Ev.p_rng1, Ev.p_rng2, Ev.p_lo0, Ev.p_lo1, Ev.p_lo2, Ev.p_lo3, Ev.p_lo4, Ev.p_lo5, Ev.p_lo6, Ev.p_lo7, Ev.p_lo8, Ev.p_lo9, Ev.p_lo10, Ev.p_lo11, Ev.p_lo12, Ev.p_lo13, Ev.p_lo14, Ev.p_lo15, Ev.p_lo16, Ev.p_lo17, Ev.p_lo18, Ev.p_lo19, Ev.p_lo20, Ev.p_lo21, Ev.p_lo22, Ev.p_lo23, Ev.p_lo24, Ev.p_p18, Ev.p_p40, Ev.p_lpN, Ev.p_lpC, Ev.p_lpB, Ev.p_lpR, Ev.p_for, Ev.p_whT, Ev.p_whF, Ev.p_lc, Ev.p_callAr, Ev.p_callO1, Ev.p_callO2, Ev.p_refV, Ev.p_refR, Ev.p_ref0, Ev.p_ga, Ev.p_ga0, Ev.p_gaO, Ev.p_gaV, Ev.p_gaR, Ev.p_leF, Ev.p_leL, Ev.p_leO, Ev.p_leN, Ev.p_sc, Ev.p_sc0, Ev.p_scN, Ev.p_scFs, Ev.p_scLs, Ev.p_scOn, Ev.p_scOl, Ev.p_scNn, Ev.p_scNl, Ev.p_fiR, Ev.p_fiV, Ev.p_fi0, Ev.fin_rt, Ev.fin_nx, Ev.ou_ln, Ev.ou_fz, Ev.ou_0, Ev.at_0, Ev.at_1, Ev.at_2, Ev.at_3, Ev.p_lenS, Ev.p_lenO, Ev.p_bind, Ev.q_ok, List.getElem?_cons_zero, List.getElem?_cons_succ, List.set_cons_zero, List.set_cons_succ, List.length_cons, List.length_nil, List.cons_append, List.nil_append, Option.map_some, ↓reduceIte, Bool.not_true, Bool.not_false, decide_true, decide_false, Ev.p_div, Ev.p_mod, Ev.p_pow, Ev.p_mul, Ev.dist, List.contains_cons, List.contains_nil, Bool.or_false, Bool.false_and, Bool.and_true, Bool.true_and, Nat.reduceAdd, Nat.reduceBEq, Ev.permN, Ev.perm, List.map_cons, List.map_nil, List.getD_cons_zero, List.getD_cons_succ, and_self, cond_true, cond_false, Int.cast_ofNat_Int, Int.natCast_one, Int.natCast_zero, Int.reduceEq, Int.reduceLE, Int.reduceLT, Int.reduceNeg, Int.reduceGT, Int.reduceAdd, Int.reduceMul, Int.reduceSub, Int.reduceToNat, Int.reducePow, Int.reduceNe, reduceCtorEq, eq_self, e1, tr_b]
    exact ⟨by decide, trivial⟩
  obtain ⟨_, _, e, rfl, rfl⟩ := w
  exact e
theorem halves_t (a u : Int) : m_law_halves [.fz (.tup [.int a, .int u])] = .ok (.fz (.tup [.int a, .int u])) [.fz (.tup [.int a, .int u])] := by
  have e1 : bIsi [.tup [.int a, .int u], .ty .int] = some (.fz (.bl false)) := rfl
  have w : Fw (m_law_halves [.fz (.tup [.int a, .int u])]) fun r os => r = .fz (.tup [.int a, .int u]) ∧ os = [.fz (.tup [.int a, .int u])] := by
    refine fw_fin ?_
    change Wq (b_law_halves [.fz (.tup [.int a, .int u])]) _
    unfold b_law_halves
    simp only [Ev.p_pure, Ev.p_ok, Ev.p_toD, Ev.p_kDf, Ev.p_kDn, Ev.p_toV, Ev.p_kV, Ev.p_some, Ev.p_var, Ev.p_varF, Ev.p_varL, Ev.p_varO, Ev.p_varN, Ev.p_mov, Ev.p_movF, Ev.p_movL, Ev.p_movO, Ev.p_movN, Ev.p_ev2, Ev.p_k2, Ev.p_k2', Ev.p_ev2T, Ev.p_kT, Ev.p_kT', Ev.p_vb, Ev.p_ev1, Ev.p_evC, Ev.p_evL, Ev.p_evO, Ev.p_evSeq, Ev.p_tTruth, Ev.p_kf, Ev.p_cons, Ev.p_vcons, Ev.p_acons, Ev.p_kC1, Ev.p_kC2, Ev.p_arV, Ev.p_kAr, Ev.p_arR, Ev.p_arF, Ev.p_arOw, Ev.p_arN, Ev.p_arL, Ev.p_call, Ev.p_kL1, Ev.p_kL2, Ev.p_if, Ev.p_kIt, Ev.p_kIf, Ev.p_tAnd, Ev.p_tOr, Ev.p_tNot, Ev.p_kN, Ev.p_and, Ev.p_kA, Ev.p_or, Ev.p_kO, Ev.p_not, Ev.p_kNt, Ev.p_ixS, Ev.p_ixO, Ev.p_kX, Ev.p_kXO, Ev.p_slotD, Ev.p_slF, Ev.p_slO, Ev.p_slN, Ev.p_slL, Ev.p_seq, Ev.p_kSn, Ev.p_kSr, Ev.p_kSb, Ev.p_kSc, Ev.p_slot, Ev.p_setU, Ev.p_setF, Ev.p_setO, Ev.p_ofF, Ev.p_ofN, Ev.p_kNx, Ev.p_set, Ev.p_kSet, Ev.p_ret, Ev.p_kRt, Ev.p_expr, Ev.p_kEx, Ev.p_par, Ev.p_kPar, Ev.p_kSs, Ev.p_ss0, Ev.p_ss, Ev.p_asg, Ev.p_kAsg, Ev.p_unp, Ev.p_gs, Ev.p_kG, Ev.p_gs0, Ev.p_gIx, Ev.p_gIO, Ev.p_kUp, Ev.p_upd, Ev.p_upO, Ev.p_upN, Ev.p_upDt, Ev.p_upDf, Ev.p_put, Ev.p_mut, Ev.p_mutO, Ev.p_kNon, Ev.p_kM1, Ev.p_app, Ev.p_sl, Ev.p_kSl1, Ev.p_kSl2, Ev.p_kSl3, Ev.p_add, Ev.p_addL, Ev.p_i2, Ev.p_u1, Ev.p_lt, Ev.p_le, Ev.p_gt, Ev.p_ge, Ev.p_eqI, Ev.p_neI, Ev.p_eqS, Ev.p_neS, Ev.p_isB, Ev.p_isN, Ev.p_notN, Ev.p_tup, Ev.p_lst, Ev.p_abs, Ev.p_intI, Ev.p_intB, Ev.p_len, Ev.p_dlL, Ev.p_dlT, Ev.p_itL, Ev.p_itT, Ev.p_d, Ev.p_dn, Ev.p_rng1, Ev.p_rng2, Ev.p_lo0, Ev.p_lo1, Ev.p_lo2, Ev.p_lo3, Ev.p_lo4, Ev.p_lo5, Ev.p_lo6, Ev.p_lo7, Ev.p_lo8, Ev.p_lo9, Ev.p_lo10, Ev.p_lo11, Ev.p_lo12, Ev.p_lo13, Ev.p_lo14, Ev.p_lo15, Ev.p_lo16, Ev.p_lo17, Ev.p_lo18, Ev.p_lo19, Ev.p_lo20, Ev.p_lo21, Ev.p_lo22, Ev.p_lo23, Ev.p_lo24, Ev.p_p18, Ev.p_p40, Ev.p_lpN, Ev.p_lpC, Ev.p_lpB, Ev.p_lpR, Ev.p_for, Ev.p_whT, Ev.p_whF, Ev.p_lc, Ev.p_callAr, Ev.p_callO1, Ev.p_callO2, Ev.p_refV, Ev.p_refR, Ev.p_ref0, Ev.p_ga, Ev.p_ga0, Ev.p_gaO, Ev.p_gaV, Ev.p_gaR, Ev.p_leF, Ev.p_leL, Ev.p_leO, Ev.p_leN, Ev.p_sc, Ev.p_sc0, Ev.p_scN, Ev.p_scFs, Ev.p_scLs, Ev.p_scOn, Ev.p_scOl, Ev.p_scNn, Ev.p_scNl, Ev.p_fiR, Ev.p_fiV, Ev.p_fi0, Ev.fin_rt, Ev.fin_nx, Ev.ou_ln, Ev.ou_fz, Ev.ou_0, Ev.at_0, Ev.at_1, Ev.at_2, Ev.at_3, Ev.p_lenS, Ev.p_lenO, Ev.p_bind, Ev.q_ok, List.getElem?_cons_zero, List.getElem?_cons_succ, List.set_cons_zero, List.set_cons_succ, List.length_cons, List.length_nil, List.cons_append, List.nil_append, Option.map_some, ↓reduceIte, Bool.not_true, Bool.not_false, decide_true, decide_false, Ev.p_div, Ev.p_mod, Ev.p_pow, Ev.p_mul, Ev.dist, List.contains_cons, List.contains_nil, Bool.or_false, Bool.false_and, Bool.and_true, Bool.true_and, Nat.reduceAdd, Nat.reduceBEq, Ev.permN, Ev.perm, List.map_cons, List.map_nil, List.getD_cons_zero, List.getD_cons_succ, and_self, cond_true, cond_false, Int.cast_ofNat_Int, Int.natCast_one, Int.natCast_zero, Int.reduceEq, Int.reduceLE, Int.reduceLT, Int.reduceNeg, Int.reduceGT, Int.reduceAdd, Int.reduceMul, Int.reduceSub, Int.reduceToNat, Int.reducePow, Int.reduceNe, reduceCtorEq, eq_self, e1, tr_b]
    exact ⟨by decide, trivial⟩
  obtain ⟨_, _, e, rfl, rfl⟩ := w
  exact e
theorem ltower_sp (n : Nat) (hn : n ≤ 250) : m_law_tower [.fz (.int n)] = .ok (.fz (.int (tow n))) [.fz (.int n)] := by
  have w : Fw (m_law_tower [.fz (.int n)]) fun r os => r = .fz (.int (tow n)) ∧ os = [.fz (.int n)] := by
    refine fw_fin ?_
    change Wq (b_law_tower [.fz (.int n), .un, .un]) _
    unfold b_law_tower
    have er : rng1 [.int (n : Int)] = some (rangeL 0 n) := by
      rw [Ev.p_rng1 _ (inR_of (by omega) (by omega)), show (n : Int).toNat = n by omega]
    simp only [Ev.p_pure, Ev.p_ok, Ev.p_toD, Ev.p_kDf, Ev.p_kDn, Ev.p_toV, Ev.p_kV, Ev.p_some, Ev.p_var, Ev.p_varF, Ev.p_varL, Ev.p_varO, Ev.p_varN, Ev.p_mov, Ev.p_movF, Ev.p_movL, Ev.p_movO, Ev.p_movN, Ev.p_ev2, Ev.p_k2, Ev.p_k2', Ev.p_ev2T, Ev.p_kT, Ev.p_kT', Ev.p_vb, Ev.p_ev1, Ev.p_evC, Ev.p_evL, Ev.p_evO, Ev.p_evSeq, Ev.p_tTruth, Ev.p_kf, Ev.p_cons, Ev.p_vcons, Ev.p_acons, Ev.p_kC1, Ev.p_kC2, Ev.p_arV, Ev.p_kAr, Ev.p_arR, Ev.p_arF, Ev.p_arOw, Ev.p_arN, Ev.p_arL, Ev.p_call, Ev.p_kL1, Ev.p_kL2, Ev.p_if, Ev.p_kIt, Ev.p_kIf, Ev.p_tAnd, Ev.p_tOr, Ev.p_tNot, Ev.p_kN, Ev.p_and, Ev.p_kA, Ev.p_or, Ev.p_kO, Ev.p_not, Ev.p_kNt, Ev.p_ixS, Ev.p_ixO, Ev.p_kX, Ev.p_kXO, Ev.p_slotD, Ev.p_slF, Ev.p_slO, Ev.p_slN, Ev.p_slL, Ev.p_seq, Ev.p_kSn, Ev.p_kSr, Ev.p_kSb, Ev.p_kSc, Ev.p_slot, Ev.p_setU, Ev.p_setF, Ev.p_setO, Ev.p_ofF, Ev.p_ofN, Ev.p_kNx, Ev.p_set, Ev.p_kSet, Ev.p_ret, Ev.p_kRt, Ev.p_expr, Ev.p_kEx, Ev.p_par, Ev.p_kPar, Ev.p_kSs, Ev.p_ss0, Ev.p_ss, Ev.p_asg, Ev.p_kAsg, Ev.p_unp, Ev.p_gs, Ev.p_kG, Ev.p_gs0, Ev.p_gIx, Ev.p_gIO, Ev.p_kUp, Ev.p_upd, Ev.p_upO, Ev.p_upN, Ev.p_upDt, Ev.p_upDf, Ev.p_put, Ev.p_mut, Ev.p_mutO, Ev.p_kNon, Ev.p_kM1, Ev.p_app, Ev.p_sl, Ev.p_kSl1, Ev.p_kSl2, Ev.p_kSl3, Ev.p_add, Ev.p_addL, Ev.p_i2, Ev.p_u1, Ev.p_lt, Ev.p_le, Ev.p_gt, Ev.p_ge, Ev.p_eqI, Ev.p_neI, Ev.p_eqS, Ev.p_neS, Ev.p_isB, Ev.p_isN, Ev.p_notN, Ev.p_tup, Ev.p_lst, Ev.p_abs, Ev.p_intI, Ev.p_intB, Ev.p_len, Ev.p_dlL, Ev.p_dlT, Ev.p_itL, Ev.p_itT, Ev.p_d, Ev.p_dn, Ev.p_rng1, Ev.p_rng2, Ev.p_lo0, Ev.p_lo1, Ev.p_lo2, Ev.p_lo3, Ev.p_lo4, Ev.p_lo5, Ev.p_lo6, Ev.p_lo7, Ev.p_lo8, Ev.p_lo9, Ev.p_lo10, Ev.p_lo11, Ev.p_lo12, Ev.p_lo13, Ev.p_lo14, Ev.p_lo15, Ev.p_lo16, Ev.p_lo17, Ev.p_lo18, Ev.p_lo19, Ev.p_lo20, Ev.p_lo21, Ev.p_lo22, Ev.p_lo23, Ev.p_lo24, Ev.p_p18, Ev.p_p40, Ev.p_lpN, Ev.p_lpC, Ev.p_lpB, Ev.p_lpR, Ev.p_for, Ev.p_whT, Ev.p_whF, Ev.p_lc, Ev.p_callAr, Ev.p_callO1, Ev.p_callO2, Ev.p_refV, Ev.p_refR, Ev.p_ref0, Ev.p_ga, Ev.p_ga0, Ev.p_gaO, Ev.p_gaV, Ev.p_gaR, Ev.p_leF, Ev.p_leL, Ev.p_leO, Ev.p_leN, Ev.p_sc, Ev.p_sc0, Ev.p_scN, Ev.p_scFs, Ev.p_scLs, Ev.p_scOn, Ev.p_scOl, Ev.p_scNn, Ev.p_scNl, Ev.p_fiR, Ev.p_fiV, Ev.p_fi0, Ev.fin_rt, Ev.fin_nx, Ev.ou_ln, Ev.ou_fz, Ev.ou_0, Ev.at_0, Ev.at_1, Ev.at_2, Ev.at_3, Ev.p_lenS, Ev.p_lenO, Ev.p_bind, Ev.q_ok, List.getElem?_cons_zero, List.getElem?_cons_succ, List.set_cons_zero, List.set_cons_succ, List.length_cons, List.length_nil, List.cons_append, List.nil_append, Option.map_some, ↓reduceIte, Bool.not_true, Bool.not_false, decide_true, decide_false, Ev.p_div, Ev.p_mod, Ev.p_pow, Ev.p_mul, Ev.dist, List.contains_cons, List.contains_nil, Bool.or_false, Bool.false_and, Bool.and_true, Bool.true_and, Nat.reduceAdd, Nat.reduceBEq, Ev.permN, Ev.perm, List.map_cons, List.map_nil, List.getD_cons_zero, List.getD_cons_succ, and_self, cond_true, cond_false, Int.cast_ofNat_Int, Int.natCast_one, Int.natCast_zero, Int.reduceEq, Int.reduceLE, Int.reduceLT, Int.reduceNeg, Int.reduceGT, Int.reduceAdd, Int.reduceMul, Int.reduceSub, Int.reduceToNat, Int.reducePow, Int.reduceNe, reduceCtorEq, eq_self, er]
    rw [q_bind]
    refine for_range n (I := fun k ρ => ∃ x, ρ = [.fz (.int n), .fz (.int ((n : Int) ^ k)), x] ∧ (x = .un ∨ ∃ z, x = .fz z)) (fun k ρ hk hI => ?_) (fun ρ hI => ?_) _ ⟨_, by rw [Int.pow_zero], .inl rfl⟩
    · obtain ⟨x, rfl, hx⟩ := hI
      have m1 : mulOk ((n : Int) ^ k) (n : Int) = true := mulOk_of (pow_lt (by omega) k) (b := 64) (by omega) (by omega)
      rcases hx with rfl | ⟨z, rfl⟩
      · simp only [Ev.p_pure, Ev.p_ok, Ev.p_toD, Ev.p_kDf, Ev.p_kDn, Ev.p_toV, Ev.p_kV, Ev.p_some, Ev.p_var, Ev.p_varF, Ev.p_varL, Ev.p_varO, Ev.p_varN, Ev.p_mov, Ev.p_movF, Ev.p_movL, Ev.p_movO, Ev.p_movN, Ev.p_ev2, Ev.p_k2, Ev.p_k2', Ev.p_ev2T, Ev.p_kT, Ev.p_kT', Ev.p_vb, Ev.p_ev1, Ev.p_evC, Ev.p_evL, Ev.p_evO, Ev.p_evSeq, Ev.p_tTruth, Ev.p_kf, Ev.p_cons, Ev.p_vcons, Ev.p_acons, Ev.p_kC1, Ev.p_kC2, Ev.p_arV, Ev.p_kAr, Ev.p_arR, Ev.p_arF, Ev.p_arOw, Ev.p_arN, Ev.p_arL, Ev.p_call, Ev.p_kL1, Ev.p_kL2, Ev.p_if, Ev.p_kIt, Ev.p_kIf, Ev.p_tAnd, Ev.p_tOr, Ev.p_tNot, Ev.p_kN, Ev.p_and, Ev.p_kA, Ev.p_or, Ev.p_kO, Ev.p_not, Ev.p_kNt, Ev.p_ixS, Ev.p_ixO, Ev.p_kX, Ev.p_kXO, Ev.p_slotD, Ev.p_slF, Ev.p_slO, Ev.p_slN, Ev.p_slL, Ev.p_seq, Ev.p_kSn, Ev.p_kSr, Ev.p_kSb, Ev.p_kSc, Ev.p_slot, Ev.p_setU, Ev.p_setF, Ev.p_setO, Ev.p_ofF, Ev.p_ofN, Ev.p_kNx, Ev.p_set, Ev.p_kSet, Ev.p_ret, Ev.p_kRt, Ev.p_expr, Ev.p_kEx, Ev.p_par, Ev.p_kPar, Ev.p_kSs, Ev.p_ss0, Ev.p_ss, Ev.p_asg, Ev.p_kAsg, Ev.p_unp, Ev.p_gs, Ev.p_kG, Ev.p_gs0, Ev.p_gIx, Ev.p_gIO, Ev.p_kUp, Ev.p_upd, Ev.p_upO, Ev.p_upN, Ev.p_upDt, Ev.p_upDf, Ev.p_put, Ev.p_mut, Ev.p_mutO, Ev.p_kNon, Ev.p_kM1, Ev.p_app, Ev.p_sl, Ev.p_kSl1, Ev.p_kSl2, Ev.p_kSl3, Ev.p_add, Ev.p_addL, Ev.p_i2, Ev.p_u1, Ev.p_lt, Ev.p_le, Ev.p_gt, Ev.p_ge, Ev.p_eqI, Ev.p_neI, Ev.p_eqS, Ev.p_neS, Ev.p_isB, Ev.p_isN, Ev.p_notN, Ev.p_tup, Ev.p_lst, Ev.p_abs, Ev.p_intI, Ev.p_intB, Ev.p_len, Ev.p_dlL, Ev.p_dlT, Ev.p_itL, Ev.p_itT, Ev.p_d, Ev.p_dn, Ev.p_rng1, Ev.p_rng2, Ev.p_lo0, Ev.p_lo1, Ev.p_lo2, Ev.p_lo3, Ev.p_lo4, Ev.p_lo5, Ev.p_lo6, Ev.p_lo7, Ev.p_lo8, Ev.p_lo9, Ev.p_lo10, Ev.p_lo11, Ev.p_lo12, Ev.p_lo13, Ev.p_lo14, Ev.p_lo15, Ev.p_lo16, Ev.p_lo17, Ev.p_lo18, Ev.p_lo19, Ev.p_lo20, Ev.p_lo21, Ev.p_lo22, Ev.p_lo23, Ev.p_lo24, Ev.p_p18, Ev.p_p40, Ev.p_lpN, Ev.p_lpC, Ev.p_lpB, Ev.p_lpR, Ev.p_for, Ev.p_whT, Ev.p_whF, Ev.p_lc, Ev.p_callAr, Ev.p_callO1, Ev.p_callO2, Ev.p_refV, Ev.p_refR, Ev.p_ref0, Ev.p_ga, Ev.p_ga0, Ev.p_gaO, Ev.p_gaV, Ev.p_gaR, Ev.p_leF, Ev.p_leL, Ev.p_leO, Ev.p_leN, Ev.p_sc, Ev.p_sc0, Ev.p_scN, Ev.p_scFs, Ev.p_scLs, Ev.p_scOn, Ev.p_scOl, Ev.p_scNn, Ev.p_scNl, Ev.p_fiR, Ev.p_fiV, Ev.p_fi0, Ev.fin_rt, Ev.fin_nx, Ev.ou_ln, Ev.ou_fz, Ev.ou_0, Ev.at_0, Ev.at_1, Ev.at_2, Ev.at_3, Ev.p_lenS, Ev.p_lenO, Ev.p_bind, Ev.q_ok, List.getElem?_cons_zero, List.getElem?_cons_succ, List.set_cons_zero, List.set_cons_succ, List.length_cons, List.length_nil, List.cons_append, List.nil_append, Option.map_some, ↓reduceIte, Bool.not_true, Bool.not_false, decide_true, decide_false, Ev.p_div, Ev.p_mod, Ev.p_pow, Ev.p_mul, Ev.dist, List.contains_cons, List.contains_nil, Bool.or_false, Bool.false_and, Bool.and_true, Bool.true_and, Nat.reduceAdd, Nat.reduceBEq, Ev.permN, Ev.perm, List.map_cons, List.map_nil, List.getD_cons_zero, List.getD_cons_succ, and_self, cond_true, cond_false, Int.cast_ofNat_Int, Int.natCast_one, Int.natCast_zero, Int.reduceEq, Int.reduceLE, Int.reduceLT, Int.reduceNeg, Int.reduceGT, Int.reduceAdd, Int.reduceMul, Int.reduceSub, Int.reduceToNat, Int.reducePow, Int.reduceNe, reduceCtorEq, eq_self, m1, ← Int.pow_succ]
        exact ⟨_, rfl, .inr ⟨_, rfl⟩⟩
      · simp only [Ev.p_pure, Ev.p_ok, Ev.p_toD, Ev.p_kDf, Ev.p_kDn, Ev.p_toV, Ev.p_kV, Ev.p_some, Ev.p_var, Ev.p_varF, Ev.p_varL, Ev.p_varO, Ev.p_varN, Ev.p_mov, Ev.p_movF, Ev.p_movL, Ev.p_movO, Ev.p_movN, Ev.p_ev2, Ev.p_k2, Ev.p_k2', Ev.p_ev2T, Ev.p_kT, Ev.p_kT', Ev.p_vb, Ev.p_ev1, Ev.p_evC, Ev.p_evL, Ev.p_evO, Ev.p_evSeq, Ev.p_tTruth, Ev.p_kf, Ev.p_cons, Ev.p_vcons, Ev.p_acons, Ev.p_kC1, Ev.p_kC2, Ev.p_arV, Ev.p_kAr, Ev.p_arR, Ev.p_arF, Ev.p_arOw, Ev.p_arN, Ev.p_arL, Ev.p_call, Ev.p_kL1, Ev.p_kL2, Ev.p_if, Ev.p_kIt, Ev.p_kIf, Ev.p_tAnd, Ev.p_tOr, Ev.p_tNot, Ev.p_kN, Ev.p_and, Ev.p_kA, Ev.p_or, Ev.p_kO, Ev.p_not, Ev.p_kNt, Ev.p_ixS, Ev.p_ixO, Ev.p_kX, Ev.p_kXO, Ev.p_slotD, Ev.p_slF, Ev.p_slO, Ev.p_slN, Ev.p_slL, Ev.p_seq, Ev.p_kSn, Ev.p_kSr, Ev.p_kSb, Ev.p_kSc, Ev.p_slot, Ev.p_setU, Ev.p_setF, Ev.p_setO, Ev.p_ofF, Ev.p_ofN, Ev.p_kNx, Ev.p_set, Ev.p_kSet, Ev.p_ret, Ev.p_kRt, Ev.p_expr, Ev.p_kEx, Ev.p_par, Ev.p_kPar, Ev.p_kSs, Ev.p_ss0, Ev.p_ss, Ev.p_asg, Ev.p_kAsg, Ev.p_unp, Ev.p_gs, Ev.p_kG, Ev.p_gs0, Ev.p_gIx, Ev.p_gIO, Ev.p_kUp, Ev.p_upd, Ev.p_upO, Ev.p_upN, Ev.p_upDt, Ev.p_upDf, Ev.p_put, Ev.p_mut, Ev.p_mutO, Ev.p_kNon, Ev.p_kM1, Ev.p_app, Ev.p_sl, Ev.p_kSl1, Ev.p_kSl2, Ev.p_kSl3, Ev.p_add, Ev.p_addL, Ev.p_i2, Ev.p_u1, Ev.p_lt, Ev.p_le, Ev.p_gt, Ev.p_ge, Ev.p_eqI, Ev.p_neI, Ev.p_eqS, Ev.p_neS, Ev.p_isB, Ev.p_isN, Ev.p_notN, Ev.p_tup, Ev.p_lst, Ev.p_abs, Ev.p_intI, Ev.p_intB, Ev.p_len, Ev.p_dlL, Ev.p_dlT, Ev.p_itL, Ev.p_itT, Ev.p_d, Ev.p_dn, Ev.p_rng1, Ev.p_rng2, Ev.p_lo0, Ev.p_lo1, Ev.p_lo2, Ev.p_lo3, Ev.p_lo4, Ev.p_lo5, Ev.p_lo6, Ev.p_lo7, Ev.p_lo8, Ev.p_lo9, Ev.p_lo10, Ev.p_lo11, Ev.p_lo12, Ev.p_lo13, Ev.p_lo14, Ev.p_lo15, Ev.p_lo16, Ev.p_lo17, Ev.p_lo18, Ev.p_lo19, Ev.p_lo20, Ev.p_lo21, Ev.p_lo22, Ev.p_lo23, Ev.p_lo24, Ev.p_p18, Ev.p_p40, Ev.p_lpN, Ev.p_lpC, Ev.p_lpB, Ev.p_lpR, Ev.p_for, Ev.p_whT, Ev.p_whF, Ev.p_lc, Ev.p_callAr, Ev.p_callO1, Ev.p_callO2, Ev.p_refV, Ev.p_refR, Ev.p_ref0, Ev.p_ga, Ev.p_ga0, Ev.p_gaO, Ev.p_gaV, Ev.p_gaR, Ev.p_leF, Ev.p_leL, Ev.p_leO, Ev.p_leN, Ev.p_sc, Ev.p_sc0, Ev.p_scN, Ev.p_scFs, Ev.p_scLs, Ev.p_scOn, Ev.p_scOl, Ev.p_scNn, Ev.p_scNl, Ev.p_fiR, Ev.p_fiV, Ev.p_fi0, Ev.fin_rt, Ev.fin_nx, Ev.ou_ln, Ev.ou_fz, Ev.ou_0, Ev.at_0, Ev.at_1, Ev.at_2, Ev.at_3, Ev.p_lenS, Ev.p_lenO, Ev.p_bind, Ev.q_ok, List.getElem?_cons_zero, List.getElem?_cons_succ, List.set_cons_zero, List.set_cons_succ, List.length_cons, List.length_nil, List.cons_append, List.nil_append, Option.map_some, ↓reduceIte, Bool.not_true, Bool.not_false, decide_true, decide_false, Ev.p_div, Ev.p_mod, Ev.p_pow, Ev.p_mul, Ev.dist, List.contains_cons, List.contains_nil, Bool.or_false, Bool.false_and, Bool.and_true, Bool.true_and, Nat.reduceAdd, Nat.reduceBEq, Ev.permN, Ev.perm, List.map_cons, List.map_nil, List.getD_cons_zero, List.getD_cons_succ, and_self, cond_true, cond_false, Int.cast_ofNat_Int, Int.natCast_one, Int.natCast_zero, Int.reduceEq, Int.reduceLE, Int.reduceLT, Int.reduceNeg, Int.reduceGT, Int.reduceAdd, Int.reduceMul, Int.reduceSub, Int.reduceToNat, Int.reducePow, Int.reduceNe, reduceCtorEq, eq_self, m1, ← Int.pow_succ]
        exact ⟨_, rfl, .inr ⟨_, rfl⟩⟩
    · obtain ⟨x, rfl, hx⟩ := hI
      simp only [Ev.p_pure, Ev.p_ok, Ev.p_toD, Ev.p_kDf, Ev.p_kDn, Ev.p_toV, Ev.p_kV, Ev.p_some, Ev.p_var, Ev.p_varF, Ev.p_varL, Ev.p_varO, Ev.p_varN, Ev.p_mov, Ev.p_movF, Ev.p_movL, Ev.p_movO, Ev.p_movN, Ev.p_ev2, Ev.p_k2, Ev.p_k2', Ev.p_ev2T, Ev.p_kT, Ev.p_kT', Ev.p_vb, Ev.p_ev1, Ev.p_evC, Ev.p_evL, Ev.p_evO, Ev.p_evSeq, Ev.p_tTruth, Ev.p_kf, Ev.p_cons, Ev.p_vcons, Ev.p_acons, Ev.p_kC1, Ev.p_kC2, Ev.p_arV, Ev.p_kAr, Ev.p_arR, Ev.p_arF, Ev.p_arOw, Ev.p_arN, Ev.p_arL, Ev.p_call, Ev.p_kL1, Ev.p_kL2, Ev.p_if, Ev.p_kIt, Ev.p_kIf, Ev.p_tAnd, Ev.p_tOr, Ev.p_tNot, Ev.p_kN, Ev.p_and, Ev.p_kA, Ev.p_or, Ev.p_kO, Ev.p_not, Ev.p_kNt, Ev.p_ixS, Ev.p_ixO, Ev.p_kX, Ev.p_kXO, Ev.p_slotD, Ev.p_slF, Ev.p_slO, Ev.p_slN, Ev.p_slL, Ev.p_seq, Ev.p_kSn, Ev.p_kSr, Ev.p_kSb, Ev.p_kSc, Ev.p_slot, Ev.p_setU, Ev.p_setF, Ev.p_setO, Ev.p_ofF, Ev.p_ofN, Ev.p_kNx, Ev.p_set, Ev.p_kSet, Ev.p_ret, Ev.p_kRt, Ev.p_expr, Ev.p_kEx, Ev.p_par, Ev.p_kPar, Ev.p_kSs, Ev.p_ss0, Ev.p_ss, Ev.p_asg, Ev.p_kAsg, Ev.p_unp, Ev.p_gs, Ev.p_kG, Ev.p_gs0, Ev.p_gIx, Ev.p_gIO, Ev.p_kUp, Ev.p_upd, Ev.p_upO, Ev.p_upN, Ev.p_upDt, Ev.p_upDf, Ev.p_put, Ev.p_mut, Ev.p_mutO, Ev.p_kNon, Ev.p_kM1, Ev.p_app, Ev.p_sl, Ev.p_kSl1, Ev.p_kSl2, Ev.p_kSl3, Ev.p_add, Ev.p_addL, Ev.p_i2, Ev.p_u1, Ev.p_lt, Ev.p_le, Ev.p_gt, Ev.p_ge, Ev.p_eqI, Ev.p_neI, Ev.p_eqS, Ev.p_neS, Ev.p_isB, Ev.p_isN, Ev.p_notN, Ev.p_tup, Ev.p_lst, Ev.p_abs, Ev.p_intI, Ev.p_intB, Ev.p_len, Ev.p_dlL, Ev.p_dlT, Ev.p_itL, Ev.p_itT, Ev.p_d, Ev.p_dn, Ev.p_rng1, Ev.p_rng2, Ev.p_lo0, Ev.p_lo1, Ev.p_lo2, Ev.p_lo3, Ev.p_lo4, Ev.p_lo5, Ev.p_lo6, Ev.p_lo7, Ev.p_lo8, Ev.p_lo9, Ev.p_lo10, Ev.p_lo11, Ev.p_lo12, Ev.p_lo13, Ev.p_lo14, Ev.p_lo15, Ev.p_lo16, Ev.p_lo17, Ev.p_lo18, Ev.p_lo19, Ev.p_lo20, Ev.p_lo21, Ev.p_lo22, Ev.p_lo23, Ev.p_lo24, Ev.p_p18, Ev.p_p40, Ev.p_lpN, Ev.p_lpC, Ev.p_lpB, Ev.p_lpR, Ev.p_for, Ev.p_whT, Ev.p_whF, Ev.p_lc, Ev.p_callAr, Ev.p_callO1, Ev.p_callO2, Ev.p_refV, Ev.p_refR, Ev.p_ref0, Ev.p_ga, Ev.p_ga0, Ev.p_gaO, Ev.p_gaV, Ev.p_gaR, Ev.p_leF, Ev.p_leL, Ev.p_leO, Ev.p_leN, Ev.p_sc, Ev.p_sc0, Ev.p_scN, Ev.p_scFs, Ev.p_scLs, Ev.p_scOn, Ev.p_scOl, Ev.p_scNn, Ev.p_scNl, Ev.p_fiR, Ev.p_fiV, Ev.p_fi0, Ev.fin_rt, Ev.fin_nx, Ev.ou_ln, Ev.ou_fz, Ev.ou_0, Ev.at_0, Ev.at_1, Ev.at_2, Ev.at_3, Ev.p_lenS, Ev.p_lenO, Ev.p_bind, Ev.q_ok, List.getElem?_cons_zero, List.getElem?_cons_succ, List.set_cons_zero, List.set_cons_succ, List.length_cons, List.length_nil, List.cons_append, List.nil_append, Option.map_some, ↓reduceIte, Bool.not_true, Bool.not_false, decide_true, decide_false, Ev.p_div, Ev.p_mod, Ev.p_pow, Ev.p_mul, Ev.dist, List.contains_cons, List.contains_nil, Bool.or_false, Bool.false_and, Bool.and_true, Bool.true_and, Nat.reduceAdd, Nat.reduceBEq, Ev.permN, Ev.perm, List.map_cons, List.map_nil, List.getD_cons_zero, List.getD_cons_succ, and_self, cond_true, cond_false, Int.cast_ofNat_Int, Int.natCast_one, Int.natCast_zero, Int.reduceEq, Int.reduceLE, Int.reduceLT, Int.reduceNeg, Int.reduceGT, Int.reduceAdd, Int.reduceMul, Int.reduceSub, Int.reduceToNat, Int.reducePow, Int.reduceNe, reduceCtorEq, eq_self]
      exact ⟨by decide, rfl, trivial⟩
  obtain ⟨_, _, e, rfl, rfl⟩ := w
  exact e
theorem low_mul (c v : Int) (h : 0 < v) : lowD (c * v) v = .int c := by
  have eg : (Int.gcd (c * v) v : Int) = v := by
    rw [Int.gcd_mul_left_left]
    exact Int.natAbs_of_nonneg (by omega)
  unfold lowD
  rw [eg, Int.fdiv_eq_ediv_of_nonneg v (by omega), Int.fdiv_eq_ediv_of_nonneg (c * v) (by omega), Int.ediv_self (by omega), Int.mul_ediv_cancel c (by omega)]
  rfl
theorem times_sp (a : Int) (d : Nat) (hd : d ≤ 250) (ha : a.natAbs < 2 ^ 8000) : m_law_times [.fz (lowD a (tow d)), .fz (.int d)] = .ok (.fz (.int a)) [.fz (lowD a (tow d)), .fz (.int d)] := by
  have hu := tow_pos d
  have ht := ltower_sp d hd
  obtain ⟨g0, g1⟩ := gcd_pos (a := a) hu
  have d1 : (Int.gcd a (tow d) : Int) ∣ a := Int.gcd_dvd_left ..
  have d2 : (Int.gcd a (tow d) : Int) ∣ tow d := Int.gcd_dvd_right ..
  obtain ⟨a', ea⟩ := d1
  obtain ⟨u', eu⟩ := d2
  have fa : a.fdiv (Int.gcd a (tow d) : Int) = a' := by
    rw [Int.fdiv_eq_ediv_of_nonneg a (by omega)]
    conv => lhs; lhs; rw [ea]
    exact Int.mul_ediv_cancel_left a' (by omega)
  have fu : (tow d).fdiv (Int.gcd a (tow d) : Int) = u' := by
    rw [Int.fdiv_eq_ediv_of_nonneg (tow d) (by omega)]
    conv => lhs; lhs; rw [eu]
    exact Int.mul_ediv_cancel_left u' (by omega)
  have la : a'.natAbs < 2 ^ 8000 := by
    rw [← fa, Int.fdiv_eq_ediv_of_nonneg a (by omega)]
    exact Nat.lt_of_le_of_lt (Int.natAbs_ediv_le_natAbs ..) ha
  have lu : u'.natAbs < 2 ^ 8000 := by
    rw [← fu, Int.fdiv_eq_ediv_of_nonneg (tow d) (by omega)]
    exact Nat.lt_of_le_of_lt (Int.natAbs_ediv_le_natAbs ..) (Nat.lt_of_lt_of_le (tow_lt hd) (Nat.pow_le_pow_right (by decide) (by decide)))
  have pu : 0 < u' := by
    have h0 : 0 < (Int.gcd a (tow d) : Int) * u' := by
      rw [← eu]
      exact hu
    exact Int.pos_of_mul_pos_right h0 (by omega)
  have mo : mulOk a' (tow d) = true := mulOk_of la (tow_lt hd) (by decide)
  have key : a' * tow d = a * u' := by
    conv => lhs; rw [eu]
    conv => rhs; rw [ea]
    rw [← Int.mul_assoc, Int.mul_comm a']
  have lk : (a' * tow d).natAbs < 2 ^ (8000 + 4000) := wide_lt la (tow_lt hd)
  have w : Fw (m_law_times [.fz (lowD a (tow d)), .fz (.int d)]) fun r os => r = .fz (.int a) ∧ os = [.fz (lowD a (tow d)), .fz (.int d)] := by
    refine fw_fin ?_
    change Wq (b_law_times [.fz (lowD a (tow d)), .fz (.int d), .un, .un]) _
    unfold b_law_times
    have en := number_sp (a' * tow d) u' (b := 8000 + 4000) (by decide) lk pu lu
    rw [key, low_mul a u' pu, ← key] at en
    by_cases h1 : (tow d).fdiv (Int.gcd a (tow d) : Int) = 1
    · have el : lowD a (tow d) = .int a' := by
        unfold lowD
        rw [if_pos h1, fa]
      have u1 : u' = 1 := fu.symm.trans h1
      subst u1
      rw [el]
      simp only [Ev.p_pure, Ev.p_ok, Ev.p_toD, Ev.p_kDf, Ev.p_kDn, Ev.p_toV, Ev.p_kV, Ev.p_some, Ev.p_var, Ev.p_varF, Ev.p_varL, Ev.p_varO, Ev.p_varN, Ev.p_mov, Ev.p_movF, Ev.p_movL, Ev.p_movO, Ev.p_movN, Ev.p_ev2, Ev.p_k2, Ev.p_k2', Ev.p_ev2T, Ev.p_kT, Ev.p_kT', Ev.p_vb, Ev.p_ev1, Ev.p_evC, Ev.p_evL, Ev.p_evO, Ev.p_evSeq, Ev.p_tTruth, Ev.p_kf, Ev.p_cons, Ev.p_vcons, Ev.p_acons, Ev.p_kC1, Ev.p_kC2, Ev.p_arV, Ev.p_kAr, Ev.p_arR, Ev.p_arF, Ev.p_arOw, Ev.p_arN, Ev.p_arL, Ev.p_call, Ev.p_kL1, Ev.p_kL2, Ev.p_if, Ev.p_kIt, Ev.p_kIf, Ev.p_tAnd, Ev.p_tOr, Ev.p_tNot, Ev.p_kN, Ev.p_and, Ev.p_kA, Ev.p_or, Ev.p_kO, Ev.p_not, Ev.p_kNt, Ev.p_ixS, Ev.p_ixO, Ev.p_kX, Ev.p_kXO, Ev.p_slotD, Ev.p_slF, Ev.p_slO, Ev.p_slN, Ev.p_slL, Ev.p_seq, Ev.p_kSn, Ev.p_kSr, Ev.p_kSb, Ev.p_kSc, Ev.p_slot, Ev.p_setU, Ev.p_setF, Ev.p_setO, Ev.p_ofF, Ev.p_ofN, Ev.p_kNx, Ev.p_set, Ev.p_kSet, Ev.p_ret, Ev.p_kRt, Ev.p_expr, Ev.p_kEx, Ev.p_par, Ev.p_kPar, Ev.p_kSs, Ev.p_ss0, Ev.p_ss, Ev.p_asg, Ev.p_kAsg, Ev.p_unp, Ev.p_gs, Ev.p_kG, Ev.p_gs0, Ev.p_gIx, Ev.p_gIO, Ev.p_kUp, Ev.p_upd, Ev.p_upO, Ev.p_upN, Ev.p_upDt, Ev.p_upDf, Ev.p_put, Ev.p_mut, Ev.p_mutO, Ev.p_kNon, Ev.p_kM1, Ev.p_app, Ev.p_sl, Ev.p_kSl1, Ev.p_kSl2, Ev.p_kSl3, Ev.p_add, Ev.p_addL, Ev.p_i2, Ev.p_u1, Ev.p_lt, Ev.p_le, Ev.p_gt, Ev.p_ge, Ev.p_eqI, Ev.p_neI, Ev.p_eqS, Ev.p_neS, Ev.p_isB, Ev.p_isN, Ev.p_notN, Ev.p_tup, Ev.p_lst, Ev.p_abs, Ev.p_intI, Ev.p_intB, Ev.p_len, Ev.p_dlL, Ev.p_dlT, Ev.p_itL, Ev.p_itT, Ev.p_d, Ev.p_dn, Ev.p_rng1, Ev.p_rng2, Ev.p_lo0, Ev.p_lo1, Ev.p_lo2, Ev.p_lo3, Ev.p_lo4, Ev.p_lo5, Ev.p_lo6, Ev.p_lo7, Ev.p_lo8, Ev.p_lo9, Ev.p_lo10, Ev.p_lo11, Ev.p_lo12, Ev.p_lo13, Ev.p_lo14, Ev.p_lo15, Ev.p_lo16, Ev.p_lo17, Ev.p_lo18, Ev.p_lo19, Ev.p_lo20, Ev.p_lo21, Ev.p_lo22, Ev.p_lo23, Ev.p_lo24, Ev.p_p18, Ev.p_p40, Ev.p_lpN, Ev.p_lpC, Ev.p_lpB, Ev.p_lpR, Ev.p_for, Ev.p_whT, Ev.p_whF, Ev.p_lc, Ev.p_callAr, Ev.p_callO1, Ev.p_callO2, Ev.p_refV, Ev.p_refR, Ev.p_ref0, Ev.p_ga, Ev.p_ga0, Ev.p_gaO, Ev.p_gaV, Ev.p_gaR, Ev.p_leF, Ev.p_leL, Ev.p_leO, Ev.p_leN, Ev.p_sc, Ev.p_sc0, Ev.p_scN, Ev.p_scFs, Ev.p_scLs, Ev.p_scOn, Ev.p_scOl, Ev.p_scNn, Ev.p_scNl, Ev.p_fiR, Ev.p_fiV, Ev.p_fi0, Ev.fin_rt, Ev.fin_nx, Ev.ou_ln, Ev.ou_fz, Ev.ou_0, Ev.at_0, Ev.at_1, Ev.at_2, Ev.at_3, Ev.p_lenS, Ev.p_lenO, Ev.p_bind, Ev.q_ok, List.getElem?_cons_zero, List.getElem?_cons_succ, List.set_cons_zero, List.set_cons_succ, List.length_cons, List.length_nil, List.cons_append, List.nil_append, Option.map_some, ↓reduceIte, Bool.not_true, Bool.not_false, decide_true, decide_false, Ev.p_div, Ev.p_mod, Ev.p_pow, Ev.p_mul, Ev.dist, List.contains_cons, List.contains_nil, Bool.or_false, Bool.false_and, Bool.and_true, Bool.true_and, Nat.reduceAdd, Nat.reduceBEq, Ev.permN, Ev.perm, List.map_cons, List.map_nil, List.getD_cons_zero, List.getD_cons_succ, and_self, cond_true, cond_false, Int.cast_ofNat_Int, Int.natCast_one, Int.natCast_zero, Int.reduceEq, Int.reduceLE, Int.reduceLT, Int.reduceNeg, Int.reduceGT, Int.reduceAdd, Int.reduceMul, Int.reduceSub, Int.reduceToNat, Int.reducePow, Int.reduceNe, reduceCtorEq, eq_self, halves_i a', ht, mo, en]
      exact ⟨by decide, trivial⟩
    · have el : lowD a (tow d) = .tup [.int a', .int u'] := by
        unfold lowD
        rw [if_neg h1, fa, fu]
      rw [el]
      simp only [Ev.p_pure, Ev.p_ok, Ev.p_toD, Ev.p_kDf, Ev.p_kDn, Ev.p_toV, Ev.p_kV, Ev.p_some, Ev.p_var, Ev.p_varF, Ev.p_varL, Ev.p_varO, Ev.p_varN, Ev.p_mov, Ev.p_movF, Ev.p_movL, Ev.p_movO, Ev.p_movN, Ev.p_ev2, Ev.p_k2, Ev.p_k2', Ev.p_ev2T, Ev.p_kT, Ev.p_kT', Ev.p_vb, Ev.p_ev1, Ev.p_evC, Ev.p_evL, Ev.p_evO, Ev.p_evSeq, Ev.p_tTruth, Ev.p_kf, Ev.p_cons, Ev.p_vcons, Ev.p_acons, Ev.p_kC1, Ev.p_kC2, Ev.p_arV, Ev.p_kAr, Ev.p_arR, Ev.p_arF, Ev.p_arOw, Ev.p_arN, Ev.p_arL, Ev.p_call, Ev.p_kL1, Ev.p_kL2, Ev.p_if, Ev.p_kIt, Ev.p_kIf, Ev.p_tAnd, Ev.p_tOr, Ev.p_tNot, Ev.p_kN, Ev.p_and, Ev.p_kA, Ev.p_or, Ev.p_kO, Ev.p_not, Ev.p_kNt, Ev.p_ixS, Ev.p_ixO, Ev.p_kX, Ev.p_kXO, Ev.p_slotD, Ev.p_slF, Ev.p_slO, Ev.p_slN, Ev.p_slL, Ev.p_seq, Ev.p_kSn, Ev.p_kSr, Ev.p_kSb, Ev.p_kSc, Ev.p_slot, Ev.p_setU, Ev.p_setF, Ev.p_setO, Ev.p_ofF, Ev.p_ofN, Ev.p_kNx, Ev.p_set, Ev.p_kSet, Ev.p_ret, Ev.p_kRt, Ev.p_expr, Ev.p_kEx, Ev.p_par, Ev.p_kPar, Ev.p_kSs, Ev.p_ss0, Ev.p_ss, Ev.p_asg, Ev.p_kAsg, Ev.p_unp, Ev.p_gs, Ev.p_kG, Ev.p_gs0, Ev.p_gIx, Ev.p_gIO, Ev.p_kUp, Ev.p_upd, Ev.p_upO, Ev.p_upN, Ev.p_upDt, Ev.p_upDf, Ev.p_put, Ev.p_mut, Ev.p_mutO, Ev.p_kNon, Ev.p_kM1, Ev.p_app, Ev.p_sl, Ev.p_kSl1, Ev.p_kSl2, Ev.p_kSl3, Ev.p_add, Ev.p_addL, Ev.p_i2, Ev.p_u1, Ev.p_lt, Ev.p_le, Ev.p_gt, Ev.p_ge, Ev.p_eqI, Ev.p_neI, Ev.p_eqS, Ev.p_neS, Ev.p_isB, Ev.p_isN, Ev.p_notN, Ev.p_tup, Ev.p_lst, Ev.p_abs, Ev.p_intI, Ev.p_intB, Ev.p_len, Ev.p_dlL, Ev.p_dlT, Ev.p_itL, Ev.p_itT, Ev.p_d, Ev.p_dn, Ev.p_rng1, Ev.p_rng2, Ev.p_lo0, Ev.p_lo1, Ev.p_lo2, Ev.p_lo3, Ev.p_lo4, Ev.p_lo5, Ev.p_lo6, Ev.p_lo7, Ev.p_lo8, Ev.p_lo9, Ev.p_lo10, Ev.p_lo11, Ev.p_lo12, Ev.p_lo13, Ev.p_lo14, Ev.p_lo15, Ev.p_lo16, Ev.p_lo17, Ev.p_lo18, Ev.p_lo19, Ev.p_lo20, Ev.p_lo21, Ev.p_lo22, Ev.p_lo23, Ev.p_lo24, Ev.p_p18, Ev.p_p40, Ev.p_lpN, Ev.p_lpC, Ev.p_lpB, Ev.p_lpR, Ev.p_for, Ev.p_whT, Ev.p_whF, Ev.p_lc, Ev.p_callAr, Ev.p_callO1, Ev.p_callO2, Ev.p_refV, Ev.p_refR, Ev.p_ref0, Ev.p_ga, Ev.p_ga0, Ev.p_gaO, Ev.p_gaV, Ev.p_gaR, Ev.p_leF, Ev.p_leL, Ev.p_leO, Ev.p_leN, Ev.p_sc, Ev.p_sc0, Ev.p_scN, Ev.p_scFs, Ev.p_scLs, Ev.p_scOn, Ev.p_scOl, Ev.p_scNn, Ev.p_scNl, Ev.p_fiR, Ev.p_fiV, Ev.p_fi0, Ev.fin_rt, Ev.fin_nx, Ev.ou_ln, Ev.ou_fz, Ev.ou_0, Ev.at_0, Ev.at_1, Ev.at_2, Ev.at_3, Ev.p_lenS, Ev.p_lenO, Ev.p_bind, Ev.q_ok, List.getElem?_cons_zero, List.getElem?_cons_succ, List.set_cons_zero, List.set_cons_succ, List.length_cons, List.length_nil, List.cons_append, List.nil_append, Option.map_some, ↓reduceIte, Bool.not_true, Bool.not_false, decide_true, decide_false, Ev.p_div, Ev.p_mod, Ev.p_pow, Ev.p_mul, Ev.dist, List.contains_cons, List.contains_nil, Bool.or_false, Bool.false_and, Bool.and_true, Bool.true_and, Nat.reduceAdd, Nat.reduceBEq, Ev.permN, Ev.perm, List.map_cons, List.map_nil, List.getD_cons_zero, List.getD_cons_succ, and_self, cond_true, cond_false, Int.cast_ofNat_Int, Int.natCast_one, Int.natCast_zero, Int.reduceEq, Int.reduceLE, Int.reduceLT, Int.reduceNeg, Int.reduceGT, Int.reduceAdd, Int.reduceMul, Int.reduceSub, Int.reduceToNat, Int.reducePow, Int.reduceNe, reduceCtorEq, eq_self, halves_t a' u', ht, mo, en]
      exact ⟨by decide, trivial⟩
  obtain ⟨_, _, e, rfl, rfl⟩ := w
  exact e
/-! ### the law's partings -/
def ptS (row other : List Int) (n : Nat) : Nat → Int × Int
  | 0 => (0, 1)
  | k + 1 => ((ptS row other n k).1 + (ptS row other n k).2 * row.getD k 0 * other.getD (n - k) 0, ((ptS row other n k).2 * ((n : Int) - k)).fdiv ((k : Int) + 1))
theorem pt_1 (row other : List Int) (n k : Nat) : (ptS row other n (k + 1)).1 = (ptS row other n k).1 + (ptS row other n k).2 * row.getD k 0 * other.getD (n - k) 0 := rfl
theorem pt_2 (row other : List Int) (n k : Nat) : (ptS row other n (k + 1)).2 = ((ptS row other n k).2 * ((n : Int) - k)).fdiv ((k : Int) + 1) := rfl
theorem pt_lots (row other : List Int) (n : Nat) : ∀ k, (ptS row other n k).2 = (ptS [] [] n k).2
  | 0 => rfl
  | k + 1 => by rw [pt_2, pt_2, pt_lots row other n k]
theorem pt_take (row other : List Int) (L n : Nat) (hn : n < L) : ∀ k, k ≤ n + 1 → (ptS (row.take L) (other.take L) n k).1 = (ptS row other n k).1
  | 0, _ => rfl
  | k + 1, h => by
    have g : ∀ (l : List Int) (i : Nat), i < L → (l.take L).getD i 0 = l.getD i 0 := fun l i hi => by
      rw [List.getD_eq_getElem?_getD, List.getD_eq_getElem?_getD, List.getElem?_take_of_lt hi]
    rw [pt_1, pt_1, pt_take row other L n hn k (by omega), pt_lots, pt_lots row, g row k (by omega), g other (n - k) (by omega)]
def ptL (row other : List Int) (m : Nat) : List Int := (List.range m).map fun n => (ptS row other n (n + 1)).1
theorem ptL_snoc (row other : List Int) (m : Nat) : (ptL row other m).map D.int ++ [.int (ptS row other m (m + 1)).1] = (ptL row other (m + 1)).map D.int := by
  unfold ptL
  rw [List.range_succ, List.map_append, List.map_append]
  rfl
/-- four names, all without a value or all with -/
def Four (a b c d : Sl) : Prop := (a = .un ∧ b = .un ∧ c = .un ∧ d = .un) ∨ ∃ x y z w, a = .fz x ∧ b = .fz y ∧ c = .fz z ∧ d = .fz w
theorem parted_sp (row other : List Int) (hl : row.length = other.length) (h26 : row.length ≤ 26) (br : ∀ n, (row.getD n 0).natAbs < 2 ^ 1000) (bo : ∀ n, (other.getD n 0).natAbs < 2 ^ 1000)
    (bl : ∀ n k, n < 26 → k ≤ n → (ptS [] [] n k).2.natAbs < 2 ^ 1000) :
    m_law_parted [.fz (.lst (row.map .int)), .fz (.lst (other.map .int))] = .ok (.nw (.lst ((ptL row other row.length).map .int))) [.fz (.lst (row.map .int)), .fz (.lst (other.map .int))] := by
  have w : Fw (m_law_parted [.fz (.lst (row.map .int)), .fz (.lst (other.map .int))]) fun r os => r = .nw (.lst ((ptL row other row.length).map .int)) ∧ os = [.fz (.lst (row.map .int)), .fz (.lst (other.map .int))] := by
    refine fw_fin ?_
    change Wq (b_law_parted [.fz (.lst (row.map .int)), .fz (.lst (other.map .int)), .un, .un, .un, .un, .un]) _
    unfold b_law_parted
    have er : rng1 [.int ((row.map D.int).length : Nat)] = some (rangeL 0 row.length) := by
      rw [List.length_map, Ev.p_rng1 _ (inR_of (by omega) (by omega)), show ((row.length : Nat) : Int).toNat = row.length by omega]
    simp only [Ev.p_pure, Ev.p_ok, Ev.p_toD, Ev.p_kDf, Ev.p_kDn, Ev.p_toV, Ev.p_kV, Ev.p_some, Ev.p_var, Ev.p_varF, Ev.p_varL, Ev.p_varO, Ev.p_varN, Ev.p_mov, Ev.p_movF, Ev.p_movL, Ev.p_movO, Ev.p_movN, Ev.p_ev2, Ev.p_k2, Ev.p_k2', Ev.p_ev2T, Ev.p_kT, Ev.p_kT', Ev.p_vb, Ev.p_ev1, Ev.p_evC, Ev.p_evL, Ev.p_evO, Ev.p_evSeq, Ev.p_tTruth, Ev.p_kf, Ev.p_cons, Ev.p_vcons, Ev.p_acons, Ev.p_kC1, Ev.p_kC2, Ev.p_arV, Ev.p_kAr, Ev.p_arR, Ev.p_arF, Ev.p_arOw, Ev.p_arN, Ev.p_arL, Ev.p_call, Ev.p_kL1, Ev.p_kL2, Ev.p_if, Ev.p_kIt, Ev.p_kIf, Ev.p_tAnd, Ev.p_tOr, Ev.p_tNot, Ev.p_kN, Ev.p_and, Ev.p_kA, Ev.p_or, Ev.p_kO, Ev.p_not, Ev.p_kNt, Ev.p_ixS, Ev.p_ixO, Ev.p_kX, Ev.p_kXO, Ev.p_slotD, Ev.p_slF, Ev.p_slO, Ev.p_slN, Ev.p_slL, Ev.p_seq, Ev.p_kSn, Ev.p_kSr, Ev.p_kSb, Ev.p_kSc, Ev.p_slot, Ev.p_setU, Ev.p_setF, Ev.p_setO, Ev.p_ofF, Ev.p_ofN, Ev.p_kNx, Ev.p_set, Ev.p_kSet, Ev.p_ret, Ev.p_kRt, Ev.p_expr, Ev.p_kEx, Ev.p_par, Ev.p_kPar, Ev.p_kSs, Ev.p_ss0, Ev.p_ss, Ev.p_asg, Ev.p_kAsg, Ev.p_unp, Ev.p_gs, Ev.p_kG, Ev.p_gs0, Ev.p_gIx, Ev.p_gIO, Ev.p_kUp, Ev.p_upd, Ev.p_upO, Ev.p_upN, Ev.p_upDt, Ev.p_upDf, Ev.p_put, Ev.p_mut, Ev.p_mutO, Ev.p_kNon, Ev.p_kM1, Ev.p_app, Ev.p_sl, Ev.p_kSl1, Ev.p_kSl2, Ev.p_kSl3, Ev.p_add, Ev.p_addL, Ev.p_i2, Ev.p_u1, Ev.p_lt, Ev.p_le, Ev.p_gt, Ev.p_ge, Ev.p_eqI, Ev.p_neI, Ev.p_eqS, Ev.p_neS, Ev.p_isB, Ev.p_isN, Ev.p_notN, Ev.p_tup, Ev.p_lst, Ev.p_abs, Ev.p_intI, Ev.p_intB, Ev.p_len, Ev.p_dlL, Ev.p_dlT, Ev.p_itL, Ev.p_itT, Ev.p_d, Ev.p_dn, Ev.p_rng1, Ev.p_rng2, Ev.p_lo0, Ev.p_lo1, Ev.p_lo2, Ev.p_lo3, Ev.p_lo4, Ev.p_lo5, Ev.p_lo6, Ev.p_lo7, Ev.p_lo8, Ev.p_lo9, Ev.p_lo10, Ev.p_lo11, Ev.p_lo12, Ev.p_lo13, Ev.p_lo14, Ev.p_lo15, Ev.p_lo16, Ev.p_lo17, Ev.p_lo18, Ev.p_lo19, Ev.p_lo20, Ev.p_lo21, Ev.p_lo22, Ev.p_lo23, Ev.p_lo24, Ev.p_p18, Ev.p_p40, Ev.p_lpN, Ev.p_lpC, Ev.p_lpB, Ev.p_lpR, Ev.p_for, Ev.p_whT, Ev.p_whF, Ev.p_lc, Ev.p_callAr, Ev.p_callO1, Ev.p_callO2, Ev.p_refV, Ev.p_refR, Ev.p_ref0, Ev.p_ga, Ev.p_ga0, Ev.p_gaO, Ev.p_gaV, Ev.p_gaR, Ev.p_leF, Ev.p_leL, Ev.p_leO, Ev.p_leN, Ev.p_sc, Ev.p_sc0, Ev.p_scN, Ev.p_scFs, Ev.p_scLs, Ev.p_scOn, Ev.p_scOl, Ev.p_scNn, Ev.p_scNl, Ev.p_fiR, Ev.p_fiV, Ev.p_fi0, Ev.fin_rt, Ev.fin_nx, Ev.ou_ln, Ev.ou_fz, Ev.ou_0, Ev.at_0, Ev.at_1, Ev.at_2, Ev.at_3, Ev.p_lenS, Ev.p_lenO, Ev.p_bind, Ev.q_ok, List.getElem?_cons_zero, List.getElem?_cons_succ, List.set_cons_zero, List.set_cons_succ, List.length_cons, List.length_nil, List.cons_append, List.nil_append, Option.map_some, ↓reduceIte, Bool.not_true, Bool.not_false, decide_true, decide_false, Ev.p_div, Ev.p_mod, Ev.p_pow, Ev.p_mul, Ev.dist, List.contains_cons, List.contains_nil, Bool.or_false, Bool.false_and, Bool.and_true, Bool.true_and, Nat.reduceAdd, Nat.reduceBEq, Ev.permN, Ev.perm, List.map_cons, List.map_nil, List.getD_cons_zero, List.getD_cons_succ, and_self, cond_true, cond_false, Int.cast_ofNat_Int, Int.natCast_one, Int.natCast_zero, Int.reduceEq, Int.reduceLE, Int.reduceLT, Int.reduceNeg, Int.reduceGT, Int.reduceAdd, Int.reduceMul, Int.reduceSub, Int.reduceToNat, Int.reducePow, Int.reduceNe, reduceCtorEq, eq_self, er]
    rw [q_bind]
    refine for_range row.length (I := fun m ρ => ∃ a b c d, ρ = [.fz (.lst (row.map .int)), .fz (.lst (other.map .int)), .ow (.lst ((ptL row other m).map .int)), a, b, c, d] ∧ Four a b c d) (fun m ρ hm hI => ?_) (fun ρ hI => ?_) _ ⟨_, _, _, _, rfl, .inl ⟨rfl, rfl, rfl, rfl⟩⟩
    · obtain ⟨a, b, c, d, rfl, hx⟩ := hI
      have er2 : rng1 [.int ((m : Int) + 1)] = some (rangeL 0 (m + 1)) := by
        rw [Ev.p_rng1 _ (inR_of (by omega) (by omega)), show ((m : Int) + 1).toNat = m + 1 by omega]
      have la : (List.map D.int (ptL row other m)).length < 16777216 := by
        unfold ptL
        rw [List.length_map, List.length_map, List.length_range]
        omega
      have inner : ∀ d : Sl, (d = .un ∨ ∃ z, d = .fz z) → Wq (loopD (fun d => setSlot 6 (.fz d))
          (mseq (evSet 4 (ev2 opAdd (evVar 4) (toD (ev2 opMul (toD (ev2 opMul (evVar 5) (toD (evIxS 0 (evVar 6))))) (toD (evIxS 1 (toD (ev2 (i2 fun i j => some (.int (i - j))) (evVar 3) (evVar 6)))))))))
            (evSet 5 (ev2 (i2 fDiv) (toD (ev2 opMul (evVar 5) (toD (ev2 (i2 fun i j => some (.int (i - j))) (evVar 3) (evVar 6))))) (toD (ev2 opAdd (evVar 6) (mpure (.int 1)))))))
          (rangeL 0 (m + 1)) [.fz (.lst (row.map .int)), .fz (.lst (other.map .int)), .ow (.lst ((ptL row other m).map .int)), .fz (.int m), .fz (.int 0), .fz (.int 1), d])
          fun f ρ => f = .nx ∧ ∃ x z, ρ = [.fz (.lst (row.map .int)), .fz (.lst (other.map .int)), .ow (.lst ((ptL row other m).map .int)), .fz (.int m), .fz (.int (ptS row other m (m + 1)).1), .fz x, .fz z] := by
        intro d hd
        refine for_range (m + 1) (I := fun k ρ => ∃ x, ρ = [.fz (.lst (row.map .int)), .fz (.lst (other.map .int)), .ow (.lst ((ptL row other m).map .int)), .fz (.int m), .fz (.int (ptS row other m k).1), .fz (.int (ptS row other m k).2), x] ∧ (x = .un ∨ ∃ z, x = .fz z) ∧ (0 < k → ∃ z, x = .fz z)) (fun k ρ hk hI => ?_) (fun ρ hI => ?_) _ ⟨d, rfl, hd, fun z => absurd z (Nat.lt_irrefl 0)⟩
        · obtain ⟨x, rfl, hx, _⟩ := hI
          have hkm : k ≤ m := by omega
          have hm26 : m < 26 := by omega
          have e1 : atI (row.map D.int) (k : Int) = some (.int (row.getD k 0)) := at_int rfl (by omega)
          have e2 : atI (other.map D.int) ((m : Int) - k) = some (.int (other.getD (m - k) 0)) := at_int (by omega) (by omega)
          have q3 : ((m : Int) - k).natAbs < 2 ^ 64 := by omega
          have dk : divOk ((k : Int) + 1) = true := divOk_of (b := 64) (by omega) (by omega) (by decide) (by decide)
          have hbl := bl m k hm26 hkm
          rw [← pt_lots row other] at hbl
          have s2 : 1000 + 1000 + 1000 ≤ 134217728 := by decide
          have s3 : 1000 + 64 ≤ 134217728 := by decide
          obtain ⟨m1, m2⟩ := mul3 hbl (br k) (bo (m - k)) s2
          have m3 : mulOk (ptS row other m k).2 ((m : Int) - k) = true := mulOk_of hbl q3 s3
          clear hbl s2 s3 q3
          rcases hx with rfl | ⟨z, rfl⟩
          · simp only [Ev.p_pure, Ev.p_ok, Ev.p_toD, Ev.p_kDf, Ev.p_kDn, Ev.p_toV, Ev.p_kV, Ev.p_some, Ev.p_var, Ev.p_varF, Ev.p_varL, Ev.p_varO, Ev.p_varN, Ev.p_mov, Ev.p_movF, Ev.p_movL, Ev.p_movO, Ev.p_movN, Ev.p_ev2, Ev.p_k2, Ev.p_k2', Ev.p_ev2T, Ev.p_kT, Ev.p_kT', Ev.p_vb, Ev.p_ev1, Ev.p_evC, Ev.p_evL, Ev.p_evO, Ev.p_evSeq, Ev.p_tTruth, Ev.p_kf, Ev.p_cons, Ev.p_vcons, Ev.p_acons, Ev.p_kC1, Ev.p_kC2, Ev.p_arV, Ev.p_kAr, Ev.p_arR, Ev.p_arF, Ev.p_arOw, Ev.p_arN, Ev.p_arL, Ev.p_call, Ev.p_kL1, Ev.p_kL2, Ev.p_if, Ev.p_kIt, Ev.p_kIf, Ev.p_tAnd, Ev.p_tOr, Ev.p_tNot, Ev.p_kN, Ev.p_and, Ev.p_kA, Ev.p_or, Ev.p_kO, Ev.p_not, Ev.p_kNt, Ev.p_ixS, Ev.p_ixO, Ev.p_kX, Ev.p_kXO, Ev.p_slotD, Ev.p_slF, Ev.p_slO, Ev.p_slN, Ev.p_slL, Ev.p_seq, Ev.p_kSn, Ev.p_kSr, Ev.p_kSb, Ev.p_kSc, Ev.p_slot, Ev.p_setU, Ev.p_setF, Ev.p_setO, Ev.p_ofF, Ev.p_ofN, Ev.p_kNx, Ev.p_set, Ev.p_kSet, Ev.p_ret, Ev.p_kRt, Ev.p_expr, Ev.p_kEx, Ev.p_par, Ev.p_kPar, Ev.p_kSs, Ev.p_ss0, Ev.p_ss, Ev.p_asg, Ev.p_kAsg, Ev.p_unp, Ev.p_gs, Ev.p_kG, Ev.p_gs0, Ev.p_gIx, Ev.p_gIO, Ev.p_kUp, Ev.p_upd, Ev.p_upO, Ev.p_upN, Ev.p_upDt, Ev.p_upDf, Ev.p_put, Ev.p_mut, Ev.p_mutO, Ev.p_kNon, Ev.p_kM1, Ev.p_app, Ev.p_sl, Ev.p_kSl1, Ev.p_kSl2, Ev.p_kSl3, Ev.p_add, Ev.p_addL, Ev.p_i2, Ev.p_u1, Ev.p_lt, Ev.p_le, Ev.p_gt, Ev.p_ge, Ev.p_eqI, Ev.p_neI, Ev.p_eqS, Ev.p_neS, Ev.p_isB, Ev.p_isN, Ev.p_notN, Ev.p_tup, Ev.p_lst, Ev.p_abs, Ev.p_intI, Ev.p_intB, Ev.p_len, Ev.p_dlL, Ev.p_dlT, Ev.p_itL, Ev.p_itT, Ev.p_d, Ev.p_dn, Ev.p_rng1, Ev.p_rng2, Ev.p_lo0, Ev.p_lo1, Ev.p_lo2, Ev.p_lo3, Ev.p_lo4, Ev.p_lo5, Ev.p_lo6, Ev.p_lo7, Ev.p_lo8, Ev.p_lo9, Ev.p_lo10, Ev.p_lo11, Ev.p_lo12, Ev.p_lo13, Ev.p_lo14, Ev.p_lo15, Ev.p_lo16, Ev.p_lo17, Ev.p_lo18, Ev.p_lo19, Ev.p_lo20, Ev.p_lo21, Ev.p_lo22, Ev.p_lo23, Ev.p_lo24, Ev.p_p18, Ev.p_p40, Ev.p_lpN, Ev.p_lpC, Ev.p_lpB, Ev.p_lpR, Ev.p_for, Ev.p_whT, Ev.p_whF, Ev.p_lc, Ev.p_callAr, Ev.p_callO1, Ev.p_callO2, Ev.p_refV, Ev.p_refR, Ev.p_ref0, Ev.p_ga, Ev.p_ga0, Ev.p_gaO, Ev.p_gaV, Ev.p_gaR, Ev.p_leF, Ev.p_leL, Ev.p_leO, Ev.p_leN, Ev.p_sc, Ev.p_sc0, Ev.p_scN, Ev.p_scFs, Ev.p_scLs, Ev.p_scOn, Ev.p_scOl, Ev.p_scNn, Ev.p_scNl, Ev.p_fiR, Ev.p_fiV, Ev.p_fi0, Ev.fin_rt, Ev.fin_nx, Ev.ou_ln, Ev.ou_fz, Ev.ou_0, Ev.at_0, Ev.at_1, Ev.at_2, Ev.at_3, Ev.p_lenS, Ev.p_lenO, Ev.p_bind, Ev.q_ok, List.getElem?_cons_zero, List.getElem?_cons_succ, List.set_cons_zero, List.set_cons_succ, List.length_cons, List.length_nil, List.cons_append, List.nil_append, Option.map_some, ↓reduceIte, Bool.not_true, Bool.not_false, decide_true, decide_false, Ev.p_div, Ev.p_mod, Ev.p_pow, Ev.p_mul, Ev.dist, List.contains_cons, List.contains_nil, Bool.or_false, Bool.false_and, Bool.and_true, Bool.true_and, Nat.reduceAdd, Nat.reduceBEq, Ev.permN, Ev.perm, List.map_cons, List.map_nil, List.getD_cons_zero, List.getD_cons_succ, and_self, cond_true, cond_false, Int.cast_ofNat_Int, Int.natCast_one, Int.natCast_zero, Int.reduceEq, Int.reduceLE, Int.reduceLT, Int.reduceNeg, Int.reduceGT, Int.reduceAdd, Int.reduceMul, Int.reduceSub, Int.reduceToNat, Int.reducePow, Int.reduceNe, reduceCtorEq, eq_self, e1, e2, m1, m2, m3, Ev.p_div _ _ dk]
            rw [pt_1, pt_2]
            exact ⟨_, rfl, .inr ⟨_, rfl⟩, fun _ => ⟨_, rfl⟩⟩
          · simp only [Ev.p_pure, Ev.p_ok, Ev.p_toD, Ev.p_kDf, Ev.p_kDn, Ev.p_toV, Ev.p_kV, Ev.p_some, Ev.p_var, Ev.p_varF, Ev.p_varL, Ev.p_varO, Ev.p_varN, Ev.p_mov, Ev.p_movF, Ev.p_movL, Ev.p_movO, Ev.p_movN, Ev.p_ev2, Ev.p_k2, Ev.p_k2', Ev.p_ev2T, Ev.p_kT, Ev.p_kT', Ev.p_vb, Ev.p_ev1, Ev.p_evC, Ev.p_evL, Ev.p_evO, Ev.p_evSeq, Ev.p_tTruth, Ev.p_kf, Ev.p_cons, Ev.p_vcons, Ev.p_acons, Ev.p_kC1, Ev.p_kC2, Ev.p_arV, Ev.p_kAr, Ev.p_arR, Ev.p_arF, Ev.p_arOw, Ev.p_arN, Ev.p_arL, Ev.p_call, Ev.p_kL1, Ev.p_kL2, Ev.p_if, Ev.p_kIt, Ev.p_kIf, Ev.p_tAnd, Ev.p_tOr, Ev.p_tNot, Ev.p_kN, Ev.p_and, Ev.p_kA, Ev.p_or, Ev.p_kO, Ev.p_not, Ev.p_kNt, Ev.p_ixS, Ev.p_ixO, Ev.p_kX, Ev.p_kXO, Ev.p_slotD, Ev.p_slF, Ev.p_slO, Ev.p_slN, Ev.p_slL, Ev.p_seq, Ev.p_kSn, Ev.p_kSr, Ev.p_kSb, Ev.p_kSc, Ev.p_slot, Ev.p_setU, Ev.p_setF, Ev.p_setO, Ev.p_ofF, Ev.p_ofN, Ev.p_kNx, Ev.p_set, Ev.p_kSet, Ev.p_ret, Ev.p_kRt, Ev.p_expr, Ev.p_kEx, Ev.p_par, Ev.p_kPar, Ev.p_kSs, Ev.p_ss0, Ev.p_ss, Ev.p_asg, Ev.p_kAsg, Ev.p_unp, Ev.p_gs, Ev.p_kG, Ev.p_gs0, Ev.p_gIx, Ev.p_gIO, Ev.p_kUp, Ev.p_upd, Ev.p_upO, Ev.p_upN, Ev.p_upDt, Ev.p_upDf, Ev.p_put, Ev.p_mut, Ev.p_mutO, Ev.p_kNon, Ev.p_kM1, Ev.p_app, Ev.p_sl, Ev.p_kSl1, Ev.p_kSl2, Ev.p_kSl3, Ev.p_add, Ev.p_addL, Ev.p_i2, Ev.p_u1, Ev.p_lt, Ev.p_le, Ev.p_gt, Ev.p_ge, Ev.p_eqI, Ev.p_neI, Ev.p_eqS, Ev.p_neS, Ev.p_isB, Ev.p_isN, Ev.p_notN, Ev.p_tup, Ev.p_lst, Ev.p_abs, Ev.p_intI, Ev.p_intB, Ev.p_len, Ev.p_dlL, Ev.p_dlT, Ev.p_itL, Ev.p_itT, Ev.p_d, Ev.p_dn, Ev.p_rng1, Ev.p_rng2, Ev.p_lo0, Ev.p_lo1, Ev.p_lo2, Ev.p_lo3, Ev.p_lo4, Ev.p_lo5, Ev.p_lo6, Ev.p_lo7, Ev.p_lo8, Ev.p_lo9, Ev.p_lo10, Ev.p_lo11, Ev.p_lo12, Ev.p_lo13, Ev.p_lo14, Ev.p_lo15, Ev.p_lo16, Ev.p_lo17, Ev.p_lo18, Ev.p_lo19, Ev.p_lo20, Ev.p_lo21, Ev.p_lo22, Ev.p_lo23, Ev.p_lo24, Ev.p_p18, Ev.p_p40, Ev.p_lpN, Ev.p_lpC, Ev.p_lpB, Ev.p_lpR, Ev.p_for, Ev.p_whT, Ev.p_whF, Ev.p_lc, Ev.p_callAr, Ev.p_callO1, Ev.p_callO2, Ev.p_refV, Ev.p_refR, Ev.p_ref0, Ev.p_ga, Ev.p_ga0, Ev.p_gaO, Ev.p_gaV, Ev.p_gaR, Ev.p_leF, Ev.p_leL, Ev.p_leO, Ev.p_leN, Ev.p_sc, Ev.p_sc0, Ev.p_scN, Ev.p_scFs, Ev.p_scLs, Ev.p_scOn, Ev.p_scOl, Ev.p_scNn, Ev.p_scNl, Ev.p_fiR, Ev.p_fiV, Ev.p_fi0, Ev.fin_rt, Ev.fin_nx, Ev.ou_ln, Ev.ou_fz, Ev.ou_0, Ev.at_0, Ev.at_1, Ev.at_2, Ev.at_3, Ev.p_lenS, Ev.p_lenO, Ev.p_bind, Ev.q_ok, List.getElem?_cons_zero, List.getElem?_cons_succ, List.set_cons_zero, List.set_cons_succ, List.length_cons, List.length_nil, List.cons_append, List.nil_append, Option.map_some, ↓reduceIte, Bool.not_true, Bool.not_false, decide_true, decide_false, Ev.p_div, Ev.p_mod, Ev.p_pow, Ev.p_mul, Ev.dist, List.contains_cons, List.contains_nil, Bool.or_false, Bool.false_and, Bool.and_true, Bool.true_and, Nat.reduceAdd, Nat.reduceBEq, Ev.permN, Ev.perm, List.map_cons, List.map_nil, List.getD_cons_zero, List.getD_cons_succ, and_self, cond_true, cond_false, Int.cast_ofNat_Int, Int.natCast_one, Int.natCast_zero, Int.reduceEq, Int.reduceLE, Int.reduceLT, Int.reduceNeg, Int.reduceGT, Int.reduceAdd, Int.reduceMul, Int.reduceSub, Int.reduceToNat, Int.reducePow, Int.reduceNe, reduceCtorEq, eq_self, e1, e2, m1, m2, m3, Ev.p_div _ _ dk]
            rw [pt_1, pt_2]
            exact ⟨_, rfl, .inr ⟨_, rfl⟩, fun _ => ⟨_, rfl⟩⟩
        · obtain ⟨x, rfl, _, h2⟩ := hI
          obtain ⟨z, rfl⟩ := h2 (by omega)
          exact ⟨rfl, _, _, rfl⟩
      have fin4 : ∀ d : Sl, (d = .un ∨ ∃ z, d = .fz z) → Wq ((loopD (fun d => setSlot 6 (.fz d))
          (mseq (evSet 4 (ev2 opAdd (evVar 4) (toD (ev2 opMul (toD (ev2 opMul (evVar 5) (toD (evIxS 0 (evVar 6))))) (toD (evIxS 1 (toD (ev2 (i2 fun i j => some (.int (i - j))) (evVar 3) (evVar 6)))))))))
            (evSet 5 (ev2 (i2 fDiv) (toD (ev2 opMul (evVar 5) (toD (ev2 (i2 fun i j => some (.int (i - j))) (evVar 3) (evVar 6))))) (toD (ev2 opAdd (evVar 6) (mpure (.int 1)))))))
          (rangeL 0 (m + 1)) [.fz (.lst (row.map .int)), .fz (.lst (other.map .int)), .ow (.lst ((ptL row other m).map .int)), .fz (.int m), .fz (.int 0), .fz (.int 1), d]).bind (kS (evExpr (evMut 2 fApp (evCons (evVar 4) (mpure []))))))
          fun f ρ => f = .nx ∧ ∃ x y z w, ρ = [.fz (.lst (row.map .int)), .fz (.lst (other.map .int)), .ow (.lst ((ptL row other (m + 1)).map .int)), .fz x, .fz y, .fz z, .fz w] := by
        intro d hd
        rw [q_bind]
        refine (inner d hd).mono fun f ρ q => ?_
        obtain ⟨rfl, x, z, rfl⟩ := q
        simp only [Ev.p_pure, Ev.p_ok, Ev.p_toD, Ev.p_kDf, Ev.p_kDn, Ev.p_toV, Ev.p_kV, Ev.p_some, Ev.p_var, Ev.p_varF, Ev.p_varL, Ev.p_varO, Ev.p_varN, Ev.p_mov, Ev.p_movF, Ev.p_movL, Ev.p_movO, Ev.p_movN, Ev.p_ev2, Ev.p_k2, Ev.p_k2', Ev.p_ev2T, Ev.p_kT, Ev.p_kT', Ev.p_vb, Ev.p_ev1, Ev.p_evC, Ev.p_evL, Ev.p_evO, Ev.p_evSeq, Ev.p_tTruth, Ev.p_kf, Ev.p_cons, Ev.p_vcons, Ev.p_acons, Ev.p_kC1, Ev.p_kC2, Ev.p_arV, Ev.p_kAr, Ev.p_arR, Ev.p_arF, Ev.p_arOw, Ev.p_arN, Ev.p_arL, Ev.p_call, Ev.p_kL1, Ev.p_kL2, Ev.p_if, Ev.p_kIt, Ev.p_kIf, Ev.p_tAnd, Ev.p_tOr, Ev.p_tNot, Ev.p_kN, Ev.p_and, Ev.p_kA, Ev.p_or, Ev.p_kO, Ev.p_not, Ev.p_kNt, Ev.p_ixS, Ev.p_ixO, Ev.p_kX, Ev.p_kXO, Ev.p_slotD, Ev.p_slF, Ev.p_slO, Ev.p_slN, Ev.p_slL, Ev.p_seq, Ev.p_kSn, Ev.p_kSr, Ev.p_kSb, Ev.p_kSc, Ev.p_slot, Ev.p_setU, Ev.p_setF, Ev.p_setO, Ev.p_ofF, Ev.p_ofN, Ev.p_kNx, Ev.p_set, Ev.p_kSet, Ev.p_ret, Ev.p_kRt, Ev.p_expr, Ev.p_kEx, Ev.p_par, Ev.p_kPar, Ev.p_kSs, Ev.p_ss0, Ev.p_ss, Ev.p_asg, Ev.p_kAsg, Ev.p_unp, Ev.p_gs, Ev.p_kG, Ev.p_gs0, Ev.p_gIx, Ev.p_gIO, Ev.p_kUp, Ev.p_upd, Ev.p_upO, Ev.p_upN, Ev.p_upDt, Ev.p_upDf, Ev.p_put, Ev.p_mut, Ev.p_mutO, Ev.p_kNon, Ev.p_kM1, Ev.p_app, Ev.p_sl, Ev.p_kSl1, Ev.p_kSl2, Ev.p_kSl3, Ev.p_add, Ev.p_addL, Ev.p_i2, Ev.p_u1, Ev.p_lt, Ev.p_le, Ev.p_gt, Ev.p_ge, Ev.p_eqI, Ev.p_neI, Ev.p_eqS, Ev.p_neS, Ev.p_isB, Ev.p_isN, Ev.p_notN, Ev.p_tup, Ev.p_lst, Ev.p_abs, Ev.p_intI, Ev.p_intB, Ev.p_len, Ev.p_dlL, Ev.p_dlT, Ev.p_itL, Ev.p_itT, Ev.p_d, Ev.p_dn, Ev.p_rng1, Ev.p_rng2, Ev.p_lo0, Ev.p_lo1, Ev.p_lo2, Ev.p_lo3, Ev.p_lo4, Ev.p_lo5, Ev.p_lo6, Ev.p_lo7, Ev.p_lo8, Ev.p_lo9, Ev.p_lo10, Ev.p_lo11, Ev.p_lo12, Ev.p_lo13, Ev.p_lo14, Ev.p_lo15, Ev.p_lo16, Ev.p_lo17, Ev.p_lo18, Ev.p_lo19, Ev.p_lo20, Ev.p_lo21, Ev.p_lo22, Ev.p_lo23, Ev.p_lo24, Ev.p_p18, Ev.p_p40, Ev.p_lpN, Ev.p_lpC, Ev.p_lpB, Ev.p_lpR, Ev.p_for, Ev.p_whT, Ev.p_whF, Ev.p_lc, Ev.p_callAr, Ev.p_callO1, Ev.p_callO2, Ev.p_refV, Ev.p_refR, Ev.p_ref0, Ev.p_ga, Ev.p_ga0, Ev.p_gaO, Ev.p_gaV, Ev.p_gaR, Ev.p_leF, Ev.p_leL, Ev.p_leO, Ev.p_leN, Ev.p_sc, Ev.p_sc0, Ev.p_scN, Ev.p_scFs, Ev.p_scLs, Ev.p_scOn, Ev.p_scOl, Ev.p_scNn, Ev.p_scNl, Ev.p_fiR, Ev.p_fiV, Ev.p_fi0, Ev.fin_rt, Ev.fin_nx, Ev.ou_ln, Ev.ou_fz, Ev.ou_0, Ev.at_0, Ev.at_1, Ev.at_2, Ev.at_3, Ev.p_lenS, Ev.p_lenO, Ev.p_bind, Ev.q_ok, List.getElem?_cons_zero, List.getElem?_cons_succ, List.set_cons_zero, List.set_cons_succ, List.length_cons, List.length_nil, List.cons_append, List.nil_append, Option.map_some, ↓reduceIte, Bool.not_true, Bool.not_false, decide_true, decide_false, Ev.p_div, Ev.p_mod, Ev.p_pow, Ev.p_mul, Ev.dist, List.contains_cons, List.contains_nil, Bool.or_false, Bool.false_and, Bool.and_true, Bool.true_and, Nat.reduceAdd, Nat.reduceBEq, Ev.permN, Ev.perm, List.map_cons, List.map_nil, List.getD_cons_zero, List.getD_cons_succ, and_self, cond_true, cond_false, Int.cast_ofNat_Int, Int.natCast_one, Int.natCast_zero, Int.reduceEq, Int.reduceLE, Int.reduceLT, Int.reduceNeg, Int.reduceGT, Int.reduceAdd, Int.reduceMul, Int.reduceSub, Int.reduceToNat, Int.reducePow, Int.reduceNe, reduceCtorEq, eq_self, la, ptL_snoc]
        exact ⟨trivial, _, _, _, _, rfl⟩
      rcases hx with ⟨rfl, rfl, rfl, rfl⟩ | ⟨x, y, z, w, rfl, rfl, rfl, rfl⟩
      · simp only [Ev.p_pure, Ev.p_ok, Ev.p_toD, Ev.p_kDf, Ev.p_kDn, Ev.p_toV, Ev.p_kV, Ev.p_some, Ev.p_var, Ev.p_varF, Ev.p_varL, Ev.p_varO, Ev.p_varN, Ev.p_mov, Ev.p_movF, Ev.p_movL, Ev.p_movO, Ev.p_movN, Ev.p_ev2, Ev.p_k2, Ev.p_k2', Ev.p_ev2T, Ev.p_kT, Ev.p_kT', Ev.p_vb, Ev.p_ev1, Ev.p_evC, Ev.p_evL, Ev.p_evO, Ev.p_evSeq, Ev.p_tTruth, Ev.p_kf, Ev.p_cons, Ev.p_vcons, Ev.p_acons, Ev.p_kC1, Ev.p_kC2, Ev.p_arV, Ev.p_kAr, Ev.p_arR, Ev.p_arF, Ev.p_arOw, Ev.p_arN, Ev.p_arL, Ev.p_call, Ev.p_kL1, Ev.p_kL2, Ev.p_if, Ev.p_kIt, Ev.p_kIf, Ev.p_tAnd, Ev.p_tOr, Ev.p_tNot, Ev.p_kN, Ev.p_and, Ev.p_kA, Ev.p_or, Ev.p_kO, Ev.p_not, Ev.p_kNt, Ev.p_ixS, Ev.p_ixO, Ev.p_kX, Ev.p_kXO, Ev.p_slotD, Ev.p_slF, Ev.p_slO, Ev.p_slN, Ev.p_slL, Ev.p_seq, Ev.p_kSn, Ev.p_kSr, Ev.p_kSb, Ev.p_kSc, Ev.p_slot, Ev.p_setU, Ev.p_setF, Ev.p_setO, Ev.p_ofF, Ev.p_ofN, Ev.p_kNx, Ev.p_set, Ev.p_kSet, Ev.p_ret, Ev.p_kRt, Ev.p_expr, Ev.p_kEx, Ev.p_par, Ev.p_kPar, Ev.p_kSs, Ev.p_ss0, Ev.p_ss, Ev.p_asg, Ev.p_kAsg, Ev.p_unp, Ev.p_gs, Ev.p_kG, Ev.p_gs0, Ev.p_gIx, Ev.p_gIO, Ev.p_kUp, Ev.p_upd, Ev.p_upO, Ev.p_upN, Ev.p_upDt, Ev.p_upDf, Ev.p_put, Ev.p_mut, Ev.p_mutO, Ev.p_kNon, Ev.p_kM1, Ev.p_app, Ev.p_sl, Ev.p_kSl1, Ev.p_kSl2, Ev.p_kSl3, Ev.p_add, Ev.p_addL, Ev.p_i2, Ev.p_u1, Ev.p_lt, Ev.p_le, Ev.p_gt, Ev.p_ge, Ev.p_eqI, Ev.p_neI, Ev.p_eqS, Ev.p_neS, Ev.p_isB, Ev.p_isN, Ev.p_notN, Ev.p_tup, Ev.p_lst, Ev.p_abs, Ev.p_intI, Ev.p_intB, Ev.p_len, Ev.p_dlL, Ev.p_dlT, Ev.p_itL, Ev.p_itT, Ev.p_d, Ev.p_dn, Ev.p_rng1, Ev.p_rng2, Ev.p_lo0, Ev.p_lo1, Ev.p_lo2, Ev.p_lo3, Ev.p_lo4, Ev.p_lo5, Ev.p_lo6, Ev.p_lo7, Ev.p_lo8, Ev.p_lo9, Ev.p_lo10, Ev.p_lo11, Ev.p_lo12, Ev.p_lo13, Ev.p_lo14, Ev.p_lo15, Ev.p_lo16, Ev.p_lo17, Ev.p_lo18, Ev.p_lo19, Ev.p_lo20, Ev.p_lo21, Ev.p_lo22, Ev.p_lo23, Ev.p_lo24, Ev.p_p18, Ev.p_p40, Ev.p_lpN, Ev.p_lpC, Ev.p_lpB, Ev.p_lpR, Ev.p_for, Ev.p_whT, Ev.p_whF, Ev.p_lc, Ev.p_callAr, Ev.p_callO1, Ev.p_callO2, Ev.p_refV, Ev.p_refR, Ev.p_ref0, Ev.p_ga, Ev.p_ga0, Ev.p_gaO, Ev.p_gaV, Ev.p_gaR, Ev.p_leF, Ev.p_leL, Ev.p_leO, Ev.p_leN, Ev.p_sc, Ev.p_sc0, Ev.p_scN, Ev.p_scFs, Ev.p_scLs, Ev.p_scOn, Ev.p_scOl, Ev.p_scNn, Ev.p_scNl, Ev.p_fiR, Ev.p_fiV, Ev.p_fi0, Ev.fin_rt, Ev.fin_nx, Ev.ou_ln, Ev.ou_fz, Ev.ou_0, Ev.at_0, Ev.at_1, Ev.at_2, Ev.at_3, Ev.p_lenS, Ev.p_lenO, Ev.p_bind, Ev.q_ok, List.getElem?_cons_zero, List.getElem?_cons_succ, List.set_cons_zero, List.set_cons_succ, List.length_cons, List.length_nil, List.cons_append, List.nil_append, Option.map_some, ↓reduceIte, Bool.not_true, Bool.not_false, decide_true, decide_false, Ev.p_div, Ev.p_mod, Ev.p_pow, Ev.p_mul, Ev.dist, List.contains_cons, List.contains_nil, Bool.or_false, Bool.false_and, Bool.and_true, Bool.true_and, Nat.reduceAdd, Nat.reduceBEq, Ev.permN, Ev.perm, List.map_cons, List.map_nil, List.getD_cons_zero, List.getD_cons_succ, and_self, cond_true, cond_false, Int.cast_ofNat_Int, Int.natCast_one, Int.natCast_zero, Int.reduceEq, Int.reduceLE, Int.reduceLT, Int.reduceNeg, Int.reduceGT, Int.reduceAdd, Int.reduceMul, Int.reduceSub, Int.reduceToNat, Int.reducePow, Int.reduceNe, reduceCtorEq, eq_self, er2]
        refine (fin4 .un (.inl rfl)).mono fun f ρ q => ?_
        obtain ⟨rfl, x, y, z, w, rfl⟩ := q
        simp only [Ev.p_pure, Ev.p_ok, Ev.p_toD, Ev.p_kDf, Ev.p_kDn, Ev.p_toV, Ev.p_kV, Ev.p_some, Ev.p_var, Ev.p_varF, Ev.p_varL, Ev.p_varO, Ev.p_varN, Ev.p_mov, Ev.p_movF, Ev.p_movL, Ev.p_movO, Ev.p_movN, Ev.p_ev2, Ev.p_k2, Ev.p_k2', Ev.p_ev2T, Ev.p_kT, Ev.p_kT', Ev.p_vb, Ev.p_ev1, Ev.p_evC, Ev.p_evL, Ev.p_evO, Ev.p_evSeq, Ev.p_tTruth, Ev.p_kf, Ev.p_cons, Ev.p_vcons, Ev.p_acons, Ev.p_kC1, Ev.p_kC2, Ev.p_arV, Ev.p_kAr, Ev.p_arR, Ev.p_arF, Ev.p_arOw, Ev.p_arN, Ev.p_arL, Ev.p_call, Ev.p_kL1, Ev.p_kL2, Ev.p_if, Ev.p_kIt, Ev.p_kIf, Ev.p_tAnd, Ev.p_tOr, Ev.p_tNot, Ev.p_kN, Ev.p_and, Ev.p_kA, Ev.p_or, Ev.p_kO, Ev.p_not, Ev.p_kNt, Ev.p_ixS, Ev.p_ixO, Ev.p_kX, Ev.p_kXO, Ev.p_slotD, Ev.p_slF, Ev.p_slO, Ev.p_slN, Ev.p_slL, Ev.p_seq, Ev.p_kSn, Ev.p_kSr, Ev.p_kSb, Ev.p_kSc, Ev.p_slot, Ev.p_setU, Ev.p_setF, Ev.p_setO, Ev.p_ofF, Ev.p_ofN, Ev.p_kNx, Ev.p_set, Ev.p_kSet, Ev.p_ret, Ev.p_kRt, Ev.p_expr, Ev.p_kEx, Ev.p_par, Ev.p_kPar, Ev.p_kSs, Ev.p_ss0, Ev.p_ss, Ev.p_asg, Ev.p_kAsg, Ev.p_unp, Ev.p_gs, Ev.p_kG, Ev.p_gs0, Ev.p_gIx, Ev.p_gIO, Ev.p_kUp, Ev.p_upd, Ev.p_upO, Ev.p_upN, Ev.p_upDt, Ev.p_upDf, Ev.p_put, Ev.p_mut, Ev.p_mutO, Ev.p_kNon, Ev.p_kM1, Ev.p_app, Ev.p_sl, Ev.p_kSl1, Ev.p_kSl2, Ev.p_kSl3, Ev.p_add, Ev.p_addL, Ev.p_i2, Ev.p_u1, Ev.p_lt, Ev.p_le, Ev.p_gt, Ev.p_ge, Ev.p_eqI, Ev.p_neI, Ev.p_eqS, Ev.p_neS, Ev.p_isB, Ev.p_isN, Ev.p_notN, Ev.p_tup, Ev.p_lst, Ev.p_abs, Ev.p_intI, Ev.p_intB, Ev.p_len, Ev.p_dlL, Ev.p_dlT, Ev.p_itL, Ev.p_itT, Ev.p_d, Ev.p_dn, Ev.p_rng1, Ev.p_rng2, Ev.p_lo0, Ev.p_lo1, Ev.p_lo2, Ev.p_lo3, Ev.p_lo4, Ev.p_lo5, Ev.p_lo6, Ev.p_lo7, Ev.p_lo8, Ev.p_lo9, Ev.p_lo10, Ev.p_lo11, Ev.p_lo12, Ev.p_lo13, Ev.p_lo14, Ev.p_lo15, Ev.p_lo16, Ev.p_lo17, Ev.p_lo18, Ev.p_lo19, Ev.p_lo20, Ev.p_lo21, Ev.p_lo22, Ev.p_lo23, Ev.p_lo24, Ev.p_p18, Ev.p_p40, Ev.p_lpN, Ev.p_lpC, Ev.p_lpB, Ev.p_lpR, Ev.p_for, Ev.p_whT, Ev.p_whF, Ev.p_lc, Ev.p_callAr, Ev.p_callO1, Ev.p_callO2, Ev.p_refV, Ev.p_refR, Ev.p_ref0, Ev.p_ga, Ev.p_ga0, Ev.p_gaO, Ev.p_gaV, Ev.p_gaR, Ev.p_leF, Ev.p_leL, Ev.p_leO, Ev.p_leN, Ev.p_sc, Ev.p_sc0, Ev.p_scN, Ev.p_scFs, Ev.p_scLs, Ev.p_scOn, Ev.p_scOl, Ev.p_scNn, Ev.p_scNl, Ev.p_fiR, Ev.p_fiV, Ev.p_fi0, Ev.fin_rt, Ev.fin_nx, Ev.ou_ln, Ev.ou_fz, Ev.ou_0, Ev.at_0, Ev.at_1, Ev.at_2, Ev.at_3, Ev.p_lenS, Ev.p_lenO, Ev.p_bind, Ev.q_ok, List.getElem?_cons_zero, List.getElem?_cons_succ, List.set_cons_zero, List.set_cons_succ, List.length_cons, List.length_nil, List.cons_append, List.nil_append, Option.map_some, ↓reduceIte, Bool.not_true, Bool.not_false, decide_true, decide_false, Ev.p_div, Ev.p_mod, Ev.p_pow, Ev.p_mul, Ev.dist, List.contains_cons, List.contains_nil, Bool.or_false, Bool.false_and, Bool.and_true, Bool.true_and, Nat.reduceAdd, Nat.reduceBEq, Ev.permN, Ev.perm, List.map_cons, List.map_nil, List.getD_cons_zero, List.getD_cons_succ, and_self, cond_true, cond_false, Int.cast_ofNat_Int, Int.natCast_one, Int.natCast_zero, Int.reduceEq, Int.reduceLE, Int.reduceLT, Int.reduceNeg, Int.reduceGT, Int.reduceAdd, Int.reduceMul, Int.reduceSub, Int.reduceToNat, Int.reducePow, Int.reduceNe, reduceCtorEq, eq_self]
        exact ⟨_, _, _, _, rfl, .inr ⟨_, _, _, _, rfl, rfl, rfl, rfl⟩⟩
      · simp only [Ev.p_pure, Ev.p_ok, Ev.p_toD, Ev.p_kDf, Ev.p_kDn, Ev.p_toV, Ev.p_kV, Ev.p_some, Ev.p_var, Ev.p_varF, Ev.p_varL, Ev.p_varO, Ev.p_varN, Ev.p_mov, Ev.p_movF, Ev.p_movL, Ev.p_movO, Ev.p_movN, Ev.p_ev2, Ev.p_k2, Ev.p_k2', Ev.p_ev2T, Ev.p_kT, Ev.p_kT', Ev.p_vb, Ev.p_ev1, Ev.p_evC, Ev.p_evL, Ev.p_evO, Ev.p_evSeq, Ev.p_tTruth, Ev.p_kf, Ev.p_cons, Ev.p_vcons, Ev.p_acons, Ev.p_kC1, Ev.p_kC2, Ev.p_arV, Ev.p_kAr, Ev.p_arR, Ev.p_arF, Ev.p_arOw, Ev.p_arN, Ev.p_arL, Ev.p_call, Ev.p_kL1, Ev.p_kL2, Ev.p_if, Ev.p_kIt, Ev.p_kIf, Ev.p_tAnd, Ev.p_tOr, Ev.p_tNot, Ev.p_kN, Ev.p_and, Ev.p_kA, Ev.p_or, Ev.p_kO, Ev.p_not, Ev.p_kNt, Ev.p_ixS, Ev.p_ixO, Ev.p_kX, Ev.p_kXO, Ev.p_slotD, Ev.p_slF, Ev.p_slO, Ev.p_slN, Ev.p_slL, Ev.p_seq, Ev.p_kSn, Ev.p_kSr, Ev.p_kSb, Ev.p_kSc, Ev.p_slot, Ev.p_setU, Ev.p_setF, Ev.p_setO, Ev.p_ofF, Ev.p_ofN, Ev.p_kNx, Ev.p_set, Ev.p_kSet, Ev.p_ret, Ev.p_kRt, Ev.p_expr, Ev.p_kEx, Ev.p_par, Ev.p_kPar, Ev.p_kSs, Ev.p_ss0, Ev.p_ss, Ev.p_asg, Ev.p_kAsg, Ev.p_unp, Ev.p_gs, Ev.p_kG, Ev.p_gs0, Ev.p_gIx, Ev.p_gIO, Ev.p_kUp, Ev.p_upd, Ev.p_upO, Ev.p_upN, Ev.p_upDt, Ev.p_upDf, Ev.p_put, Ev.p_mut, Ev.p_mutO, Ev.p_kNon, Ev.p_kM1, Ev.p_app, Ev.p_sl, Ev.p_kSl1, Ev.p_kSl2, Ev.p_kSl3, Ev.p_add, Ev.p_addL, Ev.p_i2, Ev.p_u1, Ev.p_lt, Ev.p_le, Ev.p_gt, Ev.p_ge, Ev.p_eqI, Ev.p_neI, Ev.p_eqS, Ev.p_neS, Ev.p_isB, Ev.p_isN, Ev.p_notN, Ev.p_tup, Ev.p_lst, Ev.p_abs, Ev.p_intI, Ev.p_intB, Ev.p_len, Ev.p_dlL, Ev.p_dlT, Ev.p_itL, Ev.p_itT, Ev.p_d, Ev.p_dn, Ev.p_rng1, Ev.p_rng2, Ev.p_lo0, Ev.p_lo1, Ev.p_lo2, Ev.p_lo3, Ev.p_lo4, Ev.p_lo5, Ev.p_lo6, Ev.p_lo7, Ev.p_lo8, Ev.p_lo9, Ev.p_lo10, Ev.p_lo11, Ev.p_lo12, Ev.p_lo13, Ev.p_lo14, Ev.p_lo15, Ev.p_lo16, Ev.p_lo17, Ev.p_lo18, Ev.p_lo19, Ev.p_lo20, Ev.p_lo21, Ev.p_lo22, Ev.p_lo23, Ev.p_lo24, Ev.p_p18, Ev.p_p40, Ev.p_lpN, Ev.p_lpC, Ev.p_lpB, Ev.p_lpR, Ev.p_for, Ev.p_whT, Ev.p_whF, Ev.p_lc, Ev.p_callAr, Ev.p_callO1, Ev.p_callO2, Ev.p_refV, Ev.p_refR, Ev.p_ref0, Ev.p_ga, Ev.p_ga0, Ev.p_gaO, Ev.p_gaV, Ev.p_gaR, Ev.p_leF, Ev.p_leL, Ev.p_leO, Ev.p_leN, Ev.p_sc, Ev.p_sc0, Ev.p_scN, Ev.p_scFs, Ev.p_scLs, Ev.p_scOn, Ev.p_scOl, Ev.p_scNn, Ev.p_scNl, Ev.p_fiR, Ev.p_fiV, Ev.p_fi0, Ev.fin_rt, Ev.fin_nx, Ev.ou_ln, Ev.ou_fz, Ev.ou_0, Ev.at_0, Ev.at_1, Ev.at_2, Ev.at_3, Ev.p_lenS, Ev.p_lenO, Ev.p_bind, Ev.q_ok, List.getElem?_cons_zero, List.getElem?_cons_succ, List.set_cons_zero, List.set_cons_succ, List.length_cons, List.length_nil, List.cons_append, List.nil_append, Option.map_some, ↓reduceIte, Bool.not_true, Bool.not_false, decide_true, decide_false, Ev.p_div, Ev.p_mod, Ev.p_pow, Ev.p_mul, Ev.dist, List.contains_cons, List.contains_nil, Bool.or_false, Bool.false_and, Bool.and_true, Bool.true_and, Nat.reduceAdd, Nat.reduceBEq, Ev.permN, Ev.perm, List.map_cons, List.map_nil, List.getD_cons_zero, List.getD_cons_succ, and_self, cond_true, cond_false, Int.cast_ofNat_Int, Int.natCast_one, Int.natCast_zero, Int.reduceEq, Int.reduceLE, Int.reduceLT, Int.reduceNeg, Int.reduceGT, Int.reduceAdd, Int.reduceMul, Int.reduceSub, Int.reduceToNat, Int.reducePow, Int.reduceNe, reduceCtorEq, eq_self, er2]
        refine (fin4 (.fz w) (.inr ⟨w, rfl⟩)).mono fun f ρ q => ?_
        obtain ⟨rfl, x, y, z, w, rfl⟩ := q
        simp only [Ev.p_pure, Ev.p_ok, Ev.p_toD, Ev.p_kDf, Ev.p_kDn, Ev.p_toV, Ev.p_kV, Ev.p_some, Ev.p_var, Ev.p_varF, Ev.p_varL, Ev.p_varO, Ev.p_varN, Ev.p_mov, Ev.p_movF, Ev.p_movL, Ev.p_movO, Ev.p_movN, Ev.p_ev2, Ev.p_k2, Ev.p_k2', Ev.p_ev2T, Ev.p_kT, Ev.p_kT', Ev.p_vb, Ev.p_ev1, Ev.p_evC, Ev.p_evL, Ev.p_evO, Ev.p_evSeq, Ev.p_tTruth, Ev.p_kf, Ev.p_cons, Ev.p_vcons, Ev.p_acons, Ev.p_kC1, Ev.p_kC2, Ev.p_arV, Ev.p_kAr, Ev.p_arR, Ev.p_arF, Ev.p_arOw, Ev.p_arN, Ev.p_arL, Ev.p_call, Ev.p_kL1, Ev.p_kL2, Ev.p_if, Ev.p_kIt, Ev.p_kIf, Ev.p_tAnd, Ev.p_tOr, Ev.p_tNot, Ev.p_kN, Ev.p_and, Ev.p_kA, Ev.p_or, Ev.p_kO, Ev.p_not, Ev.p_kNt, Ev.p_ixS, Ev.p_ixO, Ev.p_kX, Ev.p_kXO, Ev.p_slotD, Ev.p_slF, Ev.p_slO, Ev.p_slN, Ev.p_slL, Ev.p_seq, Ev.p_kSn, Ev.p_kSr, Ev.p_kSb, Ev.p_kSc, Ev.p_slot, Ev.p_setU, Ev.p_setF, Ev.p_setO, Ev.p_ofF, Ev.p_ofN, Ev.p_kNx, Ev.p_set, Ev.p_kSet, Ev.p_ret, Ev.p_kRt, Ev.p_expr, Ev.p_kEx, Ev.p_par, Ev.p_kPar, Ev.p_kSs, Ev.p_ss0, Ev.p_ss, Ev.p_asg, Ev.p_kAsg, Ev.p_unp, Ev.p_gs, Ev.p_kG, Ev.p_gs0, Ev.p_gIx, Ev.p_gIO, Ev.p_kUp, Ev.p_upd, Ev.p_upO, Ev.p_upN, Ev.p_upDt, Ev.p_upDf, Ev.p_put, Ev.p_mut, Ev.p_mutO, Ev.p_kNon, Ev.p_kM1, Ev.p_app, Ev.p_sl, Ev.p_kSl1, Ev.p_kSl2, Ev.p_kSl3, Ev.p_add, Ev.p_addL, Ev.p_i2, Ev.p_u1, Ev.p_lt, Ev.p_le, Ev.p_gt, Ev.p_ge, Ev.p_eqI, Ev.p_neI, Ev.p_eqS, Ev.p_neS, Ev.p_isB, Ev.p_isN, Ev.p_notN, Ev.p_tup, Ev.p_lst, Ev.p_abs, Ev.p_intI, Ev.p_intB, Ev.p_len, Ev.p_dlL, Ev.p_dlT, Ev.p_itL, Ev.p_itT, Ev.p_d, Ev.p_dn, Ev.p_rng1, Ev.p_rng2, Ev.p_lo0, Ev.p_lo1, Ev.p_lo2, Ev.p_lo3, Ev.p_lo4, Ev.p_lo5, Ev.p_lo6, Ev.p_lo7, Ev.p_lo8, Ev.p_lo9, Ev.p_lo10, Ev.p_lo11, Ev.p_lo12, Ev.p_lo13, Ev.p_lo14, Ev.p_lo15, Ev.p_lo16, Ev.p_lo17, Ev.p_lo18, Ev.p_lo19, Ev.p_lo20, Ev.p_lo21, Ev.p_lo22, Ev.p_lo23, Ev.p_lo24, Ev.p_p18, Ev.p_p40, Ev.p_lpN, Ev.p_lpC, Ev.p_lpB, Ev.p_lpR, Ev.p_for, Ev.p_whT, Ev.p_whF, Ev.p_lc, Ev.p_callAr, Ev.p_callO1, Ev.p_callO2, Ev.p_refV, Ev.p_refR, Ev.p_ref0, Ev.p_ga, Ev.p_ga0, Ev.p_gaO, Ev.p_gaV, Ev.p_gaR, Ev.p_leF, Ev.p_leL, Ev.p_leO, Ev.p_leN, Ev.p_sc, Ev.p_sc0, Ev.p_scN, Ev.p_scFs, Ev.p_scLs, Ev.p_scOn, Ev.p_scOl, Ev.p_scNn, Ev.p_scNl, Ev.p_fiR, Ev.p_fiV, Ev.p_fi0, Ev.fin_rt, Ev.fin_nx, Ev.ou_ln, Ev.ou_fz, Ev.ou_0, Ev.at_0, Ev.at_1, Ev.at_2, Ev.at_3, Ev.p_lenS, Ev.p_lenO, Ev.p_bind, Ev.q_ok, List.getElem?_cons_zero, List.getElem?_cons_succ, List.set_cons_zero, List.set_cons_succ, List.length_cons, List.length_nil, List.cons_append, List.nil_append, Option.map_some, ↓reduceIte, Bool.not_true, Bool.not_false, decide_true, decide_false, Ev.p_div, Ev.p_mod, Ev.p_pow, Ev.p_mul, Ev.dist, List.contains_cons, List.contains_nil, Bool.or_false, Bool.false_and, Bool.and_true, Bool.true_and, Nat.reduceAdd, Nat.reduceBEq, Ev.permN, Ev.perm, List.map_cons, List.map_nil, List.getD_cons_zero, List.getD_cons_succ, and_self, cond_true, cond_false, Int.cast_ofNat_Int, Int.natCast_one, Int.natCast_zero, Int.reduceEq, Int.reduceLE, Int.reduceLT, Int.reduceNeg, Int.reduceGT, Int.reduceAdd, Int.reduceMul, Int.reduceSub, Int.reduceToNat, Int.reducePow, Int.reduceNe, reduceCtorEq, eq_self]
        exact ⟨_, _, _, _, rfl, .inr ⟨_, _, _, _, rfl, rfl, rfl, rfl⟩⟩
    · obtain ⟨a, b, c, d, rfl, hx⟩ := hI
      simp only [Ev.p_pure, Ev.p_ok, Ev.p_toD, Ev.p_kDf, Ev.p_kDn, Ev.p_toV, Ev.p_kV, Ev.p_some, Ev.p_var, Ev.p_varF, Ev.p_varL, Ev.p_varO, Ev.p_varN, Ev.p_mov, Ev.p_movF, Ev.p_movL, Ev.p_movO, Ev.p_movN, Ev.p_ev2, Ev.p_k2, Ev.p_k2', Ev.p_ev2T, Ev.p_kT, Ev.p_kT', Ev.p_vb, Ev.p_ev1, Ev.p_evC, Ev.p_evL, Ev.p_evO, Ev.p_evSeq, Ev.p_tTruth, Ev.p_kf, Ev.p_cons, Ev.p_vcons, Ev.p_acons, Ev.p_kC1, Ev.p_kC2, Ev.p_arV, Ev.p_kAr, Ev.p_arR, Ev.p_arF, Ev.p_arOw, Ev.p_arN, Ev.p_arL, Ev.p_call, Ev.p_kL1, Ev.p_kL2, Ev.p_if, Ev.p_kIt, Ev.p_kIf, Ev.p_tAnd, Ev.p_tOr, Ev.p_tNot, Ev.p_kN, Ev.p_and, Ev.p_kA, Ev.p_or, Ev.p_kO, Ev.p_not, Ev.p_kNt, Ev.p_ixS, Ev.p_ixO, Ev.p_kX, Ev.p_kXO, Ev.p_slotD, Ev.p_slF, Ev.p_slO, Ev.p_slN, Ev.p_slL, Ev.p_seq, Ev.p_kSn, Ev.p_kSr, Ev.p_kSb, Ev.p_kSc, Ev.p_slot, Ev.p_setU, Ev.p_setF, Ev.p_setO, Ev.p_ofF, Ev.p_ofN, Ev.p_kNx, Ev.p_set, Ev.p_kSet, Ev.p_ret, Ev.p_kRt, Ev.p_expr, Ev.p_kEx, Ev.p_par, Ev.p_kPar, Ev.p_kSs, Ev.p_ss0, Ev.p_ss, Ev.p_asg, Ev.p_kAsg, Ev.p_unp, Ev.p_gs, Ev.p_kG, Ev.p_gs0, Ev.p_gIx, Ev.p_gIO, Ev.p_kUp, Ev.p_upd, Ev.p_upO, Ev.p_upN, Ev.p_upDt, Ev.p_upDf, Ev.p_put, Ev.p_mut, Ev.p_mutO, Ev.p_kNon, Ev.p_kM1, Ev.p_app, Ev.p_sl, Ev.p_kSl1, Ev.p_kSl2, Ev.p_kSl3, Ev.p_add, Ev.p_addL, Ev.p_i2, Ev.p_u1, Ev.p_lt, Ev.p_le, Ev.p_gt, Ev.p_ge, Ev.p_eqI, Ev.p_neI, Ev.p_eqS, Ev.p_neS, Ev.p_isB, Ev.p_isN, Ev.p_notN, Ev.p_tup, Ev.p_lst, Ev.p_abs, Ev.p_intI, Ev.p_intB, Ev.p_len, Ev.p_dlL, Ev.p_dlT, Ev.p_itL, Ev.p_itT, Ev.p_d, Ev.p_dn, Ev.p_rng1, Ev.p_rng2, Ev.p_lo0, Ev.p_lo1, Ev.p_lo2, Ev.p_lo3, Ev.p_lo4, Ev.p_lo5, Ev.p_lo6, Ev.p_lo7, Ev.p_lo8, Ev.p_lo9, Ev.p_lo10, Ev.p_lo11, Ev.p_lo12, Ev.p_lo13, Ev.p_lo14, Ev.p_lo15, Ev.p_lo16, Ev.p_lo17, Ev.p_lo18, Ev.p_lo19, Ev.p_lo20, Ev.p_lo21, Ev.p_lo22, Ev.p_lo23, Ev.p_lo24, Ev.p_p18, Ev.p_p40, Ev.p_lpN, Ev.p_lpC, Ev.p_lpB, Ev.p_lpR, Ev.p_for, Ev.p_whT, Ev.p_whF, Ev.p_lc, Ev.p_callAr, Ev.p_callO1, Ev.p_callO2, Ev.p_refV, Ev.p_refR, Ev.p_ref0, Ev.p_ga, Ev.p_ga0, Ev.p_gaO, Ev.p_gaV, Ev.p_gaR, Ev.p_leF, Ev.p_leL, Ev.p_leO, Ev.p_leN, Ev.p_sc, Ev.p_sc0, Ev.p_scN, Ev.p_scFs, Ev.p_scLs, Ev.p_scOn, Ev.p_scOl, Ev.p_scNn, Ev.p_scNl, Ev.p_fiR, Ev.p_fiV, Ev.p_fi0, Ev.fin_rt, Ev.fin_nx, Ev.ou_ln, Ev.ou_fz, Ev.ou_0, Ev.at_0, Ev.at_1, Ev.at_2, Ev.at_3, Ev.p_lenS, Ev.p_lenO, Ev.p_bind, Ev.q_ok, List.getElem?_cons_zero, List.getElem?_cons_succ, List.set_cons_zero, List.set_cons_succ, List.length_cons, List.length_nil, List.cons_append, List.nil_append, Option.map_some, ↓reduceIte, Bool.not_true, Bool.not_false, decide_true, decide_false, Ev.p_div, Ev.p_mod, Ev.p_pow, Ev.p_mul, Ev.dist, List.contains_cons, List.contains_nil, Bool.or_false, Bool.false_and, Bool.and_true, Bool.true_and, Nat.reduceAdd, Nat.reduceBEq, Ev.permN, Ev.perm, List.map_cons, List.map_nil, List.getD_cons_zero, List.getD_cons_succ, and_self, cond_true, cond_false, Int.cast_ofNat_Int, Int.natCast_one, Int.natCast_zero, Int.reduceEq, Int.reduceLE, Int.reduceLT, Int.reduceNeg, Int.reduceGT, Int.reduceAdd, Int.reduceMul, Int.reduceSub, Int.reduceToNat, Int.reducePow, Int.reduceNe, reduceCtorEq, eq_self]
      exact ⟨by decide, trivial⟩
  obtain ⟨_, _, e, rfl, rfl⟩ := w
  exact e
/-! ### the tables -/
def RT : List (List Int) := [
  [1, 1, 4, 27, 256, 3125, 46656, 823543, 16777216, 387420489, 10000000000, 285311670611, 8916100448256, 302875106592253, 11112006825558016, 437893890380859375, 18446744073709551616, 827240261886336764177, 39346408075296537575424, 1978419655660313589123979, 104857600000000000000000000, 5842587018385982521381124421, 341427877364219557396646723584, 20880467999847912034355032910567, 1333735776850284124449081472843776, 88817841970012523233890533447265625],
  [1, 2, 10, 78, 824, 10970, 176112, 3309110, 71219584, 1727242866, 46602156800, 1384438376222, 44902138752000, 1578690429731402, 59805147699103744, 2428475127395631750, 105224992014096760832, 4845866591896268695010, 236356356027029797011456, 12171625889452924452644846, 659930175085047978557440000, 37576622266093409856564320442, 2241883123290988977011558973440, 139854938307977860837890826530518, 9105084054183813960771881731620864, 617548599479290339545462424041031250],
  [1, 3, 18, 159, 1848, 26595, 456048, 9073911, 205437312, 5214027267, 146602156800, 4522866752943, 151895344131072, 5516066815430691, 215373243256915968, 8996883483108522375, 400372897193449586688, 18908951043963993686019, 944591701382367473369088, 49761599346998882646000447, 2757082175085047978557440000, 160270949652199042805567933283, 9753296425303819239737786892288, 620105702304479837628056583473559, 41114742698590632947549837079871488, 2837994648729603420392725760222671875],
  [1, 4, 28, 276, 3496, 54020, 984384, 20655796, 490315648, 12986620164, 379612940800, 12137277822164, 421308176643072, 15777554608684804, 634009277150642176, 27210446938575760500, 1242172833306223673344, 60098817075082277593604, 3071798905625635646472192, 165392045296801664946126484, 9356383925935527764131840000, 554825483446179846299493297924, 34414010781504697986864935600128, 2228437492846225237263801088574516, 150375751348796400476812417859321856, 10557352142220732664711006060735562500],
  [1, 5, 40, 435, 5960, 98345, 1896480, 41828255, 1038148480, 28628701965, 868286796800, 28721122582955, 1028889553167360, 39680510808884465, 1639084412349583360, 72194864354118372375, 3377494951671288135680, 167249539657544908481045, 8739349113919840486686720, 480548841161127921704129315, 27736931759835847621181440000, 1676722131011573145938468830905, 105938184567066039078275372810240, 6982581210513903992412234895205135, 479293692937521464057211114498293760, 34207307548300761167983720729257828125],
  [1, 6, 54, 642, 9456, 165870, 3373056, 77975898, 2018779776, 57848597334, 1817319148800, 62098636593906, 2292814083096576, 90957563287110078, 3858116882376830976, 174234040373777474250, 8346186284896182829056, 422669512226644588253862, 22562444189235200895811584, 1266161056320935830198230114, 74518851389513486441840640000, 4589555919104017339010808645006, 295215243865341878006032518610944, 19796096794379699106679091154508602, 1381548201030299866918085621654224896, 100190758437180340322427508608855093750],
  [1, 7, 70, 903, 14224, 264215, 5648832, 136535455, 3679817344, 109380260871, 3553892742400, 125285106276407, 4762149010698240, 194126891390209687, 8447553236955664384, 390818633436132591375, 19154170130244304863232, 991317947062297277089415, 54024100999346626647883776, 3092246652733221932673921511, 185466578428856876926566400000, 11631788869352624551952377734807, 761343255960432449950444158976000, 51915970362743657471775371672452223, 3682157927130402894392698971246034944, 271227296178684146162346112255144234375],
  [1, 8, 88, 1224, 20528, 402440, 9021888, 227507336, 6371523712, 196153156872, 6582757990400, 239132606698568, 9347777176891392, 391201611845614856, 17449825962501603328, 826403734370576277000, 41410666889967459074048, 2188881565037790277142024, 121711433567052229335318528, 7101756664416185394968316872, 433862749727235165066035200000, 27695234586216685238490207992328, 1843799150133352669305896727216128, 127801008074532504047378554431401864, 9208350731251602362065041457862934528, 688688789666935564172460731458707125000]]
def GT : List Int := [
  305493636349960468205197939321361769978940274057232666389361390928129162652472045770185723510801522825687515269359046715531785342780428396973513311420091788963072442053377285222203558881953188370081650866793017948791366338993705251636497892270212003524508209121908744820211960149463721109340307985507678283651836204093399373959982767701148986816406250000000000000000000000000000000000000000000000000000000000000000000000000000000000000000000000000000000000000000000000000000000000000000000000000000000000000000000000000000000000000000000000000000000000000000000000000000000000000000000000000000000000,
  6259500859763238606384657967436325106509654452974576545593838230049852756413726134256030006965130404167469076525742560940003559825074771134031935731183994851890923417523522826422669562395888443284270171544751627389099912373104847666688384999179684941574809530292408194270067854040043718393590884534424390379985306451067286993426638325987091345220501915461618156358563186640365373824050000206557502925657333245102706294658459913213368598904317096203798578776208833112130461629689459494156817031028528093548211782731715670279764230053612748800000000000000000000000000000000000000000000000000000000000000,
  82632909947253355657684142797776767601244722967282743142934185962082143419531737576802460884665511110589347893865504239822949895520181870377410263586206942092659033930867844131973559282884185535804682888243006114586941497121531160575812858066732685822701861810769594399323057891405973995728667880911343961292944357474417130483422330251274338049322064415461618156358563186640365373824050000206557502925657333245102706294658459913213368598904317096203798578776208833112130461629689459494156817031028528093548211782731715670279764230053612748800000000000000000000000000000000000000000000000000000000000000,
  865070517417658181455766388727317405914951529589104811342163964718313737971247504358806211755306811631522982459583324357323394873654528262131402229984206298579024461121308197434807254582370240946338454331336959538224430543759637118911860982964193303519553053097320618683081539646411438794927528447714392758791107663857828004661752120999660756201884803848163887701178961516686037101830300026026245368632823988882940993126965949064884443461943954121678620925802312972128438165340871896263758945909594539787074684624196174455250292986755206348800000000000000000000000000000000000000000000000000000000000000,
  7751146346355437819596111621875381372685345110196000073253346128225159022932225635759011285477432737513968640281708677675902552833669684126915590862168118139633943955360295208432603861489385702263395361684920802420469555303887233833562932488525250455411374870661453485293336363930242605105649851856993056199869804120059255544946946308605855593645390171803298734064392560403383151587167800043239370612437601759308166517681837608499331826703970378805328502490486382398139309967814993520776827031828638547582758999851839146978563978824556268748800000000000000000000000000000000000000000000000000000000000000,
  61818053684959074160581510917332719242369815709515050782138593923119767646135194658184399520184108464484155044005666450008614732437077700510128230236181011800822972775442057548108057272887525761409548757393480773559496464288864553765554243923787331925383440689243992152985932591830957529788620379839142603624314033111173505836306453871084652856263190412313541715388077655196260470451561551669879706151989101064491978588117209425054609543075467511410242310353130943156166695301619487037261761151178297284274926788864100050431707290496756665548800000000000000000000000000000000000000000000000000000000000000,
  449375371002730965140387092011101787876637071219315054444805900334377718792746476446134963794055745340182587058091100333803742374120561906855907773344586918782520170543456817969738250347356810874579316841639520894582974229483226245443700868350049854695952184222316666417652750788343087785071112972688795413617804239114136283083653769301377432538532699002478478418607705675365418049809951553831848236773869189029900304472209089850021200878273986451676667434877450063063132193692369163076103112742610224663412876781456057399359906231724570102988800000000000000000000000000000000000000000000000000000000000000,
  3025127607876025721831283380233298422975379392449108837033913980464368037381712920537151610468393598027022380558327202417496022892332132761444584033185462410483477369520209215807573970051003717599977181733034553126228660241519249319008461031841188684920262212940816339458733275447966318192930295465986403897964222285413032359596422680596571301549498966182209383226444274641876270985291682873410169326440081733383732745643759482560629931839751799427103430366257906027903411164593181122962009827375039278174868159650793559500681043335756097834188800000000000000000000000000000000000000000000000000000000000000,
  19074248000830703048273679523486933704283846221710360781491267563835000851408372793613400317398955931604971918347295071481915393396637915149155575938349280938430626317500809857583940053885175534549238497505874585075620597008777329513426349187200112066918554506594982997232045803603076596231184330204871954384314373682346471041155485869931479606497095359127869326748148048762069772764218524081690463496935409913023029333936941262918529963206679886986984410183309693994443846653606365518537120996753975873296756616131367038049249123040205030083788800000000000000000000000000000000000000000000000000000000000000,
  113609485746956506855501285155777509422264452235745011938801079453346502019586901560399388144536255869949421310795020147028666108782017063944298826975394981266039294115007347851570626617979041709548525426663204370270266229556253870732440756432237258470676748660995493605317460661352024039760256063516947076195696320101503732278543694638574332779918938052321912552574531631320703241054583613875758254948187964081264677635304425092938215333198923619083966609128869257366425445547143275611099928102223953316261386605218665772445531727282583087402188800000000000000000000000000000000000000000000000000000000000000,
  643449707992253813751992383030414556763482402838810589202447400670985414558708368049660508072285031747865307931553216577081871480910848040309731491929541674000223358490029843895568961448122806558138483690715276177926393924244513023883172678298907038107303262733078354639540955205881929490626487458096723586871095589055572372310640524358893210738171586916984949406689755208044863595616209282811604463196393794998571048022441682396230714311162253813166866891998582979434310074813986762237131066900945505352282403719978861273813562922843833923062988800000000000000000000000000000000000000000000000000000000000000,
  3483686851666166485139524511924852292320093708732435887672474387004647965048380907059645211685691428496600840701428720252798524200461274638917202166314416205651205711365213540184834626897598849296851619357295385434683049663150859792194191589104838499874221979257965694772477471739682530484632889046020400491763503591593165679274232890323251530236145038225032763221053045991062444621980799629705560836901092897030187988905052309719686097641135344290266032120220314413594946213492568652514629269456544338258817068850445505584951856104908411108117708800000000000000000000000000000000000000000000000000000000000000,
  18107543851490116797684805944434274036944693773250858369546278947708861932291752908188293122419442150038994202782183642459204694221162366464138372437440363342019918404320437265084129205264026271072726248691733480387555638850526155789539025186807271184131114314100655572943862817327908200726143967639127754738833857888310719595425153898479915410649135649974690704282183846173900253613258283329969298636819133692452257262142363273270384150167550203680422097847460836673465629731992267794267608062659851278083417153395419625444351013442268272995912908800000000000000000000000000000000000000000000000000000000000000,
  90684353261201918571424899942868696793613312705176606029389495343639027870799688471930901699204680243718178384061948647725840615064105588108246750902324034293086704057762386018934850598964002298090468318635387343610119173499502401460251349959824739931510738881974940880703810145237960919155995822764552764983906849379835004580305005780214322290568823946329539938054122304321034516571191608948835149405591902380581173697664286392430511184357869876394297767018717386956693675846420781388322384509671191658475439421113034325130848015627860171081698508800000000000000000000000000000000000000000000000000000000000000,
  438906350405242626219209629643527812888703577575385420828356398184194065030256475167859615591886260052160374591411634079633623196240304943187830836237715637024238981063924641116706566084810661357181357716553338889524650689855774628182155680475349185780186014153141394206547325863082349394658764431209317279192250270308887304492327196135597310956898355676612053481942273192280654778364620134525167815498267550312355351815786657032245590995272296870248568879469887322984878863000118238970391770330052947006233461601794180968291444427979173113310792908800000000000000000000000000000000000000000000000000000000000000,
  2058269801498134029280368557194754541346084161596396242781740243606319562723108055023768574506255550118556417163946431360452205608099333302263665673779216249400787267809681534311971755352024988108796863406470970025419635930918317511400929786900790970271449208474122481361972507028045937236730118409147759511047729723520226671997773727925138780431341640432496695232908742912299128288564470294325795483455265807108447739274077485468504719287377116091575314719089840661497265931686203620904720065145609940907580594121669793917056587564190961882626837708800000000000000000000000000000000000000000000000000000000000000,
  9373375641585511132933862384586884756157810454519486589921013546676220646560715974488095501037693217654562660354140332687679258878771082355394179611074476866471436952208425552923747856765536010728486158682359951517497147428514561314436857794823277399941216111026479051471094604746085093814376192262636380830918567562001681746869893663518427296379647568376030919931946629450310041261308139203078592408426391645647703602870521769339264569208582063929051462710254629377911913648354840937077916237313159057678138287484906143388580661363843847104473386188800000000000000000000000000000000000000000000000000000000000000,
  41533841289993855340439621090754924464690375479463177883385704853024963814109279334234479477697936188257006678540803322694744971505323165203263955763874730763358738011734699526548306534140926449928437149408468858164678958849113272430076385715148136310432609993434642822751915027059302863138284292405570123191039344492005223496835108162348720740619360700133791782946145737454983920770127987551919146837414919881717199529027982479784650808073849502859915755196033389713806693830951772513714167255213314384359085070635996673342589842054327626520517725388800000000000000000000000000000000000000000000000000000000000000,
  179377600725074901412996420864091464996422882163573274793988845245322326263531573076706472140016954094941751683748749391631204660899015552782590126514969978799703399073623310598956363251281161901817939482972585792245519362209621527054147823874313980427215199861471099462032718038031142478055581237444340429528077102756735837421392367919972651569731824940957775899592419699959543351083482975832486682255450091141242252512418008499479718002317703384169496089170366174683099541600875903941330582509818594644331706945414028193762893685640266554527479286988800000000000000000000000000000000000000000000000000000000000000,
  756236507530545114474657824902354304783789208267228523174345857092891268126160452718852020441377178931844622219037684429058218154028503958383478401013230128290796982569938581801016176225460695928601788780312431044532727124002861421916319847695815873627668116436952249778031537858299237799420640854188369918292512442923475052655213314619260439633889612442815995107177777164612097806224149469609141499441768422831758912637806654052044312558898946479446103800226385476263748067030761633298471794387781294427096777370913981990187752603061483589534669917388800000000000000000000000000000000000000000000000000000000000000,
  3116468096018372764645663362587768317894616605156350559937356978741869245277891677412358232810021311760025565426258071161047753165857655968680716907789150901971104865117613721260968324268633878847258887240478033574079034521497881514734054372357841931880499693561571979541619933095551112510678288715298112412083000637091051860831428681987321644498782045876470941154446457427237668215217346520036597844908216990479683287801201502729409023115710833113255262868257519353672952561779128790421242616885394381852513974021098563487067932677275517201738344746188800000000000000000000000000000000000000000000000000000000000000,
  12569424440150186695578886173867197127691981708496707099616680192403010096854897336398008488327236048408083343164229126524275480091213955448474196920454527505606067147241845993773670527086892577954781246994383421630738123571533649288688052468555540352226351149023475101767014156324291585003436299392652736390739406173634490019021595114728077139922402201411670879994168671984888890793019214890150866587930322275876669695773784678379962930101947664106331560371087337806969803399663649206652140046732660562191223691157523338364414840215544062070921718713548800000000000000000000000000000000000000000000000000000000000000,
  49670235107035576750884402395150153293104084150834213765537596605996691588258369686545130307494156426503625788714920449870082065399043193170863683917944419195738267922451533151642341054094438754707863237952455249893583772636984619702188699758529849065089442739042189143929156216985614352987701641241439788915537032805670821695586222281243811003003140842798229703261388403261527798117035244890586555217790048353015756455311897806111022729098505201168894213564629234874504952944653277664047885485844498441387818619980125284639033086373585933520187727596748800000000000000000000000000000000000000000000000000000000000000,
  192504603745105880109735381643641029744149330838296794442999871519667260870700384872886135856667293340231845597399342342191394339162838141448979558014018595395807212777472510353615869770990945322375831953797721404788335176858957907073643841446660989431297978523399860754917953447943473273481295952521584520628484830233335481002649803130426505774848620404294489703195123312180719738946799050460482766444270983306159730270923087333156056025711546838740843763236076255408252718849922018648731295107806550284469906019497435947871019907004768457053389076614348800000000000000000000000000000000000000000000000000000000000000,
  732398463604188236097609320721360087277889375956059987546669399845718256395247881465767987025082037106575604170387608101648808093500264154175758731035153586653831864108467435914945663837234844830069997583715713251457724009869660295140912317082855001008357138730380177536756607980395803197260661618189408313188669969425409629867717436622207060155317542608623073434297171173719065370653703886227727931855032378447635343915617628703928042211564864242750563475895089677957219598683109819344903963432203272473467934497542275998295292584978528604011951333100748800000000000000000000000000000000000000000000000000000000000000,
  2737654752615707820574019546175954147112778238854984929661251394842252223798376890558331902198699676067323995809964090832809165793113161460935962460347847288693490330540472752098444307285057191938151580435775311218002882102150471827158035665485573640917711081682462060400485289729806983129357494456955913736402053617689320890311986219230816495309990671820024007842579705675601562651349527328524423415649521787886799200904399788424303625812726810479634352676270884005126518753369797513602521620805188171270029455533973900455285083282944866698318087547833548800000000000000000000000000000000000000000000000000000000000000,
  10061639388657590181550112753389555019891671998415584805127945393299434787750855705216011772449520047133080037513840171849297246728115803002693549770699383155231808971625147111247900945657405640238851556272932443732580122200847074778567158836314123651001282468986263835768051369533765015101964110638849996868288753311943417188989160585452887096863166097906254742185551417412792216357886566190801702734199845572363152640060576075463584047928375452907139987435221780784698714740200895707051561255127220896004708800509396660438238009132730152738437600878841036800000000000000000000000000000000000000000000000000000000000000,
  36385242779193242302454146851235267972899155064328901436486131882167244631966018114430741601283170778549656920301956429857077687046511586280923958043274837854207677534514308189117557746475263255028770598924618128521069373183063150039702117158290793275210042869779168262695794540012678314422709249648041475102923884251263810365065951154979968782536153326944947125287279356601268780313170482811228850961599093532813144956449035579543426603819979399826701070860903357757069087368756641030152730685946337927447299719105299549431363809930276947914573058069548236800000000000000000000000000000000000000000000000000000000000000,
  129548570451948706946436672345582999638562784679288020002485626264569418592622089459023443198037986029781879489874550613646867008603139391861419789253454311513761464308821225885857381317377167331314433157007325940859774208376091620211620254531569715969666362027059388964251825739399391417218673237044800705364856785287776932485335956575840034494232135714965824367746088777090085598441749799392726098500486552536175669401454369611613649269823455815633552806372216142800575705333579749428778297863050235112676084909007120479415049079677778362159365658799557836800000000000000000000000000000000000000000000000000000000000000,
  454416809551888370361205840660183606539448097753653211399683232355348388520890108337869350352352010838260959135427733023085060642946992840798240843211265363783472870866984691860121289768049160679785599218834273516940750754653441174137532014873451798784041744792944819881178562703798304938850005823188028161640962894674060953601996234745304041481162076134117137986382511603887128279809343395921555124943335601936293035084035044428965672518216129028371955224773138979917263985411764044340856250416142538036312689543875866456480797382626679682825196534420524236800000000000000000000000000000000000000000000000000000000000000,
  1571214830689377223347728878122106017216713482919929245903869665670601997077977086432899033094058786957070265082622134864868396924008539322362204543672078394074519976977512501220960783883369568708358298848207773007111218068240437900099775588421466591625993141577939552331625336319310299914873050970125965276855245526465241406061788963847373304362473590918305279087641897613284417921548565804479538732706150710006772943717262368667014373120142472266592238038326726417853261445184003263554462266476920426938692731862902767141093289448814424184199038420623609036800000000000000000000000000000000000000000000000000000000000000,
  5358021576955113643024444216956969405045447630867039340901229935298505234752061322581810286030325543942578257877853243390577235615233479662347544903765956425603460567535718266721971531950445907706571625671826718981617474357019114351245875712366898248159674348185813051341446692184296174405289766163359533290529936315415749352745090920058240316705490892035948095640829494312343820253293094103825831440567280726142548236084221072241728310771943547503025198244769551250497127990282036966394931019944774910574631811395201654278433267637370088207742342874127977676800000000000000000000000000000000000000000000000000000000000000,
  18029108921224284799054515814715888898728620880221307453029211110061424566026070084137447649692089954886693298866741427784677210808850732262042742836605298313301202317354367470116816563267942429548170809931566823877675684584764581287534388522217435277401554522201454602402941339920669560815556306245020543587749658303038663917759518047859637932531890818796474539896006087967863319620620237688338240575294302581035878427352465980846682932708576388362640021134501215910604075128862708446672852523790907385886669971579901389287250118031034799370637814008189340876800000000000000000000000000000000000000000000000000000000000000,
  59888652491186110135182986259692212375646180496370052303820069979580996712526549166807840509304008266938085938537469891773561864052862292124132937397276832888328238001227166428882219156630801083505761635492713065921562202998976412156642792525083827841149010367403119066007993622610483423356882604396266897420014785767224205736080540860814640406793538412827319037089986512283049415349472535374477548704726183254024536521760443107735185360614385353230024382421763335055112887552941122246633251117109461374750980998104914313337510021447988613493624867712314166476800000000000000000000000000000000000000000000000000000000000000,
  196472810985309479824989924249964097972075126558652684523738335964894819182421019501182443916062265500928186687527935253778692248968398142594153716462468486776973710102396616960070223423812183125537358680428825368025165874095677785547054826784306822366918362808323229690272700743221616459838369772919149803387815227456911053597895071526417958077489680979467277672665790209009286685202656154225524825790289081595205433698673064174755510608406630719613660906167984667711204365801901034721427588418555729449649995934316288474604556370167949214786335579895566748876800000000000000000000000000000000000000000000000000000000000000,
  636830549891089701407217764394759777204767630208432480875356497579460971480410351610063624131532914522531759765009331516819588308180620878801013550265974610955857813052596370113615952516685720504256194235522303793919005602029327874934134183586393791787131674333346163999155006791828112219815447746421112284417335711039441978127899048444172666950971581073785800004209808681678767680419365973155506801560334546698327025770441028202220108848218287728657957835739773896057622656632350463005495611338478239558113091508617129013850953586697277255180636077780229737676800000000000000000000000000000000000000000000000000000000000000,
  2040207771214728843014288651894503334148161391341665941759201754471566822783417633761366794960549096672018807533066011900953104372240607611616397239283606659362812885212572205542688976972487028543808756238585342136955904702712740628841668660617156808693691408678512090358245726386268229790089517552986468022901730192874520932398578130775729510361612159498552069094679738746030815431866909931909255557205256558092651552189534343736188041765408507154469821451225378665423368126645929282444264100042447735627041633896590618118169213373611200217940175934177135086796800000000000000000000000000000000000000000000000000000000000000,
  6462642145458407325008856460191446231403492156678002614504732987662268013619600631053475295873972114189600472567853036323311356512383808158845658005019541457667381031411158109109466425005026754267810105096379118483615665827916406426995378268856002584993216924882304895907933273551741231316585682458688636664688783741759534669397877078304706364187803694733175680235025632368800035434779173634378052790263135354608811453373152595140494353211368838603483417532751586276934636575481696386649094734337435510336160324928654014047689724392342292267805704252095397153996800000000000000000000000000000000000000000000000000000000000000,
  20247829788801169777808104108127279570242420476554123842607447544902584383777827886197845532093898443054592415358839603221643142811306832561659152865043910777686387012577186524938445999143452622807058458059793592381966373278678167432682328678431386427518158875412791992923107100485986027195568909168056663846457230990911703131550432015978554407171669637290959930874753596869008247812258294795927076825433787774153754373572708971736359500274939832890441670581571712394660096890656894241002230545435055345654009202608320352683968193132958509956590676780319282875596800000000000000000000000000000000000000000000000000000000000000,
  62765212324711744284445317662018373197896974138909404201191217200575400262854147827339130373370030773249332366463135894822375751445410833606696376582277736157077051692913753032237567216281786532463703886325445687668911543199180841294494027815641929749841954433849008413370036531747441496383632609554166115587830808239329694377589097004825306803144062365798694669263080125611113744093700226601045845182428099317632777093132923413450138139823419034229148364875990043163966916466194370468956801166076078439970853445559991497734558485187842011718470310017789000993996800000000000000000000000000000000000000000000000000000000000000,
  192558993022155140296035728611552216596886848988615326269187675821745812979378685559376601732946302844112104259789030787268806154081993093617331971871020753962759019722254692294663503108226995653021770925170276408066131884729169094068098698831227740182650665173674598111595082047683249363021894847810939601783069468437481637528553404799559629926039380553561258328716628823489371742890227757344168132524952379921182484616034904001503724680047392321988389842962988199539993178585789846372817253380403356296727322693049224527759995620655524767850461827840348506606796800000000000000000000000000000000000000000000000000000000000000,
  584841570051603542073818963999167049083742937356799102526632783325342064622217109480246166566508995176920431550183630129908654600615810803659184325510256604944490592802965648746148298209988161480919920214704311955996829029724049352158686372678989801119162880385230900695157810371104758715419598657524477824207012019933292227388485261079717797445689770339803100011610879608558832643475854173600704664915128000656387341448115675335567088053943761285920567123437925969314786406499504661803797260668378846546545156727799171388600986153079537341090901265451529762819276800000000000000000000000000000000000000000000000000000000000000,
  1758981771406208056074036821386680564918418845823965726119240562726231168155013972647176664938132793006872286792799671515694057979164549179374623178382334373010094371597201577372145268382103988633491694148669412005180560034170202364769044292381597972964593765590563816009761969198441645075309201388078987591176947803088668065977225534247764321384954285910298577625736665117640367661099194157406607912018496170907500052521499236320345897078622982761459529580529317429924500910071393968955121976402545653233906880465904198996893642376588834706032741679112191388470476800000000000000000000000000000000000000000000000000000000000000,
  5240181593141943425561054464238865380893079187233484193539673796805648219477734862410546704024495859536160569829606993717531287744734851582107863211181480831013014566852949486575408948203462092686586457331433173648018828068241924699046939367851775360578658529788366796338082269026446161238521098159058022259075828874120169419480113993055608353799774347456745601504372853263823895300836421381220326155560924746243138989712663970460626183114002514225272429124802686294893467615425588384453915194666705454106199480036137362024280464716347985545859534925847487595728076800000000000000000000000000000000000000000000000000000000000000,
  15466819798991990263200803425789333781581560849000726787256188696376759662239444005708085453664802795622627353508674851366915345763133393322657997969218308581071702773813423773622765159727322491718514911684162313213022084080859380308169289904954089156884436236710249447557628601575525493071714129485098647789174362613007774454231425238682145106037880660888714076072609278366384172400250340901026186109156832716635581155535333949067288375431577995396548763895321973678175449650724390529541833662123366228721937157163487356192266757603492373371631288874174181714742476800000000000000000000000000000000000000000000000000000000000000,
  45240578850934850635706794699873796173019510776463705159640698905499760909272028451222555362894892906623539682085987315671070389767308686402816311669113086030009285540023364038255770547246993472892301601067305345304038152650415770643663263585930085523808632428689606244933096039225787772836038550843382865170287026670508737064913891108316283479900234907802041357347455035547201759336820916930687130174843905138471598142539106508502664415852046826221960293013519054899161061102006142713939079086366010854325343293732449640421133034400924109427651373680125815781379276800000000000000000000000000000000000000000000000000000000000000,
  131167355512001463209044591509814539404028182159801076199952858329815092366157828482934141216588241771193691646023069823265044532895827538195360744831437022591518745394542385002826688101287673982439606665979318196487494175321856772355714874169008358617611055965968769842475477159089818289901117047982819797332366818964996372921755142434328200735666238579406008446639728804249336050449322810825277053003492975786447049006624295114432044279360813467313897870209752242000135781383808312322504821653718045458336105277974046063711503909975881739270047422981093491974393036800000000000000000000000000000000000000000000000000000000000000,
  377040066658386521011798910530867779474786392901451647719739265424922488612201461370013246449712659741973798613881696538868687955544244312123710264772269011885047471155538928688999354118934377639462984932649455942705092831030638134549536958875150127768744927861020977695372738241838664881401326563435987542823057181304717770013678463675177567474254471773982320171354158345266736916410306055013794064823296808060749212824771613095424785669861067957650638593109312322973837200416450392289565034079620278362278188396085185413826357357806991029637717932112212056003628236800000000000000000000000000000000000000000000000000000000000000,
  1074738766190309197655653120689455755028127787368478648783318299094151703325806932023918252920926711716408328645919301981767861002862475898269246141535231898010147180700977146789141312104507111588609828900624552732532189508274557136441637353391152035309229268105535710900029531641252591955343438520791411996718625367288741030235780285134370124578862123792099386376884630708295120163481172070041863495692940296286531388391922119023254808432418586400809669817629271057017112633309047798260335362024929030800236195193819472986759888793848915174691161671373347651612101836800000000000000000000000000000000000000000000000000000000000000,
  3038489113369405661258772446371058773125973583730205980656960306515622998181022876659403911513180147872521863093219804788375610771322081690580237103890799668244769426302742400377679614807290328460812875424840469100787881336559130753887142347532558950771442434048353303063429209984162304879308681038687180448922048186584146082390355616775919955173937497614923970602687538756559374936451516106572040916647611171602933538520940937228592233796278315346906745823406939405839181385478060258101819914522951313937101759756763147017105500032426993454054275901124452109964332236800000000000000000000000000000000000000000000000000000000000000,
  8521850165360779118685574082541751400820503111120403168326951628424560260047384774740619487640357248466441907205052978164742248541028591375627411295397084862174091776817931924812074064320081714116985471856598391205543950256327279409201618640344559130920571352954147746430926820398716345467795612267214792677078300060506294195838214214400257325474254455737880023545976470941738559444008516463928487323244245336330134499704217054694177991104536409228588734688862403982457102983993610249225979924854221879244429286255842090827104932654105132100437753816294593189617913036800000000000000000000000000000000000000000000000000000000000000,
  23714295732207807424979436314397045266450371029771433071611753161002675250952499158037639045206257987829051222671152002106620302397638999828528596814851083203397938908331643926700472138356533356421049848980800736709483356939122933178637330378007353884777783523195914261748072870319527869864339017460650694921688540993427024607789992298279857101343941943812499876559414164724535434126266096996788691906482301194344802192308921740837139160085927985963122463805897101011653009911383911539735079497468978448929938085039657825912632432816240099370709133321916853739439574220800000000000000000000000000000000000000000000000000000000000000,
  65488071052603783496967544562150728603805778437224389779096810163083852996282816681275969866972715088154746846225333267620062697206602683042388456106013263900329761343713663165975345002670659406014115887493537948501365466038766459694331539399304212369682545057284873803076145519332843288824121430535233011966190011878261800077585160015928177324256953981743284305706357649733057784341994118878791080745914876372433696798702142597181148920402282933162086849535614767592325083362332981388882039913421046484441846350999668075065107592885382903784619691244929565453252873420800000000000000000000000000000000000000000000000000000000000000,
  179499108226679780732445603765982677000201793003433202623384084975596714779708293402610772968925878491179031570605871739286506458733713259141083633100489625455127544556846566659727614898615531311884547853747387644220035451323011330745472550832031875277268042764957538523018803549715188817018059014480669045243538766654353264538113969142273644157641290250072610635318925749370247371487504200594121330296310555191399091954033497120436625651584629019523252540910120060917579938705524863791454537497406519796605010221382638391952763519886537227682259755292606746892866211020800000000000000000000000000000000000000000000000000000000000000,
  488405103757829702887952889436504981735134710160152022336104887631652625139532900389761574228231138340965573298083858850701896539896933462171217860015646530645362267876250638197347166798005434170441698266452755325830249913770022933077225095168372499662563066620074867782811942791851242066188443120778937969612359577400871189432383591858915990026777865635654140379216839191507312391968608534928041522494022236193444831570553037673177894144048227760853850887776227455221000143244831379776747178598449191893028813763833902896976855939157211302138013015881897149974247689420800000000000000000000000000000000000000000000000000000000000000,
  1319419493696162021093719573538276634513846714805676108555475651407563341712256480957404041676962057281609237976814746532583870885886346698935493939184579981826508307491281039399789828365669930984722012404172142567589673299524705019861820237909260811131396597939322731315306403670162301404235012632263516882776890904504358525256985300850923601867709764941545856283471125068221420593299646500641566199791756288005477664691078487304828938827310399147535575614211968477987573933548187230663110778123479376136570527751716488044906316679372661430296622994088409867070850518220800000000000000000000000000000000000000000000000000000000000000,
  3539442692595387943311687252795117460582640851897276210083225140642348001437406028183593015441649049740543662059014104944865218794508771526986484211982973302941791343292420303933186041083876449941275186342593757684999900180297536533849207034129135809597592355303299403055360689087667947159637026817622325835560343529053773022676910718391450829262154608739973767098093121393254658738611503477587209483855493725248408717284501385819273912209347798060507625104103911456264847311933784411466507044480066612013974226678234228485710207311905440076378500339006124185135612742860800000000000000000000000000000000000000000000000000000000000000,
  9429708289453254108908649634662423864662313685851187408991598584426112919795693889600575344356658234033442045884079937679614642392215676432948510726199848221810132001735639229825104917716331498980212741718362251290310941696032826801089475953366907287862755738960990167855835705472321078428543333211655883347957177924162516439002737954333074051885858916514732054077874929733528857815842068212594201447211548582415719720369673204144403103402697794254862873381835913590137945229559620262641108732531313826909378368426968550114756263916247678604488424419757953948844766842060800000000000000000000000000000000000000000000000000000000000000,
  24953579748204955614661663901307675884761615667856784821637322885489042750661509802686509622609504943421791440879755836560602444122517305937275195866476046918923251928456780913742587554049122946091068822168334872715749100381548337914463191015336801189606581858712303339151277324277882250181337310481929242275853421472643977064778662157804349618825133516251459102753721953388154554037822346623064418481665468429996459708459591563000867630636679364695685790505098683135159205369620078207669648401303535809426809187191153762771379980196534696483341496082065516164351840275660800000000000000000000000000000000000000000000000000000000000000,
  65598874099296568153061015774852606335892278106870523653497661611463667404953293809585541279319238710807317500724927981731355213054481428493087742100096082357760027798006950007816315647654000096867847881299206645518813504243758798263986794262607953292463287630095881648874707089244783450304368919152859773948082636662999651370824946443722772256264180570194269680675596650515434113588865744091142872995508350250753872296259907098106053421165549167518370589564736241713340003772894303477674427420835060925415509051100500961541881117766567793916481256512056696978337904250060800000000000000000000000000000000000000000000000000000000000000]

def colT (d : Nat) : List Int := RT.map fun r => r.getD d 0
def chkTab (d : Nat) (T : List Int) : Bool := decide (2 ≤ T.length) && decide (T.getD 0 0 = tow d) && decide (T.getD 1 0 = (jnS (tws d) (tws d) d (d + 1)).1) &&
  (List.range (T.length - 2)).all (fun k => decide (T.getD (k + 2) 0 = T.getD (k + 1) 0 + ((d : Int) * T.getD k 0).fdiv ((k : Int) + 1))) &&
  (List.range (d + 1)).all (fun k => decide ((jnS (tws d) (tws d) d k).2.natAbs < 2 ^ 1000)) && T.all (fun x => decide (x.natAbs < 2 ^ 8000))
theorem tab_of {d : Nat} {T : List Int} (h : chkTab d T = true) : TabOk d T := by
  unfold chkTab at h
  simp only [Bool.and_eq_true, List.all_eq_true, List.mem_range, decide_eq_true_eq] at h
  obtain ⟨⟨⟨⟨⟨h1, h2⟩, h3⟩, h4⟩, h5⟩, h6⟩ := h
  refine ⟨h1, h2, h3, fun k hk => h4 k (by omega), fun k hk => h5 k (by omega), fun n => ?_⟩
  rw [List.getD_eq_getElem?_getD]
  cases e : T[n]? with
  | none => exact Nat.pow_pos (a := 2) (n := 8000) (by decide)
  | some x => exact h6 x (List.mem_of_getElem? e)
theorem chk26 : (List.range 26).all (fun d => chkTab d (colT d)) = true := by decide +kernel
theorem chk250 : chkTab 250 GT = true := by decide +kernel
theorem chkRec : (List.range 26).all (fun d => (List.range 6).all fun k => decide ((colT d).getD (k + 2) 0 * ((k : Int) + 1) = (colT d).getD (k + 1) 0 * ((k : Int) + 1) + (d : Int) * (colT d).getD k 0)) = true := by decide +kernel
theorem chkRec250 : ((List.range 58).all fun k => decide (GT.getD (k + 2) 0 * ((k : Int) + 1) = GT.getD (k + 1) 0 * ((k : Int) + 1) + 250 * GT.getD k 0)) = true := by decide +kernel
theorem chkRow : (List.range 7).all (fun a => (List.range (7 - a)).all fun b => (List.range 26).all fun n => decide ((ptS (RT.getD a []) (RT.getD b []) n (n + 1)).1 = (RT.getD (a + b + 1) []).getD n 0)) = true := by decide +kernel
theorem chkLots : (List.range 26).all (fun n => (List.range (n + 1)).all fun k => decide ((ptS [] [] n k).2.natAbs < 2 ^ 1000)) = true := by decide +kernel
theorem chkSmall : RT.all (fun r => decide (r.length = 26) && r.all fun x => decide (x.natAbs < 2 ^ 1000)) = true := by decide +kernel
theorem chkTow : (List.range 26).all (fun n => decide ((RT.getD 0 []).getD n 0 = tow n)) = true := by decide +kernel
/-! ### facts from the tables -/
theorem n0 : neA (.lst []) (.lst []) = some (.fz (.bl false)) := p_neNil []
theorem q0 : eqA (.lst []) (.lst []) = some (.fz (.bl true)) := p_eqNil []
theorem fm_none : ∀ l : List D, l.filterMap (fun _ => (none : Option D)) = []
  | [] => rfl
  | _ :: l => fm_none l
theorem col_len (d : Nat) : (colT d).length = 8 := by
  unfold colT
  rw [List.length_map]
  rfl
theorem col_at (d k : Nat) (hk : k < 8) : (colT d).getD k 0 = (RT.getD k []).getD d 0 := by
  have h8 : RT.length = 8 := rfl
  unfold colT
  rw [List.getD_eq_getElem?_getD, List.getElem?_map, List.getD_eq_getElem?_getD (l := RT), List.getElem?_eq_getElem (by omega)]
  rfl
theorem small_row (k : Nat) : (k < 8 → (RT.getD k []).length = 26) ∧ ∀ n, ((RT.getD k []).getD n 0).natAbs < 2 ^ 1000 := by
  have z : (0 : Int).natAbs < 2 ^ 1000 := Nat.pow_pos (a := 2) (n := 1000) (by decide)
  have h := List.all_eq_true.mp chkSmall
  rw [List.getD_eq_getElem?_getD]
  cases e : RT[k]? with
  | none =>
    refine ⟨fun hk => ?_, fun n => ?_⟩
    · have h8 : RT.length = 8 := rfl
      rw [List.getElem?_eq_getElem (by omega)] at e
      cases e
    · exact z
  | some r =>
    have hr := h r (List.mem_of_getElem? e)
    rw [Bool.and_eq_true] at hr
    refine ⟨fun _ => of_decide_eq_true hr.1, fun n => ?_⟩
    show ((Option.getD (some r) []).getD n 0).natAbs < _
    rw [List.getD_eq_getElem?_getD]
    cases e2 : (Option.getD (some r) [])[n]? with
    | none => exact z
    | some x => exact of_decide_eq_true (List.all_eq_true.mp hr.2 x (List.mem_of_getElem? e2))
theorem col_small (d k : Nat) (hk : k < 8) : ((colT d).getD k 0).natAbs < 2 ^ 1000 := by
  rw [col_at d k hk]
  exact (small_row k).2 d
theorem tab_ok (d : Nat) (h : d < 26) : TabOk d (colT d) := tab_of (List.all_eq_true.mp chk26 d (List.mem_range.mpr h))
theorem lots_ok (n k : Nat) (hn : n < 26) (hk : k ≤ n) : (ptS [] [] n k).2.natAbs < 2 ^ 1000 :=
  of_decide_eq_true (List.all_eq_true.mp (List.all_eq_true.mp chkLots n (List.mem_range.mpr hn)) k (List.mem_range.mpr (by omega)))
theorem rec_ok (d k : Nat) (hd : d < 26) (hk : k < 6) : (colT d).getD (k + 2) 0 * ((k : Int) + 1) = (colT d).getD (k + 1) 0 * ((k : Int) + 1) + (d : Int) * (colT d).getD k 0 :=
  of_decide_eq_true (List.all_eq_true.mp (List.all_eq_true.mp chkRec d (List.mem_range.mpr hd)) k (List.mem_range.mpr hk))
theorem rec250_ok (k : Nat) (hk : k < 58) : GT.getD (k + 2) 0 * ((k : Int) + 1) = GT.getD (k + 1) 0 * ((k : Int) + 1) + 250 * GT.getD k 0 :=
  of_decide_eq_true (List.all_eq_true.mp chkRec250 k (List.mem_range.mpr hk))
def rowT (d k : Nat) : List Int := (RT.getD k []).take (d + 1)
theorem rowT_len (d k : Nat) (hd : d < 26) (hk : k < 8) : (rowT d k).length = d + 1 := by
  unfold rowT
  rw [List.length_take, (small_row k).1 hk]
  omega
theorem rowT_small (d k n : Nat) : ((rowT d k).getD n 0).natAbs < 2 ^ 1000 := by
  unfold rowT
  rw [List.getD_eq_getElem?_getD]
  by_cases h : n < d + 1
  · rw [List.getElem?_take_of_lt h, ← List.getD_eq_getElem?_getD]
    exact (small_row k).2 n
  · rw [List.getElem?_eq_none (by rw [List.length_take]; omega)]
    exact Nat.pow_pos (a := 2) (n := 1000) (by decide)
theorem rowT_at (d k n : Nat) (h : n ≤ d) : (rowT d k).getD n 0 = (RT.getD k []).getD n 0 := by
  unfold rowT
  rw [List.getD_eq_getElem?_getD, List.getElem?_take_of_lt (by omega), ← List.getD_eq_getElem?_getD]
theorem ext_getD {l m : List Int} (hl : l.length = m.length) (h : ∀ n, n < l.length → l.getD n 0 = m.getD n 0) : l = m := by
  refine List.ext_getElem hl fun n h1 h2 => ?_
  have := h n h1
  rw [List.getD_eq_getElem?_getD, List.getD_eq_getElem?_getD, List.getElem?_eq_getElem h1, List.getElem?_eq_getElem h2] at this
  exact this
theorem tws_row (d : Nat) (hd : d < 26) : tws d = rowT d 0 := by
  have ht : (tws d).length = d + 1 := by unfold tws; rw [List.length_map, List.length_range]
  refine ext_getD (by rw [ht, rowT_len d 0 hd (by decide)]) fun n hn => ?_
  rw [ht] at hn
  rw [rowT_at d 0 n (by omega), of_decide_eq_true (List.all_eq_true.mp chkTow n (List.mem_range.mpr (by omega)))]
  unfold tws
  rw [List.getD_eq_getElem?_getD, List.getElem?_map, List.getElem?_eq_getElem (by rw [List.length_range]; omega), List.getElem_range]
  rfl
theorem pt_row (d a b : Nat) (hd : d < 26) (h : a + b < 7) : ptL (rowT d a) (rowT d b) (rowT d a).length = rowT d (a + b + 1) := by
  have ha := rowT_len d a hd (by omega)
  have hl : (ptL (rowT d a) (rowT d b) (d + 1)).length = d + 1 := by unfold ptL; rw [List.length_map, List.length_range]
  rw [ha]
  refine ext_getD (by rw [hl, rowT_len d _ hd (by omega)]) fun n hn => ?_
  rw [hl] at hn
  rw [rowT_at d _ n (by omega)]
  have hc := of_decide_eq_true (List.all_eq_true.mp (List.all_eq_true.mp (List.all_eq_true.mp chkRow a (List.mem_range.mpr (by omega))) b (List.mem_range.mpr (by omega))) n (List.mem_range.mpr (by omega)))
  rw [← hc]
  unfold ptL
  rw [List.getD_eq_getElem?_getD, List.getElem?_map, List.getElem?_eq_getElem (by rw [List.length_range]; omega), List.getElem_range]
  exact pt_take _ _ (d + 1) n (by omega) (n + 1) (by omega)
/-! ### a comprehension told item by item -/
theorem lc_pairs0 {vs : List Nat} {g : D → M Unit} {mt : M Bool} {me : M D} {ρ0 : Rho} :
    ∀ (ps : List (D × D)) (h : ∀ p ∈ ps, Wq (g p.1 ρ0) fun _ ρ1 => Wq (mt ρ1) fun k ρ2 => k = true ∧ Wq (me ρ2) fun y ρ3 => y = p.2 ∧ wipeR ρ3 vs = ρ0) (ρ : Rho) (_ : wipeR ρ vs = ρ0),
      Wq (lcLoop vs g mt me (ps.map (·.1)) ρ) fun ys ρ' => ys = ps.map (·.2) ∧ wipeR ρ' vs = ρ0
  | [], h, ρ, e => ⟨[], ρ, rfl, rfl, e⟩
  | p :: ps, h, ρ, e => by
    obtain ⟨u, ρ1, e1, k, ρ2, e2, rfl, y, ρ3, e3, rfl, w⟩ := h p List.mem_cons_self
    obtain ⟨ys, ρ4, e4, ey, w4⟩ := lc_pairs0 ps (fun q hq => h q (List.mem_cons_of_mem _ hq)) ρ3 w
    show Wq (((g p.1) (wipeR ρ vs)).bind fun _ ρ1 => (mt ρ1).bind fun k ρ2 => if k = true then (me ρ2).bind fun y ρ3 => (lcLoop vs g mt me (ps.map (·.1)) ρ3).bind fun ys ρ4 => .ok (y :: ys) ρ4 else lcLoop vs g mt me (ps.map (·.1)) ρ2) _
    rw [e, e1]
    show Wq ((mt ρ1).bind _) _
    rw [e2]
    show Wq ((me ρ2).bind _) _
    rw [e3]
    show Wq ((lcLoop vs g mt me (ps.map (·.1)) ρ3).bind _) _
    rw [e4]
    exact ⟨_, _, rfl, by rw [ey]; rfl, w4⟩
theorem lc_pairs {ρ : Rho} {vs : List Nat} {g : D → M Unit} {mt : M Bool} {me : M D} {ds : List D} (ps : List (D × D)) (ed : ds = ps.map (·.1)) (hw : wipeOk ρ vs = true) (hl : ps.length ≤ 16777216)
    (h : ∀ p ∈ ps, Wq (g p.1 (wipeR ρ vs)) fun _ ρ1 => Wq (mt ρ1) fun k ρ2 => k = true ∧ Wq (me ρ2) fun y ρ3 => y = p.2 ∧ wipeR ρ3 vs = wipeR ρ vs) : kLc vs g mt me ds ρ = .ok (.nw (.lst (ps.map (·.2)))) ρ := by
  subst ed
  obtain ⟨ys, ρ', e, rfl, w⟩ := lc_pairs0 ps h ρ rfl
  have el : ρ'.length = ρ.length := by rw [← wipe_len (vs := vs) (ρ := ρ'), w, wipe_len]
  have er : restore vs 0 ρ ρ' = ρ := restore_eq 0 ρ ρ' el fun i ni => by
    rw [Nat.zero_add] at ni
    rw [← wipe_at (ρ := ρ') ni, w, wipe_at ni]
  show (if wipeOk ρ vs = true then match lcLoop vs g mt me (ps.map (·.1)) ρ with | .ok ys ρ' => if lenOk ys.length = true ∧ ρ'.length = ρ.length then Out.ok (Vl.nw (D.lst ys)) (restore vs 0 ρ ρ') else .no | _ => .no else .no) = _
  rw [if_pos hw, e]
  show (if _ then _ else _) = _
  rw [if_pos ⟨decide_eq_true (by rw [List.length_map]; exact hl), el⟩, er]
/-! ### things with arrows -/
def tkS (g t : Nat) (n : Int) : Nat → Int × List (Int × Int)
  | 0 => (n, [])
  | k + 1 => ((tkS g t n k).1.fdiv ((g : Int) * t), (tkS g t n k).2 ++ [((tkS g t n k).1.fmod g, ((tkS g t n k).1.fdiv g).fmod t)])
theorem tk_1 (g t : Nat) (n : Int) (k : Nat) : (tkS g t n (k + 1)).1 = (tkS g t n k).1.fdiv ((g : Int) * t) := rfl
theorem tk_2 (g t : Nat) (n : Int) (k : Nat) : (tkS g t n (k + 1)).2 = (tkS g t n k).2 ++ [((tkS g t n k).1.fmod g, ((tkS g t n k).1.fdiv g).fmod t)] := rfl
theorem tk_len (g t : Nat) (n : Int) : ∀ k, (tkS g t n k).2.length = k
  | 0 => rfl
  | k + 1 => by rw [tk_2, List.length_append, tk_len g t n k]; rfl
theorem tk_arrow (g t : Nat) (n : Int) (ht : 0 < t) : ∀ k, ∀ p ∈ (tkS g t n k).2, 0 ≤ p.2 ∧ p.2 < t
  | 0, p, h => by cases h
  | k + 1, p, h => by
    rw [tk_2] at h
    rcases List.mem_append.mp h with h | h
    · exact tk_arrow g t n ht k p h
    · cases List.mem_singleton.mp h
      have key : ∀ x : Int, 0 ≤ x.fmod t ∧ x.fmod t < t := fun x => by
        rw [Int.fmod_eq_emod_of_nonneg x (by omega)]
        exact ⟨Int.emod_nonneg x (by omega), Int.emod_lt_of_pos x (by omega)⟩
      exact key _
def pD (p : Int × Int) : D := .tup [.int p.1, .int p.2]
def okT (l : List (Int × Int)) : Bool := l.all fun p => decide ((l.getD p.2.toNat (0, 0)).1 = p.1)
def badF (l : List (Int × Int)) : D → Option D
  | .tup [.int a, .int b] => if (l.getD b.toNat (0, 0)).1 = a then none else some (.int 1)
  | _ => none
theorem bad_ints (l : List (Int × Int)) : ∀ m : List (Int × Int), ∃ cs : List Int, (m.map pD).filterMap (badF l) = cs.map .int ∧ (decide (cs = []) = m.all fun p => decide ((l.getD p.2.toNat (0, 0)).1 = p.1))
  | [] => ⟨[], rfl, rfl⟩
  | p :: m => by
    obtain ⟨cs, e, h⟩ := bad_ints l m
    by_cases hp : (l.getD p.2.toNat (0, 0)).1 = p.1
    · refine ⟨cs, ?_, ?_⟩
      · rw [List.map_cons, List.filterMap_cons_none (by show (if _ then _ else _) = _; rw [if_pos hp]), e]
      · rw [List.all_cons, decide_eq_true hp, Bool.true_and, h]
    · refine ⟨1 :: cs, ?_, ?_⟩
      · rw [List.map_cons, List.filterMap_cons_some (b := .int 1) (by show (if _ then _ else _) = _; rw [if_neg hp]), e]
        rfl
      · rw [List.all_cons, decide_eq_false hp, Bool.false_and]
        rfl
def cntS (g t : Nat) : Nat → Int
  | 0 => 0
  | n + 1 => cntS g t n + (if okT (tkS g t n t).2 = true then 1 else 0)
theorem pD_snoc (l : List (Int × Int)) (p : Int × Int) : l.map pD ++ [.tup [.int p.1, .int p.2]] = (l ++ [p]).map pD := by
  rw [List.map_append]
  rfl
theorem arrows_run (g t : Nat) (hg0 : 0 < g) (hg : g ≤ 3) (ht : t ≤ 3) (hm : (g * t) ^ t ≤ 1000) : m_law_arrows [.fz (.int g), .fz (.int t)] = .ok (.fz (.int (cntS g t ((g * t) ^ t)))) [.fz (.int g), .fz (.int t)] := by
  have w : Fw (m_law_arrows [.fz (.int g), .fz (.int t)]) fun r os => r = .fz (.int (cntS g t ((g * t) ^ t))) ∧ os = [.fz (.int g), .fz (.int t)] := by
    refine fw_fin ?_
    change Wq (b_law_arrows [.fz (.int g), .fz (.int t), .un, .un, .un, .un, .un, .un, .un, .un]) _
    unfold b_law_arrows
    have er : rng1 [.int (t : Int)] = some (rangeL 0 t) := by
      rw [Ev.p_rng1 _ (inR_of (by omega) (by omega)), show (t : Int).toNat = t by omega]
    simp only [Ev.p_pure, Ev.p_ok, Ev.p_toD, Ev.p_kDf, Ev.p_kDn, Ev.p_toV, Ev.p_kV, Ev.p_some, Ev.p_var, Ev.p_varF, Ev.p_varL, Ev.p_varO, Ev.p_varN, Ev.p_mov, Ev.p_movF, Ev.p_movL, Ev.p_movO, Ev.p_movN, Ev.p_ev2, Ev.p_k2, Ev.p_k2', Ev.p_ev2T, Ev.p_kT, Ev.p_kT', Ev.p_vb, Ev.p_ev1, Ev.p_evC, Ev.p_evL, Ev.p_evO, Ev.p_evSeq, Ev.p_tTruth, Ev.p_kf, Ev.p_cons, Ev.p_vcons, Ev.p_acons, Ev.p_kC1, Ev.p_kC2, Ev.p_arV, Ev.p_kAr, Ev.p_arR, Ev.p_arF, Ev.p_arOw, Ev.p_arN, Ev.p_arL, Ev.p_call, Ev.p_kL1, Ev.p_kL2, Ev.p_if, Ev.p_kIt, Ev.p_kIf, Ev.p_tAnd, Ev.p_tOr, Ev.p_tNot, Ev.p_kN, Ev.p_and, Ev.p_kA, Ev.p_or, Ev.p_kO, Ev.p_not, Ev.p_kNt, Ev.p_ixS, Ev.p_ixO, Ev.p_kX, Ev.p_kXO, Ev.p_slotD, Ev.p_slF, Ev.p_slO, Ev.p_slN, Ev.p_slL, Ev.p_seq, Ev.p_kSn, Ev.p_kSr, Ev.p_kSb, Ev.p_kSc, Ev.p_slot, Ev.p_setU, Ev.p_setF, Ev.p_setO, Ev.p_ofF, Ev.p_ofN, Ev.p_kNx, Ev.p_set, Ev.p_kSet, Ev.p_ret, Ev.p_kRt, Ev.p_expr, Ev.p_kEx, Ev.p_par, Ev.p_kPar, Ev.p_kSs, Ev.p_ss0, Ev.p_ss, Ev.p_asg, Ev.p_kAsg, Ev.p_unp, Ev.p_gs, Ev.p_kG, Ev.p_gs0, Ev.p_gIx, Ev.p_gIO, Ev.p_kUp, Ev.p_upd, Ev.p_upO, Ev.p_upN, Ev.p_upDt, Ev.p_upDf, Ev.p_put, Ev.p_mut, Ev.p_mutO, Ev.p_kNon, Ev.p_kM1, Ev.p_app, Ev.p_sl, Ev.p_kSl1, Ev.p_kSl2, Ev.p_kSl3, Ev.p_add, Ev.p_addL, Ev.p_i2, Ev.p_u1, Ev.p_lt, Ev.p_le, Ev.p_gt, Ev.p_ge, Ev.p_eqI, Ev.p_neI, Ev.p_eqS, Ev.p_neS, Ev.p_isB, Ev.p_isN, Ev.p_notN, Ev.p_tup, Ev.p_lst, Ev.p_abs, Ev.p_intI, Ev.p_intB, Ev.p_len, Ev.p_dlL, Ev.p_dlT, Ev.p_itL, Ev.p_itT, Ev.p_d, Ev.p_dn, Ev.p_rng1, Ev.p_rng2, Ev.p_lo0, Ev.p_lo1, Ev.p_lo2, Ev.p_lo3, Ev.p_lo4, Ev.p_lo5, Ev.p_lo6, Ev.p_lo7, Ev.p_lo8, Ev.p_lo9, Ev.p_lo10, Ev.p_lo11, Ev.p_lo12, Ev.p_lo13, Ev.p_lo14, Ev.p_lo15, Ev.p_lo16, Ev.p_lo17, Ev.p_lo18, Ev.p_lo19, Ev.p_lo20, Ev.p_lo21, Ev.p_lo22, Ev.p_lo23, Ev.p_lo24, Ev.p_p18, Ev.p_p40, Ev.p_lpN, Ev.p_lpC, Ev.p_lpB, Ev.p_lpR, Ev.p_for, Ev.p_whT, Ev.p_whF, Ev.p_lc, Ev.p_callAr, Ev.p_callO1, Ev.p_callO2, Ev.p_refV, Ev.p_refR, Ev.p_ref0, Ev.p_ga, Ev.p_ga0, Ev.p_gaO, Ev.p_gaV, Ev.p_gaR, Ev.p_leF, Ev.p_leL, Ev.p_leO, Ev.p_leN, Ev.p_sc, Ev.p_sc0, Ev.p_scN, Ev.p_scFs, Ev.p_scLs, Ev.p_scOn, Ev.p_scOl, Ev.p_scNn, Ev.p_scNl, Ev.p_fiR, Ev.p_fiV, Ev.p_fi0, Ev.fin_rt, Ev.fin_nx, Ev.ou_ln, Ev.ou_fz, Ev.ou_0, Ev.at_0, Ev.at_1, Ev.at_2, Ev.at_3, Ev.p_lenS, Ev.p_lenO, Ev.p_bind, Ev.q_ok, List.getElem?_cons_zero, List.getElem?_cons_succ, List.set_cons_zero, List.set_cons_succ, List.length_cons, List.length_nil, List.cons_append, List.nil_append, Option.map_some, ↓reduceIte, Bool.not_true, Bool.not_false, decide_true, decide_false, Ev.p_div, Ev.p_mod, Ev.p_pow, Ev.p_mul, Ev.dist, List.contains_cons, List.contains_nil, Bool.or_false, Bool.false_and, Bool.and_true, Bool.true_and, Nat.reduceAdd, Nat.reduceBEq, Ev.permN, Ev.perm, List.map_cons, List.map_nil, List.getD_cons_zero, List.getD_cons_succ, and_self, cond_true, cond_false, Int.cast_ofNat_Int, Int.natCast_one, Int.natCast_zero, Int.reduceEq, Int.reduceLE, Int.reduceLT, Int.reduceNeg, Int.reduceGT, Int.reduceAdd, Int.reduceMul, Int.reduceSub, Int.reduceToNat, Int.reducePow, Int.reduceNe, reduceCtorEq, eq_self, er]
    rw [q_bind]
    refine for_range t (I := fun k ρ => ∃ x, ρ = [.fz (.int g), .fz (.int t), .fz (.int (((g : Int) * t) ^ k)), x, .un, .un, .un, .un, .un, .un] ∧ (x = .un ∨ ∃ z, x = .fz z)) (fun k ρ hk hI => ?_) (fun ρ hI => ?_) _ ⟨_, by rw [Int.pow_zero], .inl rfl⟩
    · obtain ⟨x, rfl, hx⟩ := hI
      have gt9 : ((g : Int) * t).natAbs < 2 ^ 8 := by
        have : g * t ≤ 3 * 3 := Nat.mul_le_mul hg ht
        rw [Int.natAbs_mul]
        show g * t < 2 ^ 8
        omega
      have g8 : (g : Int).natAbs < 2 ^ 8 := by omega
      have t8 : (t : Int).natAbs < 2 ^ 8 := by omega
      obtain ⟨m1, m2⟩ := mul3 (pow_lt gt9 k) g8 t8 (by omega)
      have ep : ((g : Int) * t) ^ k * g * t = ((g : Int) * t) ^ (k + 1) := by rw [Int.pow_succ, Int.mul_assoc]
      rcases hx with rfl | ⟨z, rfl⟩
      · simp only [Ev.p_pure, Ev.p_ok, Ev.p_toD, Ev.p_kDf, Ev.p_kDn, Ev.p_toV, Ev.p_kV, Ev.p_some, Ev.p_var, Ev.p_varF, Ev.p_varL, Ev.p_varO, Ev.p_varN, Ev.p_mov, Ev.p_movF, Ev.p_movL, Ev.p_movO, Ev.p_movN, Ev.p_ev2, Ev.p_k2, Ev.p_k2', Ev.p_ev2T, Ev.p_kT, Ev.p_kT', Ev.p_vb, Ev.p_ev1, Ev.p_evC, Ev.p_evL, Ev.p_evO, Ev.p_evSeq, Ev.p_tTruth, Ev.p_kf, Ev.p_cons, Ev.p_vcons, Ev.p_acons, Ev.p_kC1, Ev.p_kC2, Ev.p_arV, Ev.p_kAr, Ev.p_arR, Ev.p_arF, Ev.p_arOw, Ev.p_arN, Ev.p_arL, Ev.p_call, Ev.p_kL1, Ev.p_kL2, Ev.p_if, Ev.p_kIt, Ev.p_kIf, Ev.p_tAnd, Ev.p_tOr, Ev.p_tNot, Ev.p_kN, Ev.p_and, Ev.p_kA, Ev.p_or, Ev.p_kO, Ev.p_not, Ev.p_kNt, Ev.p_ixS, Ev.p_ixO, Ev.p_kX, Ev.p_kXO, Ev.p_slotD, Ev.p_slF, Ev.p_slO, Ev.p_slN, Ev.p_slL, Ev.p_seq, Ev.p_kSn, Ev.p_kSr, Ev.p_kSb, Ev.p_kSc, Ev.p_slot, Ev.p_setU, Ev.p_setF, Ev.p_setO, Ev.p_ofF, Ev.p_ofN, Ev.p_kNx, Ev.p_set, Ev.p_kSet, Ev.p_ret, Ev.p_kRt, Ev.p_expr, Ev.p_kEx, Ev.p_par, Ev.p_kPar, Ev.p_kSs, Ev.p_ss0, Ev.p_ss, Ev.p_asg, Ev.p_kAsg, Ev.p_unp, Ev.p_gs, Ev.p_kG, Ev.p_gs0, Ev.p_gIx, Ev.p_gIO, Ev.p_kUp, Ev.p_upd, Ev.p_upO, Ev.p_upN, Ev.p_upDt, Ev.p_upDf, Ev.p_put, Ev.p_mut, Ev.p_mutO, Ev.p_kNon, Ev.p_kM1, Ev.p_app, Ev.p_sl, Ev.p_kSl1, Ev.p_kSl2, Ev.p_kSl3, Ev.p_add, Ev.p_addL, Ev.p_i2, Ev.p_u1, Ev.p_lt, Ev.p_le, Ev.p_gt, Ev.p_ge, Ev.p_eqI, Ev.p_neI, Ev.p_eqS, Ev.p_neS, Ev.p_isB, Ev.p_isN, Ev.p_notN, Ev.p_tup, Ev.p_lst, Ev.p_abs, Ev.p_intI, Ev.p_intB, Ev.p_len, Ev.p_dlL, Ev.p_dlT, Ev.p_itL, Ev.p_itT, Ev.p_d, Ev.p_dn, Ev.p_rng1, Ev.p_rng2, Ev.p_lo0, Ev.p_lo1, Ev.p_lo2, Ev.p_lo3, Ev.p_lo4, Ev.p_lo5, Ev.p_lo6, Ev.p_lo7, Ev.p_lo8, Ev.p_lo9, Ev.p_lo10, Ev.p_lo11, Ev.p_lo12, Ev.p_lo13, Ev.p_lo14, Ev.p_lo15, Ev.p_lo16, Ev.p_lo17, Ev.p_lo18, Ev.p_lo19, Ev.p_lo20, Ev.p_lo21, Ev.p_lo22, Ev.p_lo23, Ev.p_lo24, Ev.p_p18, Ev.p_p40, Ev.p_lpN, Ev.p_lpC, Ev.p_lpB, Ev.p_lpR, Ev.p_for, Ev.p_whT, Ev.p_whF, Ev.p_lc, Ev.p_callAr, Ev.p_callO1, Ev.p_callO2, Ev.p_refV, Ev.p_refR, Ev.p_ref0, Ev.p_ga, Ev.p_ga0, Ev.p_gaO, Ev.p_gaV, Ev.p_gaR, Ev.p_leF, Ev.p_leL, Ev.p_leO, Ev.p_leN, Ev.p_sc, Ev.p_sc0, Ev.p_scN, Ev.p_scFs, Ev.p_scLs, Ev.p_scOn, Ev.p_scOl, Ev.p_scNn, Ev.p_scNl, Ev.p_fiR, Ev.p_fiV, Ev.p_fi0, Ev.fin_rt, Ev.fin_nx, Ev.ou_ln, Ev.ou_fz, Ev.ou_0, Ev.at_0, Ev.at_1, Ev.at_2, Ev.at_3, Ev.p_lenS, Ev.p_lenO, Ev.p_bind, Ev.q_ok, List.getElem?_cons_zero, List.getElem?_cons_succ, List.set_cons_zero, List.set_cons_succ, List.length_cons, List.length_nil, List.cons_append, List.nil_append, Option.map_some, ↓reduceIte, Bool.not_true, Bool.not_false, decide_true, decide_false, Ev.p_div, Ev.p_mod, Ev.p_pow, Ev.p_mul, Ev.dist, List.contains_cons, List.contains_nil, Bool.or_false, Bool.false_and, Bool.and_true, Bool.true_and, Nat.reduceAdd, Nat.reduceBEq, Ev.permN, Ev.perm, List.map_cons, List.map_nil, List.getD_cons_zero, List.getD_cons_succ, and_self, cond_true, cond_false, Int.cast_ofNat_Int, Int.natCast_one, Int.natCast_zero, Int.reduceEq, Int.reduceLE, Int.reduceLT, Int.reduceNeg, Int.reduceGT, Int.reduceAdd, Int.reduceMul, Int.reduceSub, Int.reduceToNat, Int.reducePow, Int.reduceNe, reduceCtorEq, eq_self, m1, m2, ep]
        exact ⟨_, rfl, .inr ⟨_, rfl⟩⟩
      · simp only [Ev.p_pure, Ev.p_ok, Ev.p_toD, Ev.p_kDf, Ev.p_kDn, Ev.p_toV, Ev.p_kV, Ev.p_some, Ev.p_var, Ev.p_varF, Ev.p_varL, Ev.p_varO, Ev.p_varN, Ev.p_mov, Ev.p_movF, Ev.p_movL, Ev.p_movO, Ev.p_movN, Ev.p_ev2, Ev.p_k2, Ev.p_k2', Ev.p_ev2T, Ev.p_kT, Ev.p_kT', Ev.p_vb, Ev.p_ev1, Ev.p_evC, Ev.p_evL, Ev.p_evO, Ev.p_evSeq, Ev.p_tTruth, Ev.p_kf, Ev.p_cons, Ev.p_vcons, Ev.p_acons, Ev.p_kC1, Ev.p_kC2, Ev.p_arV, Ev.p_kAr, Ev.p_arR, Ev.p_arF, Ev.p_arOw, Ev.p_arN, Ev.p_arL, Ev.p_call, Ev.p_kL1, Ev.p_kL2, Ev.p_if, Ev.p_kIt, Ev.p_kIf, Ev.p_tAnd, Ev.p_tOr, Ev.p_tNot, Ev.p_kN, Ev.p_and, Ev.p_kA, Ev.p_or, Ev.p_kO, Ev.p_not, Ev.p_kNt, Ev.p_ixS, Ev.p_ixO, Ev.p_kX, Ev.p_kXO, Ev.p_slotD, Ev.p_slF, Ev.p_slO, Ev.p_slN, Ev.p_slL, Ev.p_seq, Ev.p_kSn, Ev.p_kSr, Ev.p_kSb, Ev.p_kSc, Ev.p_slot, Ev.p_setU, Ev.p_setF, Ev.p_setO, Ev.p_ofF, Ev.p_ofN, Ev.p_kNx, Ev.p_set, Ev.p_kSet, Ev.p_ret, Ev.p_kRt, Ev.p_expr, Ev.p_kEx, Ev.p_par, Ev.p_kPar, Ev.p_kSs, Ev.p_ss0, Ev.p_ss, Ev.p_asg, Ev.p_kAsg, Ev.p_unp, Ev.p_gs, Ev.p_kG, Ev.p_gs0, Ev.p_gIx, Ev.p_gIO, Ev.p_kUp, Ev.p_upd, Ev.p_upO, Ev.p_upN, Ev.p_upDt, Ev.p_upDf, Ev.p_put, Ev.p_mut, Ev.p_mutO, Ev.p_kNon, Ev.p_kM1, Ev.p_app, Ev.p_sl, Ev.p_kSl1, Ev.p_kSl2, Ev.p_kSl3, Ev.p_add, Ev.p_addL, Ev.p_i2, Ev.p_u1, Ev.p_lt, Ev.p_le, Ev.p_gt, Ev.p_ge, Ev.p_eqI, Ev.p_neI, Ev.p_eqS, Ev.p_neS, Ev.p_isB, Ev.p_isN, Ev.p_notN, Ev.p_tup, Ev.p_lst, Ev.p_abs, Ev.p_intI, Ev.p_intB, Ev.p_len, Ev.p_dlL, Ev.p_dlT, Ev.p_itL, Ev.p_itT, Ev.p_d, Ev.p_dn, Ev.p_rng1, Ev.p_rng2, Ev.p_lo0, Ev.p_lo1, Ev.p_lo2, Ev.p_lo3, Ev.p_lo4, Ev.p_lo5, Ev.p_lo6, Ev.p_lo7, Ev.p_lo8, Ev.p_lo9, Ev.p_lo10, Ev.p_lo11, Ev.p_lo12, Ev.p_lo13, Ev.p_lo14, Ev.p_lo15, Ev.p_lo16, Ev.p_lo17, Ev.p_lo18, Ev.p_lo19, Ev.p_lo20, Ev.p_lo21, Ev.p_lo22, Ev.p_lo23, Ev.p_lo24, Ev.p_p18, Ev.p_p40, Ev.p_lpN, Ev.p_lpC, Ev.p_lpB, Ev.p_lpR, Ev.p_for, Ev.p_whT, Ev.p_whF, Ev.p_lc, Ev.p_callAr, Ev.p_callO1, Ev.p_callO2, Ev.p_refV, Ev.p_refR, Ev.p_ref0, Ev.p_ga, Ev.p_ga0, Ev.p_gaO, Ev.p_gaV, Ev.p_gaR, Ev.p_leF, Ev.p_leL, Ev.p_leO, Ev.p_leN, Ev.p_sc, Ev.p_sc0, Ev.p_scN, Ev.p_scFs, Ev.p_scLs, Ev.p_scOn, Ev.p_scOl, Ev.p_scNn, Ev.p_scNl, Ev.p_fiR, Ev.p_fiV, Ev.p_fi0, Ev.fin_rt, Ev.fin_nx, Ev.ou_ln, Ev.ou_fz, Ev.ou_0, Ev.at_0, Ev.at_1, Ev.at_2, Ev.at_3, Ev.p_lenS, Ev.p_lenO, Ev.p_bind, Ev.q_ok, List.getElem?_cons_zero, List.getElem?_cons_succ, List.set_cons_zero, List.set_cons_succ, List.length_cons, List.length_nil, List.cons_append, List.nil_append, Option.map_some, ↓reduceIte, Bool.not_true, Bool.not_false, decide_true, decide_false, Ev.p_div, Ev.p_mod, Ev.p_pow, Ev.p_mul, Ev.dist, List.contains_cons, List.contains_nil, Bool.or_false, Bool.false_and, Bool.and_true, Bool.true_and, Nat.reduceAdd, Nat.reduceBEq, Ev.permN, Ev.perm, List.map_cons, List.map_nil, List.getD_cons_zero, List.getD_cons_succ, and_self, cond_true, cond_false, Int.cast_ofNat_Int, Int.natCast_one, Int.natCast_zero, Int.reduceEq, Int.reduceLE, Int.reduceLT, Int.reduceNeg, Int.reduceGT, Int.reduceAdd, Int.reduceMul, Int.reduceSub, Int.reduceToNat, Int.reducePow, Int.reduceNe, reduceCtorEq, eq_self, m1, m2, ep]
        exact ⟨_, rfl, .inr ⟨_, rfl⟩⟩
    · obtain ⟨x, rfl, hx⟩ := hI
      have ec : ((g : Int) * t) ^ t = (((g * t) ^ t : Nat) : Int) := by
        rw [Int.natCast_pow, Int.natCast_mul]
      rw [ec]
      generalize (g * t) ^ t = N at hm
      have er2 : rng1 [.int (N : Int)] = some (rangeL 0 N) := by
        rw [Ev.p_rng1 _ (inR_of (by omega) (by omega)), show (N : Int).toNat = N by omega]
      simp only [Ev.p_pure, Ev.p_ok, Ev.p_toD, Ev.p_kDf, Ev.p_kDn, Ev.p_toV, Ev.p_kV, Ev.p_some, Ev.p_var, Ev.p_varF, Ev.p_varL, Ev.p_varO, Ev.p_varN, Ev.p_mov, Ev.p_movF, Ev.p_movL, Ev.p_movO, Ev.p_movN, Ev.p_ev2, Ev.p_k2, Ev.p_k2', Ev.p_ev2T, Ev.p_kT, Ev.p_kT', Ev.p_vb, Ev.p_ev1, Ev.p_evC, Ev.p_evL, Ev.p_evO, Ev.p_evSeq, Ev.p_tTruth, Ev.p_kf, Ev.p_cons, Ev.p_vcons, Ev.p_acons, Ev.p_kC1, Ev.p_kC2, Ev.p_arV, Ev.p_kAr, Ev.p_arR, Ev.p_arF, Ev.p_arOw, Ev.p_arN, Ev.p_arL, Ev.p_call, Ev.p_kL1, Ev.p_kL2, Ev.p_if, Ev.p_kIt, Ev.p_kIf, Ev.p_tAnd, Ev.p_tOr, Ev.p_tNot, Ev.p_kN, Ev.p_and, Ev.p_kA, Ev.p_or, Ev.p_kO, Ev.p_not, Ev.p_kNt, Ev.p_ixS, Ev.p_ixO, Ev.p_kX, Ev.p_kXO, Ev.p_slotD, Ev.p_slF, Ev.p_slO, Ev.p_slN, Ev.p_slL, Ev.p_seq, Ev.p_kSn, Ev.p_kSr, Ev.p_kSb, Ev.p_kSc, Ev.p_slot, Ev.p_setU, Ev.p_setF, Ev.p_setO, Ev.p_ofF, Ev.p_ofN, Ev.p_kNx, Ev.p_set, Ev.p_kSet, Ev.p_ret, Ev.p_kRt, Ev.p_expr, Ev.p_kEx, Ev.p_par, Ev.p_kPar, Ev.p_kSs, Ev.p_ss0, Ev.p_ss, Ev.p_asg, Ev.p_kAsg, Ev.p_unp, Ev.p_gs, Ev.p_kG, Ev.p_gs0, Ev.p_gIx, Ev.p_gIO, Ev.p_kUp, Ev.p_upd, Ev.p_upO, Ev.p_upN, Ev.p_upDt, Ev.p_upDf, Ev.p_put, Ev.p_mut, Ev.p_mutO, Ev.p_kNon, Ev.p_kM1, Ev.p_app, Ev.p_sl, Ev.p_kSl1, Ev.p_kSl2, Ev.p_kSl3, Ev.p_add, Ev.p_addL, Ev.p_i2, Ev.p_u1, Ev.p_lt, Ev.p_le, Ev.p_gt, Ev.p_ge, Ev.p_eqI, Ev.p_neI, Ev.p_eqS, Ev.p_neS, Ev.p_isB, Ev.p_isN, Ev.p_notN, Ev.p_tup, Ev.p_lst, Ev.p_abs, Ev.p_intI, Ev.p_intB, Ev.p_len, Ev.p_dlL, Ev.p_dlT, Ev.p_itL, Ev.p_itT, Ev.p_d, Ev.p_dn, Ev.p_rng1, Ev.p_rng2, Ev.p_lo0, Ev.p_lo1, Ev.p_lo2, Ev.p_lo3, Ev.p_lo4, Ev.p_lo5, Ev.p_lo6, Ev.p_lo7, Ev.p_lo8, Ev.p_lo9, Ev.p_lo10, Ev.p_lo11, Ev.p_lo12, Ev.p_lo13, Ev.p_lo14, Ev.p_lo15, Ev.p_lo16, Ev.p_lo17, Ev.p_lo18, Ev.p_lo19, Ev.p_lo20, Ev.p_lo21, Ev.p_lo22, Ev.p_lo23, Ev.p_lo24, Ev.p_p18, Ev.p_p40, Ev.p_lpN, Ev.p_lpC, Ev.p_lpB, Ev.p_lpR, Ev.p_for, Ev.p_whT, Ev.p_whF, Ev.p_lc, Ev.p_callAr, Ev.p_callO1, Ev.p_callO2, Ev.p_refV, Ev.p_refR, Ev.p_ref0, Ev.p_ga, Ev.p_ga0, Ev.p_gaO, Ev.p_gaV, Ev.p_gaR, Ev.p_leF, Ev.p_leL, Ev.p_leO, Ev.p_leN, Ev.p_sc, Ev.p_sc0, Ev.p_scN, Ev.p_scFs, Ev.p_scLs, Ev.p_scOn, Ev.p_scOl, Ev.p_scNn, Ev.p_scNl, Ev.p_fiR, Ev.p_fiV, Ev.p_fi0, Ev.fin_rt, Ev.fin_nx, Ev.ou_ln, Ev.ou_fz, Ev.ou_0, Ev.at_0, Ev.at_1, Ev.at_2, Ev.at_3, Ev.p_lenS, Ev.p_lenO, Ev.p_bind, Ev.q_ok, List.getElem?_cons_zero, List.getElem?_cons_succ, List.set_cons_zero, List.set_cons_succ, List.length_cons, List.length_nil, List.cons_append, List.nil_append, Option.map_some, ↓reduceIte, Bool.not_true, Bool.not_false, decide_true, decide_false, Ev.p_div, Ev.p_mod, Ev.p_pow, Ev.p_mul, Ev.dist, List.contains_cons, List.contains_nil, Bool.or_false, Bool.false_and, Bool.and_true, Bool.true_and, Nat.reduceAdd, Nat.reduceBEq, Ev.permN, Ev.perm, List.map_cons, List.map_nil, List.getD_cons_zero, List.getD_cons_succ, and_self, cond_true, cond_false, Int.cast_ofNat_Int, Int.natCast_one, Int.natCast_zero, Int.reduceEq, Int.reduceLE, Int.reduceLT, Int.reduceNeg, Int.reduceGT, Int.reduceAdd, Int.reduceMul, Int.reduceSub, Int.reduceToNat, Int.reducePow, Int.reduceNe, reduceCtorEq, eq_self, er2]
      rw [q_bind]
      refine for_range N (I := fun n ρ => ∃ x a b c, ρ = [.fz (.int g), .fz (.int t), .fz (.int N), x, .fz (.int (cntS g t n)), a, b, c, .un, .un] ∧ (x = .un ∨ ∃ z, x = .fz z) ∧ ((a = .un ∧ b = .un ∧ c = .un) ∨ ∃ u v w, a = .fz u ∧ b = .fz v ∧ c = .fz w)) (fun n ρ hn hI => ?_) (fun ρ hI => ?_) _ ⟨x, _, _, _, rfl, hx, .inl ⟨rfl, rfl, rfl⟩⟩
      · obtain ⟨x, a, b, c, rfl, hx, hab⟩ := hI
        clear hm
        have dg : divOk (g : Int) = true := divOk_of (b := 64) (by omega) (by omega) (by decide) (by decide)
        have ng : (g : Int) ≠ 0 := by omega
        have mo : mulOk (g : Int) (t : Int) = true := mulOk_of (a := 64) (b := 64) (by omega) (by omega) (by decide)
        have tail : ∀ x : Sl, (x = .un ∨ ∃ z, x = .fz z) → Wq ((loopD (fun d => setSlot 3 (.fz d))
            (mseq (evExpr (evMut 7 fApp (evCons (toD (evC mkTup (evCons (toD (ev2 (i2 fMod) (toD (evC bInt (evCons (evVar 6) (mpure [])))) (evVar 0))) (evCons (toD (ev2 (i2 fMod) (toD (evC bInt (evCons (toD (ev2 (i2 fDiv) (evVar 6) (evVar 0))) (mpure [])))) (evVar 1))) (mpure []))))) (mpure []))))
              (evSet 6 (ev2 (i2 fDiv) (evVar 6) (toD (ev2 opMul (evVar 0) (evVar 1))))))
            (rangeL 0 t) [.fz (.int g), .fz (.int t), .fz (.int N), x, .fz (.int (cntS g t n)), .fz (.int n), .fz (.int n), .ow (.lst []), .un, .un]))
            fun f ρ => f = .nx ∧ ∃ x, (x = .un ∨ ∃ z, x = .fz z) ∧ ρ = [.fz (.int g), .fz (.int t), .fz (.int N), x, .fz (.int (cntS g t n)), .fz (.int n), .fz (.int (tkS g t n t).1), .ow (.lst ((tkS g t n t).2.map pD)), .un, .un] := by
          intro x hx
          refine for_range t (I := fun k ρ => ∃ x, (x = .un ∨ ∃ z, x = .fz z) ∧ ρ = [.fz (.int g), .fz (.int t), .fz (.int N), x, .fz (.int (cntS g t n)), .fz (.int n), .fz (.int (tkS g t n k).1), .ow (.lst ((tkS g t n k).2.map pD)), .un, .un]) (fun k ρ hk hI => ?_) (fun ρ hI => ?_) _ ⟨x, hx, rfl⟩
          · obtain ⟨x, hx, rfl⟩ := hI
            have nt : (t : Int) ≠ 0 := by omega
            have gtp : 0 < g * t := Nat.mul_pos hg0 (by omega)
            have gt9 : g * t ≤ 3 * 3 := Nat.mul_le_mul hg ht
            have ngt : (g : Int) * t ≠ 0 := by
              rw [← Int.natCast_mul]
              omega
            have lgt : ((g : Int) * t).natAbs < 2 ^ 64 := by
              rw [← Int.natCast_mul]
              omega
            have dgt : divOk ((g : Int) * t) = true := divOk_of (b := 64) ngt lgt (by decide) (by decide)
            have la : ((tkS g t n k).2.map pD).length < 16777216 := by
              rw [List.length_map, tk_len]
              omega
            rcases hx with rfl | ⟨z, rfl⟩
            · simp only [Ev.p_pure, Ev.p_ok, Ev.p_toD, Ev.p_kDf, Ev.p_kDn, Ev.p_toV, Ev.p_kV, Ev.p_some, Ev.p_var, Ev.p_varF, Ev.p_varL, Ev.p_varO, Ev.p_varN, Ev.p_mov, Ev.p_movF, Ev.p_movL, Ev.p_movO, Ev.p_movN, Ev.p_ev2, Ev.p_k2, Ev.p_k2', Ev.p_ev2T, Ev.p_kT, Ev.p_kT', Ev.p_vb, Ev.p_ev1, Ev.p_evC, Ev.p_evL, Ev.p_evO, Ev.p_evSeq, Ev.p_tTruth, Ev.p_kf, Ev.p_cons, Ev.p_vcons, Ev.p_acons, Ev.p_kC1, Ev.p_kC2, Ev.p_arV, Ev.p_kAr, Ev.p_arR, Ev.p_arF, Ev.p_arOw, Ev.p_arN, Ev.p_arL, Ev.p_call, Ev.p_kL1, Ev.p_kL2, Ev.p_if, Ev.p_kIt, Ev.p_kIf, Ev.p_tAnd, Ev.p_tOr, Ev.p_tNot, Ev.p_kN, Ev.p_and, Ev.p_kA, Ev.p_or, Ev.p_kO, Ev.p_not, Ev.p_kNt, Ev.p_ixS, Ev.p_ixO, Ev.p_kX, Ev.p_kXO, Ev.p_slotD, Ev.p_slF, Ev.p_slO, Ev.p_slN, Ev.p_slL, Ev.p_seq, Ev.p_kSn, Ev.p_kSr, Ev.p_kSb, Ev.p_kSc, Ev.p_slot, Ev.p_setU, Ev.p_setF, Ev.p_setO, Ev.p_ofF, Ev.p_ofN, Ev.p_kNx, Ev.p_set, Ev.p_kSet, Ev.p_ret, Ev.p_kRt, Ev.p_expr, Ev.p_kEx, Ev.p_par, Ev.p_kPar, Ev.p_kSs, Ev.p_ss0, Ev.p_ss, Ev.p_asg, Ev.p_kAsg, Ev.p_unp, Ev.p_gs, Ev.p_kG, Ev.p_gs0, Ev.p_gIx, Ev.p_gIO, Ev.p_kUp, Ev.p_upd, Ev.p_upO, Ev.p_upN, Ev.p_upDt, Ev.p_upDf, Ev.p_put, Ev.p_mut, Ev.p_mutO, Ev.p_kNon, Ev.p_kM1, Ev.p_app, Ev.p_sl, Ev.p_kSl1, Ev.p_kSl2, Ev.p_kSl3, Ev.p_add, Ev.p_addL, Ev.p_i2, Ev.p_u1, Ev.p_lt, Ev.p_le, Ev.p_gt, Ev.p_ge, Ev.p_eqI, Ev.p_neI, Ev.p_eqS, Ev.p_neS, Ev.p_isB, Ev.p_isN, Ev.p_notN, Ev.p_tup, Ev.p_lst, Ev.p_abs, Ev.p_intI, Ev.p_intB, Ev.p_len, Ev.p_dlL, Ev.p_dlT, Ev.p_itL, Ev.p_itT, Ev.p_d, Ev.p_dn, Ev.p_rng1, Ev.p_rng2, Ev.p_lo0, Ev.p_lo1, Ev.p_lo2, Ev.p_lo3, Ev.p_lo4, Ev.p_lo5, Ev.p_lo6, Ev.p_lo7, Ev.p_lo8, Ev.p_lo9, Ev.p_lo10, Ev.p_lo11, Ev.p_lo12, Ev.p_lo13, Ev.p_lo14, Ev.p_lo15, Ev.p_lo16, Ev.p_lo17, Ev.p_lo18, Ev.p_lo19, Ev.p_lo20, Ev.p_lo21, Ev.p_lo22, Ev.p_lo23, Ev.p_lo24, Ev.p_p18, Ev.p_p40, Ev.p_lpN, Ev.p_lpC, Ev.p_lpB, Ev.p_lpR, Ev.p_for, Ev.p_whT, Ev.p_whF, Ev.p_lc, Ev.p_callAr, Ev.p_callO1, Ev.p_callO2, Ev.p_refV, Ev.p_refR, Ev.p_ref0, Ev.p_ga, Ev.p_ga0, Ev.p_gaO, Ev.p_gaV, Ev.p_gaR, Ev.p_leF, Ev.p_leL, Ev.p_leO, Ev.p_leN, Ev.p_sc, Ev.p_sc0, Ev.p_scN, Ev.p_scFs, Ev.p_scLs, Ev.p_scOn, Ev.p_scOl, Ev.p_scNn, Ev.p_scNl, Ev.p_fiR, Ev.p_fiV, Ev.p_fi0, Ev.fin_rt, Ev.fin_nx, Ev.ou_ln, Ev.ou_fz, Ev.ou_0, Ev.at_0, Ev.at_1, Ev.at_2, Ev.at_3, Ev.p_lenS, Ev.p_lenO, Ev.p_bind, Ev.q_ok, List.getElem?_cons_zero, List.getElem?_cons_succ, List.set_cons_zero, List.set_cons_succ, List.length_cons, List.length_nil, List.cons_append, List.nil_append, Option.map_some, ↓reduceIte, Bool.not_true, Bool.not_false, decide_true, decide_false, Ev.p_div, Ev.p_mod, Ev.p_pow, Ev.p_mul, Ev.dist, List.contains_cons, List.contains_nil, Bool.or_false, Bool.false_and, Bool.and_true, Bool.true_and, Nat.reduceAdd, Nat.reduceBEq, Ev.permN, Ev.perm, List.map_cons, List.map_nil, List.getD_cons_zero, List.getD_cons_succ, and_self, cond_true, cond_false, Int.cast_ofNat_Int, Int.natCast_one, Int.natCast_zero, Int.reduceEq, Int.reduceLE, Int.reduceLT, Int.reduceNeg, Int.reduceGT, Int.reduceAdd, Int.reduceMul, Int.reduceSub, Int.reduceToNat, Int.reducePow, Int.reduceNe, reduceCtorEq, eq_self, la, Ev.p_mod _ _ ng, Ev.p_mod _ _ nt, Ev.p_div _ _ dg, Ev.p_div _ _ dgt, mo]
              rw [tk_1, tk_2]
              exact ⟨_, .inr ⟨_, rfl⟩, by rw [← pD_snoc]⟩
            · simp only [Ev.p_pure, Ev.p_ok, Ev.p_toD, Ev.p_kDf, Ev.p_kDn, Ev.p_toV, Ev.p_kV, Ev.p_some, Ev.p_var, Ev.p_varF, Ev.p_varL, Ev.p_varO, Ev.p_varN, Ev.p_mov, Ev.p_movF, Ev.p_movL, Ev.p_movO, Ev.p_movN, Ev.p_ev2, Ev.p_k2, Ev.p_k2', Ev.p_ev2T, Ev.p_kT, Ev.p_kT', Ev.p_vb, Ev.p_ev1, Ev.p_evC, Ev.p_evL, Ev.p_evO, Ev.p_evSeq, Ev.p_tTruth, Ev.p_kf, Ev.p_cons, Ev.p_vcons, Ev.p_acons, Ev.p_kC1, Ev.p_kC2, Ev.p_arV, Ev.p_kAr, Ev.p_arR, Ev.p_arF, Ev.p_arOw, Ev.p_arN, Ev.p_arL, Ev.p_call, Ev.p_kL1, Ev.p_kL2, Ev.p_if, Ev.p_kIt, Ev.p_kIf, Ev.p_tAnd, Ev.p_tOr, Ev.p_tNot, Ev.p_kN, Ev.p_and, Ev.p_kA, Ev.p_or, Ev.p_kO, Ev.p_not, Ev.p_kNt, Ev.p_ixS, Ev.p_ixO, Ev.p_kX, Ev.p_kXO, Ev.p_slotD, Ev.p_slF, Ev.p_slO, Ev.p_slN, Ev.p_slL, Ev.p_seq, Ev.p_kSn, Ev.p_kSr, Ev.p_kSb, Ev.p_kSc, Ev.p_slot, Ev.p_setU, Ev.p_setF, Ev.p_setO, Ev.p_ofF, Ev.p_ofN, Ev.p_kNx, Ev.p_set, Ev.p_kSet, Ev.p_ret, Ev.p_kRt, Ev.p_expr, Ev.p_kEx, Ev.p_par, Ev.p_kPar, Ev.p_kSs, Ev.p_ss0, Ev.p_ss, Ev.p_asg, Ev.p_kAsg, Ev.p_unp, Ev.p_gs, Ev.p_kG, Ev.p_gs0, Ev.p_gIx, Ev.p_gIO, Ev.p_kUp, Ev.p_upd, Ev.p_upO, Ev.p_upN, Ev.p_upDt, Ev.p_upDf, Ev.p_put, Ev.p_mut, Ev.p_mutO, Ev.p_kNon, Ev.p_kM1, Ev.p_app, Ev.p_sl, Ev.p_kSl1, Ev.p_kSl2, Ev.p_kSl3, Ev.p_add, Ev.p_addL, Ev.p_i2, Ev.p_u1, Ev.p_lt, Ev.p_le, Ev.p_gt, Ev.p_ge, Ev.p_eqI, Ev.p_neI, Ev.p_eqS, Ev.p_neS, Ev.p_isB, Ev.p_isN, Ev.p_notN, Ev.p_tup, Ev.p_lst, Ev.p_abs, Ev.p_intI, Ev.p_intB, Ev.p_len, Ev.p_dlL, Ev.p_dlT, Ev.p_itL, Ev.p_itT, Ev.p_d, Ev.p_dn, Ev.p_rng1, Ev.p_rng2, Ev.p_lo0, Ev.p_lo1, Ev.p_lo2, Ev.p_lo3, Ev.p_lo4, Ev.p_lo5, Ev.p_lo6, Ev.p_lo7, Ev.p_lo8, Ev.p_lo9, Ev.p_lo10, Ev.p_lo11, Ev.p_lo12, Ev.p_lo13, Ev.p_lo14, Ev.p_lo15, Ev.p_lo16, Ev.p_lo17, Ev.p_lo18, Ev.p_lo19, Ev.p_lo20, Ev.p_lo21, Ev.p_lo22, Ev.p_lo23, Ev.p_lo24, Ev.p_p18, Ev.p_p40, Ev.p_lpN, Ev.p_lpC, Ev.p_lpB, Ev.p_lpR, Ev.p_for, Ev.p_whT, Ev.p_whF, Ev.p_lc, Ev.p_callAr, Ev.p_callO1, Ev.p_callO2, Ev.p_refV, Ev.p_refR, Ev.p_ref0, Ev.p_ga, Ev.p_ga0, Ev.p_gaO, Ev.p_gaV, Ev.p_gaR, Ev.p_leF, Ev.p_leL, Ev.p_leO, Ev.p_leN, Ev.p_sc, Ev.p_sc0, Ev.p_scN, Ev.p_scFs, Ev.p_scLs, Ev.p_scOn, Ev.p_scOl, Ev.p_scNn, Ev.p_scNl, Ev.p_fiR, Ev.p_fiV, Ev.p_fi0, Ev.fin_rt, Ev.fin_nx, Ev.ou_ln, Ev.ou_fz, Ev.ou_0, Ev.at_0, Ev.at_1, Ev.at_2, Ev.at_3, Ev.p_lenS, Ev.p_lenO, Ev.p_bind, Ev.q_ok, List.getElem?_cons_zero, List.getElem?_cons_succ, List.set_cons_zero, List.set_cons_succ, List.length_cons, List.length_nil, List.cons_append, List.nil_append, Option.map_some, ↓reduceIte, Bool.not_true, Bool.not_false, decide_true, decide_false, Ev.p_div, Ev.p_mod, Ev.p_pow, Ev.p_mul, Ev.dist, List.contains_cons, List.contains_nil, Bool.or_false, Bool.false_and, Bool.and_true, Bool.true_and, Nat.reduceAdd, Nat.reduceBEq, Ev.permN, Ev.perm, List.map_cons, List.map_nil, List.getD_cons_zero, List.getD_cons_succ, and_self, cond_true, cond_false, Int.cast_ofNat_Int, Int.natCast_one, Int.natCast_zero, Int.reduceEq, Int.reduceLE, Int.reduceLT, Int.reduceNeg, Int.reduceGT, Int.reduceAdd, Int.reduceMul, Int.reduceSub, Int.reduceToNat, Int.reducePow, Int.reduceNe, reduceCtorEq, eq_self, la, Ev.p_mod _ _ ng, Ev.p_mod _ _ nt, Ev.p_div _ _ dg, Ev.p_div _ _ dgt, mo]
              rw [tk_1, tk_2]
              exact ⟨_, .inr ⟨_, rfl⟩, by rw [← pD_snoc]⟩
          · obtain ⟨x, hx, rfl⟩ := hI
            exact ⟨rfl, x, hx, rfl⟩
        have es : dSeq (.lst ((tkS g t n t).2.map pD)) = some ((tkS g t n t).2.map pD) := rfl
        have fin5 : ∀ x : Sl, (x = .un ∨ ∃ z, x = .fz z) → Wq (evSet 4 (ev2 opAdd (evVar 4) (toD (evC bInt (evCons (toD (ev2 eqA (toD (mLc [8, 9] (evSeq (evVar 7)) (evUnp 2 (gsCons (fun d => setSlot 8 (.fz d)) (gsCons (fun d => setSlot 9 (.fz d)) gsNil))) (ev2T neA (toD (ev2 item (toD (evIxS 7 (evVar 9))) (mpure (.int 0)))) (evVar 8)) (mpure (.int 1)))) (toD (evC mkLst (mpure []))))) (mpure []))))) 
            [.fz (.int g), .fz (.int t), .fz (.int N), x, .fz (.int (cntS g t n)), .fz (.int n), .fz (.int (tkS g t n t).1), .ow (.lst ((tkS g t n t).2.map pD)), .un, .un])
            fun f ρ => f = .nx ∧ ρ = [.fz (.int g), .fz (.int t), .fz (.int N), x, .fz (.int (cntS g t (n + 1))), .fz (.int n), .fz (.int (tkS g t n t).1), .fz (.lst ((tkS g t n t).2.map pD)), .un, .un] := by
          intro x hx
          obtain ⟨cs, e1, e2⟩ := bad_ints (tkS g t n t).2 (tkS g t n t).2
          simp only [Ev.p_pure, Ev.p_ok, Ev.p_toD, Ev.p_kDf, Ev.p_kDn, Ev.p_toV, Ev.p_kV, Ev.p_some, Ev.p_var, Ev.p_varF, Ev.p_varL, Ev.p_varO, Ev.p_varN, Ev.p_mov, Ev.p_movF, Ev.p_movL, Ev.p_movO, Ev.p_movN, Ev.p_ev2, Ev.p_k2, Ev.p_k2', Ev.p_ev2T, Ev.p_kT, Ev.p_kT', Ev.p_vb, Ev.p_ev1, Ev.p_evC, Ev.p_evL, Ev.p_evO, Ev.p_evSeq, Ev.p_tTruth, Ev.p_kf, Ev.p_cons, Ev.p_vcons, Ev.p_acons, Ev.p_kC1, Ev.p_kC2, Ev.p_arV, Ev.p_kAr, Ev.p_arR, Ev.p_arF, Ev.p_arOw, Ev.p_arN, Ev.p_arL, Ev.p_call, Ev.p_kL1, Ev.p_kL2, Ev.p_if, Ev.p_kIt, Ev.p_kIf, Ev.p_tAnd, Ev.p_tOr, Ev.p_tNot, Ev.p_kN, Ev.p_and, Ev.p_kA, Ev.p_or, Ev.p_kO, Ev.p_not, Ev.p_kNt, Ev.p_ixS, Ev.p_ixO, Ev.p_kX, Ev.p_kXO, Ev.p_slotD, Ev.p_slF, Ev.p_slO, Ev.p_slN, Ev.p_slL, Ev.p_seq, Ev.p_kSn, Ev.p_kSr, Ev.p_kSb, Ev.p_kSc, Ev.p_slot, Ev.p_setU, Ev.p_setF, Ev.p_setO, Ev.p_ofF, Ev.p_ofN, Ev.p_kNx, Ev.p_set, Ev.p_kSet, Ev.p_ret, Ev.p_kRt, Ev.p_expr, Ev.p_kEx, Ev.p_par, Ev.p_kPar, Ev.p_kSs, Ev.p_ss0, Ev.p_ss, Ev.p_asg, Ev.p_kAsg, Ev.p_unp, Ev.p_gs, Ev.p_kG, Ev.p_gs0, Ev.p_gIx, Ev.p_gIO, Ev.p_kUp, Ev.p_upd, Ev.p_upO, Ev.p_upN, Ev.p_upDt, Ev.p_upDf, Ev.p_put, Ev.p_mut, Ev.p_mutO, Ev.p_kNon, Ev.p_kM1, Ev.p_app, Ev.p_sl, Ev.p_kSl1, Ev.p_kSl2, Ev.p_kSl3, Ev.p_add, Ev.p_addL, Ev.p_i2, Ev.p_u1, Ev.p_lt, Ev.p_le, Ev.p_gt, Ev.p_ge, Ev.p_eqI, Ev.p_neI, Ev.p_eqS, Ev.p_neS, Ev.p_isB, Ev.p_isN, Ev.p_notN, Ev.p_tup, Ev.p_lst, Ev.p_abs, Ev.p_intI, Ev.p_intB, Ev.p_len, Ev.p_dlL, Ev.p_dlT, Ev.p_itL, Ev.p_itT, Ev.p_d, Ev.p_dn, Ev.p_rng1, Ev.p_rng2, Ev.p_lo0, Ev.p_lo1, Ev.p_lo2, Ev.p_lo3, Ev.p_lo4, Ev.p_lo5, Ev.p_lo6, Ev.p_lo7, Ev.p_lo8, Ev.p_lo9, Ev.p_lo10, Ev.p_lo11, Ev.p_lo12, Ev.p_lo13, Ev.p_lo14, Ev.p_lo15, Ev.p_lo16, Ev.p_lo17, Ev.p_lo18, Ev.p_lo19, Ev.p_lo20, Ev.p_lo21, Ev.p_lo22, Ev.p_lo23, Ev.p_lo24, Ev.p_p18, Ev.p_p40, Ev.p_lpN, Ev.p_lpC, Ev.p_lpB, Ev.p_lpR, Ev.p_for, Ev.p_whT, Ev.p_whF, Ev.p_lc, Ev.p_callAr, Ev.p_callO1, Ev.p_callO2, Ev.p_refV, Ev.p_refR, Ev.p_ref0, Ev.p_ga, Ev.p_ga0, Ev.p_gaO, Ev.p_gaV, Ev.p_gaR, Ev.p_leF, Ev.p_leL, Ev.p_leO, Ev.p_leN, Ev.p_sc, Ev.p_sc0, Ev.p_scN, Ev.p_scFs, Ev.p_scLs, Ev.p_scOn, Ev.p_scOl, Ev.p_scNn, Ev.p_scNl, Ev.p_fiR, Ev.p_fiV, Ev.p_fi0, Ev.fin_rt, Ev.fin_nx, Ev.ou_ln, Ev.ou_fz, Ev.ou_0, Ev.at_0, Ev.at_1, Ev.at_2, Ev.at_3, Ev.p_lenS, Ev.p_lenO, Ev.p_bind, Ev.q_ok, List.getElem?_cons_zero, List.getElem?_cons_succ, List.set_cons_zero, List.set_cons_succ, List.length_cons, List.length_nil, List.cons_append, List.nil_append, Option.map_some, ↓reduceIte, Bool.not_true, Bool.not_false, decide_true, decide_false, Ev.p_div, Ev.p_mod, Ev.p_pow, Ev.p_mul, Ev.dist, List.contains_cons, List.contains_nil, Bool.or_false, Bool.false_and, Bool.and_true, Bool.true_and, Nat.reduceAdd, Nat.reduceBEq, Ev.permN, Ev.perm, List.map_cons, List.map_nil, List.getD_cons_zero, List.getD_cons_succ, and_self, cond_true, cond_false, Int.cast_ofNat_Int, Int.natCast_one, Int.natCast_zero, Int.reduceEq, Int.reduceLE, Int.reduceLT, Int.reduceNeg, Int.reduceGT, Int.reduceAdd, Int.reduceMul, Int.reduceSub, Int.reduceToNat, Int.reducePow, Int.reduceNe, reduceCtorEq, eq_self, es]
          rw [lc_eq (badF (tkS g t n t).2) rfl (by rw [List.length_map, tk_len]; omega) (fun y hy => ?_), e1]
          · simp only [Ev.p_pure, Ev.p_ok, Ev.p_toD, Ev.p_kDf, Ev.p_kDn, Ev.p_toV, Ev.p_kV, Ev.p_some, Ev.p_var, Ev.p_varF, Ev.p_varL, Ev.p_varO, Ev.p_varN, Ev.p_mov, Ev.p_movF, Ev.p_movL, Ev.p_movO, Ev.p_movN, Ev.p_ev2, Ev.p_k2, Ev.p_k2', Ev.p_ev2T, Ev.p_kT, Ev.p_kT', Ev.p_vb, Ev.p_ev1, Ev.p_evC, Ev.p_evL, Ev.p_evO, Ev.p_evSeq, Ev.p_tTruth, Ev.p_kf, Ev.p_cons, Ev.p_vcons, Ev.p_acons, Ev.p_kC1, Ev.p_kC2, Ev.p_arV, Ev.p_kAr, Ev.p_arR, Ev.p_arF, Ev.p_arOw, Ev.p_arN, Ev.p_arL, Ev.p_call, Ev.p_kL1, Ev.p_kL2, Ev.p_if, Ev.p_kIt, Ev.p_kIf, Ev.p_tAnd, Ev.p_tOr, Ev.p_tNot, Ev.p_kN, Ev.p_and, Ev.p_kA, Ev.p_or, Ev.p_kO, Ev.p_not, Ev.p_kNt, Ev.p_ixS, Ev.p_ixO, Ev.p_kX, Ev.p_kXO, Ev.p_slotD, Ev.p_slF, Ev.p_slO, Ev.p_slN, Ev.p_slL, Ev.p_seq, Ev.p_kSn, Ev.p_kSr, Ev.p_kSb, Ev.p_kSc, Ev.p_slot, Ev.p_setU, Ev.p_setF, Ev.p_setO, Ev.p_ofF, Ev.p_ofN, Ev.p_kNx, Ev.p_set, Ev.p_kSet, Ev.p_ret, Ev.p_kRt, Ev.p_expr, Ev.p_kEx, Ev.p_par, Ev.p_kPar, Ev.p_kSs, Ev.p_ss0, Ev.p_ss, Ev.p_asg, Ev.p_kAsg, Ev.p_unp, Ev.p_gs, Ev.p_kG, Ev.p_gs0, Ev.p_gIx, Ev.p_gIO, Ev.p_kUp, Ev.p_upd, Ev.p_upO, Ev.p_upN, Ev.p_upDt, Ev.p_upDf, Ev.p_put, Ev.p_mut, Ev.p_mutO, Ev.p_kNon, Ev.p_kM1, Ev.p_app, Ev.p_sl, Ev.p_kSl1, Ev.p_kSl2, Ev.p_kSl3, Ev.p_add, Ev.p_addL, Ev.p_i2, Ev.p_u1, Ev.p_lt, Ev.p_le, Ev.p_gt, Ev.p_ge, Ev.p_eqI, Ev.p_neI, Ev.p_eqS, Ev.p_neS, Ev.p_isB, Ev.p_isN, Ev.p_notN, Ev.p_tup, Ev.p_lst, Ev.p_abs, Ev.p_intI, Ev.p_intB, Ev.p_len, Ev.p_dlL, Ev.p_dlT, Ev.p_itL, Ev.p_itT, Ev.p_d, Ev.p_dn, Ev.p_rng1, Ev.p_rng2, Ev.p_lo0, Ev.p_lo1, Ev.p_lo2, Ev.p_lo3, Ev.p_lo4, Ev.p_lo5, Ev.p_lo6, Ev.p_lo7, Ev.p_lo8, Ev.p_lo9, Ev.p_lo10, Ev.p_lo11, Ev.p_lo12, Ev.p_lo13, Ev.p_lo14, Ev.p_lo15, Ev.p_lo16, Ev.p_lo17, Ev.p_lo18, Ev.p_lo19, Ev.p_lo20, Ev.p_lo21, Ev.p_lo22, Ev.p_lo23, Ev.p_lo24, Ev.p_p18, Ev.p_p40, Ev.p_lpN, Ev.p_lpC, Ev.p_lpB, Ev.p_lpR, Ev.p_for, Ev.p_whT, Ev.p_whF, Ev.p_lc, Ev.p_callAr, Ev.p_callO1, Ev.p_callO2, Ev.p_refV, Ev.p_refR, Ev.p_ref0, Ev.p_ga, Ev.p_ga0, Ev.p_gaO, Ev.p_gaV, Ev.p_gaR, Ev.p_leF, Ev.p_leL, Ev.p_leO, Ev.p_leN, Ev.p_sc, Ev.p_sc0, Ev.p_scN, Ev.p_scFs, Ev.p_scLs, Ev.p_scOn, Ev.p_scOl, Ev.p_scNn, Ev.p_scNl, Ev.p_fiR, Ev.p_fiV, Ev.p_fi0, Ev.fin_rt, Ev.fin_nx, Ev.ou_ln, Ev.ou_fz, Ev.ou_0, Ev.at_0, Ev.at_1, Ev.at_2, Ev.at_3, Ev.p_lenS, Ev.p_lenO, Ev.p_bind, Ev.q_ok, List.getElem?_cons_zero, List.getElem?_cons_succ, List.set_cons_zero, List.set_cons_succ, List.length_cons, List.length_nil, List.cons_append, List.nil_append, Option.map_some, ↓reduceIte, Bool.not_true, Bool.not_false, decide_true, decide_false, Ev.p_div, Ev.p_mod, Ev.p_pow, Ev.p_mul, Ev.dist, List.contains_cons, List.contains_nil, Bool.or_false, Bool.false_and, Bool.and_true, Bool.true_and, Nat.reduceAdd, Nat.reduceBEq, Ev.permN, Ev.perm, List.map_cons, List.map_nil, List.getD_cons_zero, List.getD_cons_succ, and_self, cond_true, cond_false, Int.cast_ofNat_Int, Int.natCast_one, Int.natCast_zero, Int.reduceEq, Int.reduceLE, Int.reduceLT, Int.reduceNeg, Int.reduceGT, Int.reduceAdd, Int.reduceMul, Int.reduceSub, Int.reduceToNat, Int.reducePow, Int.reduceNe, reduceCtorEq, eq_self, p_eqNil, e2]
            refine ⟨trivial, ?_⟩
            rfl
          · obtain ⟨p, hp, rfl⟩ := List.mem_map.mp hy
            have ht0 : 0 < t := by
              have hne : 0 < (tkS g t n t).2.length := List.length_pos_of_mem hp
              rw [tk_len] at hne
              exact hne
            obtain ⟨a0, a1⟩ := tk_arrow g t n ht0 t p hp
            have hi : p.2.toNat < (tkS g t n t).2.length := by
              rw [tk_len]
              omega
            have ea : atI ((tkS g t n t).2.map pD) p.2 = some (pD ((tkS g t n t).2.getD p.2.toNat (0, 0))) := by
              have : p.2 = (p.2.toNat : Int) := by omega
              conv => lhs; rw [this]
              refine atI_nat ?_
              rw [List.getElem?_map, List.getElem?_eq_getElem hi, List.getD_eq_getElem?_getD, List.getElem?_eq_getElem hi]
              rfl
            by_cases hq : ((tkS g t n t).2.getD p.2.toNat (0, 0)).1 = p.1
            · simp only [Ev.p_pure, Ev.p_ok, Ev.p_toD, Ev.p_kDf, Ev.p_kDn, Ev.p_toV, Ev.p_kV, Ev.p_some, Ev.p_var, Ev.p_varF, Ev.p_varL, Ev.p_varO, Ev.p_varN, Ev.p_mov, Ev.p_movF, Ev.p_movL, Ev.p_movO, Ev.p_movN, Ev.p_ev2, Ev.p_k2, Ev.p_k2', Ev.p_ev2T, Ev.p_kT, Ev.p_kT', Ev.p_vb, Ev.p_ev1, Ev.p_evC, Ev.p_evL, Ev.p_evO, Ev.p_evSeq, Ev.p_tTruth, Ev.p_kf, Ev.p_cons, Ev.p_vcons, Ev.p_acons, Ev.p_kC1, Ev.p_kC2, Ev.p_arV, Ev.p_kAr, Ev.p_arR, Ev.p_arF, Ev.p_arOw, Ev.p_arN, Ev.p_arL, Ev.p_call, Ev.p_kL1, Ev.p_kL2, Ev.p_if, Ev.p_kIt, Ev.p_kIf, Ev.p_tAnd, Ev.p_tOr, Ev.p_tNot, Ev.p_kN, Ev.p_and, Ev.p_kA, Ev.p_or, Ev.p_kO, Ev.p_not, Ev.p_kNt, Ev.p_ixS, Ev.p_ixO, Ev.p_kX, Ev.p_kXO, Ev.p_slotD, Ev.p_slF, Ev.p_slO, Ev.p_slN, Ev.p_slL, Ev.p_seq, Ev.p_kSn, Ev.p_kSr, Ev.p_kSb, Ev.p_kSc, Ev.p_slot, Ev.p_setU, Ev.p_setF, Ev.p_setO, Ev.p_ofF, Ev.p_ofN, Ev.p_kNx, Ev.p_set, Ev.p_kSet, Ev.p_ret, Ev.p_kRt, Ev.p_expr, Ev.p_kEx, Ev.p_par, Ev.p_kPar, Ev.p_kSs, Ev.p_ss0, Ev.p_ss, Ev.p_asg, Ev.p_kAsg, Ev.p_unp, Ev.p_gs, Ev.p_kG, Ev.p_gs0, Ev.p_gIx, Ev.p_gIO, Ev.p_kUp, Ev.p_upd, Ev.p_upO, Ev.p_upN, Ev.p_upDt, Ev.p_upDf, Ev.p_put, Ev.p_mut, Ev.p_mutO, Ev.p_kNon, Ev.p_kM1, Ev.p_app, Ev.p_sl, Ev.p_kSl1, Ev.p_kSl2, Ev.p_kSl3, Ev.p_add, Ev.p_addL, Ev.p_i2, Ev.p_u1, Ev.p_lt, Ev.p_le, Ev.p_gt, Ev.p_ge, Ev.p_eqI, Ev.p_neI, Ev.p_eqS, Ev.p_neS, Ev.p_isB, Ev.p_isN, Ev.p_notN, Ev.p_tup, Ev.p_lst, Ev.p_abs, Ev.p_intI, Ev.p_intB, Ev.p_len, Ev.p_dlL, Ev.p_dlT, Ev.p_itL, Ev.p_itT, Ev.p_d, Ev.p_dn, Ev.p_rng1, Ev.p_rng2, Ev.p_lo0, Ev.p_lo1, Ev.p_lo2, Ev.p_lo3, Ev.p_lo4, Ev.p_lo5, Ev.p_lo6, Ev.p_lo7, Ev.p_lo8, Ev.p_lo9, Ev.p_lo10, Ev.p_lo11, Ev.p_lo12, Ev.p_lo13, Ev.p_lo14, Ev.p_lo15, Ev.p_lo16, Ev.p_lo17, Ev.p_lo18, Ev.p_lo19, Ev.p_lo20, Ev.p_lo21, Ev.p_lo22, Ev.p_lo23, Ev.p_lo24, Ev.p_p18, Ev.p_p40, Ev.p_lpN, Ev.p_lpC, Ev.p_lpB, Ev.p_lpR, Ev.p_for, Ev.p_whT, Ev.p_whF, Ev.p_lc, Ev.p_callAr, Ev.p_callO1, Ev.p_callO2, Ev.p_refV, Ev.p_refR, Ev.p_ref0, Ev.p_ga, Ev.p_ga0, Ev.p_gaO, Ev.p_gaV, Ev.p_gaR, Ev.p_leF, Ev.p_leL, Ev.p_leO, Ev.p_leN, Ev.p_sc, Ev.p_sc0, Ev.p_scN, Ev.p_scFs, Ev.p_scLs, Ev.p_scOn, Ev.p_scOl, Ev.p_scNn, Ev.p_scNl, Ev.p_fiR, Ev.p_fiV, Ev.p_fi0, Ev.fin_rt, Ev.fin_nx, Ev.ou_ln, Ev.ou_fz, Ev.ou_0, Ev.at_0, Ev.at_1, Ev.at_2, Ev.at_3, Ev.p_lenS, Ev.p_lenO, Ev.p_bind, Ev.q_ok, List.getElem?_cons_zero, List.getElem?_cons_succ, List.set_cons_zero, List.set_cons_succ, List.length_cons, List.length_nil, List.cons_append, List.nil_append, Option.map_some, ↓reduceIte, Bool.not_true, Bool.not_false, decide_true, decide_false, Ev.p_div, Ev.p_mod, Ev.p_pow, Ev.p_mul, Ev.dist, List.contains_cons, List.contains_nil, Bool.or_false, Bool.false_and, Bool.and_true, Bool.true_and, Nat.reduceAdd, Nat.reduceBEq, Ev.permN, Ev.perm, List.map_cons, List.map_nil, List.getD_cons_zero, List.getD_cons_succ, and_self, cond_true, cond_false, Int.cast_ofNat_Int, Int.natCast_one, Int.natCast_zero, Int.reduceEq, Int.reduceLE, Int.reduceLT, Int.reduceNeg, Int.reduceGT, Int.reduceAdd, Int.reduceMul, Int.reduceSub, Int.reduceToNat, Int.reducePow, Int.reduceNe, reduceCtorEq, eq_self, wipeR, pD, ea, decide_eq_true hq]
              refine ⟨?_, trivial⟩
              show (if _ then _ else _) = _
              rw [if_pos hq]
            · simp only [Ev.p_pure, Ev.p_ok, Ev.p_toD, Ev.p_kDf, Ev.p_kDn, Ev.p_toV, Ev.p_kV, Ev.p_some, Ev.p_var, Ev.p_varF, Ev.p_varL, Ev.p_varO, Ev.p_varN, Ev.p_mov, Ev.p_movF, Ev.p_movL, Ev.p_movO, Ev.p_movN, Ev.p_ev2, Ev.p_k2, Ev.p_k2', Ev.p_ev2T, Ev.p_kT, Ev.p_kT', Ev.p_vb, Ev.p_ev1, Ev.p_evC, Ev.p_evL, Ev.p_evO, Ev.p_evSeq, Ev.p_tTruth, Ev.p_kf, Ev.p_cons, Ev.p_vcons, Ev.p_acons, Ev.p_kC1, Ev.p_kC2, Ev.p_arV, Ev.p_kAr, Ev.p_arR, Ev.p_arF, Ev.p_arOw, Ev.p_arN, Ev.p_arL, Ev.p_call, Ev.p_kL1, Ev.p_kL2, Ev.p_if, Ev.p_kIt, Ev.p_kIf, Ev.p_tAnd, Ev.p_tOr, Ev.p_tNot, Ev.p_kN, Ev.p_and, Ev.p_kA, Ev.p_or, Ev.p_kO, Ev.p_not, Ev.p_kNt, Ev.p_ixS, Ev.p_ixO, Ev.p_kX, Ev.p_kXO, Ev.p_slotD, Ev.p_slF, Ev.p_slO, Ev.p_slN, Ev.p_slL, Ev.p_seq, Ev.p_kSn, Ev.p_kSr, Ev.p_kSb, Ev.p_kSc, Ev.p_slot, Ev.p_setU, Ev.p_setF, Ev.p_setO, Ev.p_ofF, Ev.p_ofN, Ev.p_kNx, Ev.p_set, Ev.p_kSet, Ev.p_ret, Ev.p_kRt, Ev.p_expr, Ev.p_kEx, Ev.p_par, Ev.p_kPar, Ev.p_kSs, Ev.p_ss0, Ev.p_ss, Ev.p_asg, Ev.p_kAsg, Ev.p_unp, Ev.p_gs, Ev.p_kG, Ev.p_gs0, Ev.p_gIx, Ev.p_gIO, Ev.p_kUp, Ev.p_upd, Ev.p_upO, Ev.p_upN, Ev.p_upDt, Ev.p_upDf, Ev.p_put, Ev.p_mut, Ev.p_mutO, Ev.p_kNon, Ev.p_kM1, Ev.p_app, Ev.p_sl, Ev.p_kSl1, Ev.p_kSl2, Ev.p_kSl3, Ev.p_add, Ev.p_addL, Ev.p_i2, Ev.p_u1, Ev.p_lt, Ev.p_le, Ev.p_gt, Ev.p_ge, Ev.p_eqI, Ev.p_neI, Ev.p_eqS, Ev.p_neS, Ev.p_isB, Ev.p_isN, Ev.p_notN, Ev.p_tup, Ev.p_lst, Ev.p_abs, Ev.p_intI, Ev.p_intB, Ev.p_len, Ev.p_dlL, Ev.p_dlT, Ev.p_itL, Ev.p_itT, Ev.p_d, Ev.p_dn, Ev.p_rng1, Ev.p_rng2, Ev.p_lo0, Ev.p_lo1, Ev.p_lo2, Ev.p_lo3, Ev.p_lo4, Ev.p_lo5, Ev.p_lo6, Ev.p_lo7, Ev.p_lo8, Ev.p_lo9, Ev.p_lo10, Ev.p_lo11, Ev.p_lo12, Ev.p_lo13, Ev.p_lo14, Ev.p_lo15, Ev.p_lo16, Ev.p_lo17, Ev.p_lo18, Ev.p_lo19, Ev.p_lo20, Ev.p_lo21, Ev.p_lo22, Ev.p_lo23, Ev.p_lo24, Ev.p_p18, Ev.p_p40, Ev.p_lpN, Ev.p_lpC, Ev.p_lpB, Ev.p_lpR, Ev.p_for, Ev.p_whT, Ev.p_whF, Ev.p_lc, Ev.p_callAr, Ev.p_callO1, Ev.p_callO2, Ev.p_refV, Ev.p_refR, Ev.p_ref0, Ev.p_ga, Ev.p_ga0, Ev.p_gaO, Ev.p_gaV, Ev.p_gaR, Ev.p_leF, Ev.p_leL, Ev.p_leO, Ev.p_leN, Ev.p_sc, Ev.p_sc0, Ev.p_scN, Ev.p_scFs, Ev.p_scLs, Ev.p_scOn, Ev.p_scOl, Ev.p_scNn, Ev.p_scNl, Ev.p_fiR, Ev.p_fiV, Ev.p_fi0, Ev.fin_rt, Ev.fin_nx, Ev.ou_ln, Ev.ou_fz, Ev.ou_0, Ev.at_0, Ev.at_1, Ev.at_2, Ev.at_3, Ev.p_lenS, Ev.p_lenO, Ev.p_bind, Ev.q_ok, List.getElem?_cons_zero, List.getElem?_cons_succ, List.set_cons_zero, List.set_cons_succ, List.length_cons, List.length_nil, List.cons_append, List.nil_append, Option.map_some, ↓reduceIte, Bool.not_true, Bool.not_false, decide_true, decide_false, Ev.p_div, Ev.p_mod, Ev.p_pow, Ev.p_mul, Ev.dist, List.contains_cons, List.contains_nil, Bool.or_false, Bool.false_and, Bool.and_true, Bool.true_and, Nat.reduceAdd, Nat.reduceBEq, Ev.permN, Ev.perm, List.map_cons, List.map_nil, List.getD_cons_zero, List.getD_cons_succ, and_self, cond_true, cond_false, Int.cast_ofNat_Int, Int.natCast_one, Int.natCast_zero, Int.reduceEq, Int.reduceLE, Int.reduceLT, Int.reduceNeg, Int.reduceGT, Int.reduceAdd, Int.reduceMul, Int.reduceSub, Int.reduceToNat, Int.reducePow, Int.reduceNe, reduceCtorEq, eq_self, wipeR, pD, ea, decide_eq_false hq]
              refine ⟨?_, trivial⟩
              show (if _ then _ else _) = _
              rw [if_neg hq]
        rcases hab with ⟨rfl, rfl, rfl⟩ | ⟨u, v, w, rfl, rfl, rfl⟩
        · simp only [Ev.p_pure, Ev.p_ok, Ev.p_toD, Ev.p_kDf, Ev.p_kDn, Ev.p_toV, Ev.p_kV, Ev.p_some, Ev.p_var, Ev.p_varF, Ev.p_varL, Ev.p_varO, Ev.p_varN, Ev.p_mov, Ev.p_movF, Ev.p_movL, Ev.p_movO, Ev.p_movN, Ev.p_ev2, Ev.p_k2, Ev.p_k2', Ev.p_ev2T, Ev.p_kT, Ev.p_kT', Ev.p_vb, Ev.p_ev1, Ev.p_evC, Ev.p_evL, Ev.p_evO, Ev.p_evSeq, Ev.p_tTruth, Ev.p_kf, Ev.p_cons, Ev.p_vcons, Ev.p_acons, Ev.p_kC1, Ev.p_kC2, Ev.p_arV, Ev.p_kAr, Ev.p_arR, Ev.p_arF, Ev.p_arOw, Ev.p_arN, Ev.p_arL, Ev.p_call, Ev.p_kL1, Ev.p_kL2, Ev.p_if, Ev.p_kIt, Ev.p_kIf, Ev.p_tAnd, Ev.p_tOr, Ev.p_tNot, Ev.p_kN, Ev.p_and, Ev.p_kA, Ev.p_or, Ev.p_kO, Ev.p_not, Ev.p_kNt, Ev.p_ixS, Ev.p_ixO, Ev.p_kX, Ev.p_kXO, Ev.p_slotD, Ev.p_slF, Ev.p_slO, Ev.p_slN, Ev.p_slL, Ev.p_seq, Ev.p_kSn, Ev.p_kSr, Ev.p_kSb, Ev.p_kSc, Ev.p_slot, Ev.p_setU, Ev.p_setF, Ev.p_setO, Ev.p_ofF, Ev.p_ofN, Ev.p_kNx, Ev.p_set, Ev.p_kSet, Ev.p_ret, Ev.p_kRt, Ev.p_expr, Ev.p_kEx, Ev.p_par, Ev.p_kPar, Ev.p_kSs, Ev.p_ss0, Ev.p_ss, Ev.p_asg, Ev.p_kAsg, Ev.p_unp, Ev.p_gs, Ev.p_kG, Ev.p_gs0, Ev.p_gIx, Ev.p_gIO, Ev.p_kUp, Ev.p_upd, Ev.p_upO, Ev.p_upN, Ev.p_upDt, Ev.p_upDf, Ev.p_put, Ev.p_mut, Ev.p_mutO, Ev.p_kNon, Ev.p_kM1, Ev.p_app, Ev.p_sl, Ev.p_kSl1, Ev.p_kSl2, Ev.p_kSl3, Ev.p_add, Ev.p_addL, Ev.p_i2, Ev.p_u1, Ev.p_lt, Ev.p_le, Ev.p_gt, Ev.p_ge, Ev.p_eqI, Ev.p_neI, Ev.p_eqS, Ev.p_neS, Ev.p_isB, Ev.p_isN, Ev.p_notN, Ev.p_tup, Ev.p_lst, Ev.p_abs, Ev.p_intI, Ev.p_intB, Ev.p_len, Ev.p_dlL, Ev.p_dlT, Ev.p_itL, Ev.p_itT, Ev.p_d, Ev.p_dn, Ev.p_rng1, Ev.p_rng2, Ev.p_lo0, Ev.p_lo1, Ev.p_lo2, Ev.p_lo3, Ev.p_lo4, Ev.p_lo5, Ev.p_lo6, Ev.p_lo7, Ev.p_lo8, Ev.p_lo9, Ev.p_lo10, Ev.p_lo11, Ev.p_lo12, Ev.p_lo13, Ev.p_lo14, Ev.p_lo15, Ev.p_lo16, Ev.p_lo17, Ev.p_lo18, Ev.p_lo19, Ev.p_lo20, Ev.p_lo21, Ev.p_lo22, Ev.p_lo23, Ev.p_lo24, Ev.p_p18, Ev.p_p40, Ev.p_lpN, Ev.p_lpC, Ev.p_lpB, Ev.p_lpR, Ev.p_for, Ev.p_whT, Ev.p_whF, Ev.p_lc, Ev.p_callAr, Ev.p_callO1, Ev.p_callO2, Ev.p_refV, Ev.p_refR, Ev.p_ref0, Ev.p_ga, Ev.p_ga0, Ev.p_gaO, Ev.p_gaV, Ev.p_gaR, Ev.p_leF, Ev.p_leL, Ev.p_leO, Ev.p_leN, Ev.p_sc, Ev.p_sc0, Ev.p_scN, Ev.p_scFs, Ev.p_scLs, Ev.p_scOn, Ev.p_scOl, Ev.p_scNn, Ev.p_scNl, Ev.p_fiR, Ev.p_fiV, Ev.p_fi0, Ev.fin_rt, Ev.fin_nx, Ev.ou_ln, Ev.ou_fz, Ev.ou_0, Ev.at_0, Ev.at_1, Ev.at_2, Ev.at_3, Ev.p_lenS, Ev.p_lenO, Ev.p_bind, Ev.q_ok, List.getElem?_cons_zero, List.getElem?_cons_succ, List.set_cons_zero, List.set_cons_succ, List.length_cons, List.length_nil, List.cons_append, List.nil_append, Option.map_some, ↓reduceIte, Bool.not_true, Bool.not_false, decide_true, decide_false, Ev.p_div, Ev.p_mod, Ev.p_pow, Ev.p_mul, Ev.dist, List.contains_cons, List.contains_nil, Bool.or_false, Bool.false_and, Bool.and_true, Bool.true_and, Nat.reduceAdd, Nat.reduceBEq, Ev.permN, Ev.perm, List.map_cons, List.map_nil, List.getD_cons_zero, List.getD_cons_succ, and_self, cond_true, cond_false, Int.cast_ofNat_Int, Int.natCast_one, Int.natCast_zero, Int.reduceEq, Int.reduceLE, Int.reduceLT, Int.reduceNeg, Int.reduceGT, Int.reduceAdd, Int.reduceMul, Int.reduceSub, Int.reduceToNat, Int.reducePow, Int.reduceNe, reduceCtorEq, eq_self, er]
          rw [q_bind]
          refine (tail x hx).mono fun f ρ q => ?_
          obtain ⟨rfl, x, hx, rfl⟩ := q
          rw [p_kSn]
          refine (fin5 x hx).mono fun f ρ q => ?_
          obtain ⟨rfl, rfl⟩ := q
          exact ⟨x, _, _, _, rfl, hx, .inr ⟨_, _, _, rfl, rfl, rfl⟩⟩
        · simp only [Ev.p_pure, Ev.p_ok, Ev.p_toD, Ev.p_kDf, Ev.p_kDn, Ev.p_toV, Ev.p_kV, Ev.p_some, Ev.p_var, Ev.p_varF, Ev.p_varL, Ev.p_varO, Ev.p_varN, Ev.p_mov, Ev.p_movF, Ev.p_movL, Ev.p_movO, Ev.p_movN, Ev.p_ev2, Ev.p_k2, Ev.p_k2', Ev.p_ev2T, Ev.p_kT, Ev.p_kT', Ev.p_vb, Ev.p_ev1, Ev.p_evC, Ev.p_evL, Ev.p_evO, Ev.p_evSeq, Ev.p_tTruth, Ev.p_kf, Ev.p_cons, Ev.p_vcons, Ev.p_acons, Ev.p_kC1, Ev.p_kC2, Ev.p_arV, Ev.p_kAr, Ev.p_arR, Ev.p_arF, Ev.p_arOw, Ev.p_arN, Ev.p_arL, Ev.p_call, Ev.p_kL1, Ev.p_kL2, Ev.p_if, Ev.p_kIt, Ev.p_kIf, Ev.p_tAnd, Ev.p_tOr, Ev.p_tNot, Ev.p_kN, Ev.p_and, Ev.p_kA, Ev.p_or, Ev.p_kO, Ev.p_not, Ev.p_kNt, Ev.p_ixS, Ev.p_ixO, Ev.p_kX, Ev.p_kXO, Ev.p_slotD, Ev.p_slF, Ev.p_slO, Ev.p_slN, Ev.p_slL, Ev.p_seq, Ev.p_kSn, Ev.p_kSr, Ev.p_kSb, Ev.p_kSc, Ev.p_slot, Ev.p_setU, Ev.p_setF, Ev.p_setO, Ev.p_ofF, Ev.p_ofN, Ev.p_kNx, Ev.p_set, Ev.p_kSet, Ev.p_ret, Ev.p_kRt, Ev.p_expr, Ev.p_kEx, Ev.p_par, Ev.p_kPar, Ev.p_kSs, Ev.p_ss0, Ev.p_ss, Ev.p_asg, Ev.p_kAsg, Ev.p_unp, Ev.p_gs, Ev.p_kG, Ev.p_gs0, Ev.p_gIx, Ev.p_gIO, Ev.p_kUp, Ev.p_upd, Ev.p_upO, Ev.p_upN, Ev.p_upDt, Ev.p_upDf, Ev.p_put, Ev.p_mut, Ev.p_mutO, Ev.p_kNon, Ev.p_kM1, Ev.p_app, Ev.p_sl, Ev.p_kSl1, Ev.p_kSl2, Ev.p_kSl3, Ev.p_add, Ev.p_addL, Ev.p_i2, Ev.p_u1, Ev.p_lt, Ev.p_le, Ev.p_gt, Ev.p_ge, Ev.p_eqI, Ev.p_neI, Ev.p_eqS, Ev.p_neS, Ev.p_isB, Ev.p_isN, Ev.p_notN, Ev.p_tup, Ev.p_lst, Ev.p_abs, Ev.p_intI, Ev.p_intB, Ev.p_len, Ev.p_dlL, Ev.p_dlT, Ev.p_itL, Ev.p_itT, Ev.p_d, Ev.p_dn, Ev.p_rng1, Ev.p_rng2, Ev.p_lo0, Ev.p_lo1, Ev.p_lo2, Ev.p_lo3, Ev.p_lo4, Ev.p_lo5, Ev.p_lo6, Ev.p_lo7, Ev.p_lo8, Ev.p_lo9, Ev.p_lo10, Ev.p_lo11, Ev.p_lo12, Ev.p_lo13, Ev.p_lo14, Ev.p_lo15, Ev.p_lo16, Ev.p_lo17, Ev.p_lo18, Ev.p_lo19, Ev.p_lo20, Ev.p_lo21, Ev.p_lo22, Ev.p_lo23, Ev.p_lo24, Ev.p_p18, Ev.p_p40, Ev.p_lpN, Ev.p_lpC, Ev.p_lpB, Ev.p_lpR, Ev.p_for, Ev.p_whT, Ev.p_whF, Ev.p_lc, Ev.p_callAr, Ev.p_callO1, Ev.p_callO2, Ev.p_refV, Ev.p_refR, Ev.p_ref0, Ev.p_ga, Ev.p_ga0, Ev.p_gaO, Ev.p_gaV, Ev.p_gaR, Ev.p_leF, Ev.p_leL, Ev.p_leO, Ev.p_leN, Ev.p_sc, Ev.p_sc0, Ev.p_scN, Ev.p_scFs, Ev.p_scLs, Ev.p_scOn, Ev.p_scOl, Ev.p_scNn, Ev.p_scNl, Ev.p_fiR, Ev.p_fiV, Ev.p_fi0, Ev.fin_rt, Ev.fin_nx, Ev.ou_ln, Ev.ou_fz, Ev.ou_0, Ev.at_0, Ev.at_1, Ev.at_2, Ev.at_3, Ev.p_lenS, Ev.p_lenO, Ev.p_bind, Ev.q_ok, List.getElem?_cons_zero, List.getElem?_cons_succ, List.set_cons_zero, List.set_cons_succ, List.length_cons, List.length_nil, List.cons_append, List.nil_append, Option.map_some, ↓reduceIte, Bool.not_true, Bool.not_false, decide_true, decide_false, Ev.p_div, Ev.p_mod, Ev.p_pow, Ev.p_mul, Ev.dist, List.contains_cons, List.contains_nil, Bool.or_false, Bool.false_and, Bool.and_true, Bool.true_and, Nat.reduceAdd, Nat.reduceBEq, Ev.permN, Ev.perm, List.map_cons, List.map_nil, List.getD_cons_zero, List.getD_cons_succ, and_self, cond_true, cond_false, Int.cast_ofNat_Int, Int.natCast_one, Int.natCast_zero, Int.reduceEq, Int.reduceLE, Int.reduceLT, Int.reduceNeg, Int.reduceGT, Int.reduceAdd, Int.reduceMul, Int.reduceSub, Int.reduceToNat, Int.reducePow, Int.reduceNe, reduceCtorEq, eq_self, er]
          rw [q_bind]
          refine (tail x hx).mono fun f ρ q => ?_
          obtain ⟨rfl, x, hx, rfl⟩ := q
          rw [p_kSn]
          refine (fin5 x hx).mono fun f ρ q => ?_
          obtain ⟨rfl, rfl⟩ := q
          exact ⟨x, _, _, _, rfl, hx, .inr ⟨_, _, _, rfl, rfl, rfl⟩⟩
      · obtain ⟨x, a, b, c, rfl, hx, hab⟩ := hI
        simp only [Ev.p_pure, Ev.p_ok, Ev.p_toD, Ev.p_kDf, Ev.p_kDn, Ev.p_toV, Ev.p_kV, Ev.p_some, Ev.p_var, Ev.p_varF, Ev.p_varL, Ev.p_varO, Ev.p_varN, Ev.p_mov, Ev.p_movF, Ev.p_movL, Ev.p_movO, Ev.p_movN, Ev.p_ev2, Ev.p_k2, Ev.p_k2', Ev.p_ev2T, Ev.p_kT, Ev.p_kT', Ev.p_vb, Ev.p_ev1, Ev.p_evC, Ev.p_evL, Ev.p_evO, Ev.p_evSeq, Ev.p_tTruth, Ev.p_kf, Ev.p_cons, Ev.p_vcons, Ev.p_acons, Ev.p_kC1, Ev.p_kC2, Ev.p_arV, Ev.p_kAr, Ev.p_arR, Ev.p_arF, Ev.p_arOw, Ev.p_arN, Ev.p_arL, Ev.p_call, Ev.p_kL1, Ev.p_kL2, Ev.p_if, Ev.p_kIt, Ev.p_kIf, Ev.p_tAnd, Ev.p_tOr, Ev.p_tNot, Ev.p_kN, Ev.p_and, Ev.p_kA, Ev.p_or, Ev.p_kO, Ev.p_not, Ev.p_kNt, Ev.p_ixS, Ev.p_ixO, Ev.p_kX, Ev.p_kXO, Ev.p_slotD, Ev.p_slF, Ev.p_slO, Ev.p_slN, Ev.p_slL, Ev.p_seq, Ev.p_kSn, Ev.p_kSr, Ev.p_kSb, Ev.p_kSc, Ev.p_slot, Ev.p_setU, Ev.p_setF, Ev.p_setO, Ev.p_ofF, Ev.p_ofN, Ev.p_kNx, Ev.p_set, Ev.p_kSet, Ev.p_ret, Ev.p_kRt, Ev.p_expr, Ev.p_kEx, Ev.p_par, Ev.p_kPar, Ev.p_kSs, Ev.p_ss0, Ev.p_ss, Ev.p_asg, Ev.p_kAsg, Ev.p_unp, Ev.p_gs, Ev.p_kG, Ev.p_gs0, Ev.p_gIx, Ev.p_gIO, Ev.p_kUp, Ev.p_upd, Ev.p_upO, Ev.p_upN, Ev.p_upDt, Ev.p_upDf, Ev.p_put, Ev.p_mut, Ev.p_mutO, Ev.p_kNon, Ev.p_kM1, Ev.p_app, Ev.p_sl, Ev.p_kSl1, Ev.p_kSl2, Ev.p_kSl3, Ev.p_add, Ev.p_addL, Ev.p_i2, Ev.p_u1, Ev.p_lt, Ev.p_le, Ev.p_gt, Ev.p_ge, Ev.p_eqI, Ev.p_neI, Ev.p_eqS, Ev.p_neS, Ev.p_isB, Ev.p_isN, Ev.p_notN, Ev.p_tup, Ev.p_lst, Ev.p_abs, Ev.p_intI, Ev.p_intB, Ev.p_len, Ev.p_dlL, Ev.p_dlT, Ev.p_itL, Ev.p_itT, Ev.p_d, Ev.p_dn, Ev.p_rng1, Ev.p_rng2, Ev.p_lo0, Ev.p_lo1, Ev.p_lo2, Ev.p_lo3, Ev.p_lo4, Ev.p_lo5, Ev.p_lo6, Ev.p_lo7, Ev.p_lo8, Ev.p_lo9, Ev.p_lo10, Ev.p_lo11, Ev.p_lo12, Ev.p_lo13, Ev.p_lo14, Ev.p_lo15, Ev.p_lo16, Ev.p_lo17, Ev.p_lo18, Ev.p_lo19, Ev.p_lo20, Ev.p_lo21, Ev.p_lo22, Ev.p_lo23, Ev.p_lo24, Ev.p_p18, Ev.p_p40, Ev.p_lpN, Ev.p_lpC, Ev.p_lpB, Ev.p_lpR, Ev.p_for, Ev.p_whT, Ev.p_whF, Ev.p_lc, Ev.p_callAr, Ev.p_callO1, Ev.p_callO2, Ev.p_refV, Ev.p_refR, Ev.p_ref0, Ev.p_ga, Ev.p_ga0, Ev.p_gaO, Ev.p_gaV, Ev.p_gaR, Ev.p_leF, Ev.p_leL, Ev.p_leO, Ev.p_leN, Ev.p_sc, Ev.p_sc0, Ev.p_scN, Ev.p_scFs, Ev.p_scLs, Ev.p_scOn, Ev.p_scOl, Ev.p_scNn, Ev.p_scNl, Ev.p_fiR, Ev.p_fiV, Ev.p_fi0, Ev.fin_rt, Ev.fin_nx, Ev.ou_ln, Ev.ou_fz, Ev.ou_0, Ev.at_0, Ev.at_1, Ev.at_2, Ev.at_3, Ev.p_lenS, Ev.p_lenO, Ev.p_bind, Ev.q_ok, List.getElem?_cons_zero, List.getElem?_cons_succ, List.set_cons_zero, List.set_cons_succ, List.length_cons, List.length_nil, List.cons_append, List.nil_append, Option.map_some, ↓reduceIte, Bool.not_true, Bool.not_false, decide_true, decide_false, Ev.p_div, Ev.p_mod, Ev.p_pow, Ev.p_mul, Ev.dist, List.contains_cons, List.contains_nil, Bool.or_false, Bool.false_and, Bool.and_true, Bool.true_and, Nat.reduceAdd, Nat.reduceBEq, Ev.permN, Ev.perm, List.map_cons, List.map_nil, List.getD_cons_zero, List.getD_cons_succ, and_self, cond_true, cond_false, Int.cast_ofNat_Int, Int.natCast_one, Int.natCast_zero, Int.reduceEq, Int.reduceLE, Int.reduceLT, Int.reduceNeg, Int.reduceGT, Int.reduceAdd, Int.reduceMul, Int.reduceSub, Int.reduceToNat, Int.reducePow, Int.reduceNe, reduceCtorEq, eq_self]
        exact ⟨by decide, trivial⟩
  obtain ⟨_, _, e, rfl, rfl⟩ := w
  exact e
theorem chkArr : ((List.range 3).all fun g => (List.range 4).all fun t => decide (((g + 1) * t) ^ t ≤ 1000) && decide (cntS (g + 1) t (((g + 1) * t) ^ t) = (colT t).getD g 0)) = true := by decide +kernel
theorem arrows_sp (g t : Nat) (hg : g < 3) (ht : t < 4) : m_law_arrows [.fz (.int ((g + 1 : Nat) : Int)), .fz (.int t)] = .ok (.fz (.int ((colT t).getD g 0))) [.fz (.int ((g + 1 : Nat) : Int)), .fz (.int t)] := by
  have h := List.all_eq_true.mp (List.all_eq_true.mp chkArr g (List.mem_range.mpr hg)) t (List.mem_range.mpr ht)
  rw [Bool.and_eq_true] at h
  rw [arrows_run (g + 1) t (by omega) (by omega) (by omega) (of_decide_eq_true h.1), of_decide_eq_true h.2]
end K51

namespace K51
open PySem PySem.Spec PyProof.Rows L2 Ev
def rowsD (d k : Nat) : List D := (List.range k).map fun j => .lst ((rowT d j).map .int)
theorem rowsD_snoc (d k : Nat) : rowsD d k ++ [.lst ((rowT d k).map .int)] = rowsD d (k + 1) := by
  unfold rowsD
  rw [List.range_succ, List.map_append]
  rfl
theorem rowsD_at (d k : Nat) (i : Int) (j : Nat) (e : i = (j : Nat)) (h : j < k) : atI (rowsD d k) i = some (.lst ((rowT d j).map .int)) := by
  subst e
  refine atI_nat ?_
  unfold rowsD
  rw [List.getElem?_map, List.getElem?_eq_getElem (by rw [List.length_range]; exact h), List.getElem_range]
  rfl
theorem rowsD_len (d k : Nat) : (rowsD d k).length = k := by
  unfold rowsD
  rw [List.length_map, List.length_range]
theorem allB_at (T : List Int) (u : Int) (g : Nat) (i : Int) (j : Nat) (e : i = (j : Nat)) (h : j < g) (hl : g ≤ T.length) : atI (allB T u g) i = some (lowD (T.getD j 0) u) := by
  subst e
  refine atI_nat ?_
  unfold allB
  rw [List.getElem?_map, List.getElem?_take_of_lt h, List.getD_eq_getElem?_getD, List.getElem?_eq_getElem (by omega)]
  rfl
theorem range2_at {n k : Nat} {d : D} (h : (rangeL 2 n)[k]? = some d) : d = .int (2 + (k : Int)) ∧ k < n := by
  unfold rangeL at h
  rw [List.getElem?_map] at h
  cases e : (List.range n)[k]? with
  | none =>
    rw [e] at h
    cases h
  | some j =>
    rw [e] at h
    obtain ⟨hk, ej⟩ := List.getElem?_eq_some_iff.mp e
    rw [List.getElem_range] at ej
    subst ej
    rw [List.length_range] at hk
    exact ⟨(Option.some.inj h).symm, hk⟩
theorem big {x : Int} (h : x.natAbs < 2 ^ 1000) : x.natAbs < 2 ^ 8000 := Nat.lt_of_lt_of_le h (Nat.pow_le_pow_right (by decide) (by decide))
def prs (T : List Int) (u : Int) : List (D × D) := T.map fun a => (lowD a u, .int a)
theorem prs_1 (T : List Int) (u : Int) {g : Nat} (h : T.length ≤ g) : allB T u g = (prs T u).map (·.1) := by
  unfold allB prs
  rw [List.take_of_length_le h, List.map_map]
  rfl
theorem prs_2 (T : List Int) (u : Int) : (prs T u).map (·.2) = T.map D.int := by
  unfold prs
  rw [List.map_map]
  rfl
theorem prs_len (T : List Int) (u : Int) : (prs T u).length = T.length := by
  unfold prs
  rw [List.length_map]
theorem gt_len : GT.length = 60 := by decide
theorem gt_ok : TabOk 250 GT := tab_of chk250
theorem law_true : ∀ ns : List Int, ns.length ≤ 63 → (∀ z ∈ ns, Builtin.Int.intBits z ≤ 1048576) → ∃ outs, m_law [.fz (.scr ns)] = .ok (.fz (.bl true)) outs := by
  intro ns hl hb
  have w : Fw (m_law [.fz (.scr ns)]) fun a os => a = .fz (.bl true) := by
    refine fw_fin ?_
    change Wq (b_law [.fz (.scr ns), .un, .un, .un, .un, .un, .un, .un, .un, .un, .un, .un, .un, .un]) _
    unfold b_law
    obtain ⟨t0, e0, h0⟩ := tray_sp ns hb hl
    obtain ⟨r1, t1, e1, h1, l1, u1⟩ := lift_sp h0 (by omega) 3 (by omega) (by omega)
    obtain ⟨r2, t2, e2, h2, l2, u2⟩ := lift_sp h1 (by omega) 4 (by omega) (by omega)
    obtain ⟨g, rfl⟩ := Int.eq_ofNat_of_zero_le l1
    obtain ⟨th, rfl⟩ := Int.eq_ofNat_of_zero_le l2
    have hg : g < 3 := by omega
    have hth : th < 4 := by omega
    have cg : (1 : Int) + (g : Int) = ((g + 1 : Nat) : Int) := by omega
    have eb := best_price_sp (g + 1) th (colT th) (by omega) (by omega) (by omega) (tab_ok th (by omega)) (by rw [col_len]; omega)
    rw [Nat.add_sub_cancel] at eb
    have et := times_sp ((colT th).getD g 0) th (by omega) (big (col_small th g (by omega)))
    have ea := arrows_sp g th hg hth
    obtain ⟨r3, t3, e3, h3, l3, u3⟩ := lift_sp h2 (by omega) 13 (by omega) (by omega)
    obtain ⟨r4, t4, e4, h4, l4, u4⟩ := lift_sp h3 (by omega) 26 (by omega) (by omega)
    obtain ⟨dd, t5, e5, h5, hd5⟩ := pick_sp h4 (by omega) [.int r3, .int r4] (by simp) (by simp)
    obtain ⟨d, rfl, hd⟩ : ∃ d : Nat, dd = .int (d : Nat) ∧ d < 26 := by
      simp only [List.mem_cons, List.not_mem_nil, or_false] at hd5
      rcases hd5 with rfl | rfl
      · obtain ⟨n, rfl⟩ := Int.eq_ofNat_of_zero_le l3
        exact ⟨n, rfl, by omega⟩
      · obtain ⟨n, rfl⟩ := Int.eq_ofNat_of_zero_le l4
        exact ⟨n, rfl, by omega⟩
    obtain ⟨r6, t6, e6, h6, l6, u6⟩ := lift_sp h5 (by omega) 7 (by omega) (by omega)
    obtain ⟨s, rfl⟩ := Int.eq_ofNat_of_zero_le l6
    have hs : s < 7 := by omega
    have e7 := all_best_sp 8 d (colT d) (by omega) (by omega) (by omega) (tab_ok d hd) (by rw [col_len]; omega)
    simp only [Int.cast_ofNat_Int] at e7
    have er : rng1 [.int ((d : Int) + 1)] = some (rangeL 0 (d + 1)) := by
      rw [Ev.p_rng1 _ (inR_of (by omega) (by omega)), show ((d : Int) + 1).toNat = d + 1 by omega]
    have etw : (rangeL 0 (d + 1)).filterMap towF = (rowT d 0).map D.int := by
      rw [towF_map (d + 1)]
      exact congrArg _ (tws_row d hd)
    simp only [Ev.p_pure, Ev.p_ok, Ev.p_toD, Ev.p_kDf, Ev.p_kDn, Ev.p_toV, Ev.p_kV, Ev.p_some, Ev.p_var, Ev.p_varF, Ev.p_varL, Ev.p_varO, Ev.p_varN, Ev.p_mov, Ev.p_movF, Ev.p_movL, Ev.p_movO, Ev.p_movN, Ev.p_ev2, Ev.p_k2, Ev.p_k2', Ev.p_ev2T, Ev.p_kT, Ev.p_kT', Ev.p_vb, Ev.p_ev1, Ev.p_evC, Ev.p_evL, Ev.p_evO, Ev.p_evSeq, Ev.p_tTruth, Ev.p_kf, Ev.p_cons, Ev.p_vcons, Ev.p_acons, Ev.p_kC1, Ev.p_kC2, Ev.p_arV, Ev.p_kAr, Ev.p_arR, Ev.p_arF, Ev.p_arOw, Ev.p_arN, Ev.p_arL, Ev.p_call, Ev.p_kL1, Ev.p_kL2, Ev.p_if, Ev.p_kIt, Ev.p_kIf, Ev.p_tAnd, Ev.p_tOr, Ev.p_tNot, Ev.p_kN, Ev.p_and, Ev.p_kA, Ev.p_or, Ev.p_kO, Ev.p_not, Ev.p_kNt, Ev.p_ixS, Ev.p_ixO, Ev.p_kX, Ev.p_kXO, Ev.p_slotD, Ev.p_slF, Ev.p_slO, Ev.p_slN, Ev.p_slL, Ev.p_seq, Ev.p_kSn, Ev.p_kSr, Ev.p_kSb, Ev.p_kSc, Ev.p_slot, Ev.p_setU, Ev.p_setF, Ev.p_setO, Ev.p_ofF, Ev.p_ofN, Ev.p_kNx, Ev.p_set, Ev.p_kSet, Ev.p_ret, Ev.p_kRt, Ev.p_expr, Ev.p_kEx, Ev.p_par, Ev.p_kPar, Ev.p_kSs, Ev.p_ss0, Ev.p_ss, Ev.p_asg, Ev.p_kAsg, Ev.p_unp, Ev.p_gs, Ev.p_kG, Ev.p_gs0, Ev.p_gIx, Ev.p_gIO, Ev.p_kUp, Ev.p_upd, Ev.p_upO, Ev.p_upN, Ev.p_upDt, Ev.p_upDf, Ev.p_put, Ev.p_mut, Ev.p_mutO, Ev.p_kNon, Ev.p_kM1, Ev.p_app, Ev.p_sl, Ev.p_kSl1, Ev.p_kSl2, Ev.p_kSl3, Ev.p_add, Ev.p_addL, Ev.p_i2, Ev.p_u1, Ev.p_lt, Ev.p_le, Ev.p_gt, Ev.p_ge, Ev.p_eqI, Ev.p_neI, Ev.p_eqS, Ev.p_neS, Ev.p_isB, Ev.p_isN, Ev.p_notN, Ev.p_tup, Ev.p_lst, Ev.p_abs, Ev.p_intI, Ev.p_intB, Ev.p_len, Ev.p_dlL, Ev.p_dlT, Ev.p_itL, Ev.p_itT, Ev.p_d, Ev.p_dn, Ev.p_rng1, Ev.p_rng2, Ev.p_lo0, Ev.p_lo1, Ev.p_lo2, Ev.p_lo3, Ev.p_lo4, Ev.p_lo5, Ev.p_lo6, Ev.p_lo7, Ev.p_lo8, Ev.p_lo9, Ev.p_lo10, Ev.p_lo11, Ev.p_lo12, Ev.p_lo13, Ev.p_lo14, Ev.p_lo15, Ev.p_lo16, Ev.p_lo17, Ev.p_lo18, Ev.p_lo19, Ev.p_lo20, Ev.p_lo21, Ev.p_lo22, Ev.p_lo23, Ev.p_lo24, Ev.p_p18, Ev.p_p40, Ev.p_lpN, Ev.p_lpC, Ev.p_lpB, Ev.p_lpR, Ev.p_for, Ev.p_whT, Ev.p_whF, Ev.p_lc, Ev.p_callAr, Ev.p_callO1, Ev.p_callO2, Ev.p_refV, Ev.p_refR, Ev.p_ref0, Ev.p_ga, Ev.p_ga0, Ev.p_gaO, Ev.p_gaV, Ev.p_gaR, Ev.p_leF, Ev.p_leL, Ev.p_leO, Ev.p_leN, Ev.p_sc, Ev.p_sc0, Ev.p_scN, Ev.p_scFs, Ev.p_scLs, Ev.p_scOn, Ev.p_scOl, Ev.p_scNn, Ev.p_scNl, Ev.p_fiR, Ev.p_fiV, Ev.p_fi0, Ev.fin_rt, Ev.fin_nx, Ev.ou_ln, Ev.ou_fz, Ev.ou_0, Ev.at_0, Ev.at_1, Ev.at_2, Ev.at_3, Ev.p_lenS, Ev.p_lenO, Ev.p_bind, Ev.q_ok, List.getElem?_cons_zero, List.getElem?_cons_succ, List.set_cons_zero, List.set_cons_succ, List.length_cons, List.length_nil, List.cons_append, List.nil_append, Option.map_some, ↓reduceIte, Bool.not_true, Bool.not_false, decide_true, decide_false, Ev.p_div, Ev.p_mod, Ev.p_pow, Ev.p_mul, Ev.dist, List.contains_cons, List.contains_nil, Bool.or_false, Bool.false_and, Bool.and_true, Bool.true_and, Nat.reduceAdd, Nat.reduceBEq, Ev.permN, Ev.perm, List.map_cons, List.map_nil, List.getD_cons_zero, List.getD_cons_succ, and_self, cond_true, cond_false, Int.cast_ofNat_Int, Int.natCast_one, Int.natCast_zero, Int.reduceEq, Int.reduceLE, Int.reduceLT, Int.reduceNeg, Int.reduceGT, Int.reduceAdd, Int.reduceMul, Int.reduceSub, Int.reduceToNat, Int.reducePow, Int.reduceNe, reduceCtorEq, eq_self, e0, e1, e2, cg, eb, et, ea, e3, e4, e5, e6, e7, er]
    rw [lc_eq towF rfl (by rw [rangeL_len]; omega) (fun x hx => ?_), etw]
    · have er2 : rng2 [.int 2, .int (2 + (s : Int) + 1)] = some (rangeL 2 (s + 1)) := by
        rw [Ev.p_rng2 _ _ (by decide) (inR_of (by omega) (by omega)), show (2 + (s : Int) + 1 - 2).toNat = s + 1 by omega]
      simp only [Ev.p_pure, Ev.p_ok, Ev.p_toD, Ev.p_kDf, Ev.p_kDn, Ev.p_toV, Ev.p_kV, Ev.p_some, Ev.p_var, Ev.p_varF, Ev.p_varL, Ev.p_varO, Ev.p_varN, Ev.p_mov, Ev.p_movF, Ev.p_movL, Ev.p_movO, Ev.p_movN, Ev.p_ev2, Ev.p_k2, Ev.p_k2', Ev.p_ev2T, Ev.p_kT, Ev.p_kT', Ev.p_vb, Ev.p_ev1, Ev.p_evC, Ev.p_evL, Ev.p_evO, Ev.p_evSeq, Ev.p_tTruth, Ev.p_kf, Ev.p_cons, Ev.p_vcons, Ev.p_acons, Ev.p_kC1, Ev.p_kC2, Ev.p_arV, Ev.p_kAr, Ev.p_arR, Ev.p_arF, Ev.p_arOw, Ev.p_arN, Ev.p_arL, Ev.p_call, Ev.p_kL1, Ev.p_kL2, Ev.p_if, Ev.p_kIt, Ev.p_kIf, Ev.p_tAnd, Ev.p_tOr, Ev.p_tNot, Ev.p_kN, Ev.p_and, Ev.p_kA, Ev.p_or, Ev.p_kO, Ev.p_not, Ev.p_kNt, Ev.p_ixS, Ev.p_ixO, Ev.p_kX, Ev.p_kXO, Ev.p_slotD, Ev.p_slF, Ev.p_slO, Ev.p_slN, Ev.p_slL, Ev.p_seq, Ev.p_kSn, Ev.p_kSr, Ev.p_kSb, Ev.p_kSc, Ev.p_slot, Ev.p_setU, Ev.p_setF, Ev.p_setO, Ev.p_ofF, Ev.p_ofN, Ev.p_kNx, Ev.p_set, Ev.p_kSet, Ev.p_ret, Ev.p_kRt, Ev.p_expr, Ev.p_kEx, Ev.p_par, Ev.p_kPar, Ev.p_kSs, Ev.p_ss0, Ev.p_ss, Ev.p_asg, Ev.p_kAsg, Ev.p_unp, Ev.p_gs, Ev.p_kG, Ev.p_gs0, Ev.p_gIx, Ev.p_gIO, Ev.p_kUp, Ev.p_upd, Ev.p_upO, Ev.p_upN, Ev.p_upDt, Ev.p_upDf, Ev.p_put, Ev.p_mut, Ev.p_mutO, Ev.p_kNon, Ev.p_kM1, Ev.p_app, Ev.p_sl, Ev.p_kSl1, Ev.p_kSl2, Ev.p_kSl3, Ev.p_add, Ev.p_addL, Ev.p_i2, Ev.p_u1, Ev.p_lt, Ev.p_le, Ev.p_gt, Ev.p_ge, Ev.p_eqI, Ev.p_neI, Ev.p_eqS, Ev.p_neS, Ev.p_isB, Ev.p_isN, Ev.p_notN, Ev.p_tup, Ev.p_lst, Ev.p_abs, Ev.p_intI, Ev.p_intB, Ev.p_len, Ev.p_dlL, Ev.p_dlT, Ev.p_itL, Ev.p_itT, Ev.p_d, Ev.p_dn, Ev.p_rng1, Ev.p_rng2, Ev.p_lo0, Ev.p_lo1, Ev.p_lo2, Ev.p_lo3, Ev.p_lo4, Ev.p_lo5, Ev.p_lo6, Ev.p_lo7, Ev.p_lo8, Ev.p_lo9, Ev.p_lo10, Ev.p_lo11, Ev.p_lo12, Ev.p_lo13, Ev.p_lo14, Ev.p_lo15, Ev.p_lo16, Ev.p_lo17, Ev.p_lo18, Ev.p_lo19, Ev.p_lo20, Ev.p_lo21, Ev.p_lo22, Ev.p_lo23, Ev.p_lo24, Ev.p_p18, Ev.p_p40, Ev.p_lpN, Ev.p_lpC, Ev.p_lpB, Ev.p_lpR, Ev.p_for, Ev.p_whT, Ev.p_whF, Ev.p_lc, Ev.p_callAr, Ev.p_callO1, Ev.p_callO2, Ev.p_refV, Ev.p_refR, Ev.p_ref0, Ev.p_ga, Ev.p_ga0, Ev.p_gaO, Ev.p_gaV, Ev.p_gaR, Ev.p_leF, Ev.p_leL, Ev.p_leO, Ev.p_leN, Ev.p_sc, Ev.p_sc0, Ev.p_scN, Ev.p_scFs, Ev.p_scLs, Ev.p_scOn, Ev.p_scOl, Ev.p_scNn, Ev.p_scNl, Ev.p_fiR, Ev.p_fiV, Ev.p_fi0, Ev.fin_rt, Ev.fin_nx, Ev.ou_ln, Ev.ou_fz, Ev.ou_0, Ev.at_0, Ev.at_1, Ev.at_2, Ev.at_3, Ev.p_lenS, Ev.p_lenO, Ev.p_bind, Ev.q_ok, List.getElem?_cons_zero, List.getElem?_cons_succ, List.set_cons_zero, List.set_cons_succ, List.length_cons, List.length_nil, List.cons_append, List.nil_append, Option.map_some, ↓reduceIte, Bool.not_true, Bool.not_false, decide_true, decide_false, Ev.p_div, Ev.p_mod, Ev.p_pow, Ev.p_mul, Ev.dist, List.contains_cons, List.contains_nil, Bool.or_false, Bool.false_and, Bool.and_true, Bool.true_and, Nat.reduceAdd, Nat.reduceBEq, Ev.permN, Ev.perm, List.map_cons, List.map_nil, List.getD_cons_zero, List.getD_cons_succ, and_self, cond_true, cond_false, Int.cast_ofNat_Int, Int.natCast_one, Int.natCast_zero, Int.reduceEq, Int.reduceLE, Int.reduceLT, Int.reduceNeg, Int.reduceGT, Int.reduceAdd, Int.reduceMul, Int.reduceSub, Int.reduceToNat, Int.reducePow, Int.reduceNe, reduceCtorEq, eq_self, er2]
      rw [q_bind]
      refine for_idx (rangeL 2 (s + 1)) (I := fun k ρ => ∃ t y x, ρ = [.fz (.scr ns), .ow t, .fz y, .fz (.int th), .fz (.int d), .fz (.int (2 + (s : Int))), .fz (.tup (allB (colT d) (tow d) 8)), .ow (.lst (rowsD d (k + 1))), x, .un, .un, .un, .un, .un] ∧ (x = .un ∨ ∃ z, x = .fz z) ∧ Tr (100 + k) t) (fun k dk ρ hdk hI => ?_) (fun ρ hI => ?_) _ ⟨t6, _, _, rfl, .inl rfl, h6.le (by omega)⟩
      · obtain ⟨t, y, x, rfl, hx, hT⟩ := hI
        obtain ⟨rfl, hk⟩ := range2_at hdk
        obtain ⟨r, t', el, hT', lr, ur⟩ := lift_sp hT (by omega) (2 + (k : Int) - 1) (by omega) (by omega)
        obtain ⟨o, rfl⟩ := Int.eq_ofNat_of_zero_le lr
        have ho : o ≤ k := by omega
        have a1 := rowsD_at d (k + 1) (o : Int) o rfl (by omega)
        have a2 := rowsD_at d (k + 1) (2 + (k : Int) - 2 - (o : Int)) (k - o) (by omega) (by omega)
        have ep := parted_sp (rowT d o) (rowT d (k - o)) (by rw [rowT_len d o hd (by omega), rowT_len d _ hd (by omega)]) (by rw [rowT_len d o hd (by omega)]; omega) (rowT_small d o) (rowT_small d (k - o)) lots_ok
        rw [pt_row d o (k - o) hd (by omega), show o + (k - o) + 1 = k + 1 by omega] at ep
        have la : (rowsD d (k + 1)).length < 16777216 := by
          rw [rowsD_len]
          omega
        rcases hx with rfl | ⟨z, rfl⟩
        · simp only [Ev.p_pure, Ev.p_ok, Ev.p_toD, Ev.p_kDf, Ev.p_kDn, Ev.p_toV, Ev.p_kV, Ev.p_some, Ev.p_var, Ev.p_varF, Ev.p_varL, Ev.p_varO, Ev.p_varN, Ev.p_mov, Ev.p_movF, Ev.p_movL, Ev.p_movO, Ev.p_movN, Ev.p_ev2, Ev.p_k2, Ev.p_k2', Ev.p_ev2T, Ev.p_kT, Ev.p_kT', Ev.p_vb, Ev.p_ev1, Ev.p_evC, Ev.p_evL, Ev.p_evO, Ev.p_evSeq, Ev.p_tTruth, Ev.p_kf, Ev.p_cons, Ev.p_vcons, Ev.p_acons, Ev.p_kC1, Ev.p_kC2, Ev.p_arV, Ev.p_kAr, Ev.p_arR, Ev.p_arF, Ev.p_arOw, Ev.p_arN, Ev.p_arL, Ev.p_call, Ev.p_kL1, Ev.p_kL2, Ev.p_if, Ev.p_kIt, Ev.p_kIf, Ev.p_tAnd, Ev.p_tOr, Ev.p_tNot, Ev.p_kN, Ev.p_and, Ev.p_kA, Ev.p_or, Ev.p_kO, Ev.p_not, Ev.p_kNt, Ev.p_ixS, Ev.p_ixO, Ev.p_kX, Ev.p_kXO, Ev.p_slotD, Ev.p_slF, Ev.p_slO, Ev.p_slN, Ev.p_slL, Ev.p_seq, Ev.p_kSn, Ev.p_kSr, Ev.p_kSb, Ev.p_kSc, Ev.p_slot, Ev.p_setU, Ev.p_setF, Ev.p_setO, Ev.p_ofF, Ev.p_ofN, Ev.p_kNx, Ev.p_set, Ev.p_kSet, Ev.p_ret, Ev.p_kRt, Ev.p_expr, Ev.p_kEx, Ev.p_par, Ev.p_kPar, Ev.p_kSs, Ev.p_ss0, Ev.p_ss, Ev.p_asg, Ev.p_kAsg, Ev.p_unp, Ev.p_gs, Ev.p_kG, Ev.p_gs0, Ev.p_gIx, Ev.p_gIO, Ev.p_kUp, Ev.p_upd, Ev.p_upO, Ev.p_upN, Ev.p_upDt, Ev.p_upDf, Ev.p_put, Ev.p_mut, Ev.p_mutO, Ev.p_kNon, Ev.p_kM1, Ev.p_app, Ev.p_sl, Ev.p_kSl1, Ev.p_kSl2, Ev.p_kSl3, Ev.p_add, Ev.p_addL, Ev.p_i2, Ev.p_u1, Ev.p_lt, Ev.p_le, Ev.p_gt, Ev.p_ge, Ev.p_eqI, Ev.p_neI, Ev.p_eqS, Ev.p_neS, Ev.p_isB, Ev.p_isN, Ev.p_notN, Ev.p_tup, Ev.p_lst, Ev.p_abs, Ev.p_intI, Ev.p_intB, Ev.p_len, Ev.p_dlL, Ev.p_dlT, Ev.p_itL, Ev.p_itT, Ev.p_d, Ev.p_dn, Ev.p_rng1, Ev.p_rng2, Ev.p_lo0, Ev.p_lo1, Ev.p_lo2, Ev.p_lo3, Ev.p_lo4, Ev.p_lo5, Ev.p_lo6, Ev.p_lo7, Ev.p_lo8, Ev.p_lo9, Ev.p_lo10, Ev.p_lo11, Ev.p_lo12, Ev.p_lo13, Ev.p_lo14, Ev.p_lo15, Ev.p_lo16, Ev.p_lo17, Ev.p_lo18, Ev.p_lo19, Ev.p_lo20, Ev.p_lo21, Ev.p_lo22, Ev.p_lo23, Ev.p_lo24, Ev.p_p18, Ev.p_p40, Ev.p_lpN, Ev.p_lpC, Ev.p_lpB, Ev.p_lpR, Ev.p_for, Ev.p_whT, Ev.p_whF, Ev.p_lc, Ev.p_callAr, Ev.p_callO1, Ev.p_callO2, Ev.p_refV, Ev.p_refR, Ev.p_ref0, Ev.p_ga, Ev.p_ga0, Ev.p_gaO, Ev.p_gaV, Ev.p_gaR, Ev.p_leF, Ev.p_leL, Ev.p_leO, Ev.p_leN, Ev.p_sc, Ev.p_sc0, Ev.p_scN, Ev.p_scFs, Ev.p_scLs, Ev.p_scOn, Ev.p_scOl, Ev.p_scNn, Ev.p_scNl, Ev.p_fiR, Ev.p_fiV, Ev.p_fi0, Ev.fin_rt, Ev.fin_nx, Ev.ou_ln, Ev.ou_fz, Ev.ou_0, Ev.at_0, Ev.at_1, Ev.at_2, Ev.at_3, Ev.p_lenS, Ev.p_lenO, Ev.p_bind, Ev.q_ok, List.getElem?_cons_zero, List.getElem?_cons_succ, List.set_cons_zero, List.set_cons_succ, List.length_cons, List.length_nil, List.cons_append, List.nil_append, Option.map_some, ↓reduceIte, Bool.not_true, Bool.not_false, decide_true, decide_false, Ev.p_div, Ev.p_mod, Ev.p_pow, Ev.p_mul, Ev.dist, List.contains_cons, List.contains_nil, Bool.or_false, Bool.false_and, Bool.and_true, Bool.true_and, Nat.reduceAdd, Nat.reduceBEq, Ev.permN, Ev.perm, List.map_cons, List.map_nil, List.getD_cons_zero, List.getD_cons_succ, and_self, cond_true, cond_false, Int.cast_ofNat_Int, Int.natCast_one, Int.natCast_zero, Int.reduceEq, Int.reduceLE, Int.reduceLT, Int.reduceNeg, Int.reduceGT, Int.reduceAdd, Int.reduceMul, Int.reduceSub, Int.reduceToNat, Int.reducePow, Int.reduceNe, reduceCtorEq, eq_self, el, a1, a2, ep, la, rowsD_snoc]
          exact ⟨t', _, _, rfl, .inr ⟨_, rfl⟩, hT'.le (by omega)⟩
        · simp only [Ev.p_pure, Ev.p_ok, Ev.p_toD, Ev.p_kDf, Ev.p_kDn, Ev.p_toV, Ev.p_kV, Ev.p_some, Ev.p_var, Ev.p_varF, Ev.p_varL, Ev.p_varO, Ev.p_varN, Ev.p_mov, Ev.p_movF, Ev.p_movL, Ev.p_movO, Ev.p_movN, Ev.p_ev2, Ev.p_k2, Ev.p_k2', Ev.p_ev2T, Ev.p_kT, Ev.p_kT', Ev.p_vb, Ev.p_ev1, Ev.p_evC, Ev.p_evL, Ev.p_evO, Ev.p_evSeq, Ev.p_tTruth, Ev.p_kf, Ev.p_cons, Ev.p_vcons, Ev.p_acons, Ev.p_kC1, Ev.p_kC2, Ev.p_arV, Ev.p_kAr, Ev.p_arR, Ev.p_arF, Ev.p_arOw, Ev.p_arN, Ev.p_arL, Ev.p_call, Ev.p_kL1, Ev.p_kL2, Ev.p_if, Ev.p_kIt, Ev.p_kIf, Ev.p_tAnd, Ev.p_tOr, Ev.p_tNot, Ev.p_kN, Ev.p_and, Ev.p_kA, Ev.p_or, Ev.p_kO, Ev.p_not, Ev.p_kNt, Ev.p_ixS, Ev.p_ixO, Ev.p_kX, Ev.p_kXO, Ev.p_slotD, Ev.p_slF, Ev.p_slO, Ev.p_slN, Ev.p_slL, Ev.p_seq, Ev.p_kSn, Ev.p_kSr, Ev.p_kSb, Ev.p_kSc, Ev.p_slot, Ev.p_setU, Ev.p_setF, Ev.p_setO, Ev.p_ofF, Ev.p_ofN, Ev.p_kNx, Ev.p_set, Ev.p_kSet, Ev.p_ret, Ev.p_kRt, Ev.p_expr, Ev.p_kEx, Ev.p_par, Ev.p_kPar, Ev.p_kSs, Ev.p_ss0, Ev.p_ss, Ev.p_asg, Ev.p_kAsg, Ev.p_unp, Ev.p_gs, Ev.p_kG, Ev.p_gs0, Ev.p_gIx, Ev.p_gIO, Ev.p_kUp, Ev.p_upd, Ev.p_upO, Ev.p_upN, Ev.p_upDt, Ev.p_upDf, Ev.p_put, Ev.p_mut, Ev.p_mutO, Ev.p_kNon, Ev.p_kM1, Ev.p_app, Ev.p_sl, Ev.p_kSl1, Ev.p_kSl2, Ev.p_kSl3, Ev.p_add, Ev.p_addL, Ev.p_i2, Ev.p_u1, Ev.p_lt, Ev.p_le, Ev.p_gt, Ev.p_ge, Ev.p_eqI, Ev.p_neI, Ev.p_eqS, Ev.p_neS, Ev.p_isB, Ev.p_isN, Ev.p_notN, Ev.p_tup, Ev.p_lst, Ev.p_abs, Ev.p_intI, Ev.p_intB, Ev.p_len, Ev.p_dlL, Ev.p_dlT, Ev.p_itL, Ev.p_itT, Ev.p_d, Ev.p_dn, Ev.p_rng1, Ev.p_rng2, Ev.p_lo0, Ev.p_lo1, Ev.p_lo2, Ev.p_lo3, Ev.p_lo4, Ev.p_lo5, Ev.p_lo6, Ev.p_lo7, Ev.p_lo8, Ev.p_lo9, Ev.p_lo10, Ev.p_lo11, Ev.p_lo12, Ev.p_lo13, Ev.p_lo14, Ev.p_lo15, Ev.p_lo16, Ev.p_lo17, Ev.p_lo18, Ev.p_lo19, Ev.p_lo20, Ev.p_lo21, Ev.p_lo22, Ev.p_lo23, Ev.p_lo24, Ev.p_p18, Ev.p_p40, Ev.p_lpN, Ev.p_lpC, Ev.p_lpB, Ev.p_lpR, Ev.p_for, Ev.p_whT, Ev.p_whF, Ev.p_lc, Ev.p_callAr, Ev.p_callO1, Ev.p_callO2, Ev.p_refV, Ev.p_refR, Ev.p_ref0, Ev.p_ga, Ev.p_ga0, Ev.p_gaO, Ev.p_gaV, Ev.p_gaR, Ev.p_leF, Ev.p_leL, Ev.p_leO, Ev.p_leN, Ev.p_sc, Ev.p_sc0, Ev.p_scN, Ev.p_scFs, Ev.p_scLs, Ev.p_scOn, Ev.p_scOl, Ev.p_scNn, Ev.p_scNl, Ev.p_fiR, Ev.p_fiV, Ev.p_fi0, Ev.fin_rt, Ev.fin_nx, Ev.ou_ln, Ev.ou_fz, Ev.ou_0, Ev.at_0, Ev.at_1, Ev.at_2, Ev.at_3, Ev.p_lenS, Ev.p_lenO, Ev.p_bind, Ev.q_ok, List.getElem?_cons_zero, List.getElem?_cons_succ, List.set_cons_zero, List.set_cons_succ, List.length_cons, List.length_nil, List.cons_append, List.nil_append, Option.map_some, ↓reduceIte, Bool.not_true, Bool.not_false, decide_true, decide_false, Ev.p_div, Ev.p_mod, Ev.p_pow, Ev.p_mul, Ev.dist, List.contains_cons, List.contains_nil, Bool.or_false, Bool.false_and, Bool.and_true, Bool.true_and, Nat.reduceAdd, Nat.reduceBEq, Ev.permN, Ev.perm, List.map_cons, List.map_nil, List.getD_cons_zero, List.getD_cons_succ, and_self, cond_true, cond_false, Int.cast_ofNat_Int, Int.natCast_one, Int.natCast_zero, Int.reduceEq, Int.reduceLE, Int.reduceLT, Int.reduceNeg, Int.reduceGT, Int.reduceAdd, Int.reduceMul, Int.reduceSub, Int.reduceToNat, Int.reducePow, Int.reduceNe, reduceCtorEq, eq_self, el, a1, a2, ep, la, rowsD_snoc]
          exact ⟨t', _, _, rfl, .inr ⟨_, rfl⟩, hT'.le (by omega)⟩
      · obtain ⟨t, y, x, rfl, hx, hT⟩ := hI
        rw [rangeL_len] at hT ⊢
        have er8 : rng1 [.int (2 + (s : Int))] = some (rangeL 0 (s + 2)) := by
          rw [Ev.p_rng1 _ (inR_of (by omega) (by omega)), show (2 + (s : Int)).toNat = s + 2 by omega]
        have er6 : rng1 [.int 6] = some (rangeL 0 6) := Ev.p_rng1 6 (by decide)
        have es1 : dSeq (.tup (allB (colT d) (tow d) 8)) = some (allB (colT d) (tow d) 8) := rfl
        have es2 : dSeq (.lst ((colT d).map D.int)) = some ((colT d).map D.int) := rfl
        obtain ⟨r7, t7, e30, h7, l7, u7⟩ := lift_sp hT (by omega) 30 (by omega) (by omega)
        simp only [Ev.p_pure, Ev.p_ok, Ev.p_toD, Ev.p_kDf, Ev.p_kDn, Ev.p_toV, Ev.p_kV, Ev.p_some, Ev.p_var, Ev.p_varF, Ev.p_varL, Ev.p_varO, Ev.p_varN, Ev.p_mov, Ev.p_movF, Ev.p_movL, Ev.p_movO, Ev.p_movN, Ev.p_ev2, Ev.p_k2, Ev.p_k2', Ev.p_ev2T, Ev.p_kT, Ev.p_kT', Ev.p_vb, Ev.p_ev1, Ev.p_evC, Ev.p_evL, Ev.p_evO, Ev.p_evSeq, Ev.p_tTruth, Ev.p_kf, Ev.p_cons, Ev.p_vcons, Ev.p_acons, Ev.p_kC1, Ev.p_kC2, Ev.p_arV, Ev.p_kAr, Ev.p_arR, Ev.p_arF, Ev.p_arOw, Ev.p_arN, Ev.p_arL, Ev.p_call, Ev.p_kL1, Ev.p_kL2, Ev.p_if, Ev.p_kIt, Ev.p_kIf, Ev.p_tAnd, Ev.p_tOr, Ev.p_tNot, Ev.p_kN, Ev.p_and, Ev.p_kA, Ev.p_or, Ev.p_kO, Ev.p_not, Ev.p_kNt, Ev.p_ixS, Ev.p_ixO, Ev.p_kX, Ev.p_kXO, Ev.p_slotD, Ev.p_slF, Ev.p_slO, Ev.p_slN, Ev.p_slL, Ev.p_seq, Ev.p_kSn, Ev.p_kSr, Ev.p_kSb, Ev.p_kSc, Ev.p_slot, Ev.p_setU, Ev.p_setF, Ev.p_setO, Ev.p_ofF, Ev.p_ofN, Ev.p_kNx, Ev.p_set, Ev.p_kSet, Ev.p_ret, Ev.p_kRt, Ev.p_expr, Ev.p_kEx, Ev.p_par, Ev.p_kPar, Ev.p_kSs, Ev.p_ss0, Ev.p_ss, Ev.p_asg, Ev.p_kAsg, Ev.p_unp, Ev.p_gs, Ev.p_kG, Ev.p_gs0, Ev.p_gIx, Ev.p_gIO, Ev.p_kUp, Ev.p_upd, Ev.p_upO, Ev.p_upN, Ev.p_upDt, Ev.p_upDf, Ev.p_put, Ev.p_mut, Ev.p_mutO, Ev.p_kNon, Ev.p_kM1, Ev.p_app, Ev.p_sl, Ev.p_kSl1, Ev.p_kSl2, Ev.p_kSl3, Ev.p_add, Ev.p_addL, Ev.p_i2, Ev.p_u1, Ev.p_lt, Ev.p_le, Ev.p_gt, Ev.p_ge, Ev.p_eqI, Ev.p_neI, Ev.p_eqS, Ev.p_neS, Ev.p_isB, Ev.p_isN, Ev.p_notN, Ev.p_tup, Ev.p_lst, Ev.p_abs, Ev.p_intI, Ev.p_intB, Ev.p_len, Ev.p_dlL, Ev.p_dlT, Ev.p_itL, Ev.p_itT, Ev.p_d, Ev.p_dn, Ev.p_rng1, Ev.p_rng2, Ev.p_lo0, Ev.p_lo1, Ev.p_lo2, Ev.p_lo3, Ev.p_lo4, Ev.p_lo5, Ev.p_lo6, Ev.p_lo7, Ev.p_lo8, Ev.p_lo9, Ev.p_lo10, Ev.p_lo11, Ev.p_lo12, Ev.p_lo13, Ev.p_lo14, Ev.p_lo15, Ev.p_lo16, Ev.p_lo17, Ev.p_lo18, Ev.p_lo19, Ev.p_lo20, Ev.p_lo21, Ev.p_lo22, Ev.p_lo23, Ev.p_lo24, Ev.p_p18, Ev.p_p40, Ev.p_lpN, Ev.p_lpC, Ev.p_lpB, Ev.p_lpR, Ev.p_for, Ev.p_whT, Ev.p_whF, Ev.p_lc, Ev.p_callAr, Ev.p_callO1, Ev.p_callO2, Ev.p_refV, Ev.p_refR, Ev.p_ref0, Ev.p_ga, Ev.p_ga0, Ev.p_gaO, Ev.p_gaV, Ev.p_gaR, Ev.p_leF, Ev.p_leL, Ev.p_leO, Ev.p_leN, Ev.p_sc, Ev.p_sc0, Ev.p_scN, Ev.p_scFs, Ev.p_scLs, Ev.p_scOn, Ev.p_scOl, Ev.p_scNn, Ev.p_scNl, Ev.p_fiR, Ev.p_fiV, Ev.p_fi0, Ev.fin_rt, Ev.fin_nx, Ev.ou_ln, Ev.ou_fz, Ev.ou_0, Ev.at_0, Ev.at_1, Ev.at_2, Ev.at_3, Ev.p_lenS, Ev.p_lenO, Ev.p_bind, Ev.q_ok, List.getElem?_cons_zero, List.getElem?_cons_succ, List.set_cons_zero, List.set_cons_succ, List.length_cons, List.length_nil, List.cons_append, List.nil_append, Option.map_some, ↓reduceIte, Bool.not_true, Bool.not_false, decide_true, decide_false, Ev.p_div, Ev.p_mod, Ev.p_pow, Ev.p_mul, Ev.dist, List.contains_cons, List.contains_nil, Bool.or_false, Bool.false_and, Bool.and_true, Bool.true_and, Nat.reduceAdd, Nat.reduceBEq, Ev.permN, Ev.perm, List.map_cons, List.map_nil, List.getD_cons_zero, List.getD_cons_succ, and_self, cond_true, cond_false, Int.cast_ofNat_Int, Int.natCast_one, Int.natCast_zero, Int.reduceEq, Int.reduceLE, Int.reduceLT, Int.reduceNeg, Int.reduceGT, Int.reduceAdd, Int.reduceMul, Int.reduceSub, Int.reduceToNat, Int.reducePow, Int.reduceNe, reduceCtorEq, eq_self, er8]
        rw [lc_eq (fun _ => none) rfl (by rw [rangeL_len]; omega) (fun x hx => ?_), fm_none]
        · simp only [Ev.p_pure, Ev.p_ok, Ev.p_toD, Ev.p_kDf, Ev.p_kDn, Ev.p_toV, Ev.p_kV, Ev.p_some, Ev.p_var, Ev.p_varF, Ev.p_varL, Ev.p_varO, Ev.p_varN, Ev.p_mov, Ev.p_movF, Ev.p_movL, Ev.p_movO, Ev.p_movN, Ev.p_ev2, Ev.p_k2, Ev.p_k2', Ev.p_ev2T, Ev.p_kT, Ev.p_kT', Ev.p_vb, Ev.p_ev1, Ev.p_evC, Ev.p_evL, Ev.p_evO, Ev.p_evSeq, Ev.p_tTruth, Ev.p_kf, Ev.p_cons, Ev.p_vcons, Ev.p_acons, Ev.p_kC1, Ev.p_kC2, Ev.p_arV, Ev.p_kAr, Ev.p_arR, Ev.p_arF, Ev.p_arOw, Ev.p_arN, Ev.p_arL, Ev.p_call, Ev.p_kL1, Ev.p_kL2, Ev.p_if, Ev.p_kIt, Ev.p_kIf, Ev.p_tAnd, Ev.p_tOr, Ev.p_tNot, Ev.p_kN, Ev.p_and, Ev.p_kA, Ev.p_or, Ev.p_kO, Ev.p_not, Ev.p_kNt, Ev.p_ixS, Ev.p_ixO, Ev.p_kX, Ev.p_kXO, Ev.p_slotD, Ev.p_slF, Ev.p_slO, Ev.p_slN, Ev.p_slL, Ev.p_seq, Ev.p_kSn, Ev.p_kSr, Ev.p_kSb, Ev.p_kSc, Ev.p_slot, Ev.p_setU, Ev.p_setF, Ev.p_setO, Ev.p_ofF, Ev.p_ofN, Ev.p_kNx, Ev.p_set, Ev.p_kSet, Ev.p_ret, Ev.p_kRt, Ev.p_expr, Ev.p_kEx, Ev.p_par, Ev.p_kPar, Ev.p_kSs, Ev.p_ss0, Ev.p_ss, Ev.p_asg, Ev.p_kAsg, Ev.p_unp, Ev.p_gs, Ev.p_kG, Ev.p_gs0, Ev.p_gIx, Ev.p_gIO, Ev.p_kUp, Ev.p_upd, Ev.p_upO, Ev.p_upN, Ev.p_upDt, Ev.p_upDf, Ev.p_put, Ev.p_mut, Ev.p_mutO, Ev.p_kNon, Ev.p_kM1, Ev.p_app, Ev.p_sl, Ev.p_kSl1, Ev.p_kSl2, Ev.p_kSl3, Ev.p_add, Ev.p_addL, Ev.p_i2, Ev.p_u1, Ev.p_lt, Ev.p_le, Ev.p_gt, Ev.p_ge, Ev.p_eqI, Ev.p_neI, Ev.p_eqS, Ev.p_neS, Ev.p_isB, Ev.p_isN, Ev.p_notN, Ev.p_tup, Ev.p_lst, Ev.p_abs, Ev.p_intI, Ev.p_intB, Ev.p_len, Ev.p_dlL, Ev.p_dlT, Ev.p_itL, Ev.p_itT, Ev.p_d, Ev.p_dn, Ev.p_rng1, Ev.p_rng2, Ev.p_lo0, Ev.p_lo1, Ev.p_lo2, Ev.p_lo3, Ev.p_lo4, Ev.p_lo5, Ev.p_lo6, Ev.p_lo7, Ev.p_lo8, Ev.p_lo9, Ev.p_lo10, Ev.p_lo11, Ev.p_lo12, Ev.p_lo13, Ev.p_lo14, Ev.p_lo15, Ev.p_lo16, Ev.p_lo17, Ev.p_lo18, Ev.p_lo19, Ev.p_lo20, Ev.p_lo21, Ev.p_lo22, Ev.p_lo23, Ev.p_lo24, Ev.p_p18, Ev.p_p40, Ev.p_lpN, Ev.p_lpC, Ev.p_lpB, Ev.p_lpR, Ev.p_for, Ev.p_whT, Ev.p_whF, Ev.p_lc, Ev.p_callAr, Ev.p_callO1, Ev.p_callO2, Ev.p_refV, Ev.p_refR, Ev.p_ref0, Ev.p_ga, Ev.p_ga0, Ev.p_gaO, Ev.p_gaV, Ev.p_gaR, Ev.p_leF, Ev.p_leL, Ev.p_leO, Ev.p_leN, Ev.p_sc, Ev.p_sc0, Ev.p_scN, Ev.p_scFs, Ev.p_scLs, Ev.p_scOn, Ev.p_scOl, Ev.p_scNn, Ev.p_scNl, Ev.p_fiR, Ev.p_fiV, Ev.p_fi0, Ev.fin_rt, Ev.fin_nx, Ev.ou_ln, Ev.ou_fz, Ev.ou_0, Ev.at_0, Ev.at_1, Ev.at_2, Ev.at_3, Ev.p_lenS, Ev.p_lenO, Ev.p_bind, Ev.q_ok, List.getElem?_cons_zero, List.getElem?_cons_succ, List.set_cons_zero, List.set_cons_succ, List.length_cons, List.length_nil, List.cons_append, List.nil_append, Option.map_some, ↓reduceIte, Bool.not_true, Bool.not_false, decide_true, decide_false, Ev.p_div, Ev.p_mod, Ev.p_pow, Ev.p_mul, Ev.dist, List.contains_cons, List.contains_nil, Bool.or_false, Bool.false_and, Bool.and_true, Bool.true_and, Nat.reduceAdd, Nat.reduceBEq, Ev.permN, Ev.perm, List.map_cons, List.map_nil, List.getD_cons_zero, List.getD_cons_succ, and_self, cond_true, cond_false, Int.cast_ofNat_Int, Int.natCast_one, Int.natCast_zero, Int.reduceEq, Int.reduceLE, Int.reduceLT, Int.reduceNeg, Int.reduceGT, Int.reduceAdd, Int.reduceMul, Int.reduceSub, Int.reduceToNat, Int.reducePow, Int.reduceNe, reduceCtorEq, eq_self, n0, es1]
          rw [lc_pairs (prs (colT d) (tow d)) (prs_1 _ _ (by rw [col_len]; decide)) rfl (by rw [prs_len, col_len]; decide) (fun p hp => ?_), prs_2]
          · simp only [Ev.p_pure, Ev.p_ok, Ev.p_toD, Ev.p_kDf, Ev.p_kDn, Ev.p_toV, Ev.p_kV, Ev.p_some, Ev.p_var, Ev.p_varF, Ev.p_varL, Ev.p_varO, Ev.p_varN, Ev.p_mov, Ev.p_movF, Ev.p_movL, Ev.p_movO, Ev.p_movN, Ev.p_ev2, Ev.p_k2, Ev.p_k2', Ev.p_ev2T, Ev.p_kT, Ev.p_kT', Ev.p_vb, Ev.p_ev1, Ev.p_evC, Ev.p_evL, Ev.p_evO, Ev.p_evSeq, Ev.p_tTruth, Ev.p_kf, Ev.p_cons, Ev.p_vcons, Ev.p_acons, Ev.p_kC1, Ev.p_kC2, Ev.p_arV, Ev.p_kAr, Ev.p_arR, Ev.p_arF, Ev.p_arOw, Ev.p_arN, Ev.p_arL, Ev.p_call, Ev.p_kL1, Ev.p_kL2, Ev.p_if, Ev.p_kIt, Ev.p_kIf, Ev.p_tAnd, Ev.p_tOr, Ev.p_tNot, Ev.p_kN, Ev.p_and, Ev.p_kA, Ev.p_or, Ev.p_kO, Ev.p_not, Ev.p_kNt, Ev.p_ixS, Ev.p_ixO, Ev.p_kX, Ev.p_kXO, Ev.p_slotD, Ev.p_slF, Ev.p_slO, Ev.p_slN, Ev.p_slL, Ev.p_seq, Ev.p_kSn, Ev.p_kSr, Ev.p_kSb, Ev.p_kSc, Ev.p_slot, Ev.p_setU, Ev.p_setF, Ev.p_setO, Ev.p_ofF, Ev.p_ofN, Ev.p_kNx, Ev.p_set, Ev.p_kSet, Ev.p_ret, Ev.p_kRt, Ev.p_expr, Ev.p_kEx, Ev.p_par, Ev.p_kPar, Ev.p_kSs, Ev.p_ss0, Ev.p_ss, Ev.p_asg, Ev.p_kAsg, Ev.p_unp, Ev.p_gs, Ev.p_kG, Ev.p_gs0, Ev.p_gIx, Ev.p_gIO, Ev.p_kUp, Ev.p_upd, Ev.p_upO, Ev.p_upN, Ev.p_upDt, Ev.p_upDf, Ev.p_put, Ev.p_mut, Ev.p_mutO, Ev.p_kNon, Ev.p_kM1, Ev.p_app, Ev.p_sl, Ev.p_kSl1, Ev.p_kSl2, Ev.p_kSl3, Ev.p_add, Ev.p_addL, Ev.p_i2, Ev.p_u1, Ev.p_lt, Ev.p_le, Ev.p_gt, Ev.p_ge, Ev.p_eqI, Ev.p_neI, Ev.p_eqS, Ev.p_neS, Ev.p_isB, Ev.p_isN, Ev.p_notN, Ev.p_tup, Ev.p_lst, Ev.p_abs, Ev.p_intI, Ev.p_intB, Ev.p_len, Ev.p_dlL, Ev.p_dlT, Ev.p_itL, Ev.p_itT, Ev.p_d, Ev.p_dn, Ev.p_rng1, Ev.p_rng2, Ev.p_lo0, Ev.p_lo1, Ev.p_lo2, Ev.p_lo3, Ev.p_lo4, Ev.p_lo5, Ev.p_lo6, Ev.p_lo7, Ev.p_lo8, Ev.p_lo9, Ev.p_lo10, Ev.p_lo11, Ev.p_lo12, Ev.p_lo13, Ev.p_lo14, Ev.p_lo15, Ev.p_lo16, Ev.p_lo17, Ev.p_lo18, Ev.p_lo19, Ev.p_lo20, Ev.p_lo21, Ev.p_lo22, Ev.p_lo23, Ev.p_lo24, Ev.p_p18, Ev.p_p40, Ev.p_lpN, Ev.p_lpC, Ev.p_lpB, Ev.p_lpR, Ev.p_for, Ev.p_whT, Ev.p_whF, Ev.p_lc, Ev.p_callAr, Ev.p_callO1, Ev.p_callO2, Ev.p_refV, Ev.p_refR, Ev.p_ref0, Ev.p_ga, Ev.p_ga0, Ev.p_gaO, Ev.p_gaV, Ev.p_gaR, Ev.p_leF, Ev.p_leL, Ev.p_leO, Ev.p_leN, Ev.p_sc, Ev.p_sc0, Ev.p_scN, Ev.p_scFs, Ev.p_scLs, Ev.p_scOn, Ev.p_scOl, Ev.p_scNn, Ev.p_scNl, Ev.p_fiR, Ev.p_fiV, Ev.p_fi0, Ev.fin_rt, Ev.fin_nx, Ev.ou_ln, Ev.ou_fz, Ev.ou_0, Ev.at_0, Ev.at_1, Ev.at_2, Ev.at_3, Ev.p_lenS, Ev.p_lenO, Ev.p_bind, Ev.q_ok, List.getElem?_cons_zero, List.getElem?_cons_succ, List.set_cons_zero, List.set_cons_succ, List.length_cons, List.length_nil, List.cons_append, List.nil_append, Option.map_some, ↓reduceIte, Bool.not_true, Bool.not_false, decide_true, decide_false, Ev.p_div, Ev.p_mod, Ev.p_pow, Ev.p_mul, Ev.dist, List.contains_cons, List.contains_nil, Bool.or_false, Bool.false_and, Bool.and_true, Bool.true_and, Nat.reduceAdd, Nat.reduceBEq, Ev.permN, Ev.perm, List.map_cons, List.map_nil, List.getD_cons_zero, List.getD_cons_succ, and_self, cond_true, cond_false, Int.cast_ofNat_Int, Int.natCast_one, Int.natCast_zero, Int.reduceEq, Int.reduceLE, Int.reduceLT, Int.reduceNeg, Int.reduceGT, Int.reduceAdd, Int.reduceMul, Int.reduceSub, Int.reduceToNat, Int.reducePow, Int.reduceNe, reduceCtorEq, eq_self, es2]
            rw [lc_eq (fun _ => none) rfl (by rw [List.length_map, col_len]; decide) (fun x hx => ?_), fm_none]
            · simp only [Ev.p_pure, Ev.p_ok, Ev.p_toD, Ev.p_kDf, Ev.p_kDn, Ev.p_toV, Ev.p_kV, Ev.p_some, Ev.p_var, Ev.p_varF, Ev.p_varL, Ev.p_varO, Ev.p_varN, Ev.p_mov, Ev.p_movF, Ev.p_movL, Ev.p_movO, Ev.p_movN, Ev.p_ev2, Ev.p_k2, Ev.p_k2', Ev.p_ev2T, Ev.p_kT, Ev.p_kT', Ev.p_vb, Ev.p_ev1, Ev.p_evC, Ev.p_evL, Ev.p_evO, Ev.p_evSeq, Ev.p_tTruth, Ev.p_kf, Ev.p_cons, Ev.p_vcons, Ev.p_acons, Ev.p_kC1, Ev.p_kC2, Ev.p_arV, Ev.p_kAr, Ev.p_arR, Ev.p_arF, Ev.p_arOw, Ev.p_arN, Ev.p_arL, Ev.p_call, Ev.p_kL1, Ev.p_kL2, Ev.p_if, Ev.p_kIt, Ev.p_kIf, Ev.p_tAnd, Ev.p_tOr, Ev.p_tNot, Ev.p_kN, Ev.p_and, Ev.p_kA, Ev.p_or, Ev.p_kO, Ev.p_not, Ev.p_kNt, Ev.p_ixS, Ev.p_ixO, Ev.p_kX, Ev.p_kXO, Ev.p_slotD, Ev.p_slF, Ev.p_slO, Ev.p_slN, Ev.p_slL, Ev.p_seq, Ev.p_kSn, Ev.p_kSr, Ev.p_kSb, Ev.p_kSc, Ev.p_slot, Ev.p_setU, Ev.p_setF, Ev.p_setO, Ev.p_ofF, Ev.p_ofN, Ev.p_kNx, Ev.p_set, Ev.p_kSet, Ev.p_ret, Ev.p_kRt, Ev.p_expr, Ev.p_kEx, Ev.p_par, Ev.p_kPar, Ev.p_kSs, Ev.p_ss0, Ev.p_ss, Ev.p_asg, Ev.p_kAsg, Ev.p_unp, Ev.p_gs, Ev.p_kG, Ev.p_gs0, Ev.p_gIx, Ev.p_gIO, Ev.p_kUp, Ev.p_upd, Ev.p_upO, Ev.p_upN, Ev.p_upDt, Ev.p_upDf, Ev.p_put, Ev.p_mut, Ev.p_mutO, Ev.p_kNon, Ev.p_kM1, Ev.p_app, Ev.p_sl, Ev.p_kSl1, Ev.p_kSl2, Ev.p_kSl3, Ev.p_add, Ev.p_addL, Ev.p_i2, Ev.p_u1, Ev.p_lt, Ev.p_le, Ev.p_gt, Ev.p_ge, Ev.p_eqI, Ev.p_neI, Ev.p_eqS, Ev.p_neS, Ev.p_isB, Ev.p_isN, Ev.p_notN, Ev.p_tup, Ev.p_lst, Ev.p_abs, Ev.p_intI, Ev.p_intB, Ev.p_len, Ev.p_dlL, Ev.p_dlT, Ev.p_itL, Ev.p_itT, Ev.p_d, Ev.p_dn, Ev.p_rng1, Ev.p_rng2, Ev.p_lo0, Ev.p_lo1, Ev.p_lo2, Ev.p_lo3, Ev.p_lo4, Ev.p_lo5, Ev.p_lo6, Ev.p_lo7, Ev.p_lo8, Ev.p_lo9, Ev.p_lo10, Ev.p_lo11, Ev.p_lo12, Ev.p_lo13, Ev.p_lo14, Ev.p_lo15, Ev.p_lo16, Ev.p_lo17, Ev.p_lo18, Ev.p_lo19, Ev.p_lo20, Ev.p_lo21, Ev.p_lo22, Ev.p_lo23, Ev.p_lo24, Ev.p_p18, Ev.p_p40, Ev.p_lpN, Ev.p_lpC, Ev.p_lpB, Ev.p_lpR, Ev.p_for, Ev.p_whT, Ev.p_whF, Ev.p_lc, Ev.p_callAr, Ev.p_callO1, Ev.p_callO2, Ev.p_refV, Ev.p_refR, Ev.p_ref0, Ev.p_ga, Ev.p_ga0, Ev.p_gaO, Ev.p_gaV, Ev.p_gaR, Ev.p_leF, Ev.p_leL, Ev.p_leO, Ev.p_leN, Ev.p_sc, Ev.p_sc0, Ev.p_scN, Ev.p_scFs, Ev.p_scLs, Ev.p_scOn, Ev.p_scOl, Ev.p_scNn, Ev.p_scNl, Ev.p_fiR, Ev.p_fiV, Ev.p_fi0, Ev.fin_rt, Ev.fin_nx, Ev.ou_ln, Ev.ou_fz, Ev.ou_0, Ev.at_0, Ev.at_1, Ev.at_2, Ev.at_3, Ev.p_lenS, Ev.p_lenO, Ev.p_bind, Ev.q_ok, List.getElem?_cons_zero, List.getElem?_cons_succ, List.set_cons_zero, List.set_cons_succ, List.length_cons, List.length_nil, List.cons_append, List.nil_append, Option.map_some, ↓reduceIte, Bool.not_true, Bool.not_false, decide_true, decide_false, Ev.p_div, Ev.p_mod, Ev.p_pow, Ev.p_mul, Ev.dist, List.contains_cons, List.contains_nil, Bool.or_false, Bool.false_and, Bool.and_true, Bool.true_and, Nat.reduceAdd, Nat.reduceBEq, Ev.permN, Ev.perm, List.map_cons, List.map_nil, List.getD_cons_zero, List.getD_cons_succ, and_self, cond_true, cond_false, Int.cast_ofNat_Int, Int.natCast_one, Int.natCast_zero, Int.reduceEq, Int.reduceLE, Int.reduceLT, Int.reduceNeg, Int.reduceGT, Int.reduceAdd, Int.reduceMul, Int.reduceSub, Int.reduceToNat, Int.reducePow, Int.reduceNe, reduceCtorEq, eq_self, n0, er6]
              rw [lc_eq (fun _ => none) rfl (by rw [rangeL_len]; decide) (fun x hx => ?_), fm_none]
              · by_cases h3 : r7 = 3
                · have g1 := all_best_sp 60 250 GT (by decide) (by decide) (by decide) gt_ok (by rw [gt_len]; decide)
                  simp only [Int.cast_ofNat_Int] at g1
                  have es3 : dSeq (.tup (allB GT (tow 250) 60)) = some (allB GT (tow 250) 60) := rfl
                  have es4 : dSeq (.lst (GT.map D.int)) = some (GT.map D.int) := rfl
                  have er58 : rng1 [.int 58] = some (rangeL 0 58) := Ev.p_rng1 58 (by decide)
                  simp only [Ev.p_pure, Ev.p_ok, Ev.p_toD, Ev.p_kDf, Ev.p_kDn, Ev.p_toV, Ev.p_kV, Ev.p_some, Ev.p_var, Ev.p_varF, Ev.p_varL, Ev.p_varO, Ev.p_varN, Ev.p_mov, Ev.p_movF, Ev.p_movL, Ev.p_movO, Ev.p_movN, Ev.p_ev2, Ev.p_k2, Ev.p_k2', Ev.p_ev2T, Ev.p_kT, Ev.p_kT', Ev.p_vb, Ev.p_ev1, Ev.p_evC, Ev.p_evL, Ev.p_evO, Ev.p_evSeq, Ev.p_tTruth, Ev.p_kf, Ev.p_cons, Ev.p_vcons, Ev.p_acons, Ev.p_kC1, Ev.p_kC2, Ev.p_arV, Ev.p_kAr, Ev.p_arR, Ev.p_arF, Ev.p_arOw, Ev.p_arN, Ev.p_arL, Ev.p_call, Ev.p_kL1, Ev.p_kL2, Ev.p_if, Ev.p_kIt, Ev.p_kIf, Ev.p_tAnd, Ev.p_tOr, Ev.p_tNot, Ev.p_kN, Ev.p_and, Ev.p_kA, Ev.p_or, Ev.p_kO, Ev.p_not, Ev.p_kNt, Ev.p_ixS, Ev.p_ixO, Ev.p_kX, Ev.p_kXO, Ev.p_slotD, Ev.p_slF, Ev.p_slO, Ev.p_slN, Ev.p_slL, Ev.p_seq, Ev.p_kSn, Ev.p_kSr, Ev.p_kSb, Ev.p_kSc, Ev.p_slot, Ev.p_setU, Ev.p_setF, Ev.p_setO, Ev.p_ofF, Ev.p_ofN, Ev.p_kNx, Ev.p_set, Ev.p_kSet, Ev.p_ret, Ev.p_kRt, Ev.p_expr, Ev.p_kEx, Ev.p_par, Ev.p_kPar, Ev.p_kSs, Ev.p_ss0, Ev.p_ss, Ev.p_asg, Ev.p_kAsg, Ev.p_unp, Ev.p_gs, Ev.p_kG, Ev.p_gs0, Ev.p_gIx, Ev.p_gIO, Ev.p_kUp, Ev.p_upd, Ev.p_upO, Ev.p_upN, Ev.p_upDt, Ev.p_upDf, Ev.p_put, Ev.p_mut, Ev.p_mutO, Ev.p_kNon, Ev.p_kM1, Ev.p_app, Ev.p_sl, Ev.p_kSl1, Ev.p_kSl2, Ev.p_kSl3, Ev.p_add, Ev.p_addL, Ev.p_i2, Ev.p_u1, Ev.p_lt, Ev.p_le, Ev.p_gt, Ev.p_ge, Ev.p_eqI, Ev.p_neI, Ev.p_eqS, Ev.p_neS, Ev.p_isB, Ev.p_isN, Ev.p_notN, Ev.p_tup, Ev.p_lst, Ev.p_abs, Ev.p_intI, Ev.p_intB, Ev.p_len, Ev.p_dlL, Ev.p_dlT, Ev.p_itL, Ev.p_itT, Ev.p_d, Ev.p_dn, Ev.p_rng1, Ev.p_rng2, Ev.p_lo0, Ev.p_lo1, Ev.p_lo2, Ev.p_lo3, Ev.p_lo4, Ev.p_lo5, Ev.p_lo6, Ev.p_lo7, Ev.p_lo8, Ev.p_lo9, Ev.p_lo10, Ev.p_lo11, Ev.p_lo12, Ev.p_lo13, Ev.p_lo14, Ev.p_lo15, Ev.p_lo16, Ev.p_lo17, Ev.p_lo18, Ev.p_lo19, Ev.p_lo20, Ev.p_lo21, Ev.p_lo22, Ev.p_lo23, Ev.p_lo24, Ev.p_p18, Ev.p_p40, Ev.p_lpN, Ev.p_lpC, Ev.p_lpB, Ev.p_lpR, Ev.p_for, Ev.p_whT, Ev.p_whF, Ev.p_lc, Ev.p_callAr, Ev.p_callO1, Ev.p_callO2, Ev.p_refV, Ev.p_refR, Ev.p_ref0, Ev.p_ga, Ev.p_ga0, Ev.p_gaO, Ev.p_gaV, Ev.p_gaR, Ev.p_leF, Ev.p_leL, Ev.p_leO, Ev.p_leN, Ev.p_sc, Ev.p_sc0, Ev.p_scN, Ev.p_scFs, Ev.p_scLs, Ev.p_scOn, Ev.p_scOl, Ev.p_scNn, Ev.p_scNl, Ev.p_fiR, Ev.p_fiV, Ev.p_fi0, Ev.fin_rt, Ev.fin_nx, Ev.ou_ln, Ev.ou_fz, Ev.ou_0, Ev.at_0, Ev.at_1, Ev.at_2, Ev.at_3, Ev.p_lenS, Ev.p_lenO, Ev.p_bind, Ev.q_ok, List.getElem?_cons_zero, List.getElem?_cons_succ, List.set_cons_zero, List.set_cons_succ, List.length_cons, List.length_nil, List.cons_append, List.nil_append, Option.map_some, ↓reduceIte, Bool.not_true, Bool.not_false, decide_true, decide_false, Ev.p_div, Ev.p_mod, Ev.p_pow, Ev.p_mul, Ev.dist, List.contains_cons, List.contains_nil, Bool.or_false, Bool.false_and, Bool.and_true, Bool.true_and, Nat.reduceAdd, Nat.reduceBEq, Ev.permN, Ev.perm, List.map_cons, List.map_nil, List.getD_cons_zero, List.getD_cons_succ, and_self, cond_true, cond_false, Int.cast_ofNat_Int, Int.natCast_one, Int.natCast_zero, Int.reduceEq, Int.reduceLE, Int.reduceLT, Int.reduceNeg, Int.reduceGT, Int.reduceAdd, Int.reduceMul, Int.reduceSub, Int.reduceToNat, Int.reducePow, Int.reduceNe, reduceCtorEq, eq_self, n0, e30, decide_eq_true h3, g1, es3]
                  rw [lc_pairs (prs GT (tow 250)) (prs_1 _ _ (by rw [gt_len]; decide)) rfl (by rw [prs_len, gt_len]; decide) (fun p hp => ?_), prs_2]
                  · simp only [Ev.p_pure, Ev.p_ok, Ev.p_toD, Ev.p_kDf, Ev.p_kDn, Ev.p_toV, Ev.p_kV, Ev.p_some, Ev.p_var, Ev.p_varF, Ev.p_varL, Ev.p_varO, Ev.p_varN, Ev.p_mov, Ev.p_movF, Ev.p_movL, Ev.p_movO, Ev.p_movN, Ev.p_ev2, Ev.p_k2, Ev.p_k2', Ev.p_ev2T, Ev.p_kT, Ev.p_kT', Ev.p_vb, Ev.p_ev1, Ev.p_evC, Ev.p_evL, Ev.p_evO, Ev.p_evSeq, Ev.p_tTruth, Ev.p_kf, Ev.p_cons, Ev.p_vcons, Ev.p_acons, Ev.p_kC1, Ev.p_kC2, Ev.p_arV, Ev.p_kAr, Ev.p_arR, Ev.p_arF, Ev.p_arOw, Ev.p_arN, Ev.p_arL, Ev.p_call, Ev.p_kL1, Ev.p_kL2, Ev.p_if, Ev.p_kIt, Ev.p_kIf, Ev.p_tAnd, Ev.p_tOr, Ev.p_tNot, Ev.p_kN, Ev.p_and, Ev.p_kA, Ev.p_or, Ev.p_kO, Ev.p_not, Ev.p_kNt, Ev.p_ixS, Ev.p_ixO, Ev.p_kX, Ev.p_kXO, Ev.p_slotD, Ev.p_slF, Ev.p_slO, Ev.p_slN, Ev.p_slL, Ev.p_seq, Ev.p_kSn, Ev.p_kSr, Ev.p_kSb, Ev.p_kSc, Ev.p_slot, Ev.p_setU, Ev.p_setF, Ev.p_setO, Ev.p_ofF, Ev.p_ofN, Ev.p_kNx, Ev.p_set, Ev.p_kSet, Ev.p_ret, Ev.p_kRt, Ev.p_expr, Ev.p_kEx, Ev.p_par, Ev.p_kPar, Ev.p_kSs, Ev.p_ss0, Ev.p_ss, Ev.p_asg, Ev.p_kAsg, Ev.p_unp, Ev.p_gs, Ev.p_kG, Ev.p_gs0, Ev.p_gIx, Ev.p_gIO, Ev.p_kUp, Ev.p_upd, Ev.p_upO, Ev.p_upN, Ev.p_upDt, Ev.p_upDf, Ev.p_put, Ev.p_mut, Ev.p_mutO, Ev.p_kNon, Ev.p_kM1, Ev.p_app, Ev.p_sl, Ev.p_kSl1, Ev.p_kSl2, Ev.p_kSl3, Ev.p_add, Ev.p_addL, Ev.p_i2, Ev.p_u1, Ev.p_lt, Ev.p_le, Ev.p_gt, Ev.p_ge, Ev.p_eqI, Ev.p_neI, Ev.p_eqS, Ev.p_neS, Ev.p_isB, Ev.p_isN, Ev.p_notN, Ev.p_tup, Ev.p_lst, Ev.p_abs, Ev.p_intI, Ev.p_intB, Ev.p_len, Ev.p_dlL, Ev.p_dlT, Ev.p_itL, Ev.p_itT, Ev.p_d, Ev.p_dn, Ev.p_rng1, Ev.p_rng2, Ev.p_lo0, Ev.p_lo1, Ev.p_lo2, Ev.p_lo3, Ev.p_lo4, Ev.p_lo5, Ev.p_lo6, Ev.p_lo7, Ev.p_lo8, Ev.p_lo9, Ev.p_lo10, Ev.p_lo11, Ev.p_lo12, Ev.p_lo13, Ev.p_lo14, Ev.p_lo15, Ev.p_lo16, Ev.p_lo17, Ev.p_lo18, Ev.p_lo19, Ev.p_lo20, Ev.p_lo21, Ev.p_lo22, Ev.p_lo23, Ev.p_lo24, Ev.p_p18, Ev.p_p40, Ev.p_lpN, Ev.p_lpC, Ev.p_lpB, Ev.p_lpR, Ev.p_for, Ev.p_whT, Ev.p_whF, Ev.p_lc, Ev.p_callAr, Ev.p_callO1, Ev.p_callO2, Ev.p_refV, Ev.p_refR, Ev.p_ref0, Ev.p_ga, Ev.p_ga0, Ev.p_gaO, Ev.p_gaV, Ev.p_gaR, Ev.p_leF, Ev.p_leL, Ev.p_leO, Ev.p_leN, Ev.p_sc, Ev.p_sc0, Ev.p_scN, Ev.p_scFs, Ev.p_scLs, Ev.p_scOn, Ev.p_scOl, Ev.p_scNn, Ev.p_scNl, Ev.p_fiR, Ev.p_fiV, Ev.p_fi0, Ev.fin_rt, Ev.fin_nx, Ev.ou_ln, Ev.ou_fz, Ev.ou_0, Ev.at_0, Ev.at_1, Ev.at_2, Ev.at_3, Ev.p_lenS, Ev.p_lenO, Ev.p_bind, Ev.q_ok, List.getElem?_cons_zero, List.getElem?_cons_succ, List.set_cons_zero, List.set_cons_succ, List.length_cons, List.length_nil, List.cons_append, List.nil_append, Option.map_some, ↓reduceIte, Bool.not_true, Bool.not_false, decide_true, decide_false, Ev.p_div, Ev.p_mod, Ev.p_pow, Ev.p_mul, Ev.dist, List.contains_cons, List.contains_nil, Bool.or_false, Bool.false_and, Bool.and_true, Bool.true_and, Nat.reduceAdd, Nat.reduceBEq, Ev.permN, Ev.perm, List.map_cons, List.map_nil, List.getD_cons_zero, List.getD_cons_succ, and_self, cond_true, cond_false, Int.cast_ofNat_Int, Int.natCast_one, Int.natCast_zero, Int.reduceEq, Int.reduceLE, Int.reduceLT, Int.reduceNeg, Int.reduceGT, Int.reduceAdd, Int.reduceMul, Int.reduceSub, Int.reduceToNat, Int.reducePow, Int.reduceNe, reduceCtorEq, eq_self, es4]
                    rw [lc_eq (fun _ => none) rfl (by rw [List.length_map, gt_len]; decide) (fun x hx => ?_), fm_none]
                    · simp only [Ev.p_pure, Ev.p_ok, Ev.p_toD, Ev.p_kDf, Ev.p_kDn, Ev.p_toV, Ev.p_kV, Ev.p_some, Ev.p_var, Ev.p_varF, Ev.p_varL, Ev.p_varO, Ev.p_varN, Ev.p_mov, Ev.p_movF, Ev.p_movL, Ev.p_movO, Ev.p_movN, Ev.p_ev2, Ev.p_k2, Ev.p_k2', Ev.p_ev2T, Ev.p_kT, Ev.p_kT', Ev.p_vb, Ev.p_ev1, Ev.p_evC, Ev.p_evL, Ev.p_evO, Ev.p_evSeq, Ev.p_tTruth, Ev.p_kf, Ev.p_cons, Ev.p_vcons, Ev.p_acons, Ev.p_kC1, Ev.p_kC2, Ev.p_arV, Ev.p_kAr, Ev.p_arR, Ev.p_arF, Ev.p_arOw, Ev.p_arN, Ev.p_arL, Ev.p_call, Ev.p_kL1, Ev.p_kL2, Ev.p_if, Ev.p_kIt, Ev.p_kIf, Ev.p_tAnd, Ev.p_tOr, Ev.p_tNot, Ev.p_kN, Ev.p_and, Ev.p_kA, Ev.p_or, Ev.p_kO, Ev.p_not, Ev.p_kNt, Ev.p_ixS, Ev.p_ixO, Ev.p_kX, Ev.p_kXO, Ev.p_slotD, Ev.p_slF, Ev.p_slO, Ev.p_slN, Ev.p_slL, Ev.p_seq, Ev.p_kSn, Ev.p_kSr, Ev.p_kSb, Ev.p_kSc, Ev.p_slot, Ev.p_setU, Ev.p_setF, Ev.p_setO, Ev.p_ofF, Ev.p_ofN, Ev.p_kNx, Ev.p_set, Ev.p_kSet, Ev.p_ret, Ev.p_kRt, Ev.p_expr, Ev.p_kEx, Ev.p_par, Ev.p_kPar, Ev.p_kSs, Ev.p_ss0, Ev.p_ss, Ev.p_asg, Ev.p_kAsg, Ev.p_unp, Ev.p_gs, Ev.p_kG, Ev.p_gs0, Ev.p_gIx, Ev.p_gIO, Ev.p_kUp, Ev.p_upd, Ev.p_upO, Ev.p_upN, Ev.p_upDt, Ev.p_upDf, Ev.p_put, Ev.p_mut, Ev.p_mutO, Ev.p_kNon, Ev.p_kM1, Ev.p_app, Ev.p_sl, Ev.p_kSl1, Ev.p_kSl2, Ev.p_kSl3, Ev.p_add, Ev.p_addL, Ev.p_i2, Ev.p_u1, Ev.p_lt, Ev.p_le, Ev.p_gt, Ev.p_ge, Ev.p_eqI, Ev.p_neI, Ev.p_eqS, Ev.p_neS, Ev.p_isB, Ev.p_isN, Ev.p_notN, Ev.p_tup, Ev.p_lst, Ev.p_abs, Ev.p_intI, Ev.p_intB, Ev.p_len, Ev.p_dlL, Ev.p_dlT, Ev.p_itL, Ev.p_itT, Ev.p_d, Ev.p_dn, Ev.p_rng1, Ev.p_rng2, Ev.p_lo0, Ev.p_lo1, Ev.p_lo2, Ev.p_lo3, Ev.p_lo4, Ev.p_lo5, Ev.p_lo6, Ev.p_lo7, Ev.p_lo8, Ev.p_lo9, Ev.p_lo10, Ev.p_lo11, Ev.p_lo12, Ev.p_lo13, Ev.p_lo14, Ev.p_lo15, Ev.p_lo16, Ev.p_lo17, Ev.p_lo18, Ev.p_lo19, Ev.p_lo20, Ev.p_lo21, Ev.p_lo22, Ev.p_lo23, Ev.p_lo24, Ev.p_p18, Ev.p_p40, Ev.p_lpN, Ev.p_lpC, Ev.p_lpB, Ev.p_lpR, Ev.p_for, Ev.p_whT, Ev.p_whF, Ev.p_lc, Ev.p_callAr, Ev.p_callO1, Ev.p_callO2, Ev.p_refV, Ev.p_refR, Ev.p_ref0, Ev.p_ga, Ev.p_ga0, Ev.p_gaO, Ev.p_gaV, Ev.p_gaR, Ev.p_leF, Ev.p_leL, Ev.p_leO, Ev.p_leN, Ev.p_sc, Ev.p_sc0, Ev.p_scN, Ev.p_scFs, Ev.p_scLs, Ev.p_scOn, Ev.p_scOl, Ev.p_scNn, Ev.p_scNl, Ev.p_fiR, Ev.p_fiV, Ev.p_fi0, Ev.fin_rt, Ev.fin_nx, Ev.ou_ln, Ev.ou_fz, Ev.ou_0, Ev.at_0, Ev.at_1, Ev.at_2, Ev.at_3, Ev.p_lenS, Ev.p_lenO, Ev.p_bind, Ev.q_ok, List.getElem?_cons_zero, List.getElem?_cons_succ, List.set_cons_zero, List.set_cons_succ, List.length_cons, List.length_nil, List.cons_append, List.nil_append, Option.map_some, ↓reduceIte, Bool.not_true, Bool.not_false, decide_true, decide_false, Ev.p_div, Ev.p_mod, Ev.p_pow, Ev.p_mul, Ev.dist, List.contains_cons, List.contains_nil, Bool.or_false, Bool.false_and, Bool.and_true, Bool.true_and, Nat.reduceAdd, Nat.reduceBEq, Ev.permN, Ev.perm, List.map_cons, List.map_nil, List.getD_cons_zero, List.getD_cons_succ, and_self, cond_true, cond_false, Int.cast_ofNat_Int, Int.natCast_one, Int.natCast_zero, Int.reduceEq, Int.reduceLE, Int.reduceLT, Int.reduceNeg, Int.reduceGT, Int.reduceAdd, Int.reduceMul, Int.reduceSub, Int.reduceToNat, Int.reducePow, Int.reduceNe, reduceCtorEq, eq_self, n0, er58]
                      rw [lc_eq (fun _ => none) rfl (by rw [rangeL_len]; decide) (fun x hx => ?_), fm_none]
                      · simp only [Ev.p_pure, Ev.p_ok, Ev.p_toD, Ev.p_kDf, Ev.p_kDn, Ev.p_toV, Ev.p_kV, Ev.p_some, Ev.p_var, Ev.p_varF, Ev.p_varL, Ev.p_varO, Ev.p_varN, Ev.p_mov, Ev.p_movF, Ev.p_movL, Ev.p_movO, Ev.p_movN, Ev.p_ev2, Ev.p_k2, Ev.p_k2', Ev.p_ev2T, Ev.p_kT, Ev.p_kT', Ev.p_vb, Ev.p_ev1, Ev.p_evC, Ev.p_evL, Ev.p_evO, Ev.p_evSeq, Ev.p_tTruth, Ev.p_kf, Ev.p_cons, Ev.p_vcons, Ev.p_acons, Ev.p_kC1, Ev.p_kC2, Ev.p_arV, Ev.p_kAr, Ev.p_arR, Ev.p_arF, Ev.p_arOw, Ev.p_arN, Ev.p_arL, Ev.p_call, Ev.p_kL1, Ev.p_kL2, Ev.p_if, Ev.p_kIt, Ev.p_kIf, Ev.p_tAnd, Ev.p_tOr, Ev.p_tNot, Ev.p_kN, Ev.p_and, Ev.p_kA, Ev.p_or, Ev.p_kO, Ev.p_not, Ev.p_kNt, Ev.p_ixS, Ev.p_ixO, Ev.p_kX, Ev.p_kXO, Ev.p_slotD, Ev.p_slF, Ev.p_slO, Ev.p_slN, Ev.p_slL, Ev.p_seq, Ev.p_kSn, Ev.p_kSr, Ev.p_kSb, Ev.p_kSc, Ev.p_slot, Ev.p_setU, Ev.p_setF, Ev.p_setO, Ev.p_ofF, Ev.p_ofN, Ev.p_kNx, Ev.p_set, Ev.p_kSet, Ev.p_ret, Ev.p_kRt, Ev.p_expr, Ev.p_kEx, Ev.p_par, Ev.p_kPar, Ev.p_kSs, Ev.p_ss0, Ev.p_ss, Ev.p_asg, Ev.p_kAsg, Ev.p_unp, Ev.p_gs, Ev.p_kG, Ev.p_gs0, Ev.p_gIx, Ev.p_gIO, Ev.p_kUp, Ev.p_upd, Ev.p_upO, Ev.p_upN, Ev.p_upDt, Ev.p_upDf, Ev.p_put, Ev.p_mut, Ev.p_mutO, Ev.p_kNon, Ev.p_kM1, Ev.p_app, Ev.p_sl, Ev.p_kSl1, Ev.p_kSl2, Ev.p_kSl3, Ev.p_add, Ev.p_addL, Ev.p_i2, Ev.p_u1, Ev.p_lt, Ev.p_le, Ev.p_gt, Ev.p_ge, Ev.p_eqI, Ev.p_neI, Ev.p_eqS, Ev.p_neS, Ev.p_isB, Ev.p_isN, Ev.p_notN, Ev.p_tup, Ev.p_lst, Ev.p_abs, Ev.p_intI, Ev.p_intB, Ev.p_len, Ev.p_dlL, Ev.p_dlT, Ev.p_itL, Ev.p_itT, Ev.p_d, Ev.p_dn, Ev.p_rng1, Ev.p_rng2, Ev.p_lo0, Ev.p_lo1, Ev.p_lo2, Ev.p_lo3, Ev.p_lo4, Ev.p_lo5, Ev.p_lo6, Ev.p_lo7, Ev.p_lo8, Ev.p_lo9, Ev.p_lo10, Ev.p_lo11, Ev.p_lo12, Ev.p_lo13, Ev.p_lo14, Ev.p_lo15, Ev.p_lo16, Ev.p_lo17, Ev.p_lo18, Ev.p_lo19, Ev.p_lo20, Ev.p_lo21, Ev.p_lo22, Ev.p_lo23, Ev.p_lo24, Ev.p_p18, Ev.p_p40, Ev.p_lpN, Ev.p_lpC, Ev.p_lpB, Ev.p_lpR, Ev.p_for, Ev.p_whT, Ev.p_whF, Ev.p_lc, Ev.p_callAr, Ev.p_callO1, Ev.p_callO2, Ev.p_refV, Ev.p_refR, Ev.p_ref0, Ev.p_ga, Ev.p_ga0, Ev.p_gaO, Ev.p_gaV, Ev.p_gaR, Ev.p_leF, Ev.p_leL, Ev.p_leO, Ev.p_leN, Ev.p_sc, Ev.p_sc0, Ev.p_scN, Ev.p_scFs, Ev.p_scLs, Ev.p_scOn, Ev.p_scOl, Ev.p_scNn, Ev.p_scNl, Ev.p_fiR, Ev.p_fiV, Ev.p_fi0, Ev.fin_rt, Ev.fin_nx, Ev.ou_ln, Ev.ou_fz, Ev.ou_0, Ev.at_0, Ev.at_1, Ev.at_2, Ev.at_3, Ev.p_lenS, Ev.p_lenO, Ev.p_bind, Ev.q_ok, List.getElem?_cons_zero, List.getElem?_cons_succ, List.set_cons_zero, List.set_cons_succ, List.length_cons, List.length_nil, List.cons_append, List.nil_append, Option.map_some, ↓reduceIte, Bool.not_true, Bool.not_false, decide_true, decide_false, Ev.p_div, Ev.p_mod, Ev.p_pow, Ev.p_mul, Ev.dist, List.contains_cons, List.contains_nil, Bool.or_false, Bool.false_and, Bool.and_true, Bool.true_and, Nat.reduceAdd, Nat.reduceBEq, Ev.permN, Ev.perm, List.map_cons, List.map_nil, List.getD_cons_zero, List.getD_cons_succ, and_self, cond_true, cond_false, Int.cast_ofNat_Int, Int.natCast_one, Int.natCast_zero, Int.reduceEq, Int.reduceLE, Int.reduceLT, Int.reduceNeg, Int.reduceGT, Int.reduceAdd, Int.reduceMul, Int.reduceSub, Int.reduceToNat, Int.reducePow, Int.reduceNe, reduceCtorEq, eq_self, q0]
                        exact ⟨by decide, trivial⟩
                      · obtain ⟨k, hk⟩ := List.getElem?_of_mem hx
                        obtain ⟨rfl, hk2⟩ := rangeL_at hk
                        have a0 : atI (GT.map D.int) (k : Int) = some (.int (GT.getD k 0)) := at_int rfl (by rw [gt_len]; omega)
                        have a1 : atI (GT.map D.int) ((k : Int) + 1) = some (.int (GT.getD (k + 1) 0)) := at_int (by omega) (by rw [gt_len]; omega)
                        have a2 : atI (GT.map D.int) ((k : Int) + 2) = some (.int (GT.getD (k + 2) 0)) := at_int (by omega) (by rw [gt_len]; omega)
                        have hr := rec250_ok k hk2
                        have k64 : ((k : Int) + 1).natAbs < 2 ^ 64 := by omega
                        have m0 : mulOk 250 (GT.getD k 0) = true := mulOk_of (a := 64) (by decide) (gt_ok.tb k) (by decide)
                        have m1 : mulOk (GT.getD (k + 1) 0) ((k : Int) + 1) = true := mulOk_of (gt_ok.tb (k + 1)) k64 (by decide)
                        have m2 : mulOk (GT.getD (k + 2) 0) ((k : Int) + 1) = true := mulOk_of (gt_ok.tb (k + 2)) k64 (by decide)
                        simp only [Ev.p_pure, Ev.p_ok, Ev.p_toD, Ev.p_kDf, Ev.p_kDn, Ev.p_toV, Ev.p_kV, Ev.p_some, Ev.p_var, Ev.p_varF, Ev.p_varL, Ev.p_varO, Ev.p_varN, Ev.p_mov, Ev.p_movF, Ev.p_movL, Ev.p_movO, Ev.p_movN, Ev.p_ev2, Ev.p_k2, Ev.p_k2', Ev.p_ev2T, Ev.p_kT, Ev.p_kT', Ev.p_vb, Ev.p_ev1, Ev.p_evC, Ev.p_evL, Ev.p_evO, Ev.p_evSeq, Ev.p_tTruth, Ev.p_kf, Ev.p_cons, Ev.p_vcons, Ev.p_acons, Ev.p_kC1, Ev.p_kC2, Ev.p_arV, Ev.p_kAr, Ev.p_arR, Ev.p_arF, Ev.p_arOw, Ev.p_arN, Ev.p_arL, Ev.p_call, Ev.p_kL1, Ev.p_kL2, Ev.p_if, Ev.p_kIt, Ev.p_kIf, Ev.p_tAnd, Ev.p_tOr, Ev.p_tNot, Ev.p_kN, Ev.p_and, Ev.p_kA, Ev.p_or, Ev.p_kO, Ev.p_not, Ev.p_kNt, Ev.p_ixS, Ev.p_ixO, Ev.p_kX, Ev.p_kXO, Ev.p_slotD, Ev.p_slF, Ev.p_slO, Ev.p_slN, Ev.p_slL, Ev.p_seq, Ev.p_kSn, Ev.p_kSr, Ev.p_kSb, Ev.p_kSc, Ev.p_slot, Ev.p_setU, Ev.p_setF, Ev.p_setO, Ev.p_ofF, Ev.p_ofN, Ev.p_kNx, Ev.p_set, Ev.p_kSet, Ev.p_ret, Ev.p_kRt, Ev.p_expr, Ev.p_kEx, Ev.p_par, Ev.p_kPar, Ev.p_kSs, Ev.p_ss0, Ev.p_ss, Ev.p_asg, Ev.p_kAsg, Ev.p_unp, Ev.p_gs, Ev.p_kG, Ev.p_gs0, Ev.p_gIx, Ev.p_gIO, Ev.p_kUp, Ev.p_upd, Ev.p_upO, Ev.p_upN, Ev.p_upDt, Ev.p_upDf, Ev.p_put, Ev.p_mut, Ev.p_mutO, Ev.p_kNon, Ev.p_kM1, Ev.p_app, Ev.p_sl, Ev.p_kSl1, Ev.p_kSl2, Ev.p_kSl3, Ev.p_add, Ev.p_addL, Ev.p_i2, Ev.p_u1, Ev.p_lt, Ev.p_le, Ev.p_gt, Ev.p_ge, Ev.p_eqI, Ev.p_neI, Ev.p_eqS, Ev.p_neS, Ev.p_isB, Ev.p_isN, Ev.p_notN, Ev.p_tup, Ev.p_lst, Ev.p_abs, Ev.p_intI, Ev.p_intB, Ev.p_len, Ev.p_dlL, Ev.p_dlT, Ev.p_itL, Ev.p_itT, Ev.p_d, Ev.p_dn, Ev.p_rng1, Ev.p_rng2, Ev.p_lo0, Ev.p_lo1, Ev.p_lo2, Ev.p_lo3, Ev.p_lo4, Ev.p_lo5, Ev.p_lo6, Ev.p_lo7, Ev.p_lo8, Ev.p_lo9, Ev.p_lo10, Ev.p_lo11, Ev.p_lo12, Ev.p_lo13, Ev.p_lo14, Ev.p_lo15, Ev.p_lo16, Ev.p_lo17, Ev.p_lo18, Ev.p_lo19, Ev.p_lo20, Ev.p_lo21, Ev.p_lo22, Ev.p_lo23, Ev.p_lo24, Ev.p_p18, Ev.p_p40, Ev.p_lpN, Ev.p_lpC, Ev.p_lpB, Ev.p_lpR, Ev.p_for, Ev.p_whT, Ev.p_whF, Ev.p_lc, Ev.p_callAr, Ev.p_callO1, Ev.p_callO2, Ev.p_refV, Ev.p_refR, Ev.p_ref0, Ev.p_ga, Ev.p_ga0, Ev.p_gaO, Ev.p_gaV, Ev.p_gaR, Ev.p_leF, Ev.p_leL, Ev.p_leO, Ev.p_leN, Ev.p_sc, Ev.p_sc0, Ev.p_scN, Ev.p_scFs, Ev.p_scLs, Ev.p_scOn, Ev.p_scOl, Ev.p_scNn, Ev.p_scNl, Ev.p_fiR, Ev.p_fiV, Ev.p_fi0, Ev.fin_rt, Ev.fin_nx, Ev.ou_ln, Ev.ou_fz, Ev.ou_0, Ev.at_0, Ev.at_1, Ev.at_2, Ev.at_3, Ev.p_lenS, Ev.p_lenO, Ev.p_bind, Ev.q_ok, List.getElem?_cons_zero, List.getElem?_cons_succ, List.set_cons_zero, List.set_cons_succ, List.length_cons, List.length_nil, List.cons_append, List.nil_append, Option.map_some, ↓reduceIte, Bool.not_true, Bool.not_false, decide_true, decide_false, Ev.p_div, Ev.p_mod, Ev.p_pow, Ev.p_mul, Ev.dist, List.contains_cons, List.contains_nil, Bool.or_false, Bool.false_and, Bool.and_true, Bool.true_and, Nat.reduceAdd, Nat.reduceBEq, Ev.permN, Ev.perm, List.map_cons, List.map_nil, List.getD_cons_zero, List.getD_cons_succ, and_self, cond_true, cond_false, Int.cast_ofNat_Int, Int.natCast_one, Int.natCast_zero, Int.reduceEq, Int.reduceLE, Int.reduceLT, Int.reduceNeg, Int.reduceGT, Int.reduceAdd, Int.reduceMul, Int.reduceSub, Int.reduceToNat, Int.reducePow, Int.reduceNe, reduceCtorEq, eq_self, wipeR, a0, a1, a2, m0, m1, m2, decide_eq_true hr]
                    · obtain ⟨a, _, rfl⟩ := List.mem_map.mp hx
                      have e1 : bIsi [.int a, .ty .int] = some (.fz (.bl true)) := rfl
                      simp only [Ev.p_pure, Ev.p_ok, Ev.p_toD, Ev.p_kDf, Ev.p_kDn, Ev.p_toV, Ev.p_kV, Ev.p_some, Ev.p_var, Ev.p_varF, Ev.p_varL, Ev.p_varO, Ev.p_varN, Ev.p_mov, Ev.p_movF, Ev.p_movL, Ev.p_movO, Ev.p_movN, Ev.p_ev2, Ev.p_k2, Ev.p_k2', Ev.p_ev2T, Ev.p_kT, Ev.p_kT', Ev.p_vb, Ev.p_ev1, Ev.p_evC, Ev.p_evL, Ev.p_evO, Ev.p_evSeq, Ev.p_tTruth, Ev.p_kf, Ev.p_cons, Ev.p_vcons, Ev.p_acons, Ev.p_kC1, Ev.p_kC2, Ev.p_arV, Ev.p_kAr, Ev.p_arR, Ev.p_arF, Ev.p_arOw, Ev.p_arN, Ev.p_arL, Ev.p_call, Ev.p_kL1, Ev.p_kL2, Ev.p_if, Ev.p_kIt, Ev.p_kIf, Ev.p_tAnd, Ev.p_tOr, Ev.p_tNot, Ev.p_kN, Ev.p_and, Ev.p_kA, Ev.p_or, Ev.p_kO, Ev.p_not, Ev.p_kNt, Ev.p_ixS, Ev.p_ixO, Ev.p_kX, Ev.p_kXO, Ev.p_slotD, Ev.p_slF, Ev.p_slO, Ev.p_slN, Ev.p_slL, Ev.p_seq, Ev.p_kSn, Ev.p_kSr, Ev.p_kSb, Ev.p_kSc, Ev.p_slot, Ev.p_setU, Ev.p_setF, Ev.p_setO, Ev.p_ofF, Ev.p_ofN, Ev.p_kNx, Ev.p_set, Ev.p_kSet, Ev.p_ret, Ev.p_kRt, Ev.p_expr, Ev.p_kEx, Ev.p_par, Ev.p_kPar, Ev.p_kSs, Ev.p_ss0, Ev.p_ss, Ev.p_asg, Ev.p_kAsg, Ev.p_unp, Ev.p_gs, Ev.p_kG, Ev.p_gs0, Ev.p_gIx, Ev.p_gIO, Ev.p_kUp, Ev.p_upd, Ev.p_upO, Ev.p_upN, Ev.p_upDt, Ev.p_upDf, Ev.p_put, Ev.p_mut, Ev.p_mutO, Ev.p_kNon, Ev.p_kM1, Ev.p_app, Ev.p_sl, Ev.p_kSl1, Ev.p_kSl2, Ev.p_kSl3, Ev.p_add, Ev.p_addL, Ev.p_i2, Ev.p_u1, Ev.p_lt, Ev.p_le, Ev.p_gt, Ev.p_ge, Ev.p_eqI, Ev.p_neI, Ev.p_eqS, Ev.p_neS, Ev.p_isB, Ev.p_isN, Ev.p_notN, Ev.p_tup, Ev.p_lst, Ev.p_abs, Ev.p_intI, Ev.p_intB, Ev.p_len, Ev.p_dlL, Ev.p_dlT, Ev.p_itL, Ev.p_itT, Ev.p_d, Ev.p_dn, Ev.p_rng1, Ev.p_rng2, Ev.p_lo0, Ev.p_lo1, Ev.p_lo2, Ev.p_lo3, Ev.p_lo4, Ev.p_lo5, Ev.p_lo6, Ev.p_lo7, Ev.p_lo8, Ev.p_lo9, Ev.p_lo10, Ev.p_lo11, Ev.p_lo12, Ev.p_lo13, Ev.p_lo14, Ev.p_lo15, Ev.p_lo16, Ev.p_lo17, Ev.p_lo18, Ev.p_lo19, Ev.p_lo20, Ev.p_lo21, Ev.p_lo22, Ev.p_lo23, Ev.p_lo24, Ev.p_p18, Ev.p_p40, Ev.p_lpN, Ev.p_lpC, Ev.p_lpB, Ev.p_lpR, Ev.p_for, Ev.p_whT, Ev.p_whF, Ev.p_lc, Ev.p_callAr, Ev.p_callO1, Ev.p_callO2, Ev.p_refV, Ev.p_refR, Ev.p_ref0, Ev.p_ga, Ev.p_ga0, Ev.p_gaO, Ev.p_gaV, Ev.p_gaR, Ev.p_leF, Ev.p_leL, Ev.p_leO, Ev.p_leN, Ev.p_sc, Ev.p_sc0, Ev.p_scN, Ev.p_scFs, Ev.p_scLs, Ev.p_scOn, Ev.p_scOl, Ev.p_scNn, Ev.p_scNl, Ev.p_fiR, Ev.p_fiV, Ev.p_fi0, Ev.fin_rt, Ev.fin_nx, Ev.ou_ln, Ev.ou_fz, Ev.ou_0, Ev.at_0, Ev.at_1, Ev.at_2, Ev.at_3, Ev.p_lenS, Ev.p_lenO, Ev.p_bind, Ev.q_ok, List.getElem?_cons_zero, List.getElem?_cons_succ, List.set_cons_zero, List.set_cons_succ, List.length_cons, List.length_nil, List.cons_append, List.nil_append, Option.map_some, ↓reduceIte, Bool.not_true, Bool.not_false, decide_true, decide_false, Ev.p_div, Ev.p_mod, Ev.p_pow, Ev.p_mul, Ev.dist, List.contains_cons, List.contains_nil, Bool.or_false, Bool.false_and, Bool.and_true, Bool.true_and, Nat.reduceAdd, Nat.reduceBEq, Ev.permN, Ev.perm, List.map_cons, List.map_nil, List.getD_cons_zero, List.getD_cons_succ, and_self, cond_true, cond_false, Int.cast_ofNat_Int, Int.natCast_one, Int.natCast_zero, Int.reduceEq, Int.reduceLE, Int.reduceLT, Int.reduceNeg, Int.reduceGT, Int.reduceAdd, Int.reduceMul, Int.reduceSub, Int.reduceToNat, Int.reducePow, Int.reduceNe, reduceCtorEq, eq_self, wipeR, e1, tr_b]
                  · obtain ⟨a, ha, rfl⟩ := List.mem_map.mp hp
                    obtain ⟨k, hk⟩ := List.getElem?_of_mem ha
                    have ea : a = GT.getD k 0 := by
                      rw [List.getD_eq_getElem?_getD, hk]
                      rfl
                    have et := times_sp a 250 (by decide) (by rw [ea]; exact gt_ok.tb k)
                    simp only [Int.cast_ofNat_Int] at et
                    simp only [Ev.p_pure, Ev.p_ok, Ev.p_toD, Ev.p_kDf, Ev.p_kDn, Ev.p_toV, Ev.p_kV, Ev.p_some, Ev.p_var, Ev.p_varF, Ev.p_varL, Ev.p_varO, Ev.p_varN, Ev.p_mov, Ev.p_movF, Ev.p_movL, Ev.p_movO, Ev.p_movN, Ev.p_ev2, Ev.p_k2, Ev.p_k2', Ev.p_ev2T, Ev.p_kT, Ev.p_kT', Ev.p_vb, Ev.p_ev1, Ev.p_evC, Ev.p_evL, Ev.p_evO, Ev.p_evSeq, Ev.p_tTruth, Ev.p_kf, Ev.p_cons, Ev.p_vcons, Ev.p_acons, Ev.p_kC1, Ev.p_kC2, Ev.p_arV, Ev.p_kAr, Ev.p_arR, Ev.p_arF, Ev.p_arOw, Ev.p_arN, Ev.p_arL, Ev.p_call, Ev.p_kL1, Ev.p_kL2, Ev.p_if, Ev.p_kIt, Ev.p_kIf, Ev.p_tAnd, Ev.p_tOr, Ev.p_tNot, Ev.p_kN, Ev.p_and, Ev.p_kA, Ev.p_or, Ev.p_kO, Ev.p_not, Ev.p_kNt, Ev.p_ixS, Ev.p_ixO, Ev.p_kX, Ev.p_kXO, Ev.p_slotD, Ev.p_slF, Ev.p_slO, Ev.p_slN, Ev.p_slL, Ev.p_seq, Ev.p_kSn, Ev.p_kSr, Ev.p_kSb, Ev.p_kSc, Ev.p_slot, Ev.p_setU, Ev.p_setF, Ev.p_setO, Ev.p_ofF, Ev.p_ofN, Ev.p_kNx, Ev.p_set, Ev.p_kSet, Ev.p_ret, Ev.p_kRt, Ev.p_expr, Ev.p_kEx, Ev.p_par, Ev.p_kPar, Ev.p_kSs, Ev.p_ss0, Ev.p_ss, Ev.p_asg, Ev.p_kAsg, Ev.p_unp, Ev.p_gs, Ev.p_kG, Ev.p_gs0, Ev.p_gIx, Ev.p_gIO, Ev.p_kUp, Ev.p_upd, Ev.p_upO, Ev.p_upN, Ev.p_upDt, Ev.p_upDf, Ev.p_put, Ev.p_mut, Ev.p_mutO, Ev.p_kNon, Ev.p_kM1, Ev.p_app, Ev.p_sl, Ev.p_kSl1, Ev.p_kSl2, Ev.p_kSl3, Ev.p_add, Ev.p_addL, Ev.p_i2, Ev.p_u1, Ev.p_lt, Ev.p_le, Ev.p_gt, Ev.p_ge, Ev.p_eqI, Ev.p_neI, Ev.p_eqS, Ev.p_neS, Ev.p_isB, Ev.p_isN, Ev.p_notN, Ev.p_tup, Ev.p_lst, Ev.p_abs, Ev.p_intI, Ev.p_intB, Ev.p_len, Ev.p_dlL, Ev.p_dlT, Ev.p_itL, Ev.p_itT, Ev.p_d, Ev.p_dn, Ev.p_rng1, Ev.p_rng2, Ev.p_lo0, Ev.p_lo1, Ev.p_lo2, Ev.p_lo3, Ev.p_lo4, Ev.p_lo5, Ev.p_lo6, Ev.p_lo7, Ev.p_lo8, Ev.p_lo9, Ev.p_lo10, Ev.p_lo11, Ev.p_lo12, Ev.p_lo13, Ev.p_lo14, Ev.p_lo15, Ev.p_lo16, Ev.p_lo17, Ev.p_lo18, Ev.p_lo19, Ev.p_lo20, Ev.p_lo21, Ev.p_lo22, Ev.p_lo23, Ev.p_lo24, Ev.p_p18, Ev.p_p40, Ev.p_lpN, Ev.p_lpC, Ev.p_lpB, Ev.p_lpR, Ev.p_for, Ev.p_whT, Ev.p_whF, Ev.p_lc, Ev.p_callAr, Ev.p_callO1, Ev.p_callO2, Ev.p_refV, Ev.p_refR, Ev.p_ref0, Ev.p_ga, Ev.p_ga0, Ev.p_gaO, Ev.p_gaV, Ev.p_gaR, Ev.p_leF, Ev.p_leL, Ev.p_leO, Ev.p_leN, Ev.p_sc, Ev.p_sc0, Ev.p_scN, Ev.p_scFs, Ev.p_scLs, Ev.p_scOn, Ev.p_scOl, Ev.p_scNn, Ev.p_scNl, Ev.p_fiR, Ev.p_fiV, Ev.p_fi0, Ev.fin_rt, Ev.fin_nx, Ev.ou_ln, Ev.ou_fz, Ev.ou_0, Ev.at_0, Ev.at_1, Ev.at_2, Ev.at_3, Ev.p_lenS, Ev.p_lenO, Ev.p_bind, Ev.q_ok, List.getElem?_cons_zero, List.getElem?_cons_succ, List.set_cons_zero, List.set_cons_succ, List.length_cons, List.length_nil, List.cons_append, List.nil_append, Option.map_some, ↓reduceIte, Bool.not_true, Bool.not_false, decide_true, decide_false, Ev.p_div, Ev.p_mod, Ev.p_pow, Ev.p_mul, Ev.dist, List.contains_cons, List.contains_nil, Bool.or_false, Bool.false_and, Bool.and_true, Bool.true_and, Nat.reduceAdd, Nat.reduceBEq, Ev.permN, Ev.perm, List.map_cons, List.map_nil, List.getD_cons_zero, List.getD_cons_succ, and_self, cond_true, cond_false, Int.cast_ofNat_Int, Int.natCast_one, Int.natCast_zero, Int.reduceEq, Int.reduceLE, Int.reduceLT, Int.reduceNeg, Int.reduceGT, Int.reduceAdd, Int.reduceMul, Int.reduceSub, Int.reduceToNat, Int.reducePow, Int.reduceNe, reduceCtorEq, eq_self, wipeR, et]
                · simp only [Ev.p_pure, Ev.p_ok, Ev.p_toD, Ev.p_kDf, Ev.p_kDn, Ev.p_toV, Ev.p_kV, Ev.p_some, Ev.p_var, Ev.p_varF, Ev.p_varL, Ev.p_varO, Ev.p_varN, Ev.p_mov, Ev.p_movF, Ev.p_movL, Ev.p_movO, Ev.p_movN, Ev.p_ev2, Ev.p_k2, Ev.p_k2', Ev.p_ev2T, Ev.p_kT, Ev.p_kT', Ev.p_vb, Ev.p_ev1, Ev.p_evC, Ev.p_evL, Ev.p_evO, Ev.p_evSeq, Ev.p_tTruth, Ev.p_kf, Ev.p_cons, Ev.p_vcons, Ev.p_acons, Ev.p_kC1, Ev.p_kC2, Ev.p_arV, Ev.p_kAr, Ev.p_arR, Ev.p_arF, Ev.p_arOw, Ev.p_arN, Ev.p_arL, Ev.p_call, Ev.p_kL1, Ev.p_kL2, Ev.p_if, Ev.p_kIt, Ev.p_kIf, Ev.p_tAnd, Ev.p_tOr, Ev.p_tNot, Ev.p_kN, Ev.p_and, Ev.p_kA, Ev.p_or, Ev.p_kO, Ev.p_not, Ev.p_kNt, Ev.p_ixS, Ev.p_ixO, Ev.p_kX, Ev.p_kXO, Ev.p_slotD, Ev.p_slF, Ev.p_slO, Ev.p_slN, Ev.p_slL, Ev.p_seq, Ev.p_kSn, Ev.p_kSr, Ev.p_kSb, Ev.p_kSc, Ev.p_slot, Ev.p_setU, Ev.p_setF, Ev.p_setO, Ev.p_ofF, Ev.p_ofN, Ev.p_kNx, Ev.p_set, Ev.p_kSet, Ev.p_ret, Ev.p_kRt, Ev.p_expr, Ev.p_kEx, Ev.p_par, Ev.p_kPar, Ev.p_kSs, Ev.p_ss0, Ev.p_ss, Ev.p_asg, Ev.p_kAsg, Ev.p_unp, Ev.p_gs, Ev.p_kG, Ev.p_gs0, Ev.p_gIx, Ev.p_gIO, Ev.p_kUp, Ev.p_upd, Ev.p_upO, Ev.p_upN, Ev.p_upDt, Ev.p_upDf, Ev.p_put, Ev.p_mut, Ev.p_mutO, Ev.p_kNon, Ev.p_kM1, Ev.p_app, Ev.p_sl, Ev.p_kSl1, Ev.p_kSl2, Ev.p_kSl3, Ev.p_add, Ev.p_addL, Ev.p_i2, Ev.p_u1, Ev.p_lt, Ev.p_le, Ev.p_gt, Ev.p_ge, Ev.p_eqI, Ev.p_neI, Ev.p_eqS, Ev.p_neS, Ev.p_isB, Ev.p_isN, Ev.p_notN, Ev.p_tup, Ev.p_lst, Ev.p_abs, Ev.p_intI, Ev.p_intB, Ev.p_len, Ev.p_dlL, Ev.p_dlT, Ev.p_itL, Ev.p_itT, Ev.p_d, Ev.p_dn, Ev.p_rng1, Ev.p_rng2, Ev.p_lo0, Ev.p_lo1, Ev.p_lo2, Ev.p_lo3, Ev.p_lo4, Ev.p_lo5, Ev.p_lo6, Ev.p_lo7, Ev.p_lo8, Ev.p_lo9, Ev.p_lo10, Ev.p_lo11, Ev.p_lo12, Ev.p_lo13, Ev.p_lo14, Ev.p_lo15, Ev.p_lo16, Ev.p_lo17, Ev.p_lo18, Ev.p_lo19, Ev.p_lo20, Ev.p_lo21, Ev.p_lo22, Ev.p_lo23, Ev.p_lo24, Ev.p_p18, Ev.p_p40, Ev.p_lpN, Ev.p_lpC, Ev.p_lpB, Ev.p_lpR, Ev.p_for, Ev.p_whT, Ev.p_whF, Ev.p_lc, Ev.p_callAr, Ev.p_callO1, Ev.p_callO2, Ev.p_refV, Ev.p_refR, Ev.p_ref0, Ev.p_ga, Ev.p_ga0, Ev.p_gaO, Ev.p_gaV, Ev.p_gaR, Ev.p_leF, Ev.p_leL, Ev.p_leO, Ev.p_leN, Ev.p_sc, Ev.p_sc0, Ev.p_scN, Ev.p_scFs, Ev.p_scLs, Ev.p_scOn, Ev.p_scOl, Ev.p_scNn, Ev.p_scNl, Ev.p_fiR, Ev.p_fiV, Ev.p_fi0, Ev.fin_rt, Ev.fin_nx, Ev.ou_ln, Ev.ou_fz, Ev.ou_0, Ev.at_0, Ev.at_1, Ev.at_2, Ev.at_3, Ev.p_lenS, Ev.p_lenO, Ev.p_bind, Ev.q_ok, List.getElem?_cons_zero, List.getElem?_cons_succ, List.set_cons_zero, List.set_cons_succ, List.length_cons, List.length_nil, List.cons_append, List.nil_append, Option.map_some, ↓reduceIte, Bool.not_true, Bool.not_false, decide_true, decide_false, Ev.p_div, Ev.p_mod, Ev.p_pow, Ev.p_mul, Ev.dist, List.contains_cons, List.contains_nil, Bool.or_false, Bool.false_and, Bool.and_true, Bool.true_and, Nat.reduceAdd, Nat.reduceBEq, Ev.permN, Ev.perm, List.map_cons, List.map_nil, List.getD_cons_zero, List.getD_cons_succ, and_self, cond_true, cond_false, Int.cast_ofNat_Int, Int.natCast_one, Int.natCast_zero, Int.reduceEq, Int.reduceLE, Int.reduceLT, Int.reduceNeg, Int.reduceGT, Int.reduceAdd, Int.reduceMul, Int.reduceSub, Int.reduceToNat, Int.reducePow, Int.reduceNe, reduceCtorEq, eq_self, n0, e30, decide_eq_false h3]
                  exact ⟨by decide, trivial⟩
              · obtain ⟨k, hk⟩ := List.getElem?_of_mem hx
                obtain ⟨rfl, hk2⟩ := rangeL_at hk
                have a0 : atI ((colT d).map D.int) (k : Int) = some (.int ((colT d).getD k 0)) := at_int rfl (by rw [col_len]; omega)
                have a1 : atI ((colT d).map D.int) ((k : Int) + 1) = some (.int ((colT d).getD (k + 1) 0)) := at_int (by omega) (by rw [col_len]; omega)
                have a2 : atI ((colT d).map D.int) ((k : Int) + 2) = some (.int ((colT d).getD (k + 2) 0)) := at_int (by omega) (by rw [col_len]; omega)
                have hr := rec_ok d k hd hk2
                have k64 : ((k : Int) + 1).natAbs < 2 ^ 64 := by omega
                have d64 : (d : Int).natAbs < 2 ^ 64 := by omega
                have m0 : mulOk (d : Int) ((colT d).getD k 0) = true := mulOk_of d64 (col_small d k (by omega)) (by decide)
                have m1 : mulOk ((colT d).getD (k + 1) 0) ((k : Int) + 1) = true := mulOk_of (col_small d (k + 1) (by omega)) k64 (by decide)
                have m2 : mulOk ((colT d).getD (k + 2) 0) ((k : Int) + 1) = true := mulOk_of (col_small d (k + 2) (by omega)) k64 (by decide)
                simp only [Ev.p_pure, Ev.p_ok, Ev.p_toD, Ev.p_kDf, Ev.p_kDn, Ev.p_toV, Ev.p_kV, Ev.p_some, Ev.p_var, Ev.p_varF, Ev.p_varL, Ev.p_varO, Ev.p_varN, Ev.p_mov, Ev.p_movF, Ev.p_movL, Ev.p_movO, Ev.p_movN, Ev.p_ev2, Ev.p_k2, Ev.p_k2', Ev.p_ev2T, Ev.p_kT, Ev.p_kT', Ev.p_vb, Ev.p_ev1, Ev.p_evC, Ev.p_evL, Ev.p_evO, Ev.p_evSeq, Ev.p_tTruth, Ev.p_kf, Ev.p_cons, Ev.p_vcons, Ev.p_acons, Ev.p_kC1, Ev.p_kC2, Ev.p_arV, Ev.p_kAr, Ev.p_arR, Ev.p_arF, Ev.p_arOw, Ev.p_arN, Ev.p_arL, Ev.p_call, Ev.p_kL1, Ev.p_kL2, Ev.p_if, Ev.p_kIt, Ev.p_kIf, Ev.p_tAnd, Ev.p_tOr, Ev.p_tNot, Ev.p_kN, Ev.p_and, Ev.p_kA, Ev.p_or, Ev.p_kO, Ev.p_not, Ev.p_kNt, Ev.p_ixS, Ev.p_ixO, Ev.p_kX, Ev.p_kXO, Ev.p_slotD, Ev.p_slF, Ev.p_slO, Ev.p_slN, Ev.p_slL, Ev.p_seq, Ev.p_kSn, Ev.p_kSr, Ev.p_kSb, Ev.p_kSc, Ev.p_slot, Ev.p_setU, Ev.p_setF, Ev.p_setO, Ev.p_ofF, Ev.p_ofN, Ev.p_kNx, Ev.p_set, Ev.p_kSet, Ev.p_ret, Ev.p_kRt, Ev.p_expr, Ev.p_kEx, Ev.p_par, Ev.p_kPar, Ev.p_kSs, Ev.p_ss0, Ev.p_ss, Ev.p_asg, Ev.p_kAsg, Ev.p_unp, Ev.p_gs, Ev.p_kG, Ev.p_gs0, Ev.p_gIx, Ev.p_gIO, Ev.p_kUp, Ev.p_upd, Ev.p_upO, Ev.p_upN, Ev.p_upDt, Ev.p_upDf, Ev.p_put, Ev.p_mut, Ev.p_mutO, Ev.p_kNon, Ev.p_kM1, Ev.p_app, Ev.p_sl, Ev.p_kSl1, Ev.p_kSl2, Ev.p_kSl3, Ev.p_add, Ev.p_addL, Ev.p_i2, Ev.p_u1, Ev.p_lt, Ev.p_le, Ev.p_gt, Ev.p_ge, Ev.p_eqI, Ev.p_neI, Ev.p_eqS, Ev.p_neS, Ev.p_isB, Ev.p_isN, Ev.p_notN, Ev.p_tup, Ev.p_lst, Ev.p_abs, Ev.p_intI, Ev.p_intB, Ev.p_len, Ev.p_dlL, Ev.p_dlT, Ev.p_itL, Ev.p_itT, Ev.p_d, Ev.p_dn, Ev.p_rng1, Ev.p_rng2, Ev.p_lo0, Ev.p_lo1, Ev.p_lo2, Ev.p_lo3, Ev.p_lo4, Ev.p_lo5, Ev.p_lo6, Ev.p_lo7, Ev.p_lo8, Ev.p_lo9, Ev.p_lo10, Ev.p_lo11, Ev.p_lo12, Ev.p_lo13, Ev.p_lo14, Ev.p_lo15, Ev.p_lo16, Ev.p_lo17, Ev.p_lo18, Ev.p_lo19, Ev.p_lo20, Ev.p_lo21, Ev.p_lo22, Ev.p_lo23, Ev.p_lo24, Ev.p_p18, Ev.p_p40, Ev.p_lpN, Ev.p_lpC, Ev.p_lpB, Ev.p_lpR, Ev.p_for, Ev.p_whT, Ev.p_whF, Ev.p_lc, Ev.p_callAr, Ev.p_callO1, Ev.p_callO2, Ev.p_refV, Ev.p_refR, Ev.p_ref0, Ev.p_ga, Ev.p_ga0, Ev.p_gaO, Ev.p_gaV, Ev.p_gaR, Ev.p_leF, Ev.p_leL, Ev.p_leO, Ev.p_leN, Ev.p_sc, Ev.p_sc0, Ev.p_scN, Ev.p_scFs, Ev.p_scLs, Ev.p_scOn, Ev.p_scOl, Ev.p_scNn, Ev.p_scNl, Ev.p_fiR, Ev.p_fiV, Ev.p_fi0, Ev.fin_rt, Ev.fin_nx, Ev.ou_ln, Ev.ou_fz, Ev.ou_0, Ev.at_0, Ev.at_1, Ev.at_2, Ev.at_3, Ev.p_lenS, Ev.p_lenO, Ev.p_bind, Ev.q_ok, List.getElem?_cons_zero, List.getElem?_cons_succ, List.set_cons_zero, List.set_cons_succ, List.length_cons, List.length_nil, List.cons_append, List.nil_append, Option.map_some, ↓reduceIte, Bool.not_true, Bool.not_false, decide_true, decide_false, Ev.p_div, Ev.p_mod, Ev.p_pow, Ev.p_mul, Ev.dist, List.contains_cons, List.contains_nil, Bool.or_false, Bool.false_and, Bool.and_true, Bool.true_and, Nat.reduceAdd, Nat.reduceBEq, Ev.permN, Ev.perm, List.map_cons, List.map_nil, List.getD_cons_zero, List.getD_cons_succ, and_self, cond_true, cond_false, Int.cast_ofNat_Int, Int.natCast_one, Int.natCast_zero, Int.reduceEq, Int.reduceLE, Int.reduceLT, Int.reduceNeg, Int.reduceGT, Int.reduceAdd, Int.reduceMul, Int.reduceSub, Int.reduceToNat, Int.reducePow, Int.reduceNe, reduceCtorEq, eq_self, wipeR, a0, a1, a2, m0, m1, m2, decide_eq_true hr]
            · obtain ⟨a, _, rfl⟩ := List.mem_map.mp hx
              have e1 : bIsi [.int a, .ty .int] = some (.fz (.bl true)) := rfl
              simp only [Ev.p_pure, Ev.p_ok, Ev.p_toD, Ev.p_kDf, Ev.p_kDn, Ev.p_toV, Ev.p_kV, Ev.p_some, Ev.p_var, Ev.p_varF, Ev.p_varL, Ev.p_varO, Ev.p_varN, Ev.p_mov, Ev.p_movF, Ev.p_movL, Ev.p_movO, Ev.p_movN, Ev.p_ev2, Ev.p_k2, Ev.p_k2', Ev.p_ev2T, Ev.p_kT, Ev.p_kT', Ev.p_vb, Ev.p_ev1, Ev.p_evC, Ev.p_evL, Ev.p_evO, Ev.p_evSeq, Ev.p_tTruth, Ev.p_kf, Ev.p_cons, Ev.p_vcons, Ev.p_acons, Ev.p_kC1, Ev.p_kC2, Ev.p_arV, Ev.p_kAr, Ev.p_arR, Ev.p_arF, Ev.p_arOw, Ev.p_arN, Ev.p_arL, Ev.p_call, Ev.p_kL1, Ev.p_kL2, Ev.p_if, Ev.p_kIt, Ev.p_kIf, Ev.p_tAnd, Ev.p_tOr, Ev.p_tNot, Ev.p_kN, Ev.p_and, Ev.p_kA, Ev.p_or, Ev.p_kO, Ev.p_not, Ev.p_kNt, Ev.p_ixS, Ev.p_ixO, Ev.p_kX, Ev.p_kXO, Ev.p_slotD, Ev.p_slF, Ev.p_slO, Ev.p_slN, Ev.p_slL, Ev.p_seq, Ev.p_kSn, Ev.p_kSr, Ev.p_kSb, Ev.p_kSc, Ev.p_slot, Ev.p_setU, Ev.p_setF, Ev.p_setO, Ev.p_ofF, Ev.p_ofN, Ev.p_kNx, Ev.p_set, Ev.p_kSet, Ev.p_ret, Ev.p_kRt, Ev.p_expr, Ev.p_kEx, Ev.p_par, Ev.p_kPar, Ev.p_kSs, Ev.p_ss0, Ev.p_ss, Ev.p_asg, Ev.p_kAsg, Ev.p_unp, Ev.p_gs, Ev.p_kG, Ev.p_gs0, Ev.p_gIx, Ev.p_gIO, Ev.p_kUp, Ev.p_upd, Ev.p_upO, Ev.p_upN, Ev.p_upDt, Ev.p_upDf, Ev.p_put, Ev.p_mut, Ev.p_mutO, Ev.p_kNon, Ev.p_kM1, Ev.p_app, Ev.p_sl, Ev.p_kSl1, Ev.p_kSl2, Ev.p_kSl3, Ev.p_add, Ev.p_addL, Ev.p_i2, Ev.p_u1, Ev.p_lt, Ev.p_le, Ev.p_gt, Ev.p_ge, Ev.p_eqI, Ev.p_neI, Ev.p_eqS, Ev.p_neS, Ev.p_isB, Ev.p_isN, Ev.p_notN, Ev.p_tup, Ev.p_lst, Ev.p_abs, Ev.p_intI, Ev.p_intB, Ev.p_len, Ev.p_dlL, Ev.p_dlT, Ev.p_itL, Ev.p_itT, Ev.p_d, Ev.p_dn, Ev.p_rng1, Ev.p_rng2, Ev.p_lo0, Ev.p_lo1, Ev.p_lo2, Ev.p_lo3, Ev.p_lo4, Ev.p_lo5, Ev.p_lo6, Ev.p_lo7, Ev.p_lo8, Ev.p_lo9, Ev.p_lo10, Ev.p_lo11, Ev.p_lo12, Ev.p_lo13, Ev.p_lo14, Ev.p_lo15, Ev.p_lo16, Ev.p_lo17, Ev.p_lo18, Ev.p_lo19, Ev.p_lo20, Ev.p_lo21, Ev.p_lo22, Ev.p_lo23, Ev.p_lo24, Ev.p_p18, Ev.p_p40, Ev.p_lpN, Ev.p_lpC, Ev.p_lpB, Ev.p_lpR, Ev.p_for, Ev.p_whT, Ev.p_whF, Ev.p_lc, Ev.p_callAr, Ev.p_callO1, Ev.p_callO2, Ev.p_refV, Ev.p_refR, Ev.p_ref0, Ev.p_ga, Ev.p_ga0, Ev.p_gaO, Ev.p_gaV, Ev.p_gaR, Ev.p_leF, Ev.p_leL, Ev.p_leO, Ev.p_leN, Ev.p_sc, Ev.p_sc0, Ev.p_scN, Ev.p_scFs, Ev.p_scLs, Ev.p_scOn, Ev.p_scOl, Ev.p_scNn, Ev.p_scNl, Ev.p_fiR, Ev.p_fiV, Ev.p_fi0, Ev.fin_rt, Ev.fin_nx, Ev.ou_ln, Ev.ou_fz, Ev.ou_0, Ev.at_0, Ev.at_1, Ev.at_2, Ev.at_3, Ev.p_lenS, Ev.p_lenO, Ev.p_bind, Ev.q_ok, List.getElem?_cons_zero, List.getElem?_cons_succ, List.set_cons_zero, List.set_cons_succ, List.length_cons, List.length_nil, List.cons_append, List.nil_append, Option.map_some, ↓reduceIte, Bool.not_true, Bool.not_false, decide_true, decide_false, Ev.p_div, Ev.p_mod, Ev.p_pow, Ev.p_mul, Ev.dist, List.contains_cons, List.contains_nil, Bool.or_false, Bool.false_and, Bool.and_true, Bool.true_and, Nat.reduceAdd, Nat.reduceBEq, Ev.permN, Ev.perm, List.map_cons, List.map_nil, List.getD_cons_zero, List.getD_cons_succ, and_self, cond_true, cond_false, Int.cast_ofNat_Int, Int.natCast_one, Int.natCast_zero, Int.reduceEq, Int.reduceLE, Int.reduceLT, Int.reduceNeg, Int.reduceGT, Int.reduceAdd, Int.reduceMul, Int.reduceSub, Int.reduceToNat, Int.reducePow, Int.reduceNe, reduceCtorEq, eq_self, wipeR, e1, tr_b]
          · obtain ⟨a, ha, rfl⟩ := List.mem_map.mp hp
            obtain ⟨k, hk⟩ := List.getElem?_of_mem ha
            have hk8 : k < 8 := by
              have := (List.getElem?_eq_some_iff.mp hk).1
              rw [col_len] at this
              exact this
            have ea : a = (colT d).getD k 0 := by
              rw [List.getD_eq_getElem?_getD, hk]
              rfl
            have et := times_sp a d (by omega) (by rw [ea]; exact big (col_small d k hk8))
            simp only [Ev.p_pure, Ev.p_ok, Ev.p_toD, Ev.p_kDf, Ev.p_kDn, Ev.p_toV, Ev.p_kV, Ev.p_some, Ev.p_var, Ev.p_varF, Ev.p_varL, Ev.p_varO, Ev.p_varN, Ev.p_mov, Ev.p_movF, Ev.p_movL, Ev.p_movO, Ev.p_movN, Ev.p_ev2, Ev.p_k2, Ev.p_k2', Ev.p_ev2T, Ev.p_kT, Ev.p_kT', Ev.p_vb, Ev.p_ev1, Ev.p_evC, Ev.p_evL, Ev.p_evO, Ev.p_evSeq, Ev.p_tTruth, Ev.p_kf, Ev.p_cons, Ev.p_vcons, Ev.p_acons, Ev.p_kC1, Ev.p_kC2, Ev.p_arV, Ev.p_kAr, Ev.p_arR, Ev.p_arF, Ev.p_arOw, Ev.p_arN, Ev.p_arL, Ev.p_call, Ev.p_kL1, Ev.p_kL2, Ev.p_if, Ev.p_kIt, Ev.p_kIf, Ev.p_tAnd, Ev.p_tOr, Ev.p_tNot, Ev.p_kN, Ev.p_and, Ev.p_kA, Ev.p_or, Ev.p_kO, Ev.p_not, Ev.p_kNt, Ev.p_ixS, Ev.p_ixO, Ev.p_kX, Ev.p_kXO, Ev.p_slotD, Ev.p_slF, Ev.p_slO, Ev.p_slN, Ev.p_slL, Ev.p_seq, Ev.p_kSn, Ev.p_kSr, Ev.p_kSb, Ev.p_kSc, Ev.p_slot, Ev.p_setU, Ev.p_setF, Ev.p_setO, Ev.p_ofF, Ev.p_ofN, Ev.p_kNx, Ev.p_set, Ev.p_kSet, Ev.p_ret, Ev.p_kRt, Ev.p_expr, Ev.p_kEx, Ev.p_par, Ev.p_kPar, Ev.p_kSs, Ev.p_ss0, Ev.p_ss, Ev.p_asg, Ev.p_kAsg, Ev.p_unp, Ev.p_gs, Ev.p_kG, Ev.p_gs0, Ev.p_gIx, Ev.p_gIO, Ev.p_kUp, Ev.p_upd, Ev.p_upO, Ev.p_upN, Ev.p_upDt, Ev.p_upDf, Ev.p_put, Ev.p_mut, Ev.p_mutO, Ev.p_kNon, Ev.p_kM1, Ev.p_app, Ev.p_sl, Ev.p_kSl1, Ev.p_kSl2, Ev.p_kSl3, Ev.p_add, Ev.p_addL, Ev.p_i2, Ev.p_u1, Ev.p_lt, Ev.p_le, Ev.p_gt, Ev.p_ge, Ev.p_eqI, Ev.p_neI, Ev.p_eqS, Ev.p_neS, Ev.p_isB, Ev.p_isN, Ev.p_notN, Ev.p_tup, Ev.p_lst, Ev.p_abs, Ev.p_intI, Ev.p_intB, Ev.p_len, Ev.p_dlL, Ev.p_dlT, Ev.p_itL, Ev.p_itT, Ev.p_d, Ev.p_dn, Ev.p_rng1, Ev.p_rng2, Ev.p_lo0, Ev.p_lo1, Ev.p_lo2, Ev.p_lo3, Ev.p_lo4, Ev.p_lo5, Ev.p_lo6, Ev.p_lo7, Ev.p_lo8, Ev.p_lo9, Ev.p_lo10, Ev.p_lo11, Ev.p_lo12, Ev.p_lo13, Ev.p_lo14, Ev.p_lo15, Ev.p_lo16, Ev.p_lo17, Ev.p_lo18, Ev.p_lo19, Ev.p_lo20, Ev.p_lo21, Ev.p_lo22, Ev.p_lo23, Ev.p_lo24, Ev.p_p18, Ev.p_p40, Ev.p_lpN, Ev.p_lpC, Ev.p_lpB, Ev.p_lpR, Ev.p_for, Ev.p_whT, Ev.p_whF, Ev.p_lc, Ev.p_callAr, Ev.p_callO1, Ev.p_callO2, Ev.p_refV, Ev.p_refR, Ev.p_ref0, Ev.p_ga, Ev.p_ga0, Ev.p_gaO, Ev.p_gaV, Ev.p_gaR, Ev.p_leF, Ev.p_leL, Ev.p_leO, Ev.p_leN, Ev.p_sc, Ev.p_sc0, Ev.p_scN, Ev.p_scFs, Ev.p_scLs, Ev.p_scOn, Ev.p_scOl, Ev.p_scNn, Ev.p_scNl, Ev.p_fiR, Ev.p_fiV, Ev.p_fi0, Ev.fin_rt, Ev.fin_nx, Ev.ou_ln, Ev.ou_fz, Ev.ou_0, Ev.at_0, Ev.at_1, Ev.at_2, Ev.at_3, Ev.p_lenS, Ev.p_lenO, Ev.p_bind, Ev.q_ok, List.getElem?_cons_zero, List.getElem?_cons_succ, List.set_cons_zero, List.set_cons_succ, List.length_cons, List.length_nil, List.cons_append, List.nil_append, Option.map_some, ↓reduceIte, Bool.not_true, Bool.not_false, decide_true, decide_false, Ev.p_div, Ev.p_mod, Ev.p_pow, Ev.p_mul, Ev.dist, List.contains_cons, List.contains_nil, Bool.or_false, Bool.false_and, Bool.and_true, Bool.true_and, Nat.reduceAdd, Nat.reduceBEq, Ev.permN, Ev.perm, List.map_cons, List.map_nil, List.getD_cons_zero, List.getD_cons_succ, and_self, cond_true, cond_false, Int.cast_ofNat_Int, Int.natCast_one, Int.natCast_zero, Int.reduceEq, Int.reduceLE, Int.reduceLT, Int.reduceNeg, Int.reduceGT, Int.reduceAdd, Int.reduceMul, Int.reduceSub, Int.reduceToNat, Int.reducePow, Int.reduceNe, reduceCtorEq, eq_self, wipeR, et]
        · obtain ⟨k, hk⟩ := List.getElem?_of_mem hx
          obtain ⟨rfl, hk2⟩ := rangeL_at hk
          have b1 := allB_at (colT d) (tow d) 8 (k : Int) k rfl (by omega) (by rw [col_len]; omega)
          have b2 := times_sp ((colT d).getD k 0) d (by omega) (big (col_small d k (by omega)))
          have b3 := rowsD_at d (s + 1 + 1) (k : Int) k rfl (by omega)
          have b4 : atI ((rowT d k).map D.int) (d : Int) = some (.int ((rowT d k).getD d 0)) := at_int rfl (by rw [rowT_len d k hd (by omega)]; omega)
          have b5 : (colT d).getD k 0 = (rowT d k).getD d 0 := by rw [col_at d k (by omega), rowT_at d k d (Nat.le_refl d)]
          simp only [Ev.p_pure, Ev.p_ok, Ev.p_toD, Ev.p_kDf, Ev.p_kDn, Ev.p_toV, Ev.p_kV, Ev.p_some, Ev.p_var, Ev.p_varF, Ev.p_varL, Ev.p_varO, Ev.p_varN, Ev.p_mov, Ev.p_movF, Ev.p_movL, Ev.p_movO, Ev.p_movN, Ev.p_ev2, Ev.p_k2, Ev.p_k2', Ev.p_ev2T, Ev.p_kT, Ev.p_kT', Ev.p_vb, Ev.p_ev1, Ev.p_evC, Ev.p_evL, Ev.p_evO, Ev.p_evSeq, Ev.p_tTruth, Ev.p_kf, Ev.p_cons, Ev.p_vcons, Ev.p_acons, Ev.p_kC1, Ev.p_kC2, Ev.p_arV, Ev.p_kAr, Ev.p_arR, Ev.p_arF, Ev.p_arOw, Ev.p_arN, Ev.p_arL, Ev.p_call, Ev.p_kL1, Ev.p_kL2, Ev.p_if, Ev.p_kIt, Ev.p_kIf, Ev.p_tAnd, Ev.p_tOr, Ev.p_tNot, Ev.p_kN, Ev.p_and, Ev.p_kA, Ev.p_or, Ev.p_kO, Ev.p_not, Ev.p_kNt, Ev.p_ixS, Ev.p_ixO, Ev.p_kX, Ev.p_kXO, Ev.p_slotD, Ev.p_slF, Ev.p_slO, Ev.p_slN, Ev.p_slL, Ev.p_seq, Ev.p_kSn, Ev.p_kSr, Ev.p_kSb, Ev.p_kSc, Ev.p_slot, Ev.p_setU, Ev.p_setF, Ev.p_setO, Ev.p_ofF, Ev.p_ofN, Ev.p_kNx, Ev.p_set, Ev.p_kSet, Ev.p_ret, Ev.p_kRt, Ev.p_expr, Ev.p_kEx, Ev.p_par, Ev.p_kPar, Ev.p_kSs, Ev.p_ss0, Ev.p_ss, Ev.p_asg, Ev.p_kAsg, Ev.p_unp, Ev.p_gs, Ev.p_kG, Ev.p_gs0, Ev.p_gIx, Ev.p_gIO, Ev.p_kUp, Ev.p_upd, Ev.p_upO, Ev.p_upN, Ev.p_upDt, Ev.p_upDf, Ev.p_put, Ev.p_mut, Ev.p_mutO, Ev.p_kNon, Ev.p_kM1, Ev.p_app, Ev.p_sl, Ev.p_kSl1, Ev.p_kSl2, Ev.p_kSl3, Ev.p_add, Ev.p_addL, Ev.p_i2, Ev.p_u1, Ev.p_lt, Ev.p_le, Ev.p_gt, Ev.p_ge, Ev.p_eqI, Ev.p_neI, Ev.p_eqS, Ev.p_neS, Ev.p_isB, Ev.p_isN, Ev.p_notN, Ev.p_tup, Ev.p_lst, Ev.p_abs, Ev.p_intI, Ev.p_intB, Ev.p_len, Ev.p_dlL, Ev.p_dlT, Ev.p_itL, Ev.p_itT, Ev.p_d, Ev.p_dn, Ev.p_rng1, Ev.p_rng2, Ev.p_lo0, Ev.p_lo1, Ev.p_lo2, Ev.p_lo3, Ev.p_lo4, Ev.p_lo5, Ev.p_lo6, Ev.p_lo7, Ev.p_lo8, Ev.p_lo9, Ev.p_lo10, Ev.p_lo11, Ev.p_lo12, Ev.p_lo13, Ev.p_lo14, Ev.p_lo15, Ev.p_lo16, Ev.p_lo17, Ev.p_lo18, Ev.p_lo19, Ev.p_lo20, Ev.p_lo21, Ev.p_lo22, Ev.p_lo23, Ev.p_lo24, Ev.p_p18, Ev.p_p40, Ev.p_lpN, Ev.p_lpC, Ev.p_lpB, Ev.p_lpR, Ev.p_for, Ev.p_whT, Ev.p_whF, Ev.p_lc, Ev.p_callAr, Ev.p_callO1, Ev.p_callO2, Ev.p_refV, Ev.p_refR, Ev.p_ref0, Ev.p_ga, Ev.p_ga0, Ev.p_gaO, Ev.p_gaV, Ev.p_gaR, Ev.p_leF, Ev.p_leL, Ev.p_leO, Ev.p_leN, Ev.p_sc, Ev.p_sc0, Ev.p_scN, Ev.p_scFs, Ev.p_scLs, Ev.p_scOn, Ev.p_scOl, Ev.p_scNn, Ev.p_scNl, Ev.p_fiR, Ev.p_fiV, Ev.p_fi0, Ev.fin_rt, Ev.fin_nx, Ev.ou_ln, Ev.ou_fz, Ev.ou_0, Ev.at_0, Ev.at_1, Ev.at_2, Ev.at_3, Ev.p_lenS, Ev.p_lenO, Ev.p_bind, Ev.q_ok, List.getElem?_cons_zero, List.getElem?_cons_succ, List.set_cons_zero, List.set_cons_succ, List.length_cons, List.length_nil, List.cons_append, List.nil_append, Option.map_some, ↓reduceIte, Bool.not_true, Bool.not_false, decide_true, decide_false, Ev.p_div, Ev.p_mod, Ev.p_pow, Ev.p_mul, Ev.dist, List.contains_cons, List.contains_nil, Bool.or_false, Bool.false_and, Bool.and_true, Bool.true_and, Nat.reduceAdd, Nat.reduceBEq, Ev.permN, Ev.perm, List.map_cons, List.map_nil, List.getD_cons_zero, List.getD_cons_succ, and_self, cond_true, cond_false, Int.cast_ofNat_Int, Int.natCast_one, Int.natCast_zero, Int.reduceEq, Int.reduceLE, Int.reduceLT, Int.reduceNeg, Int.reduceGT, Int.reduceAdd, Int.reduceMul, Int.reduceSub, Int.reduceToNat, Int.reducePow, Int.reduceNe, reduceCtorEq, eq_self, wipeR, b1, b2, b3, b4, decide_eq_true b5]
    · obtain ⟨k, hk⟩ := List.getElem?_of_mem hx
      obtain ⟨rfl, hk2⟩ := rangeL_at hk
      have ew := ltower_sp k (by omega)
      simp only [Ev.p_pure, Ev.p_ok, Ev.p_toD, Ev.p_kDf, Ev.p_kDn, Ev.p_toV, Ev.p_kV, Ev.p_some, Ev.p_var, Ev.p_varF, Ev.p_varL, Ev.p_varO, Ev.p_varN, Ev.p_mov, Ev.p_movF, Ev.p_movL, Ev.p_movO, Ev.p_movN, Ev.p_ev2, Ev.p_k2, Ev.p_k2', Ev.p_ev2T, Ev.p_kT, Ev.p_kT', Ev.p_vb, Ev.p_ev1, Ev.p_evC, Ev.p_evL, Ev.p_evO, Ev.p_evSeq, Ev.p_tTruth, Ev.p_kf, Ev.p_cons, Ev.p_vcons, Ev.p_acons, Ev.p_kC1, Ev.p_kC2, Ev.p_arV, Ev.p_kAr, Ev.p_arR, Ev.p_arF, Ev.p_arOw, Ev.p_arN, Ev.p_arL, Ev.p_call, Ev.p_kL1, Ev.p_kL2, Ev.p_if, Ev.p_kIt, Ev.p_kIf, Ev.p_tAnd, Ev.p_tOr, Ev.p_tNot, Ev.p_kN, Ev.p_and, Ev.p_kA, Ev.p_or, Ev.p_kO, Ev.p_not, Ev.p_kNt, Ev.p_ixS, Ev.p_ixO, Ev.p_kX, Ev.p_kXO, Ev.p_slotD, Ev.p_slF, Ev.p_slO, Ev.p_slN, Ev.p_slL, Ev.p_seq, Ev.p_kSn, Ev.p_kSr, Ev.p_kSb, Ev.p_kSc, Ev.p_slot, Ev.p_setU, Ev.p_setF, Ev.p_setO, Ev.p_ofF, Ev.p_ofN, Ev.p_kNx, Ev.p_set, Ev.p_kSet, Ev.p_ret, Ev.p_kRt, Ev.p_expr, Ev.p_kEx, Ev.p_par, Ev.p_kPar, Ev.p_kSs, Ev.p_ss0, Ev.p_ss, Ev.p_asg, Ev.p_kAsg, Ev.p_unp, Ev.p_gs, Ev.p_kG, Ev.p_gs0, Ev.p_gIx, Ev.p_gIO, Ev.p_kUp, Ev.p_upd, Ev.p_upO, Ev.p_upN, Ev.p_upDt, Ev.p_upDf, Ev.p_put, Ev.p_mut, Ev.p_mutO, Ev.p_kNon, Ev.p_kM1, Ev.p_app, Ev.p_sl, Ev.p_kSl1, Ev.p_kSl2, Ev.p_kSl3, Ev.p_add, Ev.p_addL, Ev.p_i2, Ev.p_u1, Ev.p_lt, Ev.p_le, Ev.p_gt, Ev.p_ge, Ev.p_eqI, Ev.p_neI, Ev.p_eqS, Ev.p_neS, Ev.p_isB, Ev.p_isN, Ev.p_notN, Ev.p_tup, Ev.p_lst, Ev.p_abs, Ev.p_intI, Ev.p_intB, Ev.p_len, Ev.p_dlL, Ev.p_dlT, Ev.p_itL, Ev.p_itT, Ev.p_d, Ev.p_dn, Ev.p_rng1, Ev.p_rng2, Ev.p_lo0, Ev.p_lo1, Ev.p_lo2, Ev.p_lo3, Ev.p_lo4, Ev.p_lo5, Ev.p_lo6, Ev.p_lo7, Ev.p_lo8, Ev.p_lo9, Ev.p_lo10, Ev.p_lo11, Ev.p_lo12, Ev.p_lo13, Ev.p_lo14, Ev.p_lo15, Ev.p_lo16, Ev.p_lo17, Ev.p_lo18, Ev.p_lo19, Ev.p_lo20, Ev.p_lo21, Ev.p_lo22, Ev.p_lo23, Ev.p_lo24, Ev.p_p18, Ev.p_p40, Ev.p_lpN, Ev.p_lpC, Ev.p_lpB, Ev.p_lpR, Ev.p_for, Ev.p_whT, Ev.p_whF, Ev.p_lc, Ev.p_callAr, Ev.p_callO1, Ev.p_callO2, Ev.p_refV, Ev.p_refR, Ev.p_ref0, Ev.p_ga, Ev.p_ga0, Ev.p_gaO, Ev.p_gaV, Ev.p_gaR, Ev.p_leF, Ev.p_leL, Ev.p_leO, Ev.p_leN, Ev.p_sc, Ev.p_sc0, Ev.p_scN, Ev.p_scFs, Ev.p_scLs, Ev.p_scOn, Ev.p_scOl, Ev.p_scNn, Ev.p_scNl, Ev.p_fiR, Ev.p_fiV, Ev.p_fi0, Ev.fin_rt, Ev.fin_nx, Ev.ou_ln, Ev.ou_fz, Ev.ou_0, Ev.at_0, Ev.at_1, Ev.at_2, Ev.at_3, Ev.p_lenS, Ev.p_lenO, Ev.p_bind, Ev.q_ok, List.getElem?_cons_zero, List.getElem?_cons_succ, List.set_cons_zero, List.set_cons_succ, List.length_cons, List.length_nil, List.cons_append, List.nil_append, Option.map_some, ↓reduceIte, Bool.not_true, Bool.not_false, decide_true, decide_false, Ev.p_div, Ev.p_mod, Ev.p_pow, Ev.p_mul, Ev.dist, List.contains_cons, List.contains_nil, Bool.or_false, Bool.false_and, Bool.and_true, Bool.true_and, Nat.reduceAdd, Nat.reduceBEq, Ev.permN, Ev.perm, List.map_cons, List.map_nil, List.getD_cons_zero, List.getD_cons_succ, and_self, cond_true, cond_false, Int.cast_ofNat_Int, Int.natCast_one, Int.natCast_zero, Int.reduceEq, Int.reduceLE, Int.reduceLT, Int.reduceNeg, Int.reduceGT, Int.reduceAdd, Int.reduceMul, Int.reduceSub, Int.reduceToNat, Int.reducePow, Int.reduceNe, reduceCtorEq, eq_self, wipeR, ew]
      exact ⟨rfl, trivial⟩
  obtain ⟨_, os, e, rfl⟩ := w
  exact ⟨os, e⟩
end K51

namespace K51
open PySem PySem.Spec PyProof.Rows L2 Ev
def GC (K : PySem.W.Frag) : Gc where
  N := { gm := fun _ => none, fn := fun i => ⟨Array.replicate i 0⟩, inj := fun i j e => by simpa using congrArg (fun s : Str => s.cps.size) e, scrK := scrKof K }
  clo := fun _ _ _ _ => False
  tabs := fun _ => True
  tb := fun _ => False
  cloMono := fun _ _ h => h
  tabsUpd := fun _ _ => trivial
  tbAt := fun _ h => h.elim
theorem all_mk {l : PySem.W.OpenLaw} {w : World} {K : PySem.W.Frag} {h : Heap} {mg : Str → Option Value} {fa : Addr} (X : K.In h) (G : h.Ns mainGlobals mg) (hfa : mg "law" = some (.ref fa))
    {f_is_integer f_is_within f_common f_need_integer f_lowest f_raised f_tower f_joined f_prices_to f_all_best f_best_price f_law_loom f_law_weave f_law_one_of f_law_number f_law_halves f_law_tower f_law_arrows f_law_parted f_law_times f_law : Addr}
    {od_is_integer an_is_integer : Option Addr} {sl_is_integer : Array (Option Value)} {oc_is_integer kV_is_integer dc_is_integer pm_is_integer cd_is_integer ct_is_integer : Value}
    (a_is_integer : PySem.W.nsIn K mainGlobals "is_integer" = some (some (.ref f_is_integer))) (l_is_integer : K.lookup f_is_integer = some ⟨oc_is_integer, od_is_integer, .func (PySem.W.fnOf "is_integer" "is_integer" (defArgs s_is_integer) (defBody s_is_integer) (defScope s_is_integer) .none kV_is_integer dc_is_integer pm_is_integer an_is_integer cd_is_integer ct_is_integer), sl_is_integer⟩) (c_is_integer : PySem.W.codeIn K cd_is_integer "is_integer" = true) (k_is_integer : PySem.W.keepIn K (.ref f_is_integer) = true)
    {od_is_within an_is_within : Option Addr} {sl_is_within : Array (Option Value)} {oc_is_within kV_is_within dc_is_within pm_is_within cd_is_within ct_is_within : Value}
    (a_is_within : PySem.W.nsIn K mainGlobals "is_within" = some (some (.ref f_is_within))) (l_is_within : K.lookup f_is_within = some ⟨oc_is_within, od_is_within, .func (PySem.W.fnOf "is_within" "is_within" (defArgs s_is_within) (defBody s_is_within) (defScope s_is_within) .none kV_is_within dc_is_within pm_is_within an_is_within cd_is_within ct_is_within), sl_is_within⟩) (c_is_within : PySem.W.codeIn K cd_is_within "is_within" = true) (k_is_within : PySem.W.keepIn K (.ref f_is_within) = true)
    {od_common an_common : Option Addr} {sl_common : Array (Option Value)} {oc_common kV_common dc_common pm_common cd_common ct_common : Value}
    (a_common : PySem.W.nsIn K mainGlobals "common" = some (some (.ref f_common))) (l_common : K.lookup f_common = some ⟨oc_common, od_common, .func (PySem.W.fnOf "common" "common" (defArgs s_common) (defBody s_common) (defScope s_common) .none kV_common dc_common pm_common an_common cd_common ct_common), sl_common⟩) (c_common : PySem.W.codeIn K cd_common "common" = true) (k_common : PySem.W.keepIn K (.ref f_common) = true)
    {od_need_integer an_need_integer : Option Addr} {sl_need_integer : Array (Option Value)} {oc_need_integer kV_need_integer dc_need_integer pm_need_integer cd_need_integer ct_need_integer : Value}
    (a_need_integer : PySem.W.nsIn K mainGlobals "need_integer" = some (some (.ref f_need_integer))) (l_need_integer : K.lookup f_need_integer = some ⟨oc_need_integer, od_need_integer, .func (PySem.W.fnOf "need_integer" "need_integer" (defArgs s_need_integer) (defBody s_need_integer) (defScope s_need_integer) .none kV_need_integer dc_need_integer pm_need_integer an_need_integer cd_need_integer ct_need_integer), sl_need_integer⟩) (c_need_integer : PySem.W.codeIn K cd_need_integer "need_integer" = true) (k_need_integer : PySem.W.keepIn K (.ref f_need_integer) = true)
    {od_lowest an_lowest : Option Addr} {sl_lowest : Array (Option Value)} {oc_lowest kV_lowest dc_lowest pm_lowest cd_lowest ct_lowest : Value}
    (a_lowest : PySem.W.nsIn K mainGlobals "lowest" = some (some (.ref f_lowest))) (l_lowest : K.lookup f_lowest = some ⟨oc_lowest, od_lowest, .func (PySem.W.fnOf "lowest" "lowest" (defArgs s_lowest) (defBody s_lowest) (defScope s_lowest) .none kV_lowest dc_lowest pm_lowest an_lowest cd_lowest ct_lowest), sl_lowest⟩) (c_lowest : PySem.W.codeIn K cd_lowest "lowest" = true) (k_lowest : PySem.W.keepIn K (.ref f_lowest) = true)
    {od_raised an_raised : Option Addr} {sl_raised : Array (Option Value)} {oc_raised kV_raised dc_raised pm_raised cd_raised ct_raised : Value}
    (a_raised : PySem.W.nsIn K mainGlobals "raised" = some (some (.ref f_raised))) (l_raised : K.lookup f_raised = some ⟨oc_raised, od_raised, .func (PySem.W.fnOf "raised" "raised" (defArgs s_raised) (defBody s_raised) (defScope s_raised) .none kV_raised dc_raised pm_raised an_raised cd_raised ct_raised), sl_raised⟩) (c_raised : PySem.W.codeIn K cd_raised "raised" = true) (k_raised : PySem.W.keepIn K (.ref f_raised) = true)
    {od_tower an_tower : Option Addr} {sl_tower : Array (Option Value)} {oc_tower kV_tower dc_tower pm_tower cd_tower ct_tower : Value}
    (a_tower : PySem.W.nsIn K mainGlobals "tower" = some (some (.ref f_tower))) (l_tower : K.lookup f_tower = some ⟨oc_tower, od_tower, .func (PySem.W.fnOf "tower" "tower" (defArgs s_tower) (defBody s_tower) (defScope s_tower) .none kV_tower dc_tower pm_tower an_tower cd_tower ct_tower), sl_tower⟩) (c_tower : PySem.W.codeIn K cd_tower "tower" = true) (k_tower : PySem.W.keepIn K (.ref f_tower) = true)
    {od_joined an_joined : Option Addr} {sl_joined : Array (Option Value)} {oc_joined kV_joined dc_joined pm_joined cd_joined ct_joined : Value}
    (a_joined : PySem.W.nsIn K mainGlobals "joined" = some (some (.ref f_joined))) (l_joined : K.lookup f_joined = some ⟨oc_joined, od_joined, .func (PySem.W.fnOf "joined" "joined" (defArgs s_joined) (defBody s_joined) (defScope s_joined) .none kV_joined dc_joined pm_joined an_joined cd_joined ct_joined), sl_joined⟩) (c_joined : PySem.W.codeIn K cd_joined "joined" = true) (k_joined : PySem.W.keepIn K (.ref f_joined) = true)
    {od_prices_to an_prices_to : Option Addr} {sl_prices_to : Array (Option Value)} {oc_prices_to kV_prices_to dc_prices_to pm_prices_to cd_prices_to ct_prices_to : Value}
    (a_prices_to : PySem.W.nsIn K mainGlobals "prices_to" = some (some (.ref f_prices_to))) (l_prices_to : K.lookup f_prices_to = some ⟨oc_prices_to, od_prices_to, .func (PySem.W.fnOf "prices_to" "prices_to" (defArgs s_prices_to) (defBody s_prices_to) (defScope s_prices_to) .none kV_prices_to dc_prices_to pm_prices_to an_prices_to cd_prices_to ct_prices_to), sl_prices_to⟩) (c_prices_to : PySem.W.codeIn K cd_prices_to "prices_to" = true) (k_prices_to : PySem.W.keepIn K (.ref f_prices_to) = true)
    {od_all_best an_all_best : Option Addr} {sl_all_best : Array (Option Value)} {oc_all_best kV_all_best dc_all_best pm_all_best cd_all_best ct_all_best : Value}
    (a_all_best : PySem.W.nsIn K mainGlobals "all_best" = some (some (.ref f_all_best))) (l_all_best : K.lookup f_all_best = some ⟨oc_all_best, od_all_best, .func (PySem.W.fnOf "all_best" "all_best" (defArgs s_all_best) (defBody s_all_best) (defScope s_all_best) .none kV_all_best dc_all_best pm_all_best an_all_best cd_all_best ct_all_best), sl_all_best⟩) (c_all_best : PySem.W.codeIn K cd_all_best "all_best" = true) (k_all_best : PySem.W.keepIn K (.ref f_all_best) = true)
    {od_best_price an_best_price : Option Addr} {sl_best_price : Array (Option Value)} {oc_best_price kV_best_price dc_best_price pm_best_price cd_best_price ct_best_price : Value}
    (a_best_price : PySem.W.nsIn K mainGlobals "best_price" = some (some (.ref f_best_price))) (l_best_price : K.lookup f_best_price = some ⟨oc_best_price, od_best_price, .func (PySem.W.fnOf "best_price" "best_price" (defArgs s_best_price) (defBody s_best_price) (defScope s_best_price) .none kV_best_price dc_best_price pm_best_price an_best_price cd_best_price ct_best_price), sl_best_price⟩) (c_best_price : PySem.W.codeIn K cd_best_price "best_price" = true) (k_best_price : PySem.W.keepIn K (.ref f_best_price) = true)
    {od_law_loom an_law_loom : Option Addr} {sl_law_loom : Array (Option Value)} {oc_law_loom kV_law_loom dc_law_loom pm_law_loom cd_law_loom ct_law_loom : Value}
    (a_law_loom : PySem.W.nsIn K mainGlobals "_law_loom" = some (some (.ref f_law_loom))) (l_law_loom : K.lookup f_law_loom = some ⟨oc_law_loom, od_law_loom, .func (PySem.W.fnOf "_law_loom" "_law_loom" (defArgs s_law_loom) (defBody s_law_loom) (defScope s_law_loom) .none kV_law_loom dc_law_loom pm_law_loom an_law_loom cd_law_loom ct_law_loom), sl_law_loom⟩) (c_law_loom : PySem.W.codeIn K cd_law_loom "_law_loom" = true) (k_law_loom : PySem.W.keepIn K (.ref f_law_loom) = true)
    {od_law_weave an_law_weave : Option Addr} {sl_law_weave : Array (Option Value)} {oc_law_weave kV_law_weave dc_law_weave pm_law_weave cd_law_weave ct_law_weave : Value}
    (a_law_weave : PySem.W.nsIn K mainGlobals "_law_weave" = some (some (.ref f_law_weave))) (l_law_weave : K.lookup f_law_weave = some ⟨oc_law_weave, od_law_weave, .func (PySem.W.fnOf "_law_weave" "_law_weave" (defArgs s_law_weave) (defBody s_law_weave) (defScope s_law_weave) .none kV_law_weave dc_law_weave pm_law_weave an_law_weave cd_law_weave ct_law_weave), sl_law_weave⟩) (c_law_weave : PySem.W.codeIn K cd_law_weave "_law_weave" = true) (k_law_weave : PySem.W.keepIn K (.ref f_law_weave) = true)
    {od_law_one_of an_law_one_of : Option Addr} {sl_law_one_of : Array (Option Value)} {oc_law_one_of kV_law_one_of dc_law_one_of pm_law_one_of cd_law_one_of ct_law_one_of : Value}
    (a_law_one_of : PySem.W.nsIn K mainGlobals "_law_one_of" = some (some (.ref f_law_one_of))) (l_law_one_of : K.lookup f_law_one_of = some ⟨oc_law_one_of, od_law_one_of, .func (PySem.W.fnOf "_law_one_of" "_law_one_of" (defArgs s_law_one_of) (defBody s_law_one_of) (defScope s_law_one_of) .none kV_law_one_of dc_law_one_of pm_law_one_of an_law_one_of cd_law_one_of ct_law_one_of), sl_law_one_of⟩) (c_law_one_of : PySem.W.codeIn K cd_law_one_of "_law_one_of" = true) (k_law_one_of : PySem.W.keepIn K (.ref f_law_one_of) = true)
    {od_law_number an_law_number : Option Addr} {sl_law_number : Array (Option Value)} {oc_law_number kV_law_number dc_law_number pm_law_number cd_law_number ct_law_number : Value}
    (a_law_number : PySem.W.nsIn K mainGlobals "_law_number" = some (some (.ref f_law_number))) (l_law_number : K.lookup f_law_number = some ⟨oc_law_number, od_law_number, .func (PySem.W.fnOf "_law_number" "_law_number" (defArgs s_law_number) (defBody s_law_number) (defScope s_law_number) .none kV_law_number dc_law_number pm_law_number an_law_number cd_law_number ct_law_number), sl_law_number⟩) (c_law_number : PySem.W.codeIn K cd_law_number "_law_number" = true) (k_law_number : PySem.W.keepIn K (.ref f_law_number) = true)
    {od_law_halves an_law_halves : Option Addr} {sl_law_halves : Array (Option Value)} {oc_law_halves kV_law_halves dc_law_halves pm_law_halves cd_law_halves ct_law_halves : Value}
    (a_law_halves : PySem.W.nsIn K mainGlobals "_law_halves" = some (some (.ref f_law_halves))) (l_law_halves : K.lookup f_law_halves = some ⟨oc_law_halves, od_law_halves, .func (PySem.W.fnOf "_law_halves" "_law_halves" (defArgs s_law_halves) (defBody s_law_halves) (defScope s_law_halves) .none kV_law_halves dc_law_halves pm_law_halves an_law_halves cd_law_halves ct_law_halves), sl_law_halves⟩) (c_law_halves : PySem.W.codeIn K cd_law_halves "_law_halves" = true) (k_law_halves : PySem.W.keepIn K (.ref f_law_halves) = true)
    {od_law_tower an_law_tower : Option Addr} {sl_law_tower : Array (Option Value)} {oc_law_tower kV_law_tower dc_law_tower pm_law_tower cd_law_tower ct_law_tower : Value}
    (a_law_tower : PySem.W.nsIn K mainGlobals "_law_tower" = some (some (.ref f_law_tower))) (l_law_tower : K.lookup f_law_tower = some ⟨oc_law_tower, od_law_tower, .func (PySem.W.fnOf "_law_tower" "_law_tower" (defArgs s_law_tower) (defBody s_law_tower) (defScope s_law_tower) .none kV_law_tower dc_law_tower pm_law_tower an_law_tower cd_law_tower ct_law_tower), sl_law_tower⟩) (c_law_tower : PySem.W.codeIn K cd_law_tower "_law_tower" = true) (k_law_tower : PySem.W.keepIn K (.ref f_law_tower) = true)
    {od_law_arrows an_law_arrows : Option Addr} {sl_law_arrows : Array (Option Value)} {oc_law_arrows kV_law_arrows dc_law_arrows pm_law_arrows cd_law_arrows ct_law_arrows : Value}
    (a_law_arrows : PySem.W.nsIn K mainGlobals "_law_arrows" = some (some (.ref f_law_arrows))) (l_law_arrows : K.lookup f_law_arrows = some ⟨oc_law_arrows, od_law_arrows, .func (PySem.W.fnOf "_law_arrows" "_law_arrows" (defArgs s_law_arrows) (defBody s_law_arrows) (defScope s_law_arrows) .none kV_law_arrows dc_law_arrows pm_law_arrows an_law_arrows cd_law_arrows ct_law_arrows), sl_law_arrows⟩) (c_law_arrows : PySem.W.codeIn K cd_law_arrows "_law_arrows" = true) (k_law_arrows : PySem.W.keepIn K (.ref f_law_arrows) = true)
    {od_law_parted an_law_parted : Option Addr} {sl_law_parted : Array (Option Value)} {oc_law_parted kV_law_parted dc_law_parted pm_law_parted cd_law_parted ct_law_parted : Value}
    (a_law_parted : PySem.W.nsIn K mainGlobals "_law_parted" = some (some (.ref f_law_parted))) (l_law_parted : K.lookup f_law_parted = some ⟨oc_law_parted, od_law_parted, .func (PySem.W.fnOf "_law_parted" "_law_parted" (defArgs s_law_parted) (defBody s_law_parted) (defScope s_law_parted) .none kV_law_parted dc_law_parted pm_law_parted an_law_parted cd_law_parted ct_law_parted), sl_law_parted⟩) (c_law_parted : PySem.W.codeIn K cd_law_parted "_law_parted" = true) (k_law_parted : PySem.W.keepIn K (.ref f_law_parted) = true)
    {od_law_times an_law_times : Option Addr} {sl_law_times : Array (Option Value)} {oc_law_times kV_law_times dc_law_times pm_law_times cd_law_times ct_law_times : Value}
    (a_law_times : PySem.W.nsIn K mainGlobals "_law_times" = some (some (.ref f_law_times))) (l_law_times : K.lookup f_law_times = some ⟨oc_law_times, od_law_times, .func (PySem.W.fnOf "_law_times" "_law_times" (defArgs s_law_times) (defBody s_law_times) (defScope s_law_times) .none kV_law_times dc_law_times pm_law_times an_law_times cd_law_times ct_law_times), sl_law_times⟩) (c_law_times : PySem.W.codeIn K cd_law_times "_law_times" = true) (k_law_times : PySem.W.keepIn K (.ref f_law_times) = true)
    {od_law an_law : Option Addr} {sl_law : Array (Option Value)} {oc_law kV_law dc_law pm_law cd_law ct_law : Value}
    (a_law : PySem.W.nsIn K mainGlobals "law" = some (some (.ref f_law))) (l_law : K.lookup f_law = some ⟨oc_law, od_law, .func (PySem.W.fnOf "law" "law" (defArgs s_law) (defBody s_law) (defScope s_law) .none kV_law dc_law pm_law an_law cd_law ct_law), sl_law⟩) (c_law : PySem.W.codeIn K cd_law "law" = true) (k_law : PySem.W.keepIn K (.ref f_law) = true)
    (z_abs : PySem.W.nsIn K mainGlobals "abs" = some none)
    (z_bool : PySem.W.nsIn K mainGlobals "bool" = some none)
    (z_int : PySem.W.nsIn K mainGlobals "int" = some none)
    (z_isinstance : PySem.W.nsIn K mainGlobals "isinstance" = some none)
    (z_len : PySem.W.nsIn K mainGlobals "len" = some none)
    (z_range : PySem.W.nsIn K mainGlobals "range" = some none)
    (z_tuple : PySem.W.nsIn K mainGlobals "tuple" = some none)
    {t_MOST_LOTS : Tok} (v_MOST_LOTS : PySem.W.nsIn K mainGlobals "MOST_LOTS" = some (some (.int 60 t_MOST_LOTS)))
    {t_MOST_BEST_DAYS : Tok} (v_MOST_BEST_DAYS : PySem.W.nsIn K mainGlobals "MOST_BEST_DAYS" = some (some (.int 250 t_MOST_BEST_DAYS)))
    : ∃ (fd : FuncData) (G : Gc), (∀ (s : Shared) (u : Value), BindsTo s fd ⟨[u], []⟩ [("_law_script", u)]) ∧ G.N.scrK = scrKof K ∧ (∀ H, (∀ b, H b = none ∨ ∃ o u, H b = some (.frz o u)) → G.tabs H) ∧ (∀ b, ¬ G.tb b) ∧
        ∀ base : Heap, K.In base → base.Ns mainGlobals mg → FnG l.prog w K mg base (L2.CX l.prog w) 6 fa fd ["_law_script"] (spEv G m_law 1) := by
  have e := hfa.symm.trans (PySem.W.mg_of X G a_law)
  cases e
  let T : Tops K mg := {
    f_is_integer := f_is_integer,
    fd_is_integer := _,
    F_is_integer := fun_mk (st := s_is_integer) l_is_integer c_is_integer k_is_integer,
    g_is_integer := PySem.W.mg_of X G a_is_integer,
    f_is_within := f_is_within,
    fd_is_within := _,
    F_is_within := fun_mk (st := s_is_within) l_is_within c_is_within k_is_within,
    g_is_within := PySem.W.mg_of X G a_is_within,
    f_common := f_common,
    fd_common := _,
    F_common := fun_mk (st := s_common) l_common c_common k_common,
    g_common := PySem.W.mg_of X G a_common,
    f_need_integer := f_need_integer,
    fd_need_integer := _,
    F_need_integer := fun_mk (st := s_need_integer) l_need_integer c_need_integer k_need_integer,
    g_need_integer := PySem.W.mg_of X G a_need_integer,
    f_lowest := f_lowest,
    fd_lowest := _,
    F_lowest := fun_mk (st := s_lowest) l_lowest c_lowest k_lowest,
    g_lowest := PySem.W.mg_of X G a_lowest,
    f_raised := f_raised,
    fd_raised := _,
    F_raised := fun_mk (st := s_raised) l_raised c_raised k_raised,
    g_raised := PySem.W.mg_of X G a_raised,
    f_tower := f_tower,
    fd_tower := _,
    F_tower := fun_mk (st := s_tower) l_tower c_tower k_tower,
    g_tower := PySem.W.mg_of X G a_tower,
    f_joined := f_joined,
    fd_joined := _,
    F_joined := fun_mk (st := s_joined) l_joined c_joined k_joined,
    g_joined := PySem.W.mg_of X G a_joined,
    f_prices_to := f_prices_to,
    fd_prices_to := _,
    F_prices_to := fun_mk (st := s_prices_to) l_prices_to c_prices_to k_prices_to,
    g_prices_to := PySem.W.mg_of X G a_prices_to,
    f_all_best := f_all_best,
    fd_all_best := _,
    F_all_best := fun_mk (st := s_all_best) l_all_best c_all_best k_all_best,
    g_all_best := PySem.W.mg_of X G a_all_best,
    f_best_price := f_best_price,
    fd_best_price := _,
    F_best_price := fun_mk (st := s_best_price) l_best_price c_best_price k_best_price,
    g_best_price := PySem.W.mg_of X G a_best_price,
    f_law_loom := f_law_loom,
    fd_law_loom := _,
    F_law_loom := fun_mk (st := s_law_loom) l_law_loom c_law_loom k_law_loom,
    g_law_loom := PySem.W.mg_of X G a_law_loom,
    f_law_weave := f_law_weave,
    fd_law_weave := _,
    F_law_weave := fun_mk (st := s_law_weave) l_law_weave c_law_weave k_law_weave,
    g_law_weave := PySem.W.mg_of X G a_law_weave,
    f_law_one_of := f_law_one_of,
    fd_law_one_of := _,
    F_law_one_of := fun_mk (st := s_law_one_of) l_law_one_of c_law_one_of k_law_one_of,
    g_law_one_of := PySem.W.mg_of X G a_law_one_of,
    f_law_number := f_law_number,
    fd_law_number := _,
    F_law_number := fun_mk (st := s_law_number) l_law_number c_law_number k_law_number,
    g_law_number := PySem.W.mg_of X G a_law_number,
    f_law_halves := f_law_halves,
    fd_law_halves := _,
    F_law_halves := fun_mk (st := s_law_halves) l_law_halves c_law_halves k_law_halves,
    g_law_halves := PySem.W.mg_of X G a_law_halves,
    f_law_tower := f_law_tower,
    fd_law_tower := _,
    F_law_tower := fun_mk (st := s_law_tower) l_law_tower c_law_tower k_law_tower,
    g_law_tower := PySem.W.mg_of X G a_law_tower,
    f_law_arrows := f_law_arrows,
    fd_law_arrows := _,
    F_law_arrows := fun_mk (st := s_law_arrows) l_law_arrows c_law_arrows k_law_arrows,
    g_law_arrows := PySem.W.mg_of X G a_law_arrows,
    f_law_parted := f_law_parted,
    fd_law_parted := _,
    F_law_parted := fun_mk (st := s_law_parted) l_law_parted c_law_parted k_law_parted,
    g_law_parted := PySem.W.mg_of X G a_law_parted,
    f_law_times := f_law_times,
    fd_law_times := _,
    F_law_times := fun_mk (st := s_law_times) l_law_times c_law_times k_law_times,
    g_law_times := PySem.W.mg_of X G a_law_times,
    f_law := fa,
    fd_law := _,
    F_law := fun_mk (st := s_law) l_law c_law k_law,
    g_law := PySem.W.mg_of X G a_law,
    z_abs := PySem.W.mg_none_of X G z_abs,
    z_bool := PySem.W.mg_none_of X G z_bool,
    z_int := PySem.W.mg_none_of X G z_int,
    z_isinstance := PySem.W.mg_none_of X G z_isinstance,
    z_len := PySem.W.mg_none_of X G z_len,
    z_range := PySem.W.mg_none_of X G z_range,
    z_tuple := PySem.W.mg_none_of X G z_tuple,
    t_MOST_LOTS := t_MOST_LOTS,
    c_MOST_LOTS := PySem.W.mg_of X G v_MOST_LOTS,
    t_MOST_BEST_DAYS := t_MOST_BEST_DAYS,
    c_MOST_BEST_DAYS := PySem.W.mg_of X G v_MOST_BEST_DAYS }
  exact ⟨T.fd_law, GC K, fun s v => .of_eq rfl, rfl, fun _ _ => trivial, fun _ h => h, fun base _ _ => ok_law (P := l.prog) T ⟨rfl⟩⟩
end K51
open PySem PySem.W PyProof.Rows
set_option maxHeartbeats 0 in
theorem PySem.Challenge.cw_hindprice_k51_whole_best_prices_hang_tog_holds : PySem.Challenge.rw_hindprice_k51_whole_best_prices_hang_tog.Holds := by
  w_on; o_law; k_head; (case hw => w_witness2)
  k_fill
  refine Ev.walk_ev (l := PySem.Challenge.rw_hindprice_k51_whole_best_prices_hang_tog) (n := 63) (k := 6) (x := "_law_script") (φ := K51.m_law) rfl (by decide) rfl ⟨rfl, by decide, by decide⟩ (fun w h Y => PySem.W.kIn_of Y) ?F K51.law_true
  case F =>
    intro w mg fa h KX G hmg
    refine' K51.all_mk KX G hmg ?a_is_integer ?l_is_integer ?c_is_integer ?k_is_integer ?a_is_within ?l_is_within ?c_is_within ?k_is_within ?a_common ?l_common ?c_common ?k_common ?a_need_integer ?l_need_integer ?c_need_integer ?k_need_integer ?a_lowest ?l_lowest ?c_lowest ?k_lowest ?a_raised ?l_raised ?c_raised ?k_raised ?a_tower ?l_tower ?c_tower ?k_tower ?a_joined ?l_joined ?c_joined ?k_joined ?a_prices_to ?l_prices_to ?c_prices_to ?k_prices_to ?a_all_best ?l_all_best ?c_all_best ?k_all_best ?a_best_price ?l_best_price ?c_best_price ?k_best_price ?a_law_loom ?l_law_loom ?c_law_loom ?k_law_loom ?a_law_weave ?l_law_weave ?c_law_weave ?k_law_weave ?a_law_one_of ?l_law_one_of ?c_law_one_of ?k_law_one_of ?a_law_number ?l_law_number ?c_law_number ?k_law_number ?a_law_halves ?l_law_halves ?c_law_halves ?k_law_halves ?a_law_tower ?l_law_tower ?c_law_tower ?k_law_tower ?a_law_arrows ?l_law_arrows ?c_law_arrows ?k_law_arrows ?a_law_parted ?l_law_parted ?c_law_parted ?k_law_parted ?a_law_times ?l_law_times ?c_law_times ?k_law_times ?a_law ?l_law ?c_law ?k_law ?z_abs ?z_bool ?z_int ?z_isinstance ?z_len ?z_range ?z_tuple ?v_MOST_LOTS ?v_MOST_BEST_DAYS
    (case a_is_integer => k_is); (case l_is_integer => k_is); (case c_is_integer => k_is); (case k_is_integer => k_is); (case a_is_within => k_is); (case l_is_within => k_is); (case c_is_within => k_is); (case k_is_within => k_is); (case a_common => k_is); (case l_common => k_is); (case c_common => k_is); (case k_common => k_is); (case a_need_integer => k_is); (case l_need_integer => k_is); (case c_need_integer => k_is); (case k_need_integer => k_is); (case a_lowest => k_is); (case l_lowest => k_is); (case c_lowest => k_is); (case k_lowest => k_is); (case a_raised => k_is); (case l_raised => k_is); (case c_raised => k_is); (case k_raised => k_is); (case a_tower => k_is); (case l_tower => k_is); (case c_tower => k_is); (case k_tower => k_is); (case a_joined => k_is); (case l_joined => k_is); (case c_joined => k_is); (case k_joined => k_is); (case a_prices_to => k_is); (case l_prices_to => k_is); (case c_prices_to => k_is); (case k_prices_to => k_is); (case a_all_best => k_is); (case l_all_best => k_is); (case c_all_best => k_is); (case k_all_best => k_is); (case a_best_price => k_is); (case l_best_price => k_is); (case c_best_price => k_is); (case k_best_price => k_is); (case a_law_loom => k_is); (case l_law_loom => k_is); (case c_law_loom => k_is); (case k_law_loom => k_is); (case a_law_weave => k_is); (case l_law_weave => k_is); (case c_law_weave => k_is); (case k_law_weave => k_is); (case a_law_one_of => k_is); (case l_law_one_of => k_is); (case c_law_one_of => k_is); (case k_law_one_of => k_is); (case a_law_number => k_is); (case l_law_number => k_is); (case c_law_number => k_is); (case k_law_number => k_is); (case a_law_halves => k_is); (case l_law_halves => k_is); (case c_law_halves => k_is); (case k_law_halves => k_is); (case a_law_tower => k_is); (case l_law_tower => k_is); (case c_law_tower => k_is); (case k_law_tower => k_is); (case a_law_arrows => k_is); (case l_law_arrows => k_is); (case c_law_arrows => k_is); (case k_law_arrows => k_is); (case a_law_parted => k_is); (case l_law_parted => k_is); (case c_law_parted => k_is); (case k_law_parted => k_is); (case a_law_times => k_is); (case l_law_times => k_is); (case c_law_times => k_is); (case k_law_times => k_is); (case a_law => k_is); (case l_law => k_is); (case c_law => k_is); (case k_law => k_is); (case z_abs => k_is); (case z_bool => k_is); (case z_int => k_is); (case z_isinstance => k_is); (case z_len => k_is); (case z_range => k_is); (case z_tuple => k_is); (case v_MOST_LOTS => k_is); (case v_MOST_BEST_DAYS => k_is)

