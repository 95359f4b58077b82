import PyProof.Rows.All
import HandS.ForMost
import HandS.ForExc
import HandS.Flow
import HandS.Wide
import HandS.Lambda
import HandS.WideBits
import HandS.TupMul
import HandS.TupAny
import Wide.All
import OpenK.AllK
import Wide.FinOn
import HandS.IsInst
import HandS.Style
import HandS.WordsList
import HandS.WordsExc
import HandS.EndBits
import HandS.ClsMeth
import HandS.ExcInit
import HandS.ExcField
import HandS.ExcIs
import KE.KDflt
import HandS.EndTab
import HandS.Zip
import KE.GoesZip
import KE.GoesMore
import KE.GoesEnum
import HandS.Text
import PyProof.WalksMore
import PyProof.SumWalkG
import HandS.Codes
import PyProof.StrOps2
import HandS.Defaults
import HandS.Star
import HandS.DictTup
import KE.KDictDisplayH
import HandS.Deep
import HandS.DeepEq
import HandS.TupSets
import HandS.SetBool
import HandS.More
import PyProof.Rows.Digits
import PyProof.ReprRoads
import PySem.Challenge.RW_hindprice_k70_even_weights_and_factors
set_option Elab.async false
set_option linter.all false
set_option maxRecDepth 100000
set_option maxHeartbeats 4000000
/-! EvA: plain data, slots, outcomes, how they lie in the abstract heap. -/
namespace Ev
open PySem PySem.Spec PyProof.Rows L2

/-- a built-in class -/
inductive Ty where | int | bool | str | list | tuple | dict
  deriving DecidableEq
def Ty.nm : Ty → String
  | .int => "int" | .bool => "bool" | .str => "str" | .list => "list" | .tuple => "tuple" | .dict => "dict"
/-- plain data: functions, classes, fields by numbers -/
inductive D where
  | non | bl (b : Bool) | int (i : Int) | str (x : Str)
  | lst (l : List D) | tup (l : List D) | dic (l : List (Key × D)) | dct (l : List (List Key × D))
  | scr (l : List Int)
  | gl (x : Nat) | ty (n : Ty)
  | obj (c : Nat) (fs : List (Nat × D))
  | exc (c : Nat) (fs : List (Nat × D))
/-- what the numbers mean: the module's names, the fields' names -/
structure Nm where
  gm : Nat → Option Value
  fn : Nat → Str
  inj : ∀ i j, fn i = fn j → i = j
  /-- the script, should it be one of the module's own objects -/
  scrK : Addr → List Int → Prop

abbrev Fz := Addr → Prop
def ExcH (a C : Addr) (d : Option Addr) : HO := .ext fun h => ∃ (oe : Obj) (vs : Array Value), h.get? a = some oe ∧ Zc (.ref C) d oe ∧ oe.data = .fields vs

mutual
inductive Rp (N : Nm) (F : Fz) (H : Hp) : V → D → Prop
  | non : Rp N F H .non .non
  | bl (b : Bool) : Rp N F H (.bl b) (.bl b)
  | int (i : Int) : Rp N F H (.int i) (.int i)
  | str (x : Str) : Rp N F H (.str x) (.str x)
  | ty (n : Ty) : Rp N F H (.ty n.nm) (.ty n)
  | gl {x : Nat} {a : Addr} : N.gm x = some (.ref a) → Rp N F H (.ref a) (.gl x)
  | lst {a : Addr} {xs : List V} {ds : List D} : F a → H a = some (.lst xs) → RpL N F H xs ds → Rp N F H (.ref a) (.lst ds)
  | scr {a : Addr} {ns : List Int} : (F a ∧ Rd H a (.lst (ns.map V.int))) ∨ N.scrK a ns → Rp N F H (.ref a) (.scr ns)
  | tup {a : Addr} {xs : List V} {ds : List D} : F a → H a = some (.tup xs) → RpL N F H xs ds → Rp N F H (.ref a) (.tup ds)
  | dic {a : Addr} {xs : List (Key × V)} {ds : List (Key × D)} : F a → H a = some (.dK xs) → RpK N F H xs ds → Rp N F H (.ref a) (.dic ds)
  | dct {a : Addr} {od : Obj} {xs : List (List Key × V)} {ds : List (List Key × D)} : F a → H a = some (.frz od (.dT xs)) → RpT N F H xs ds → Rp N F H (.ref a) (.dct ds)
  | obj {a C dx : Addr} {c : Nat} {xs : List (Str × V)} {ds : List (Nat × D)} : N.gm c = some (.ref C) → F a → H a = some (.ins C dx xs) → RpF N F H xs ds → Rp N F H (.ref a) (.obj c ds)
  | exc {a C d : Addr} {c : Nat} {xs : List (Str × V)} {ds : List (Nat × D)} : N.gm c = some (.ref C) → F a → F d → H a = some (ExcH a C (some d)) → H d = some (.xd xs) → RpF N F H xs ds → Rp N F H (.ref a) (.exc c ds)
inductive RpL (N : Nm) (F : Fz) (H : Hp) : List V → List D → Prop
  | nil : RpL N F H [] []
  | cons {v : V} {d : D} {vs : List V} {ds : List D} : Rp N F H v d → RpL N F H vs ds → RpL N F H (v :: vs) (d :: ds)
inductive RpK (N : Nm) (F : Fz) (H : Hp) : List (Key × V) → List (Key × D) → Prop
  | nil : RpK N F H [] []
  | cons {k : Key} {v : V} {d : D} {vs : List (Key × V)} {ds : List (Key × D)} : Rp N F H v d → RpK N F H vs ds → RpK N F H ((k, v) :: vs) ((k, d) :: ds)
inductive RpT (N : Nm) (F : Fz) (H : Hp) : List (List Key × V) → List (List Key × D) → Prop
  | nil : RpT N F H [] []
  | cons {k : List Key} {v : V} {d : D} {vs : List (List Key × V)} {ds : List (List Key × D)} : Rp N F H v d → RpT N F H vs ds → RpT N F H ((k, v) :: vs) ((k, d) :: ds)
inductive RpF (N : Nm) (F : Fz) (H : Hp) : List (Str × V) → List (Nat × D) → Prop
  | nil : RpF N F H [] []
  | cons {k : Nat} {v : V} {d : D} {vs : List (Str × V)} {ds : List (Nat × D)} : Rp N F H v d → RpF N F H vs ds → RpF N F H ((N.fn k, v) :: vs) ((k, d) :: ds)
end

section
variable {N : Nm} {F F' : Fz} {H H' : Hp}
theorem Rd.to {a : Addr} {u : HO} (h : Rd H a u) (e : H' a = H a) : Rd H' a u := by
  unfold Rd at *
  rw [e]
  exact h
mutual
theorem Rp.mono (hF : ∀ a, F a → F' a) (hH : ∀ a, F a → H' a = H a) : ∀ {v : V} {d : D}, Rp N F H v d → Rp N F' H' v d
  | _, _, .non => .non
  | _, _, .bl b => .bl b
  | _, _, .int i => .int i
  | _, _, .str x => .str x
  | _, _, .ty n => .ty n
  | _, _, .gl h => .gl h
  | _, _, .lst f r l => .lst (hF _ f) ((hH _ f).trans r) (RpL.mono hF hH l)
  | _, _, .scr h => .scr (h.imp (fun h => ⟨hF _ h.1, Rd.to h.2 (hH _ h.1)⟩) id)
  | _, _, .tup f r l => .tup (hF _ f) ((hH _ f).trans r) (RpL.mono hF hH l)
  | _, _, .dic f r l => .dic (hF _ f) ((hH _ f).trans r) (RpK.mono hF hH l)
  | _, _, .dct f r l => .dct (hF _ f) ((hH _ f).trans r) (RpT.mono hF hH l)
  | _, _, .obj m f r l => .obj m (hF _ f) ((hH _ f).trans r) (RpF.mono hF hH l)
  | _, _, .exc m f g r q l => .exc m (hF _ f) (hF _ g) ((hH _ f).trans r) ((hH _ g).trans q) (RpF.mono hF hH l)
theorem RpL.mono (hF : ∀ a, F a → F' a) (hH : ∀ a, F a → H' a = H a) : ∀ {v : List V} {d : List D}, RpL N F H v d → RpL N F' H' v d
  | _, _, .nil => .nil
  | _, _, .cons r l => .cons (Rp.mono hF hH r) (RpL.mono hF hH l)
theorem RpK.mono (hF : ∀ a, F a → F' a) (hH : ∀ a, F a → H' a = H a) : ∀ {v : List (Key × V)} {d : List (Key × D)}, RpK N F H v d → RpK N F' H' v d
  | _, _, .nil => .nil
  | _, _, .cons r l => .cons (Rp.mono hF hH r) (RpK.mono hF hH l)
theorem RpT.mono (hF : ∀ a, F a → F' a) (hH : ∀ a, F a → H' a = H a) : ∀ {v : List (List Key × V)} {d : List (List Key × D)}, RpT N F H v d → RpT N F' H' v d
  | _, _, .nil => .nil
  | _, _, .cons r l => .cons (Rp.mono hF hH r) (RpT.mono hF hH l)
theorem RpF.mono (hF : ∀ a, F a → F' a) (hH : ∀ a, F a → H' a = H a) : ∀ {v : List (Str × V)} {d : List (Nat × D)}, RpF N F H v d → RpF N F' H' v d
  | _, _, .nil => .nil
  | _, _, .cons r l => .cons (Rp.mono hF hH r) (RpF.mono hF hH l)
end
theorem RpL.length : ∀ {v : List V} {d : List D}, RpL N F H v d → v.length = d.length
  | _, _, .nil => rfl
  | _, _, .cons _ l => congrArg (· + 1) (RpL.length l)
theorem RpL.get : ∀ {v : List V} {d : List D} {i : Nat} {x : D}, RpL N F H v d → d[i]? = some x → ∃ y, v[i]? = some y ∧ Rp N F H y x
  | _, _, _, _, .nil, e => by simp at e
  | _, _, 0, _, .cons r _, e => by simp at e; subst e; exact ⟨_, rfl, r⟩
  | _, _, i + 1, x, .cons _ l, e => by
    obtain ⟨y, h1, h2⟩ := RpL.get (i := i) (x := x) l (by simpa using e)
    exact ⟨y, by simpa using h1, h2⟩
theorem RpL.get' : ∀ {v : List V} {d : List D} {i : Nat} {y : V}, RpL N F H v d → v[i]? = some y → ∃ x, d[i]? = some x ∧ Rp N F H y x
  | _, _, _, _, .nil, e => by simp at e
  | _, _, 0, _, .cons r _, e => by simp at e; subst e; exact ⟨_, rfl, r⟩
  | _, _, i + 1, x, .cons _ l, e => by
    obtain ⟨y, h1, h2⟩ := RpL.get' (i := i) (y := x) l (by simpa using e)
    exact ⟨y, by simpa using h1, h2⟩
theorem RpL.append : ∀ {v w : List V} {d e : List D}, RpL N F H v d → RpL N F H w e → RpL N F H (v ++ w) (d ++ e)
  | _, _, _, _, .nil, r => r
  | _, _, _, _, .cons r l, q => .cons r (RpL.append l q)
theorem RpL.set {x : V} {y : D} (r : Rp N F H x y) : ∀ {v : List V} {d : List D} (i : Nat), RpL N F H v d → RpL N F H (v.set i x) (d.set i y)
  | _, _, _, .nil => .nil
  | _, _, 0, .cons _ l => .cons r l
  | _, _, i + 1, .cons q l => .cons q (RpL.set r i l)
theorem RpL.take : ∀ {v : List V} {d : List D} (n : Nat), RpL N F H v d → RpL N F H (v.take n) (d.take n)
  | _, _, 0, _ => .nil
  | _, _, _ + 1, .nil => .nil
  | _, _, n + 1, .cons r t => .cons r (RpL.take n t)
theorem RpL.drop : ∀ {v : List V} {d : List D} (n : Nat), RpL N F H v d → RpL N F H (v.drop n) (d.drop n)
  | _, _, 0, r => r
  | _, _, _ + 1, .nil => .nil
  | _, _, n + 1, .cons _ t => RpL.drop n t
theorem Nm.beq {k f : Nat} : (N.fn f == N.fn k) = (f == k) := by
  by_cases h : f = k
  · subst h
    simp
  · have h2 : ¬ N.fn f = N.fn k := fun e => h (N.inj _ _ e)
    rw [beq_eq_false_iff_ne.mpr h, beq_eq_false_iff_ne.mpr h2]
theorem RpF.lookup {f : Nat} : ∀ {v : List (Str × V)} {d : List (Nat × D)} {x : D}, RpF N F H v d → d.lookup f = some x → ∃ y, v.lookup (N.fn f) = some y ∧ Rp N F H y x
  | _, _, _, .nil, e => by simp at e
  | _, _, x, .cons (k := k) (v := v) (d := d) r l, e => by
    by_cases h : (f == k) = true
    · simp only [List.lookup, Nm.beq, h] at e ⊢
      cases e
      exact ⟨_, rfl, r⟩
    · have h' : (f == k) = false := by simpa using h
      simp only [List.lookup, Nm.beq, h'] at e ⊢
      exact RpF.lookup l e
theorem RpF.lookup_none {f : Nat} : ∀ {v : List (Str × V)} {d : List (Nat × D)}, RpF N F H v d → d.lookup f = none → v.lookup (N.fn f) = none
  | _, _, .nil, e => by simp
  | _, _, .cons (k := k) (v := v) (d := d) r l, e => by
    by_cases h : (f == k) = true
    · simp only [List.lookup, h] at e
      cases e
    · have h' : (f == k) = false := by simpa using h
      simp only [List.lookup, Nm.beq, h'] at e ⊢
      exact RpF.lookup_none l e
theorem RpF.length : ∀ {v : List (Str × V)} {d : List (Nat × D)}, RpF N F H v d → v.length = d.length
  | _, _, .nil => rfl
  | _, _, .cons _ l => congrArg (· + 1) (RpF.length l)
end

/-! ### slots, outcomes -/
inductive CO where | ok (d : D) | ex (d : D) | no
/-- a slot: not assigned; a frozen value; an object of one's own; one lent by the caller; a lent one that is frozen meanwhile; a closure -/
inductive Sl where | un | fz (d : D) | ow (d : D) | ln (d : D) | lf (d : D) | cl (f : List D → CO)
abbrev Rho := List Sl
inductive Out (α : Type) where | ok (a : α) (ρ : Rho) | ex (e : D) (ρ : Rho) | no
abbrev M (α : Type) := Rho → Out α
/-- a value: frozen, or a new object nobody else holds -/
inductive Vl where | fz (d : D) | nw (d : D)
inductive FOut where | ok (r : Vl) (outs : List Sl) | ex (e : D) (outs : List Sl) | no
abbrev Fn := List Sl → FOut
inductive Fl where | nx | rt (r : Vl) | bk | ct
def Vl.d : Vl → D
  | .fz d => d
  | .nw d => d
@[inline] def Out.bind {α β : Type} (o : Out α) (f : α → Rho → Out β) : Out β := match o with
  | .ok a ρ => f a ρ
  | .ex e ρ => .ex e ρ
  | .no => .no
theorem bind_ok {α β : Type} {o : Out α} {f : α → Rho → Out β} {b : β} {ρ : Rho} (h : o.bind f = .ok b ρ) : ∃ a ρ1, o = .ok a ρ1 ∧ f a ρ1 = .ok b ρ := by
  cases o with
  | ok a ρ1 => exact ⟨a, ρ1, rfl, h⟩
  | ex e ρ1 => cases h
  | no => cases h

def isOw : Sl → Bool
  | .ow _ => true
  | .ln _ => true
  | _ => false
def isMut : HO → Bool
  | .lst _ => true
  | .dK _ => true
  | .ins _ _ _ => true
  | .dT _ => true
  | _ => false
/-- neither a tuple nor one of the tables of code objects, nor a code object -/
def notTab (u : HO) : Prop := (∀ ps, u ≠ .tbl ps) ∧ (∀ xs, u ≠ .tup xs) ∧ ∀ c q, u ≠ LamX.CodeO c q
def isDct : D → Bool
  | .dct _ => true
  | _ => false
def Ow (N : Nm) (F : Fz) (H : Hp) (a : Addr) : D → Prop
  | .lst ds => ¬ F a ∧ ∃ xs, H a = some (.lst xs) ∧ RpL N F H xs ds
  | .dic ds => ¬ F a ∧ ∃ xs, H a = some (.dK xs) ∧ RpK N F H xs ds
  | .dct ds => ¬ F a ∧ ∃ xs, H a = some (.dT xs) ∧ RpT N F H xs ds
  | .obj c ds => ¬ F a ∧ ∃ C dx xs, N.gm c = some (.ref C) ∧ H a = some (.ins C dx xs) ∧ RpF N F H xs ds
  | _ => False

/-- what the whole body has in common: the module's names, closures, tables -/
structure Gc where
  N : Nm
  clo : Fz → Hp → V → (List D → CO) → Prop
  tabs : Hp → Prop
  tb : Addr → Prop
  cloMono : ∀ {F F' : Fz} {H H' : Hp} {v : V} {f : List D → CO}, (∀ a, F a → F' a) → (∀ a, F a → H' a = H a) → clo F H v f → clo F' H' v f
  tabsUpd : ∀ {H : Hp} {p : Addr} {o : HO}, tabs H → (H p = none ∨ ∃ u, H p = some u ∧ isMut u = true) → tabs (upd H p o)
  tabsSet : ∀ {H : Hp} {p : Addr} {u o : HO}, tabs H → H p = some u → notTab u → tabs (upd H p o)
  tbAt : ∀ {H : Hp} {a : Addr}, tabs H → tb a → ∃ ps, H a = some (.tbl ps)

def SlR (G : Gc) (F : Fz) (H : Hp) (o : Option (Option V)) : Sl → Prop
  | .un => True
  | .fz d => ∃ v : V, o = some (some v) ∧ Rp G.N F H v d
  | .ow d => ∃ a : Addr, o = some (some (V.ref a)) ∧ Ow G.N F H a d
  | .ln d => ∃ a : Addr, o = some (some (V.ref a)) ∧ Ow G.N F H a d
  | .lf d => ∃ v : V, o = some (some v) ∧ Rp G.N F H v d
  | .cl f => ∃ v : V, o = some (some v) ∧ G.clo F H v f

def Own (G : Gc) (σ : L2.St) (ρ : Rho) (a : Addr) : Prop := G.tb a ∨ ∃ (i : Nat) (s : Sl), ρ[i]? = some s ∧ isOw s = true ∧ σ[i]? = some (some (V.ref a))

abbrev Lt := List (Option Addr)
structure StR (G : Gc) (L : Lt) (F : Fz) (H : Hp) (σ : L2.St) (ρ : Rho) : Prop where
  len : ρ.length = σ.length
  sl : ∀ (i : Nat) (s : Sl), ρ[i]? = some s → SlR G F H σ[i]? s
  sep : ∀ (i j : Nat) (s t : Sl) (a : Addr), i ≠ j → ρ[i]? = some s → isOw s = true → ρ[j]? = some t → isOw t = true → σ[i]? = some (some (V.ref a)) → σ[j]? = some (some (V.ref a)) → False
  lent : ∀ (i : Nat) (a : Addr), L[i]? = some (some a) → σ[i]? = some (some (V.ref a)) ∧ ∃ d : D, ρ[i]? = some (Sl.ln d) ∨ ρ[i]? = some (Sl.lf d)
  lnL : ∀ (i : Nat) (d : D), ρ[i]? = some (Sl.ln d) ∨ ρ[i]? = some (Sl.lf d) → ∃ a, L[i]? = some (some a)
  trk : ∀ a, F a → (∃ o, H a = some o) ∧ ¬ G.tb a
  tabs : G.tabs H

/-- a new thing, or a tuple, which never changes -/
def Nw (H : Hp) (a : Addr) : Prop := H a = none ∨ ∃ xs, H a = some (.tup xs)
theorem Nw.mut {H : Hp} {a : Addr} {u : HO} (n : Nw H a) (e : H a = some u) (m : isMut u = true) : False := by
  rcases n with z | ⟨xs, z⟩
  · rw [e] at z; cases z
  · rw [e] at z; cases z; cases m
structure Ext (O F : Fz) (H : Hp) (O' F' : Fz) (H' : Hp) : Prop where
  keep : ∀ a o, H a = some o → ¬ O a → H' a = some o
  mono : ∀ a, F a → F' a
  new : ∀ a, F' a → F a ∨ Nw H a ∨ O a
  sub : ∀ a, O' a → O a ∨ H a = none

theorem Ext.refl {O F : Fz} {H : Hp} : Ext O F H O F H := ⟨fun _ _ h _ => h, fun _ h => h, fun _ h => .inl h, fun _ h => .inl h⟩
theorem Ext.was {O F O1 F1 : Fz} {H H1 : Hp} (a : Ext O F H O1 F1 H1) {c : Addr} (h : H1 c = none) : O c ∨ H c = none := by
  cases e : H c with
  | none => exact .inr rfl
  | some o =>
    refine .inl (Classical.byContradiction fun n => ?_)
    have := a.keep c o e n
    rw [h] at this; cases this
theorem Ext.wasN {O F O1 F1 : Fz} {H H1 : Hp} (a : Ext O F H O1 F1 H1) {c : Addr} (h : Nw H1 c) : O c ∨ Nw H c := by
  cases e : H c with
  | none => exact .inr (.inl e)
  | some o =>
    by_cases n : O c
    · exact .inl n
    · rcases h with h | ⟨xs, h⟩
      · exact (a.was h).imp id .inl
      · have := a.keep c o e n
        rw [h] at this
        exact .inr (.inr ⟨xs, by rw [e]; exact this.symm⟩)
theorem Ext.trans {O F O1 F1 O2 F2 : Fz} {H H1 H2 : Hp} (a : Ext O F H O1 F1 H1) (b : Ext O1 F1 H1 O2 F2 H2) : Ext O F H O2 F2 H2 where
  keep := fun c o h n => b.keep c o (a.keep c o h n) fun z => (a.sub c z).elim n fun e => by rw [h] at e; cases e
  mono := fun c h => b.mono c (a.mono c h)
  new := fun c h => by
    rcases b.new c h with z | z | z
    · exact a.new c z
    · exact (a.wasN z).elim (fun q => .inr (.inr q)) fun q => .inr (.inl q)
    · exact (a.sub c z).elim (fun q => .inr (.inr q)) fun q => .inr (.inl (.inl q))
  sub := fun c h => (b.sub c h).elim (a.sub c) fun z => a.was z

section
variable {G : Gc} {L : Lt} {F F' : Fz} {H H' : Hp} {σ σ' : L2.St} {ρ ρ' : Rho} {a : Addr} {d : D}
theorem Ow.nf (h : Ow G.N F H a d) : ¬ F a := by
  cases d <;> first | exact h.1 | exact h.elim
theorem Ow.at (h : Ow G.N F H a d) : ∃ u, H a = some u ∧ isMut u = true := by
  cases d with
  | lst l => obtain ⟨_, xs, e, _⟩ := h; exact ⟨_, e, rfl⟩
  | dic l => obtain ⟨_, xs, e, _⟩ := h; exact ⟨_, e, rfl⟩
  | dct l => obtain ⟨_, xs, e, _⟩ := h; exact ⟨_, e, rfl⟩
  | obj c l => obtain ⟨_, C, dx, xs, _, e, _⟩ := h; exact ⟨_, e, rfl⟩
  | _ => exact h.elim
theorem Ow.mono (h : Ow G.N F H a d) (hF : ∀ b, F b → F' b) (hH : ∀ b, F b → H' b = H b) (n : ¬ F' a) (e : H' a = H a) : Ow G.N F' H' a d := by
  cases d with
  | lst l => obtain ⟨_, xs, q, r⟩ := h; exact ⟨n, xs, e.trans q, r.mono hF hH⟩
  | dic l => obtain ⟨_, xs, q, r⟩ := h; exact ⟨n, xs, e.trans q, r.mono hF hH⟩
  | dct l => obtain ⟨_, xs, q, r⟩ := h; exact ⟨n, xs, e.trans q, r.mono hF hH⟩
  | obj c l => obtain ⟨_, C, dx, xs, m, q, r⟩ := h; exact ⟨n, C, dx, xs, m, e.trans q, r.mono hF hH⟩
  | _ => exact h.elim
/-- an object of one's own is given away: from now on it never changes -/
theorem Ow.freeze (h : Ow G.N F H a d) (nd : isDct d = false) (hF : ∀ b, F b → F' b) (f : F' a) : Rp G.N F' H (.ref a) d := by
  cases d with
  | lst l => obtain ⟨_, xs, q, r⟩ := h; exact .lst f q (r.mono hF fun _ _ => rfl)
  | dic l => obtain ⟨_, xs, q, r⟩ := h; exact .dic f q (r.mono hF fun _ _ => rfl)
  | dct l => cases nd
  | obj c l => obtain ⟨_, C, dx, xs, m, q, r⟩ := h; exact .obj m f q (r.mono hF fun _ _ => rfl)
  | _ => exact h.elim
theorem SlR.own {s : Sl} {o : Option (Option V)} (h : SlR G F H o s) (w : isOw s = true) : ∃ (a : Addr) (d : D), o = some (some (V.ref a)) ∧ Ow G.N F H a d ∧ (s = .ow d ∨ s = .ln d) := by
  cases s with
  | ow d => obtain ⟨a, e, q⟩ := h; exact ⟨a, d, e, q, .inl rfl⟩
  | ln d => obtain ⟨a, e, q⟩ := h; exact ⟨a, d, e, q, .inr rfl⟩
  | _ => cases w
theorem StR.own (h : StR G L F H σ ρ) {i : Nat} {s : Sl} (e : ρ[i]? = some s) (w : isOw s = true) : ∃ (a : Addr) (d : D), σ[i]? = some (some (V.ref a)) ∧ Ow G.N F H a d ∧ (s = .ow d ∨ s = .ln d) := (h.sl i s e).own w
theorem StR.notOwn (h : StR G L F H σ ρ) (f : F a) : ¬ Own G σ ρ a := by
  rintro (z | ⟨i, s, e, w, q⟩)
  · exact (h.trk a f).2 z
  · obtain ⟨b, d, e2, o, _⟩ := h.own e w
    rw [q] at e2
    cases e2
    exact o.nf f
theorem StR.ownAt (h : StR G L F H σ ρ) (o : Own G σ ρ a) : ∃ u, H a = some u := by
  rcases o with z | ⟨i, s, e, w, q⟩
  · obtain ⟨ps, e⟩ := G.tbAt h.tabs z
    exact ⟨_, e⟩
  · obtain ⟨b, d, e2, o, _⟩ := h.own e w
    rw [q] at e2
    cases e2
    obtain ⟨u, e, _⟩ := o.at
    exact ⟨u, e⟩
/-- frozen things stay -/
theorem Ext.fz {O' : Fz} (x : Ext (Own G σ ρ) F H O' F' H') (h : StR G L F H σ ρ) (f : F a) : H' a = H a := by
  obtain ⟨⟨o, e⟩, _⟩ := h.trk a f
  rw [e]
  exact x.keep a o e (h.notOwn f)
theorem Ext.rp {O' : Fz} {v : V} (x : Ext (Own G σ ρ) F H O' F' H') (h : StR G L F H σ ρ) (r : Rp G.N F H v d) : Rp G.N F' H' v d := r.mono x.mono fun _ f => x.fz h f
theorem Ext.rpl {O' : Fz} {vs : List V} {ds : List D} (x : Ext (Own G σ ρ) F H O' F' H') (h : StR G L F H σ ρ) (r : RpL G.N F H vs ds) : RpL G.N F' H' vs ds := r.mono x.mono fun _ f => x.fz h f
theorem SlR.mono {s : Sl} {o : Option (Option V)} (h : SlR G F H o s) (hF : ∀ b, F b → F' b) (hH : ∀ b, F b → H' b = H b) (hO : isOw s = true → ∀ a : Addr, o = some (some (V.ref a)) → ¬ F' a ∧ H' a = H a) : SlR G F' H' o s := by
  cases s with
  | un => trivial
  | fz d => obtain ⟨v, e, r⟩ := h; exact ⟨v, e, r.mono hF hH⟩
  | ow d => obtain ⟨a, e, r⟩ := h; obtain ⟨n, q⟩ := hO rfl a e; exact ⟨a, e, r.mono hF hH n q⟩
  | ln d => obtain ⟨a, e, r⟩ := h; obtain ⟨n, q⟩ := hO rfl a e; exact ⟨a, e, r.mono hF hH n q⟩
  | lf d => obtain ⟨v, e, r⟩ := h; exact ⟨v, e, r.mono hF hH⟩
  | cl f => obtain ⟨v, e, r⟩ := h; exact ⟨v, e, G.cloMono hF hH r⟩
/-- the heap grows by a new object at p, frozen or not yet -/
theorem StR.grow {p : Addr} {o : HO} (h : StR G L F H σ ρ) (n : H p = none) (hF : ∀ a, F a → F' a) (hF' : ∀ a, F' a → F a ∨ a = p) : StR G L F' (upd H p o) σ ρ where
  len := h.len
  sl := fun i s e => (h.sl i s e).mono hF (fun b f => by
    obtain ⟨⟨u, q⟩, _⟩ := h.trk b f
    exact upd_ne (ne_of_none q n)) fun w a q => by
      obtain ⟨b, d, e2, ow, _⟩ := h.own e w
      rw [q] at e2
      cases e2
      obtain ⟨u, e3, _⟩ := ow.at
      have ne := ne_of_none e3 n
      exact ⟨fun z => (hF' a z).elim ow.nf ne, upd_ne ne⟩
  sep := h.sep
  lent := h.lent
  lnL := h.lnL
  trk := fun a f => by
    rcases hF' a f with z | z
    · obtain ⟨⟨u, q⟩, m⟩ := h.trk a z
      exact ⟨⟨u, by rw [upd_ne (ne_of_none q n)]; exact q⟩, m⟩
    · subst z
      refine ⟨⟨o, upd_same⟩, fun t => ?_⟩
      obtain ⟨ps, q⟩ := G.tbAt h.tabs t
      rw [n] at q; cases q
  tabs := G.tabsUpd h.tabs (.inl n)
theorem Ext.grow {p : Addr} {o : HO} (h : StR G L F H σ ρ) (n : H p = none) (hF : ∀ a, F a → F' a) (hF' : ∀ a, F' a → F a ∨ a = p) : Ext (Own G σ ρ) F H (Own G σ ρ) F' (upd H p o) where
  keep := fun a u e _ => by rw [upd_ne (ne_of_none e n)]; exact e
  mono := hF
  new := fun a f => (hF' a f).elim .inl fun z => .inr (.inl (.inl (z ▸ n)))
  sub := fun _ z => .inl z
/-- F with one more -/
def plus (F : Fz) (p : Addr) : Fz := fun a => F a ∨ a = p
/-- a slot whose object is given away -/
def frzSl : Sl → D → Sl
  | .ln _, d => .lf d
  | .lf _, d => .lf d
  | _, d => .fz d
theorem frzSl_ow {s : Sl} {d : D} : isOw (frzSl s d) = false := by cases s <;> rfl
theorem frzSl_rel {s : Sl} {d : D} {v : V} {o : Option (Option V)} (e : o = some (some v)) (r : Rp G.N F H v d) : SlR G F H o (frzSl s d) := by
  cases s <;> exact ⟨v, e, r⟩
/-- slot i holds an object of its own: it is given away -/
theorem StR.giveG {i : Nat} {s : Sl} (h : StR G L F H σ ρ) (e : ρ[i]? = some s) (w : isOw s = true) (q : σ[i]? = some (some (V.ref a))) (hd : s = .ow d ∨ s = .ln d)
    (hH : ∀ b, b ≠ a → H' b = H b) (ht : G.tabs H') (there : ∃ o, H' a = some o) (rp : Rp G.N (plus F a) H' (.ref a) d) :
    StR G L (plus F a) H' σ (ρ.set i (frzSl s d)) ∧ Ext (Own G σ ρ) F H (Own G σ (ρ.set i (frzSl s d))) (plus F a) H' ∧ Rp G.N (plus F a) H' (.ref a) d := by
  obtain ⟨b, d', e2, ow, hd'⟩ := h.own e w
  rw [q] at e2
  cases e2
  have ed : d' = d := by
    rcases hd with rfl | rfl <;> rcases hd' with z | z <;> cases z <;> rfl
  subst ed
  have hi : i < ρ.length := (List.getElem?_eq_some_iff.mp e).1
  have ea : Own G σ ρ a := .inr ⟨i, s, e, w, q⟩
  have at_ : ∀ (j : Nat) (t : Sl), (ρ.set i (frzSl s d'))[j]? = some t → (j = i ∧ t = frzSl s d') ∨ (j ≠ i ∧ ρ[j]? = some t) := fun j t z => by
    by_cases hj : j = i
    · subst hj
      rw [List.getElem?_set_self hi] at z
      exact .inl ⟨rfl, (Option.some.inj z).symm⟩
    · rw [List.getElem?_set_ne (Ne.symm hj)] at z
      exact .inr ⟨hj, z⟩
  have sub : ∀ b, Own G σ (ρ.set i (frzSl s d')) b → Own G σ ρ b ∧ b ≠ a := fun b z => by
    rcases z with z | ⟨j, t, z, wt, qt⟩
    · refine ⟨.inl z, fun y => ?_⟩
      subst y
      obtain ⟨ps, y⟩ := G.tbAt h.tabs z
      obtain ⟨u, y2, m⟩ := ow.at
      rw [y] at y2
      cases y2
      cases m
    · rcases at_ j t z with ⟨rfl, rfl⟩ | ⟨hj, z⟩
      · rw [frzSl_ow] at wt; cases wt
      · refine ⟨.inr ⟨j, t, z, wt, qt⟩, fun y => ?_⟩
        subst y
        exact h.sep j i t s _ hj z wt e w qt q
  refine ⟨⟨?_, ?_, ?_, ?_, ?_, ?_, ht⟩, ⟨fun b o z n => (hH b (fun y => n (y ▸ ea))).trans z, fun _ z => .inl z, fun b z => z.elim .inl fun y => .inr (.inr (y ▸ .inr ⟨i, s, e, w, q⟩)), fun b z => .inl (sub b z).1⟩, rp⟩
  · rw [List.length_set]; exact h.len
  · intro j t z
    rcases at_ j t z with ⟨rfl, rfl⟩ | ⟨hj, z⟩
    · exact frzSl_rel q rp
    · refine (h.sl j t z).mono (fun _ f => .inl f) (fun b f => hH b fun y => ow.nf (y ▸ f)) fun wt b qb => ?_
      obtain ⟨c, dd, e3, ow3, _⟩ := h.own z wt
      rw [qb] at e3
      cases e3
      have nb : b ≠ a := by
        rintro rfl
        exact h.sep j i t s _ hj z wt e w qb q
      exact ⟨fun f => f.elim ow3.nf nb, hH b nb⟩
  · intro j k t u b hjk z wt z2 wu q1 q2
    rcases at_ j t z with ⟨rfl, rfl⟩ | ⟨hj, z⟩
    · rw [frzSl_ow] at wt; cases wt
    · rcases at_ k u z2 with ⟨rfl, rfl⟩ | ⟨hk, z2⟩
      · rw [frzSl_ow] at wu; cases wu
      · exact h.sep j k t u b hjk z wt z2 wu q1 q2
  · intro j b z
    obtain ⟨h1, dd, h2⟩ := h.lent j b z
    refine ⟨h1, ?_⟩
    by_cases hj : j = i
    · subst hj
      refine ⟨d', .inr ?_⟩
      rw [List.getElem?_set_self hi]
      rw [e] at h2
      rcases h2 with h2 | h2
      · cases h2; rfl
      · cases h2; rfl
    · exact ⟨dd, by rw [List.getElem?_set_ne (Ne.symm hj)]; exact h2⟩
  · intro j dd z
    have lnl : ∀ t : Sl, (t = .ln dd ∨ t = .lf dd) → (ρ.set i (frzSl s d'))[j]? = some t → ∃ a, L[j]? = some (some a) := fun t ht z => by
      rcases at_ j t z with ⟨rfl, y⟩ | ⟨hj, z⟩
      · rcases hd with rfl | rfl
        · rcases ht with rfl | rfl <;> cases y
        · exact h.lnL j d' (.inl e)
      · rcases ht with rfl | rfl
        · exact h.lnL j dd (.inl z)
        · exact h.lnL j dd (.inr z)
    rcases z with z | z
    · exact lnl _ (.inl rfl) z
    · exact lnl _ (.inr rfl) z
  · rintro b (f | rfl)
    · obtain ⟨⟨o, z⟩, n⟩ := h.trk b f
      exact ⟨⟨o, (hH b fun y => ow.nf (y ▸ f)).trans z⟩, n⟩
    · obtain ⟨u, y2, m⟩ := ow.at
      refine ⟨there, fun z => ?_⟩
      obtain ⟨ps, y⟩ := G.tbAt h.tabs z
      rw [y] at y2
      cases y2
      cases m
theorem StR.give {i : Nat} {s : Sl} (h : StR G L F H σ ρ) (e : ρ[i]? = some s) (w : isOw s = true) (q : σ[i]? = some (some (V.ref a))) (hd : s = .ow d ∨ s = .ln d) (nd : isDct d = false) :
    StR G L (plus F a) H σ (ρ.set i (frzSl s d)) ∧ Ext (Own G σ ρ) F H (Own G σ (ρ.set i (frzSl s d))) (plus F a) H ∧ Rp G.N (plus F a) H (.ref a) d := by
  obtain ⟨b, d', e2, ow, hd'⟩ := h.own e w
  rw [q] at e2
  cases e2
  have ed : d' = d := by
    rcases hd with rfl | rfl <;> rcases hd' with z | z <;> cases z <;> rfl
  subst ed
  obtain ⟨u, e3, _⟩ := ow.at
  exact h.giveG e w q hd (fun _ _ => rfl) h.tabs ⟨u, e3⟩ (ow.freeze nd (fun _ z => .inl z) (.inr rfl))
/-- a dict with tuple keys is locked as it is given away -/
theorem StR.giveT {i : Nat} {s : Sl} {l : List (List Key × D)} {od : Obj} {xs : List (List Key × V)} (h : StR G L F H σ ρ) (e : ρ[i]? = some s) (w : isOw s = true) (q : σ[i]? = some (some (V.ref a))) (hd : s = .ow (.dct l) ∨ s = .ln (.dct l)) (hx : H a = some (.dT xs)) (rl : RpT G.N F H xs l) (nf : ¬ F a) :
    StR G L (plus F a) (upd H a (.frz od (.dT xs))) σ (ρ.set i (frzSl s (.dct l))) ∧ Ext (Own G σ ρ) F H (Own G σ (ρ.set i (frzSl s (.dct l)))) (plus F a) (upd H a (.frz od (.dT xs))) ∧ Rp G.N (plus F a) (upd H a (.frz od (.dT xs))) (.ref a) (.dct l) :=
  h.giveG e w q hd (fun _ n => upd_ne n) (G.tabsUpd h.tabs (.inr ⟨_, hx, rfl⟩)) ⟨_, upd_same⟩ (.dct (.inr rfl) upd_same (rl.mono (fun _ z => .inl z) fun b f => upd_ne (fun (y : b = a) => nf (y ▸ f))))
end
end Ev

/-! EvB: the judgements; names, constants, operators, displays. -/
namespace Ev
open PySem PySem.Spec PyProof.Rows L2

structure Cf where
  σ : L2.St
  ρ : Rho
  F : Fz
  H : Hp
abbrev Cf.own (G : Gc) (c : Cf) : Fz := Own G c.σ c.ρ
abbrev Ok (G : Gc) (L : Lt) (c : Cf) : Prop := StR G L c.F c.H c.σ c.ρ
abbrev Ex (G : Gc) (c c' : Cf) : Prop := Ext (c.own G) c.F c.H (c'.own G) c'.F c'.H
def XR (G : Gc) (F : Fz) (H : Hp) (cls : Value) (dd : Option Addr) : D → Prop
  | .exc x fs => ∃ C a xs, G.N.gm x = some (.ref C) ∧ cls = .ref C ∧ dd = some a ∧ F a ∧ H a = some (.xd xs) ∧ RpF G.N F H xs fs
  | _ => False
def Req {α : Type} (G : Gc) (L : Lt) (W : WX) (c : Cf) (o : Out α) (P : α → Cf → Prop) : Prop := match o with
  | .ok r ρ' => ∀ F' H', Ex G c ⟨c.σ, ρ', F', H'⟩ → Ok G L ⟨c.σ, ρ', F', H'⟩ → P r ⟨c.σ, ρ', F', H'⟩
  | .ex d ρ' => ∀ F' H', Ex G c ⟨c.σ, ρ', F', H'⟩ → Ok G L ⟨c.σ, ρ', F', H'⟩ → ∀ cls dd, XR G F' H' cls dd d → W cls dd c.σ H'
  | .no => False
def VR (G : Gc) (c0 c : Cf) (v : V) : Vl → Prop
  | .fz d => Rp G.N c.F c.H v d
  | .nw d => ∃ a, v = .ref a ∧ Ow G.N c.F c.H a d ∧ ¬ c.own G a ∧ (c0.H a = none ∨ c0.own G a)
section
variable {G : Gc} {L : Lt} {W : WX} {c c0 c1 : Cf} {α β : Type}
theorem Req.shift {o : Out α} {P : α → Cf → Prop} (h : Req G L W c o P) (x : Ex G c c1) (e : c1.σ = c.σ) : Req G L W c1 o P := by
  obtain ⟨σ, ρ, F, H⟩ := c
  obtain ⟨σ1, ρ1, F1, H1⟩ := c1
  cases e
  cases o with
  | ok r ρ' => exact fun F' H' y s => h F' H' (x.trans y) s
  | ex d ρ' => exact fun F' H' y s => h F' H' (x.trans y) s
  | no => exact h
theorem Req.imp {o : Out α} {P P' : α → Cf → Prop} (h : Req G L W c o P) (f : ∀ r c', o = .ok r c'.ρ → c'.σ = c.σ → Ex G c c' → Ok G L c' → P r c' → P' r c') : Req G L W c o P' := by
  cases o with
  | ok r ρ' => exact fun F' H' y s => f r _ rfl rfl y s (h F' H' y s)
  | ex d ρ' => exact h
  | no => exact h
theorem Req.bind {o : Out α} {f : α → Rho → Out β} {P : β → Cf → Prop} (h : Req G L W c (o.bind f) P) : Req G L W c o (fun a c1 => Req G L W c1 (f a c1.ρ) P) := by
  cases o with
  | ok r ρ' => exact fun F' H' y s => Req.shift (c1 := ⟨c.σ, ρ', F', H'⟩) h y rfl
  | ex d ρ' => exact h
  | no => exact h
theorem Req.here {r : α} {P : α → Cf → Prop} (h : Req G L W c (.ok r c.ρ) P) (s : Ok G L c) : P r c := h c.F c.H Ext.refl s
theorem Ex.pre {a : Addr} (x : Ex G c0 c) (h : c.H a = none ∨ c.own G a) : c0.H a = none ∨ c0.own G a := by
  rcases h with h | h
  · exact (x.was h).symm
  · exact (x.sub a h).symm
end

structure SE (X : Cx) (W : WX) (G : Gc) (L : Lt) (e : Expr) (m : M Vl) : Prop where
  ex : ∃ t : TE, PE X e t ∧ ∀ (c : Cf) (Q : VK), Ok G L c → Req G L W c (m c.ρ) (fun r c' => ∀ v, VR G c c' v r → Q v c'.H) → t c.σ c.H Q
structure SD (X : Cx) (W : WX) (G : Gc) (L : Lt) (e : Expr) (m : M D) : Prop where
  ex : ∃ t : TE, PE X e t ∧ ∀ (c : Cf) (Q : VK), Ok G L c → Req G L W c (m c.ρ) (fun d c' => ∀ v, Rp G.N c'.F c'.H v d → Q v c'.H) → t c.σ c.H Q
structure ST (X : Cx) (W : WX) (G : Gc) (L : Lt) (e : Expr) (m : M Bool) : Prop where
  ex : ∃ t : TT, PT X e t ∧ ∀ (c : Cf) (Q : Bool → Hp → Prop), Ok G L c → Req G L W c (m c.ρ) (fun b c' => Q b c'.H) → t c.σ c.H Q
structure SW (X : Cx) (W : WX) (G : Gc) (L : Lt) (e : Expr) (m : M Bool) : Prop where
  ex : ∃ t : TT, PW X e t ∧ ∀ (c : Cf) (Q : Bool → Hp → Prop), Ok G L c → Req G L W c (m c.ρ) (fun b c' => Q b c'.H) → t c.σ c.H Q
structure SA (X : Cx) (W : WX) (G : Gc) (L : Lt) (es : List Expr) (m : M (List D)) : Prop where
  ex : ∃ t : TA, PA X es t ∧ ∀ (c : Cf) (Q : List V → Hp → Prop), Ok G L c → Req G L W c (m c.ρ) (fun ds c' => ∀ vs, RpL G.N c'.F c'.H vs ds → Q vs c'.H) → t c.σ c.H Q

def liftO {α : Type} (o : Option α) : M α := fun ρ => match o with
  | some a => .ok a ρ
  | none => .no
@[inline] def M.bind {α β : Type} (m : M α) (f : α → M β) : M β := fun ρ => (m ρ).bind f
def mpure {α : Type} (a : α) : M α := fun ρ => .ok a ρ
/-- a value, frozen from now on -/
def toD (m : M Vl) : M D := m.bind fun r => mpure r.d
def toV (m : M D) : M Vl := m.bind fun d => mpure (.fz d)

section
variable {X : Cx} {W : WX} {G : Gc} {L : Lt} {e a b : Expr} {pos : Pos} {c c0 c1 : Cf}

/-- a new object of no slot is frozen -/
theorem Ok.frzG {p : Addr} {d : D} {H' : Hp} (s : Ok G L c) (o : Ow G.N c.F c.H p d) (n : ¬ c.own G p) (hH : ∀ b, b ≠ p → H' b = c.H b) (ht : G.tabs H') (there : ∃ o, H' p = some o) : Ok G L ⟨c.σ, c.ρ, plus c.F p, H'⟩ := by
  refine ⟨s.len, fun i t e => ?_, s.sep, s.lent, s.lnL, fun q f => ?_, ht⟩
  · refine (s.sl i t e).mono (fun _ f => .inl f) (fun b f => hH b fun y => o.nf (y ▸ f)) fun w q z => ?_
    have nq : q ≠ p := by
      rintro rfl
      exact n (.inr ⟨i, t, e, w, z⟩)
    exact ⟨fun f => f.elim (fun f => s.notOwn f (.inr ⟨i, t, e, w, z⟩)) nq, hH q nq⟩
  · rcases f with f | rfl
    · obtain ⟨⟨u, z⟩, m⟩ := s.trk q f
      exact ⟨⟨u, (hH q fun y => o.nf (y ▸ f)).trans z⟩, m⟩
    · exact ⟨there, fun t => n (.inl t)⟩
theorem Ex.frzG {p : Addr} {H' : Hp} (x : Ex G c0 c) (pre : c0.H p = none ∨ c0.own G p) (hH : ∀ b, b ≠ p → H' b = c.H b) : Ex G c0 ⟨c.σ, c.ρ, plus c.F p, H'⟩ :=
  ⟨fun b o e n => (hH b fun y => by
    subst y
    rcases pre with z | z
    · rw [e] at z; cases z
    · exact n z).trans (x.keep b o e n), fun b z => .inl (x.mono b z), fun b z => z.elim (x.new b) fun e => by subst e; exact .inr (pre.imp .inl id), x.sub⟩
/-- a value that comes, locked if it is a dict with tuple keys -/
def LkQ (Q : VK) : VK := fun v H => Q v H ∨ ∃ a kvs, v = .ref a ∧ H a = some (.dT kvs) ∧ ∀ od, Q v (upd H a (.frz od (.dT kvs)))
def tLkR (t : TE) : TE := fun σ H Q => t σ H (LkQ Q)
theorem pe_lkR {t : TE} (h : PE X e t) : PE X e (tLkR t) := by
  refine ⟨fun pins s σ H Q I hw => ?_⟩
  refine thn (h.run pins s σ H _ I hw) fun v s1 ⟨x, H1, I1, r, q⟩ => ?_
  rcases q with q | ⟨a, kvs, ex, ea, q⟩
  · exact ⟨x, H1, I1, r, q⟩
  · subst ex
    obtain ⟨od, I2⟩ := I1.lock ea trivial
    exact ⟨_, _, I2, r, q od⟩
theorem Ok.frz {p : Addr} {d : D} (s : Ok G L c) (o : Ow G.N c.F c.H p d) (n : ¬ c.own G p) : Ok G L ⟨c.σ, c.ρ, plus c.F p, c.H⟩ := by
  refine ⟨s.len, fun i t e => ?_, s.sep, s.lent, s.lnL, fun q f => ?_, s.tabs⟩
  · refine (s.sl i t e).mono (fun _ f => .inl f) (fun _ _ => rfl) fun w q z => ⟨fun f => ?_, rfl⟩
    rcases f with f | rfl
    · exact s.notOwn f (.inr ⟨i, t, e, w, z⟩)
    · exact n (.inr ⟨i, t, e, w, z⟩)
  · rcases f with f | rfl
    · exact s.trk q f
    · obtain ⟨u, e, _⟩ := o.at
      exact ⟨⟨u, e⟩, fun t => n (.inl t)⟩
theorem Ex.frz {p : Addr} (x : Ex G c0 c) (pre : c0.H p = none ∨ c0.own G p) : Ex G c0 ⟨c.σ, c.ρ, plus c.F p, c.H⟩ :=
  ⟨x.keep, fun b z => .inl (x.mono b z), fun b z => z.elim (x.new b) fun e => by subst e; exact .inr (pre.imp .inl id), x.sub⟩
theorem SE.toD {m : M Vl} (h : SE X W G L e m) : SD X W G L e (toD m) := by
  obtain ⟨t, p, q⟩ := h.ex
  refine ⟨tLkR t, pe_lkR p, fun c Q s r => q c (LkQ Q) s ?_⟩
  have r : Req G L W c ((m c.ρ).bind fun r ρ => .ok r.d ρ) _ := r
  cases em : m c.ρ with
  | no => rw [em] at r; exact r
  | ex d ρ => rw [em] at r; exact r
  | ok v ρ1 =>
    rw [em] at r
    intro F1 H1 x s1 y vr
    cases v with
    | fz d => exact .inl (r F1 H1 x s1 y vr)
    | nw d =>
      obtain ⟨p, rfl, ow, no, pre⟩ := vr
      by_cases nd : isDct d = true
      · cases d with
        | dct l =>
          obtain ⟨nf, xs, ex, rl⟩ := ow
          have ow : Ow G.N F1 H1 p (.dct l) := ⟨nf, xs, ex, rl⟩
          refine .inr ⟨p, xs, rfl, ex, fun od => ?_⟩
          exact r (plus F1 p) _ (Ex.frzG x pre fun _ n => upd_ne n) (Ok.frzG s1 ow no (fun _ n => upd_ne n) (G.tabsUpd s1.tabs (.inr ⟨_, ex, rfl⟩)) ⟨_, upd_same⟩) _
            (.dct (.inr rfl) upd_same (rl.mono (fun _ z => .inl z) fun b f => upd_ne (fun (y : b = p) => nf (y ▸ f))))
        | _ => cases nd
      · exact .inl (r (plus F1 p) H1 (Ex.frz x pre) (Ok.frz s1 ow no) _ (ow.freeze (by simpa using nd) (fun _ z => .inl z) (.inr rfl)))
theorem SD.toE {m : M D} (h : SD X W G L e m) : SE X W G L e (toV m) := by
  obtain ⟨t, p, q⟩ := h.ex
  refine ⟨t, p, fun c Q s r => q c Q s ((Req.bind r).imp fun d c1 eo es x s1 r1 y rp => ?_)⟩
  exact Req.here (r := Vl.fz d) r1 s1 y rp
/-! ### names, constants -/
def evVar (i : Nat) : M D := fun ρ => match ρ[i]? with
  | some (.fz d) => .ok d ρ
  | some (.ow d) => .ok d (ρ.set i (.fz d))
  | some (.ln d) => .ok d (ρ.set i (.lf d))
  | some (.lf d) => .ok d ρ
  | _ => .no
theorem SD.var (i : Nat) {x : Str} (hN : X.N[i]? = some x) (hv : Vis X.env.scope x) (hd : (x == ("__debug__" : Str)) = false := by decide) (hcd : (x == ("__classdict__" : Str)) = false := by decide) : SD X W G L (.Name x pos) (evVar i) := by
  refine ⟨tLkR (tVar i), pe_lkR (pe_var hN hv hd hcd), fun c Q s r => ?_⟩
  unfold evVar at r
  cases e : c.ρ[i]? with
  | none => rw [e] at r; exact r.elim
  | some t =>
    rw [e] at r
    cases t with
    | un => exact r.elim
    | cl f => exact r.elim
    | fz d =>
      obtain ⟨v, h1, h2⟩ := s.sl i _ e
      exact ⟨v, h1, .inl (r _ _ Ext.refl s _ h2)⟩
    | lf d =>
      obtain ⟨v, h1, h2⟩ := s.sl i _ e
      exact ⟨v, h1, .inl (r _ _ Ext.refl s _ h2)⟩
    | ow d =>
      obtain ⟨a, h1, h2⟩ := s.sl i _ e
      by_cases nd : isDct d = true
      · cases d with
        | dct l =>
          obtain ⟨nf, xs, ex, rl⟩ := h2
          refine ⟨.ref a, h1, .inr ⟨a, xs, rfl, ex, fun od => ?_⟩⟩
          obtain ⟨z1, z2, z3⟩ := StR.giveT (od := od) s e rfl h1 (.inl rfl) ex rl nf
          exact r _ _ z2 z1 _ z3
        | _ => cases nd
      · obtain ⟨z1, z2, z3⟩ := StR.give s e rfl h1 (.inl rfl) (by simpa using nd)
        exact ⟨.ref a, h1, .inl (r _ _ z2 z1 _ z3)⟩
    | ln d =>
      obtain ⟨a, h1, h2⟩ := s.sl i _ e
      by_cases nd : isDct d = true
      · cases d with
        | dct l =>
          obtain ⟨nf, xs, ex, rl⟩ := h2
          refine ⟨.ref a, h1, .inr ⟨a, xs, rfl, ex, fun od => ?_⟩⟩
          obtain ⟨z1, z2, z3⟩ := StR.giveT (od := od) s e rfl h1 (.inr rfl) ex rl nf
          exact r _ _ z2 z1 _ z3
        | _ => cases nd
      · obtain ⟨z1, z2, z3⟩ := StR.give s e rfl h1 (.inr rfl) (by simpa using nd)
        exact ⟨.ref a, h1, .inl (r _ _ z2 z1 _ z3)⟩
theorem SD.int {i : Int} {j} : SD X W G L (.Constant (.int i) j pos) (mpure (.int i)) := ⟨_, pe_int, fun c Q s r => r _ _ Ext.refl s _ (.int i)⟩
theorem SD.bl {i : Bool} {j} : SD X W G L (.Constant (.bool i) j pos) (mpure (.bl i)) := ⟨_, pe_bl, fun c Q s r => r _ _ Ext.refl s _ (.bl i)⟩
theorem SD.non {j} : SD X W G L (.Constant .none j pos) (mpure .non) := ⟨_, pe_non, fun c Q s r => r _ _ Ext.refl s _ .non⟩
theorem SD.str {i : Str} {j} : SD X W G L (.Constant (.str i) j pos) (mpure (.str i)) := ⟨_, pe_str, fun c Q s r => r _ _ Ext.refl s _ (.str i)⟩
theorem SD.glob {x : Str} {n : Nat} {f : Addr} (hg : Gl X x) (eg : G.N.gm n = X.mg x) (hm : X.mg x = some (.ref f)) (hd : (x == ("__debug__" : Str)) = false := by decide) : SD X W G L (.Name x pos) (mpure (.gl n)) :=
  ⟨_, pe_glob (v := .ref f) hg hm rfl hd, fun c Q s r => r _ _ Ext.refl s _ (.gl (by rw [eg]; exact hm))⟩
theorem SD.bltn {x : Str} {n : Ty} (hg : Gl X x) (hm : X.mg x = none) (hv : bootBuiltins x = some (.type n.nm)) (hn : x ≠ "__name__" := by decide) (hd : (x == ("__debug__" : Str)) = false := by decide) : SD X W G L (.Name x pos) (mpure (.ty n)) :=
  ⟨_, pe_bltn (v := .ty n.nm) hg hm hv rfl hn hd, fun c Q s r => r _ _ Ext.refl s _ (.ty n)⟩
/-- a module's constant -/
theorem SD.globI {x : Str} {i : Int} {t : Tok} (hg : Gl X x) (hm : X.mg x = some (.int i t)) (hd : (x == ("__debug__" : Str)) = false := by decide) : SD X W G L (.Name x pos) (mpure (.int i)) :=
  ⟨_, pe_glob (v := .int i) hg hm ⟨t, rfl⟩ hd, fun c Q s r => r _ _ Ext.refl s _ (.int i)⟩

/-! ### two operands -/
/-- what an operator's rule gives for data -/
def BinOk (X : Cx) (W : WX) (G : Gc) (L : Lt) (r : R2) (f : D → D → Option Vl) : Prop := ∀ (c0 c : Cf) (x y : D) (v u : V) (Q : VK), c.σ = c0.σ → Ex G c0 c → Ok G L c → Rp G.N c.F c.H v x → Rp G.N c.F c.H u y →
  Req G L W c (liftO (f x y) c.ρ) (fun r c' => ∀ v, VR G c0 c' v r → Q v c'.H) → r v u c.H Q
def ev2 (f : D → D → Option Vl) (ma mb : M D) : M Vl := ma.bind fun x => mb.bind fun y => liftO (f x y)
theorem SE.two {ma mb : M D} {f : D → D → Option Vl} {r : R2} (hf : BinOk X W G L r f) (ha : SD X W G L a ma) (hb : SD X W G L b mb) (mk : ∀ {ta tb : TE}, PE X a ta → PE X b tb → PE X e (tOp r ta tb)) : SE X W G L e (ev2 f ma mb) := by
  obtain ⟨ta, pa, qa⟩ := ha.ex
  obtain ⟨tb, pb, qb⟩ := hb.ex
  refine ⟨tOp r ta tb, mk pa pb, fun c Q s h => ?_⟩
  refine qa c _ s ((Req.bind h).imp fun x c1 _ e1 x1 s1 h1 v rv => ?_)
  have h1' := h1
  show tb c.σ c1.H _
  rw [← e1]
  refine qb c1 _ s1 ((Req.bind h1).imp fun y c2 _ e2 x2 s2 h2 u ru => ?_)
  exact hf c c2 x y v u Q (e2.trans e1) (x1.trans x2) s2 (x2.rp s1 rv) ru h2
theorem SE.bin {op : Operator} {ma mb : M D} {f : D → D → Option Vl} {r : R2} (ho : OpR X (binaryOp op) r) (hf : BinOk X W G L r f) (ha : SD X W G L a ma) (hb : SD X W G L b mb) : SE X W G L (.BinOp a op b pos) (ev2 f ma mb) :=
  SE.two hf ha hb fun pa pb => pe_op ho pa pb
theorem SE.cmp {op : CmpOp} {ma mb : M D} {f : D → D → Option Vl} {r : R2} (ho : OpR X (compareOp op) r) (hf : BinOk X W G L r f) (ha : SD X W G L a ma) (hb : SD X W G L b mb) (hm : behindInMarks op b = false) : SE X W G L (.Compare a [op] [b] pos) (ev2 f ma mb) :=
  SE.two hf ha hb fun pa pb => pe_cmpR ho pa pb hm
def vBool (r : Option Vl) : Option Bool := match r with
  | some (.fz (.bl b)) => some b
  | _ => none
def ev2T (f : D → D → Option Vl) (ma mb : M D) : M Bool := ma.bind fun x => mb.bind fun y => liftO (vBool (f x y))
theorem ST.cmp {op : CmpOp} {ma mb : M D} {f : D → D → Option Vl} {r : R2} (ho : OpR X (compareOp op) r) (hf : BinOk X W G L r f) (ha : SD X W G L a ma) (hb : SD X W G L b mb) (hm : behindInMarks op b = false) : ST X W G L (.Compare a [op] [b] pos) (ev2T f ma mb) := by
  obtain ⟨ta, pa, qa⟩ := ha.ex
  obtain ⟨tb, pb, qb⟩ := hb.ex
  refine ⟨tTest (tOp r ta tb), pt_cmpR ho pa pb hm, fun c Q s h => ?_⟩
  refine qa c _ s ((Req.bind h).imp fun x c1 _ e1 x1 s1 h1 v rv => ?_)
  show tb c.σ c1.H _
  rw [← e1]
  refine qb c1 _ s1 ((Req.bind h1).imp fun y c2 _ e2 x2 s2 h2 u ru => ?_)
  refine hf c2 c2 x y v u _ rfl Ext.refl s2 (x2.rp s1 rv) ru ?_
  have h2 : Req G L W c2 (liftO (vBool (f x y)) c2.ρ) _ := h2
  cases ef : f x y with
  | none => rw [ef] at h2; exact h2.elim
  | some r =>
    rw [ef] at h2
    cases r with
    | nw d => exact h2.elim
    | fz d =>
      cases d with
      | bl k =>
        intro F' H' x3 s3 v rv
        cases rv
        exact ⟨k, rfl, h2 F' H' x3 s3⟩
      | _ => exact h2.elim
/-- one operand -/
def UnOk (X : Cx) (W : WX) (G : Gc) (L : Lt) (r : V → Hp → VK → Prop) (f : D → Option Vl) : Prop := ∀ (c0 c : Cf) (x : D) (v : V) (Q : VK), c.σ = c0.σ → Ex G c0 c → Ok G L c → Rp G.N c.F c.H v x →
  Req G L W c (liftO (f x) c.ρ) (fun r c' => ∀ v, VR G c0 c' v r → Q v c'.H) → r v c.H Q
def ev1 (f : D → Option Vl) (ma : M D) : M Vl := ma.bind fun x => liftO (f x)
theorem SE.un {op : UnaryOp} {ma : M D} {f : D → Option Vl} {r : V → Hp → VK → Prop} (ho : UnR X (unaryOp op) r) (hf : UnOk X W G L r f) (ha : SD X W G L a ma) : SE X W G L (.UnaryOp op a pos) (ev1 f ma) := by
  obtain ⟨ta, pa, qa⟩ := ha.ex
  refine ⟨tUn r ta, pe_un ho pa, fun c Q s h => ?_⟩
  refine qa c _ s ((Req.bind h).imp fun x c1 _ e1 x1 s1 h1 v rv => ?_)
  exact hf c c1 x v Q e1 x1 s1 rv h1

/-! ### numbers -/
def mulOk (i j : Int) : Bool := decide ((Builtin.Int.intBits i : Int) + (Builtin.Int.intBits j : Int) ≤ 134217728)
def divOk (j : Int) : Bool := decide (j ≠ 0) && decide (j.natAbs.log2 < 9000)
def powOk (i j : Int) : Bool := decide (0 ≤ j) && decide (j ≤ 1000000) && decide (i.natAbs < 2 ^ 64)
def i2 (f : Int → Int → Option D) : D → D → Option Vl
  | .int i, .int j => (f i j).map .fz
  | _, _ => none
theorem i2_ok {f : Int → Int → Option D} {C : Int → Int → Prop} {g : Int → Int → V} (h : ∀ i j d, f i j = some d → C i j ∧ ∀ mg F H, Rp mg F H (g i j) d) : BinOk X W G L (rI C g) (i2 f) := by
  intro c0 c x y v u Q _ ex s rx ry hr
  cases x with
  | int i =>
    cases y with
    | int j =>
      cases rx
      cases ry
      have hr : Req G L W c (liftO ((f i j).map Vl.fz) c.ρ) _ := hr
      cases e : f i j with
      | none => rw [e] at hr; exact hr.elim
      | some d =>
        rw [e] at hr
        obtain ⟨h1, h2⟩ := h i j d e
        exact ⟨i, j, rfl, rfl, h1, Req.here hr s _ (h2 _ _ _)⟩
    | _ => exact hr.elim
  | _ => exact hr.elim
theorem i2_ok0 {f : Int → Int → D} {g : Int → Int → V} (h : ∀ i j mg F H, Rp mg F H (g i j) (f i j)) : BinOk X W G L (rI0 g) (i2 fun i j => some (f i j)) := by
  intro c0 c x y v u Q _ ex s rx ry hr
  cases x with
  | int i =>
    cases y with
    | int j =>
      cases rx
      cases ry
      exact ⟨i, j, rfl, rfl, Req.here (r := Vl.fz (f i j)) hr s _ (h i j _ _ _)⟩
    | _ => exact hr.elim
  | _ => exact hr.elim
def fMul (i j : Int) : Option D := if mulOk i j then some (.int (i * j)) else none
def fDiv (i j : Int) : Option D := if divOk j then some (.int (i.fdiv j)) else none
def fMod (i j : Int) : Option D := if j = 0 then none else some (.int (i.fmod j))
def fPow (i j : Int) : Option D := if powOk i j then some (.int (i ^ j.toNat)) else none
def fShr (i j : Int) : Option D := if 0 ≤ j then some (.int (i / 2 ^ j.toNat)) else none
def fShl (i j : Int) : Option D := if powOk i j then some (.int (i * 2 ^ j.toNat)) else none
theorem op_fdivG : OpR X (binaryOp .FloorDiv) (rI (fun _ j => divOk j = true) fun i j => .int (i.fdiv j)) := opI fun i j _ _ _ _ _ hc q => by
  have hc : (decide (j ≠ 0) && decide (j.natAbs.log2 < 9000)) = true := hc
  rw [Bool.and_eq_true] at hc
  exact floordiv_int (of_decide_eq_true hc.1) q (.inl (PyProof.noPylong_of_log2 (of_decide_eq_true hc.2)))
theorem SE.sub {ma mb : M D} (ha : SD X W G L a ma) (hb : SD X W G L b mb) : SE X W G L (.BinOp a .Sub b pos) (ev2 (i2 fun i j => some (.int (i - j))) ma mb) := SE.bin op_sub (i2_ok0 fun i j _ _ _ => .int _) ha hb
theorem SE.mulI {ma mb : M D} (ha : SD X W G L a ma) (hb : SD X W G L b mb) : SE X W G L (.BinOp a .Mult b pos) (ev2 (i2 fMul) ma mb) := SE.bin op_mulX (i2_ok fun i j d h => by
  unfold fMul at h
  split at h
  · rename_i q
    cases h
    exact ⟨of_decide_eq_true (p := (Builtin.Int.intBits i : Int) + (Builtin.Int.intBits j : Int) ≤ 134217728) q, fun _ _ _ => .int _⟩
  · cases h) ha hb
theorem SE.fdiv {ma mb : M D} (ha : SD X W G L a ma) (hb : SD X W G L b mb) : SE X W G L (.BinOp a .FloorDiv b pos) (ev2 (i2 fDiv) ma mb) := SE.bin op_fdivG (i2_ok fun i j d h => by
  unfold fDiv at h
  split at h
  · rename_i q
    cases h
    exact ⟨q, fun _ _ _ => .int _⟩
  · cases h) ha hb
theorem SE.mod {ma mb : M D} (ha : SD X W G L a ma) (hb : SD X W G L b mb) : SE X W G L (.BinOp a .Mod b pos) (ev2 (i2 fMod) ma mb) := SE.bin op_modN (i2_ok fun i j d h => by
  unfold fMod at h
  split at h
  · cases h
  · rename_i q
    cases h
    exact ⟨q, fun _ _ _ => .int _⟩) ha hb
theorem powOk_c {i j : Int} (h : powOk i j = true) : CPow i j := by
  unfold powOk at h
  rw [Bool.and_eq_true, Bool.and_eq_true] at h
  exact ⟨of_decide_eq_true h.1.1, of_decide_eq_true h.1.2, of_decide_eq_true h.2⟩
theorem SE.pow {ma mb : M D} (ha : SD X W G L a ma) (hb : SD X W G L b mb) : SE X W G L (.BinOp a .Pow b pos) (ev2 (i2 fPow) ma mb) := SE.bin op_pow (i2_ok fun i j d h => by
  unfold fPow at h
  split at h
  · rename_i q
    cases h
    exact ⟨powOk_c q, fun _ _ _ => .int _⟩
  · cases h) ha hb
theorem SE.shl {ma mb : M D} (ha : SD X W G L a ma) (hb : SD X W G L b mb) : SE X W G L (.BinOp a .LShift b pos) (ev2 (i2 fShl) ma mb) := SE.bin op_shl (i2_ok fun i j d h => by
  unfold fShl at h
  split at h
  · rename_i q
    cases h
    exact ⟨powOk_c q, fun _ _ _ => .int _⟩
  · cases h) ha hb
theorem SE.shr {ma mb : M D} (ha : SD X W G L a ma) (hb : SD X W G L b mb) : SE X W G L (.BinOp a .RShift b pos) (ev2 (i2 fShr) ma mb) := SE.bin op_shr (i2_ok fun i j d h => by
  unfold fShr at h
  split at h
  · rename_i q
    cases h
    exact ⟨q, fun _ _ _ => .int _⟩
  · cases h) ha hb
theorem SE.band {ma mb : M D} (ha : SD X W G L a ma) (hb : SD X W G L b mb) : SE X W G L (.BinOp a .BitAnd b pos) (ev2 (i2 fun i j => some (.int (Builtin.bitAnd i j))) ma mb) := SE.bin op_and (i2_ok0 fun i j _ _ _ => .int _) ha hb
def u1 (f : Int → D) : D → Option Vl
  | .int i => some (.fz (f i))
  | _ => none
theorem u1_ok {f : Int → D} {g : Int → V} (h : ∀ i mg F H, Rp mg F H (g i) (f i)) : UnOk X W G L (rU g) (u1 f) := by
  intro c0 c x v Q _ ex s rx hr
  cases x with
  | int i => cases rx; exact ⟨i, rfl, Req.here (r := Vl.fz (f i)) hr s _ (h i _ _ _)⟩
  | _ => exact hr.elim
theorem SE.neg {ma : M D} (ha : SD X W G L a ma) : SE X W G L (.UnaryOp .USub a pos) (ev1 (u1 fun i => .int (-i)) ma) := SE.un un_neg (u1_ok fun i _ _ _ => .int _) ha
def cLt : D → D → Option Vl := i2 fun i j => some (.bl (decide (i < j)))
def cLe : D → D → Option Vl := i2 fun i j => some (.bl (decide (i ≤ j)))
def cGt : D → D → Option Vl := i2 fun i j => some (.bl (decide (j < i)))
def cGe : D → D → Option Vl := i2 fun i j => some (.bl (decide (j ≤ i)))
theorem cLt_ok : BinOk X W G L (rI0 fun i j => .bl (decide (i < j))) cLt := i2_ok0 fun i j _ _ _ => .bl _
theorem cLe_ok : BinOk X W G L (rI0 fun i j => .bl (decide (i ≤ j))) cLe := i2_ok0 fun i j _ _ _ => .bl _
theorem cGt_ok : BinOk X W G L (rI0 fun i j => .bl (decide (j < i))) cGt := i2_ok0 fun i j _ _ _ => .bl _
theorem cGe_ok : BinOk X W G L (rI0 fun i j => .bl (decide (j ≤ i))) cGe := i2_ok0 fun i j _ _ _ => .bl _
/-! ### displays -/
theorem SA.nil : SA X W G L [] (mpure []) := ⟨tNil, pa_nil, fun c Q s r => r _ _ Ext.refl s _ .nil⟩
def evCons (ma : M D) (mr : M (List D)) : M (List D) := ma.bind fun x => mr.bind fun xs => mpure (x :: xs)
theorem SA.cons {es : List Expr} {ma : M D} {mr : M (List D)} (ha : SD X W G L e ma) (hr : SA X W G L es mr) (hs : starEach (e :: es) X.env = (false, eval e X.env) :: starEach es X.env := by rfl) : SA X W G L (e :: es) (evCons ma mr) := by
  obtain ⟨ta, pa, qa⟩ := ha.ex
  obtain ⟨tb, pb, qb⟩ := hr.ex
  refine ⟨tCons ta tb, pa_cons pa pb hs, fun c Q s h => ?_⟩
  refine qa c _ s ((Req.bind h).imp fun x c1 _ e1 x1 s1 h1 v rv => ?_)
  show tb c.σ c1.H _
  rw [← e1]
  refine qb c1 _ s1 ((Req.bind h1).imp fun y c2 _ e2 x2 s2 h2 u ru => ?_)
  exact Req.here (r := x :: y) h2 s2 _ (.cons (x2.rp s1 rv) ru)
def lenOk (n : Nat) : Bool := decide (n ≤ 16777216)
theorem lenOk_line {n : Nat} (h : lenOk n = true) : n ≤ sizeLine := by
  rw [sizeLine_eq]
  exact of_decide_eq_true h
def mkTup (l : List D) : Option Vl := if lenOk l.length then some (.fz (.tup l)) else none
def mkLst (l : List D) : Option Vl := if lenOk l.length then some (.nw (.lst l)) else none
/-- a new tuple -/
theorem newTup {p : Addr} {vs : List V} {ds : List D} {Q : VK} (x0 : Ex G c0 c) (s : Ok G L c) (r : RpL G.N c.F c.H vs ds) (n : c.H p = none) (h : Req G L W c (.ok (.fz (.tup ds)) c.ρ) (fun r c' => ∀ v, VR G c0 c' v r → Q v c'.H)) : Q (.ref p) (upd c.H p (.tup vs)) := by
  have y : Ex G c ⟨c.σ, c.ρ, plus c.F p, upd c.H p (.tup vs)⟩ := Ext.grow s n (fun _ z => .inl z) fun _ z => z
  refine h (plus c.F p) (upd c.H p (.tup vs)) y (StR.grow s n (fun _ z => .inl z) fun _ z => z) _ ?_
  exact .tup (.inr rfl) upd_same (y.rpl s r)
theorem newLst {p : Addr} {vs : List V} {ds : List D} {Q : VK} (x0 : Ex G c0 c) (s : Ok G L c) (r : RpL G.N c.F c.H vs ds) (n : c.H p = none) (h : Req G L W c (.ok (.nw (.lst ds)) c.ρ) (fun r c' => ∀ v, VR G c0 c' v r → Q v c'.H)) : Q (.ref p) (upd c.H p (.lst vs)) := by
  have y : Ex G c ⟨c.σ, c.ρ, c.F, upd c.H p (.lst vs)⟩ := Ext.grow s n (fun _ z => z) fun _ z => .inl z
  have no : ∀ {u : Sl} {i : Nat}, True := trivial
  refine h c.F (upd c.H p (.lst vs)) y (StR.grow s n (fun _ z => z) fun _ z => .inl z) _ ⟨p, rfl, ⟨fun f => ?_, vs, upd_same, y.rpl s r⟩, fun o => ?_, Ex.pre x0 (.inl n)⟩
  · obtain ⟨⟨u, e⟩, _⟩ := s.trk p f
    rw [n] at e; cases e
  · obtain ⟨u, e⟩ := s.ownAt o
    rw [n] at e; cases e
theorem SE.tup {es : List Expr} {x1} {m : M (List D)} (h : SA X W G L es m) : SE X W G L (.Tuple es x1 pos) (m.bind fun l => liftO (mkTup l)) := by
  obtain ⟨t, p, q⟩ := h.ex
  refine ⟨tTup t, pe_tup p, fun c Q s h => ?_⟩
  refine q c _ s ((Req.bind h).imp fun l c1 _ e1 x1 s1 h1 vs rv => ?_)
  have h1 : Req G L W c1 (liftO (if lenOk l.length then some (Vl.fz (.tup l)) else none) c1.ρ) _ := h1
  by_cases hl : lenOk l.length = true
  · rw [if_pos hl] at h1
    exact ⟨by rw [rv.length]; exact lenOk_line hl, fun p n => newTup x1 s1 rv n h1⟩
  · rw [if_neg hl] at h1
    exact h1.elim
theorem SE.lst {es : List Expr} {m : M (List D)} (h : SA X W G L es m) : SE X W G L (.List es pos) (m.bind fun l => liftO (mkLst l)) := by
  obtain ⟨t, p, q⟩ := h.ex
  refine ⟨tLst t, pe_lst p, fun c Q s h => ?_⟩
  refine q c _ s ((Req.bind h).imp fun l c1 _ e1 x1 s1 h1 vs rv => ?_)
  have h1 : Req G L W c1 (liftO (if lenOk l.length then some (Vl.nw (.lst l)) else none) c1.ρ) _ := h1
  by_cases hl : lenOk l.length = true
  · rw [if_pos hl] at h1
    exact ⟨by rw [rv.length]; exact lenOk_line hl, fun p n => newLst x1 s1 rv n h1⟩
  · rw [if_neg hl] at h1
    exact h1.elim
end
end Ev

/-! EvC: tests, and, or, if else, subscripts, equality, built-ins. -/
namespace Ev
open PySem PySem.Spec PyProof.Rows L2
section
variable {X : Cx} {W : WX} {G : Gc} {L : Lt} {e a b : Expr} {pos : Pos} {c c0 c1 : Cf} {rest : List Expr}

/-! ### tests -/
theorem ST.val {m : M D} (h : SD X W G L e m) (he : ∀ whole, isTrue e X.env whole = (do let v ← whole; standAt e.pos; holding [v] (truthy v)) := by intro _; rfl) :
    ST X W G L e (m.bind fun d => match d with | .bl k => mpure k | _ => fun _ => .no) := by
  obtain ⟨t, p, q⟩ := h.ex
  refine ⟨tB t, pt_val p he, fun c Q s h => ?_⟩
  refine q c _ s ((Req.bind h).imp fun d c1 _ e1 x1 s1 h1 v rv => ?_)
  cases d with
  | bl k => cases rv; exact ⟨k, rfl, Req.here h1 s1⟩
  | _ => exact h1.elim
def truth : D → Option Bool
  | .non => some false
  | .bl b => some b
  | .int i => some (i != 0)
  | .str y => if lenOk y.length then some ((y.length : Int) != 0) else none
  | .lst l => some (!l.isEmpty)
  | .tup l => some (!l.isEmpty)
  | .dic l => some (!l.isEmpty)
  | _ => none
theorem truth_ok {d : D} {v : V} {k : Bool} {F : Fz} {H : Hp} (r : Rp G.N F H v d) (h : truth d = some k) : TruV X.K v H k := by
  cases r with
  | non => cases h; rfl
  | bl b => cases h; rfl
  | int i => cases h; rfl
  | str y =>
    have h : (if lenOk y.length then some ((y.length : Int) != 0) else none) = some k := h
    split at h
    · rename_i z
      cases h
      exact ⟨lenOk_line z, rfl⟩
    · cases h
  | lst f r l =>
    cases h
    refine .inl ⟨_, .inl (.inl r), ?_⟩
    cases l <;> rfl
  | tup f r l =>
    cases h
    refine .inr (.inl ⟨_, .inl (.inl r), ?_⟩)
    cases l <;> rfl
  | dic f r l =>
    cases h
    refine .inr (.inr ⟨_, r, ?_⟩)
    cases l <;> rfl
  | _ => cases h
/-- any value as a test, by its truth -/
theorem ST.truth {m : M D} (h : SD X W G L e m) (he : ∀ whole, isTrue e X.env whole = (do let v ← whole; standAt e.pos; holding [v] (truthy v)) := by intro _; rfl) :
    ST X W G L e (m.bind fun d => liftO (truth d)) := by
  obtain ⟨t, p, q⟩ := h.ex
  refine ⟨_, pt_truth p he, fun c Q s h => ?_⟩
  refine q c _ s ((Req.bind h).imp fun d c1 _ e1 x1 s1 h1 v rv => ?_)
  cases ed : Ev.truth d with
  | none => unfold liftO at h1; rw [ed] at h1; exact h1.elim
  | some k =>
    unfold liftO at h1
    rw [ed] at h1
    exact ⟨k, truth_ok rv ed, Req.here h1 s1⟩
theorem ST.not {m : M Bool} (h : ST X W G L a m) : ST X W G L (.UnaryOp .Not a pos) (m.bind fun k => mpure (!k)) := by
  obtain ⟨t, p, q⟩ := h.ex
  refine ⟨_, pt_not p, fun c Q s h => ?_⟩
  exact q c _ s ((Req.bind h).imp fun d c1 _ e1 x1 s1 h1 => Req.here h1 s1)
theorem SW.t {m : M Bool} (h : SW X W G L e m) : ST X W G L e m := by
  obtain ⟨t, p, q⟩ := h.ex
  exact ⟨t, p.pt, q⟩
theorem SW.and1 {m : M Bool} (h : ST X W G L a m) : SW X W G L (.BoolOp .And [a] pos) m := by
  obtain ⟨t, p, q⟩ := h.ex
  exact ⟨t, pw_and1 p, q⟩
theorem SW.or1 {m : M Bool} (h : ST X W G L a m) : SW X W G L (.BoolOp .Or [a] pos) m := by
  obtain ⟨t, p, q⟩ := h.ex
  exact ⟨t, pw_or1 p, q⟩
def tAnd' (m n : M Bool) : M Bool := m.bind fun k => if k = true then n else mpure false
def tOr' (m n : M Bool) : M Bool := m.bind fun k => if k = true then mpure true else n
theorem SW.and {m n : M Bool} (h : ST X W G L a m) (hr : SW X W G L (.BoolOp .And (b :: rest) pos) n) : SW X W G L (.BoolOp .And (a :: b :: rest) pos) (tAnd' m n) := by
  obtain ⟨t, p, q⟩ := h.ex
  obtain ⟨t', p', q'⟩ := hr.ex
  refine ⟨_, pw_and p p', fun c Q s h => ?_⟩
  refine q c _ s ((Req.bind h).imp fun k c1 _ e1 x1 s1 h1 => ?_)
  cases k with
  | true =>
    rw [if_pos rfl]
    rw [if_pos rfl] at h1
    show t' c.σ c1.H Q
    rw [← e1]
    exact q' c1 Q s1 h1
  | false =>
    rw [if_neg Bool.false_ne_true]
    rw [if_neg Bool.false_ne_true] at h1
    exact Req.here h1 s1
theorem SW.or {m n : M Bool} (h : ST X W G L a m) (hr : SW X W G L (.BoolOp .Or (b :: rest) pos) n) : SW X W G L (.BoolOp .Or (a :: b :: rest) pos) (tOr' m n) := by
  obtain ⟨t, p, q⟩ := h.ex
  obtain ⟨t', p', q'⟩ := hr.ex
  refine ⟨_, pw_or p p', fun c Q s h => ?_⟩
  refine q c _ s ((Req.bind h).imp fun k c1 _ e1 x1 s1 h1 => ?_)
  cases k with
  | false =>
    rw [if_neg Bool.false_ne_true]
    rw [if_neg Bool.false_ne_true] at h1
    show t' c.σ c1.H Q
    rw [← e1]
    exact q' c1 Q s1 h1
  | true =>
    rw [if_pos rfl]
    rw [if_pos rfl] at h1
    exact Req.here h1 s1
/-! ### and, or, not as values (all but the last True or False) -/
def evAnd (m n : M D) : M D := m.bind fun d => match d with
  | .bl true => n
  | .bl false => mpure (.bl false)
  | _ => fun _ => .no
def evOr (m n : M D) : M D := m.bind fun d => match d with
  | .bl true => mpure (.bl true)
  | .bl false => n
  | _ => fun _ => .no
def evNot (m : M D) : M D := m.bind fun d => match d with
  | .bl k => mpure (.bl (!k))
  | _ => fun _ => .no
theorem SD.one {op} {m : M D} (h : SD X W G L a m) : SD X W G L (.BoolOp op [a] pos) m := by
  obtain ⟨t, p, q⟩ := h.ex
  exact ⟨t, pe_one p, q⟩
theorem SD.and {m n : M D} (h : SD X W G L a m) (hr : SD X W G L (.BoolOp .And (b :: rest) pos) n) : SD X W G L (.BoolOp .And (a :: b :: rest) pos) (evAnd m n) := by
  obtain ⟨t, p, q⟩ := h.ex
  obtain ⟨t', p', q'⟩ := hr.ex
  refine ⟨_, pe_and p p', fun c Q s h => ?_⟩
  refine q c _ s ((Req.bind h).imp fun d c1 _ e1 x1 s1 h1 v rv => ?_)
  cases d with
  | bl k =>
    cases rv
    refine ⟨k, rfl, ?_⟩
    cases k with
    | true => rw [if_pos rfl, ← e1]; exact q' c1 Q s1 h1
    | false => rw [if_neg Bool.false_ne_true]; exact Req.here h1 s1 _ (.bl _)
  | _ => exact h1.elim
theorem SD.or {m n : M D} (h : SD X W G L a m) (hr : SD X W G L (.BoolOp .Or (b :: rest) pos) n) : SD X W G L (.BoolOp .Or (a :: b :: rest) pos) (evOr m n) := by
  obtain ⟨t, p, q⟩ := h.ex
  obtain ⟨t', p', q'⟩ := hr.ex
  refine ⟨_, pe_or p p', fun c Q s h => ?_⟩
  refine q c _ s ((Req.bind h).imp fun d c1 _ e1 x1 s1 h1 v rv => ?_)
  cases d with
  | bl k =>
    cases rv
    refine ⟨k, rfl, ?_⟩
    cases k with
    | false => rw [if_neg Bool.false_ne_true, ← e1]; exact q' c1 Q s1 h1
    | true => rw [if_pos rfl]; exact Req.here h1 s1 _ (.bl _)
  | _ => exact h1.elim
theorem SD.not {m : M D} (h : SD X W G L a m) : SD X W G L (.UnaryOp .Not a pos) (evNot m) := by
  obtain ⟨t, p, q⟩ := h.ex
  refine ⟨_, pe_not p, fun c Q s h => ?_⟩
  refine q c _ s ((Req.bind h).imp fun d c1 _ e1 x1 s1 h1 v rv => ?_)
  cases d with
  | bl k => cases rv; exact ⟨k, rfl, Req.here h1 s1 _ (.bl _)⟩
  | _ => exact h1.elim
def evIf {α : Type} (mc : M Bool) (ma mb : M α) : M α := mc.bind fun k => if k = true then ma else mb
theorem SE.ite {cnd : Expr} {mc : M Bool} {ma mb : M Vl} (hc : ST X W G L cnd mc) (ha : SE X W G L a ma) (hb : SE X W G L b mb) : SE X W G L (.IfExp cnd a b pos) (evIf mc ma mb) := by
  obtain ⟨t, p, q⟩ := hc.ex
  obtain ⟨ta, pa, qa⟩ := ha.ex
  obtain ⟨tb, pb, qb⟩ := hb.ex
  refine ⟨_, pe_ifExp p pa pb, fun c Q s h => ?_⟩
  refine q c _ s ((Req.bind h).imp fun k c1 _ e1 x1 s1 h1 => ?_)
  have up : ∀ {o : Out Vl}, Req G L W c1 o (fun r c' => ∀ v, VR G c c' v r → Q v c'.H) → Req G L W c1 o (fun r c' => ∀ v, VR G c1 c' v r → Q v c'.H) := fun {o} hq => hq.imp fun r c2 _ _ x2 s2 h2 v rv => h2 v (by
    cases r with
    | fz d => exact rv
    | nw d =>
      obtain ⟨p, z1, z2, z3, z4⟩ := rv
      exact ⟨p, z1, z2, z3, Ex.pre x1 z4⟩)
  cases k with
  | true =>
    rw [if_pos rfl] at h1 ⊢
    rw [← e1]
    exact qa c1 Q s1 (up h1)
  | false =>
    rw [if_neg Bool.false_ne_true] at h1 ⊢
    rw [← e1]
    exact qb c1 Q s1 (up h1)

/-! ### items -/
theorem atI_rel {F : Fz} {H : Hp} {vs : List V} {ds : List D} {i : Int} {d : D} (r : RpL G.N F H vs ds) (h : atI ds i = some d) : ∃ v, atI vs i = some v ∧ Rp G.N F H v d := by
  unfold atI at *
  rw [r.length]
  cases e : ixN ds.length i with
  | none => rw [e] at h; cases h
  | some j => rw [e] at h; exact r.get h
def item : D → D → Option Vl
  | .lst l, .int i => (atI l i).map .fz
  | .tup l, .int i => (atI l i).map .fz
  | .str z, .int i => if lenOk z.length then (atI z.cps.toList i).map fun c => .fz (.str ⟨#[c]⟩) else none
  | _, _ => none
theorem liftO_req {α : Type} {o : Option α} {ρ : Rho} {P : α → Cf → Prop} (h : Req G L W c (liftO o ρ) P) : ∃ r, o = some r ∧ Req G L W c (.ok r ρ) P := by
  cases o with
  | none => exact h.elim
  | some r => exact ⟨r, rfl, h⟩
theorem item_ok : BinOk X W G L (rIx X.K) item := by
  intro c0 c x y v u Q _ ex s rx ry hr
  obtain ⟨r, er, hr⟩ := liftO_req hr
  cases x with
  | lst l =>
    cases y with
    | int i =>
      cases ry
      cases rx with
      | lst f r ll =>
        obtain ⟨d, e, rfl⟩ := Option.map_eq_some_iff.mp (show (atI l i).map Vl.fz = some _ from er)
        obtain ⟨w, e1, e2⟩ := atI_rel ll e
        exact .inl ⟨_, _, i, w, rfl, rfl, .inl (.inl r), e1, Req.here hr s _ e2⟩
    | _ => cases er
  | tup l =>
    cases y with
    | int i =>
      cases ry
      cases rx with
      | tup f r ll =>
        obtain ⟨d, e, rfl⟩ := Option.map_eq_some_iff.mp (show (atI l i).map Vl.fz = some _ from er)
        obtain ⟨w, e1, e2⟩ := atI_rel ll e
        exact .inr (.inl ⟨_, _, i, w, rfl, rfl, .inl (.inl r), e1, Req.here hr s _ e2⟩)
    | _ => cases er
  | str z =>
    cases y with
    | int i =>
      cases ry
      cases rx
      have er : (if lenOk z.length then (atI z.cps.toList i).map fun c => Vl.fz (.str ⟨#[c]⟩) else none) = some r := er
      split at er
      · rename_i hz
        obtain ⟨d, e, rfl⟩ := Option.map_eq_some_iff.mp er
        exact .inr (.inr ⟨z, i, d, rfl, rfl, lenOk_line hz, e, Req.here hr s _ (.str _)⟩)
      · cases er
    | _ => cases er
  | _ => cases er
theorem SE.ix {ma mb : M D} (ha : SD X W G L a ma) (hb : SD X W G L b mb) (hs : PlainIx b := by intro _ _; rfl) : SE X W G L (.Subscript a b pos) (ev2 item ma mb) :=
  SE.two item_ok ha hb fun pa pb => pe_ix ix_seq pa pb hs
/-- what slot i holds, read in passing -/
def slotD (ρ : Rho) (i : Nat) : Option D := match ρ[i]? with
  | some (.fz d) => some d
  | some (.ow d) => some d
  | some (.ln d) => some d
  | some (.lf d) => some d
  | _ => none
/-- reading without freezing: the value of a slot for an operator that only looks -/
theorem look {i : Nat} {d : D} {x : Str} (s : Ok G L c) (h : slotD c.ρ i = some d) : ∃ v, c.σ[i]? = some (some v) ∧
    ((Rp G.N c.F c.H v d) ∨ ∃ a : Addr, v = .ref a ∧ Ow G.N c.F c.H a d) := by
  unfold slotD at h
  split at h
  · rename_i d' e; cases h
    obtain ⟨v, h1, h2⟩ := s.sl i _ e
    exact ⟨v, h1, .inl h2⟩
  · rename_i d' e; cases h
    obtain ⟨a, h1, h2⟩ := s.sl i _ e
    exact ⟨.ref a, h1, .inr ⟨a, rfl, h2⟩⟩
  · rename_i d' e; cases h
    obtain ⟨a, h1, h2⟩ := s.sl i _ e
    exact ⟨.ref a, h1, .inr ⟨a, rfl, h2⟩⟩
  · rename_i d' e; cases h
    obtain ⟨v, h1, h2⟩ := s.sl i _ e
    exact ⟨v, h1, .inl h2⟩
  · cases h
def evLook {α : Type} (i : Nat) (m : M α) : M α := fun ρ => match slotD ρ i with
  | some _ => m ρ
  | none => .no
def evIxS (i : Nat) (mb : M D) : M Vl := evLook i (mb.bind fun y ρ => match slotD ρ i with
  | some d => liftO (item d y) ρ
  | none => .no)
theorem SE.ixS (i : Nat) {x : Str} {p : Pos} {mb : M D} (hN : X.N[i]? = some x) (hv : Vis X.env.scope x) (hb : SD X W G L b mb) (hs : PlainIx b := by intro _ _; rfl) (hd : (x == ("__debug__" : Str)) = false := by decide) (hcd : (x == ("__classdict__" : Str)) = false := by decide) :
    SE X W G L (.Subscript (.Name x p) b pos) (evIxS i mb) := by
  obtain ⟨tb, pb, qb⟩ := hb.ex
  refine ⟨_, pe_ix ix_seq (pe_var hN hv hd hcd) pb hs, fun c Q s h => ?_⟩
  unfold evIxS evLook at h
  cases es : slotD c.ρ i with
  | none => rw [es] at h; exact h.elim
  | some d0 =>
    rw [es] at h
    obtain ⟨v, h1, _⟩ := look (x := x) s es
    refine ⟨v, h1, ?_⟩
    refine qb c _ s ((Req.bind h).imp fun y c1 _ e1 x1 s1 h2 u ru => ?_)
    cases es1 : slotD c1.ρ i with
    | none => simp only [es1] at h2; exact h2.elim
    | some d =>
      simp only [es1] at h2
      obtain ⟨v', h3, h4⟩ := look (x := x) s1 es1
      rw [e1, h1] at h3
      cases h3
      rcases h4 with h4 | ⟨a, rfl, h4⟩
      · exact item_ok c c1 d y v u Q e1 x1 s1 h4 ru h2
      · obtain ⟨r, er, hr⟩ := liftO_req h2
        cases d with
        | lst l =>
          cases y with
          | int i =>
            cases ru
            obtain ⟨_, xs, q, ll⟩ := h4
            obtain ⟨d, e, rfl⟩ := Option.map_eq_some_iff.mp (show (atI l i).map Vl.fz = some _ from er)
            obtain ⟨w, e1, e2⟩ := atI_rel ll e
            exact .inl ⟨_, _, i, w, rfl, rfl, .inl (.inl q), e1, Req.here hr s1 _ e2⟩
          | _ => cases er
        | _ => first | exact h4.elim | cases er

/-! ### equality of data, None, truths -/
mutual
def isP : D → Bool
  | .non => true
  | .bl _ => true
  | .int _ => true
  | .str _ => true
  | .lst l => isPs l
  | .tup l => isPs l
  | _ => false
def isPs : List D → Bool
  | [] => true
  | d :: l => isP d && isPs l
end
mutual
def toP : D → PyData
  | .bl b => .bool b
  | .int i => .int i
  | .str x => .str x
  | .lst l => .list (toPs l)
  | .tup l => .tuple (toPs l)
  | .dic l => .dict (toPk l)
  | _ => .none
def toPs : List D → List PyData
  | [] => []
  | d :: l => toP d :: toPs l
def toPk : List (Key × D) → List (PyData × PyData)
  | [] => []
  | (k, d) :: l => ((match k with | .inl i => .int i | .inr x => .str x), toP d) :: toPk l
end
mutual
theorem toDp {F : Fz} {H : Hp} : ∀ {d : D} {v : V}, Rp G.N F H v d → isP d = true → Dp X.K H v (toP d)
  | .non, _, r, _ => by cases r; exact .non
  | .bl _, _, r, _ => by cases r; exact .bl _
  | .int _, _, r, _ => by cases r; exact .int _
  | .str _, _, r, _ => by cases r; exact .str _
  | .lst l, _, r, h => by
    cases r with
    | lst f r ll => exact .lst (.inl (.inl r)) (toDps ll h)
  | .tup l, _, r, h => by
    cases r with
    | tup f r ll => exact .tup (.inl (.inl r)) (toDps ll h)
  | .dic _, _, _, h => nomatch h
  | .dct _, _, _, h => nomatch h
  | .gl _, _, _, h => nomatch h
  | .scr _, _, _, h => nomatch h
  | .ty _, _, _, h => nomatch h
  | .obj _ _, _, _, h => nomatch h
  | .exc _ _, _, _, h => nomatch h
theorem toDps {F : Fz} {H : Hp} : ∀ {ds : List D} {vs : List V}, RpL G.N F H vs ds → isPs ds = true → DpAll X.K H vs (toPs ds)
  | [], _, r, _ => by cases r; exact .nil
  | d :: l, _, r, h => by
    have h : (isP d && isPs l) = true := h
    rw [Bool.and_eq_true] at h
    cases r with
    | cons r1 r2 => exact .cons (toDp r1 h.1) (toDps r2 h.2)
end
def shP (d : D) : Bool := isP d && SeqAt.shaped (toP d)
def cEq (x y : D) : Option Vl := if shP x && shP y then some (.fz (.bl (PyData.eqv (toP x) (toP y)))) else none
def cNe (x y : D) : Option Vl := if shP x && shP y then some (.fz (.bl (!PyData.eqv (toP x) (toP y)))) else none
theorem cEq_ok : BinOk X W G L (rEqD X.K) cEq := by
  intro c0 c x y v u Q _ ex s rx ry hr
  obtain ⟨r, er, hr⟩ := liftO_req hr
  unfold cEq at er
  split at er
  · rename_i h
    cases er
    rw [Bool.and_eq_true] at h
    have h1 := Bool.and_eq_true_iff.mp h.1
    have h2 := Bool.and_eq_true_iff.mp h.2
    exact ⟨_, _, toDp rx h1.1, toDp ry h2.1, h1.2, h2.2, Req.here hr s _ (.bl _)⟩
  · cases er
theorem cNe_ok : BinOk X W G L (rNeD X.K) cNe := by
  intro c0 c x y v u Q _ ex s rx ry hr
  obtain ⟨r, er, hr⟩ := liftO_req hr
  unfold cNe at er
  split at er
  · rename_i h
    cases er
    rw [Bool.and_eq_true] at h
    have h1 := Bool.and_eq_true_iff.mp h.1
    have h2 := Bool.and_eq_true_iff.mp h.2
    exact ⟨_, _, toDp rx h1.1, toDp ry h2.1, h1.2, h2.2, Req.here hr s _ (.bl _)⟩
  · cases er
def isNon : D → Bool
  | .non => true
  | _ => false
theorem isNon_ok {F : Fz} {H : Hp} {v : V} {d : D} (r : Rp G.N F H v d) : decide (v = .non) = isNon d := by
  cases r <;> rfl
def cIsN (x y : D) : Option Vl := if isNon y then some (.fz (.bl (isNon x))) else none
def cNotN (x y : D) : Option Vl := if isNon y then some (.fz (.bl (!isNon x))) else none
theorem cIsN_ok : BinOk X W G L (fun x y H Q => y = .non ∧ Q (.bl (decide (x = .non))) H) cIsN := by
  intro c0 c x y v u Q _ ex s rx ry hr
  obtain ⟨r, er, hr⟩ := liftO_req hr
  unfold cIsN at er
  split at er
  · rename_i h
    cases er
    rw [isNon_ok rx]
    refine ⟨?_, Req.here hr s _ (.bl _)⟩
    cases ry <;> first | rfl | cases h
  · cases er
theorem cNotN_ok : BinOk X W G L (fun x y H Q => y = .non ∧ Q (.bl (!decide (x = .non))) H) cNotN := by
  intro c0 c x y v u Q _ ex s rx ry hr
  obtain ⟨r, er, hr⟩ := liftO_req hr
  unfold cNotN at er
  split at er
  · rename_i h
    cases er
    rw [isNon_ok rx]
    refine ⟨?_, Req.here hr s _ (.bl _)⟩
    cases ry <;> first | rfl | cases h
  · cases er

/-! ### built-ins by their names -/
def CallOk (X : Cx) (W : WX) (G : Gc) (L : Lt) (r : List V → Hp → VK → Prop) (f : List D → Option Vl) : Prop := ∀ (c0 c : Cf) (ds : List D) (vs : List V) (Q : VK), c.σ = c0.σ → Ex G c0 c → Ok G L c → RpL G.N c.F c.H vs ds →
  Req G L W c (liftO (f ds) c.ρ) (fun r c' => ∀ v, VR G c0 c' v r → Q v c'.H) → r vs c.H Q
def evC (f : List D → Option Vl) (m : M (List D)) : M Vl := m.bind fun l => liftO (f l)
theorem SE.callB {x : Str} {p : Pos} {id : String} {r : List V → Hp → VK → Prop} {f : List D → Option Vl} {es : List Expr} {m : M (List D)} (hc : CallR X (.builtin id) r) (hf : CallOk X W G L r f) (hg : Gl X x) (hm : X.mg x = none) (hv : bootBuiltins x = some (.builtin id)) (ha : SA X W G L (e :: es) m)
    (hn : x ≠ "__name__" := by decide) (hdb : (x == ("__debug__" : Str)) = false := by decide) (he : starEach (e :: es) X.env = (false, eval e X.env) :: starEach es X.env := by rfl) (hpl : (backTo pos (starEach es X.env)).any (·.1) = false := by rfl) : SE X W G L (.Call (.Name x p) (e :: es) [] pos) (evC f m) := by
  obtain ⟨t, pa, q⟩ := ha.ex
  refine ⟨_, pe_callB hc hg hm hv pa hn hdb he hpl, fun c Q s h => ?_⟩
  exact q c _ s ((Req.bind h).imp fun l c1 _ e1 x1 s1 h1 vs rv => hf c c1 l vs Q e1 x1 s1 rv h1)
theorem SE.callT {x : Str} {p : Pos} {T : String} {r : List V → Hp → VK → Prop} {f : List D → Option Vl} {es : List Expr} {m : M (List D)} (hc : CallR X (.type T) r) (hf : CallOk X W G L r f) (hg : Gl X x) (hm : X.mg x = none) (hv : bootBuiltins x = some (.type T)) (ha : SA X W G L (e :: es) m)
    (hn : x ≠ "__name__" := by decide) (hdb : (x == ("__debug__" : Str)) = false := by decide) (he : starEach (e :: es) X.env = (false, eval e X.env) :: starEach es X.env := by rfl) (hpl : (backTo pos (starEach es X.env)).any (·.1) = false := by rfl) : SE X W G L (.Call (.Name x p) (e :: es) [] pos) (evC f m) := by
  obtain ⟨t, pa, q⟩ := ha.ex
  refine ⟨_, pe_callTy hc hg hm hv pa hn hdb he hpl, fun c Q s h => ?_⟩
  exact q c _ s ((Req.bind h).imp fun l c1 _ e1 x1 s1 h1 vs rv => hf c c1 l vs Q e1 x1 s1 rv h1)
def bAbs : List D → Option Vl
  | [.int i] => some (.fz (.int (if i < 0 then -i else i)))
  | _ => none
theorem bAbs_ok : CallOk X W G L (fun xs H Q => ∃ i, xs = [.int i] ∧ Q (.int (if i < 0 then -i else i)) H) bAbs := by
  intro c0 c ds vs Q _ ex s r hr
  obtain ⟨w, er, hr⟩ := liftO_req hr
  unfold bAbs at er
  split at er
  · cases er
    cases r with
    | cons r1 r2 =>
      cases r2
      cases r1
      exact ⟨_, rfl, Req.here hr s _ (.int _)⟩
  · cases er
def bInt : List D → Option Vl
  | [.int i] => some (.fz (.int i))
  | [.bl k] => some (.fz (.int (if k then 1 else 0)))
  | _ => none
theorem bInt_ok : CallOk X W G L (fun xs H Q => (∃ i, xs = [.int i] ∧ Q (.int i) H) ∨ ∃ k, xs = [.bl k] ∧ Q (.int (if k then 1 else 0)) H) bInt := by
  intro c0 c ds vs Q _ ex s r hr
  obtain ⟨w, er, hr⟩ := liftO_req hr
  unfold bInt at er
  split at er
  · cases er
    cases r with
    | cons r1 r2 =>
      cases r2
      cases r1
      exact .inl ⟨_, rfl, Req.here hr s _ (.int _)⟩
  · cases er
    cases r with
    | cons r1 r2 =>
      cases r2
      cases r1
      exact .inr ⟨_, rfl, Req.here hr s _ (.int _)⟩
  · cases er
def dLen : D → Option Nat
  | .lst l => some l.length
  | .tup l => some l.length
  | .str y => if lenOk y.length then some y.length else none
  | _ => none
def bLen : List D → Option Vl
  | [d] => (dLen d).map fun n => .fz (.int (n : Nat))
  | _ => none
theorem dLen_ok {F : Fz} {H : Hp} {v : V} {d : D} {n : Nat} (r : Rp G.N F H v d) (h : dLen d = some n) : LenV X.K v H n := by
  cases r with
  | lst f r l => cases h; exact .inl ⟨_, .inl (.inl r), l.length.symm⟩
  | tup f r l => cases h; exact .inr ⟨_, .inl (.inl r), l.length.symm⟩
  | str y =>
    have h : (if lenOk y.length then some y.length else none) = some n := h
    split at h
    · rename_i z
      cases h
      exact ⟨lenOk_line z, rfl⟩
    · cases h
  | _ => cases h
theorem bLen_ok : CallOk X W G L (fun xs H Q => ∃ (x : V) (n : Nat), xs = [x] ∧ LenV X.K x H n ∧ Q (.int n) H) bLen := by
  intro c0 c ds vs Q _ ex s r hr
  obtain ⟨w, er, hr⟩ := liftO_req hr
  unfold bLen at er
  split at er
  · obtain ⟨n, e, rfl⟩ := Option.map_eq_some_iff.mp er
    cases r with
    | cons r1 r2 =>
      cases r2
      exact ⟨_, n, rfl, dLen_ok r1 e, Req.here hr s _ (.int _)⟩
  · cases er
def bTuple : List D → Option Vl
  | [.lst l] => some (.fz (.tup l))
  | [.tup l] => some (.fz (.tup l))
  | _ => none
theorem bTuple_ok : CallOk X W G L (fun xs H Q => ∃ p ys, xs = [.ref p] ∧ ((SqL X.K H p ys ∧ ∀ l, H l = none → Q (.ref l) (upd H l (.tup ys))) ∨ (SqT X.K H p ys ∧ Q (.ref p) H))) bTuple := by
  intro c0 c ds vs Q _ ex s r hr
  obtain ⟨w, er, hr⟩ := liftO_req hr
  unfold bTuple at er
  split at er
  · cases er
    cases r with
    | cons r1 r2 =>
      cases r2
      cases r1 with
      | lst f r l => exact ⟨_, _, rfl, .inl ⟨.inl (.inl r), fun p n => newTup ex s l n hr⟩⟩
  · cases er
    cases r with
    | cons r1 r2 =>
      cases r2
      cases r1 with
      | tup f r l => exact ⟨_, _, rfl, .inr ⟨.inl (.inl r), Req.here hr s _ (.tup f r l)⟩⟩
  · cases er
def bList : List D → Option Vl
  | [.lst l] => some (.nw (.lst l))
  | [.tup l] => some (.nw (.lst l))
  | _ => none
theorem bList_ok : CallOk X W G L (fun xs H Q => ∃ p ys, xs = [.ref p] ∧ (SqL X.K H p ys ∨ SqT X.K H p ys) ∧ ∀ l, H l = none → Q (.ref l) (upd H l (.lst ys))) bList := by
  intro c0 c ds vs Q _ ex s r hr
  obtain ⟨w, er, hr⟩ := liftO_req hr
  unfold bList at er
  split at er
  · cases er
    cases r with
    | cons r1 r2 =>
      cases r2
      cases r1 with
      | lst f r l => exact ⟨_, _, rfl, .inl (.inl (.inl r)), fun p n => newLst ex s l n hr⟩
  · cases er
    cases r with
    | cons r1 r2 =>
      cases r2
      cases r1 with
      | tup f r l => exact ⟨_, _, rfl, .inr (.inl (.inl r)), fun p n => newLst ex s l n hr⟩
  · cases er
def allBl : List D → Option (List Bool)
  | [] => some []
  | .bl b :: l => (allBl l).map (b :: ·)
  | _ => none
theorem allBl_ok {F : Fz} {H : Hp} : ∀ {ds : List D} {vs : List V} {bs : List Bool}, RpL G.N F H vs ds → allBl ds = some bs → vs = bs.map V.bl
  | [], _, _, r, h => by cases r; cases h; rfl
  | d :: l, _, bs, r, h => by
    cases r with
    | cons r1 r2 =>
      cases d with
      | bl b =>
        obtain ⟨cs, e, rfl⟩ := Option.map_eq_some_iff.mp (show (allBl l).map (b :: ·) = some bs from h)
        cases r1
        rw [allBl_ok r2 e]
        rfl
      | _ => cases h
def bAll : List D → Option Vl
  | [.lst l] => (allBl l).map fun bs => .fz (.bl (bs.all id))
  | _ => none
theorem bAll_ok : CallOk X W G L (rAll X.K) bAll := by
  intro c0 c ds vs Q _ ex s r hr
  obtain ⟨w, er, hr⟩ := liftO_req hr
  unfold bAll at er
  split at er
  · obtain ⟨bs, e, rfl⟩ := Option.map_eq_some_iff.mp er
    cases r with
    | cons r1 r2 =>
      cases r2
      cases r1 with
      | lst f r l =>
        have := allBl_ok l e
        subst this
        exact ⟨_, bs, rfl, .inl (.inl r), Req.here hr s _ (.bl _)⟩
  · cases er
def allI : List D → Option (List Int)
  | [] => some []
  | .int b :: l => (allI l).map (b :: ·)
  | _ => none
theorem allI_ok {F : Fz} {H : Hp} : ∀ {ds : List D} {vs : List V} {bs : List Int}, RpL G.N F H vs ds → allI ds = some bs → vs = bs.map V.int
  | [], _, _, r, h => by cases r; cases h; rfl
  | d :: l, _, bs, r, h => by
    cases r with
    | cons r1 r2 =>
      cases d with
      | int b =>
        obtain ⟨cs, e, rfl⟩ := Option.map_eq_some_iff.mp (show (allI l).map (b :: ·) = some bs from h)
        cases r1
        rw [allI_ok r2 e]
        rfl
      | _ => cases h
def bSum : List D → Option Vl
  | [.lst l] => (allI l).map fun bs => .fz (.int bs.sum)
  | _ => none
theorem bSum_ok : CallOk X W G L (rSum X.K) bSum := by
  intro c0 c ds vs Q _ ex s r hr
  obtain ⟨w, er, hr⟩ := liftO_req hr
  unfold bSum at er
  split at er
  · obtain ⟨bs, e, rfl⟩ := Option.map_eq_some_iff.mp er
    cases r with
    | cons r1 r2 =>
      cases r2
      cases r1 with
      | lst f r l =>
        have := allI_ok l e
        subst this
        exact ⟨_, bs, rfl, .inl (.inl r), Req.here hr s _ (.int _)⟩
  · cases er
end
end Ev

/-! EvD: statements, targets, loops. -/
namespace Ev
open PySem PySem.Spec PyProof.Rows L2

def ReqS {α : Type} (G : Gc) (L : Lt) (W : WX) (c : Cf) (o : Out α) (P : α → Cf → Prop) : Prop := match o with
  | .ok r ρ' => ∀ σ' F' H', Ex G c ⟨σ', ρ', F', H'⟩ → Ok G L ⟨σ', ρ', F', H'⟩ → P r ⟨σ', ρ', F', H'⟩
  | .ex d ρ' => ∀ σ' F' H', Ex G c ⟨σ', ρ', F', H'⟩ → Ok G L ⟨σ', ρ', F', H'⟩ → ∀ cls dd, XR G F' H' cls dd d → W cls dd σ' H'
  | .no => False
def EndsP (G : Gc) (D : Ends) (c : Cf) : Fl → Cf → Prop
  | .nx, c' => D.nx c'.σ c'.H
  | .rt r, c' => ∀ v, VR G c c' v r → D.rt v c'.H
  | .bk, c' => D.bk c'.σ c'.H
  | .ct, c' => D.ct c'.σ c'.H
section
variable {G : Gc} {L : Lt} {W : WX} {c c0 c1 : Cf} {α β : Type}
theorem ReqS.shift {o : Out α} {P : α → Cf → Prop} (h : ReqS G L W c o P) (x : Ex G c c1) : ReqS G L W c1 o P := by
  cases o with
  | ok r ρ' => exact fun σ' F' H' y s => h σ' F' H' (x.trans y) s
  | ex d ρ' => exact fun σ' F' H' y s => h σ' F' H' (x.trans y) s
  | no => exact h
theorem ReqS.imp {o : Out α} {P P' : α → Cf → Prop} (h : ReqS G L W c o P) (f : ∀ r c', o = .ok r c'.ρ → Ex G c c' → Ok G L c' → P r c' → P' r c') : ReqS G L W c o P' := by
  cases o with
  | ok r ρ' => exact fun σ' F' H' y s => f r _ rfl y s (h σ' F' H' y s)
  | ex d ρ' => exact h
  | no => exact h
theorem ReqS.bind {o : Out α} {f : α → Rho → Out β} {P : β → Cf → Prop} (h : ReqS G L W c (o.bind f) P) : ReqS G L W c o (fun a c1 => ReqS G L W c1 (f a c1.ρ) P) := by
  cases o with
  | ok r ρ' => exact fun σ' F' H' y s => ReqS.shift (c1 := ⟨σ', ρ', F', H'⟩) h y
  | ex d ρ' => exact h
  | no => exact h
/-- an expression first -/
theorem ReqS.toE {o : Out α} {P : α → Cf → Prop} (h : ReqS G L W c o P) : Req G L W c o P := by
  cases o with
  | ok r ρ' => exact fun F' H' y s => h c.σ F' H' y s
  | ex d ρ' => exact fun F' H' y s => h c.σ F' H' y s
  | no => exact h
theorem ReqS.bindE {o : Out α} {f : α → Rho → Out β} {P : β → Cf → Prop} (h : ReqS G L W c (o.bind f) P) : Req G L W c o (fun a c1 => ReqS G L W c1 (f a c1.ρ) P) := h.bind.toE
theorem ReqS.here {r : α} {P : α → Cf → Prop} (h : ReqS G L W c (.ok r c.ρ) P) (s : Ok G L c) : P r c := h c.σ c.F c.H Ext.refl s
theorem VR.base {v : V} {r : Vl} (x : Ex G c0 c) (h : VR G c c1 v r) : VR G c0 c1 v r := by
  cases r with
  | fz d => exact h
  | nw d =>
    obtain ⟨p, z1, z2, z3, z4⟩ := h
    exact ⟨p, z1, z2, z3, Ex.pre x z4⟩
theorem EndsP.base {D : Ends} {f : Fl} (x : Ex G c0 c) (h : EndsP G D c0 f c1) : EndsP G D c f c1 := by
  cases f with
  | rt r => exact fun v hv => h v (VR.base x hv)
  | _ => exact h
/-- a value that is held by nobody stays so while others are reckoned -/
theorem VR.keep {v : V} {r : Vl} (h : VR G c0 c v r) (s : Ok G L c) (x : Ex G c c1) (s1 : Ok G L c1) : VR G c0 c1 v r := by
  cases r with
  | fz d => exact x.rp s h
  | nw d =>
    obtain ⟨p, z1, z2, z3, z4⟩ := h
    obtain ⟨u, e, hm⟩ := z2.at
    have e1 : c1.H p = c.H p := by rw [e]; exact x.keep p u e z3
    have n1 : ¬ c1.own G p := fun o => (x.sub p o).elim z3 fun q => by rw [e] at q; cases q
    have nf : ¬ c1.F p := fun f => (x.new p f).elim z2.nf fun q => q.elim (fun q => q.mut e hm) z3
    exact ⟨p, z1, z2.mono x.mono (fun b f => x.fz s f) nf e1, n1, z4⟩
end

structure SS (X : Cx) (W : WX) (G : Gc) (L : Lt) (st : Stmt) (m : M Fl) : Prop where
  ex : ∃ t : TS, PS X st t ∧ ∀ (c : Cf) (D : Ends), Ok G L c → ReqS G L W c (m c.ρ) (EndsP G D c) → t D c.σ c.H
structure SSs (X : Cx) (W : WX) (G : Gc) (L : Lt) (st : List Stmt) (m : M Fl) : Prop where
  ex : ∃ t : TS, PSs X st t ∧ ∀ (c : Cf) (D : Ends), Ok G L c → ReqS G L W c (m c.ρ) (EndsP G D c) → t D c.σ c.H
structure SG (X : Cx) (W : WX) (G : Gc) (L : Lt) (tg : Expr) (g : D → M Unit) : Prop where
  ex : ∃ t : TG, PG X tg t ∧ ∀ (c : Cf) (v : V) (d : D) (Q : L2.St → Hp → Prop), Ok G L c → Rp G.N c.F c.H v d → ReqS G L W c (g d c.ρ) (fun _ c' => Q c'.σ c'.H) → t v c.σ c.H Q
structure SGs (X : Cx) (W : WX) (G : Gc) (L : Lt) (tgs : List Expr) (g : List D → M Unit) : Prop where
  ex : ∃ t : TGs, PGs X tgs t ∧ ∀ (c : Cf) (vs : List V) (ds : List D) (Q : L2.St → Hp → Prop), Ok G L c → RpL G.N c.F c.H vs ds → ReqS G L W c (g ds c.ρ) (fun _ c' => Q c'.σ c'.H) → t vs c.σ c.H Q

def mseq (m n : M Fl) : M Fl := m.bind fun f => match f with
  | .nx => n
  | f => mpure f
section
variable {X : Cx} {W : WX} {G : Gc} {L : Lt} {e a b tg : Expr} {pos : Pos} {c c0 c1 : Cf} {st : Stmt} {sts : List Stmt}
theorem ReqS.seq {m n : M Fl} {D : Ends} {t : TS} (h : ReqS G L W c (mseq m n c.ρ) (EndsP G D c)) (q : ∀ (c : Cf) (D : Ends), Ok G L c → ReqS G L W c (n c.ρ) (EndsP G D c) → t D c.σ c.H) : ReqS G L W c (m c.ρ) (EndsP G { D with nx := t D } c) := by
  refine (ReqS.bind h).imp fun f c1 _ x1 s1 h1 => ?_
  cases f with
  | nx => exact q c1 D s1 (h1.imp fun f c2 _ x2 s2 h2 => h2.base x1)
  | rt r => exact ReqS.here (W := W) (r := Fl.rt r) (P := EndsP G D c) h1 s1
  | bk => exact ReqS.here (W := W) (r := Fl.bk) (P := EndsP G D c) h1 s1
  | ct => exact ReqS.here (W := W) (r := Fl.ct) (P := EndsP G D c) h1 s1
theorem SSs.nil : SSs X W G L [] (mpure .nx) := ⟨_, pss_nil, fun c D s h => h c.σ c.F c.H Ext.refl s⟩
theorem SSs.cons {m n : M Fl} (h : SS X W G L st m) (hr : SSs X W G L sts n) : SSs X W G L (st :: sts) (mseq m n) := by
  obtain ⟨t, p, q⟩ := h.ex
  obtain ⟨u, p', q'⟩ := hr.ex
  exact ⟨_, pss_cons p p', fun c D s h => q c _ s (ReqS.seq h q')⟩
theorem SSs.one {m : M Fl} (h : SS X W G L st m) : SSs X W G L [st] m := by
  obtain ⟨t, p, q⟩ := h.ex
  exact ⟨_, pss_one p, q⟩
theorem SS.pass : SS X W G L (.Pass pos) (mpure .nx) := ⟨_, ps_pass, fun c D s h => h c.σ c.F c.H Ext.refl s⟩
theorem SS.brk : SS X W G L (.Break pos) (mpure .bk) := ⟨_, ps_break, fun c D s h => h c.σ c.F c.H Ext.refl s⟩
theorem SS.cont : SS X W G L (.Continue pos) (mpure .ct) := ⟨_, ps_continue, fun c D s h => h c.σ c.F c.H Ext.refl s⟩
theorem SS.expr {m : M D} (h : SD X W G L e m) (hs : swapsWith e none pos.line X.env = pure false := by rfl) : SS X W G L (.Expr e pos) (m.bind fun _ => mpure .nx) := by
  obtain ⟨t, p, q⟩ := h.ex
  refine ⟨_, ps_expr p hs, fun c D s h => ?_⟩
  refine q c _ s (h.bindE.imp fun d c1 _ e1 x1 s1 h1 v rv => ?_)
  rw [← e1]
  exact ReqS.here (r := Fl.nx) h1 s1
theorem SS.ret {m : M Vl} (h : SE X W G L e m) : SS X W G L (.Return (some e) pos) (m.bind fun r => mpure (.rt r)) := by
  obtain ⟨t, p, q⟩ := h.ex
  refine ⟨_, ps_ret p, fun c D s h => ?_⟩
  exact q c _ s (h.bindE.imp fun r c1 _ e1 x1 s1 h1 v rv => ReqS.here (r := Fl.rt r) h1 s1 v rv)
theorem SS.retN : SS X W G L (.Return none pos) (mpure (.rt (.fz .non))) := ⟨_, ps_retN, fun c D s h => ReqS.here (r := Fl.rt (.fz .non)) h s _ .non⟩
theorem SS.ite {mc : M Bool} {ma mb : M Fl} {l r : List Stmt} (hc : ST X W G L e mc) (ha : SSs X W G L l ma) (hb : SSs X W G L r mb) : SS X W G L (.If e l r pos) (evIf mc ma mb) := by
  obtain ⟨t, p, q⟩ := hc.ex
  obtain ⟨ta, pa, qa⟩ := ha.ex
  obtain ⟨tb, pb, qb⟩ := hb.ex
  refine ⟨_, ps_if p pa pb, fun c D s h => ?_⟩
  refine q c _ s (h.bindE.imp fun k c1 _ e1 x1 s1 h1 => ?_)
  cases k with
  | true =>
    rw [if_pos rfl] at h1 ⊢
    rw [← e1]
    exact qa c1 D s1 (h1.imp fun f c2 _ x2 s2 h2 => h2.base x1)
  | false =>
    rw [if_neg Bool.false_ne_true] at h1 ⊢
    rw [← e1]
    exact qb c1 D s1 (h1.imp fun f c2 _ x2 s2 h2 => h2.base x1)
/-! ### a slot is stored -/
def slOf : Vl → Sl
  | .fz d => .fz d
  | .nw d => .ow d
/-- slot i gets a value; a lent one can't -/
def setSlot (i : Nat) (r : Vl) : M Unit := fun ρ => match ρ[i]? with
  | some (.ln _) => .no
  | some (.lf _) => .no
  | none => .no
  | some _ => .ok () (ρ.set i (slOf r))
theorem Ok.put {i : Nat} {v : V} {r : Vl} {t : Sl} (s : Ok G L c) (x : Ex G c0 c) (hv : VR G c0 c v r) (e : c.ρ[i]? = some t) (n1 : ∀ d, t ≠ .ln d) (n2 : ∀ d, t ≠ .lf d) :
    Ok G L ⟨c.σ.set i (some v), c.ρ.set i (slOf r), c.F, c.H⟩ ∧ Ex G c0 ⟨c.σ.set i (some v), c.ρ.set i (slOf r), c.F, c.H⟩ := by
  have hi : i < c.ρ.length := (List.getElem?_eq_some_iff.mp e).1
  have hi' : i < c.σ.length := by rw [← s.len]; exact hi
  have at_ : ∀ (j : Nat) (u : Sl), (c.ρ.set i (slOf r))[j]? = some u → (j = i ∧ u = slOf r) ∨ (j ≠ i ∧ c.ρ[j]? = some u) := fun j u z => by
    by_cases hj : j = i
    · subst hj
      rw [List.getElem?_set_self hi] at z
      exact .inl ⟨rfl, (Option.some.inj z).symm⟩
    · rw [List.getElem?_set_ne (Ne.symm hj)] at z
      exact .inr ⟨hj, z⟩
  have sig : ∀ j, j ≠ i → (c.σ.set i (some v))[j]? = c.σ[j]? := fun j hj => List.getElem?_set_ne (Ne.symm hj)
  have sii : (c.σ.set i (some v))[i]? = some (some v) := List.getElem?_set_self hi'
  have new : isOw (slOf r) = true → ∃ (d : D) (p : Addr), r = .nw d ∧ v = .ref p ∧ ¬ c.own G p ∧ (c0.H p = none ∨ c0.own G p) := fun w => by
    cases r with
    | fz d => cases w
    | nw d =>
      obtain ⟨p, z1, z2, z3, z4⟩ := hv
      exact ⟨d, p, rfl, z1, z3, z4⟩
  have ownN : ∀ b, Own G (c.σ.set i (some v)) (c.ρ.set i (slOf r)) b → c.own G b ∨ (c0.H b = none ∨ c0.own G b) := fun b z => by
    rcases z with z | ⟨j, u, z, w, q⟩
    · exact .inl (.inl z)
    · rcases at_ j u z with ⟨rfl, rfl⟩ | ⟨hj, z⟩
      · obtain ⟨d, p, _, e2, _, pre⟩ := new w
        rw [sii, e2] at q
        cases q
        exact .inr pre
      · rw [sig j hj] at q
        exact .inl (.inr ⟨j, u, z, w, q⟩)
  have ti : ∀ d, (c.ρ.set i (slOf r))[i]? ≠ some (.ln d) ∧ (c.ρ.set i (slOf r))[i]? ≠ some (.lf d) := fun d => by
    rw [List.getElem?_set_self hi]
    cases r <;> exact ⟨fun z => (by cases z), fun z => (by cases z)⟩
  refine ⟨⟨?_, ?_, ?_, ?_, ?_, s.trk, s.tabs⟩, ⟨x.keep, x.mono, x.new, fun b z => ?_⟩⟩
  · rw [List.length_set, List.length_set]; exact s.len
  · intro j u z
    rcases at_ j u z with ⟨rfl, rfl⟩ | ⟨hj, z⟩
    · rw [sii]
      cases r with
      | fz d => exact ⟨v, rfl, hv⟩
      | nw d =>
        obtain ⟨p, z1, z2, z3, z4⟩ := hv
        subst z1
        exact ⟨p, rfl, z2⟩
    · rw [sig j hj]
      exact s.sl j u z
  · intro j k u w p hjk z0 wu z2 ww q1 q2
    rcases at_ j u z0 with ⟨ej, eu⟩ | ⟨hj, zj⟩
    · subst ej
      rw [eu] at wu
      obtain ⟨d, p', _, e2, no, _⟩ := new wu
      rw [sii, e2] at q1
      cases q1
      rcases at_ k w z2 with ⟨ek, ew⟩ | ⟨hk, zk⟩
      · exact hjk ek.symm
      · rw [sig k hk] at q2
        exact no (.inr ⟨k, w, zk, ww, q2⟩)
    · rcases at_ k w z2 with ⟨ek, ew⟩ | ⟨hk, zk⟩
      · subst ek
        rw [ew] at ww
        obtain ⟨d, p', _, e2, no, _⟩ := new ww
        rw [sii, e2] at q2
        cases q2
        rw [sig j hj] at q1
        exact no (.inr ⟨j, u, zj, wu, q1⟩)
      · rw [sig j hj] at q1
        rw [sig k hk] at q2
        exact s.sep j k u w p hjk zj wu zk ww q1 q2
  · intro j p z
    obtain ⟨h1, d, h2⟩ := s.lent j p z
    have hj : j ≠ i := fun q => by
      subst q
      rw [e] at h2
      rcases h2 with h2 | h2
      · exact n1 d (Option.some.inj h2)
      · exact n2 d (Option.some.inj h2)
    refine ⟨(sig j hj).trans h1, d, ?_⟩
    show (c.ρ.set i (slOf r))[j]? = _ ∨ (c.ρ.set i (slOf r))[j]? = _
    rw [List.getElem?_set_ne (Ne.symm hj)]
    exact h2
  · intro j d z
    have hj : j ≠ i := fun q => by
      subst q
      rcases z with z | z
      · exact (ti d).1 z
      · exact (ti d).2 z
    have z : (c.ρ.set i (slOf r))[j]? = some (.ln d) ∨ (c.ρ.set i (slOf r))[j]? = some (.lf d) := z
    rw [List.getElem?_set_ne (Ne.symm hj)] at z
    exact s.lnL j d z
  · rcases ownN b z with z | z
    · exact x.sub b z
    · exact z.symm
theorem setSlot_req {i : Nat} {v : V} {r : Vl} {P : Unit → Cf → Prop} (s : Ok G L c) (x : Ex G c0 c) (hv : VR G c0 c v r) (h : ReqS G L W c0 (setSlot i r c.ρ) P) : P () ⟨c.σ.set i (some v), c.ρ.set i (slOf r), c.F, c.H⟩ ∧ Ok G L ⟨c.σ.set i (some v), c.ρ.set i (slOf r), c.F, c.H⟩ := by
  unfold setSlot at h
  cases e : c.ρ[i]? with
  | none => rw [e] at h; exact h.elim
  | some t =>
    rw [e] at h
    cases t with
    | ln d => exact h.elim
    | lf d => exact h.elim
    | _ =>
      obtain ⟨s1, x1⟩ := Ok.put s x hv e (fun d z => by cases z) (fun d z => by cases z)
      exact ⟨h _ _ _ x1 s1, s1⟩
/-- name = e -/
def evSet (i : Nat) (m : M Vl) : M Fl := m.bind fun r => M.bind (setSlot i r) fun _ => mpure .nx
theorem SS.set_of {i : Nat} {m : M Vl} {t : TE} (hp : PS X st (tAsg t (gName i))) (q : ∀ (c : Cf) (Q : VK), Ok G L c → Req G L W c (m c.ρ) (fun r c' => ∀ v, VR G c c' v r → Q v c'.H) → t c.σ c.H Q) : SS X W G L st (evSet i m) := by
  refine ⟨_, hp, fun c D s h => ?_⟩
  have h : ReqS G L W c ((m c.ρ).bind fun r => M.bind (setSlot i r) fun _ => mpure Fl.nx) (EndsP G D c) := h
  refine q c _ s ?_
  cases em : m c.ρ with
  | no => rw [em] at h; exact h
  | ex d ρ => rw [em] at h; exact ReqS.toE (o := .ex d ρ) (P := EndsP G D c) h
  | ok r ρ1 =>
    rw [em] at h
    intro F1 H1 x1 s1 v rv
    have h2 : ReqS G L W c (setSlot i r ρ1) (fun a c1 => ReqS G L W c1 (Out.ok Fl.nx c1.ρ) (EndsP G D c)) := ReqS.bind h
    obtain ⟨h3, s3⟩ := setSlot_req (c := ⟨c.σ, ρ1, F1, H1⟩) s1 x1 rv h2
    exact ReqS.here (r := Fl.nx) h3 s3
theorem SS.set (i : Nat) {x : Str} {m : M Vl} {pos' : Pos} (hN : X.N.Nodup) (hi : X.N[i]? = some x) (hx : Loc X.env.scope x) (he : SE X W G L e m) (hs : swapsWith e (some (.Name x pos')) pos.line X.env = pure false := by rfl) (hf : X.fn x = true ∨ X.env.scope.names.lookup x = some .local := by first | exact .inl rfl | exact .inr rfl | assumption) :
    SS X W G L (.Assign [.Name x pos'] e pos) (evSet i m) := by
  obtain ⟨t, p, q⟩ := he.ex
  exact SS.set_of (ps_set hN hi hx p hs hf) q
/-! ### targets -/
theorem SG.name (i : Nat) {x : Str} (hN : X.N.Nodup) (hi : X.N[i]? = some x) (hx : Loc X.env.scope x) (hf : X.fn x = true ∨ X.env.scope.names.lookup x = some .local := by first | exact .inl rfl | exact .inr rfl | assumption) : SG X W G L (.Name x pos) (fun d => setSlot i (.fz d)) := by
  refine ⟨_, pg_name hN hi hx hf, fun c v d Q s rv h => ?_⟩
  exact (setSlot_req s Ext.refl (show VR G c c v (.fz d) from rv) h).1
theorem SGs.nil : SGs X W G L [] (fun ds => match ds with | [] => mpure () | _ => fun _ => .no) := by
  refine ⟨_, pgs_nil, fun c vs ds Q s r h => ?_⟩
  cases r with
  | nil => exact ⟨rfl, ReqS.here (r := ()) h s⟩
  | cons => exact h.elim
def gsCons (g : D → M Unit) (gr : List D → M Unit) : List D → M Unit
  | d :: ds => M.bind (g d) fun _ => gr ds
  | [] => fun _ => .no
theorem SGs.cons {es : List Expr} {g : D → M Unit} {gr : List D → M Unit} (h1 : SG X W G L e g) (h2 : SGs X W G L es gr) (hs : (assignEach (e :: es) X.env).map (·.2) = assign e X.env :: (assignEach es X.env).map (·.2) := by rfl) : SGs X W G L (e :: es) (gsCons g gr) := by
  obtain ⟨t, p, q⟩ := h1.ex
  obtain ⟨u, p', q'⟩ := h2.ex
  refine ⟨_, pgs_cons p p' hs, fun c vs ds Q s r h => ?_⟩
  cases r with
  | nil => exact h.elim
  | cons r1 r2 =>
    refine ⟨_, _, rfl, q c _ _ _ s r1 ((ReqS.bind h).imp fun _ c1 _ x1 s1 h1 => ?_)⟩
    exact q' c1 _ _ Q s1 (x1.rpl s r2) h1
def evUnp (n : Nat) (g : List D → M Unit) : D → M Unit
  | .tup l => if l.length = n then g l else fun _ => .no
  | _ => fun _ => .no
theorem SG.tup {es : List Expr} {k n : Nat} {g : List D → M Unit} (hc : X.calm = true) (h : SGs X W G L es g) (hn : (assignEach es X.env).length = n := by rfl) (hst : (assignEach es X.env).findIdx? (·.1) = none := by rfl) : SG X W G L (.Tuple es k pos) (evUnp n g) := by
  obtain ⟨t, p, q⟩ := h.ex
  refine ⟨_, pg_tup hc p hn hst, fun c v d Q s rv h => ?_⟩
  cases d with
  | tup l =>
    cases rv with
    | tup f r ll =>
      have h : ReqS G L W c ((if l.length = n then g l else fun _ => Out.no) c.ρ) _ := h
      by_cases hl : l.length = n
      · rw [if_pos hl] at h
        exact ⟨_, _, rfl, .inl (.inl r), ll.length.trans hl, q c _ _ Q s ll h⟩
      · rw [if_neg hl] at h
        exact h.elim
  | _ => exact h.elim
def evAsg (m : M D) (g : D → M Unit) : M Fl := m.bind fun d => M.bind (g d) fun _ => mpure .nx
theorem SS.asg {m : M D} {g : D → M Unit} (he : SD X W G L e m) (hg : SG X W G L tg g) (hs : swapsWithSole [tg] e pos.line X.env = pure false := by rfl) (hw : swappedStores [tg] e X.env = pure none := by rfl)
    (h1 : (assignEach [tg] X.env).map (·.2) = [assign tg X.env] := by rfl) : SS X W G L (.Assign [tg] e pos) (evAsg m g) := by
  obtain ⟨t, p, q⟩ := he.ex
  obtain ⟨u, p', q'⟩ := hg.ex
  refine ⟨_, ps_asg p p' hs hw h1, fun c D s h => ?_⟩
  refine q c _ s (h.bindE.imp fun d c1 _ e1 x1 s1 h1 v rv => ?_)
  show u v c.σ c1.H D.nx
  rw [← e1]
  exact q' c1 v d _ s1 rv ((ReqS.bind h1).imp fun _ c2 _ x2 s2 h2 => ReqS.here (r := Fl.nx) h2 s2)
/-! ### loops -/
def loopEnd (m : M Fl) : Fl → M Fl
  | .nx => m
  | .ct => m
  | .bk => mpure .nx
  | .rt r => mpure (.rt r)
def whileN (mc : M Bool) (mb : M Fl) : Nat → M Fl
  | 0 => fun _ => .no
  | n + 1 => mc.bind fun k => if k = true then mb.bind (loopEnd (whileN mc mb n)) else mpure .nx
open Classical in
noncomputable def mWhile (mc : M Bool) (mb : M Fl) : M Fl := fun ρ => if h : ∃ n, whileN mc mb n ρ ≠ .no then whileN mc mb (Classical.choose h) ρ else .no
theorem SS.while {mc : M Bool} {mb : M Fl} {body : List Stmt} (hp : PassesOwn (model X.prog X.w) X.A X.env X.xe) (hc : ST X W G L e mc) (hb : SSs X W G L body mb) : SS X W G L (.While e body [] pos) (mWhile mc mb) := by
  obtain ⟨t, p, q⟩ := hc.ex
  obtain ⟨u, p', q'⟩ := hb.ex
  refine ⟨_, ps_while hp p p', fun c D s h => ?_⟩
  unfold mWhile at h
  split at h
  · rename_i hn
    refine ⟨fun m σ H => ∃ c1 : Cf, c1.σ = σ ∧ c1.H = H ∧ Ok G L c1 ∧ Ex G c c1 ∧ ReqS G L W c1 (whileN mc mb m c1.ρ) (EndsP G D c), ⟨_, c, rfl, rfl, s, Ext.refl, h⟩, ?_⟩
    rintro m σ H ⟨c1, rfl, rfl, s1, x1, h1⟩
    cases m with
    | zero => exact h1.elim
    | succ n =>
      refine q c1 _ s1 (h1.bindE.imp fun k c2 _ e2 x2 s2 h2 => ?_)
      cases k with
      | false =>
        rw [if_neg Bool.false_ne_true] at h2 ⊢
        rw [← e2]
        exact ReqS.here (r := Fl.nx) h2 s2
      | true =>
        rw [if_pos rfl] at h2 ⊢
        refine ⟨fun σ' H' => ∃ c1 : Cf, c1.σ = σ' ∧ c1.H = H' ∧ Ok G L c1 ∧ Ex G c c1 ∧ ReqS G L W c1 (whileN mc mb n c1.ρ) (EndsP G D c), fun σ' H' hN => ⟨n, Nat.lt_succ_self n, hN⟩, ?_⟩
        rw [← e2]
        refine q' c2 _ s2 ((ReqS.bind h2).imp fun f c3 _ x3 s3 h3 => ?_)
        have x13 := (x1.trans x2).trans x3
        cases f with
        | nx => exact ⟨c3, rfl, rfl, s3, x13, h3⟩
        | ct => exact ⟨c3, rfl, rfl, s3, x13, h3⟩
        | bk => exact ReqS.here (r := Fl.nx) h3 s3
        | rt r => exact fun v rv => ReqS.here (r := Fl.rt r) h3 s3 v (VR.base (x1.trans x2) rv)
  · exact h.elim
/-- the iterator hands out just these -/
def Iter (G : Gc) (L : Lt) (J : It) (ds : List D) (F : Fz) (H : Hp) : Prop := ∀ c : Cf, Ok G L c → (∀ a, F a → c.F a) → (∀ a, F a → c.H a = H a) → ∀ i,
  (∀ d, ds[i]? = some d → J.go i c.H ∧ ∀ x H', J.yld i c.H x H' → ∃ F', Ex G c ⟨c.σ, c.ρ, F', H'⟩ ∧ Ok G L ⟨c.σ, c.ρ, F', H'⟩ ∧ Rp G.N F' H' x d) ∧ (ds.length = i → J.stop i c.H)
structure SI (X : Cx) (W : WX) (G : Gc) (L : Lt) (tg iter : Expr) (m : M (List D)) : Prop where
  ex : ∃ wi : TI, PI X tg iter wi ∧ ∀ (c : Cf) (R : It → Hp → Prop), Ok G L c → Req G L W c (m c.ρ) (fun ds c' => ∀ J, Iter G L J ds c'.F c'.H → R J c'.H) → wi c.σ c.H R
def loopD (g : D → M Unit) (mb : M Fl) : List D → M Fl
  | [] => mpure .nx
  | d :: ds => M.bind (g d) fun _ => mb.bind (loopEnd (loopD g mb ds))
def mFor (mi : M (List D)) (g : D → M Unit) (mb : M Fl) : M Fl := mi.bind fun ds => loopD g mb ds
theorem SS.for {mi : M (List D)} {g : D → M Unit} {mb : M Fl} {iter : Expr} {body : List Stmt} (hp : PassesOwn (model X.prog X.w) X.A X.env X.xe) (hc : X.calm = true) (hi : SI X W G L tg iter mi) (hg : SG X W G L tg g) (hb : SSs X W G L body mb)
    (hs : ∀ x, foldedSetIterable iter X.env x = pure x := by intro _; rfl) : SS X W G L (.For tg iter body [] pos) (mFor mi g mb) := by
  obtain ⟨wi, p, q⟩ := hi.ex
  obtain ⟨tgt, pg, qg⟩ := hg.ex
  obtain ⟨u, pb, qb⟩ := hb.ex
  refine ⟨_, ps_for hp hc p pg pb hs, fun c D s h => ?_⟩
  refine q c _ s (h.bindE.imp fun ds c1 _ e1 x1 s1 h1 J it => ?_)
  refine ⟨fun i m σ H => m = ds.length - i ∧ i ≤ ds.length ∧ ∃ c2 : Cf, c2.σ = σ ∧ c2.H = H ∧ Ok G L c2 ∧ Ex G c1 c2 ∧ ReqS G L W c2 (loopD g mb (ds.drop i) c2.ρ) (EndsP G D c), ⟨_, rfl, Nat.zero_le _, c1, e1, rfl, s1, Ext.refl, h1⟩, ?_⟩
  rintro i m σ H ⟨rfl, hi, c2, rfl, rfl, s2, x2, h2⟩
  obtain ⟨it1, it2⟩ := it c2 s2 x2.mono (fun a f => x2.fz s1 f) i
  by_cases hlt : i < ds.length
  · refine .inr ?_
    obtain ⟨go, yl⟩ := it1 ds[i] (List.getElem?_eq_getElem hlt)
    refine ⟨go, fun σ' H' => i + 1 ≤ ds.length ∧ ∃ c2 : Cf, c2.σ = σ' ∧ c2.H = H' ∧ Ok G L c2 ∧ Ex G c1 c2 ∧ ReqS G L W c2 (loopD g mb (ds.drop (i + 1)) c2.ρ) (EndsP G D c), fun σ' H' hN => ⟨ds.length - (i + 1), by omega, rfl, hN.1, hN.2⟩, fun x H' y => ?_⟩
    obtain ⟨F', x3, s3, rx⟩ := yl x H' y
    rw [List.drop_eq_getElem_cons hlt] at h2
    have h3 := h2.shift x3
    refine qg ⟨c2.σ, c2.ρ, F', H'⟩ x _ _ s3 rx ((ReqS.bind h3).imp fun _ c4 _ x4 s4 h4 => ?_)
    refine qb c4 _ s4 ((ReqS.bind h4).imp fun f c5 _ x5 s5 h5 => ?_)
    have x15 := ((x2.trans x3).trans x4).trans x5
    cases f with
    | nx => exact ⟨hlt, c5, rfl, rfl, s5, x15, h5⟩
    | ct => exact ⟨hlt, c5, rfl, rfl, s5, x15, h5⟩
    | bk => exact ReqS.here (r := Fl.nx) h5 s5
    | rt r => exact fun v rv => ReqS.here (r := Fl.rt r) h5 s5 v (VR.base (((x1.trans x2).trans x3).trans x4) rv)
  · refine .inl ⟨it2 (by omega), ?_⟩
    have e : ds.drop i = [] := List.drop_eq_nil_of_le (by omega)
    rw [e] at h2
    exact ReqS.here (r := Fl.nx) h2 s2
def dSeq : D → Option (List D)
  | .lst l => some l
  | .tup l => some l
  | _ => none
def dLst : D → Option (List D)
  | .lst l => some l
  | _ => none
def dTup : D → Option (List D)
  | .tup l => some l
  | _ => none
theorem iter_tup {a : Addr} {xs : List V} {ds : List D} {K : PySem.W.Frag} {F : Fz} {H : Hp} (f : F a) (r : H a = some (.tup xs)) (rl : RpL G.N F H xs ds) : Iter G L (Itt K a) ds F H := by
  intro c s hF hH i
  have r' : Rd c.H a (.tup xs) := .inl ((hH a f).trans r)
  have rl' : RpL G.N c.F c.H xs ds := rl.mono hF hH
  refine ⟨fun d hd => ?_, fun hl => ⟨xs, .inl r', by rw [rl.length]; exact Nat.le_of_eq hl⟩⟩
  obtain ⟨y, e1, e2⟩ := rl'.get hd
  refine ⟨⟨xs, y, .inl r', e1⟩, fun x H' z => ?_⟩
  obtain ⟨z1, z2⟩ := z
  have := z2 xs (.inl r')
  rw [e1] at this
  cases this
  subst z1
  exact ⟨c.F, Ext.refl, s, e2⟩
end
end Ev

/-! EvE: what is walked, objects changed through their slots, returns, isinstance, repr. -/
namespace Ev
open PySem PySem.Spec PyProof.Rows L2
section
variable {X : Cx} {W : WX} {G : Gc} {L : Lt} {e a b tg : Expr} {pos : Pos} {c c0 c1 : Cf} {st : Stmt} {sts : List Stmt} {es : List Expr}

/-! ### what is walked -/
theorem PI.or {l : Expr} {w1 w2 : TI} (h1 : PI X tg l w1) (h2 : PI X tg l w2) : PI X tg l (fun σ H R => w1 σ H R ∨ w2 σ H R) :=
  ⟨fun pins s σ H R I h => h.elim (h1.run pins s σ H R I) (h2.run pins s σ H R I)⟩
def evSeq (m : M D) : M (List D) := m.bind fun d => liftO (dSeq d)
theorem iter_list' {a : Addr} {xs : List V} {ds : List D} {K : PySem.W.Frag} {F : Fz} {H : Hp} (f : F a) (r : H a = some (.lst xs)) (rl : RpL G.N F H xs ds) : Iter G L (Itl K a) ds F H := by
  intro c s hF hH i
  have r' : Rd c.H a (.lst xs) := .inl ((hH a f).trans r)
  have rl' : RpL G.N c.F c.H xs ds := rl.mono hF hH
  refine ⟨fun d hd => ?_, fun hl => ⟨xs, .inl r', by rw [rl.length]; exact Nat.le_of_eq hl⟩⟩
  obtain ⟨y, e1, e2⟩ := rl'.get hd
  refine ⟨⟨xs, y, .inl r', e1⟩, fun x H' z => ?_⟩
  obtain ⟨z1, z2⟩ := z
  have := z2 xs (.inl r')
  rw [e1] at this
  cases this
  subst z1
  exact ⟨c.F, Ext.refl, s, e2⟩
/-- a list or a tuple -/
theorem SI.seq {m : M D} (h : SD X W G L e m) : SI X W G L tg e (evSeq m) := by
  obtain ⟨t, p, q⟩ := h.ex
  refine ⟨_, PI.or (pi_list p) (pi_tup p), fun c R s h => ?_⟩
  have h : Req G L W c ((m c.ρ).bind fun d => liftO (dSeq d)) _ := h
  cases em : m c.ρ with
  | no => rw [em] at h; exact h.elim
  | ex d ρ => rw [em] at h; exact .inl (q c _ s (by rw [em]; exact h))
  | ok d ρ =>
    rw [em] at h
    have h : Req G L W c (liftO (dSeq d) ρ) _ := h
    cases d with
    | lst l =>
      refine .inl (q c _ s ?_)
      rw [em]
      intro F' H' x s' v rv
      cases rv with
      | lst f r ll => exact ⟨_, rfl, ⟨_, .inl (.inl r)⟩, h F' H' x s' _ (iter_list' f r ll)⟩
    | tup l =>
      refine .inr (q c _ s ?_)
      rw [em]
      intro F' H' x s' v rv
      cases rv with
      | tup f r ll => exact ⟨_, rfl, ⟨_, .inl (.inl r)⟩, h F' H' x s' _ (iter_tup f r ll)⟩
    | _ => exact h.elim
def rangeL (lo : Int) (n : Nat) : List D := (List.range n).map fun (i : Nat) => D.int (lo + i)
theorem iter_range {lo : Int} {n : Nat} {F : Fz} {H : Hp} : Iter G L (Itr lo n) (rangeL lo n) F H := by
  intro c s hF hH i
  have hl : (rangeL lo n).length = n := by unfold rangeL; rw [List.length_map, List.length_range]
  refine ⟨fun d hd => ?_, fun h => by rw [hl] at h; exact Nat.le_of_eq h⟩
  have hi : i < n := by
    have := (List.getElem?_eq_some_iff.mp hd).1
    omega
  refine ⟨hi, fun x H' z => ?_⟩
  obtain ⟨rfl, rfl⟩ := z
  unfold rangeL at hd
  rw [List.getElem?_map, List.getElem?_range hi] at hd
  cases hd
  exact ⟨c.F, Ext.refl, s, .int _⟩
def inR (i : Int) : Bool := decide (-(2 ^ 62) ≤ i) && decide (i < 2 ^ 62)
theorem inR_ok {i : Int} (h : inR i = true) : -(2 ^ 62) ≤ i ∧ i < 2 ^ 62 := by
  unfold inR at h
  rw [Bool.and_eq_true] at h
  exact ⟨of_decide_eq_true h.1, of_decide_eq_true h.2⟩
def rng1 : List D → Option (List D)
  | [.int j] => if inR j then some (rangeL 0 j.toNat) else none
  | _ => none
def rng2 : List D → Option (List D)
  | [.int i, .int j] => if inR i && inR j then some (rangeL i (j - i).toNat) else none
  | _ => none
def evL {α : Type} (f : List D → Option α) (m : M (List D)) : M α := m.bind fun l => liftO (f l)
theorem SI.range1 {p : Pos} {m : M (List D)} (hg : Gl X "range") (hm : X.mg "range" = none) (h : SA X W G L [a] m) (hs : starEach [a] X.env = [(false, eval a X.env)] := by rfl) : SI X W G L tg (.Call (.Name "range" p) [a] [] pos) (evL rng1 m) := by
  obtain ⟨t, pa, q⟩ := h.ex
  refine ⟨_, pi_range1 hg hm pa hs, fun c R s h => ?_⟩
  refine q c _ s ((Req.bind h).imp fun l c1 _ e1 x1 s1 h1 vs rv => ?_)
  obtain ⟨ds, er, h1⟩ := liftO_req h1
  unfold rng1 at er
  split at er
  · rename_i j
    cases rv with
    | cons r1 r2 =>
      cases r2
      cases r1
      split at er
      · rename_i hj
        cases er
        obtain ⟨z1, z2⟩ := inR_ok hj
        exact ⟨_, rfl, z1, z2, Req.here h1 s1 _ iter_range⟩
      · cases er
  · cases er
theorem SI.range2 {p : Pos} {m : M (List D)} (hg : Gl X "range") (hm : X.mg "range" = none) (h : SA X W G L [a, b] m) (hs : starEach [a, b] X.env = [(false, eval a X.env), (false, eval b X.env)] := by rfl) (hs2 : starEach [b] X.env = [(false, eval b X.env)] := by rfl) : SI X W G L tg (.Call (.Name "range" p) [a, b] [] pos) (evL rng2 m) := by
  obtain ⟨t, pa, q⟩ := h.ex
  refine ⟨_, pi_range2 hg hm pa hs hs2, fun c R s h => ?_⟩
  refine q c _ s ((Req.bind h).imp fun l c1 _ e1 x1 s1 h1 vs rv => ?_)
  obtain ⟨ds, er, h1⟩ := liftO_req h1
  unfold rng2 at er
  split at er
  · rename_i i j
    cases rv with
    | cons r1 r2 =>
      cases r2 with
      | cons r2 r3 =>
        cases r3
        cases r1
        cases r2
        split at er
        · rename_i hj
          cases er
          rw [Bool.and_eq_true] at hj
          obtain ⟨z1, z2⟩ := inR_ok hj.1
          obtain ⟨z3, z4⟩ := inR_ok hj.2
          exact ⟨_, _, rfl, ⟨z1, z2, z3, z4⟩, Req.here h1 s1 _ iter_range⟩
        · cases er
  · cases er

/-! ### return of a name -/
def evMove (i : Nat) : M Vl := fun ρ => match ρ[i]? with
  | some (.fz d) => .ok (.fz d) ρ
  | some (.lf d) => .ok (.fz d) ρ
  | some (.ow d) => .ok (.nw d) (ρ.set i .un)
  | some (.ln d) => .ok (.fz d) (ρ.set i (.lf d))
  | _ => .no
/-- slot i lets its object go -/
theorem Ok.move {i : Nat} {p : Addr} {d : D} (s : Ok G L c) (e : c.ρ[i]? = some (.ow d)) (q : c.σ[i]? = some (some (V.ref p))) (ow : Ow G.N c.F c.H p d) :
    Ok G L ⟨c.σ, c.ρ.set i .un, c.F, c.H⟩ ∧ Ex G c ⟨c.σ, c.ρ.set i .un, c.F, c.H⟩ ∧ ¬ Own G c.σ (c.ρ.set i .un) p := by
  have hi : i < c.ρ.length := (List.getElem?_eq_some_iff.mp e).1
  have at_ : ∀ (j : Nat) (u : Sl), (c.ρ.set i .un)[j]? = some u → (j = i ∧ u = .un) ∨ (j ≠ i ∧ c.ρ[j]? = some u) := fun j u z => by
    by_cases hj : j = i
    · subst hj
      rw [List.getElem?_set_self hi] at z
      exact .inl ⟨rfl, (Option.some.inj z).symm⟩
    · rw [List.getElem?_set_ne (Ne.symm hj)] at z
      exact .inr ⟨hj, z⟩
  have ownN : ∀ b, Own G c.σ (c.ρ.set i .un) b → c.own G b ∧ b ≠ p := fun b z => by
    rcases z with z | ⟨j, u, z, w, qj⟩
    · refine ⟨.inl z, fun y => ?_⟩
      subst y
      obtain ⟨ps, y⟩ := G.tbAt s.tabs z
      obtain ⟨u, y2, m⟩ := ow.at
      rw [y] at y2
      cases y2
      cases m
    · rcases at_ j u z with ⟨ej, eu⟩ | ⟨hj, zj⟩
      · rw [eu] at w; cases w
      · refine ⟨.inr ⟨j, u, zj, w, qj⟩, fun y => ?_⟩
        subst y
        exact s.sep j i u _ _ hj zj w e rfl qj q
  refine ⟨⟨?_, ?_, ?_, ?_, ?_, s.trk, s.tabs⟩, ⟨fun _ _ z _ => z, fun _ z => z, fun _ z => .inl z, fun b z => .inl (ownN b z).1⟩, fun z => (ownN p z).2 rfl⟩
  · rw [List.length_set]; exact s.len
  · intro j u z
    rcases at_ j u z with ⟨ej, eu⟩ | ⟨hj, zj⟩
    · rw [eu]; trivial
    · exact s.sl j u zj
  · intro j k u w p hjk z0 wu z2 ww q1 q2
    rcases at_ j u z0 with ⟨ej, eu⟩ | ⟨hj, zj⟩
    · rw [eu] at wu; cases wu
    · rcases at_ k w z2 with ⟨ek, ew⟩ | ⟨hk, zk⟩
      · rw [ew] at ww; cases ww
      · exact s.sep j k u w p hjk zj wu zk ww q1 q2
  · intro j p z
    obtain ⟨h1, d2, h2⟩ := s.lent j p z
    have hj : j ≠ i := fun y => by
      subst y
      rw [e] at h2
      rcases h2 with h2 | h2 <;> cases h2
    refine ⟨h1, d2, ?_⟩
    show (c.ρ.set i .un)[j]? = _ ∨ (c.ρ.set i .un)[j]? = _
    rw [List.getElem?_set_ne (Ne.symm hj)]
    exact h2
  · intro j d2 z
    rcases z with z | z
    · rcases at_ j _ z with ⟨ej, eu⟩ | ⟨hj, zj⟩
      · cases eu
      · exact s.lnL j d2 (.inl zj)
    · rcases at_ j _ z with ⟨ej, eu⟩ | ⟨hj, zj⟩
      · cases eu
      · exact s.lnL j d2 (.inr zj)
theorem SE.move (i : Nat) {x : Str} (hN : X.N[i]? = some x) (hv : Vis X.env.scope x) (hd : (x == ("__debug__" : Str)) = false := by decide) (hcd : (x == ("__classdict__" : Str)) = false := by decide) : SE X W G L (.Name x pos) (evMove i) := by
  refine ⟨tLkR (tVar i), pe_lkR (pe_var hN hv hd hcd), fun c Q s r => ?_⟩
  unfold evMove at r
  cases e : c.ρ[i]? with
  | none => rw [e] at r; exact r.elim
  | some t =>
    rw [e] at r
    cases t with
    | un => exact r.elim
    | cl f => exact r.elim
    | fz d =>
      obtain ⟨v, h1, h2⟩ := s.sl i _ e
      exact ⟨v, h1, .inl (r _ _ Ext.refl s _ h2)⟩
    | lf d =>
      obtain ⟨v, h1, h2⟩ := s.sl i _ e
      exact ⟨v, h1, .inl (r _ _ Ext.refl s _ h2)⟩
    | ow d =>
      obtain ⟨a, h1, h2⟩ := s.sl i _ e
      obtain ⟨z1, z2, z3⟩ := Ok.move s e h1 h2
      exact ⟨.ref a, h1, .inl (r _ _ z2 z1 _ ⟨a, rfl, h2, z3, .inr (.inr ⟨i, _, e, rfl, h1⟩)⟩)⟩
    | ln d =>
      obtain ⟨a, h1, h2⟩ := s.sl i _ e
      by_cases nd : isDct d = true
      · cases d with
        | dct l =>
          obtain ⟨nf, xs, ex, rl⟩ := h2
          refine ⟨.ref a, h1, .inr ⟨a, xs, rfl, ex, fun od => ?_⟩⟩
          obtain ⟨z1, z2, z3⟩ := StR.giveT (od := od) s e rfl h1 (.inr rfl) ex rl nf
          exact r _ _ z2 z1 _ z3
        | _ => cases nd
      · obtain ⟨z1, z2, z3⟩ := StR.give s e rfl h1 (.inr rfl) (by simpa using nd)
        exact ⟨.ref a, h1, .inl (r _ _ z2 z1 _ z3)⟩

/-! ### an object changed through its slot -/
def reSl : Sl → D → Sl
  | .ow _, d => .ow d
  | .ln _, d => .ln d
  | s, _ => s
def updSlot (i : Nat) (f : D → Option D) : M Unit := fun ρ => match ρ[i]? with
  | some (.ow d) => match f d with
    | some d' => .ok () (ρ.set i (.ow d'))
    | none => .no
  | some (.ln d) => match f d with
    | some d' => .ok () (ρ.set i (.ln d'))
    | none => .no
  | _ => .no
/-- slot i's object at p is written -/
theorem Ok.mut {i : Nat} {p : Addr} {t : Sl} {d' : D} {o : HO} (s : Ok G L c) (e : c.ρ[i]? = some t) (w : isOw t = true) (q : c.σ[i]? = some (some (V.ref p)))
    (ow' : Ow G.N c.F (upd c.H p o) p d') : Ok G L ⟨c.σ, c.ρ.set i (reSl t d'), c.F, upd c.H p o⟩ ∧ Ex G c ⟨c.σ, c.ρ.set i (reSl t d'), c.F, upd c.H p o⟩ := by
  have hi : i < c.ρ.length := (List.getElem?_eq_some_iff.mp e).1
  obtain ⟨p', d, q', ow, ht⟩ := s.own e w
  rw [q] at q'
  cases q'
  have own : c.own G p := .inr ⟨i, t, e, w, q⟩
  have wre : isOw (reSl t d') = true := by rcases ht with rfl | rfl <;> rfl
  have at_ : ∀ (j : Nat) (u : Sl), (c.ρ.set i (reSl t d'))[j]? = some u → (j = i ∧ u = reSl t d') ∨ (j ≠ i ∧ c.ρ[j]? = some u) := fun j u z => by
    by_cases hj : j = i
    · subst hj
      rw [List.getElem?_set_self hi] at z
      exact .inl ⟨rfl, (Option.some.inj z).symm⟩
    · rw [List.getElem?_set_ne (Ne.symm hj)] at z
      exact .inr ⟨hj, z⟩
  have keepF : ∀ b, c.F b → upd c.H p o b = c.H b := fun b f => upd_ne fun y => by subst y; exact s.notOwn f own
  have ownN : ∀ b, Own G c.σ (c.ρ.set i (reSl t d')) b → c.own G b := fun b z => by
    rcases z with z | ⟨j, u, z, wu, qj⟩
    · exact .inl z
    · rcases at_ j u z with ⟨ej, eu⟩ | ⟨hj, zj⟩
      · subst ej
        exact .inr ⟨j, t, e, w, qj⟩
      · exact .inr ⟨j, u, zj, wu, qj⟩
  refine ⟨⟨?_, ?_, ?_, ?_, ?_, fun b f => ?_, ?_⟩, ⟨fun b u z n => ?_, fun _ z => z, fun _ z => .inl z, fun b z => .inl (ownN b z)⟩⟩
  · rw [List.length_set]; exact s.len
  · intro j u z
    rcases at_ j u z with ⟨ej, eu⟩ | ⟨hj, zj⟩
    · rw [eu, ej]
      rcases ht with rfl | rfl
      · exact ⟨p, q, ow'⟩
      · exact ⟨p, q, ow'⟩
    · refine (s.sl j u zj).mono (fun _ f => f) keepF fun wu b qb => ?_
      obtain ⟨b', dd, qb', owb, _⟩ := s.own zj wu
      rw [qb] at qb'
      cases qb'
      refine ⟨owb.nf, upd_ne fun y => ?_⟩
      subst y
      exact s.sep j i u t _ hj zj wu e w qb q
  · intro j k u x p hjk z0 wu z2 ww q1 q2
    rcases at_ j u z0 with ⟨ej, eu⟩ | ⟨hj, zj⟩
    · subst ej
      rcases at_ k x z2 with ⟨ek, ew⟩ | ⟨hk, zk⟩
      · exact hjk ek.symm
      · exact s.sep j k t x p hjk e w zk ww q1 q2
    · rcases at_ k x z2 with ⟨ek, ew⟩ | ⟨hk, zk⟩
      · subst ek
        exact s.sep j k u t p hjk zj wu e w q1 q2
      · exact s.sep j k u x p hjk zj wu zk ww q1 q2
  · intro j pp z
    obtain ⟨h1, d2, h2⟩ := s.lent j pp z
    refine ⟨h1, ?_⟩
    by_cases hj : j = i
    · subst hj
      rw [e] at h2
      refine ⟨d', .inl ?_⟩
      show (c.ρ.set j (reSl t d'))[j]? = _
      rw [List.getElem?_set_self hi]
      rcases h2 with h2 | h2
      · cases h2; rfl
      · cases h2; cases w
    · refine ⟨d2, ?_⟩
      show (c.ρ.set i (reSl t d'))[j]? = _ ∨ (c.ρ.set i (reSl t d'))[j]? = _
      rw [List.getElem?_set_ne (Ne.symm hj)]
      exact h2
  · intro j d2 z
    have go : ∀ u : Sl, (u = .ln d2 ∨ u = .lf d2) → (c.ρ.set i (reSl t d'))[j]? = some u → ∃ a, L[j]? = some (some a) := fun u hu z => by
      rcases at_ j u z with ⟨ej, eu⟩ | ⟨hj, zj⟩
      · subst ej
        rcases ht with rfl | rfl
        · rcases hu with rfl | rfl <;> cases eu
        · exact s.lnL j d (.inl e)
      · rcases hu with rfl | rfl
        · exact s.lnL j d2 (.inl zj)
        · exact s.lnL j d2 (.inr zj)
    rcases z with z | z
    · exact go _ (.inl rfl) z
    · exact go _ (.inr rfl) z
  · obtain ⟨⟨u, z⟩, n⟩ := s.trk b f
    exact ⟨⟨u, (keepF b f).trans z⟩, n⟩
  · exact G.tabsUpd s.tabs (.inr ow.at)
  · have nb : b ≠ p := fun y => by subst y; exact n own
    exact (upd_ne nb).trans z
theorem updSlot_req {i : Nat} {f : D → Option D} {ρ : Rho} {P : Unit → Cf → Prop} (h : ReqS G L W c (updSlot i f ρ) P) : ∃ t d d', ρ[i]? = some t ∧ isOw t = true ∧ (t = .ow d ∨ t = .ln d) ∧ f d = some d' ∧ ReqS G L W c (.ok () (ρ.set i (reSl t d'))) P := by
  unfold updSlot at h
  split at h
  · rename_i d e
    cases ef : f d with
    | none => rw [ef] at h; exact h.elim
    | some d' => rw [ef] at h; exact ⟨_, d, d', e, rfl, .inl rfl, ef, h⟩
  · rename_i d e
    cases ef : f d with
    | none => rw [ef] at h; exact h.elim
    | some d' => rw [ef] at h; exact ⟨_, d, d', e, rfl, .inr rfl, ef, h⟩
  · exact h.elim
theorem updSlot_reqE {i : Nat} {f : D → Option D} {ρ : Rho} {P : Unit → Cf → Prop} (h : Req G L W c (updSlot i f ρ) P) : ∃ t d d', ρ[i]? = some t ∧ isOw t = true ∧ (t = .ow d ∨ t = .ln d) ∧ f d = some d' ∧ Req G L W c (.ok () (ρ.set i (reSl t d'))) P := by
  unfold updSlot at h
  split at h
  · rename_i d e
    cases ef : f d with
    | none => rw [ef] at h; exact h.elim
    | some d' => rw [ef] at h; exact ⟨_, d, d', e, rfl, .inl rfl, ef, h⟩
  · rename_i d e
    cases ef : f d with
    | none => rw [ef] at h; exact h.elim
    | some d' => rw [ef] at h; exact ⟨_, d, d', e, rfl, .inr rfl, ef, h⟩
  · exact h.elim
/-- xs[i] = v of a list -/
def putIx (y d : D) : D → Option D
  | .lst l => match y with
    | .int i => (ixN l.length i).map fun j => .lst (l.set j d)
    | _ => none
  | _ => none
def gIx (k : Nat) (mi : M D) (d : D) : M Unit := evLook k (mi.bind fun y => updSlot k (putIx y d))
theorem SG.ix (k : Nat) {x : Str} {p : Pos} {mi : M D} (hN : X.N[k]? = some x) (hv : Vis X.env.scope x) (hi : SD X W G L b mi)
    (ha : ∀ v, assign (.Subscript (.Name x p) b pos) X.env v = (do
      let ov ← holding [v] (eval (.Name x p) X.env)
      let iv ← holding [v, ov] (eval b X.env)
      standAt pos
      holding [v, ov, iv] (setItem ov iv v)
      release [v, ov, iv] []) := by intro _; rfl) (hd : (x == ("__debug__" : Str)) = false := by decide) (hcd : (x == ("__classdict__" : Str)) = false := by decide) : SG X W G L (.Subscript (.Name x p) b pos) (gIx k mi) := by
  obtain ⟨tb, pb, qb⟩ := hi.ex
  refine ⟨_, pg_sub (pe_var hN hv hd hcd) pb set_list ha, fun c v d Q s rv h => ?_⟩
  unfold gIx evLook at h
  cases es : slotD c.ρ k with
  | none => rw [es] at h; exact h.elim
  | some d0 =>
    rw [es] at h
    obtain ⟨o, h1, _⟩ := look (x := x) s es
    refine ⟨o, h1, ?_⟩
    refine qb c _ s (h.bindE.imp fun y c1 _ e1 x1 s1 h2 u ru => ?_)
    obtain ⟨t, dd, d', et, w, ht, ef, h2⟩ := updSlot_req h2
    obtain ⟨p, d2, q, ow, ht2⟩ := s1.own et w
    have e3 : d2 = dd := by rcases ht with rfl | rfl <;> rcases ht2 with z | z <;> cases z <;> rfl
    subst e3
    rw [e1, h1] at q
    cases q
    cases d2 with
    | lst l =>
      cases y with
      | int i =>
        cases ru
        obtain ⟨nf, xs, hx, ll⟩ := ow
        obtain ⟨j, ej, rfl⟩ := Option.map_eq_some_iff.mp (show (ixN l.length i).map _ = some d' from ef)
        refine ⟨p, xs, i, j, rfl, rfl, hx, by rw [ll.length]; exact ej, ?_⟩
        have rv1 := x1.rp s rv
        have ke : ∀ b, c1.F b → upd c1.H p (.lst (xs.set j v)) b = c1.H b := fun b f => upd_ne fun z => by subst z; exact nf f
        obtain ⟨s2, x2⟩ := Ok.mut (o := .lst (xs.set j v)) (d' := .lst (l.set j d)) s1 et w (by rw [e1]; exact h1) ⟨nf, _, upd_same, (ll.set rv1 j).mono (fun _ f => f) ke⟩
        have h3 := h2 _ _ _ x2 s2
        rw [e1] at h3
        exact h3
      | _ => cases ef
    | _ => cases ef
/-- xs.append(e), a slot's list -/
def app1 (d : D) : D → Option D
  | .lst l => if decide (l.length < 16777216) then some (.lst (l ++ [d])) else none
  | _ => none
def isLst : D → Bool
  | .lst _ => true
  | _ => false
def evLookL {α : Type} (i : Nat) (m : M α) : M α := fun ρ => match slotD ρ i with
  | some d => if isLst d = true then m ρ else .no
  | none => .no
theorem lookL {i : Nat} {d : D} {x : Str} (s : Ok G L c) (h : slotD c.ρ i = some d) (hl : isLst d = true) : ∃ p xs, c.σ[i]? = some (some (V.ref p)) ∧ Rd c.H p (.lst xs) := by
  obtain ⟨v, h1, h2⟩ := look (x := x) s h
  cases d with
  | lst l =>
    rcases h2 with h2 | ⟨a, rfl, _, xs, q, _⟩
    · cases h2 with
      | lst f r ll => exact ⟨_, _, h1, .inl r⟩
    · exact ⟨a, xs, h1, .inl q⟩
  | _ => cases hl
/-- a list's method that changes it -/
def MutOk (G : Gc) (r : V → List V → Hp → VK → Prop) (f : List D → D → Option D) : Prop := ∀ (F : Fz) (H : Hp) (p : Addr) (xs : List V) (l : List D) (vs : List V) (ds : List D) (d' : D) (Q : VK), ¬ F p → H p = some (.lst xs) → RpL G.N F H xs l → RpL G.N F H vs ds → f ds (.lst l) = some d' →
  (∀ ys, (∃ l', d' = .lst l' ∧ RpL G.N F H ys l') → Q .non (upd H p (.lst ys))) → r (.ref p) vs H Q
def onLst (f : D → Option D) : D → Option D
  | .lst l => f (.lst l)
  | _ => none
def evMut (k : Nat) (f : List D → D → Option D) (m : M (List D)) : M D := evLookL k (m.bind fun ds => M.bind (updSlot k (onLst (f ds))) fun _ => mpure .non)
theorem SD.mut (k : Nat) {x : Str} {name : Str} {id : String} {p ap : Pos} {es : List Expr} {m : M (List D)} {r : V → List V → Hp → VK → Prop} {f : List D → D → Option D} (slot : Slot "list" name id) (hty : typeOf (.builtin id) = pure (.type "method_descriptor")) (hm : MtR X id r) (hf : MutOk G r f)
    (hN : X.N[k]? = some x) (hv : Vis X.env.scope x) (h : SA X W G L (e :: es) m)
    (hbase : attributeBase (.Name x p) name X.env (eval (.Name x p) X.env) = eval (.Name x p) X.env := by rfl)
    (hfew : ((backTo pos (starEach (e :: es) X.env)).all (fun x => !x.1) && (backToKw pos (keywordEach [] X.env)).all (fun x => x.1.isSome)
      && decide ((e :: es).length + ([] : List Keyword).length + (if ([] : List Keyword).isEmpty then 0 else 1) < 30)) = true := by rfl)
    (hline : (ap.endLine == pos.line) = true := by rfl) (hs : starEach (e :: es) X.env = (false, eval e X.env) :: starEach es X.env := by rfl) (hplain : (backTo pos (starEach es X.env)).any (·.1) = false := by rfl)
    (hd : (x == ("__debug__" : Str)) = false := by decide) (hcd : (x == ("__classdict__" : Str)) = false := by decide) : SD X W G L (.Call (.Attribute (.Name x p) name ap) (e :: es) [] pos) (evMut k f m) := by
  obtain ⟨t, pa, q⟩ := h.ex
  refine ⟨_, pe_bm PySem.F.plainAttrs_list slot hty hm (pe_var hN hv hd hcd) pa hbase hfew hline hs hplain, fun c Q s h => ?_⟩
  unfold evMut evLookL at h
  cases es : slotD c.ρ k with
  | none => rw [es] at h; exact h.elim
  | some d0 =>
    rw [es] at h
    by_cases hl : isLst d0 = true
    · simp only [hl, if_true] at h
      obtain ⟨a, xs0, h1, ho⟩ := lookL (x := x) s es hl
      refine ⟨.ref a, h1, .inl ⟨rfl, _, .inl ho⟩, ?_⟩
      refine q c _ s ((Req.bind h).imp fun ds c1 _ e1 x1 s1 h2 vs rv => ?_)
      have h2 := updSlot_reqE (f := onLst (f ds)) (P := fun _ c2 => Req G L W c2 (mpure D.non c2.ρ) (fun d c' => ∀ v, Rp G.N c'.F c'.H v d → Q v c'.H)) (Req.bind h2)
      obtain ⟨t, dd, d', et, w, ht, ef, h2⟩ := h2
      obtain ⟨p, d2, q, ow, ht2⟩ := s1.own et w
      have e3 : d2 = dd := by rcases ht with rfl | rfl <;> rcases ht2 with z | z <;> cases z <;> rfl
      subst e3
      have q' := q
      rw [e1, h1] at q
      cases q
      cases d2 with
      | lst l =>
        obtain ⟨nf, xs, hx, ll⟩ := ow
        refine hf c1.F c1.H a xs l vs ds d' Q nf hx ll rv ef fun ys ⟨l', el, ry⟩ => ?_
        subst el
        have ke : ∀ b, c1.F b → upd c1.H a (.lst ys) b = c1.H b := fun b f => upd_ne fun z => by subst z; exact nf f
        obtain ⟨s2, x2⟩ := Ok.mut (o := .lst ys) (d' := .lst l') s1 et w q' ⟨nf, _, upd_same, ry.mono (fun _ f => f) ke⟩
        exact Req.here (c := ⟨c1.σ, c1.ρ.set k (reSl t (.lst l')), c1.F, upd c1.H a (.lst ys)⟩) (r := D.non) (h2 _ _ x2 s2) s2 _ .non
      | _ => cases ef
    · simp only [hl] at h
      exact h.elim
def fApp : List D → D → Option D
  | [d], .lst l => if l.length < 16777216 then some (.lst (l ++ [d])) else none
  | _, _ => none
theorem fApp_ok : MutOk G rAppend fApp := by
  intro F H p xs l vs ds d' Q nf hx ll rv ef hq
  unfold fApp at ef
  split at ef
  · rename_i d l0 z
    cases z
    cases rv with
    | cons r1 r2 =>
      cases r2
      split at ef
      · rename_i hz
        cases ef
        exact ⟨p, xs, _, rfl, rfl, hx, by rw [ll.length, sizeLine_eq]; exact hz, hq _ ⟨_, rfl, ll.append (.cons r1 .nil)⟩⟩
      · cases ef
  · cases ef
/-! ### isinstance -/
/-- the kinds of built-in values -/
inductive Tg where | non | bool | int | str | list | tuple | dict
def Tg.nm : Tg → String
  | .non => "NoneType" | .bool => "bool" | .int => "int" | .str => "str" | .list => "list" | .tuple => "tuple" | .dict => "dict"
def subTy : Tg → Ty → Bool
  | .bool, .bool => true
  | .bool, .int => true
  | .int, .int => true
  | .str, .str => true
  | .list, .list => true
  | .tuple, .tuple => true
  | .dict, .dict => true
  | _, _ => false
theorem subTy_ok {K : PySem.W.Frag} (t : Tg) (n : Ty) : PySem.W.kitOne K (.type t.nm) (.type n.nm) = some (subTy t n) := by
  cases t <;> cases n <;> exact kit_ty (by decide +kernel)
def tgOf : D → Option Tg
  | .non => some .non
  | .bl _ => some .bool
  | .int _ => some .int
  | .str _ => some .str
  | .lst _ => some .list
  | .tup _ => some .tuple
  | .dic _ => some .dict
  | _ => none
theorem tgOf_ok {K : PySem.W.Frag} {F : Fz} {H : Hp} {v : V} {d : D} {t : Tg} (r : Rp G.N F H v d) (h : tgOf d = some t) : TyX K H v (.type t.nm) := by
  cases r with
  | non => cases h; exact .base .non
  | bl b => cases h; exact .base (.bl b)
  | int i => cases h; exact .base (.int i)
  | str x => cases h; exact .base (.str x)
  | lst f r l =>
    cases h
    exact .base (.lst r)
  | tup f r l =>
    cases h
    exact .base (.tup r)
  | dic f r l => cases h; exact .base (.dK r)
  | _ => cases h
def isOne (d : D) : D → Option Bool
  | .ty n => (tgOf d).map fun t => subTy t n
  | _ => none
def allTy : List D → Option (List Ty)
  | [] => some []
  | .ty n :: l => (allTy l).map (n :: ·)
  | _ => none
def isAny (d : D) (l : List D) : Option Bool := match allTy l, tgOf d with
  | some ns, some t => some (ns.any (subTy t))
  | _, _ => none
def bIsi : List D → Option Vl
  | [d, .tup l] => (isAny d l).map fun b => .fz (.bl b)
  | [d, c] => (isOne d c).map fun b => .fz (.bl b)
  | _ => none
theorem isOne_ok {K : PySem.W.Frag} {F : Fz} {H : Hp} {v u : V} {d c : D} {b : Bool} (rd : Rp G.N F H v d) (rc : Rp G.N F H u c) (h : isOne d c = some b) : ∃ t w, ClsV u w ∧ TyX K H v t ∧ PySem.W.kitOne K t w = some b := by
  cases c with
  | ty n =>
    cases rc
    obtain ⟨t, e, rfl⟩ := Option.map_eq_some_iff.mp (show (tgOf d).map _ = some b from h)
    exact ⟨_, _, .ty _, tgOf_ok rd e, subTy_ok t n⟩
  | _ => cases h
theorem allTy_ok {F : Fz} {H : Hp} : ∀ {l : List D} {us : List V} {ns : List Ty}, RpL G.N F H us l → allTy l = some ns → us = ns.map fun n => .ty n.nm
  | [], _, _, r, h => by cases r; cases h; rfl
  | c :: l, _, _, r, h => by
    cases r with
    | cons r1 r2 =>
      cases c with
      | ty n =>
        obtain ⟨ms, e, rfl⟩ := Option.map_eq_some_iff.mp (show (allTy l).map (n :: ·) = some _ from h)
        cases r1
        rw [allTy_ok r2 e]
        rfl
      | _ => cases h
theorem clsV_all : ∀ ns : List Ty, Paired ClsV (ns.map fun n => V.ty n.nm) (ns.map fun n => Value.type n.nm)
  | [] => .nil
  | n :: ns => .cons (.ty _) (clsV_all ns)
theorem kitAny_ty {K : PySem.W.Frag} {t : Tg} : ∀ ns : List Ty, PySem.W.kitAny K (.type t.nm) (ns.map fun n => Value.type n.nm) = some (ns.any (subTy t))
  | [] => rfl
  | n :: ns => by
    cases es : subTy t n with
    | true => exact kitAny_cons ((subTy_ok t n).trans (by rw [es])) (fun z => by cases z) (fun _ => by simp [es])
    | false => exact kitAny_cons ((subTy_ok t n).trans (by rw [es])) (fun _ => by rw [kitAny_ty ns]; simp [es]) (fun z => by cases z)
theorem CallR.or {id : Value} {r r' : List V → Hp → VK → Prop} (h : CallR X id r) (h' : CallR X id r') : CallR X id (fun xs H Q => r xs H Q ∨ r' xs H Q) := by
  intro pins s σ H xs us Q I rx q
  rcases q with q | q
  · exact h pins s σ H xs us Q I rx q
  · exact h' pins s σ H xs us Q I rx q
theorem bIsi_ok : CallOk X W G L (fun xs H Q => rIsi X.K xs H Q ∨ rIsiT X.K xs H Q) bIsi := by
  intro c0 c ds vs Q _ ex s r hr
  obtain ⟨w, er, hr⟩ := liftO_req hr
  unfold bIsi at er
  split at er
  · rename_i d l
    obtain ⟨b, e, rfl⟩ := Option.map_eq_some_iff.mp er
    unfold isAny at e
    split at e
    · rename_i ns t e1 e2
      cases e
      cases r with
      | cons r1 r2 =>
        cases r2 with
        | cons r2 r3 =>
          cases r3
          cases r2 with
          | tup f rr ll =>
            have h1 := allTy_ok ll e1
            subst h1
            exact .inr ⟨_, _, _, _, _, _, rfl, rr, clsV_all ns, tgOf_ok r1 e2, kitAny_ty ns, Req.here hr s _ (.bl _)⟩
    · cases e
  · rename_i d cc hn
    obtain ⟨b, e, rfl⟩ := Option.map_eq_some_iff.mp er
    cases r with
    | cons r1 r2 =>
      cases r2 with
      | cons r2 r3 =>
        cases r3
        obtain ⟨t, w, z1, z2, z3⟩ := isOne_ok r1 r2 e
        exact .inl ⟨_, _, t, w, b, rfl, z1, z2, z3, Req.here hr s _ (.bl _)⟩
  · cases er
theorem call_isi' : CallR X (.builtin "isinstance") (fun xs H Q => rIsi X.K xs H Q ∨ rIsiT X.K xs H Q) := CallR.or call_isi call_isiT
end
end Ev

/-! EvF: defs: their promises by their plain meaning; calls. -/
namespace Ev
open PySem PySem.Spec PyProof.Rows L2

/-! ### room with no repr under way -/
structure RoomG (k : Nat) (A : Around) : Prop where
  room : Room k A
  gd : A.guards = some []
theorem RoomG.mono {j k : Nat} {A : Around} (r : RoomG k A) (h : j ≤ k) : RoomG j A := ⟨r.room.mono h, r.gd⟩
theorem RoomG.deeper {k : Nat} {A : Around} (r : RoomG (k + 1) A) (env : Env) : RoomG k (A.deeper env) := ⟨r.room.deeper env, r.gd⟩
structure FnG (P : Program) (w : World) (K : PySem.W.Frag) (mg : Str → Option Value) (base : Heap) (CX : CXT) (k : Nat) (f : Addr) (fd : FuncData) (ps : List Str) (sp : Sp) : Prop where
  len : ∀ vs H Q E, sp vs H Q E → vs.length = ps.length
  run : ∀ (A : Around) (outer : List Env) (s : Shared) (H : Hp) (args : Args) (us : List Value) (vs : List V) (Q : VK) (E : XK), RoomG k A → Env0 P w K mg base A outer s H → BindsTo s fd args (ps.zip us) → Vals vs us → sp vs H Q E →
    codeAny (model P w) A (.call (.ref f) args) (CR CX outer P w H s Q E) s
theorem FnG.mono {P : Program} {w : World} {K : PySem.W.Frag} {mg : Str → Option Value} {base : Heap} {CX : CXT} {j k : Nat} {f : Addr} {fd : FuncData} {ps : List Str} {sp : Sp} (F : FnG P w K mg base CX j f fd ps sp) (h : j ≤ k) :
    FnG P w K mg base CX k f fd ps sp := ⟨F.len, fun A outer s H args us vs Q E hr => F.run A outer s H args us vs Q E (hr.mono h)⟩
/-- the heap at a call holds what the ground holds -/
theorem grounded {P : Program} {w : World} {K : PySem.W.Frag} {mg : Str → Option Value} {base : Heap} {A : Around} {outer : List Env} {s : Shared} {H : Hp} (g : Env0 P w K mg base A outer s H) : K.In s.heap ∧ s.heap.NoLimit :=
  have st : ∀ b o, base.get? b = some o → s.heap.get? b = some o := fun b o q => (g.bs b o q).1
  ⟨g.mod.kin.keeps st, g.mod.nolimit.keeps st⟩
/-- a def by its body, with no repr under way -/
theorem fn_ofG {CX : CXT} {P : Program} {w : World} {K : PySem.W.Frag} {mg : Str → Option Value} {base : Heap} {k : Nat} {f : Addr} {name qual : Str} {params : Arguments} {body : List Stmt} {scope : Scope} {dV kV doc pm cdv ct oc : Value} {an od : Option Addr}
    {osl : Array (Option Value)} {N ps : List Str} {sp : Sp} (at_ : K.lookup f = some ⟨oc, od, .func (PySem.W.fnOf name qual params body scope dV kV doc pm an cdv ct), osl⟩) (code : PySem.W.codeIn K cdv qual = true) (S : FnScope N ps scope)
    (many : ∀ vs H Q E, sp vs H Q E → vs.length = ps.length)
    (inside : ∀ (A : Around) (outer : List Env) (s : Shared) (H : Hp) (vs : List V) (Q : VK) (E : XK), RoomG k (A.deeper (envOfC qual scope s.heap.objs.size f cdv)) → sp vs H Q E →
      ∃ t, PSs (cxOf CX P w K mg base N qual scope f cdv A outer s H E) body t ∧ t { nx := fun _ H' => Q .non H', rt := Q } (start N vs) H) :
    FnG P w K mg base CX (k + 1) f (PySem.W.fnOf name qual params body scope dV kV doc pm an cdv ct) ps sp where
  len := many
  run := by
    intro A outer s H args us vs Q E room g binds vals wish
    obtain ⟨kin, nolim⟩ := grounded g
    -- each parameter is a name of the frame, or a cell of it
    have place : ∀ y ∈ ps.zip us, scope.names.lookup y.1 = some .local ∨ (scope.names.lookup y.1 = some .cell ∧ ((cellsFrom (s.heap.objs.size + 1) scope.names []).lookup y.1).isSome = true) := by
      intro y hy
      have := S.par y.1 (List.of_mem_zip (show (y.1, y.2) ∈ ps.zip us from hy)).1
      exact this.imp id fun q => ⟨q, PySem.W.cellsFrom_some _ _ _ (.inl q)⟩
    refine codeAny_call_function room.room.depth (kin _ _ at_) rfl S.co S.gen rfl (PySem.W.codeRec_of kin code) (binds _ _ _ _ ?_)
    refine wpAny_newFunctionEnv_cells S.kind place fun env he s1 begun => ?_
    cases he
    refine ⟨nolim.keeps begun.toInCall.keep, codeAny_func ?_⟩
    obtain ⟨t, walk, reads⟩ := inside A outer s H vs Q E (room.deeper _) wish
    have first := inv_start (CX := CX) (E := E) S room.room.hd g (many _ _ _ _ wish) vals begun
    refine wpAny_mono (walk.run [] s1 (start N vs) H _ first reads) (fun fl s' ends => ?_) fun e s' q => q
    cases fl with
    | brk => exact (ends.elim fun _ q => q.elim fun _ q => q.2.elim)
    | cont => exact (ends.elim fun _ q => q.elim fun _ q => q.2.elim)
    | next =>
      obtain ⟨σ', H', J, q⟩ := ends
      exact ⟨.non, H', J.os, J.bare, J.base, J.hok, rfl, q⟩
    | ret u =>
      obtain ⟨v, σ', H', J, rel, q⟩ := ends
      exact ⟨v, H', J.os, J.bare, J.base, J.hok, rel, q⟩

/-! ### the plain meaning as a promise -/
/-- which arguments are lent -/
def lentOf : List V → List Sl → Lt
  | .ref a :: vs, .ln _ :: as => some a :: lentOf vs as
  | _ :: vs, _ :: as => none :: lentOf vs as
  | _, _ => []
def cleanA : Sl → Bool
  | .fz _ => true
  | .ln _ => true
  | .cl _ => true
  | _ => false
def argC (vs : List V) (as : List Sl) (F : Fz) (H : Hp) : Cf := ⟨vs.map some, as, F, H⟩
def ReqF (G : Gc) (vs : List V) (as : List Sl) (F : Fz) (H : Hp) (o : FOut) (Q : VK) (E : XK) : Prop := match o with
  | .ok r outs => ∀ F' H', Ex G (argC vs as F H) (argC vs outs F' H') → Ok G (lentOf vs as) (argC vs outs F' H') → ∀ v, VR G (argC vs as F H) (argC vs outs F' H') v r → Q v H'
  | .ex d outs => ∀ F' H', Ex G (argC vs as F H) (argC vs outs F' H') → Ok G (lentOf vs as) (argC vs outs F' H') → ∀ cls dd, XR G F' H' cls dd d → E cls dd H'
  | .no => False
def spEv (G : Gc) (φ : Fn) (n : Nat) : Sp := fun vs H Q E => vs.length = n ∧ ∃ (F : Fz) (as : List Sl), (∀ s ∈ as, cleanA s = true) ∧ Ok G (lentOf vs as) (argC vs as F H) ∧ ReqF G vs as F H (φ as) Q E
def outsOf : List Sl → Rho → List Sl
  | .ln _ :: as, s :: ρ => s :: outsOf as ρ
  | a :: as, _ :: ρ => a :: outsOf as ρ
  | as, [] => as
  | [], _ => []
/-- the meaning of a def by that of its body -/
def withOuts (as : List Sl) (ρ : Rho) (f : List Sl → FOut) : FOut := if as.length ≤ ρ.length then f (outsOf as ρ) else .no
def fnSem (m : M Fl) (z : Nat) : Fn := fun as => match m (as ++ List.replicate (z - as.length) .un) with
  | .ok (.rt r) ρ => withOuts as ρ (.ok r)
  | .ok .nx ρ => withOuts as ρ (.ok (.fz .non))
  | .ok _ _ => .no
  | .ex e ρ => withOuts as ρ (.ex e)
  | .no => .no
theorem outsOf_get : ∀ {as : List Sl} {ρ : Rho} {i : Nat} {s : Sl}, as.length ≤ ρ.length → (outsOf as ρ)[i]? = some s → ∃ a, as[i]? = some a ∧ (((∃ d, a = .ln d) ∧ ρ[i]? = some s) ∨ ((∀ d, a ≠ .ln d) ∧ s = a))
  | [], ρ, i, s, _, h => by cases ρ <;> simp [outsOf] at h
  | a :: as, [], i, s, hl, h => by simp at hl
  | a :: as, r :: ρ, 0, s, hl, h => by
    cases a with
    | ln d => simp [outsOf] at h; subst h; exact ⟨_, rfl, .inl ⟨⟨d, rfl⟩, rfl⟩⟩
    | _ => simp [outsOf] at h; subst h; exact ⟨_, rfl, .inr ⟨fun d z => (by cases z), rfl⟩⟩
  | a :: as, r :: ρ, i + 1, s, hl, h => by
    have hl' : as.length ≤ ρ.length := by simpa using hl
    have h' : (outsOf as ρ)[i]? = some s := by cases a <;> simpa [outsOf] using h
    obtain ⟨b, e, q⟩ := outsOf_get (i := i) hl' h'
    exact ⟨b, by simpa using e, by simpa using q⟩
theorem outsOf_length : ∀ {as : List Sl} {ρ : Rho}, as.length ≤ ρ.length → (outsOf as ρ).length = as.length
  | [], ρ, _ => by cases ρ <;> simp [outsOf]
  | a :: as, [], hl => by simp at hl
  | a :: as, r :: ρ, hl => by
    have := outsOf_length (as := as) (ρ := ρ) (by simpa using hl)
    cases a <;> simp [outsOf, this]
theorem lentOf_get : ∀ {vs : List V} {as : List Sl} {i : Nat} {a : Addr}, (lentOf vs as)[i]? = some (some a) → vs[i]? = some (V.ref a) ∧ ∃ d, as[i]? = some (.ln d)
  | [], as, i, a, h => by cases as <;> simp [lentOf] at h
  | v :: vs, [], i, a, h => by cases v <;> simp [lentOf] at h
  | v :: vs, s :: as, 0, a, h => by
    cases v <;> cases s <;> simp [lentOf] at h
    subst h
    exact ⟨rfl, _, rfl⟩
  | v :: vs, s :: as, i + 1, a, h => by
    have h' : (lentOf vs as)[i]? = some (some a) := by cases v <;> cases s <;> simpa [lentOf] using h
    obtain ⟨h1, d, h2⟩ := lentOf_get (i := i) h'
    exact ⟨by simpa using h1, d, by simpa using h2⟩
theorem lentOf_ln : ∀ {vs : List V} {as : List Sl} {i : Nat} {a : Addr} {d : D}, vs[i]? = some (V.ref a) → as[i]? = some (.ln d) → (lentOf vs as)[i]? = some (some a)
  | [], as, i, a, d, h, _ => by simp at h
  | v :: vs, [], i, a, d, _, h => by simp at h
  | v :: vs, s :: as, 0, a, d, h, h2 => by
    simp at h h2
    subst h
    subst h2
    rfl
  | v :: vs, s :: as, i + 1, a, d, h, h2 => by
    have := lentOf_ln (vs := vs) (as := as) (i := i) (by simpa using h) (by simpa using h2)
    cases v <;> cases s <;> simpa [lentOf] using this
section
variable {G : Gc} {vs : List V} {as : List Sl} {F F' : Fz} {H H' : Hp} {L : Lt}
theorem args_sig {i : Nat} {v : V} : (vs.map some)[i]? = some (some v) ↔ vs[i]? = some v := by
  rw [List.getElem?_map]
  cases vs[i]? <;> simp
/-- the body's first configuration -/
def bodyC (N : List Str) (vs : List V) (as : List Sl) (F : Fz) (H : Hp) : Cf := ⟨start N vs, as ++ List.replicate (N.length - as.length) .un, F, H⟩
theorem body_rho {N : List Str} {i : Nat} {s : Sl} (h : (bodyC N vs as F H).ρ[i]? = some s) : (as[i]? = some s) ∨ s = .un := by
  have h : (as ++ List.replicate (N.length - as.length) Sl.un)[i]? = some s := h
  by_cases hi : i < as.length
  · rw [List.getElem?_append_left hi] at h
    exact .inl h
  · rw [List.getElem?_append_right (by omega), List.getElem?_replicate] at h
    split at h
    · exact .inr (Option.some.inj h).symm
    · cases h
theorem body_own {N : List Str} (hl : as.length = vs.length) (hn : vs.length ≤ N.length) (b : Addr) : (bodyC N vs as F H).own G b ↔ (argC vs as F H).own G b := by
  constructor
  · rintro (z | ⟨i, s, e, w, q⟩)
    · exact .inl z
    · rcases body_rho e with e | rfl
      · refine .inr ⟨i, s, e, w, ?_⟩
        have hi : i < as.length := (List.getElem?_eq_some_iff.mp e).1
        have q : (vs.map some ++ List.replicate (N.length - vs.length) none)[i]? = some (some (V.ref b)) := q
        rw [List.getElem?_append_left (by rw [List.length_map]; omega)] at q
        exact q
      · cases w
  · rintro (z | ⟨i, s, e, w, q⟩)
    · exact .inl z
    · have hi : i < as.length := (List.getElem?_eq_some_iff.mp e).1
      refine .inr ⟨i, s, ?_, w, ?_⟩
      · show (as ++ List.replicate _ Sl.un)[i]? = some s
        rw [List.getElem?_append_left hi]; exact e
      · show (vs.map some ++ List.replicate _ none)[i]? = _
        rw [List.getElem?_append_left (by rw [List.length_map]; omega)]
        exact q
theorem body_ok {N : List Str} (s : Ok G L (argC vs as F H)) (hn : vs.length ≤ N.length) (hL : ∀ (i : Nat) (a : Addr), L[i]? = some (some a) → vs[i]? = some (V.ref a) ∧ ∃ d : D, as[i]? = some (Sl.ln d)) : Ok G L (bodyC N vs as F H) := by
  have hl : as.length = vs.length := by have := s.len; simpa [argC] using this
  have sig : ∀ i, i < as.length → (bodyC N vs as F H).σ[i]? = (argC vs as F H).σ[i]? := fun i hi => by
    show (vs.map some ++ List.replicate _ none)[i]? = (vs.map some)[i]?
    rw [List.getElem?_append_left (by rw [List.length_map]; omega)]
  have lt : ∀ {i : Nat} {s : Sl}, as[i]? = some s → i < as.length := fun e => (List.getElem?_eq_some_iff.mp e).1
  refine ⟨?_, ?_, ?_, ?_, ?_, s.trk, s.tabs⟩
  · show (as ++ List.replicate _ Sl.un).length = (vs.map some ++ List.replicate _ none).length
    simp only [List.length_append, List.length_replicate, List.length_map]
    omega
  · intro i t e
    rcases body_rho e with e | rfl
    · rw [sig i (lt e)]
      exact s.sl i t e
    · trivial
  · intro i j t u a hij e w e2 w2 q q2
    rcases body_rho e with e | rfl
    · rcases body_rho e2 with e2 | rfl
      · rw [sig i (lt e)] at q
        rw [sig j (lt e2)] at q2
        exact s.sep i j t u a hij e w e2 w2 q q2
      · cases w2
    · cases w
  · intro i a e
    obtain ⟨h1, d, h2⟩ := hL i a e
    refine ⟨?_, d, .inl ?_⟩
    · rw [sig i (lt h2)]
      exact args_sig.mpr h1
    · show (as ++ List.replicate _ Sl.un)[i]? = _
      rw [List.getElem?_append_left (lt h2)]
      exact h2
  · intro i d e
    have go : ∀ t : Sl, (t = .ln d ∨ t = .lf d) → (bodyC N vs as F H).ρ[i]? = some t → ∃ a, L[i]? = some (some a) := fun t ht e => by
      rcases body_rho e with e | rfl
      · rcases ht with rfl | rfl
        · exact s.lnL i d (.inl e)
        · exact s.lnL i d (.inr e)
      · rcases ht with z | z <;> cases z
    rcases e with e | e
    · exact go _ (.inl rfl) e
    · exact go _ (.inr rfl) e
/-- behind the body: what the caller sees -/
theorem body_end {N : List Str} {σ' : L2.St} {ρ' : Rho} (s : Ok G (lentOf vs as) (argC vs as F H)) (hn : vs.length ≤ N.length) (hcl : ∀ t ∈ as, cleanA t = true) (x : Ex G (bodyC N vs as F H) ⟨σ', ρ', F', H'⟩) (s' : Ok G (lentOf vs as) ⟨σ', ρ', F', H'⟩) (hlen : as.length ≤ ρ'.length) :
    Ex G (argC vs as F H) (argC vs (outsOf as ρ') F' H') ∧ Ok G (lentOf vs as) (argC vs (outsOf as ρ') F' H') ∧ (∀ b, (argC vs (outsOf as ρ') F' H').own G b → Own G σ' ρ' b) := by
  have hl : as.length = vs.length := by have := s.len; simpa [argC] using this
  have sb := body_ok (N := N) s hn (fun i a e => lentOf_get e)
  have kf : ∀ a, F a → H' a = H a := fun a f => x.fz sb f
  have ln : ∀ {i : Nat} {d : D}, as[i]? = some (.ln d) → ∃ a, vs[i]? = some (V.ref a) ∧ σ'[i]? = some (some (V.ref a)) ∧ ∃ d' : D, ρ'[i]? = some (Sl.ln d') ∨ ρ'[i]? = some (Sl.lf d') := fun {i d} e => by
    obtain ⟨a, q, _⟩ := s.sl i _ e
    have q := args_sig.mp q
    obtain ⟨h1, h2⟩ := s'.lent i a (lentOf_ln q e)
    exact ⟨a, q, h1, h2⟩
  have own : ∀ b, (argC vs (outsOf as ρ') F' H').own G b → Own G σ' ρ' b := by
    rintro b (z | ⟨i, t, e, w, q⟩)
    · exact .inl z
    · obtain ⟨a, ea, ⟨⟨d, rfl⟩, e2⟩ | ⟨n, rfl⟩⟩ := outsOf_get hlen e
      · obtain ⟨a, h1, h2, _⟩ := ln ea
        have q := args_sig.mp q
        rw [h1] at q
        cases q
        exact .inr ⟨i, t, e2, w, h2⟩
      · have cl := hcl t (List.mem_of_getElem? ea)
        cases t with
        | ln d => exact absurd rfl (n d)
        | ow d => cases cl
        | _ => cases w
  refine ⟨⟨fun b o e n => x.keep b o e fun z => n ((body_own hl hn b).mp z), x.mono, fun b f => (x.new b f).imp id (fun z => z.imp id fun z => (body_own hl hn b).mp z), fun b z => (x.sub b (own b z)).imp (fun z => (body_own hl hn b).mp z) id⟩, ⟨?_, ?_, ?_, ?_, ?_, s'.trk, s'.tabs⟩, own⟩
  · show (outsOf as ρ').length = (vs.map some).length
    rw [outsOf_length hlen, List.length_map, hl]
  · intro i t e
    obtain ⟨a, ea, ⟨⟨d, rfl⟩, e2⟩ | ⟨n, rfl⟩⟩ := outsOf_get hlen e
    · obtain ⟨a, h1, h2, _⟩ := ln ea
      have q := s'.sl i t e2
      show SlR G F' H' (vs.map some)[i]? t
      rw [args_sig.mpr h1, ← h2]
      exact q
    · have cl := hcl t (List.mem_of_getElem? ea)
      refine (s.sl i t ea).mono x.mono kf fun w b q => ?_
      cases t with
      | ln d => exact absurd rfl (n d)
      | ow d => cases cl
      | _ => cases w
  · intro i j t u a hij e w e2 w2 q q2
    obtain ⟨b, eb, ⟨⟨d, rfl⟩, e3⟩ | ⟨n, rfl⟩⟩ := outsOf_get hlen e
    · obtain ⟨b2, eb2, ⟨⟨d2, rfl⟩, e4⟩ | ⟨n2, rfl⟩⟩ := outsOf_get hlen e2
      · obtain ⟨a1, h1, h2, _⟩ := ln eb
        obtain ⟨a2, h3, h4, _⟩ := ln eb2
        have q := args_sig.mp q
        have q2 := args_sig.mp q2
        rw [h1] at q
        rw [h3] at q2
        cases q
        cases q2
        exact s'.sep i j t u _ hij e3 w e4 w2 h2 h4
      · have cl := hcl u (List.mem_of_getElem? eb2)
        cases u with
        | ln d => exact absurd rfl (n2 d)
        | ow d => cases cl
        | _ => cases w2
    · have cl := hcl t (List.mem_of_getElem? eb)
      cases t with
      | ln d => exact absurd rfl (n d)
      | ow d => cases cl
      | _ => cases w
  · intro i a e
    obtain ⟨h1, d, h2⟩ := lentOf_get e
    refine ⟨args_sig.mpr h1, ?_⟩
    obtain ⟨a', h3, h4, d', h5⟩ := ln h2
    have hi : i < as.length := (List.getElem?_eq_some_iff.mp h2).1
    have ho : i < (outsOf as ρ').length := by rw [outsOf_length hlen]; exact hi
    obtain ⟨b, eb, ⟨_, e3⟩ | ⟨n, _⟩⟩ := outsOf_get hlen (List.getElem?_eq_getElem ho)
    · refine ⟨d', ?_⟩
      show (outsOf as ρ')[i]? = _ ∨ (outsOf as ρ')[i]? = _
      rw [List.getElem?_eq_getElem ho, ← e3]
      exact h5
    · rw [h2] at eb
      cases eb
      exact absurd rfl (n d)
  · intro i d e
    have go : ∀ t : Sl, (t = .ln d ∨ t = .lf d) → (outsOf as ρ')[i]? = some t → ∃ a, (lentOf vs as)[i]? = some (some a) := fun t ht e => by
      obtain ⟨b, eb, ⟨⟨d2, rfl⟩, e3⟩ | ⟨n, rfl⟩⟩ := outsOf_get hlen e
      · obtain ⟨a, h1, _, _⟩ := ln eb
        exact ⟨a, lentOf_ln h1 eb⟩
      · have cl := hcl t (List.mem_of_getElem? eb)
        rcases ht with rfl | rfl
        · exact absurd rfl (n d)
        · cases cl
    rcases e with e | e
    · exact go _ (.inl rfl) e
    · exact go _ (.inr rfl) e
end
end Ev

/-! EvG: a def keeps its plain meaning; calls of defs. -/
namespace Ev
open PySem PySem.Spec PyProof.Rows L2

theorem fnSem_req {G : Gc} {m : M Fl} {N : List Str} {vs : List V} {as : List Sl} {F : Fz} {H : Hp} {Q : VK} {E : XK} (s : Ok G (lentOf vs as) (argC vs as F H)) (hn : vs.length ≤ N.length) (hcl : ∀ t ∈ as, cleanA t = true)
    (h : ReqF G vs as F H (fnSem m N.length as) Q E) : ReqS G (lentOf vs as) (fun cls d _ H => E cls d H) (bodyC N vs as F H) (m (bodyC N vs as F H).ρ) (EndsP G { nx := fun _ H' => Q .non H', rt := Q } (bodyC N vs as F H)) := by
  have hl : as.length = vs.length := by have := s.len; simpa [argC] using this
  have h : ReqF G vs as F H (match m (bodyC N vs as F H).ρ with
    | .ok (.rt r) ρ => withOuts as ρ (.ok r)
    | .ok .nx ρ => withOuts as ρ (.ok (.fz .non))
    | .ok _ _ => .no
    | .ex e ρ => withOuts as ρ (.ex e)
    | .no => .no) Q E := h
  generalize hm : m (bodyC N vs as F H).ρ = o at h ⊢
  cases o with
  | no => exact h.elim
  | ex d ρ =>
    intro σ' F' H' x s' cls dd xr
    have h : ReqF G vs as F H (if as.length ≤ ρ.length then FOut.ex d (outsOf as ρ) else .no) Q E := h
    by_cases hz : as.length ≤ ρ.length
    · rw [if_pos hz] at h
      obtain ⟨x1, s1, _⟩ := body_end s hn hcl x s' hz
      exact h F' H' x1 s1 cls dd xr
    · rw [if_neg hz] at h
      exact h.elim
  | ok f ρ =>
    intro σ' F' H' x s'
    cases f with
    | bk => exact h.elim
    | ct => exact h.elim
    | nx =>
      have h : ReqF G vs as F H (if as.length ≤ ρ.length then FOut.ok (.fz .non) (outsOf as ρ) else .no) Q E := h
      by_cases hz : as.length ≤ ρ.length
      · rw [if_pos hz] at h
        obtain ⟨x1, s1, _⟩ := body_end s hn hcl x s' hz
        exact h F' H' x1 s1 .non .non
      · rw [if_neg hz] at h
        exact h.elim
    | rt r =>
      have h : ReqF G vs as F H (if as.length ≤ ρ.length then FOut.ok r (outsOf as ρ) else .no) Q E := h
      by_cases hz : as.length ≤ ρ.length
      · rw [if_pos hz] at h
        obtain ⟨x1, s1, ow⟩ := body_end s hn hcl x s' hz
        intro v rv
        refine h F' H' x1 s1 v ?_
        cases r with
        | fz d => exact rv
        | nw d =>
          obtain ⟨p, z1, z2, z3, z4⟩ := rv
          exact ⟨p, z1, z2, fun z => z3 (ow p z), z4.imp id fun z => (body_own hl hn p).mp z⟩
      · rw [if_neg hz] at h
        exact h.elim
/-- what a body may use -/
structure Bd (X : Cx) (W : WX) (k : Nat) : Prop where
  calm : X.calm = true
  hp : PassesOwn (model X.prog X.w) X.A X.env X.xe
  tk : Takes X W
  room : RoomG k X.A
/-- a def keeps the meaning of its body -/
theorem fn_sound {P : Program} {w : World} {K : PySem.W.Frag} {mg : Str → Option Value} {base : Heap} {G : Gc} {x qual : Str} {st : Stmt} {f : Addr} {fd : FuncData} {N ps : List Str} {k : Nat} {m : M Fl} (F : Fun K x qual st f fd) (S : FnScope N ps (defScope st))
    (hbody : ∀ (cdv : Value) (A : Around) (outer : List Env) (s : Shared) (H : Hp) (E : XK) (L : Lt), Bd (cxOf (L2.CX P w) P w K mg base N qual (defScope st) f cdv A outer s H E) (fun cls d _ H => E cls d H) k →
      SSs (cxOf (L2.CX P w) P w K mg base N qual (defScope st) f cdv A outer s H E) (fun cls d _ H => E cls d H) G L (defBody st) m) :
    FnG P w K mg base (L2.CX P w) (k + 1) f fd ps (spEv G (fnSem m N.length) ps.length) := by
  obtain ⟨oc, od, kV, doc, pm, an, cdv, ct, osl, rfl, lk, hcd⟩ := F.ex
  refine fn_ofG lk hcd S (fun vs H Q E h => h.1) fun A outer s H vs Q E hr hsp => ?_
  obtain ⟨hv, F0, as, hcl, ok, hq⟩ := hsp
  have hpl : ps.length ≤ N.length := by have := congrArg List.length S.pre; rw [List.length_take] at this; omega
  obtain ⟨t, p, q⟩ := (hbody cdv A outer s H E (lentOf vs as) ⟨rfl, passes_of rfl, takes_of rfl rfl rfl rfl, hr⟩).ex
  refine ⟨t, p, ?_⟩
  exact q (bodyC N vs as F0 H) _ (body_ok ok (by omega) fun i a e => lentOf_get e) (fnSem_req ok (by omega) hcl hq)

/-! ### arguments -/
/-- an argument: a frozen value, or what a slot holds -/
inductive Ar where | v (d : D) | r (i : Nat)
inductive RA (G : Gc) (c : Cf) : V → Ar → Prop
  | v {v : V} {d : D} : Rp G.N c.F c.H v d → RA G c v (.v d)
  | r {v : V} {i : Nat} : c.σ[i]? = some (some v) → RA G c v (.r i)
abbrev RAs (G : Gc) (c : Cf) : List V → List Ar → Prop := Paired (RA G c)
structure SR (X : Cx) (W : WX) (G : Gc) (L : Lt) (es : List Expr) (m : M (List Ar)) : Prop where
  ex : ∃ t : TA, PA X es t ∧ ∀ (c : Cf) (Q : List V → Hp → Prop), Ok G L c → Req G L W c (m c.ρ) (fun as c' => ∀ vs, RAs G c' vs as → Q vs c'.H) → t c.σ c.H Q
structure SK (X : Cx) (W : WX) (G : Gc) (L : Lt) (kws : List Keyword) (m : M (List Ar)) : Prop where
  ex : ∃ t : TA, PK X kws t ∧ ∀ (c : Cf) (Q : List V → Hp → Prop), Ok G L c → Req G L W c (m c.ρ) (fun as c' => ∀ vs, RAs G c' vs as → Q vs c'.H) → t c.σ c.H Q
theorem RA.keep {G : Gc} {L : Lt} {c c1 : Cf} {v : V} {a : Ar} (h : RA G c v a) (s : Ok G L c) (x : Ex G c c1) (e : c1.σ = c.σ) : RA G c1 v a := by
  cases h with
  | v r => exact .v (x.rp s r)
  | r q => exact .r (by rw [e]; exact q)
theorem RAs.keep {G : Gc} {L : Lt} {c c1 : Cf} : ∀ {vs : List V} {as : List Ar}, RAs G c vs as → Ok G L c → Ex G c c1 → c1.σ = c.σ → RAs G c1 vs as
  | _, _, .nil, _, _, _ => .nil
  | _, _, .cons r t, s, x, e => .cons (r.keep s x e) (RAs.keep t s x e)
section
variable {X : Cx} {W : WX} {G : Gc} {L : Lt} {e a b : Expr} {pos : Pos} {c c0 c1 : Cf} {es : List Expr} {kws : List Keyword}
theorem SR.nil : SR X W G L [] (mpure []) := ⟨tNil, pa_nil, fun c Q s r => r _ _ Ext.refl s _ .nil⟩
def arCons (ma : M Ar) (mr : M (List Ar)) : M (List Ar) := ma.bind fun x => mr.bind fun xs => mpure (x :: xs)
def arV (m : M D) : M Ar := m.bind fun d => mpure (.v d)
/-- a name handed on as it is -/
def arR (i : Nat) : M Ar := fun ρ => match ρ[i]? with
  | some .un => .no
  | none => .no
  | some _ => .ok (.r i) ρ
theorem SR.cons {ma : M D} {mr : M (List Ar)} (ha : SD X W G L e ma) (hr : SR X W G L es mr) (hs : starEach (e :: es) X.env = (false, eval e X.env) :: starEach es X.env := by rfl) : SR X W G L (e :: es) (arCons (arV ma) mr) := by
  obtain ⟨ta, pa, qa⟩ := ha.ex
  obtain ⟨tb, pb, qb⟩ := hr.ex
  refine ⟨tCons ta tb, pa_cons pa pb hs, fun c Q s h => ?_⟩
  have h : Req G L W c (((ma c.ρ).bind fun d ρ => Out.ok (Ar.v d) ρ).bind fun x => mr.bind fun xs => mpure (x :: xs)) _ := h
  refine qa c _ s ((Req.bind (Req.bind h)).imp fun x c1 _ e1 x1 s1 h1 v rv => ?_)
  have h1 := Req.here (r := Ar.v x) h1 s1
  show tb c.σ c1.H _
  rw [← e1]
  refine qb c1 _ s1 ((Req.bind h1).imp fun y c2 _ e2 x2 s2 h2 u ru => ?_)
  exact Req.here (r := Ar.v x :: y) h2 s2 _ (.cons (.v (x2.rp s1 rv)) ru)
theorem sl_val {i : Nat} {t : Sl} (s : Ok G L c) (e : c.ρ[i]? = some t) (n : t ≠ .un) : ∃ v, c.σ[i]? = some (some v) := by
  have h := s.sl i t e
  cases t with
  | un => exact absurd rfl n
  | ow d => obtain ⟨a, h, _⟩ := h; exact ⟨_, h⟩
  | ln d => obtain ⟨a, h, _⟩ := h; exact ⟨_, h⟩
  | fz d => obtain ⟨a, h, _⟩ := h; exact ⟨_, h⟩
  | lf d => obtain ⟨a, h, _⟩ := h; exact ⟨_, h⟩
  | cl d => obtain ⟨a, h, _⟩ := h; exact ⟨_, h⟩
theorem arR_req {i : Nat} {P : Ar → Cf → Prop} (h : Req G L W c (arR i c.ρ) P) (s : Ok G L c) : (∃ v, c.σ[i]? = some (some v)) ∧ P (.r i) c := by
  unfold arR at h
  cases e : c.ρ[i]? with
  | none => rw [e] at h; exact h.elim
  | some t =>
    rw [e] at h
    cases t with
    | un => exact h.elim
    | _ => exact ⟨sl_val s e (fun z => by cases z), Req.here h s⟩
theorem SR.ref (i : Nat) {x : Str} {p : Pos} {mr : M (List Ar)} (hN : X.N[i]? = some x) (hv : Vis X.env.scope x) (hr : SR X W G L es mr) (hs : starEach (.Name x p :: es) X.env = (false, eval (.Name x p) X.env) :: starEach es X.env := by rfl)
    (hd : (x == ("__debug__" : Str)) = false := by decide) (hcd : (x == ("__classdict__" : Str)) = false := by decide) : SR X W G L (.Name x p :: es) (arCons (arR i) mr) := by
  obtain ⟨tb, pb, qb⟩ := hr.ex
  refine ⟨tCons (tVar i) tb, pa_cons (pe_var hN hv hd hcd) pb hs, fun c Q s h => ?_⟩
  obtain ⟨⟨v, hv⟩, h1⟩ := arR_req (Req.bind h) s
  refine ⟨v, hv, ?_⟩
  refine qb c _ s ((Req.bind h1).imp fun y c2 _ e2 x2 s2 h2 u ru => ?_)
  exact Req.here (r := Ar.r i :: y) h2 s2 _ (.cons (.r (by rw [e2]; exact hv)) ru)
theorem SK.nil : SK X W G L [] (mpure []) := ⟨tNil, pk_nil, fun c Q s r => r _ _ Ext.refl s _ .nil⟩
theorem SK.cons {nm : Option Str} {kpos : Pos} {ma : M D} {mr : M (List Ar)} (ha : SD X W G L e ma) (hr : SK X W G L kws mr) : SK X W G L (⟨nm, e, kpos⟩ :: kws) (arCons (arV ma) mr) := by
  obtain ⟨ta, pa, qa⟩ := ha.ex
  obtain ⟨tb, pb, qb⟩ := hr.ex
  refine ⟨tCons ta tb, pk_cons pa pb, fun c Q s h => ?_⟩
  have h : Req G L W c (((ma c.ρ).bind fun d ρ => Out.ok (Ar.v d) ρ).bind fun x => mr.bind fun xs => mpure (x :: xs)) _ := h
  refine qa c _ s ((Req.bind (Req.bind h)).imp fun x c1 _ e1 x1 s1 h1 v rv => ?_)
  have h1 := Req.here (r := Ar.v x) h1 s1
  show tb c.σ c1.H _
  rw [← e1]
  refine qb c1 _ s1 ((Req.bind h1).imp fun y c2 _ e2 x2 s2 h2 u ru => ?_)
  exact Req.here (r := Ar.v x :: y) h2 s2 _ (.cons (.v (x2.rp s1 rv)) ru)
theorem SK.ref (i : Nat) {nm : Option Str} {kpos : Pos} {x : Str} {p : Pos} {mr : M (List Ar)} (hN : X.N[i]? = some x) (hv : Vis X.env.scope x) (hr : SK X W G L kws mr)
    (hd : (x == ("__debug__" : Str)) = false := by decide) (hcd : (x == ("__classdict__" : Str)) = false := by decide) : SK X W G L (⟨nm, .Name x p, kpos⟩ :: kws) (arCons (arR i) mr) := by
  obtain ⟨tb, pb, qb⟩ := hr.ex
  refine ⟨tCons (tVar i) tb, pk_cons (pe_var hN hv hd hcd) pb, fun c Q s h => ?_⟩
  obtain ⟨⟨v, hv⟩, h1⟩ := arR_req (Req.bind h) s
  refine ⟨v, hv, ?_⟩
  refine qb c _ s ((Req.bind h1).imp fun y c2 _ e2 x2 s2 h2 u ru => ?_)
  exact Req.here (r := Ar.r i :: y) h2 s2 _ (.cons (.r (by rw [e2]; exact hv)) ru)

/-! ### what is handed over, and what comes back -/
def lend : Sl → Option Sl
  | .fz d => some (.fz d)
  | .lf d => some (.fz d)
  | .ow d => some (.ln d)
  | .ln d => some (.ln d)
  | .cl f => some (.cl f)
  | .un => none
def gath (ρ : Rho) : Ar → Option Sl
  | .v d => some (.fz d)
  | .r i => match ρ[i]? with
    | some s => lend s
    | none => none
def gather (ρ : Rho) : List Ar → Option (List Sl)
  | [] => some []
  | a :: as => match gath ρ a, gather ρ as with
    | some s, some ss => some (s :: ss)
    | _, _ => none
def refs : List Ar → List Nat
  | [] => []
  | .v _ :: as => refs as
  | .r i :: as => i :: refs as
def dist : List Nat → Bool
  | [] => true
  | i :: l => !(l.contains i) && dist l
def backSl : Sl → Sl → Sl
  | .ow _, .ln d => .ow d
  | .ow _, .lf d => .fz d
  | .ln _, .ln d => .ln d
  | .ln _, .lf d => .lf d
  | s, _ => s
def findR (i : Nat) : List Ar → List Sl → Option Sl
  | .r j :: as, o :: os => if i = j then some o else findR i as os
  | .v _ :: as, _ :: os => findR i as os
  | _, _ => none
def scat (ars : List Ar) (outs : List Sl) : Nat → Rho → Rho
  | _, [] => []
  | k, s :: ρ => (match findR k ars outs with | some o => backSl s o | none => s) :: scat ars outs (k + 1) ρ
def callAr (φ : Fn) (ars : List Ar) : M Vl := fun ρ => if dist (refs ars) = true then match gather ρ ars with
    | some as => match φ as with
      | .ok r outs => .ok r (scat ars outs 0 ρ)
      | .ex d outs => .ex d (scat ars outs 0 ρ)
      | .no => .no
    | none => .no
  else .no
theorem scat_get {ars : List Ar} {outs : List Sl} : ∀ {ρ : Rho} {k i : Nat}, (scat ars outs k ρ)[i]? = (ρ[i]?).map fun s => match findR (k + i) ars outs with | some o => backSl s o | none => s
  | [], k, i => by simp [scat]
  | s :: ρ, k, 0 => by simp [scat]
  | s :: ρ, k, i + 1 => by
    simp only [scat, List.getElem?_cons_succ]
    rw [scat_get (ρ := ρ) (k := k + 1) (i := i)]
    rw [show k + 1 + i = k + (i + 1) by omega]
theorem scat_length {ars : List Ar} {outs : List Sl} : ∀ {ρ : Rho} {k : Nat}, (scat ars outs k ρ).length = ρ.length
  | [], k => rfl
  | s :: ρ, k => by simp [scat, scat_length (ρ := ρ)]
theorem findR_get : ∀ {ars : List Ar} {outs : List Sl} {i : Nat} {o : Sl}, findR i ars outs = some o → ∃ j : Nat, ars[j]? = some (Ar.r i) ∧ outs[j]? = some o
  | [], outs, i, o, h => by simp [findR] at h
  | .v d :: as, [], i, o, h => by simp [findR] at h
  | .r j :: as, [], i, o, h => by simp [findR] at h
  | .v d :: as, s :: outs, i, o, h => by
    obtain ⟨j, h1, h2⟩ := findR_get (ars := as) (outs := outs) (i := i) (o := o) (by simpa [findR] using h)
    exact ⟨j + 1, by simpa using h1, by simpa using h2⟩
  | .r k :: as, s :: outs, i, o, h => by
    by_cases hk : i = k
    · subst hk
      simp [findR] at h
      exact ⟨0, rfl, by simp [h]⟩
    · obtain ⟨j, h1, h2⟩ := findR_get (ars := as) (outs := outs) (i := i) (o := o) (by simpa [findR, hk] using h)
      exact ⟨j + 1, by simpa using h1, by simpa using h2⟩
theorem findR_some : ∀ {ars : List Ar} {outs : List Sl} {i j : Nat}, ars[j]? = some (.r i) → ars.length = outs.length → ∃ o, findR i ars outs = some o
  | [], outs, i, j, h, _ => by simp at h
  | a :: as, [], i, j, h, hl => by simp at hl
  | .v d :: as, s :: outs, i, 0, h, hl => by simp at h
  | .v d :: as, s :: outs, i, j + 1, h, hl => by
    obtain ⟨o, e⟩ := findR_some (ars := as) (outs := outs) (i := i) (j := j) (by simpa using h) (by simpa using hl)
    exact ⟨o, by simpa [findR] using e⟩
  | .r k :: as, s :: outs, i, j, h, hl => by
    by_cases hk : i = k
    · exact ⟨s, by simp [findR, hk]⟩
    · cases j with
      | zero => simp at h; exact absurd h.symm hk
      | succ j =>
        obtain ⟨o, e⟩ := findR_some (ars := as) (outs := outs) (i := i) (j := j) (by simpa using h) (by simpa using hl)
        exact ⟨o, by simpa [findR, hk] using e⟩
theorem mem_refs : ∀ {ars : List Ar} {i j : Nat}, ars[j]? = some (.r i) → i ∈ refs ars
  | [], i, j, h => by simp at h
  | .v d :: as, i, 0, h => by simp at h
  | .v d :: as, i, j + 1, h => by
    simpa [refs] using mem_refs (ars := as) (i := i) (j := j) (by simpa using h)
  | .r k :: as, i, 0, h => by simp at h; subst h; simp [refs]
  | .r k :: as, i, j + 1, h => by
    have := mem_refs (ars := as) (i := i) (j := j) (by simpa using h)
    simp [refs, this]
theorem dist_inj : ∀ {ars : List Ar} {i j k : Nat}, dist (refs ars) = true → ars[j]? = some (.r i) → ars[k]? = some (.r i) → j = k
  | [], i, j, k, _, h, _ => by simp at h
  | .v d :: as, i, 0, k, _, h, _ => by simp at h
  | .v d :: as, i, j + 1, 0, _, _, h => by simp at h
  | .v d :: as, i, j + 1, k + 1, hd, h, h2 => by
    have := dist_inj (ars := as) (i := i) (j := j) (k := k) (by simpa [refs] using hd) (by simpa using h) (by simpa using h2)
    omega
  | .r n :: as, i, 0, 0, hd, h, h2 => rfl
  | .r n :: as, i, 0, k + 1, hd, h, h2 => by
    simp at h
    subst h
    have := mem_refs (ars := as) (i := n) (j := k) (by simpa using h2)
    simp [refs, dist] at hd
    exact absurd this hd.1
  | .r n :: as, i, j + 1, 0, hd, h, h2 => by
    simp at h2
    subst h2
    have := mem_refs (ars := as) (i := n) (j := j) (by simpa using h)
    simp [refs, dist] at hd
    exact absurd this hd.1
  | .r n :: as, i, j + 1, k + 1, hd, h, h2 => by
    simp [refs, dist] at hd
    have := dist_inj (ars := as) (i := i) (j := j) (k := k) hd.2 (by simpa using h) (by simpa using h2)
    omega
theorem gather_get : ∀ {ρ : Rho} {ars : List Ar} {as : List Sl}, gather ρ ars = some as → as.length = ars.length ∧ ∀ (i : Nat) (a : Ar), ars[i]? = some a → ∃ s, as[i]? = some s ∧ gath ρ a = some s
  | ρ, [], as, h => by simp [gather] at h; subst h; exact ⟨rfl, fun i a h => by simp at h⟩
  | ρ, a :: ars, as, h => by
    unfold gather at h
    cases e1 : gath ρ a with
    | none => rw [e1] at h; cases h
    | some s =>
      cases e2 : gather ρ ars with
      | none => rw [e1, e2] at h; cases h
      | some ss =>
        rw [e1, e2] at h
        cases h
        obtain ⟨h1, h2⟩ := gather_get e2
        refine ⟨by simp [h1], fun i b hb => ?_⟩
        cases i with
        | zero => simp at hb; subst hb; exact ⟨s, rfl, e1⟩
        | succ i => simpa using h2 i b (by simpa using hb)
end
end Ev

/-! EvH: the call rule. -/
namespace Ev
open PySem PySem.Spec PyProof.Rows L2
section
variable {G : Gc} {L : Lt} {c : Cf} {vs : List V} {ars : List Ar} {as : List Sl}
/-- each argument by its place -/
theorem RAs.get : ∀ {vs : List V} {ars : List Ar} {i : Nat} {a : Ar}, RAs G c vs ars → ars[i]? = some a → ∃ v, vs[i]? = some v ∧ RA G c v a
  | _, _, _, _, .nil, h => by simp at h
  | _, _, 0, _, .cons r _, h => by simp at h; subst h; exact ⟨_, rfl, r⟩
  | _, _, i + 1, a, .cons _ t, h => by
    obtain ⟨v, h1, h2⟩ := RAs.get (i := i) t (by simpa using h)
    exact ⟨v, by simpa using h1, h2⟩
theorem lend_lent {s t : Sl} {d : D} (h : lend s = some t) (e : t = .ln d) : isOw s = true ∧ (s = .ow d ∨ s = .ln d) := by
  cases s <;> simp [lend] at h <;> subst h <;> cases e
  · exact ⟨rfl, .inl rfl⟩
  · exact ⟨rfl, .inr rfl⟩
theorem lend_clean {s t : Sl} (h : lend s = some t) : cleanA t = true := by
  cases s <;> simp [lend] at h <;> subst h <;> rfl
/-- the arguments as the callee has them -/
theorem args_ok (s : Ok G L c) (r : RAs G c vs ars) (hd : dist (refs ars) = true) (hg : gather c.ρ ars = some as) :
    Ok G (lentOf vs as) (argC vs as c.F c.H) ∧ (∀ t ∈ as, cleanA t = true) ∧ (∀ b, (argC vs as c.F c.H).own G b → c.own G b) ∧
    (∀ (j : Nat) (t : Sl), as[j]? = some t → isOw t = true → ∃ (i : Nat) (u : Sl) (a : Addr), ars[j]? = some (.r i) ∧ c.ρ[i]? = some u ∧ isOw u = true ∧ vs[j]? = some (V.ref a) ∧ c.σ[i]? = some (some (V.ref a))) := by
  obtain ⟨hl, hget⟩ := gather_get hg
  have hvl : vs.length = ars.length := Paired.length r
  -- an argument's origin
  have at_ : ∀ (j : Nat) (t : Sl), as[j]? = some t → ∃ a v, ars[j]? = some a ∧ vs[j]? = some v ∧ RA G c v a ∧ gath c.ρ a = some t := fun j t e => by
    have hj : j < ars.length := by rw [← hl]; exact (List.getElem?_eq_some_iff.mp e).1
    obtain ⟨t', e1, e2⟩ := hget j _ (List.getElem?_eq_getElem hj)
    rw [e] at e1
    cases e1
    obtain ⟨v, h1, h2⟩ := r.get (List.getElem?_eq_getElem hj)
    exact ⟨_, v, List.getElem?_eq_getElem hj, h1, h2, e2⟩
  have org : ∀ (j : Nat) (t : Sl), as[j]? = some t → isOw t = true → ∃ (i : Nat) (u : Sl) (a : Addr), ars[j]? = some (.r i) ∧ c.ρ[i]? = some u ∧ isOw u = true ∧ vs[j]? = some (V.ref a) ∧ c.σ[i]? = some (some (V.ref a)) := fun j t e w => by
    obtain ⟨a, v, h1, h2, h3, h4⟩ := at_ j t e
    cases h3 with
    | v rp => cases h4; cases w
    | @r i q =>
      unfold gath at h4
      cases eu : c.ρ[i]? with
      | none => simp only [eu] at h4; cases h4
      | some u =>
        simp only [eu] at h4
        have hu : isOw u = true := by
          cases t with
          | ln d => exact (lend_lent h4 rfl).1
          | ow d => have := lend_clean h4; cases this
          | _ => cases w
        obtain ⟨a, d, q2, _⟩ := s.own eu hu
        rw [q] at q2
        cases q2
        exact ⟨i, u, a, h1, eu, hu, h2, q⟩
  have own : ∀ b, (argC vs as c.F c.H).own G b → c.own G b := by
    rintro b (z | ⟨j, t, e, w, q⟩)
    · exact .inl z
    · obtain ⟨i, u, a, h1, h2, h3, h4, h5⟩ := org j t e w
      have q := args_sig.mp q
      rw [h4] at q
      cases q
      exact .inr ⟨i, u, h2, h3, h5⟩
  refine ⟨⟨?_, ?_, ?_, ?_, ?_, s.trk, s.tabs⟩, ?_, own, org⟩
  · show as.length = (vs.map some).length
    rw [List.length_map, hl, hvl]
  · intro j t e
    obtain ⟨a, v, h1, h2, h3, h4⟩ := at_ j t e
    show SlR G c.F c.H (vs.map some)[j]? t
    rw [args_sig.mpr h2]
    cases h3 with
    | v rp => cases h4; exact ⟨v, rfl, rp⟩
    | @r i q =>
      unfold gath at h4
      cases eu : c.ρ[i]? with
      | none => simp only [eu] at h4; cases h4
      | some u =>
        simp only [eu] at h4
        have := s.sl i u eu
        rw [q] at this
        cases u <;> simp [lend] at h4 <;> subst h4 <;> exact this
  · intro j k t u a hjk e w e2 w2 q q2
    obtain ⟨i1, u1, a1, h1, h2, h3, h4, h5⟩ := org j t e w
    obtain ⟨i2, u2, a2, g1, g2, g3, g4, g5⟩ := org k u e2 w2
    have q := args_sig.mp q
    have q2 := args_sig.mp q2
    rw [h4] at q
    rw [g4] at q2
    cases q
    cases q2
    by_cases hi : i1 = i2
    · subst hi
      exact hjk (dist_inj hd h1 g1)
    · exact s.sep i1 i2 u1 u2 _ hi h2 h3 g2 g3 h5 g5
  · intro j a e
    obtain ⟨h1, d, h2⟩ := lentOf_get e
    exact ⟨args_sig.mpr h1, d, .inl h2⟩
  · intro j d e
    rcases e with e | e
    · obtain ⟨i, u, a, h1, h2, h3, h4, h5⟩ := org j _ e rfl
      exact ⟨a, lentOf_ln h4 e⟩
    · obtain ⟨a, v, h1, h2, h3, h4⟩ := at_ j _ e
      have : cleanA (.lf d) = true := by
        cases h3 with
        | v rp => cases h4
        | @r i q =>
          unfold gath at h4
          cases eu : c.ρ[i]? with
          | none => simp only [eu] at h4; cases h4
          | some u => simp only [eu] at h4; exact lend_clean h4
      cases this
  · intro t ht
    obtain ⟨j, hj⟩ := List.getElem?_of_mem ht
    obtain ⟨a, v, h1, h2, h3, h4⟩ := at_ j t hj
    cases h3 with
    | v rp => cases h4; rfl
    | @r i q =>
      unfold gath at h4
      cases eu : c.ρ[i]? with
      | none => simp only [eu] at h4; cases h4
      | some u => simp only [eu] at h4; exact lend_clean h4
/-- behind the call: the caller's slots -/
theorem args_back {outs : List Sl} {F' : Fz} {H' : Hp} (s : Ok G L c) (r : RAs G c vs ars) (hd : dist (refs ars) = true) (hg : gather c.ρ ars = some as)
    (x : Ex G (argC vs as c.F c.H) (argC vs outs F' H')) (s' : Ok G (lentOf vs as) (argC vs outs F' H')) :
    Ex G c ⟨c.σ, scat ars outs 0 c.ρ, F', H'⟩ ∧ Ok G L ⟨c.σ, scat ars outs 0 c.ρ, F', H'⟩ ∧
    ∀ v rr, VR G (argC vs as c.F c.H) (argC vs outs F' H') v rr → VR G c ⟨c.σ, scat ars outs 0 c.ρ, F', H'⟩ v rr := by
  obtain ⟨sa, cl, own, org⟩ := args_ok s r hd hg
  obtain ⟨hl, hget⟩ := gather_get hg
  have hvl : vs.length = ars.length := Paired.length r
  have hol : outs.length = ars.length := by have := s'.len; simp [argC] at this; omega
  have kf : ∀ a, c.F a → H' a = c.H a := fun a f => x.fz sa f
  -- a slot afterwards
  have at_ : ∀ (i : Nat) (t : Sl), (scat ars outs 0 c.ρ)[i]? = some t → ∃ u, c.ρ[i]? = some u ∧ t = (match findR i ars outs with | some o => backSl u o | none => u) := fun i t e => by
    rw [scat_get, Nat.zero_add] at e
    obtain ⟨u, h1, h2⟩ := Option.map_eq_some_iff.mp e
    exact ⟨u, h1, h2.symm⟩
  -- an own slot that is handed over
  have lentS : ∀ (i : Nat) (u : Sl) (o : Sl), c.ρ[i]? = some u → isOw u = true → findR i ars outs = some o → ∃ (j : Nat) (a : Addr) (d : D), ars[j]? = some (.r i) ∧ outs[j]? = some o ∧ as[j]? = some (.ln d) ∧ vs[j]? = some (V.ref a) ∧ c.σ[i]? = some (some (V.ref a)) ∧ (∃ d', o = .ln d' ∨ o = .lf d') := fun i u o e w f => by
    obtain ⟨j, h1, h2⟩ := findR_get f
    obtain ⟨t, h3, h4⟩ := hget j _ h1
    unfold gath at h4
    simp only [e] at h4
    have ht : ∃ d, t = .ln d := by
      cases u with
      | ow d => cases h4; exact ⟨d, rfl⟩
      | ln d => cases h4; exact ⟨d, rfl⟩
      | _ => cases w
    obtain ⟨d, rfl⟩ := ht
    obtain ⟨v, h5, h6⟩ := r.get h1
    cases h6 with
    | r q =>
      obtain ⟨a, d2, q2, _⟩ := s.own e w
      rw [q] at q2
      cases q2
      obtain ⟨_, d', h7⟩ := s'.lent j a (lentOf_ln h5 h3)
      have h7 : outs[j]? = some (Sl.ln d') ∨ outs[j]? = some (Sl.lf d') := h7
      rw [h2] at h7
      refine ⟨j, a, d, h1, h2, h3, h5, q, d', ?_⟩
      rcases h7 with h7 | h7
      · exact .inl (Option.some.inj h7)
      · exact .inr (Option.some.inj h7)
  -- an own slot afterwards was one before
  have wasOwn : ∀ (i : Nat) (t u : Sl), t = (match findR i ars outs with | some o => backSl u o | none => u) → isOw t = true → isOw u = true := fun i t u e w => by
    cases f : findR i ars outs with
    | none => simp only [f] at e; rw [← e]; exact w
    | some o =>
      simp only [f] at e
      subst e
      cases u <;> cases o <;> first | exact w | rfl
  have ownS : ∀ b, Own G c.σ (scat ars outs 0 c.ρ) b → c.own G b := by
    rintro b (z | ⟨i, t, e, w, q⟩)
    · exact .inl z
    · obtain ⟨u, e1, e2⟩ := at_ i t e
      exact .inr ⟨i, u, e1, wasOwn i t u e2 w, q⟩
  -- an own slot that is not handed over lies apart
  have apart : ∀ (i : Nat) (u : Sl) (a : Addr), c.ρ[i]? = some u → isOw u = true → c.σ[i]? = some (some (V.ref a)) → findR i ars outs = none → ¬ (argC vs as c.F c.H).own G a := by
    rintro i u a e w q f (z | ⟨j, t, e2, w2, q2⟩)
    · obtain ⟨ps, e3⟩ := G.tbAt s.tabs z
      obtain ⟨a', d, q', ow, _⟩ := s.own e w
      rw [q] at q'
      cases q'
      obtain ⟨uu, e4, m⟩ := ow.at
      rw [e3] at e4
      cases e4
      cases m
    · obtain ⟨i2, u2, a2, h1, h2, h3, h4, h5⟩ := org j t e2 w2
      have q2 := args_sig.mp q2
      rw [h4] at q2
      cases q2
      by_cases hi : i = i2
      · subst hi
        obtain ⟨o, hf⟩ := findR_some h1 hol.symm
        rw [f] at hf
        cases hf
      · exact s.sep i i2 u u2 _ hi e w h2 h3 q h5
  have exc : Ex G c ⟨c.σ, scat ars outs 0 c.ρ, F', H'⟩ :=
    ⟨fun b o e n => x.keep b o e fun z => n (own b z), x.mono, fun b f => (x.new b f).imp id fun z => z.imp id (own b), fun b z => .inl (ownS b z)⟩
  have sNew : Ok G L ⟨c.σ, scat ars outs 0 c.ρ, F', H'⟩ := by
    refine ⟨?_, ?_, ?_, ?_, ?_, s'.trk, s'.tabs⟩
    · rw [scat_length]; exact s.len
    · intro i t e
      obtain ⟨u, e1, e2⟩ := at_ i t e
      by_cases w : isOw u = true
      · cases f : findR i ars outs with
        | none =>
          simp only [f] at e2
          subst e2
          refine (s.sl i t e1).mono x.mono kf fun _ b q => ?_
          have na := apart i t b e1 w q f
          obtain ⟨b', d, q', ow, _⟩ := s.own e1 w
          rw [q] at q'
          cases q'
          obtain ⟨uu, e4, hm4⟩ := ow.at
          exact ⟨fun z => (x.new b z).elim ow.nf fun z => z.elim (fun z => Nw.mut (H := c.H) z e4 hm4) na, (x.keep b uu e4 na).trans e4.symm⟩
        | some o =>
          simp only [f] at e2
          obtain ⟨j, a, d, h1, h2, h3, h4, h5, d', h6⟩ := lentS i u o e1 w f
          have := s'.sl j o h2
          have this : SlR G F' H' (vs.map some)[j]? o := this
          rw [args_sig.mpr h4] at this
          show SlR G F' H' c.σ[i]? t
          rw [h5]
          subst e2
          rcases h6 with rfl | rfl
          · cases u <;> first | exact this | cases w
          · cases u <;> first | exact this | cases w
      · have tu : t = u := by
          cases f : findR i ars outs with
          | none => simp only [f] at e2; exact e2
          | some o =>
            simp only [f] at e2
            cases u <;> first | exact e2 | exact absurd rfl w
        subst tu
        exact (s.sl i t e1).mono x.mono kf fun z => absurd z w
    · intro i j t u a hij e w e2 w2 q q2
      obtain ⟨t', e3, e4⟩ := at_ i t e
      obtain ⟨u', e5, e6⟩ := at_ j u e2
      exact s.sep i j t' u' a hij e3 (wasOwn i t t' e4 w) e5 (wasOwn j u u' e6 w2) q q2
    · intro i a e
      obtain ⟨h1, d, h2⟩ := s.lent i a e
      refine ⟨h1, ?_⟩
      show ∃ d, (scat ars outs 0 c.ρ)[i]? = _ ∨ (scat ars outs 0 c.ρ)[i]? = _
      rw [scat_get, Nat.zero_add]
      cases f : findR i ars outs with
      | none =>
        refine ⟨d, ?_⟩
        rcases h2 with h2 | h2 <;> rw [h2]
        · exact .inl rfl
        · exact .inr rfl
      | some o =>
        rcases h2 with h2 | h2
        · obtain ⟨j, a2, d2, g1, g2, g3, g4, g5, d', g6⟩ := lentS i _ o h2 rfl f
          rw [h2]
          refine ⟨d', ?_⟩
          rcases g6 with rfl | rfl
          · exact .inl rfl
          · exact .inr rfl
        · rw [h2]
          exact ⟨d, .inr (by cases o <;> rfl)⟩
    · intro i d e
      have go : ∀ t : Sl, (t = .ln d ∨ t = .lf d) → (scat ars outs 0 c.ρ)[i]? = some t → ∃ a, L[i]? = some (some a) := fun t ht e => by
        obtain ⟨u, e1, e2⟩ := at_ i t e
        have hu : ∃ d', u = .ln d' ∨ u = .lf d' := by
          cases f : findR i ars outs with
          | none => simp only [f] at e2; subst e2; exact ⟨d, ht⟩
          | some o =>
            simp only [f] at e2
            subst e2
            cases u with
            | ln d2 => exact ⟨d2, .inl rfl⟩
            | lf d2 => exact ⟨d2, .inr rfl⟩
            | ow d2 => cases o <;> rcases ht with z | z <;> cases z
            | un => rcases ht with z | z <;> cases o <;> cases z
            | fz d2 => rcases ht with z | z <;> cases o <;> cases z
            | cl d2 => rcases ht with z | z <;> cases o <;> cases z
        obtain ⟨d', rfl | rfl⟩ := hu
        · exact s.lnL i d' (.inl e1)
        · exact s.lnL i d' (.inr e1)
      rcases e with e | e
      · exact go _ (.inl rfl) e
      · exact go _ (.inr rfl) e
  refine ⟨exc, sNew, fun v rr rv => ?_⟩
  cases rr with
  | fz d => exact rv
  | nw d =>
    obtain ⟨p, z1, z2, z3, z4⟩ := rv
    refine ⟨p, z1, z2, fun z => ?_, z4.imp id (own p)⟩
    rcases z with z | ⟨i, t, e, w, q⟩
    · exact z3 (.inl z)
    · obtain ⟨u, e1, e2⟩ := at_ i t e
      have wu := wasOwn i t u e2 w
      cases f : findR i ars outs with
      | none =>
        have na := apart i u p e1 wu q f
        rcases z4 with z4 | z4
        · obtain ⟨a', d', q', ow, _⟩ := s.own e1 wu
          have q : c.σ[i]? = some (some (V.ref p)) := q
          rw [q] at q'
          cases q'
          obtain ⟨uu, e4, _⟩ := ow.at
          have z4 : c.H p = none := z4
          rw [e4] at z4
          cases z4
        · exact na z4
      | some o =>
        simp only [f] at e2
        obtain ⟨j, a, d2, h1, h2, h3, h4, h5, d', h6⟩ := lentS i u o e1 wu f
        have q : c.σ[i]? = some (some (V.ref p)) := q
        rw [h5] at q
        cases q
        refine z3 (.inr ⟨j, o, h2, ?_, args_sig.mpr h4⟩)
        rcases h6 with rfl | rfl
        · rfl
        · subst e2
          cases u <;> first | exact w | cases wu
/-- a callee's meaning from the caller's -/
theorem call_req {W : WX} {φ : Fn} {n : Nat} {Q : VK} (s : Ok G L c) (r : RAs G c vs ars) (hn : vs.length = n) (h : Req G L W c (callAr φ ars c.ρ) (fun r c' => ∀ v, VR G c c' v r → Q v c'.H)) :
    spEv G φ n vs c.H Q (fun cls d H' => W cls d c.σ H') := by
  unfold callAr at h
  by_cases hd : dist (refs ars) = true
  · rw [if_pos hd] at h
    cases hg : gather c.ρ ars with
    | none => rw [hg] at h; exact h.elim
    | some as =>
      rw [hg] at h
      obtain ⟨sa, cl, own, org⟩ := args_ok s r hd hg
      refine ⟨hn, c.F, as, cl, sa, ?_⟩
      have h : Req G L W c (match φ as with
        | .ok r outs => .ok r (scat ars outs 0 c.ρ)
        | .ex d outs => .ex d (scat ars outs 0 c.ρ)
        | .no => .no) (fun r c' => ∀ v, VR G c c' v r → Q v c'.H) := h
      cases ef : φ as with
      | no => rw [ef] at h; exact h.elim
      | ok rr outs =>
        rw [ef] at h
        intro F' H' x s' v rv
        obtain ⟨x2, s2, k⟩ := args_back s r hd hg x s'
        exact h F' H' x2 s2 v (k v rr rv)
      | ex d outs =>
        rw [ef] at h
        intro F' H' x s' cls dd xr
        obtain ⟨x2, s2, k⟩ := args_back s r hd hg x s'
        exact h F' H' x2 s2 cls dd xr
  · rw [if_neg hd] at h
    exact h.elim
end
end Ev

/-! EvI: calls of defs by name; list comprehensions. -/
namespace Ev
open PySem PySem.Spec PyProof.Rows L2
section
variable {X : Cx} {W : WX} {G : Gc} {L : Lt} {e a b tg : Expr} {pos : Pos} {c c0 c1 : Cf} {es : List Expr} {kws : List Keyword} {k : Nat} {f : Addr} {fd : FuncData} {ps ks : List Str} {φ : Fn} {n : Nat} {x : Str} {p : Pos}
  {g : List Value → List Value → List Value} {gV : List V → List V → List V} {gA : List Ar → List Ar → List Ar}

theorem run_fnG {pins : List (Addr × Obj)} {σ : L2.St} {H : Hp} {s : Shared} {Q : VK} {us ws : List Value} {vs zs : List V} {sp : Sp} (F : FnG X.prog X.w X.K X.mg X.base (L2.CX X.prog X.w) k f fd ps sp) (hr : RoomG k X.A) (hb : KBinds X.K fd ps ks g gV) (tk : Takes X W)
    (I : Inv X pins σ H s) (r : Vals vs us) (rz : Vals zs ws) (h : sp (gV vs zs) H Q (fun cls d H' => W cls d σ H')) : wpAny (model X.prog X.w) X.A (call (.ref f) us (ks.zip ws)) (EP X pins σ Q) X.xe s := by
  have r2 := hb.rel r rz
  have hl : (g us ws).length = ps.length := by rw [← r2.length]; exact F.len _ _ _ _ h
  refine wpAny_call (codeAny_mono (F.run X.A X.stack s H ⟨us, ks.zip ws⟩ (g us ws) (gV vs zs) Q _ hr I.env0 (hb.to s us ws I.kIn hl) r2 h) fun r s' hq => ?_)
  cases r with
  | error e => exact tk e s' (XE.of_call I (fun cls d H' h => h) hq)
  | ok fl =>
    cases fl with
    | ret u => exact I.after hq
    | next => exact False.elim hq
    | brk => exact False.elim hq
    | cont => exact False.elim hq
def tCallG (W : WX) (sp : Sp) (gV : List V → List V → List V) (t tk : TA) : TE := fun σ H Q => t σ H fun vs H1 => tk σ H1 fun zs H2 => sp (gV vs zs) H2 Q (fun cls d H' => W cls d σ H')
/-- what a call does with its arguments -/
def evCall (φ : Fn) (n : Nat) (gA : List Ar → List Ar → List Ar) (m mk : M (List Ar)) : M Vl := m.bind fun as => mk.bind fun bs => if (gA as bs).length = n then callAr φ (gA as bs) else fun _ => .no
/-- gA does with the arguments what gV does with the values -/
def GRel (gV : List V → List V → List V) (gA : List Ar → List Ar → List Ar) : Prop := ∀ {G : Gc} {c : Cf} {vs zs : List V} {as bs : List Ar}, RAs G c vs as → RAs G c zs bs → RAs G c (gV vs zs) (gA as bs)
theorem SE.call_of {t tk : TA} {m mk : M (List Ar)} {ex : Expr} (hA : GRel gV gA) (hp : PE X ex (tCallG W (spEv G φ n) gV t tk))
    (qa : ∀ (c : Cf) (Q : List V → Hp → Prop), Ok G L c → Req G L W c (m c.ρ) (fun as c' => ∀ vs, RAs G c' vs as → Q vs c'.H) → t c.σ c.H Q)
    (qk : ∀ (c : Cf) (Q : List V → Hp → Prop), Ok G L c → Req G L W c (mk c.ρ) (fun as c' => ∀ vs, RAs G c' vs as → Q vs c'.H) → tk c.σ c.H Q) : SE X W G L ex (evCall φ n gA m mk) := by
  refine ⟨_, hp, fun c Q s h => ?_⟩
  refine qa c _ s ((Req.bind h).imp fun as c1 _ e1 x1 s1 h1 vs rv => ?_)
  show tk c.σ c1.H _
  rw [← e1]
  refine qk c1 _ s1 ((Req.bind h1).imp fun bs c2 _ e2 x2 s2 h2 zs rz => ?_)
  have r := hA (rv.keep s1 x2 e2) rz
  by_cases hn : (gA as bs).length = n
  · rw [if_pos hn] at h2
    have h3 : Req G L W c2 (callAr φ (gA as bs) c2.ρ) (fun r c' => ∀ v, VR G c2 c' v r → Q v c'.H) := h2.imp fun r c3 _ _ x3 s3 h3 v rv => h3 v (VR.base (x1.trans x2) rv)
    rw [← e2]
    exact call_req s2 r ((Paired.length r).trans hn) h3
  · rw [if_neg hn] at h2
    exact h2.elim
/-- f(e, ..) -/
theorem SE.call1 {m : M (List Ar)} (F : FnG X.prog X.w X.K X.mg X.base (L2.CX X.prog X.w) k f fd ps (spEv G φ n)) (hr : RoomG k X.A) (tk : Takes X W) (hg : Gl X x) (hm : X.mg x = some (.ref f)) (hk : PySem.W.keepIn X.K (.ref f) = true) (hb : KBinds X.K fd ps [] g gV) (hA : GRel gV gA)
    (ha : SR X W G L (e :: es) m) (hdb : (x == ("__debug__" : Str)) = false := by decide) (he : starEach (e :: es) X.env = (false, eval e X.env) :: starEach es X.env := by rfl) (hpl : (backTo pos (starEach es X.env)).any (·.1) = false := by rfl) :
    SE X W G L (.Call (.Name x p) (e :: es) [] pos) (evCall φ n gA m (mpure [])) := by
  obtain ⟨t, pa, qa⟩ := ha.ex
  obtain ⟨t2, pk, qk⟩ := (SK.nil (X := X) (W := W) (G := G) (L := L)).ex
  refine SE.call_of (t := t) (tk := tNil) hA ⟨fun pins s σ H Q I h => ?_⟩ qa (fun c Q s r => r _ _ Ext.refl s _ .nil)
  refine wpAny_Call_Name_kw (ld_glob I hg hm ?_ hdb)
  refine PySem.W.callWith_K (h₀ := X.base) I.ok.mod.kin hk (thn (pa.run pos pins s σ H _ I h) fun us s1 ⟨vs, H1, I1, r, q⟩ => ⟨I1.kIn, ?_⟩) he hpl
  exact run_fnG F hr hb tk I1 r (zs := []) (ws := []) .nil q
/-- f() -/
theorem SE.call0 (F : FnG X.prog X.w X.K X.mg X.base (L2.CX X.prog X.w) k f fd ps (spEv G φ n)) (hr : RoomG k X.A) (tk : Takes X W) (hg : Gl X x) (hm : X.mg x = some (.ref f)) (hk : PySem.W.keepIn X.K (.ref f) = true) (hb : KBinds X.K fd ps [] g gV) (hA : GRel gV gA)
    (hdb : (x == ("__debug__" : Str)) = false := by decide) : SE X W G L (.Call (.Name x p) [] [] pos) (evCall φ n gA (mpure []) (mpure [])) := by
  refine SE.call_of (t := tNil) (tk := tNil) hA ⟨fun pins s σ H Q I h => ?_⟩ (fun c Q s r => r _ _ Ext.refl s _ .nil) (fun c Q s r => r _ _ Ext.refl s _ .nil)
  refine wpAny_Call_Name_kw (ld_glob I hg hm ?_ hdb)
  exact PySem.W.callWith_K0 I.kIn hk (run_fnG (us := []) (ws := []) (vs := []) (zs := []) F hr hb tk I .nil .nil h)
/-- f(e, .., k = e, ..) -/
theorem SE.callK {m mk : M (List Ar)} (F : FnG X.prog X.w X.K X.mg X.base (L2.CX X.prog X.w) k f fd ps (spEv G φ n)) (hr : RoomG k X.A) (tk : Takes X W) (hg : Gl X x) (hm : X.mg x = some (.ref f)) (hk : PySem.W.keepIn X.K (.ref f) = true) (hb : KBinds X.K fd ps ks g gV) (hA : GRel gV gA)
    (ha : SR X W G L (e :: es) m) (hkw : SK X W G L kws mk) (hall : (backToKw pos (keywordEach kws X.env)).all (·.1.isSome) = true := by rfl) (hks : (backToKw pos (keywordEach kws X.env)).filterMap (·.1) = ks := by rfl)
    (hdb : (x == ("__debug__" : Str)) = false := by decide) (he : starEach (e :: es) X.env = (false, eval e X.env) :: starEach es X.env := by rfl)
    (hpl : ((backTo pos (starEach (e :: es) X.env)).any (·.1) || (backToKw pos (keywordEach kws X.env)).any (·.1.isNone)) = false := by rfl) :
    SE X W G L (.Call (.Name x p) (e :: es) kws pos) (evCall φ n gA m mk) := by
  obtain ⟨t, pa, qa⟩ := ha.ex
  obtain ⟨t2, pk, qk⟩ := hkw.ex
  refine SE.call_of (t := t) (tk := t2) hA ⟨fun pins s σ H Q I h => ?_⟩ qa qk
  refine wpAny_Call_Name_kw (ld_glob I hg hm ?_ hdb)
  refine PySem.W.callWith_KW (h₀ := X.base) I.ok.mod.kin hk hall (thn (pa.run pos pins s σ H _ I h) fun us s1 ⟨vs, H1, I1, r, q⟩ => ?_) hpl he
  refine thn (pk.run pos pins s1 σ H1 _ I1 q) fun ws s2 ⟨zs, H2, I2, rz, q2⟩ => ⟨I2.kIn, ?_⟩
  rw [hks]
  exact run_fnG F hr hb tk I2 r rz q2
/-- f(k = e, ..) -/
theorem SE.callK0 {mk : M (List Ar)} (F : FnG X.prog X.w X.K X.mg X.base (L2.CX X.prog X.w) k f fd ps (spEv G φ n)) (hr : RoomG k X.A) (tk : Takes X W) (hg : Gl X x) (hm : X.mg x = some (.ref f)) (hk : PySem.W.keepIn X.K (.ref f) = true) (hb : KBinds X.K fd ps ks g gV) (hA : GRel gV gA)
    (hkw : SK X W G L kws mk) (hall : (backToKw pos (keywordEach kws X.env)).all (·.1.isSome) = true := by rfl) (hks : (backToKw pos (keywordEach kws X.env)).filterMap (·.1) = ks := by rfl)
    (hdb : (x == ("__debug__" : Str)) = false := by decide)
    (hpl : ((backTo pos (starEach [] X.env)).any (·.1) || (backToKw pos (keywordEach kws X.env)).any (·.1.isNone)) = false := by rfl) :
    SE X W G L (.Call (.Name x p) [] kws pos) (evCall φ n gA (mpure []) mk) := by
  obtain ⟨t2, pk, qk⟩ := hkw.ex
  refine SE.call_of (t := tNil) (tk := t2) hA ⟨fun pins s σ H Q I h => ?_⟩ (fun c Q s r => r _ _ Ext.refl s _ .nil) qk
  refine wpAny_Call_Name_kw (ld_glob I hg hm ?_ hdb)
  refine PySem.W.callWith_KW0 (h₀ := X.base) I.ok.mod.kin hk hall ?_ hpl
  refine thn (pk.run pos pins s σ H _ I h) fun ws s2 ⟨zs, H2, I2, rz, q2⟩ => ⟨I2.kIn, ?_⟩
  rw [hks]
  exact run_fnG (us := []) (vs := []) F hr hb tk I2 .nil rz q2
/-- all arguments by place -/
theorem GRel.ofPos : GRel (fun vs _ => vs) (fun as _ => as) := fun r _ => r
theorem KBinds.ofPos {K : PySem.W.Frag} (h : Binds K fd ps []) : KBinds K fd ps [] (fun us _ => us) (fun vs _ => vs) := ⟨fun s us ws hk hl => by
  have := h s us hk (by simpa using hl)
  simpa using this, fun r _ => r⟩
/-- by a permutation of the arguments by place and by name -/
def perm {α : Type} (z : α) (ix : List Nat) (us ws : List α) : List α := ix.map fun i => (us ++ ws).getD i z
theorem RAs.append {G : Gc} {c : Cf} : ∀ {vs ws : List V} {as bs : List Ar}, RAs G c vs as → RAs G c ws bs → RAs G c (vs ++ ws) (as ++ bs)
  | _, _, _, _, .nil, r => r
  | _, _, _, _, .cons r t, q => .cons r (RAs.append t q)
theorem RAs.getD {G : Gc} {c : Cf} : ∀ {vs : List V} {as : List Ar} (i : Nat), RAs G c vs as → RA G c (vs.getD i .non) (as.getD i (.v .non))
  | _, _, i, .nil => by simpa using RA.v .non
  | _, _, 0, .cons r _ => r
  | _, _, i + 1, .cons _ t => by simpa using RAs.getD i t
theorem GRel.perm (ix : List Nat) : GRel (Ev.perm .non ix) (Ev.perm (.v .non) ix) := by
  intro G c vs zs as bs r q
  unfold Ev.perm
  induction ix with
  | nil => exact .nil
  | cons i ix ih => exact .cons (RAs.getD i (r.append q)) ih
theorem Vals.getD : ∀ {vs : List V} {us : List Value} (i : Nat), Vals vs us → RelV (vs.getD i .non) (us.getD i .none)
  | _, _, i, .nil => by
    rw [List.getD_nil, List.getD_nil]
    exact (rfl : Value.none = Value.none)
  | _, _, 0, .cons r _ => r
  | _, _, i + 1, .cons _ t => by simpa using Vals.getD i t
theorem Vals.perm {vs zs : List V} {us ws : List Value} (ix : List Nat) (r : Vals vs us) (q : Vals zs ws) : Vals (Ev.perm .non ix vs zs) (Ev.perm .none ix us ws) := by
  unfold Ev.perm
  induction ix with
  | nil => exact .nil
  | cons i ix ih => exact .cons (Vals.getD i (L2.Vals.append r q)) ih
end
end Ev

/-! EvJ: list comprehensions. -/
namespace Ev
open PySem PySem.Spec PyProof.Rows L2

theorem PE.weak {X : Cx} {e : Expr} {t t' : TE} (h : PE X e t) (w : ∀ σ H Q, t' σ H Q → t σ H Q) : PE X e t' := ⟨fun pins s σ H Q I q => h.run pins s σ H Q I (w _ _ _ q)⟩
theorem PTs.weak {X : Cx} {e : List Expr} {t t' : TT} (h : PTs X e t) (w : ∀ σ H Q, t' σ H Q → t σ H Q) : PTs X e t' := ⟨fun pins s σ H Q I q => h.run pins s σ H Q I (w _ _ _ q)⟩
theorem PG.weak {X : Cx} {e : Expr} {t t' : TG} (h : PG X e t) (w : ∀ v σ H Q, t' v σ H Q → t v σ H Q) : PG X e t' := ⟨fun pins s σ H v u Q I r q => h.run pins s σ H v u Q I r (w _ _ _ _ q)⟩

/-- no exception is let out of a comprehension -/
abbrev W0 : WX := fun _ _ _ _ => False
/-- a target of a comprehension: it stores the places vs alone -/
structure SGv (X : Cx) (G : Gc) (L : Lt) (vs : List Nat) (tg : Expr) (g : D → M Unit) : Prop where
  ex : ∃ t : TG, PG X tg t ∧ ∀ (c : Cf) (v : V) (d : D) (Q : L2.St → Hp → Prop), Ok G L c → Rp G.N c.F c.H v d → ReqS G L W0 c (g d c.ρ) (fun _ c' => wipe c'.σ vs = wipe c.σ vs → Q c'.σ c'.H) → t v c.σ c.H Q
structure SGvs (X : Cx) (G : Gc) (L : Lt) (vs : List Nat) (tgs : List Expr) (g : List D → M Unit) : Prop where
  ex : ∃ t : TGs, PGs X tgs t ∧ ∀ (c : Cf) (us : List V) (ds : List D) (Q : L2.St → Hp → Prop), Ok G L c → RpL G.N c.F c.H us ds → ReqS G L W0 c (g ds c.ρ) (fun _ c' => wipe c'.σ vs = wipe c.σ vs → Q c'.σ c'.H) → t us c.σ c.H Q
structure SPT (X : Cx) (G : Gc) (L : Lt) (ifs : List Expr) (m : M Bool) : Prop where
  ex : ∃ t : TT, PTs X ifs t ∧ ∀ (c : Cf) (Q : Bool → Hp → Prop), Ok G L c → Req G L W0 c (m c.ρ) (fun b c' => Q b c'.H) → t c.σ c.H Q
theorem wipe_set {σ : L2.St} {i : Nat} {x : Option V} : ∀ {vs : List Nat}, i ∈ vs → wipe (σ.set i x) vs = wipe σ vs
  | [], h => by simp at h
  | v :: vs, h => by
    by_cases hv : i ∈ vs
    · show (wipe (σ.set i x) vs).set v none = (wipe σ vs).set v none
      rw [wipe_set hv]
    · have hi : i = v := by simpa [hv] using h
      subst hi
      show (wipe (σ.set i x) vs).set i none = (wipe σ vs).set i none
      have com : ∀ ws : List Nat, i ∉ ws → wipe (σ.set i x) ws = (wipe σ ws).set i x := by
        intro ws
        induction ws with
        | nil => intro _; rfl
        | cons w ws ih =>
          intro hn
          simp only [List.mem_cons, not_or] at hn
          show (wipe (σ.set i x) ws).set w none = ((wipe σ ws).set w none).set i x
          rw [ih hn.2, List.set_comm _ _ hn.1]
      rw [com vs hv, List.set_set]
theorem wipe_get {σ : L2.St} {i : Nat} : ∀ {vs : List Nat}, i ∉ vs → (wipe σ vs)[i]? = σ[i]? := fun h => wipe_out h
theorem wipe_wipe {σ : L2.St} (vs : List Nat) : wipe (wipe σ vs) vs = wipe σ vs := by
  have go : ∀ ws : List Nat, (∀ i ∈ ws, i ∈ vs) → wipe (wipe σ ws) vs = wipe σ vs := by
    intro ws
    induction ws with
    | nil => intro _; rfl
    | cons w ws ih =>
      intro h
      show wipe ((wipe σ ws).set w none) vs = _
      rw [wipe_set (h w (by simp)), ih fun i hi => h i (by simp [hi])]
  exact go vs fun _ h => h
section
variable {X : Cx} {W : WX} {G : Gc} {L : Lt} {e a b tg : Expr} {pos : Pos} {c c0 c1 : Cf} {es : List Expr} {vs : List Nat}
theorem SGv.name (i : Nat) {x : Str} (hN : X.N.Nodup) (hi : X.N[i]? = some x) (hx : L2.Loc X.env.scope x) (hm : i ∈ vs) (hf : X.fn x = true ∨ X.env.scope.names.lookup x = some .local) : SGv X G L vs (.Name x pos) (fun d => setSlot i (.fz d)) := by
  refine ⟨_, pg_name hN hi hx hf, fun c v d Q s rv h => ?_⟩
  exact (setSlot_req s Ext.refl (show VR G c c v (.fz d) from rv) h).1 (wipe_set hm)
theorem SGvs.nil : SGvs X G L vs [] (fun ds => match ds with | [] => mpure () | _ => fun _ => .no) := by
  refine ⟨_, pgs_nil, fun c us ds Q s r h => ?_⟩
  cases r with
  | nil => exact ⟨rfl, ReqS.here (r := ()) h s rfl⟩
  | cons => exact h.elim
theorem SGvs.cons {es : List Expr} {g : D → M Unit} {gr : List D → M Unit} (h1 : SGv X G L vs e g) (h2 : SGvs X G L vs es gr) (hs : (assignEach (e :: es) X.env).map (·.2) = assign e X.env :: (assignEach es X.env).map (·.2) := by rfl) : SGvs X G L vs (e :: es) (gsCons g gr) := by
  obtain ⟨t, p, q⟩ := h1.ex
  obtain ⟨u, p', q'⟩ := h2.ex
  refine ⟨_, pgs_cons p p' hs, fun c us ds Q s r h => ?_⟩
  cases r with
  | nil => exact h.elim
  | cons r1 r2 =>
    refine ⟨_, _, rfl, q c _ _ _ s r1 ((ReqS.bind h).imp fun _ c1 _ x1 s1 h1 w1 => ?_)⟩
    exact q' c1 _ _ Q s1 (x1.rpl s r2) (h1.imp fun _ c2 _ x2 s2 h2 w2 => h2 (w2.trans w1))
theorem SGv.tup {es : List Expr} {k n : Nat} {g : List D → M Unit} (hc : X.calm = true) (h : SGvs X G L vs es g) (hn : (assignEach es X.env).length = n := by rfl) (hst : (assignEach es X.env).findIdx? (·.1) = none := by rfl) : SGv X G L vs (.Tuple es k pos) (evUnp n g) := by
  obtain ⟨t, p, q⟩ := h.ex
  refine ⟨_, pg_tup hc p hn hst, fun c v d Q s rv h => ?_⟩
  cases d with
  | tup l =>
    cases rv with
    | tup f r ll =>
      have h : ReqS G L W0 c ((if l.length = n then g l else fun _ => Out.no) c.ρ) _ := h
      by_cases hl : l.length = n
      · rw [if_pos hl] at h
        exact ⟨_, _, rfl, .inl (.inl r), ll.length.trans hl, q c _ _ Q s ll h⟩
      · rw [if_neg hl] at h
        exact h.elim
  | _ => exact h.elim
theorem SPT.nil : SPT X G L [] (mpure true) := ⟨tYes, pts_nil, fun c Q s r => Req.here (r := true) r s⟩
theorem SPT.one {m : M Bool} (h : ST X W0 G L e m) : SPT X G L [e] m := by
  obtain ⟨t, p, q⟩ := h.ex
  exact ⟨t, pts_one p, q⟩

def wipeR : Rho → List Nat → Rho
  | ρ, [] => ρ
  | ρ, v :: vs => (wipeR ρ vs).set v .un
/-- the places may be used by a comprehension: nothing that is one's own stands there -/
def wipeOk (ρ : Rho) (vs : List Nat) : Bool := vs.all fun v => match ρ[v]? with
  | some .un => true
  | some (.fz _) => true
  | _ => false
def restore (vs : List Nat) : Nat → Rho → Rho → Rho
  | k, s :: ρ, t :: ρ' => (if vs.contains k then s else t) :: restore vs (k + 1) ρ ρ'
  | _, _, _ => []
def lcLoop (vs : List Nat) (g : D → M Unit) (mt : M Bool) (me : M D) : List D → M (List D)
  | [] => mpure []
  | d :: ds => fun ρ => ((g d) (wipeR ρ vs)).bind fun _ ρ1 => (mt ρ1).bind fun k ρ2 => if k = true then (me ρ2).bind fun y ρ3 => (lcLoop vs g mt me ds ρ3).bind fun ys ρ4 => .ok (y :: ys) ρ4 else lcLoop vs g mt me ds ρ2
def mLc (vs : List Nat) (mi : M (List D)) (g : D → M Unit) (mt : M Bool) (me : M D) : M Vl := mi.bind fun ds ρ => if wipeOk ρ vs = true then match lcLoop vs g mt me ds ρ with
    | .ok ys ρ' => if lenOk ys.length = true ∧ ρ'.length = ρ.length then .ok (.nw (.lst ys)) (restore vs 0 ρ ρ') else .no
    | _ => .no
  else .no
theorem wipeR_length {ρ : Rho} : ∀ vs : List Nat, (wipeR ρ vs).length = ρ.length
  | [] => rfl
  | v :: vs => by unfold wipeR; rw [List.length_set, wipeR_length vs]
theorem wipeR_get {ρ : Rho} {i : Nat} {s : Sl} : ∀ {vs : List Nat}, (wipeR ρ vs)[i]? = some s → (i ∉ vs ∧ ρ[i]? = some s) ∨ s = .un
  | [], h => .inl ⟨by simp, h⟩
  | v :: vs, h => by
    unfold wipeR at h
    by_cases hi : v = i
    · subst hi
      by_cases hv : v < (wipeR ρ vs).length
      · rw [List.getElem?_set_self hv] at h
        exact .inr (Option.some.inj h).symm
      · rw [List.getElem?_eq_none (by simpa using hv)] at h
        cases h
    · rw [List.getElem?_set_ne hi] at h
      rcases wipeR_get h with ⟨h1, h2⟩ | h1
      · exact .inl ⟨by simp only [List.mem_cons, not_or]; exact ⟨fun e => hi e.symm, h1⟩, h2⟩
      · exact .inr h1
theorem wipe_ok (s : Ok G L c) (hv : ∀ v ∈ vs, ∀ a, L[v]? ≠ some (some a)) : Ok G L ⟨wipe c.σ vs, wipeR c.ρ vs, c.F, c.H⟩ ∧ Ex G c ⟨wipe c.σ vs, wipeR c.ρ vs, c.F, c.H⟩ := by
  have own : ∀ b, Own G (wipe c.σ vs) (wipeR c.ρ vs) b → c.own G b := by
    rintro b (z | ⟨i, t, e, w, q⟩)
    · exact .inl z
    · rcases wipeR_get e with ⟨h1, h2⟩ | rfl
      · rw [wipe_get h1] at q
        exact .inr ⟨i, t, h2, w, q⟩
      · cases w
  refine ⟨⟨?_, ?_, ?_, ?_, ?_, s.trk, s.tabs⟩, ⟨fun _ _ z _ => z, fun _ z => z, fun _ z => .inl z, fun b z => .inl (own b z)⟩⟩
  · rw [wipeR_length, wipe_length]; exact s.len
  · intro i t e
    rcases wipeR_get e with ⟨h1, h2⟩ | rfl
    · show SlR G c.F c.H (wipe c.σ vs)[i]? t
      rw [wipe_get h1]
      exact s.sl i t h2
    · trivial
  · intro i j t u a hij e w e2 w2 q q2
    rcases wipeR_get e with ⟨h1, h2⟩ | rfl
    · rcases wipeR_get e2 with ⟨h3, h4⟩ | rfl
      · have q : (wipe c.σ vs)[i]? = _ := q
        have q2 : (wipe c.σ vs)[j]? = _ := q2
        rw [wipe_get h1] at q
        rw [wipe_get h3] at q2
        exact s.sep i j t u a hij h2 w h4 w2 q q2
      · cases w2
    · cases w
  · intro i a e
    have hi : i ∉ vs := fun z => hv i z a e
    obtain ⟨h1, d, h2⟩ := s.lent i a e
    refine ⟨(wipe_get hi).trans h1, d, ?_⟩
    have keep : ∀ t, c.ρ[i]? = some t → (wipeR c.ρ vs)[i]? = some t := fun t ht => by
      have : ∀ ws : List Nat, i ∉ ws → (wipeR c.ρ ws)[i]? = c.ρ[i]? := by
        intro ws
        induction ws with
        | nil => intro _; rfl
        | cons w ws ih =>
          intro hn
          simp only [List.mem_cons, not_or] at hn
          unfold wipeR
          rw [List.getElem?_set_ne (Ne.symm hn.1)]
          exact ih hn.2
      rw [this vs hi]
      exact ht
    exact h2.imp (keep _) (keep _)
  · intro i d e
    rcases e with e | e
    · rcases wipeR_get e with ⟨h1, h2⟩ | z
      · exact s.lnL i d (.inl h2)
      · cases z
    · rcases wipeR_get e with ⟨h1, h2⟩ | z
      · exact s.lnL i d (.inr h2)
      · cases z
theorem wipeOk_lent (s : Ok G L c) (h : wipeOk c.ρ vs = true) : ∀ v ∈ vs, ∀ a, L[v]? ≠ some (some a) := fun v hv a e => by
  obtain ⟨_, d, h2⟩ := s.lent v a e
  unfold wipeOk at h
  have := List.all_eq_true.mp h v hv
  rcases h2 with h2 | h2 <;> rw [h2] at this <;> cases this
theorem restore_get {ρ ρ' : Rho} : ∀ {k i : Nat}, ρ.length = ρ'.length → (restore vs k ρ ρ')[i]? = if vs.contains (k + i) then ρ[i]? else ρ'[i]? := by
  induction ρ generalizing ρ' with
  | nil =>
    intro k i h
    cases ρ' with
    | nil => simp [restore]
    | cons => simp at h
  | cons s ρ ih =>
    intro k i h
    cases ρ' with
    | nil => simp at h
    | cons t ρ' =>
      cases i with
      | zero =>
        simp only [restore, List.getElem?_cons_zero, Nat.add_zero]
        split <;> rfl
      | succ i =>
        simp only [restore, List.getElem?_cons_succ]
        rw [ih (by simpa using h)]
        rw [show k + 1 + i = k + (i + 1) by omega]
theorem restore_length {ρ ρ' : Rho} : ∀ {k : Nat}, ρ.length = ρ'.length → (restore vs k ρ ρ').length = ρ.length := by
  induction ρ generalizing ρ' with
  | nil => intro k h; simp [restore]
  | cons s ρ ih =>
    intro k h
    cases ρ' with
    | nil => simp at h
    | cons t ρ' => simp [restore, ih (ρ' := ρ') (by simpa using h)]
/-- the block is over: the places have what they had -/
theorem restore_ok {ρ' : Rho} {σ2 : L2.St} {F' : Fz} {H' : Hp} (s : Ok G L c) (h : wipeOk c.ρ vs = true) (hl : ρ'.length = c.ρ.length) (hw : wipe σ2 vs = wipe c.σ vs) (x : Ex G c ⟨σ2, ρ', F', H'⟩) (s2 : Ok G L ⟨σ2, ρ', F', H'⟩) :
    Ok G L ⟨c.σ, restore vs 0 c.ρ ρ', F', H'⟩ ∧ Ex G c ⟨c.σ, restore vs 0 c.ρ ρ', F', H'⟩ ∧ ∀ b, Own G c.σ (restore vs 0 c.ρ ρ') b → Own G σ2 ρ' b := by
  have at_ : ∀ (i : Nat) (t : Sl), (restore vs 0 c.ρ ρ')[i]? = some t → (i ∈ vs ∧ c.ρ[i]? = some t ∧ isOw t = false ∧ (∀ d, t ≠ .ln d) ∧ ∀ d, t ≠ .lf d) ∨ (i ∉ vs ∧ ρ'[i]? = some t) := fun i t e => by
    rw [restore_get hl.symm, Nat.zero_add] at e
    split at e
    · rename_i hi
      have hi : i ∈ vs := by simpa using hi
      refine .inl ⟨hi, e, ?_⟩
      unfold wipeOk at h
      have := List.all_eq_true.mp h i hi
      rw [e] at this
      cases t with
      | un => exact ⟨rfl, fun d z => (by cases z), fun d z => (by cases z)⟩
      | fz d => exact ⟨rfl, fun d z => (by cases z), fun d z => (by cases z)⟩
      | _ => cases this
    · rename_i hi
      exact .inr ⟨by simpa using hi, e⟩
  have sg : ∀ i, i ∉ vs → σ2[i]? = c.σ[i]? := fun i hi => by
    rw [← wipe_get (σ := σ2) hi, hw, wipe_get hi]
  have own : ∀ b, Own G c.σ (restore vs 0 c.ρ ρ') b → Own G σ2 ρ' b := by
    rintro b (z | ⟨i, t, e, w, q⟩)
    · exact .inl z
    · rcases at_ i t e with ⟨_, _, z, _⟩ | ⟨hi, e2⟩
      · rw [z] at w; cases w
      · exact .inr ⟨i, t, e2, w, by rw [sg i hi]; exact q⟩
  refine ⟨⟨?_, ?_, ?_, ?_, ?_, s2.trk, s2.tabs⟩, ⟨x.keep, x.mono, x.new, fun b z => x.sub b (own b z)⟩, own⟩
  · rw [restore_length hl.symm]; exact s.len
  · intro i t e
    rcases at_ i t e with ⟨_, e2, z, _⟩ | ⟨hi, e2⟩
    · exact (s.sl i t e2).mono x.mono (fun a f => x.fz s f) fun w => by rw [z] at w; cases w
    · show SlR G F' H' c.σ[i]? t
      rw [← sg i hi]
      exact s2.sl i t e2
  · intro i j t u a hij e w e2 w2 q q2
    rcases at_ i t e with ⟨_, _, z, _⟩ | ⟨hi, e3⟩
    · rw [z] at w; cases w
    · rcases at_ j u e2 with ⟨_, _, z, _⟩ | ⟨hj, e4⟩
      · rw [z] at w2; cases w2
      · exact s2.sep i j t u a hij e3 w e4 w2 ((sg i hi).trans q) ((sg j hj).trans q2)
  · intro i a e
    have hi : i ∉ vs := fun z => wipeOk_lent s h i z a e
    obtain ⟨h1, _⟩ := s.lent i a e
    obtain ⟨_, d, h2⟩ := s2.lent i a e
    refine ⟨h1, d, ?_⟩
    show (restore vs 0 c.ρ ρ')[i]? = _ ∨ (restore vs 0 c.ρ ρ')[i]? = _
    rw [restore_get hl.symm, Nat.zero_add, if_neg (by simpa using hi)]
    exact h2
  · intro i d e
    have go : ∀ t : Sl, (t = .ln d ∨ t = .lf d) → (restore vs 0 c.ρ ρ')[i]? = some t → ∃ a, L[i]? = some (some a) := fun t ht e => by
      rcases at_ i t e with ⟨_, _, _, z1, z2⟩ | ⟨hi, e2⟩
      · rcases ht with rfl | rfl
        · exact absurd rfl (z1 d)
        · exact absurd rfl (z2 d)
      · rcases ht with rfl | rfl
        · exact s2.lnL i d (.inl e2)
        · exact s2.lnL i d (.inr e2)
    rcases e with e | e
    · exact go _ (.inl rfl) e
    · exact go _ (.inr rfl) e
/-- an object that no slot holds is written: nothing else changes -/
theorem Ok.hid {p : Addr} {o : HO} (s : Ok G L c) (nf : ¬ c.F p) (no : ¬ c.own G p) (hm : ∃ u, c.H p = some u ∧ isMut u = true) : Ok G L ⟨c.σ, c.ρ, c.F, upd c.H p o⟩ := by
  have kf : ∀ b, c.F b → upd c.H p o b = c.H b := fun b f => upd_ne fun z => nf (z ▸ f)
  refine ⟨s.len, fun i t e => (s.sl i t e).mono (fun _ f => f) kf fun w b q => ?_, s.sep, s.lent, s.lnL, fun b f => ?_, G.tabsUpd s.tabs (.inr hm)⟩
  · obtain ⟨b', d, q', ow, _⟩ := s.own e w
    rw [q] at q'
    cases q'
    exact ⟨ow.nf, upd_ne fun z => no (z ▸ .inr ⟨i, t, e, w, q⟩)⟩
  · obtain ⟨⟨u, e⟩, n⟩ := s.trk b f
    exact ⟨⟨u, (kf b f).trans e⟩, n⟩
theorem Ex.hid {p : Addr} {o : HO} (x : Ex G c0 c) (n : c0.H p = none) : Ex G c0 ⟨c.σ, c.ρ, c.F, upd c.H p o⟩ :=
  ⟨fun b u e z => (upd_ne (ne_of_none e n)).trans (x.keep b u e z), x.mono, x.new, x.sub⟩
end
end Ev

/-! EvK: the rule of list comprehensions. -/
namespace Ev
open PySem PySem.Spec PyProof.Rows L2
section
variable {X : Cx} {W : WX} {G : Gc} {L : Lt} {e a b tg elt iter : Expr} {pos : Pos} {c c0 c1 : Cf} {es ifs : List Expr} {scope : Scope} {own : List (Str × Nat)}
/-- an object that nobody holds stays -/
theorem Ex.hidden {p : Addr} {u : HO} (x : Ex G c c1) (h : c.H p = some u) (nf : ¬ c.F p) (no : ¬ c.own G p) (hm : isMut u = true := by rfl) : c1.H p = some u ∧ ¬ c1.F p ∧ ¬ c1.own G p :=
  ⟨x.keep p u h no, fun f => (x.new p f).elim nf fun z => z.elim (fun z => z.mut h hm) no, fun o => (x.sub p o).elim no fun z => by rw [h] at z; cases z⟩
theorem lc_spec {mi : M (List D)} {g : D → M Unit} {mt : M Bool} {me : M D} (hi : SI X W G L tg iter mi)
    (hg : ∀ (s : Shared) (H : Hp) (C : Addr) (cl : List (Str × Addr)) (fp : List Addr), SGv (X.blk s H scope (compEnvC scope cl C X.env) fp) G L (own.map (·.2)) tg g)
    (ht : ∀ (s : Shared) (H : Hp) (C : Addr) (cl : List (Str × Addr)) (fp : List Addr), SPT (X.blk s H scope (compEnvC scope cl C X.env) fp) G L ifs mt)
    (he : ∀ (s : Shared) (H : Hp) (C : Addr) (cl : List (Str × Addr)) (fp : List Addr), SD (X.blk s H scope (compEnvC scope cl C X.env) fp) W0 G L elt me) :
    ∃ (wi : TI) (tg' : TG) (tt' : TT) (te' : TE), PI X tg iter wi ∧
      (∀ (s : Shared) (H : Hp) (C : Addr) (cl : List (Str × Addr)) (fp : List Addr), PG (X.blk s H scope (compEnvC scope cl C X.env) fp) tg tg') ∧
      (∀ (s : Shared) (H : Hp) (C : Addr) (cl : List (Str × Addr)) (fp : List Addr), PTs (X.blk s H scope (compEnvC scope cl C X.env) fp) ifs tt') ∧
      (∀ (s : Shared) (H : Hp) (C : Addr) (cl : List (Str × Addr)) (fp : List Addr), PE (X.blk s H scope (compEnvC scope cl C X.env) fp) elt te') ∧
      ∀ (c : Cf) (Q : VK), Ok G L c → Req G L W c (mLc (own.map (·.2)) mi g mt me c.ρ) (fun r c' => ∀ v, VR G c c' v r → Q v c'.H) → tLc wi tg' tt' te' (own.map (·.2)) c.σ c.H Q := by
  obtain ⟨wi, p, q⟩ := hi.ex
  generalize hvs : own.map (·.2) = vs at *
  refine ⟨wi, fun v σ H Q => ∀ s H0 C cl fp, (Classical.choose (hg s H0 C cl fp).ex) v σ H Q, fun σ H Q => ∀ s H0 C cl fp, (Classical.choose (ht s H0 C cl fp).ex) σ H Q,
    fun σ H Q => ∀ s H0 C cl fp, (Classical.choose (he s H0 C cl fp).ex) σ H Q, p, fun s H C cl fp => PG.weak (Classical.choose_spec (hg s H C cl fp).ex).1 (fun v σ H' Q h => h s H C cl fp),
    fun s H C cl fp => PTs.weak (Classical.choose_spec (ht s H C cl fp).ex).1 (fun σ H' Q h => h s H C cl fp), fun s H C cl fp => PE.weak (Classical.choose_spec (he s H C cl fp).ex).1 (fun σ H' Q h => h s H C cl fp), fun c Q s h => ?_⟩
  refine q c _ s ((Req.bind h).imp fun ds c1 _ e1 x1 s1 h1 J it => ?_)
  intro Dd nD
  have h1 : Req G L W c1 (if wipeOk c1.ρ vs = true then match lcLoop vs g mt me ds c1.ρ with
    | .ok ys ρ' => if lenOk ys.length = true ∧ ρ'.length = c1.ρ.length then .ok (Vl.nw (.lst ys)) (restore vs 0 c1.ρ ρ') else .no
    | _ => .no
    else .no) _ := h1
  by_cases hw : wipeOk c1.ρ vs = true
  · rw [if_pos hw] at h1
    have hvl := wipeOk_lent s1 hw
    cases el : lcLoop vs g mt me ds c1.ρ with
    | no => rw [el] at h1; exact h1.elim
    | ex d ρ => rw [el] at h1; exact h1.elim
    | ok ws ρf =>
      rw [el] at h1
      have h1 : Req G L W c1 (if lenOk ws.length = true ∧ ρf.length = c1.ρ.length then .ok (Vl.nw (.lst ws)) (restore vs 0 c1.ρ ρf) else .no) _ := h1
      by_cases hz : lenOk ws.length = true ∧ ρf.length = c1.ρ.length
      · rw [if_pos hz] at h1
        refine ⟨fun i m H => m = ds.length - i ∧ i ≤ ds.length ∧ ∃ (c2 : Cf) (acc : List V) (ys zs : List D), c2.H = H ∧ wipe c2.σ vs = wipe c1.σ vs ∧ Ok G L c2 ∧ Ex G c1 c2 ∧ ¬ c2.F Dd ∧ ¬ c2.own G Dd ∧ c2.H Dd = some (.lst acc) ∧ RpL G.N c2.F c2.H acc ys ∧ lcLoop vs g mt me (ds.drop i) c2.ρ = .ok zs ρf ∧ ys ++ zs = ws,
          ⟨_, rfl, Nat.zero_le _, ⟨c1.σ, c1.ρ, c1.F, upd c1.H Dd (.lst [])⟩, [], [], ws, rfl, rfl, StR.grow s1 nD (fun _ z => z) (fun _ z => .inl z), Ext.grow s1 nD (fun _ z => z) (fun _ z => .inl z), fun f => ?_, fun o => ?_, upd_same, .nil, el, rfl⟩, ?_⟩
        · obtain ⟨⟨u, e⟩, _⟩ := s1.trk Dd f
          rw [nD] at e; cases e
        · obtain ⟨u, e⟩ := s1.ownAt o
          rw [nD] at e; cases e
        · rintro i m H ⟨rfl, hi, c2, acc, ys, zs, rfl, hws, s2, x2, nf, no, hD, rl, ez, ew⟩
          obtain ⟨it1, it2⟩ := it c2 s2 x2.mono (fun a f => x2.fz s1 f) i
          by_cases hlt : i < ds.length
          · refine .inr ?_
            obtain ⟨go, yl⟩ := it1 ds[i] (List.getElem?_eq_getElem hlt)
            refine ⟨go, fun H' => i + 1 ≤ ds.length ∧ ∃ (c2 : Cf) (acc : List V) (ys zs : List D), c2.H = H' ∧ wipe c2.σ vs = wipe c1.σ vs ∧ Ok G L c2 ∧ Ex G c1 c2 ∧ ¬ c2.F Dd ∧ ¬ c2.own G Dd ∧ c2.H Dd = some (.lst acc) ∧ RpL G.N c2.F c2.H acc ys ∧ lcLoop vs g mt me (ds.drop (i + 1)) c2.ρ = .ok zs ρf ∧ ys ++ zs = ws,
              fun H' hN => ⟨ds.length - (i + 1), by omega, rfl, hN.1, hN.2⟩, fun x H' y => ?_⟩
            obtain ⟨F', x3, s3, rx⟩ := yl x H' y
            rw [List.drop_eq_getElem_cons hlt] at ez
            obtain ⟨u5, ρ5, eg, ez⟩ := bind_ok ez
            obtain ⟨k, ρ6, et, ez⟩ := bind_ok ez
            obtain ⟨s4, x4⟩ := wipe_ok (vs := vs) s3 hvl
            have hsig : wipe c.σ vs = wipe c2.σ vs := by rw [hws, e1]
            intro sh H0 C cl fp
            have sg := (Classical.choose_spec (hg sh H0 C cl fp).ex).2 ⟨wipe c2.σ vs, wipeR c2.ρ vs, F', H'⟩ x ds[i]
            rw [hsig]
            refine sg _ s4 rx ?_
            show ReqS G L W0 _ (g ds[i] (wipeR c2.ρ vs)) _
            rw [eg]
            intro σ5 F5 H5 x5 s5 hw5
            have hw5 : wipe σ5 vs = wipe (wipe c2.σ vs) vs := hw5
            rw [wipe_wipe] at hw5
            refine ⟨hw5, ?_⟩
            intro sh2 H02 C2 cl2 fp2
            refine (Classical.choose_spec (ht sh2 H02 C2 cl2 fp2).ex).2 ⟨σ5, ρ5, F5, H5⟩ _ s5 ?_
            show Req G L W0 _ (mt ρ5) _
            rw [et]
            intro F6 H6 x6 s6
            have x26 := ((x3.trans x4).trans x5).trans x6
            cases k with
            | true =>
              rw [if_pos rfl] at ez ⊢
              obtain ⟨y7, ρ7, em, ez⟩ := bind_ok ez
              obtain ⟨zs', ρ8, ezs, ez⟩ := bind_ok ez
              cases ez
              intro sh3 H03 C3 cl3 fp3
              refine (Classical.choose_spec (he sh3 H03 C3 cl3 fp3).ex).2 ⟨σ5, ρ6, F6, H6⟩ _ s6 ?_
              show Req G L W0 _ (me ρ6) _
              rw [em]
              intro F7 H7 x7 s7 v rv
              have x27 := x26.trans x7
              obtain ⟨hD7, nf7, no7⟩ := Ex.hidden (c1 := ⟨σ5, ρ7, F7, H7⟩) x27 hD nf no
              have rl7 := x27.rpl s2 rl
              have hlen : ys.length < 16777216 := by
                have := lenOk_line hz.1
                rw [sizeLine_eq, ← ew, List.length_append] at this
                simp only [List.length_cons] at this
                omega
              refine ⟨acc, hD7, by rw [rl.length, sizeLine_eq]; exact hlen, hlt, ⟨σ5, ρ7, F7, upd H7 Dd (.lst (acc ++ [v]))⟩, acc ++ [v], ys ++ [y7], zs', rfl, hw5.trans hws, Ok.hid (c := ⟨σ5, ρ7, F7, H7⟩) s7 nf7 no7 ⟨_, hD7, rfl⟩, Ex.hid (c := ⟨σ5, ρ7, F7, H7⟩) (x2.trans x27) nD, nf7, no7, upd_same, ?_, ezs, ?_⟩
              · exact (rl7.append (.cons rv .nil)).mono (fun _ f => f) fun b f => upd_ne (fun (z : b = Dd) => nf7 (by rw [← z]; exact f))
              · rw [← ew, List.append_assoc]; rfl
            | false =>
              rw [if_neg Bool.false_ne_true] at ez ⊢
              obtain ⟨hD6, nf6, no6⟩ := Ex.hidden (c1 := ⟨σ5, ρ6, F6, H6⟩) x26 hD nf no
              exact ⟨hlt, ⟨σ5, ρ6, F6, H6⟩, acc, ys, zs, rfl, hw5.trans hws, s6, x2.trans x26, nf6, no6, hD6, x26.rpl s2 rl, ez, ew⟩
          · have e : ds.drop i = [] := List.drop_eq_nil_of_le (by omega)
            rw [e] at ez
            cases ez
            rw [List.append_nil] at ew
            subst ew
            refine .inl ⟨it2 (by omega), ?_⟩
            obtain ⟨s3, x3, ow3⟩ := restore_ok s1 hw hz.2 hws x2 s2
            exact h1 c2.F c2.H x3 s3 _ ⟨Dd, rfl, ⟨nf, acc, hD, rl⟩, fun z => no (ow3 Dd z), Ex.pre x1 (.inl nD)⟩
      · rw [if_neg hz] at h1
        exact h1.elim
  · rw [if_neg hw] at h1
    exact h1.elim
theorem SE.lc {mi : M (List D)} {g : D → M Unit} {mt : M Bool} {me : M D} (hc : X.calm = true) (hN : X.N.Nodup) (ok : BlkOk X.N X.env.scope scope own) (hi : SI X W G L tg iter mi)
    (hg : ∀ (s : Shared) (H : Hp) (C : Addr) (cl : List (Str × Addr)) (fp : List Addr), SGv (X.blk s H scope (compEnvC scope cl C X.env) fp) G L (own.map (·.2)) tg g)
    (ht : ∀ (s : Shared) (H : Hp) (C : Addr) (cl : List (Str × Addr)) (fp : List Addr), SPT (X.blk s H scope (compEnvC scope cl C X.env) fp) G L ifs mt)
    (he : ∀ (s : Shared) (H : Hp) (C : Addr) (cl : List (Str × Addr)) (fp : List Addr), SD (X.blk s H scope (compEnvC scope cl C X.env) fp) W0 G L elt me) (hs : ∀ x, foldedSetIterable iter X.env x = pure x := by intro _; rfl) :
    SE X W G L (.ListComp elt [⟨tg, iter, ifs, 0⟩] scope pos) (mLc (own.map (·.2)) mi g mt me) := by
  obtain ⟨wi, tg', tt', te', p, h1, h2, h3, q⟩ := lc_spec (own := own) hi hg ht he
  exact ⟨_, pe_lc hc hN p ok h1 h2 h3 hs, q⟩
/-- name = [..] on one line -/
theorem SS.setLc (i : Nat) {y : Str} {py spos : Pos} {mi : M (List D)} {g : D → M Unit} {mt : M Bool} {me : M D} (hc : X.calm = true) (hN : X.N.Nodup) (hy : X.N[i]? = some y) (hyl : X.env.scope.names.lookup y = some .local)
    (hsw : swapsWith (.ListComp elt [⟨tg, iter, ifs, 0⟩] scope pos) (some (.Name y py)) spos.line X.env = pure true) (ok : BlkOk X.N X.env.scope scope own) (hi : SI X W G L tg iter mi)
    (hg : ∀ (s : Shared) (H : Hp) (C : Addr) (cl : List (Str × Addr)) (fp : List Addr), SGv (X.blk s H scope (compEnvC scope cl C X.env) fp) G L (own.map (·.2)) tg g)
    (ht : ∀ (s : Shared) (H : Hp) (C : Addr) (cl : List (Str × Addr)) (fp : List Addr), SPT (X.blk s H scope (compEnvC scope cl C X.env) fp) G L ifs mt)
    (he : ∀ (s : Shared) (H : Hp) (C : Addr) (cl : List (Str × Addr)) (fp : List Addr), SD (X.blk s H scope (compEnvC scope cl C X.env) fp) W0 G L elt me) (hs : ∀ x, foldedSetIterable iter X.env x = pure x := by intro _; rfl) :
    SS X W G L (.Assign [.Name y py] (.ListComp elt [⟨tg, iter, ifs, 0⟩] scope pos) spos) (evSet i (mLc (own.map (·.2)) mi g mt me)) := by
  obtain ⟨wi, tg', tt', te', p, h1, h2, h3, q⟩ := lc_spec (own := own) hi hg ht he
  exact SS.set_of (ps_setLc hc hN hy hyl hsw p ok h1 h2 h3 hs) q
end
end Ev

/-! EvL: several names at once, slices, + and * of lists, dicts, repr, truths compared. -/
namespace Ev
open PySem PySem.Spec PyProof.Rows L2

/-- values of an argument list, new ones apart from one another -/
inductive VRs (G : Gc) (c0 c : Cf) : List V → List Vl → Prop
  | nil : VRs G c0 c [] []
  | cons {v : V} {r : Vl} {vs : List V} {rs : List Vl} : VR G c0 c v r → (∀ d, r = .nw d → ∀ (j : Nat) (d' : D), rs[j]? = some (.nw d') → vs[j]? ≠ some v) → VRs G c0 c vs rs → VRs G c0 c (v :: vs) (r :: rs)
structure SV (X : Cx) (W : WX) (G : Gc) (L : Lt) (es : List Expr) (m : M (List Vl)) : Prop where
  ex : ∃ t : TA, PA X es t ∧ ∀ (c : Cf) (Q : List V → Hp → Prop), Ok G L c → Req G L W c (m c.ρ) (fun rs c' => ∀ vs, VRs G c c' vs rs → Q vs c'.H) → t c.σ c.H Q
section
variable {X : Cx} {W : WX} {G : Gc} {L : Lt} {e a b tg : Expr} {pos : Pos} {c c0 c1 : Cf} {es : List Expr}
theorem VRs.base {vs : List V} {rs : List Vl} (x : Ex G c0 c) (h : VRs G c c1 vs rs) : VRs G c0 c1 vs rs := by
  induction h with
  | nil => exact .nil
  | cons r n _ ih => exact .cons (VR.base x r) n ih
theorem VRs.nw {vs : List V} {rs : List Vl} {j : Nat} {d : D} (h : VRs G c c1 vs rs) (e : rs[j]? = some (.nw d)) : ∃ p, vs[j]? = some (V.ref p) ∧ (c.H p = none ∨ c.own G p) ∧ ¬ c1.own G p := by
  induction h generalizing j with
  | nil => simp at e
  | cons r n _ ih =>
    cases j with
    | zero =>
      simp at e
      subst e
      obtain ⟨p, rfl, _, no, pre⟩ := r
      exact ⟨p, rfl, pre, no⟩
    | succ j => simpa using ih (j := j) (by simpa using e)
theorem SV.nil : SV X W G L [] (mpure []) := ⟨tNil, pa_nil, fun c Q s r => r _ _ Ext.refl s _ .nil⟩
def vCons (ma : M Vl) (mr : M (List Vl)) : M (List Vl) := ma.bind fun x => mr.bind fun xs => mpure (x :: xs)
theorem SV.cons {ma : M Vl} {mr : M (List Vl)} (ha : SE X W G L e ma) (hr : SV X W G L es mr) (hs : starEach (e :: es) X.env = (false, eval e X.env) :: starEach es X.env := by rfl) : SV X W G L (e :: es) (vCons ma mr) := by
  obtain ⟨ta, pa, qa⟩ := ha.ex
  obtain ⟨tb, pb, qb⟩ := hr.ex
  refine ⟨tCons ta tb, pa_cons pa pb hs, fun c Q s h => ?_⟩
  refine qa c _ s ((Req.bind h).imp fun x c1 _ e1 x1 s1 h1 v rv => ?_)
  show tb c.σ c1.H _
  rw [← e1]
  refine qb c1 _ s1 ((Req.bind h1).imp fun y c2 _ e2 x2 s2 h2 u ru => ?_)
  refine Req.here (r := x :: y) h2 s2 _ (.cons (VR.keep rv s1 x2 s2) (fun d ex j d' ej ev => ?_) (VRs.base x1 ru))
  subst ex
  obtain ⟨p, rfl, ow, no, _⟩ := rv
  obtain ⟨p', e3, pre, _⟩ := ru.nw ej
  rw [ev] at e3
  cases e3
  obtain ⟨uu, e4, _⟩ := ow.at
  rcases pre with z | z
  · rw [e4] at z; cases z
  · exact no z
def setSlots : List Nat → List Vl → M Unit
  | [], [] => mpure ()
  | i :: is, r :: rs => M.bind (setSlot i r) fun _ => setSlots is rs
  | _, _ => fun _ => .no
def sets : L2.St → List Nat → List V → L2.St
  | σ, i :: is, v :: vs => sets (σ.set i (some v)) is vs
  | σ, _, _ => σ
theorem setSlots_req {P : Unit → Cf → Prop} : ∀ {is : List Nat} {rs : List Vl} {vs : List V} {c : Cf}, Ok G L c → Ex G c0 c → VRs G c0 c vs rs → ReqS G L W c0 (setSlots is rs c.ρ) P → ∃ ρ' , P () ⟨sets c.σ is vs, ρ', c.F, c.H⟩ ∧ Ok G L ⟨sets c.σ is vs, ρ', c.F, c.H⟩
  | [], [], vs, c, s, x, r, h => by
    cases r
    exact ⟨c.ρ, h _ _ _ x s, s⟩
  | [], _ :: _, vs, c, s, x, r, h => h.elim
  | _ :: _, [], vs, c, s, x, r, h => h.elim
  | i :: is, rr :: rs, vs, c, s, x, r, h => by
    cases r with
    | @cons v _ vs _ r1 n r2 =>
      have h : ReqS G L W c0 ((setSlot i rr c.ρ).bind fun _ => setSlots is rs) P := h
      unfold setSlot at h
      cases e : c.ρ[i]? with
      | none => rw [e] at h; exact h.elim
      | some t =>
        rw [e] at h
        have key : (∀ d, t ≠ .ln d) → (∀ d, t ≠ .lf d) → ReqS G L W c0 (setSlots is rs (c.ρ.set i (slOf rr))) P → ∃ ρ' , P () ⟨sets c.σ (i :: is) (v :: vs), ρ', c.F, c.H⟩ ∧ Ok G L ⟨sets c.σ (i :: is) (v :: vs), ρ', c.F, c.H⟩ := fun n1 n2 h => by
          obtain ⟨s1, x1⟩ := Ok.put s x r1 e n1 n2
          refine setSlots_req (c := ⟨c.σ.set i (some v), c.ρ.set i (slOf rr), c.F, c.H⟩) s1 x1 ?_ h
          -- the others are held by nobody still
          have own : ∀ b, Own G (c.σ.set i (some v)) (c.ρ.set i (slOf rr)) b → c.own G b ∨ (∃ d, rr = .nw d ∧ v = .ref b) := fun b z => by
            rcases z with z | ⟨j, u, z, w, q⟩
            · exact .inl (.inl z)
            · by_cases hj : j = i
              · subst hj
                rw [List.getElem?_set_self (List.getElem?_eq_some_iff.mp e).1] at z
                cases z
                have hl : j < c.σ.length := by rw [← s.len]; exact (List.getElem?_eq_some_iff.mp e).1
                rw [List.getElem?_set_self hl] at q
                cases rr with
                | fz d => cases w
                | nw d => exact .inr ⟨d, rfl, by simpa using q⟩
              · rw [List.getElem?_set_ne (Ne.symm hj)] at z q
                exact .inl (.inr ⟨j, u, z, w, q⟩)
          have go : ∀ {vs' : List V} {rs' : List Vl}, VRs G c0 c vs' rs' → (∀ d, rr = .nw d → ∀ (j : Nat) (d' : D), rs'[j]? = some (.nw d') → vs'[j]? ≠ some v) → VRs G c0 ⟨c.σ.set i (some v), c.ρ.set i (slOf rr), c.F, c.H⟩ vs' rs' := by
            intro vs' rs' r
            induction r with
            | nil => intro _; exact .nil
            | @cons v2 r2 vs2 rs2 q nn _ ih =>
              intro hn
              refine .cons ?_ nn (ih fun d ed j d' ej => by simpa using hn d ed (j + 1) d' (by simpa using ej))
              cases r2 with
              | fz d => exact q
              | nw d =>
                obtain ⟨p, z1, z2, z3, z4⟩ := q
                refine ⟨p, z1, z2, fun z => ?_, z4⟩
                rcases own p z with z | ⟨d2, e2, e3⟩
                · exact z3 z
                · exact hn d2 e2 0 d rfl (by simp [z1, e3])
          exact go r2 n
        cases t with
        | ln d => exact h.elim
        | lf d => exact h.elim
        | _ => exact key (fun d z => by cases z) (fun d z => by cases z) h
/-- a, b = e1, e2 of local names -/
def evPar (is : List Nat) (m : M (List Vl)) : M Fl := m.bind fun rs => M.bind (setSlots is rs) fun _ => mpure .nx
theorem par_spec {is : List Nat} {m : M (List Vl)} {t : TA} {D : Ends} (q : ∀ (c : Cf) (Q : List V → Hp → Prop), Ok G L c → Req G L W c (m c.ρ) (fun rs c' => ∀ vs, VRs G c c' vs rs → Q vs c'.H) → t c.σ c.H Q)
    (s : Ok G L c) (h : ReqS G L W c (evPar is m c.ρ) (EndsP G D c)) {Qt : List V → Hp → Prop} (hQ : ∀ vs H1, vs.length = is.length → D.nx (sets c.σ is vs) H1 → Qt vs H1) : t c.σ c.H Qt := by
  refine q c _ s ?_
  have h : ReqS G L W c ((m c.ρ).bind fun rs => M.bind (setSlots is rs) fun _ => mpure Fl.nx) (EndsP G D c) := h
  cases em : m c.ρ with
  | no => rw [em] at h; exact h
  | ex d ρ => rw [em] at h; exact ReqS.toE (o := .ex d ρ) (P := EndsP G D c) h
  | ok rs ρ1 =>
    rw [em] at h
    intro F1 H1 x1 s1 vs rv
    have h2 : ReqS G L W c (setSlots is rs ρ1) (fun a c1 => ReqS G L W c1 (Out.ok Fl.nx c1.ρ) (EndsP G D c)) := ReqS.bind h
    have hlen : vs.length = is.length := by
      have e1 : vs.length = rs.length := by
        clear h h2 em
        induction rv with
        | nil => rfl
        | cons _ _ _ ih => simp [ih]
      rw [e1]
      clear rv e1 h
      have go : ∀ (is : List Nat) (rs : List Vl) (ρ : Rho), setSlots is rs ρ ≠ .no → rs.length = is.length := by
        intro is
        induction is with
        | nil => intro rs ρ h; cases rs with
          | nil => rfl
          | cons => exact absurd rfl h
        | cons i is ih =>
          intro rs ρ h
          cases rs with
          | nil => exact absurd rfl h
          | cons r rs =>
            have h : (setSlot i r ρ).bind (fun _ => setSlots is rs) ≠ .no := h
            cases es : setSlot i r ρ with
            | no => rw [es] at h; exact absurd rfl h
            | ex d ρ' => unfold setSlot at es; split at es <;> cases es
            | ok u ρ' => rw [es] at h; simp [ih rs ρ' h]
      refine go is rs ρ1 fun z => ?_
      rw [z] at h2
      exact h2.elim
    obtain ⟨ρ', h3, s3⟩ := setSlots_req (c := ⟨c.σ, ρ1, F1, H1⟩) s1 x1 rv h2
    exact hQ vs H1 hlen (ReqS.here (r := Fl.nx) h3 s3)
theorem SS.par2 (i j : Nat) {x y : Str} {px py pt : Pos} {kt k2 : Nat} {pt2 : Pos} {m : M (List Vl)} (hc : X.calm = true) (hN : X.N.Nodup) (hi : X.N[i]? = some x) (hj : X.N[j]? = some y) (hij : i ≠ j)
    (hx : X.env.scope.names.lookup x = some .local) (hy : X.env.scope.names.lookup y = some .local) (ha : SV X W G L [a, b] m)
    (hw : swappedStores [.Tuple [.Name x px, .Name y py] kt pt] (.Tuple [a, b] k2 pt2) X.env = pure (some [x, y]))
    (hs : swapsWithSole [.Tuple [.Name x px, .Name y py] kt pt] (.Tuple [a, b] k2 pt2) pos.line X.env = pure false := by rfl) :
    SS X W G L (.Assign [.Tuple [.Name x px, .Name y py] kt pt] (.Tuple [a, b] k2 pt2) pos) (evPar [i, j] m) := by
  obtain ⟨t, p, q⟩ := ha.ex
  refine ⟨_, ps_par hc hN hi hj hij hx hy p hw hs, fun c D s h => ?_⟩
  refine par_spec q s h fun vs H1 hl hd => ?_
  match vs, hl with
  | [v, w], _ => exact ⟨v, w, rfl, hd⟩
theorem SS.par3 (i j l : Nat) {x y z : Str} {d : Expr} {px py pz pt : Pos} {kt k2 : Nat} {pt2 : Pos} {m : M (List Vl)} (hc : X.calm = true) (hN : X.N.Nodup) (hi : X.N[i]? = some x) (hj : X.N[j]? = some y) (hl : X.N[l]? = some z) (hij : i ≠ j) (hil : i ≠ l) (hjl : j ≠ l)
    (hx : X.env.scope.names.lookup x = some .local) (hy : X.env.scope.names.lookup y = some .local) (hz : X.env.scope.names.lookup z = some .local) (ha : SV X W G L [a, b, d] m)
    (hw : swappedStores [.Tuple [.Name x px, .Name y py, .Name z pz] kt pt] (.Tuple [a, b, d] k2 pt2) X.env = pure (some [x, y, z]))
    (hs : swapsWithSole [.Tuple [.Name x px, .Name y py, .Name z pz] kt pt] (.Tuple [a, b, d] k2 pt2) pos.line X.env = pure false := by rfl) :
    SS X W G L (.Assign [.Tuple [.Name x px, .Name y py, .Name z pz] kt pt] (.Tuple [a, b, d] k2 pt2) pos) (evPar [i, j, l] m) := by
  obtain ⟨t, p, q⟩ := ha.ex
  refine ⟨_, ps_par3 hc hN hi hj hl hij hil hjl hx hy hz p hw hs, fun c D s h => ?_⟩
  refine par_spec q s h fun vs H1 hl hd => ?_
  match vs, hl with
  | [u, v, w], _ => exact ⟨u, v, w, rfl, hd⟩

/-! ### slices -/
def sIxOk : Option D → Option (Option Int)
  | none => some none
  | some (.int i) => some (some i)
  | _ => none
def cutD (xs : List D) (lo hi : Option Int) : List D := (xs.drop (HT.sIx xs.length 0 lo)).take (HT.sIx xs.length xs.length hi - HT.sIx xs.length 0 lo)
theorem cut_rel {F : Fz} {H : Hp} {vs : List V} {ds : List D} (r : RpL G.N F H vs ds) (lo hi : Option Int) : RpL G.N F H (cutV vs lo hi) (cutD ds lo hi) := by
  unfold cutV cutD
  rw [r.length]
  exact (r.drop _).take _
theorem ints_rel {F : Fz} {H : Hp} : ∀ ns : List Int, RpL G.N F H (ns.map V.int) (ns.map D.int)
  | [] => .nil
  | n :: ns => .cons (.int n) (ints_rel ns)
/-- an optional part of a slice -/
structure SO (X : Cx) (W : WX) (G : Gc) (L : Lt) (e : Option Expr) (m : M (Option Int)) : Prop where
  ex : ∃ t : TO, PO X e t ∧ ∀ (c : Cf) (Q : Option Int → Hp → Prop), Ok G L c → Req G L W c (m c.ρ) (fun o c' => Q o c'.H) → t c.σ c.H Q
theorem SO.none : SO X W G L none (mpure none) := ⟨_, po_none, fun c Q s h => Req.here (r := Option.none) h s⟩
def asInt : D → Option (Option Int)
  | .int i => some (some i)
  | _ => none
theorem SO.some {m : M D} (h : SD X W G L e m) : SO X W G L (some e) (m.bind fun d => liftO (asInt d)) := by
  obtain ⟨t, p, q⟩ := h.ex
  refine ⟨_, po_some p, fun c Q s h => ?_⟩
  refine q c _ s ((Req.bind h).imp fun d c1 _ e1 x1 s1 h1 v rv => ?_)
  obtain ⟨r, er, h1⟩ := liftO_req h1
  cases d with
  | int i => cases rv; cases er; exact ⟨i, rfl, Req.here h1 s1⟩
  | _ => cases er
def rSlA (K : PySem.W.Frag) : V → Option Int → Option Int → Hp → VK → Prop := fun x lo hi H Q => rSlL K x lo hi H Q ∨ rSlT K x lo hi H Q
def cutOf (lo hi : Option Int) : D → Option Vl
  | .lst l => some (.nw (.lst (cutD l lo hi)))
  | .scr l => some (.nw (.lst (cutD (l.map .int) lo hi)))
  | .tup l => if HT.sIx l.length 0 lo = 0 ∧ HT.sIx l.length l.length hi = l.length then none else some (.fz (.tup (cutD l lo hi)))
  | _ => none
def evSl (m : M D) (ml mh : M (Option Int)) : M Vl := m.bind fun d => ml.bind fun lo => mh.bind fun hi => liftO (cutOf lo hi d)
theorem SE.slice {lo hi : Option Expr} {p2 : Pos} {m : M D} {ml mh : M (Option Int)} (hS : ∀ a ns H, G.N.scrK a ns → SqL X.K H a (ns.map V.int)) (h : SD X W G L e m) (hl : SO X W G L lo ml) (hh : SO X W G L hi mh) : SE X W G L (.Subscript e (.Slice lo hi .none p2) pos) (evSl m ml mh) := by
  obtain ⟨t, p, q⟩ := h.ex
  obtain ⟨tl, pl, ql⟩ := hl.ex
  obtain ⟨th, ph, qh⟩ := hh.ex
  refine ⟨_, pe_slice (L2.SlR.or sl_list sl_tup) p pl ph, fun c Q s h => ?_⟩
  refine q c _ s ((Req.bind h).imp fun d c1 _ e1 x1 s1 h1 v rv => ?_)
  show tl c.σ c1.H _
  rw [← e1]
  refine ql c1 _ s1 ((Req.bind h1).imp fun ol c2 _ e2 x2 s2 h2 => ?_)
  show th c1.σ c2.H _
  rw [← e2]
  refine qh c2 _ s2 ((Req.bind h2).imp fun oh c3 _ e3 x3 s3 h3 => ?_)
  obtain ⟨r, er, h3⟩ := liftO_req h3
  have rv3 := x3.rp s2 (x2.rp s1 rv)
  cases d with
  | lst l =>
    cases er
    cases rv3 with
    | lst f r ll => exact .inl ⟨_, _, rfl, .inl (.inl r), fun p n => newLst ((x1.trans x2).trans x3) s3 (cut_rel ll ol oh) n h3⟩
  | scr l =>
    cases er
    cases rv3 with
    | scr hs =>
      refine .inl ⟨_, _, rfl, ?_, fun p n => newLst ((x1.trans x2).trans x3) s3 (cut_rel (ints_rel l) ol oh) n h3⟩
      rcases hs with hs | hs
      · exact .inl hs.2
      · exact hS _ _ _ hs
  | tup l =>
    have er : (if HT.sIx l.length 0 ol = 0 ∧ HT.sIx l.length l.length oh = l.length then Option.none else Option.some (Vl.fz (.tup (cutD l ol oh)))) = Option.some r := er
    split at er
    · cases er
    · rename_i hn
      cases er
      cases rv3 with
      | tup f r ll => exact .inr ⟨_, _, rfl, .inl (.inl r), by rw [ll.length]; exact hn, fun p n => newTup ((x1.trans x2).trans x3) s3 (cut_rel ll ol oh) n h3⟩
  | _ => cases er

/-! ### + and * -/
def opAdd : D → D → Option Vl
  | .int i, .int j => some (.fz (.int (i + j)))
  | .lst a, .lst b => if lenOk (a.length + b.length) then some (.nw (.lst (a ++ b))) else none
  | .str a, .str b => if lenOk (a.length + b.length) then some (.fz (.str (a ++ b))) else none
  | .tup a, .tup b => if lenOk (a.length + b.length) then some (.fz (.tup (a ++ b))) else none
  | _, _ => none
def rAddA (K : PySem.W.Frag) : R2 := fun x y H Q => rI0 (fun i j => .int (i + j)) x y H Q ∨ rCat x y H Q ∨ (∃ i j, x = .str i ∧ y = .str j ∧ i.length + j.length ≤ sizeLine ∧ Q (.str (i ++ j)) H) ∨ rCatA K x y H Q
theorem op_addA : OpR X (binaryOp .Add) (rAddA X.K) := OpR.or op_add (OpR.or op_cat (OpR.or op_add_str op_catA))
theorem opAdd_ok : BinOk X W G L (rAddA X.K) opAdd := by
  intro c0 c x y v u Q _ ex s rx ry hr
  obtain ⟨r, er, hr⟩ := liftO_req hr
  unfold opAdd at er
  split at er
  · cases er
    cases rx
    cases ry
    exact .inl ⟨_, _, rfl, rfl, Req.here hr s _ (.int _)⟩
  · split at er
    · rename_i hz
      cases er
      cases rx with
      | lst f r l =>
        cases ry with
        | lst f2 r2 l2 =>
          exact .inr (.inl ⟨_, _, _, _, rfl, rfl, r, r2, by rw [l.length, l2.length]; exact lenOk_line hz, fun p n => newLst ex s (l.append l2) n hr⟩)
    · cases er
  · split at er
    · rename_i hz
      cases er
      cases rx
      cases ry
      exact .inr (.inr (.inl ⟨_, _, rfl, rfl, lenOk_line hz, Req.here hr s _ (.str _)⟩))
    · cases er
  · split at er
    · rename_i a' b' hz
      cases er
      cases rx with
      | tup f r l =>
        cases ry with
        | tup f2 r2 l2 =>
          refine .inr (.inr (.inr ⟨_, _, _, _, rfl, rfl, .inl (.inl r), .inl (.inl r2), by rw [l.length, l2.length]; exact lenOk_line hz, fun z => ?_, fun _ z => ?_, fun _ _ p n => newTup ex s (l.append l2) n hr⟩))
          · subst z
            cases l
            exact Req.here hr s _ (.tup f2 r2 l2)
          · subst z
            cases l2
            rw [List.append_nil] at hr
            exact Req.here hr s _ (.tup f r l)
    · cases er
  · cases er
theorem SE.add {ma mb : M D} (ha : SD X W G L a ma) (hb : SD X W G L b mb) : SE X W G L (.BinOp a .Add b pos) (ev2 opAdd ma mb) := SE.bin op_addA opAdd_ok ha hb
def opMul : D → D → Option Vl
  | .int i, .int j => (fMul i j).map .fz
  | .lst l, .int k => if inR k && lenOk (l.length * k.toNat) then some (.nw (.lst (List.replicate k.toNat l).flatten)) else none
  | .tup l, .int k => if decide (-1000 ≤ k) && decide (k ≤ 1000) && decide (l.length ≤ 1000) && !l.isEmpty then some (.fz (.tup (List.replicate k.toNat l).flatten)) else none
  | _, _ => none
theorem rep_rel {F : Fz} {H : Hp} {vs : List V} {ds : List D} (r : RpL G.N F H vs ds) : ∀ k : Nat, RpL G.N F H (List.replicate k vs).flatten (List.replicate k ds).flatten
  | 0 => .nil
  | k + 1 => by
    rw [List.replicate_succ, List.replicate_succ, List.flatten_cons, List.flatten_cons]
    exact r.append (rep_rel r k)
theorem tuple_mul1 (l : Addr) (items : Array Value) (n : Nat) (dd : Option Addr) (sl : Array (Option Value)) (u : Tok) :
    Meets (Builtin.«tuple.__mul__» ⟨[.ref l, .int 1 u], []⟩) (fun _ R s => s.heap.get? l = some { cls := .type "tuple", dict := dd, data := .seq items n, slots := sl } ∧ R (.ok (.ret (Value.ref l))) { s with heap := s.heap, toks := s.toks }) :=
  .of_wp fun prog w A R s h => by
    obtain ⟨hp, g, d, tk, os⟩ := s
    obtain ⟨hl, h⟩ := h
    have f1 := AutoSeq1.idx_int
    wp_walk using wpAny_loadPart' hl
    repeat (first
      | (refine wpAny_ite_false (decide_eq_false (by decide)) ?_; wp_walk using wpAny_loadPart' hl)
      | (refine wpAny_ite_true (decide_eq_true (by rw [show ((1 : Int) == 1) = true from rfl, Bool.or_true])) ?_; wp_walk using wpAny_loadPart' hl))
    exact ⟨_, rfl, h⟩
theorem tuple_mul0 (l : Addr) (items : Array Value) (n : Nat) (dd : Option Addr) (sl : Array (Option Value)) (x : Int) (u : Tok) (c0 : (decide (x < -(2 ^ 63)) || decide (x ≥ 2 ^ 63)) = false) (c1 : (items.isEmpty || x == 1) = false) (c2 : (decide (x ≤ 0) || items.isEmpty) = true) :
    Meets (Builtin.«tuple.__mul__» ⟨[.ref l, .int x u], []⟩) (fun _ R s => s.heap.get? l = some { cls := .type "tuple", dict := dd, data := .seq items n, slots := sl } ∧
      R (.ok (.ret (Value.ref s.heap.objs.size))) { s with heap := s.heap.push { cls := Value.type "tuple", data := Data.seq #[] }, toks := s.toks }) :=
  .of_wp fun prog w A R s h => by
    obtain ⟨hp, g, d, tk, os⟩ := s
    obtain ⟨hl, h⟩ := h
    have f1 := AutoSeq1.idx_int
    wp_walk using wpAny_loadPart' hl
    repeat (first
      | (refine wpAny_ite_false (decide_eq_false (by rw [c0]; exact Bool.false_ne_true)) ?_; wp_walk using wpAny_loadPart' hl)
      | (refine wpAny_ite_false (decide_eq_false (by rw [c1]; exact Bool.false_ne_true)) ?_; wp_walk using wpAny_loadPart' hl)
      | (refine wpAny_ite_true (decide_eq_true (by rw [c2])) ?_; wp_walk using wpAny_loadPart' hl))
    exact ⟨_, rfl, h⟩
def rRep1 (K : PySem.W.Frag) : R2 := fun x y H Q => ∃ l xs, x = .ref l ∧ y = .int 1 ∧ SqT K H l xs ∧ Q (.ref l) H
def rRep0 (K : PySem.W.Frag) : R2 := fun x y H Q => ∃ l k xs, x = .ref l ∧ y = .int k ∧ SqT K H l xs ∧ xs ≠ [] ∧ -1000 ≤ k ∧ k ≤ 0 ∧ ∀ p, H p = none → Q (.ref p) (upd H p (.tup []))
theorem op_rep1 : OpR X (binaryOp .Mult) (rRep1 X.K) := by
  intro pins s σ H x y v u Q I rx ry h
  obtain ⟨l, xs, rfl, rfl, hT, q⟩ := h
  cases rx
  obtain ⟨t, rfl⟩ := ry
  obtain ⟨its, r, ⟨⟨cls, dd, data, sl⟩, ho, hc, n, hd⟩, hs⟩ := I.tuple hT
  simp only at hc hd
  subst hc hd
  exact wpAny_binaryOp_repeat_ref (T := "tuple") (U := "int") (by decide) ⟨_, ho, rfl⟩ (fun s' => typeIs_int s' 1 t) noFill_tuple_mul F.fills_int_mul F.slot_int_rmul repeat_tuple F.slot_int_index.lookup
    (call_meets F.slot_int_rmul (typeIs_int s 1 t) F.entry_int_rmul (F.args_int_rmul_2 _ _) (int_rmul_tuple 1 t l its.toArray n dd sl)
      ⟨ho, rfl, ⟨_, ho, rfl⟩, call_meets F.slot_tuple_mul ⟨_, ho, rfl⟩ F.entry_tuple_mul (F.args_tuple_mul_2 _ _) (tuple_mul1 l its.toArray n dd sl t) ⟨ho, ⟨.ref l, H, I, rfl, q⟩⟩⟩)
theorem op_rep0 : OpR X (binaryOp .Mult) (rRep0 X.K) := by
  intro pins s σ H x y v u Q I rx ry h
  obtain ⟨l, k, xs, rfl, rfl, hT, hne, h1, h2, q⟩ := h
  cases rx
  obtain ⟨t, rfl⟩ := ry
  obtain ⟨its, r, ⟨⟨cls, dd, data, sl⟩, ho, hc, n, hd⟩, hs⟩ := I.tuple hT
  simp only at hc hd
  subst hc hd
  have hle : its.length = xs.length := r.length.symm
  have hn : its ≠ [] := fun e => hne (by
    rw [e] at hle
    exact List.eq_nil_of_length_eq_zero hle.symm)
  have hi : its.toArray.isEmpty = false := by
    cases its with
    | nil => exact absurd rfl hn
    | cons a b => rfl
  have c0 : (decide (k < -(2 ^ 63)) || decide (k ≥ 2 ^ 63)) = false := by
    rw [decide_eq_false (by omega), decide_eq_false (by omega)] <;> rfl
  have c1 : (its.toArray.isEmpty || k == 1) = false := by
    rw [hi, Bool.false_or]
    exact beq_eq_false_iff_ne.mpr (by omega)
  have c2 : (decide (k ≤ 0) || its.toArray.isEmpty) = true := by
    rw [decide_eq_true h2, Bool.true_or]
  refine wpAny_binaryOp_repeat_ref (T := "tuple") (U := "int") (by decide) ⟨_, ho, rfl⟩ (fun s' => typeIs_int s' k t) noFill_tuple_mul F.fills_int_mul F.slot_int_rmul repeat_tuple F.slot_int_index.lookup
    (call_meets F.slot_int_rmul (typeIs_int s k t) F.entry_int_rmul (F.args_int_rmul_2 _ _) (int_rmul_tuple k t l its.toArray n dd sl)
      ⟨ho, rfl, ⟨_, ho, rfl⟩, call_meets F.slot_tuple_mul ⟨_, ho, rfl⟩ F.entry_tuple_mul (F.args_tuple_mul_2 _ _) (tuple_mul0 l its.toArray n dd sl k t c0 c1 c2) ⟨ho, ?_⟩⟩)
  refine ⟨.ref s.heap.objs.size, _, I.laid (t' := s.toks) (o := .tup []) (fun b ob q => Heap.get?_push_of_some _ q) (Nat.le_refl _) ?_, rfl, q _ (I.hok.fresh (Nat.le_refl _))⟩
  exact ⟨Nat.zero_le _, [], .nil, IsTup.new _ _⟩
def rMulA (K : PySem.W.Frag) : R2 := fun x y H Q => rI CMulX (fun i j => .int (i * j)) x y H Q ∨ rRep x y H Q ∨ rRepT K x y H Q ∨ rRep1 K x y H Q ∨ rRep0 K x y H Q
theorem op_mulA : OpR X (binaryOp .Mult) (rMulA X.K) := OpR.or op_mulX (OpR.or op_rep (OpR.or op_repT (OpR.or op_rep1 op_rep0)))
theorem opMul_ok : BinOk X W G L (rMulA X.K) opMul := by
  intro c0 c x y v u Q _ ex s rx ry hr
  obtain ⟨r, er, hr⟩ := liftO_req hr
  unfold opMul at er
  split at er
  · rename_i i j
    obtain ⟨d, ed, rfl⟩ := Option.map_eq_some_iff.mp er
    unfold fMul at ed
    split at ed
    · rename_i hz
      cases ed
      cases rx
      cases ry
      exact .inl ⟨_, _, rfl, rfl, of_decide_eq_true (p := (Builtin.Int.intBits i : Int) + (Builtin.Int.intBits j : Int) ≤ 134217728) hz, Req.here hr s _ (.int _)⟩
    · cases ed
  · split at er
    · rename_i hz
      cases er
      rw [Bool.and_eq_true] at hz
      obtain ⟨z1, z2⟩ := inR_ok hz.1
      cases rx with
      | lst f r l =>
        cases ry
        exact .inr (.inl ⟨_, _, _, rfl, rfl, r, by omega, by omega, by rw [l.length]; exact lenOk_line hz.2, fun p n => newLst ex s (rep_rel l _) n hr⟩)
    · cases er
  · split at er
    · rename_i l0 k hz
      cases er
      simp only [Bool.and_eq_true, decide_eq_true_eq, Bool.not_eq_true', List.isEmpty_eq_false_iff] at hz
      obtain ⟨⟨⟨z1, z2⟩, z3⟩, z4⟩ := hz
      cases rx with
      | tup f r l =>
        cases ry
        have hne : ∀ {xs : List V}, RpL G.N c.F c.H xs l0 → xs ≠ [] := fun h e => by
          subst e
          cases h
          exact z4 rfl
        by_cases k1 : k = 1
        · subst k1
          refine .inr (.inr (.inr (.inl ⟨_, _, rfl, rfl, .inl (.inl r), ?_⟩)))
          have e1 : (List.replicate (1 : Int).toNat l0).flatten = l0 := by
            show (List.replicate 1 l0).flatten = l0
            simp
          rw [e1] at hr
          exact Req.here hr s _ (.tup f r l)
        · by_cases k0 : k ≤ 0
          · refine .inr (.inr (.inr (.inr ⟨_, _, _, rfl, rfl, .inl (.inl r), hne l, z1, k0, fun p n => ?_⟩)))
            have e1 : (List.replicate k.toNat l0).flatten = [] := by
              rw [show k.toNat = 0 by omega]
              rfl
            rw [e1] at hr
            exact newTup ex s .nil n hr
          · exact .inr (.inr (.inl ⟨_, _, _, rfl, rfl, .inl (.inl r), hne l, by omega, by omega, by rw [l.length]; exact z3, fun p n => newTup ex s (rep_rel l _) n hr⟩))
    · cases er
  · cases er
theorem SE.mul {ma mb : M D} (ha : SD X W G L a ma) (hb : SD X W G L b mb) : SE X W G L (.BinOp a .Mult b pos) (ev2 opMul ma mb) := SE.bin op_mulA opMul_ok ha hb
/-! ### is True, is False -/
def cIsB : D → D → Option Vl
  | .bl i, .bl j => some (.fz (.bl (decide (i = j))))
  | _, _ => none
theorem cIsB_ok : BinOk X W G L rIsB cIsB := by
  intro c0 c x y v u Q _ ex s rx ry hr
  obtain ⟨r, er, hr⟩ := liftO_req hr
  unfold cIsB at er
  split at er
  · cases er
    cases rx
    cases ry
    exact ⟨_, _, rfl, rfl, Req.here hr s _ (.bl _)⟩
  · cases er
/-! ### equality, texts by themselves -/
def eqA : D → D → Option Vl
  | .str x, .str y => some (.fz (.bl (decide (x = y))))
  | x, y => cEq x y
def neA : D → D → Option Vl
  | .str x, .str y => some (.fz (.bl (!decide (x = y))))
  | x, y => cNe x y
theorem dec_strV {x y : Str} : decide (V.str x = V.str y) = decide (x = y) := by
  by_cases h : x = y
  · subst h; simp
  · rw [decide_eq_false h, decide_eq_false fun z => h (V.str.inj z)]
theorem op_eqA (hu : X.A.units + 64 < cLine) : OpR X (compareOp .Eq) (fun x y H Q => rEq x y H Q ∨ rEqD X.K x y H Q) := OpR.or op_eq (op_eqD hu)
theorem op_neA (hu : X.A.units + 64 < cLine) : OpR X (compareOp .NotEq) (fun x y H Q => rNe x y H Q ∨ rNeD X.K x y H Q) := OpR.or op_ne (op_neD hu)
theorem eqA_ok : BinOk X W G L (fun x y H Q => rEq x y H Q ∨ rEqD X.K x y H Q) eqA := by
  intro c0 c x y v u Q e0 ex s rx ry hr
  by_cases hs : ∃ p q, x = .str p ∧ y = .str q
  · obtain ⟨p, q, rfl, rfl⟩ := hs
    cases rx
    cases ry
    refine .inl ⟨rfl, ?_⟩
    rw [dec_strV]
    exact Req.here (r := Vl.fz (.bl (decide (p = q)))) hr s _ (.bl _)
  · have e : eqA x y = cEq x y := by
      unfold eqA
      split
      · exact absurd ⟨_, _, rfl, rfl⟩ hs
      · rfl
    rw [e] at hr
    exact .inr (cEq_ok c0 c x y v u Q e0 ex s rx ry hr)
theorem neA_ok : BinOk X W G L (fun x y H Q => rNe x y H Q ∨ rNeD X.K x y H Q) neA := by
  intro c0 c x y v u Q e0 ex s rx ry hr
  by_cases hs : ∃ p q, x = .str p ∧ y = .str q
  · obtain ⟨p, q, rfl, rfl⟩ := hs
    cases rx
    cases ry
    refine .inl ⟨rfl, ?_⟩
    rw [dec_strV]
    exact Req.here (r := Vl.fz (.bl (!decide (p = q)))) hr s _ (.bl _)
  · have e : neA x y = cNe x y := by
      unfold neA
      split
      · exact absurd ⟨_, _, rfl, rfl⟩ hs
      · rfl
    rw [e] at hr
    exact .inr (cNe_ok c0 c x y v u Q e0 ex s rx ry hr)
/-! ### dict displays of at most one entry -/
theorem newDic {p : Addr} {vs : List (Key × V)} {ds : List (Key × D)} {Q : VK} (x0 : Ex G c0 c) (s : Ok G L c) (r : RpK G.N c.F c.H vs ds) (n : c.H p = none) (h : Req G L W c (.ok (.nw (.dic ds)) c.ρ) (fun r c' => ∀ v, VR G c0 c' v r → Q v c'.H)) : Q (.ref p) (upd c.H p (.dK vs)) := by
  have y : Ex G c ⟨c.σ, c.ρ, c.F, upd c.H p (.dK vs)⟩ := Ext.grow s n (fun _ z => z) fun _ z => .inl z
  refine h c.F (upd c.H p (.dK vs)) y (StR.grow s n (fun _ z => z) fun _ z => .inl z) _ ⟨p, rfl, ⟨fun f => ?_, vs, upd_same, r.mono y.mono fun a f => y.fz s f⟩, fun o => ?_, Ex.pre x0 (.inl n)⟩
  · obtain ⟨⟨u, e⟩, _⟩ := s.trk p f
    rw [n] at e; cases e
  · obtain ⟨u, e⟩ := s.ownAt o
    rw [n] at e; cases e
theorem SE.dic0 : SE X W G L (.Dict [] [] pos) (mpure (.nw (.dic []))) := ⟨_, pe_dnewK, fun c Q s h => fun p n => newDic Ext.refl s .nil n h⟩
def keyOf : D → Option Key
  | .int i => some (.inl i)
  | .str x => some (.inr x)
  | _ => none
def mkDic1 (k v : D) : Option Vl := (keyOf k).map fun k => .nw (.dic [(k, v)])
/-- {k: v}, written -/
theorem SE.dic1 {k v : Expr} {mk mv : M D} (hk : SD X W G L k mk) (hv : SD X W G L v mv) : SE X W G L (.Dict [some k] [v] pos) (mk.bind fun k => mv.bind fun v => liftO (mkDic1 k v)) := by
  obtain ⟨tk, pk, qk⟩ := hk.ex
  obtain ⟨tv, pv, qv⟩ := hv.ex
  refine ⟨_, pe_disp (pps_cons pk pv pps_nil) rfl rfl (by simp) (by simp), fun c Q s h => ?_⟩
  intro p n
  -- the empty dict, held by nobody
  have y : Ex G c ⟨c.σ, c.ρ, c.F, upd c.H p (.dK [])⟩ := Ext.grow s n (fun _ z => z) fun _ z => .inl z
  have s0 : Ok G L ⟨c.σ, c.ρ, c.F, upd c.H p (.dK [])⟩ := StR.grow s n (fun _ z => z) fun _ z => .inl z
  have nf : ¬ c.F p := fun f => by
    obtain ⟨⟨u, e⟩, _⟩ := s.trk p f
    rw [n] at e; cases e
  have no : ¬ c.own G p := fun o => by
    obtain ⟨u, e⟩ := s.ownAt o
    rw [n] at e; cases e
  have h0 : Req G L W ⟨c.σ, c.ρ, c.F, upd c.H p (.dK [])⟩ ((mk c.ρ).bind fun k => mv.bind fun v => liftO (mkDic1 k v)) (fun r c' => ∀ v, VR G c c' v r → Q v c'.H) := Req.shift (c1 := ⟨c.σ, c.ρ, c.F, upd c.H p (.dK [])⟩) h y rfl
  refine qk ⟨c.σ, c.ρ, c.F, upd c.H p (.dK [])⟩ _ s0 ((Req.bind h0).imp fun kk c1 q1 e1 x1 s1 h1 u ru => ?_)
  show tv c.σ c1.H _
  have e1' : c1.σ = c.σ := e1
  rw [← e1']
  refine qv c1 _ s1 ((Req.bind h1).imp fun vv c2 q2 e2 x2 s2 h2 w rw' => ?_)
  obtain ⟨r, er, h2⟩ := liftO_req h2
  obtain ⟨key, ek, rfl⟩ := Option.map_eq_some_iff.mp er
  obtain ⟨hp, nf2, no2⟩ := Ex.hidden (x1.trans x2) (upd_same (H := c.H) (a := p) (o := .dK [])) nf no
  have ru2 := x2.rp s1 ru
  have eu : u = kV key := by
    cases kk with
    | int i => cases ru; cases ek; rfl
    | str i => cases ru; cases ek; rfl
    | _ => cases ek
  subst eu
  refine ⟨hp, [(key, w)], rfl, by simp, ?_⟩
  have hw : ((mk c.ρ).bind fun k => mv.bind fun v => liftO (mkDic1 k v)) = Out.ok (.nw (.dic [(key, vv)])) c2.ρ := by
    have q1 : mk c.ρ = Out.ok kk c1.ρ := q1
    rw [q1]
    show ((mv c1.ρ).bind fun v => liftO (mkDic1 kk v)) = _
    rw [q2]
    show liftO (mkDic1 kk vv) c2.ρ = _
    rw [er]
    rfl
  have h : Req G L W c ((mk c.ρ).bind fun k => mv.bind fun v => liftO (mkDic1 k v)) (fun r c' => ∀ v, VR G c c' v r → Q v c'.H) := h
  rw [hw] at h
  have s3 : Ok G L ⟨c2.σ, c2.ρ, c2.F, upd c2.H p (.dK (mergeK [] [(key, w)]))⟩ := Ok.hid s2 nf2 no2 ⟨_, hp, rfl⟩
  have x3 : Ex G c ⟨c2.σ, c2.ρ, c2.F, upd c2.H p (.dK (mergeK [] [(key, w)]))⟩ := Ex.hid ((y.trans x1).trans x2) n
  have e2' : c2.σ = c.σ := e2.trans e1'
  rw [e2'] at s3 x3
  refine h c2.F _ x3 s3 _ ⟨p, rfl, ⟨nf2, _, upd_same, ?_⟩, fun z => no2 (by rw [← e2'] at z; exact z), .inl n⟩
  show RpK G.N c2.F _ (mergeK [] [(key, w)]) [(key, vv)]
  have em : mergeK [] [(key, w)] = [(key, w)] := rfl
  rw [em]
  exact .cons (rw'.mono (fun _ f => f) fun b f => upd_ne (fun (z : b = p) => nf2 (by rw [← z]; exact f))) .nil
end
end Ev

/-! EvM: repr; the end of a law. -/
namespace Ev
open PySem PySem.Spec PyProof.Rows L2
section
variable {X : Cx} {W : WX} {G : Gc} {L : Lt} {e a b tg : Expr} {pos : Pos} {c c0 c1 : Cf} {es : List Expr}
/-! ### repr -/
def showOk (d : PyData) : Bool := d.showable && !d.hasDict && decide (d.depth ≤ 64) && lenOk d.shown.length
def rRepr (K : PySem.W.Frag) : List V → Hp → VK → Prop := fun xs H Q => (∃ x d, xs = [x] ∧ Dp K H x d ∧ showOk d = true ∧ Q (.str d.shown) H) ∨ (∃ p, xs = [.ref p] ∧ H p = some (.dK []) ∧ Q (.str (PyData.shown (.dict []))) H)
theorem reads_dic0 {P : Program} {w : World} {H : Hp} {h : Heap} {p : Addr} (ok : ObjOk P w H h p (.dK [])) : Reads h (.ref p) (.dict []) [p] ∧ sysModules ≠ p := by
  obtain ⟨_, ns, vs, kv, o, es, ep, e1, e2, e3, _, prs, _⟩ := ok
  cases kv
  have e0 : es.toList = [] := by
    have := prs.length
    simpa using this
  have r : Reads h (.ref p) (.dict []) (p :: [] ++ []) := .dict e1 e2.1 e3 (by rw [e0]; exact .nil) (by rw [e0]; exact .nil)
  refine ⟨r, fun z => ?_⟩
  rw [z] at ns
  simp at ns
theorem call_reprG {k : Nat} (hr : RoomG k X.A) : CallR X (.builtin "repr") (rRepr X.K) := by
  intro pins s σ H xs us Q I r h
  have hu : X.A.units + 70 < cLine := by
    have := hr.room.un
    omega
  rcases h with ⟨x, d, rfl, hd, ok, q⟩ | ⟨p, rfl, hp, q⟩
  · obtain ⟨u, rfl, rx⟩ := vals1 r
    unfold showOk at ok
    simp only [Bool.and_eq_true] at ok
    obtain ⟨⟨⟨o1, o2⟩, o3⟩, o4⟩ := ok
    have o2 : d.hasDict = false := by simpa using o2
    have o3 := of_decide_eq_true o3
    have o4 := lenOk_line o4
    have disp : ∀ p : Addr, x = .ref p → wpAny (model X.prog X.w) X.A (call (.builtin "repr") [u]) (EP X pins σ Q) X.xe s := fun p ep => by
      subst ep
      cases rx
      obtain ⟨as, rd⟩ := Dp.reads I d _ _ hd rfl
      exact repr_of_reads' rd o1 (PyData.noDict_hsm o2) hr.gd (by omega) (fun _ _ e => e) (fun h' u tk hk => ⟨.str d.shown, H, I.kept hk, ⟨_, rfl⟩, q⟩) o4
    cases hd with
    | non =>
      cases rx
      exact PySem.P.repr_of_none ⟨.str _, H, I.tok _, ⟨_, rfl⟩, q⟩
    | bl b =>
      cases rx
      exact PySem.P.repr_of_bool ⟨.str _, H, I.tok _, ⟨_, rfl⟩, q⟩
    | int i =>
      obtain ⟨t, rfl⟩ := rx
      exact PySem.P.repr_of_int (of_decide_eq_true o1) ⟨.str _, H, I.tok _, ⟨_, rfl⟩, q⟩
    | str y =>
      obtain ⟨t, rfl⟩ := rx
      exact PySem.P.repr_of_str ⟨.str _, H, I.tok _, ⟨_, rfl⟩, q⟩ o4
    | lst _ _ => exact disp _ rfl
    | tup _ _ => exact disp _ rfl
  · obtain ⟨u, rfl, rx⟩ := vals1 r
    cases rx
    obtain ⟨rd, ns⟩ := reads_dic0 (I.hok p _ hp)
    have sz : (PyData.shown (.dict [])).length ≤ sizeLine := by
      rw [sizeLine_eq]
      decide +kernel
    exact repr_of_reads' rd rfl (fun _ z => ns (by simpa using z)) hr.gd (by show X.A.units + (PyData.depth (.dict []) + 1) < cLine; simp only [PyData.depth, PyData.depthKv]; omega) (fun _ _ e => e) (fun h' u tk hk => ⟨.str _, H, I.kept hk, ⟨_, rfl⟩, q⟩) sz
def reprD (d : D) : Option Vl := if isP d && showOk (toP d) then some (.fz (.str (toP d).shown)) else none
def bRepr : List D → Option Vl
  | [.dic []] => some (.fz (.str (PyData.shown (.dict []))))
  | [d] => reprD d
  | _ => none
theorem bRepr_ok : CallOk X W G L (rRepr X.K) bRepr := by
  intro c0 c ds vs Q _ ex s r hr
  obtain ⟨w, er, hr⟩ := liftO_req hr
  unfold bRepr at er
  split at er
  · cases er
    cases r with
    | cons r1 r2 =>
      cases r2
      cases r1 with
      | dic f rr l =>
        cases l
        exact .inr ⟨_, rfl, rr, Req.here hr s _ (.str _)⟩
  · rename_i d hn
    unfold reprD at er
    split at er
    · rename_i hz
      cases er
      rw [Bool.and_eq_true] at hz
      cases r with
      | cons r1 r2 =>
        cases r2
        exact .inl ⟨_, _, rfl, toDp r1 hz.1, hz.2, Req.here hr s _ (.str _)⟩
    · cases er
  · cases er
end

/-! ### the end of a law -/
/-- the abstract heap at a law's call: the script alone -/
def scriptH (a : Addr) (o : Obj) (ns : List Int) : Hp := fun b => if b = a then some (.frz o (.lst (ns.map V.int))) else none
def emptyH : Hp := fun _ => none
/-- the law's def is called with the script -/
theorem law_end {P : Program} {w : World} {K : PySem.W.Frag} {mg mb : Str → Option Value} {k : Nat} {fa a : Addr} {fd : FuncData} {x : Str} {sp : Sp} {s₁ : Shared} {vs : List Value} {ns : List Int} {H : Hp}
    (kin : K.In s₁.heap) (glob : s₁.heap.Ns mainGlobals mg) (blt : s₁.heap.Ns builtinsNs mb) (bltv : ∀ x : Str, x ≠ "__name__" → mb x = bootBuiltins x) (nolim : s₁.heap.NoLimit) (nogen : s₁.gens = #[])
    (obj : s₁.heap.get? a = some { cls := .type "list", data := .seq vs.toArray }) (hH : (H = emptyH) ∨ (H = scriptH a { cls := .type "list", data := .seq vs.toArray } ns ∧ K.lookup a = none)) (hok : HOk P w H s₁.heap)
    (room : RoomG k callerA) (F : ∀ base : Heap, K.In base → base.Ns mainGlobals mg → FnG P w K mg base (L2.CX P w) k fa fd [x] sp) (binds : ∀ (s : Shared) (u : Value), BindsTo s fd ⟨[u], []⟩ [(x, u)])
    (wish : sp [.ref a] H (fun v _ => v = .bl true) fun _ _ _ => False) :
    codeAny (model P w) callerA (.call (.ref fa) ⟨[.ref a], []⟩) (fun r s' => r = .ok (.ret (.bool true)) ∧ OldK s₁.heap s'.heap ∧ s'.os = s₁.os ∧ AllBare s'.gens) s₁ := by
  -- what is tracked is the script, if anything
  have only : ∀ b u, H b = some u → b = a ∧ u = .frz { cls := .type "list", data := .seq vs.toArray } (.lst (ns.map V.int)) ∧ K.lookup a = none := by
    intro b u e
    rcases hH with rfl | ⟨rfl, hk⟩
    · cases e
    · unfold scriptH at e
      split at e
      · rename_i hb
        exact ⟨hb, (Option.some.inj e).symm, hk⟩
      · cases e
  have low : ∀ {b : Addr} {o : Obj}, s₁.heap.get? b = some o → b ≠ a → (hidT s₁.heap H).get? b = some o := fun {b o} e n => hidT_get e (by
    cases q : H b with
    | none => rfl
    | some u => exact absurd (only b u q).1 n)
  have lowNs : ∀ {b : Addr} {m : Str → Option Value}, s₁.heap.Ns b m → (hidT s₁.heap H).Ns b m := fun {b m} ⟨o, es, ep, e, d, r⟩ => ⟨o, es, ep, low e (fun z => by
    subst z
    rw [obj] at e
    cases e
    cases d), d, r⟩
  have lowK : K.In (hidT s₁.heap H) := fun b o e => hidT_get (kin b o e) (by
    cases q : H b with
    | none => rfl
    | some u =>
      obtain ⟨rfl, _, hk⟩ := only b u q
      rw [hk] at e
      cases e)
  obtain ⟨mc, hc1, hc2⟩ := nolim
  have ground : Env0 P w K mg (hidT s₁.heap H) callerA [] s₁ H := {
    frames := rfl
    mod := ⟨lowK, lowNs glob, ⟨mb, lowNs blt, bltv⟩, ⟨mc, lowNs hc1, hc2⟩⟩
    bs := fun b o e => of_hidT e
    bsz := Nat.le_of_eq (hidT_size _ _)
    funs := trivial
    frf := fun b hb => by cases (show b ∈ ([] : List Addr) from hb)
    hok := hok
    bare := .of_eq nogen }
  refine codeAny_mono ((F _ lowK (lowNs glob)).run callerA [] s₁ H ⟨[.ref a], []⟩ [.ref a] [.ref a] _ _ room ground (binds s₁ (.ref a)) (.cons rfl .nil) wish) fun r s' out => ?_
  match r, out with
  | .error e, out =>
    obtain ⟨_, _, _, _, _, _, _, _, _, _, _, _, no⟩ := out
    exact no.elim
  | .ok .next, out => exact out.elim
  | .ok .brk, out => exact out.elim
  | .ok .cont, out => exact out.elim
  | .ok (.ret u), out =>
    obtain ⟨v, H', os, bare, un, hok', rel, yes⟩ := out
    have yes : v = .bl true := yes
    cases yes
    cases (show u = Value.bool true from rel)
    refine ⟨rfl, OldK.of_keep fun b o e => ?_, os, bare⟩
    cases q : H b with
    | none => exact un.keep b o e q (fun z => by cases (show b ∈ ([] : List Addr) from z)) (by simp)
    | some u =>
      obtain ⟨rfl, rfl, _⟩ := only b u q
      obtain ⟨e1, _⟩ := hok _ _ q
      obtain ⟨e2, _⟩ := hok' _ _ (un.frzs _ _ _ q)
      rw [e] at e1
      cases e1
      exact e2
/-- the module's own script, should there be one -/
def scrKof (K : PySem.W.Frag) (a : Addr) (ns : List Int) : Prop := ∃ (o : Obj) (its : Array Value) (n : Nat), K.lookup a = some o ∧ o.cls = .type "list" ∧ o.dict = none ∧ o.data = .seq its n ∧ its.size ≤ sizeLine ∧ Vals (ns.map V.int) its.toList
/-- the goal that the word k_head leaves, from the plain meaning of the law -/
theorem walk_ev {l : PySem.W.OpenLaw} {n k : Nat} {q : Program} {loose : List Str} {XP : (Str → Option Value) → Heap → Prop} {YP : World → Heap → Prop} {d : DefRec} {K : Params → PySem.W.Frag} {x : Str} {φ : Fn}
    (hn : l.most = some n) (hn2 : n ≤ sizeLine) (hdf : d.params.defaults = []) (room : Room k callerA)
    (hY : ∀ (w : World) (h : Heap), YP w h → (K w.params).In h)
    (F : ∀ (w : World) (mg : Str → Option Value) (fa : Addr) (h : Heap), (K w.params).In h → h.Ns mainGlobals mg → mg d.name = some (.ref fa) →
      ∃ (fd : FuncData) (G : Gc), (∀ (s : Shared) (u : Value), BindsTo s fd ⟨[u], []⟩ [(x, u)]) ∧ G.N.scrK = scrKof (K w.params) ∧ (∀ H, (∀ b, H b = none ∨ ∃ o u, H b = some (.frz o u)) → G.tabs H) ∧ (∀ b, ¬ G.tb b) ∧
        ∀ base : Heap, (K w.params).In base → base.Ns mainGlobals mg → FnG l.prog w (K w.params) mg base (L2.CX l.prog w) k fa fd [x] (spEv G φ 1))
    (law : ∀ ns : List Int, ns.length ≤ n → (∀ z ∈ ns, Builtin.Int.intBits z ≤ 1048576) → ∃ outs, φ [.fz (.scr ns)] = .ok (.fz (.bl true)) outs) :
    PySem.W.WalkO q loose XP YP l.row.toRowW d [] (fun f vs => PySem.call f vs) := by
  refine Att.attach_callB hn hdf fun w s₀ s₁ mg mb fa o pm cd doc a vs ns GG Y ho hd hcd hmg hobj hints hlen hbits hg => ?_
  have KX := hY w _ Y
  obtain ⟨fd, G, hb, hS, hT, hTb, hF⟩ := F w mg fa _ KX GG.T.g hmg
  have rv := vals_ints hints
  have roomG : RoomG k callerA := ⟨room, rfl⟩
  obtain ⟨outs, el⟩ := law ns hlen hbits
  -- the promise, in either heap
  have wish : ∀ (H : Hp) (F0 : Fz), (∀ b, H b = none ∨ ∃ o u, H b = some (.frz o u)) → (∀ b, F0 b → ∃ o, H b = some o) → ((F0 a ∧ Rd H a (.lst (ns.map V.int))) ∨ scrKof (K w.params) a ns) → spEv G φ 1 [.ref a] H (fun v _ => v = .bl true) fun _ _ _ => False := by
    intro H F0 hH hF0 hr
    refine ⟨rfl, F0, [.fz (.scr ns)], fun s hs => ?_, ?_, ?_⟩
    · cases List.mem_singleton.mp hs
      rfl
    · refine ⟨rfl, ?_, ?_, ?_, ?_, fun b f => ⟨hF0 b f, hTb b⟩, hT H hH⟩
      · intro i s e
        cases i with
        | zero =>
          cases (show some (Sl.fz (.scr ns)) = some s from e)
          exact ⟨_, rfl, .scr (by rw [hS]; exact hr)⟩
        | succ i => cases (show (none : Option Sl) = some s by simpa [argC] using e)
      · intro i j s t b hij e w' e2 w2
        cases i with
        | zero =>
          cases (show some (Sl.fz (.scr ns)) = some s from e)
          cases w'
        | succ i => cases (show (none : Option Sl) = some s by simpa [argC] using e)
      · intro i b e
        cases i with
        | zero => cases (show some (none : Option Addr) = some (some b) from e)
        | succ i => cases (show (none : Option (Option Addr)) = some (some b) by simpa [lentOf] using e)
      · intro i d e
        cases i with
        | zero => rcases e with e | e <;> cases e
        | succ i => rcases e with e | e <;> simp [argC] at e
    · rw [el]
      intro F' H' x s' v rv
      cases rv
      rfl
  have lenV := hints.length
  cases hk : (K w.params).lookup a with
  | some o =>
    have e := KX a o hk
    rw [hobj] at e
    cases e
    refine law_end KX GG.T.g GG.T.b GG.T.builtins GG.T.nolimit hg hobj (H := emptyH) (ns := ns) (.inl rfl) (fun b u z => by cases z) roomG hF hb (wish _ (fun _ => False) (fun b => .inl rfl) (fun b f => f.elim) (.inr ⟨_, vs.toArray, _, hk, rfl, rfl, rfl, ?_, by simpa using rv⟩))
    rw [List.size_toArray, lenV]
    omega
  | none =>
    have at_ : scriptH a { cls := .type "list", data := .seq vs.toArray } ns a = some (.frz { cls := .type "list", data := .seq vs.toArray } (.lst (ns.map V.int))) := if_pos rfl
    have or_ : ∀ b, scriptH a { cls := .type "list", data := .seq vs.toArray } ns b = none ∨ ∃ o u, scriptH a { cls := .type "list", data := .seq vs.toArray } ns b = some (.frz o u) := fun b => by
      by_cases hb : b = a
      · exact .inr ⟨_, _, if_pos hb⟩
      · exact .inl (if_neg hb)
    refine law_end KX GG.T.g GG.T.b GG.T.builtins GG.T.nolimit hg hobj (H := scriptH a { cls := .type "list", data := .seq vs.toArray } ns) (ns := ns) (.inr ⟨rfl, hk⟩) (fun b u z => ?_) roomG hF hb (wish _ (fun b => b = a) or_ (fun b f => by subst f; exact ⟨_, at_⟩) (.inl ⟨rfl, .inr ⟨_, at_⟩⟩))
    unfold scriptH at z
    split at z
    · rename_i hb'
      cases z
      subst hb'
      exact ⟨hobj, by rw [List.length_map]; omega, vs, _, rv, hobj⟩
    · cases z
end Ev

/-! EvN: short words for the printed derivations. -/
namespace Ev
open PySem PySem.Spec PyProof.Rows L2
theorem tk0 {X : Cx} : Takes X W0 := fun u s' ⟨_, _, _, _, _, _, _, _, _, _, _, _, _, _, _, _, no⟩ => False.elim no
theorem bt_isinstance : bootBuiltins "isinstance" = some (.builtin "isinstance") := by decide +kernel
theorem bt_abs : bootBuiltins "abs" = some (.builtin "abs") := by decide +kernel
theorem bt_len : bootBuiltins "len" = some (.builtin "len") := by decide +kernel
theorem bt_all : bootBuiltins "all" = some (.builtin "all") := by decide +kernel
theorem bt_sum : bootBuiltins "sum" = some (.builtin "sum") := by decide +kernel
theorem bt_repr : bootBuiltins "repr" = some (.builtin "repr") := by decide +kernel
theorem bt_int : bootBuiltins "int" = some (.type "int") := by decide +kernel
theorem bt_bool : bootBuiltins "bool" = some (.type "bool") := by decide +kernel
theorem bt_str : bootBuiltins "str" = some (.type "str") := by decide +kernel
theorem bt_list : bootBuiltins "list" = some (.type "list") := by decide +kernel
theorem bt_tuple : bootBuiltins "tuple" = some (.type "tuple") := by decide +kernel
theorem bt_dict : bootBuiltins "dict" = some (.type "dict") := by decide +kernel
/-- arguments by place and by name, just so many -/
def permN {α : Type} (z : α) (nu nk : Nat) (ix : List Nat) (us ws : List α) : List α := if us.length = nu ∧ ws.length = nk then perm z ix us ws else []
theorem GRel.permN (nu nk : Nat) (ix : List Nat) : GRel (Ev.permN .non nu nk ix) (Ev.permN (.v .non) nu nk ix) := by
  intro G c vs zs as bs r q
  unfold Ev.permN
  rw [Paired.length r, Paired.length q]
  split
  · exact GRel.perm ix r q
  · exact .nil
theorem kbinds_mk {K : PySem.W.Frag} {x qual : Str} {st : Stmt} {f : Addr} {fd : FuncData} {p : Str} {ps ks : List Str} (F : Fun K x qual st f fd) (nu nk : Nat) (ix : List Nat)
    (h : ∀ (kV doc pm : Value) (an : Option Addr) (cdv ct : Value) (us ws : List Value), us.length = nu → ws.length = nk → bindArgs (PySem.W.fnOf x qual (defArgs st) (defBody st) (defScope st) .none kV doc pm an cdv ct) ⟨us, ks.zip ws⟩ = pure ((p :: ps).zip (perm .none ix us ws))) :
    KBinds K fd (p :: ps) ks (permN .none nu nk ix) (permN .non nu nk ix) := by
  obtain ⟨oc, od, kV, doc, pm, an, cdv, ct, osl, rfl, lk, hcd⟩ := F.ex
  refine ⟨fun s us ws _ hl => ?_, fun {vs us zs ws} r q => ?_⟩
  · unfold permN at hl ⊢
    split at hl
    · rename_i hn
      rw [if_pos hn]
      exact .of_eq (h kV doc pm an cdv ct us ws hn.1 hn.2)
    · cases hl
  · unfold permN
    rw [Paired.length r, Paired.length q]
    split
    · exact Vals.perm ix r q
    · exact .nil
section
variable {X : Cx} {W : WX} {G : Gc} {L : Lt} {e a b : Expr} {pos : Pos} {es : List Expr} {m : M (List D)} {k : Nat} {p : Pos}
theorem SE.isinst (hg : Gl X "isinstance") (hm : X.mg "isinstance" = none) (ha : SA X W G L (e :: es) m) (he : starEach (e :: es) X.env = (false, eval e X.env) :: starEach es X.env := by rfl) (hpl : (backTo pos (starEach es X.env)).any (·.1) = false := by rfl) : SE X W G L (.Call (.Name "isinstance" p) (e :: es) [] pos) (evC bIsi m) := SE.callB call_isi' bIsi_ok hg hm bt_isinstance ha (by decide) (by decide) he hpl
theorem SE.abs (hg : Gl X "abs") (hm : X.mg "abs" = none) (ha : SA X W G L (e :: es) m) (he : starEach (e :: es) X.env = (false, eval e X.env) :: starEach es X.env := by rfl) (hpl : (backTo pos (starEach es X.env)).any (·.1) = false := by rfl) : SE X W G L (.Call (.Name "abs" p) (e :: es) [] pos) (evC bAbs m) := SE.callB call_abs bAbs_ok hg hm bt_abs ha (by decide) (by decide) he hpl
theorem SE.len (hg : Gl X "len") (hm : X.mg "len" = none) (ha : SA X W G L (e :: es) m) (he : starEach (e :: es) X.env = (false, eval e X.env) :: starEach es X.env := by rfl) (hpl : (backTo pos (starEach es X.env)).any (·.1) = false := by rfl) : SE X W G L (.Call (.Name "len" p) (e :: es) [] pos) (evC bLen m) := SE.callB call_len bLen_ok hg hm bt_len ha (by decide) (by decide) he hpl
theorem SE.all (hc : X.calm = true) (hg : Gl X "all") (hm : X.mg "all" = none) (ha : SA X W G L (e :: es) m) (he : starEach (e :: es) X.env = (false, eval e X.env) :: starEach es X.env := by rfl) (hpl : (backTo pos (starEach es X.env)).any (·.1) = false := by rfl) : SE X W G L (.Call (.Name "all" p) (e :: es) [] pos) (evC bAll m) := SE.callB (cr_all hc) bAll_ok hg hm bt_all ha (by decide) (by decide) he hpl
theorem SE.sum (hc : X.calm = true) (hg : Gl X "sum") (hm : X.mg "sum" = none) (ha : SA X W G L (e :: es) m) (he : starEach (e :: es) X.env = (false, eval e X.env) :: starEach es X.env := by rfl) (hpl : (backTo pos (starEach es X.env)).any (·.1) = false := by rfl) : SE X W G L (.Call (.Name "sum" p) (e :: es) [] pos) (evC bSum m) := SE.callB (cr_sum hc) bSum_ok hg hm bt_sum ha (by decide) (by decide) he hpl
theorem SE.repr (hr : RoomG k X.A) (hg : Gl X "repr") (hm : X.mg "repr" = none) (ha : SA X W G L (e :: es) m) (he : starEach (e :: es) X.env = (false, eval e X.env) :: starEach es X.env := by rfl) (hpl : (backTo pos (starEach es X.env)).any (·.1) = false := by rfl) : SE X W G L (.Call (.Name "repr" p) (e :: es) [] pos) (evC bRepr m) := SE.callB (call_reprG hr) bRepr_ok hg hm bt_repr ha (by decide) (by decide) he hpl
theorem SE.int (hg : Gl X "int") (hm : X.mg "int" = none) (ha : SA X W G L (e :: es) m) (he : starEach (e :: es) X.env = (false, eval e X.env) :: starEach es X.env := by rfl) (hpl : (backTo pos (starEach es X.env)).any (·.1) = false := by rfl) : SE X W G L (.Call (.Name "int" p) (e :: es) [] pos) (evC bInt m) := SE.callT call_int1 bInt_ok hg hm bt_int ha (by decide) (by decide) he hpl
theorem SE.tuple (hg : Gl X "tuple") (hm : X.mg "tuple" = none) (ha : SA X W G L (e :: es) m) (he : starEach (e :: es) X.env = (false, eval e X.env) :: starEach es X.env := by rfl) (hpl : (backTo pos (starEach es X.env)).any (·.1) = false := by rfl) : SE X W G L (.Call (.Name "tuple" p) (e :: es) [] pos) (evC bTuple m) := SE.callT call_tuple_of bTuple_ok hg hm bt_tuple ha (by decide) (by decide) he hpl
theorem SE.list (hg : Gl X "list") (hm : X.mg "list" = none) (ha : SA X W G L (e :: es) m) (he : starEach (e :: es) X.env = (false, eval e X.env) :: starEach es X.env := by rfl) (hpl : (backTo pos (starEach es X.env)).any (·.1) = false := by rfl) : SE X W G L (.Call (.Name "list" p) (e :: es) [] pos) (evC bList m) := SE.callT call_list_of bList_ok hg hm bt_list ha (by decide) (by decide) he hpl
theorem SE.gt {ma mb : M D} (ha : SD X W G L a ma) (hb : SD X W G L b mb) : SE X W G L (.Compare a [.Gt] [b] pos) (ev2 cGt ma mb) := SE.cmp op_gt cGt_ok ha hb (nomark _)
theorem SE.lt {ma mb : M D} (ha : SD X W G L a ma) (hb : SD X W G L b mb) : SE X W G L (.Compare a [.Lt] [b] pos) (ev2 cLt ma mb) := SE.cmp op_lt cLt_ok ha hb (nomark _)
theorem SE.le {ma mb : M D} (ha : SD X W G L a ma) (hb : SD X W G L b mb) : SE X W G L (.Compare a [.LtE] [b] pos) (ev2 cLe ma mb) := SE.cmp op_le cLe_ok ha hb (nomark _)
theorem SE.ge {ma mb : M D} (ha : SD X W G L a ma) (hb : SD X W G L b mb) : SE X W G L (.Compare a [.GtE] [b] pos) (ev2 cGe ma mb) := SE.cmp op_ge cGe_ok ha hb (nomark _)
theorem SE.eq {ma mb : M D} (hr : RoomG k X.A) (ha : SD X W G L a ma) (hb : SD X W G L b mb) : SE X W G L (.Compare a [.Eq] [b] pos) (ev2 eqA ma mb) := SE.cmp (op_eqA hr.room.units) eqA_ok ha hb (nomark _)
theorem SE.ne {ma mb : M D} (hr : RoomG k X.A) (ha : SD X W G L a ma) (hb : SD X W G L b mb) : SE X W G L (.Compare a [.NotEq] [b] pos) (ev2 neA ma mb) := SE.cmp (op_neA hr.room.units) neA_ok ha hb (nomark _)
theorem SE.isN {ma mb : M D} (ha : SD X W G L a ma) (hb : SD X W G L b mb) : SE X W G L (.Compare a [.Is] [b] pos) (ev2 cIsN ma mb) := SE.cmp op_isN cIsN_ok ha hb (nomark _)
theorem SE.notN {ma mb : M D} (ha : SD X W G L a ma) (hb : SD X W G L b mb) : SE X W G L (.Compare a [.IsNot] [b] pos) (ev2 cNotN ma mb) := SE.cmp op_notN cNotN_ok ha hb (nomark _)
theorem SE.isB {ma mb : M D} (ha : SD X W G L a ma) (hb : SD X W G L b mb) : SE X W G L (.Compare a [.Is] [b] pos) (ev2 cIsB ma mb) := SE.cmp op_isBl cIsB_ok ha hb (nomark _)
theorem ST.gt {ma mb : M D} (ha : SD X W G L a ma) (hb : SD X W G L b mb) : ST X W G L (.Compare a [.Gt] [b] pos) (ev2T cGt ma mb) := ST.cmp op_gt cGt_ok ha hb (nomark _)
theorem ST.lt {ma mb : M D} (ha : SD X W G L a ma) (hb : SD X W G L b mb) : ST X W G L (.Compare a [.Lt] [b] pos) (ev2T cLt ma mb) := ST.cmp op_lt cLt_ok ha hb (nomark _)
theorem ST.le {ma mb : M D} (ha : SD X W G L a ma) (hb : SD X W G L b mb) : ST X W G L (.Compare a [.LtE] [b] pos) (ev2T cLe ma mb) := ST.cmp op_le cLe_ok ha hb (nomark _)
theorem ST.ge {ma mb : M D} (ha : SD X W G L a ma) (hb : SD X W G L b mb) : ST X W G L (.Compare a [.GtE] [b] pos) (ev2T cGe ma mb) := ST.cmp op_ge cGe_ok ha hb (nomark _)
theorem ST.eq {ma mb : M D} (hr : RoomG k X.A) (ha : SD X W G L a ma) (hb : SD X W G L b mb) : ST X W G L (.Compare a [.Eq] [b] pos) (ev2T eqA ma mb) := ST.cmp (op_eqA hr.room.units) eqA_ok ha hb (nomark _)
theorem ST.ne {ma mb : M D} (hr : RoomG k X.A) (ha : SD X W G L a ma) (hb : SD X W G L b mb) : ST X W G L (.Compare a [.NotEq] [b] pos) (ev2T neA ma mb) := ST.cmp (op_neA hr.room.units) neA_ok ha hb (nomark _)
theorem ST.isN {ma mb : M D} (ha : SD X W G L a ma) (hb : SD X W G L b mb) : ST X W G L (.Compare a [.Is] [b] pos) (ev2T cIsN ma mb) := ST.cmp op_isN cIsN_ok ha hb (nomark _)
theorem ST.notN {ma mb : M D} (ha : SD X W G L a ma) (hb : SD X W G L b mb) : ST X W G L (.Compare a [.IsNot] [b] pos) (ev2T cNotN ma mb) := ST.cmp op_notN cNotN_ok ha hb (nomark _)
theorem ST.isB {ma mb : M D} (ha : SD X W G L a ma) (hb : SD X W G L b mb) : ST X W G L (.Compare a [.Is] [b] pos) (ev2T cIsB ma mb) := ST.cmp op_isBl cIsB_ok ha hb (nomark _)
theorem SD.app (i : Nat) {x : Str} {xp ap : Pos} (hN : X.N[i]? = some x) (hv : Vis X.env.scope x) (h : SA X W G L (e :: es) m)
    (hbase : attributeBase (.Name x xp) "append" X.env (eval (.Name x xp) X.env) = eval (.Name x xp) X.env := by rfl)
    (hfew : ((backTo pos (starEach (e :: es) X.env)).all (fun x => !x.1) && (backToKw pos (keywordEach [] X.env)).all (fun x => x.1.isSome) && decide ((e :: es).length + ([] : List Keyword).length + (if ([] : List Keyword).isEmpty then 0 else 1) < 30)) = true := by rfl)
    (hline : (ap.endLine == pos.line) = true := by rfl) (hs : starEach (e :: es) X.env = (false, eval e X.env) :: starEach es X.env := by rfl) (hplain : (backTo pos (starEach es X.env)).any (·.1) = false := by rfl)
    (hd : (x == ("__debug__" : Str)) = false := by decide) (hcd : (x == ("__classdict__" : Str)) = false := by decide) : SD X W G L (.Call (.Attribute (.Name x xp) "append" ap) (e :: es) [] pos) (evMut i fApp m) :=
  SD.mut i PySem.F.slot_list_append PySem.F.type_list_append mt_append fApp_ok hN hv h hbase hfew hline hs hplain hd hcd
end
/-! ### meanings by short names -/
def evO (m : M D) : M (Option Int) := m.bind fun d => liftO (asInt d)
def evRet (m : M Vl) : M Fl := m.bind fun r => mpure (.rt r)
def evExpr (m : M D) : M Fl := m.bind fun _ => mpure .nx
def tNot' (m : M Bool) : M Bool := m.bind fun k => mpure (!k)
def tTruth (m : M D) : M Bool := m.bind fun d => liftO (truth d)
def gsNil : List D → M Unit := fun ds => match ds with | [] => mpure () | _ => fun _ => .no
theorem scr_sq {G : Gc} {K : PySem.W.Frag} (h : G.N.scrK = scrKof K) : ∀ a ns H, G.N.scrK a ns → SqL K H a (ns.map V.int) := fun a ns H q => .inr (by rw [h] at q; exact q)
end Ev

/-! EvP: reckoning with plain meanings: one equation for each step. -/
namespace Ev
open PySem PySem.Spec PyProof.Rows L2
variable {α β : Type} {ρ : Rho}
/-- it ends well, so -/
def Wq (o : Out α) (P : α → Rho → Prop) : Prop := ∃ a ρ, o = .ok a ρ ∧ P a ρ
def Fw (o : FOut) (P : Vl → List Sl → Prop) : Prop := ∃ a ρ, o = .ok a ρ ∧ P a ρ
theorem Wq.mono {o : Out α} {P Q : α → Rho → Prop} (h : Wq o P) (q : ∀ a ρ, P a ρ → Q a ρ) : Wq o Q := by
  obtain ⟨a, ρ, e, p⟩ := h
  exact ⟨a, ρ, e, q a ρ p⟩
theorem Fw.mono {o : FOut} {P Q : Vl → List Sl → Prop} (h : Fw o P) (q : ∀ a ρ, P a ρ → Q a ρ) : Fw o Q := by
  obtain ⟨a, ρ, e, p⟩ := h
  exact ⟨a, ρ, e, q a ρ p⟩
theorem q_ok {a : α} {P : α → Rho → Prop} : Wq (.ok a ρ) P = P a ρ := propext ⟨fun ⟨_, _, e, p⟩ => by cases e; exact p, fun p => ⟨a, ρ, rfl, p⟩⟩
theorem q_bind {o : Out α} {f : α → Rho → Out β} {P : β → Rho → Prop} : Wq (o.bind f) P = Wq o (fun a ρ => Wq (f a ρ) P) := propext ⟨fun ⟨b, ρ, e, p⟩ => by
    obtain ⟨a, ρ1, e1, e2⟩ := bind_ok e
    exact ⟨a, ρ1, e1, b, ρ, e2, p⟩, fun ⟨a, ρ1, e1, b, ρ, e2, p⟩ => ⟨b, ρ, by rw [e1]; exact e2, p⟩⟩
theorem fw_ok {a : Vl} {os : List Sl} {P : Vl → List Sl → Prop} : Fw (.ok a os) P = P a os := propext ⟨fun ⟨_, _, e, p⟩ => by cases e; exact p, fun p => ⟨a, os, rfl, p⟩⟩
/-- a def from its body -/
theorem fw_of {m : M Fl} {z : Nat} {as : List Sl} {P : Vl → List Sl → Prop} (h : Wq (m (as ++ List.replicate (z - as.length) .un)) fun f ρ => as.length ≤ ρ.length ∧ ((∃ r, f = .rt r ∧ P r (outsOf as ρ)) ∨ (f = .nx ∧ P (.fz .non) (outsOf as ρ)))) : Fw (fnSem m z as) P := by
  obtain ⟨f, ρ, e, l, h⟩ := h
  unfold fnSem
  rw [e]
  rcases h with ⟨r, rfl, p⟩ | ⟨rfl, p⟩
  · refine ⟨r, outsOf as ρ, ?_, p⟩
    show (if as.length ≤ ρ.length then _ else _) = _
    rw [if_pos l]
  · refine ⟨.fz .non, outsOf as ρ, ?_, p⟩
    show (if as.length ≤ ρ.length then _ else _) = _
    rw [if_pos l]
/-- a call by what its def does -/
theorem q_call {φ : Fn} {ars : List Ar} {as : List Sl} {P : Vl → Rho → Prop} (hd : dist (refs ars) = true) (hg : gather ρ ars = some as) (h : Fw (φ as) fun r outs => P r (scat ars outs 0 ρ)) : Wq (callAr φ ars ρ) P := by
  obtain ⟨r, outs, e, p⟩ := h
  refine ⟨r, _, ?_, p⟩
  unfold callAr
  rw [if_pos hd, hg]
  show (match φ as with | .ok r outs => _ | .ex d outs => _ | .no => _) = _
  rw [e]
/-! ### one equation for each step -/
theorem p_pure (a : α) : mpure a ρ = .ok a ρ := (rfl)
theorem p_bind (m : M α) (f : α → M β) : M.bind m f ρ = (m ρ).bind f := (rfl)
theorem p_ok (a : α) (f : α → Rho → Out β) : (Out.ok a ρ).bind f = f a ρ := (rfl)
theorem p_assoc {γ : Type} (o : Out α) (f : α → Rho → Out β) (g : β → Rho → Out γ) : (o.bind f).bind g = o.bind fun a ρ => (f a ρ).bind g := by cases o <;> rfl
def kD (r : Vl) : M D := mpure r.d
theorem p_toD (m : M Vl) : toD m ρ = (m ρ).bind kD := (rfl)
theorem p_kDf (d : D) : kD (.fz d) ρ = .ok d ρ := (rfl)
theorem p_kDn (d : D) : kD (.nw d) ρ = .ok d ρ := (rfl)
def kV (d : D) : M Vl := mpure (.fz d)
theorem p_toV (m : M D) : toV m ρ = (m ρ).bind kV := (rfl)
theorem p_kV (d : D) : kV d ρ = .ok (.fz d) ρ := (rfl)
theorem p_some (a : α) : liftO (some a) ρ = .ok a ρ := (rfl)
def varO (i : Nat) (ρ : Rho) : Option Sl → Out D
  | some (.fz d) => .ok d ρ
  | some (.ow d) => .ok d (ρ.set i (.fz d))
  | some (.ln d) => .ok d (ρ.set i (.lf d))
  | some (.lf d) => .ok d ρ
  | _ => .no
theorem p_var (i : Nat) : evVar i ρ = varO i ρ ρ[i]? := by
  unfold evVar varO
  rfl
theorem p_varF (i : Nat) (d : D) : varO i ρ (some (.fz d)) = .ok d ρ := (rfl)
theorem p_varL (i : Nat) (d : D) : varO i ρ (some (.lf d)) = .ok d ρ := (rfl)
theorem p_varO (i : Nat) (d : D) : varO i ρ (some (.ow d)) = .ok d (ρ.set i (.fz d)) := (rfl)
theorem p_varN (i : Nat) (d : D) : varO i ρ (some (.ln d)) = .ok d (ρ.set i (.lf d)) := (rfl)
def movO (i : Nat) (ρ : Rho) : Option Sl → Out Vl
  | some (.fz d) => .ok (.fz d) ρ
  | some (.lf d) => .ok (.fz d) ρ
  | some (.ow d) => .ok (.nw d) (ρ.set i .un)
  | some (.ln d) => .ok (.fz d) (ρ.set i (.lf d))
  | _ => .no
theorem p_mov (i : Nat) : evMove i ρ = movO i ρ ρ[i]? := by
  unfold evMove movO
  rfl
theorem p_movF (i : Nat) (d : D) : movO i ρ (some (.fz d)) = .ok (.fz d) ρ := (rfl)
theorem p_movL (i : Nat) (d : D) : movO i ρ (some (.lf d)) = .ok (.fz d) ρ := (rfl)
theorem p_movO (i : Nat) (d : D) : movO i ρ (some (.ow d)) = .ok (.nw d) (ρ.set i .un) := (rfl)
theorem p_movN (i : Nat) (d : D) : movO i ρ (some (.ln d)) = .ok (.fz d) (ρ.set i (.lf d)) := (rfl)
def k2 (f : D → D → Option Vl) (mb : M D) (x : D) : M Vl := mb.bind fun y => liftO (f x y)
def k2' (f : D → D → Option Vl) (x y : D) : M Vl := liftO (f x y)
theorem p_ev2 (f : D → D → Option Vl) (ma mb : M D) : ev2 f ma mb ρ = (ma ρ).bind (k2 f mb) := (rfl)
theorem p_k2 (f : D → D → Option Vl) (mb : M D) (x : D) : k2 f mb x ρ = (mb ρ).bind (k2' f x) := (rfl)
theorem p_k2' (f : D → D → Option Vl) (x y : D) : k2' f x y ρ = liftO (f x y) ρ := (rfl)
def kT (f : D → D → Option Vl) (mb : M D) (x : D) : M Bool := mb.bind fun y => liftO (vBool (f x y))
def kT' (f : D → D → Option Vl) (x y : D) : M Bool := liftO (vBool (f x y))
theorem p_ev2T (f : D → D → Option Vl) (ma mb : M D) : ev2T f ma mb ρ = (ma ρ).bind (kT f mb) := (rfl)
theorem p_kT (f : D → D → Option Vl) (mb : M D) (x : D) : kT f mb x ρ = (mb ρ).bind (kT' f x) := (rfl)
theorem p_kT' (f : D → D → Option Vl) (x y : D) : kT' f x y ρ = liftO (vBool (f x y)) ρ := (rfl)
theorem p_vb (b : Bool) : vBool (some (.fz (.bl b))) = some b := (rfl)
def kf {γ : Type} (f : α → Option γ) (x : α) : M γ := liftO (f x)
theorem p_ev1 (f : D → Option Vl) (ma : M D) : ev1 f ma ρ = (ma ρ).bind (kf f) := (rfl)
theorem p_evC (f : List D → Option Vl) (ma : M (List D)) : evC f ma ρ = (ma ρ).bind (kf f) := (rfl)
theorem p_evL (f : List D → Option α) (ma : M (List D)) : evL f ma ρ = (ma ρ).bind (kf f) := (rfl)
theorem p_evO (m : M D) : evO m ρ = (m ρ).bind (kf asInt) := (rfl)
theorem p_evSeq (m : M D) : evSeq m ρ = (m ρ).bind (kf dSeq) := (rfl)
theorem p_tTruth (m : M D) : tTruth m ρ = (m ρ).bind (kf truth) := (rfl)
theorem p_kf {γ : Type} (f : α → Option γ) (x : α) : kf f x ρ = liftO (f x) ρ := (rfl)
def kC1 (mr : M (List α)) (x : α) : M (List α) := mr.bind fun xs => mpure (x :: xs)
def kC2 (x : α) (xs : List α) : M (List α) := mpure (x :: xs)
theorem p_cons (ma : M D) (mr : M (List D)) : evCons ma mr ρ = (ma ρ).bind (kC1 mr) := (rfl)
theorem p_vcons (ma : M Vl) (mr : M (List Vl)) : vCons ma mr ρ = (ma ρ).bind (kC1 mr) := (rfl)
theorem p_acons (ma : M Ar) (mr : M (List Ar)) : arCons ma mr ρ = (ma ρ).bind (kC1 mr) := (rfl)
theorem p_kC1 (mr : M (List α)) (x : α) : kC1 mr x ρ = (mr ρ).bind (kC2 x) := (rfl)
theorem p_kC2 (x : α) (xs : List α) : kC2 x xs ρ = .ok (x :: xs) ρ := (rfl)
def kAr (d : D) : M Ar := mpure (.v d)
theorem p_arV (m : M D) : arV m ρ = (m ρ).bind kAr := (rfl)
theorem p_kAr (d : D) : kAr d ρ = .ok (.v d) ρ := (rfl)
def arO (i : Nat) (ρ : Rho) : Option Sl → Out Ar
  | some .un => .no
  | none => .no
  | some _ => .ok (.r i) ρ
theorem p_arR (i : Nat) : arR i ρ = arO i ρ ρ[i]? := by
  unfold arR arO
  rfl
theorem p_arF (i : Nat) (d : D) : arO i ρ (some (.fz d)) = .ok (.r i) ρ := (rfl)
theorem p_arOw (i : Nat) (d : D) : arO i ρ (some (.ow d)) = .ok (.r i) ρ := (rfl)
theorem p_arN (i : Nat) (d : D) : arO i ρ (some (.ln d)) = .ok (.r i) ρ := (rfl)
theorem p_arL (i : Nat) (d : D) : arO i ρ (some (.lf d)) = .ok (.r i) ρ := (rfl)
def kL1 (φ : Fn) (n : Nat) (gA : List Ar → List Ar → List Ar) (mk : M (List Ar)) (as : List Ar) : M Vl := mk.bind fun bs => if (gA as bs).length = n then callAr φ (gA as bs) else fun _ => .no
def kL2 (φ : Fn) (n : Nat) (gA : List Ar → List Ar → List Ar) (as bs : List Ar) : M Vl := if (gA as bs).length = n then callAr φ (gA as bs) else fun _ => .no
theorem p_call (φ : Fn) (n : Nat) (gA : List Ar → List Ar → List Ar) (m mk : M (List Ar)) : evCall φ n gA m mk ρ = (m ρ).bind (kL1 φ n gA mk) := (rfl)
theorem p_kL1 (φ : Fn) (n : Nat) (gA : List Ar → List Ar → List Ar) (mk : M (List Ar)) (as : List Ar) : kL1 φ n gA mk as ρ = (mk ρ).bind (kL2 φ n gA as) := (rfl)
theorem p_kL2 (φ : Fn) (n : Nat) (gA : List Ar → List Ar → List Ar) (as bs : List Ar) (h : (gA as bs).length = n) : kL2 φ n gA as bs ρ = callAr φ (gA as bs) ρ := by
  unfold kL2
  rw [if_pos h]
def kI {α : Type} (ma mb : M α) (k : Bool) : M α := if k = true then ma else mb
theorem p_if (mc : M Bool) (ma mb : M α) : evIf mc ma mb ρ = (mc ρ).bind (kI ma mb) := (rfl)
theorem p_kIt (ma mb : M α) : kI ma mb true ρ = ma ρ := (rfl)
theorem p_kIf (ma mb : M α) : kI ma mb false ρ = mb ρ := (rfl)
theorem p_tAnd (m n : M Bool) : tAnd' m n ρ = (m ρ).bind (kI n (mpure false)) := (rfl)
theorem p_tOr (m n : M Bool) : tOr' m n ρ = (m ρ).bind (kI (mpure true) n) := (rfl)
def kN (k : Bool) : M Bool := mpure (!k)
theorem p_tNot (m : M Bool) : tNot' m ρ = (m ρ).bind kN := (rfl)
theorem p_kN (k : Bool) : kN k ρ = .ok (!k) ρ := (rfl)
def kA (n : M D) : D → M D
  | .bl k => kI n (mpure (.bl false)) k
  | _ => fun _ => .no
theorem p_and (m n : M D) : evAnd m n ρ = (m ρ).bind (kA n) := by
  show (m ρ).bind _ = _
  congr 1
  funext d
  cases d with
  | bl k => cases k <;> rfl
  | _ => rfl
theorem p_kA (n : M D) (k : Bool) : kA n (.bl k) ρ = kI n (mpure (.bl false)) k ρ := (rfl)
def kO (n : M D) : D → M D
  | .bl k => kI (mpure (.bl true)) n k
  | _ => fun _ => .no
theorem p_or (m n : M D) : evOr m n ρ = (m ρ).bind (kO n) := by
  show (m ρ).bind _ = _
  congr 1
  funext d
  cases d with
  | bl k => cases k <;> rfl
  | _ => rfl
theorem p_kO (n : M D) (k : Bool) : kO n (.bl k) ρ = kI (mpure (.bl true)) n k ρ := (rfl)
def kNt : D → M D
  | .bl k => mpure (.bl (!k))
  | _ => fun _ => .no
theorem p_not (m : M D) : evNot m ρ = (m ρ).bind kNt := (rfl)
theorem p_kNt (k : Bool) : kNt (.bl k) ρ = .ok (.bl (!k)) ρ := (rfl)
/-- reading an item of a slot -/
def kXO (y : D) (ρ : Rho) : Option D → Out Vl
  | some d => liftO (item d y) ρ
  | none => .no
def kX (i : Nat) (y : D) : M Vl := fun ρ => kXO y ρ (slotD ρ i)
def ixO (i : Nat) (m : M D) (ρ : Rho) : Option D → Out Vl
  | some _ => (m ρ).bind (kX i)
  | none => .no
theorem p_ixS (i : Nat) (m : M D) : evIxS i m ρ = ixO i m ρ (slotD ρ i) := by
  unfold evIxS evLook
  cases slotD ρ i <;> rfl
theorem p_ixO (i : Nat) (m : M D) (d : D) : ixO i m ρ (some d) = (m ρ).bind (kX i) := (rfl)
theorem p_kX (i : Nat) (y : D) : kX i y ρ = kXO y ρ (slotD ρ i) := (rfl)
theorem p_kXO (y d : D) : kXO y ρ (some d) = liftO (item d y) ρ := (rfl)
def slO : Option Sl → Option D
  | some (.fz d) => some d
  | some (.ow d) => some d
  | some (.ln d) => some d
  | some (.lf d) => some d
  | _ => none
theorem p_slotD (i : Nat) : slotD ρ i = slO ρ[i]? := by
  unfold slotD slO
  rfl
theorem p_slF (d : D) : slO (some (.fz d)) = some d := (rfl)
theorem p_slO (d : D) : slO (some (.ow d)) = some d := (rfl)
theorem p_slN (d : D) : slO (some (.ln d)) = some d := (rfl)
theorem p_slL (d : D) : slO (some (.lf d)) = some d := (rfl)
/-! ### statements -/
def kS (n : M Fl) : Fl → M Fl
  | .nx => n
  | f => mpure f
theorem p_seq (m n : M Fl) : mseq m n ρ = (m ρ).bind (kS n) := by
  show (m ρ).bind _ = _
  exact congrArg _ (funext fun d => by cases d <;> rfl)
theorem p_kSn (n : M Fl) : kS n .nx ρ = n ρ := (rfl)
theorem p_kSr (n : M Fl) (r : Vl) : kS n (.rt r) ρ = .ok (.rt r) ρ := (rfl)
theorem p_kSb (n : M Fl) : kS n .bk ρ = .ok .bk ρ := (rfl)
theorem p_kSc (n : M Fl) : kS n .ct ρ = .ok .ct ρ := (rfl)
def setO (i : Nat) (r : Vl) (ρ : Rho) : Option Sl → Out Unit
  | some (.ln _) => .no
  | some (.lf _) => .no
  | none => .no
  | some _ => .ok () (ρ.set i (slOf r))
theorem p_slot (i : Nat) (r : Vl) : setSlot i r ρ = setO i r ρ ρ[i]? := by
  unfold setSlot setO
  rfl
theorem p_setU (i : Nat) (r : Vl) : setO i r ρ (some .un) = .ok () (ρ.set i (slOf r)) := (rfl)
theorem p_setF (i : Nat) (r : Vl) (d : D) : setO i r ρ (some (.fz d)) = .ok () (ρ.set i (slOf r)) := (rfl)
theorem p_setO (i : Nat) (r : Vl) (d : D) : setO i r ρ (some (.ow d)) = .ok () (ρ.set i (slOf r)) := (rfl)
theorem p_ofF (d : D) : slOf (.fz d) = .fz d := (rfl)
theorem p_ofN (d : D) : slOf (.nw d) = .ow d := (rfl)
def kNx (_ : Unit) : M Fl := mpure .nx
theorem p_kNx (u : Unit) : kNx u ρ = .ok .nx ρ := (rfl)
def kSet (i : Nat) (r : Vl) : M Fl := M.bind (setSlot i r) kNx
theorem p_set (i : Nat) (m : M Vl) : evSet i m ρ = (m ρ).bind (kSet i) := (rfl)
theorem p_kSet (i : Nat) (r : Vl) : kSet i r ρ = (setSlot i r ρ).bind kNx := (rfl)
def kRt (r : Vl) : M Fl := mpure (.rt r)
theorem p_ret (m : M Vl) : evRet m ρ = (m ρ).bind kRt := (rfl)
theorem p_kRt (r : Vl) : kRt r ρ = .ok (.rt r) ρ := (rfl)
def kEx (_ : D) : M Fl := mpure .nx
theorem p_expr (m : M D) : evExpr m ρ = (m ρ).bind kEx := (rfl)
theorem p_kEx (d : D) : kEx d ρ = .ok .nx ρ := (rfl)
def kPar (is : List Nat) (rs : List Vl) : M Fl := M.bind (setSlots is rs) kNx
theorem p_par (is : List Nat) (m : M (List Vl)) : evPar is m ρ = (m ρ).bind (kPar is) := (rfl)
theorem p_kPar (is : List Nat) (rs : List Vl) : kPar is rs ρ = (setSlots is rs ρ).bind kNx := (rfl)
def kSs (is : List Nat) (rs : List Vl) (_ : Unit) : M Unit := setSlots is rs
theorem p_kSs (is : List Nat) (rs : List Vl) (u : Unit) : kSs is rs u ρ = setSlots is rs ρ := (rfl)
theorem p_ss0 : setSlots [] [] ρ = .ok () ρ := (rfl)
theorem p_ss (i : Nat) (is : List Nat) (r : Vl) (rs : List Vl) : setSlots (i :: is) (r :: rs) ρ = (setSlot i r ρ).bind (kSs is rs) := (rfl)
def kAsg (g : D → M Unit) (d : D) : M Fl := M.bind (g d) kNx
theorem p_asg (m : M D) (g : D → M Unit) : evAsg m g ρ = (m ρ).bind (kAsg g) := (rfl)
theorem p_kAsg (g : D → M Unit) (d : D) : kAsg g d ρ = (g d ρ).bind kNx := (rfl)
theorem p_unp (n : Nat) (g : List D → M Unit) (l : List D) (h : l.length = n) : evUnp n g (.tup l) ρ = g l ρ := by
  show (if l.length = n then g l else fun _ => .no) ρ = _
  rw [if_pos h]
def kG (gr : List D → M Unit) (ds : List D) (_ : Unit) : M Unit := gr ds
theorem p_gs (g : D → M Unit) (gr : List D → M Unit) (d : D) (ds : List D) : gsCons g gr (d :: ds) ρ = (g d ρ).bind (kG gr ds) := (rfl)
theorem p_kG (gr : List D → M Unit) (ds : List D) (u : Unit) : kG gr ds u ρ = gr ds ρ := (rfl)
theorem p_gs0 : gsNil [] ρ = .ok () ρ := (rfl)
def kUp (k : Nat) (d y : D) : M Unit := updSlot k (putIx y d)
def gIO (k : Nat) (m : M D) (d : D) (ρ : Rho) : Option D → Out Unit
  | some _ => (m ρ).bind (kUp k d)
  | none => .no
theorem p_gIx (k : Nat) (mi : M D) (d : D) : gIx k mi d ρ = gIO k mi d ρ (slotD ρ k) := by
  unfold gIx evLook
  cases slotD ρ k <;> rfl
theorem p_gIO (k : Nat) (mi : M D) (d e : D) : gIO k mi d ρ (some e) = (mi ρ).bind (kUp k d) := (rfl)
theorem p_kUp (k : Nat) (d y : D) : kUp k d y ρ = updSlot k (putIx y d) ρ := (rfl)
def upD (i : Nat) (ρ : Rho) (b : Bool) : Option D → Out Unit
  | some d' => .ok () (ρ.set i (if b then .ow d' else .ln d'))
  | none => .no
def upO (i : Nat) (f : D → Option D) (ρ : Rho) : Option Sl → Out Unit
  | some (.ow d) => upD i ρ true (f d)
  | some (.ln d) => upD i ρ false (f d)
  | _ => .no
theorem p_upd (i : Nat) (f : D → Option D) : updSlot i f ρ = upO i f ρ ρ[i]? := by
  unfold updSlot upO upD
  cases ρ[i]? with
  | none => rfl
  | some s => cases s with
    | ow d => cases f d <;> rfl
    | ln d => cases f d <;> rfl
    | _ => rfl
theorem p_upO (i : Nat) (f : D → Option D) (d : D) : upO i f ρ (some (.ow d)) = upD i ρ true (f d) := (rfl)
theorem p_upN (i : Nat) (f : D → Option D) (d : D) : upO i f ρ (some (.ln d)) = upD i ρ false (f d) := (rfl)
theorem p_upDt (i : Nat) (d : D) : upD i ρ true (some d) = .ok () (ρ.set i (.ow d)) := (rfl)
theorem p_upDf (i : Nat) (d : D) : upD i ρ false (some d) = .ok () (ρ.set i (.ln d)) := (rfl)
theorem p_put (l : List D) (d : D) (i : Int) : putIx (.int i) d (.lst l) = (ixN l.length i).map fun j => .lst (l.set j d) := (rfl)
def kM1 (k : Nat) (f : List D → D → Option D) (ds : List D) : M D := M.bind (updSlot k (onLst (f ds))) fun _ => mpure .non
def mutO (k : Nat) (f : List D → D → Option D) (m : M (List D)) (ρ : Rho) : Option D → Out D
  | some (.lst _) => (m ρ).bind (kM1 k f)
  | _ => .no
theorem p_mut (k : Nat) (f : List D → D → Option D) (m : M (List D)) : evMut k f m ρ = mutO k f m ρ (slotD ρ k) := by
  unfold evMut evLookL mutO
  cases slotD ρ k with
  | none => rfl
  | some d => cases d <;> rfl
theorem p_mutO (k : Nat) (f : List D → D → Option D) (m : M (List D)) (l : List D) : mutO k f m ρ (some (.lst l)) = (m ρ).bind (kM1 k f) := (rfl)
def kNon (_ : Unit) : M D := mpure .non
theorem p_kNon (u : Unit) : kNon u ρ = .ok .non ρ := (rfl)
theorem p_kM1 (k : Nat) (f : List D → D → Option D) (ds : List D) : kM1 k f ds ρ = (updSlot k (onLst (f ds)) ρ).bind kNon := (rfl)
theorem p_app (l : List D) (d : D) (h : l.length < 16777216) : onLst (fApp [d]) (.lst l) = some (.lst (l ++ [d])) := by
  show (if l.length < 16777216 then _ else _) = _
  rw [if_pos h]
def kSl1 (ml mh : M (Option Int)) (d : D) : M Vl := ml.bind fun lo => mh.bind fun hi => liftO (cutOf lo hi d)
def kSl2 (mh : M (Option Int)) (d : D) (lo : Option Int) : M Vl := mh.bind fun hi => liftO (cutOf lo hi d)
def kSl3 (d : D) (lo hi : Option Int) : M Vl := liftO (cutOf lo hi d)
theorem p_sl (m : M D) (ml mh : M (Option Int)) : evSl m ml mh ρ = (m ρ).bind (kSl1 ml mh) := (rfl)
theorem p_kSl1 (ml mh : M (Option Int)) (d : D) : kSl1 ml mh d ρ = (ml ρ).bind (kSl2 mh d) := (rfl)
theorem p_kSl2 (mh : M (Option Int)) (d : D) (lo : Option Int) : kSl2 mh d lo ρ = (mh ρ).bind (kSl3 d lo) := (rfl)
theorem p_kSl3 (d : D) (lo hi : Option Int) : kSl3 d lo hi ρ = liftO (cutOf lo hi d) ρ := (rfl)
/-! ### operators -/
theorem p_add (i j : Int) : opAdd (.int i) (.int j) = some (.fz (.int (i + j))) := (rfl)
theorem p_addL (a b : List D) (h : lenOk (a.length + b.length) = true) : opAdd (.lst a) (.lst b) = some (.nw (.lst (a ++ b))) := by
  show (if _ then _ else _) = _
  rw [if_pos h]
theorem p_mul (i j : Int) (h : mulOk i j = true) : opMul (.int i) (.int j) = some (.fz (.int (i * j))) := by
  show (fMul i j).map _ = _
  unfold fMul
  rw [if_pos h]
  rfl
theorem p_i2 (f : Int → Int → Option D) (i j : Int) : i2 f (.int i) (.int j) = (f i j).map .fz := (rfl)
theorem p_u1 (f : Int → D) (i : Int) : u1 f (.int i) = some (.fz (f i)) := (rfl)
theorem p_div (i j : Int) (h : divOk j = true) : fDiv i j = some (.int (i.fdiv j)) := by
  unfold fDiv
  rw [if_pos h]
theorem p_mod (i j : Int) (h : j ≠ 0) : fMod i j = some (.int (i.fmod j)) := by
  unfold fMod
  rw [if_neg h]
theorem p_pow (i j : Int) (h : powOk i j = true) : fPow i j = some (.int (i ^ j.toNat)) := by
  unfold fPow
  rw [if_pos h]
theorem p_lt (i j : Int) : cLt (.int i) (.int j) = some (.fz (.bl (decide (i < j)))) := (rfl)
theorem p_le (i j : Int) : cLe (.int i) (.int j) = some (.fz (.bl (decide (i ≤ j)))) := (rfl)
theorem p_gt (i j : Int) : cGt (.int i) (.int j) = some (.fz (.bl (decide (j < i)))) := (rfl)
theorem p_ge (i j : Int) : cGe (.int i) (.int j) = some (.fz (.bl (decide (j ≤ i)))) := (rfl)
theorem p_eqI (i j : Int) : eqA (.int i) (.int j) = some (.fz (.bl (decide (i = j)))) := by
  have e : PyData.eqv (.int i) (.int j) = decide (i = j) := by
    unfold PyData.eqv
    by_cases h : i = j
    · subst h
      simp
    · simp [h]
  show (if (true && SeqAt.shaped (.int i)) && (true && SeqAt.shaped (.int j)) then some (Vl.fz (.bl (PyData.eqv (.int i) (.int j)))) else none) = _
  rw [e]
  rfl
theorem p_neI (i j : Int) : neA (.int i) (.int j) = some (.fz (.bl (!decide (i = j)))) := by
  have e : PyData.eqv (.int i) (.int j) = decide (i = j) := by
    unfold PyData.eqv
    by_cases h : i = j
    · subst h
      simp
    · simp [h]
  show (if (true && SeqAt.shaped (.int i)) && (true && SeqAt.shaped (.int j)) then some (Vl.fz (.bl (!PyData.eqv (.int i) (.int j)))) else none) = _
  rw [e]
  rfl
theorem p_eqS (x y : Str) : eqA (.str x) (.str y) = some (.fz (.bl (decide (x = y)))) := (rfl)
theorem p_neS (x y : Str) : neA (.str x) (.str y) = some (.fz (.bl (!decide (x = y)))) := (rfl)
theorem p_isB (i j : Bool) : cIsB (.bl i) (.bl j) = some (.fz (.bl (decide (i = j)))) := (rfl)
theorem p_isN (x : D) : cIsN x .non = some (.fz (.bl (isNon x))) := (rfl)
theorem p_notN (x : D) : cNotN x .non = some (.fz (.bl (!isNon x))) := (rfl)
theorem p_tup (l : List D) (h : lenOk l.length = true) : mkTup l = some (.fz (.tup l)) := by
  unfold mkTup
  rw [if_pos h]
theorem p_lst (l : List D) (h : lenOk l.length = true) : mkLst l = some (.nw (.lst l)) := by
  unfold mkLst
  rw [if_pos h]
theorem p_abs (i : Int) : bAbs [.int i] = some (.fz (.int (if i < 0 then -i else i))) := (rfl)
theorem p_intI (i : Int) : bInt [.int i] = some (.fz (.int i)) := (rfl)
theorem p_intB (k : Bool) : bInt [.bl k] = some (.fz (.int (if k then 1 else 0))) := (rfl)
theorem p_len (d : D) : bLen [d] = (dLen d).map fun n => .fz (.int (n : Nat)) := (rfl)
theorem p_dlL (l : List D) : dLen (.lst l) = some l.length := (rfl)
theorem p_dlT (l : List D) : dLen (.tup l) = some l.length := (rfl)
theorem p_itL (l : List D) (i : Int) : item (.lst l) (.int i) = (atI l i).map .fz := (rfl)
theorem p_itT (l : List D) (i : Int) : item (.tup l) (.int i) = (atI l i).map .fz := (rfl)
theorem p_d (d : D) : (Vl.fz d).d = d := (rfl)
theorem p_dn (d : D) : (Vl.nw d).d = d := (rfl)
/-! ### bounds -/
theorem inR_of {i : Int} (h0 : -(2 ^ 62) ≤ i) (h1 : i < 2 ^ 62) : Ev.inR i = true := by
  unfold Ev.inR
  rw [decide_eq_true h0, decide_eq_true h1]
  rfl
theorem p_rng1 (j : Int) (h : Ev.inR j = true) : rng1 [.int j] = some (rangeL 0 j.toNat) := by
  show (if Ev.inR j = true then _ else _) = _
  rw [if_pos h]
theorem p_rng2 (i j : Int) (h : Ev.inR i = true) (h2 : Ev.inR j = true) : rng2 [.int i, .int j] = some (rangeL i (j - i).toNat) := by
  show (if (Ev.inR i && Ev.inR j) = true then _ else _) = _
  rw [h, h2]
  rfl
theorem p_lo0 : lenOk 0 = true := by decide
theorem p_lo1 : lenOk 1 = true := by decide
theorem p_lo2 : lenOk 2 = true := by decide
theorem p_lo3 : lenOk 3 = true := by decide
theorem p_lo4 : lenOk 4 = true := by decide
theorem p_lo5 : lenOk 5 = true := by decide
theorem p_lo6 : lenOk 6 = true := by decide
theorem p_lo7 : lenOk 7 = true := by decide
theorem p_lo8 : lenOk 8 = true := by decide
theorem p_lo9 : lenOk 9 = true := by decide
theorem p_lo10 : lenOk 10 = true := by decide
theorem p_lo11 : lenOk 11 = true := by decide
theorem p_lo12 : lenOk 12 = true := by decide
theorem p_lo13 : lenOk 13 = true := by decide
theorem p_lo14 : lenOk 14 = true := by decide
theorem p_lo15 : lenOk 15 = true := by decide
theorem p_lo16 : lenOk 16 = true := by decide
theorem p_lo17 : lenOk 17 = true := by decide
theorem p_lo18 : lenOk 18 = true := by decide
theorem p_lo19 : lenOk 19 = true := by decide
theorem p_lo20 : lenOk 20 = true := by decide
theorem p_lo21 : lenOk 21 = true := by decide
theorem p_lo22 : lenOk 22 = true := by decide
theorem p_lo23 : lenOk 23 = true := by decide
theorem p_lo24 : lenOk 24 = true := by decide
theorem p_p18 : fPow 10 18 = some (.int (10 ^ 18)) := by
  unfold fPow
  rw [if_pos (by decide +kernel)]
  rfl
theorem p_p40 : fPow 10 40 = some (.int (10 ^ 40)) := by
  unfold fPow
  rw [if_pos (by decide +kernel)]
  rfl
theorem mulOk_of {i j : Int} {a b : Nat} (ha : i.natAbs < 2 ^ a) (hb : j.natAbs < 2 ^ b) (h : a + b ≤ 134217728) : mulOk i j = true := decide_eq_true (mulx_ok ha hb h)
theorem divOk_of {j : Int} {b : Nat} (h0 : j ≠ 0) (hb : j.natAbs < 2 ^ b) (h1 : 0 < b) (h : b ≤ 9000) : divOk j = true := by
  have w := PySem.Flt.log2_lt_of h1 hb
  unfold divOk
  rw [decide_eq_true h0, decide_eq_true (show j.natAbs.log2 < 9000 by omega)]
  rfl
theorem powOk_of {i j : Int} (h0 : 0 ≤ j) (h1 : j ≤ 1000000) (h : i.natAbs < 2 ^ 64) : powOk i j = true := by
  unfold powOk
  rw [decide_eq_true h0, decide_eq_true h1, decide_eq_true h]
  rfl
/-! ### loops -/
/-- how a loop's body ends -/
def lpE (f : Fl) (A B : Prop) (C : Vl → Prop) : Prop := match f with
  | .nx => A
  | .ct => A
  | .bk => B
  | .rt r => C r
theorem p_lpN (A B : Prop) (C : Vl → Prop) : lpE .nx A B C = A := (rfl)
theorem p_lpC (A B : Prop) (C : Vl → Prop) : lpE .ct A B C = A := (rfl)
theorem p_lpB (A B : Prop) (C : Vl → Prop) : lpE .bk A B C = B := (rfl)
theorem p_lpR (A B : Prop) (C : Vl → Prop) (r : Vl) : lpE (.rt r) A B C = C r := (rfl)
theorem lpE_or {f : Fl} {A B : Prop} {C : Vl → Prop} (h : lpE f A B C) : (f = .nx ∧ A) ∨ (f = .ct ∧ A) ∨ (f = .bk ∧ B) ∨ (∃ r, f = .rt r ∧ C r) := by
  cases f with
  | nx => exact .inl ⟨rfl, h⟩
  | ct => exact .inr (.inl ⟨rfl, h⟩)
  | bk => exact .inr (.inr (.inl ⟨rfl, h⟩))
  | rt r => exact .inr (.inr (.inr ⟨r, rfl, h⟩))
theorem for_inv {g : D → M Unit} {mb : M Fl} {P : Fl → Rho → Prop} (I : List D → Rho → Prop)
    (step : ∀ d ds ρ, I (d :: ds) ρ → Wq (g d ρ) fun _ ρ1 => Wq (mb ρ1) fun f ρ2 => lpE f (I ds ρ2) (P .nx ρ2) (fun r => P (.rt r) ρ2))
    (last : ∀ ρ, I [] ρ → P .nx ρ) : ∀ (ds : List D) (ρ : Rho), I ds ρ → Wq (loopD g mb ds ρ) P
  | [], ρ, h => ⟨_, _, rfl, last ρ h⟩
  | d :: ds, ρ, h => by
    obtain ⟨u, ρ1, e1, f, ρ2, e2, q⟩ := step d ds ρ h
    replace q := lpE_or q
    show Wq ((g d ρ).bind fun _ => mb.bind (loopEnd (loopD g mb ds))) P
    rw [e1]
    show Wq ((mb ρ1).bind (loopEnd (loopD g mb ds))) P
    rw [e2]
    rcases q with ⟨rfl, q⟩ | ⟨rfl, q⟩ | ⟨rfl, q⟩ | ⟨r, rfl, q⟩
    · exact for_inv I step last ds ρ2 q
    · exact for_inv I step last ds ρ2 q
    · exact ⟨_, _, rfl, q⟩
    · exact ⟨_, _, rfl, q⟩
def kFor (g : D → M Unit) (mb : M Fl) (ds : List D) : M Fl := loopD g mb ds
theorem p_for (mi : M (List D)) (g : D → M Unit) (mb : M Fl) : mFor mi g mb ρ = (mi ρ).bind (loopD g mb) := (rfl)
theorem whileN_succ {mc : M Bool} {mb : M Fl} : ∀ (n : Nat) (ρ : Rho), whileN mc mb n ρ ≠ .no → whileN mc mb (n + 1) ρ = whileN mc mb n ρ
  | 0, ρ, h => absurd rfl h
  | n + 1, ρ, h => by
    show (mc ρ).bind _ = (mc ρ).bind _
    have h' : (mc ρ).bind (fun k => if k = true then mb.bind (loopEnd (whileN mc mb n)) else mpure .nx) ≠ .no := h
    cases e : mc ρ with
    | no => rfl
    | ex d r => rfl
    | ok k ρ1 =>
      rw [e] at h'
      cases k with
      | false => rfl
      | true =>
        show (mb ρ1).bind _ = (mb ρ1).bind _
        have h2 : (mb ρ1).bind (loopEnd (whileN mc mb n)) ≠ .no := h'
        cases e2 : mb ρ1 with
        | no => rfl
        | ex d r => rfl
        | ok f ρ2 =>
          rw [e2] at h2
          cases f with
          | nx => exact whileN_succ n ρ2 h2
          | ct => exact whileN_succ n ρ2 h2
          | bk => rfl
          | rt r => rfl
theorem whileN_add {mc : M Bool} {mb : M Fl} {n : Nat} {ρ : Rho} (h : whileN mc mb n ρ ≠ .no) : ∀ k : Nat, whileN mc mb (n + k) ρ = whileN mc mb n ρ
  | 0 => rfl
  | k + 1 => by
    have ih := whileN_add h k
    rw [← Nat.add_assoc, whileN_succ _ _ (by rw [ih]; exact h), ih]
theorem mWhile_eq {mc : M Bool} {mb : M Fl} {n : Nat} {ρ : Rho} (h : whileN mc mb n ρ ≠ .no) : mWhile mc mb ρ = whileN mc mb n ρ := by
  have hx : ∃ n, whileN mc mb n ρ ≠ .no := ⟨n, h⟩
  have c := Classical.choose_spec hx
  unfold mWhile
  rw [dif_pos hx]
  have a := whileN_add h (Classical.choose hx)
  have b := whileN_add c n
  rw [Nat.add_comm] at b
  rw [← b, a]
/-- what a test's outcome asks -/
def whB (k : Bool) (A B : Prop) : Prop := (k = false → A) ∧ (k = true → B)
theorem p_whT (A B : Prop) : whB true A B = B := propext ⟨fun h => h.2 rfl, fun h => ⟨fun z => (by cases z), fun _ => h⟩⟩
theorem p_whF (A B : Prop) : whB false A B = A := propext ⟨fun h => h.1 rfl, fun h => ⟨fun _ => h, fun z => (by cases z)⟩⟩
theorem while_inv {mc : M Bool} {mb : M Fl} {P : Fl → Rho → Prop} (I : Nat → Rho → Prop)
    (step : ∀ n ρ, I n ρ → Wq (mc ρ) fun k ρ1 => whB k (P .nx ρ1) (Wq (mb ρ1) fun f ρ2 => lpE f (∃ m, m < n ∧ I m ρ2) (P .nx ρ2) (fun r => P (.rt r) ρ2))) (n : Nat) (ρ : Rho) (h : I n ρ) : Wq (mWhile mc mb ρ) P := by
  have key : ∀ (n : Nat) (ρ : Rho) (m : Nat), m ≤ n → I m ρ → Wq (whileN mc mb (n + 1) ρ) P := by
    intro n
    induction n with
    | zero =>
      intro ρ m hm h
      obtain ⟨k, ρ1, e1, hf, ht⟩ := step m ρ h
      show Wq ((mc ρ).bind _) P
      rw [e1]
      cases k with
      | false => exact ⟨_, _, rfl, hf rfl⟩
      | true =>
        obtain ⟨f, ρ2, e2, q⟩ := ht rfl
        replace q := lpE_or q
        show Wq ((mb ρ1).bind _) P
        rw [e2]
        rcases q with ⟨rfl, m2, l, q⟩ | ⟨rfl, m2, l, q⟩ | ⟨rfl, q⟩ | ⟨r, rfl, q⟩
        · omega
        · omega
        · exact ⟨_, _, rfl, q⟩
        · exact ⟨_, _, rfl, q⟩
    | succ n ih =>
      intro ρ m hm h
      obtain ⟨k, ρ1, e1, hf, ht⟩ := step m ρ h
      show Wq ((mc ρ).bind _) P
      rw [e1]
      cases k with
      | false => exact ⟨_, _, rfl, hf rfl⟩
      | true =>
        obtain ⟨f, ρ2, e2, q⟩ := ht rfl
        replace q := lpE_or q
        show Wq ((mb ρ1).bind _) P
        rw [e2]
        rcases q with ⟨rfl, m2, l, q⟩ | ⟨rfl, m2, l, q⟩ | ⟨rfl, q⟩ | ⟨r, rfl, q⟩
        · exact ih ρ2 m2 (by omega) q
        · exact ih ρ2 m2 (by omega) q
        · exact ⟨_, _, rfl, q⟩
        · exact ⟨_, _, rfl, q⟩
  obtain ⟨a, ρ2, e, p⟩ := key n ρ n (Nat.le_refl _) h
  refine ⟨a, ρ2, ?_, p⟩
  rw [mWhile_eq (n := n + 1) (by rw [e]; exact fun z => by cases z), e]
/-! ### list comprehensions that read alone -/
theorem lc_read {vs : List Nat} {g : D → M Unit} {mt : M Bool} {me : M D} {ρ0 : Rho} (f : D → Option D) :
    ∀ (ds : List D) (h : ∀ d ∈ ds, Wq (g d ρ0) fun _ ρ1 => Wq (mt ρ1) fun k ρ2 => whB k (f d = none ∧ wipeR ρ2 vs = ρ0) (Wq (me ρ2) fun y ρ3 => f d = some y ∧ wipeR ρ3 vs = ρ0)) (ρ : Rho) (_ : wipeR ρ vs = ρ0),
      Wq (lcLoop vs g mt me ds ρ) fun ys ρ' => ys = ds.filterMap f ∧ wipeR ρ' vs = ρ0
  | [], h, ρ, e => ⟨[], ρ, rfl, rfl, e⟩
  | d :: ds, h, ρ, e => by
    obtain ⟨u, ρ1, e1, k, ρ2, e2, hf, ht⟩ := h d List.mem_cons_self
    have ih := lc_read f ds (fun d hd => h d (List.mem_cons_of_mem _ hd))
    show Wq (((g d) (wipeR ρ vs)).bind fun _ ρ1 => (mt ρ1).bind fun k ρ2 => if k = true then (me ρ2).bind fun y ρ3 => (lcLoop vs g mt me ds ρ3).bind fun ys ρ4 => .ok (y :: ys) ρ4 else lcLoop vs g mt me ds ρ2) _
    rw [e, e1]
    show Wq ((mt ρ1).bind _) _
    rw [e2]
    cases k with
    | false =>
      obtain ⟨fn, w⟩ := hf rfl
      rw [List.filterMap_cons_none fn]
      exact ih ρ2 w
    | true =>
      obtain ⟨y, ρ3, e3, fs, w⟩ := ht rfl
      rw [List.filterMap_cons_some fs]
      obtain ⟨ys, ρ4, e4, ey, w4⟩ := ih ρ3 w
      refine ⟨y :: ys, ρ4, ?_, by rw [ey], w4⟩
      show ((me ρ2).bind _) = _
      rw [e3]
      show ((lcLoop vs g mt me ds ρ3).bind _) = _
      rw [e4]
      rfl
theorem wipe_at {vs : List Nat} {ρ : Rho} {i : Nat} (h : i ∉ vs) : (wipeR ρ vs)[i]? = ρ[i]? := by
  induction vs with
  | nil => rfl
  | cons v vs ih =>
    show ((wipeR ρ vs).set v .un)[i]? = _
    rw [List.getElem?_set_ne (fun e => h (by rw [e]; exact List.mem_cons_self)), ih (fun z => h (List.mem_cons_of_mem _ z))]
theorem wipe_len {vs : List Nat} {ρ : Rho} : (wipeR ρ vs).length = ρ.length := by
  induction vs with
  | nil => rfl
  | cons v vs ih =>
    show ((wipeR ρ vs).set v .un).length = _
    rw [List.length_set, ih]
theorem restore_eq {vs : List Nat} : ∀ (k : Nat) (ρ ρ' : Rho), ρ'.length = ρ.length → (∀ i, k + i ∉ vs → ρ'[i]? = ρ[i]?) → restore vs k ρ ρ' = ρ
  | _, [], ρ', h, _ => by
    cases ρ' <;> rfl
  | k, s :: ρ, [], h, _ => by simp at h
  | k, s :: ρ, t :: ρ', h, hi => by
    show (if vs.contains k then s else t) :: restore vs (k + 1) ρ ρ' = _
    rw [restore_eq (k + 1) ρ ρ' (by simpa using h) fun i ni => by
      have := hi (i + 1) (by rw [← Nat.add_assoc, Nat.add_right_comm]; exact ni)
      simpa using this]
    by_cases c : vs.contains k = true
    · rw [if_pos c]
    · rw [if_neg c]
      have := hi 0 (by simpa using c)
      have e : t = s := by simpa using this
      rw [e]
def kLc (vs : List Nat) (g : D → M Unit) (mt : M Bool) (me : M D) (ds : List D) : M Vl := mLc vs (mpure ds) g mt me
theorem p_lc (vs : List Nat) (mi : M (List D)) (g : D → M Unit) (mt : M Bool) (me : M D) : mLc vs mi g mt me ρ = (mi ρ).bind (kLc vs g mt me) := (rfl)
/-- a comprehension that reads alone: what it makes -/
theorem lc_eq {vs : List Nat} {g : D → M Unit} {mt : M Bool} {me : M D} {ds : List D} (f : D → Option D) (hw : wipeOk ρ vs = true) (hl : ds.length ≤ 16777216)
    (h : ∀ d ∈ ds, Wq (g d (wipeR ρ vs)) fun _ ρ1 => Wq (mt ρ1) fun k ρ2 => whB k (f d = none ∧ wipeR ρ2 vs = wipeR ρ vs) (Wq (me ρ2) fun y ρ3 => f d = some y ∧ wipeR ρ3 vs = wipeR ρ vs))
    : kLc vs g mt me ds ρ = .ok (.nw (.lst (ds.filterMap f))) ρ := by
  obtain ⟨ys, ρ', e, rfl, w⟩ := lc_read f ds h ρ rfl
  have el : ρ'.length = ρ.length := by rw [← wipe_len (vs := vs) (ρ := ρ'), w, wipe_len]
  have er : restore vs 0 ρ ρ' = ρ := restore_eq 0 ρ ρ' el fun i ni => by
    rw [Nat.zero_add] at ni
    rw [← wipe_at (ρ := ρ') ni, w, wipe_at ni]
  show (if wipeOk ρ vs = true then match lcLoop vs g mt me ds ρ with | .ok ys ρ' => if lenOk ys.length = true ∧ ρ'.length = ρ.length then Out.ok (Vl.nw (D.lst ys)) (restore vs 0 ρ ρ') else .no | _ => .no else .no) = _
  rw [if_pos hw, e]
  show (if _ then _ else _) = _
  rw [if_pos ⟨decide_eq_true (Nat.le_trans (List.length_filterMap_le _ _) hl), el⟩, er]

/-! ### calls as equations -/
def callO2 (ars : List Ar) (ρ : Rho) : FOut → Out Vl
  | .ok r outs => .ok r (scat ars outs 0 ρ)
  | .ex d outs => .ex d (scat ars outs 0 ρ)
  | .no => .no
def callO1 (φ : Fn) (ars : List Ar) (ρ : Rho) : Option (List Sl) → Out Vl
  | some as => callO2 ars ρ (φ as)
  | none => .no
theorem p_callAr (φ : Fn) (ars : List Ar) (h : dist (refs ars) = true) : callAr φ ars ρ = callO1 φ ars ρ (gather ρ ars) := by
  unfold callAr callO1 callO2
  rw [if_pos h] <;> (cases gather ρ ars <;> rfl)
theorem p_callO1 (φ : Fn) (ars : List Ar) (as : List Sl) : callO1 φ ars ρ (some as) = callO2 ars ρ (φ as) := (rfl)
theorem p_callO2 (ars : List Ar) (r : Vl) (outs : List Sl) : callO2 ars ρ (.ok r outs) = .ok r (scat ars outs 0 ρ) := (rfl)
theorem p_refV (d : D) (as : List Ar) : refs (.v d :: as) = refs as := (rfl)
theorem p_refR (i : Nat) (as : List Ar) : refs (.r i :: as) = i :: refs as := (rfl)
theorem p_ref0 : refs [] = [] := (rfl)
def gaO : Option Sl → Option (List Sl) → Option (List Sl)
  | some s, some ss => some (s :: ss)
  | _, _ => none
theorem p_ga (a : Ar) (as : List Ar) : gather ρ (a :: as) = gaO (gath ρ a) (gather ρ as) := by
  show (match gath ρ a, gather ρ as with | some s, some ss => some (s :: ss) | _, _ => none) = _
  cases gath ρ a <;> cases gather ρ as <;> rfl
theorem p_ga0 : gather ρ [] = some [] := (rfl)
theorem p_gaO (s : Sl) (ss : List Sl) : gaO (some s) (some ss) = some (s :: ss) := (rfl)
theorem p_gaV (d : D) : gath ρ (.v d) = some (.fz d) := (rfl)
def lendO : Option Sl → Option Sl
  | some s => lend s
  | none => none
theorem p_gaR (i : Nat) : gath ρ (.r i) = lendO ρ[i]? := by
  unfold gath lendO
  rfl
theorem p_leF (d : D) : lendO (some (.fz d)) = some (.fz d) := (rfl)
theorem p_leL (d : D) : lendO (some (.lf d)) = some (.fz d) := (rfl)
theorem p_leO (d : D) : lendO (some (.ow d)) = some (.ln d) := (rfl)
theorem p_leN (d : D) : lendO (some (.ln d)) = some (.ln d) := (rfl)
def scS (s : Sl) : Option Sl → Sl
  | some o => backSl s o
  | none => s
theorem p_sc (ars : List Ar) (outs : List Sl) (k : Nat) (s : Sl) (ρ : Rho) : scat ars outs k (s :: ρ) = scS s (findR k ars outs) :: scat ars outs (k + 1) ρ := by
  show (match findR k ars outs with | some o => backSl s o | none => s) :: _ = _
  cases findR k ars outs <;> rfl
theorem p_sc0 (ars : List Ar) (outs : List Sl) (k : Nat) : scat ars outs k [] = [] := (rfl)
theorem p_scN (s : Sl) : scS s none = s := (rfl)
theorem p_scFs (d : D) (o : Sl) : scS (.fz d) (some o) = .fz d := by cases o <;> rfl
theorem p_scLs (d : D) (o : Sl) : scS (.lf d) (some o) = .lf d := by cases o <;> rfl
theorem p_scOn (d e : D) : scS (.ow d) (some (.ln e)) = .ow e := (rfl)
theorem p_scOl (d e : D) : scS (.ow d) (some (.lf e)) = .fz e := (rfl)
theorem p_scNn (d e : D) : scS (.ln d) (some (.ln e)) = .ln e := (rfl)
theorem p_scNl (d e : D) : scS (.ln d) (some (.lf e)) = .lf e := (rfl)
theorem p_fiR (i j : Nat) (as : List Ar) (o : Sl) (os : List Sl) : findR i (.r j :: as) (o :: os) = bif i == j then some o else findR i as os := by
  show (if i = j then _ else _) = _
  by_cases h : i = j
  · subst h
    simp
  · rw [if_neg h, beq_false_of_ne h]
    rfl
theorem p_fiV (i : Nat) (d : D) (as : List Ar) (o : Sl) (os : List Sl) : findR i (.v d :: as) (o :: os) = findR i as os := (rfl)
theorem p_fi0 (i : Nat) (os : List Sl) : findR i [] os = none := (rfl)
/-- a def's end -/
def fin (as : List Sl) (P : Vl → List Sl → Prop) : Fl → Rho → Prop
  | .rt r, ρ => as.length ≤ ρ.length ∧ P r (outsOf as ρ)
  | .nx, ρ => as.length ≤ ρ.length ∧ P (.fz .non) (outsOf as ρ)
  | _, _ => False
theorem fw_fin {m : M Fl} {z : Nat} {as : List Sl} {P : Vl → List Sl → Prop} (h : Wq (m (as ++ List.replicate (z - as.length) .un)) (fin as P)) : Fw (fnSem m z as) P := by
  refine fw_of (h.mono fun f ρ q => ?_)
  cases f with
  | rt r => exact ⟨q.1, .inl ⟨r, rfl, q.2⟩⟩
  | nx => exact ⟨q.1, .inr ⟨rfl, q.2⟩⟩
  | bk => exact q.elim
  | ct => exact q.elim
theorem fin_rt (as : List Sl) (P : Vl → List Sl → Prop) (r : Vl) : fin as P (.rt r) ρ = (as.length ≤ ρ.length ∧ P r (outsOf as ρ)) := (rfl)
theorem fin_nx (as : List Sl) (P : Vl → List Sl → Prop) : fin as P .nx ρ = (as.length ≤ ρ.length ∧ P (.fz .non) (outsOf as ρ)) := (rfl)
theorem ou_ln (d : D) (as : List Sl) (s : Sl) : outsOf (.ln d :: as) (s :: ρ) = s :: outsOf as ρ := (rfl)
theorem ou_fz (d : D) (as : List Sl) (s : Sl) : outsOf (.fz d :: as) (s :: ρ) = .fz d :: outsOf as ρ := (rfl)
theorem ou_0 : outsOf [] ρ = [] := by cases ρ <;> rfl
theorem at_0 {α : Type} (l : List α) : atI l 0 = l[0]? := by
  cases l with
  | nil => rfl
  | cons a l => exact atI_nat (j := 0) rfl
theorem at_1 {α : Type} (a b : α) (l : List α) : atI (a :: b :: l) 1 = some b := atI_nat (j := 1) rfl
theorem at_2 {α : Type} (a b c : α) (l : List α) : atI (a :: b :: c :: l) 2 = some c := atI_nat (j := 2) rfl
theorem at_3 {α : Type} (a b c d : α) (l : List α) : atI (a :: b :: c :: d :: l) 3 = some d := atI_nat (j := 3) rfl
theorem ixn {n : Nat} {i : Int} (h0 : 0 ≤ i) (h : i < n) : ixN n i = some i.toNat := by
  unfold ixN
  rw [if_pos h0, if_pos h]
end Ev

/-! EvQ: which data is shown and compared. -/
namespace Ev
open PySem PySem.Spec PyProof.Rows L2
mutual
def rsz : D → Nat
  | .non => 4
  | .bl _ => 5
  | .int _ => 1921
  | .str x => (reprText x).length
  | .lst l => rszs l + 4
  | .tup l => rszs l + 4
  | _ => 0
def rszs : List D → Nat
  | [] => 0
  | d :: l => rsz d + 2 + rszs l
end
mutual
/-- what repr takes without a look -/
def nice : D → Bool
  | .non => true
  | .bl _ => true
  | .int i => decide (i.natAbs.log2 < 1920)
  | .str x => true
  | .lst l => nices l
  | .tup l => nices l
  | _ => false
def nices : List D → Bool
  | [] => true
  | d :: l => nice d && nices l
end
mutual
def dep : D → Nat
  | .lst l => deps l + 1
  | .tup l => deps l + 1
  | _ => 0
def deps : List D → Nat
  | [] => 0
  | d :: l => max (dep d) (deps l)
end
theorem len_textFrom : ∀ (ts : List Str) (k : Nat) (acc : Str), (textFrom k acc ts).length ≤ acc.length + (ts.map fun t => t.length + 2).sum
  | [], k, acc => by
    show acc.length ≤ acc.length + 0
    omega
  | t :: r, k, acc => by
    have h := len_textFrom r (k + 1) (acc ++ (if k > 0 then ", " else "" : String) ++ t)
    have e : (acc ++ (if k > 0 then ", " else "" : String) ++ t).length = acc.length + (if k > 0 then 2 else 0) + t.length := by
      rw [strLen_append, strLen_append]
      split <;> rfl
    have e2 : (if k > 0 then 2 else 0) ≤ 2 := by split <;> omega
    show (textFrom (k + 1) (acc ++ (if k > 0 then ", " else "" : String) ++ t) r).length ≤ _
    rw [List.map_cons, List.sum_cons]
    omega
theorem len_piled : ∀ ts : List Str, piled ts = (ts.map fun t => t.length + 2).sum
  | [] => rfl
  | t :: r => by
    rw [piled_cons, len_piled r, List.map_cons, List.sum_cons]
    try omega
theorem len_tupleText (ts : List Str) : (tupleText ts).length ≤ 3 + (ts.map fun t => t.length + 2).sum := by
  unfold tupleText
  rw [strLen_append, strLen_append]
  have e1 : ((("(" : String) : Str)).length = 1 := rfl
  have e3 : (((if ts.length == 1 then ",)" else ")" : String) : Str)).length ≤ 2 := by split <;> decide
  rw [e1, ← len_piled]
  by_cases h : ts = []
  · subst h
    have : (Str.join ", " ([] : List Str)).length = 0 := rfl
    omega
  · have := join_length_add ts h
    omega
mutual
theorem nice_isP : ∀ d : D, nice d = true → isP d = true ∧ (toP d).showable = true ∧ (toP d).hasDict = false ∧ (toP d).depth ≤ dep d ∧ (toP d).shown.length ≤ rsz d
  | .non, _ => ⟨rfl, by simp [toP, PyData.showable], by simp [toP, PyData.hasDict], by simp [toP, PyData.depth], by simp [toP, PyData.shown, rsz]; decide⟩
  | .bl b, _ => ⟨rfl, by simp [toP, PyData.showable], by simp [toP, PyData.hasDict], by simp [toP, PyData.depth], by cases b <;> simp [toP, PyData.shown, rsz] <;> decide⟩
  | .int i, h => by
    have h : decide (i.natAbs.log2 < 1920) = true := by simpa [nice] using h
    refine ⟨rfl, by simpa [toP, PyData.showable] using h, by simp [toP, PyData.hasDict], by simp [toP, PyData.depth], ?_⟩
    rw [toP, PyData.shown, rsz]
    exact int_text_len_1921 (of_decide_eq_true h)
  | .str x, _ => ⟨rfl, by simp [toP, PyData.showable], by simp [toP, PyData.hasDict], by simp [toP, PyData.depth], by simp [toP, PyData.shown, rsz]⟩
  | .lst l, h => by
    obtain ⟨h1, h2, h3, h4, h5⟩ := nices_isP l (by simpa [nice] using h)
    refine ⟨by simpa [isP] using h1, by simpa [toP, PyData.showable] using h2, by simpa [toP, PyData.hasDict] using h3, by simpa [toP, PyData.depth, dep] using h4, ?_⟩
    rw [toP, PyData.shown, rsz]
    unfold listText
    rw [strLen_append]
    have := len_textFrom (PyData.shownAll (toPs l)) 0 "["
    have e1 : ((("[" : String) : Str)).length = 1 := rfl
    have e2 : ((("]" : String) : Str)).length = 1 := rfl
    omega
  | .tup l, h => by
    obtain ⟨h1, h2, h3, h4, h5⟩ := nices_isP l (by simpa [nice] using h)
    refine ⟨by simpa [isP] using h1, by simpa [toP, PyData.showable] using h2, by simpa [toP, PyData.hasDict] using h3, by simpa [toP, PyData.depth, dep] using h4, ?_⟩
    rw [toP, PyData.shown, rsz]
    have := len_tupleText (PyData.shownAll (toPs l))
    omega
  | .dic _, h => by simp [nice] at h
  | .dct _, h => by simp [nice] at h
  | .scr _, h => by simp [nice] at h
  | .gl _, h => by simp [nice] at h
  | .ty _, h => by simp [nice] at h
  | .obj _ _, h => by simp [nice] at h
  | .exc _ _, h => by simp [nice] at h
theorem nices_isP : ∀ l : List D, nices l = true → isPs l = true ∧ PyData.showableAll (toPs l) = true ∧ PyData.hasDictAll (toPs l) = false ∧ PyData.depthAll (toPs l) ≤ deps l ∧ ((PyData.shownAll (toPs l)).map fun t => t.length + 2).sum ≤ rszs l
  | [], _ => ⟨rfl, by simp [toPs, PyData.showableAll], by simp [toPs, PyData.hasDictAll], by simp [toPs, PyData.depthAll], by simp [toPs, PyData.shownAll, rszs]⟩
  | d :: l, h => by
    have h : nice d = true ∧ nices l = true := by simpa [nices] using h
    obtain ⟨h1, h2, h3, h4, h5⟩ := nices_isP l h.2
    obtain ⟨g1, g2, g3, g4, g5⟩ := nice_isP d h.1
    refine ⟨by simp [isPs, g1, h1], by simp [toPs, PyData.showableAll, g2, h2], by simp [toPs, PyData.hasDictAll, g3, h3], ?_, ?_⟩
    · simp only [toPs, PyData.depthAll, deps]
      omega
    · simp only [toPs, PyData.shownAll, rszs, List.map_cons, List.sum_cons]
      omega
end
def shw (d : D) : Str := (toP d).shown
theorem p_repr {d : D} (h : nice d = true) (h2 : dep d ≤ 64) (h3 : rsz d ≤ 16777216) : bRepr [d] = some (.fz (.str (shw d))) := by
  obtain ⟨h1, g2, g3, g4, g5⟩ := nice_isP d h
  have e : reprD d = some (.fz (.str (shw d))) := by
    unfold reprD showOk
    rw [h1, g2, g3, decide_eq_true (Nat.le_trans g4 h2), show lenOk (toP d).shown.length = true from decide_eq_true (Nat.le_trans g5 h3)]
    rfl
  cases d with
  | dic l => simp [nice] at h
  | _ => exact e
theorem p_repr0 : bRepr [.dic []] = some (.fz (.str (PyData.shown (.dict [])))) := rfl
theorem shP_ints (cs : List Int) : shP (.lst (cs.map .int)) = true := by
  have k : ∀ cs : List Int, isPs (cs.map .int) = true ∧ PyData.canLayAll0 (toPs (cs.map .int)) = true ∧ PyData.depthAll (toPs (cs.map .int)) ≤ 0 := by
    intro cs
    induction cs with
    | nil => exact ⟨rfl, by simp [toPs, PyData.canLayAll0], by simp [toPs, PyData.depthAll]⟩
    | cons c cs ih =>
      obtain ⟨h1, h2, h3⟩ := ih
      refine ⟨by simpa [isPs, isP] using h1, by simpa [toPs, toP, PyData.canLayAll0, PyData.canLay0] using h2, ?_⟩
      simp only [List.map_cons, toPs, toP, PyData.depthAll, PyData.depth]
      omega
  obtain ⟨h1, h2, h3⟩ := k cs
  unfold shP SeqAt.shaped
  rw [show isP (.lst (cs.map .int)) = true by simpa [isP] using h1, show (toP (.lst (cs.map .int))).canLay0 = true by simpa [toP, PyData.canLay0] using h2]
  simp only [toP, PyData.depth, Bool.true_and]
  exact decide_eq_true (by omega)
theorem eqv_ints_nil (cs : List Int) : PyData.eqv (toP (.lst (cs.map .int))) (toP (.lst [])) = decide (cs = []) := by
  cases cs with
  | nil => simp [toP, toPs, PyData.eqv, PyData.eqvAll]
  | cons c cs => simp [toP, toPs, PyData.eqv, PyData.eqvAll]
theorem p_eqNil (cs : List Int) : eqA (.lst (cs.map .int)) (.lst []) = some (.fz (.bl (decide (cs = [])))) := by
  show cEq _ _ = _
  unfold cEq
  rw [shP_ints, show shP (.lst []) = true from shP_ints [], eqv_ints_nil]
  rfl
theorem p_neNil (cs : List Int) : neA (.lst (cs.map .int)) (.lst []) = some (.fz (.bl (!decide (cs = [])))) := by
  show cNe _ _ = _
  unfold cNe
  rw [shP_ints, show shP (.lst []) = true from shP_ints [], eqv_ints_nil]
  rfl
end Ev

/-! EvR: statements that are not reached. -/
namespace Ev
open PySem PySem.Spec PyProof.Rows L2
/-- no meaning: whoever reckons must show that it is not reached -/
def deadM : M Fl := fun _ => .no
theorem SS.dead {X : Cx} {W : WX} {G : Gc} {L : Lt} {st : Stmt} : SS X W G L st deadM := ⟨fun _ _ _ => False, ⟨fun _ _ _ _ _ _ h => h.elim⟩, fun _ _ _ h => h.elim⟩
section
variable {X : Cx} {W : WX} {G : Gc} {L : Lt} {e a b : Expr} {pos : Pos} {c c0 c1 : Cf} {es : List Expr}
theorem VRs.keep (s : Ok G L c) (x : Ex G c c1) (s1 : Ok G L c1) {vs : List V} {rs : List Vl} (h : VRs G c0 c vs rs) : VRs G c0 c1 vs rs := by
  induction h with
  | nil => exact .nil
  | cons r n _ ih => exact .cons (VR.keep r s x s1) n ih
theorem setSlots_len : ∀ {is : List Nat} {rs : List Vl} {ρ : Rho}, setSlots is rs ρ ≠ .no → rs.length = is.length
  | [], [], _, _ => rfl
  | [], _ :: _, _, h => absurd rfl h
  | _ :: _, [], _, h => absurd rfl h
  | i :: is, r :: rs, ρ, h => by
    have h : (setSlot i r ρ).bind (fun _ => setSlots is rs) ≠ .no := h
    cases es : setSlot i r ρ with
    | no =>
      rw [es] at h
      exact absurd rfl h
    | ex d ρ' =>
      unfold setSlot at es
      split at es <;> cases es
    | ok u ρ' =>
      rw [es] at h
      rw [List.length_cons, List.length_cons, setSlots_len (ρ := ρ') h]
theorem VRs.length {vs : List V} {rs : List Vl} (h : VRs G c c1 vs rs) : vs.length = rs.length := by
  induction h with
  | nil => rfl
  | cons _ _ _ ih => rw [List.length_cons, List.length_cons, ih]
/-- several names told at once through a tuple that is laid between -/
theorem parT_spec {is : List Nat} {m : M (List Vl)} {t : TA} {D : Ends} (q : ∀ (c : Cf) (Q : List V → Hp → Prop), Ok G L c → Req G L W c (m c.ρ) (fun rs c' => ∀ vs, VRs G c c' vs rs → Q vs c'.H) → t c.σ c.H Q)
    (s : Ok G L c) (h : ReqS G L W c (evPar is m c.ρ) (EndsP G D c)) {Qt : List V → Hp → Prop} (hQ : ∀ vs H1, vs.length = is.length → (∀ p, H1 p = none → D.nx (sets c.σ is vs) (upd H1 p (.tup vs))) → Qt vs H1) : t c.σ c.H Qt := by
  refine q c _ s ?_
  have h : ReqS G L W c ((m c.ρ).bind fun rs => M.bind (setSlots is rs) fun _ => mpure Fl.nx) (EndsP G D c) := h
  cases em : m c.ρ with
  | no => rw [em] at h; exact h
  | ex d ρ => rw [em] at h; exact ReqS.toE (o := .ex d ρ) (P := EndsP G D c) h
  | ok rs ρ1 =>
    rw [em] at h
    intro F1 H1 x1 s1 vs rv
    have h2 : ReqS G L W c (setSlots is rs ρ1) (fun a c1 => ReqS G L W c1 (Out.ok Fl.nx c1.ρ) (EndsP G D c)) := ReqS.bind h
    have hl : rs.length = is.length := setSlots_len fun z => by
      rw [z] at h2
      exact h2.elim
    refine hQ vs H1 (rv.length.trans hl) fun p np => ?_
    have y : Ex G ⟨c.σ, ρ1, F1, H1⟩ ⟨c.σ, ρ1, F1, upd H1 p (.tup vs)⟩ := Ext.grow s1 np (fun _ z => z) fun _ z => .inl z
    have s2 : Ok G L ⟨c.σ, ρ1, F1, upd H1 p (.tup vs)⟩ := StR.grow s1 np (fun _ z => z) fun _ z => .inl z
    obtain ⟨ρ', h3, s3⟩ := setSlots_req (c := ⟨c.σ, ρ1, F1, upd H1 p (.tup vs)⟩) s2 (Ext.trans x1 y) (rv.keep s1 y s2) h2
    exact ReqS.here (r := Fl.nx) h3 s3
theorem SS.parT2 (i j : Nat) {x y : Str} {px py pt : Pos} {kt k2 : Nat} {pt2 : Pos} {m : M (List Vl)} (hc : X.calm = true) (hN : X.N.Nodup) (hi : X.N[i]? = some x) (hj : X.N[j]? = some y)
    (hx : Loc X.env.scope x) (hy : Loc X.env.scope y) (fx : X.fn x = true ∨ X.env.scope.names.lookup x = some .local) (fy : X.fn y = true ∨ X.env.scope.names.lookup y = some .local) (ha : SV X W G L [a, b] m)
    (hs : swapsWithSole [.Tuple [.Name x px, .Name y py] kt pt] (.Tuple [a, b] k2 pt2) pos.line X.env = pure false := by rfl) (hw : swappedStores [.Tuple [.Name x px, .Name y py] kt pt] (.Tuple [a, b] k2 pt2) X.env = pure none := by rfl)
    (h1 : (assignEach [.Tuple [.Name x px, .Name y py] kt pt] X.env).map (·.2) = [assign (.Tuple [.Name x px, .Name y py] kt pt) X.env] := by rfl) :
    SS X W G L (.Assign [.Tuple [.Name x px, .Name y py] kt pt] (.Tuple [a, b] k2 pt2) pos) (evPar [i, j] m) := by
  obtain ⟨t, p, q⟩ := ha.ex
  refine ⟨_, ps_asg (pe_tup p) (pg_tup hc (pgs_cons (pg_name hN hi hx fx) (pgs_cons (pg_name hN hj hy fy) pgs_nil)) rfl rfl) hs hw h1, fun c D s h => ?_⟩
  refine parT_spec q s h fun vs H1 hl hd => ?_
  match vs, hl with
  | [v, w], _ => exact ⟨show (2 : Nat) ≤ sizeLine by decide, fun p np => ⟨p, [v, w], rfl, .inl (.inl upd_same), rfl, v, [w], rfl, w, [], rfl, rfl, hd p np⟩⟩
/-- len of a name: its object stays its own -/
def lenO (ρ : Rho) : Option D → Out Vl
  | some d => liftO (bLen [d]) ρ
  | none => .no
def evLenS (i : Nat) : M Vl := fun ρ => lenO ρ (slotD ρ i)
theorem SE.lenS (i : Nat) {x : Str} {p q : Pos} (hg : Gl X "len") (hm : X.mg "len" = none) (hN : X.N[i]? = some x) (hv : Vis X.env.scope x) (hd : (x == ("__debug__" : Str)) = false := by decide) (hcd : (x == ("__classdict__" : Str)) = false := by decide)
    (he : starEach [.Name x q] X.env = (false, eval (.Name x q) X.env) :: starEach [] X.env := by rfl) (hpl : (backTo pos (starEach [] X.env)).any (·.1) = false := by rfl) : SE X W G L (.Call (.Name "len" p) [.Name x q] [] pos) (evLenS i) := by
  refine ⟨_, pe_callB call_len hg hm bt_len (pa_cons (pe_var hN hv hd hcd) pa_nil he) (by decide) (by decide) he hpl, fun c Q s h => ?_⟩
  have h : Req G L W c (lenO c.ρ (slotD c.ρ i)) _ := h
  cases es : slotD c.ρ i with
  | none =>
    rw [es] at h
    exact h.elim
  | some d =>
    rw [es] at h
    obtain ⟨v, h1, h2⟩ := look (x := x) s es
    obtain ⟨w, er, hr⟩ := liftO_req (show Req G L W c (liftO (bLen [d]) c.ρ) _ from h)
    obtain ⟨n, en, rfl⟩ := Option.map_eq_some_iff.mp (show (dLen d).map _ = some w from er)
    refine ⟨v, h1, v, n, rfl, ?_, Req.here hr s _ (.int _)⟩
    rcases h2 with h2 | ⟨a, rfl, h2⟩
    · exact dLen_ok h2 en
    · cases d with
      | lst l =>
        obtain ⟨_, xs, q, ll⟩ := h2
        cases en
        exact .inl ⟨_, .inl (.inl q), ll.length.symm⟩
      | tup l => exact h2.elim
      | str l => exact h2.elim
      | _ => cases en
theorem p_lenS (i : Nat) {ρ : Rho} : evLenS i ρ = lenO ρ (slotD ρ i) := (rfl)
theorem p_lenO (d : D) {ρ : Rho} : lenO ρ (some d) = liftO (bLen [d]) ρ := (rfl)
end
/-! ### loops by place -/
theorem for_idx {g : D → M Unit} {mb : M Fl} {P : Fl → Rho → Prop} (l : List D) (I : Nat → Rho → Prop)
    (step : ∀ k d ρ, l[k]? = some d → I k ρ → Wq (g d ρ) fun _ ρ1 => Wq (mb ρ1) fun f ρ2 => lpE f (I (k + 1) ρ2) (P .nx ρ2) (fun r => P (.rt r) ρ2))
    (last : ∀ ρ, I l.length ρ → P .nx ρ) (ρ : Rho) (h : I 0 ρ) : Wq (loopD g mb l ρ) P := by
  refine for_inv (I := fun ds ρ => ∃ k, k + ds.length = l.length ∧ ds = l.drop k ∧ I k ρ) (fun d ds ρ hI => ?_) (fun ρ hI => ?_) l ρ ⟨0, by omega, rfl, h⟩
  · obtain ⟨k, hk, e, hi⟩ := hI
    have hd : l[k]? = some d := by
      have := congrArg (fun z => z[0]?) e
      simpa [List.getElem?_drop] using this.symm
    refine (step k d ρ hd hi).mono fun u ρ1 q => q.mono fun f ρ2 z => ?_
    have nx : I (k + 1) ρ2 → ∃ k, k + ds.length = l.length ∧ ds = l.drop k ∧ I k ρ2 := fun h2 => ⟨k + 1, by rw [List.length_cons] at hk; omega, by
      have := congrArg List.tail e
      simpa [List.tail_drop] using this, h2⟩
    cases f with
    | nx => exact nx z
    | ct => exact nx z
    | bk => exact z
    | rt r => exact z
  · obtain ⟨k, hk, e, hi⟩ := hI
    rw [List.length_nil, Nat.add_zero] at hk
    rw [hk] at hi
    exact last ρ hi
theorem rangeL_at {n k : Nat} {d : D} (h : (rangeL 0 n)[k]? = some d) : d = .int k ∧ k < n := by
  unfold rangeL at h
  rw [List.getElem?_map] at h
  cases e : (List.range n)[k]? with
  | none =>
    rw [e] at h
    cases h
  | some j =>
    rw [e] at h
    obtain ⟨hk, ej⟩ := List.getElem?_eq_some_iff.mp e
    rw [List.getElem_range] at ej
    subst ej
    rw [List.length_range] at hk
    refine ⟨?_, hk⟩
    have := Option.some.inj h
    rw [← this]
    show D.int (0 + (k : Int)) = _
    rw [Int.zero_add]
theorem rangeL_len {lo : Int} {n : Nat} : (rangeL lo n).length = n := by
  unfold rangeL
  rw [List.length_map, List.length_range]
/-- a loop over range(n) -/
theorem for_range {g : D → M Unit} {mb : M Fl} {P : Fl → Rho → Prop} (n : Nat) (I : Nat → Rho → Prop)
    (step : ∀ k ρ, k < n → I k ρ → Wq (g (.int k) ρ) fun _ ρ1 => Wq (mb ρ1) fun f ρ2 => lpE f (I (k + 1) ρ2) (P .nx ρ2) (fun r => P (.rt r) ρ2))
    (last : ∀ ρ, I n ρ → P .nx ρ) (ρ : Rho) (h : I 0 ρ) : Wq (loopD g mb (rangeL 0 n) ρ) P := by
  refine for_idx (rangeL 0 n) I (fun k d ρ hd hi => ?_) (fun ρ hi => last ρ (by rw [rangeL_len] at hi; exact hi)) ρ h
  obtain ⟨rfl, hk⟩ := rangeL_at hd
  exact step k ρ hk hi
theorem at_int {cs : List Int} {i : Int} {n : Nat} (e : i = (n : Nat)) (h : n < cs.length) : atI (cs.map D.int) i = some (.int (cs.getD n 0)) := by
  subst e
  refine atI_nat ?_
  rw [List.getElem?_map, List.getElem?_eq_getElem h, List.getD_eq_getElem?_getD, List.getElem?_eq_getElem h]
  rfl
theorem at_neg {α : Type} {l : List α} {i : Int} {j : Nat} (e : i = -(j : Int)) (h0 : 0 < j) (h : j ≤ l.length) : atI l i = l[l.length - j]? := by
  subst e
  have : ixN l.length (-(j : Int)) = some (l.length - j) := by
    unfold ixN
    rw [if_neg (by omega), if_pos (by omega)]
    congr 1
    omega
  unfold atI
  rw [this]
  rfl
end Ev

/-! EvS: own exceptions: made, raised. -/
namespace Ev
open PySem PySem.Spec PyProof.Rows L2
/-- Base.__init__(self, ..), Base a class of the program that has ValueError's -/
theorem pe_baseInit {X : Cx} {ta : TA} {e : Expr} {es : List Expr} {b : Str} {CB : Addr} {mc : Value} {p1 p2 pos : Pos} {pl : Sem Bool} (hg : Gl X b) (hm : X.mg b = some (.ref CB))
    (hr : PySem.W.readsIn X.K CB mc = true) (ga : PySem.W.specialIn X.K (.ref CB) "__getattribute__" = some (some (.builtin "type.__getattribute__")))
    (hv : PySem.W.findCls X.K (.ref CB) mc "__init__" = some (.val (.builtin "ValueError.__init__"))) (ha : PA X (e :: es) ta)
    (hc : eval (.Call (.Attribute (.Name b p1) "__init__" p2) (e :: es) [] pos) X.env = (do
      let ov ← eval (.Name b p1) X.env
      standAt p2.atName
      let (f, first) ← holding [ov] (getMethod ov "__init__" pl)
      callWith pos f first (backTo pos (starEach (e :: es) X.env)) (backToKw pos (keywordEach [] X.env))) := by rfl)
    (hdb : (b == ("__debug__" : Str)) = false := by decide) (he : starEach (e :: es) X.env = (false, eval e X.env) :: starEach es X.env := by rfl) (hpl : (backTo pos (starEach es X.env)).any (·.1) = false := by rfl) :
    PE X (.Call (.Attribute (.Name b p1) "__init__" p2) (e :: es) [] pos) (tVeI X.K ta) := by
  refine ⟨fun pins s σ H Q I h => ?_⟩
  refine PySem.W.methodCall_KW (ld_glob I hg hm ?_ hdb) hc
  refine PySem.W.method_cls I.kIn ga (PySem.W.cls_value I.kIn hr hv (by decide +kernel) ?_)
  show wpAny _ _ (callWith pos (Value.builtin "ValueError.__init__") [] (backTo pos (starEach (e :: es) X.env)) []) _ _ _
  refine PyProof.Rows.callWith_method1 (thn (ha.run pos pins _ σ H _ (I.tok _) h) fun us s1 hu => ?_) he hpl
  obtain ⟨vs, H1, I1, r1, a, C, ws, ev, hl, T, ea, q⟩ := hu
  subst ev
  cases r1 with
  | @cons _ u0 _ ur ra rw' =>
    obtain rfl : u0 = Value.ref a := ra
    have hlen : ur.length ≤ sizeLine := by
      have := Paired.length rw'
      have z : 1000 ≤ sizeLine := by decide
      omega
    exact oinit_ok T I1 ea hlen fun s' J => ⟨.non, H1, J, rfl, q⟩
/-- what such an init does: one field is told -/
def spOne (K : PySem.W.Frag) (f : Str) : Sp := fun vs H Q _ => ∃ (a C : Addr) (y : V), vs = [.ref a, y] ∧ OexC K C ∧ PySem.W.findIn K (.ref C) f = some none ∧ H a = some (exo a C none) ∧
  ∀ d, H d = none → d ≠ a → Q .non (upd (upd H d (exd d [(f, y)])) a (exo a C (some d)))
section
variable {X : Cx} {W : WX} {G : Gc} {L : Lt} {e a b : Expr} {pos : Pos} {c c0 c1 : Cf} {es : List Expr}
/-- raise C(e): C has one field -/
def mRaise (x f : Nat) (m : M D) : M Fl := m.bind fun d ρ => .ex (.exc x [(f, d)]) ρ
theorem SS.raise1 {CX : CXT} {x f : Nat} {cn : Str} {C fI : Addr} {k : Nat} {fd : FuncData} {ps : List Str} {m : M D} {p p2 pos' : Pos} (hc : X.calm = true) (tk : Takes X W) (T : OexC X.K C) (eg : G.N.gm x = some (.ref C))
    (hno : PySem.W.findIn X.K (.ref C) (G.N.fn f) = some none) (iC : PySem.W.findIn X.K (.ref C) "__init__" = some (some (.ref fI))) (tI : PySem.W.typeIn X.K (.ref fI) = some (.type "function"))
    (F1 : FnOk X.prog X.w X.K X.mg X.base CX k fI fd ps (spOne X.K (G.N.fn f))) (hr : Room (k + 1) X.A) (hb : L2.Binds X.K fd ps []) (hx : Passes CX X (fun _ _ _ => False)) (hg : Gl X cn) (hm : X.mg cn = some (.ref C)) (he : SD X W G L e m)
    (hdb : (cn == ("__debug__" : Str)) = false := by decide) (hs : starEach [e] X.env = (false, eval e X.env) :: starEach [] X.env := by rfl) (hpl : (backTo p2 (starEach [] X.env)).any (·.1) = false := by rfl) :
    SS X W G L (.Raise (some (.Call (.Name cn p) [e] [] p2)) none pos') (mRaise x f m) := by
  obtain ⟨t, pt, q⟩ := he.ex
  refine ⟨_, ps_raise hc tk (pmk_oex T iC tI F1 hr hb .nil hx hg hm (pa_cons pt pa_nil hs) hdb hs hpl), fun c D s h => ?_⟩
  refine q c _ s (h.bindE.imp fun d c1 _ e1 x1 s1 h1 v rv => ?_)
  refine ⟨by show (1 : Nat) ≤ 1000; decide, fun a na => ⟨a, C, v, rfl, T, hno, upd_same, fun d2 nd2 ne => ?_⟩⟩
  have n2 : c1.H d2 = none := by
    rw [upd_ne ne] at nd2
    exact nd2
  have eH : upd (del (upd (upd (upd c1.H a (exo a C none)) d2 (exd d2 [(G.N.fn f, v)])) a (exo a C (some d2))) a) d2 (.xd [(G.N.fn f, v)]) = upd c1.H d2 (.xd [(G.N.fn f, v)]) := by
    funext z
    by_cases hz : z = d2
    · rw [hz, upd_same, upd_same]
    · rw [upd_ne hz, upd_ne hz]
      by_cases hza : z = a
      · rw [hza, del_same, na]
      · rw [del_ne hza, upd_ne hza, upd_ne hz, upd_ne hza]
  refine ⟨rfl, d2, [(G.N.fn f, v)], upd_same, by rw [upd_ne ne, upd_same], n2, ?_⟩
  show W (.ref C) (some d2) c.σ _
  rw [eH, ← e1]
  have y : Ex G c1 ⟨c1.σ, c1.ρ, plus c1.F d2, upd c1.H d2 (.xd [(G.N.fn f, v)])⟩ := Ext.grow s1 n2 (fun _ z => .inl z) fun _ z => z
  exact h1 c1.σ (plus c1.F d2) _ y (StR.grow s1 n2 (fun _ z => .inl z) fun _ z => z) _ _ ⟨C, d2, _, eg, rfl, rfl, .inr rfl, upd_same, .cons (y.rp s1 rv) .nil⟩
end
/-- an init: the base's init is called, one field is told -/
theorem ok_initOne {P : Program} {w : World} {K : PySem.W.Frag} {mg : Str → Option Value} {base : Heap} {qual : Str} {st : Stmt} {fI CB : Addr} {fd : FuncData} {k : Nat} {b y fn : Str} {mc : Value} {tx : Str} {j : Nat} {p1 p2 p3 p4 p5 p6 p7 p8 p9 p10 : Pos} {pl : Env → Sem Bool}
    (F : Fun K "__init__" qual st fI fd) (S : FnScope ["self", y] ["self", y] (defScope st))
    (hbody : defBody st = [.Expr (.Call (.Attribute (.Name b p1) "__init__" p2) [.Name "self" p3, .Constant (.str tx) j p4] [] p5) p6, .Assign [.Attribute (.Name "self" p7) fn p8] (.Name y p9) p10])
    (hc : ∀ env : Env, eval (.Call (.Attribute (.Name b p1) "__init__" p2) [.Name "self" p3, .Constant (.str tx) j p4] [] p5) env = (do
      let ov ← eval (.Name b p1) env
      standAt p2.atName
      let (f, first) ← holding [ov] (getMethod ov "__init__" (pl env))
      callWith p5 f first (backTo p5 (starEach [.Name "self" p3, .Constant (.str tx) j p4] env)) (backToKw p5 (keywordEach [] env))))
    (hb : (defScope st).names.lookup b = some .globalImplicit) (hdb : (b == ("__debug__" : Str)) = false) (hy : (defScope st).names.lookup y = some .local) (hs : (defScope st).names.lookup ("self" : Str) = some .local)
    (hyd : (y == ("__debug__" : Str)) = false) (hyc : (y == ("__classdict__" : Str)) = false)
    (gB : mg b = some (.ref CB)) (hr : PySem.W.readsIn K CB mc = true) (ga : PySem.W.specialIn K (.ref CB) "__getattribute__" = some (some (.builtin "type.__getattribute__")))
    (hv : PySem.W.findCls K (.ref CB) mc "__init__" = some (.val (.builtin "ValueError.__init__"))) :
    FnOk P w K mg base CX0 (k + 1) fI fd ["self", y] (spOne K fn) := by
  refine F.ok S (fun vs H Q E h => ?_) (fun cdv A outer s H vs Q E hr2 h => ?_)
  · obtain ⟨a, C, v, rfl, _⟩ := h
    rfl
  · obtain ⟨a, C, v, rfl, T, hno, ea, q⟩ := h
    rw [hbody]
    refine ⟨_, pss_cons (ps_expr (pe_baseInit (X := (cxOf CX0 P w K mg base ["self", y] qual (defScope st) fI cdv A outer s H E).nox) hb gB hr ga hv (pa_cons (pe_var (i := 0) rfl (.inl hs)) (pa_cons pe_str pa_nil)) (hc _) hdb)) (pss_one (ps_ost (pe_var (i := 0) rfl (.inl hs)) (pe_var (i := 1) rfl (.inl hy) hyd hyc))), ?_⟩
    refine ⟨.ref a, rfl, a, C, [.str tx], rfl, by show (1 : Nat) ≤ 1000; decide, T, ea, v, rfl, .ref a, rfl, a, C, rfl, T, hno, .inl ⟨ea, fun dx nd ne => ?_⟩⟩
    exact q dx nd ne
end Ev

/-! EvT: try .. except X as e: kept = e; the exception is known from then on. -/
namespace Ev
open PySem PySem.Spec PyProof.Rows L2
theorem excH_ok {P : Program} {w : World} {H : Hp} {h : Heap} {a C : Addr} {d : Option Addr} {oe : Obj} {vs : Array Value} (e : h.get? a = some oe) (z : Zc (.ref C) d oe) (hd : oe.data = .fields vs) : ObjOk P w H h a (ExcH a C d) :=
  ⟨⟨oe, vs, e, z, hd⟩, ⟨oe, e⟩, fun h1 h2 q k => by
    obtain ⟨o1, v1, e1, z1, d1⟩ := q
    exact ⟨o1, v1, k _ e1, z1, d1⟩⟩
section
variable {X : Cx} {pins : List (Addr × Obj)} {σ : L2.St} {H : Hp} {s : Shared}
/-- a pinned exception, new against the def's entry, is taken among the known objects -/
theorem adopt {a C : Addr} {d : Option Addr} {oe : Obj} {vs : Array Value} (I : Inv X ((a, oe) :: pins) σ H s) (hz : Zc (.ref C) d oe) (hd : oe.data = .fields vs) (n0 : X.s_0.heap.get? a = none) (np : ∀ p ∈ X.pn ++ pins, p.1 ≠ a) :
    Inv X pins σ (upd H a (ExcH a C d)) s := by
  obtain ⟨ha, na, nL, nF, nc⟩ := I.pin (a, oe) (List.mem_append_right _ List.mem_cons_self)
  have ha : s.heap.get? a = some oe := ha
  have na : H a = none := na
  have nL : a ≠ X.env.locals := nL
  have ne0 : ∀ b o, X.s_0.heap.get? b = some o → b ≠ a := fun b o e z => by
    rw [z, n0] at e
    cases e
  have cellNe : ∀ x c, X.env.cells.lookup x = some c → c ≠ a := fun x c e z => by
    obtain ⟨v, o, ho, hcell⟩ := I.cell x c e
    rw [z, ha] at ho
    cases ho
    exact nc _ hcell
  refine ⟨I.ok, I.os, I.bare, ⟨I.base.keep, I.base.slot, fun b o e n hx => ?_, I.base.there, fun b xs e => ?_, fun b o u e => ?_, fun b ps e => ?_⟩, I.loc, I.cell, ?_, fun x c e => ?_, fun p hp => ?_, fun b u e => ?_, I.len⟩
  · rw [upd_ne (ne0 b o e)]
    exact I.base.free b o e n hx
  · have q := I.base.tups b xs e
    rw [upd_ne (ne_of_none q na)]
    exact q
  · have q := I.base.frzs b o u e
    rw [upd_ne (ne_of_none q na)]
    exact q
  · obtain ⟨more, q⟩ := I.base.tbls b ps e
    exact ⟨more, by rw [upd_ne (ne_of_none q na)]; exact q⟩
  · rw [upd_ne nL.symm]
    exact I.free
  · rw [upd_ne (cellNe x c e)]
    exact I.freeC x c e
  · have hp' : p ∈ X.pn ++ ((a, oe) :: pins) := by
      rcases List.mem_append.mp hp with z | z
      · exact List.mem_append_left _ z
      · exact List.mem_append_right _ (List.mem_cons_of_mem _ z)
    obtain ⟨q1, q2, q3, q4, q5⟩ := I.pin p hp'
    exact ⟨q1, by rw [upd_ne (np p hp)]; exact q2, q3, q4, q5⟩
  · by_cases hb : b = a
    · rw [hb, upd_same] at e
      cases e
      rw [hb]
      exact excH_ok ha hz hd
    · rw [upd_ne hb] at e
      exact (I.hok b u e).stay (fun c v _ q => q) (fun c q => by rw [upd_ne (ne_of_none q na)]; exact q) fun c xs q => by rw [upd_ne (ne_of_none q na)]; exact q
end
/-- what the clause 'except x as n: m = n' asks of an exception -/
def wKeep (K : PySem.W.Frag) (CS : Addr) (i j : Nat) (Wout : WX) (D : Ends) : WX := fun cls d σ H =>
  ∃ t, PySem.W.exmOne K cls (.ref CS) = some t ∧ (t = true → ∃ C dd, cls = .ref C ∧ d = some dd ∧ ∀ a, H a = none → D.nx ((σ.set j (some (.ref a))).set i none) (upd H a (ExcH a C (some dd)))) ∧ (t = false → Wout cls d σ H)
section
variable {X : Cx} {x n m : Str} {CS : Addr} {i j : Nat} {body : List Stmt} {np pn pm pa pos pos' : Pos} {tb : WX → TS} {Wout : WX}
theorem ps_try_keep (stk : X.stack = X.env :: X.outer) (frm : X.env.frame = some X.env.locals) (hN : X.N.Nodup) (hi : X.N[i]? = some n) (hj : X.N[j]? = some m) (hij : i ≠ j) (ln : X.env.kindOf n = some .local) (lm : X.env.scope.names.lookup m = some .local) (ln2 : X.env.scope.names.lookup n = some .local)
    (hex : X.ex = []) (hc : Names X x (.ref CS)) (tk : Takes X Wout) (dn : (n == ("__debug__" : Str)) = false) (dn2 : (n == ("__classdict__" : Str)) = false)
    (bd : ∀ (W : WX) (pn : List (Addr × Obj)) (xe : Value → Shared → Prop), Takes (X.tr pn xe) W → PassesOwn (model X.prog X.w) X.A X.env xe → PSs (X.tr pn xe) body (tb W))
    (hsw : swapsWith (.Name n pn) (some (.Name m pm)) pa.line X.env = pure false) :
    PS X (.Try body [.ExceptHandler (some (.Name x np)) (some n) [.Assign [.Name m pm] (.Name n pn) pa] pos'] [] [] pos) (fun D σ H => tb (wKeep X.K CS i j Wout D) D σ H) := by
  refine ⟨fun pins s σ H D I h => ?_⟩
  have frames : X.A.frames = some (X.env :: X.outer) := by rw [I.ok.frames, stk]
  have okX := I.ok
  refine wpAny_Try_except (wpAny_mono ((bd (wKeep X.K CS i j Wout D) (X.pn ++ pins) _ (fun u s' xx => ?_) PassesOwn.looking).run [] s σ H D (I.toTry _) h) (fun fl s1 hsp => ?_) fun _ _ z => z)
  · obtain ⟨a, B, sI, pins', σ1, H1, cls, d, rfl, J0, nb, up, sky, na, os, ag, t, ht, yes, no⟩ := xx
    have J : Inv X pins σ1 H1 sI := J0.ofTry okX
    have nB : B.get? a = none := by
      rcases sky with ⟨_, z, _⟩ | ⟨_, z, _⟩ | ⟨_, z, _⟩ <;> exact z
    have sky2 : Sky B (X.env :: X.outer) a (Zc cls d) X.env.locals s'.heap := by
      rw [← stk]
      exact sky
    show wpAny (model X.prog X.w) X.A (noteFrame (.ref a) X.env) _ _ _
    refine Sky.land Zc.steady frames frm sky2 fun h3 fl3 up3 => ?_
    have J3 : Inv X pins σ1 H1 { s' with heap := h3 } := J.landed nb fl3.1 (up.trans up3) os ag
    obtain ⟨o3, f3, g3, z3, d3⟩ := fl3.there
    have nfr : a ∉ frs (X.env :: X.outer) := fun hm => by
      obtain ⟨_, o, eo, hnf⟩ := fl3.2.2.1.mem hm
      rw [g3] at eo
      cases eo
      exact hnf _ d3
    have nS : a ∉ frs X.stack := by
      rw [stk]
      exact nfr
    have nL : a ≠ X.env.locals := fun z => nfr (List.mem_filterMap.mpr ⟨X.env, List.mem_cons_self, by rw [frm, z]⟩)
    have nF : a ∉ X.fs := fun hm => by
      obtain ⟨ev, he, q⟩ := List.mem_filterMap.mp hm
      exact nfr (List.mem_filterMap.mpr ⟨ev, List.mem_cons_of_mem _ he, q⟩)
    have nI : sI.heap.get? a = none := by
      cases q : sI.heap.get? a with
      | none => rfl
      | some o =>
        have z := nb a o q nS
        rw [nB] at z
        cases z
    have n0 : X.s_0.heap.get? a = none := by
      cases q : X.s_0.heap.get? a with
      | none => rfl
      | some o =>
        obtain ⟨o', z⟩ := J.base.there a o q (by rw [hex]; exact fun z => nomatch z)
        rw [nI] at z
        cases z
    have npin : ∀ p ∈ X.pn ++ pins, p.1 ≠ a := fun p hp z => by
      have q := (J.pin p hp).1
      rw [z, nI] at q
      cases q
    have S3 := J3.suite g3 d3 na nL nF
    have LT : PySem.W.Looks (model X.prog X.w) h3 (typeOf (.ref a)) cls := fun A Q E s k q => wpAny_typeOf_ref (k _ _ g3) (by rw [z3.1]; exact q)
    have LM := PySem.W.exm_one (M := model X.prog X.w) (J3.kIn) LT ht
    have name : ∀ {Q : Value → Shared → Prop} {E : Value → Shared → Prop}, Q (.ref CS) { s' with heap := h3 } → wpAny (model X.prog X.w) (X.A.mark (some (.ref a))) (eval (.Name x np) X.env) Q E { s' with heap := h3 } := fun {Q E} q => by
      obtain ⟨hg, hdbg, hm | ⟨hm, hv, hnn⟩⟩ := hc
      · exact ld_glob (X := X.suite a ((a, o3) :: (X.pn ++ pins))) S3 hg hm q hdbg
      · exact ld_blt (X := X.suite a ((a, o3) :: (X.pn ++ pins))) S3 hg hm hv q hnn hdbg
    refine wpAny_handleBy_cons (codeAny_handlers_test ?_) (by intro q; cases q)
    refine name (LM.here ?_)
    cases t with
    | false =>
      show wpAny (model X.prog X.w) X.A (handleBy (.ref a) X.env []) _ _ _
      refine wpAny_handleBy_nil ?_
      obtain ⟨_, _, _, oA, fA, tA, oB, fB, w1, w2, w3, w4, w5⟩ := id fl3
      unfold PySem.passOn
      refine wpAny_bind (wpAny_field w1 w3 w4 ?_)
      rw [if_neg (by simp : ¬ (Value.ref tA == Value.none) = true)]
      have leave : wpAny (model X.prog X.w) X.A (setFlight (.ref a) X.env.frame) (fun _ s4 => wpAny (model X.prog X.w) X.A (throw (.ref a) : Sem Flow) (SP X pins D) X.xe s4) X.xe { s' with heap := h3 } := by
        rw [frm]
        refine HandSPX.setFlight_upZ fl3 fun h4 hh4 up4 => wpAny_throw (tk _ _ ⟨a, B, sI, pins, σ1, H1, cls, d, rfl, J, nb, (up.trans up3).trans up4, .inr (.inr ?_), na, os, ag, no rfl⟩)
        rw [stk]
        exact hh4
      first
        | exact wpAny_bind (wpAny_pure (wpAny_bind leave))
        | exact wpAny_bind leave
    | true =>
      obtain ⟨C, dd, rfl, rfl, fin⟩ := yes rfl
      refine codeAny_handlers_suite_as (HandSPX.lands_againZ fl3 fun h4 fl4 up4 => ?_)
      have J4 : Inv X pins σ1 H1 { s' with heap := h4 } := J.landed nb fl4.1 ((up.trans up3).trans up4) os ag
      obtain ⟨o4, f4, g4, z4, d4⟩ := fl4.there
      have S4 := J4.suite g4 d4 na nL nF
      refine store_ok (X := X.suite a ((a, o4) :: (X.pn ++ pins))) (v := .ref a) S4 hN hi (.inl ln) rfl (fun s5 S5 => ?_) (.inr ln)
      have P : PSs (X.suite a ((a, o4) :: (X.pn ++ pins))) [.Assign [.Name m pm] (.Name n pn) pa] _ := pss_one (ps_set (i := j) hN hj (.inl lm) (pe_var (i := i) hi (.inl ln2) dn dn2) hsw (.inr lm))
      have hlt : i < σ1.length := by
        rw [J4.len]
        exact (List.getElem?_eq_some_iff.mp hi).1
      refine wpAny_mono (P.run [] s5 _ H1 { nx := fun σ' H' => σ' = (σ1.set i (some (.ref a))).set j (some (.ref a)) ∧ H' = H1, rt := fun _ _ => False, bk := fun _ _ => False, ct := fun _ _ => False } S5 ⟨.ref a, List.getElem?_set_self hlt, rfl, rfl⟩) (fun f s6 hsp => ?_) (fun _ _ z => False.elim z)
      cases f with
      | next =>
        obtain ⟨σ6, H6, S6, rfl, rfl⟩ := hsp
        have S7 : Inv X ((a, o4) :: pins) ((σ1.set i (some (.ref a))).set j (some (.ref a))) H6 s6 := ⟨okX, S6.os, S6.bare, S6.base, S6.loc, S6.cell, S6.free, S6.freeC, fun p hp => S6.pin p (by
          show p ∈ ((a, o4) :: (X.pn ++ pins)) ++ []
          rw [List.append_nil]
          rcases List.mem_append.mp hp with z | z
          · exact List.mem_cons_of_mem _ (List.mem_append_left _ z)
          · rcases List.mem_cons.mp z with z | z
            · rw [z]
              exact List.mem_cons_self
            · exact List.mem_cons_of_mem _ (List.mem_append_right _ z)), S6.hok, S6.len⟩
        refine gone_ok S7 hN hi ln fun s7 J7 => ⟨_, _, adopt J7 z4 d4 n0 npin, ?_⟩
        have eσ : (((σ1.set i (some (V.ref a))).set j (some (V.ref a))).set i none) = ((σ1.set j (some (V.ref a))).set i none) := by
          rw [List.set_comm _ _ hij.symm, List.set_set, List.set_comm _ _ hij]
        rw [eσ]
        exact fin a na
      | brk =>
        obtain ⟨_, _, _, z⟩ := hsp
        exact z.elim
      | cont =>
        obtain ⟨_, _, _, z⟩ := hsp
        exact z.elim
      | ret u =>
        obtain ⟨_, _, _, _, _, z⟩ := hsp
        exact z.elim
  · cases fl with
    | next =>
      obtain ⟨σ1, H1, J1, q1⟩ := hsp
      exact wpAny_execs_nil ⟨σ1, H1, J1.ofTry okX, q1⟩
    | brk =>
      obtain ⟨σ1, H1, J1, q1⟩ := hsp
      exact ⟨σ1, H1, J1.ofTry okX, q1⟩
    | cont =>
      obtain ⟨σ1, H1, J1, q1⟩ := hsp
      exact ⟨σ1, H1, J1.ofTry okX, q1⟩
    | ret u =>
      obtain ⟨v, σ1, H1, J1, rv, q1⟩ := hsp
      exact ⟨v, σ1, H1, J1.ofTry okX, rv, q1⟩
end
section
variable {X : Cx} {W : WX} {G : Gc} {L : Lt} {c : Cf}
/-- what a run of statements asks, by its plain meaning -/
def tOf (G : Gc) (L : Lt) (mb : M Fl) (W : WX) : TS := fun D σ H => ∃ c : Cf, c.σ = σ ∧ c.H = H ∧ Ok G L c ∧ ReqS G L W c (mb c.ρ) (EndsP G D c)
theorem SSs.pss {st : List Stmt} {mb : M Fl} (h : SSs X W G L st mb) : PSs X st (tOf G L mb W) := by
  obtain ⟨t, p, q⟩ := h.ex
  refine ⟨fun pins s σ H D I hq => ?_⟩
  obtain ⟨c, rfl, rfl, ok, hr⟩ := hq
  exact p.run pins s c.σ c.H D I (q c D ok hr)
def tryEx (i j : Nat) (test : Nat → Option Bool) (x : Nat) (fs : List (Nat × D)) (ρ : Rho) : Option Bool → Out Fl
  | some true => (setSlot j (.fz (.exc x fs)) ρ).bind fun _ ρ2 => if wipeOk ρ2 [i] = true then .ok .nx (wipeR ρ2 [i]) else .no
  | some false => .ex (.exc x fs) ρ
  | none => .no
def tryO (i j : Nat) (test : Nat → Option Bool) : Out Fl → Out Fl
  | .ex (.exc x fs) ρ => tryEx i j test x fs ρ (test x)
  | .ex _ _ => .no
  | o => o
/-- try: .. except ..: slot j gets the exception -/
def mTry (i j : Nat) (test : Nat → Option Bool) (mb : M Fl) : M Fl := fun ρ => tryO i j test (mb ρ)
theorem SS.tryKeep {x n m : Str} {CS : Addr} {body : List Stmt} {mb : M Fl} {test : Nat → Option Bool} {np pn pm pa pos pos' : Pos} (i j : Nat) (stk : X.stack = X.env :: X.outer) (frm : X.env.frame = some X.env.locals) (hN : X.N.Nodup) (hi : X.N[i]? = some n) (hj : X.N[j]? = some m) (hij : i ≠ j)
    (ln : X.env.kindOf n = some .local) (lm : X.env.scope.names.lookup m = some .local) (ln2 : X.env.scope.names.lookup n = some .local) (hex : X.ex = []) (hc : Names X x (.ref CS)) (tk : Takes X W) (dn : (n == ("__debug__" : Str)) = false) (dn2 : (n == ("__classdict__" : Str)) = false)
    (htest : ∀ y t, test y = some t → ∀ C, G.N.gm y = some (.ref C) → PySem.W.exmOne X.K (.ref C) (.ref CS) = some t)
    (bd : ∀ (W : WX) (pn : List (Addr × Obj)) (xe : Value → Shared → Prop), Takes (X.tr pn xe) W → PassesOwn (model X.prog X.w) X.A X.env xe → SSs (X.tr pn xe) W G L body mb)
    (hsw : swapsWith (.Name n pn) (some (.Name m pm)) pa.line X.env = pure false) :
    SS X W G L (.Try body [.ExceptHandler (some (.Name x np)) (some n) [.Assign [.Name m pm] (.Name n pn) pa] pos'] [] [] pos) (mTry i j test mb) := by
  refine ⟨_, ps_try_keep stk frm hN hi hj hij ln lm ln2 hex hc tk dn dn2 (fun W' pn xe tk' ps => (bd W' pn xe tk' ps).pss) hsw, fun c D ok h => ?_⟩
  refine ⟨c, rfl, rfl, ok, ?_⟩
  have h : ReqS G L W c (tryO i j test (mb c.ρ)) (EndsP G D c) := h
  cases em : mb c.ρ with
  | no =>
    rw [em] at h
    exact h
  | ok r ρ1 =>
    rw [em] at h
    exact h
  | ex d ρ1 =>
    rw [em] at h
    cases d with
    | exc y fs =>
      have h : ReqS G L W c (tryEx i j test y fs ρ1 (test y)) (EndsP G D c) := h
      intro σ1 F1 H1 x1 s1 cls dd xr
      obtain ⟨C, da, xs, eg, rfl, rfl, fa, ea, rf⟩ := xr
      cases et : test y with
      | none =>
        rw [et] at h
        exact h.elim
      | some t =>
        refine ⟨t, htest y t et C eg, fun e => ?_, fun e => ?_⟩
        · subst e
          rw [et] at h
          refine ⟨C, da, rfl, rfl, fun a na => ?_⟩
          have s2 : Ok G L ⟨σ1, ρ1, plus F1 a, upd H1 a (ExcH a C (some da))⟩ := StR.grow s1 na (fun _ z => .inl z) fun _ z => z
          have y1 : Ex G ⟨σ1, ρ1, F1, H1⟩ ⟨σ1, ρ1, plus F1 a, upd H1 a (ExcH a C (some da))⟩ := Ext.grow s1 na (fun _ z => .inl z) fun _ z => z
          have nda : da ≠ a := ne_of_none ea na
          have rv : Rp G.N (plus F1 a) (upd H1 a (ExcH a C (some da))) (.ref a) (.exc y fs) := .exc eg (.inr rfl) (.inl fa) upd_same (by rw [upd_ne nda]; exact ea) (rf.mono (fun _ z => .inl z) fun b z => upd_ne (ne_of_none (s1.trk b z).1.choose_spec na))
          have h2 : ReqS G L W c (setSlot j (.fz (.exc y fs)) ρ1) (fun _ c1 => ReqS G L W c1 (if wipeOk c1.ρ [i] = true then Out.ok Fl.nx (wipeR c1.ρ [i]) else .no) (EndsP G D c)) := ReqS.bind h
          obtain ⟨h3, s3⟩ := setSlot_req (c := ⟨σ1, ρ1, plus F1 a, upd H1 a (ExcH a C (some da))⟩) s2 (Ext.trans x1 y1) (show VR G c _ (.ref a) (.fz (.exc y fs)) from rv) h2
          by_cases hw : wipeOk (ρ1.set j (slOf (.fz (.exc y fs)))) [i] = true
          · have h3 : ReqS G L W _ (if wipeOk (ρ1.set j (slOf (.fz (.exc y fs)))) [i] = true then Out.ok Fl.nx (wipeR (ρ1.set j (slOf (.fz (.exc y fs)))) [i]) else .no) (EndsP G D c) := h3
            rw [if_pos hw] at h3
            obtain ⟨s4, x4⟩ := wipe_ok (vs := [i]) s3 (wipeOk_lent s3 hw)
            exact h3 _ _ _ x4 s4
          · have h3 : ReqS G L W _ (if wipeOk (ρ1.set j (slOf (.fz (.exc y fs)))) [i] = true then Out.ok Fl.nx (wipeR (ρ1.set j (slOf (.fz (.exc y fs)))) [i]) else .no) (EndsP G D c) := h3
            rw [if_neg hw] at h3
            exact h3.elim
        · subst e
          rw [et] at h
          exact h σ1 F1 H1 x1 s1 _ _ ⟨C, da, xs, eg, rfl, rfl, fa, ea, rf⟩
    | _ => exact h.elim
end
end Ev

/-! EvU: reading a known exception. -/
namespace Ev
open PySem PySem.Spec PyProof.Rows L2
def tFld (K : PySem.W.Frag) (n : Str) (te : TE) : TE := fun σ H Q => te σ H fun x H1 => ∃ (a C dd : Addr) (fs : List (Str × V)) (v : V), x = .ref a ∧ XfC K C ∧ PySem.W.findIn K (.ref C) n = some none ∧ H1 a = some (ExcH a C (some dd)) ∧ H1 dd = some (.xd fs) ∧ fs.lookup n = some v ∧ Q v H1
theorem pe_fld {X : Cx} {e : Expr} {te : TE} {pos : Pos} {n : Str} (he : PE X e te) (hb : attributeBase e n X.env (eval e X.env) = eval e X.env := by rfl) : PE X (.Attribute e n pos) (tFld X.K n te) := by
  refine ⟨fun pins s σ H Q I h => ?_⟩
  refine attr_of hb (thn (he.run pins s σ H _ I h) fun u s1 hh => ?_)
  obtain ⟨x, H1, I1, rx, a, C, dd, fs, v, ex, T, hno, ea, ed, l, q⟩ := hh
  subst ex
  obtain rfl : u = Value.ref a := rx
  obtain ⟨⟨oe, vs, g, z, hd⟩, _, _⟩ := I1.hok a _ ea
  have hx : ObjOk X.prog X.w H1 s1.heap dd (.xd fs) := I1.hok dd _ ed
  obtain ⟨mA, hns, hr⟩ := hx
  obtain ⟨od, ho, hl⟩ := lookIn_ns hns
  obtain ⟨u, hu, ru⟩ := RelO.some_of (v := v) (o := mA n) (by rw [← l]; exact hr n)
  have J : PySem.W.InstAt s1.heap a oe C (some od) := ⟨g, z.1, by unfold PySem.W.notCls; rw [hd] <;> rfl, by rw [z.2]; exact ho⟩
  exact PySem.HandSPX.exc_get I1.kIn J T.ga T.gg T.exC (PySem.W.findObj_own T.hdC hno rfl (by rw [hl, hu])) (handed_of ru) ⟨v, H1, I1.tok _, ru, q⟩
section
variable {X : Cx} {W : WX} {G : Gc} {L : Lt} {e : Expr} {pos : Pos}
def fFld (f : Nat) : D → Option Vl
  | .exc _ fs => (fs.lookup f).map .fz
  | _ => none
theorem SE.fld (f : Nat) {m : M D} (he : SD X W G L e m) (hX : ∀ y C, G.N.gm y = some (.ref C) → (XfC X.K C ∧ PySem.W.findIn X.K (.ref C) (G.N.fn f) = some none)) (hb : attributeBase e (G.N.fn f) X.env (eval e X.env) = eval e X.env) : SE X W G L (.Attribute e (G.N.fn f) pos) (ev1 (fFld f) m) := by
  obtain ⟨t, p, q⟩ := he.ex
  refine ⟨_, pe_fld p hb, fun c Q s h => ?_⟩
  refine q c _ s ((Req.bind h).imp fun d c1 _ e1 x1 s1 h1 v rv => ?_)
  cases d with
  | exc y fs =>
    obtain ⟨r, er, hr⟩ := liftO_req h1
    obtain ⟨d2, e2, rfl⟩ := Option.map_eq_some_iff.mp (show (fs.lookup f).map Vl.fz = some r from er)
    cases rv with
    | @exc a C dx c0 xs ds eg fa fd ea ed rf =>
      obtain ⟨y2, l, r2⟩ := rf.lookup e2
      obtain ⟨T, hno⟩ := hX y C eg
      exact ⟨a, C, dx, xs, y2, rfl, T, hno, ea, ed, l, Req.here hr s1 _ r2⟩
  | _ => exact (show False from h1).elim
end
end Ev

/-! EvV: isinstance of a known exception that has a dict. -/
namespace PySem.W
open PySem PySem.Spec PySem.Calls PyProof.Rows
section
variable {K : Frag} {x D : Addr} {ox o2 : Obj}
theorem ev_class {prog : Program} {w : World} {A : Around} {E : Value → Shared → Prop} {s : Shared} {Q : Option Value → Shared → Prop} (C : L2.ExcC K D) (X : K.In s.heap) (I : InstAt s.heap x ox D (some o2)) (h : Q (some (.ref D)) { s with toks := s.toks + 1 }) :
    wpAny (model prog w) A (getAttr? (.ref x) "__class__") Q E s := by
  obtain ⟨c0, k0, _⟩ := any_some C.hd
  have found : findObj K D (some o2) "__class__" = some (.bind (.builtin "getset_descriptor.__get__") (.builtin "object.__class__")) := findObj_data (by rw [k0]; rfl) C.ha C.hn C.ht
  obtain ⟨hp, gs, dr, tk, os⟩ := s
  have A0 := I.type (M := model prog w)
  have A1 := looks_findIn (M := model prog w) X C.hg
  have A2 := looks_findIn (M := model prog w) X C.hk
  have A3 := looks_find (M := model prog w) X I found
  have below : Looks (model prog w) hp (isInstance (.ref x) (.type "BaseException")) true := A0.andThen (looks_subIn X C.hs)
  have n0 : (false && onTheHeap (Value.builtin "BaseException.__getattribute__")) = false := by rfl
  have n1 : (onTheHeap (Value.ref D) && Value.builtin "BaseException.__getattribute__" == Value.builtin "object.__getattribute__") = false := by
    rw [show (Value.builtin "BaseException.__getattribute__" == Value.builtin "object.__getattribute__") = false by decide +kernel]
    rfl
  unfold getAttr? getAttrBy? getAttrBy
  refine wpAny_bind (wpAny_mkText (wpAny_bind (wpAny_attempt (wpAny_holding (wpAny_bind (A0.at (wpAny_bind (A1.at ?_))))))))
  dsimp only
  rw [n1, if_neg Bool.false_ne_true]
  unfold getAttrByItsOwn hookBefore
  refine wpAny_bind ?_
  rw [if_pos (by rfl : onTheHeap (Value.ref D) = true)]
  refine A2.at (wpAny_bind (wpAny_attempt (wpAny_holding ?_)))
  unfold callGetattribute
  rw [n0, if_neg Bool.false_ne_true]
  unfold boundAndCalled
  rw [PySem.F.excAttr_ValueError.ga.bind (.ref x)]
  refine wpAny_bind (wpAny_pure ?_)
  show wpAny _ _ (call (.builtin "BaseException.__getattribute__") [.ref x, .str "__class__" tk]) _ _ _
  refine wpAny_call (codeAny_call_builtin PySem.F.excAttr_ValueError.ga.plain PySem.F.entry_bexc_ga ?_)
  refine @check_slot (model prog w) _ _ ⟨hp, gs, dr, tk + 1, os⟩ "BaseException.__getattribute__" "BaseException" "__getattribute__" (.ref x) [.str "__class__" tk] [] _ (by decide +kernel) (by decide +kernel) below (PySem.F.args_bexc_ga (.ref x) (.str "__class__" tk)) ?_
  unfold Builtin.«object.__getattribute__»
  refine wpAny_bind (wpAny_of_eq (a := ((Value.ref x : Value), [Value.str "__class__" tk])) (by first | rfl | (simp only [slotArgs]; rfl)) (wpAny_bind (wpAny_pure (wpAny_bind (A0.at (wpAny_bind (A3.at ?_)))))))
  show wpAny _ _ (holding [Value.builtin "object.__class__"] (call (.builtin "getset_descriptor.__get__") [.builtin "object.__class__", .ref x, .ref D]) >>= ret) _ _ _
  refine wpAny_bind (wpAny_holding (wpAny_call (class_get (s := ⟨hp, gs, dr, tk + 1, os⟩) (ox := ox) (od := some o2) X I C.hm (wpAny_pure ?_))))
  show wpAny _ _ (handedOut (.ref D)) _ _ _
  rw [handedOut_of (v := .ref D) rfl]
  first
    | exact wpAny_pure (wpAny_pure h)
    | exact wpAny_pure h
    | exact wpAny_pure (wpAny_bind (wpAny_pure (wpAny_pure h)))
theorem ev_kit (C : L2.ExcC K D) : KitX K (.ref x) (.ref D) (fun h => InstAt h x ox D (some o2)) where
  ty := fun _ _ _ I => I.type
  it := fun _ _ X _ => by
    obtain ⟨c0, k0, _⟩ := any_some C.hd
    unfold clsIn at k0
    split at k0
    · rename_i e0
      intro A' Q' E' s' k q
      unfold isType loadHead
      exact wpAny_bind (wpAny_loadPart (k _ _ (X _ _ e0)) (wpAny_pure q))
    · cases k0
  ne := fun h tp dd its n sl X htp => by
    obtain ⟨c0, k0, _⟩ := any_some C.hd
    rw [Bool.eq_false_iff]
    intro q
    have e : D = tp := Value.ref.inj (beq_iff_eq.mp q)
    subst e
    unfold clsIn at k0
    split at k0
    · rename_i e0
      have z := (X _ _ e0).symm.trans htp
      cases z
    · cases k0
  ca := fun X I k => ev_class C X I k
end
end PySem.W
namespace Ev
open PySem PySem.Spec PyProof.Rows L2
/-- isinstance(e, C), e a known exception with a dict -/
def rIsX (K : PySem.W.Frag) : List V → Hp → VK → Prop := fun xs H Q => ∃ (a D dd : Addr) (fs : List (Str × V)) (cv : Addr) (b : Bool), xs = [.ref a, .ref cv] ∧ ExcC K D ∧ H a = some (ExcH a D (some dd)) ∧ H dd = some (.xd fs) ∧ PySem.W.kitOne K (.ref D) (.ref cv) = some b ∧ Q (.bl b) H
theorem call_isX {X : Cx} : CallR X (.builtin "isinstance") (rIsX X.K) := by
  intro pins s σ H xs us Q I r h
  obtain ⟨a, D, dd, fs, cv, b, rfl, C, ea, ed, ek, q⟩ := h
  cases r with
  | cons rx rr =>
    cases rr with
    | cons rt rr =>
      cases rr
      cases rx
      cases rt
      obtain ⟨⟨oe, vs, g, z, hd⟩, _, _⟩ := I.hok a _ ea
      have hx : ObjOk X.prog X.w H s.heap dd (.xd fs) := I.hok dd _ ed
      obtain ⟨mA, hns, hr⟩ := hx
      obtain ⟨od, ho, hl⟩ := lookIn_ns hns
      have J : PySem.W.InstAt s.heap a oe D (some od) := ⟨g, z.1, by unfold PySem.W.notCls; rw [hd] <;> rfl, by rw [z.2]; exact ho⟩
      exact PySem.W.kia_one (PySem.W.ev_kit C) I.kIn J ek (fun z => nomatch z) fun tk => ⟨.bl b, H, I.kept (t' := tk) fun _ _ z => z, rfl, q⟩
end Ev

/-! EvW: lambdas (without parameters, or with one that has a number as its default) handed to a def that calls them. -/
namespace Ev
open PySem PySem.Spec PyProof.Rows L2
/-- what an expression asks, by its plain meaning -/
def tE (G : Gc) (L : Lt) (m : M Vl) (W : WX) : TE := fun σ H Q => ∃ c : Cf, c.σ = σ ∧ c.H = H ∧ Ok G L c ∧ Req G L W c (m c.ρ) (fun r c' => ∀ v, VR G c c' v r → Q v c'.H)
theorem SE.pe {X : Cx} {W : WX} {G : Gc} {L : Lt} {e : Expr} {m : M Vl} (h : SE X W G L e m) : PE X e (tE G L m W) := by
  obtain ⟨t, p, q⟩ := h.ex
  refine ⟨fun pins s σ H Q I hq => ?_⟩
  obtain ⟨c, rfl, rfl, ok, hr⟩ := hq
  exact p.run pins s c.σ c.H Q I (q c Q ok hr)
/-- a lambda's parameters: none, or one with a number as its default -/
inductive LamB (params : Arguments) : List Str → Prop
  | none : (∀ env, defaultsOf params env = ([], [])) → (∀ (q : Str) (body : Expr) (scope : Scope) (cl : List (Str × Addr)) (doc pm cv ctv : Value), bindArgs (PySem.W.kdv_fn "<lambda>" q params (.expr body) scope cl .none doc pm cv ctv) ⟨[], []⟩ = pure []) → LamB params []
  | one {b : Str} {i : Int} {j p} : params.defaults = [.Constant (.int i) j p] → params.kw_defaults = [] →
      (∀ (q : Str) (body : Expr) (scope : Scope) (cl : List (Str × Addr)) (t : Addr) (doc pm cv ctv : Value), ∃ k, bindArgs (PySem.W.kdv_fn "<lambda>" q params (.expr body) scope cl (.ref t) doc pm cv ctv) ⟨[], []⟩ = seqItems? (.ref t) >>= k ∧ ∀ v, k (some #[v]) = pure [(b, v)]) → LamB params [b]
/-- what stands for the defaults -/
def DvOk (bn : List Str) (fs : List Addr) (H : Hp) (h : Heap) (dV : Value) : Prop := (bn = [] ∧ dV = .none) ∨ (∃ b, bn = [b] ∧ ∃ (t : Addr) (u : Value), dV = .ref t ∧ h.get? t = some (PySem.W.kdv_tup [u]) ∧ H t = none ∧ t ∉ fs)
section
variable {X : Cx} {pins : List (Addr × Obj)} {σ : L2.St} {H : Hp} {s : Shared}
theorem far_frame (I : Inv X pins σ H s) {f : Addr} (far : s.heap.objs.size ≤ f) : f ∉ frs X.stack := by
  intro mem
  cases List.mem_cons.mp (I.stkSub _ mem) with
  | inl same => exact absurd (same ▸ I.lt) (Nat.not_lt.mpr far)
  | inr below => exact I.nofs far below
/-- how the known objects look behind the making of a lambda: the table of its maker may have grown by its code -/
structure MadeL (T : List (Addr × Str)) (P c' : Addr) (q : Str) (H H1 : Hp) : Prop where
  keep : ∀ b o, H b = some o → b ≠ P → H1 b = some o
  tabs : LamX.Tabs T H1
  code : H1 c' = some (LamX.CodeO c' q)
  still : ∀ b o, H b = some o → ∃ u, H1 b = some u
theorem made_old {T : List (Addr × Str)} {P c' : Addr} {q : Str} (t : LamX.Tabs T H) (e : H c' = some (LamX.CodeO c' q)) : MadeL T P c' q H H := ⟨fun _ _ h _ => h, t, e, fun _ o h => ⟨o, h⟩⟩
theorem made_new {T : List (Addr × Str)} {P c' : Addr} {q : Str} {ps : Array Value} {pos : Pos} (t : LamX.Tabs T H) (at_ : H P = some (.tbl ps)) (three : TriplesOk ps.toList) (own : ∀ (p' : Pos) (cv : Value), codeAmong p' ps.toList = some cv → ∃ c, cv = .ref c ∧ H c = some (LamX.CodeO c q))
    (one : ∀ p ∈ T, p.1 = P → p.2 = q) (free : H c' = none) : MadeL T P c' q H (upd (upd H P (.tbl (ps ++ #[rawInt pos.line, rawInt pos.col, .ref c']))) c' (LamX.CodeO c' q)) := by
  have apart : ∀ {b o}, H b = some o → b ≠ c' := fun h z => by simp [z, free] at h
  have kept : ∀ b o, H b = some o → b ≠ P → upd (upd H P (.tbl (ps ++ #[rawInt pos.line, rawInt pos.col, .ref c']))) c' (LamX.CodeO c' q) b = some o := fun b o h n => (upd_ne (apart h)).trans ((upd_ne n).trans h)
  have codes : ∀ {b n}, H b = some (LamX.CodeO b n) → b ≠ P := fun h z => LamX.codeO_ne ps (Option.some.inj (h.symm.trans (z ▸ at_)))
  have carry : ∀ {cv n}, (∃ c, cv = Value.ref c ∧ H c = some (LamX.CodeO c n)) → ∃ c, cv = Value.ref c ∧ upd (upd H P (.tbl (ps ++ #[rawInt pos.line, rawInt pos.col, .ref c']))) c' (LamX.CodeO c' q) c = some (LamX.CodeO c n) := fun ⟨c, r, h⟩ => ⟨c, r, kept c _ h (codes h)⟩
  refine ⟨kept, fun p mem => ?_, upd_same, fun b o h => ?_⟩
  · by_cases here : p.1 = P
    · rw [one p mem here, here]
      refine ⟨ps ++ #[rawInt pos.line, rawInt pos.col, .ref c'], (upd_ne (apart at_)).trans upd_same, ?_, fun p' cv look => ?_⟩
      · rw [Array.toList_append]
        exact PySem.TriplesOk_snoc _ _ _ _ three
      · rw [Array.toList_append] at look
        cases LamX.among_app _ three look with
        | inl was => exact carry (own p' cv was)
        | inr is => exact ⟨c', is, upd_same⟩
    · obtain ⟨qs, w1, w2, w3⟩ := t p mem
      exact ⟨qs, kept _ _ w1 here, w2, fun p' cv look => carry (w3 p' cv look)⟩
  · by_cases here : b = P
    · rw [here]
      exact ⟨_, (upd_ne (apart at_)).trans upd_same⟩
    · exact ⟨o, kept b o h here⟩
theorem lam_tail {T : List (Addr × Str)} {c P : Addr} {params : Arguments} {body : Expr} {scope : Scope} {pos : Pos} {dV : Value} {E : Value → Shared → Prop} {Q : Value → Shared → Prop} (I : Inv X pins σ H s) (TB : LamX.TabB X.base X.mg c P) (hcode : X.env.code = .ref c)
    (hm : (P, X.env.qual ++ "<lambda>") ∈ T) (hu : ∀ p ∈ T, p.1 = P → p.2 = X.env.qual ++ "<lambda>") (hT : LamX.Tabs T H) (hfree : ∀ y ∈ scope.names, y.2 = .free → ∃ c, X.env.cells.lookup y.1 = some c)
    (next : ∀ (f c' : Addr) (doc pm ctv : Value) (H1 : Hp) (s' : Shared), Inv X pins σ H1 s' → MadeL T P c' (X.env.qual ++ "<lambda>") H H1 → (∀ b o, s.heap.get? b = some o → H b = none → s'.heap.get? b = some o ∧ H1 b = none) →
      s'.heap.get? f = some (PySem.W.kdv_obj "<lambda>" (X.env.qual ++ "<lambda>") params (.expr body) scope (cloFrom X.env.cells scope.names []) dV doc pm c' ctv) → H1 f = none → f ∉ frs X.stack → Q (.ref f) s') :
    wpAny (model X.prog X.w) X.A (makeTail "<lambda>" (X.env.qual ++ "<lambda>") params (.expr body) scope X.env dV .none none pos pos.line) Q E s := by
  obtain ⟨ps, at_, three, own⟩ := hT _ hm
  have table := I.hok P _ at_
  have blt := TB.bm.keeps I.bk
  cases found : codeAmong pos ps.toList with
  | some cv =>
    obtain ⟨c', rfl, known⟩ := own pos cv found
    refine PySem.W.kdv_makeTailHit (closure_ok hfree) I.ok.glob (I.mod.glob.keeps I.bk) hcode (TB.code.keeps I.bk) table three found blt fun ctv doc h' tk grows more => ?_
    have J := I.kept (t' := tk) (h' := h'.push (PySem.W.kdv_obj "<lambda>" (X.env.qual ++ "<lambda>") params (.expr body) scope (cloFrom X.env.cells scope.names []) dV doc ((X.mg "__name__").getD .none) c' ctv)) fun b o e => Heap.get?_push_of_some _ (grows b o e)
    exact next _ c' doc _ ctv H _ J (made_old hT known) (fun b o e n => ⟨Heap.get?_push_of_some _ (grows b o e), n⟩) (Heap.get?_push_size _ rfl) (I.hok.fresh more) (far_frame I more)
  | none =>
    refine PySem.W.kdv_makeTail (closure_ok hfree) I.ok.glob (I.mod.glob.keeps I.bk) hcode (TB.code.keeps I.bk) table three found TB.gP blt fun c' ctv doc h' tk grows lo hi rec grown => ?_
    obtain ⟨_, co, fields, tok, same, there, data, name⟩ := rec
    cases same
    have more : s.heap.objs.size ≤ h'.objs.size := by omega
    have free : H c' = none := I.hok.fresh lo
    have notP : ∀ {b}, H b = none → b ≠ P := fun h z => by simp [z, at_] at h
    have J := LamX.inv_table (t' := tk) (q := X.env.qual ++ "<lambda>") (more := #[rawInt pos.line, rawInt pos.col, .ref c']) (h' := h'.push (PySem.W.kdv_obj "<lambda>" (X.env.qual ++ "<lambda>") params (.expr body) scope (cloFrom X.env.cells scope.names []) dV doc ((X.mg "__name__").getD .none) c' ctv))
      I at_ (fun b o n e => Heap.get?_push_of_some _ (grows b o n e)) (Heap.get?_push_of_some _ grown) lo ⟨co, fields, tok, Heap.get?_push_of_some _ there, data, name⟩
    refine next h'.objs.size c' doc _ ctv _ _ J (made_new hT at_ three own hu free) (fun b o e n => ⟨Heap.get?_push_of_some _ (grows b o (notP n) e), ?_⟩) (Heap.get?_push_size _ rfl) ?_ (far_frame I more)
    · exact (upd_ne (Nat.ne_of_lt (Nat.lt_of_lt_of_le (Heap.lt_size e) lo))).trans ((upd_ne (notP n)).trans n)
    · have size := Heap.lt_size table
      exact (upd_ne (Nat.ne_of_gt hi)).trans ((upd_ne (Nat.ne_of_gt (Nat.lt_of_lt_of_le size more))).trans (I.hok.fresh more))
theorem lam_make3 {T : List (Addr × Str)} {c P : Addr} {params : Arguments} {bn : List Str} {body : Expr} {scope : Scope} {pos : Pos} {E : Value → Shared → Prop} {Q : Value → Shared → Prop} (I : Inv X pins σ H s) (TB : LamX.TabB X.base X.mg c P) (hcode : X.env.code = .ref c)
    (hm : (P, X.env.qual ++ "<lambda>") ∈ T) (hu : ∀ p ∈ T, p.1 = P → p.2 = X.env.qual ++ "<lambda>") (hT : LamX.Tabs T H) (hfree : ∀ y ∈ scope.names, y.2 = .free → ∃ c, X.env.cells.lookup y.1 = some c) (hB : LamB params bn)
    (next : ∀ (f c' : Addr) (dV doc pm ctv : Value) (H1 : Hp) (s' : Shared), Inv X pins σ H1 s' → MadeL T P c' (X.env.qual ++ "<lambda>") H H1 → DvOk bn (frs X.stack) H1 s'.heap dV →
      s'.heap.get? f = some (PySem.W.kdv_obj "<lambda>" (X.env.qual ++ "<lambda>") params (.expr body) scope (cloFrom X.env.cells scope.names []) dV doc pm c' ctv) → H1 f = none → f ∉ frs X.stack → Q (.ref f) s') :
    wpAny (model X.prog X.w) X.A (eval (.Lambda params body scope pos) X.env) Q E s := by
  cases hB with
  | none hd hb =>
    refine PySem.W.kla_eval (hd _) ?_
    rw [makeFunction_eq]
    simp only [List.zip_nil_right, List.filterMap_nil, List.isEmpty_nil, ↓reduceIte, pure_bind]
    exact lam_tail I TB hcode hm hu hT hfree fun f c' doc pm ctv H1 s' J made _ obj new far => next f c' .none doc pm ctv H1 s' J made (.inl ⟨rfl, rfl⟩) obj new far
  | one hd hk hb =>
    refine PySem.W.kdv_lam (by rw [hd]; rfl) hk ?_
    rw [hd]
    refine PySem.W.kdv_all1 (wpAny_Constant_int (PySem.W.kdv_all0 ?_))
    rw [makeFunction_eq]
    simp only [List.zip_nil_right, List.filterMap_nil, List.isEmpty_nil, List.isEmpty_cons, Bool.false_eq_true, ↓reduceIte, pure_bind]
    generalize Value.int _ _ = num
    have J0 : Inv X pins σ H { s with heap := s.heap.push (PySem.W.kdv_tup [num]), toks := s.toks + 1 } := I.kept fun b o e => Heap.get?_push_of_some _ e
    refine wpAny_bind (wpAny_newTextTuple (lam_tail J0 TB hcode hm hu hT hfree fun f c' doc pm ctv H1 s' J made old obj new far => ?_))
    obtain ⟨tup, unk⟩ := old s.heap.objs.size _ (Heap.get?_push_size _ rfl) (I.hok.fresh (Nat.le_refl _))
    exact next f c' (.ref s.heap.objs.size) doc pm ctv H1 s' J made (.inr ⟨_, rfl, s.heap.objs.size, num, rfl, tup, unk, far_frame I (Nat.le_refl _)⟩) obj new far
/-- what a lambda's scope may hold: its one parameter, captured names of the scope sc around (none of which is a cell of its own), globals -/
structure LamS' (N : List Str) (sc scope : Scope) (bn : List Str) : Prop where
  fn : scope.kind = .function
  plain : scope.isCoroutine = false ∧ scope.isGenerator = false
  names : ∀ y ∈ scope.names, y.2 ≠ .cell ∧ (y.2 = .local → y.1 ∉ N) ∧ (y.2 = .free → sc.names.lookup y.1 = some .cell ∨ sc.names.lookup y.1 = some .free)
  par : ∀ b ∈ bn, scope.names.lookup b = some .local
def lamNm (N : List Str) (sc : Scope) (y : Str × NameKind) : Bool := match y.2 with
  | .cell => false
  | .local => !N.contains y.1
  | .free => decide (sc.names.lookup y.1 = some .cell) || decide (sc.names.lookup y.1 = some .free)
  | _ => true
def lamSB' (N : List Str) (sc scope : Scope) (bn : List Str) : Bool :=
  decide (scope.kind = .function) && (!scope.isCoroutine && (!scope.isGenerator && (bn.all (fun b => decide (scope.names.lookup b = some .local)) && scope.names.all (lamNm N sc))))
theorem lamS_by' {N : List Str} {sc scope : Scope} {bn : List Str} (h : lamSB' N sc scope bn = true) : LamS' N sc scope bn := by
  unfold lamSB' at h
  simp only [Bool.and_eq_true, Bool.not_eq_true', decide_eq_true_eq, List.all_eq_true] at h
  obtain ⟨a, b, d, par, nm⟩ := h
  refine ⟨a, ⟨b, d⟩, fun y mem => ?_, par⟩
  have ok := nm y mem
  unfold lamNm at ok
  refine ⟨fun e => ?_, fun e => ?_, fun e => ?_⟩
  · rw [e] at ok
    cases ok
  · rw [e] at ok
    simpa using ok
  · rw [e] at ok
    simpa using ok
section
variable {X : Cx} {scope : Scope} {bn : List Str}
theorem LamS'.cap (L : LamS' X.N X.env.scope scope bn) (ok : X.Ok) {y : Str × NameKind} (mem : y ∈ scope.names) (e : y.2 = .free) : ∃ c, X.env.cells.lookup y.1 = some c := ok.has _ ((L.names y mem).2.2 e)
/-- a captured cell is the maker's -/
theorem LamS'.cell (L : LamS' X.N X.env.scope scope bn) (ok : X.Ok) {y : Str} {c : Addr} (e : (cloFrom X.env.cells scope.names []).lookup y = some c) : X.env.cells.lookup y = some c := by
  cases cloFrom_mem (PySem.mem_of_lookup e) with
  | inl mem => cases mem
  | inr q =>
    obtain ⟨mem, val⟩ := q
    obtain ⟨d, at_⟩ := L.cap ok mem rfl
    have at_ : X.env.cells.lookup y = some d := at_
    have val : c = (X.env.cells.lookup y).getD 0 := val
    rw [val, at_]
    rfl
theorem LamS'.got (L : LamS' X.N X.env.scope scope bn) {y : Str} (e : scope.names.lookup y = some .free) : ∃ c, (cloFrom X.env.cells scope.names []).lookup y = some c := mem_lookup (cloFrom_has (acc := []) (PySem.mem_of_lookup e))
/-- what a captured name holds, seen from the lambda's frame -/
theorem LamS'.sees {pins : List (Addr × Obj)} {σ : L2.St} {H HZ : Hp} {s s1 : Shared} {h₁ : Heap} (L : LamS' X.N X.env.scope scope bn) (I : Inv X pins σ H s) (un : Un (frs X.stack) [] H HZ s.heap s1.heap) (kp : ∀ b o, s1.heap.get? b = some o → h₁.get? b = some o)
    {c : Addr} {v : Option Value} {y : Str} (e : X.env.cells.lookup y = some c) (is : s.heap.IsCell c v) : h₁.IsCell c v := by
  obtain ⟨o, at_, data⟩ := is
  obtain ⟨slots, later⟩ := un.any at_ (I.freeC y c e) (List.not_mem_nil)
  exact ⟨_, kp _ _ later, data⟩
end
section
variable {HZ : Hp} {s1 : Shared}
theorem lam_start3 {A : Around} {outer : List Env} {E : XK} {scope : Scope} {bn : List Str} {f c' : Addr} {h₁ : Heap} {tk : Nat} {m : Str → Option Value} (I : Inv X pins σ H s) (L : LamS' X.N X.env.scope scope bn) (g : Env0 X.prog X.w X.K X.mg X.base A outer s1 HZ) (calm : A.handled = none)
    (un : Un (frs X.stack) [] H HZ s.heap s1.heap) (hns : h₁.Ns s1.heap.objs.size m) (kp : ∀ b o, s1.heap.get? b = some o → h₁.get? b = some o) :
    Inv (LamX.lamCx X A outer s1 HZ E scope f c') [] σ HZ { s1 with heap := h₁, toks := tk } := by
  have none_ex : ∀ b : Addr, b ∉ (LamX.lamCx X A outer s1 HZ E scope f c').ex := fun b => List.not_mem_nil
  have isCell : ∀ y c, X.env.cells.lookup y = some c → ∃ v, h₁.IsCell c v := fun y c e => by
    obtain ⟨v, q⟩ := I.cell y c e
    exact ⟨v, L.sees I un kp e q⟩
  constructor
  case ok =>
    refine ⟨g.mod, L.fn, rfl, rfl, Nat.le_refl _, fun y z c p q => I.ok.inj y z c (L.cell I.ok p) (L.cell I.ok q), fun y vis => ?_, fun y c no => ?_, fun _ => calm, Around.frames_deeper g.frames, .inr ⟨rfl, rfl⟩, fun b z => absurd z (none_ex b), g.bs, g.bsz, fun b _ _ => none_ex b, fun b z => absurd z (none_ex b), g.funs, g.frf⟩
    · cases vis with
      | inl own => exact absurd rfl (L.names _ (PySem.mem_of_lookup own)).1
      | inr fr => exact L.got fr
    · cases (show false = true from no)
  case os => rfl
  case bare => exact g.bare
  case base => exact Un.kept kp
  case loc =>
    refine ⟨_, hns, fun i y v at_ val vis => ?_⟩
    rcases (show Vis scope y from vis) with own | own | fr
    · exact absurd (List.mem_of_getElem? at_) ((L.names _ (PySem.mem_of_lookup own)).2.1 rfl)
    · exact absurd rfl (L.names _ (PySem.mem_of_lookup own)).1
    · obtain ⟨_, _, held⟩ := I.loc
      have around := (L.names _ (PySem.mem_of_lookup fr)).2.2 rfl
      obtain ⟨u, rel, look⟩ := held i y v at_ val (.inr around)
      obtain ⟨d, got⟩ := L.got fr
      refine ⟨u, rel, .inr ⟨.inr fr, d, got, ?_⟩⟩
      cases look with
      | inl l =>
        have l := l.1
        have l : X.env.scope.names.lookup y = some .local := l
        rcases around with z | z <;> (rw [l] at z; cases z)
      | inr l =>
        obtain ⟨_, d2, e2, is⟩ := l
        cases e2.symm.trans (L.cell I.ok got)
        exact L.sees I un kp e2 is
  case cell => exact fun y c e => isCell y c (L.cell I.ok e)
  case free => exact g.hok.fresh (Nat.le_refl _)
  case freeC =>
    intro y c e
    obtain ⟨v, o, at_, _⟩ := I.cell y c (L.cell I.ok e)
    exact un.free c o at_ (I.freeC y c (L.cell I.ok e)) List.not_mem_nil
  case pin => exact fun q mem => absurd (show q ∈ ([] : List (Addr × Obj)) from mem) List.not_mem_nil
  case hok => exact g.hok.kept kp
  case len => exact I.len
/-- the name a is called: it holds the lambda that X made; the def around was entered at s -/
theorem pe_act2 {CXg : CXT} {Eg : XK} {Ng : List Str} {qg : Str} {sg : Scope} {g f c' : Addr} {cdg dV doc pm ctv : Value} {params : Arguments} {bn : List Str} {body : Expr} {scope : Scope} {k i : Nat} {a : Str} {pn : List (Addr × Obj)} {xe : Value → Shared → Prop} {W : WX} {t : XK → TE} {p1 p2 : Pos}
    (I : Inv X pins σ H s) (L : LamS' X.N X.env.scope scope bn) (hB : LamB params bn) (hdv : DvOk bn (frs X.stack) H s.heap dV)
    (obj : s.heap.get? f = some (PySem.W.kdv_obj "<lambda>" (X.env.qual ++ "<lambda>") params (.expr body) scope (cloFrom X.env.cells scope.names []) dV doc pm c' ctv)) (new : H f = none) (far : f ∉ frs X.stack)
    (tk : Takes ((cxOf CXg X.prog X.w X.K X.mg X.base Ng qg sg g cdg X.A X.stack s H Eg).tr pn xe) W) (room : RoomG (k + 1) (X.A.deeper (envOfC qg sg s.heap.objs.size g cdg)))
    (inside : ∀ (A : Around) (outer : List Env) (s : Shared) (H : Hp) (E : XK), RoomG k (A.deeper (LamX.lamEnv X scope s.heap.objs.size f c')) → PE (LamX.lamCx X A outer s H E scope f c') body (t E))
    (at_ : Ng[i]? = some a) (vis : Vis sg a) (nd : (a == ("__debug__" : Str)) = false) (nc : (a == ("__classdict__" : Str)) = false) :
    PE ((cxOf CXg X.prog X.w X.K X.mg X.base Ng qg sg g cdg X.A X.stack s H Eg).tr pn xe) (.Call (.Name a p1) [] [] p2)
      (fun τ J Q => τ[i]? = some (some (.ref f)) ∧ J c' = some (LamX.CodeO c' (X.env.qual ++ "<lambda>")) ∧ ∃ E : XK, (∀ cls d H', E cls d H' → W cls d τ H') ∧ t E σ J Q) := by
  constructor
  intro pz sz τ J Q IZ read
  obtain ⟨slot, code, E, wish, asks⟩ := read
  refine wpAny_Call_Name_kw (thn ((pe_var (pos := p1) at_ vis nd nc).run pz sz τ J (fun v J' => v = .ref f ∧ J' = J) IZ ⟨_, slot, rfl, rfl⟩) fun u s1 got => ?_)
  obtain ⟨v, J', I1, rel, rfl, rfl⟩ := got
  cases (show u = Value.ref f from rel)
  have un := I1.base
  have keeps : ∀ b o, s.heap.get? b = some o → H b = none → b ∉ frs X.stack → s1.heap.get? b = some o := fun b o e n nf => un.keep b o e n nf List.not_mem_nil
  have obj1 := keeps f _ obj new far
  obtain ⟨⟨co, fields, tok, there, data, name⟩, _, _⟩ := I1.hok c' _ code
  -- what its parameters are bound to
  obtain ⟨binds, isLocal, bound⟩ : ∃ binds : List (Str × Value), (∀ y ∈ binds, scope.names.lookup y.1 = some .local) ∧ BindsTo s1 (PySem.W.kdv_fn "<lambda>" (X.env.qual ++ "<lambda>") params (.expr body) scope (cloFrom X.env.cells scope.names []) dV doc pm (.ref c') ctv) ⟨[], []⟩ binds := by
    cases hB with
    | none _ h2 =>
      rcases hdv with ⟨_, rfl⟩ | ⟨_, z, _⟩
      · exact ⟨[], fun _ mem => absurd mem List.not_mem_nil, .of_eq (h2 ..)⟩
      · cases z
    | @one b _ _ _ _ _ h3 =>
      rcases hdv with ⟨z, _⟩ | ⟨_, z, tup, val, rfl, h4, h5, h6⟩
      · cases z
      · cases z
        obtain ⟨_, e3, e4⟩ := h3 (X.env.qual ++ "<lambda>") body scope (cloFrom X.env.cells scope.names []) tup doc pm (.ref c') ctv
        refine ⟨[(b, val)], fun y mem => ?_, .of_defaults rfl (keeps _ _ h4 h5 h6) rfl e3 (e4 val)⟩
        cases List.mem_singleton.mp mem
        exact L.par _ List.mem_cons_self
  refine PySem.W.callWith_F0 ⟨_, _, _, _, obj1⟩ (wpAny_call ?_)
  refine codeAny_mono (R := CR (L2.CX X.prog X.w) (envOfC qg sg s.heap.objs.size g cdg :: X.stack) X.prog X.w J' s1 Q E) ?_ fun r s' out => ?_
  · refine PySem.W.kla_callFunE room.room.depth obj1 rfl L.plain.1 L.plain.2 rfl ⟨c', co, fields, tok, rfl, there, data, name⟩ (bound _ _ _ _ ?_)
    refine wpAny_newFunctionEnv (fun y mem => (L.names y mem).1) isLocal (fun h₁ hns grows => ⟨I1.nolimit.fresh _ grows, ?_⟩) L.fn
    have stay : ∀ b o, s1.heap.get? b = some o → h₁.get? b = some o := fun b o e => grows.extBut b o (Nat.ne_of_lt (Heap.lt_size e)) (Heap.get?_push_of_some _ e)
    have first := lam_start3 (E := E) (f := f) (c' := c') (tk := s1.toks + binds.length) I L I1.env0 room.room.hd un hns stay
    have run := (inside _ _ s1 J' E (room.deeper _)).run [] _ _ J' Q first asks
    exact PySem.W.kla_codeExpr (wpAny_mono run (fun v s' ends => ends.elim fun w q => q.elim fun H' q => ⟨w, H', q.1.os, q.1.bare, q.1.base, q.1.hok, q.2⟩) fun _ _ q => q)
  · match r, out with
    | .error e, out => exact tk e s' (XE.of_call I1 (fun cls d H' h => wish cls d H' h) out)
    | .ok (.ret u), out => exact I1.after out
    | .ok .next, out => exact out.elim
    | .ok .brk, out => exact out.elim
    | .ok .cont, out => exact out.elim
end
end

/-! ### a def that calls what it got -/
def evClo (i : Nat) : M D := fun ρ => match ρ[i]? with
  | some (.cl f) => (match f [] with
    | .ok d => .ok d ρ
    | .ex d => .ex d ρ
    | .no => .no)
  | _ => .no
def frzS : Sl → Sl
  | .fz d => .fz d
  | .lf d => .fz d
  | _ => .un
def coO : Out Vl → CO
  | .ok (.fz d) _ => .ok d
  | .ok (.nw d) _ => if isDct d then .no else .ok d
  | .ex d _ => .ex d
  | .no => .no
def coOf (mb : M Vl) (ρ : Rho) : CO := coO (mb (ρ.map frzS))
/-- f(lambda: ..): what f makes of what the lambda does -/
def lamO (ρ : Rho) : FOut → Out Vl
  | .ok r _ => .ok r ρ
  | _ => .no
def evLam0 (φ : Fn) (mb : M Vl) : M Vl := fun ρ => lamO ρ (φ [.cl fun _ => coOf mb ρ])
/-- a slot that may be given away as it is -/
def gdS : Option Sl → Bool
  | some (.ow (.dct _)) => false
  | some (.ln (.dct _)) => false
  | _ => true
def evFrz : List Nat → M Unit
  | [] => mpure ()
  | i :: is => fun ρ => if gdS ρ[i]? then ((evVar i).bind fun _ => evFrz is) ρ else .no
def evLam (φ : Fn) (is : List Nat) (mb : M Vl) : M Vl := (evFrz is).bind fun _ => evLam0 φ mb
section
variable {G G' : Gc} {L : Lt} {W : WX} {c : Cf}
/-- what a run that has nothing of its own leaves of a frame below it -/
theorem frame_over {O O' F1 : Fz} {H1 : Hp} (s : Ok G L c) (x : Ext O c.F c.H O' F1 H1) (hO : ∀ a, O a → G.tb a) (ht : ∀ a, F1 a → (∃ o, H1 a = some o) ∧ ¬ G.tb a) (tabs : G.tabs H1) : Ex G c ⟨c.σ, c.ρ, F1, H1⟩ ∧ Ok G L ⟨c.σ, c.ρ, F1, H1⟩ := by
  have fz : ∀ a, c.F a → H1 a = c.H a := fun a f => by
    obtain ⟨⟨o, e⟩, n⟩ := s.trk a f
    rw [e]
    exact x.keep a o e fun z => n (hO a z)
  refine ⟨⟨fun a o e n => x.keep a o e fun z => n (.inl (hO a z)), x.mono, fun a f => (x.new a f).imp id (fun z => z.imp id fun z => .inl (hO a z)), fun a z => .inl z⟩, s.len, fun i t e => ?_, s.sep, s.lent, s.lnL, ht, tabs⟩
  refine (s.sl i t e).mono x.mono fz fun w a q => ?_
  obtain ⟨b, d, e2, ow, _⟩ := s.own e w
  rw [q] at e2
  cases e2
  obtain ⟨u, e3, hm⟩ := ow.at
  have ntb : ¬ G.tb a := fun z => by
    obtain ⟨ps, z⟩ := G.tbAt s.tabs z
    rw [e3] at z
    cases z
    cases hm
  refine ⟨fun f => ?_, (x.keep a u e3 fun z => ntb (hO a z)).trans e3.symm⟩
  rcases x.new a f with z | z | z
  · exact ow.nf z
  · exact z.mut e3 hm
  · exact ntb (hO a z)
theorem own_none {ρ : Rho} {σ : L2.St} {a : Addr} (h : ∀ (i : Nat) (s : Sl), ρ[i]? = some s → isOw s = false) (o : Own G σ ρ a) : G.tb a := by
  rcases o with z | ⟨i, s, e, w, _⟩
  · exact z
  · rw [h i s e] at w
    cases w
theorem frz_no {ρ : Rho} (i : Nat) (s : Sl) (e : (ρ.map frzS)[i]? = some s) : isOw s = false := by
  rw [List.getElem?_map] at e
  obtain ⟨t, _, rfl⟩ := Option.map_eq_some_iff.mp e
  cases t <;> rfl
/-- the meaning of names while a lambda's def runs -/
def gLam (G : Gc) (σm : L2.St) (ρm : Rho) (f c' : Addr) (q : Str) (φ : CO) : Gc where
  N := G.N
  clo := fun F H v ψ => v = .ref f ∧ ψ = (fun _ => φ) ∧ ∀ (i : Nat) (d : D), (ρm.map frzS)[i]? = some (.fz d) → ∃ v, σm[i]? = some (some v) ∧ Rp G.N F H v d
  tabs := fun H => G.tabs H ∧ H c' = some (LamX.CodeO c' q)
  tb := G.tb
  cloMono := fun hF hH ⟨h1, h2, h3⟩ => ⟨h1, h2, fun i d e => by
    obtain ⟨v, e1, r⟩ := h3 i d e
    exact ⟨v, e1, r.mono hF hH⟩⟩
  tabsUpd := fun {H p o} ⟨h1, h2⟩ h => ⟨G.tabsUpd h1 h, by
    rw [upd_ne (fun z => ?_)]
    · exact h2
    · rw [z] at h2
      rcases h with e | ⟨u, e, w⟩
      · rw [h2] at e; cases e
      · rw [h2] at e
        cases e
        cases w⟩
  tabsSet := fun {H p u o} ⟨h1, h2⟩ e n => ⟨G.tabsSet h1 e n, by
    rw [upd_ne (fun z => ?_)]
    · exact h2
    · rw [z, e] at h2
      exact n.2.2 _ _ (Option.some.inj h2)⟩
  tbAt := fun h => G.tbAt h.1
/-- a new object is frozen in a frame that does not have it -/
theorem SD.lamAct {Z : Cx} {σm : L2.St} {ρm : Rho} {f c' : Addr} {q : Str} {mb : M Vl} {ex : Expr} {i0 : Nat} {t : XK → TE} (hlen : ρm.length = σm.length)
    (ht : ∀ (E : XK) (c : Cf) (Q : VK), Ok G [] c → Req G [] (fun cls d _ H' => E cls d H') c (mb c.ρ) (fun r c' => ∀ v, VR G c c' v r → Q v c'.H) → t E c.σ c.H Q)
    (act : PE Z ex (fun σZ HZ Q => σZ[i0]? = some (some (.ref f)) ∧ HZ c' = some (LamX.CodeO c' q) ∧ ∃ E : XK, (∀ cls d H', E cls d H' → W cls d σZ H') ∧ t E σm HZ Q)) :
    SD Z W (gLam G σm ρm f c' q (coOf mb ρm)) L ex (evClo i0) := by
  refine ⟨_, act, fun c Q s h => ?_⟩
  unfold evClo at h
  cases e : c.ρ[i0]? with
  | none => rw [e] at h; exact h.elim
  | some sl =>
    rw [e] at h
    cases sl with
    | cl ψ =>
      obtain ⟨v, ev, rfl, rfl, hf⟩ := s.sl i0 _ e
      refine ⟨ev, s.tabs.2, fun cls d H' => W cls d c.σ H', fun _ _ _ h => h, ?_⟩
      have sm : Ok G [] ⟨σm, ρm.map frzS, c.F, c.H⟩ := by
        refine ⟨by rw [List.length_map]; exact hlen, fun i t e => ?_, fun i j s t a _ e w => ?_, fun i a z => absurd z (by simp), fun i d z => ?_, s.trk, s.tabs.1⟩
        · cases t with
          | un => trivial
          | fz d => exact hf i d e
          | _ =>
            exfalso
            rw [List.getElem?_map] at e
            obtain ⟨t, _, q⟩ := Option.map_eq_some_iff.mp e
            cases t <;> cases q
        · rw [frz_no i s e] at w
          cases w
        · exfalso
          rw [List.getElem?_map] at z
          rcases z with z | z <;> (obtain ⟨t, _, q⟩ := Option.map_eq_some_iff.mp z; cases t <;> cases q)
      refine ht _ ⟨σm, ρm.map frzS, c.F, c.H⟩ Q sm ?_
      have hO : ∀ a, Own G σm (ρm.map frzS) a → G.tb a := fun a o => own_none frz_no o
      have h : Req (gLam G σm ρm f c' q (coOf mb ρm)) L W c (match coO (mb (ρm.map frzS)) with | .ok d => Out.ok d c.ρ | .ex d => .ex d c.ρ | .no => .no) (fun d c' => ∀ v, Rp G.N c'.F c'.H v d → Q v c'.H) := h
      have codeK : ∀ {O' F1 : Fz} {H1 : Hp}, Ext (Own G σm (ρm.map frzS)) c.F c.H O' F1 H1 → H1 c' = some (LamX.CodeO c' q) := fun x => x.keep _ _ s.tabs.2 fun z => by
        obtain ⟨ps, z⟩ := G.tbAt s.tabs.1 (hO _ z)
        rw [s.tabs.2] at z
        exact absurd (Option.some.inj z) (LamX.codeO_ne ps)
      generalize em : mb (ρm.map frzS) = o at h ⊢
      cases o with
      | no => exact h
      | ok r ρ1 =>
        intro F1 H1 x1 s1 v rv
        obtain ⟨y1, y2⟩ := frame_over (G := gLam G σm ρm f c' q (coOf mb ρm)) s x1 hO s1.trk ⟨s1.tabs, codeK x1⟩
        cases r with
        | fz d => exact h F1 H1 y1 y2 v rv
        | nw d =>
          obtain ⟨a, rfl, ow, no, pre⟩ := rv
          by_cases nd : isDct d = true
          · exfalso
            have h : Req (gLam G σm ρm f c' q (coOf mb ρm)) L W c (match (if isDct d then CO.no else .ok d) with | .ok d => Out.ok d c.ρ | .ex d => .ex d c.ρ | .no => .no) _ := h
            rw [if_pos nd] at h
            exact h.elim
          have h : Req (gLam G σm ρm f c' q (coOf mb ρm)) L W c (match (if isDct d then CO.no else .ok d) with | .ok d => Out.ok d c.ρ | .ex d => .ex d c.ρ | .no => .no) _ := h
          rw [if_neg nd] at h
          have nT : ¬ G.tb a := fun z => by
            obtain ⟨u, e3, hm⟩ := ow.at
            obtain ⟨ps, z⟩ := G.tbAt s1.tabs z
            rw [e3] at z
            cases z
            cases hm
          have na : c.H a = none := pre.resolve_right fun z => nT (hO _ z)
          have nown : ¬ Own (gLam G σm ρm f c' q (coOf mb ρm)) c.σ c.ρ a := fun z => by
            obtain ⟨u, z⟩ := s.ownAt z
            rw [na] at z; cases z
          exact h (plus F1 a) H1 (Ex.frz y1 (.inl na)) (Ok.frz y2 ow nown) _ (ow.freeze (by simpa using nd) (fun _ z => .inl z) (.inr rfl))
      | ex d ρ1 =>
        intro F1 H1 x1 s1 cls dd xr
        obtain ⟨y1, y2⟩ := frame_over (G := gLam G σm ρm f c' q (coOf mb ρm)) s x1 hO s1.trk ⟨s1.tabs, codeK x1⟩
        exact h F1 H1 y1 y2 cls dd xr
    | _ => exact h.elim
end
/-- a def runs from this very state -/
theorem run_ofSG {CX : CXT} {P : Program} {w : World} {K : PySem.W.Frag} {mg : Str → Option Value} {base : Heap} {k : Nat} {f : Addr} {name qual : Str} {params : Arguments} {body : List Stmt} {scope : Scope} {dV kV doc pm cdv ct oc : Value} {an od : Option Addr}
    {osl : Array (Option Value)} {N ps : List Str} (at_ : K.lookup f = some ⟨oc, od, .func (PySem.W.fnOf name qual params body scope dV kV doc pm an cdv ct), osl⟩) (code : PySem.W.codeIn K cdv qual = true) (S : FnScope N ps scope)
    {A : Around} {outer : List Env} {s : Shared} {H : Hp} {args : Args} {us : List Value} {vs : List V} {Q : VK} {E : XK} (room : RoomG (k + 1) A) (g : Env0 P w K mg base A outer s H) (binds : BindsTo s (PySem.W.fnOf name qual params body scope dV kV doc pm an cdv ct) args (ps.zip us)) (vals : Vals vs us) (many : vs.length = ps.length)
    (inside : RoomG k (A.deeper (envOfC qual scope s.heap.objs.size f cdv)) →
      ∃ t, PSs (cxOf CX P w K mg base N qual scope f cdv A outer s H E) body t ∧ t { nx := fun _ H' => Q .non H', rt := Q } (start N vs) H) :
    codeAny (model P w) A (.call (.ref f) args) (CR CX outer P w H s Q E) s := by
  obtain ⟨kin, nolim⟩ := grounded g
  have place : ∀ y ∈ ps.zip us, scope.names.lookup y.1 = some .local ∨ (scope.names.lookup y.1 = some .cell ∧ ((cellsFrom (s.heap.objs.size + 1) scope.names []).lookup y.1).isSome = true) := by
    intro y hy
    have := S.par y.1 (List.of_mem_zip (show (y.1, y.2) ∈ ps.zip us from hy)).1
    exact this.imp id fun q => ⟨q, PySem.W.cellsFrom_some _ _ _ (.inl q)⟩
  refine codeAny_call_function room.room.depth (kin _ _ at_) rfl S.co S.gen rfl (PySem.W.codeRec_of kin code) (binds _ _ _ _ ?_)
  refine wpAny_newFunctionEnv_cells S.kind place fun env he s1 begun => ?_
  cases he
  refine ⟨nolim.keeps begun.toInCall.keep, codeAny_func ?_⟩
  obtain ⟨t, walk, reads⟩ := inside (room.deeper _)
  have first := inv_start (CX := CX) (E := E) S room.room.hd g many vals begun
  refine wpAny_mono (walk.run [] s1 (start N vs) H _ first reads) (fun fl s' ends => ?_) fun e s' q => q
  cases fl with
  | brk => exact (ends.elim fun _ q => q.elim fun _ q => q.2.elim)
  | cont => exact (ends.elim fun _ q => q.elim fun _ q => q.2.elim)
  | next =>
    obtain ⟨σ', H', J, q⟩ := ends
    exact ⟨.non, H', J.os, J.bare, J.base, J.hok, rfl, q⟩
  | ret u =>
    obtain ⟨v, σ', H', J, rel, q⟩ := ends
    exact ⟨v, H', J.os, J.bare, J.base, J.hok, rel, q⟩
/-- which tables there are -/
structure TabG (G : Gc) (T : List (Addr × Str)) : Prop where
  tabs : ∀ H, G.tabs H ↔ LamX.Tabs T H
  tb : ∀ a, G.tb a ↔ ∃ p ∈ T, p.1 = a
section
variable {X : Cx} {W : WX} {G : Gc} {L : Lt}
/-- x(lambda: body), all that it reads frozen -/
theorem SE.lamCall0 {T : List (Addr × Str)} {x a : Str} {st : Stmt} {fd : FuncData} {g c P : Addr} {k : Nat} {Ng : List Str} {bm : M Fl} {mb : M Vl} {params : Arguments} {bn : List Str} {body : Expr} {scope : Scope} {p lpos pos : Pos}
    (hg : Gl X x) (hm : X.mg x = some (.ref g)) (Fg : Fun X.K x x st g fd) (hk : PySem.W.keepIn X.K (.ref g) = true) (hbd : L2.Binds X.K fd [a] []) (Sg : FnScope Ng [a] (defScope st)) (hNg : Ng[0]? = some a) (hva : Vis (defScope st) a)
    (TG : TabG G T) (TB : LamX.TabB X.base X.mg c P) (hcode : X.env.code = .ref c) (hmT : (P, X.env.qual ++ "<lambda>") ∈ T) (hu : ∀ p ∈ T, p.1 = P → p.2 = X.env.qual ++ "<lambda>") (hr : RoomG (k + 2) X.A)
    (LS : LamS' X.N X.env.scope scope bn) (hB : LamB params bn)
    (hbody : ∀ (A : Around) (outer : List Env) (s : Shared) (H : Hp) (E : XK) (f c' : Addr), Bd (LamX.lamCx X A outer s H E scope f c') (fun cls d _ H' => E cls d H') k → SE (LamX.lamCx X A outer s H E scope f c') (fun cls d _ H' => E cls d H') G [] body mb)
    (hcal : ∀ (G' : Gc), G'.N = G.N → ∀ (cdv : Value) (A : Around) (outer : List Env) (s : Shared) (H : Hp) (E : XK) (L : Lt), Bd (cxOf (L2.CX X.prog X.w) X.prog X.w X.K X.mg X.base Ng x (defScope st) g cdv A outer s H E) (fun cls d _ H => E cls d H) (k + 1) →
      (∀ (W : WX) (pn : List (Addr × Obj)) (xe : Value → Shared → Prop) (p1 p2 : Pos), Takes ((cxOf (L2.CX X.prog X.w) X.prog X.w X.K X.mg X.base Ng x (defScope st) g cdv A outer s H E).tr pn xe) W →
        SD ((cxOf (L2.CX X.prog X.w) X.prog X.w X.K X.mg X.base Ng x (defScope st) g cdv A outer s H E).tr pn xe) W G' L (.Call (.Name a p1) [] [] p2) (evClo 0)) →
      SSs (cxOf (L2.CX X.prog X.w) X.prog X.w X.K X.mg X.base Ng x (defScope st) g cdv A outer s H E) (fun cls d _ H => E cls d H) G' L (defBody st) bm)
    (hdb : (x == ("__debug__" : Str)) = false := by decide) (hd : (a == ("__debug__" : Str)) = false := by decide) (hcd : (a == ("__classdict__" : Str)) = false := by decide) :
    SE X W G L (.Call (.Name x p) [.Lambda params body scope lpos] [] pos) (evLam0 (fnSem bm Ng.length) mb) := by
  obtain ⟨oc, od, kV, doc, pm, an, cdv, ct, osl, rfl, lk, hcg⟩ := Fg.ex
  refine ⟨tE G L (evLam0 (fnSem bm Ng.length) mb) W, ⟨fun pins s σ H Q I h => ?_⟩, fun c Q s h => ⟨c, rfl, rfl, s, h⟩⟩
  obtain ⟨c0, rfl, rfl, ok, hq⟩ := h
  refine wpAny_Call_Name_kw (ld_glob I hg hm ?_ hdb)
  refine PySem.W.callWith_K (h₀ := X.base) I.ok.mod.kin hk ?_ (by rfl) (by rfl)
  show wpAny _ _ (spliced ((false, eval (.Lambda params body scope lpos) X.env) :: backTo pos (starEach [] X.env))) _ _ s
  refine Calls.spliced_cons (lam_make3 I TB hcode hmT hu ((TG.tabs _).mp ok.tabs) (fun y mem e => LS.cap I.ok mem e) hB fun f c' dV doc' pm' ctv H1 s' I1 made hdv hf hfn hfr => ?_)
  obtain ⟨eN, T1, hco, q2⟩ := made
  refine Calls.spliced_nil ⟨I1.kIn, ?_⟩
  have tP : G.tb P := (TG.tb P).mpr ⟨_, hmT, rfl⟩
  have fzH : ∀ a, c0.F a → H1 a = c0.H a := fun a f => by
    obtain ⟨⟨o, e⟩, n⟩ := ok.trk a f
    rw [e]
    exact eN a o e fun z => n (z ▸ tP)
  have x0 : Ext G.tb c0.F c0.H G.tb c0.F H1 := ⟨fun b o e n => eN b o e fun z => n (z ▸ tP), fun _ f => f, fun _ f => .inl f, fun _ f => .inl f⟩
  have trk1 : ∀ a, c0.F a → (∃ o, H1 a = some o) ∧ ¬ G.tb a := fun a f => by
    obtain ⟨⟨o, e⟩, n⟩ := ok.trk a f
    exact ⟨⟨o, (fzH a f).trans e⟩, n⟩
  have okA : Ok (gLam G c0.σ c0.ρ f c' (X.env.qual ++ "<lambda>") (coOf mb c0.ρ)) (lentOf [V.ref f] [Sl.cl fun _ => coOf mb c0.ρ]) (argC [V.ref f] [Sl.cl fun _ => coOf mb c0.ρ] c0.F H1) := by
    have only : ∀ (i : Nat) (t : Sl), [Sl.cl fun _ => coOf mb c0.ρ][i]? = some t → i = 0 ∧ t = Sl.cl fun _ => coOf mb c0.ρ := fun i t e => by
      cases i with
      | zero => exact ⟨rfl, (Option.some.inj e).symm⟩
      | succ n => simp at e
    refine ⟨rfl, fun i t e => ?_, fun i j t u b _ e w => ?_, fun i b z => ?_, fun i d z => ?_, trk1, (TG.tabs _).mpr T1, hco⟩
    · obtain ⟨rfl, rfl⟩ := only i t e
      refine ⟨V.ref f, rfl, rfl, rfl, fun j d e => ?_⟩
      rw [List.getElem?_map] at e
      obtain ⟨t, e1, e2⟩ := Option.map_eq_some_iff.mp e
      have hs := ok.sl j t e1
      cases t with
      | fz d' => cases e2; obtain ⟨v, h1, h2⟩ := hs; exact ⟨v, h1, h2.mono (fun _ f => f) fzH⟩
      | lf d' => cases e2; obtain ⟨v, h1, h2⟩ := hs; exact ⟨v, h1, h2.mono (fun _ f => f) fzH⟩
      | _ => cases e2
    · obtain ⟨_, rfl⟩ := only i t e
      cases w
    · cases i with
      | zero => simp [lentOf] at z
      | succ n => simp [lentOf] at z
    · rcases z with z | z
      · obtain ⟨_, z⟩ := only i _ z
        cases z
      · obtain ⟨_, z⟩ := only i _ z
        cases z
  have rc : codeAny (model X.prog X.w) X.A (.call (.ref g) ⟨[.ref f], []⟩) (CR (L2.CX X.prog X.w) X.stack X.prog X.w H1 s' Q (fun _ _ _ => False)) s' := by
    refine run_ofSG (N := Ng) (ps := [a]) (us := [.ref f]) (vs := [.ref f]) (k := k + 1) lk hcg Sg hr I1.env0 (hbd s' [.ref f] I1.kIn rfl) (.cons rfl .nil) rfl fun hr' => ?_
    have B : Bd (cxOf (L2.CX X.prog X.w) X.prog X.w X.K X.mg X.base Ng x (defScope st) g cdv X.A X.stack s' H1 (fun _ _ _ => False)) (fun cls d _ H => False) (k + 1) := ⟨rfl, passes_of rfl, takes_of rfl rfl rfl rfl, hr'⟩
    have act : ∀ (W : WX) (pn : List (Addr × Obj)) (xe : Value → Shared → Prop) (p1 p2 : Pos), Takes ((cxOf (L2.CX X.prog X.w) X.prog X.w X.K X.mg X.base Ng x (defScope st) g cdv X.A X.stack s' H1 (fun _ _ _ => False)).tr pn xe) W →
        SD ((cxOf (L2.CX X.prog X.w) X.prog X.w X.K X.mg X.base Ng x (defScope st) g cdv X.A X.stack s' H1 (fun _ _ _ => False)).tr pn xe) W (gLam G c0.σ c0.ρ f c' (X.env.qual ++ "<lambda>") (coOf mb c0.ρ)) (lentOf [V.ref f] [Sl.cl fun _ => coOf mb c0.ρ]) (.Call (.Name a p1) [] [] p2) (evClo 0) := fun W pn xe p1 p2 tk => by
      refine SD.lamAct (G := G) (mb := mb) (t := fun E => tE G [] mb (fun cls d _ H' => E cls d H')) ok.len (fun E c Q s h => ⟨c, rfl, rfl, s, h⟩) ?_
      exact pe_act2 (i := 0) (k := k) I1 LS hB hdv hf hfn hfr tk hr' (fun A outer s H E hr2 => (hbody A outer s H E f c' ⟨rfl, passes_of rfl, takes_of rfl rfl rfl rfl, hr2⟩).pe) hNg hva hd hcd
    obtain ⟨t, pt, qt⟩ := (hcal (gLam G c0.σ c0.ρ f c' (X.env.qual ++ "<lambda>") (coOf mb c0.ρ)) rfl cdv X.A X.stack s' H1 (fun _ _ _ => False) (lentOf [V.ref f] [Sl.cl fun _ => coOf mb c0.ρ]) B act).ex
    · refine ⟨t, pt, ?_⟩
      have hpl : ([V.ref f] : List V).length ≤ Ng.length := by
        cases Ng with
        | nil => cases hNg
        | cons y l => simp
      have hcl : ∀ t ∈ [Sl.cl fun _ => coOf mb c0.ρ], cleanA t = true := fun t ht => by
        rcases List.mem_singleton.mp ht with rfl
        rfl
      refine qt (bodyC Ng [V.ref f] [Sl.cl fun _ => coOf mb c0.ρ] c0.F H1) _ (body_ok okA hpl fun i a e => lentOf_get e) (fnSem_req (E := fun _ _ _ => False) okA hpl hcl ?_)
      have hq : Req G L W c0 (lamO c0.ρ (fnSem bm Ng.length [.cl fun _ => coOf mb c0.ρ])) (fun r c' => ∀ v, VR G c0 c' v r → Q v c'.H) := hq
      generalize fnSem bm Ng.length [.cl fun _ => coOf mb c0.ρ] = o at hq ⊢
      cases o with
      | no => exact hq
      | ex d outs => exact hq.elim
      | ok r outs =>
        intro F' H' x2 s2 v rv
        have hO : ∀ a, Own (gLam G c0.σ c0.ρ f c' (X.env.qual ++ "<lambda>") (coOf mb c0.ρ)) (([V.ref f] : List V).map some) [Sl.cl fun _ => coOf mb c0.ρ] a → G.tb a := fun a o => by
          rcases o with z | ⟨i, t, e, w, _⟩
          · exact z
          · cases i with
            | zero => cases e; cases w
            | succ n => simp at e
        have x2' : Ext G.tb c0.F H1 (Own (gLam G c0.σ c0.ρ f c' (X.env.qual ++ "<lambda>") (coOf mb c0.ρ)) (([V.ref f] : List V).map some) outs) F' H' := ⟨fun b o e n => x2.keep b o e fun z => n (hO b z), x2.mono, fun b z => (x2.new b z).imp id fun z => z.imp id (hO b), fun b z => (x2.sub b z).imp (hO b) id⟩
        have x3 := x0.trans x2'
        obtain ⟨y1, y2⟩ := frame_over ok x3 (fun _ z => z) s2.trk s2.tabs.1
        refine hq F' H' y1 y2 v ?_
        cases r with
        | fz d => exact rv
        | nw d =>
          obtain ⟨b, rfl, ow, no, pre⟩ := rv
          have nT : ¬ G.tb b := fun z => by
            obtain ⟨u, e3, hm⟩ := ow.at
            obtain ⟨ps, z⟩ := G.tbAt s2.tabs.1 z
            rw [e3] at z
            cases z
            cases hm
          have n1 : H1 b = none := pre.resolve_right fun z => nT (hO _ z)
          have n0 : c0.H b = none := by
            cases e : c0.H b with
            | none => rfl
            | some o =>
              obtain ⟨u, z⟩ := q2 b o e
              rw [n1] at z; cases z
          refine ⟨b, rfl, ow, fun z => ?_, .inl n0⟩
          obtain ⟨u, z⟩ := ok.ownAt z
          rw [n0] at z; cases z
  refine wpAny_call (codeAny_mono rc fun r s2 hq => ?_)
  cases r with
  | error e =>
    obtain ⟨_, _, _, _, _, _, _, _, _, _, _, _, z⟩ := hq
    exact z.elim
  | ok fl =>
    cases fl with
    | ret u => exact I1.after hq
    | next => exact False.elim hq
    | brk => exact False.elim hq
    | cont => exact False.elim hq
/-- what a name's slot holds is given away -/
theorem frz_step {i : Nat} {c : Cf} {P : D → Cf → Prop} (s : Ok G L c) (gd : gdS c.ρ[i]? = true) (h : Req G L W c (evVar i c.ρ) P) : ∃ (d : D) (c1 : Cf), c1.σ = c.σ ∧ c1.H = c.H ∧ Ex G c c1 ∧ Ok G L c1 ∧ P d c1 := by
  unfold evVar at h
  cases e : c.ρ[i]? with
  | none => rw [e] at h; exact h.elim
  | some t =>
    rw [e] at h
    cases t with
    | un => exact h.elim
    | cl f => exact h.elim
    | fz d => exact ⟨d, c, rfl, rfl, Ext.refl, s, h _ _ Ext.refl s⟩
    | lf d => exact ⟨d, c, rfl, rfl, Ext.refl, s, h _ _ Ext.refl s⟩
    | ow d =>
      obtain ⟨a, h1, h2⟩ := s.sl i _ e
      obtain ⟨z1, z2, z3⟩ := StR.give s e rfl h1 (.inl rfl) (by rw [e] at gd; cases d <;> first | rfl | cases gd)
      exact ⟨d, ⟨c.σ, c.ρ.set i (frzSl _ d), plus c.F a, c.H⟩, rfl, rfl, z2, z1, h _ _ z2 z1⟩
    | ln d =>
      obtain ⟨a, h1, h2⟩ := s.sl i _ e
      obtain ⟨z1, z2, z3⟩ := StR.give s e rfl h1 (.inr rfl) (by rw [e] at gd; cases d <;> first | rfl | cases gd)
      exact ⟨d, ⟨c.σ, c.ρ.set i (frzSl _ d), plus c.F a, c.H⟩, rfl, rfl, z2, z1, h _ _ z2 z1⟩
theorem frz_steps : ∀ {is : List Nat} {c : Cf} {P : Unit → Cf → Prop} (s : Ok G L c) (h : Req G L W c (evFrz is c.ρ) P), ∃ (c1 : Cf), c1.σ = c.σ ∧ c1.H = c.H ∧ Ex G c c1 ∧ Ok G L c1 ∧ P () c1
  | [], c, P, s, h => ⟨c, rfl, rfl, Ext.refl, s, Req.here (r := ()) h s⟩
  | i :: is, c, P, s, h => by
    have h : Req G L W c (if gdS c.ρ[i]? then ((evVar i).bind fun _ => evFrz is) c.ρ else .no) P := h
    have gd : gdS c.ρ[i]? = true := Classical.byContradiction fun gd => by
      rw [if_neg gd] at h
      exact h.elim
    rw [if_pos gd] at h
    obtain ⟨d, c1, e1, e2, x1, s1, h1⟩ := frz_step s gd (Req.bind h)
    obtain ⟨c2, e3, e4, x2, s2, h2⟩ := frz_steps (is := is) s1 h1
    exact ⟨c2, e3.trans e1, e4.trans e2, x1.trans x2, s2, h2⟩
theorem SE.frz {e : Expr} {m : M Vl} (is : List Nat) (h : SE X W G L e m) : SE X W G L e ((evFrz is).bind fun _ => m) := by
  obtain ⟨t, p, q⟩ := h.ex
  refine ⟨t, p, fun c Q s r => ?_⟩
  obtain ⟨c1, e1, e2, x1, s1, h1⟩ := frz_steps s (Req.bind (f := fun _ => m) r)
  rw [← e1, ← e2]
  refine q c1 Q s1 (h1.imp fun r c2 _ _ x2 s2 h2 v rv => h2 v ?_)
  exact VR.base x1 rv
theorem SE.lamCall (is : List Nat) {T : List (Addr × Str)} {x a : Str} {st : Stmt} {fd : FuncData} {g c P : Addr} {k : Nat} {Ng : List Str} {bm : M Fl} {mb : M Vl} {params : Arguments} {bn : List Str} {body : Expr} {scope : Scope} {p lpos pos : Pos}
    (hg : Gl X x) (hm : X.mg x = some (.ref g)) (Fg : Fun X.K x x st g fd) (hk : PySem.W.keepIn X.K (.ref g) = true) (hbd : L2.Binds X.K fd [a] []) (Sg : FnScope Ng [a] (defScope st)) (hNg : Ng[0]? = some a) (hva : Vis (defScope st) a)
    (TG : TabG G T) (TB : LamX.TabB X.base X.mg c P) (hcode : X.env.code = .ref c) (hmT : (P, X.env.qual ++ "<lambda>") ∈ T) (hu : ∀ p ∈ T, p.1 = P → p.2 = X.env.qual ++ "<lambda>") (hr : RoomG (k + 2) X.A)
    (LS : LamS' X.N X.env.scope scope bn) (hB : LamB params bn)
    (hbody : ∀ (A : Around) (outer : List Env) (s : Shared) (H : Hp) (E : XK) (f c' : Addr), Bd (LamX.lamCx X A outer s H E scope f c') (fun cls d _ H' => E cls d H') k → SE (LamX.lamCx X A outer s H E scope f c') (fun cls d _ H' => E cls d H') G [] body mb)
    (hcal : ∀ (G' : Gc), G'.N = G.N → ∀ (cdv : Value) (A : Around) (outer : List Env) (s : Shared) (H : Hp) (E : XK) (L : Lt), Bd (cxOf (L2.CX X.prog X.w) X.prog X.w X.K X.mg X.base Ng x (defScope st) g cdv A outer s H E) (fun cls d _ H => E cls d H) (k + 1) →
      (∀ (W : WX) (pn : List (Addr × Obj)) (xe : Value → Shared → Prop) (p1 p2 : Pos), Takes ((cxOf (L2.CX X.prog X.w) X.prog X.w X.K X.mg X.base Ng x (defScope st) g cdv A outer s H E).tr pn xe) W →
        SD ((cxOf (L2.CX X.prog X.w) X.prog X.w X.K X.mg X.base Ng x (defScope st) g cdv A outer s H E).tr pn xe) W G' L (.Call (.Name a p1) [] [] p2) (evClo 0)) →
      SSs (cxOf (L2.CX X.prog X.w) X.prog X.w X.K X.mg X.base Ng x (defScope st) g cdv A outer s H E) (fun cls d _ H => E cls d H) G' L (defBody st) bm)
    (hdb : (x == ("__debug__" : Str)) = false := by decide) (hd : (a == ("__debug__" : Str)) = false := by decide) (hcd : (a == ("__classdict__" : Str)) = false := by decide) :
    SE X W G L (.Call (.Name x p) [.Lambda params body scope lpos] [] pos) (evLam (fnSem bm Ng.length) is mb) := SE.frz is (SE.lamCall0 hg hm Fg hk hbd Sg hNg hva TG TB hcode hmT hu hr LS hB hbody hcal hdb hd hcd)
end
end Ev

/-! EvX: the end of a law whose defs make lambdas. -/
namespace Ev
open PySem PySem.Spec PyProof.Rows L2
/-- the tables of code objects, beside what else is tracked -/
def tabH (cs : List (Addr × Addr)) (H : Hp) : Hp := fun b => if b ∈ cs.map (·.2) then some (.tbl #[]) else H b
theorem tabH_in {cs : List (Addr × Addr)} {H : Hp} {p : Addr × Addr} (m : p ∈ cs) : tabH cs H p.2 = some (.tbl #[]) := if_pos (List.mem_map.mpr ⟨p, m, rfl⟩)
theorem law_endT {P : Program} {w : World} {K : PySem.W.Frag} {mg mb : Str → Option Value} {k : Nat} {fa a : Addr} {fd : FuncData} {x : Str} {sp : Sp} {s₁ : Shared} {vs : List Value} {ns : List Int} {H : Hp} {cs : List (Addr × Addr)}
    (kin : K.In s₁.heap) (glob : s₁.heap.Ns mainGlobals mg) (blt : s₁.heap.Ns builtinsNs mb) (bltv : ∀ x : Str, x ≠ "__name__" → mb x = bootBuiltins x) (nolim : s₁.heap.NoLimit) (nogen : s₁.gens = #[])
    (tabAt : ∀ p ∈ cs, s₁.heap.get? p.2 = some { cls := .none, data := .fields #[] }) (tabK : ∀ p ∈ cs, K.lookup p.2 = none) (codeAt : ∀ p ∈ cs, PySem.W.CodeHd s₁.heap p.1 p.2)
    (main : ∃ (bm : Addr) (ob : Obj), mg "__builtins__" = some (.ref bm) ∧ bm ≠ builtinsNs ∧ s₁.heap.get? bm = some ob ∧ ob.cls = .type "module" ∧ ob.dict = some builtinsNs ∧ ob.data = .plain)
    (obj : s₁.heap.get? a = some { cls := .type "list", data := .seq vs.toArray }) (hH : (H = emptyH) ∨ (H = scriptH a { cls := .type "list", data := .seq vs.toArray } ns ∧ K.lookup a = none)) (hok : HOk P w H s₁.heap)
    (room : RoomG k callerA) (F : ∀ base : Heap, K.In base → base.Ns mainGlobals mg → (∀ p ∈ cs, LamX.TabB base mg p.1 p.2) → FnG P w K mg base (L2.CX P w) k fa fd [x] sp) (binds : ∀ (s : Shared) (u : Value), BindsTo s fd ⟨[u], []⟩ [(x, u)])
    (wish : sp [.ref a] (tabH cs H) (fun v _ => v = .bl true) fun _ _ _ => False) :
    codeAny (model P w) callerA (.call (.ref fa) ⟨[.ref a], []⟩) (fun r s' => r = .ok (.ret (.bool true)) ∧ OldK s₁.heap s'.heap ∧ s'.os = s₁.os ∧ AllBare s'.gens) s₁ := by
  have isTab : ∀ b, b ∈ cs.map (·.2) → s₁.heap.get? b = some { cls := .none, data := .fields #[] } ∧ K.lookup b = none := fun b m => by
    obtain ⟨p, mp, rfl⟩ := List.mem_map.mp m
    exact ⟨tabAt p mp, tabK p mp⟩
  have low0 : ∀ b u, H b = some u → b = a ∧ u = .frz { cls := .type "list", data := .seq vs.toArray } (.lst (ns.map V.int)) ∧ K.lookup a = none := by
    intro b u e
    rcases hH with rfl | ⟨rfl, hk⟩
    · cases e
    · unfold scriptH at e
      split at e
      · rename_i hb
        exact ⟨hb, (Option.some.inj e).symm, hk⟩
      · cases e
  -- what is tracked: the script, if anything, and the tables
  have only : ∀ b u, tabH cs H b = some u → (b ∈ cs.map (·.2) ∧ u = .tbl #[]) ∨ (H b = some u) := fun b u e => by
    unfold tabH at e
    split at e
    · rename_i m
      exact .inl ⟨m, (Option.some.inj e).symm⟩
    · exact .inr e
  have hokT : HOk P w (tabH cs H) s₁.heap := fun b u e => by
    rcases only b u e with ⟨m, rfl⟩ | q
    · exact (isTab b m).1
    · refine (hok b u q).stay (fun _ _ _ r => r) (fun c r => ?_) fun c xs r => ?_
      · obtain ⟨_, z, _⟩ := low0 _ _ r
        cases z
      · obtain ⟨_, z, _⟩ := low0 _ _ r
        cases z
  have low : ∀ {b : Addr} {o : Obj}, s₁.heap.get? b = some o → (∀ vs n, o.data ≠ .seq vs n) → o.data ≠ .fields #[] → (hidT s₁.heap (tabH cs H)).get? b = some o := fun {b o} e n1 n2 => hidT_get e (by
    cases q : tabH cs H b with
    | none => rfl
    | some u =>
      rcases only b u q with ⟨m, _⟩ | q
      · rw [(isTab b m).1] at e
        cases e
        exact absurd rfl n2
      · obtain ⟨rfl, _⟩ := low0 _ _ q
        rw [obj] at e
        cases e
        exact absurd rfl (n1 _ _))
  have lowNs : ∀ {b : Addr} {m : Str → Option Value}, s₁.heap.Ns b m → (hidT s₁.heap (tabH cs H)).Ns b m := fun {b m} ⟨o, es, ep, e, d, r⟩ =>
    ⟨o, es, ep, low e (fun vs n z => by rw [d] at z; cases z) (fun z => by rw [d] at z; cases z), d, r⟩
  have lowK : K.In (hidT s₁.heap (tabH cs H)) := fun b o e => hidT_get (kin b o e) (by
    cases q : tabH cs H b with
    | none => rfl
    | some u =>
      rcases only b u q with ⟨m, _⟩ | q
      · rw [(isTab b m).2] at e
        cases e
      · obtain ⟨rfl, _, hk⟩ := low0 _ _ q
        rw [hk] at e
        cases e)
  have TB : ∀ p ∈ cs, LamX.TabB (hidT s₁.heap (tabH cs H)) mg p.1 p.2 := fun p mp => by
    have atP := tabAt p mp
    refine ⟨?_, ?_, fun z => ?_⟩
    · obtain ⟨o, us, file, tf, flags, tg, inF, text, tt, e1, r1, r2, r3, rest⟩ := codeAt p mp
      refine ⟨o, us, file, tf, flags, tg, inF, text, tt, low e1 (fun vs n z => ?_) (fun z => ?_), r1, r2, r3, rest⟩
      · rw [r2] at z
        cases z
      · rw [r2] at z
        cases z
        simp at r3
    · obtain ⟨bm, ob, b1, b2, b3, b4, b5, b6⟩ := main
      refine ⟨bm, ob, b1, b2, fun q => ?_, fun q => ?_, low b3 (fun vs n z => ?_) (fun z => ?_), b4, b5, b6⟩
      · obtain ⟨o, es, ep, e, hd, _⟩ := glob
        rw [q, e] at b3
        cases b3
        rw [hd] at b6
        cases b6
      · rw [q, atP] at b3
        cases b3
        cases b6
      · rw [b6] at z
        cases z
      · rw [b6] at z
        cases z
    · obtain ⟨o, es, ep, e, hd, _⟩ := glob
      rw [z, atP] at e
      cases e
      cases hd
  obtain ⟨mc, hc1, hc2⟩ := nolim
  have ground : Env0 P w K mg (hidT s₁.heap (tabH cs H)) callerA [] s₁ (tabH cs H) := {
    frames := rfl
    mod := ⟨lowK, lowNs glob, ⟨mb, lowNs blt, bltv⟩, ⟨mc, lowNs hc1, hc2⟩⟩
    bs := fun b o e => of_hidT e
    bsz := Nat.le_of_eq (hidT_size _ _)
    funs := trivial
    frf := fun b hb => absurd (show b ∈ ([] : List Addr) from hb) List.not_mem_nil
    hok := hokT
    bare := .of_eq nogen }
  refine codeAny_mono ((F _ lowK (lowNs glob) TB).run callerA [] s₁ (tabH cs H) ⟨[.ref a], []⟩ [.ref a] [.ref a] _ _ room ground (binds s₁ (.ref a)) (.cons rfl .nil) wish) fun r s' out => ?_
  match r, out with
  | .error e, out =>
    obtain ⟨_, _, _, _, _, _, _, _, _, _, _, _, no⟩ := out
    exact no.elim
  | .ok .next, out => exact out.elim
  | .ok .brk, out => exact out.elim
  | .ok .cont, out => exact out.elim
  | .ok (.ret u), out =>
    obtain ⟨v, H', os, bare, un, hok', rel, yes⟩ := out
    have yes : v = .bl true := yes
    cases yes
    cases (show u = Value.bool true from rel)
    have rest : ∀ b o, b ∉ cs.map (·.2) → s₁.heap.get? b = some o → s'.heap.get? b = some o := fun b o n e => by
      cases q : tabH cs H b with
      | none => exact un.keep b o e q (fun z => absurd (show b ∈ ([] : List Addr) from z) List.not_mem_nil) List.not_mem_nil
      | some u =>
        rcases only b u q with ⟨m, _⟩ | q2
        · exact absurd m n
        · obtain ⟨rfl, rfl, _⟩ := low0 b u q2
          obtain ⟨e1, _⟩ := hok _ _ q2
          obtain ⟨e2, _⟩ := hok' _ _ (un.frzs _ _ _ q)
          rw [e] at e1
          cases e1
          exact e2
    refine ⟨rfl, ⟨fun b o e => ?_, fun b o e => ?_⟩, os, bare⟩
    · by_cases m : b ∈ cs.map (·.2)
      · obtain ⟨p, mp, rfl⟩ := List.mem_map.mp m
        obtain ⟨more, z⟩ := un.tbls p.2 #[] (tabH_in mp)
        rw [tabAt p mp] at e
        cases e
        refine .inr (.inl ⟨((codeAt p mp).tab (tabAt p mp)).isCodeTable, rfl, #[], more, rfl, ?_⟩)
        have y := hok' p.2 _ z
        rw [Array.empty_append] at y ⊢
        exact y
      · exact .inl (rest b o m e)
    · by_cases m : b ∈ cs.map (·.2)
      · obtain ⟨p, mp, rfl⟩ := List.mem_map.mp m
        obtain ⟨more, z⟩ := un.tbls p.2 #[] (tabH_in mp)
        exact ⟨_, hok' p.2 _ z⟩
      · exact ⟨o, rest b o m e⟩
/-- what is known of the law's def -/
def LawT (l : PySem.W.OpenLaw) (w : World) (K : PySem.W.Frag) (k : Nat) (x : Str) (φ : Fn) (mg : Str → Option Value) (fa : Addr) (h : Heap) : Prop :=
  ∃ (fd : FuncData) (G : Gc) (cs : List (Addr × Addr)), (∀ p ∈ cs, h.get? p.2 = some { cls := .none, data := .fields #[] }) ∧ (∀ p ∈ cs, K.lookup p.2 = none) ∧ (∀ p ∈ cs, PySem.W.CodeHd h p.1 p.2) ∧ (∀ (s : Shared) (u : Value), BindsTo s fd ⟨[u], []⟩ [(x, u)]) ∧
    G.N.scrK = scrKof K ∧ (∀ H, (∀ p ∈ cs, H p.2 = some (.tbl #[])) → G.tabs H) ∧ (∀ b, G.tb b → b ∈ cs.map (·.2)) ∧
    ∀ base : Heap, K.In base → base.Ns mainGlobals mg → (∀ p ∈ cs, LamX.TabB base mg p.1 p.2) → FnG l.prog w K mg base (L2.CX l.prog w) k fa fd [x] (spEv G φ 1)
theorem walk_evT {l : PySem.W.OpenLaw} {n k : Nat} {q : Program} {loose : List Str} {XP : (Str → Option Value) → Heap → Prop} {YP : World → Heap → Prop} {d : DefRec} {K : Params → PySem.W.Frag} {x : Str} {φ : Fn}
    (hn : l.most = some n) (hn2 : n ≤ sizeLine) (hdf : d.params.defaults = []) (room : Room k callerA)
    (hY : ∀ (w : World) (h : Heap), YP w h → (K w.params).In h)
    (F : ∀ (w : World) (mg : Str → Option Value) (fa : Addr) (h : Heap), YP w h → (K w.params).In h → h.Ns mainGlobals mg → mg d.name = some (.ref fa) → LawT l w (K w.params) k x φ mg fa h)
    (law : ∀ ns : List Int, ns.length ≤ n → (∀ z ∈ ns, Builtin.Int.intBits z ≤ 1048576) → ∃ outs, φ [.fz (.scr ns)] = .ok (.fz (.bl true)) outs) :
    PySem.W.WalkO q loose XP YP l.row.toRowW d [] (fun f vs => PySem.call f vs) := by
  refine Att.attach_callB hn hdf fun w s₀ s₁ mg mb fa o pm cd doc a vs ns GG Y ho hd hcd hmg hobj hints hlen hbits hg => ?_
  have KX := hY w _ Y
  obtain ⟨fd, G, cs, tabAt, tabK, codeAt, hb, hS, hT, hTb, hF⟩ := F w mg fa _ Y KX GG.T.g hmg
  have rv := vals_ints hints
  have roomG : RoomG k callerA := ⟨room, rfl⟩
  obtain ⟨outs, el⟩ := law ns hlen hbits
  have aT : a ∉ cs.map (·.2) := fun m => by
    obtain ⟨p, mp, rfl⟩ := List.mem_map.mp m
    have z := tabAt p mp
    rw [hobj] at z
    cases z
  have wish : ∀ (H : Hp) (F0 : Fz), (∀ b, F0 b → b = a ∧ ∃ o, H b = some o) → ((F0 a ∧ Rd (tabH cs H) a (.lst (ns.map V.int))) ∨ scrKof (K w.params) a ns) → spEv G φ 1 [.ref a] (tabH cs H) (fun v _ => v = .bl true) fun _ _ _ => False := by
    intro H F0 hF0 hr
    have one : ∀ {i : Nat} {s : Sl}, ([Sl.fz (.scr ns)])[i]? = some s → i = 0 ∧ s = Sl.fz (.scr ns) := fun {i s} e => by
      cases i with
      | zero => exact ⟨rfl, (Option.some.inj e).symm⟩
      | succ i => simp at e
    refine ⟨rfl, F0, [.fz (.scr ns)], fun s hs => ?_, ?_, ?_⟩
    · cases List.mem_singleton.mp hs
      rfl
    · refine ⟨rfl, fun i s e => ?_, fun i j s t b _ e w' => ?_, fun i b e => ?_, fun i d e => ?_, fun b f => ⟨?_, fun z => ?_⟩, hT _ fun p mp => tabH_in mp⟩
      · obtain ⟨rfl, rfl⟩ := one e
        exact ⟨_, rfl, .scr (by rw [hS]; exact hr)⟩
      · obtain ⟨_, rfl⟩ := one e
        cases w'
      · cases i with
        | zero => cases e
        | succ i => simp [lentOf] at e
      · rcases e with e | e <;> (obtain ⟨_, z⟩ := one e; cases z)
      · obtain ⟨rfl, o, e⟩ := hF0 b f
        exact ⟨o, (if_neg aT).trans e⟩
      · exact aT ((hF0 b f).1 ▸ hTb b z)
    · rw [el]
      intro F' H' x s' v rv
      cases rv
      rfl
  have lenV := hints.length
  cases hk : (K w.params).lookup a with
  | some o =>
    have e := KX a o hk
    rw [hobj] at e
    cases e
    refine law_endT KX GG.T.g GG.T.b GG.T.builtins GG.T.nolimit hg tabAt tabK codeAt GG.T.bmain hobj (H := emptyH) (ns := ns) (.inl rfl) (fun b u z => by cases z) roomG hF hb (wish _ (fun _ => False) (fun b f => f.elim) (.inr ⟨_, vs.toArray, _, hk, rfl, rfl, rfl, ?_, by simpa using rv⟩))
    rw [List.size_toArray, lenV]
    omega
  | none =>
    have at_ : scriptH a { cls := .type "list", data := .seq vs.toArray } ns a = some (.frz { cls := .type "list", data := .seq vs.toArray } (.lst (ns.map V.int))) := if_pos rfl
    refine law_endT KX GG.T.g GG.T.b GG.T.builtins GG.T.nolimit hg tabAt tabK codeAt GG.T.bmain hobj (H := scriptH a { cls := .type "list", data := .seq vs.toArray } ns) (ns := ns) (.inr ⟨rfl, hk⟩) (fun b u z => ?_) roomG hF hb (wish _ (fun b => b = a) (fun b f => by subst f; exact ⟨rfl, _, at_⟩) (.inl ⟨rfl, .inr ⟨_, (if_neg aT).trans at_⟩⟩))
    unfold scriptH at z
    split at z
    · rename_i hb'
      cases z
      subst hb'
      exact ⟨hobj, by rw [List.length_map]; omega, vs, _, rv, hobj⟩
    · cases z
end Ev

/-! EvY: own classes asked for, raised, read; defs held by names; defs that make lambdas. -/
namespace Ev
open PySem PySem.Spec PyProof.Rows L2
/-! ### isinstance against own classes -/
/-- what is known of the program's exception classes: own tells them, sub which is below which -/
structure ClsK (K : PySem.W.Frag) (N : Nm) (own : Nat → Bool) (sub : Nat → Nat → Bool) : Prop where
  ex : ∀ y c C1 C2, own y = true → own c = true → N.gm y = some (.ref C1) → N.gm c = some (.ref C2) → ExcC K C1 ∧ PySem.W.kitOne K (.ref C1) (.ref C2) = some (sub y c)
  ty : ∀ (t : Tg) c C2, own c = true → N.gm c = some (.ref C2) → PySem.W.kitOne K (.type t.nm) (.ref C2) = some false
def isoX (own : Nat → Bool) (sub : Nat → Nat → Bool) (c : Nat) : D → Option Bool
  | .exc y _ => if own y && own c then some (sub y c) else none
  | d => if own c then (tgOf d).map fun _ => false else none
def bIsX (own : Nat → Bool) (sub : Nat → Nat → Bool) : List D → Option Vl
  | [d, .gl c] => (isoX own sub c d).map fun b => .fz (.bl b)
  | l => bIsi l
section
variable {X : Cx} {W : WX} {G : Gc} {L : Lt} {own : Nat → Bool} {sub : Nat → Nat → Bool}
theorem tgOf_okG {F : Fz} {H : Hp} {v : V} {d : D} {t : Tg} (r : Rp G.N F H v d) (h : tgOf d = some t) : TyX X.K H v (.type t.nm) := tgOf_ok (G := G) r h
theorem bIsX_ok (hK : ClsK X.K G.N own sub) : CallOk X W G L (fun xs H Q => (rIsi X.K xs H Q ∨ rIsiT X.K xs H Q) ∨ rIsX X.K xs H Q) (bIsX own sub) := by
  intro c0 c ds vs Q es ex s r hr
  have other : Req G L W c (liftO (bIsi ds) c.ρ) (fun r c' => ∀ v, VR G c0 c' v r → Q v c'.H) → (rIsi X.K vs c.H Q ∨ rIsiT X.K vs c.H Q) ∨ rIsX X.K vs c.H Q := fun hr => .inl (bIsi_ok (X := X) c0 c ds vs Q es ex s r hr)
  unfold bIsX at hr
  split at hr
  · rename_i d y
    obtain ⟨w, er, hr⟩ := liftO_req hr
    obtain ⟨b, e, rfl⟩ := Option.map_eq_some_iff.mp er
    cases r with
    | @cons v1 _ _ _ r1 r2 =>
      cases r2 with
      | cons r2 r3 =>
        cases r3
        cases r2 with
        | @gl _ C2 eg =>
          have q := Req.here hr s (.bl b) (.bl b)
          have plain : ∀ t, tgOf d = some t → isoX own sub y d = (if own y then (tgOf d).map fun _ => false else none) → (rIsi X.K [v1, V.ref C2] c.H Q ∨ rIsiT X.K [v1, V.ref C2] c.H Q) ∨ rIsX X.K [v1, V.ref C2] c.H Q := fun t et ei => by
            rw [ei] at e
            by_cases ho : own y = true
            · rw [if_pos ho, et] at e
              cases e
              exact .inl (.inl ⟨_, _, _, _, false, rfl, .own C2, tgOf_okG (G := G) r1 et, hK.ty t y C2 ho eg, q⟩)
            · rw [if_neg ho] at e
              cases e
          cases d with
          | exc z fs =>
            have e : (if own z && own y then some (sub z y) else none) = some b := e
            by_cases ho : (own z && own y) = true
            · rw [if_pos ho] at e
              cases e
              obtain ⟨o1, o2⟩ := Bool.and_eq_true_iff.mp ho
              cases r1 with
              | @exc a C dd _ xs _ eg1 fa fd ea ed rf =>
                obtain ⟨k1, k2⟩ := hK.ex z y C C2 o1 o2 eg1 eg
                exact .inr ⟨a, C, dd, xs, C2, _, rfl, k1, ea, ed, k2, q⟩
            · rw [if_neg ho] at e
              cases e
          | non => exact plain _ rfl rfl
          | bl k => exact plain _ rfl rfl
          | int k => exact plain _ rfl rfl
          | str k => exact plain _ rfl rfl
          | lst k => exact plain _ rfl rfl
          | tup k => exact plain _ rfl rfl
          | dic k => exact plain _ rfl rfl
          | dct l => by_cases ho : own y = true <;> simp [isoX, ho, tgOf] at e
          | scr l => by_cases ho : own y = true <;> simp [isoX, ho, tgOf] at e
          | gl n => by_cases ho : own y = true <;> simp [isoX, ho, tgOf] at e
          | ty n => by_cases ho : own y = true <;> simp [isoX, ho, tgOf] at e
          | obj n fs => by_cases ho : own y = true <;> simp [isoX, ho, tgOf] at e
  · exact other hr
theorem call_isiX : CallR X (.builtin "isinstance") (fun xs H Q => (rIsi X.K xs H Q ∨ rIsiT X.K xs H Q) ∨ rIsX X.K xs H Q) := CallR.or call_isi' call_isX
theorem SE.isinstX {e : Expr} {es : List Expr} {p pos : Pos} {m : M (List D)} (hK : ClsK X.K G.N own sub) (hg : Gl X "isinstance") (hm : X.mg "isinstance" = none) (ha : SA X W G L (e :: es) m) (he : starEach (e :: es) X.env = (false, eval e X.env) :: starEach es X.env := by rfl) (hpl : (backTo pos (starEach es X.env)).any (·.1) = false := by rfl) : SE X W G L (.Call (.Name "isinstance" p) (e :: es) [] pos) (evC (bIsX own sub) m) := SE.callB call_isiX (bIsX_ok hK) hg hm bt_isinstance ha (by decide) (by decide) he hpl
/-! ### exceptions: raised, caught, read -/
theorem SS.raiseN {x f : Nat} {cn fn : Str} {C fI : Addr} {k : Nat} {fd : FuncData} {ps : List Str} {e : Expr} {m : M D} {p p2 pos' : Pos} (hf : G.N.fn f = fn) (hc : X.calm = true) (tk : Takes X W) (T : OexC X.K C) (eg : G.N.gm x = some (.ref C))
    (hno : PySem.W.findIn X.K (.ref C) fn = some none) (iC : PySem.W.findIn X.K (.ref C) "__init__" = some (some (.ref fI))) (tI : PySem.W.typeIn X.K (.ref fI) = some (.type "function"))
    (F1 : FnOk X.prog X.w X.K X.mg X.base CX0 k fI fd ps (spOne X.K fn)) (hr : RoomG (k + 1) X.A) (hb : L2.Binds X.K fd ps []) (hg : Gl X cn) (hm : X.mg cn = some (.ref C)) (he : SD X W G L e m)
    (hdb : (cn == ("__debug__" : Str)) = false := by decide) (hs : starEach [e] X.env = (false, eval e X.env) :: starEach [] X.env := by rfl) (hpl : (backTo p2 (starEach [] X.env)).any (·.1) = false := by rfl) :
    SS X W G L (.Raise (some (.Call (.Name cn p) [e] [] p2)) none pos') (mRaise x f m) := by
  subst hf
  exact SS.raise1 hc tk T eg hno iC tI F1 hr.room hb pass0 hg hm he hdb hs hpl
def fFldC (own : Nat → Bool) (f : Nat) : D → Option Vl
  | .exc y fs => if own y then (fs.lookup f).map .fz else none
  | _ => none
theorem SE.fldC {f : Nat} {n : Str} {e : Expr} {pos : Pos} {m : M D} (hf : G.N.fn f = n) (he : SD X W G L e m) (hX : ∀ y C, own y = true → G.N.gm y = some (.ref C) → XfC X.K C ∧ PySem.W.findIn X.K (.ref C) n = some none) (hb : attributeBase e n X.env (eval e X.env) = eval e X.env := by rfl) : SE X W G L (.Attribute e n pos) (ev1 (fFldC own f) m) := by
  subst hf
  obtain ⟨t, p, q⟩ := he.ex
  refine ⟨_, pe_fld p hb, fun c Q s h => ?_⟩
  refine q c _ s ((Req.bind h).imp fun d c1 _ e1 x1 s1 h1 v rv => ?_)
  cases d with
  | exc y fs =>
    obtain ⟨r, er, hr⟩ := liftO_req h1
    have er : (if own y then (fs.lookup f).map Vl.fz else none) = some r := er
    by_cases ho : own y = true
    · rw [if_pos ho] at er
      obtain ⟨d2, e2, rfl⟩ := Option.map_eq_some_iff.mp er
      cases rv with
      | @exc a C dx c0 xs ds eg fa fd ea ed rf =>
        obtain ⟨y2, l, r2⟩ := rf.lookup e2
        obtain ⟨T, hno⟩ := hX y C ho eg
        exact ⟨a, C, dx, xs, y2, rfl, T, hno, ea, ed, l, Req.here hr s1 _ r2⟩
    · rw [if_neg ho] at er
      cases er
  | _ => exact (show False from h1).elim
def tstO (own : Nat → Bool) (y : Nat) : Option Bool := if own y then some true else none
theorem tstO_ok {K : PySem.W.Frag} {N : Nm} {CS : Addr} (h : ∀ y C, own y = true → N.gm y = some (.ref C) → PySem.W.exmOne K (.ref C) (.ref CS) = some true) : ∀ y t, tstO own y = some t → ∀ C, N.gm y = some (.ref C) → PySem.W.exmOne K (.ref C) (.ref CS) = some t := fun y t e C eg => by
  unfold tstO at e
  split at e
  · rename_i ho
    cases e
    exact h y C ho eg
  · cases e
/-! ### a name that holds a def -/
def defOf (tbl : Nat → Option (Fn × Nat)) : D → Option (Fn × Nat)
  | .gl n => tbl n
  | _ => none
def runV (m : M (List Ar)) : Option (Fn × Nat) → M Vl
  | some (φ, k) => m.bind fun as => if as.length = k then callAr φ as else fun _ => .no
  | none => fun _ => .no
def evCallV (i : Nat) (tbl : Nat → Option (Fn × Nat)) (m : M (List Ar)) : M Vl := (evVar i).bind fun fv => runV m (defOf tbl fv)
theorem SE.callV {i k : Nat} {x : Str} {tbl : Nat → Option (Fn × Nat)} {e : Expr} {es : List Expr} {p pos : Pos} {m : M (List Ar)} (hN : X.N[i]? = some x) (hv : Vis X.env.scope x) (hr : RoomG k X.A) (tk : Takes X W)
    (ht : ∀ n φ j, tbl n = some (φ, j) → ∀ f, G.N.gm n = some (.ref f) → ∃ fd ps, FnG X.prog X.w X.K X.mg X.base (L2.CX X.prog X.w) k f fd ps (spEv G φ j) ∧ PySem.W.keepIn X.K (.ref f) = true ∧ L2.Binds X.K fd ps [])
    (ha : SR X W G L (e :: es) m) (hd : (x == ("__debug__" : Str)) = false := by decide) (hcd : (x == ("__classdict__" : Str)) = false := by decide) (he : starEach (e :: es) X.env = (false, eval e X.env) :: starEach es X.env := by rfl) (hpl : (backTo pos (starEach es X.env)).any (·.1) = false := by rfl) :
    SE X W G L (.Call (.Name x p) (e :: es) [] pos) (evCallV i tbl m) := by
  obtain ⟨t, pa, qa⟩ := ha.ex
  obtain ⟨t0, p0, q0⟩ := (SD.var (X := X) (W := W) (G := G) (L := L) (pos := p) i hN hv hd hcd).ex
  refine ⟨tE G L (evCallV i tbl m) W, ⟨fun pins s σ H Q I h => ?_⟩, fun c Q s h => ⟨c, rfl, rfl, s, h⟩⟩
  obtain ⟨c, rfl, rfl, ok, h⟩ := h
  -- the reading of the name, then of the arguments, then of the call
  refine wpAny_Call_Name_kw (thn (p0.run pins s c.σ c.H (fun v H1 => ∃ (d : D) (c1 : Cf), c1.σ = c.σ ∧ c1.H = H1 ∧ Ex G c c1 ∧ Ok G L c1 ∧ Rp G.N c1.F c1.H v d ∧ Req G L W c1 (runV m (defOf tbl d) c1.ρ) (fun r c' => ∀ v, VR G c c' v r → Q v c'.H)) I
    (q0 c _ ok ((Req.bind h).imp fun d c1 _ e1 x1 s1 h1 v rv => ⟨d, c1, e1, rfl, x1, s1, rv, h1⟩))) fun u s1 got => ?_)
  obtain ⟨v, H1, I1, rel, d, c1, e1, rfl, x1, s1', rv, h1⟩ := got
  cases ed : defOf tbl d with
  | none => rw [ed] at h1; exact h1.elim
  | some pr =>
    obtain ⟨φ, j⟩ := pr
    rw [ed] at h1
    obtain ⟨n, rfl⟩ : ∃ n, d = .gl n := by
      cases d with
      | gl n => exact ⟨n, rfl⟩
      | _ => cases ed
    cases rv with
    | @gl _ f eg =>
      cases (show u = Value.ref f from rel)
      obtain ⟨fd, ps, F, hk, hb⟩ := ht n φ j ed f eg
      have I1 : L2.Inv X pins c1.σ c1.H s1 := e1 ▸ I1
      have run := pa.run pos pins s1 c1.σ c1.H (fun vs H2 => spEv G φ j vs H2 Q (fun cls d H' => W cls d c.σ H')) I1 (qa c1 _ s1' ((Req.bind h1).imp fun as c2 _ e2 x2 s2 h2 vs r => ?_))
      · refine PySem.W.callWith_K (h₀ := X.base) I1.ok.mod.kin hk (thn run fun us s2 ⟨vs, H2, I2, r, q⟩ => ⟨I2.kIn, ?_⟩) he hpl
        have I2 : L2.Inv X pins c.σ H2 s2 := e1 ▸ I2
        exact run_fnG F hr (KBinds.ofPos hb) tk I2 r (zs := []) (ws := []) .nil q
      · by_cases hn : as.length = j
        · rw [if_pos hn] at h2
          have h3 : Req G L W c2 (callAr φ as c2.ρ) (fun r c' => ∀ v, VR G c2 c' v r → Q v c'.H) := h2.imp fun r c3 _ _ x3 s3 h3 v rv => h3 v (VR.base (x1.trans x2) rv)
          rw [← e1, ← e2]
          exact call_req s2 r ((Paired.length r).trans hn) h3
        · rw [if_neg hn] at h2
          exact h2.elim
end
/-! ### a def that makes lambdas: its code object is known -/
theorem fn_soundC {P : Program} {w : World} {K : PySem.W.Frag} {mg : Str → Option Value} {base : Heap} {G : Gc} {x qual : Str} {st : Stmt} {f : Addr} {fd : FuncData} {N ps : List Str} {k : Nat} {m : M Fl} (F : Fun K x qual st f fd) (S : FnScope N ps (defScope st))
    (hbody : ∀ (cdv : Value) (A : Around) (outer : List Env) (s : Shared) (H : Hp) (E : XK) (L : Lt), fd.code = cdv → Bd (cxOf (L2.CX P w) P w K mg base N qual (defScope st) f cdv A outer s H E) (fun cls d _ H => E cls d H) k →
      SSs (cxOf (L2.CX P w) P w K mg base N qual (defScope st) f cdv A outer s H E) (fun cls d _ H => E cls d H) G L (defBody st) m) :
    FnG P w K mg base (L2.CX P w) (k + 1) f fd ps (spEv G (fnSem m N.length) ps.length) := by
  obtain ⟨oc, od, kV, doc, pm, an, cdv, ct, osl, rfl, lk, hcd⟩ := F.ex
  refine fn_ofG lk hcd S (fun vs H Q E h => h.1) fun A outer s H vs Q E hr hsp => ?_
  obtain ⟨hv, F0, as, hcl, ok, hq⟩ := hsp
  have hpl : ps.length ≤ N.length := by have := congrArg List.length S.pre; rw [List.length_take] at this; omega
  obtain ⟨t, p, q⟩ := (hbody cdv A outer s H E (lentOf vs as) rfl ⟨rfl, passes_of rfl, takes_of rfl rfl rfl rfl, hr⟩).ex
  exact ⟨t, p, q (bodyC N vs as F0 H) _ (body_ok ok (by omega) fun i a e => lentOf_get e) (fnSem_req ok (by omega) hcl hq)⟩
/-! ### the fields' names -/
def fnOfL (l : List Str) (i : Nat) : Str := (l[i]?).getD ⟨Array.replicate (1000 + i) 0⟩
theorem fnOfL_inj {l : List Str} (nd : l.Nodup) (short : ∀ s ∈ l, s.cps.size < 1000) : ∀ i j, fnOfL l i = fnOfL l j → i = j := fun i j e => by
  unfold fnOfL at e
  have big : ∀ (n : Nat), ((⟨Array.replicate (1000 + n) 0⟩ : Str)).cps.size = 1000 + n := fun n => by simp
  cases h1 : l[i]? with
  | none =>
    cases h2 : l[j]? with
    | none =>
      rw [h1, h2] at e
      have := congrArg (fun s : Str => s.cps.size) e
      simp at this
      exact this
    | some y =>
      rw [h1, h2] at e
      have := congrArg (fun s : Str => s.cps.size) e
      simp at this
      have := short y (List.mem_of_getElem? h2)
      omega
  | some x =>
    cases h2 : l[j]? with
    | none =>
      rw [h1, h2] at e
      have := congrArg (fun s : Str => s.cps.size) e
      simp at this
      have := short x (List.mem_of_getElem? h1)
      omega
    | some y =>
      rw [h1, h2] at e
      cases (show x = y from e)
      obtain ⟨hi, e1⟩ := List.getElem?_eq_some_iff.mp h1
      obtain ⟨hj, e2⟩ := List.getElem?_eq_some_iff.mp h2
      exact (List.getElem_inj nd).mp (e1.trans e2.symm)
/-! ### the tables, as objects come and go -/
theorem tabs_upd {T : List (Addr × Str)} {H : Hp} {p : Addr} {o : HO} (h : LamX.Tabs T H) (hp : H p = none ∨ ∃ u, H p = some u ∧ isMut u = true) : LamX.Tabs T (upd H p o) := fun q mq => by
  obtain ⟨ps, h1, h2, h3⟩ := h q mq
  have away : ∀ {b u}, H b = some u → isMut u = false → b ≠ p := fun {b u} e m z => by
    subst z
    rcases hp with n | ⟨v, n, w⟩
    · rw [e] at n
      cases n
    · rw [e] at n
      cases n
      rw [m] at w
      cases w
  refine ⟨ps, (upd_ne (away h1 rfl)).trans h1, h2, fun pos cv hc => ?_⟩
  obtain ⟨c, e1, e2⟩ := h3 pos cv hc
  exact ⟨c, e1, (upd_ne (away e2 rfl)).trans e2⟩
theorem tabs_set {T : List (Addr × Str)} {H : Hp} {p : Addr} {u o : HO} (h : LamX.Tabs T H) (e : H p = some u) (n : notTab u) : LamX.Tabs T (upd H p o) := fun q mq => by
  obtain ⟨ps, h1, h2, h3⟩ := h q mq
  have off : ∀ {b v}, H b = some v → v ≠ u → b ≠ p := fun {b v} e2 ne z => by
    subst z
    rw [e] at e2
    exact ne (Option.some.inj e2).symm
  refine ⟨ps, (upd_ne (off h1 fun z => n.1 _ z.symm)).trans h1, h2, fun pos cv hc => ?_⟩
  obtain ⟨c, e1, e2⟩ := h3 pos cv hc
  exact ⟨c, e1, (upd_ne (off e2 fun z => n.2.2 _ _ z.symm)).trans e2⟩
theorem tabs_at {T : List (Addr × Str)} {H : Hp} {a : Addr} (h : LamX.Tabs T H) (ha : ∃ p ∈ T, p.1 = a) : ∃ ps, H a = some (.tbl ps) := by
  obtain ⟨p, mp, rfl⟩ := ha
  obtain ⟨ps, e, _⟩ := h p mp
  exact ⟨ps, e⟩
theorem Bd.mono {X : Cx} {W : WX} {j k : Nat} (B : Bd X W k) (h : j ≤ k) : Bd X W j := ⟨B.calm, B.hp, B.tk, B.room.mono h⟩
end Ev

/-! EvQz: zip and enumerate over lists and tuples, in any mixture. -/
namespace Ev
open PySem PySem.Spec PyProof.Rows L2
/-- a list or a tuple -/
inductive Sk where | l | t
namespace Sk
def itr : Sk → Heap → Addr → Addr → Nat → Prop
  | .l => Heap.IsListIter
  | .t => Heap.IsTupleIter
def seq : Sk → Heap → Addr → Array Value → Prop
  | .l => Heap.IsList
  | .t => Heap.IsTuple
def sq : Sk → PySem.W.Frag → Hp → Addr → List V → Prop
  | .l => SqL
  | .t => SqT
def cls : Sk → String
  | .l => "list_iterator"
  | .t => "tuple_iterator"
def new (k : Sk) (a : Addr) : Obj := { cls := .type k.cls, data := .fields #[.ref a, .int 0 0] }
theorem draws (k : Sk) {prog : Program} {w : World} {A : Around} (hh : A.handled = none) (i a : Addr) (ne : a ≠ i) (its : Array Value) : Draws prog w A i [i, a] its.size (fun j v => its[j]? = some v) (fun j h => k.itr h i a j ∧ k.seq h a its) := by
  cases k
  · exact Draws.list hh i a ne its
  · exact Draws.tuple hh i a ne its
theorem begins (k : Sk) (a : Addr) (its : Array Value) : Begins (.ref a) (k.new a) fun h => k.seq h a its := by
  cases k
  · exact begins_list a its
  · exact begins_tuple a its
theorem itr_at (k : Sk) {h h' : Heap} {i a : Addr} {j : Nat} (x : k.itr h i a j) (e : ∀ o, h.get? i = some o → h'.get? i = some o) : k.itr h' i a j := by
  cases k
  · exact Heap.IsListIter.at x e
  · exact Heap.IsTupleIter.at x e
theorem itr_ob (k : Sk) {h : Heap} {i a : Addr} {j : Nat} (x : k.itr h i a j) : ∃ o, h.get? i = some o ∧ o.data = .fields #[.ref a, .int j 0] := by
  cases k <;> (obtain ⟨o, e, _, d⟩ := x; exact ⟨o, e, d⟩)
theorem itr_new (k : Sk) {h : Heap} {i a : Addr} (e : h.get? i = some (k.new a)) : k.itr h i a 0 := by
  cases k <;> exact ⟨_, e, rfl, rfl⟩
theorem seq_sz (k : Sk) {h : Heap} {a : Addr} {its : Array Value} (x : k.seq h a its) : a < h.objs.size := by
  cases k <;> (obtain ⟨o, e, _⟩ := x; exact Heap.lt_size e)
section
variable {X : Cx} {pins : List (Addr × Obj)} {σ : L2.St} {H : Hp} {s : Shared} {a : Addr} {xs ys : List V}
theorem get (k : Sk) (I : Inv X pins σ H s) (q : k.sq X.K H a xs) : ∃ its : List Value, Vals xs its ∧ k.seq s.heap a its.toArray := by
  cases k with
  | l => obtain ⟨its, r, p, _⟩ := I.list q; exact ⟨its, r, p.isList⟩
  | t => obtain ⟨its, r, p, _⟩ := I.tuple q; exact ⟨its, r, p⟩
theorem inj (k : Sk) (I : Inv X pins σ H s) (q : k.sq X.K H a ys) (r : k.sq X.K H a xs) : ys = xs := by
  cases k with
  | l => exact I.list_inj q r
  | t => exact I.tuple_inj q r
end
end Sk
/-- what two sequences hold at each turn, in new pairs -/
def ItZ (K : PySem.W.Frag) (k1 k2 : Sk) (a b : Addr) : It :=
  ⟨fun i H => ∃ xs ys x y, k1.sq K H a xs ∧ k2.sq K H b ys ∧ xs[i]? = some x ∧ ys[i]? = some y,
   fun i H v H' => ∃ T x y, v = .ref T ∧ H T = none ∧ H' = upd H T (.tup [x, y]) ∧ (∀ xs, k1.sq K H a xs → xs[i]? = some x) ∧ ∀ ys, k2.sq K H b ys → ys[i]? = some y,
   fun i H => ∃ xs ys, k1.sq K H a xs ∧ k2.sq K H b ys ∧ i ≤ xs.length ∧ i ≤ ys.length ∧ (i = xs.length ∨ i = ys.length)⟩
theorem sep_of {z TI TO i1 i2 a b : Addr} (D : ZipApart z TI TO i1 i2 a b) : ZipSep2 z TI TO i1 i2 [i1, a] [i2, b] := by
  obtain ⟨d1, d2, d3, d4, d5, d6, d7, d8, d9, d10, d11, d12, d13, d14, d15, d16, d17, d18⟩ := D
  refine ⟨d1, d2, d5, d6, by simp, ?_, ?_, d7, by simp, ?_, ?_, ?_, ?_⟩ <;> simp only [List.mem_cons, List.not_mem_nil, or_false, not_or] <;> constructor
  · exact d3.symm
  · exact d11.symm
  · exact d8
  · exact d12.symm
  · exact d4.symm
  · exact d15.symm
  · exact d9
  · exact d16.symm
  · exact d10
  · exact d17.symm
  · exact d10.symm
  · exact d14.symm
section
variable {P : Program} {w : World} {K : PySem.W.Frag} {elts : List Expr} {kk : Nat} {tpos : Pos}
theorem turnZ (k1 k2 : Sk) {a b z TI TO i1 i2 : Addr} (D : ZipApart z TI TO i1 i2 a b) : Turn P w K (.Tuple elts kk tpos) (ItZ K k1 k2 a b) [z, TI, TO, i1, i2] z
    (fun i h => IsZip h z TI TO .none ∧ IsPair h TI (.ref i1) (.ref i2) ∧ (∃ u v, IsPair h TO u v) ∧ k1.itr h i1 a i ∧ k2.itr h i2 b i) where
  mem := List.mem_cons_self
  obj := fun i h st c hc => by
    obtain ⟨q1, q2, ⟨u, v, q3⟩, q4, q5⟩ := st
    obtain ⟨o4, e4, d4⟩ := k1.itr_ob q4
    obtain ⟨o5, e5, d5⟩ := k2.itr_ob q5
    simp only [List.mem_cons, List.not_mem_nil, or_false] at hc
    rcases hc with rfl | rfl | rfl | rfl | rfl
    · exact ⟨_, q1, fun _ n => nomatch n⟩
    · exact ⟨_, q2, fun _ n => nomatch n⟩
    · exact ⟨_, q3, fun _ n => nomatch n⟩
    · exact ⟨o4, e4, fun _ n => by rw [d4] at n; cases n⟩
    · exact ⟨o5, e5, fun _ n => by rw [d5] at n; cases n⟩
  keep := fun i h h' st k => by
    obtain ⟨q1, q2, ⟨u, v, q3⟩, q4, q5⟩ := st
    exact ⟨k _ (by simp) _ q1, k _ (by simp) _ q2, ⟨u, v, k _ (by simp) _ q3⟩, k1.itr_at q4 (k _ (by simp)), k2.itr_at q5 (k _ (by simp))⟩
  item := by
    intro X eP ew eK hc i pins s σ H E I hf st hg
    subst eP ew eK
    obtain ⟨q1, q2, ⟨u0, v0, q3⟩, q4, q5⟩ := st
    obtain ⟨xs, ys, x, y, gx, gy, hx, hy⟩ := hg
    obtain ⟨is, rv, p⟩ := k1.get I gx
    obtain ⟨js, rw_, p2⟩ := k2.get I gy
    obtain ⟨u, hu, ru⟩ := rv.get hx
    obtain ⟨v, hv, rv2⟩ := rw_.get hy
    have hh : X.A.in1.handled = none := I.ok.hd hc
    have lu := (List.getElem?_eq_some_iff.mp hu).1
    have lv := (List.getElem?_eq_some_iff.mp hv).1
    have zl := Heap.lt_size q1
    refine wpAny_pyNext_zipD2_item (sep_of D) (k1.draws hh i1 a D.l1i1 is.toArray) (k2.draws hh i2 b D.l2i2 js.toArray) q1 q2 q3 ⟨q4, p⟩ ⟨q5, p2⟩ (by simpa using lu) (by simpa using lv) fun x1 x2 h' tk y1 y2 z' T' t1 t2 nT _ kp => ?_
    have ex : x1 = u := by
      have y1 : is.toArray[i]? = some x1 := y1
      rw [List.getElem?_toArray, hu] at y1
      exact (Option.some.inj y1).symm
    have ey : x2 = v := by
      have y2 : js.toArray[i]? = some x2 := y2
      rw [List.getElem?_toArray, hv] at y2
      exact (Option.some.inj y2).symm
    subst ex ey
    refine ⟨_, rfl, wpAny_letOwnedTupleGo_zip (s := ⟨h', s.gens, s.drawn, tk, s.os⟩) z' fun h2 z2 sb => ?_⟩
    have nT2 : h2.get? s.heap.objs.size = some { cls := .type "tuple", data := .seq #[x1, x2] } := (sb.2 _ (Nat.ne_of_gt zl)).trans nT
    have two : (2 : Nat) ≤ sizeLine := by decide
    have nw : ObjOk X.prog X.w (upd H s.heap.objs.size (.tup [x, y])) h2 s.heap.objs.size (.tup [x, y]) := ⟨two, [x1, x2], .cons ru (.cons rv2 .nil), ⟨_, nT2, rfl, _, rfl⟩⟩
    have out : ∀ c o, c ∉ [z, TI, TO, i1, i2] → s.heap.get? c = some o → h2.get? c = some o := fun c o n e => by
      simp only [List.mem_cons, List.not_mem_nil, or_false, not_or] at n
      exact (sb.2 c n.1).trans (kp c o n.1 n.2.2.1 n.2.2.2.1 n.2.2.2.2 e)
    have I1 := I.turnedNew (t' := tk) (ch := [z, TI, TO, i1, i2]) out hf (Nat.le_refl _) nw
    have nz : H s.heap.objs.size = none := I.hok.fresh (Nat.le_refl _)
    refine ⟨.ref s.heap.objs.size, _, I1, rfl, ⟨_, x, y, rfl, nz, rfl, fun l hl => by rw [k1.inj I hl gx]; exact hx, fun l hl => by rw [k2.inj I hl gy]; exact hy⟩, ⟨z2, ?_, ⟨x1, x2, ?_⟩, ?_, ?_⟩, fun c hcm => ?_⟩
    · exact (sb.2 TI D.TIz).trans (kp TI _ D.TIz D.TITO D.TIi1 D.TIi2 q2)
    · exact (sb.2 TO D.TOz).trans T'
    · exact k1.itr_at t1.1 fun o e => (sb.2 i1 D.i1z).trans e
    · exact k2.itr_at t2.1 fun o e => (sb.2 i2 D.i2z).trans e
    · have lt : c < s.heap.objs.size := by
        obtain ⟨o4, e4, _⟩ := k1.itr_ob q4
        obtain ⟨o5, e5, _⟩ := k2.itr_ob q5
        have l4 := Heap.lt_size e4
        have l5 := Heap.lt_size e5
        have l2 := Heap.lt_size q2
        have l3 := Heap.lt_size q3
        simp only [List.mem_cons, List.not_mem_nil, or_false] at hcm
        rcases hcm with rfl | rfl | rfl | rfl | rfl <;> assumption
      have cn : H c = none := (hf c hcm).1
      rw [upd_ne (Nat.ne_of_lt lt)]
      exact cn
  done := by
    intro X eP ew eK hc i pins s σ H E I hf st hg
    subst eP ew eK
    obtain ⟨q1, q2, ⟨u0, v0, q3⟩, q4, q5⟩ := st
    obtain ⟨xs, ys, gx, gy, l1, l2, he⟩ := hg
    obtain ⟨is, rv, p⟩ := k1.get I gx
    obtain ⟨js, rw_, p2⟩ := k2.get I gy
    have e1 := rv.length
    have e2 := rw_.length
    have hh : X.A.in1.handled = none := I.ok.hd hc
    refine wpAny_pyNext_zipD2_end (sep_of D) (k1.draws hh i1 a D.l1i1 is.toArray) (k2.draws hh i2 b D.l2i2 js.toArray) q1 q2 q3 ⟨q4, p⟩ ⟨q5, p2⟩ (by rw [List.size_toArray]; omega) (by rw [List.size_toArray]; omega) (by rw [List.size_toArray, List.size_toArray]; omega) fun h' tk kp => ⟨rfl, ?_⟩
    exact I.turnedL (t' := tk) (ch := [z, TI, TO, i1, i2]) (fun c o n e => by
      simp only [List.mem_cons, List.not_mem_nil, or_false, not_or] at n
      exact kp c o n.1 n.2.2.1 n.2.2.2.1 n.2.2.2.2 e) hf
  self := fun A i s Q E st h => wpAny_pyIter_zip st.1 h
/-- what a sequence holds at each turn, counted from 0 on -/
def ItE (K : PySem.W.Frag) (k : Sk) (a : Addr) : It :=
  ⟨fun i H => ∃ xs x, k.sq K H a xs ∧ xs[i]? = some x, fun i H v H' => ∃ T x, v = .ref T ∧ H T = none ∧ H' = upd H T (.tup [.int (i : Nat), x]) ∧ ∀ xs, k.sq K H a xs → xs[i]? = some x,
   fun i H => ∃ xs, k.sq K H a xs ∧ i = xs.length⟩
theorem turnE (k : Sk) {a e it : Addr} (ne : e ≠ it) (na : a ≠ it) (nb : e ≠ a) : Turn P w K (.Tuple elts kk tpos) (ItE K k a) [e, it] e (fun i h => (∃ old, IsEnum h e it ((i : Nat) : Int) old) ∧ k.itr h it a i) where
  mem := List.mem_cons_self
  obj := fun i h st c hc => by
    obtain ⟨⟨old, q1⟩, q2⟩ := st
    obtain ⟨o, e2, d2⟩ := k.itr_ob q2
    simp only [List.mem_cons, List.not_mem_nil, or_false] at hc
    rcases hc with rfl | rfl
    · exact ⟨_, q1, fun _ n => nomatch n⟩
    · exact ⟨o, e2, fun _ n => by rw [d2] at n; cases n⟩
  keep := fun i h h' st kp => by
    obtain ⟨⟨old, q1⟩, q2⟩ := st
    exact ⟨⟨old, kp _ (by simp) _ q1⟩, k.itr_at q2 (kp _ (by simp))⟩
  item := by
    intro X eP ew eK hc i pins s σ H E I hf st hg
    subst eP ew eK
    obtain ⟨⟨old, q1⟩, q2⟩ := st
    obtain ⟨xs, x, gx, hx⟩ := hg
    obtain ⟨is, rv, p⟩ := k.get I gx
    obtain ⟨u, hu, ru⟩ := rv.get hx
    have hh : X.A.in1.handled = none := I.ok.hd hc
    have lu := (List.getElem?_eq_some_iff.mp hu).1
    have el := Heap.lt_size q1
    refine wpAny_pyNext_enum_itemC (k.draws hh it a na is.toArray) q1 ⟨q2, p⟩ (by simpa using lu) ne (by simp only [List.mem_cons, List.not_mem_nil, or_false, not_or]; exact ⟨ne, nb⟩) fun x1 h' tk y1 o' t1 nT _ kp => ?_
    have ex : x1 = u := by
      have y1 : is.toArray[i]? = some x1 := y1
      rw [List.getElem?_toArray, hu] at y1
      exact (Option.some.inj y1).symm
    subst ex
    refine ⟨_, rfl, wpAny_letOwnedTupleGo_enum (s := ⟨h', s.gens, s.drawn, tk + 1, s.os⟩) o' fun h2 z2 sb => ?_⟩
    have nT2 : h2.get? s.heap.objs.size = some { cls := .type "tuple", data := .seq #[.int (i : Nat) tk, x1] } := (sb.2 _ (Nat.ne_of_gt el)).trans nT
    have two : (2 : Nat) ≤ sizeLine := by decide
    have nw : ObjOk X.prog X.w (upd H s.heap.objs.size (.tup [.int (i : Nat), x])) h2 s.heap.objs.size (.tup [.int (i : Nat), x]) := ⟨two, [.int (i : Nat) tk, x1], .cons ⟨_, rfl⟩ (.cons ru .nil), ⟨_, nT2, rfl, _, rfl⟩⟩
    have out : ∀ c o, c ∉ [e, it] → s.heap.get? c = some o → h2.get? c = some o := fun c o n q => by
      simp only [List.mem_cons, List.not_mem_nil, or_false, not_or] at n
      exact (sb.2 c n.1).trans (kp c o n.1 n.2 q)
    have I1 := I.turnedNew (t' := tk + 1) (ch := [e, it]) out hf (Nat.le_refl _) nw
    have nz : H s.heap.objs.size = none := I.hok.fresh (Nat.le_refl _)
    refine ⟨.ref s.heap.objs.size, _, I1, rfl, ⟨_, x, rfl, nz, rfl, fun l hl => by rw [k.inj I hl gx]; exact hx⟩, ⟨⟨x1, z2⟩, k.itr_at t1.1 fun o q => (sb.2 it ne.symm).trans q⟩, fun c hcm => ?_⟩
    have lt : c < s.heap.objs.size := by
      obtain ⟨o2, e2, _⟩ := k.itr_ob q2
      have l2 := Heap.lt_size e2
      simp only [List.mem_cons, List.not_mem_nil, or_false] at hcm
      rcases hcm with rfl | rfl <;> assumption
    have cn : H c = none := (hf c hcm).1
    rw [upd_ne (Nat.ne_of_lt lt)]
    exact cn
  done := by
    intro X eP ew eK hc i pins s σ H E I hf st hg
    subst eP ew eK
    obtain ⟨⟨old, q1⟩, q2⟩ := st
    obtain ⟨xs, gx, rfl⟩ := hg
    obtain ⟨is, rv, p⟩ := k.get I gx
    have hh : X.A.in1.handled = none := I.ok.hd hc
    have e1 : is.toArray.size = xs.length := by rw [List.size_toArray]; exact rv.length.symm
    obtain ⟨f0, f1, f2, f3, f4, f5⟩ := hf it (by simp)
    have D := k.draws (prog := X.prog) (w := X.w) hh it a na is.toArray
    rw [e1] at D
    exact wpAny_pyNext_enum_endD D q1 ⟨q2, p⟩ fun h' eb => ⟨rfl, I.turned (t' := s.toks) eb f0 f1 f3 f4 f5⟩
  self := fun A i s Q E st h => let ⟨⟨_, q⟩, _⟩ := st; wpAny_pyIter_enum q h
end
/-! ### what is walked -/
abbrev enumO (i : Addr) : Obj := { cls := .type "enumerate", data := .fields #[.none, .bool false, .ref i, rawInt 0, .none, .none] }
theorem newE (k : Sk) (a : Addr) (its : Array Value) : Meets (Builtin.«enumerate.__new__» ⟨[.type "enumerate", .ref a], []⟩) (fun _ R s => k.seq s.heap a its ∧ R (.ok (.ret (.ref (s.heap.push (k.new a)).objs.size))) { s with heap := (s.heap.push (k.new a)).push (enumO s.heap.objs.size) }) :=
  .of_wp fun prog w A R s h => by
    obtain ⟨hp, g, d, tk, os⟩ := s
    obtain ⟨h0, h⟩ := h
    have sb := sub_enumerate
    have it {A' : Around} {E Q : Value → Shared → Prop} (q : Q (.ref hp.objs.size) ⟨hp.push (k.new a), g, d, tk, os⟩) : wpAny (model prog w) A' (pyIter (.ref a)) Q E ⟨hp, g, d, tk, os⟩ := (k.begins a its).iter prog w _ _ ⟨hp, g, d, tk, os⟩ _ h0 q
    wp_walk using it
    refine wpAny_stack_any fun st => wpAny_pure ?_
    split
    · rename_i cd _ _ _ _ _
      cases (cd == Value.type "enumerate") <;> (wp_walk using it; exact ⟨_, rfl, h⟩)
    · wp_walk using it; exact ⟨_, rfl, h⟩
theorem callE (k : Sk) {prog : Program} {w : World} {A : Around} {E : Value → Shared → Prop} {s : Shared} {a : Addr} {its : Array Value} {Q : Value → Shared → Prop} (h0 : k.seq s.heap a its)
    (h : ∀ h', IsEnum h' (s.heap.objs.size + 1) s.heap.objs.size 0 .none → h'.get? s.heap.objs.size = some (k.new a) → (∀ b o, s.heap.get? b = some o → h'.get? b = some o) → Q (.ref (s.heap.objs.size + 1)) { s with heap := h' }) : wpAny (model prog w) A (call (.type "enumerate") [.ref a]) Q E s := by
  refine callType_new F.called_enumerate (by decide) (F.typeCall_enumerate_1 _) (F.newCall_enumerate_1 _) (fun ob => F.args_object_init_2 ob _) F.entry_enumerate_new (newE k a its) ⟨h0, ?_⟩
  have z : (s.heap.push (k.new a)).objs.size = s.heap.objs.size + 1 := Heap.size_push _ _
  have e : ((s.heap.push (k.new a)).push (enumO s.heap.objs.size)).get? (s.heap.push (k.new a)).objs.size = some (enumO s.heap.objs.size) := Heap.get?_push_size _ rfl
  show _ ∧ _
  rw [z] at e ⊢
  exact ⟨⟨_, e, rfl⟩, h _ e (Heap.get?_push_of_some _ (Heap.get?_push_size _ (k.begins a its).free)) fun b o q => Heap.get?_push_of_some _ (Heap.get?_push_of_some _ q)⟩
section
variable {X : Cx} {e e2 : Expr} {ta : TA} {p pos tpos : Pos} {elts : List Expr} {kk : Nat}
def iZ (K : PySem.W.Frag) (ta : TA) : TI := fun σ H R => ta σ H fun vs H1 => ∃ (k1 k2 : Sk) (a b : Addr) (xs ys : List V), vs = [.ref a, .ref b] ∧ k1.sq K H1 a xs ∧ k2.sq K H1 b ys ∧ R (ItZ K k1 k2 a b) H1
theorem pi_Z (hg : Gl X "zip") (hm : X.mg "zip" = none) (ha : PA X [e, e2] ta) (hs : starEach [e, e2] X.env = (false, eval e X.env) :: starEach [e2] X.env := by rfl) (hpl : (backTo pos (starEach [e2] X.env)).any (·.1) = false := by rfl) :
    PI X (.Tuple elts kk tpos) (.Call (.Name "zip" p) [e, e2] [] pos) (iZ X.K ta) := by
  refine ⟨fun pins s σ H R I h => Call_ (ld_blt I hg hm PyProof.Rows.boot_zip (PyProof.Rows.callWith_type1 (thn (ha.run pos pins s σ H _ I h) fun us s1 ⟨vs, H1, I1, r1, q1⟩ => ?_) hs hpl))⟩
  obtain ⟨k1, k2, a, b, xs, ys, rfl, g1, g2, q⟩ := q1
  obtain ⟨u, v, rfl, r, r'⟩ := vals2 r1
  cases r
  cases r'
  obtain ⟨is, rv, p1⟩ := k1.get I1 g1
  obtain ⟨js, rv2, p2⟩ := k2.get I1 g2
  refine zip_begins2 (k1.begins a is.toArray) (k2.begins b js.toArray) p1 p2 fun h' z z2 z3 n1 n2 _ kp => wpAny_pyIter_zip z ?_
  have I2 : Inv X pins σ H1 { s1 with heap := h' } := I1.kept (t' := s1.toks) kp
  refine ⟨_, [s1.heap.objs.size + 4, s1.heap.objs.size + 2, s1.heap.objs.size + 3, s1.heap.objs.size, s1.heap.objs.size + 1], _, _, H1, rfl, I2, turnZ k1 k2 (PySem.W.ktu_apart s1.heap.objs.size a b (k1.seq_sz p1) (k2.seq_sz p2)), ⟨z, z2, ⟨_, _, z3⟩, k1.itr_new n1, k2.itr_new n2⟩, fun c hc => ?_, q⟩
  have le : s1.heap.objs.size ≤ c := by
    simp only [List.mem_cons, List.not_mem_nil, or_false] at hc
    rcases hc with rfl | rfl | rfl | rfl | rfl
    · exact Nat.le_add_right _ 4
    · exact Nat.le_add_right _ 2
    · exact Nat.le_add_right _ 3
    · exact Nat.le_refl _
    · exact Nat.le_add_right _ 1
  exact I1.fpOk le (I1.hok.fresh le)
def iE (K : PySem.W.Frag) (ta : TA) : TI := fun σ H R => ta σ H fun vs H1 => ∃ (k : Sk) (a : Addr) (xs : List V), vs = [.ref a] ∧ k.sq K H1 a xs ∧ R (ItE K k a) H1
theorem pi_E (hg : Gl X "enumerate") (hm : X.mg "enumerate" = none) (ha : PA X [e] ta) (hs : starEach [e] X.env = [(false, eval e X.env)] := by rfl) : PI X (.Tuple elts kk tpos) (.Call (.Name "enumerate" p) [e] [] pos) (iE X.K ta) := by
  refine ⟨fun pins s σ H R I h => Call_ (ld_blt I hg hm boot_enumerate (PyProof.Rows.callWith_type1 (thn (ha.run pos pins s σ H _ I h) fun us s1 ⟨vs, H1, I1, r1, q1⟩ => ?_) hs rfl))⟩
  obtain ⟨k, a, xs, rfl, g, q⟩ := q1
  obtain ⟨u, rfl, r⟩ := vals1 r1
  cases r
  obtain ⟨is, rv, p1⟩ := k.get I1 g
  refine callE k p1 fun h' z n kp => wpAny_pyIter_enum z ?_
  have I2 : Inv X pins σ H1 { s1 with heap := h' } := I1.kept (t' := s1.toks) kp
  have la := k.seq_sz p1
  refine ⟨_, [s1.heap.objs.size + 1, s1.heap.objs.size], _, _, H1, rfl, I2, turnE k (Nat.succ_ne_self _) (Nat.ne_of_lt la) (Nat.ne_of_gt (Nat.lt_succ_of_lt la)), ⟨⟨.none, z⟩, k.itr_new n⟩, fun c hc => ?_, q⟩
  have le : s1.heap.objs.size ≤ c := by
    simp only [List.mem_cons, List.not_mem_nil, or_false] at hc
    rcases hc with rfl | rfl
    · exact Nat.le_add_right _ 1
    · exact Nat.le_refl _
  exact I1.fpOk le (I1.hok.fresh le)
end
end Ev

/-! EvYa: pairs that are walked, sums of tuples, the greater of two, bits, texts joined, exceptions of two fields. -/
namespace Ev
open PySem PySem.Spec PyProof.Rows L2
section
variable {X : Cx} {W : WX} {G : Gc} {L : Lt} {e a b tg : Expr} {pos p : Pos} {c c0 c1 : Cf} {es : List Expr} {m : M (List D)}
/-! ### pairs -/
theorem newPair {T : Addr} {x y : V} {d f : D} (s : Ok G L c) (rx : Rp G.N c.F c.H x d) (ry : Rp G.N c.F c.H y f) (n : c.H T = none) :
    ∃ F', Ex G c ⟨c.σ, c.ρ, F', upd c.H T (.tup [x, y])⟩ ∧ Ok G L ⟨c.σ, c.ρ, F', upd c.H T (.tup [x, y])⟩ ∧ Rp G.N F' (upd c.H T (.tup [x, y])) (.ref T) (.tup [d, f]) := by
  have z : Ex G c ⟨c.σ, c.ρ, plus c.F T, upd c.H T (.tup [x, y])⟩ := Ext.grow s n (fun _ q => .inl q) fun _ q => q
  exact ⟨_, z, StR.grow s n (fun _ q => .inl q) (fun _ q => q), .tup (.inr rfl) upd_same (z.rpl s (.cons rx (.cons ry .nil)))⟩
def pairs (l r : List D) : List D := List.zipWith (fun x y => .tup [x, y]) l r
theorem pairs_at {l r : List D} {i : Nat} {d : D} (h : (pairs l r)[i]? = some d) : ∃ x y, l[i]? = some x ∧ r[i]? = some y ∧ d = .tup [x, y] := by
  unfold pairs at h
  rw [List.getElem?_zipWith] at h
  split at h
  · rename_i x y e1 e2
    exact ⟨x, y, e1, e2, (Option.some.inj h).symm⟩
  · cases h
/-- the items of a list or a tuple -/
def dSeq2 : D → Option (List D)
  | .lst l => some l
  | .tup l => some l
  | _ => none
def SkAt (k : Sk) (H : Hp) (a : Addr) (xs : List V) : Prop := H a = some (match k with | .l => HO.lst xs | .t => HO.tup xs)
theorem SkAt.sq {k : Sk} {K : PySem.W.Frag} {H : Hp} {a : Addr} {xs : List V} (h : SkAt k H a xs) : k.sq K H a xs := by
  cases k
  · exact .inl (.inl h)
  · exact .inl (.inl h)
theorem sk_at {v : V} {d : D} {F : Fz} {H : Hp} {l : List D} (r : Rp G.N F H v d) (h : dSeq2 d = some l) : ∃ (k : Sk) (a : Addr) (xs : List V), v = .ref a ∧ F a ∧ RpL G.N F H xs l ∧ SkAt k H a xs := by
  cases d with
  | lst l0 =>
    cases h
    cases r with
    | lst f r ll => exact ⟨.l, _, _, rfl, f, ll, r⟩
  | tup l0 =>
    cases h
    cases r with
    | tup f r ll => exact ⟨.t, _, _, rfl, f, ll, r⟩
  | _ => cases h
theorem iter_Z {k1 k2 : Sk} {p1 p2 : Addr} {xs ys : List V} {l r : List D} {K : PySem.W.Frag} {F : Fz} {H : Hp} (f1 : F p1) (f2 : F p2) (h1 : SkAt k1 H p1 xs) (h2 : SkAt k2 H p2 ys) (r1 : RpL G.N F H xs l) (r2 : RpL G.N F H ys r) : Iter G L (ItZ K k1 k2 p1 p2) (pairs l r) F H := by
  intro c s hF hH i
  have a1 : k1.sq K c.H p1 xs := SkAt.sq ((hH p1 f1).trans h1)
  have a2 : k2.sq K c.H p2 ys := SkAt.sq ((hH p2 f2).trans h2)
  have b1 : RpL G.N c.F c.H xs l := r1.mono hF hH
  have b2 : RpL G.N c.F c.H ys r := r2.mono hF hH
  refine ⟨fun d hd => ?_, fun hl => ⟨xs, ys, a1, a2, ?_⟩⟩
  · obtain ⟨x, y, e1, e2, rfl⟩ := pairs_at hd
    obtain ⟨v, g1, k1'⟩ := b1.get e1
    obtain ⟨u, g2, k2'⟩ := b2.get e2
    refine ⟨⟨xs, ys, v, u, a1, a2, g1, g2⟩, fun z H' w => ?_⟩
    obtain ⟨T, v', u', rfl, n, rfl, w1, w2⟩ := w
    have := w1 xs a1
    rw [g1] at this
    cases this
    have := w2 ys a2
    rw [g2] at this
    cases this
    exact newPair s k1' k2' n
  · have z1 := b1.length
    have z2 := b2.length
    unfold pairs at hl
    rw [List.length_zipWith] at hl
    omega
def dZip : List D → Option (List D)
  | [.lst l, .lst r] => some (pairs l r)
  | [.tup l, .tup r] => some (pairs l r)
  | [.lst l, .tup r] => some (pairs l r)
  | [.tup l, .lst r] => some (pairs l r)
  | _ => none
theorem dZip_sq {ds zs : List D} (h : dZip ds = some zs) : ∃ x y l r, ds = [x, y] ∧ dSeq2 x = some l ∧ dSeq2 y = some r ∧ zs = pairs l r := by
  unfold dZip at h
  split at h <;> first | (cases h; exact ⟨_, _, _, _, rfl, rfl, rfl, rfl⟩) | cases h
theorem SI.zip {elts : List Expr} {kk : Nat} {tpos : Pos} (hg : Gl X "zip") (hm : X.mg "zip" = none) (h : SA X W G L [a, b] m) (hs : starEach [a, b] X.env = (false, eval a X.env) :: starEach [b] X.env := by rfl) (hpl : (backTo pos (starEach [b] X.env)).any (·.1) = false := by rfl) :
    SI X W G L (.Tuple elts kk tpos) (.Call (.Name "zip" p) [a, b] [] pos) (evL dZip m) := by
  obtain ⟨t, pa, q⟩ := h.ex
  refine ⟨_, pi_Z hg hm pa hs hpl, fun c R s h => ?_⟩
  refine q c _ s ((Req.bind h).imp fun l c1 _ e1 x1 s1 h1 vs rv => ?_)
  obtain ⟨ds, er, h1⟩ := liftO_req h1
  obtain ⟨x, y, l1, l2, rfl, d1, d2, rfl⟩ := dZip_sq er
  cases rv with
  | cons r1 r2 =>
    cases r2 with
    | cons r2 r3 =>
      cases r3
      obtain ⟨k1, a1, xs, rfl, f1, m1, t1⟩ := sk_at r1 d1
      obtain ⟨k2, a2, ys, rfl, f2, m2, t2⟩ := sk_at r2 d2
      exact ⟨k1, k2, a1, a2, xs, ys, rfl, SkAt.sq t1, SkAt.sq t2, Req.here h1 s1 _ (iter_Z f1 f2 t1 t2 m1 m2)⟩
def nums (l : List D) : List D := (List.range l.length).zipWith (fun i d => .tup [.int (i : Nat), d]) l
theorem iter_E {k : Sk} {p1 : Addr} {xs : List V} {l : List D} {K : PySem.W.Frag} {F : Fz} {H : Hp} (f1 : F p1) (h1 : SkAt k H p1 xs) (r1 : RpL G.N F H xs l) : Iter G L (ItE K k p1) (nums l) F H := by
  intro c s hF hH i
  have a1 : k.sq K c.H p1 xs := SkAt.sq ((hH p1 f1).trans h1)
  have b1 : RpL G.N c.F c.H xs l := r1.mono hF hH
  refine ⟨fun d hd => ?_, fun hl => ⟨xs, a1, ?_⟩⟩
  · unfold nums at hd
    rw [List.getElem?_zipWith] at hd
    split at hd
    · rename_i j y e1 e2
      cases hd
      have hj : j = i := by
        obtain ⟨hi, e⟩ := List.getElem?_eq_some_iff.mp e1
        rw [List.getElem_range] at e
        exact e.symm
      subst hj
      obtain ⟨v, g1, k1⟩ := b1.get e2
      refine ⟨⟨xs, v, a1, g1⟩, fun z H' w => ?_⟩
      obtain ⟨T, v', rfl, n, rfl, w1⟩ := w
      have := w1 xs a1
      rw [g1] at this
      cases this
      exact newPair s (.int _) k1 n
    · cases hd
  · have z1 := b1.length
    unfold nums at hl
    rw [List.length_zipWith, List.length_range] at hl
    omega
def dNum : List D → Option (List D)
  | [.lst l] => some (nums l)
  | [.tup l] => some (nums l)
  | _ => none
theorem dNum_sq {ds zs : List D} (h : dNum ds = some zs) : ∃ x l, ds = [x] ∧ dSeq2 x = some l ∧ zs = nums l := by
  unfold dNum at h
  split at h <;> first | (cases h; exact ⟨_, _, rfl, rfl, rfl⟩) | cases h
theorem SI.enum {elts : List Expr} {kk : Nat} {tpos : Pos} (hg : Gl X "enumerate") (hm : X.mg "enumerate" = none) (h : SA X W G L [a] m) (hs : starEach [a] X.env = [(false, eval a X.env)] := by rfl) :
    SI X W G L (.Tuple elts kk tpos) (.Call (.Name "enumerate" p) [a] [] pos) (evL dNum m) := by
  obtain ⟨t, pa, q⟩ := h.ex
  refine ⟨_, pi_E hg hm pa hs, fun c R s h => ?_⟩
  refine q c _ s ((Req.bind h).imp fun l c1 _ e1 x1 s1 h1 vs rv => ?_)
  obtain ⟨ds, er, h1⟩ := liftO_req h1
  obtain ⟨x, l1, rfl, d1, rfl⟩ := dNum_sq er
  cases rv with
  | cons r1 r2 =>
    cases r2
    obtain ⟨k, a1, xs, rfl, f1, m1, t1⟩ := sk_at r1 d1
    exact ⟨k, a1, xs, rfl, SkAt.sq t1, Req.here h1 s1 _ (iter_E f1 t1 m1)⟩
/-- downwards -/
def downL (hi : Int) (n : Nat) : List D := (List.range n).map fun (i : Nat) => D.int (hi - i)
theorem iter_down {hi : Int} {n : Nat} {F : Fz} {H : Hp} : Iter G L (Itc hi (-1) n) (downL hi n) F H := by
  intro c s hF hH i
  have hl : (downL hi n).length = n := by unfold downL; rw [List.length_map, List.length_range]
  refine ⟨fun d hd => ?_, fun h => by rw [hl] at h; exact Nat.le_of_eq h⟩
  have hi' : i < n := by
    have := (List.getElem?_eq_some_iff.mp hd).1
    omega
  refine ⟨hi', fun x H' z => ?_⟩
  obtain ⟨rfl, rfl⟩ := z
  unfold downL at hd
  rw [List.getElem?_map, List.getElem?_range hi'] at hd
  cases hd
  refine ⟨c.F, Ext.refl, s, ?_⟩
  have e : hi + (i : Nat) * (-1) = hi - (i : Nat) := by omega
  rw [e]
  exact .int _
def rng3 : List D → Option (List D)
  | [.int i, .int j, .int k] => if inR i && inR j && decide (k = -1) then some (downL i (i - j).toNat) else none
  | _ => none
theorem SI.range3 {d : Expr} (hg : Gl X "range") (hm : X.mg "range" = none) (h : SA X W G L [a, b, d] m) (hs : starEach [a, b, d] X.env = (false, eval a X.env) :: starEach [b, d] X.env := by rfl) (hpl : (backTo pos (starEach [b, d] X.env)).any (·.1) = false := by rfl) :
    SI X W G L tg (.Call (.Name "range" p) [a, b, d] [] pos) (evL rng3 m) := by
  obtain ⟨t, pa, q⟩ := h.ex
  refine ⟨_, pi_range3 hg hm pa hs hpl, fun c R s h => ?_⟩
  refine q c _ s ((Req.bind h).imp fun l c1 _ e1 x1 s1 h1 vs rv => ?_)
  obtain ⟨ds, er, h2⟩ := liftO_req h1
  clear h1
  unfold rng3 at er
  split at er
  · split at er
    · rename_i i j k hj
      cases er
      simp only [Bool.and_eq_true, decide_eq_true_eq] at hj
      obtain ⟨⟨z1, z2⟩, rfl⟩ := hj
      obtain ⟨y1, y2⟩ := inR_ok z1
      obtain ⟨y3, y4⟩ := inR_ok z2
      cases rv with
      | cons r1 r2 =>
        cases r2 with
        | cons r2 r3 =>
          cases r3 with
          | cons r3 r4 =>
            cases r4
            cases r1
            cases r2
            cases r3
            exact ⟨_, _, _, _, rfl, RgC.neg y1 y2 y3 y4, Req.here h2 s1 _ iter_down⟩
    · cases er
  · cases er
/-! ### sums, the greater of two -/
theorem iter_intTup {prog : Program} {w : World} {A : Around} {E : Value → Shared → Prop} {s : Shared} {l : Addr} {xs : List (Int × Tok)} {its : Array Value} {Q : Value → Shared → Prop} (hl : s.heap.IsTuple l its)
    (h : ∀ s₂ : Shared, s₂ = { s with heap := s.heap.push { cls := .type "tuple_iterator", data := .fields #[.ref l, .int 0 0] } } →
      (s₂.heap.IsTupleIter s.heap.objs.size l 0 ∧ s₂.heap.IsTuple l its) → (∀ b ∈ [s.heap.objs.size, l], b < s₂.heap.objs.size) → l ≠ s.heap.objs.size → Q (.ref s.heap.objs.size) s₂) :
    wpAny (model prog w) A (pyIter (.ref l)) Q E s := by
  have hlt : l < s.heap.objs.size := by obtain ⟨_, e, _⟩ := id hl; exact Heap.lt_size e
  refine wpAny_pyIter_tuple hl (h _ rfl ⟨⟨_, Heap.get?_push_size _ rfl, rfl, rfl⟩, ?_⟩ (fun b hb => ?_) (Nat.ne_of_lt hlt))
  · obtain ⟨o, e, z⟩ := hl
    exact ⟨o, Heap.get?_push_of_some _ e, z⟩
  · show b < (s.heap.push _).objs.size
    rw [Heap.size_push]
    have e' : b = s.heap.objs.size ∨ b = l := by simpa using hb
    rcases e' with z | z
    · rw [z]; exact Nat.lt_succ_self _
    · rw [z]; exact Nat.lt_succ_of_lt hlt
theorem sum_rawT {prog : Program} {w : World} {A : Around} {E : Value → Shared → Prop} {s : Shared} {l : Addr} {its : List Value} {ns : List Int} {Q : Value → Shared → Prop} (hh : A.handled = none) (hl : s.heap.IsTuple l its.toArray) (hi : IntsAre its ns)
    (h : ∀ h' tk t', (∀ b o, s.heap.get? b = some o → h'.get? b = some o) → Q (.int ns.sum t') { s with heap := h', toks := tk }) : wpAny (model prog w) A (call (.builtin "sum") [.ref l]) Q E s := by
  obtain ⟨xs, e⟩ := hi.allInts.items
  have hn : numsOf (intItems xs).toList = ns := by rw [← e]; exact hi.numsOf
  rw [nums_intItems] at hn
  rw [e] at hl
  refine call_sum_walkG (iter_intTup (xs := []) hl fun s₂ e2 st hfp hlI => ?_)
  subst e2
  refine ⟨_, _, _, _, _, _, numAt xs, rfl, Walks.tuple (A := A.in1) hh _ l hlI (intItems xs), st, hfp, (fun _ _ => intItems_at), fun h' tk t' hk => ?_⟩
  have := h h' tk t' fun b o q => hk b o (by simpa using Nat.ne_of_lt (Heap.lt_size q)) (Heap.get?_push_of_some _ q)
  have e3 : preSum (numAt xs) (intItems xs).size = ns.sum := by
    rw [show (intItems xs).size = xs.size by simp [intItems], preSum_eq, List.take_of_length_le (by simp), hn]
  rw [e3]
  exact this
def rSumT (K : PySem.W.Frag) : List V → Hp → VK → Prop := fun vs H Q => ∃ (a : Addr) (ns : List Int), vs = [V.ref a] ∧ SqT K H a (ns.map V.int) ∧ Q (.int ns.sum) H
theorem cr_sumT (hc : X.calm = true) : CallR X (.builtin "sum") (rSumT X.K) := by
  intro pins s σ H vs us Q I r h
  obtain ⟨a, ns, rfl, hs, q⟩ := h
  obtain ⟨its, rv, hl, _⟩ := I.tuple hs
  rw [Vals.ref1 r]
  exact sum_rawT (I.ok.hd hc) hl rv.ints fun h' tk t' hk => ⟨.int _, H, I.kept hk, ⟨_, rfl⟩, q⟩
def bSumA : List D → Option Vl
  | [.lst l] => (allI l).map fun bs => .fz (.int bs.sum)
  | [.tup l] => (allI l).map fun bs => .fz (.int bs.sum)
  | _ => none
theorem bSumA_ok : CallOk X W G L (fun xs H Q => rSum X.K xs H Q ∨ rSumT X.K xs H Q) bSumA := by
  intro c0 c ds vs Q _ ex s r hr
  obtain ⟨w, er, hr⟩ := liftO_req hr
  unfold bSumA at er
  split at er
  · obtain ⟨bs, e, rfl⟩ := Option.map_eq_some_iff.mp er
    cases r with
    | cons r1 r2 =>
      cases r2
      cases r1 with
      | lst f r l =>
        have := allI_ok l e
        subst this
        exact .inl ⟨_, bs, rfl, .inl (.inl r), Req.here hr s _ (.int _)⟩
  · obtain ⟨bs, e, rfl⟩ := Option.map_eq_some_iff.mp er
    cases r with
    | cons r1 r2 =>
      cases r2
      cases r1 with
      | tup f r l =>
        have := allI_ok l e
        subst this
        exact .inr ⟨_, bs, rfl, .inl (.inl r), Req.here hr s _ (.int _)⟩
  · cases er
theorem SE.sumA {e : Expr} {es : List Expr} {m : M (List D)} (hc : X.calm = true) (hg : Gl X "sum") (hm : X.mg "sum" = none) (ha : SA X W G L (e :: es) m) (he : starEach (e :: es) X.env = (false, eval e X.env) :: starEach es X.env := by rfl) (hpl : (backTo pos (starEach es X.env)).any (·.1) = false := by rfl) : SE X W G L (.Call (.Name "sum" p) (e :: es) [] pos) (evC bSumA m) :=
  SE.callB (CallR.or (cr_sum hc) (cr_sumT hc)) bSumA_ok hg hm bt_sum ha (by decide) (by decide) he hpl
theorem bt_max : bootBuiltins "max" = some (.builtin "max") := by decide +kernel
theorem bt_min : bootBuiltins "min" = some (.builtin "min") := by decide +kernel
/-- the greatest of some whole numbers -/
def lmax : List Int → Option Int
  | [] => none
  | x :: l => some (l.foldl max x)
theorem foldl_max (l : List Int) : ∀ x : Int, (l.foldl max x = x ∨ l.foldl max x ∈ l) ∧ x ≤ l.foldl max x ∧ ∀ y ∈ l, y ≤ l.foldl max x := by
  induction l with
  | nil => exact fun x => ⟨.inl rfl, Int.le_refl x, fun y h => by cases h⟩
  | cons a l ih =>
    intro x
    obtain ⟨h1, h2, h3⟩ := ih (max x a)
    rw [List.foldl_cons]
    refine ⟨?_, by omega, fun y hy => ?_⟩
    · rcases h1 with h1 | h1
      · rw [h1]
        rcases Int.le_total x a with z | z
        · exact .inr (by rw [Int.max_eq_right z]; exact List.mem_cons_self)
        · exact .inl (Int.max_eq_left z)
      · exact .inr (List.mem_cons_of_mem _ h1)
    · rcases List.mem_cons.mp hy with rfl | hy
      · omega
      · exact h3 y hy
theorem lmax_eq {ns : List Int} {m : Int} (h1 : m ∈ ns) (h2 : ∀ y ∈ ns, y ≤ m) : lmax ns = some m := by
  cases ns with
  | nil => cases h1
  | cons x l =>
    obtain ⟨g1, g2, g3⟩ := foldl_max l x
    show some (l.foldl max x) = some m
    congr 1
    have u : m ≤ l.foldl max x := by
      rcases List.mem_cons.mp h1 with rfl | h1
      · exact g2
      · exact g3 m h1
    have v : l.foldl max x ≤ m := by
      rcases g1 with g1 | g1
      · rw [g1]; exact h2 x List.mem_cons_self
      · exact h2 _ (List.mem_cons_of_mem _ g1)
    omega
theorem max_rawT {prog : Program} {w : World} {A : Around} {E : Value → Shared → Prop} {s : Shared} {l : Addr} {its : List Value} {ns : List Int} {Q : Value → Shared → Prop} (hh : A.handled = none) (hl : s.heap.IsTuple l its.toArray) (hi : IntsAre its ns) (hne : 0 < ns.length)
    (h : ∀ h' tk m t', (∀ b o, s.heap.get? b = some o → h'.get? b = some o) → m ∈ ns → (∀ a, a ∈ ns → a ≤ m) → Q (.int m t') { s with heap := h', toks := tk }) : wpAny (model prog w) A (call (.builtin "max") [.ref l]) Q E s := by
  obtain ⟨xs, e⟩ := hi.allInts.items
  have hn : numsOf (intItems xs).toList = ns := by rw [← e]; exact hi.numsOf
  rw [nums_intItems] at hn
  subst hn
  rw [e] at hl
  have sz : 0 < xs.size := by simpa using hne
  refine call_max_walk (iter_intTup (xs := []) hl fun s₂ e2 st hfp hlI => ?_)
  subst e2
  refine ⟨_, _, _, _, _, _, _, rfl, Walks.tuple (A := A.in1) hh _ l hlI (intItems xs), st, hfp, by simpa [intItems] using sz, CmpOf.ints_gt (numAt xs) (fun _ _ => intItems_at), fun v h' tk hP hk => ?_⟩
  have hv : (intItems xs)[argBest (fun i j => decide (numAt xs i > numAt xs j)) (xs.size - 1)]? = some v := by simpa [intItems] using hP
  obtain ⟨t, rfl⟩ := intItems_at hv
  obtain ⟨g1, g2⟩ := argBest_gt (numAt xs) (xs.size - 1)
  refine h h' tk _ t (fun b o q => hk b o (by simpa using Nat.ne_of_lt (Heap.lt_size q)) (Heap.get?_push_of_some _ q)) ?_ fun a ha => ?_
  · rw [numAt_eq]
    exact PySem.getD_mem (by rw [List.length_map, Array.length_toList]; omega)
  · obtain ⟨j, hj, rfl⟩ := PySem.mem_getD ha
    rw [List.length_map, Array.length_toList] at hj
    rw [← numAt_eq]
    exact g2 j (by omega)
def rMaxT (K : PySem.W.Frag) : List V → Hp → VK → Prop := fun vs H Q => ∃ (a : Addr) (ns : List Int), vs = [V.ref a] ∧ SqT K H a (ns.map V.int) ∧ 0 < ns.length ∧ ∀ m, m ∈ ns → (∀ y, y ∈ ns → y ≤ m) → Q (.int m) H
theorem cr_maxT (hc : X.calm = true) : CallR X (.builtin "max") (rMaxT X.K) := by
  intro pins s σ H vs us Q I r h
  obtain ⟨a, ns, rfl, hs, hne, q⟩ := h
  obtain ⟨its, rv, hl, _⟩ := I.tuple hs
  rw [Vals.ref1 r]
  exact max_rawT (I.ok.hd hc) hl rv.ints hne fun h' tk m t' hk h1 h2 => ⟨.int m, H, I.kept hk, ⟨_, rfl⟩, q m h1 h2⟩
def bMax : List D → Option Vl
  | [.int i, .int j] => some (.fz (.int (if j > i then j else i)))
  | [.lst l] => ((allI l).bind lmax).map fun m => .fz (.int m)
  | [.tup l] => ((allI l).bind lmax).map fun m => .fz (.int m)
  | _ => none
def bMin : List D → Option Vl
  | [.int i, .int j] => some (.fz (.int (if j < i then j else i)))
  | _ => none
theorem bMax_ok : CallOk X W G L (fun xs H Q => (∃ i j, xs = [.int i, .int j] ∧ Q (.int (if j > i then j else i)) H) ∨ (rMax X.K xs H Q ∨ rMaxT X.K xs H Q)) bMax := by
  intro c0 c ds vs Q _ ex s r hr
  obtain ⟨w, er, hr⟩ := liftO_req hr
  unfold bMax at er
  split at er
  · cases er
    cases r with
    | cons r1 r2 =>
      cases r2 with
      | cons r2 r3 =>
        cases r3
        cases r1
        cases r2
        exact .inl ⟨_, _, rfl, Req.here hr s _ (.int _)⟩
  · obtain ⟨m, e, rfl⟩ := Option.map_eq_some_iff.mp er
    obtain ⟨bs, e1, e2⟩ := Option.bind_eq_some_iff.mp e
    cases r with
    | cons r1 r2 =>
      cases r2
      cases r1 with
      | lst f r l =>
        have ev := allI_ok l e1
        subst ev
        refine .inr (.inl ⟨_, bs, rfl, .inl (.inl r), ?_, fun m' h1 h2 => ?_⟩)
        · cases bs with
          | nil => cases e2
          | cons x bs => exact Nat.succ_pos _
        · rw [lmax_eq h1 h2] at e2
          cases e2
          exact Req.here hr s _ (.int _)
  · obtain ⟨m, e, rfl⟩ := Option.map_eq_some_iff.mp er
    obtain ⟨bs, e1, e2⟩ := Option.bind_eq_some_iff.mp e
    cases r with
    | cons r1 r2 =>
      cases r2
      cases r1 with
      | tup f r l =>
        have ev := allI_ok l e1
        subst ev
        refine .inr (.inr ⟨_, bs, rfl, .inl (.inl r), ?_, fun m' h1 h2 => ?_⟩)
        · cases bs with
          | nil => cases e2
          | cons x bs => exact Nat.succ_pos _
        · rw [lmax_eq h1 h2] at e2
          cases e2
          exact Req.here hr s _ (.int _)
  · cases er
theorem bMin_ok : CallOk X W G L (fun xs H Q => ∃ i j, xs = [.int i, .int j] ∧ Q (.int (if j < i then j else i)) H) bMin := by
  intro c0 c ds vs Q _ ex s r hr
  obtain ⟨w, er, hr⟩ := liftO_req hr
  unfold bMin at er
  split at er
  · cases er
    cases r with
    | cons r1 r2 =>
      cases r2 with
      | cons r2 r3 =>
        cases r3
        cases r1
        cases r2
        exact ⟨_, _, rfl, Req.here hr s _ (.int _)⟩
  · cases er
theorem SE.max {e : Expr} {es : List Expr} {m : M (List D)} (hc : X.calm = true) (hg : Gl X "max") (hm : X.mg "max" = none) (ha : SA X W G L (e :: es) m) (he : starEach (e :: es) X.env = (false, eval e X.env) :: starEach es X.env := by rfl) (hpl : (backTo pos (starEach es X.env)).any (·.1) = false := by rfl) : SE X W G L (.Call (.Name "max" p) (e :: es) [] pos) (evC bMax m) :=
  SE.callB (CallR.or (call_max2 hc) (CallR.or (cr_max hc) (cr_maxT hc))) bMax_ok hg hm bt_max ha (by decide) (by decide) he hpl
theorem SE.min {e : Expr} {es : List Expr} {m : M (List D)} (hc : X.calm = true) (hg : Gl X "min") (hm : X.mg "min" = none) (ha : SA X W G L (e :: es) m) (he : starEach (e :: es) X.env = (false, eval e X.env) :: starEach es X.env := by rfl) (hpl : (backTo pos (starEach es X.env)).any (·.1) = false := by rfl) : SE X W G L (.Call (.Name "min" p) (e :: es) [] pos) (evC bMin m) :=
  SE.callB (call_min2 hc) bMin_ok hg hm bt_min ha (by decide) (by decide) he hpl
/-! ### bits -/
def fBits : D → Option Vl
  | .int i => some (.fz (.int (Builtin.Int.intBits i : Nat)))
  | _ => none
theorem SE.bits {apos : Pos} {md : M D} (h : SD X W G L e md) (hbase : attributeBase e "bit_length" X.env (eval e X.env) = eval e X.env := by rfl) (hline : (apos.endLine == pos.line) = true := by rfl) :
    SE X W G L (.Call (.Attribute e "bit_length" apos) [] [] pos) (ev1 fBits md) := by
  obtain ⟨t, pe, q⟩ := h.ex
  refine ⟨_, pe_bits pe hbase hline, fun c Q s h => ?_⟩
  refine q c _ s ((Req.bind h).imp fun d c1 _ e1 x1 s1 h1 v rv => ?_)
  obtain ⟨w, er, h1⟩ := liftO_req h1
  cases d with
  | int i =>
    cases er
    cases rv
    exact ⟨i, rfl, Req.here h1 s1 _ (.int _)⟩
  | _ => cases er
def shlOk (i j : Int) : Bool := decide (0 ≤ j) && decide ((Builtin.Int.intBits i : Int) + j ≤ 2 ^ 27)
def fShlW (i j : Int) : Option D := if shlOk i j then some (.int (i * 2 ^ j.toNat)) else none
theorem SE.shlW {ma mb : M D} (ha : SD X W G L a ma) (hb : SD X W G L b mb) : SE X W G L (.BinOp a .LShift b pos) (ev2 (i2 fShlW) ma mb) := SE.bin op_shlW (i2_ok fun i j d h => by
  unfold fShlW at h
  split at h
  · rename_i q
    cases h
    unfold shlOk at q
    rw [Bool.and_eq_true] at q
    exact ⟨⟨of_decide_eq_true q.1, of_decide_eq_true q.2⟩, fun _ _ _ => .int _⟩
  · cases h) ha hb
/-! ### texts joined -/
def allS : List D → Option (List Str)
  | [] => some []
  | .str b :: l => (allS l).map (b :: ·)
  | _ => none
theorem allS_ok {F : Fz} {H : Hp} : ∀ {ds : List D} {vs : List V} {bs : List Str}, RpL G.N F H vs ds → allS ds = some bs → vs = bs.map V.str
  | [], _, _, r, h => by cases r; cases h; rfl
  | d :: l, _, bs, r, h => by
    cases r with
    | cons r1 r2 =>
      cases d with
      | str b =>
        obtain ⟨cs, e, rfl⟩ := Option.map_eq_some_iff.mp (show (allS l).map (b :: ·) = some bs from h)
        cases r1
        rw [allS_ok r2 e]
        rfl
      | _ => cases h
def joinOk (x : Str) (ys : List Str) : Bool := decide ((ys.map (·.length)).sum + ys.length * x.length ≤ 16777216)
def joinS (x : Str) (ys : List Str) : Option Vl := if joinOk x ys then some (.fz (.str (Txt.join x ys))) else none
def fJoin : D → D → Option Vl
  | .str x, .lst l => (allS l).bind (joinS x)
  | .str x, .tup l => (allS l).bind (joinS x)
  | _, _ => none
def isStr : D → Option Str
  | .str x => some x
  | _ => none
def evJoin (mo me : M D) : M Vl := mo.bind fun x => (liftO (isStr x)).bind fun x => me.bind fun y => liftO (fJoin (.str x) y)
theorem SE.join {apos : Pos} {o : Expr} {mo me : M D} (ho : SD X W G L o mo) (he : SD X W G L e me) (hs : starEach [e] X.env = [(false, eval e X.env)] := by rfl) (hbase : attributeBase o "join" X.env (eval o X.env) = eval o X.env := by rfl) (hline : (apos.endLine == pos.line) = true := by rfl) :
    SE X W G L (.Call (.Attribute o "join" apos) [e] [] pos) (evJoin mo me) := by
  obtain ⟨to, po, qo⟩ := ho.ex
  obtain ⟨te, pe, qe⟩ := he.ex
  refine ⟨_, pe_join po pe hs hbase hline, fun c Q s h => ?_⟩
  refine qo c _ s ((Req.bind h).imp fun d c1 _ e1 x1 s1 h1 v rv => ?_)
  obtain ⟨x, ex, h2⟩ := liftO_req (Req.bind h1)
  have h3 := Req.here (r := x) h2 s1
  clear h1 h2
  cases d with
  | str z =>
    cases ex
    cases rv
    refine ⟨⟨_, rfl⟩, ?_⟩
    rw [← e1]
    refine qe c1 _ s1 ((Req.bind h3).imp fun d2 c2 _ e2 x2 s2 h4 u ru => ?_)
    obtain ⟨w, er, h2⟩ := liftO_req h4
    clear h4
    cases d2 with
    | lst l =>
      obtain ⟨ys, ey, er⟩ := Option.bind_eq_some_iff.mp er
      unfold joinS at er
      split at er
      · rename_i ok
        cases er
        cases ru with
        | lst f r ll =>
          have := allS_ok ll ey
          subst this
          exact ⟨_, _, ys, rfl, rfl, .inl (.inl (.inl r)), of_decide_eq_true ok, Req.here h2 s2 _ (.str _)⟩
      · cases er
    | tup l =>
      obtain ⟨ys, ey, er⟩ := Option.bind_eq_some_iff.mp er
      unfold joinS at er
      split at er
      · rename_i ok
        cases er
        cases ru with
        | tup f r ll =>
          have := allS_ok ll ey
          subst this
          exact ⟨_, _, ys, rfl, rfl, .inr (.inl (.inl r)), of_decide_eq_true ok, Req.here h2 s2 _ (.str _)⟩
      · cases er
    | _ => cases er
  | _ => cases ex
end
/-! ### exceptions of two fields -/
def spTwo (K : PySem.W.Frag) (f g : Str) : Sp := fun vs H Q _ => ∃ (a C : Addr) (y z : V), vs = [.ref a, y, z] ∧ OexC K C ∧ PySem.W.findIn K (.ref C) f = some none ∧ PySem.W.findIn K (.ref C) g = some none ∧ H a = some (exo a C none) ∧
  ∀ d, H d = none → d ≠ a → Q .non (upd (upd (upd H d (exd d [(f, y)])) a (exo a C (some d))) d (exd d [(g, z), (f, y)]))
section
variable {X : Cx} {W : WX} {G : Gc} {L : Lt} {e e2 : Expr} {pos : Pos} {c c0 c1 : Cf}
def mRaise2 (x f g : Nat) (m : M (List D)) : M Fl := m.bind fun l ρ => match l with
  | [d1, d2] => .ex (.exc x [(g, d2), (f, d1)]) ρ
  | _ => .no
theorem SS.raise2 {x f g : Nat} {cn fn gn : Str} {C fI : Addr} {k : Nat} {fd : FuncData} {ps : List Str} {m : M (List D)} {p p2 pos' : Pos} (hf : G.N.fn f = fn) (hg' : G.N.fn g = gn) (hc : X.calm = true) (tk : Takes X W) (T : OexC X.K C) (eg : G.N.gm x = some (.ref C))
    (hno : PySem.W.findIn X.K (.ref C) fn = some none) (hno2 : PySem.W.findIn X.K (.ref C) gn = some none) (iC : PySem.W.findIn X.K (.ref C) "__init__" = some (some (.ref fI))) (tI : PySem.W.typeIn X.K (.ref fI) = some (.type "function"))
    (F1 : FnOk X.prog X.w X.K X.mg X.base CX0 k fI fd ps (spTwo X.K fn gn)) (hr : RoomG (k + 1) X.A) (hb : L2.Binds X.K fd ps []) (hg : Gl X cn) (hm : X.mg cn = some (.ref C)) (he : SA X W G L [e, e2] m)
    (hdb : (cn == ("__debug__" : Str)) = false := by decide) (hs : starEach [e, e2] X.env = (false, eval e X.env) :: starEach [e2] X.env := by rfl) (hpl : (backTo p2 (starEach [e2] X.env)).any (·.1) = false := by rfl) :
    SS X W G L (.Raise (some (.Call (.Name cn p) [e, e2] [] p2)) none pos') (mRaise2 x f g m) := by
  subst hf hg'
  obtain ⟨t, pt, q⟩ := he.ex
  refine ⟨_, ps_raise hc tk (pmk_oex T iC tI F1 hr.room hb .nil pass0 hg hm pt hdb hs hpl), fun c D s h => ?_⟩
  refine q c _ s (h.bindE.imp fun l c1 _ e1 x1 s1 h1 vs rv => ?_)
  match l, h1, rv with
  | [d1, d2], h1, .cons (v := v1) r1 (.cons (v := v2) r2 .nil) =>
    refine ⟨by show (2 : Nat) ≤ 1000; decide, fun a na => ⟨a, C, v1, v2, rfl, T, hno, hno2, upd_same, fun dd nd2 ne => ?_⟩⟩
    have n2 : c1.H dd = none := by
      rw [upd_ne ne] at nd2
      exact nd2
    have eH : upd (del (upd (upd (upd (upd c1.H a (exo a C none)) dd (exd dd [(G.N.fn f, v1)])) a (exo a C (some dd))) dd (exd dd [(G.N.fn g, v2), (G.N.fn f, v1)])) a) dd (.xd [(G.N.fn g, v2), (G.N.fn f, v1)]) = upd c1.H dd (.xd [(G.N.fn g, v2), (G.N.fn f, v1)]) := by
      funext z
      by_cases hz : z = dd
      · rw [hz, upd_same, upd_same]
      · rw [upd_ne hz, upd_ne hz]
        by_cases hza : z = a
        · rw [hza, del_same, na]
        · rw [del_ne hza, upd_ne hz, upd_ne hza, upd_ne hz, upd_ne hza]
    refine ⟨rfl, dd, [(G.N.fn g, v2), (G.N.fn f, v1)], by rw [upd_ne (Ne.symm ne), upd_same], upd_same, n2, ?_⟩
    show W (.ref C) (some dd) c.σ _
    rw [eH, ← e1]
    have y : Ex G c1 ⟨c1.σ, c1.ρ, plus c1.F dd, upd c1.H dd (.xd [(G.N.fn g, v2), (G.N.fn f, v1)])⟩ := Ext.grow s1 n2 (fun _ z => .inl z) fun _ z => z
    exact h1 c1.σ (plus c1.F dd) _ y (StR.grow s1 n2 (fun _ z => .inl z) fun _ z => z) _ _ ⟨C, dd, _, eg, rfl, rfl, .inr rfl, upd_same, .cons (y.rp s1 r2) (.cons (y.rp s1 r1) .nil)⟩
  | [], h1, _ => exact h1.elim
  | [_], h1, _ => exact h1.elim
  | _ :: _ :: _ :: _, h1, _ => exact h1.elim
end
theorem ok_initTwo {P : Program} {w : World} {K : PySem.W.Frag} {mg : Str → Option Value} {base : Heap} {qual : Str} {st : Stmt} {fI CB : Addr} {fd : FuncData} {k : Nat} {b y z fn gn : Str} {mc : Value} {tx : Str} {j : Nat} {p1 p2 p3 p4 p5 p6 p7 p8 p9 p10 p11 p12 p13 p14 : Pos} {pl : Env → Sem Bool}
    (F : Fun K "__init__" qual st fI fd) (S : FnScope ["self", y, z] ["self", y, z] (defScope st))
    (hbody : defBody st = [.Expr (.Call (.Attribute (.Name b p1) "__init__" p2) [.Name "self" p3, .Constant (.str tx) j p4] [] p5) p6, .Assign [.Attribute (.Name "self" p7) fn p8] (.Name y p9) p10, .Assign [.Attribute (.Name "self" p11) gn p12] (.Name z p13) p14])
    (hc : ∀ env : Env, eval (.Call (.Attribute (.Name b p1) "__init__" p2) [.Name "self" p3, .Constant (.str tx) j p4] [] p5) env = (do
      let ov ← eval (.Name b p1) env
      standAt p2.atName
      let (f, first) ← holding [ov] (getMethod ov "__init__" (pl env))
      callWith p5 f first (backTo p5 (starEach [.Name "self" p3, .Constant (.str tx) j p4] env)) (backToKw p5 (keywordEach [] env))))
    (hb : (defScope st).names.lookup b = some .globalImplicit) (hdb : (b == ("__debug__" : Str)) = false) (hy : (defScope st).names.lookup y = some .local) (hz : (defScope st).names.lookup z = some .local) (hs : (defScope st).names.lookup ("self" : Str) = some .local)
    (hyd : (y == ("__debug__" : Str)) = false) (hyc : (y == ("__classdict__" : Str)) = false) (hzd : (z == ("__debug__" : Str)) = false) (hzc : (z == ("__classdict__" : Str)) = false)
    (gB : mg b = some (.ref CB)) (hr : PySem.W.readsIn K CB mc = true) (ga : PySem.W.specialIn K (.ref CB) "__getattribute__" = some (some (.builtin "type.__getattribute__")))
    (hv : PySem.W.findCls K (.ref CB) mc "__init__" = some (.val (.builtin "ValueError.__init__"))) :
    FnOk P w K mg base CX0 (k + 1) fI fd ["self", y, z] (spTwo K fn gn) := by
  refine F.ok S (fun vs H Q E h => ?_) (fun cdv A outer s H vs Q E hr2 h => ?_)
  · obtain ⟨a, C, v, u, rfl, _⟩ := h
    rfl
  · obtain ⟨a, C, v, u, rfl, T, hno, hno2, ea, q⟩ := h
    rw [hbody]
    refine ⟨_, pss_cons (ps_expr (pe_baseInit (X := (cxOf CX0 P w K mg base ["self", y, z] qual (defScope st) fI cdv A outer s H E).nox) hb gB hr ga hv (pa_cons (pe_var (i := 0) rfl (.inl hs)) (pa_cons pe_str pa_nil)) (hc _) hdb))
      (pss_cons (ps_ost (pe_var (i := 0) rfl (.inl hs)) (pe_var (i := 1) rfl (.inl hy) hyd hyc)) (pss_one (ps_ost (pe_var (i := 0) rfl (.inl hs)) (pe_var (i := 2) rfl (.inl hz) hzd hzc)))), ?_⟩
    refine ⟨.ref a, rfl, a, C, [.str tx], rfl, by show (1 : Nat) ≤ 1000; decide, T, ea, v, rfl, .ref a, rfl, a, C, rfl, T, hno, .inl ⟨ea, fun dx nd ne => ?_⟩⟩
    refine ⟨u, rfl, .ref a, rfl, a, C, rfl, T, hno2, .inr ⟨dx, [(fn, v)], upd_same, by rw [upd_ne ne, upd_same], by show (1 : Nat) ≤ 900; decide, ?_⟩⟩
    exact q dx nd ne
end Ev

/-! EvYb: texts repeated, slices of texts and whole tuples. -/
namespace Ev
open PySem PySem.Spec PyProof.Rows L2
section
variable {X : Cx} {W : WX} {G : Gc} {L : Lt} {e a b : Expr} {pos : Pos} {c c0 c1 : Cf}
/-- a text k times -/
def repS (x : Str) (k : Nat) : Str := ⟨(List.replicate k x.cps).foldl (· ++ ·) #[]⟩
def repOk (x : Str) (k : Int) : Bool := decide (2 ≤ k) && decide (k ≤ 1000000) && decide (x.length ≠ 0) && decide (x.length * k.toNat ≤ 1000000)
def rRepS : R2 := fun x y H Q => ∃ z k, x = .str z ∧ y = .int k ∧ repOk z k = true ∧ Q (.str (repS z k.toNat)) H
theorem repS_len (x : Str) : ∀ k : Nat, ((List.replicate k x.cps).foldl (· ++ ·) #[]).size = k * x.length := by
  have key : ∀ (k : Nat) (z : Array Nat), ((List.replicate k x.cps).foldl (· ++ ·) z).size = z.size + k * x.length := by
    intro k
    induction k with
    | zero => intro z; simp
    | succ k ih =>
      intro z
      rw [List.replicate_succ, List.foldl_cons, ih, Array.size_append, Nat.add_mul, Nat.one_mul, show x.length = x.cps.size from rfl]
      omega
  intro k
  have := key k #[]
  simpa using this
theorem op_repS : OpR X (binaryOp .Mult) rRepS := by
  intro pins s σ H x y v u Q I rx ry h
  obtain ⟨z, k, rfl, rfl, ok, q⟩ := h
  obtain ⟨t, rfl⟩ := rx
  obtain ⟨t', rfl⟩ := ry
  unfold repOk at ok
  simp only [Bool.and_eq_true, decide_eq_true_eq] at ok
  obtain ⟨⟨⟨h1, h2⟩, h3⟩, h4⟩ := ok
  have hz : z.length ≤ 1000000 := by
    have : z.length * 1 ≤ z.length * k.toNat := Nat.mul_le_mul_left _ (by omega)
    omega
  refine PySem.P.mul_str (by rw [decide_eq_false (show ¬ k < -(2 ^ 63 : Int) by omega), decide_eq_false (show ¬ k ≥ 2 ^ 63 by omega)]; rfl) (fun _ _ => ?_) (fun _ _ => ?_) ?_
  · have : (1000000 : Int) ≤ (2 ^ 63 - 1) / k := by
      rw [Int.le_ediv_iff_mul_le (by omega)]
      omega
    omega
  · unfold Builtin.Str.tooLong
    rw [decide_eq_false (by have : (1000000 : Nat) ≤ sizeLine := by decide
                            omega)]
  · rw [if_neg (by omega), if_neg (by
      rw [Bool.or_eq_true]
      intro hh
      rcases hh with hh | hh
      · have := eq_of_beq hh
        omega
      · exact h3 (eq_of_beq hh))]
    refine ⟨?_, .str _, H, I.tok _, ⟨_, rfl⟩, q⟩
    show ((List.replicate k.toNat z.cps).foldl (· ++ ·) #[]).size ≤ _
    rw [repS_len, Nat.mul_comm]
    have : (1000000 : Nat) ≤ sizeLine := by decide
    omega
def opMulS : D → D → Option Vl
  | .str x, .int k => if repOk x k then some (.fz (.str (repS x k.toNat))) else none
  | _, _ => none
theorem opMulS_ok : BinOk X W G L rRepS opMulS := by
  intro c0 c x y v u Q _ ex s rx ry hr
  obtain ⟨r, er, hr⟩ := liftO_req hr
  unfold opMulS at er
  split at er
  · split at er
    · rename_i ok
      cases er
      cases rx
      cases ry
      exact ⟨_, _, rfl, rfl, ok, Req.here hr s _ (.str _)⟩
    · cases er
  · cases er
theorem SE.mulS {ma mb : M D} (ha : SD X W G L a ma) (hb : SD X W G L b mb) : SE X W G L (.BinOp a .Mult b pos) (ev2 opMulS ma mb) := SE.bin op_repS opMulS_ok ha hb
/-! ### slices -/
def cutOfA (lo hi : Option Int) : D → Option Vl
  | .lst l => some (.nw (.lst (cutD l lo hi)))
  | .tup l => some (.fz (.tup (cutD l lo hi)))
  | .str z => if z.length ≤ sizeLine then some (.fz (.str (Txt.slice z lo hi))) else none
  | _ => none
theorem cutD_whole {l : List D} {lo hi : Option Int} (h : HT.sIx l.length 0 lo = 0 ∧ HT.sIx l.length l.length hi = l.length) : cutD l lo hi = l := by
  unfold cutD
  rw [h.1, h.2, List.drop_zero, Nat.sub_zero, List.take_length]
def evSlA (m : M D) (ml mh : M (Option Int)) : M Vl := m.bind fun d => ml.bind fun lo => mh.bind fun hi => liftO (cutOfA lo hi d)
theorem SE.sliceA {lo hi : Option Expr} {p2 : Pos} {m : M D} {ml mh : M (Option Int)} (h : SD X W G L e m) (hl : SO X W G L lo ml) (hh : SO X W G L hi mh) : SE X W G L (.Subscript e (.Slice lo hi .none p2) pos) (evSlA m ml mh) := by
  obtain ⟨t, p, q⟩ := h.ex
  obtain ⟨tl, pl, ql⟩ := hl.ex
  obtain ⟨th, ph, qh⟩ := hh.ex
  refine ⟨_, pe_slice (L2.SlR.or (L2.SlR.or sl_list sl_tupA) C8.sl_txt) p pl ph, fun c Q s h => ?_⟩
  refine q c _ s ((Req.bind h).imp fun d c1 _ e1 x1 s1 h1 v rv => ?_)
  show tl c.σ c1.H _
  rw [← e1]
  refine ql c1 _ s1 ((Req.bind h1).imp fun ol c2 _ e2 x2 s2 h2 => ?_)
  show th c1.σ c2.H _
  rw [← e2]
  refine qh c2 _ s2 ((Req.bind h2).imp fun oh c3 _ e3 x3 s3 h3 => ?_)
  obtain ⟨r, er, h4⟩ := liftO_req h3
  clear h3
  have rv3 := x3.rp s2 (x2.rp s1 rv)
  cases d with
  | lst l =>
    cases er
    cases rv3 with
    | lst f r ll => exact .inl (.inl ⟨_, _, rfl, .inl (.inl r), fun p n => newLst ((x1.trans x2).trans x3) s3 (cut_rel ll ol oh) n h4⟩)
  | tup l =>
    cases er
    cases rv3 with
    | tup f r ll =>
      refine .inl (.inr ⟨_, _, rfl, .inl (.inl r), fun hw => ?_, fun _ p n => newTup ((x1.trans x2).trans x3) s3 (cut_rel ll ol oh) n h4⟩)
      rw [ll.length] at hw
      rw [cutD_whole hw] at h4
      exact Req.here h4 s3 _ (.tup f r ll)
  | str z =>
    have er : (if z.length ≤ sizeLine then some (Vl.fz (.str (Txt.slice z ol oh))) else none) = some r := er
    split at er
    · rename_i hz
      cases er
      cases rv3
      exact .inr ⟨_, rfl, hz, Req.here h4 s3 _ (.str _)⟩
    · cases er
  | _ => cases er
end
end Ev

/-! EvYc: division of wide ints. -/
namespace Ev
open PySem PySem.Spec PyProof.Rows L2
section
variable {X : Cx} {W : WX} {G : Gc} {L : Lt} {e a b : Expr} {pos : Pos} {c c0 c1 : Cf}
def dvW (i j : Int) : Bool := decide (j ≠ 0) && !Builtin.divisionGoesByPylong i j
def fDivW (i j : Int) : Option D := if dvW i j then some (.int (i.fdiv j)) else none
theorem op_fdivGW : OpR X (binaryOp .FloorDiv) (rI (fun i j => dvW i j = true) fun i j => .int (i.fdiv j)) := opI fun i j _ _ _ _ _ hc q => by
  have hc : (decide (j ≠ 0) && !Builtin.divisionGoesByPylong i j) = true := hc
  rw [Bool.and_eq_true, Bool.not_eq_true'] at hc
  exact floordiv_int (of_decide_eq_true hc.1) q (.inl hc.2)
theorem SE.fdivW {ma mb : M D} (ha : SD X W G L a ma) (hb : SD X W G L b mb) : SE X W G L (.BinOp a .FloorDiv b pos) (ev2 (i2 fDivW) ma mb) := SE.bin op_fdivGW (i2_ok fun i j d h => by
  unfold fDivW at h
  split at h
  · rename_i q
    cases h
    exact ⟨q, fun _ _ _ => .int _⟩
  · cases h) ha hb
end
theorem p_divW (i j : Int) (h : divOk j = true) : fDivW i j = some (.int (i.fdiv j)) := by
  unfold divOk at h
  rw [Bool.and_eq_true] at h
  unfold fDivW dvW
  rw [h.1, PyProof.noPylong_of_log2 (of_decide_eq_true h.2)]
  rfl
theorem p_dvW (i j : Int) (h : dvW i j = true) : fDivW i j = some (.int (i.fdiv j)) := by
  unfold fDivW
  rw [if_pos h]
/-- a dividend of less than 13500 bits is divided by C -/
theorem dvW_of {i j : Int} (h0 : j ≠ 0) (h : i.natAbs < 2 ^ 13500) : dvW i j = true := by
  unfold dvW
  rw [decide_eq_true h0, Bool.true_and, Bool.not_eq_true']
  have hl : i.natAbs.log2 < 13500 := PySem.Flt.log2_lt_of (by decide) h
  unfold Builtin.divisionGoesByPylong
  have k1 : (j == 0) = false := by simpa using h0
  simp only [k1, Bool.false_eq_true, if_false]
  by_cases hi : i = 0
  · subst hi
    simp
  · have k2 : (i == 0) = false := by simpa using hi
    simp only [k2, Bool.false_eq_true, if_false]
    rw [Bool.and_eq_false_iff]
    by_cases hj : j.natAbs.log2 / 30 + 1 > 300
    · right
      rw [decide_eq_false_iff_not]
      omega
    · left
      rw [decide_eq_false_iff_not]
      exact hj
end Ev

/-! EvYd: defs with a default. -/
namespace Ev
open PySem PySem.Spec PyProof.Rows L2
theorem fn_soundD {P : Program} {w : World} {K : PySem.W.Frag} {mg : Str → Option Value} {base : Heap} {G : Gc} {x qual : Str} {st : Stmt} {f : Addr} {fd : FuncData} {N ps : List Str} {k : Nat} {m : M Fl} {dvs : List V} (F : L2.FunD K x qual (defArgs st) (defBody st) (defScope st) dvs [] f fd) (S : FnScope N ps (defScope st))
    (hbody : ∀ (cdv : Value) (A : Around) (outer : List Env) (s : Shared) (H : Hp) (E : XK) (L : Lt), Bd (cxOf (L2.CX P w) P w K mg base N qual (defScope st) f cdv A outer s H E) (fun cls d _ H => E cls d H) k →
      SSs (cxOf (L2.CX P w) P w K mg base N qual (defScope st) f cdv A outer s H E) (fun cls d _ H => E cls d H) G L (defBody st) m) :
    FnG P w K mg base (L2.CX P w) (k + 1) f fd ps (spEv G (fnSem m N.length) ps.length) := by
  obtain ⟨oc, od, dV, kV, doc, pm, an, cdv, ct, osl, rfl, lk, hcd, _, _⟩ := F.ex
  refine fn_ofG lk hcd S (fun vs H Q E h => h.1) fun A outer s H vs Q E hr hsp => ?_
  obtain ⟨hv, F0, as, hcl, ok, hq⟩ := hsp
  have hpl : ps.length ≤ N.length := by have := congrArg List.length S.pre; rw [List.length_take] at this; omega
  obtain ⟨t, p, q⟩ := (hbody cdv A outer s H E (lentOf vs as) ⟨rfl, passes_of rfl, takes_of rfl rfl rfl rfl, hr⟩).ex
  exact ⟨t, p, q (bodyC N vs as F0 H) _ (body_ok ok (by omega) fun i a e => lentOf_get e) (fnSem_req ok (by omega) hcl hq)⟩
theorem KBinds.ofD {K : PySem.W.Frag} {fd : FuncData} {ps : List Str} {ds : List Value} {dvs : List V} (hv : Vals dvs ds) (h : Binds K fd ps ds) : KBinds K fd ps [] (fun us _ => us ++ ds) (fun vs _ => vs ++ dvs) :=
  ⟨fun s us ws hk hl => by simpa using h s us hk hl, fun r _ => r.append hv⟩
theorem GRel.ofD (w : Str) : GRel (fun vs _ => vs ++ [V.str w]) (fun as _ => as ++ [Ar.v (.str w)]) := fun r _ => RAs.append r (.cons (.v (.str w)) .nil)
theorem funD_mk {K : PySem.W.Frag} {x qual : Str} {st : Stmt} {w : Str} {f T : Addr} {o : Obj} {tk : Tok} {n : Nat} {oc : Value} {od an : Option Addr} {osl : Array (Option Value)} {kV doc pm cdv ct : Value}
    (lk : K.lookup f = some ⟨oc, od, .func (PySem.W.fnOf x qual (defArgs st) (defBody st) (defScope st) (.ref T) kV doc pm an cdv ct), osl⟩) (hc : PySem.W.codeIn K cdv qual = true) (kp : PySem.W.keepIn K (.ref f) = true)
    (lT : K.lookup T = some o) (dT : o.data = .seq #[.str w tk] n) : L2.FunD K x qual (defArgs st) (defBody st) (defScope st) [.str w] [] f (PySem.W.fnOf x qual (defArgs st) (defBody st) (defScope st) (.ref T) kV doc pm an cdv ct) :=
  ⟨⟨oc, od, .ref T, kV, doc, pm, an, cdv, ct, osl, rfl, lk, hc, .inr ⟨by simp, T, o, [.str w tk], n, rfl, lT, dT, .cons ⟨tk, rfl⟩ .nil⟩, .inl rfl⟩, kp⟩
/-! ### a op b op' c -/
section
variable {X : Cx} {W : WX} {G : Gc} {L : Lt} {a b e : Expr} {pos : Pos}
def evChT (f f' : D → D → Option Vl) (ma mb mc : M D) : M Bool := ma.bind fun x => mb.bind fun y => (liftO (vBool (f x y))).bind fun k => if k = true then mc.bind fun z => liftO (vBool (f' y z)) else mpure false
theorem vBool_some {r : Option Vl} {k : Bool} (h : vBool r = some k) : r = some (.fz (.bl k)) := by
  unfold vBool at h
  split at h
  · cases h; rfl
  · cases h
theorem ST.chain {op op' : CmpOp} {ma mb mc : M D} {f f' : D → D → Option Vl} {r r' : R2} (ho : OpR X (compareOp op) r) (ho' : OpR X (compareOp op') r') (hf : BinOk X W G L r f) (hf' : BinOk X W G L r' f') (ha : SD X W G L a ma) (hb : SD X W G L b mb) (hc : SD X W G L e mc)
    (hm : lastMarks [op, op'] [b, e] = false := by with_unfolding_all rfl) : ST X W G L (.Compare a [op, op'] [b, e] pos) (evChT f f' ma mb mc) := by
  obtain ⟨ta, pa, qa⟩ := ha.ex
  obtain ⟨tb, pb, qb⟩ := hb.ex
  obtain ⟨tc, pc, qc⟩ := hc.ex
  refine ⟨_, pt_chain ho ho' pa pb pc hm, fun c Q s h => ?_⟩
  refine qa c _ s ((Req.bind h).imp fun x c1 _ e1 x1 s1 h1 v rv => ?_)
  show tb c.σ c1.H _
  rw [← e1]
  refine qb c1 _ s1 ((Req.bind h1).imp fun y c2 _ e2 x2 s2 h2 u ru => ?_)
  obtain ⟨k, ek, h3⟩ := liftO_req (Req.bind h2)
  refine hf c2 c2 x y v u _ rfl Ext.refl s2 (x2.rp s1 rv) ru ?_
  rw [vBool_some ek]
  intro F' H' x3 s3 w rw'
  cases rw'
  have h4 := h3 F' H' x3 s3
  refine ⟨k, rfl, ?_⟩
  cases k with
  | false =>
    rw [if_neg Bool.false_ne_true] at h4 ⊢
    exact ⟨false, rfl, Req.here (r := false) h4 s3⟩
  | true =>
    rw [if_pos rfl] at h4 ⊢
    have e3 : c2.σ = c.σ := e2.trans e1
    show tc c1.σ H' _
    rw [← e2]
    refine qc ⟨c2.σ, c2.ρ, F', H'⟩ _ s3 ((Req.bind h4).imp fun z c4 _ e4 x4 s4 h5 w' rw' => ?_)
    obtain ⟨k', ek', h6⟩ := liftO_req h5
    refine hf' c4 c4 y z u w' _ rfl Ext.refl s4 (x4.rp s3 (x3.rp s2 ru)) rw' ?_
    rw [vBool_some ek']
    intro F5 H5 x5 s5 w5 rw5
    cases rw5
    exact ⟨k', rfl, h6 F5 H5 x5 s5⟩
theorem ST.chLe {ma mb mc : M D} (ha : SD X W G L a ma) (hb : SD X W G L b mb) (hc : SD X W G L e mc) (hm : lastMarks [.LtE, .LtE] [b, e] = false := by with_unfolding_all rfl) : ST X W G L (.Compare a [.LtE, .LtE] [b, e] pos) (evChT cLe cLe ma mb mc) :=
  ST.chain op_le op_le (i2_ok0 fun i j _ _ _ => .bl _) (i2_ok0 fun i j _ _ _ => .bl _) ha hb hc hm
end
end Ev

/-! EvZ: equality of plain data; numbers as rationals. -/
namespace Ev
open PySem PySem.Spec PyProof.Rows L2
/-! ### plain data -/
mutual
def pl : D → Bool
  | .non => true
  | .bl _ => true
  | .int _ => true
  | .str x => PyData.strOk x
  | .lst l => pls l
  | .tup l => pls l
  | _ => false
def pls : List D → Bool
  | [] => true
  | d :: l => pl d && pls l
end
mutual
theorem pl_lay : ∀ d : D, pl d = true → isP d = true ∧ (toP d).canLay0 = true ∧ (toP d).depth ≤ dep d
  | .non, _ => ⟨rfl, rfl, Nat.le_refl _⟩
  | .bl _, _ => ⟨rfl, rfl, Nat.le_refl _⟩
  | .int _, _ => ⟨rfl, rfl, Nat.le_refl _⟩
  | .str x, h => ⟨rfl, by simpa [toP, PyData.canLay0, pl] using h, Nat.le_refl _⟩
  | .lst l, h => by
    obtain ⟨a, b, c⟩ := pls_lay l (by simpa [pl] using h)
    exact ⟨by simpa [isP] using a, by simpa [toP, PyData.canLay0] using b, by simpa [toP, PyData.depth, dep] using c⟩
  | .tup l, h => by
    obtain ⟨a, b, c⟩ := pls_lay l (by simpa [pl] using h)
    exact ⟨by simpa [isP] using a, by simpa [toP, PyData.canLay0] using b, by simpa [toP, PyData.depth, dep] using c⟩
  | .dic _, h => by simp [pl] at h
  | .dct _, h => by simp [pl] at h
  | .scr _, h => by simp [pl] at h
  | .gl _, h => by simp [pl] at h
  | .ty _, h => by simp [pl] at h
  | .obj _ _, h => by simp [pl] at h
  | .exc _ _, h => by simp [pl] at h
theorem pls_lay : ∀ l : List D, pls l = true → isPs l = true ∧ PyData.canLayAll0 (toPs l) = true ∧ PyData.depthAll (toPs l) ≤ deps l
  | [], _ => ⟨rfl, rfl, Nat.le_refl _⟩
  | d :: l, h => by
    have h : pl d = true ∧ pls l = true := by simpa [pls] using h
    obtain ⟨a, b, c⟩ := pls_lay l h.2
    obtain ⟨a1, b1, c1⟩ := pl_lay d h.1
    refine ⟨by simp [isPs, a, a1], by simp [toPs, PyData.canLayAll0, b, b1], ?_⟩
    simp only [toPs, PyData.depthAll, deps]
    omega
end
theorem pl_sh {d : D} (h : pl d = true) (h2 : dep d ≤ 64) : shP d = true := by
  obtain ⟨a, b, c⟩ := pl_lay d h
  unfold shP SeqAt.shaped
  rw [a, b, decide_eq_true (Nat.le_trans c h2)]
  rfl
/-- Python's == on plain data -/
def deq (a b : D) : Bool := PyData.eqv (toP a) (toP b)
def deqs (a b : List D) : Bool := PyData.eqvAll (toPs a) (toPs b)
theorem p_eqD {a b : D} (ha : pl a = true) (hb : pl b = true) (da : dep a ≤ 64) (db : dep b ≤ 64) : eqA a b = some (.fz (.bl (deq a b))) := by
  have e : cEq a b = some (.fz (.bl (deq a b))) := by
    unfold cEq
    rw [pl_sh ha da, pl_sh hb db]
    rfl
  unfold eqA
  split
  · rename_i x y
    refine congrArg (fun z => some (Vl.fz (.bl z))) ?_
    show _ = PyData.eqv (.str x) (.str y)
    simp only [PyData.eqv]
    by_cases h : x = y
    · subst h; simp
    · rw [decide_eq_false h, beq_eq_false_iff_ne.mpr h]
  · exact e
theorem p_neD {a b : D} (ha : pl a = true) (hb : pl b = true) (da : dep a ≤ 64) (db : dep b ≤ 64) : neA a b = some (.fz (.bl (!deq a b))) := by
  have e : cNe a b = some (.fz (.bl (!deq a b))) := by
    unfold cNe
    rw [pl_sh ha da, pl_sh hb db]
    rfl
  unfold neA
  split
  · rename_i x y
    refine congrArg (fun z => some (Vl.fz (.bl (!z)))) ?_
    show _ = PyData.eqv (.str x) (.str y)
    simp only [PyData.eqv]
    by_cases h : x = y
    · subst h; simp
    · rw [decide_eq_false h, beq_eq_false_iff_ne.mpr h]
  · exact e
mutual
theorem deq_refl : ∀ d : D, pl d = true → deq d d = true
  | .non, _ => rfl
  | .bl b, _ => by show (b == b) = true; simp
  | .int i, _ => by show (i == i) = true; simp
  | .str x, _ => by show (x == x) = true; simp
  | .lst l, h => deqs_refl l (by simpa [pl] using h)
  | .tup l, h => deqs_refl l (by simpa [pl] using h)
  | .dic _, h => by simp [pl] at h
  | .dct _, h => by simp [pl] at h
  | .scr _, h => by simp [pl] at h
  | .gl _, h => by simp [pl] at h
  | .ty _, h => by simp [pl] at h
  | .obj _ _, h => by simp [pl] at h
  | .exc _ _, h => by simp [pl] at h
theorem deqs_refl : ∀ l : List D, pls l = true → deqs l l = true
  | [], _ => rfl
  | d :: l, h => by
    have h : pl d = true ∧ pls l = true := by simpa [pls] using h
    show (PyData.eqv (toP d) (toP d) && PyData.eqvAll (toPs l) (toPs l)) = true
    rw [show PyData.eqv (toP d) (toP d) = true from deq_refl d h.1, show PyData.eqvAll (toPs l) (toPs l) = true from deqs_refl l h.2]
    rfl
end
theorem deq_lst (a b : List D) : deq (.lst a) (.lst b) = deqs a b := rfl
theorem deq_tup (a b : List D) : deq (.tup a) (.tup b) = deqs a b := rfl
theorem deqs_cons (x y : D) (a b : List D) : deqs (x :: a) (y :: b) = (deq x y && deqs a b) := rfl
theorem deqs_nil : deqs [] [] = true := rfl
theorem deq_int (i j : Int) : deq (.int i) (.int j) = decide (i = j) := by
  show (i == j) = _
  by_cases h : i = j
  · subst h; simp
  · rw [decide_eq_false h, beq_eq_false_iff_ne.mpr h]
/-! ### numbers -/
/-- a number as the package has it -/
def num (q : Rat) : D := if q.den = 1 then .int q.num else .tup [.int q.num, .int q.den]
theorem num_int (i : Int) : num (i : Rat) = .int i := if_pos rfl
theorem num_of1 {q : Rat} (h : q.den = 1) : num q = .int q.num := if_pos h
theorem num_ofN {q : Rat} (h : q.den ≠ 1) : num q = .tup [.int q.num, .int q.den] := if_neg h
theorem num_pl (q : Rat) : pl (num q) = true := by
  unfold num
  split <;> rfl
theorem num_dep (q : Rat) : dep (num q) ≤ 1 := by
  unfold num
  split
  · exact Nat.zero_le _
  · exact Nat.le_refl _
theorem num_eq (p q : Rat) : deq (num p) (num q) = decide (p = q) := by
  by_cases h : p = q
  · subst h
    rw [deq_refl _ (num_pl p)]
    simp
  · rw [decide_eq_false h]
    unfold num
    split <;> split
    · rename_i h1 h2
      rw [deq_int]
      exact decide_eq_false fun e => h (Rat.ext e (h1.trans h2.symm))
    · rfl
    · rfl
    · rw [deq_tup, deqs_cons, deqs_cons, deqs_nil, deq_int, deq_int]
      by_cases h1 : p.num = q.num
      · by_cases h2 : (p.den : Int) = q.den
        · exact absurd (Rat.ext h1 (by omega)) h
        · rw [decide_eq_false h2]
          simp
      · rw [decide_eq_false h1]
        rfl
theorem num_inj {p q : Rat} (h : num p = num q) : p = q := by
  have e := num_eq p q
  rw [h, deq_refl _ (num_pl q)] at e
  exact of_decide_eq_true e.symm
/-- a number as it may be passed -/
def IsNum (d : D) (q : Rat) : Prop := d = num q ∨ (q.den ≠ 1 ∧ d = .lst [.int q.num, .int q.den])
theorem IsNum.self (q : Rat) : IsNum (num q) q := .inl rfl
/-- the sizes above and below the line -/
structure Bq (k : Nat) (q : Rat) : Prop where
  n : q.num.natAbs < 2 ^ k
  d : q.den < 2 ^ k
theorem Bq.mono {j k : Nat} {q : Rat} (h : Bq j q) (l : j ≤ k) : Bq k q := ⟨Nat.lt_of_lt_of_le h.n (Nat.pow_le_pow_right (by decide) l), Nat.lt_of_lt_of_le h.d (Nat.pow_le_pow_right (by decide) l)⟩
theorem gcd_pos {a b : Int} (h : b ≠ 0) : 0 < (Int.gcd a b : Int) := by
  have : Int.gcd a b ≠ 0 := fun e => h (Int.gcd_eq_zero_iff.mp e).2
  omega
/-- what stands above and below the line of a quotient -/
theorem low_pos (a b : Int) (h : 0 < b) : a.fdiv (Int.gcd a b) = (Rat.divInt a b).num ∧ b.fdiv (Int.gcd a b) = ((Rat.divInt a b).den : Int) := by
  have g0 := gcd_pos (a := a) (b := b) (by omega)
  rw [Int.fdiv_eq_ediv_of_nonneg _ (by omega), Int.fdiv_eq_ediv_of_nonneg _ (by omega), Rat.num_divInt, Rat.den_divInt, if_neg (by omega), Int.sign_eq_one_of_pos h, Int.one_mul, Int.gcd_comm b a]
  refine ⟨rfl, ?_⟩
  rw [Int.natCast_ediv]
  congr 1
  omega
theorem low_neg (a b : Int) (h : b < 0) : a.fdiv (-(Int.gcd a b : Int)) = (Rat.divInt a b).num ∧ b.fdiv (-(Int.gcd a b : Int)) = ((Rat.divInt a b).den : Int) := by
  have g0 := gcd_pos (a := a) (b := b) (by omega)
  have e := low_pos (-a) (-b) (by omega)
  rw [Rat.neg_divInt_neg, Int.neg_gcd, Int.gcd_neg] at e
  rw [← e.1, ← e.2]
  constructor
  · rw [← Int.neg_fdiv_neg, Int.neg_neg]
  · rw [← Int.neg_fdiv_neg, Int.neg_neg]
theorem Bq_div {k : Nat} {a b : Int} (h : b ≠ 0) (ha : a.natAbs < 2 ^ k) (hb : b.natAbs < 2 ^ k) : Bq k (Rat.divInt a b) := by
  constructor
  · rw [Rat.num_divInt]
    refine Nat.lt_of_le_of_lt ?_ ha
    rw [Int.natAbs_ediv_of_dvd (Int.dvd_mul_of_dvd_right (Int.gcd_dvd_right ..)), Int.natAbs_mul, Int.natAbs_sign_of_ne_zero h, Nat.one_mul]
    exact Nat.div_le_self _ _
  · rw [Rat.den_divInt, if_neg h]
    exact Nat.lt_of_le_of_lt (Nat.div_le_self _ _) hb
end Ev
namespace Ev
theorem mul_bits {a b j k : Nat} (ha : a < 2 ^ j) (hb : b < 2 ^ k) : a * b < 2 ^ (j + k) := by
  rw [Nat.pow_add]
  exact Nat.mul_lt_mul'' ha hb
theorem gcd_log2 {a b : Int} {k : Nat} (hb : b ≠ 0) (h : b.natAbs < 2 ^ k) (hk : k < 9000) : (Int.gcd a b).log2 < 9000 := by
  have g : Int.gcd a b ≤ b.natAbs := Nat.le_of_dvd (Int.natAbs_pos.mpr hb) (Int.natAbs_dvd_natAbs.mpr (Int.gcd_dvd_right ..) |> fun x => by simpa using x)
  by_cases h0 : Int.gcd a b = 0
  · rw [h0]
    decide
  · have := (Nat.log2_lt h0).mpr (Nat.lt_of_le_of_lt g h)
    omega
theorem div_halves (p q : Rat) : Rat.divInt (p.num * q.den) (p.den * q.num) = p / q := by
  rw [Rat.div_def, Rat.inv_def]
  conv => rhs; rw [← Rat.num_divInt_den p]
  rw [Rat.divInt_mul_divInt]
theorem Bq.neg {k : Nat} {q : Rat} (h : Bq k q) : Bq k (-q) := ⟨by rw [Rat.neg_num, Int.natAbs_neg]; exact h.n, h.d⟩
theorem Bq.mul {j k : Nat} {p q : Rat} (hp : Bq j p) (hq : Bq k q) : Bq (j + k) (p * q) := by
  rw [Rat.mul_def', ← Rat.divInt_ofNat]
  refine Bq_div (by have := p.den_pos; have := q.den_pos; have : 0 < p.den * q.den := Nat.mul_pos ‹_› ‹_›; omega) ?_ ?_
  · rw [Int.natAbs_mul]
    exact mul_bits hp.n hq.n
  · rw [Int.natAbs_natCast]
    exact mul_bits hp.d hq.d
theorem Bq.add {j k : Nat} {p q : Rat} (hp : Bq j p) (hq : Bq k q) : Bq (j + k + 1) (p + q) := by
  rw [Rat.add_def', ← Rat.divInt_ofNat]
  have b1 := mul_bits hp.n hq.d
  have b2 := mul_bits hq.n hp.d
  rw [Nat.add_comm k j] at b2
  refine Bq_div (by have := p.den_pos; have := q.den_pos; have : 0 < p.den * q.den := Nat.mul_pos ‹_› ‹_›; omega) ?_ ?_
  · refine Nat.lt_of_le_of_lt (Int.natAbs_add_le _ _) ?_
    rw [Int.natAbs_mul, Int.natAbs_mul, Int.natAbs_natCast, Int.natAbs_natCast, Nat.pow_succ]
    omega
  · rw [Int.natAbs_natCast, Nat.pow_succ]
    have := mul_bits hp.d hq.d
    omega
theorem Bq.sub {j k : Nat} {p q : Rat} (hp : Bq j p) (hq : Bq k q) : Bq (j + k + 1) (p - q) := by
  rw [Rat.sub_eq_add_neg]
  exact hp.add hq.neg
theorem Bq.inv {k : Nat} {q : Rat} (h : Bq k q) (h0 : q ≠ 0) : Bq k q⁻¹ := by
  rw [Rat.inv_def]
  exact Bq_div (fun e => h0 (Rat.num_eq_zero.mp e)) (by rw [Int.natAbs_natCast]; exact h.d) h.n
theorem Bq.div {j k : Nat} {p q : Rat} (hp : Bq j p) (hq : Bq k q) (h0 : q ≠ 0) : Bq (j + k) (p / q) := by
  rw [Rat.div_def]
  exact hp.mul (hq.inv h0)
end Ev
namespace Ev
theorem isiInt_num (q : Rat) : bIsi [num q, .ty .int] = some (.fz (.bl (decide (q.den = 1)))) := by
  by_cases h : q.den = 1
  · rw [num_of1 h, decide_eq_true h]
    rfl
  · rw [num_ofN h, decide_eq_false h]
    rfl
end Ev

/-! EvPx: reckoning with exceptions, lambdas, defs held by names. -/
namespace Ev
open PySem PySem.Spec PyProof.Rows L2
variable {α β : Type} {ρ : Rho}
theorem p_ex (e : D) (f : α → Rho → Out β) : (Out.ex e ρ).bind f = .ex e ρ := (rfl)
/-- a def that raises -/
theorem fx_of {m : M Fl} {z : Nat} {as : List Sl} {e : D} {ρ : Rho} (h : m (as ++ List.replicate (z - as.length) .un) = .ex e ρ) (l : as.length ≤ ρ.length) : fnSem m z as = .ex e (outsOf as ρ) := by
  unfold fnSem
  rw [h]
  show (if as.length ≤ ρ.length then _ else _) = _
  rw [if_pos l]
theorem fr_of {m : M Fl} {z : Nat} {as : List Sl} {r : Vl} {ρ : Rho} (h : m (as ++ List.replicate (z - as.length) .un) = .ok (.rt r) ρ) (l : as.length ≤ ρ.length) : fnSem m z as = .ok r (outsOf as ρ) := by
  unfold fnSem
  rw [h]
  show (if as.length ≤ ρ.length then _ else _) = _
  rw [if_pos l]
def kRz (x f : Nat) (d : D) : M Fl := fun ρ => .ex (.exc x [(f, d)]) ρ
theorem p_raise (x f : Nat) (m : M D) : mRaise x f m ρ = (m ρ).bind (kRz x f) := (rfl)
theorem p_kRz (x f : Nat) (d : D) : kRz x f d ρ = .ex (.exc x [(f, d)]) ρ := (rfl)
def kTr (i : Nat) (_ : Unit) : M Fl := fun ρ2 => if wipeOk ρ2 [i] = true then .ok .nx (wipeR ρ2 [i]) else .no
theorem p_try (i j : Nat) (test : Nat → Option Bool) (mb : M Fl) : mTry i j test mb ρ = tryO i j test (mb ρ) := (rfl)
theorem p_tryok (i j : Nat) (test : Nat → Option Bool) (r : Fl) : tryO i j test (.ok r ρ) = .ok r ρ := (rfl)
theorem p_tryex (i j : Nat) (test : Nat → Option Bool) (x : Nat) (fs : List (Nat × D)) : tryO i j test (.ex (.exc x fs) ρ) = tryEx i j test x fs ρ (test x) := (rfl)
theorem p_tryT (i j : Nat) (test : Nat → Option Bool) (x : Nat) (fs : List (Nat × D)) : tryEx i j test x fs ρ (some true) = (setSlot j (.fz (.exc x fs)) ρ).bind (kTr i) := (rfl)
theorem p_kTr (i : Nat) (u : Unit) (h : wipeOk ρ [i] = true) : kTr i u ρ = .ok .nx (wipeR ρ [i]) := by
  unfold kTr
  rw [if_pos h]
def wipS : Option Sl → Bool
  | some .un => true
  | some (.fz _) => true
  | _ => false
theorem p_wip1 (i : Nat) : wipeOk ρ [i] = wipS ρ[i]? := by
  unfold wipeOk wipS
  cases h : ρ[i]? with
  | none => simp [h]
  | some s => cases s <;> simp [h]
theorem p_wipU : wipS (some .un) = true := (rfl)
theorem p_wipF (d : D) : wipS (some (.fz d)) = true := (rfl)
theorem p_wip0 : wipeR ρ [] = ρ := (rfl)
theorem p_wipR (v : Nat) (vs : List Nat) : wipeR ρ (v :: vs) = (wipeR ρ vs).set v .un := (rfl)
/-! ### lambdas -/
def kLam (φ : Fn) (mb : M Vl) (_ : Unit) : M Vl := fun ρ => lamO ρ (φ [.cl fun _ => coOf mb ρ])
def kFr (is : List Nat) (_ : D) : M Unit := evFrz is
theorem p_lam (φ : Fn) (is : List Nat) (mb : M Vl) : evLam φ is mb ρ = (evFrz is ρ).bind (kLam φ mb) := (rfl)
theorem p_frz0 : evFrz [] ρ = .ok () ρ := (rfl)
theorem p_frz (i : Nat) (is : List Nat) (h : gdS ρ[i]? = true) : evFrz (i :: is) ρ = (evVar i ρ).bind (kFr is) := by
  show (if gdS ρ[i]? then _ else _) = _
  rw [if_pos h]
  rfl
theorem p_gdF (d : D) : gdS (some (.fz d)) = true := (rfl)
theorem p_gdLf (d : D) : gdS (some (.lf d)) = true := (rfl)
theorem p_gdO (l : List D) : gdS (some (.ow (.lst l))) = true := (rfl)
theorem p_gdL (l : List D) : gdS (some (.ln (.lst l))) = true := (rfl)
theorem p_kFr (is : List Nat) (d : D) : kFr is d ρ = evFrz is ρ := (rfl)
theorem p_kLam (φ : Fn) (mb : M Vl) (u : Unit) : kLam φ mb u ρ = lamO ρ (φ [.cl fun _ => coO (mb (ρ.map frzS))]) := (rfl)
theorem p_lamO (r : Vl) (o : List Sl) : lamO ρ (.ok r o) = .ok r ρ := (rfl)
theorem p_coOk (d : D) : coO (.ok (.fz d) ρ) = .ok d := (rfl)
theorem p_coOl (l : List D) : coO (.ok (.nw (.lst l)) ρ) = .ok (.lst l) := (rfl)
theorem p_coEx (d : D) : coO (.ex d ρ) = .ex d := (rfl)
theorem p_fsF (d : D) : frzS (.fz d) = .fz d := (rfl)
theorem p_fsL (d : D) : frzS (.lf d) = .fz d := (rfl)
theorem p_fsO (d : D) : frzS (.ow d) = .un := (rfl)
theorem p_fsN (d : D) : frzS (.ln d) = .un := (rfl)
theorem p_fsU : frzS .un = .un := (rfl)
def coD (ρ : Rho) : CO → Out D
  | .ok d => .ok d ρ
  | .ex d => .ex d ρ
  | .no => .no
def cloO (ρ : Rho) : Option Sl → Out D
  | some (.cl f) => coD ρ (f [])
  | _ => .no
theorem p_clo (i : Nat) : evClo i ρ = cloO ρ ρ[i]? := by
  unfold evClo cloO
  cases ρ[i]? with
  | none => rfl
  | some s => cases s <;> rfl
theorem p_cloO (f : List D → CO) : cloO ρ (some (.cl f)) = coD ρ (f []) := (rfl)
theorem p_coDk (d : D) : coD ρ (.ok d) = .ok d ρ := (rfl)
theorem p_coDx (d : D) : coD ρ (.ex d) = .ex d ρ := (rfl)
theorem ou_cl (f : List D → CO) (as : List Sl) (s : Sl) : outsOf (.cl f :: as) (s :: ρ) = .cl f :: outsOf as ρ := (rfl)
theorem p_setC (i : Nat) (r : Vl) (f : List D → CO) : setO i r ρ (some (.cl f)) = .ok () (ρ.set i (slOf r)) := (rfl)
/-! ### calls -/
theorem p_callO2x (ars : List Ar) (d : D) (outs : List Sl) : callO2 ars ρ (.ex d outs) = .ex d (scat ars outs 0 ρ) := (rfl)
def kCV (tbl : Nat → Option (Fn × Nat)) (m : M (List Ar)) (fv : D) : M Vl := runV m (defOf tbl fv)
def kRV (φ : Fn) (k : Nat) (as : List Ar) : M Vl := if as.length = k then callAr φ as else fun _ => .no
theorem p_callV (i : Nat) (tbl : Nat → Option (Fn × Nat)) (m : M (List Ar)) : evCallV i tbl m ρ = (evVar i ρ).bind (kCV tbl m) := (rfl)
theorem p_kCV (tbl : Nat → Option (Fn × Nat)) (m : M (List Ar)) (n : Nat) : kCV tbl m (.gl n) ρ = runV m (tbl n) ρ := (rfl)
theorem p_runV (m : M (List Ar)) (φ : Fn) (k : Nat) : runV m (some (φ, k)) ρ = (m ρ).bind (kRV φ k) := (rfl)
theorem p_kRV (φ : Fn) (k : Nat) (as : List Ar) (h : as.length = k) : kRV φ k as ρ = callAr φ as ρ := by
  unfold kRV
  rw [if_pos h]
/-! ### own classes -/
theorem p_isX (own : Nat → Bool) (sub : Nat → Nat → Bool) (d : D) (c : Nat) : bIsX own sub [d, .gl c] = (isoX own sub c d).map fun b => .fz (.bl b) := (rfl)
theorem p_isoE (own : Nat → Bool) (sub : Nat → Nat → Bool) (c y : Nat) (fs : List (Nat × D)) (h1 : own y = true) (h2 : own c = true) : isoX own sub c (.exc y fs) = some (sub y c) := by
  show (if own y && own c then _ else _) = _
  rw [h1, h2]
  rfl
theorem p_isoN (own : Nat → Bool) (sub : Nat → Nat → Bool) (c : Nat) (h2 : own c = true) : isoX own sub c .non = some false := by
  show (if own c then _ else _) = _
  rw [h2]
  rfl
theorem p_tst (own : Nat → Bool) (y : Nat) (h : own y = true) : tstO own y = some true := by
  unfold tstO
  rw [if_pos h]
theorem p_fld (own : Nat → Bool) (f y : Nat) (fs : List (Nat × D)) (h : own y = true) : fFldC own f (.exc y fs) = (fs.lookup f).map .fz := by
  show (if own y then _ else _) = _
  rw [if_pos h]
theorem p_fl1 (f : Nat) (d : D) : List.lookup f [(f, d)] = some d := by simp
/-! ### undecided tests -/
theorem q_s1 {p : Prop} [Decidable p] {ma mb : M α} {P : α → Rho → Prop} (h1 : p → Wq (ma ρ) P) (h2 : ¬ p → Wq (mb ρ) P) : Wq (kI ma mb (decide p) ρ) P := by
  by_cases h : p
  · rw [decide_eq_true h]; exact h1 h
  · rw [decide_eq_false h]; exact h2 h
theorem q_s2 {p : Prop} [Decidable p] {ma mb : M α} {f : α → Rho → Out β} {P : β → Rho → Prop} (h1 : p → Wq ((ma ρ).bind f) P) (h2 : ¬ p → Wq ((mb ρ).bind f) P) : Wq ((kI ma mb (decide p) ρ).bind f) P := by
  by_cases h : p
  · rw [decide_eq_true h]; exact h1 h
  · rw [decide_eq_false h]; exact h2 h
theorem q_s3 {γ : Type} {p : Prop} [Decidable p] {ma mb : M α} {f : α → Rho → Out β} {g : β → Rho → Out γ} {P : γ → Rho → Prop} (h1 : p → Wq (((ma ρ).bind f).bind g) P) (h2 : ¬ p → Wq (((mb ρ).bind f).bind g) P) : Wq (((kI ma mb (decide p) ρ).bind f).bind g) P := by
  by_cases h : p
  · rw [decide_eq_true h]; exact h1 h
  · rw [decide_eq_false h]; exact h2 h
theorem q_b1 {b : Bool} {ma mb : M α} {P : α → Rho → Prop} (h1 : b = true → Wq (ma ρ) P) (h2 : b = false → Wq (mb ρ) P) : Wq (kI ma mb b ρ) P := by
  cases b
  · exact h2 rfl
  · exact h1 rfl
theorem q_b2 {b : Bool} {ma mb : M α} {f : α → Rho → Out β} {P : β → Rho → Prop} (h1 : b = true → Wq ((ma ρ).bind f) P) (h2 : b = false → Wq ((mb ρ).bind f) P) : Wq ((kI ma mb b ρ).bind f) P := by
  cases b
  · exact h2 rfl
  · exact h1 rfl
theorem q_b3 {γ : Type} {b : Bool} {ma mb : M α} {f : α → Rho → Out β} {g : β → Rho → Out γ} {P : γ → Rho → Prop} (h1 : b = true → Wq (((ma ρ).bind f).bind g) P) (h2 : b = false → Wq (((mb ρ).bind f).bind g) P) : Wq (((kI ma mb b ρ).bind f).bind g) P := by
  cases b
  · exact h2 rfl
  · exact h1 rfl
end Ev
namespace Ev
/-- a slot that may be told anew -/
def setOk : Sl → Bool
  | .ln _ => false
  | .lf _ => false
  | _ => true
theorem p_setK {ρ : Rho} (i : Nat) (r : Vl) {s : Sl} (h : setOk s = true) : setO i r ρ (some s) = .ok () (ρ.set i (slOf r)) := by
  cases s <;> first | rfl | cases h
end Ev
namespace Ev
def kLp (g : D → M Unit) (mb : M Fl) (ds : List D) (_ : Unit) : M Fl := mb.bind (loopEnd (loopD g mb ds))
theorem loopD_cons {ρ : Rho} (g : D → M Unit) (mb : M Fl) (d : D) (ds : List D) : loopD g mb (d :: ds) ρ = (g d ρ).bind (kLp g mb ds) := (rfl)
theorem loopD_nil {ρ : Rho} (g : D → M Unit) (mb : M Fl) : loopD g mb [] ρ = .ok .nx ρ := (rfl)
theorem p_kLp {ρ : Rho} (g : D → M Unit) (mb : M Fl) (ds : List D) (u : Unit) : kLp g mb ds u ρ = (mb ρ).bind (loopEnd (loopD g mb ds)) := (rfl)
theorem loopD_nx {ρ : Rho} (m : M Fl) : loopEnd m .nx ρ = m ρ := (rfl)
theorem loopD_ct {ρ : Rho} (m : M Fl) : loopEnd m .ct ρ = m ρ := (rfl)
theorem loopD_bk {ρ : Rho} (m : M Fl) : loopEnd m .bk ρ = .ok .nx ρ := (rfl)
theorem loopD_ret {ρ : Rho} (m : M Fl) (r : Vl) : loopEnd m (.rt r) ρ = .ok (.rt r) ρ := (rfl)
end Ev

/-! EvPy: reckoning with sums, pairs, bits, joined texts, exceptions of two fields. -/
namespace Ev
open PySem PySem.Spec PyProof.Rows L2
variable {α β : Type} {ρ : Rho}
theorem p_maxL (l : List D) : bMax [.lst l] = ((allI l).bind lmax).map fun m => .fz (.int m) := (rfl)
theorem p_maxT (l : List D) : bMax [.tup l] = ((allI l).bind lmax).map fun m => .fz (.int m) := (rfl)
theorem p_max (i j : Int) : bMax [.int i, .int j] = some (.fz (.int (if j > i then j else i))) := (rfl)
theorem p_min (i j : Int) : bMin [.int i, .int j] = some (.fz (.int (if j < i then j else i))) := (rfl)
theorem p_bits (i : Int) : fBits (.int i) = some (.fz (.int (Builtin.Int.intBits i : Nat))) := (rfl)
theorem p_shlW (i j : Int) (h : shlOk i j = true) : fShlW i j = some (.int (i * 2 ^ j.toNat)) := by
  unfold fShlW
  rw [if_pos h]
theorem shlOk_of {i : Int} {j n : Nat} (h : i.natAbs < 2 ^ n) (hn : n + j ≤ 134217728) : shlOk i (j : Int) = true := by
  obtain ⟨h1, h2⟩ := shl_ok h hn
  unfold shlOk
  rw [decide_eq_true h1, decide_eq_true h2]
  rfl
theorem p_sumL (l : List D) : bSumA [.lst l] = (allI l).map fun bs => .fz (.int bs.sum) := (rfl)
theorem p_sumT (l : List D) : bSumA [.tup l] = (allI l).map fun bs => .fz (.int bs.sum) := (rfl)
theorem p_zipL (l r : List D) : dZip [.lst l, .lst r] = some (pairs l r) := (rfl)
theorem p_zipT (l r : List D) : dZip [.tup l, .tup r] = some (pairs l r) := (rfl)
theorem p_zipA (l r : List D) : dZip [.lst l, .tup r] = some (pairs l r) := (rfl)
theorem p_zipB (l r : List D) : dZip [.tup l, .lst r] = some (pairs l r) := (rfl)
theorem p_dnuT (l : List D) : dNum [.tup l] = some (nums l) := (rfl)
theorem p_dnum (l : List D) : dNum [.lst l] = some (nums l) := (rfl)
theorem p_rng3 (i j : Int) (h : Ev.inR i = true) (h2 : Ev.inR j = true) : rng3 [.int i, .int j, .int (-1)] = some (downL i (i - j).toNat) := by
  show (if Ev.inR i && Ev.inR j && _ then _ else none) = _
  rw [h, h2]
  rfl
def kJ1 (me : M D) (x : D) : M Vl := (liftO (isStr x)).bind fun x => me.bind fun y => liftO (fJoin (.str x) y)
def kJ2 (x : Str) (y : D) : M Vl := liftO (fJoin (.str x) y)
theorem p_join (mo me : M D) : evJoin mo me ρ = (mo ρ).bind (kJ1 me) := (rfl)
theorem p_kJ1 (me : M D) (x : Str) : kJ1 me (.str x) ρ = (me ρ).bind (kJ2 x) := (rfl)
theorem p_kJ2 (x : Str) (y : D) : kJ2 x y ρ = liftO (fJoin (.str x) y) ρ := (rfl)
def kRz2 (x f g : Nat) : List D → M Fl
  | [d1, d2] => fun ρ => .ex (.exc x [(g, d2), (f, d1)]) ρ
  | _ => fun _ => .no
theorem p_mulS (x : Str) (k : Int) (h : repOk x k = true) : opMulS (.str x) (.int k) = some (.fz (.str (repS x k.toNat))) := by
  show (if repOk x k then _ else _) = _
  rw [if_pos h]
def kSa1 (ml mh : M (Option Int)) (d : D) : M Vl := ml.bind fun lo => mh.bind fun hi => liftO (cutOfA lo hi d)
def kSa2 (mh : M (Option Int)) (d : D) (lo : Option Int) : M Vl := mh.bind fun hi => liftO (cutOfA lo hi d)
def kSa3 (d : D) (lo hi : Option Int) : M Vl := liftO (cutOfA lo hi d)
theorem p_slA (m : M D) (ml mh : M (Option Int)) : evSlA m ml mh ρ = (m ρ).bind (kSa1 ml mh) := (rfl)
theorem p_kSa1 (ml mh : M (Option Int)) (d : D) : kSa1 ml mh d ρ = (ml ρ).bind (kSa2 mh d) := (rfl)
theorem p_kSa2 (mh : M (Option Int)) (d : D) (lo : Option Int) : kSa2 mh d lo ρ = (mh ρ).bind (kSa3 d lo) := (rfl)
theorem p_kSa3 (d : D) (lo hi : Option Int) : kSa3 d lo hi ρ = liftO (cutOfA lo hi d) ρ := (rfl)
theorem p_raise2 (x f g : Nat) (m : M (List D)) : mRaise2 x f g m ρ = (m ρ).bind (kRz2 x f g) := by
  show (m ρ).bind _ = _
  congr 1
  funext l ρ
  match l with
  | [] => rfl
  | [_] => rfl
  | [_, _] => rfl
  | _ :: _ :: _ :: _ => rfl
theorem p_kRz2 (x f g : Nat) (a b : D) : kRz2 x f g [a, b] ρ = .ex (.exc x [(g, b), (f, a)]) ρ := (rfl)
/-! ### comprehensions that change what they read -/
theorem lcL_inv {vs : List Nat} {g : D → M Unit} {mt : M Bool} {me : M D} (I : List D → List D → Rho → Prop)
    (step : ∀ d ds ys ρ, I (d :: ds) ys ρ → Wq (g d (wipeR ρ vs)) fun _ ρ1 => Wq (mt ρ1) fun k ρ2 => whB k (I ds ys ρ2) (Wq (me ρ2) fun y ρ3 => I ds (ys ++ [y]) ρ3)) :
    ∀ (ds ys : List D) (ρ : Rho), I ds ys ρ → Wq (lcLoop vs g mt me ds ρ) fun zs ρ' => I [] (ys ++ zs) ρ' ∧ zs.length ≤ ds.length
  | [], ys, ρ, h => ⟨[], ρ, rfl, by rw [List.append_nil]; exact h, Nat.le_refl _⟩
  | d :: ds, ys, ρ, h => by
    obtain ⟨u, ρ1, e1, k, ρ2, e2, hf, ht⟩ := step d ds ys ρ h
    show Wq (((g d) (wipeR ρ vs)).bind fun _ ρ1 => (mt ρ1).bind fun k ρ2 => if k = true then (me ρ2).bind fun y ρ3 => (lcLoop vs g mt me ds ρ3).bind fun ys ρ4 => .ok (y :: ys) ρ4 else lcLoop vs g mt me ds ρ2) _
    rw [e1]
    show Wq ((mt ρ1).bind _) _
    rw [e2]
    cases k with
    | false =>
      obtain ⟨zs, ρ4, e4, h4, l4⟩ := lcL_inv I step ds ys ρ2 (hf rfl)
      exact ⟨zs, ρ4, e4, h4, Nat.le_succ_of_le l4⟩
    | true =>
      obtain ⟨y, ρ3, e3, h3⟩ := ht rfl
      obtain ⟨zs, ρ4, e4, h4, l4⟩ := lcL_inv I step ds (ys ++ [y]) ρ3 h3
      refine ⟨y :: zs, ρ4, ?_, by rw [List.append_assoc] at h4; exact h4, Nat.succ_le_succ l4⟩
      show ((me ρ2).bind _) = _
      rw [e3]
      show ((lcLoop vs g mt me ds ρ3).bind _) = _
      rw [e4]
      rfl
theorem lc_inv {vs : List Nat} {g : D → M Unit} {mt : M Bool} {me : M D} {ds : List D} {P : List D → Rho → Prop} (I : List D → List D → Rho → Prop) (hw : wipeOk ρ vs = true) (hl : ds.length ≤ 16777216)
    (step : ∀ d ds ys ρ, I (d :: ds) ys ρ → Wq (g d (wipeR ρ vs)) fun _ ρ1 => Wq (mt ρ1) fun k ρ2 => whB k (I ds ys ρ2) (Wq (me ρ2) fun y ρ3 => I ds (ys ++ [y]) ρ3))
    (last : ∀ ys ρ', I [] ys ρ' → ρ'.length = ρ.length ∧ P ys (restore vs 0 ρ ρ')) (h0 : I ds [] ρ) : Wq (kLc vs g mt me ds ρ) fun r ρ' => ∃ ys, r = .nw (.lst ys) ∧ P ys ρ' := by
  obtain ⟨ys, ρ', e, h, l⟩ := lcL_inv I step ds [] ρ h0
  rw [List.nil_append] at h
  obtain ⟨el, p⟩ := last ys ρ' h
  refine ⟨.nw (.lst ys), restore vs 0 ρ ρ', ?_, ys, rfl, p⟩
  show (if wipeOk ρ vs = true then match lcLoop vs g mt me ds ρ with | .ok ys ρ' => if lenOk ys.length = true ∧ ρ'.length = ρ.length then Out.ok (Vl.nw (D.lst ys)) (restore vs 0 ρ ρ') else .no | _ => .no else .no) = _
  rw [if_pos hw, e]
  show (if _ then _ else _) = _
  rw [if_pos ⟨decide_eq_true (by omega), el⟩]
end Ev

/-! EvO: own classes: their instances' fields, how they are made, what is one. -/
namespace Ev
open PySem PySem.Spec PyProof.Rows L2
/-! ### fields read -/
def fFldO (own : Nat → Bool) (f : Nat) : D → Option Vl
  | .obj c fs => if own c then (fs.lookup f).map .fz else none
  | _ => none
/-- the classes that have a field as their instances' own, and as nothing else -/
def FldK (K : PySem.W.Frag) (N : Nm) (own : Nat → Bool) (n : Str) : Prop := ∀ y C, own y = true → N.gm y = some (.ref C) → L2.Cls K C ∧ L2.NoAttr K C n
section
variable {X : Cx} {W : WX} {G : Gc} {L : Lt} {e a b : Expr} {pos : Pos} {c c0 c1 : Cf} {es : List Expr} {own : Nat → Bool}
theorem SE.fldO {f : Nat} {n : Str} {m : M D} (hn : G.N.fn f = n) (he : SD X W G L e m) (hX : FldK X.K G.N own n) (hb : attributeBase e n X.env (eval e X.env) = eval e X.env := by rfl) : SE X W G L (.Attribute e n pos) (ev1 (fFldO own f) m) := by
  obtain ⟨t, p, q⟩ := he.ex
  refine ⟨_, L2.pe_fld p hb, fun c Q s h => ?_⟩
  refine q c _ s ((Req.bind h).imp fun d c1 _ e1 x1 s1 h1 v rv => ?_)
  cases d with
  | obj y fs =>
    obtain ⟨r, er, hr⟩ := liftO_req h1
    have er : (if own y then (fs.lookup f).map Vl.fz else none) = some r := er
    by_cases ho : own y = true
    · rw [if_pos ho] at er
      obtain ⟨d2, e2, rfl⟩ := Option.map_eq_some_iff.mp er
      cases rv with
      | @obj a C dx c0 xs ds eg fa ea rf =>
        obtain ⟨y2, l, r2⟩ := rf.lookup e2
        obtain ⟨T, hno⟩ := hX y C ho eg
        rw [hn] at l
        exact ⟨a, C, dx, xs, y2, rfl, ea, T, hno, l, Req.here hr s1 _ r2⟩
    · rw [if_neg ho] at er
      cases er
  | _ => exact (show False from h1).elim
def ofld (own : Nat → Bool) (f : Nat) (ρ : Rho) : Option D → Out Vl
  | some d => liftO (fFldO own f d) ρ
  | none => .no
/-- a field of what a slot holds, which stays its own -/
def evFldS (own : Nat → Bool) (i f : Nat) : M Vl := fun ρ => ofld own f ρ (slotD ρ i)
theorem SE.fldS (i : Nat) {f : Nat} {n x : Str} {p : Pos} (hn : G.N.fn f = n) (hN : X.N[i]? = some x) (hv : Vis X.env.scope x) (hX : FldK X.K G.N own n) (hb : attributeBase (.Name x p) n X.env (eval (.Name x p) X.env) = eval (.Name x p) X.env := by rfl)
    (hd : (x == ("__debug__" : Str)) = false := by decide) (hcd : (x == ("__classdict__" : Str)) = false := by decide) : SE X W G L (.Attribute (.Name x p) n pos) (evFldS own i f) := by
  refine ⟨_, L2.pe_fld (pe_var hN hv hd hcd) hb, fun c Q s h => ?_⟩
  have h : Req G L W c (ofld own f c.ρ (slotD c.ρ i)) _ := h
  cases es : slotD c.ρ i with
  | none => rw [es] at h; exact h.elim
  | some d =>
    rw [es] at h
    obtain ⟨v, h1, h2⟩ := look (x := x) s es
    refine ⟨v, h1, ?_⟩
    cases d with
    | obj y fs =>
      obtain ⟨r, er, hr⟩ := liftO_req (show Req G L W c (liftO (fFldO own f (.obj y fs)) c.ρ) _ from h)
      have er : (if own y then (fs.lookup f).map Vl.fz else none) = some r := er
      by_cases ho : own y = true
      · rw [if_pos ho] at er
        obtain ⟨d2, e2, rfl⟩ := Option.map_eq_some_iff.mp er
        rcases h2 with h2 | ⟨a, rfl, h2⟩
        · cases h2 with
          | @obj a C dx c0 xs ds eg fa ea rf =>
            obtain ⟨y2, l, r2⟩ := rf.lookup e2
            obtain ⟨T, hno⟩ := hX y C ho eg
            rw [hn] at l
            exact ⟨a, C, dx, xs, y2, rfl, ea, T, hno, l, Req.here hr s _ r2⟩
        · obtain ⟨nf, C, dx, xs, eg, ea, rf⟩ := h2
          obtain ⟨y2, l, r2⟩ := rf.lookup e2
          obtain ⟨T, hno⟩ := hX y C ho eg
          rw [hn] at l
          exact ⟨a, C, dx, xs, y2, rfl, ea, T, hno, l, Req.here hr s _ r2⟩
      · rw [if_neg ho] at er
        cases er
    | _ => exact (show False from h).elim
/-! ### fields stored -/
def putD (f : Nat) (d : D) : List (Nat × D) → List (Nat × D)
  | [] => [(f, d)]
  | (g, x) :: r => if g = f then (g, d) :: r else (g, x) :: putD f d r
theorem RpF.put {N : Nm} {F : Fz} {H : Hp} {f : Nat} {v : V} {d : D} (r : Rp N F H v d) : ∀ {xs : List (Str × V)} {ds : List (Nat × D)}, RpF N F H xs ds → RpF N F H (putF (N.fn f) v xs) (putD f d ds)
  | _, _, .nil => .cons r .nil
  | _, _, .cons (k := k) (v := v2) (d := d2) q l => by
    by_cases h : k = f
    · subst h
      show RpF N F H (if N.fn k = N.fn k then _ else _) (if k = k then _ else _)
      rw [if_pos rfl, if_pos rfl]
      exact .cons r l
    · show RpF N F H (if N.fn k = N.fn f then _ else _) (if k = f then _ else _)
      rw [if_neg (fun e => h (N.inj _ _ e)), if_neg h]
      exact .cons q (RpF.put r l)
def putO (own : Nat → Bool) (f : Nat) (d : D) : D → Option D
  | .obj c fs => if own c && decide (fs.length < 1000) then some (.obj c (putD f d fs)) else none
  | _ => none
def gPut (K : PySem.W.Frag) (to : TE) (n : Str) : TG := fun v σ H Q => to σ H fun o H1 => ∃ a C dx fs, o = .ref a ∧ H1 a = some (.ins C dx fs) ∧ L2.Cls K C ∧ L2.NoAttr K C n ∧ fs.length < 1000 ∧ Q σ (upd H1 a (.ins C dx (putF n v fs)))
theorem pg_fld {o : Expr} {to : TE} {n : Str} (ho : PE X o to) : PG X (.Attribute o n pos) (gPut X.K to n) := by
  refine ⟨fun pins s σ H v u Q I r h => ?_⟩
  rw [assign_Attribute]
  refine wpAny_bind (wpAny_holding (thn (ho.run pins s σ H _ I h) fun ov s1 ⟨x, H1, I1, r1, a, C, dx, fs, ex, ea, hc, hn, hl, q1⟩ => ?_))
  subst ex
  obtain rfl : ov = Value.ref a := r1
  refine wpAny_bind (wpAny_standAt (wpAny_bind (wpAny_holding ?_)))
  exact setattr_ok I1 ea hc hn hl r fun s2 I2 => wpAny_release ⟨σ, _, I2, q1⟩
def gFld (own : Nat → Bool) (i f : Nat) (d : D) : M Unit := updSlot i (putO own f d)
theorem SG.fld (i : Nat) {f : Nat} {n x : Str} {p : Pos} (hn : G.N.fn f = n) (hN : X.N[i]? = some x) (hv : Vis X.env.scope x) (hX : FldK X.K G.N own n) (hd : (x == ("__debug__" : Str)) = false := by decide) (hcd : (x == ("__classdict__" : Str)) = false := by decide) :
    SG X W G L (.Attribute (.Name x p) n pos) (gFld own i f) := by
  refine ⟨_, pg_fld (pe_var hN hv hd hcd), fun c v d Q s rv h => ?_⟩
  obtain ⟨t, dd, d', et, w, ht, ef, h2⟩ := updSlot_req h
  obtain ⟨p', d2, q, ow, ht2⟩ := s.own et w
  have e3 : d2 = dd := by rcases ht with rfl | rfl <;> rcases ht2 with z | z <;> cases z <;> rfl
  subst e3
  refine ⟨.ref p', q, ?_⟩
  cases d2 with
  | obj y fs =>
    have ef : (if own y && decide (fs.length < 1000) then some (D.obj y (putD f d fs)) else none) = some d' := ef
    split at ef
    · rename_i hz
      rw [Bool.and_eq_true] at hz
      cases ef
      obtain ⟨nf, C, dx, xs, eg, ea, rf⟩ := ow
      obtain ⟨T, hno⟩ := hX y C hz.1 eg
      have hl : xs.length < 1000 := by rw [rf.length]; exact of_decide_eq_true hz.2
      subst hn
      refine ⟨p', C, dx, xs, rfl, ea, T, hno, hl, ?_⟩
      have ke : ∀ b, c.F b → upd c.H p' (.ins C dx (putF (G.N.fn f) v xs)) b = c.H b := fun b f => upd_ne fun z => by subst z; exact nf f
      obtain ⟨s2, x2⟩ := Ok.mut (o := .ins C dx (putF (G.N.fn f) v xs)) (d' := .obj y (putD f d fs)) s et w q ⟨nf, C, dx, _, eg, upd_same, (RpF.put rv rf).mono (fun _ f => f) ke⟩
      exact h2 _ _ _ x2 s2
    · cases ef
  | _ => cases ef
end
/-! ### new instances -/
def mkSl (n : Nat) (ρ : Rho) : Option Sl → Out Vl
  | some (.ow d) => .ok (.nw d) (ρ.take n)
  | some (.fz d) => .ok (.fz d) (ρ.take n)
  | _ => .no
def mkEnd (n : Nat) : Out Vl → Out Vl
  | .ok (.fz .non) ρ => mkSl n ρ ρ[n]?
  | .ok _ _ => .no
  | .ex e ρ => .ex e (ρ.take n)
  | .no => .no
def mkO (cl : Nat) (φ : Fn) (n : Nat) (gA : List Ar → List Ar → List Ar) (as bs : List Ar) : M Vl := fun ρ => if (gA (.r ρ.length :: as) bs).length = n then mkEnd ρ.length (callAr φ (gA (.r ρ.length :: as) bs) (ρ ++ [.ow (.obj cl [])])) else .no
/-- C(..): a new instance is lent to __init__ -/
def evMake (cl : Nat) (φ : Fn) (n : Nat) (gA : List Ar → List Ar → List Ar) (m mk : M (List Ar)) : M Vl := m.bind fun as => mk.bind fun bs => mkO cl φ n gA as bs
section
variable {X : Cx} {W : WX} {G : Gc} {L : Lt} {e a b : Expr} {pos : Pos} {c c0 c1 : Cf} {es : List Expr} {kws : List Keyword} {k : Nat} {f C : Addr} {fd : FuncData} {ps ks : List Str} {φ : Fn} {n : Nat} {x : Str} {p : Pos}
  {g : List Value → List Value → List Value} {gV : List V → List V → List V} {gA : List Ar → List Ar → List Ar}
theorem run_makeG {pins : List (Addr × Obj)} {σ : L2.St} {H : Hp} {s : Shared} {Q : VK} {us ws : List Value} {vs zs : List V} {sp : Sp} (M : L2.Mk X.K C f) (F : FnG X.prog X.w X.K X.mg X.base (L2.CX X.prog X.w) k f fd ps sp) (hr : RoomG (k + 1) X.A) (hb : KBinds X.K fd ps ks g gV)
    (tk : Takes X W) (I : Inv X pins σ H s) (r : Vals vs us) (rz : Vals zs ws)
    (h : ∀ x dx, H x = none → H dx = none → dx ≠ x → sp (gV (.ref x :: vs) zs) (upd (upd H dx (.own x)) x (.ins C dx [])) (fun v H2 => v = .non ∧ Q (.ref x) H2) (fun cls d H' => W cls d σ H')) :
    wpAny (model X.prog X.w) X.A (call (.ref C) us (ks.zip ws)) (EP X pins σ Q) X.xe s := by
  have hq := h (s.heap.objs.size + 1) s.heap.objs.size (I.hok.fresh (Nat.le_succ _)) (I.hok.fresh (Nat.le_refl _)) (Nat.ne_of_lt (Nat.lt_succ_self _))
  have I2 := Inv.made (C := C) I
  have r2 := hb.rel (us := Value.ref (s.heap.objs.size + 1) :: us) (vs := V.ref (s.heap.objs.size + 1) :: vs) (.cons rfl r) rz
  have hl : (g (Value.ref (s.heap.objs.size + 1) :: us) ws).length = ps.length := by rw [← r2.length]; exact F.len _ _ _ _ hq
  have hr2 : RoomG k (X.A.under (.builtin "type.__call__" ⟨.ref C :: us, ks.zip ws⟩)) := ⟨hr.room.make C us (ks.zip ws), hr.gd⟩
  refine wpAny_call (make_map (f := f) I.kIn M.makes M.init (beq_iff_eq.mp M.fn) (codeAny_mono (F.run _ X.stack _ _ ⟨Value.ref (s.heap.objs.size + 1) :: us, ks.zip ws⟩ _ _ _ _ hr2
    (I2.env0.make C us (ks.zip ws)) (hb.to _ (Value.ref (s.heap.objs.size + 1) :: us) ws I2.kIn hl) r2 hq) fun r s' hq' => ?_))
  cases r with
  | error e => exact tk e s' (XE.of_call I2 (fun cls d H' h => h) hq')
  | ok fl =>
    cases fl with
    | ret u =>
      obtain ⟨v, H', I3, rv, ev, q3⟩ := I2.after hq'
      subst ev
      exact ⟨rv, ⟨V.ref (s.heap.objs.size + 1), H', I3, rfl, q3⟩⟩
    | next => exact False.elim hq'
    | brk => exact False.elim hq'
    | cont => exact False.elim hq'
def tMakeG (W : WX) (C : Addr) (sp : Sp) (gV : List V → List V → List V) (t tk : TA) : TE := fun σ H Q => t σ H fun vs H1 => tk σ H1 fun zs H2 => ∀ x dx, H2 x = none → H2 dx = none → dx ≠ x →
  sp (gV (.ref x :: vs) zs) (upd (upd H2 dx (.own x)) x (.ins C dx [])) (fun v H3 => v = .non ∧ Q (.ref x) H3) (fun cls d H' => W cls d σ H')
/-- the caller with the new instance beside -/
def plusC (c : Cf) (C : Addr) (cl : Nat) (x dx : Addr) : Cf := ⟨List.append c.σ [some (V.ref x)], c.ρ ++ [.ow (.obj cl [])], c.F, upd (upd c.H dx (.own x)) x (.ins C dx [])⟩
section
variable {cl : Nat} {x dx C : Addr}
theorem plus_at {σ : L2.St} {i : Nat} {y : V} (h : i < σ.length) : (List.append σ [some y])[i]? = σ[i]? := List.getElem?_append_left h
theorem plus_end {σ : L2.St} {y : V} : (List.append σ [some y])[σ.length]? = some (some y) := by
  show (List.append σ [some y])[σ.length]? = _
  exact List.getElem?_concat_length
theorem plus_ok (s : Ok G L c) (eg : G.N.gm cl = some (.ref C)) (nx : c.H x = none) (nd : c.H dx = none) (ne : dx ≠ x) : Ok G L (plusC c C cl x dx) := by
  have s1 : Ok G L ⟨c.σ, c.ρ, c.F, upd c.H dx (.own x)⟩ := StR.grow s nd (fun _ z => z) fun _ z => .inl z
  have nx1 : upd c.H dx (.own x) x = none := by rw [upd_ne (Ne.symm ne)]; exact nx
  have s2 : Ok G L ⟨c.σ, c.ρ, c.F, upd (upd c.H dx (.own x)) x (.ins C dx [])⟩ := StR.grow s1 nx1 (fun _ z => z) fun _ z => .inl z
  have hl := s.len
  have at_ : ∀ (i : Nat) (t : Sl), (c.ρ ++ [Sl.ow (.obj cl [])])[i]? = some t → (i < c.ρ.length ∧ c.ρ[i]? = some t) ∨ (i = c.ρ.length ∧ t = .ow (.obj cl [])) := fun i t e => by
    by_cases h : i < c.ρ.length
    · rw [List.getElem?_append_left h] at e
      exact .inl ⟨h, e⟩
    · rw [List.getElem?_append_right (by omega)] at e
      have h0 : i - c.ρ.length = 0 := by
        cases h1 : i - c.ρ.length with
        | zero => rfl
        | succ m => rw [h1] at e; simp at e
      rw [h0] at e
      exact .inr ⟨by omega, (Option.some.inj e).symm⟩
  have nof : ¬ c.F x := fun f => by
    obtain ⟨⟨u, e⟩, _⟩ := s.trk x f
    rw [nx] at e
    cases e
  have noo : ∀ i t, c.ρ[i]? = some t → isOw t = true → c.σ[i]? = some (some (V.ref x)) → False := fun i t e w q => by
    obtain ⟨a, d, q2, ow, _⟩ := s.own e w
    rw [q] at q2
    cases q2
    obtain ⟨u, e3, _⟩ := ow.at
    rw [nx] at e3
    cases e3
  refine ⟨?_, ?_, ?_, ?_, ?_, s2.trk, s2.tabs⟩
  · show (c.ρ ++ [Sl.ow (.obj cl [])]).length = (List.append c.σ [some (V.ref x)]).length
    have e1 : (List.append c.σ [some (V.ref x)]).length = c.σ.length + 1 := by
      show (c.σ ++ [some (V.ref x)] : List (Option V)).length = _
      rw [List.length_append, List.length_singleton]
    rw [List.length_append, List.length_singleton, e1]
    omega
  · intro i t e
    rcases at_ i t e with ⟨h, e⟩ | ⟨rfl, rfl⟩
    · show SlR G c.F _ (List.append c.σ [some (V.ref x)])[i]? t
      rw [plus_at (by omega)]
      exact s2.sl i t e
    · show SlR G c.F _ (List.append c.σ [some (V.ref x)])[c.ρ.length]? _
      rw [hl, plus_end]
      exact ⟨x, rfl, nof, C, dx, [], eg, upd_same, .nil⟩
  · intro i j t u b hij e w e2 w2 q q2
    have q : (List.append c.σ [some (V.ref x)])[i]? = some (some (V.ref b)) := q
    have q2 : (List.append c.σ [some (V.ref x)])[j]? = some (some (V.ref b)) := q2
    rcases at_ i t e with ⟨h, e⟩ | ⟨rfl, rfl⟩
    · rw [plus_at (by omega)] at q
      rcases at_ j u e2 with ⟨h2, e2⟩ | ⟨rfl, rfl⟩
      · rw [plus_at (by omega)] at q2
        exact s.sep i j t u b hij e w e2 w2 q q2
      · rw [hl, plus_end] at q2
        cases q2
        exact noo i t e w q
    · rw [hl, plus_end] at q
      cases q
      rcases at_ j u e2 with ⟨h2, e2⟩ | ⟨rfl, rfl⟩
      · rw [plus_at (by omega)] at q2
        exact noo j u e2 w2 q2
      · exact hij rfl
  · intro i b e
    obtain ⟨h1, d, h2⟩ := s.lent i b e
    have hi : i < c.σ.length := (List.getElem?_eq_some_iff.mp h1).1
    refine ⟨?_, d, ?_⟩
    · show (List.append c.σ [some (V.ref x)])[i]? = _
      rw [plus_at hi]
      exact h1
    · show (c.ρ ++ [Sl.ow (.obj cl [])])[i]? = _ ∨ (c.ρ ++ [Sl.ow (.obj cl [])])[i]? = _
      rw [List.getElem?_append_left (by omega)]
      exact h2
  · intro i d e
    have go : ∀ t : Sl, (t = .ln d ∨ t = .lf d) → (c.ρ ++ [Sl.ow (.obj cl [])])[i]? = some t → ∃ a, L[i]? = some (some a) := fun t ht e => by
      rcases at_ i t e with ⟨h, e⟩ | ⟨rfl, rfl⟩
      · rcases ht with rfl | rfl
        · exact s.lnL i d (.inl e)
        · exact s.lnL i d (.inr e)
      · rcases ht with z | z <;> cases z
    rcases e with e | e
    · exact go _ (.inl rfl) e
    · exact go _ (.inr rfl) e
theorem plus_own (s : Ok G L c) (b : Addr) : (plusC c C cl x dx).own G b → c.own G b ∨ b = x := by
  rintro (z | ⟨i, t, e, w, q⟩)
  · exact .inl (.inl z)
  · have e : (c.ρ ++ [Sl.ow (.obj cl [])])[i]? = some t := e
    have q : (List.append c.σ [some (V.ref x)])[i]? = some (some (V.ref b)) := q
    have hl := s.len
    by_cases h : i < c.ρ.length
    · rw [List.getElem?_append_left h] at e
      rw [plus_at (by omega)] at q
      exact .inl (.inr ⟨i, t, e, w, q⟩)
    · have hi : i < (c.ρ ++ [Sl.ow (.obj cl [])]).length := (List.getElem?_eq_some_iff.mp e).1
      rw [List.length_append, List.length_singleton] at hi
      have : i = c.σ.length := by omega
      subst this
      rw [plus_end] at q
      cases q
      exact .inr rfl
theorem plus_ra {vs : List V} {as : List Ar} (s : Ok G L c) (nx : c.H x = none) (nd : c.H dx = none) (ne : dx ≠ x) (r : RAs G c vs as) : RAs G (plusC c C cl x dx) vs as := by
  have kf : ∀ b, c.F b → (plusC c C cl x dx).H b = c.H b := fun b f => by
    obtain ⟨⟨u, e⟩, _⟩ := s.trk b f
    have h1 : b ≠ x := fun z => by subst z; rw [nx] at e; cases e
    have h2 : b ≠ dx := fun z => by subst z; rw [nd] at e; cases e
    show upd (upd c.H dx (.own x)) x _ b = _
    rw [upd_ne h1, upd_ne h2]
  induction r with
  | nil => exact .nil
  | cons r1 _ ih =>
    refine .cons ?_ ih
    cases r1 with
    | v rp => exact .v (rp.mono (fun _ f => f) kf)
    | r q =>
      refine .r ?_
      show (List.append c.σ [some (V.ref x)])[_]? = _
      rw [plus_at (List.getElem?_eq_some_iff.mp q).1]
      exact q
/-- behind the making: the new instance is left out again -/
theorem plus_back {ρ' : Rho} {F' : Fz} {H' : Hp} (s : Ok G L c) (nx : c.H x = none) (nd : c.H dx = none) (ne : dx ≠ x) (ex : Ex G (plusC c C cl x dx) ⟨List.append c.σ [some (V.ref x)], ρ', F', H'⟩) (s' : Ok G L ⟨List.append c.σ [some (V.ref x)], ρ', F', H'⟩) :
    Ex G c ⟨c.σ, ρ'.take c.ρ.length, F', H'⟩ ∧ Ok G L ⟨c.σ, ρ'.take c.ρ.length, F', H'⟩ ∧ (∀ d, ρ'[c.ρ.length]? = some (.ow d) → VR G c ⟨c.σ, ρ'.take c.ρ.length, F', H'⟩ (.ref x) (.nw d)) ∧ (∀ d, ρ'[c.ρ.length]? = some (.fz d) → VR G c ⟨c.σ, ρ'.take c.ρ.length, F', H'⟩ (.ref x) (.fz d)) := by
  have hl := s.len
  have hl' : ρ'.length = c.ρ.length + 1 := by
    have := s'.len
    rw [this]
    show (c.σ ++ [some (V.ref x)] : List (Option V)).length = _
    rw [List.length_append, List.length_singleton]
    omega
  have at_ : ∀ (i : Nat) (t : Sl), (ρ'.take c.ρ.length)[i]? = some t → i < c.ρ.length ∧ ρ'[i]? = some t := fun i t e => by
    have hi : i < (ρ'.take c.ρ.length).length := (List.getElem?_eq_some_iff.mp e).1
    rw [List.length_take] at hi
    rw [List.getElem?_take_of_lt (by omega)] at e
    exact ⟨by omega, e⟩
  have sg : ∀ i, i < c.ρ.length → (List.append c.σ [some (V.ref x)])[i]? = c.σ[i]? := fun i h => plus_at (by omega)
  have own : ∀ b, Own G c.σ (ρ'.take c.ρ.length) b → Own G (List.append c.σ [some (V.ref x)]) ρ' b := by
    rintro b (z | ⟨i, t, e, w, q⟩)
    · exact .inl z
    · obtain ⟨hi, e⟩ := at_ i t e
      exact .inr ⟨i, t, e, w, by rw [sg i hi]; exact q⟩
  have hxN : ∀ b, Nw (plusC c C cl x dx).H b → Nw c.H b := fun b h => by
    have h : Nw (upd (upd c.H dx (.own x)) x (.ins C dx [])) b := h
    by_cases h1 : b = x
    · subst h1
      rcases h with h | ⟨xs, h⟩ <;> (rw [upd_same] at h; cases h)
    · by_cases h2 : b = dx
      · subst h2
        rcases h with h | ⟨xs, h⟩ <;> (rw [upd_ne h1, upd_same] at h; cases h)
      · unfold Nw at *
        rw [upd_ne h1, upd_ne h2] at h
        exact h
  have hx : ∀ b, (plusC c C cl x dx).H b = none → c.H b = none := fun b h => by
    have h : upd (upd c.H dx (.own x)) x (.ins C dx []) b = none := h
    by_cases h1 : b = x
    · subst h1; exact nx
    · rw [upd_ne h1] at h
      by_cases h2 : b = dx
      · subst h2; exact nd
      · rw [upd_ne h2] at h
        exact h
  have sub : ∀ b, (plusC c C cl x dx).own G b ∨ (plusC c C cl x dx).H b = none → c.own G b ∨ c.H b = none := by
    rintro b (z | z)
    · rcases plus_own s b z with z | rfl
      · exact .inl z
      · exact .inr nx
    · exact .inr (hx b z)
  have sT : Ok G L ⟨c.σ, ρ'.take c.ρ.length, F', H'⟩ := by
    refine ⟨?_, ?_, ?_, ?_, ?_, s'.trk, s'.tabs⟩
    · show (ρ'.take c.ρ.length).length = c.σ.length
      rw [List.length_take]
      omega
    · intro i t e
      obtain ⟨hi, e⟩ := at_ i t e
      have := s'.sl i t e
      have this : SlR G F' H' (List.append c.σ [some (V.ref x)])[i]? t := this
      rw [sg i hi] at this
      exact this
    · intro i j t u b hij e w e2 w2 q q2
      obtain ⟨hi, e⟩ := at_ i t e
      obtain ⟨hj, e2⟩ := at_ j u e2
      exact s'.sep i j t u b hij e w e2 w2 (by show (List.append c.σ [some (V.ref x)])[i]? = _; rw [sg i hi]; exact q) (by show (List.append c.σ [some (V.ref x)])[j]? = _; rw [sg j hj]; exact q2)
    · intro i b e
      obtain ⟨h1, _⟩ := s.lent i b e
      obtain ⟨_, d, h2⟩ := s'.lent i b e
      have hi : i < c.σ.length := (List.getElem?_eq_some_iff.mp h1).1
      refine ⟨h1, d, ?_⟩
      show (ρ'.take c.ρ.length)[i]? = _ ∨ (ρ'.take c.ρ.length)[i]? = _
      rw [List.getElem?_take_of_lt (by omega)]
      exact h2
    · intro i d e
      have e : (ρ'.take c.ρ.length)[i]? = some (Sl.ln d) ∨ (ρ'.take c.ρ.length)[i]? = some (Sl.lf d) := e
      rcases e with e | e
      · exact s'.lnL i d (.inl (at_ i _ e).2)
      · exact s'.lnL i d (.inr (at_ i _ e).2)
  refine ⟨⟨fun b o e n => ?_, fun b f => ex.mono b f, fun b f => ?_, fun b z => sub b (ex.sub b (own b z))⟩, sT, fun d e => ?_, fun d e => ?_⟩
  · have h1 : b ≠ x := fun z => by subst z; rw [nx] at e; cases e
    have h2 : b ≠ dx := fun z => by subst z; rw [nd] at e; cases e
    refine ex.keep b o (by show upd (upd c.H dx (.own x)) x _ b = _; rw [upd_ne h1, upd_ne h2]; exact e) fun z => ?_
    rcases plus_own s b z with z | z
    · exact n z
    · exact h1 z
  · rcases ex.new b f with z | z | z
    · exact .inl z
    · exact .inr (.inl (hxN b z))
    · rcases plus_own s b z with z | rfl
      · exact .inr (.inr z)
      · exact .inr (.inl (.inl nx))
  · obtain ⟨y, q, ow⟩ := s'.sl c.ρ.length _ e
    have q : (List.append c.σ [some (V.ref x)])[c.ρ.length]? = some (some (V.ref y)) := q
    rw [hl, plus_end] at q
    cases q
    refine ⟨x, rfl, ow, fun z => ?_, .inl nx⟩
    rcases z with z | ⟨i, t, e2, w, q⟩
    · obtain ⟨ps, y⟩ := G.tbAt s'.tabs z
      obtain ⟨u, y2, m⟩ := ow.at
      have y : H' x = some (.tbl ps) := y
      have y2 : H' x = some u := y2
      rw [y] at y2
      cases y2
      cases m
    · obtain ⟨hi, e2⟩ := at_ i t e2
      refine s'.sep i c.ρ.length t _ x (by omega) e2 w e rfl (by show (List.append c.σ [some (V.ref x)])[i]? = _; rw [sg i hi]; exact q) ?_
      show (List.append c.σ [some (V.ref x)])[c.ρ.length]? = _
      rw [hl, plus_end]
  · obtain ⟨y, q, rp⟩ := s'.sl c.ρ.length _ e
    have q : (List.append c.σ [some (V.ref x)])[c.ρ.length]? = some (some y) := q
    rw [hl, plus_end] at q
    cases q
    exact rp
theorem SE.make_of {t tk : TA} {m mk : M (List Ar)} {ex : Expr} (hA : GRel gV gA) (eg : G.N.gm cl = some (.ref C)) (hp : PE X ex (tMakeG W C (spEv G φ n) gV t tk))
    (qa : ∀ (c : Cf) (Q : List V → Hp → Prop), Ok G L c → Req G L W c (m c.ρ) (fun as c' => ∀ vs, RAs G c' vs as → Q vs c'.H) → t c.σ c.H Q)
    (qk : ∀ (c : Cf) (Q : List V → Hp → Prop), Ok G L c → Req G L W c (mk c.ρ) (fun as c' => ∀ vs, RAs G c' vs as → Q vs c'.H) → tk c.σ c.H Q) : SE X W G L ex (evMake cl φ n gA m mk) := by
  refine ⟨_, hp, fun c Q s h => ?_⟩
  refine qa c _ s ((Req.bind h).imp fun as c1 _ e1 x1 s1 h1 vs rv => ?_)
  show tk c.σ c1.H _
  rw [← e1]
  refine qk c1 _ s1 ((Req.bind h1).imp fun bs c2 _ e2 x2 s2 h2 zs rz => ?_)
  intro x dx nx nd ne
  have h2 : Req G L W c2 (if (gA (.r c2.ρ.length :: as) bs).length = n then mkEnd c2.ρ.length (callAr φ (gA (.r c2.ρ.length :: as) bs) (c2.ρ ++ [.ow (.obj cl [])])) else .no) _ := h2
  by_cases hn : (gA (.r c2.ρ.length :: as) bs).length = n
  · rw [if_pos hn] at h2
    have sp := plus_ok (C := C) (cl := cl) s2 eg nx nd ne
    have r1 : RAs G (plusC c2 C cl x dx) (.ref x :: vs) (.r c2.ρ.length :: as) := .cons (.r (by
      show (List.append c2.σ [some (V.ref x)])[c2.ρ.length]? = _
      rw [s2.len, plus_end])) (plus_ra s2 nx nd ne (rv.keep s1 x2 e2))
    have r := hA r1 (plus_ra (C := C) (cl := cl) s2 nx nd ne rz)
    have h3 : Req G L (fun cls d _ H' => W cls d c2.σ H') (plusC c2 C cl x dx) (callAr φ (gA (.r c2.ρ.length :: as) bs) (plusC c2 C cl x dx).ρ) (fun r c' => ∀ v, VR G (plusC c2 C cl x dx) c' v r → (v = .non ∧ Q (.ref x) c'.H)) := by
      show Req G L _ _ (callAr φ (gA (.r c2.ρ.length :: as) bs) (c2.ρ ++ [.ow (.obj cl [])])) _
      cases ec : callAr φ (gA (.r c2.ρ.length :: as) bs) (c2.ρ ++ [.ow (.obj cl [])]) with
      | no => rw [ec] at h2; exact h2
      | ex d ρ' =>
        rw [ec] at h2
        intro F' H' ex' s' cls dd xr
        obtain ⟨k1, k2, _, _⟩ := plus_back s2 nx nd ne ex' s'
        exact h2 F' H' k1 k2 cls dd xr
      | ok rr ρ' =>
        rw [ec] at h2
        intro F' H' ex' s' v rv'
        obtain ⟨k1, k2, k3, k4⟩ := plus_back s2 nx nd ne ex' s'
        cases rr with
        | nw d => exact h2.elim
        | fz d =>
          cases d with
          | non =>
            have h2 : Req G L W c2 (mkSl c2.ρ.length ρ' ρ'[c2.ρ.length]?) _ := h2
            cases rv'
            refine ⟨rfl, ?_⟩
            cases es : ρ'[c2.ρ.length]? with
            | none => rw [es] at h2; exact h2.elim
            | some sl =>
              rw [es] at h2
              cases sl with
              | ow d => exact h2 F' H' k1 k2 _ (VR.base (x1.trans x2) (k3 d es))
              | fz d => exact h2 F' H' k1 k2 _ (VR.base (x1.trans x2) (k4 d es))
              | _ => exact h2.elim
          | _ => exact h2.elim
    have := call_req (Q := fun v H => v = .non ∧ Q (.ref x) H) sp r ((Paired.length r).trans hn) h3
    rw [← e2]
    exact this
  · rw [if_neg hn] at h2
    exact h2.elim
/-- C(e, ..) -/
theorem SE.make1 {cn : Str} {m : M (List Ar)} (M : L2.Mk X.K C f) (F : FnG X.prog X.w X.K X.mg X.base (L2.CX X.prog X.w) k f fd ps (spEv G φ n)) (hr : RoomG (k + 1) X.A) (tk : Takes X W) (hg : Gl X cn) (eg : G.N.gm cl = some (.ref C)) (hm : X.mg cn = some (.ref C)) (hb : KBinds X.K fd ps [] g gV) (hA : GRel gV gA)
    (ha : SR X W G L (e :: es) m) (hdb : (cn == ("__debug__" : Str)) = false := by decide) (he : starEach (e :: es) X.env = (false, eval e X.env) :: starEach es X.env := by rfl) (hpl : (backTo pos (starEach es X.env)).any (·.1) = false := by rfl) :
    SE X W G L (.Call (.Name cn p) (e :: es) [] pos) (evMake cl φ n gA m (mpure [])) := by
  obtain ⟨t, pa, qa⟩ := ha.ex
  refine SE.make_of (t := t) (tk := tNil) (C := C) hA eg ⟨fun pins s σ H Q I h => ?_⟩ qa (fun c Q s r => r _ _ Ext.refl s _ .nil)
  refine wpAny_Call_Name_kw (ld_glob I hg hm ?_ hdb)
  refine PySem.W.callWith_K (h₀ := X.base) I.ok.mod.kin M.kp (thn (pa.run pos pins s σ H _ I h) fun us s1 ⟨vs, H1, I1, r, q⟩ => ⟨I1.kIn, ?_⟩) he hpl
  exact run_makeG M F hr hb tk I1 r (zs := []) (ws := []) .nil q
/-- C() -/
theorem SE.make0 {cn : Str} (M : L2.Mk X.K C f) (F : FnG X.prog X.w X.K X.mg X.base (L2.CX X.prog X.w) k f fd ps (spEv G φ n)) (hr : RoomG (k + 1) X.A) (tk : Takes X W) (hg : Gl X cn) (eg : G.N.gm cl = some (.ref C)) (hm : X.mg cn = some (.ref C)) (hb : KBinds X.K fd ps [] g gV) (hA : GRel gV gA)
    (hdb : (cn == ("__debug__" : Str)) = false := by decide) : SE X W G L (.Call (.Name cn p) [] [] pos) (evMake cl φ n gA (mpure []) (mpure [])) := by
  refine SE.make_of (t := tNil) (tk := tNil) (C := C) hA eg ⟨fun pins s σ H Q I h => ?_⟩ (fun c Q s r => r _ _ Ext.refl s _ .nil) (fun c Q s r => r _ _ Ext.refl s _ .nil)
  refine wpAny_Call_Name_kw (ld_glob I hg hm ?_ hdb)
  exact PySem.W.callWith_K0 I.kIn M.kp (run_makeG (us := []) (ws := []) (vs := []) (zs := []) M F hr hb tk I .nil .nil h)
/-- C(e, .., k = e, ..) -/
theorem SE.makeK {cn : Str} {m mk : M (List Ar)} (M : L2.Mk X.K C f) (F : FnG X.prog X.w X.K X.mg X.base (L2.CX X.prog X.w) k f fd ps (spEv G φ n)) (hr : RoomG (k + 1) X.A) (tk : Takes X W) (hg : Gl X cn) (eg : G.N.gm cl = some (.ref C)) (hm : X.mg cn = some (.ref C)) (hb : KBinds X.K fd ps ks g gV) (hA : GRel gV gA)
    (ha : SR X W G L (e :: es) m) (hkw : SK X W G L kws mk) (hall : (backToKw pos (keywordEach kws X.env)).all (·.1.isSome) = true := by rfl) (hks : (backToKw pos (keywordEach kws X.env)).filterMap (·.1) = ks := by rfl)
    (hdb : (cn == ("__debug__" : Str)) = false := by decide) (he : starEach (e :: es) X.env = (false, eval e X.env) :: starEach es X.env := by rfl)
    (hpl : ((backTo pos (starEach (e :: es) X.env)).any (·.1) || (backToKw pos (keywordEach kws X.env)).any (·.1.isNone)) = false := by rfl) :
    SE X W G L (.Call (.Name cn p) (e :: es) kws pos) (evMake cl φ n gA m mk) := by
  obtain ⟨t, pa, qa⟩ := ha.ex
  obtain ⟨t2, pk, qk⟩ := hkw.ex
  refine SE.make_of (t := t) (tk := t2) (C := C) hA eg ⟨fun pins s σ H Q I h => ?_⟩ qa qk
  refine wpAny_Call_Name_kw (ld_glob I hg hm ?_ hdb)
  refine PySem.W.callWith_KW (h₀ := X.base) I.ok.mod.kin M.kp hall (thn (pa.run pos pins s σ H _ I h) fun us s1 ⟨vs, H1, I1, r, q⟩ => ?_) hpl he
  refine thn (pk.run pos pins s1 σ H1 _ I1 q) fun ws s2 ⟨zs, H2, I2, rz, q2⟩ => ⟨I2.kIn, ?_⟩
  rw [hks]
  exact run_makeG M F hr hb tk I2 r rz q2
end
end
/-! ### what is an instance of own classes -/
structure InsC (K : PySem.W.Frag) (C : Addr) : Prop where
  cl : L2.Cls K C
  ha : PySem.W.findIn K (.ref C) "__class__" = some (some (.builtin "object.__class__"))
  hn : PySem.W.specialIn K (.builtin "object.__class__") "__get__" = some (some (.builtin "getset_descriptor.__get__"))
  tk : PySem.W.takesIn K (.builtin "object.__class__") = some true
  hm : PySem.W.mroIn K C (.type "object") = some true
/-- own: the exception classes; obs: those of objects -/
structure ClsO (K : PySem.W.Frag) (N : Nm) (own obs : Nat → Bool) (sub : Nat → Nat → Bool) : Prop where
  ex : ∀ y c C1 C2, own y = true → (own c || obs c) = true → N.gm y = some (.ref C1) → N.gm c = some (.ref C2) → ExcC K C1 ∧ PySem.W.kitOne K (.ref C1) (.ref C2) = some (sub y c)
  ob : ∀ y c C1 C2, obs y = true → (own c || obs c) = true → N.gm y = some (.ref C1) → N.gm c = some (.ref C2) → InsC K C1 ∧ PySem.W.kitOne K (.ref C1) (.ref C2) = some (sub y c)
  ty : ∀ (t : Tg) c C2, (own c || obs c) = true → N.gm c = some (.ref C2) → PySem.W.kitOne K (.type t.nm) (.ref C2) = some false
  bt : ∀ y C (n : Ty), obs y = true → N.gm y = some (.ref C) → InsC K C ∧ PySem.W.kitOne K (.ref C) (.type n.nm) = some false
def isoY (own obs : Nat → Bool) (sub : Nat → Nat → Bool) (c : Nat) : D → Option Bool
  | .exc y _ => if own y && (own c || obs c) then some (sub y c) else none
  | .obj y _ => if obs y && (own c || obs c) then some (sub y c) else none
  | d => if own c || obs c then (tgOf d).map fun _ => false else none
def isoT (obs : Nat → Bool) (y : Nat) (l : List D) : Option Bool := if obs y then (allTy l).map fun _ => false else none
def bIsY (own obs : Nat → Bool) (sub : Nat → Nat → Bool) : List D → Option Vl
  | [.obj y _, .ty _] => if obs y then some (.fz (.bl false)) else none
  | [.obj y _, .tup l] => (isoT obs y l).map fun b => .fz (.bl b)
  | [d, .gl c] => (isoY own obs sub c d).map fun b => .fz (.bl b)
  | l => bIsi l
section
variable {X : Cx} {W : WX} {G : Gc} {L : Lt} {own obs : Nat → Bool} {sub : Nat → Nat → Bool}
theorem ins_ty {K : PySem.W.Frag} {H : Hp} {a C dx : Addr} {xs : List (Str × V)} (I : InsC K C) (e : H a = some (.ins C dx xs)) : TyX K H (.ref a) (.ref C) := .base (.ins e I.cl I.ha I.hn I.tk I.hm)
theorem kitAny_no {K : PySem.W.Frag} {C : Addr} (h : ∀ n : Ty, PySem.W.kitOne K (.ref C) (.type n.nm) = some false) : ∀ ns : List Ty, PySem.W.kitAny K (.ref C) (ns.map fun n : Ty => Value.type n.nm) = some false
  | [] => rfl
  | n :: ns => by
    show (match PySem.W.kitOne K (.ref C) (.type n.nm) with | some true => some true | some false => PySem.W.kitAny K (.ref C) (ns.map fun n : Ty => Value.type n.nm) | none => none) = _
    rw [h n]
    exact kitAny_no h ns
theorem bIsY_ok (hK : ClsO X.K G.N own obs sub) : CallOk X W G L (fun xs H Q => (rIsi X.K xs H Q ∨ rIsiT X.K xs H Q) ∨ rIsX X.K xs H Q) (bIsY own obs sub) := by
  intro c0 c ds vs Q es ex s r hr
  have other : Req G L W c (liftO (bIsi ds) c.ρ) (fun r c' => ∀ v, VR G c0 c' v r → Q v c'.H) → (rIsi X.K vs c.H Q ∨ rIsiT X.K vs c.H Q) ∨ rIsX X.K vs c.H Q := fun hr => .inl (bIsi_ok (X := X) c0 c ds vs Q es ex s r hr)
  unfold bIsY at hr
  split at hr
  · rename_i y fs n
    obtain ⟨w, er, hr⟩ := liftO_req hr
    split at er
    · rename_i ho
      cases er
      cases r with
      | cons r1 r2 =>
        cases r2 with
        | cons r2 r3 =>
          cases r3
          cases r2
          cases r1 with
          | @obj a C dx _ xs _ eg fa ea rf =>
            obtain ⟨i, k⟩ := hK.bt y C n ho eg
            exact .inl (.inl ⟨_, _, _, _, false, rfl, .ty _, ins_ty i ea, k, Req.here hr s _ (.bl _)⟩)
    · cases er
  · rename_i y fs l
    obtain ⟨w, er, hr⟩ := liftO_req hr
    obtain ⟨b, e, rfl⟩ := Option.map_eq_some_iff.mp er
    unfold isoT at e
    split at e
    · rename_i ho
      obtain ⟨ns, e1, rfl⟩ := Option.map_eq_some_iff.mp e
      cases r with
      | cons r1 r2 =>
        cases r2 with
        | cons r2 r3 =>
          cases r3
          cases r2 with
          | tup f rr ll =>
            have h1 := allTy_ok ll e1
            subst h1
            cases r1 with
            | @obj a C dx _ xs _ eg fa ea rf =>
              have i := (hK.bt y C .int ho eg).1
              exact .inl (.inr ⟨_, _, _, _, _, _, rfl, rr, clsV_all ns, ins_ty i ea, kitAny_no (fun n => (hK.bt y C n ho eg).2) ns, Req.here hr s _ (.bl _)⟩)
    · cases e
  · rename_i d y
    obtain ⟨w, er, hr⟩ := liftO_req hr
    obtain ⟨b, e, rfl⟩ := Option.map_eq_some_iff.mp er
    cases r with
    | @cons v1 _ _ _ r1 r2 =>
      cases r2 with
      | cons r2 r3 =>
        cases r3
        cases r2 with
        | @gl _ C2 eg =>
          have q := Req.here hr s (.bl b) (.bl b)
          have plain : ∀ t, tgOf d = some t → isoY own obs sub y d = (if own y || obs y then (tgOf d).map fun _ => false else none) → (rIsi X.K [v1, V.ref C2] c.H Q ∨ rIsiT X.K [v1, V.ref C2] c.H Q) ∨ rIsX X.K [v1, V.ref C2] c.H Q := fun t et ei => by
            rw [ei] at e
            by_cases ho : (own y || obs y) = true
            · rw [if_pos ho, et] at e
              cases e
              exact .inl (.inl ⟨_, _, _, _, false, rfl, .own C2, tgOf_okG (G := G) r1 et, hK.ty t y C2 ho eg, q⟩)
            · rw [if_neg ho] at e
              cases e
          have none_ : tgOf d = none → (if own y || obs y then (tgOf d).map fun _ => false else none) = some b → (rIsi X.K [v1, V.ref C2] c.H Q ∨ rIsiT X.K [v1, V.ref C2] c.H Q) ∨ rIsX X.K [v1, V.ref C2] c.H Q := fun et e => by
            rw [et] at e
            split at e <;> cases e
          cases d with
          | exc z fs =>
            have e : (if own z && (own y || obs y) then some (sub z y) else none) = some b := e
            by_cases ho : (own z && (own y || obs y)) = true
            · rw [if_pos ho] at e
              cases e
              obtain ⟨o1, o2⟩ := Bool.and_eq_true_iff.mp ho
              cases r1 with
              | @exc a C dd _ xs _ eg1 fa fd ea ed rf =>
                obtain ⟨k1, k2⟩ := hK.ex z y C C2 o1 o2 eg1 eg
                exact .inr ⟨a, C, dd, xs, C2, _, rfl, k1, ea, ed, k2, q⟩
            · rw [if_neg ho] at e
              cases e
          | obj z fs =>
            have e : (if obs z && (own y || obs y) then some (sub z y) else none) = some b := e
            by_cases ho : (obs z && (own y || obs y)) = true
            · rw [if_pos ho] at e
              cases e
              obtain ⟨o1, o2⟩ := Bool.and_eq_true_iff.mp ho
              cases r1 with
              | @obj a C dx _ xs _ eg1 fa ea rf =>
                obtain ⟨k1, k2⟩ := hK.ob z y C C2 o1 o2 eg1 eg
                exact .inl (.inl ⟨_, _, _, _, _, rfl, .own C2, ins_ty k1 ea, k2, q⟩)
            · rw [if_neg ho] at e
              cases e
          | non => exact plain _ rfl rfl
          | bl k => exact plain _ rfl rfl
          | int k => exact plain _ rfl rfl
          | str k => exact plain _ rfl rfl
          | lst k => exact plain _ rfl rfl
          | tup k => exact plain _ rfl rfl
          | dic k => exact plain _ rfl rfl
          | dct l => exact none_ rfl e
          | scr l => exact none_ rfl e
          | gl n => exact none_ rfl e
          | ty n => exact none_ rfl e
  · exact other hr
theorem SE.isinstY {e : Expr} {es : List Expr} {p pos : Pos} {m : M (List D)} (hK : ClsO X.K G.N own obs sub) (hg : Gl X "isinstance") (hm : X.mg "isinstance" = none) (ha : SA X W G L (e :: es) m) (he : starEach (e :: es) X.env = (false, eval e X.env) :: starEach es X.env := by rfl) (hpl : (backTo pos (starEach es X.env)).any (·.1) = false := by rfl) : SE X W G L (.Call (.Name "isinstance" p) (e :: es) [] pos) (evC (bIsY own obs sub) m) := SE.callB call_isiX (bIsY_ok hK) hg hm bt_isinstance ha (by decide) (by decide) he hpl
end
/-! ### starred items, extend, defaults -/
section
variable {X : Cx} {W : WX} {G : Gc} {L : Lt} {e a b : Expr} {pos : Pos} {c c0 c1 : Cf} {es : List Expr}
def evStar (ma : M D) (mr : M (List D)) : M (List D) := ma.bind fun x => (liftO (dSeq2 x)).bind fun l => mr.bind fun xs => mpure (l ++ xs)
theorem SA.star {ma : M D} {mr : M (List D)} {p : Pos} (ha : SD X W G L e ma) (hr : SA X W G L es mr) (hs : starEach (.Starred e p :: es) X.env = (true, eval e X.env) :: starEach es X.env := by rfl) : SA X W G L (.Starred e p :: es) (evStar ma mr) := by
  obtain ⟨ta, pa, qa⟩ := ha.ex
  obtain ⟨tb, pb, qb⟩ := hr.ex
  refine ⟨_, StX.pa_star pa pb hs, fun c Q s h => ?_⟩
  refine qa c _ s ((Req.bind h).imp fun x c1 _ e1 x1 s1 h1 v rv => ?_)
  obtain ⟨l, el, h1⟩ := liftO_req (Req.bind h1)
  obtain ⟨k, p', xs, rfl, f, rl, at_⟩ := sk_at rv el
  refine ⟨p', xs, rfl, ?_, ?_⟩
  · cases k
    · exact .inr (.inl (.inl at_))
    · exact .inl (.inl (.inl at_))
  · show tb c.σ c1.H _
    rw [← e1]
    have h1 : Req G L W c1 ((mr c1.ρ).bind fun xs => mpure (l ++ xs)) _ := Req.here (r := l) h1 s1
    refine qb c1 _ s1 ((Req.bind h1).imp fun y c2 _ e2 x2 s2 h2 u ru => ?_)
    exact Req.here (r := l ++ y) h2 s2 _ ((x2.rpl s1 rl).append ru)
def fExt : List D → D → Option D
  | [.lst zs], .lst l => if l.length + zs.length ≤ 16777216 then some (.lst (l ++ zs)) else none
  | _, _ => none
theorem fExt_ok : MutOk G rExtend fExt := by
  intro F H p xs l vs ds d' Q nf hx ll rv ef hq
  unfold fExt at ef
  split at ef
  · rename_i zs l0 z
    cases z
    cases rv with
    | cons r1 r2 =>
      cases r2
      split at ef
      · rename_i hz
        cases ef
        cases r1 with
        | lst f hb lb => exact ⟨p, _, xs, _, rfl, rfl, hx, hb, by rw [ll.length, lb.length, sizeLine_eq]; exact hz, hq _ ⟨_, rfl, ll.append lb⟩⟩
      · cases ef
  · cases ef
theorem SD.ext (i : Nat) {x : Str} {xp ap : Pos} {m : M (List D)} (hN : X.N[i]? = some x) (hv : Vis X.env.scope x) (h : SA X W G L (e :: es) m)
    (hbase : attributeBase (.Name x xp) "extend" X.env (eval (.Name x xp) X.env) = eval (.Name x xp) X.env := by rfl)
    (hfew : ((backTo pos (starEach (e :: es) X.env)).all (fun x => !x.1) && (backToKw pos (keywordEach [] X.env)).all (fun x => x.1.isSome) && decide ((e :: es).length + ([] : List Keyword).length + (if ([] : List Keyword).isEmpty then 0 else 1) < 30)) = true := by rfl)
    (hline : (ap.endLine == pos.line) = true := by rfl) (hs : starEach (e :: es) X.env = (false, eval e X.env) :: starEach es X.env := by rfl) (hplain : (backTo pos (starEach es X.env)).any (·.1) = false := by rfl)
    (hd : (x == ("__debug__" : Str)) = false := by decide) (hcd : (x == ("__classdict__" : Str)) = false := by decide) : SD X W G L (.Call (.Attribute (.Name x xp) "extend" ap) (e :: es) [] pos) (evMut i fExt m) :=
  SD.mut i PySem.F.slot_list_extend PySem.F.type_list_extend mt_extend fExt_ok hN hv h hbase hfew hline hs hplain hd hcd
/-- defaults that fill up a call -/
theorem GRel.ofDs {dv : List V} {ws : List D} (h : ∀ (N : Nm) (F : Fz) (H : Hp), RpL N F H dv ws) : GRel (fun vs _ => vs ++ dv) (fun as _ => as ++ ws.map Ar.v) := fun {G c vs zs as bs} r _ => by
  refine RAs.append r ?_
  have key : ∀ {vs : List V} {ds : List D}, RpL G.N c.F c.H vs ds → RAs G c vs (ds.map Ar.v) := fun h => by
    induction ‹List V› generalizing ‹List D› with
    | nil => cases h; exact .nil
    | cons v vs ih =>
      cases h with
      | cons r t => exact .cons (.v r) (ih t)
  exact key (h _ _ _)
theorem funDs_mk {K : PySem.W.Frag} {x qual : Str} {st : Stmt} {dvs : List V} {us : List Value} {f T : Addr} {o : Obj} {n : Nat} {oc : Value} {od an : Option Addr} {osl : Array (Option Value)} {kV doc pm cdv ct : Value}
    (lk : K.lookup f = some ⟨oc, od, .func (PySem.W.fnOf x qual (defArgs st) (defBody st) (defScope st) (.ref T) kV doc pm an cdv ct), osl⟩) (hc : PySem.W.codeIn K cdv qual = true) (kp : PySem.W.keepIn K (.ref f) = true)
    (lT : K.lookup T = some o) (dT : o.data = .seq us.toArray n) (r : Vals dvs us) (ne : dvs ≠ []) : L2.FunD K x qual (defArgs st) (defBody st) (defScope st) dvs [] f (PySem.W.fnOf x qual (defArgs st) (defBody st) (defScope st) (.ref T) kV doc pm an cdv ct) :=
  ⟨⟨oc, od, .ref T, kV, doc, pm, an, cdv, ct, osl, rfl, lk, hc, .inr ⟨ne, T, o, us, n, rfl, lT, dT, r⟩, .inl rfl⟩, kp⟩
end
end Ev

/-! EvDt: dicts keyed by tuples: made, read, written, walked. -/
namespace Ev
open PySem PySem.Spec PyProof.Rows L2
/-! ### walked: d.items() -/
/-- the pairs of a locked dict with tuple keys, each a new tuple -/
def ItT (d : Addr) (o : Obj) (ts : List (List Key × V)) : It :=
  ⟨fun i H => H d = some (.frz o (.dT ts)) ∧ i < ts.length, fun i H x H' => ∃ (T : Addr) (k : List Key) (v : V) (qa : Addr), ts[i]? = some (k, v) ∧ H qa = some (.tup (k.map L2.kV)) ∧ x = .ref T ∧ H T = none ∧ H' = upd H T (.tup [.ref qa, v]), fun i H => H d = some (.frz o (.dT ts)) ∧ ts.length ≤ i⟩
section
variable {X : Cx} {pn : List (Addr × Obj)} {σ : L2.St} {H : Hp} {s : Shared} {d : Addr} {o : Obj}
theorem Inv.frzTv {ts : List (List Key × V)} (J : Inv X pn σ H s) (h : H d = some (.frz o (.dT ts))) :
    (d == sysModules) = false ∧ s.heap.get? d = some o ∧ o.ExactDict ∧ ∃ (ea : Array DictEntry) (ez : Nat), o.data = .dict ea ez ∧ ea.size = ts.length ∧
      ∀ (i : Nat) (k : List Key) (v : V), ts[i]? = some (k, v) → ∃ (nt : DictEntry) (qa : Addr), ea[i]? = some nt ∧ nt.key = .ref qa ∧ H qa = some (.tup (k.map L2.kV)) ∧ RelV v nt.val := by
  obtain ⟨ld, z, ns, ks, pq, o', ea, ez, go, xd, dd, ge, _⟩ := J.hok d _ h
  rw [ld] at go
  cases go
  refine ⟨ns, ld, xd, ea, ez, dd, ?_, fun i k v e => ?_⟩
  · have n1 : ea.size = ks.length := size_of_entries ge
    have n2 : ts.length = ks.length := Paired.length pq
    omega
  · obtain ⟨b, mb, e1, e2, e3⟩ := L2.paired_get pq e
    have qa := entry_at ge i
    rw [mb] at qa
    exact ⟨_, b.2.1, qa, rfl, e2, e3⟩
end
section
variable {P : Program} {w : World} {K : PySem.W.Frag} {d : Addr} {o : Obj} {ea : Array DictEntry} {ez : Nat}
theorem turnT {ts : List (List Key × V)} {els : List Expr} {kk : Nat} {tp : Pos} (i0 : Addr) (od0 : o.data = .dict ea ez) :
    Turn P w K (.Tuple els kk tp) (ItT d o ts) [i0] i0 (fun i h => ∃ ok ov, IsItemIter h i0 d i ts.length ez ok ov) where
  mem := by simp
  obj := fun i h tt b mb => by
    have e : b = i0 := by simpa using mb
    subst e
    obtain ⟨ok, ov, e⟩ := tt
    exact ⟨_, e, fun _ n => nomatch n⟩
  keep := fun i h h' tt k => let ⟨ok, ov, e⟩ := tt; ⟨ok, ov, k i0 (by simp) _ e⟩
  item := by
    intro X gP gw gK gc i pn s σ H E J ff tt gg
    subst gP gw gK
    obtain ⟨ld, li⟩ := gg
    obtain ⟨ns, gd1, xd, ea', ez', dd, zz, nts⟩ := Ev.Inv.frzTv J ld
    obtain ⟨rfl, rfl⟩ := L2.dict_ep od0 dd
    obtain ⟨⟨k, v⟩, kv1⟩ : ∃ p, ts[i]? = some p := ⟨ts[i], List.getElem?_eq_getElem li⟩
    obtain ⟨nt, qa, en1, ky, hq, rv1⟩ := nts i k v kv1
    have li' : i < ea'.size := by omega
    have ge : ea'[i] = nt := by
      rw [Array.getElem?_eq_getElem li'] at en1
      exact Option.some.inj en1
    obtain ⟨ok, ov, tt⟩ := tt
    rw [← zz] at tt
    have lt0 : i0 < s.heap.objs.size := Heap.lt_size tt
    refine DT.nextI tt ⟨o, gd1, xd, dd⟩ li' fun h' go gT gz gk => ?_
    rw [ge] at go gT
    refine ⟨_, rfl, wpAny_letOwnedTupleGo_items (s := { s with heap := h' }) go fun h2 ge2 bb => ?_⟩
    have gT2 : h2.get? s.heap.objs.size = some { cls := .type "tuple", data := .seq #[nt.key, nt.val] } := (bb.2 _ (Nat.ne_of_gt lt0)).trans gT
    rw [ky] at gT2
    have new : ObjOk X.prog X.w (upd H s.heap.objs.size (.tup [.ref qa, v])) h2 s.heap.objs.size (.tup [.ref qa, v]) :=
      ⟨by show 2 ≤ sizeLine; decide, [.ref qa, nt.val], .cons rfl (.cons rv1 .nil), ⟨_, gT2, rfl, _, rfl⟩⟩
    have J1 : Inv X pn σ (upd H s.heap.objs.size (.tup [.ref qa, v])) { s with heap := h2 } :=
      J.turnedNew (t' := s.toks) (ch := [i0]) (fun b ob mb e => (bb.2 b (by simpa using mb)).trans (gk b ob (by simpa using mb) e)) ff (Nat.le_refl _) new
    refine ⟨.ref s.heap.objs.size, _, J1, rfl, ⟨_, k, v, qa, kv1, hq, rfl, J.hok.fresh (Nat.le_refl _), rfl⟩, ⟨nt.key, nt.val, ?_⟩, fun b mb => ?_⟩
    · rw [← zz]; exact ge2
    · have e : b = i0 := by simpa using mb
      rw [e, upd_ne (Nat.ne_of_lt lt0)]
      exact (ff i0 (by simp)).1
  done := by
    intro X gP gw gK gc i pn s σ H E J ff tt gg
    subst gP gw gK
    obtain ⟨ld, li⟩ := gg
    obtain ⟨f0, f1, f2, f3, f4, f5⟩ := ff i0 (by simp)
    obtain ⟨ns, gd1, xd, ea', ez', dd, zz, nts⟩ := Ev.Inv.frzTv J ld
    obtain ⟨rfl, rfl⟩ := L2.dict_ep od0 dd
    obtain ⟨ok, ov, tt⟩ := tt
    rw [← zz] at tt
    exact DT.endI (J.ok.hd gc) tt ⟨o, gd1, xd, dd⟩ (by omega) fun h' eb => ⟨rfl, J.turned (t' := s.toks) (fun b ob mb e => eb b ob mb e) f0 f1 f3 f4 f5⟩
  self := fun A i s Q E tt h => let ⟨_, _, e⟩ := tt; PySem.W.kcp_self e h
end
section
variable {X : Cx} {e : Expr} {td : TE} {ap cp : Pos}
def iItT (td : TE) : TI := fun σ H R => td σ H fun x G1 => ∃ d o ts, x = .ref d ∧ G1 d = some (.frz o (.dT ts)) ∧ R (ItT d o ts) G1
theorem pi_itemsT {els : List Expr} {kk : Nat} {tp : Pos} (ge : PE X e td) (hb1 : attributeBase e "items" X.env (eval e X.env) = eval e X.env := by rfl) (hl1 : (ap.endLine == cp.line) = true := by rfl) :
    PI X (.Tuple els kk tp) (.Call (.Attribute e "items" ap) [] [] cp) (iItT td) := by
  refine ⟨fun pn s σ H R J h => ?_⟩
  refine wpAny_Call_method (T := "dict") (id := "dict.items") hb1 rfl hl1 F.plainAttrs_dict F.slot_dict_items F.type_dict_items (thn (ge.run pn s σ H _ J h) fun u z1 ⟨x, G1, J1, rr, d, o, ts, ex, ld, qa⟩ => ?_)
  subst ex
  obtain rfl : u = Value.ref d := rr
  obtain ⟨ns, gd1, xd, ea, ez, dd, zz, nts⟩ := Ev.Inv.frzTv J1 ld
  have rw0 : DT.Raw z1.heap d ea ez := ⟨o, gd1, xd, dd⟩
  refine ⟨rw0.typeIs, fun b qa => ?_, ?_⟩
  · cases qa
    exact ⟨o, gd1, xd.2.1⟩
  have J2 : Inv X pn σ G1 { z1 with heap := z1.heap.push { cls := .type "dict_items", data := .fields #[.ref d] } } := J1.kept (t' := z1.toks) fun b ob qa => Heap.get?_push_of_some _ qa
  have last : wpAny (model X.prog X.w) X.A (pyIter (.ref z1.heap.objs.size)) (PIE X pn σ (.Tuple els kk tp) R) X.xe { z1 with heap := z1.heap.push { cls := .type "dict_items", data := .fields #[.ref d] } } := by
    refine DT.iterI (d := d) (es := ea) (ep := ez) ⟨_, Heap.get?_push_size _ rfl, rfl, rfl⟩ (rw0.push _) (pi_one (tk := z1.toks) J2 _ (turnT _ dd) ⟨.none, .none, ?_⟩ qa)
    rw [← zz]
    exact (Heap.get?_push_size _ rfl)
  show wpAny _ _ (callWith cp (.builtin "dict.items") [.ref d] [] []) _ X.xe z1
  exact method_meetsIn F.slot_dict_items F.entry_dict_items rfl (PySem.evalArgs_none ⟨rfl, rw0.typeIs, F.args_dict_items_1 _, _, DT.meetsItems ns, rw0, last⟩)
end
/-! ### {k: v} of one tuple -/
/-- a display of one pair, its key a tuple -/
def tDsp (tk tv : TE) : TE := fun σ H Q => ∀ p, H p = none → tk σ (upd H p (.dT [])) fun x H1 => tv σ H1 fun y H2 => H2 p = some (.dT []) ∧ ∃ (ks : List Key) (b : Addr), x = .ref b ∧ H2 b = some (.tup (ks.map L2.kV)) ∧ Q (.ref p) (upd H2 p (.dT [(ks, y)]))
theorem pe_dsp {X : Cx} {k v : Expr} {tk tv : TE} {pos : Pos} (hu : X.A.units + 1 < cLine) (hk : PE X k tk) (hv : PE X v tv) : PE X (.Dict [some k] [v] pos) (tDsp tk tv) := by
  refine ⟨fun pn s σ H Q J w => ?_⟩
  have fresh := J.hok.fresh (Nat.le_refl s.heap.objs.size)
  have J1 := J.laid (a := s.heap.objs.size) (o := .dT []) (h' := s.heap.push { cls := .type "dict", data := .dict #[] }) (t' := s.toks) (fun _ _ e => Heap.get?_push_of_some _ e) (Nat.le_refl _) (dt_empty s.heap J.big)
  rw [arm_eval_Dict, zip_pairTrees [some k] [v] X.env pos rfl rfl, dictDisplay_pairs _ (by intro z; cases z) (by show 1 < 17; decide)]
  refine wpAny_bind (wpAny_standAt (wpAny_bind (wpAny_subDictH (knd := tupleKind (mixKind X.prog X.w)) (show X.A.units < cLine from Nat.lt_of_succ_lt hu) (by show 1 ≤ 15; decide) ?_)))
  refine pairTrees_cons_walk (thn (hk.run pn _ σ _ _ J1 (w _ fresh)) fun kv s1 ⟨x, H1, J2, rx, q1⟩ => thn (hv.run pn s1 σ H1 _ J2 q1) fun vv s2 ⟨y, H2, J3, ry, e0, ks, b, ex, eb, q2⟩ => pairTrees_nil_walk ?_)
  subst ex
  obtain rfl : kv = Value.ref b := rx
  obtain ⟨_, sm, xs, rel, dd⟩ := dt_of J3.hok e0
  cases rel
  refine ⟨[(ks, b, vv)], ⟨rfl, rfl, key_of J3.hok eb, trivial⟩, dd, fun h' tok dd' same => wpAny_pure ⟨.ref s.heap.objs.size, _, ?_, rfl, q2⟩⟩
  obtain ⟨ob, es, ep, h1, h2, h3, h4, _, h5⟩ := dd'
  have nb : b ≠ s.heap.objs.size := fun z => by
    rw [z, e0] at eb
    cases eb
  have one : (1 : Nat) ≤ sizeLine := by decide
  exact d_write (t' := tok) (ob := .dT [(ks, y)]) J3 (by rw [e0]; exact True.intro) same ⟨ob, h1⟩ ⟨one, sm, [(ks, b, vv)], .cons ⟨rfl, by rw [upd_ne nb]; exact eb, ry⟩ .nil, ob, es, ep, h1, h2, h3, h4, h5⟩
/-! ### keys, values -/
def keysT : List D → Option (List Key)
  | [] => some []
  | d :: l => (keyOf d).bind fun k => (keysT l).map (k :: ·)
def keyT : D → Option (List Key)
  | .tup l => keysT l
  | _ => none
def keyD : Key → D
  | .inl i => .int i
  | .inr x => .str x
def dval (l : List (List Key × D)) (k : List Key) : Option D := (l.find? fun p => decide (p.1 = k)).map (·.2)
def dctPut (l : List (List Key × D)) (k : List Key) (d : D) : List (List Key × D) := if (l.any fun p => decide (p.1 = k)) = true then l.map (fun p => if p.1 = k then (p.1, d) else p) else l ++ [(k, d)]
section
variable {N : Nm} {F F' : Fz} {H H' : Hp}
theorem keysT_ok : ∀ {vs : List V} {ds : List D} {ks : List Key}, RpL N F H vs ds → keysT ds = some ks → vs = ks.map L2.kV
  | _, _, _, .nil, h => by cases h; rfl
  | _, _, _, .cons (v := v) (d := d) r l, h => by
    obtain ⟨k, e1, h⟩ := Option.bind_eq_some_iff.mp h
    obtain ⟨ks, e2, rfl⟩ := Option.map_eq_some_iff.mp h
    have ev : v = L2.kV k := by
      cases d with
      | int i => cases r; cases e1; rfl
      | str i => cases r; cases e1; rfl
      | _ => cases e1
    rw [List.map_cons, ev, keysT_ok l e2]
theorem keyT_ok {v : V} {d : D} {ks : List Key} (r : Rp N F H v d) (h : keyT d = some ks) : ∃ b, v = .ref b ∧ H b = some (.tup (ks.map L2.kV)) := by
  cases d with
  | tup l =>
    cases r with
    | tup f e l => exact ⟨_, rfl, by rw [e, keysT_ok l h]⟩
  | _ => cases h
theorem RpT.length : ∀ {xs : List (List Key × V)} {ds : List (List Key × D)}, RpT N F H xs ds → xs.length = ds.length
  | _, _, .nil => rfl
  | _, _, .cons _ l => congrArg (· + 1) (RpT.length l)
theorem RpT.get : ∀ {xs : List (List Key × V)} {ds : List (List Key × D)} {i : Nat} {k : List Key} {v : V}, RpT N F H xs ds → xs[i]? = some (k, v) → ∃ d, ds[i]? = some (k, d) ∧ Rp N F H v d
  | _, _, _, _, _, .nil, e => by simp at e
  | _, _, 0, _, _, .cons (d := d) r _, e => by simp at e; obtain ⟨rfl, rfl⟩ := e; exact ⟨d, rfl, r⟩
  | _, _, i + 1, _, _, .cons _ l, e => by
    obtain ⟨d, h1, h2⟩ := RpT.get (i := i) l (by simpa using e)
    exact ⟨d, by simpa using h1, h2⟩
theorem RpT.val (k : List Key) : ∀ {xs : List (List Key × V)} {ds : List (List Key × D)}, RpT N F H xs ds → (L2.valV xs k = none ∧ dval ds k = none) ∨ ∃ v d, L2.valV xs k = some v ∧ dval ds k = some d ∧ Rp N F H v d
  | _, _, .nil => .inl ⟨rfl, rfl⟩
  | _, _, .cons (k := j) (v := v) (d := d) (vs := vs) (ds := ds) r l => by
    by_cases h : j = k
    · refine .inr ⟨v, d, ?_, ?_, r⟩
      · simp [L2.valV, h]
      · simp [dval, h]
    · have e1 : L2.valV ((j, v) :: vs) k = L2.valV vs k := by simp [L2.valV, List.find?_cons, h]
      have e2 : dval ((j, d) :: ds) k = dval ds k := by simp [dval, List.find?_cons, h]
      rw [e1, e2]
      exact RpT.val k l
theorem RpT.any (k : List Key) : ∀ {xs : List (List Key × V)} {ds : List (List Key × D)}, RpT N F H xs ds → (xs.any fun p => decide (p.1 = k)) = ds.any fun p => decide (p.1 = k)
  | _, _, .nil => rfl
  | _, _, .cons r l => by rw [List.any_cons, List.any_cons, RpT.any k l]
theorem RpT.snoc {k : List Key} {v : V} {d : D} (r : Rp N F H v d) : ∀ {xs : List (List Key × V)} {ds : List (List Key × D)}, RpT N F H xs ds → RpT N F H (xs ++ [(k, v)]) (ds ++ [(k, d)])
  | _, _, .nil => .cons r .nil
  | _, _, .cons q l => .cons q (RpT.snoc r l)
theorem RpT.chg {k : List Key} {v : V} {d : D} (r : Rp N F H v d) : ∀ {xs : List (List Key × V)} {ds : List (List Key × D)}, RpT N F H xs ds → RpT N F H (xs.map fun p => if p.1 = k then (p.1, v) else p) (ds.map fun p => if p.1 = k then (p.1, d) else p)
  | _, _, .nil => .nil
  | _, _, .cons (k := j) q l => by
    rw [List.map_cons, List.map_cons]
    by_cases h : j = k
    · rw [if_pos h, if_pos h]
      exact .cons r (RpT.chg r l)
    · rw [if_neg h, if_neg h]
      exact .cons q (RpT.chg r l)
theorem RpT.put {k : List Key} {v : V} {d : D} {xs : List (List Key × V)} {ds : List (List Key × D)} (r : Rp N F H v d) (l : RpT N F H xs ds) : RpT N F H (L2.putK xs k v) (dctPut ds k d) := by
  unfold L2.putK dctPut
  rw [l.any k]
  split
  · exact l.chg r
  · exact l.snoc r
end
/-! ### the rules -/
section
variable {X : Cx} {W : WX} {G : Gc} {L : Lt} {e a b : Expr} {pos : Pos} {c c0 c1 : Cf}
theorem newDct {p : Addr} {vs : List (List Key × V)} {ds : List (List Key × D)} {Q : VK} (x0 : Ex G c0 c) (s : Ok G L c) (r : RpT G.N c.F c.H vs ds) (n : c.H p = none) (h : Req G L W c (.ok (.nw (.dct ds)) c.ρ) (fun r c' => ∀ v, VR G c0 c' v r → Q v c'.H)) : Q (.ref p) (upd c.H p (.dT vs)) := by
  have y : Ex G c ⟨c.σ, c.ρ, c.F, upd c.H p (.dT vs)⟩ := Ext.grow s n (fun _ z => z) fun _ z => .inl z
  refine h c.F _ y (StR.grow s n (fun _ z => z) fun _ z => .inl z) _ ⟨p, rfl, ⟨fun f => ?_, vs, upd_same, r.mono y.mono fun a f => y.fz s f⟩, fun o => ?_, Ex.pre x0 (.inl n)⟩
  · obtain ⟨⟨u, e⟩, _⟩ := s.trk p f
    exact nomatch n.symm.trans e
  · obtain ⟨u, e⟩ := s.ownAt o
    exact nomatch n.symm.trans e
/-- {}, to be a dict with tuple keys -/
theorem SE.dct0 : SE X W G L (.Dict [] [] pos) (mpure (.nw (.dct []))) := ⟨_, pe_dnewT, fun c Q s h => fun p n => newDct Ext.refl s .nil n h⟩
def mkDct (k v : D) : Option Vl := (keyT k).map fun k => .nw (.dct [(k, v)])
def evDct (mk mv : M D) : M Vl := mk.bind fun k => mv.bind fun v => liftO (mkDct k v)
/-- {k: v}, k a tuple -/
theorem SE.dct1 {k v : Expr} {mk mv : M D} {r0 : Nat} (hu : RoomG r0 X.A) (hk : SD X W G L k mk) (hv : SD X W G L v mv) : SE X W G L (.Dict [some k] [v] pos) (evDct mk mv) := by
  obtain ⟨tk, pk, qk⟩ := hk.ex
  obtain ⟨tv, pv, qv⟩ := hv.ex
  refine ⟨_, pe_dsp (by have := hu.room.un; omega) pk pv, fun c Q s h => ?_⟩
  intro p n
  have y : Ex G c ⟨c.σ, c.ρ, c.F, upd c.H p (.dT [])⟩ := Ext.grow s n (fun _ z => z) fun _ z => .inl z
  have s0 : Ok G L ⟨c.σ, c.ρ, c.F, upd c.H p (.dT [])⟩ := StR.grow s n (fun _ z => z) fun _ z => .inl z
  have nf : ¬ c.F p := fun f => by
    obtain ⟨⟨u, e⟩, _⟩ := s.trk p f
    exact nomatch n.symm.trans e
  have no : ¬ c.own G p := fun o => by
    obtain ⟨u, e⟩ := s.ownAt o
    exact nomatch n.symm.trans e
  have h0 : Req G L W ⟨c.σ, c.ρ, c.F, upd c.H p (.dT [])⟩ (evDct mk mv c.ρ) (fun r c' => ∀ v, VR G c c' v r → Q v c'.H) := Req.shift (c1 := ⟨c.σ, c.ρ, c.F, upd c.H p (.dT [])⟩) h y rfl
  refine qk ⟨c.σ, c.ρ, c.F, upd c.H p (.dT [])⟩ _ s0 ((Req.bind h0).imp fun kk c1 q1 e1 x1 s1 h1 u ru => ?_)
  show tv c.σ c1.H _
  have e1' : c1.σ = c.σ := e1
  rw [← e1']
  refine qv c1 _ s1 ((Req.bind h1).imp fun vv c2 q2 e2 x2 s2 h2 w rw' => ?_)
  obtain ⟨r, er, h2⟩ := liftO_req h2
  obtain ⟨key, ek, rfl⟩ := Option.map_eq_some_iff.mp er
  obtain ⟨hp, nf2, no2⟩ := Ex.hidden (x1.trans x2) (upd_same (H := c.H) (a := p) (o := .dT [])) nf no
  obtain ⟨b, rfl, eb⟩ := keyT_ok (x2.rp s1 ru) ek
  refine ⟨hp, key, b, rfl, eb, ?_⟩
  have hw : evDct mk mv c.ρ = Out.ok (.nw (.dct [(key, vv)])) c2.ρ := by
    have q1 : mk c.ρ = Out.ok kk c1.ρ := q1
    show ((mk c.ρ).bind fun k => mv.bind fun v => liftO (mkDct k v)) = _
    rw [q1]
    show ((mv c1.ρ).bind fun v => liftO (mkDct kk v)) = _
    rw [q2]
    show liftO (mkDct kk vv) c2.ρ = _
    rw [er]
    rfl
  rw [hw] at h
  have s3 : Ok G L ⟨c2.σ, c2.ρ, c2.F, upd c2.H p (.dT [(key, w)])⟩ := Ok.hid s2 nf2 no2 ⟨_, hp, rfl⟩
  have x3 : Ex G c ⟨c2.σ, c2.ρ, c2.F, upd c2.H p (.dT [(key, w)])⟩ := Ex.hid ((y.trans x1).trans x2) n
  have e2' : c2.σ = c.σ := e2.trans e1'
  rw [e2'] at s3 x3
  refine h c2.F _ x3 s3 _ ⟨p, rfl, ⟨nf2, _, upd_same, ?_⟩, fun z => no2 (by rw [← e2'] at z; exact z), .inl n⟩
  exact .cons (rw'.mono (fun _ f => f) fun b f => upd_ne (fun (z : b = p) => nf2 (by rw [← z]; exact f))) .nil
/-- what a slot's dict holds at a key, or else another value -/
def getT (i : Nat) (k z : D) : M Vl := fun ρ => match slotD ρ i with
  | some (.dct l) => liftO ((keyT k).map fun ks => Vl.fz ((dval l ks).getD z)) ρ
  | _ => .no
def evDGet (i : Nat) (mk mz : M D) : M Vl := fun ρ => match slotD ρ i with
  | some (.dct _) => (mk.bind fun k => mz.bind fun z => getT i k z) ρ
  | _ => .no
theorem lookT {i : Nat} {l : List (List Key × D)} {x : Str} (s : Ok G L c) (h : slotD c.ρ i = some (.dct l)) : ∃ p xs, c.σ[i]? = some (some (V.ref p)) ∧ Rd c.H p (.dT xs) ∧ RpT G.N c.F c.H xs l := by
  obtain ⟨v, h1, h2⟩ := look (x := x) s h
  rcases h2 with h2 | ⟨a, rfl, _, xs, q, r⟩
  · cases h2 with
    | dct f e r => exact ⟨_, _, h1, .inr ⟨_, e⟩, r⟩
  · exact ⟨a, xs, h1, .inl q, r⟩
/-- d.get(k, z) -/
theorem SE.dget (i : Nat) {x : Str} {xp ap cp : Pos} {f g : Expr} {mk mz : M D} {r0 : Nat} (hu : RoomG r0 X.A) (hN : X.N[i]? = some x) (hv : Vis X.env.scope x) (hk : SD X W G L f mk) (hz : SD X W G L g mz)
    (hb : attributeBase (.Name x xp) "get" X.env (eval (.Name x xp) X.env) = eval (.Name x xp) X.env := by rfl)
    (hf : ((backTo cp (starEach [f, g] X.env)).all (fun x => !x.1) && (backToKw cp (keywordEach [] X.env)).all (fun x => x.1.isSome) && decide (([f, g] : List Expr).length + ([] : List Keyword).length + (if ([] : List Keyword).isEmpty then 0 else 1) < 30)) = true := by rfl)
    (hl : (ap.endLine == cp.line) = true := by rfl) (ht : backTo cp (starEach [f, g] X.env) = [(false, eval f X.env), (false, eval g X.env)] := by rfl)
    (hd : (x == ("__debug__" : Str)) = false := by decide) (hcd : (x == ("__classdict__" : Str)) = false := by decide) : SE X W G L (.Call (.Attribute (.Name x xp) "get" ap) [f, g] [] cp) (evDGet i mk mz) := by
  obtain ⟨tk, pk, qk⟩ := hk.ex
  obtain ⟨tz, pz, qz⟩ := hz.ex
  refine ⟨_, pe_dget2 (by have := hu.room.un; omega) (pe_var hN hv hd hcd) pk pz ⟨hb, hf, hl, ht⟩, fun c Q s h => ?_⟩
  unfold evDGet at h
  split at h
  · rename_i l es
    obtain ⟨a, xs, h1, ra, _⟩ := lookT (x := x) s es
    refine ⟨.ref a, h1, a, rfl, .inr ⟨xs, ra⟩, ?_⟩
    refine qk c _ s ((Req.bind h).imp fun kk c1 _ e1 x1 s1 h2 u ru => ?_)
    show tz c.σ c1.H _
    rw [← e1]
    refine qz c1 _ s1 ((Req.bind h2).imp fun zz c2 _ e2 x2 s2 h3 w rw' => ?_)
    have h3 : Req G L W c2 (getT i kk zz c2.ρ) _ := h3
    unfold getT at h3
    split at h3
    · rename_i l2 es2
      obtain ⟨a2, ys, g1, ra2, rl⟩ := lookT (x := x) s2 es2
      rw [e2, e1, h1] at g1
      cases g1
      obtain ⟨r, er, h3⟩ := liftO_req h3
      obtain ⟨ks, ek, rfl⟩ := Option.map_eq_some_iff.mp er
      obtain ⟨b, rfl, eb⟩ := keyT_ok (x2.rp s1 ru) ek
      rcases rl.val ks with ⟨n1, n2⟩ | ⟨v, d, n1, n2, rv⟩
      · refine ⟨none, .inr ⟨ys, ks, b, ra2, rfl, eb, n1.symm⟩, ?_⟩
        rw [n2] at h3
        exact Req.here h3 s2 _ rw'
      · refine ⟨some v, .inr ⟨ys, ks, b, ra2, rfl, eb, n1.symm⟩, ?_⟩
        rw [n2] at h3
        exact Req.here h3 s2 _ rv
    · exact h3.elim
  · exact h.elim
def putT (k v : D) : D → Option D
  | .dct l => (keyT k).bind fun ks => if l.length < 16777216 then some (.dct (dctPut l ks v)) else none
  | _ => none
def dPut1 (i : Nat) (mk : M D) (v : D) : M Fl := fun ρ => match slotD ρ i with
  | some (.dct _) => (mk.bind fun k => M.bind (updSlot i (putT k v)) fun _ => mpure .nx) ρ
  | _ => .no
def evDPut (i : Nat) (mk mv : M D) : M Fl := mv.bind (dPut1 i mk)
/-- d[k] = v -/
theorem SS.dput (i : Nat) {x : Str} {xp sp : Pos} {f g : Expr} {mk mv : M D} {r0 : Nat} (hu : RoomG r0 X.A) (hN : X.N[i]? = some x) (hv : Vis X.env.scope x) (hk : SD X W G L f mk) (hw : SD X W G L g mv)
    (hs : swapsWith g (some (.Subscript (.Name x xp) f sp)) pos.line X.env = pure false := by rfl)
    (hd : (x == ("__debug__" : Str)) = false := by decide) (hcd : (x == ("__classdict__" : Str)) = false := by decide) : SS X W G L (.Assign [.Subscript (.Name x xp) f sp] g pos) (evDPut i mk mv) := by
  obtain ⟨tk, pk, qk⟩ := hk.ex
  obtain ⟨tv, pv, qv⟩ := hw.ex
  refine ⟨_, ps_dput (by have := hu.room.un; omega) (pe_var hN hv hd hcd) pk pv hs, fun c En s h => ?_⟩
  refine qv c _ s (h.bindE.imp fun vv c1 _ e1 x1 s1 h1 v rv => ?_)
  have h1 : ReqS G L W c1 (dPut1 i mk vv c1.ρ) _ := h1
  unfold dPut1 at h1
  split at h1
  · rename_i l es
    obtain ⟨a, xs, g1, ra, _⟩ := lookT (x := x) s1 es
    refine ⟨.ref a, by rw [← e1]; exact g1, ?_⟩
    show tk c.σ c1.H _
    rw [← e1]
    refine qk c1 _ s1 (h1.bindE.imp fun kk c2 _ e2 x2 s2 h2 u ru => ?_)
    obtain ⟨t, dd, d', et, w, ht, ef, h3⟩ := updSlot_req (ReqS.bind h2)
    obtain ⟨p, d2, q, ow, ht2⟩ := s2.own et w
    have e3 : d2 = dd := by rcases ht with rfl | rfl <;> rcases ht2 with z | z <;> cases z <;> rfl
    subst e3
    have q' := q
    rw [e2, g1] at q
    cases q
    cases d2 with
    | dct l2 =>
      obtain ⟨nf, ys, ey, rl⟩ := ow
      obtain ⟨ks, ek, ef⟩ := Option.bind_eq_some_iff.mp (show ((keyT kk).bind fun ks => if l2.length < 16777216 then some (D.dct (dctPut l2 ks vv)) else none) = some d' from ef)
      split at ef
      · rename_i hz
        cases ef
        obtain ⟨b, rfl, eb⟩ := keyT_ok ru ek
        have rv2 := x2.rp s1 rv
        refine ⟨a, upd c2.H a (.dT (L2.putK ys ks v)), rfl, .inr ⟨ys, ks, b, ey, rfl, eb, by rw [rl.length, sizeLine_eq]; exact hz, rfl⟩, ?_⟩
        have ke : ∀ b, c2.F b → upd c2.H a (.dT (L2.putK ys ks v)) b = c2.H b := fun b f => upd_ne fun z => by subst z; exact nf f
        obtain ⟨s3, x3⟩ := Ok.mut (o := .dT (L2.putK ys ks v)) (d' := .dct (dctPut l2 ks vv)) s2 et w q' ⟨nf, _, upd_same, (rl.put rv2).mono (fun _ f => f) ke⟩
        have h4 := h3 c2.σ _ _ x3 s3
        have h5 := ReqS.here (r := Fl.nx) h4 s3
        rw [← e2]
        exact h5
      · cases ef
    | _ => cases ef
  · exact h1.elim
def itemsT : D → Option (List D)
  | .dct l => some (l.map fun p => .tup [.tup (p.1.map keyD), p.2])
  | _ => none
def evItems (m : M D) : M (List D) := m.bind fun d => liftO (itemsT d)
theorem keys_rp {N : Nm} {F : Fz} {H : Hp} : ∀ ks : List Key, RpL N F H (ks.map L2.kV) (ks.map keyD)
  | [] => .nil
  | .inl i :: ks => .cons (.int i) (keys_rp ks)
  | .inr y :: ks => .cons (.str y) (keys_rp ks)
/-- a tuple that stands in the heap is never changed: it may be counted among what is frozen -/
theorem Ok.tupF {q : Addr} {ts : List V} (s : Ok G L c) (e : c.H q = some (.tup ts)) : Ok G L ⟨c.σ, c.ρ, plus c.F q, c.H⟩ ∧ Ex G c ⟨c.σ, c.ρ, plus c.F q, c.H⟩ := by
  have nm : ∀ u, c.H q = some u → isMut u = true → False := fun u z m => by
    rw [e] at z
    cases z
    cases m
  refine ⟨⟨s.len, fun j t z => ?_, s.sep, s.lent, s.lnL, fun b f => ?_, s.tabs⟩, ⟨fun _ _ z _ => z, fun _ z => .inl z, fun b z => z.elim .inl fun y => .inr (.inl (.inr ⟨ts, y ▸ e⟩)), fun _ z => .inl z⟩⟩
  · refine (s.sl j t z).mono (fun _ f => .inl f) (fun _ _ => rfl) fun w b y => ⟨?_, rfl⟩
    obtain ⟨b2, d, y2, ow, _⟩ := s.own z w
    rw [y] at y2
    cases y2
    rintro (f | rfl)
    · exact ow.nf f
    · obtain ⟨u, g1, g2⟩ := ow.at
      exact nm u g1 g2
  · rcases f with f | rfl
    · exact s.trk b f
    · refine ⟨⟨_, e⟩, fun z => ?_⟩
      obtain ⟨ps, z⟩ := G.tbAt s.tabs z
      rw [e] at z
      cases z
theorem iter_T {d : Addr} {od : Obj} {xs : List (List Key × V)} {l : List (List Key × D)} {F : Fz} {H : Hp} (f1 : F d) (h1 : H d = some (.frz od (.dT xs))) (r1 : RpT G.N F H xs l) : Iter G L (ItT d od xs) (l.map fun p => .tup [.tup (p.1.map keyD), p.2]) F H := by
  intro c s hF hH i
  have a1 : c.H d = some (.frz od (.dT xs)) := (hH d f1).trans h1
  have b1 : RpT G.N c.F c.H xs l := r1.mono hF hH
  refine ⟨fun y hy => ?_, fun hl => ⟨a1, ?_⟩⟩
  · rw [List.getElem?_map] at hy
    obtain ⟨p, hp, rfl⟩ := Option.map_eq_some_iff.mp hy
    have hi : i < xs.length := by
      rw [b1.length]
      exact (List.getElem?_eq_some_iff.mp hp).1
    refine ⟨⟨a1, hi⟩, fun z H' w => ?_⟩
    obtain ⟨T, k, v, q, e1, eq, rfl, n, rfl⟩ := w
    obtain ⟨d2, e2, rv⟩ := b1.get e1
    rw [hp] at e2
    cases e2
    obtain ⟨s1, x1⟩ := Ok.tupF s eq
    obtain ⟨F', x2, s2, r2⟩ := newPair (T := T) s1 (.tup (.inr rfl) eq (keys_rp k)) (rv.mono (fun _ f => .inl f) fun _ _ => rfl) n
    exact ⟨F', x1.trans x2, s2, r2⟩
  · rw [List.length_map] at hl
    rw [b1.length]
    omega
/-- for k, v in d.items() -/
theorem SI.items {elts : List Expr} {kk : Nat} {tp ap cp : Pos} {m : M D} (h : SD X W G L e m) (hb : attributeBase e "items" X.env (eval e X.env) = eval e X.env := by rfl) (hl : (ap.endLine == cp.line) = true := by rfl) :
    SI X W G L (.Tuple elts kk tp) (.Call (.Attribute e "items" ap) [] [] cp) (evItems m) := by
  obtain ⟨t, pa, q⟩ := h.ex
  refine ⟨_, pi_itemsT pa hb hl, fun c R s h => ?_⟩
  refine q c _ s ((Req.bind h).imp fun d c1 _ e1 x1 s1 h1 v rv => ?_)
  obtain ⟨ds, er, h1⟩ := liftO_req h1
  cases d with
  | dct l =>
    cases er
    cases rv with
    | dct f e r => exact ⟨_, _, _, rfl, e, Req.here h1 s1 _ (iter_T f e r)⟩
  | _ => cases er
/-! ### {1: 2, ..}[i], all whole numbers -/
structure CPs (X : Cx) (pos : Pos) (keys : List (Option Expr)) (values : List Expr) (tbl : List (Int × Int)) : Prop where
  ex : ∃ trs, PPs X pos keys values trs ∧ ∀ (σ : L2.St) (H : Hp) (Q : List (V × V) → Hp → Prop), Q (tbl.map fun p => (V.int p.1, V.int p.2)) H → tPairs trs σ H Q
theorem CPs.nil : CPs X pos [] [] [] := ⟨[], pps_nil, fun _ _ _ h => h⟩
theorem CPs.cons {i j : Int} {a b : Nat} {p q : Pos} {keys : List (Option Expr)} {values : List Expr} {tbl : List (Int × Int)} (h : CPs X pos keys values tbl) : CPs X pos (some (.Constant (.int i) a p) :: keys) (.Constant (.int j) b q :: values) ((i, j) :: tbl) := by
  obtain ⟨trs, h1, h2⟩ := h.ex
  exact ⟨_, pps_cons pe_int pe_int h1, fun σ H Q h => h2 σ H _ h⟩
def ctbl (tbl : List (Int × Int)) : List (Key × V) := mergeK [] (tbl.map fun p => ((.inl p.1 : Key), V.int p.2))
def ctGet (tbl : List (Int × Int)) : D → Option Vl
  | .int i => match L2.valV (ctbl tbl) (.inl i) with
    | some (.int v) => some (.fz (.int v))
    | _ => none
  | _ => none
theorem SE.ctIx {keys : List (Option Expr)} {values : List Expr} {tbl : List (Int × Int)} {mi : M D} {r0 : Nat} {p2 : Pos} (hu : RoomG r0 X.A) (h : CPs X p2 keys values tbl) (hi : SD X W G L e mi) (hall : keys.all (·.isSome) = true := by rfl) (hl : keys.length = values.length := by rfl) (h0 : keys ≠ [] := by intro z; cases z) (h15 : keys.length ≤ 15 := by decide) (ht : tbl.length ≤ 15 := by decide)
    (hs : NoSl e := by intro _ _; rfl) : SE X W G L (.Subscript (.Dict keys values p2) e pos) (ev1 (ctGet tbl) mi) := by
  obtain ⟨trs, pp, tt⟩ := h.ex
  obtain ⟨ti, pi, qi⟩ := hi.ex
  refine ⟨_, pe_dget (by have := hu.room.un; omega) (pe_disp pp hall hl h0 h15) pi hs, fun c Q s h => ?_⟩
  intro p n
  refine tt _ _ _ ⟨upd_same, tbl.map fun p => ((.inl p.1 : Key), V.int p.2), ?_, by rw [List.length_map]; exact ht, ?_⟩
  · rw [List.map_map]
    rfl
  have g2 : upd (upd c.H p (.dK [])) p (.dK (ctbl tbl)) = upd c.H p (.dK (ctbl tbl)) := by
    funext b
    by_cases hb : b = p
    · rw [hb, upd_same, upd_same]
    · rw [upd_ne hb, upd_ne hb, upd_ne hb]
  show ti c.σ (upd (upd c.H p (.dK [])) p (.dK (ctbl tbl))) _
  rw [g2]
  have y : Ex G c ⟨c.σ, c.ρ, c.F, upd c.H p (.dK (ctbl tbl))⟩ := Ext.grow s n (fun _ z => z) fun _ z => .inl z
  have s0 : Ok G L ⟨c.σ, c.ρ, c.F, upd c.H p (.dK (ctbl tbl))⟩ := StR.grow s n (fun _ z => z) fun _ z => .inl z
  have nf : ¬ c.F p := fun f => by
    obtain ⟨⟨u, e⟩, _⟩ := s.trk p f
    exact nomatch n.symm.trans e
  have no : ¬ c.own G p := fun o => by
    obtain ⟨u, e⟩ := s.ownAt o
    exact nomatch n.symm.trans e
  have hq := Req.shift (c1 := ⟨c.σ, c.ρ, c.F, upd c.H p (.dK (ctbl tbl))⟩) h y rfl
  refine qi ⟨c.σ, c.ρ, c.F, upd c.H p (.dK (ctbl tbl))⟩ _ s0 ((Req.bind hq).imp fun d c1 _ e1 x1 s1 h1 v rv => ?_)
  obtain ⟨hp, _, _⟩ := Ex.hidden x1 (upd_same (H := c.H) (a := p) (o := .dK (ctbl tbl))) nf no
  obtain ⟨r, er, h1⟩ := liftO_req h1
  cases d with
  | int i =>
    cases rv
    have er : (match L2.valV (ctbl tbl) (.inl i) with | some (.int v) => some (Vl.fz (D.int v)) | _ => none) = some r := er
    split at er
    · rename_i v ev
      cases er
      exact ⟨p, .int v, rfl, .inl ⟨ctbl tbl, .inl i, .inl hp, rfl, ev.symm⟩, Req.here h1 s1 _ (.int v)⟩
    · cases er
  | _ => cases er
end
end Ev

/-! EvPo: equations for EvO's words. -/
namespace Ev
open PySem PySem.Spec PyProof.Rows L2
variable {ρ : Rho} {α : Type}
theorem p_lk1 (f : Nat) (d : D) (r : List (Nat × D)) : List.lookup f ((f, d) :: r) = some d := by simp
theorem p_lk2 (f g : Nat) (d : D) (r : List (Nat × D)) (h : (f == g) = false) : List.lookup f ((g, d) :: r) = List.lookup f r := by
  rw [List.lookup_cons, h]
theorem p_omap (d : D) : Option.map Vl.fz (some d) = some (.fz d) := (rfl)
theorem p_fldO (own : Nat → Bool) (f c : Nat) (fs : List (Nat × D)) (h : own c = true) : fFldO own f (.obj c fs) = (fs.lookup f).map .fz := by
  show (if own c then _ else _) = _
  rw [if_pos h]
theorem p_fldS (own : Nat → Bool) (i f : Nat) : evFldS own i f ρ = ofld own f ρ (slotD ρ i) := (rfl)
theorem p_ofld (own : Nat → Bool) (f : Nat) (d : D) : ofld own f ρ (some d) = liftO (fFldO own f d) ρ := (rfl)
theorem p_gFld (own : Nat → Bool) (i f : Nat) (d : D) : gFld own i f d ρ = updSlot i (putO own f d) ρ := (rfl)
def fOk (n : Nat) : Bool := decide (n < 1000)
theorem p_fo0 : fOk 0 = true := (rfl)
theorem p_fo1 : fOk 1 = true := (rfl)
theorem p_fo2 : fOk 2 = true := (rfl)
theorem p_fo3 : fOk 3 = true := (rfl)
theorem p_fo4 : fOk 4 = true := (rfl)
theorem p_fo5 : fOk 5 = true := (rfl)
theorem p_fo6 : fOk 6 = true := (rfl)
theorem p_fo7 : fOk 7 = true := (rfl)
theorem p_fo8 : fOk 8 = true := (rfl)
theorem p_fo9 : fOk 9 = true := (rfl)
theorem p_fo10 : fOk 10 = true := (rfl)
theorem p_fo11 : fOk 11 = true := (rfl)
theorem p_putO (own : Nat → Bool) (f c : Nat) (d : D) (fs : List (Nat × D)) (h : own c = true) (hl : fOk fs.length = true) : putO own f d (.obj c fs) = some (.obj c (putD f d fs)) := by
  show (if own c && decide (fs.length < 1000) then _ else _) = _
  rw [h, show decide (fs.length < 1000) = true from hl]
  rfl
theorem p_put0 (f : Nat) (d : D) : putD f d [] = [(f, d)] := (rfl)
theorem p_put1 (f : Nat) (d x : D) (r : List (Nat × D)) : putD f d ((f, x) :: r) = (f, d) :: r := by
  show (if f = f then _ else _) = _
  rw [if_pos rfl]
theorem p_put2 (f g : Nat) (d x : D) (r : List (Nat × D)) (h : (g == f) = false) : putD f d ((g, x) :: r) = (g, x) :: putD f d r := by
  show (if g = f then _ else _) = _
  rw [if_neg (by intro e; subst e; simp at h)]
def kMk (cl : Nat) (φ : Fn) (n : Nat) (gA : List Ar → List Ar → List Ar) (mk : M (List Ar)) (as : List Ar) : M Vl := mk.bind fun bs => mkO cl φ n gA as bs
theorem p_make (cl : Nat) (φ : Fn) (n : Nat) (gA : List Ar → List Ar → List Ar) (m mk : M (List Ar)) : evMake cl φ n gA m mk ρ = (m ρ).bind (kMk cl φ n gA mk) := (rfl)
theorem p_kMk (cl : Nat) (φ : Fn) (n : Nat) (gA : List Ar → List Ar → List Ar) (mk : M (List Ar)) (as : List Ar) : kMk cl φ n gA mk as ρ = (mk ρ).bind (mkO cl φ n gA as) := (rfl)
theorem p_mkO (cl : Nat) (φ : Fn) (n : Nat) (gA : List Ar → List Ar → List Ar) (as bs : List Ar) (h : (gA (.r ρ.length :: as) bs).length = n) : mkO cl φ n gA as bs ρ = mkEnd ρ.length (callAr φ (gA (.r ρ.length :: as) bs) (ρ ++ [.ow (.obj cl [])])) := by
  unfold mkO
  rw [if_pos h]
theorem p_mkEnd (n : Nat) : mkEnd n (.ok (.fz .non) ρ) = mkSl n ρ ρ[n]? := (rfl)
theorem p_mkEx (n : Nat) (e : D) : mkEnd n (.ex e ρ) = .ex e (ρ.take n) := (rfl)
theorem p_mkSl (n : Nat) (d : D) : mkSl n ρ (some (.ow d)) = .ok (.nw d) (ρ.take n) := (rfl)
theorem p_mkSf (n : Nat) (d : D) : mkSl n ρ (some (.fz d)) = .ok (.fz d) (ρ.take n) := (rfl)
theorem p_bisO (own obs : Nat → Bool) (sub : Nat → Nat → Bool) (y c : Nat) (fs : List (Nat × D)) (h : obs y = true) (h2 : obs c = true) : bIsY own obs sub [.obj y fs, .gl c] = some (.fz (.bl (sub y c))) := by
  show ((if obs y && (own c || obs c) then some (sub y c) else none).map fun b => Vl.fz (.bl b)) = _
  rw [h, h2, Bool.or_true]
  rfl
def kSt1 (mr : M (List D)) (x : D) : M (List D) := (liftO (dSeq2 x)).bind fun l => mr.bind fun xs => mpure (l ++ xs)
def kSt2 (mr : M (List D)) (l : List D) : M (List D) := mr.bind fun xs => mpure (l ++ xs)
def kSt3 (l xs : List D) : M (List D) := mpure (l ++ xs)
theorem p_star (ma : M D) (mr : M (List D)) : evStar ma mr ρ = (ma ρ).bind (kSt1 mr) := (rfl)
theorem p_kSt1 (mr : M (List D)) (x : D) : kSt1 mr x ρ = (liftO (dSeq2 x) ρ).bind (kSt2 mr) := (rfl)
theorem p_kSt2 (mr : M (List D)) (l : List D) : kSt2 mr l ρ = (mr ρ).bind (kSt3 l) := (rfl)
theorem p_kSt3 (l xs : List D) : kSt3 l xs ρ = .ok (l ++ xs) ρ := (rfl)
theorem p_ds2L (l : List D) : dSeq2 (.lst l) = some l := (rfl)
theorem p_ds2T (l : List D) : dSeq2 (.tup l) = some l := (rfl)
theorem p_ext (l zs : List D) (h : l.length + zs.length ≤ 16777216) : onLst (fExt [.lst zs]) (.lst l) = some (.lst (l ++ zs)) := by
  show (if l.length + zs.length ≤ 16777216 then _ else _) = _
  rw [if_pos h]
theorem p_nn : Ev.isNon .non = true := (rfl)
theorem p_nI (i : Int) : Ev.isNon (.int i) = false := (rfl)
theorem p_nO (c : Nat) (fs : List (Nat × D)) : Ev.isNon (.obj c fs) = false := (rfl)
theorem p_nT (l : List D) : Ev.isNon (.tup l) = false := (rfl)
theorem p_nL (l : List D) : Ev.isNon (.lst l) = false := (rfl)
theorem p_nS (x : Str) : Ev.isNon (.str x) = false := (rfl)
theorem p_bn1 : (!true) = false := (rfl)
theorem p_bn2 : (!false) = true := (rfl)
def kCh1 (f f' : D → D → Option Vl) (mb mc : M D) (x : D) : M Bool := mb.bind fun y => (liftO (vBool (f x y))).bind fun k => if k = true then mc.bind fun z => liftO (vBool (f' y z)) else mpure false
def kCh2 (f f' : D → D → Option Vl) (mc : M D) (x y : D) : M Bool := (liftO (vBool (f x y))).bind fun k => if k = true then mc.bind fun z => liftO (vBool (f' y z)) else mpure false
def kCh3 (f' : D → D → Option Vl) (mc : M D) (y : D) (k : Bool) : M Bool := if k = true then mc.bind fun z => liftO (vBool (f' y z)) else mpure false
def kCh4 (f' : D → D → Option Vl) (y z : D) : M Bool := liftO (vBool (f' y z))
theorem p_chT (f f' : D → D → Option Vl) (ma mb mc : M D) : evChT f f' ma mb mc ρ = (ma ρ).bind (kCh1 f f' mb mc) := (rfl)
theorem p_kCh1 (f f' : D → D → Option Vl) (mb mc : M D) (x : D) : kCh1 f f' mb mc x ρ = (mb ρ).bind (kCh2 f f' mc x) := (rfl)
theorem p_kCh2 (f f' : D → D → Option Vl) (mc : M D) (x y : D) : kCh2 f f' mc x y ρ = (liftO (vBool (f x y)) ρ).bind (kCh3 f' mc y) := (rfl)
theorem p_kCh3t (f' : D → D → Option Vl) (mc : M D) (y : D) : kCh3 f' mc y true ρ = (mc ρ).bind (kCh4 f' y) := (rfl)
theorem p_kCh3f (f' : D → D → Option Vl) (mc : M D) (y : D) : kCh3 f' mc y false ρ = .ok false ρ := (rfl)
theorem p_kCh4 (f' : D → D → Option Vl) (y z : D) : kCh4 f' y z ρ = liftO (vBool (f' y z)) ρ := (rfl)
theorem p_take0 : List.take 0 ρ = [] := (rfl)
theorem p_takeS (n : Nat) (s : Sl) : List.take (n + 1) (s :: ρ) = s :: List.take n ρ := (rfl)
end Ev
namespace Ev
open PySem PySem.Spec PyProof.Rows L2
variable {ρ : Rho}
/-! ### dicts with tuple keys -/
def kDc1 (mv : M D) (k : D) : M Vl := mv.bind fun v => liftO (mkDct k v)
def kDc2 (k v : D) : M Vl := liftO (mkDct k v)
theorem p_dct (mk mv : M D) : evDct mk mv ρ = (mk ρ).bind (kDc1 mv) := (rfl)
theorem p_kDc1 (mv : M D) (k : D) : kDc1 mv k ρ = (mv ρ).bind (kDc2 k) := (rfl)
theorem p_kDc2 (k v : D) : kDc2 k v ρ = liftO (mkDct k v) ρ := (rfl)
theorem p_mkDct {ks : List Key} (k v : D) (h : keyT k = some ks) : mkDct k v = some (.nw (.dct [(ks, v)])) := by
  unfold mkDct
  rw [h]
  rfl
def dgO (i : Nat) (mk mz : M D) (ρ : Rho) : Option D → Out Vl
  | some (.dct _) => (mk.bind fun k => mz.bind fun z => getT i k z) ρ
  | _ => .no
def gtO (k z : D) (ρ : Rho) : Option D → Out Vl
  | some (.dct l) => liftO ((keyT k).map fun ks => Vl.fz ((dval l ks).getD z)) ρ
  | _ => .no
def kDg1 (i : Nat) (mz : M D) (k : D) : M Vl := mz.bind fun z => getT i k z
theorem p_dget (i : Nat) (mk mz : M D) : evDGet i mk mz ρ = dgO i mk mz ρ (slotD ρ i) := by
  unfold evDGet dgO
  cases slotD ρ i with
  | none => rfl
  | some d => cases d <;> rfl
theorem p_dgO (i : Nat) (mk mz : M D) (l : List (List Key × D)) : dgO i mk mz ρ (some (.dct l)) = (mk ρ).bind (kDg1 i mz) := (rfl)
theorem p_kDg1 (i : Nat) (mz : M D) (k : D) : kDg1 i mz k ρ = (mz ρ).bind (getT i k) := (rfl)
theorem p_getT (i : Nat) (k z : D) : getT i k z ρ = gtO k z ρ (slotD ρ i) := by
  unfold getT gtO
  cases slotD ρ i with
  | none => rfl
  | some d => cases d <;> rfl
theorem p_gtO {ks : List Key} (k z : D) (l : List (List Key × D)) (h : keyT k = some ks) : gtO k z ρ (some (.dct l)) = .ok (.fz ((dval l ks).getD z)) ρ := by
  show liftO ((keyT k).map _) ρ = _
  rw [h]
  rfl
def dpO (i : Nat) (mk : M D) (v : D) (ρ : Rho) : Option D → Out Fl
  | some (.dct _) => (mk.bind fun k => M.bind (updSlot i (putT k v)) fun _ => mpure .nx) ρ
  | _ => .no
def kDp2 (i : Nat) (v k : D) : M Fl := M.bind (updSlot i (putT k v)) fun _ => mpure .nx
theorem p_dput (i : Nat) (mk mv : M D) : evDPut i mk mv ρ = (mv ρ).bind (dPut1 i mk) := (rfl)
theorem p_dPut1 (i : Nat) (mk : M D) (v : D) : dPut1 i mk v ρ = dpO i mk v ρ (slotD ρ i) := by
  unfold dPut1 dpO
  cases slotD ρ i with
  | none => rfl
  | some d => cases d <;> rfl
theorem p_dpO (i : Nat) (mk : M D) (v : D) (l : List (List Key × D)) : dpO i mk v ρ (some (.dct l)) = (mk ρ).bind (kDp2 i v) := (rfl)
theorem p_kDp2 (i : Nat) (v k : D) : kDp2 i v k ρ = (updSlot i (putT k v) ρ).bind kNx := (rfl)
theorem p_putT {ks : List Key} (k v : D) (l : List (List Key × D)) (h : keyT k = some ks) (hl : l.length < 16777216) : putT k v (.dct l) = some (.dct (dctPut l ks v)) := by
  show ((keyT k).bind fun ks => if l.length < 16777216 then some (D.dct (dctPut l ks v)) else none) = _
  rw [h]
  show (if _ then _ else _) = _
  rw [if_pos hl]
def itemD (p : List Key × D) : D := .tup [.tup (p.1.map keyD), p.2]
theorem p_items (m : M D) : evItems m ρ = (m ρ).bind (kf itemsT) := (rfl)
theorem p_itemsT (l : List (List Key × D)) : itemsT (.dct l) = some (l.map itemD) := (rfl)
end Ev

/-! EvIn: x in a list, by plain data. -/
namespace Ev
open PySem PySem.Spec PyProof.Rows L2
section
variable {X : Cx} {W : WX} {G : Gc} {L : Lt} {pos p : Pos} {a b : Expr} {k : Nat}
def cIn (x y : D) : Option Vl :=
  match y with
  | .lst l => if shP x && shP (.lst l) then some (.fz (.bl ((toPs l).any fun z => PyData.eqv z (toP x)))) else none
  | _ => none
def cNotIn (x y : D) : Option Vl :=
  match y with
  | .lst l => if shP x && shP (.lst l) then some (.fz (.bl (!(toPs l).any fun z => PyData.eqv z (toP x)))) else none
  | _ => none
theorem cIn_ok : BinOk X W G L (rInD X.K) cIn := by
  intro c0 c x y v u Q _ ex s rx ry hr
  obtain ⟨r, er, hr⟩ := liftO_req hr
  unfold cIn at er
  split at er
  · split at er
    · rename_i h
      cases er
      rw [Bool.and_eq_true] at h
      have h1 := Bool.and_eq_true_iff.mp h.1
      have h2 := Bool.and_eq_true_iff.mp h.2
      exact ⟨_, _, toDp rx h1.1, toDp ry h2.1, h1.2, h2.2, Req.here hr s _ (.bl _)⟩
    · cases er
  · cases er
theorem cNotIn_ok : BinOk X W G L (rNotInD X.K) cNotIn := by
  intro c0 c x y v u Q _ ex s rx ry hr
  obtain ⟨r, er, hr⟩ := liftO_req hr
  unfold cNotIn at er
  split at er
  · split at er
    · rename_i h
      cases er
      rw [Bool.and_eq_true] at h
      have h1 := Bool.and_eq_true_iff.mp h.1
      have h2 := Bool.and_eq_true_iff.mp h.2
      exact ⟨_, _, toDp rx h1.1, toDp ry h2.1, h1.2, h2.2, Req.here hr s _ (.bl _)⟩
    · cases er
  · cases er
theorem SE.isIn {ma mb : M D} (hr : RoomG k X.A) (ha : SD X W G L a ma) (hb : SD X W G L b mb) (hm : behindInMarks .In b = false := by rfl) : SE X W G L (.Compare a [.In] [b] pos) (ev2 cIn ma mb) := SE.cmp (op_inD (by have := hr.room.un; omega)) cIn_ok ha hb hm
theorem SE.notIn {ma mb : M D} (hr : RoomG k X.A) (ha : SD X W G L a ma) (hb : SD X W G L b mb) (hm : behindInMarks .NotIn b = false := by rfl) : SE X W G L (.Compare a [.NotIn] [b] pos) (ev2 cNotIn ma mb) := SE.cmp (op_notInD (by have := hr.room.un; omega)) cNotIn_ok ha hb hm
theorem ST.isIn {ma mb : M D} (hr : RoomG k X.A) (ha : SD X W G L a ma) (hb : SD X W G L b mb) (hm : behindInMarks .In b = false := by rfl) : ST X W G L (.Compare a [.In] [b] pos) (ev2T cIn ma mb) := ST.cmp (op_inD (by have := hr.room.un; omega)) cIn_ok ha hb hm
theorem ST.notIn {ma mb : M D} (hr : RoomG k X.A) (ha : SD X W G L a ma) (hb : SD X W G L b mb) (hm : behindInMarks .NotIn b = false := by rfl) : ST X W G L (.Compare a [.NotIn] [b] pos) (ev2T cNotIn ma mb) := ST.cmp (op_notInD (by have := hr.room.un; omega)) cNotIn_ok ha hb hm
end
/-- x in a list of plain data -/
theorem p_in {x : D} {l : List D} (hx : pl x = true) (hl : pls l = true) (dx : dep x ≤ 64) (dl : dep (.lst l) ≤ 64) : cIn x (.lst l) = some (.fz (.bl (l.any fun z => deq z x))) := by
  have e : ∀ l : List D, (toPs l).any (fun z => PyData.eqv z (toP x)) = l.any fun z => deq z x := fun l => by
    induction l with
    | nil => rfl
    | cons y l ih =>
      show (PyData.eqv (toP y) (toP x) || (toPs l).any _) = _
      rw [ih]
      rfl
  show (if shP x && shP (.lst l) then _ else _) = _
  rw [pl_sh hx dx, pl_sh (d := .lst l) hl dl, e]
  rfl
end Ev

/-! EvLc: list comprehensions of two clauses. -/
namespace Ev
open PySem PySem.Spec PyProof.Rows L2
theorem PI.weak {X : Cx} {tg iter : Expr} {t t' : TI} (h : PI X tg iter t) (w : ∀ σ H Q, t' σ H Q → t σ H Q) : PI X tg iter t' := ⟨fun pins s σ H Q I q => h.run pins s σ H Q I (w _ _ _ q)⟩
theorem wipe_sub {σ : L2.St} {vs ws : List Nat} (h : ∀ i ∈ ws, i ∈ vs) : wipe (wipe σ ws) vs = wipe σ vs := by
  induction ws with
  | nil => rfl
  | cons w ws ih =>
    show wipe ((wipe σ ws).set w none) vs = _
    rw [wipe_set (h w (by simp)), ih fun i hi => h i (by simp [hi])]
/-- the turns of the first clause, each with those of the second -/
def lcLoop2 (vs : List Nat) (g : D → M Unit) (mt : M Bool) (mi1 : M (List D)) (vs1 : List Nat) (g1 : D → M Unit) (mt1 : M Bool) (me : M D) : List D → M (List D)
  | [] => mpure []
  | d :: ds => fun ρ => ((g d) (wipeR ρ vs)).bind fun _ ρ1 => (mt ρ1).bind fun k ρ2 => if k = true then (mi1 ρ2).bind fun es ρ3 => if wipeOk ρ3 vs1 = true then (lcLoop vs1 g1 mt1 me es ρ3).bind fun ys ρ4 => (lcLoop2 vs g mt mi1 vs1 g1 mt1 me ds ρ4).bind fun zs ρ5 => .ok (ys ++ zs) ρ5 else .no
      else lcLoop2 vs g mt mi1 vs1 g1 mt1 me ds ρ2
def mLc2 (vs : List Nat) (mi : M (List D)) (g : D → M Unit) (mt : M Bool) (mi1 : M (List D)) (vs1 : List Nat) (g1 : D → M Unit) (mt1 : M Bool) (me : M D) : M Vl := mi.bind fun ds ρ => if wipeOk ρ vs = true then match lcLoop2 vs g mt mi1 vs1 g1 mt1 me ds ρ with
    | .ok ys ρ' => if lenOk ys.length = true ∧ ρ'.length = ρ.length then .ok (.nw (.lst ys)) (restore vs 0 ρ ρ') else .no
    | _ => .no
  else .no
section
variable {X : Cx} {W : WX} {G : Gc} {L : Lt} {e a b tg elt iter tg1 iter1 : Expr} {pos : Pos} {c c0 c1 : Cf} {es ifs ifs1 : List Expr} {scope : Scope} {own : List (Str × Nat)} {vs1 : List Nat}
theorem lc2_spec {mi mi1 : M (List D)} {g g1 : D → M Unit} {mt mt1 : M Bool} {me : M D} (hsub : ∀ i ∈ vs1, i ∈ own.map (·.2)) (hi : SI X W G L tg iter mi)
    (hg : ∀ (s : Shared) (H : Hp) (C : Addr) (cl : List (Str × Addr)) (fp : List Addr), SGv (X.blk s H scope (compEnvC scope cl C X.env) fp) G L (own.map (·.2)) tg g)
    (ht : ∀ (s : Shared) (H : Hp) (C : Addr) (cl : List (Str × Addr)) (fp : List Addr), SPT (X.blk s H scope (compEnvC scope cl C X.env) fp) G L ifs mt)
    (hi1 : ∀ (s : Shared) (H : Hp) (C : Addr) (cl : List (Str × Addr)) (fp : List Addr), SI (X.blk s H scope (compEnvC scope cl C X.env) fp) W0 G L tg1 iter1 mi1)
    (hg1 : ∀ (s : Shared) (H : Hp) (C : Addr) (cl : List (Str × Addr)) (fp : List Addr), SGv (X.blk s H scope (compEnvC scope cl C X.env) fp) G L vs1 tg1 g1)
    (ht1 : ∀ (s : Shared) (H : Hp) (C : Addr) (cl : List (Str × Addr)) (fp : List Addr), SPT (X.blk s H scope (compEnvC scope cl C X.env) fp) G L ifs1 mt1)
    (he : ∀ (s : Shared) (H : Hp) (C : Addr) (cl : List (Str × Addr)) (fp : List Addr), SD (X.blk s H scope (compEnvC scope cl C X.env) fp) W0 G L elt me) :
    ∃ (wi : TI) (tg' : TG) (tt' : TT) (wi1 : TI) (tg1' : TG) (tt1' : TT) (te' : TE), PI X tg iter wi ∧
      (∀ (s : Shared) (H : Hp) (C : Addr) (cl : List (Str × Addr)) (fp : List Addr), PG (X.blk s H scope (compEnvC scope cl C X.env) fp) tg tg') ∧
      (∀ (s : Shared) (H : Hp) (C : Addr) (cl : List (Str × Addr)) (fp : List Addr), PTs (X.blk s H scope (compEnvC scope cl C X.env) fp) ifs tt') ∧
      (∀ (s : Shared) (H : Hp) (C : Addr) (cl : List (Str × Addr)) (fp : List Addr), PI (X.blk s H scope (compEnvC scope cl C X.env) fp) tg1 iter1 wi1) ∧
      (∀ (s : Shared) (H : Hp) (C : Addr) (cl : List (Str × Addr)) (fp : List Addr), PG (X.blk s H scope (compEnvC scope cl C X.env) fp) tg1 tg1') ∧
      (∀ (s : Shared) (H : Hp) (C : Addr) (cl : List (Str × Addr)) (fp : List Addr), PTs (X.blk s H scope (compEnvC scope cl C X.env) fp) ifs1 tt1') ∧
      (∀ (s : Shared) (H : Hp) (C : Addr) (cl : List (Str × Addr)) (fp : List Addr), PE (X.blk s H scope (compEnvC scope cl C X.env) fp) elt te') ∧
      ∀ (c : Cf) (Q : VK), Ok G L c → Req G L W c (mLc2 (own.map (·.2)) mi g mt mi1 vs1 g1 mt1 me c.ρ) (fun r c' => ∀ v, VR G c c' v r → Q v c'.H) → tLc2 wi tg' tt' wi1 tg1' tt1' te' (own.map (·.2)) vs1 c.σ c.H Q := by
  obtain ⟨wi, p, q⟩ := hi.ex
  generalize hvs : own.map (·.2) = vs at *
  refine ⟨wi, fun v σ H Q => ∀ s H0 C cl fp, (Classical.choose (hg s H0 C cl fp).ex) v σ H Q, fun σ H Q => ∀ s H0 C cl fp, (Classical.choose (ht s H0 C cl fp).ex) σ H Q,
    fun σ H Q => ∀ s H0 C cl fp, (Classical.choose (hi1 s H0 C cl fp).ex) σ H Q,
    fun v σ H Q => ∀ s H0 C cl fp, (Classical.choose (hg1 s H0 C cl fp).ex) v σ H Q, fun σ H Q => ∀ s H0 C cl fp, (Classical.choose (ht1 s H0 C cl fp).ex) σ H Q,
    fun σ H Q => ∀ s H0 C cl fp, (Classical.choose (he s H0 C cl fp).ex) σ H Q, p, fun s H C cl fp => PG.weak (Classical.choose_spec (hg s H C cl fp).ex).1 (fun v σ H' Q h => h s H C cl fp),
    fun s H C cl fp => PTs.weak (Classical.choose_spec (ht s H C cl fp).ex).1 (fun σ H' Q h => h s H C cl fp),
    fun s H C cl fp => PI.weak (Classical.choose_spec (hi1 s H C cl fp).ex).1 (fun σ H' Q h => h s H C cl fp),
    fun s H C cl fp => PG.weak (Classical.choose_spec (hg1 s H C cl fp).ex).1 (fun v σ H' Q h => h s H C cl fp),
    fun s H C cl fp => PTs.weak (Classical.choose_spec (ht1 s H C cl fp).ex).1 (fun σ H' Q h => h s H C cl fp), fun s H C cl fp => PE.weak (Classical.choose_spec (he s H C cl fp).ex).1 (fun σ H' Q h => h s H C cl fp), fun c Q s h => ?_⟩
  refine q c _ s ((Req.bind h).imp fun ds c1 _ e1 x1 s1 h1 J it => ?_)
  intro Dd nD
  have h1 : Req G L W c1 (if wipeOk c1.ρ vs = true then match lcLoop2 vs g mt mi1 vs1 g1 mt1 me ds c1.ρ with
    | .ok ys ρ' => if lenOk ys.length = true ∧ ρ'.length = c1.ρ.length then .ok (Vl.nw (.lst ys)) (restore vs 0 c1.ρ ρ') else .no
    | _ => .no
    else .no) _ := h1
  by_cases hw : wipeOk c1.ρ vs = true
  · rw [if_pos hw] at h1
    have hvl := wipeOk_lent s1 hw
    cases el : lcLoop2 vs g mt mi1 vs1 g1 mt1 me ds c1.ρ with
    | no => rw [el] at h1; exact h1.elim
    | ex d ρ => rw [el] at h1; exact h1.elim
    | ok ws ρf =>
      rw [el] at h1
      have h1 : Req G L W c1 (if lenOk ws.length = true ∧ ρf.length = c1.ρ.length then .ok (Vl.nw (.lst ws)) (restore vs 0 c1.ρ ρf) else .no) _ := h1
      by_cases hz : lenOk ws.length = true ∧ ρf.length = c1.ρ.length
      · rw [if_pos hz] at h1
        refine ⟨fun i m H => m = ds.length - i ∧ i ≤ ds.length ∧ ∃ (c2 : Cf) (acc : List V) (ys zs : List D), c2.H = H ∧ wipe c2.σ vs = wipe c1.σ vs ∧ Ok G L c2 ∧ Ex G c1 c2 ∧ ¬ c2.F Dd ∧ ¬ c2.own G Dd ∧ c2.H Dd = some (.lst acc) ∧ RpL G.N c2.F c2.H acc ys ∧ lcLoop2 vs g mt mi1 vs1 g1 mt1 me (ds.drop i) c2.ρ = .ok zs ρf ∧ ys ++ zs = ws,
          ⟨_, rfl, Nat.zero_le _, ⟨c1.σ, c1.ρ, c1.F, upd c1.H Dd (.lst [])⟩, [], [], ws, rfl, rfl, StR.grow s1 nD (fun _ z => z) (fun _ z => .inl z), Ext.grow s1 nD (fun _ z => z) (fun _ z => .inl z), fun f => ?_, fun o => ?_, upd_same, .nil, el, rfl⟩, ?_⟩
        · obtain ⟨⟨u, e⟩, _⟩ := s1.trk Dd f
          rw [nD] at e; cases e
        · obtain ⟨u, e⟩ := s1.ownAt o
          rw [nD] at e; cases e
        · rintro i m H ⟨rfl, hi, c2, acc, ys, zs, rfl, hws, s2, x2, nf, no, hD, rl, ez, ew⟩
          obtain ⟨it1, it2⟩ := it c2 s2 x2.mono (fun a f => x2.fz s1 f) i
          by_cases hlt : i < ds.length
          · refine .inr ?_
            obtain ⟨go, yl⟩ := it1 ds[i] (List.getElem?_eq_getElem hlt)
            refine ⟨go, fun H' => i + 1 ≤ ds.length ∧ ∃ (c2 : Cf) (acc : List V) (ys zs : List D), c2.H = H' ∧ wipe c2.σ vs = wipe c1.σ vs ∧ Ok G L c2 ∧ Ex G c1 c2 ∧ ¬ c2.F Dd ∧ ¬ c2.own G Dd ∧ c2.H Dd = some (.lst acc) ∧ RpL G.N c2.F c2.H acc ys ∧ lcLoop2 vs g mt mi1 vs1 g1 mt1 me (ds.drop (i + 1)) c2.ρ = .ok zs ρf ∧ ys ++ zs = ws,
              fun H' hN => ⟨ds.length - (i + 1), by omega, rfl, hN.1, hN.2⟩, fun x H' y => ?_⟩
            obtain ⟨F', x3, s3, rx⟩ := yl x H' y
            rw [List.drop_eq_getElem_cons hlt] at ez
            obtain ⟨u5, ρ5, eg, ez⟩ := bind_ok ez
            obtain ⟨k, ρ6, et, ez⟩ := bind_ok ez
            obtain ⟨s4, x4⟩ := wipe_ok (vs := vs) s3 hvl
            have hsig : wipe c.σ vs = wipe c2.σ vs := by rw [hws, e1]
            intro sh H0 C cl fp
            have sg := (Classical.choose_spec (hg sh H0 C cl fp).ex).2 ⟨wipe c2.σ vs, wipeR c2.ρ vs, F', H'⟩ x ds[i]
            rw [hsig]
            refine sg _ s4 rx ?_
            show ReqS G L W0 _ (g ds[i] (wipeR c2.ρ vs)) _
            rw [eg]
            intro σ5 F5 H5 x5 s5 hw5
            have hw5 : wipe σ5 vs = wipe (wipe c2.σ vs) vs := hw5
            rw [wipe_wipe] at hw5
            refine ⟨hw5, ?_⟩
            intro sh2 H02 C2 cl2 fp2
            refine (Classical.choose_spec (ht sh2 H02 C2 cl2 fp2).ex).2 ⟨σ5, ρ5, F5, H5⟩ _ s5 ?_
            show Req G L W0 _ (mt ρ5) _
            rw [et]
            intro F6 H6 x6 s6
            have x26 := ((x3.trans x4).trans x5).trans x6
            cases k with
            | true =>
              rw [if_pos rfl] at ez ⊢
              obtain ⟨es1, ρ7, em1, ez⟩ := bind_ok ez
              -- the second clause's source
              intro sh3 H03 C3 cl3 fp3
              refine (Classical.choose_spec (hi1 sh3 H03 C3 cl3 fp3).ex).2 ⟨σ5, ρ6, F6, H6⟩ _ s6 ?_
              show Req G L W0 _ (mi1 ρ6) _
              rw [em1]
              intro F7 H7 x7 s7 J1 jt
              have x27 := x26.trans x7
              by_cases hw1 : wipeOk ρ7 vs1 = true
              · rw [if_pos hw1] at ez
                have hvl1 := wipeOk_lent s7 hw1
                obtain ⟨ws1, ρ8, el1, ez⟩ := bind_ok ez
                obtain ⟨zs', ρ9, ezs, ez⟩ := bind_ok ez
                cases ez
                obtain ⟨hD7, nf7, no7⟩ := Ex.hidden (c1 := ⟨σ5, ρ7, F7, H7⟩) x27 hD nf no
                refine ⟨fun j m H => m = es1.length - j ∧ j ≤ es1.length ∧ ∃ (c3 : Cf) (acc1 : List V) (ys1 zs1 : List D), c3.H = H ∧ wipe c3.σ vs1 = wipe σ5 vs1 ∧ Ok G L c3 ∧ ((∀ a, F7 a → c3.F a) ∧ ∀ a, F7 a → c3.H a = H7 a) ∧ Ex G c1 c3 ∧ ¬ c3.F Dd ∧ ¬ c3.own G Dd ∧ c3.H Dd = some (.lst acc1) ∧ RpL G.N c3.F c3.H acc1 ys1 ∧ lcLoop vs1 g1 mt1 me (es1.drop j) c3.ρ = .ok zs1 ρ8 ∧ ys1 ++ zs1 = ys ++ ws1,
                  ⟨_, rfl, Nat.zero_le _, ⟨σ5, ρ7, F7, H7⟩, acc, ys, ws1, rfl, rfl, s7, ⟨fun _ h => h, fun _ _ => rfl⟩, x2.trans x27, nf7, no7, hD7, x27.rpl s2 rl, el1, rfl⟩, ?_⟩
                rintro j m H ⟨rfl, hj, c3, acc1, ys1, zs1, rfl, hws1, s3', x73, x13, nf3, no3, hD3, rl3, ez1, ew1⟩
                obtain ⟨jt1, jt2⟩ := jt c3 s3' x73.1 x73.2 j
                by_cases hjlt : j < es1.length
                · refine .inr ?_
                  obtain ⟨go1, yl1⟩ := jt1 es1[j] (List.getElem?_eq_getElem hjlt)
                  refine ⟨go1, fun H' => j + 1 ≤ es1.length ∧ ∃ (c3 : Cf) (acc1 : List V) (ys1 zs1 : List D), c3.H = H' ∧ wipe c3.σ vs1 = wipe σ5 vs1 ∧ Ok G L c3 ∧ ((∀ a, F7 a → c3.F a) ∧ ∀ a, F7 a → c3.H a = H7 a) ∧ Ex G c1 c3 ∧ ¬ c3.F Dd ∧ ¬ c3.own G Dd ∧ c3.H Dd = some (.lst acc1) ∧ RpL G.N c3.F c3.H acc1 ys1 ∧ lcLoop vs1 g1 mt1 me (es1.drop (j + 1)) c3.ρ = .ok zs1 ρ8 ∧ ys1 ++ zs1 = ys ++ ws1,
                    fun H' hN => ⟨es1.length - (j + 1), by omega, rfl, hN.1, hN.2⟩, fun x' H' y' => ?_⟩
                  obtain ⟨F8, x8, s8, rx8⟩ := yl1 x' H' y'
                  rw [List.drop_eq_getElem_cons hjlt] at ez1
                  obtain ⟨u9, ρa, eg1, ez1⟩ := bind_ok ez1
                  obtain ⟨k1, ρb, et1, ez1⟩ := bind_ok ez1
                  obtain ⟨s9, x9⟩ := wipe_ok (vs := vs1) s8 hvl1
                  intro sh4 H04 C4 cl4 fp4
                  have sg1 := (Classical.choose_spec (hg1 sh4 H04 C4 cl4 fp4).ex).2 ⟨wipe c3.σ vs1, wipeR c3.ρ vs1, F8, H'⟩ x' es1[j]
                  rw [← hws1]
                  refine sg1 _ s9 rx8 ?_
                  show ReqS G L W0 _ (g1 es1[j] (wipeR c3.ρ vs1)) _
                  rw [eg1]
                  intro σa Fa Ha xa sa hwa
                  have hwa : wipe σa vs1 = wipe (wipe c3.σ vs1) vs1 := hwa
                  rw [wipe_wipe] at hwa
                  refine ⟨hwa, ?_⟩
                  intro sh5 H05 C5 cl5 fp5
                  refine (Classical.choose_spec (ht1 sh5 H05 C5 cl5 fp5).ex).2 ⟨σa, ρa, Fa, Ha⟩ _ sa ?_
                  show Req G L W0 _ (mt1 ρa) _
                  rw [et1]
                  intro Fb Hb xb sb
                  have x3b := ((x8.trans x9).trans xa).trans xb
                  cases k1 with
                  | true =>
                    rw [if_pos rfl] at ez1 ⊢
                    obtain ⟨yc, ρc, em, ez1⟩ := bind_ok ez1
                    obtain ⟨zc, ρd, ezc, ez1⟩ := bind_ok ez1
                    cases ez1
                    intro sh6 H06 C6 cl6 fp6
                    refine (Classical.choose_spec (he sh6 H06 C6 cl6 fp6).ex).2 ⟨σa, ρb, Fb, Hb⟩ _ sb ?_
                    show Req G L W0 _ (me ρb) _
                    rw [em]
                    intro Fc Hc xc sc v rv
                    have x3c := x3b.trans xc
                    obtain ⟨hDc, nfc, noc⟩ := Ex.hidden (c1 := ⟨σa, ρc, Fc, Hc⟩) x3c hD3 nf3 no3
                    have rlc := x3c.rpl s3' rl3
                    have hlen : ys1.length < 16777216 := by
                      have h2 := lenOk_line hz.1
                      rw [sizeLine_eq, ← ew, List.length_append, List.length_append] at h2
                      have h3 := congrArg List.length ew1
                      rw [List.length_append, List.length_append, List.length_cons] at h3
                      omega
                    refine ⟨acc1, hDc, by rw [rl3.length, sizeLine_eq]; exact hlen, hjlt, ⟨σa, ρc, Fc, upd Hc Dd (.lst (acc1 ++ [v]))⟩, acc1 ++ [v], ys1 ++ [yc], zc, rfl, hwa, Ok.hid (c := ⟨σa, ρc, Fc, Hc⟩) sc nfc noc ⟨_, hDc, rfl⟩, ?_, Ex.hid (c := ⟨σa, ρc, Fc, Hc⟩) (x13.trans x3c) nD, nfc, noc, upd_same, ?_, ezc, ?_⟩
                    · exact ⟨fun a f => x3c.mono a (x73.1 a f), fun a f => (upd_ne fun (z : a = Dd) => nf7 (by rw [← z]; exact f)).trans ((x3c.fz s3' (x73.1 a f)).trans (x73.2 a f))⟩
                    · exact (rlc.append (.cons rv .nil)).mono (fun _ f => f) fun b f => upd_ne (fun (z : b = Dd) => nfc (by rw [← z]; exact f))
                    · rw [← ew1, List.append_assoc]; rfl
                  | false =>
                    rw [if_neg Bool.false_ne_true] at ez1 ⊢
                    obtain ⟨hDb, nfb, nob⟩ := Ex.hidden (c1 := ⟨σa, ρb, Fb, Hb⟩) x3b hD3 nf3 no3
                    exact ⟨hjlt, ⟨σa, ρb, Fb, Hb⟩, acc1, ys1, zs1, rfl, hwa, sb, ⟨fun a f => x3b.mono a (x73.1 a f), fun a f => (x3b.fz s3' (x73.1 a f)).trans (x73.2 a f)⟩, x13.trans x3b, nfb, nob, hDb, x3b.rpl s3' rl3, ez1, ew1⟩
                · have e : es1.drop j = [] := List.drop_eq_nil_of_le (by omega)
                  rw [e] at ez1
                  cases ez1
                  rw [List.append_nil] at ew1
                  subst ew1
                  refine .inl ⟨jt2 (by omega), hlt, c3, acc1, ys ++ ws1, zs', rfl, ?_, s3', x13, nf3, no3, hD3, rl3, ezs, by rw [← ew, List.append_assoc]⟩
                  have : wipe (wipe c3.σ vs1) vs = wipe (wipe σ5 vs1) vs := by rw [hws1]
                  rw [wipe_sub hsub, wipe_sub hsub] at this
                  rw [this, hw5, hws]
              · rw [if_neg hw1] at ez
                cases ez
            | false =>
              rw [if_neg Bool.false_ne_true] at ez ⊢
              obtain ⟨hD6, nf6, no6⟩ := Ex.hidden (c1 := ⟨σ5, ρ6, F6, H6⟩) x26 hD nf no
              exact ⟨hlt, ⟨σ5, ρ6, F6, H6⟩, acc, ys, zs, rfl, hw5.trans hws, s6, x2.trans x26, nf6, no6, hD6, x26.rpl s2 rl, ez, ew⟩
          · have e : ds.drop i = [] := List.drop_eq_nil_of_le (by omega)
            rw [e] at ez
            cases ez
            rw [List.append_nil] at ew
            subst ew
            refine .inl ⟨it2 (by omega), ?_⟩
            obtain ⟨s3, x3, ow3⟩ := restore_ok s1 hw hz.2 hws x2 s2
            exact h1 c2.F c2.H x3 s3 _ ⟨Dd, rfl, ⟨nf, acc, hD, rl⟩, fun z => no (ow3 Dd z), Ex.pre x1 (.inl nD)⟩
      · rw [if_neg hz] at h1
        exact h1.elim
  · rw [if_neg hw] at h1
    exact h1.elim
theorem SE.lc2 {mi mi1 : M (List D)} {g g1 : D → M Unit} {mt mt1 : M Bool} {me : M D} (hc : X.calm = true) (hN : X.N.Nodup) (ok : BlkOk X.N X.env.scope scope own) (hsub : ∀ i ∈ vs1, i ∈ own.map (·.2)) (hi : SI X W G L tg iter mi)
    (hg : ∀ (s : Shared) (H : Hp) (C : Addr) (cl : List (Str × Addr)) (fp : List Addr), SGv (X.blk s H scope (compEnvC scope cl C X.env) fp) G L (own.map (·.2)) tg g)
    (ht : ∀ (s : Shared) (H : Hp) (C : Addr) (cl : List (Str × Addr)) (fp : List Addr), SPT (X.blk s H scope (compEnvC scope cl C X.env) fp) G L ifs mt)
    (hi1 : ∀ (s : Shared) (H : Hp) (C : Addr) (cl : List (Str × Addr)) (fp : List Addr), SI (X.blk s H scope (compEnvC scope cl C X.env) fp) W0 G L tg1 iter1 mi1)
    (hg1 : ∀ (s : Shared) (H : Hp) (C : Addr) (cl : List (Str × Addr)) (fp : List Addr), SGv (X.blk s H scope (compEnvC scope cl C X.env) fp) G L vs1 tg1 g1)
    (ht1 : ∀ (s : Shared) (H : Hp) (C : Addr) (cl : List (Str × Addr)) (fp : List Addr), SPT (X.blk s H scope (compEnvC scope cl C X.env) fp) G L ifs1 mt1)
    (he : ∀ (s : Shared) (H : Hp) (C : Addr) (cl : List (Str × Addr)) (fp : List Addr), SD (X.blk s H scope (compEnvC scope cl C X.env) fp) W0 G L elt me) (hs : ∀ x, foldedSetIterable iter X.env x = pure x := by intro _; rfl) (hs1 : ∀ env x, foldedSetIterable iter1 env x = pure x := by intro _ _; rfl) :
    SE X W G L (.ListComp elt [⟨tg, iter, ifs, 0⟩, ⟨tg1, iter1, ifs1, 0⟩] scope pos) (mLc2 (own.map (·.2)) mi g mt mi1 vs1 g1 mt1 me) := by
  obtain ⟨wi, tg', tt', wi1, tg1', tt1', te', p, h1, h2, h3, h4, h5, h6, q⟩ := lc2_spec (own := own) hsub hi hg ht hi1 hg1 ht1 he
  exact ⟨_, pe_lc2 hc hN p ok hsub h1 h2 h3 h4 h5 h6 hs hs1, q⟩
/-- name = [..] of two clauses on one line -/
theorem SS.setLc2 (i : Nat) {y : Str} {py spos : Pos} {mi mi1 : M (List D)} {g g1 : D → M Unit} {mt mt1 : M Bool} {me : M D} (hc : X.calm = true) (hN : X.N.Nodup) (hy : X.N[i]? = some y) (hyl : X.env.scope.names.lookup y = some .local)
    (hsw : swapsWith (.ListComp elt [⟨tg, iter, ifs, 0⟩, ⟨tg1, iter1, ifs1, 0⟩] scope pos) (some (.Name y py)) spos.line X.env = pure true) (ok : BlkOk X.N X.env.scope scope own) (hsub : ∀ i ∈ vs1, i ∈ own.map (·.2)) (hi : SI X W G L tg iter mi)
    (hg : ∀ (s : Shared) (H : Hp) (C : Addr) (cl : List (Str × Addr)) (fp : List Addr), SGv (X.blk s H scope (compEnvC scope cl C X.env) fp) G L (own.map (·.2)) tg g)
    (ht : ∀ (s : Shared) (H : Hp) (C : Addr) (cl : List (Str × Addr)) (fp : List Addr), SPT (X.blk s H scope (compEnvC scope cl C X.env) fp) G L ifs mt)
    (hi1 : ∀ (s : Shared) (H : Hp) (C : Addr) (cl : List (Str × Addr)) (fp : List Addr), SI (X.blk s H scope (compEnvC scope cl C X.env) fp) W0 G L tg1 iter1 mi1)
    (hg1 : ∀ (s : Shared) (H : Hp) (C : Addr) (cl : List (Str × Addr)) (fp : List Addr), SGv (X.blk s H scope (compEnvC scope cl C X.env) fp) G L vs1 tg1 g1)
    (ht1 : ∀ (s : Shared) (H : Hp) (C : Addr) (cl : List (Str × Addr)) (fp : List Addr), SPT (X.blk s H scope (compEnvC scope cl C X.env) fp) G L ifs1 mt1)
    (he : ∀ (s : Shared) (H : Hp) (C : Addr) (cl : List (Str × Addr)) (fp : List Addr), SD (X.blk s H scope (compEnvC scope cl C X.env) fp) W0 G L elt me) (hs : ∀ x, foldedSetIterable iter X.env x = pure x := by intro _; rfl) (hs1 : ∀ env x, foldedSetIterable iter1 env x = pure x := by intro _ _; rfl) :
    SS X W G L (.Assign [.Name y py] (.ListComp elt [⟨tg, iter, ifs, 0⟩, ⟨tg1, iter1, ifs1, 0⟩] scope pos) spos) (evSet i (mLc2 (own.map (·.2)) mi g mt mi1 vs1 g1 mt1 me)) := by
  obtain ⟨wi, tg', tt', wi1, tg1', tt1', te', p, h1, h2, h3, h4, h5, h6, q⟩ := lc2_spec (own := own) hsub hi hg ht hi1 hg1 ht1 he
  exact SS.set_of (ps_setLc2 hc hN hy hyl hsw p ok hsub h1 h2 h3 h4 h5 h6 hs hs1) q
end
/-! ### reckoning -/
theorem wipeR_set {ρ : Rho} {i : Nat} {x : Sl} : ∀ {vs : List Nat}, i ∈ vs → wipeR (ρ.set i x) vs = wipeR ρ vs
  | [], h => by simp at h
  | v :: vs, h => by
    by_cases hv : i ∈ vs
    · show (wipeR (ρ.set i x) vs).set v .un = (wipeR ρ vs).set v .un
      rw [wipeR_set hv]
    · have hi : i = v := by simpa [hv] using h
      subst hi
      show (wipeR (ρ.set i x) vs).set i .un = (wipeR ρ vs).set i .un
      have com : ∀ ws : List Nat, i ∉ ws → wipeR (ρ.set i x) ws = (wipeR ρ ws).set i x := by
        intro ws
        induction ws with
        | nil => intro _; rfl
        | cons w ws ih =>
          intro hn
          simp only [List.mem_cons, not_or] at hn
          show (wipeR (ρ.set i x) ws).set w .un = ((wipeR ρ ws).set w .un).set i x
          rw [ih hn.2, List.set_comm _ _ hn.1]
      rw [com vs hv, List.set_set]
theorem wipeR_sub {ρ : Rho} {vs ws : List Nat} (h : ∀ i ∈ ws, i ∈ vs) : wipeR (wipeR ρ ws) vs = wipeR ρ vs := by
  induction ws with
  | nil => rfl
  | cons w ws ih =>
    show wipeR ((wipeR ρ ws).set w .un) vs = _
    rw [wipeR_set (h w (by simp)), ih fun i hi => h i (by simp [hi])]
section
variable {ρ : Rho}
def kLc2 (vs : List Nat) (g : D → M Unit) (mt : M Bool) (mi1 : M (List D)) (vs1 : List Nat) (g1 : D → M Unit) (mt1 : M Bool) (me : M D) (ds : List D) : M Vl := mLc2 vs (mpure ds) g mt mi1 vs1 g1 mt1 me
theorem p_lc2 (vs : List Nat) (mi : M (List D)) (g : D → M Unit) (mt : M Bool) (mi1 : M (List D)) (vs1 : List Nat) (g1 : D → M Unit) (mt1 : M Bool) (me : M D) : mLc2 vs mi g mt mi1 vs1 g1 mt1 me ρ = (mi ρ).bind (kLc2 vs g mt mi1 vs1 g1 mt1 me) := (rfl)
theorem lc2_read {vs vs1 : List Nat} {g g1 : D → M Unit} {mt mt1 : M Bool} {mi1 : M (List D)} {me : M D} (hsub : ∀ i ∈ vs1, i ∈ vs) (F : D → List D) : ∀ (ds : List D)
    (_ : ∀ d ∈ ds, Wq (g d (wipeR ρ vs)) fun _ ρ1 => Wq (mt ρ1) fun k ρ2 => whB k (F d = [] ∧ wipeR ρ2 vs = wipeR ρ vs) (Wq (mi1 ρ2) fun es ρ3 => wipeOk ρ3 vs1 = true ∧ wipeR ρ3 vs = wipeR ρ vs ∧ ∃ f : D → Option D, F d = es.filterMap f ∧
      ∀ e ∈ es, Wq (g1 e (wipeR ρ3 vs1)) fun _ ρ4 => Wq (mt1 ρ4) fun k ρ5 => whB k (f e = none ∧ wipeR ρ5 vs1 = wipeR ρ3 vs1) (Wq (me ρ5) fun y ρ6 => f e = some y ∧ wipeR ρ6 vs1 = wipeR ρ3 vs1)))
    (ρ0 : Rho) (_ : wipeR ρ0 vs = wipeR ρ vs), ∃ ys ρ', lcLoop2 vs g mt mi1 vs1 g1 mt1 me ds ρ0 = .ok ys ρ' ∧ ys = ds.flatMap F ∧ wipeR ρ' vs = wipeR ρ vs
  | [], _, ρ0, h0 => ⟨[], ρ0, rfl, rfl, h0⟩
  | d :: ds, h, ρ0, h0 => by
    have ih := lc2_read hsub F ds fun x hx => h x (List.mem_cons_of_mem _ hx)
    obtain ⟨u, ρ1, e1, k, ρ2, e2, hk⟩ := h d List.mem_cons_self
    rw [← h0] at e1
    cases k with
    | false =>
      obtain ⟨hF, hw⟩ := hk.1 rfl
      obtain ⟨ys, ρ', e, ey, w⟩ := ih ρ2 hw
      refine ⟨ys, ρ', ?_, by rw [List.flatMap_cons, hF]; exact ey, w⟩
      show ((g d (wipeR ρ0 vs)).bind _) = _
      rw [e1]
      show ((mt ρ1).bind _) = _
      rw [e2]
      exact e
    | true =>
      obtain ⟨es, ρ3, e3, ok3, w3, f, hF, hin⟩ := hk.2 rfl
      obtain ⟨zs, ρ4, e4, ez, w4⟩ := lc_read f es hin ρ3 rfl
      have w5 : wipeR ρ4 vs = wipeR ρ vs := by
        have : wipeR (wipeR ρ4 vs1) vs = wipeR (wipeR ρ3 vs1) vs := by rw [w4]
        rw [wipeR_sub hsub, wipeR_sub hsub] at this
        rw [this, w3]
      obtain ⟨ys, ρ', e, ey, w⟩ := ih ρ4 w5
      refine ⟨zs ++ ys, ρ', ?_, by rw [List.flatMap_cons, hF, ez, ey], w⟩
      show ((g d (wipeR ρ0 vs)).bind _) = _
      rw [e1]
      show ((mt ρ1).bind _) = _
      rw [e2]
      show ((mi1 ρ2).bind _) = _
      rw [e3]
      show (if wipeOk ρ3 vs1 = true then _ else _) = _
      rw [if_pos ok3]
      rw [e4]
      show ((lcLoop2 vs g mt mi1 vs1 g1 mt1 me ds ρ4).bind _) = _
      rw [e]
      rfl
/-- a comprehension of two clauses that reads alone -/
theorem lc2_eq {vs vs1 : List Nat} {g g1 : D → M Unit} {mt mt1 : M Bool} {mi1 : M (List D)} {me : M D} {ds : List D} (F : D → List D) (hw : wipeOk ρ vs = true) (hsub : ∀ i ∈ vs1, i ∈ vs) (hl : (ds.flatMap F).length ≤ 16777216)
    (h : ∀ d ∈ ds, Wq (g d (wipeR ρ vs)) fun _ ρ1 => Wq (mt ρ1) fun k ρ2 => whB k (F d = [] ∧ wipeR ρ2 vs = wipeR ρ vs) (Wq (mi1 ρ2) fun es ρ3 => wipeOk ρ3 vs1 = true ∧ wipeR ρ3 vs = wipeR ρ vs ∧ ∃ f : D → Option D, F d = es.filterMap f ∧
      ∀ e ∈ es, Wq (g1 e (wipeR ρ3 vs1)) fun _ ρ4 => Wq (mt1 ρ4) fun k ρ5 => whB k (f e = none ∧ wipeR ρ5 vs1 = wipeR ρ3 vs1) (Wq (me ρ5) fun y ρ6 => f e = some y ∧ wipeR ρ6 vs1 = wipeR ρ3 vs1))) :
    kLc2 vs g mt mi1 vs1 g1 mt1 me ds ρ = .ok (.nw (.lst (ds.flatMap F))) ρ := by
  obtain ⟨ys, ρ', e, rfl, w⟩ := lc2_read hsub F ds h ρ rfl
  have el : ρ'.length = ρ.length := by rw [← wipe_len (vs := vs) (ρ := ρ'), w, wipe_len]
  have er : restore vs 0 ρ ρ' = ρ := restore_eq 0 ρ ρ' el fun i ni => by
    rw [Nat.zero_add] at ni
    rw [← wipe_at (ρ := ρ') ni, w, wipe_at ni]
  show (if wipeOk ρ vs = true then match lcLoop2 vs g mt mi1 vs1 g1 mt1 me ds ρ with | .ok ys ρ' => if lenOk ys.length = true ∧ ρ'.length = ρ.length then Out.ok (Vl.nw (D.lst ys)) (restore vs 0 ρ ρ') else .no | _ => .no else .no) = _
  rw [if_pos hw, e]
  show (if _ then _ else _) = _
  rw [if_pos ⟨decide_eq_true hl, el⟩, er]
end
end Ev

/-! EvEx: own exceptions as values: made by place and by name, asked for ValueError. -/
namespace Ev
open PySem PySem.Spec PyProof.Rows L2
section
open PySem.Calls PySem.HandSPX
/-- the object of an own class that stands over the built-in exception class B, among others bm -/
structure OwnC (B nw ini : String) (bmB : List Value) (h : Heap) (C : Addr) (bm : List Value) : Prop where
  f : ExcBaseFacts B nw ini bmB
  c : ∀ Y : String, bm.contains (.type Y) = bmB.contains (.type Y)
  o : ∃ nm q N bs hdct sn sub ab col dd k0 k1 k2 k3 k5, h.get? C = some (excClassObj nm q C N bs bm hdct sn sub ab col dd k0 k1 k2 k3 k5 nw)
variable {M : Model} {prog : Program} {w : World} {A : Around} {E : Value → Shared → Prop} {R : Result → Shared → Prop} {h : Heap} {g : Array GenState} {d : Drawn} {t : Nat} {os : OsState}
variable {C : Addr} {bm bmB : List Value} {B nw ini : String} {us : List Value} {kw : List (Str × Value)}
theorem OwnC.has (K : OwnC B nw ini bmB h C bm) (Y : String) : (Value.ref C :: bm).contains (.type Y) = bmB.contains (.type Y) := (List.contains_cons ..).trans (by rw [K.c Y]; rfl)
theorem OwnC.isB (K : OwnC B nw ini bmB h C bm) : (Value.ref C :: bm).contains (.type B) = true := (K.has B).trans K.f.hasB
theorem OwnC.noA (K : OwnC B nw ini bmB h C bm) : (Value.ref C :: bm).contains (.type "AttributeError") = false := (K.has _).trans K.f.noAttr
theorem OwnC.noN (K : OwnC B nw ini bmB h C bm) : (Value.ref C :: bm).contains (.type "NameError") = false := (K.has _).trans K.f.noName
theorem OwnC.keep (K : OwnC B nw ini bmB h C bm) {h' : Heap} (k : ∀ b o, h.get? b = some o → h'.get? b = some o) : OwnC B nw ini bmB h' C bm :=
  ⟨K.f, K.c, let ⟨a1, a2, a3, a4, a5, a6, a7, a8, a9, b1, b2, b3, b4, b5, b6, z⟩ := K.o; ⟨a1, a2, a3, a4, a5, a6, a7, a8, a9, b1, b2, b3, b4, b5, b6, k _ _ z⟩⟩
theorem new_ck (K : OwnC B nw ini bmB h C bm) {Q : Unit → Shared → Prop} (hq : Q () ⟨h, g, d, t, os⟩) : wpAny M A (checkBuiltinCall nw ⟨.ref C :: us, kw⟩) Q E ⟨h, g, d, t, os⟩ := by
  obtain ⟨_, _, _, _, _, _, _, _, _, _, _, _, _, _, _, z⟩ := K.o
  have star := K.f.noStar
  have i := K.isB
  simp only [checkBuiltinCall, K.f.newKind, K.f.newSplit, K.f.newRow]
  repeat (first
    | refine wpAny_loadPart_at z ?_
    | (refine wpAny_isSubtype_exc z ?_; rw [i])
    | refine wpAny_staticBase_exc z ?_
    | refine wpAny_madeBy_exc z ?_
    | simp only [Bool.false_eq_true, bne_self_eq_false, if_false]
    | wp_step)
  exact hq
/-- the new exception, the tuple of what it was called with ahead of it -/
def madeE (h : Heap) (C : Addr) (us : List Value) : Heap := (h.push (PySem.W.kdv_tup us)).push (excO C h.objs.size)
theorem madeE_keep {b : Addr} {o : Obj} (e : h.get? b = some o) : (madeE h C us).get? b = some o := by
  unfold madeE
  exact Heap.get?_push_of_some _ (Heap.get?_push_of_some _ e)
theorem madeE_at : (madeE h C us).get? (h.objs.size + 1) = some (excO C h.objs.size) := by
  unfold madeE
  heap_get
theorem new_kw (K : OwnC B nw ini bmB h C bm) (hz : us.length ≤ sizeLine) (hq : R (.ok (.ret (.ref (h.objs.size + 1)))) ⟨madeE h C us, g, d, t, os⟩) :
    codeAny (model prog w) A (.builtin nw ⟨.ref C :: us, kw⟩) R ⟨h, g, d, t, os⟩ := by
  obtain ⟨_, _, _, _, _, _, _, _, _, _, _, _, _, _, _, z⟩ := K.o
  have ends := K.f.ends
  have i := K.isB
  have na := K.noA
  have nn := K.noN
  refine codeAny_builtinAt K.f.entry ?_
  unfold Builtin.«BaseException.__new__»
  refine PySem.wpAt_bind ?_
  show PySem.wpAt _ _ _ (stack >>= _) _ _ _
  refine PySem.wpAt_bind (PySem.wpAt_stack fun p below => PySem.wpAt_of_wpAny ?_)
  wp_walk
  refine PySem.wpAt_of_wpAny ?_
  rw [K.f.owner]
  have can := K.f.canon
  repeat (first | refine wpAny_madeHere_exc can z ?_ | with_reducible refine wpAny_loadPart_at z ?_ | (with_reducible refine wpAny_isSubtype_exc z ?_; first | rw [i] | rw [na] | rw [nn]) | wp_step)
  unfold madeE at hq
  show R _ _
  rw [Heap.size_push]
  exact hq
theorem call_ck (K : OwnC B nw ini bmB h C bm) {Q : Unit → Shared → Prop} (hq : Q () ⟨h, g, d, t, os⟩) : wpAny M A (checkBuiltinCall "type.__call__" ⟨.ref C :: us, kw⟩) Q E ⟨h, g, d, t, os⟩ := by
  obtain ⟨_, _, _, _, _, _, _, _, _, _, _, _, _, _, _, z⟩ := K.o
  have tt := tc_sub
  have ty : (⟨h, g, d, t, os⟩ : Shared).TypeIs (.ref C) "type" := ⟨_, z, rfl⟩
  simp only [checkBuiltinCall, tc_split, tc_kind]
  repeat (any_goals (first | exact hq | assumption | refine wpAny_loadPart_at z ?_ | with_reducible refine wpAny_map ?_ | with_reducible refine wpAny_onRaise ?_ | wp_step))
theorem type_kw (K : OwnC B nw ini bmB h C bm) {fI : Addr} {Q : Fin → Shared → Prop} (hz : us.length ≤ sizeLine)
    (li : W.Looks (model prog w) h (typeLookup (.ref C) "__init__") (some (.ref fI))) (lb : ∀ x, W.Looks (model prog w) h (bindSpecial (.ref fI) x) (.ref fI, [x]))
    (hq : codeAny (model prog w) A (.call (.ref fI) ⟨.ref (h.objs.size + 1) :: us, kw⟩) (fun r s' => match r with
      | .ok (.ret v) => v = .none ∧ Q (.done (.ret (.ref (h.objs.size + 1)))) s'
      | .ok _ => False
      | .error e => E e s') ⟨madeE h C us, g, d, t, os⟩) :
    wpAny (model prog w) A (Builtin.«type.__call__» ⟨.ref C :: us, kw⟩) Q E ⟨h, g, d, t, os⟩ := by
  obtain ⟨_, _, _, _, _, _, _, _, _, _, _, _, _, _, _, z⟩ := K.o
  repeat (first | with_reducible refine wpAny_madeBy_exc z ?_ | with_reducible refine wpAny_loadPart_at z ?_ | wp_step)
  refine codeAny_call_builtin_code (Code.quiet_builtin _ K.f.quiet) (new_ck K (new_kw K hz ?_))
  show wpAny _ _ _ _ _ _
  have i2 := li.keeps fun b o e => madeE_keep (C := C) (us := us) e
  have b2 := (lb (.ref (h.objs.size + 1))).keeps fun b o e => madeE_keep (C := C) (us := us) e
  have z2 := madeE_keep (C := C) (us := us) z
  have at2 := madeE_at (h := h) (C := C) (us := us)
  have self : (Value.ref C :: bm).contains (.ref C) = true := List.contains_iff_mem.mpr List.mem_cons_self
  unfold isInstance
  repeat (first | with_reducible refine wpAny_loadPart_at at2 ?_ | (with_reducible refine wpAny_isSubtype_exc z2 ?_; rw [self]) | wp_step)
  show wpAny _ _ (typeLookup (.ref C) "__init__") _ _ _
  refine i2.at (wpAny_holding (wpAny_bind (b2.at (wpAny_bind (wpAny_call (codeAny_mono hq fun r s' q => ?_))))))
  match r, q with
  | .error e, q => exact q
  | .ok (.ret v), q =>
    obtain ⟨rfl, q⟩ := q
    first
      | exact wpAny_pure (wpAny_pure q)
      | (wp_walk; exact q)
theorem call_kw (K : OwnC B nw ini bmB h C bm) {fI : Addr} (hz : us.length ≤ sizeLine)
    (li : W.Looks (model prog w) h (typeLookup (.ref C) "__init__") (some (.ref fI))) (lb : ∀ x, W.Looks (model prog w) h (bindSpecial (.ref fI) x) (.ref fI, [x]))
    (hq : codeAny (model prog w) (A.under (.builtin "type.__call__" ⟨.ref C :: us, kw⟩)) (.call (.ref fI) ⟨.ref (h.objs.size + 1) :: us, kw⟩) (W.InitBack (h.objs.size + 1) R) ⟨madeE h C us, g, d, t, os⟩) :
    codeAny (model prog w) A (.call (.ref C) ⟨us, kw⟩) R ⟨h, g, d, t, os⟩ := by
  obtain ⟨_, _, _, _, _, _, _, _, _, _, _, _, _, _, _, z⟩ := K.o
  have e1 := tc_lookup
  have e2 := tc_bind (.ref C)
  have ty : (⟨h, g, d, t, os⟩ : Shared).TypeIs (.ref C) "type" := ⟨_, z, rfl⟩
  refine codeAny_of_tree ?_
  show wpAny (model prog w) _ (callAny (.ref C) _) _ _ _
  repeat (any_goals (first | assumption | refine wpAny_loadPart_at z ?_ | wp_step))
  refine ⟨rfl, codeAny_call_builtin_at (Code.quiet_builtin _ (by decide +kernel)) entry_typeCall (call_ck K (type_kw K hz li lb (codeAny_mono hq fun r s' q => ?_)))⟩
  match r, q with
  | .error e, q => exact q
  | .ok (.ret v), q => exact q
end
section
variable {X : Cx} {W : WX} {G : Gc} {L : Lt} {e e2 : Expr} {pos : Pos} {c c0 c1 : Cf} {es : List Expr} {kws : List Keyword} {k : Nat} {fI C : Addr} {fd : FuncData} {ps ks : List Str} {x : Nat} {cn : Str} {p : Pos}
  {g : List Value → List Value → List Value} {gV : List V → List V → List V}
/-- what is there behind C(..): the exception, and its dict -/
def wExm (C a : Addr) (Q : VK) : VK := fun v H3 => v = .non ∧ ∃ (d : Addr) (fs : List (Str × V)), H3 a = some (exo a C (some d)) ∧ H3 d = some (exd d fs) ∧ Q (.ref a) (upd (upd H3 a (ExcH a C (some d))) d (.xd fs))
theorem run_exm {pins : List (Addr × Obj)} {σ : L2.St} {H : Hp} {s : Shared} {Q : VK} {us ws : List Value} {vs zs : List V} {sp : Sp} (T : OexC X.K C) (iC : PySem.W.findIn X.K (.ref C) "__init__" = some (some (.ref fI))) (tI : PySem.W.typeIn X.K (.ref fI) = some (.type "function"))
    (F1 : FnOk X.prog X.w X.K X.mg X.base CX0 k fI fd ps sp) (hr : Room (k + 1) X.A) (hb : KBinds X.K fd ps ks g gV) (I : Inv X pins σ H s) (r : Vals vs us) (rz : Vals zs ws) (hz : vs.length ≤ 1000)
    (h : ∀ a, H a = none → sp (gV (.ref a :: vs) zs) (upd H a (exo a C none)) (wExm C a Q) (fun _ _ _ => False)) :
    wpAny (model X.prog X.w) X.A (call (.ref C) us (ks.zip ws)) (EP X pins σ Q) X.xe s := by
  obtain ⟨_, _, _, _, bm, _, _, _, _, _, _, _, _, _, _, zc, zb⟩ := T.cls
  obtain ⟨hp, gg, dr, tk, os⟩ := s
  have K : OwnC "ValueError" "ValueError.__new__" "ValueError.__init__" _ hp C bm := ⟨PySem.F.excBase_ValueError, fun Y => PySem.HandSPX.refsVE_contains Y bm zb, ⟨_, _, _, _, _, _, _, _, _, _, _, _, _, _, _, I.kIn _ _ zc⟩⟩
  have I2 : Inv X pins σ (upd H (hp.objs.size + 1) (exo (hp.objs.size + 1) C none)) ⟨madeE hp C us, gg, dr, tk, os⟩ :=
    I.laid (t' := tk) (h' := madeE hp C us) (fun b o e => madeE_keep e) (Nat.le_succ _) (exo_ok madeE_at)
  have hq := h (hp.objs.size + 1) (I.hok.fresh (Nat.le_succ _))
  have r2 := hb.rel (us := Value.ref (hp.objs.size + 1) :: us) (vs := V.ref (hp.objs.size + 1) :: vs) (.cons rfl r) rz
  have hl : (g (Value.ref (hp.objs.size + 1) :: us) ws).length = ps.length := r2.length.symm.trans (F1.len _ _ _ _ hq)
  have hus : us.length ≤ sizeLine := by
    have := Paired.length r
    have := sizeLine_eq
    omega
  refine wpAny_call (call_kw K hus (PySem.W.looks_findIn I.kIn iC) (fun self => PySem.W.bind_fn I.kIn self tI)
    (codeAny_mono (F1.run _ X.stack _ _ ⟨Value.ref (hp.objs.size + 1) :: us, ks.zip ws⟩ _ _ _ (fun _ _ _ => False) (hr.make C us (ks.zip ws)) (I2.env0.make C us (ks.zip ws)) (hb.to _ (Value.ref (hp.objs.size + 1) :: us) ws I2.kIn hl) r2 hq) fun r s' hq' => ?_))
  cases r with
  | error er => exact (L2.pass0 (X := X) pins σ _ _ er s' I2 hq')
  | ok fl =>
    cases fl with
    | ret u =>
      obtain ⟨v, H3, I3, rv, ev, d, fs, ea, ed, q2⟩ := I2.after hq'
      subst ev
      obtain ⟨t0, hoe⟩ := exo_at I3.hok ea
      obtain ⟨mA, hns, rel⟩ := exd_at I3.hok ed
      have hda : d ≠ hp.objs.size + 1 := fun z => by
        obtain ⟨o, es, ep, e1, e2, _⟩ := hns
        rw [z, hoe] at e1
        have z2 := Option.some.inj e1
        subst z2
        cases e2
      have J1 := I3.write (t' := s'.toks) (h' := s'.heap) (x := hp.objs.size + 1) (e := hp.objs.size + 1) (o := ExcH (hp.objs.size + 1) C (some d)) (by rw [ea]; exact True.intro) (.inl rfl) (fun _ _ _ z => z) ⟨_, hoe⟩ (excH_ok hoe ⟨rfl, rfl⟩ rfl)
      have ed1 : upd H3 (hp.objs.size + 1) (ExcH (hp.objs.size + 1) C (some d)) d = some (exd d fs) := by rw [upd_ne hda]; exact ed
      have hd : ∃ o, s'.heap.get? d = some o := by
        obtain ⟨o, _, _, e', _⟩ := hns
        exact ⟨o, e'⟩
      have J2 := J1.write (t' := s'.toks) (h' := s'.heap) (x := d) (e := d) (o := .xd fs) (by rw [ed1]; exact True.intro) (.inl rfl) (fun _ _ _ z => z) hd ⟨mA, hns, rel⟩
      exact ⟨rv, ⟨V.ref (hp.objs.size + 1), _, J2, rfl, q2⟩⟩
    | next => exact False.elim hq'
    | brk => exact False.elim hq'
    | cont => exact False.elim hq'
def tExm (C : Addr) (sp : Sp) (gV : List V → List V → List V) (t tk : TA) : TE := fun σ H Q => t σ H fun vs H1 => tk σ H1 fun zs H2 => vs.length ≤ 1000 ∧ ∀ a, H2 a = none → sp (gV (.ref a :: vs) zs) (upd H2 a (exo a C none)) (wExm C a Q) (fun _ _ _ => False)
theorem pe_exm {t : TA} {sp : Sp} (T : OexC X.K C) (iC : PySem.W.findIn X.K (.ref C) "__init__" = some (some (.ref fI))) (tI : PySem.W.typeIn X.K (.ref fI) = some (.type "function"))
    (F1 : FnOk X.prog X.w X.K X.mg X.base CX0 k fI fd ps sp) (hr : Room (k + 1) X.A) (hb : KBinds X.K fd ps [] g gV) (hg : Gl X cn) (hm : X.mg cn = some (.ref C)) (pa : PA X (e :: es) t)
    (hdb : (cn == ("__debug__" : Str)) = false := by decide) (he : starEach (e :: es) X.env = (false, eval e X.env) :: starEach es X.env := by rfl) (hpl : (backTo pos (starEach es X.env)).any (·.1) = false := by rfl) :
    PE X (.Call (.Name cn p) (e :: es) [] pos) (tExm C sp gV t tNil) := by
  refine ⟨fun pins s σ H Q I h => ?_⟩
  refine wpAny_Call_Name_kw (ld_glob I hg hm ?_ hdb)
  refine PySem.W.callWith_K (h₀ := X.base) I.ok.mod.kin T.kC (thn (pa.run pos pins s σ H _ I h) fun us s1 ⟨vs, H1, I1, r, q⟩ => ⟨I1.kIn, ?_⟩) he hpl
  exact run_exm (ks := []) T iC tI F1 hr hb I1 r (zs := []) (ws := []) .nil q.1 q.2
theorem pe_exmK {tk : TA} {sp : Sp} (T : OexC X.K C) (iC : PySem.W.findIn X.K (.ref C) "__init__" = some (some (.ref fI))) (tI : PySem.W.typeIn X.K (.ref fI) = some (.type "function"))
    (F1 : FnOk X.prog X.w X.K X.mg X.base CX0 k fI fd ps sp) (hr : Room (k + 1) X.A) (hb : KBinds X.K fd ps ks g gV) (hg : Gl X cn) (hm : X.mg cn = some (.ref C)) (pk : PK X kws tk)
    (hall : (backToKw pos (keywordEach kws X.env)).all (·.1.isSome) = true := by rfl) (hks : (backToKw pos (keywordEach kws X.env)).filterMap (·.1) = ks := by rfl)
    (hdb : (cn == ("__debug__" : Str)) = false := by decide)
    (hpl : ((backTo pos (starEach [] X.env)).any (·.1) || (backToKw pos (keywordEach kws X.env)).any (·.1.isNone)) = false := by rfl) :
    PE X (.Call (.Name cn p) [] kws pos) (tExm C sp gV tNil tk) := by
  refine ⟨fun pins s σ H Q I h => ?_⟩
  refine wpAny_Call_Name_kw (ld_glob I hg hm ?_ hdb)
  refine PySem.W.callWith_KW0 (h₀ := X.base) I.ok.mod.kin T.kC hall ?_ hpl
  refine thn (pk.run pos pins s σ H _ I h) fun ws s2 ⟨zs, H2, I2, rz, q2⟩ => ⟨I2.kIn, ?_⟩
  rw [hks]
  exact run_exm (us := []) (vs := []) T iC tI F1 hr hb I2 .nil rz q2.1 q2.2
/-- the data: a new exception of one field, of two -/
theorem exm1_end {f : Nat} {v : V} {d : D} {Q : VK} {P : Vl → Cf → Prop} (eg : G.N.gm x = some (.ref C)) (T : OexC X.K C) (hno : PySem.W.findIn X.K (.ref C) (G.N.fn f) = some none) (s1 : Ok G L c1) (rv : Rp G.N c1.F c1.H v d)
    (h1 : Req G L W c1 (.ok (.fz (.exc x [(f, d)])) c1.ρ) P) (hP : ∀ c' w, P (.fz (.exc x [(f, d)])) c' → Rp G.N c'.F c'.H w (.exc x [(f, d)]) → Q w c'.H) :
    ∀ a, c1.H a = none → spOne X.K (G.N.fn f) [.ref a, v] (upd c1.H a (exo a C none)) (wExm C a Q) (fun _ _ _ => False) := fun a na => by
  refine ⟨a, C, v, rfl, T, hno, upd_same, fun d2 nd2 ne => ?_⟩
  have n2 : c1.H d2 = none := by
    rw [upd_ne ne] at nd2
    exact nd2
  refine ⟨rfl, d2, [(G.N.fn f, v)], upd_same, by rw [upd_ne ne, upd_same], ?_⟩
  have eH : upd (upd (upd (upd (upd c1.H a (exo a C none)) d2 (exd d2 [(G.N.fn f, v)])) a (exo a C (some d2))) a (ExcH a C (some d2))) d2 (.xd [(G.N.fn f, v)]) = upd (upd c1.H a (ExcH a C (some d2))) d2 (.xd [(G.N.fn f, v)]) := by
    funext z
    by_cases hz : z = d2
    · rw [hz, upd_same, upd_same]
    · rw [upd_ne hz, upd_ne hz]
      by_cases hza : z = a
      · rw [hza, upd_same, upd_same]
      · rw [upd_ne hza, upd_ne hza, upd_ne hz, upd_ne hza, upd_ne hza]
  rw [eH]
  have s2 : Ok G L ⟨c1.σ, c1.ρ, plus c1.F a, upd c1.H a (ExcH a C (some d2))⟩ := StR.grow s1 na (fun _ z => .inl z) fun _ z => z
  have y2 : Ex G c1 ⟨c1.σ, c1.ρ, plus c1.F a, upd c1.H a (ExcH a C (some d2))⟩ := Ext.grow s1 na (fun _ z => .inl z) fun _ z => z
  have n3 : upd c1.H a (ExcH a C (some d2)) d2 = none := by rw [upd_ne ne]; exact n2
  have s3 : Ok G L ⟨c1.σ, c1.ρ, plus (plus c1.F a) d2, upd (upd c1.H a (ExcH a C (some d2))) d2 (.xd [(G.N.fn f, v)])⟩ := StR.grow s2 n3 (fun _ z => .inl z) fun _ z => z
  have y3 : Ex G ⟨c1.σ, c1.ρ, plus c1.F a, upd c1.H a (ExcH a C (some d2))⟩ ⟨c1.σ, c1.ρ, plus (plus c1.F a) d2, upd (upd c1.H a (ExcH a C (some d2))) d2 (.xd [(G.N.fn f, v)])⟩ := Ext.grow s2 n3 (fun _ z => .inl z) fun _ z => z
  have y := Ext.trans y2 y3
  refine hP _ _ (h1 _ _ y s3) ?_
  exact .exc eg (.inl (.inr rfl)) (.inr rfl) (by show upd _ d2 _ a = _; rw [upd_ne (Ne.symm ne), upd_same]) upd_same (.cons (Ext.rp y s1 rv) .nil)
theorem exm2_end {f f2 : Nat} {v v2 : V} {d d' : D} {Q : VK} {P : Vl → Cf → Prop} (eg : G.N.gm x = some (.ref C)) (T : OexC X.K C) (hno : PySem.W.findIn X.K (.ref C) (G.N.fn f) = some none) (hno2 : PySem.W.findIn X.K (.ref C) (G.N.fn f2) = some none) (s1 : Ok G L c1) (rv : Rp G.N c1.F c1.H v d) (rv2 : Rp G.N c1.F c1.H v2 d')
    (h1 : Req G L W c1 (.ok (.fz (.exc x [(f2, d'), (f, d)])) c1.ρ) P) (hP : ∀ c' w, P (.fz (.exc x [(f2, d'), (f, d)])) c' → Rp G.N c'.F c'.H w (.exc x [(f2, d'), (f, d)]) → Q w c'.H) :
    ∀ a, c1.H a = none → spTwo X.K (G.N.fn f) (G.N.fn f2) [.ref a, v, v2] (upd c1.H a (exo a C none)) (wExm C a Q) (fun _ _ _ => False) := fun a na => by
  refine ⟨a, C, v, v2, rfl, T, hno, hno2, upd_same, fun d2 nd2 ne => ?_⟩
  have n2 : c1.H d2 = none := by
    rw [upd_ne ne] at nd2
    exact nd2
  refine ⟨rfl, d2, [(G.N.fn f2, v2), (G.N.fn f, v)], by rw [upd_ne (Ne.symm ne), upd_same], upd_same, ?_⟩
  have eH : upd (upd (upd (upd (upd (upd c1.H a (exo a C none)) d2 (exd d2 [(G.N.fn f, v)])) a (exo a C (some d2))) d2 (exd d2 [(G.N.fn f2, v2), (G.N.fn f, v)])) a (ExcH a C (some d2))) d2 (.xd [(G.N.fn f2, v2), (G.N.fn f, v)]) = upd (upd c1.H a (ExcH a C (some d2))) d2 (.xd [(G.N.fn f2, v2), (G.N.fn f, v)]) := by
    funext z
    by_cases hz : z = d2
    · rw [hz, upd_same, upd_same]
    · rw [upd_ne hz, upd_ne hz]
      by_cases hza : z = a
      · rw [hza, upd_same, upd_same]
      · rw [upd_ne hza, upd_ne hza, upd_ne hz, upd_ne hza, upd_ne hz, upd_ne hza]
  rw [eH]
  have s2 : Ok G L ⟨c1.σ, c1.ρ, plus c1.F a, upd c1.H a (ExcH a C (some d2))⟩ := StR.grow s1 na (fun _ z => .inl z) fun _ z => z
  have y2 : Ex G c1 ⟨c1.σ, c1.ρ, plus c1.F a, upd c1.H a (ExcH a C (some d2))⟩ := Ext.grow s1 na (fun _ z => .inl z) fun _ z => z
  have n3 : upd c1.H a (ExcH a C (some d2)) d2 = none := by rw [upd_ne ne]; exact n2
  have s3 : Ok G L ⟨c1.σ, c1.ρ, plus (plus c1.F a) d2, upd (upd c1.H a (ExcH a C (some d2))) d2 (.xd [(G.N.fn f2, v2), (G.N.fn f, v)])⟩ := StR.grow s2 n3 (fun _ z => .inl z) fun _ z => z
  have y3 : Ex G ⟨c1.σ, c1.ρ, plus c1.F a, upd c1.H a (ExcH a C (some d2))⟩ ⟨c1.σ, c1.ρ, plus (plus c1.F a) d2, upd (upd c1.H a (ExcH a C (some d2))) d2 (.xd [(G.N.fn f2, v2), (G.N.fn f, v)])⟩ := Ext.grow s2 n3 (fun _ z => .inl z) fun _ z => z
  have y := Ext.trans y2 y3
  refine hP _ _ (h1 _ _ y s3) ?_
  exact .exc eg (.inl (.inr rfl)) (.inr rfl) (by show upd _ d2 _ a = _; rw [upd_ne (Ne.symm ne), upd_same]) upd_same (.cons (Ext.rp y s1 rv2) (.cons (Ext.rp y s1 rv) .nil))
def mkEx1 (x f : Nat) : List D → Option Vl
  | [d] => some (.fz (.exc x [(f, d)]))
  | _ => none
def mkEx2 (x f f2 : Nat) : List D → Option Vl
  | [d, d'] => some (.fz (.exc x [(f2, d'), (f, d)]))
  | _ => none
def mkEx2s (x f f2 : Nat) : List D → Option Vl
  | [d', d] => some (.fz (.exc x [(f2, d'), (f, d)]))
  | _ => none
def evEx (φ : List D → Option Vl) (m : M (List D)) : M Vl := m.bind fun l => liftO (φ l)
/-- C(e) as a value -/
theorem SE.exp1 {f : Nat} {fn : Str} {m : M (List D)} (hf : G.N.fn f = fn) (T : OexC X.K C) (eg : G.N.gm x = some (.ref C)) (hno : PySem.W.findIn X.K (.ref C) fn = some none) (iC : PySem.W.findIn X.K (.ref C) "__init__" = some (some (.ref fI))) (tI : PySem.W.typeIn X.K (.ref fI) = some (.type "function"))
    (F1 : FnOk X.prog X.w X.K X.mg X.base CX0 k fI fd ps (spOne X.K fn)) (hr : RoomG (k + 1) X.A) (hb : L2.Binds X.K fd ps []) (hg : Gl X cn) (hm : X.mg cn = some (.ref C)) (he : SA X W G L (e :: es) m)
    (hdb : (cn == ("__debug__" : Str)) = false := by decide) (hs : starEach (e :: es) X.env = (false, eval e X.env) :: starEach es X.env := by rfl) (hpl : (backTo pos (starEach es X.env)).any (·.1) = false := by rfl) :
    SE X W G L (.Call (.Name cn p) (e :: es) [] pos) (evEx (mkEx1 x f) m) := by
  subst hf
  obtain ⟨t, pa, qa⟩ := he.ex
  refine ⟨_, pe_exm T iC tI F1 hr.room (KBinds.ofPos hb) hg hm pa hdb hs hpl, fun c Q s h => ?_⟩
  refine qa c _ s ((Req.bind h).imp fun l c1 _ e1 x1 s1 h1 vs rv => ?_)
  obtain ⟨w, ew, h2⟩ := liftO_req h1
  match l, ew, rv with
  | [d], ew, .cons r1 .nil =>
    cases ew
    exact ⟨by show (1 : Nat) ≤ 1000; decide, exm1_end eg T hno s1 r1 h2 fun c' w z r => z w r⟩
  | [], ew, _ => cases ew
  | _ :: _ :: _, ew, _ => cases ew
/-- C(e, e2) as a value -/
theorem SE.exp2 {f f2 : Nat} {fn fn2 : Str} {m : M (List D)} (hf : G.N.fn f = fn) (hf2 : G.N.fn f2 = fn2) (T : OexC X.K C) (eg : G.N.gm x = some (.ref C)) (hno : PySem.W.findIn X.K (.ref C) fn = some none) (hno2 : PySem.W.findIn X.K (.ref C) fn2 = some none) (iC : PySem.W.findIn X.K (.ref C) "__init__" = some (some (.ref fI))) (tI : PySem.W.typeIn X.K (.ref fI) = some (.type "function"))
    (F1 : FnOk X.prog X.w X.K X.mg X.base CX0 k fI fd ps (spTwo X.K fn fn2)) (hr : RoomG (k + 1) X.A) (hb : L2.Binds X.K fd ps []) (hg : Gl X cn) (hm : X.mg cn = some (.ref C)) (he : SA X W G L (e :: es) m)
    (hdb : (cn == ("__debug__" : Str)) = false := by decide) (hs : starEach (e :: es) X.env = (false, eval e X.env) :: starEach es X.env := by rfl) (hpl : (backTo pos (starEach es X.env)).any (·.1) = false := by rfl) :
    SE X W G L (.Call (.Name cn p) (e :: es) [] pos) (evEx (mkEx2 x f f2) m) := by
  subst hf hf2
  obtain ⟨t, pa, qa⟩ := he.ex
  refine ⟨_, pe_exm T iC tI F1 hr.room (KBinds.ofPos hb) hg hm pa hdb hs hpl, fun c Q s h => ?_⟩
  refine qa c _ s ((Req.bind h).imp fun l c1 _ e1 x1 s1 h1 vs rv => ?_)
  obtain ⟨w, ew, h2⟩ := liftO_req h1
  match l, ew, rv with
  | [d, d'], ew, .cons r1 (.cons r2 .nil) =>
    cases ew
    exact ⟨by show (2 : Nat) ≤ 1000; decide, exm2_end eg T hno hno2 s1 r1 r2 h2 fun c' w z r => z w r⟩
  | [], ew, _ => cases ew
  | [_], ew, _ => cases ew
  | _ :: _ :: _ :: _, ew, _ => cases ew
/-- keywords, each a value -/
structure SKd (X : Cx) (W : WX) (G : Gc) (L : Lt) (kws : List Keyword) (m : M (List D)) : Prop where
  ex : ∃ t : TA, PK X kws t ∧ ∀ (c : Cf) (Q : List V → Hp → Prop), Ok G L c → Req G L W c (m c.ρ) (fun ds c' => ∀ vs, RpL G.N c'.F c'.H vs ds → Q vs c'.H) → t c.σ c.H Q
theorem SKd.nil : SKd X W G L [] (mpure []) := ⟨tNil, pk_nil, fun c Q s r => r _ _ Ext.refl s _ .nil⟩
theorem SKd.cons {nm : Option Str} {kpos : Pos} {ma : M D} {mr : M (List D)} (ha : SD X W G L e ma) (hr : SKd X W G L kws mr) : SKd X W G L (⟨nm, e, kpos⟩ :: kws) (evCons ma mr) := by
  obtain ⟨ta, pa, qa⟩ := ha.ex
  obtain ⟨tb, pb, qb⟩ := hr.ex
  refine ⟨tCons ta tb, pk_cons pa pb, fun c Q s h => ?_⟩
  refine qa c _ s ((Req.bind h).imp fun x c1 _ e1 x1 s1 h1 v rv => ?_)
  show tb c.σ c1.H _
  rw [← e1]
  refine qb c1 _ s1 ((Req.bind h1).imp fun y c2 _ e2 x2 s2 h2 u ru => ?_)
  exact Req.here (r := x :: y) h2 s2 _ (.cons (Ext.rp x2 s1 rv) ru)
/-- C(k = e) as a value -/
theorem SE.exk1 {f : Nat} {fn : Str} {m : M (List D)} (hf : G.N.fn f = fn) (T : OexC X.K C) (eg : G.N.gm x = some (.ref C)) (hno : PySem.W.findIn X.K (.ref C) fn = some none) (iC : PySem.W.findIn X.K (.ref C) "__init__" = some (some (.ref fI))) (tI : PySem.W.typeIn X.K (.ref fI) = some (.type "function"))
    (F1 : FnOk X.prog X.w X.K X.mg X.base CX0 k fI fd ps (spOne X.K fn)) (hr : RoomG (k + 1) X.A) (hb : KBinds X.K fd ps ks (permN .none 1 1 [0, 1]) (permN .non 1 1 [0, 1])) (hg : Gl X cn) (hm : X.mg cn = some (.ref C)) (hkw : SKd X W G L kws m)
    (hall : (backToKw pos (keywordEach kws X.env)).all (·.1.isSome) = true := by rfl) (hks : (backToKw pos (keywordEach kws X.env)).filterMap (·.1) = ks := by rfl)
    (hdb : (cn == ("__debug__" : Str)) = false := by decide)
    (hpl : ((backTo pos (starEach [] X.env)).any (·.1) || (backToKw pos (keywordEach kws X.env)).any (·.1.isNone)) = false := by rfl) :
    SE X W G L (.Call (.Name cn p) [] kws pos) (evEx (mkEx1 x f) m) := by
  subst hf
  obtain ⟨t, pk, qa⟩ := hkw.ex
  refine ⟨_, pe_exmK T iC tI F1 hr.room hb hg hm pk hall hks hdb hpl, fun c Q s h => ?_⟩
  refine qa c _ s ((Req.bind h).imp fun l c1 _ e1 x1 s1 h1 vs rv => ?_)
  obtain ⟨w, ew, h2⟩ := liftO_req h1
  match l, ew, rv with
  | [d], ew, .cons (v := v1) r1 .nil =>
    cases ew
    refine ⟨by show (0 : Nat) ≤ 1000; decide, fun a na => ?_⟩
    show spOne X.K (G.N.fn f) [.ref a, v1] _ _ _
    exact exm1_end eg T hno s1 r1 h2 (fun c' w z r => z w r) a na
  | [], ew, _ => cases ew
  | _ :: _ :: _, ew, _ => cases ew
/-- C(k2 = e, k = e2) as a value -/
theorem SE.exk2s {f f2 : Nat} {fn fn2 : Str} {m : M (List D)} (hf : G.N.fn f = fn) (hf2 : G.N.fn f2 = fn2) (T : OexC X.K C) (eg : G.N.gm x = some (.ref C)) (hno : PySem.W.findIn X.K (.ref C) fn = some none) (hno2 : PySem.W.findIn X.K (.ref C) fn2 = some none) (iC : PySem.W.findIn X.K (.ref C) "__init__" = some (some (.ref fI))) (tI : PySem.W.typeIn X.K (.ref fI) = some (.type "function"))
    (F1 : FnOk X.prog X.w X.K X.mg X.base CX0 k fI fd ps (spTwo X.K fn fn2)) (hr : RoomG (k + 1) X.A) (hb : KBinds X.K fd ps ks (permN .none 1 2 [0, 2, 1]) (permN .non 1 2 [0, 2, 1])) (hg : Gl X cn) (hm : X.mg cn = some (.ref C)) (hkw : SKd X W G L kws m)
    (hall : (backToKw pos (keywordEach kws X.env)).all (·.1.isSome) = true := by rfl) (hks : (backToKw pos (keywordEach kws X.env)).filterMap (·.1) = ks := by rfl)
    (hdb : (cn == ("__debug__" : Str)) = false := by decide)
    (hpl : ((backTo pos (starEach [] X.env)).any (·.1) || (backToKw pos (keywordEach kws X.env)).any (·.1.isNone)) = false := by rfl) :
    SE X W G L (.Call (.Name cn p) [] kws pos) (evEx (mkEx2s x f f2) m) := by
  subst hf hf2
  obtain ⟨t, pk, qa⟩ := hkw.ex
  refine ⟨_, pe_exmK T iC tI F1 hr.room hb hg hm pk hall hks hdb hpl, fun c Q s h => ?_⟩
  refine qa c _ s ((Req.bind h).imp fun l c1 _ e1 x1 s1 h1 vs rv => ?_)
  obtain ⟨w, ew, h2⟩ := liftO_req h1
  match l, ew, rv with
  | [d', d], ew, .cons (v := v2) r2 (.cons (v := v1) r1 .nil) =>
    cases ew
    refine ⟨by show (0 : Nat) ≤ 1000; decide, fun a na => ?_⟩
    show spTwo X.K (G.N.fn f) (G.N.fn f2) [.ref a, v1, v2] _ _ _
    exact exm2_end eg T hno hno2 s1 r1 r2 h2 (fun c' w z r => z w r) a na
  | [], ew, _ => cases ew
  | [_], ew, _ => cases ew
  | _ :: _ :: _ :: _, ew, _ => cases ew
end
/-! ### isinstance(e, ValueError) -/
def rIsVE (K : PySem.W.Frag) (n : String) : List V → Hp → VK → Prop := fun xs H Q => ∃ (a D dd : Addr) (fs : List (Str × V)) (b : Bool), xs = [.ref a, .ty n] ∧ ExcC K D ∧ H a = some (ExcH a D (some dd)) ∧ H dd = some (.xd fs) ∧ PySem.W.kitOne K (.ref D) (.type n) = some b ∧ Q (.bl b) H
theorem call_isVE {X : Cx} {n : String} : CallR X (.builtin "isinstance") (rIsVE X.K n) := by
  intro pins s σ H xs us Q I r h
  obtain ⟨a, D, dd, fs, b, rfl, C, ea, ed, ek, q⟩ := h
  cases r with
  | cons rx rr =>
    cases rr with
    | cons rt rr =>
      cases rr
      cases rx
      cases rt
      obtain ⟨⟨oe, vs, g, z, hd⟩, _, _⟩ := I.hok a _ ea
      have hx : ObjOk X.prog X.w H s.heap dd (.xd fs) := I.hok dd _ ed
      obtain ⟨mA, hns, hr⟩ := hx
      obtain ⟨od, ho, hl⟩ := lookIn_ns hns
      have J : PySem.W.InstAt s.heap a oe D (some od) := ⟨g, z.1, by unfold PySem.W.notCls; rw [hd] <;> rfl, by rw [z.2]; exact ho⟩
      exact PySem.W.kia_one (PySem.W.ev_kit C) I.kIn J ek (fun z => nomatch z) fun tk => ⟨.bl b, H, I.kept (t' := tk) fun _ _ z => z, rfl, q⟩
def isVE (own : Nat → Bool) : D → Option Vl
  | .exc y _ => if own y then some (.fz (.bl true)) else none
  | _ => none
section
variable {X : Cx} {W : WX} {G : Gc} {L : Lt} {own : Nat → Bool} {e : Expr} {pos p p2 : Pos} {m : M D} {cn : Str} {n : String}
theorem SE.isVE (hK : ∀ y C, own y = true → G.N.gm y = some (.ref C) → ExcC X.K C ∧ PySem.W.kitOne X.K (.ref C) (.type n) = some true) (hg : Gl X "isinstance") (hm : X.mg "isinstance" = none) (hg2 : Gl X cn) (hm2 : X.mg cn = none) (hv : bootBuiltins cn = some (.type n)) (he : SD X W G L e m)
    (hn : cn ≠ "__name__" := by decide) (hd : (cn == ("__debug__" : Str)) = false := by decide)
    (hs : starEach [e, .Name cn p2] X.env = (false, eval e X.env) :: starEach [.Name cn p2] X.env := by rfl) (hs2 : starEach [.Name cn p2] X.env = (false, eval (.Name cn p2) X.env) :: starEach [] X.env := by rfl) (hpl : (backTo pos (starEach [.Name cn p2] X.env)).any (·.1) = false := by rfl) :
    SE X W G L (.Call (.Name "isinstance" p) [e, .Name cn p2] [] pos) (ev1 (Ev.isVE own) m) := by
  obtain ⟨t, pt, qt⟩ := he.ex
  refine ⟨_, pe_callB (call_isVE (n := n)) hg hm bt_isinstance (pa_cons pt (pa_cons (pe_bltn (v := .ty n) hg2 hm2 hv rfl hn hd) pa_nil hs2) hs) (by decide) (by decide) hs hpl, fun c Q s h => ?_⟩
  refine qt c _ s ((Req.bind h).imp fun d c1 _ e1 x1 s1 h1 v rv => ?_)
  obtain ⟨w, ew, h2⟩ := liftO_req h1
  cases d with
  | exc y fs =>
    have ew : (if own y then some (Vl.fz (.bl true)) else none) = some w := ew
    split at ew
    · rename_i ho
      cases ew
      cases rv with
      | @exc a C dx c0 xs ds eg fa fd ea ed rf =>
        obtain ⟨k1, k2⟩ := hK y C ho eg
        exact ⟨a, C, dx, xs, true, rfl, k1, ea, ed, k2, Req.here h2 s1 _ (.bl _)⟩
    · cases ew
  | _ => cases ew
/-- isinstance(e, Base), Base the own class above all others -/
theorem SE.isBase {CB : Addr} (hK : ∀ y C, own y = true → G.N.gm y = some (.ref C) → ExcC X.K C ∧ PySem.W.kitOne X.K (.ref C) (.ref CB) = some true) (hg : Gl X "isinstance") (hm : X.mg "isinstance" = none) (hg2 : Gl X cn) (hm2 : X.mg cn = some (.ref CB)) (he : SD X W G L e m)
    (hd : (cn == ("__debug__" : Str)) = false := by decide)
    (hs : starEach [e, .Name cn p2] X.env = (false, eval e X.env) :: starEach [.Name cn p2] X.env := by rfl) (hs2 : starEach [.Name cn p2] X.env = (false, eval (.Name cn p2) X.env) :: starEach [] X.env := by rfl) (hpl : (backTo pos (starEach [.Name cn p2] X.env)).any (·.1) = false := by rfl) :
    SE X W G L (.Call (.Name "isinstance" p) [e, .Name cn p2] [] pos) (ev1 (Ev.isVE own) m) := by
  obtain ⟨t, pt, qt⟩ := he.ex
  refine ⟨_, pe_callB call_isX hg hm bt_isinstance (pa_cons pt (pa_cons (pe_glob (v := .ref CB) hg2 hm2 rfl hd) pa_nil hs2) hs) (by decide) (by decide) hs hpl, fun c Q s h => ?_⟩
  refine qt c _ s ((Req.bind h).imp fun d c1 _ e1 x1 s1 h1 v rv => ?_)
  obtain ⟨w, ew, h2⟩ := liftO_req h1
  cases d with
  | exc y fs =>
    have ew : (if own y then some (Vl.fz (.bl true)) else none) = some w := ew
    split at ew
    · rename_i ho
      cases ew
      cases rv with
      | @exc a C dx c0 xs ds eg fa fd ea ed rf =>
        obtain ⟨k1, k2⟩ := hK y C ho eg
        exact ⟨a, C, dx, xs, CB, true, rfl, k1, ea, ed, k2, Req.here h2 s1 _ (.bl _)⟩
    · cases ew
  | _ => cases ew
end
theorem bt_ValueError : bootBuiltins "ValueError" = some (.type "ValueError") := by decide +kernel
/-! ### equations -/
section
variable {ρ : Rho}
theorem p_evEx (φ : List D → Option Vl) (m : M (List D)) : evEx φ m ρ = (m ρ).bind (kf φ) := (rfl)
theorem p_ex1 (x f : Nat) (d : D) : mkEx1 x f [d] = some (.fz (.exc x [(f, d)])) := (rfl)
theorem p_ex2 (x f g : Nat) (d e : D) : mkEx2 x f g [d, e] = some (.fz (.exc x [(g, e), (f, d)])) := (rfl)
theorem p_ex2s (x f g : Nat) (d e : D) : mkEx2s x f g [e, d] = some (.fz (.exc x [(g, e), (f, d)])) := (rfl)
theorem p_isVE (own : Nat → Bool) (y : Nat) (fs : List (Nat × D)) (h : own y = true) : isVE own (.exc y fs) = some (.fz (.bl true)) := by
  show (if own y then _ else _) = _
  rw [if_pos h]
end
end Ev

/-! EvNe: `!=` of two lists of the same data, dicts of one entry among them: it says False. -/
namespace PySem.SeqAt
open AutoSeq1 (wpAny_loadPart')
open MeetsSeq MeetsSeq2 MeetsSeq3 SeqRoads2
section
variable {prog : Program} {w : World}
/-- a list's object, by what else it holds -/
def lsO (us : Array Value) (c : Nat × Option Addr × Array (Option Value)) : Obj := { cls := .type "list", dict := c.2.1, data := .seq us c.1, slots := c.2.2 }
/-- each item of the one is equal to the other's at its place -/
def PairsEq (prog : Program) (w : World) (A : Around) (s : Shared) (us ws : Array Value) : Prop := ∀ j (p : j < us.size) (q : j < ws.size), EqP prog w A.in1 s us[j] ws[j] true
def noNe (prog : Program) (w : World) (a b : Addr) (us ws : Array Value) (c d : Nat × Option Addr × Array (Option Value)) : Spec := fun A R s => s.heap.get? a = some (lsO us c) ∧ s.heap.get? b = some (lsO ws d) ∧ PairsEq prog w A s us ws ∧ R (.ok (.ret (.bool false))) s
theorem ne_from {a b : Addr} {us ws : Array Value} {c d : Nat × Option Addr × Array (Option Value)} (hz : us.size = ws.size) (m : Nat) :
    ∀ i : Nat, us.size - i = m → MeetsIn prog w (Builtin.«list.__eq__.loop» ⟨[.ref a, .ref b, rawInt i, rawInt 3], []⟩) (noNe prog w a b us ws c d) := by
  induction m with
  | zero =>
    intro i hm A R s z
    obtain ⟨hp, g, dr, tk, os⟩ := s
    obtain ⟨za, zb, ze, zr⟩ := z
    have za' : hp.get? a = some { cls := .type "list", dict := c.2.1, data := .seq us c.1, slots := c.2.2 } := za
    have zb' : hp.get? b = some { cls := .type "list", dict := d.2.1, data := .seq ws d.1, slots := d.2.2 } := zb
    wp_walk using wpAny_loadPart' za', wpAny_loadPart' zb'
    have n1 : us[((i : Nat) : Int).toNat]? = none := by rw [Int.toNat_natCast]; exact Array.getElem?_eq_none (by omega)
    have n2 : ws[((i : Nat) : Int).toNat]? = none := by rw [Int.toNat_natCast]; exact Array.getElem?_eq_none (by omega)
    rw [n1, n2]
    wp_walk using wpAny_loadPart' za', wpAny_loadPart' zb'
    show R (.ok (.ret (.bool (us.size != ws.size)))) _
    rw [show (us.size != ws.size) = false from by rw [hz]; simp]
    exact zr
  | succ m ih =>
    intro i hm A R s z
    obtain ⟨hp, g, dr, tk, os⟩ := s
    obtain ⟨za, zb, ze, zr⟩ := z
    have za' : hp.get? a = some { cls := .type "list", dict := c.2.1, data := .seq us c.1, slots := c.2.2 } := za
    have zb' : hp.get? b = some { cls := .type "list", dict := d.2.1, data := .seq ws d.1, slots := d.2.2 } := zb
    wp_walk using wpAny_loadPart' za', wpAny_loadPart' zb'
    have p : i < us.size := by omega
    have q : i < ws.size := by omega
    have n1 : us[((i : Nat) : Int).toNat]? = some us[i] := by rw [Int.toNat_natCast]; exact Array.getElem?_eq_getElem p
    have n2 : ws[((i : Nat) : Int).toNat]? = some ws[i] := by rw [Int.toNat_natCast]; exact Array.getElem?_eq_getElem q
    rw [n1, n2]
    refine wpAny_bind (ze i p q _ _ ?_)
    wp_walk
    rw [show (i : Int) + 1 = ((i + 1 : Nat) : Int) from by omega]
    refine ⟨plainId_quiet plain_eq_loop _, codeAny_builtin entry_eq_loop ?_⟩
    rw [Around.under_plainId plain_eq_loop _]
    exact ih (i + 1) (by omega) A R _ ⟨za, zb, ze, zr⟩
theorem ne_whole {a b : Addr} {us ws : Array Value} {c d : Nat × Option Addr × Array (Option Value)} (hz : us.size = ws.size) : MeetsIn prog w (Builtin.«list.__ne__» ⟨[.ref a, .ref b], []⟩) (noNe prog w a b us ws c d) := by
  intro A R s z
  obtain ⟨hp, g, dr, tk, os⟩ := s
  obtain ⟨za, zb, ze, zr⟩ := z
  have za' : hp.get? a = some { cls := .type "list", dict := c.2.1, data := .seq us c.1, slots := c.2.2 } := za
  have zb' : hp.get? b = some { cls := .type "list", dict := d.2.1, data := .seq ws d.1, slots := d.2.2 } := zb
  have ll := AutoSeq1.sub_list_list
  have same : ¬ (us.size != ws.size) = true := by rw [hz]; simp
  wp_walk using wpAny_loadPart' za', wpAny_loadPart' zb'
  refine ⟨plainId_quiet plain_eq_loop _, codeAny_builtin entry_eq_loop ?_⟩
  rw [Around.under_plainId plain_eq_loop _]
  exact ne_from hz _ 0 rfl A R _ ⟨za, zb, ze, zr⟩
theorem rc_ne_no {A : Around} {s : Shared} {a b : Addr} {us ws : Array Value} (ha : s.heap.IsList a us) (hb : s.heap.IsList b ws) (hz : us.size = ws.size) (room : A.units < cLine) (he : PairsEq prog w A s us ws) (E Q : Value → Shared → Prop) (q : Q (.bool false) s) :
    wpAny (model prog w) A (richCompare .NotEq (.ref a) (.ref b)) Q E s := by
  obtain ⟨⟨k1, d1, v1, s1⟩, oa, ka, n1, ea⟩ := ha
  obtain ⟨⟨k2, d2, v2, s2⟩, ob, kb, n2, eb⟩ := hb
  simp only at ka ea kb eb
  subst ka ea kb eb
  have ta : s.TypeIs (.ref a) "list" := ⟨_, oa, rfl⟩
  have tb : s.TypeIs (.ref b) "list" := ⟨_, ob, rfl⟩
  have fin : Value.bool false ≠ Value.notImplemented ∧ Q (.bool false) s := ⟨(fun z => nomatch z), q⟩
  exact wpAny_richCompare_same_room (op := .NotEq) ta tb F.slot_list_ne (call_meetsIn F.slot_list_ne ta F.entry_list_ne (F.args_list_ne_2 _ _) (ne_whole (c := (n1, d1, s1)) (d := (n2, d2, s2)) hz) ⟨oa, ob, he, fin⟩) room
end
end PySem.SeqAt
namespace Ev
open PySem PySem.Spec PyProof.Rows L2
/-- plain data, or a dict of one entry -/
def eqk : D → Bool
  | .dic [(_, d)] => pl d && decide (dep d ≤ 64)
  | d => pl d && decide (dep d ≤ 64)
section
variable {X : Cx} {pins : List (Addr × Obj)} {σ : L2.St} {H : Hp} {s : Shared} {N : Nm} {F : Fz} {A : Around}
theorem eqp_pl {G : Gc} (I : Inv X pins σ H s) (hu : A.units + 64 < cLine) {d : D} {x y : V} {v u : Value} (hd : pl d = true) (hd2 : dep d ≤ 64) (rx : Rp G.N F H x d) (ry : Rp G.N F H y d) (r1 : RelV x v) (r2 : RelV y u) : SeqAt.EqP X.prog X.w A s v u true := by
  obtain ⟨h1, h2⟩ := Bool.and_eq_true_iff.mp (show (isP d && SeqAt.shaped (toP d)) = true from pl_sh hd hd2)
  obtain ⟨as, q1⟩ := Dp.reads I (toP d) x v (toDp rx h1) r1
  obtain ⟨bs, q2⟩ := Dp.reads I (toP d) y u (toDp ry h1) r2
  have e := SeqAt.eqAt_reads (toP d) (toP d) A s v u as bs q1 q2 (SeqAt.canLay_of_shaped h2) (SeqAt.canLay_of_shaped h2) (SeqAt.room_of_shaped h2 hu)
  rw [show PyData.eqv (toP d) (toP d) = true from deq_refl d hd] at e
  exact e.eqP
theorem eqp_of {G : Gc} (I : Inv X pins σ H s) (hu : A.units + 66 < cLine) {d : D} {x y : V} {v u : Value} (hd : eqk d = true) (rx : Rp G.N F H x d) (ry : Rp G.N F H y d) (r1 : RelV x v) (r2 : RelV y u) : SeqAt.EqP X.prog X.w A s v u true := by
  unfold eqk at hd
  split at hd
  · rename_i k d0
    obtain ⟨h1, h2⟩ := Bool.and_eq_true_iff.mp hd
    have h2 := of_decide_eq_true h2
    cases rx with
    | @dic a xs _ fa ea la =>
      cases ry with
      | @dic b ys _ fb eb lb =>
        cases la with
        | @cons _ vx _ _ _ ra ta =>
          cases ta
          cases lb with
          | @cons _ vy _ _ _ rb tb =>
            cases tb
            cases (show v = Value.ref a from r1)
            cases (show u = Value.ref b from r2)
            by_cases e : a = b
            · subst e
              exact (SeqAt.EqAt.same _).eqP
            · refine SeqAt.eqP_refs e fun E Q q => ?_
              refine eqR_run I (F := fun p q => Rp G.N F H p d0 ∧ Rp G.N F H q d0) (by omega) (fun x y v u f g1 g2 => eqp_pl (G := G) I (by show A.units + 1 + 64 < cLine; omega) h1 h2 f.1 f.2 g1 g2) (.inr ⟨a, b, _, _, rfl, rfl, ea, eb, rfl, fun p hp => ?_⟩) rfl rfl E Q q
              obtain rfl := List.mem_singleton.mp hp
              exact ⟨vy, valV_pos rfl, ra, rb⟩
  · obtain ⟨h1, h2⟩ := Bool.and_eq_true_iff.mp hd
    exact eqp_pl I (by omega) h1 (of_decide_eq_true h2) rx ry r1 r2
end
section
variable {X : Cx} {W : WX} {G : Gc} {L : Lt} {a b : Expr} {pos : Pos} {k : Nat}
/-- two lists of the same data -/
def rNeSame (X : Cx) (G : Gc) : R2 := fun x y H Q => ∃ (F : Fz) (p q : Addr) (xs ys : List V) (l : List D), x = .ref p ∧ y = .ref q ∧ H p = some (.lst xs) ∧ H q = some (.lst ys) ∧ RpL G.N F H xs l ∧ RpL G.N F H ys l ∧ l.all eqk = true ∧ Q (.bl false) H
theorem op_neSame (hu : X.A.units + 68 < cLine) : OpR X (compareOp .NotEq) (rNeSame X G) := by
  intro pins s σ H x y v u Q I rx ry h
  obtain ⟨F, p, q, xs, ys, l, rfl, rfl, ea, eb, la, lb, hl, hq⟩ := h
  cases (show v = Value.ref p from rx)
  cases (show u = Value.ref q from ry)
  obtain ⟨us, v1, i1, _⟩ := I.list (.inl (.inl ea))
  obtain ⟨ws, v2, i2, _⟩ := I.list (.inl (.inl eb))
  have key : ∀ {xs ys : List V} {l : List D} {us ws : List Value}, RpL G.N F H xs l → RpL G.N F H ys l → l.all eqk = true → Vals xs us → Vals ys ws → ∀ j (h1 : j < us.length) (h2 : j < ws.length), SeqAt.EqP X.prog X.w X.A.in1 s us[j] ws[j] true := by
    intro xs ys l
    induction l generalizing xs ys with
    | nil =>
      intro us ws r1 r2 _ t1 t2 j h1 h2
      cases r1
      cases t1
      exact absurd h1 (Nat.not_lt_zero j)
    | cons d l ih =>
      intro us ws r1 r2 hl t1 t2 j h1 h2
      rw [List.all_cons, Bool.and_eq_true] at hl
      cases r1 with
      | cons a1 b1 =>
        cases r2 with
        | cons a2 b2 =>
          cases t1 with
          | cons c1 d1 =>
            cases t2 with
            | cons c2 d2 =>
              cases j with
              | zero => exact eqp_of I (by show X.A.units + 1 + 66 < cLine; omega) hl.1 a1 a2 c1 c2
              | succ j => exact ih b1 b2 hl.2 d1 d2 j (Nat.lt_of_succ_lt_succ h1) (Nat.lt_of_succ_lt_succ h2)
  have hz : us.toArray.size = ws.toArray.size := by
    rw [List.size_toArray, List.size_toArray, ← v1.length, ← v2.length, la.length, lb.length]
  refine SeqAt.rc_ne_no i1.isList i2.isList hz (by omega) (fun j h1 h2 => ?_) _ _ ⟨.bl false, H, I, rfl, hq⟩
  have z := key la lb hl v1 v2 j (by simpa using h1) (by simpa using h2)
  simpa using z
open Classical in
/-- `!=`, also of two lists of the same data with dicts -/
noncomputable def neW : D → D → Option Vl
  | .lst l, .lst m => if l = m ∧ l.all eqk = true then some (.fz (.bl false)) else neA (.lst l) (.lst m)
  | x, y => neA x y
theorem neW_ok : BinOk X W G L (fun x y H Q => rNeSame X G x y H Q ∨ (rNe x y H Q ∨ rNeD X.K x y H Q)) neW := by
  intro c0 c x y v u Q e0 ex s rx ry hr
  unfold neW at hr
  split at hr
  · rename_i l m
    split at hr
    · rename_i h
      obtain ⟨rfl, h⟩ := h
      cases rx with
      | lst f ra la =>
        cases ry with
        | lst f2 rb lb => exact .inl ⟨c.F, _, _, _, _, l, rfl, rfl, ra, rb, la, lb, h, Req.here hr s _ (.bl _)⟩
    · exact .inr (neA_ok c0 c _ _ v u Q e0 ex s rx ry hr)
  · exact .inr (neA_ok c0 c _ _ v u Q e0 ex s rx ry hr)
theorem ST.neW {ma mb : M D} (hr : RoomG k X.A) (ha : SD X W G L a ma) (hb : SD X W G L b mb) : ST X W G L (.Compare a [.NotEq] [b] pos) (ev2T Ev.neW ma mb) := ST.cmp (OpR.or (op_neSame (by have := hr.room.un; omega)) (op_neA hr.room.units)) neW_ok ha hb (nomark _)
theorem p_neW (l : List D) (h : l.all eqk = true) : neW (.lst l) (.lst l) = some (.fz (.bl false)) := by
  unfold neW
  exact if_pos ⟨rfl, h⟩
end
end Ev

/-! EvSc: how many unlike things a set comprehension has: of ints, of tuples of ints. -/
namespace Ev
open PySem PySem.Spec PyProof.Rows L2
section
open TS
variable {P : Program} {w : World} {A : Around} {E : Value → Shared → Prop} {s : Shared} {a : Addr} {L : List (Addr × List Int)} {es : Array (Int × Value)} {ep : Nat} {t : SetTable}
/-- s.add(x), x a tuple of ints -/
theorem addT_call (R : SetTR P w s.heap a L es ep t) {x : Addr} {k : List Int} (hx : IsT P w s.heap k x) (room : A.units + 1 < cLine) (few : L.length + 1 < 64) {Q : Value → Shared → Prop}
    (hq : ∀ (h2 : Heap) (t2 : Nat) L2 es2 ep2 tb2, Heap.SameBut a s.heap h2 → SetTR P w h2 a L2 es2 ep2 tb2 → (k ∈ L.map (·.2) → L2 = L) → (k ∉ L.map (·.2) → L2.Perm ((x, k) :: L)) → Q .none { s with heap := h2, toks := t2 }) :
    wpAny (model P w) A (call (.builtin "set.add") [.ref a, .ref x]) Q E s := by
  obtain ⟨o, oa, ex, od⟩ := R.ob
  have ty : s.TypeIs (.ref a) "set" := ⟨o, oa, ex.1⟩
  refine wpAny_call_entry F.slot_set_add ty F.entry_set_add ?_ (F.args_set_add_2 _ _)
  unfold Builtin.«set.add» Builtin.Frozenset.oneOther
  simp only [bind_assoc, List.isEmpty_nil]
  unfold Builtin.Frozenset.addrOf setAdd
  refine wpAny_bind (wpAny_pure (wpAny_bind (wpAny_pure ?_)))
  refine wpAny_bind (wpAny_holding (wpAny_bind (wpAny_pyHash_tuple (A := A.in1) room hx ?_)))
  refine add_at (A := A.in1) (s := { s with toks := s.toks + (k.length + 1) }) R hx room few fun b h2 L2 es2 ep2 tb2 sb R2 c1 c2 => ?_
  exact wpAny_pure ⟨_, rfl, hq h2 _ L2 es2 ep2 tb2 sb R2 c1 c2⟩
end
/-- a new set's object -/
abbrev setN (w : World) : Obj := { cls := .type "set", dict := none, data := .set #[] 0 (.fresh 0 0 (!w.params.followText "set-order")) }
/-- a kind of set that set.add makes greater: how it is tracked, how it begins, what a further thing makes of it -/
structure Adds (P : Program) (w : World) (K : PySem.W.Frag) (T : Type) (ob : Addr → T → HO) (o : T) (step : V → Hp → T → (T → Prop) → Prop) : Prop where
  new : ∀ (H : Hp) (h : Heap), ObjOk P w H (h.push (setN w)) h.objs.size (ob h.objs.size o)
  nt : ∀ {H : Hp} {h : Heap} {D : Addr} {τ : T}, ObjOk P w H h D (ob D τ) → notTab (ob D τ)
  add : ∀ {X : Cx} {pins : List (Addr × Obj)} {σ : L2.St} {H : Hp} {s : Shared} {E : Value → Shared → Prop} {D : Addr} {τ : T} {R : T → Prop} {y : V} {u : Value} {Q : Value → Shared → Prop}, X.prog = P → X.w = w → X.K = K → X.A.units + 1 < cLine → Inv X pins σ H s → H D = some (ob D τ) → RelV y u → step y H τ R →
    (∀ τ' s', R τ' → Inv X pins σ (upd H D (ob D τ')) s' → Q .none s') → wpAny (model X.prog X.w) X.A (call (.builtin "set.add") [.ref D, u]) Q E s
/-- what says of an object that it is a set, and of nothing else, is no table -/
theorem notTab_set {D : Addr} {φ : Heap → Prop} (is : ∀ h, φ h → ∃ (v : Obj) (es : Array (Int × Value)) (ep : Nat) (t : SetTable), h.get? D = some v ∧ v.data = .set es ep t) (at_ : ∀ h h2, φ h → (∀ v, h.get? D = some v → h2.get? D = some v) → φ h2) {h : Heap} (x : φ h) : notTab (.ext φ) := by
  refine ⟨fun ps e => (nomatch e), fun xs e => (nomatch e), fun c q e => ?_⟩
  have e : HO.ext φ = HO.ext _ := e
  injection e with e
  obtain ⟨h2, k1, k2⟩ := restrict h fun b => decide (b = D)
  have y : φ h2 := at_ h h2 x fun v ev => (k1 D (by simp)).trans ev
  have z := e ▸ y
  obtain ⟨oc, vs, tk, g1, g2, _⟩ := z
  obtain ⟨v, es, ep, t, g3, g4⟩ := is h2 y
  by_cases hc : c = D
  · subst hc
    rw [g3] at g1
    cases g1
    rw [g4] at g2
    cases g2
  · rw [k2 c (by simp [hc])] at g1
    cases g1
/-- one more tuple -/
def stepT (K : PySem.W.Frag) (y : V) (H : Hp) (L : List (Addr × List Int)) (R : List (Addr × List Int) → Prop) : Prop := ∃ (x : Addr) (k : List Int), y = .ref x ∧ SqT K H x (k.map V.int) ∧ (∀ p ∈ L, SqT K H p.1 (p.2.map V.int)) ∧ L.length + 1 < 64 ∧
  (k ∈ L.map (·.2) → R L) ∧ (k ∉ L.map (·.2) → ∀ L2, L2.Perm ((x, k) :: L) → R L2)
theorem addsT (P : Program) (w : World) (K : PySem.W.Frag) : Adds P w K (List (Addr × List Int)) (SetTO P w) [] (stepT K) where
  new := fun H h => setTO_new (setTR_fresh (Heap.get?_push_size _ rfl)).t0
  nt := fun {H h D L} k => notTab_set (φ := fun h => SetT0 P w h D L) (fun h x => by
      obtain ⟨es, ep, t, ⟨v, a, _, b⟩, _⟩ := SetT0.ex x
      exact ⟨v, es, ep, t, a, b⟩) (fun h h2 x k => by
      obtain ⟨es, ep, t, ⟨v, a, r⟩, q⟩ := SetT0.ex x
      exact ⟨es, ep, t, ⟨v, k v a, r⟩, q⟩) k.1
  add := by
    intro X pins σ H s E D L R y u Q e1 e2 e3 room I hD ru st hq
    subst e1 e2 e3
    obtain ⟨x, k, rfl, hx, hL, few, r1, r2⟩ := st
    cases (show u = Value.ref x from ru)
    have R0 : SetT0 X.prog X.w s.heap D L := (I.hok D _ hD).1
    obtain ⟨es, ep, t, R1⟩ := R0.full fun p hp => I.isT (hL p hp)
    refine addT_call R1 (I.isT hx) room few fun h2 t2 L2 es2 ep2 tb2 sb R2 c1 c2 => ?_
    obtain ⟨o2, oa2, _⟩ := R2.ob
    have J := I.write (t' := t2) (h' := h2) (x := D) (e := D) (o := SetTO X.prog X.w D L2) (by rw [hD]; exact True.intro) (.inl rfl) (fun b v hb hv => (sb.2 b hb).trans hv) ⟨o2, oa2⟩ (setTO_new R2.t0)
    refine hq L2 _ ?_ J
    rcases Classical.em (k ∈ L.map (·.2)) with m | m
    · rw [c1 m]
      exact r1 m
    · exact r2 m L2 (c2 m)
/-- the set of ints at a -/
def IntsO (w : World) (a : Addr) (τ : (Int → Bool) × Nat) : HO := .ext fun h => SetR w h a τ.1 τ.2
theorem intsO_ok {P : Program} {w : World} {H : Hp} {h : Heap} {a : Addr} {τ : (Int → Bool) × Nat} (R : SetR w h a τ.1 τ.2) : ObjOk P w H h a (IntsO w a τ) := by
  have ⟨o, _, _, _, oa, _⟩ := R
  exact ⟨R, ⟨o, oa⟩, fun h1 h2 p k => SetR.at p k⟩
/-- one more int -/
def stepI (y : V) (_ : Hp) (τ : (Int → Bool) × Nat) (R : (Int → Bool) × Nat → Prop) : Prop := ∃ k : Int, y = .int k ∧ τ.2 + 1 < scanBound ∧ R (fun j => τ.1 j || decide (j = k), if τ.1 k = true then τ.2 else τ.2 + 1)
theorem addsI (P : Program) (w : World) (K : PySem.W.Frag) : Adds P w K ((Int → Bool) × Nat) (IntsO w) (fun _ => false, 0) stepI where
  new := fun H h => intsO_ok (setR_fresh w)
  nt := fun {H h D τ} k => notTab_set (φ := fun h => SetR w h D τ.1 τ.2) (fun h x => by
      have ⟨v, es, ep, t, a, _, b, _⟩ := x
      exact ⟨v, es, ep, t, a, b⟩) (fun h h2 x k => SetR.at x k) k.1
  add := by
    intro X pins σ H s E D τ R y u Q e1 e2 e3 _ I hD ru st hq
    subst e1 e2 e3
    obtain ⟨k, rfl, few, r⟩ := st
    obtain ⟨tk, rfl⟩ := ru
    have R0 : SetR X.w s.heap D τ.1 τ.2 := (I.hok D _ hD).1
    refine setR_add R0 few fun h2 sb R2 => ?_
    have ⟨o2, _, _, _, oa2, _⟩ := R2
    exact hq _ _ r (I.write (t' := s.toks + 1) (h' := h2) (x := D) (e := D) (o := IntsO X.w D _) (by rw [hD]; exact True.intro) (.inl rfl) (fun b v hb hv => (sb.2 b hb).trans hv) ⟨o2, oa2⟩ (intsO_ok (τ := (_, _)) R2))
/-- {elt for tg in iter if ..}: D is the new set -/
def tAd {T : Type} (ob : Addr → T → HO) (o : T) (step : V → Hp → T → (T → Prop) → Prop) (wi : TI) (g : TG) (tt : TT) (te : TE) (vs : List Nat) : TE := fun σ H Q => wi σ H fun J Hi => ∀ D, Hi D = none →
  ∃ At : Nat → Nat → Hp → Prop, (notTab (ob D o) → ∃ m, At 0 m (upd Hi D (ob D o))) ∧ ∀ i m H, At i m H → (J.stop i H ∧ Q (.ref D) H) ∨ (J.go i H ∧ ∃ Nx : Hp → Prop, (∀ H2, Nx H2 → ∃ n, n < m ∧ At (i + 1) n H2) ∧
    ∀ x H2, J.yld i H x H2 → g x (wipe σ vs) H2 fun σ3 H3 => wipe σ3 vs = wipe σ vs ∧ tt σ3 H3 fun b H4 => if b = true then te σ3 H4 fun y H5 => ∃ (τ : T) (R : T → Prop), H5 D = some (ob D τ) ∧ step y H5 τ R ∧ ∀ τ', R τ' → notTab (ob D τ') → Nx (upd H5 D (ob D τ')) else Nx H4)
section
variable {X : Cx} {T : Type} {ob : Addr → T → HO} {o : T} {step : V → Hp → T → (T → Prop) → Prop} {elt tg iter : Expr} {ifs : List Expr} {scope : Scope} {own : List (Str × Nat)} {pos : Pos} {wi : TI} {g : TG} {tt : TT} {te : TE}
theorem pe_ad (ad : Adds X.prog X.w X.K T ob o step) (room : X.A.units + 1 < cLine) (hc : X.calm = true) (hN : X.N.Nodup) (hi : PI X tg iter wi) (bl : BlkOk X.N X.env.scope scope own)
    (hg : ∀ (s : Shared) (H : Hp) (C : Addr) (cl : List (Str × Addr)) (fp : List Addr), PG (X.blk s H scope (compEnvC scope cl C X.env) fp) tg g)
    (ht : ∀ (s : Shared) (H : Hp) (C : Addr) (cl : List (Str × Addr)) (fp : List Addr), PTs (X.blk s H scope (compEnvC scope cl C X.env) fp) ifs tt)
    (he : ∀ (s : Shared) (H : Hp) (C : Addr) (cl : List (Str × Addr)) (fp : List Addr), PE (X.blk s H scope (compEnvC scope cl C X.env) fp) elt te)
    (hs : ∀ x, foldedSetIterable iter X.env x = pure x := by intro _; rfl) : PE X (.SetComp elt [⟨tg, iter, ifs, 0⟩] scope pos) (tAd ob o step wi g tt te (own.map (·.2))) := by
  refine ⟨fun pins s σ H Q I h => ?_⟩
  rw [PpSet.eval_SetComp]
  have fr : ∀ y ∈ scope.names, y.2 = .free → ∃ c, X.env.cells.lookup y.1 = some c := fun y m e => (bl.free y m e).elim (fun z => I.ok.has _ (.inl z)) fun z => I.ok.has _ (.inr z)
  refine wpAny_comprehension_free (use := none) rfl hs (closure_ok fr) bl.kind (fun y m e => by rw [bl.uniq y m, e]) (thn (hi.run pins s σ H _ I h) fun _ sa ha => thn ha fun _ sb hb => ?_)
  obtain ⟨it, fp, tn, J, Hb, e0, Ib, Tn, stb, fpb, q⟩ := hb
  subst e0
  refine PpSet.newSet_ok (newEnv_comp ?_)
  generalize eD : sb.heap.objs.size = D
  have nD : Hb D = none := Ib.hok.fresh (Nat.le_of_eq eD)
  obtain ⟨At, begins, turn⟩ := q D nD
  -- the set is there
  generalize esc : ({ sb with heap := sb.heap.push (setN X.w) } : Shared) = sc
  have Hsc : sc.heap = sb.heap.push (setN X.w) := by rw [← esc]
  have keepC : ∀ b v, sb.heap.get? b = some v → sc.heap.get? b = some v := fun b v e => by
    rw [Hsc]
    exact Heap.get?_push_of_some _ e
  have Ic : Inv X pins σ (upd Hb D (ob D o)) sc := by
    rw [← esc]
    refine Ib.laid (t' := sb.toks) (fun b v e => Heap.get?_push_of_some _ e) (Nat.le_of_eq eD) ?_
    rw [← eD]
    exact ad.new _ _
  obtain ⟨m0, at0⟩ := begins (ad.nt (Ic.hok D _ upd_same))
  have old : ∀ b ∈ fp, b < sb.heap.objs.size := fun b m => by
    obtain ⟨v, e, _⟩ := Tn.obj _ _ stb b m
    exact Heap.lt_size e
  have fpc : ∀ b ∈ fp, FpOk X pins (upd Hb D (ob D o)) b ∧ b < sc.heap.objs.size := fun b m =>
    ⟨⟨(upd_ne (by rw [← eD]; exact Nat.ne_of_lt (old b m))).trans (fpb b m).1, (fpb b m).2⟩, by rw [Hsc, Heap.size_push]; exact Nat.lt_succ_of_lt (old b m)⟩
  have stc : tn 0 sc.heap := Tn.keep _ _ _ stb fun b _ v e => keepC b v e
  have Id := block_start Ic bl hN fpc
  generalize eHc : upd Hb D (ob D o) = Hc at Ic Id fpc at0
  generalize ecl : cellsFrom (sc.heap.objs.size + 1) scope.names (cloFrom X.env.cells scope.names []) = cl at Id
  have pg := hg sc Hc sc.heap.objs.size cl fp
  have pt := ht sc Hc sc.heap.objs.size cl fp
  have pe := he sc Hc sc.heap.objs.size cl fp
  subst ecl
  generalize ece : compEnvC scope (cellsFrom (sc.heap.objs.size + 1) scope.names (cloFrom X.env.cells scope.names [])) sc.heap.objs.size X.env = ce at Id pg pt pe
  have lce : ce.locals = sc.heap.objs.size := by rw [← ece]; rfl
  show codeAny _ _ (.compStart (.SetComp elt [⟨tg, iter, ifs, 0⟩] scope pos) 0 (.ref it) (.ref D) (compEnvC scope (cellsFrom (sc.heap.objs.size + 1) scope.names (cloFrom X.env.cells scope.names [])) sc.heap.objs.size X.env)) _ { sc with heap := pushCells (sc.heap.push { cls := .type "dict", data := .dict #[] }) scope.names }
  rw [ece]
  generalize esd : ({ sc with heap := pushCells (sc.heap.push { cls := .type "dict", data := .dict #[] }) scope.names } : Shared) = sd at Id
  have std : tn 0 sd.heap := Tn.keep _ _ _ stc fun b _ v e => by rw [← esd]; exact pushCells_keeps _ _ _ _ (Heap.get?_push_of_some _ e)
  have frees : ∀ {σ2 : L2.St} {H2 : Hp} {s2 : Shared}, Inv (X.blk sc Hc scope ce fp) [] σ2 H2 s2 → (∀ b ∈ fp, H2 b = none) → ∀ b ∈ fp, FpOk (X.blk sc Hc scope ce fp) [] H2 b := fun {σ2 H2 s2} I2 n2 b m =>
    ⟨n2 b m, (I2.ok.exf b m).1, I2.ok.exfs b m, .inl m, fun x c e => (I2.ok.exf b m).2 x c e, fun p mp => absurd (show p ∈ ([] : List (Addr × Obj)) ++ [] from mp) (by simp)⟩
  let Lp : Nat → Shared → Prop := fun n s2 => ∃ i H2, Inv (X.blk sc Hc scope ce fp) [] (wipe σ (own.map (·.2))) H2 s2 ∧ tn i s2.heap ∧ (∀ b ∈ fp, H2 b = none) ∧ At i n H2
  have first : Lp m0 sd := ⟨0, Hc, Id, std, fun b m => (fpc b m).1.1, at0⟩
  refine (fun loop => PpSet.codeAny_compStart_set loop (Tn.self X.A 0 _ _ _ std loop)) ?_
  refine PpSet.compLoopS_any Lp ?_ m0 first
  rintro n se ⟨i, He, Ie, ste, ne, ate⟩
  rcases turn i n He ate with ⟨stop, qq⟩ | ⟨go, Nx, less, more⟩
  · refine thnF (Tn.done (X.blk sc Hc scope ce fp) rfl rfl rfl hc i [] se _ He (fun _ _ => False) Ie (frees Ie ne) ste stop) fun r sf ⟨er, If⟩ => ?_
    subst er
    have Ig : Inv X pins σ He sf := Ic.call' (ch := fp) If.os If.base If.hok If.bare fun b m => ⟨(fpc b m).1.2.2.2.1, (fpc b m).1.2.1, (fpc b m).1.2.2.2.2.1, (fpc b m).1.2.2.2.2.2⟩
    have nC : He sc.heap.objs.size = none := by
      have z : He ce.locals = none := If.free
      rwa [lce] at z
    obtain ⟨m, hn, _⟩ := If.loc
    have hn : sf.heap.Ns ce.locals m := hn
    rw [lce] at hn
    obtain ⟨f0, f1, f2, f3, f4, f5⟩ := Ic.fpOk (Nat.le_refl _) nC
    exact ⟨m, hn, fun h2 sb2 => ⟨.ref D, He, Ig.turned (t' := sf.toks) (fun b v hb e => (sb2.2 b hb).trans e) f0 f1 f3 f4 f5, rfl, qq⟩⟩
  · refine thnF (Tn.item (X.blk sc Hc scope ce fp) rfl rfl rfl hc i [] se _ He (fun _ _ => False) Ie (frees Ie ne) ste go) fun r sf ⟨u, er, hu⟩ => ?_
    subst er
    refine thnF hu fun _ sg ⟨x, Hg, Ig, rg, yg, stg, ng⟩ => ?_
    refine thnF (pg.run _ sg _ Hg x u _ (Ig.pinned (frees Ig ng) (Tn.obj _ _ stg)) rg (more x Hg yg)) fun _ sh ⟨σh, Hh, Ih, wh, qh⟩ => ?_
    refine thnF (pt.run _ sh σh Hh _ Ih qh) fun b sk ⟨Hk, Ik, qk⟩ => ?_
    have back : ∀ {s2 : Shared} {H2 : Hp}, Inv (X.blk sc Hc scope ce fp) ([] ++ pinsAt fp sg.heap) σh H2 s2 → Nx H2 → ∃ m, m < n ∧ Lp m s2 := fun {s2 H2} I2 nx => by
      obtain ⟨n2, lt, at2⟩ := less H2 nx
      have still : ∀ b ∈ fp, ∀ v, sg.heap.get? b = some v → s2.heap.get? b = some v ∧ H2 b = none := fun b m v e => by
        have z := I2.pin (b, v) (List.mem_append_right _ (List.mem_append_right _ (mem_pinsAt m e)))
        exact ⟨z.1, z.2.1⟩
      refine ⟨n2, lt, i + 1, H2, (I2.unpinned (pins := [])).weak (by rw [← wh, wipe_length]) (fun j v e => (wipe_some (by rw [wh]; exact e)).1), Tn.keep _ _ _ stg fun b m v e => (still b m v e).1, fun b m => ?_, at2⟩
      obtain ⟨v, e, _⟩ := Tn.obj _ _ stg b m
      exact (still b m v e).2
    cases b with
    | false => exact back Ik qk
    | true =>
      refine thnF (pe.run _ sk σh Hk _ Ik qk) fun z sl ⟨y, Hl, Il, rl, τ, R, dl, st, nx⟩ => ?_
      exact ad.add (X := X.blk sc Hc scope ce fp) rfl rfl rfl room Il dl rl st fun τ' sm r Im => back Im (nx τ' r (ad.nt (Im.hok _ _ upd_same)))
end
/-! ### the meaning: how many unlike things -/
def mSc (cnt : List D → Option Nat) (vs : List Nat) (mi : M (List D)) (g : D → M Unit) (mt : M Bool) (me : M D) : M Vl := mi.bind fun ds ρ => if wipeOk ρ vs = true then match lcLoop vs g mt me ds ρ with
    | .ok ys ρ' => match cnt ys with
      | some n => if ρ'.length = ρ.length then .ok (.fz (.int n)) (restore vs 0 ρ ρ') else .no
      | none => .no
    | _ => .no
  else .no
/-- what the set's contents have to do with the data that went in -/
structure Cnts (N : Nm) {T : Type} (o : T) (step : V → Hp → T → (T → Prop) → Prop) (cnt : List D → Option Nat) (Rel : Fz → Hp → T → List D → Prop) (sz : Hp → T → Nat → Prop) : Prop where
  nil : ∀ F H, Rel F H o []
  mono : ∀ {F F' : Fz} {H H' : Hp} {τ : T} {ys : List D}, (∀ a, F a → F' a) → (∀ a, F a → H' a = H a) → Rel F H τ ys → Rel F' H' τ ys
  step : ∀ {F : Fz} {H : Hp} {τ : T} {ys : List D} {v : V} {y : D} {zs : List D} {n : Nat}, cnt (ys ++ y :: zs) = some n → Rel F H τ ys → Rp N F H v y → ∃ R, step v H τ R ∧ ∀ τ', R τ' → Rel F H τ' (ys ++ [y])
  fin : ∀ {F : Fz} {H : Hp} {τ : T} {ys : List D} {n : Nat}, cnt ys = some n → Rel F H τ ys → sz H τ n
section
variable {X : Cx} {W : WX} {G : Gc} {L : Lt} {e a b tg elt iter : Expr} {pos : Pos} {c c0 c1 : Cf} {es ifs : List Expr} {scope : Scope} {own : List (Str × Nat)}
theorem Ex.hiddenS {p : Addr} {u : HO} (x : Ex G c c1) (h : c.H p = some u) (nf : ¬ c.F p) (no : ¬ c.own G p) (n : notTab u) : c1.H p = some u ∧ ¬ c1.F p ∧ ¬ c1.own G p := by
  refine ⟨x.keep p u h no, fun f => ?_, fun o => ?_⟩
  · rcases x.new p f with z | (z | ⟨xs, z⟩) | z
    · exact nf z
    · rw [h] at z; cases z
    · rw [h] at z; exact n.2.1 xs (Option.some.inj z)
    · exact no z
  · rcases x.sub p o with z | z
    · exact no z
    · rw [h] at z; cases z
theorem Ok.hidS {p : Addr} {u o : HO} (s : Ok G L c) (nf : ¬ c.F p) (no : ¬ c.own G p) (e : c.H p = some u) (n : notTab u) : Ok G L ⟨c.σ, c.ρ, c.F, upd c.H p o⟩ := by
  have kf : ∀ b, c.F b → upd c.H p o b = c.H b := fun b f => upd_ne fun z => nf (z ▸ f)
  refine ⟨s.len, fun i t e => (s.sl i t e).mono (fun _ f => f) kf fun w b q => ?_, s.sep, s.lent, s.lnL, fun b f => ?_, G.tabsSet s.tabs e n⟩
  · obtain ⟨b', d, q', ow, _⟩ := s.own e w
    rw [q] at q'
    cases q'
    exact ⟨ow.nf, upd_ne fun z => no (z ▸ .inr ⟨i, t, e, w, q⟩)⟩
  · obtain ⟨⟨u, e⟩, n⟩ := s.trk b f
    exact ⟨⟨u, (kf b f).trans e⟩, n⟩
theorem sc_spec {T : Type} {ob : Addr → T → HO} {o : T} {step : V → Hp → T → (T → Prop) → Prop} {cnt : List D → Option Nat} {Rel : Fz → Hp → T → List D → Prop} {sz : Hp → T → Nat → Prop} (cn : Cnts G.N o step cnt Rel sz)
    {mi : M (List D)} {g : D → M Unit} {mt : M Bool} {me : M D} (hi : SI X W G L tg iter mi)
    (hg : ∀ (s : Shared) (H : Hp) (C : Addr) (cl : List (Str × Addr)) (fp : List Addr), SGv (X.blk s H scope (compEnvC scope cl C X.env) fp) G L (own.map (·.2)) tg g)
    (ht : ∀ (s : Shared) (H : Hp) (C : Addr) (cl : List (Str × Addr)) (fp : List Addr), SPT (X.blk s H scope (compEnvC scope cl C X.env) fp) G L ifs mt)
    (he : ∀ (s : Shared) (H : Hp) (C : Addr) (cl : List (Str × Addr)) (fp : List Addr), SD (X.blk s H scope (compEnvC scope cl C X.env) fp) W0 G L elt me) :
    ∃ (wi : TI) (tg' : TG) (tt' : TT) (te' : TE), PI X tg iter wi ∧
      (∀ (s : Shared) (H : Hp) (C : Addr) (cl : List (Str × Addr)) (fp : List Addr), PG (X.blk s H scope (compEnvC scope cl C X.env) fp) tg tg') ∧
      (∀ (s : Shared) (H : Hp) (C : Addr) (cl : List (Str × Addr)) (fp : List Addr), PTs (X.blk s H scope (compEnvC scope cl C X.env) fp) ifs tt') ∧
      (∀ (s : Shared) (H : Hp) (C : Addr) (cl : List (Str × Addr)) (fp : List Addr), PE (X.blk s H scope (compEnvC scope cl C X.env) fp) elt te') ∧
      ∀ (c : Cf) (Q : VK), Ok G L c → Req G L W c (mSc cnt (own.map (·.2)) mi g mt me c.ρ) (fun r c' => ∀ v, VR G c c' v r → Q v c'.H) →
        tAd ob o step wi tg' tt' te' (own.map (·.2)) c.σ c.H fun v H => ∃ D τ n, [v] = [V.ref D] ∧ H D = some (ob D τ) ∧ sz H τ n ∧ Q (.int n) H := by
  obtain ⟨wi, p, q⟩ := hi.ex
  generalize hvs : own.map (·.2) = vs at *
  refine ⟨wi, fun v σ H Q => ∀ s H0 C cl fp, (Classical.choose (hg s H0 C cl fp).ex) v σ H Q, fun σ H Q => ∀ s H0 C cl fp, (Classical.choose (ht s H0 C cl fp).ex) σ H Q,
    fun σ H Q => ∀ s H0 C cl fp, (Classical.choose (he s H0 C cl fp).ex) σ H Q, p, fun s H C cl fp => PG.weak (Classical.choose_spec (hg s H C cl fp).ex).1 (fun v σ H' Q h => h s H C cl fp),
    fun s H C cl fp => PTs.weak (Classical.choose_spec (ht s H C cl fp).ex).1 (fun σ H' Q h => h s H C cl fp), fun s H C cl fp => PE.weak (Classical.choose_spec (he s H C cl fp).ex).1 (fun σ H' Q h => h s H C cl fp), fun c Q s h => ?_⟩
  refine q c _ s ((Req.bind h).imp fun ds c1 _ e1 x1 s1 h1 J it => ?_)
  intro Dd nD
  have h1 : Req G L W c1 (if wipeOk c1.ρ vs = true then match lcLoop vs g mt me ds c1.ρ with
    | .ok ys ρ' => match cnt ys with
      | some n => if ρ'.length = c1.ρ.length then .ok (Vl.fz (.int n)) (restore vs 0 c1.ρ ρ') else .no
      | none => .no
    | _ => .no
    else .no) _ := h1
  by_cases hw : wipeOk c1.ρ vs = true
  · rw [if_pos hw] at h1
    have hvl := wipeOk_lent s1 hw
    cases el : lcLoop vs g mt me ds c1.ρ with
    | no => rw [el] at h1; exact h1.elim
    | ex d ρ => rw [el] at h1; exact h1.elim
    | ok ws ρf =>
      rw [el] at h1
      have h1 : Req G L W c1 (match cnt ws with
        | some n => if ρf.length = c1.ρ.length then .ok (Vl.fz (.int n)) (restore vs 0 c1.ρ ρf) else .no
        | none => .no) _ := h1
      cases ec : cnt ws with
      | none => rw [ec] at h1; exact h1.elim
      | some n =>
        rw [ec] at h1
        have h1 : Req G L W c1 (if ρf.length = c1.ρ.length then .ok (Vl.fz (.int n)) (restore vs 0 c1.ρ ρf) else .no) _ := h1
        by_cases hz : ρf.length = c1.ρ.length
        · rw [if_pos hz] at h1
          have hfin := h1
          refine ⟨fun i m H => m = ds.length - i ∧ i ≤ ds.length ∧ ∃ (c2 : Cf) (τ : T) (ys zs : List D), c2.H = H ∧ wipe c2.σ vs = wipe c1.σ vs ∧ Ok G L c2 ∧ Ex G c1 c2 ∧ ¬ c2.F Dd ∧ ¬ c2.own G Dd ∧ c2.H Dd = some (ob Dd τ) ∧ notTab (ob Dd τ) ∧ Rel c2.F c2.H τ ys ∧ lcLoop vs g mt me (ds.drop i) c2.ρ = .ok zs ρf ∧ ys ++ zs = ws,
            fun nt0 => ⟨_, rfl, Nat.zero_le _, ⟨c1.σ, c1.ρ, c1.F, upd c1.H Dd (ob Dd o)⟩, o, [], ws, rfl, rfl, StR.grow s1 nD (fun _ z => z) (fun _ z => .inl z), Ext.grow s1 nD (fun _ z => z) (fun _ z => .inl z), fun f => ?_, fun o => ?_, upd_same, nt0, cn.nil _ _, el, rfl⟩, ?_⟩
          · obtain ⟨⟨u, e⟩, _⟩ := s1.trk Dd f
            rw [nD] at e; cases e
          · obtain ⟨u, e⟩ := s1.ownAt o
            rw [nD] at e; cases e
          · rintro i m H ⟨rfl, hi, c2, τ, ys, zs, rfl, hws, s2, x2, nf, no, hD, ntD, rl, ez, ew⟩
            obtain ⟨it1, it2⟩ := it c2 s2 x2.mono (fun a f => x2.fz s1 f) i
            by_cases hlt : i < ds.length
            · refine .inr ?_
              obtain ⟨go, yl⟩ := it1 ds[i] (List.getElem?_eq_getElem hlt)
              refine ⟨go, fun H' => i + 1 ≤ ds.length ∧ ∃ (c2 : Cf) (τ : T) (ys zs : List D), c2.H = H' ∧ wipe c2.σ vs = wipe c1.σ vs ∧ Ok G L c2 ∧ Ex G c1 c2 ∧ ¬ c2.F Dd ∧ ¬ c2.own G Dd ∧ c2.H Dd = some (ob Dd τ) ∧ notTab (ob Dd τ) ∧ Rel c2.F c2.H τ ys ∧ lcLoop vs g mt me (ds.drop (i + 1)) c2.ρ = .ok zs ρf ∧ ys ++ zs = ws,
                fun H' hN => ⟨ds.length - (i + 1), by omega, rfl, hN.1, hN.2⟩, fun x H' y => ?_⟩
              obtain ⟨F', x3, s3, rx⟩ := yl x H' y
              rw [List.drop_eq_getElem_cons hlt] at ez
              obtain ⟨u5, ρ5, eg, ez⟩ := bind_ok ez
              obtain ⟨k, ρ6, et, ez⟩ := bind_ok ez
              obtain ⟨s4, x4⟩ := wipe_ok (vs := vs) s3 hvl
              have hsig : wipe c.σ vs = wipe c2.σ vs := by rw [hws, e1]
              intro sh H0 C cl fp
              have sg := (Classical.choose_spec (hg sh H0 C cl fp).ex).2 ⟨wipe c2.σ vs, wipeR c2.ρ vs, F', H'⟩ x ds[i]
              rw [hsig]
              refine sg _ s4 rx ?_
              show ReqS G L W0 _ (g ds[i] (wipeR c2.ρ vs)) _
              rw [eg]
              intro σ5 F5 H5 x5 s5 hw5
              have hw5 : wipe σ5 vs = wipe (wipe c2.σ vs) vs := hw5
              rw [wipe_wipe] at hw5
              refine ⟨hw5, ?_⟩
              intro sh2 H02 C2 cl2 fp2
              refine (Classical.choose_spec (ht sh2 H02 C2 cl2 fp2).ex).2 ⟨σ5, ρ5, F5, H5⟩ _ s5 ?_
              show Req G L W0 _ (mt ρ5) _
              rw [et]
              intro F6 H6 x6 s6
              have x26 := ((x3.trans x4).trans x5).trans x6
              cases k with
              | true =>
                rw [if_pos rfl] at ez ⊢
                obtain ⟨y7, ρ7, em, ez⟩ := bind_ok ez
                obtain ⟨zs', ρ8, ezs, ez⟩ := bind_ok ez
                cases ez
                intro sh3 H03 C3 cl3 fp3
                refine (Classical.choose_spec (he sh3 H03 C3 cl3 fp3).ex).2 ⟨σ5, ρ6, F6, H6⟩ _ s6 ?_
                show Req G L W0 _ (me ρ6) _
                rw [em]
                intro F7 H7 x7 s7 v rv
                have x27 := x26.trans x7
                obtain ⟨hD7, nf7, no7⟩ := Ex.hiddenS (c1 := ⟨σ5, ρ7, F7, H7⟩) x27 hD nf no ntD
                have rl7 : Rel F7 H7 τ ys := cn.mono x27.mono (fun b f => x27.fz s2 f) rl
                rw [← ew] at ec
                obtain ⟨R, st, nx⟩ := cn.step ec rl7 rv
                refine ⟨τ, R, hD7, st, fun τ' r nt' => ⟨hlt, ⟨σ5, ρ7, F7, upd H7 Dd (ob Dd τ')⟩, τ', ys ++ [y7], zs', rfl, hw5.trans hws, Ok.hidS (c := ⟨σ5, ρ7, F7, H7⟩) s7 nf7 no7 hD7 ntD, Ex.hid (c := ⟨σ5, ρ7, F7, H7⟩) (x2.trans x27) nD, nf7, no7, upd_same, nt', ?_, ezs, ?_⟩⟩
                · exact cn.mono (fun _ f => f) (fun b f => upd_ne fun (z : b = Dd) => nf7 (by rw [← z]; exact f)) (nx τ' r)
                · rw [← ew, List.append_assoc]; rfl
              | false =>
                rw [if_neg Bool.false_ne_true] at ez ⊢
                obtain ⟨hD6, nf6, no6⟩ := Ex.hiddenS (c1 := ⟨σ5, ρ6, F6, H6⟩) x26 hD nf no ntD
                exact ⟨hlt, ⟨σ5, ρ6, F6, H6⟩, τ, ys, zs, rfl, hw5.trans hws, s6, x2.trans x26, nf6, no6, hD6, ntD, cn.mono x26.mono (fun b f => x26.fz s2 f) rl, ez, ew⟩
            · have e : ds.drop i = [] := List.drop_eq_nil_of_le (by omega)
              rw [e] at ez
              cases ez
              rw [List.append_nil] at ew
              subst ew
              refine .inl ⟨it2 (by omega), Dd, τ, n, rfl, hD, cn.fin ec rl, ?_⟩
              obtain ⟨s3, x3, ow3⟩ := restore_ok s1 hw hz hws x2 s2
              exact hfin c2.F c2.H x3 s3 _ (.int n)
        · rw [if_neg hz] at h1
          exact h1.elim
  · rw [if_neg hw] at h1
    exact h1.elim
end
/-! ### tuples of ints, ints -/
/-- the unlike ones among some, told from the left -/
def ded {α : Type} [DecidableEq α] (acc : List α) : List α → List α
  | [] => acc
  | k :: ks => ded (if k ∈ acc then acc else k :: acc) ks
theorem ded_snoc {α : Type} [DecidableEq α] (k : α) : ∀ (ks acc : List α), ded acc (ks ++ [k]) = if k ∈ ded acc ks then ded acc ks else k :: ded acc ks
  | [], acc => rfl
  | j :: ks, acc => ded_snoc k ks _
theorem ded_len {α : Type} [DecidableEq α] : ∀ (ks acc : List α), (ded acc ks).length ≤ acc.length + ks.length
  | [], acc => Nat.le_refl _
  | k :: ks, acc => by
    have h := ded_len ks (if k ∈ acc then acc else k :: acc)
    show (ded _ ks).length ≤ _
    rw [List.length_cons]
    split at h
    · rename_i m
      rw [if_pos m]
      omega
    · rename_i m
      rw [if_neg m]
      rw [List.length_cons] at h
      omega
def intsOf : D → Option (List Int)
  | .tup l => allI l
  | _ => none
def rowsI : List D → Option (List (List Int))
  | [] => some []
  | d :: ds => (intsOf d).bind fun k => (rowsI ds).map (k :: ·)
theorem rowsI_split : ∀ {a b : List D} {ks : List (List Int)}, rowsI (a ++ b) = some ks → ∃ k1 k2, rowsI a = some k1 ∧ rowsI b = some k2 ∧ ks = k1 ++ k2
  | [], b, ks, h => ⟨[], ks, rfl, h, rfl⟩
  | d :: a, b, ks, h => by
    obtain ⟨k, e1, h⟩ := Option.bind_eq_some_iff.mp (show (intsOf d).bind (fun k => (rowsI (a ++ b)).map (k :: ·)) = some ks from h)
    obtain ⟨js, e2, rfl⟩ := Option.map_eq_some_iff.mp h
    obtain ⟨k1, k2, e3, e4, rfl⟩ := rowsI_split e2
    refine ⟨k :: k1, k2, ?_, e4, rfl⟩
    show (intsOf d).bind (fun k => (rowsI a).map (k :: ·)) = _
    rw [e1, e3]
    rfl
theorem rowsI_snoc {d : D} {k : List Int} (hd : intsOf d = some k) : ∀ {a : List D} {ks : List (List Int)}, rowsI a = some ks → rowsI (a ++ [d]) = some (ks ++ [k])
  | [], ks, h => by
    cases h
    show (intsOf d).bind (fun k => (some []).map (k :: ·)) = _
    rw [hd]
    rfl
  | e :: a, ks, h => by
    obtain ⟨j, e1, h⟩ := Option.bind_eq_some_iff.mp (show (intsOf e).bind (fun k => (rowsI a).map (k :: ·)) = some ks from h)
    obtain ⟨js, e2, rfl⟩ := Option.map_eq_some_iff.mp h
    show (intsOf e).bind (fun k => (rowsI (a ++ [d])).map (k :: ·)) = _
    rw [e1, rowsI_snoc hd e2]
    rfl
theorem allI_split : ∀ {a b : List D} {ks : List Int}, allI (a ++ b) = some ks → ∃ k1 k2, allI a = some k1 ∧ allI b = some k2 ∧ ks = k1 ++ k2
  | [], b, ks, h => ⟨[], ks, rfl, h, rfl⟩
  | d :: a, b, ks, h => by
    cases d with
    | int i =>
      obtain ⟨js, e2, rfl⟩ := Option.map_eq_some_iff.mp (show (allI (a ++ b)).map (i :: ·) = some ks from h)
      obtain ⟨k1, k2, e3, e4, rfl⟩ := allI_split e2
      refine ⟨i :: k1, k2, ?_, e4, rfl⟩
      show (allI a).map (i :: ·) = _
      rw [e3]
      rfl
    | _ => cases h
theorem allI_snoc {i : Int} : ∀ {a : List D} {ks : List Int}, allI a = some ks → allI (a ++ [.int i]) = some (ks ++ [i])
  | [], ks, h => by cases h; rfl
  | d :: a, ks, h => by
    cases d with
    | int j =>
      obtain ⟨js, e2, rfl⟩ := Option.map_eq_some_iff.mp (show (allI a).map (j :: ·) = some ks from h)
      show (allI (a ++ [.int i])).map (j :: ·) = _
      rw [allI_snoc e2]
      rfl
    | _ => cases h
/-- how many unlike tuples of ints -/
def cntT (ys : List D) : Option Nat := (rowsI ys).bind fun ks => if ks.length < 63 then some (ded [] ks).length else none
/-- how many unlike ints -/
def cntI (ys : List D) : Option Nat := (allI ys).bind fun ks => if ks.length < 63 then some (ded [] ks).length else none
def RelT (F : Fz) (H : Hp) (L : List (Addr × List Int)) (ys : List D) : Prop := ∃ ks, rowsI ys = some ks ∧ (L.map (·.2)).Perm (ded [] ks) ∧ ∀ p ∈ L, F p.1 ∧ H p.1 = some (.tup (p.2.map V.int))
def szT (K : PySem.W.Frag) (H : Hp) (L : List (Addr × List Int)) (n : Nat) : Prop := (∀ p ∈ L, SqT K H p.1 (p.2.map V.int)) ∧ L.length = n
theorem cntsT (K : PySem.W.Frag) (G : Gc) : Cnts G.N [] (stepT K) cntT RelT (szT K) where
  nil := fun F H => ⟨[], rfl, .nil, fun p m => by cases m⟩
  mono := fun {F F' H H' L ys} hF hH ⟨ks, e, pm, h⟩ => ⟨ks, e, pm, fun p m => ⟨hF _ (h p m).1, (hH _ (h p m).1).trans (h p m).2⟩⟩
  step := by
    intro F H L ys v y zs n ec ⟨ks, e, pm, h⟩ rv
    obtain ⟨as, ea, ec⟩ := Option.bind_eq_some_iff.mp ec
    obtain ⟨k1, k2, e1, e2, rfl⟩ := rowsI_split ea
    rw [e] at e1
    cases e1
    split at ec
    · rename_i few
      obtain ⟨k, e3, e4⟩ := Option.bind_eq_some_iff.mp (show (intsOf y).bind (fun k => (rowsI zs).map (k :: ·)) = some k2 from e2)
      obtain ⟨k3, _, rfl⟩ := Option.map_eq_some_iff.mp e4
      have hl : L.length = (ded [] ks).length := by rw [← pm.length_eq, List.length_map]
      have hd := ded_len ks ([] : List (List Int))
      rw [List.length_append, List.length_cons] at few
      cases y with
      | tup l =>
        have e3 : allI l = some k := e3
        cases rv with
        | @tup a xs _ fa eh la =>
          obtain rfl := allI_ok la e3
          refine ⟨fun L2 => (k ∈ L.map (·.2) ∧ L2 = L) ∨ (k ∉ L.map (·.2) ∧ L2.Perm ((a, k) :: L)), ⟨a, k, rfl, .inl (.inl eh), fun p m => .inl (.inl (h p m).2), by simp only [List.length_nil] at hd; omega, fun m => .inl ⟨m, rfl⟩, fun m L2 p => .inr ⟨m, p⟩⟩, fun L2 hL2 => ?_⟩
          refine ⟨ks ++ [k], rowsI_snoc (d := .tup l) e3 e, ?_, ?_⟩
          · rw [ded_snoc]
            rcases hL2 with ⟨m, rfl⟩ | ⟨m, p2⟩
            · rw [if_pos (pm.mem_iff.mp m)]
              exact pm
            · rw [if_neg fun z => m (pm.mem_iff.mpr z)]
              exact (p2.map _).trans (pm.cons k)
          · rcases hL2 with ⟨m, rfl⟩ | ⟨m, p2⟩
            · exact h
            · intro p mp
              rcases List.mem_cons.mp (p2.mem_iff.mp mp) with rfl | mp
              · exact ⟨fa, eh⟩
              · exact h p mp
      | _ => cases e3
    · cases ec
  fin := by
    intro F H L ys n ec ⟨ks, e, pm, h⟩
    refine ⟨fun p m => .inl (.inl (h p m).2), ?_⟩
    obtain ⟨as, ea, ec⟩ := Option.bind_eq_some_iff.mp ec
    rw [e] at ea
    cases ea
    split at ec
    · cases ec
      rw [← pm.length_eq, List.length_map]
    · cases ec
def RelI (_ : Fz) (_ : Hp) (τ : (Int → Bool) × Nat) (ys : List D) : Prop := ∃ ks, allI ys = some ks ∧ (∀ j, τ.1 j = true ↔ j ∈ ded [] ks) ∧ τ.2 = (ded [] ks).length
theorem cntsI (G : Gc) : Cnts G.N (fun _ => false, 0) stepI cntI RelI (fun _ τ n => τ.2 = n) where
  nil := fun F H => ⟨[], rfl, fun j => ⟨fun z => (nomatch z), fun z => (nomatch z)⟩, rfl⟩
  mono := fun _ _ h => h
  step := by
    intro F H τ ys v y zs n ec ⟨ks, e, hm, hn⟩ rv
    obtain ⟨as, ea, ec⟩ := Option.bind_eq_some_iff.mp ec
    obtain ⟨k1, k2, e1, e2, rfl⟩ := allI_split ea
    rw [e] at e1
    cases e1
    split at ec
    · rename_i few
      have hd := ded_len ks ([] : List Int)
      have sb : scanBound = 4096 := rfl
      rw [List.length_append] at few
      cases y with
      | int k =>
        cases rv
        refine ⟨fun τ' => τ' = (fun j => τ.1 j || decide (j = k), if τ.1 k = true then τ.2 else τ.2 + 1), ⟨k, rfl, by rw [hn, sb]; simp only [List.length_nil] at hd; omega, rfl⟩, fun τ' r => ?_⟩
        subst r
        refine ⟨ks ++ [k], allI_snoc e, fun j => ?_, ?_⟩
        · show (τ.1 j || decide (j = k)) = true ↔ _
          rw [ded_snoc, Bool.or_eq_true, decide_eq_true_eq, hm j]
          by_cases m : k ∈ ded [] ks
          · rw [if_pos m]
            exact ⟨fun z => z.elim id fun e => e ▸ m, .inl⟩
          · rw [if_neg m, List.mem_cons]
            exact Or.comm
        · show (if τ.1 k = true then τ.2 else τ.2 + 1) = _
          rw [ded_snoc, hn]
          by_cases m : k ∈ ded [] ks
          · rw [if_pos m, if_pos ((hm k).mpr m)]
          · rw [if_neg m, if_neg fun z => m ((hm k).mp z), List.length_cons]
      | _ => cases e2
    · cases ec
  fin := by
    intro F H τ ys n ec ⟨ks, e, hm, hn⟩
    obtain ⟨as, ea, ec⟩ := Option.bind_eq_some_iff.mp ec
    rw [e] at ea
    cases ea
    split at ec
    · cases ec
      exact hn
    · cases ec
/-! ### len(..) of them -/
section
variable {X : Cx} {W : WX} {G : Gc} {L : Lt} {e a b tg elt iter : Expr} {pos p : Pos} {c c0 c1 : Cf} {es ifs : List Expr} {scope : Scope} {own : List (Str × Nat)}
def rLenS {T : Type} (ob : Addr → T → HO) (sz : Hp → T → Nat → Prop) : List V → Hp → VK → Prop := fun xs H Q => ∃ D τ n, xs = [V.ref D] ∧ H D = some (ob D τ) ∧ sz H τ n ∧ Q (.int n) H
theorem call_lenT : CallR X (.builtin "len") (rLenS (SetTO X.prog X.w) (szT X.K)) := by
  intro pins s σ H xs us Q I r h
  obtain ⟨D, τ, n, rfl, hD, ⟨h1, rfl⟩, q⟩ := h
  rw [Vals.ref1 r]
  have R0 : SetT0 X.prog X.w s.heap D τ := (I.hok D _ hD).1
  obtain ⟨es, ep, t, R⟩ := R0.full fun p m => I.isT (h1 p m)
  obtain ⟨o, oa, ex, od⟩ := R.ob
  have few := R.few
  have sz := R.size
  exact call_len_set oa ex od R.fits (by rw [sz]; omega) ⟨.int τ.length, H, (I.tok _).tok _, ⟨_, by rw [sz]⟩, q⟩
theorem call_lenI : CallR X (.builtin "len") (rLenS (IntsO X.w) (fun _ τ n => τ.2 = n)) := by
  intro pins s σ H xs us Q I r h
  obtain ⟨D, τ, n, rfl, hD, rfl, q⟩ := h
  rw [Vals.ref1 r]
  have R : SetR X.w s.heap D τ.1 τ.2 := (I.hok D _ hD).1
  obtain ⟨o, es, ep, t, oa, ex, od, _, _, _, hb, hf, sz, _⟩ := R
  have sb : scanBound = 4096 := rfl
  exact call_len_set oa ex od hf (by omega) ⟨.int τ.2, H, (I.tok _).tok _, ⟨_, by rw [sz]⟩, q⟩
theorem SE.lenSc {T : Type} {ob : Addr → T → HO} {o : T} {step : V → Hp → T → (T → Prop) → Prop} {cnt : List D → Option Nat} {Rel : Fz → Hp → T → List D → Prop} {sz : Hp → T → Nat → Prop} {k : Nat} {pos2 : Pos}
    (ad : Adds X.prog X.w X.K T ob o step) (cn : Cnts G.N o step cnt Rel sz) (cl : CallR X (.builtin "len") (rLenS ob sz)) (hr : RoomG k X.A) (hgl : Gl X "len") (hml : X.mg "len" = none)
    {mi : M (List D)} {g : D → M Unit} {mt : M Bool} {me : M D} (hc : X.calm = true) (hN : X.N.Nodup) (ok : BlkOk X.N X.env.scope scope own) (hi : SI X W G L tg iter mi)
    (hg : ∀ (s : Shared) (H : Hp) (C : Addr) (cl : List (Str × Addr)) (fp : List Addr), SGv (X.blk s H scope (compEnvC scope cl C X.env) fp) G L (own.map (·.2)) tg g)
    (ht : ∀ (s : Shared) (H : Hp) (C : Addr) (cl : List (Str × Addr)) (fp : List Addr), SPT (X.blk s H scope (compEnvC scope cl C X.env) fp) G L ifs mt)
    (he : ∀ (s : Shared) (H : Hp) (C : Addr) (cl : List (Str × Addr)) (fp : List Addr), SD (X.blk s H scope (compEnvC scope cl C X.env) fp) W0 G L elt me)
    (hs : ∀ x, foldedSetIterable iter X.env x = pure x := by intro _; rfl)
    (hse : starEach [.SetComp elt [⟨tg, iter, ifs, 0⟩] scope pos] X.env = (false, eval (.SetComp elt [⟨tg, iter, ifs, 0⟩] scope pos) X.env) :: starEach [] X.env := by rfl) (hpl : (backTo pos2 (starEach [] X.env)).any (·.1) = false := by rfl) :
    SE X W G L (.Call (.Name "len" p) [.SetComp elt [⟨tg, iter, ifs, 0⟩] scope pos] [] pos2) (mSc cnt (own.map (·.2)) mi g mt me) := by
  obtain ⟨wi, tg', tt', te', pi, h1, h2, h3, q⟩ := sc_spec (own := own) cn hi hg ht he
  have ps := pe_ad ad (by have := hr.room.un; omega) hc hN pi ok h1 h2 h3 hs (pos := pos)
  refine ⟨_, pe_callB cl hgl hml bt_len (pa_cons ps pa_nil hse) (by decide) (by decide) hse hpl, fun c Q s h => ?_⟩
  exact q c Q s h
end
end Ev

/-! EvSo: sorted lists of pairs of ints below 64. -/
namespace Ev
open PySem PySem.Spec PyProof.Rows L2
def pairD (p : Int × Int) : D := .tup [.int p.1, .int p.2]
def pairOf : D → Option (Int × Int)
  | .tup [.int a, .int b] => if 0 ≤ a ∧ a < 64 ∧ 0 ≤ b ∧ b < 64 then some (a, b) else none
  | _ => none
def pairsOf : List D → Option (List (Int × Int))
  | [] => some []
  | d :: l => (pairOf d).bind fun p => (pairsOf l).map (p :: ·)
def pairLe (p q : Int × Int) : Bool := decide (p.1 * 64 + p.2 ≤ q.1 * 64 + q.2)
def Small2 (p : Int × Int) : Prop := 0 ≤ p.1 ∧ p.1 < 64 ∧ 0 ≤ p.2 ∧ p.2 < 64
theorem pairOf_eq {d : D} {p : Int × Int} (h : pairOf d = some p) : d = pairD p ∧ Small2 p := by
  unfold pairOf at h
  split at h
  · split at h
    · rename_i hb
      cases h
      exact ⟨rfl, hb⟩
    · cases h
  · cases h
theorem pairsOf_eq : ∀ {l : List D} {ps : List (Int × Int)}, pairsOf l = some ps → l = ps.map pairD ∧ ∀ p ∈ ps, Small2 p
  | [], ps, h => by cases h; exact ⟨rfl, fun p m => by cases m⟩
  | d :: l, ps, h => by
    obtain ⟨p, e1, h⟩ := Option.bind_eq_some_iff.mp (show (pairOf d).bind (fun p => (pairsOf l).map (p :: ·)) = some ps from h)
    obtain ⟨qs, e2, rfl⟩ := Option.map_eq_some_iff.mp h
    obtain ⟨rfl, hb⟩ := pairOf_eq e1
    obtain ⟨rfl, hq⟩ := pairsOf_eq e2
    refine ⟨rfl, fun p m => ?_⟩
    rcases List.mem_cons.mp m with rfl | m
    · exact hb
    · exact hq p m
section
variable {N : Nm} {F : Fz} {H : Hp} {K : PySem.W.Frag}
theorem RpL.permF {α : Type} {f : α → D} {ys xs : List V} (pm : ys.Perm xs) : ∀ {ps : List α}, RpL N F H xs (ps.map f) → ∃ qs : List α, qs.Perm ps ∧ RpL N F H ys (qs.map f) := by
  induction pm with
  | nil =>
    intro ps r
    cases ps with
    | nil => exact ⟨[], .nil, .nil⟩
    | cons p ps => cases r
  | cons x _ ih =>
    intro ps r
    cases ps with
    | nil => cases r
    | cons p ps =>
      cases r with
      | cons r1 r2 =>
        obtain ⟨qs, h1, h2⟩ := ih r2
        exact ⟨p :: qs, h1.cons p, .cons r1 h2⟩
  | swap x y l =>
    intro ps r
    cases ps with
    | nil => cases r
    | cons p ps =>
      cases r with
      | cons r1 r2 =>
        cases ps with
        | nil => cases r2
        | cons q ps =>
          cases r2 with
          | cons r2 r3 => exact ⟨q :: p :: ps, .swap p q ps, .cons r2 (.cons r1 r3)⟩
  | trans _ _ ih1 ih2 =>
    intro ps r
    obtain ⟨qs, h1, h2⟩ := ih2 r
    obtain ⟨rs, h3, h4⟩ := ih1 h2
    exact ⟨rs, h3.trans h1, h4⟩
theorem pair_tup {x : V} {p : Int × Int} (r : Rp N F H x (pairD p)) : TupI K H x [p.1, p.2] := by
  cases r with
  | tup f e l =>
    cases l with
    | cons r1 l =>
      cases l with
      | cons r2 l =>
        cases l
        cases r1
        cases r2
        exact ⟨_, rfl, .inl (.inl e)⟩
theorem RpL.memF {α : Type} {f : α → D} : ∀ {ps : List α} {xs : List V}, RpL N F H xs (ps.map f) → ∀ x ∈ xs, ∃ p ∈ ps, Rp N F H x (f p)
  | [], _, r, x, m => by cases r; cases m
  | p :: ps, _, r, x, m => by
    cases r with
    | cons r1 r2 =>
      rcases List.mem_cons.mp m with rfl | m
      · exact ⟨p, List.mem_cons_self, r1⟩
      · obtain ⟨q, h1, h2⟩ := RpL.memF r2 x m
        exact ⟨q, List.mem_cons_of_mem _ h1, h2⟩
theorem RpL.getF {α : Type} {f : α → D} {p : α} : ∀ {ps : List α} {ys : List V}, p ∈ ps → RpL N F H ys (ps.map f) → ∃ y ∈ ys, Rp N F H y (f p)
  | q :: ps, _, m, r => by
    cases r with
    | cons r1 r2 =>
      rcases List.mem_cons.mp m with rfl | m
      · exact ⟨_, List.mem_cons_self, r1⟩
      · obtain ⟨y, h1, h2⟩ := RpL.getF m r2
        exact ⟨y, List.mem_cons_of_mem _ h1, h2⟩
theorem sorted_pairs : ∀ {qs : List (Int × Int)} {ys : List V}, RpL N F H ys (qs.map pairD) → ys.Pairwise (fun x y => ∀ n m, TupI K H x n → TupI K H y m → TS.code 64 n ≤ TS.code 64 m) → qs.Pairwise fun p q => pairLe p q = true
  | [], _, _, _ => .nil
  | q :: qs, _, r, pw => by
    cases r with
    | cons r1 r2 =>
      cases pw with
      | cons h1 h2 =>
        refine .cons (fun p m => ?_) (sorted_pairs r2 h2)
        obtain ⟨y, my, ry⟩ := RpL.getF m r2
        have := h1 y my _ _ (pair_tup r1) (pair_tup ry)
        rw [code_pair, code_pair] at this
        exact decide_eq_true this
end
def sortP (ps : List (Int × Int)) : List D := (ps.mergeSort pairLe).map pairD
def bSort : List D → Option Vl
  | [.lst l] => (pairsOf l).bind fun ps => if ps.length < 64 then some (.nw (.lst (sortP ps))) else none
  | _ => none
section
variable {X : Cx} {W : WX} {G : Gc} {L : Lt} {e : Expr} {pos p : Pos} {es : List Expr} {m : M (List D)}
theorem bSort_ok : CallOk X W G L (rSortU X.K 2 64) bSort := by
  intro c0 c ds vs Q _ ex s r hr
  obtain ⟨w, er, hr⟩ := liftO_req hr
  unfold bSort at er
  split at er
  · obtain ⟨ps, e1, er2⟩ := Option.bind_eq_some_iff.mp er
    obtain ⟨rfl, sm⟩ := pairsOf_eq e1
    split at er2
    · rename_i few
      cases er2
      cases r with
      | cons r1 r2 =>
        cases r2
        cases r1 with
        | @lst a xs _ f ha la =>
          refine ⟨a, xs, rfl, .inl (.inl ha), by rw [la.length, List.length_map]; exact few, fun x mx => ?_, fun ys q pm pw n => ?_⟩
          · obtain ⟨t, mt, rt⟩ := RpL.memF la x mx
            obtain ⟨b1, b2, b3, b4⟩ := sm t mt
            refine ⟨[t.1, t.2], pair_tup rt, rfl, fun i mi => ?_⟩
            simp only [List.mem_cons, List.not_mem_nil, or_false] at mi
            rcases mi with rfl | rfl
            · exact ⟨b1, b2⟩
            · exact ⟨b3, b4⟩
          · obtain ⟨qs, h1, h2⟩ := RpL.permF pm la
            have h3 := sorted_pairs h2 pw
            have h4 : (ps.mergeSort pairLe).Pairwise fun p q => pairLe p q = true := List.pairwise_mergeSort (fun a b c h k => by
              have h := of_decide_eq_true h
              have k := of_decide_eq_true k
              exact decide_eq_true (by omega)) (fun a b => by
              rw [Bool.or_eq_true]
              rcases Int.le_total (a.1 * 64 + a.2) (b.1 * 64 + b.2) with z | z
              · exact .inl (decide_eq_true z)
              · exact .inr (decide_eq_true z)) ps
            have h5 : qs = ps.mergeSort pairLe := List.Perm.eq_of_pairwise (le := fun p q => pairLe p q = true) (fun a b ma mb h k => by
              have h := of_decide_eq_true h
              have k := of_decide_eq_true k
              obtain ⟨a1, a2, a3, a4⟩ := sm a (h1.mem_iff.mp ma)
              obtain ⟨b1, b2, b3, b4⟩ := sm b ((List.mergeSort_perm ps pairLe).mem_iff.mp mb)
              refine Prod.ext ?_ ?_ <;> omega) h3 h4 (h1.trans (List.mergeSort_perm ps pairLe).symm)
            subst h5
            exact newLst ex s h2 n hr
    · cases er2
  · cases er
theorem bt_sorted : bootBuiltins "sorted" = some (.builtin "sorted") := by decide +kernel
theorem SE.sorted (hg : Gl X "sorted") (hm : X.mg "sorted" = none) (ha : SA X W G L (e :: es) m) (he : starEach (e :: es) X.env = (false, eval e X.env) :: starEach es X.env := by rfl) (hpl : (backTo pos (starEach es X.env)).any (·.1) = false := by rfl) : SE X W G L (.Call (.Name "sorted" p) (e :: es) [] pos) (evC bSort m) := SE.callB (cr_sortT (by decide)) bSort_ok hg hm bt_sorted ha (by decide) (by decide) he hpl
theorem p_sort (ps : List (Int × Int)) (l : List D) (h : pairsOf l = some ps) (hl : ps.length < 64) : bSort [.lst l] = some (.nw (.lst (sortP ps))) := by
  show (pairsOf l).bind _ = _
  rw [h]
  exact if_pos hl
end
end Ev

/-! EvMi: is not True, is not False. -/
namespace Ev
open PySem PySem.Spec PyProof.Rows L2
section
variable {X : Cx} {W : WX} {G : Gc} {L : Lt} {a b : Expr} {pos : Pos}
def cNotB : D → D → Option Vl
  | .bl i, .bl j => some (.fz (.bl (!decide (i = j))))
  | _, _ => none
theorem cNotB_ok : BinOk X W G L rNotB cNotB := by
  intro c0 c x y v u Q _ ex s rx ry hr
  obtain ⟨r, er, hr⟩ := liftO_req hr
  unfold cNotB at er
  split at er
  · cases er
    cases rx
    cases ry
    exact ⟨_, _, rfl, rfl, Req.here hr s _ (.bl _)⟩
  · cases er
theorem SE.notB {ma mb : M D} (ha : SD X W G L a ma) (hb : SD X W G L b mb) : SE X W G L (.Compare a [.IsNot] [b] pos) (ev2 cNotB ma mb) := SE.cmp op_notBl cNotB_ok ha hb (nomark _)
theorem ST.notB {ma mb : M D} (ha : SD X W G L a ma) (hb : SD X W G L b mb) : ST X W G L (.Compare a [.IsNot] [b] pos) (ev2T cNotB ma mb) := ST.cmp op_notBl cNotB_ok ha hb (nomark _)
theorem p_notB (i j : Bool) : cNotB (.bl i) (.bl j) = some (.fz (.bl (!decide (i = j)))) := (rfl)
end
/-! ### xs[::-1] -/
theorem RpL.rev {N : Nm} {F : Fz} {H : Hp} : ∀ {xs : List V} {l : List D}, RpL N F H xs l → RpL N F H xs.reverse l.reverse
  | _, _, .nil => .nil
  | x :: xs, d :: l, .cons r t => by
    rw [List.reverse_cons, List.reverse_cons]
    exact RpL.append (RpL.rev t) (.cons r .nil)
def fRev : D → Option Vl
  | .lst l => some (.nw (.lst l.reverse))
  | _ => none
theorem SE.rev {X : Cx} {W : WX} {G : Gc} {L : Lt} {e : Expr} {k : Nat} {p1 p2 p3 pos : Pos} {md : M D} (h : SD X W G L e md) : SE X W G L (.Subscript e (.Slice none none (some (.UnaryOp .USub (.Constant (.int 1) k p1) p2)) p3) pos) (ev1 fRev md) := by
  obtain ⟨t, pe, q⟩ := h.ex
  refine ⟨_, pe_revL pe, fun c Q s h => ?_⟩
  refine q c _ s ((Req.bind h).imp fun d c1 _ e1 x1 s1 h1 v rv => ?_)
  obtain ⟨w, er, h2⟩ := liftO_req h1
  cases d with
  | lst l =>
    cases er
    cases rv with
    | lst f r la => exact ⟨_, _, rfl, .inl (.inl r), fun q n => newLst x1 s1 la.rev n h2⟩
  | _ => cases er
theorem p_rev (l : List D) : fRev (.lst l) = some (.nw (.lst l.reverse)) := (rfl)
/-! ### defs that call themselves: so many times over -/
/-- no meaning -/
def noFn : Fn := fun _ => .no
theorem fn_none {P : Program} {w : World} {K : PySem.W.Frag} {mg : Str → Option Value} {base : Heap} {CX : CXT} {k n : Nat} {f : Addr} {fd : FuncData} {ps : List Str} {G : Gc} (hn : n = ps.length := by rfl) : FnG P w K mg base CX k f fd ps (spEv G noFn n) :=
  ⟨fun vs H Q E h => h.1.trans hn, fun A outer s H args us vs Q E _ _ _ _ h => by
    obtain ⟨_, F, as, _, _, q⟩ := h
    exact q.elim⟩
end Ev

/-! EvOq: == and != of own objects whose class has a def for ==. -/
namespace Ev
open PySem PySem.Spec PyProof.Rows L2
section
variable {prog : Program} {w : World} {A : Around} {E : Value → Shared → Prop} {s : Shared} {K : PySem.W.Frag} {x C f : Addr} {ox : Obj} {od : Option Obj} {b tb : Value}
/-- the class's == is a def of the text, its != the one that all objects have -/
structure EqD (K : PySem.W.Frag) (C f : Addr) : Prop where
  has : PySem.W.findIn K (.ref C) "__eq__" = some (some (.ref f))
  ne : PySem.W.findIn K (.ref C) "__ne__" = some (some (.builtin "object.__ne__"))
  fn : PySem.W.isFn K (.ref f) = true
  mo : PySem.W.mroIn K C (.type "object") = some true
theorem fit_of_kit (h : PySem.W.kitOne K tb (.ref C) = some false) : PySem.W.notFirst K C tb = true := by
  unfold PySem.W.kitOne at h
  split at h
  · cases h
  · unfold PySem.W.kitCls at h
    dsimp only at h
    split at h
    · unfold PySem.W.notFirst
      rw [h]
      simp
    · cases h
theorem fit_self : PySem.W.notFirst K C (.ref C) = true := by
  unfold PySem.W.notFirst
  simp
/-- a truth handed back -/
def BackB (Q : Bool → Shared → Prop) (v : Value) (s' : Shared) : Prop := ∃ t : Bool, v = .bool t ∧ Q t s'
theorem objNe_entry (hu : A.units < cLine) (X : K.In s.heap) (I : PySem.W.InstAt s.heap x ox C od) (D : EqD K C f) {Q : Fin → Shared → Prop}
    (h : wpAny (model prog w) A (call (.ref f) [.ref x, b]) (BackB fun t s' => Q (.done (.ret (.bool (!t)))) s') E s) :
    wpAny (model prog w) A (Builtin.«object.__ne__» ⟨[.ref x, b], []⟩) Q E s := by
  unfold Builtin.«object.__ne__»
  show wpAny _ _ (do cRoomFor "comparison" [.ref x, b]; _) _ _ _
  refine wpAny_bind (wpAny_cRoomFor hu ?_)
  refine wpAny_bind (m := callSpecialIfBound? (.ref x) (Str.ofString "__eq__") [b]) (PySem.W.ifBound_K X I D.has D.fn (wpAny_mono h (fun v s' hv => ?_) fun _ _ e => e))
  obtain ⟨t, rfl, q⟩ := hv
  exact wpAny_bind (wpAny_truthy_bool (wpAny_pure q))
theorem call_objNe (hu : A.units + 1 < cLine) (X : K.In s.heap) (I : PySem.W.InstAt s.heap x ox C od) (D : EqD K C f) {Q : Value → Shared → Prop}
    (h : wpAny (model prog w) A.in1 (call (.ref f) [.ref x, b]) (BackB fun t s' => Q (.bool (!t)) s') E s) :
    wpAny (model prog w) A (call (.builtin "object.__ne__") [.ref x, b]) Q E s :=
  wpAny_call (codeAny_call_builtin F.cmp_object.ne.plain F.cmpEntry_ne (PySem.W.check_slot F.cmpKind_ne F.cmpSplit_ne (I.type.andThen (PySem.W.looks_mroIn X D.mo)) (F.cmpArgs_ne _ _)
    (objNe_entry (A := A.in1) hu X I D (wpAny_mono h (fun v s' hv => by obtain ⟨t, e, q⟩ := hv; exact ⟨t, e, q⟩) fun _ _ e => e))))
theorem ifBound_objNe {M : Model} {args : List Value} {Q : Option Value → Shared → Prop} (X : K.In s.heap) (I : PySem.W.InstAt s.heap x ox C od) (hs : PySem.W.findIn K (.ref C) "__ne__" = some (some (.builtin "object.__ne__")))
    (h : wpAny M A (call (.builtin "object.__ne__") (.ref x :: args)) (fun v => Q (some v)) E s) : wpAny M A (callSpecialIfBound? (.ref x) "__ne__" args) Q E s := by
  simp only [callSpecialIfBound?, bindSpecialIfBound?]
  refine wpAny_holding (wpAny_bind (wpAny_bind (wpAny_bind (I.type.here ((PySem.W.looks_findIn X hs).here ?_)))))
  refine wpAny_bind (wpAny_askSetting (wpAny_ite ?_))
  have last : wpAny M A (call (.builtin "object.__ne__") ([.ref x] ++ args) >>= fun v => pure (some v)) Q E s := wpAny_bind (wpAny_mono h (fun v s' h' => wpAny_pure h') fun _ _ h' => h')
  split
  · exact wpAny_bind (wpAny_of_eq (F.cmp_object.ne.bind _) (wpAny_pure (by exact last)))
  · exact wpAny_tryCatch (wpAny_bind (wpAny_of_eq (F.cmp_object.ne.bind _) (wpAny_pure (by exact last))))
theorem rcNe_own {Q : Value → Shared → Prop} (hu : A.units + 1 < cLine) (X : K.In s.heap) (I : PySem.W.InstAt s.heap x ox C od) (D : EqD K C f) (hb : PySem.W.Looks (model prog w) s.heap (typeOf b) tb) (hn : PySem.W.notFirst K C tb = true)
    (h : wpAny (model prog w) A.in1 (call (.ref f) [.ref x, b]) (BackB fun t s' => Q (.bool (!t)) s') E s) : wpAny (model prog w) A (richCompare .NotEq (.ref x) b) Q E s := by
  have one : wpAny (model prog w) A (tryCompare (.ref x) "__ne__" b) (fun r s' => ∃ t : Bool, r = some (.bool t) ∧ Q (.bool t) s') E s := by
    unfold tryCompare
    refine wpAny_bind (ifBound_objNe X I D.ne (call_objNe hu X I D (wpAny_mono h (fun v s' hv => ?_) fun _ _ e => e)))
    obtain ⟨t, e, q⟩ := hv
    exact ⟨t, e, wpAny_pure ⟨!t, rfl, q⟩⟩
  simp only [richCompare, cmpInfo_NotEq, oneThing_ref]
  refine wpAny_holding (wpAny_bind (wpAny_cRoomFor (by omega) ?_))
  refine wpAny_bind (I.type.here (wpAny_bind (hb.here ?_)))
  split
  · rename_i q
    have e : PySem.W.subIn K tb (.ref C) = some false := by
      rcases Bool.or_eq_true_iff.mp hn with e | e
      · rw [beq_iff_eq.mp e] at q; simp at q
      · exact beq_iff_eq.mp e
    refine wpAny_bind ((PySem.W.looks_subIn X e).here ?_)
    simp only [Bool.false_eq_true, if_false]
    refine wpAny_bind (wpAny_mono one (fun r s' z => ?_) fun _ _ e => e)
    obtain ⟨v, rfl, hq⟩ := z
    exact wpAny_pure hq
  · refine wpAny_bind (wpAny_pure ?_)
    simp only [Bool.false_eq_true, if_false]
    refine wpAny_bind (wpAny_mono one (fun r s' z => ?_) fun _ _ e => e)
    obtain ⟨v, rfl, hq⟩ := z
    exact wpAny_pure hq
end
section
variable {X : Cx} {W : WX} {G : Gc} {L : Lt} {k : Nat}
/-- == (neg: !=) of an own object with another value, by the class's def -/
def rEqO (X : Cx) (G : Gc) (k : Nat) (neg : Bool) : R2 := fun v u H Q => ∃ (a C dx : Addr) (fs : List (Str × V)) (tb : Value) (f : Addr) (fd : FuncData) (ps : List Str) (φ : Fn),
  v = .ref a ∧ H a = some (.ins C dx fs) ∧ TyX X.K H u tb ∧ PySem.W.notFirst X.K C tb = true ∧ EqD X.K C f ∧ FnG X.prog X.w X.K X.mg X.base (L2.CX X.prog X.w) k f fd ps (spEv G φ 2) ∧ Binds X.K fd ps [] ∧
  spEv G φ 2 [v, u] H (fun z H' => ∃ t : Bool, z = .bl t ∧ Q (.bl (neg ^^ t)) H') fun _ _ _ => False
theorem takes_no : Takes X fun _ _ _ _ => False := fun u s' ⟨_, _, _, _, _, _, _, _, _, _, _, _, _, _, _, _, w⟩ => w.elim
theorem run_eq {A : Around} (hr : RoomG k A) (fr : A.frames = X.A.frames) {pins : List (Addr × Obj)} {s : Shared} {σ : L2.St} {H : Hp} {v u : V} {y z : Value} {Q : V → Hp → Prop} {f : Addr} {fd : FuncData} {ps : List Str} {φ : Fn}
    (F : FnG X.prog X.w X.K X.mg X.base (L2.CX X.prog X.w) k f fd ps (spEv G φ 2)) (hb : Binds X.K fd ps []) (I : Inv X pins σ H s) (ry : RelV v y) (rz : RelV u z)
    (h : spEv G φ 2 [v, u] H Q fun _ _ _ => False) : wpAny (model X.prog X.w) A (call (.ref f) [y, z]) (EP X pins σ Q) X.xe s := by
  have r2 : Vals [v, u] [y, z] := .cons ry (.cons rz .nil)
  have hl : [y, z].length = ps.length := F.len _ _ _ _ h
  have e0 : Env0 X.prog X.w X.K X.mg X.base A X.stack s H := by
    have e := I.env0
    exact ⟨by rw [fr]; exact e.frames, e.mod, e.bs, e.bsz, e.funs, e.frf, e.hok, e.bare⟩
  have bt : BindsTo s fd ⟨[y, z], []⟩ (ps.zip [y, z]) := by
    have := hb s [y, z] I.kIn (by simpa using hl)
    simpa using this
  refine wpAny_call (codeAny_mono (F.run A X.stack s H ⟨[y, z], []⟩ [y, z] [v, u] Q _ hr e0 bt r2 h) fun r s' hq => ?_)
  cases r with
  | error e => exact takes_no e s' (XE.of_call I (fun cls d H' h => h) hq)
  | ok fl =>
    cases fl with
    | ret u => exact I.after hq
    | next => exact False.elim hq
    | brk => exact False.elim hq
    | cont => exact False.elim hq
theorem RoomG.in1 {A : Around} (h : RoomG (k + 1) A) : RoomG k A.in1 := ⟨h.room.in1, h.gd⟩
theorem op_eqO (hr : RoomG (k + 1) X.A) : OpR X (compareOp .Eq) (rEqO X G k false) := by
  intro pins s σ H x y v u Q I rx ry hq
  obtain ⟨a, C, dx, fs, tb, f, fd, ps, φ, rfl, ha, ty, hn, D, F, hb, sp⟩ := hq
  cases (show v = Value.ref a from rx)
  obtain ⟨mA, O, _⟩ := ins_get I.hok ha
  obtain ⟨od, J, _⟩ := O.look
  obtain ⟨P, Z, hP, _⟩ := kit_of I ry ty
  obtain ⟨m, hF⟩ := I.fr
  show wpAny (model X.prog X.w) X.A (richCompare .Eq (.ref a) u) (EP X pins σ Q) X.xe s
  refine PySem.W.cmp_K (op := .Eq) (tb := tb) hr.room.units0 hF I.ok.mod.kin J (Z.ty _ s.heap I.kIn hP) hn D.has D.fn (wpAny_mono (run_eq (hr.mono (Nat.le_succ _)) rfl F hb I (show RelV (.ref a) (.ref a) from rfl) ry sp) (fun r s' q => ?_) fun _ _ e => e)
  obtain ⟨z, H', I', rz, t, rfl, q⟩ := q
  cases rz
  exact ⟨.bl (false ^^ t), H', I', by cases t <;> rfl, q⟩
theorem op_neO (hr : RoomG (k + 1) X.A) : OpR X (compareOp .NotEq) (rEqO X G k true) := by
  intro pins s σ H x y v u Q I rx ry hq
  obtain ⟨a, C, dx, fs, tb, f, fd, ps, φ, rfl, ha, ty, hn, D, F, hb, sp⟩ := hq
  cases (show v = Value.ref a from rx)
  obtain ⟨mA, O, _⟩ := ins_get I.hok ha
  obtain ⟨od, J, _⟩ := O.look
  obtain ⟨P, Z, hP, _⟩ := kit_of I ry ty
  show wpAny (model X.prog X.w) X.A (richCompare .NotEq (.ref a) u) (EP X pins σ Q) X.xe s
  have hu : X.A.units + 1 < cLine := by
    have := hr.room.un
    omega
  refine rcNe_own (tb := tb) hu I.kIn J D (Z.ty _ s.heap I.kIn hP) hn (wpAny_mono (run_eq (A := X.A.in1) hr.in1 rfl F hb I (show RelV (.ref a) (.ref a) from rfl) ry sp) (fun r s' q => ?_) fun _ _ e => e)
  obtain ⟨z, H', I', rz, t, rfl, q⟩ := q
  exact ⟨t, rz, .bl (true ^^ t), H', I', by cases t <;> rfl, q⟩
/-! ### the plain meaning -/
def ansB : FOut → Option Bool
  | .ok (.fz (.bl b)) _ => some b
  | _ => none
/-- the other one's class does not stand below the own one's -/
def fitY (obs : Nat → Bool) (sub : Nat → Nat → Bool) (c : Nat) : D → Bool
  | .obj y _ => obs y && (y == c || !sub y c)
  | d => (tgOf d).isSome
def eqCall (obs : Nat → Bool) (sub : Nat → Nat → Bool) (eqt : Nat → Option Fn) (neg : Bool) (c : Nat) (x y : D) : Option Vl :=
  if obs c && fitY obs sub c y then ((eqt c).bind fun φ => ansB (φ [.fz x, .fz y])).map fun b => .fz (.bl (neg ^^ b)) else none
def eqO (obs : Nat → Bool) (sub : Nat → Nat → Bool) (eqt : Nat → Option Fn) : D → D → Option Vl
  | .obj c fs, y => eqCall obs sub eqt false c (.obj c fs) y
  | x, y => eqA x y
def neO (obs : Nat → Bool) (sub : Nat → Nat → Bool) (eqt : Nat → Option Fn) : D → D → Option Vl
  | .obj c fs, y => eqCall obs sub eqt true c (.obj c fs) y
  | x, y => neA x y
/-- the table of the classes' defs for == -/
def EqT (P : Program) (w : World) (K : PySem.W.Frag) (mg : Str → Option Value) (base : Heap) (G : Gc) (k : Nat) (eqt : Nat → Option Fn) : Prop :=
  ∀ c φ C, eqt c = some φ → G.N.gm c = some (.ref C) → ∃ f fd ps, EqD K C f ∧ FnG P w K mg base (L2.CX P w) k f fd ps (spEv G φ 2) ∧ Binds K fd ps []
theorem eqCall_ok {own obs : Nat → Bool} {sub : Nat → Nat → Bool} {eqt : Nat → Option Fn} {neg : Bool} (hE : EqT X.prog X.w X.K X.mg X.base G k eqt) (hC : ClsO X.K G.N own obs sub) {c0 c : Cf} {cn : Nat} {fs : List (Nat × D)} {y : D} {v u : V} {Q : VK} (es : c.σ = c0.σ) (ex : Ex G c0 c) (s : Ok G L c)
    (rx : Rp G.N c.F c.H v (.obj cn fs)) (ry : Rp G.N c.F c.H u y) (h : Req G L W c (liftO (eqCall obs sub eqt neg cn (.obj cn fs) y) c.ρ) (fun r c' => ∀ v, VR G c0 c' v r → Q v c'.H)) : rEqO X G k neg v u c.H Q := by
  obtain ⟨r, er, hr⟩ := liftO_req h
  unfold eqCall at er
  split at er
  · rename_i hb
    obtain ⟨b, eb, rfl⟩ := Option.map_eq_some_iff.mp er
    obtain ⟨φ, ef, ea⟩ := Option.bind_eq_some_iff.mp eb
    rw [Bool.and_eq_true] at hb
    cases rx with
    | obj hm ff hh hl =>
      rename_i a C dx xs
      obtain ⟨f, fd, ps, D, F, hB⟩ := hE cn φ C ef hm
      have oc : (own cn || obs cn) = true := by rw [hb.1, Bool.or_true]
      have key : ∃ tb, TyX X.K c.H u tb ∧ PySem.W.notFirst X.K C tb = true := by
        have hf := hb.2
        have two : (∃ y2 fs2, y = .obj y2 fs2) ∨ (tgOf y).isSome = true := by
          cases y <;> first | exact .inl ⟨_, _, rfl⟩ | exact .inr hf | exact .inr rfl
        rcases two with ⟨y2, fs2, rfl⟩ | ht
        · cases ry with
          | obj hm2 ff2 hh2 hl2 =>
            rename_i a2 C2 dx2 xs2
            unfold fitY at hf
            rw [Bool.and_eq_true] at hf
            obtain ⟨I2, kt⟩ := hC.ob y2 cn C2 C hf.1 oc hm2 hm
            refine ⟨_, ins_ty I2 hh2, ?_⟩
            by_cases e : y2 = cn
            · subst e
              rw [hm] at hm2
              cases hm2
              exact fit_self
            · have : sub y2 cn = false := by
                have := hf.2
                simpa [e] using this
              rw [this] at kt
              exact fit_of_kit kt
        · obtain ⟨t, et⟩ := Option.isSome_iff_exists.mp ht
          exact ⟨_, tgOf_ok (G := G) ry et, fit_of_kit (hC.ty t cn C oc hm)⟩
      obtain ⟨tb, ty, hn⟩ := key
      refine ⟨a, C, dx, xs, tb, f, fd, ps, φ, rfl, hh, ty, hn, D, F, hB, ?_⟩
      have ra : RAs G c [.ref a, u] [.v (.obj cn fs), .v y] := .cons (.v (.obj hm ff hh hl)) (.cons (.v ry) .nil)
      refine call_req (W := fun _ _ _ _ => False) s ra rfl ?_
      have eo : ∃ outs, φ [.fz (.obj cn fs), .fz y] = .ok (.fz (.bl b)) outs := by
        unfold ansB at ea
        split at ea
        · cases ea; exact ⟨_, by assumption⟩
        · cases ea
      obtain ⟨outs, eo⟩ := eo
      have sc : ∀ (ρ : Rho) (j : Nat), scat [.v (.obj cn fs), .v y] outs j ρ = ρ := fun ρ j => by
        refine List.ext_getElem? fun i => ?_
        rw [scat_get]
        have nf : ∀ o, findR (j + i) [.v (.obj cn fs), .v y] outs ≠ some o := fun o e => by
          obtain ⟨m, h1, _⟩ := findR_get e
          match m, h1 with
          | 0, h1 => cases h1
          | 1, h1 => cases h1
          | m + 2, h1 => cases h1
        cases e : findR (j + i) [.v (.obj cn fs), .v y] outs with
        | some o => exact absurd e (nf o)
        | none => cases ρ[i]? <;> rfl
      have ec : callAr φ [.v (.obj cn fs), .v y] c.ρ = .ok (.fz (.bl b)) c.ρ := by
        have hd : dist (refs [Ar.v (.obj cn fs), .v y]) = true := rfl
        have hg : gather c.ρ [Ar.v (.obj cn fs), .v y] = some [.fz (.obj cn fs), .fz y] := rfl
        unfold callAr
        rw [if_pos hd, hg]
        dsimp only
        rw [eo]
        dsimp only
        rw [sc]
      rw [ec]
      intro F' H' x' s' z rz
      cases rz
      exact ⟨b, rfl, hr F' H' x' s' _ (.bl _)⟩
  · cases er
section
variable {own obs : Nat → Bool} {sub : Nat → Nat → Bool} {eqt : Nat → Option Fn} {a b : Expr} {pos : Pos} {ma mb : M D}
theorem eqO_ok (hE : EqT X.prog X.w X.K X.mg X.base G k eqt) (hC : ClsO X.K G.N own obs sub) : BinOk X W G L (fun x y H Q => rEqO X G k false x y H Q ∨ (rEq x y H Q ∨ rEqD X.K x y H Q)) (eqO obs sub eqt) := by
  intro c0 c x y v u Q e0 ex s rx ry hr
  by_cases h : ∃ cn fs, x = .obj cn fs
  · obtain ⟨cn, fs, rfl⟩ := h
    exact .inl (eqCall_ok hE hC e0 ex s rx ry hr)
  · have e : eqO obs sub eqt x y = eqA x y := by
      cases x <;> first | rfl | exact absurd ⟨_, _, rfl⟩ h
    rw [e] at hr
    exact .inr (eqA_ok c0 c x y v u Q e0 ex s rx ry hr)
theorem neO_ok (hE : EqT X.prog X.w X.K X.mg X.base G k eqt) (hC : ClsO X.K G.N own obs sub) : BinOk X W G L (fun x y H Q => rEqO X G k true x y H Q ∨ (rNe x y H Q ∨ rNeD X.K x y H Q)) (neO obs sub eqt) := by
  intro c0 c x y v u Q e0 ex s rx ry hr
  by_cases h : ∃ cn fs, x = .obj cn fs
  · obtain ⟨cn, fs, rfl⟩ := h
    exact .inl (eqCall_ok hE hC e0 ex s rx ry hr)
  · have e : neO obs sub eqt x y = neA x y := by
      cases x <;> first | rfl | exact absurd ⟨_, _, rfl⟩ h
    rw [e] at hr
    exact .inr (neA_ok c0 c x y v u Q e0 ex s rx ry hr)
theorem SE.eqO (hE : EqT X.prog X.w X.K X.mg X.base G k eqt) (hC : ClsO X.K G.N own obs sub) (hr : RoomG (k + 1) X.A) (ha : SD X W G L a ma) (hb : SD X W G L b mb) : SE X W G L (.Compare a [.Eq] [b] pos) (ev2 (Ev.eqO obs sub eqt) ma mb) :=
  SE.cmp (OpR.or (op_eqO hr) (op_eqA hr.room.units)) (eqO_ok hE hC) ha hb (nomark _)
theorem SE.neO (hE : EqT X.prog X.w X.K X.mg X.base G k eqt) (hC : ClsO X.K G.N own obs sub) (hr : RoomG (k + 1) X.A) (ha : SD X W G L a ma) (hb : SD X W G L b mb) : SE X W G L (.Compare a [.NotEq] [b] pos) (ev2 (Ev.neO obs sub eqt) ma mb) :=
  SE.cmp (OpR.or (op_neO hr) (op_neA hr.room.units)) (neO_ok hE hC) ha hb (nomark _)
theorem ST.eqO (hE : EqT X.prog X.w X.K X.mg X.base G k eqt) (hC : ClsO X.K G.N own obs sub) (hr : RoomG (k + 1) X.A) (ha : SD X W G L a ma) (hb : SD X W G L b mb) : ST X W G L (.Compare a [.Eq] [b] pos) (ev2T (Ev.eqO obs sub eqt) ma mb) :=
  ST.cmp (OpR.or (op_eqO hr) (op_eqA hr.room.units)) (eqO_ok hE hC) ha hb (nomark _)
theorem ST.neO (hE : EqT X.prog X.w X.K X.mg X.base G k eqt) (hC : ClsO X.K G.N own obs sub) (hr : RoomG (k + 1) X.A) (ha : SD X W G L a ma) (hb : SD X W G L b mb) : ST X W G L (.Compare a [.NotEq] [b] pos) (ev2T (Ev.neO obs sub eqt) ma mb) :=
  ST.cmp (OpR.or (op_neO hr) (op_neA hr.room.units)) (neO_ok hE hC) ha hb (nomark _)
end
/-! equations -/
theorem p_eqO {obs : Nat → Bool} {sub : Nat → Nat → Bool} {eqt : Nat → Option Fn} {c : Nat} {fs : List (Nat × D)} {y : D} {φ : Fn} {b : Bool} {outs : List Sl} (ho : obs c = true) (hf : fitY obs sub c y = true) (ht : eqt c = some φ) (he : φ [.fz (.obj c fs), .fz y] = .ok (.fz (.bl b)) outs) :
    Ev.eqO obs sub eqt (.obj c fs) y = some (.fz (.bl b)) := by
  show eqCall obs sub eqt false c (.obj c fs) y = _
  unfold eqCall
  rw [ho, hf, ht]
  show ((ansB (φ [.fz (.obj c fs), .fz y])).map _) = _
  rw [he]
  cases b <;> rfl
theorem p_neO {obs : Nat → Bool} {sub : Nat → Nat → Bool} {eqt : Nat → Option Fn} {c : Nat} {fs : List (Nat × D)} {y : D} {φ : Fn} {b : Bool} {outs : List Sl} (ho : obs c = true) (hf : fitY obs sub c y = true) (ht : eqt c = some φ) (he : φ [.fz (.obj c fs), .fz y] = .ok (.fz (.bl b)) outs) :
    Ev.neO obs sub eqt (.obj c fs) y = some (.fz (.bl (!b))) := by
  show eqCall obs sub eqt true c (.obj c fs) y = _
  unfold eqCall
  rw [ho, hf, ht]
  show ((ansB (φ [.fz (.obj c fs), .fz y])).map _) = _
  rw [he]
  cases b <;> rfl
end
end Ev

/-! EvRw: repr of data with ints of up to 12,900 bits. -/
namespace Ev
open PySem PySem.Spec PyProof.Rows L2 Builtin
mutual
def wdK : PyData → Bool
  | .none => true
  | .bool _ => true
  | .str _ => true
  | .int i => decide (i.natAbs.log2 < 12900)
  | .list l => wdKs l
  | .tuple l => wdKs l
  | .dict _ => false
def wdKs : List PyData → Bool
  | [] => true
  | d :: l => wdK d && wdKs l
end
theorem fits_of {a : Int} (h : a.natAbs.log2 < 12900) : a.natAbs < 10 ^ 4300 := Nat.lt_of_lt_of_le (lt_of_log2 h) pow_lo
section
variable {prog : Program} {w : World} {A : Around} {E : Value → Shared → Prop} {s : Shared} {h₀ : Heap}
theorem intW_call {a : Int} {t : Tok} {Q : Value → Shared → Prop} (hn : s.heap.NoDigits) (ha : a.natAbs < 10 ^ 4300) (h : Q (.str (toString a) s.toks) { s with toks := s.toks + 1 }) :
    wpAny (model prog w) A (call (.builtin "int.__repr__") [.int a t]) Q E s := by
  refine wpAny_call (codeAny_call_builtin F.slot_int_repr.plain F.entry_int_repr (F.slot_int_repr.check _ _ _ _ _ _ _ _ (typeIs_int s a t) (F.args_int_repr_1 _) ?_))
  unfold Builtin.«int.__repr__»
  show wpAny _ _ (do let r ← Builtin.overDigitLimit? a; _) _ _ s
  exact wpAny_bind (overDigitLimit_any hn (fun _ => wpAny_bind (wpAny_mkStr (wpAny_pure h) (int_text_fits10 ha))) fun z => absurd ha (Nat.not_lt.mpr z))
theorem digits_keep {h h' : Heap} (n : h.NoDigits) (k : ∀ b o, h.get? b = some o → h'.get? b = some o) : h'.NoDigits := n.keeps k
theorem rkW_int {a : Int} {t : Tok} (hn : h₀.NoDigits) (ha : a.natAbs.log2 < 12900) : ReprK prog w [] h₀ 0 (.int a t) (toString a) := by
  intro base hb A g E s Q hg hcl hu hk hQ
  have hb' : base ≤ sizeLine := by omega
  rw [pyReprUnder_leaf hb' (fun _ e => by cases e)]
  unfold pyRepr
  exact wpAny_bind (wpAny_pyReprObj_slot (by omega) (typeIs_int s a t) F.slot_int_repr.toG (intW_call (digits_keep hn hk) (fits_of ha) ⟨_, _, rfl, wpAny_pure (hQ s.heap _ fun _ _ e => e)⟩))
theorem none_below {n : Nat} : ReadAtMost h₀ n [] := fun b hb => by cases hb
mutual
theorem rkW (hn : h₀.NoDigits) : ∀ {v : Value} {d : PyData} {as : List Addr}, Reads h₀ v d as → wdK d = true → d.shown.length ≤ sizeLine → ∃ bs, ReadAtMost h₀ d.depth bs ∧ ReprK prog w bs h₀ d.depth v d.shown
  | _, _, _, .none, _, _ => ⟨[], none_below, by simp only [PyData.shown]; exact .of_is ReprIs.none _ _ _⟩
  | _, _, _, .bool b, _, _ => ⟨[], none_below, by simp only [PyData.shown]; exact .of_is (ReprIs.bool b) _ _ _⟩
  | _, _, _, .int i t, k, _ => ⟨[], none_below, by simp only [PyData.shown, PyData.depth]; exact rkW_int hn (by simpa [wdK] using k)⟩
  | _, _, _, .str x t, _, z => ⟨[], none_below, by simp only [PyData.shown]; exact .of_is (ReprIs.str x t (by simpa only [PyData.shown] using z)) _ _ _⟩
  | _, _, _, .list (a := a) (vs := vs) (xs := xs) e1 e2 e3 e4, k, z => by
    have zz : (listText (PyData.shownAll xs)).length ≤ sizeLine := by simpa only [PyData.shown] using z
    obtain ⟨bs, lo, rk⟩ := rksW hn e4 (by simpa [wdK] using k) fun t m => Nat.le_trans (listText_mem_le m) zz
    have rd : Reads h₀ (.ref a) (.list xs) _ := .list e1 e2 e3 e4
    have out : a ∉ bs := not_mem_of_deeper rd (by simp only [PyData.depth]; omega) lo
    refine ⟨a :: bs, ReadAtMost.cons rd (by simp only [PyData.depth]; omega) lo, ?_⟩
    simp only [PyData.depth, PyData.shown]
    obtain ⟨l⟩ := vs
    cases l with
    | cons x l => exact ReprK.list e1 e2 e3 out (by simpa using rk.length_eq) fun i y e => rk.item i y (by simpa using e)
    | nil =>
      cases (show ReadsAll h₀ [] xs _ from e4)
      simp only [PyData.shownAll, listText_nil]
      exact ReprK.listEmpty e1 e2 e3
  | _, _, _, .tuple (a := a) (xs := xs) e1 e2 e3 e4, k, z => by
    have zz : (tupleText (PyData.shownAll xs)).length ≤ sizeLine := by simpa only [PyData.shown] using z
    obtain ⟨bs, lo, rk⟩ := rksW hn e4 (by simpa [wdK] using k) fun t m => Nat.le_trans (tupleText_mem_le m) zz
    have rd : Reads h₀ (.ref a) (.tuple xs) _ := .tuple e1 e2 e3 e4
    have out : a ∉ bs := not_mem_of_deeper rd (by simp only [PyData.depth]; omega) lo
    refine ⟨a :: bs, ReadAtMost.cons rd (by simp only [PyData.depth]; omega) lo, ?_⟩
    simp only [PyData.depth, PyData.shown]
    exact ReprK.tuple e1 e2 e3 out rk
  | _, _, _, .dict _ _ _ _ _, k, _ => by simp [wdK] at k
theorem rksW (hn : h₀.NoDigits) : ∀ {vs : List Value} {ds : List PyData} {as : List Addr}, ReadsAll h₀ vs ds as → wdKs ds = true → (∀ t ∈ PyData.shownAll ds, t.length ≤ sizeLine) → ∃ bs, ReadAtMost h₀ (PyData.depthAll ds) bs ∧ ReprAllK prog w bs h₀ (PyData.depthAll ds) vs (PyData.shownAll ds)
  | _, _, _, .nil, _, _ => ⟨[], none_below, by simp only [PyData.shownAll]; exact .nil⟩
  | _, _, _, .cons (d := d) (ds := ds) r rs, k, z => by
    have kk : wdK d = true ∧ wdKs ds = true := by simpa [wdKs] using k
    obtain ⟨b1, lo1, k1⟩ := rkW hn r kk.1 (z _ (by simp only [PyData.shownAll]; exact .head _))
    obtain ⟨b2, lo2, k2⟩ := rksW hn rs kk.2 fun t m => z t (by simp only [PyData.shownAll]; exact .tail _ m)
    have m1 : d.depth ≤ PyData.depthAll (d :: ds) := by simp only [PyData.depthAll]; omega
    have m2 : PyData.depthAll ds ≤ PyData.depthAll (d :: ds) := by simp only [PyData.depthAll]; omega
    refine ⟨b1 ++ b2, (lo1.mono m1).append (lo2.mono m2), ?_⟩
    simp only [PyData.shownAll]
    exact .cons ((k1.more fun b m => List.mem_append.mpr (.inl m)).level_le m1) (k2.more_le (fun b m => List.mem_append.mpr (.inr m)) m2)
end
/-- repr of a nest of lists and tuples -/
theorem repr_nest {a : Addr} {d : PyData} {as : List Addr} {Q : Value → Shared → Prop} (hn : s.heap.NoDigits) (rd : Reads s.heap (.ref a) d as) (k : wdK d = true) (hg : A.guards = some []) (hu : A.units + (d.depth + 1) < cLine) (z : d.shown.length ≤ sizeLine)
    (q : ∀ h' u tk, (∀ b o, s.heap.get? b = some o → h'.get? b = some o) → Q (.str d.shown u) { s with heap := h', toks := tk }) : wpAny (model prog w) A (call (.builtin "repr") [.ref a]) Q E s := by
  cases rd with
  | @list _ o vs n xs bs e1 e2 e3 e4 =>
    have zz : (listText (PyData.shownAll xs)).length ≤ sizeLine := by simpa only [PyData.shown] using z
    obtain ⟨bs, lo, rk⟩ := rksW (prog := prog) (w := w) hn e4 (by simpa [wdK] using k) fun t m => Nat.le_trans (listText_mem_le m) zz
    have out : a ∉ bs := not_mem_of_deeper (.list e1 e2 e3 e4) (by simp only [PyData.depth]; omega) lo
    simp only [PyData.depth] at hu
    simp only [PyData.shown] at q
    refine call_repr_slot (by omega) ⟨o, e1, e2⟩ F.slot_list_repr.toG ?_
    obtain ⟨l⟩ := vs
    cases l with
    | cons x l => exact call_list_reprK e1 e2 e3 out (by simpa using rk.length_eq) (fun i y e => rk.item i y (by simpa using e)) hg (fun b _ => Clear.nil b) (by show A.units + 1 + _ < cLine; omega) (fun _ _ e => e) (fun h' u tk hk => ⟨_, _, rfl, q h' u tk hk⟩) zz
    | nil =>
      cases (show ReadsAll s.heap [] xs _ from e4)
      simp only [PyData.shownAll, listText_nil] at q
      exact call_list_repr_empty ⟨o, e1, e2⟩ e1 e3 ⟨_, _, rfl, q s.heap _ _ fun _ _ e => e⟩
  | @tuple _ o vs n xs _ e1 e2 e3 e4 =>
    have zz : (tupleText (PyData.shownAll xs)).length ≤ sizeLine := by simpa only [PyData.shown] using z
    obtain ⟨bs, lo, rk⟩ := rksW (prog := prog) (w := w) hn e4 (by simpa [wdK] using k) fun t m => Nat.le_trans (tupleText_mem_le m) zz
    have out : a ∉ bs := not_mem_of_deeper (.tuple e1 e2 e3 e4) (by simp only [PyData.depth]; omega) lo
    simp only [PyData.depth] at hu
    simp only [PyData.shown] at q
    exact call_repr_slot (by omega) ⟨o, e1, e2⟩ F.slot_tuple_repr (call_tuple_reprK e1 e2 e3 out rk hg (fun b _ => Clear.nil b) (by show A.units + 1 + _ < cLine; omega) (fun _ _ e => e) (fun h' u tk hk => ⟨_, _, rfl, q h' u tk hk⟩) zz)
  | dict => simp [wdK] at k
end
section
variable {X : Cx} {W : WX} {G : Gc} {L : Lt} {pos : Pos} {es : List Expr}
def showOkW (d : PyData) : Bool := wdK d && decide (d.depth ≤ 64) && lenOk d.shown.length
def rReprW (K : PySem.W.Frag) : List V → Hp → VK → Prop := fun xs H Q => ∃ x d, xs = [x] ∧ Dp K H x d ∧ showOkW d = true ∧ Q (.str d.shown) H
theorem no_digits {pins : List (Addr × Obj)} {σ : L2.St} {H : Hp} {s : Shared} (I : Inv X pins σ H s) (e : PySem.W.nsIn X.K cStatics "sys.int_max_str_digits" = some none) : s.heap.NoDigits := by
  obtain ⟨mc, hns, _⟩ := I.nolimit
  exact ⟨mc, hns, PySem.W.ns_none_of I.kIn hns e⟩
theorem call_reprW {k : Nat} (hr : RoomG k X.A) (e : PySem.W.nsIn X.K cStatics "sys.int_max_str_digits" = some none) : CallR X (.builtin "repr") (rReprW X.K) := by
  intro pins s σ H xs us Q I r h
  have hu : X.A.units + 70 < cLine := by
    have := hr.room.un
    omega
  have nd := no_digits I e
  obtain ⟨x, d, rfl, hd, ok, q⟩ := h
  obtain ⟨u, rfl, rx⟩ := vals1 r
  unfold showOkW at ok
  simp only [Bool.and_eq_true] at ok
  obtain ⟨⟨o1, o3⟩, o4⟩ := ok
  have o3 := of_decide_eq_true o3
  have o4 := lenOk_line o4
  have disp : ∀ p : Addr, x = .ref p → wpAny (model X.prog X.w) X.A (call (.builtin "repr") [u]) (EP X pins σ Q) X.xe s := fun p ep => by
    subst ep
    cases rx
    obtain ⟨as, rd⟩ := Dp.reads I d _ _ hd rfl
    exact repr_nest nd rd o1 hr.gd (by omega) o4 fun h' u tk hk => ⟨.str d.shown, H, I.kept hk, ⟨_, rfl⟩, q⟩
  cases hd with
  | non =>
    cases rx
    exact PySem.P.repr_of_none ⟨.str _, H, I.tok _, ⟨_, rfl⟩, q⟩
  | bl b =>
    cases rx
    exact PySem.P.repr_of_bool ⟨.str _, H, I.tok _, ⟨_, rfl⟩, q⟩
  | int i =>
    obtain ⟨t, rfl⟩ := rx
    exact call_repr_slot (by omega) (typeIs_int s i t) F.slot_int_repr.toG (intW_call nd (fits_of (of_decide_eq_true o1)) ⟨_, _, rfl, .str _, H, I.tok _, ⟨_, rfl⟩, q⟩)
  | str y =>
    obtain ⟨t, rfl⟩ := rx
    exact PySem.P.repr_of_str ⟨.str _, H, I.tok _, ⟨_, rfl⟩, q⟩ o4
  | lst _ _ => exact disp _ rfl
  | tup _ _ => exact disp _ rfl
def reprW (d : D) : Option Vl := if isP d && showOkW (toP d) then some (.fz (.str (toP d).shown)) else none
def bReprW : List D → Option Vl
  | [d] => reprW d
  | _ => none
theorem bReprW_ok : CallOk X W G L (rReprW X.K) bReprW := by
  intro c0 c ds vs Q _ ex s r hr
  obtain ⟨w, er, hr⟩ := liftO_req hr
  unfold bReprW at er
  split at er
  · unfold reprW at er
    split at er
    · rename_i hz
      cases er
      rw [Bool.and_eq_true] at hz
      cases r with
      | cons r1 r2 =>
        cases r2
        exact ⟨_, _, rfl, toDp r1 hz.1, hz.2, Req.here hr s _ (.str _)⟩
    · cases er
  · cases er
end
/-! ### what is shown, and how long -/
mutual
def rszW : D → Nat
  | .non => 4
  | .bl _ => 5
  | .int _ => 12901
  | .str x => (reprText x).length
  | .lst l => rszsW l + 4
  | .tup l => rszsW l + 4
  | _ => 0
def rszsW : List D → Nat
  | [] => 0
  | d :: l => rszW d + 2 + rszsW l
end
mutual
def niceW : D → Bool
  | .non => true
  | .bl _ => true
  | .int i => decide (i.natAbs.log2 < 12900)
  | .str _ => true
  | .lst l => nicesW l
  | .tup l => nicesW l
  | _ => false
def nicesW : List D → Bool
  | [] => true
  | d :: l => niceW d && nicesW l
end
theorem int_textW {i : Int} (h : i.natAbs.log2 < 12900) : (Str.ofString (toString i)).length ≤ 12901 := by
  rw [PySem.ofString_length]
  exact int_text_length_le (by decide) h
mutual
theorem niceW_is : ∀ d : D, niceW d = true → isP d = true ∧ wdK (toP d) = true ∧ (toP d).depth ≤ dep d ∧ (toP d).shown.length ≤ rszW d
  | .non, _ => ⟨rfl, by simp [toP, wdK], by simp [toP, PyData.depth], by simp [toP, PyData.shown, rszW]; decide⟩
  | .bl b, _ => ⟨rfl, by simp [toP, wdK], by simp [toP, PyData.depth], by cases b <;> simp [toP, PyData.shown, rszW] <;> decide⟩
  | .int i, h => by
    have h : decide (i.natAbs.log2 < 12900) = true := by simpa [niceW] using h
    refine ⟨rfl, by simpa [toP, wdK] using h, by simp [toP, PyData.depth], ?_⟩
    rw [toP, PyData.shown, rszW]
    exact int_textW (of_decide_eq_true h)
  | .str x, _ => ⟨rfl, by simp [toP, wdK], by simp [toP, PyData.depth], by simp [toP, PyData.shown, rszW]⟩
  | .lst l, h => by
    obtain ⟨h1, h2, h4, h5⟩ := nicesW_is l (by simpa [niceW] using h)
    refine ⟨by simpa [isP] using h1, by simpa [toP, wdK] using h2, by simpa [toP, PyData.depth, dep] using h4, ?_⟩
    rw [toP, PyData.shown, rszW]
    unfold listText
    rw [strLen_append]
    have := len_textFrom (PyData.shownAll (toPs l)) 0 "["
    have e1 : ((("[" : String) : Str)).length = 1 := rfl
    have e2 : ((("]" : String) : Str)).length = 1 := rfl
    omega
  | .tup l, h => by
    obtain ⟨h1, h2, h4, h5⟩ := nicesW_is l (by simpa [niceW] using h)
    refine ⟨by simpa [isP] using h1, by simpa [toP, wdK] using h2, by simpa [toP, PyData.depth, dep] using h4, ?_⟩
    rw [toP, PyData.shown, rszW]
    have := len_tupleText (PyData.shownAll (toPs l))
    omega
  | .dic _, h => by simp [niceW] at h
  | .dct _, h => by simp [niceW] at h
  | .scr _, h => by simp [niceW] at h
  | .gl _, h => by simp [niceW] at h
  | .ty _, h => by simp [niceW] at h
  | .obj _ _, h => by simp [niceW] at h
  | .exc _ _, h => by simp [niceW] at h
theorem nicesW_is : ∀ l : List D, nicesW l = true → isPs l = true ∧ wdKs (toPs l) = true ∧ PyData.depthAll (toPs l) ≤ deps l ∧ ((PyData.shownAll (toPs l)).map fun t => t.length + 2).sum ≤ rszsW l
  | [], _ => ⟨rfl, by simp [toPs, wdKs], by simp [toPs, PyData.depthAll], by simp [toPs, PyData.shownAll, rszsW]⟩
  | d :: l, h => by
    have h : niceW d = true ∧ nicesW l = true := by simpa [nicesW] using h
    obtain ⟨h1, h2, h4, h5⟩ := nicesW_is l h.2
    obtain ⟨g1, g2, g4, g5⟩ := niceW_is d h.1
    refine ⟨by simp [isPs, g1, h1], by simp [toPs, wdKs, g2, h2], ?_, ?_⟩
    · simp only [toPs, PyData.depthAll, deps]
      omega
    · simp only [toPs, PyData.shownAll, rszsW, List.map_cons, List.sum_cons]
      omega
end
theorem p_reprW {d : D} (h : niceW d = true) (h2 : dep d ≤ 64) (h3 : rszW d ≤ 16777216) : bReprW [d] = some (.fz (.str (shw d))) := by
  obtain ⟨h1, g2, g4, g5⟩ := niceW_is d h
  show reprW d = _
  unfold reprW showOkW
  rw [h1, g2, decide_eq_true (Nat.le_trans g4 h2), show lenOk (toP d).shown.length = true from decide_eq_true (Nat.le_trans g5 h3)]
  rfl
section
variable {X : Cx} {W : WX} {G : Gc} {L : Lt} {e : Expr} {es : List Expr} {p pos : Pos} {m : M (List D)} {k : Nat}
theorem SE.reprW (hr : RoomG k X.A) (hd : PySem.W.nsIn X.K cStatics "sys.int_max_str_digits" = some none) (hg : Gl X "repr") (hm : X.mg "repr" = none) (ha : SA X W G L (e :: es) m) (he : starEach (e :: es) X.env = (false, eval e X.env) :: starEach es X.env := by rfl)
    (hpl : (backTo pos (starEach es X.env)).any (·.1) = false := by rfl) : SE X W G L (.Call (.Name "repr" p) (e :: es) [] pos) (evC bReprW m) := SE.callB (call_reprW hr hd) bReprW_ok hg hm bt_repr ha (by decide) (by decide) he hpl
end
end Ev

namespace K70
open PySem PySem.Spec PyProof.Rows L2 Ev
def topS (i : Nat) : Stmt := PySem.Challenge.pw_hindprice_k70_even_weights_and_factors.main.body.getD i (.Pass ⟨0, 0, 0, 0⟩)
abbrev s_is_integer : Stmt := topS 6
abbrev s_is_within : Stmt := topS 7
abbrev s_is_list : Stmt := topS 8
abbrev s_common : Stmt := topS 9
abbrev s_need_integer : Stmt := topS 10
abbrev s_need_goods : Stmt := topS 11
abbrev s_need_days : Stmt := topS 12
abbrev s_need_counts : Stmt := topS 13
abbrev s_lowest : Stmt := topS 15
abbrev s_choose_in : Stmt := topS 17
abbrev s_factorial : Stmt := topS 20
abbrev s_weight_in : Stmt := topS 21
abbrev s_factor_in : Stmt := topS 22
abbrev s_even_weight : Stmt := topS 23
abbrev s_even_factor : Stmt := topS 24
abbrev s_law_pen : Stmt := topS 26
abbrev s_law_draw : Stmt := topS 27
abbrev s_law_one_of : Stmt := topS 28
abbrev s_law_low : Stmt := topS 29
abbrev s_law_plus : Stmt := topS 30
abbrev s_law_times : Stmt := topS 31
abbrev s_law_sum : Stmt := topS 33
abbrev s_law_number : Stmt := topS 34
abbrev s_law_words : Stmt := topS 35
abbrev s_law_even : Stmt := topS 36
abbrev s_law_triangle : Stmt := topS 37
abbrev s_law : Stmt := topS 38
/-- what the top has left -/
structure Tops (K : PySem.W.Frag) (mg : Str → Option Value) where
  f_is_integer : Addr
  fd_is_integer : FuncData
  F_is_integer : Fun K "is_integer" "is_integer" s_is_integer f_is_integer fd_is_integer
  g_is_integer : mg "is_integer" = some (.ref f_is_integer)
  f_is_within : Addr
  fd_is_within : FuncData
  F_is_within : Fun K "is_within" "is_within" s_is_within f_is_within fd_is_within
  g_is_within : mg "is_within" = some (.ref f_is_within)
  f_is_list : Addr
  fd_is_list : FuncData
  F_is_list : Fun K "is_list" "is_list" s_is_list f_is_list fd_is_list
  g_is_list : mg "is_list" = some (.ref f_is_list)
  f_common : Addr
  fd_common : FuncData
  F_common : Fun K "common" "common" s_common f_common fd_common
  g_common : mg "common" = some (.ref f_common)
  f_need_integer : Addr
  fd_need_integer : FuncData
  F_need_integer : Fun K "need_integer" "need_integer" s_need_integer f_need_integer fd_need_integer
  g_need_integer : mg "need_integer" = some (.ref f_need_integer)
  f_need_goods : Addr
  fd_need_goods : FuncData
  F_need_goods : Fun K "need_goods" "need_goods" s_need_goods f_need_goods fd_need_goods
  g_need_goods : mg "need_goods" = some (.ref f_need_goods)
  f_need_days : Addr
  fd_need_days : FuncData
  F_need_days : Fun K "need_days" "need_days" s_need_days f_need_days fd_need_days
  g_need_days : mg "need_days" = some (.ref f_need_days)
  f_need_counts : Addr
  fd_need_counts : FuncData
  F_need_counts : Fun K "need_counts" "need_counts" s_need_counts f_need_counts fd_need_counts
  g_need_counts : mg "need_counts" = some (.ref f_need_counts)
  f_lowest : Addr
  fd_lowest : FuncData
  F_lowest : Fun K "lowest" "lowest" s_lowest f_lowest fd_lowest
  g_lowest : mg "lowest" = some (.ref f_lowest)
  f_choose_in : Addr
  fd_choose_in : FuncData
  F_choose_in : Fun K "choose_in" "choose_in" s_choose_in f_choose_in fd_choose_in
  g_choose_in : mg "choose_in" = some (.ref f_choose_in)
  f_factorial : Addr
  fd_factorial : FuncData
  F_factorial : Fun K "factorial" "factorial" s_factorial f_factorial fd_factorial
  g_factorial : mg "factorial" = some (.ref f_factorial)
  f_weight_in : Addr
  fd_weight_in : FuncData
  F_weight_in : Fun K "weight_in" "weight_in" s_weight_in f_weight_in fd_weight_in
  g_weight_in : mg "weight_in" = some (.ref f_weight_in)
  f_factor_in : Addr
  fd_factor_in : FuncData
  F_factor_in : Fun K "factor_in" "factor_in" s_factor_in f_factor_in fd_factor_in
  g_factor_in : mg "factor_in" = some (.ref f_factor_in)
  f_even_weight : Addr
  fd_even_weight : FuncData
  F_even_weight : Fun K "even_weight" "even_weight" s_even_weight f_even_weight fd_even_weight
  g_even_weight : mg "even_weight" = some (.ref f_even_weight)
  f_even_factor : Addr
  fd_even_factor : FuncData
  F_even_factor : Fun K "even_factor" "even_factor" s_even_factor f_even_factor fd_even_factor
  g_even_factor : mg "even_factor" = some (.ref f_even_factor)
  f_law_pen : Addr
  fd_law_pen : FuncData
  F_law_pen : Fun K "_law_pen" "_law_pen" s_law_pen f_law_pen fd_law_pen
  g_law_pen : mg "_law_pen" = some (.ref f_law_pen)
  f_law_draw : Addr
  fd_law_draw : FuncData
  F_law_draw : Fun K "_law_draw" "_law_draw" s_law_draw f_law_draw fd_law_draw
  g_law_draw : mg "_law_draw" = some (.ref f_law_draw)
  f_law_one_of : Addr
  fd_law_one_of : FuncData
  F_law_one_of : Fun K "_law_one_of" "_law_one_of" s_law_one_of f_law_one_of fd_law_one_of
  g_law_one_of : mg "_law_one_of" = some (.ref f_law_one_of)
  f_law_low : Addr
  fd_law_low : FuncData
  F_law_low : Fun K "_law_low" "_law_low" s_law_low f_law_low fd_law_low
  g_law_low : mg "_law_low" = some (.ref f_law_low)
  f_law_plus : Addr
  fd_law_plus : FuncData
  F_law_plus : Fun K "_law_plus" "_law_plus" s_law_plus f_law_plus fd_law_plus
  g_law_plus : mg "_law_plus" = some (.ref f_law_plus)
  f_law_times : Addr
  fd_law_times : FuncData
  F_law_times : Fun K "_law_times" "_law_times" s_law_times f_law_times fd_law_times
  g_law_times : mg "_law_times" = some (.ref f_law_times)
  f_law_sum : Addr
  fd_law_sum : FuncData
  F_law_sum : Fun K "_law_sum" "_law_sum" s_law_sum f_law_sum fd_law_sum
  g_law_sum : mg "_law_sum" = some (.ref f_law_sum)
  f_law_number : Addr
  fd_law_number : FuncData
  F_law_number : Fun K "_law_number" "_law_number" s_law_number f_law_number fd_law_number
  g_law_number : mg "_law_number" = some (.ref f_law_number)
  f_law_words : Addr
  fd_law_words : FuncData
  F_law_words : Fun K "_law_words" "_law_words" s_law_words f_law_words fd_law_words
  g_law_words : mg "_law_words" = some (.ref f_law_words)
  f_law_even : Addr
  fd_law_even : FuncData
  F_law_even : Fun K "_law_even" "_law_even" s_law_even f_law_even fd_law_even
  g_law_even : mg "_law_even" = some (.ref f_law_even)
  f_law_triangle : Addr
  fd_law_triangle : FuncData
  F_law_triangle : Fun K "_law_triangle" "_law_triangle" s_law_triangle f_law_triangle fd_law_triangle
  g_law_triangle : mg "_law_triangle" = some (.ref f_law_triangle)
  f_law : Addr
  fd_law : FuncData
  F_law : Fun K "law" "law" s_law f_law fd_law
  g_law : mg "law" = some (.ref f_law)
  z_abs : mg "abs" = none
  z_all : mg "all" = none
  z_bool : mg "bool" = none
  z_int : mg "int" = none
  z_isinstance : mg "isinstance" = none
  z_len : mg "len" = none
  z_list : mg "list" = none
  z_max : mg "max" = none
  z_range : mg "range" = none
  z_repr : mg "repr" = none
  z_sum : mg "sum" = none
  z_tuple : mg "tuple" = none
  dg_ : PySem.W.nsIn K cStatics "sys.int_max_str_digits" = some none
  t_MOST_GOODS : Tok
  c_MOST_GOODS : mg "MOST_GOODS" = some (.int 5 t_MOST_GOODS)
  t_MOST_DAYS : Tok
  c_MOST_DAYS : mg "MOST_DAYS" = some (.int 1000 t_MOST_DAYS)
  t_MOST_COUNT : Tok
  c_MOST_COUNT : mg "MOST_COUNT" = some (.int 1000 t_MOST_COUNT)
def ownB (n : Nat) : Bool := decide (n < 0)
def subB (a b : Nat) : Bool := a == b
section
variable {K : PySem.W.Frag} {mg : Str → Option Value}
def gmL (T : Tops K mg) : List Value := []
def tabsL (T : Tops K mg) : List (Addr × Str) := []
end
/-- what an own exception class is -/
structure XNo (K : PySem.W.Frag) (C : Addr) : Prop where
  ok : True
structure NOk {K : PySem.W.Frag} {mg : Str → Option Value} (N : Nm) (T : Tops K mg) : Prop where
  scr : N.scrK = scrKof K
theorem NOk.to {K : PySem.W.Frag} {mg : Str → Option Value} {N N' : Nm} {T : Tops K mg} (e : N' = N) (h : NOk N T) : NOk N' T := e ▸ h
structure GOk {K : PySem.W.Frag} {mg : Str → Option Value} (G : Gc) (T : Tops K mg) (base : Heap) : Prop where
  n : NOk G.N T
  tab : TabG G (tabsL T)
theorem sc_is_integer : FnScope ["value"] ["value"] (defScope s_is_integer) := ⟨rfl, rfl, rfl, by decide +kernel, rfl, by decide +kernel, by decide +kernel⟩
theorem sc_is_within : FnScope ["value", "least", "most"] ["value", "least", "most"] (defScope s_is_within) := ⟨rfl, rfl, rfl, by decide +kernel, rfl, by decide +kernel, by decide +kernel⟩
theorem sc_is_list : FnScope ["value"] ["value"] (defScope s_is_list) := ⟨rfl, rfl, rfl, by decide +kernel, rfl, by decide +kernel, by decide +kernel⟩
theorem sc_common : FnScope ["one", "other"] ["one", "other"] (defScope s_common) := ⟨rfl, rfl, rfl, by decide +kernel, rfl, by decide +kernel, by decide +kernel⟩
theorem sc_need_integer : FnScope ["value", "part", "least", "most"] ["value", "part", "least", "most"] (defScope s_need_integer) := ⟨rfl, rfl, rfl, by decide +kernel, rfl, by decide +kernel, by decide +kernel⟩
theorem sc_need_goods : FnScope ["value"] ["value"] (defScope s_need_goods) := ⟨rfl, rfl, rfl, by decide +kernel, rfl, by decide +kernel, by decide +kernel⟩
theorem sc_need_days : FnScope ["value"] ["value"] (defScope s_need_days) := ⟨rfl, rfl, rfl, by decide +kernel, rfl, by decide +kernel, by decide +kernel⟩
theorem sc_need_counts : FnScope ["value", "part", "each"] ["value", "part"] (defScope s_need_counts) := ⟨rfl, rfl, rfl, by decide +kernel, rfl, by decide +kernel, by decide +kernel⟩
theorem sc_lowest : FnScope ["above", "under", "part"] ["above", "under"] (defScope s_lowest) := ⟨rfl, rfl, rfl, by decide +kernel, rfl, by decide +kernel, by decide +kernel⟩
theorem sc_choose_in : FnScope ["many", "some", "found", "turn"] ["many", "some"] (defScope s_choose_in) := ⟨rfl, rfl, rfl, by decide +kernel, rfl, by decide +kernel, by decide +kernel⟩
theorem sc_factorial : FnScope ["number", "found", "each"] ["number"] (defScope s_factorial) := ⟨rfl, rfl, rfl, by decide +kernel, rfl, by decide +kernel, by decide +kernel⟩
theorem sc_weight_in : FnScope ["counts", "above", "count"] ["counts"] (defScope s_weight_in) := ⟨rfl, rfl, rfl, by decide +kernel, rfl, by decide +kernel, by decide +kernel⟩
theorem sc_factor_in : FnScope ["goods", "days"] ["goods", "days"] (defScope s_factor_in) := ⟨rfl, rfl, rfl, by decide +kernel, rfl, by decide +kernel, by decide +kernel⟩
theorem sc_even_weight : FnScope ["counts", "told"] ["counts"] (defScope s_even_weight) := ⟨rfl, rfl, rfl, by decide +kernel, rfl, by decide +kernel, by decide +kernel⟩
theorem sc_even_factor : FnScope ["goods", "days"] ["goods", "days"] (defScope s_even_factor) := ⟨rfl, rfl, rfl, by decide +kernel, rfl, by decide +kernel, by decide +kernel⟩
theorem sc_law_pen : FnScope ["_law_script", "_law_cell"] ["_law_script"] (defScope s_law_pen) := ⟨rfl, rfl, rfl, by decide +kernel, rfl, by decide +kernel, by decide +kernel⟩
theorem sc_law_draw : FnScope ["_law_pen_here", "_law_many", "_law_rest", "_law_at", "_law_cell", "_law_mixed"] ["_law_pen_here", "_law_many"] (defScope s_law_draw) := ⟨rfl, rfl, rfl, by decide +kernel, rfl, by decide +kernel, by decide +kernel⟩
theorem sc_law_one_of : FnScope ["_law_pen_here", "_law_some"] ["_law_pen_here", "_law_some"] (defScope s_law_one_of) := ⟨rfl, rfl, rfl, by decide +kernel, rfl, by decide +kernel, by decide +kernel⟩
theorem sc_law_low : FnScope ["_law_above", "_law_below", "_law_one", "_law_other"] ["_law_above", "_law_below"] (defScope s_law_low) := ⟨rfl, rfl, rfl, by decide +kernel, rfl, by decide +kernel, by decide +kernel⟩
theorem sc_law_plus : FnScope ["_law_one", "_law_other"] ["_law_one", "_law_other"] (defScope s_law_plus) := ⟨rfl, rfl, rfl, by decide +kernel, rfl, by decide +kernel, by decide +kernel⟩
theorem sc_law_times : FnScope ["_law_one", "_law_other"] ["_law_one", "_law_other"] (defScope s_law_times) := ⟨rfl, rfl, rfl, by decide +kernel, rfl, by decide +kernel, by decide +kernel⟩
theorem sc_law_sum : FnScope ["_law_some", "_law_found", "_law_each"] ["_law_some"] (defScope s_law_sum) := ⟨rfl, rfl, rfl, by decide +kernel, rfl, by decide +kernel, by decide +kernel⟩
theorem sc_law_number : FnScope ["_law_one"] ["_law_one"] (defScope s_law_number) := ⟨rfl, rfl, rfl, by decide +kernel, rfl, by decide +kernel, by decide +kernel⟩
theorem sc_law_words : FnScope ["_law_goods", "_law_days", "_law_found", "_law_turn", "_law_longer", "_law_word", "_law_good"] ["_law_goods", "_law_days"] (defScope s_law_words) := ⟨rfl, rfl, rfl, by decide +kernel, rfl, by decide +kernel, by decide +kernel⟩
theorem sc_law_even : FnScope ["_law_counts", "_law_found", "_law_many", "_law_count", "_law_turn"] ["_law_counts"] (defScope s_law_even) := ⟨rfl, rfl, rfl, by decide +kernel, rfl, by decide +kernel, by decide +kernel⟩
theorem sc_law_triangle : FnScope ["_law_goods", "_law_days", "_law_rows", "_law_good", "_law_day"] ["_law_goods", "_law_days"] (defScope s_law_triangle) := ⟨rfl, rfl, rfl, by decide +kernel, rfl, by decide +kernel, by decide +kernel⟩
theorem sc_law : FnScope ["_law_script", "_law_pen_here", "_law_turn", "_law_goods", "_law_counts", "_law_due", "_law_more", "_law_days", "_law_weights", "_law_word", "_law_told", "_law_good", "_law_its"] ["_law_script"] (defScope s_law) := ⟨rfl, rfl, rfl, by decide +kernel, rfl, by decide +kernel, by decide +kernel⟩
noncomputable def b_is_integer : M Fl := (evRet (toV (evAnd (toD (evC bIsi (evCons (evVar 0) (evCons (mpure (.ty .int)) (mpure []))))) (evNot (toD (evC bIsi (evCons (evVar 0) (evCons (mpure (.ty .bool)) (mpure [])))))))))
noncomputable def m_is_integer : Fn := fnSem b_is_integer 1
noncomputable def b_is_within : M Fl := (mseq (evIf (tNot' (tTruth (toD (evCall m_is_integer 1 (fun as _ => as) (arCons (arV (evVar 0)) (mpure [])) (mpure [])))))
    (evRet (toV (mpure (.bl false))))
    (mpure .nx))
    (evRet (toV (evAnd (evOr (toD (ev2 cIsN (evVar 1) (mpure .non))) (toD (ev2 cLe (evVar 1) (evVar 0)))) (evOr (toD (ev2 cIsN (evVar 2) (mpure .non))) (toD (ev2 cLe (evVar 0) (evVar 2))))))))
noncomputable def m_is_within : Fn := fnSem b_is_within 3
noncomputable def b_is_list : M Fl := (evRet (evC bIsi (evCons (evVar 0) (evCons (toD (evC mkTup (evCons (mpure (.ty .list)) (evCons (mpure (.ty .tuple)) (mpure []))))) (mpure [])))))
noncomputable def m_is_list : Fn := fnSem b_is_list 1
noncomputable def b_common : M Fl := (mseq (evPar [0, 1] (vCons (evC bAbs (evCons (evVar 0) (mpure []))) (vCons (evC bAbs (evCons (evVar 1) (mpure []))) (mpure []))))
    (mseq (mWhile (ev2T cGt (evVar 1) (mpure (.int 0)))
    (evPar [0, 1] (vCons (toV (evVar 1)) (vCons (ev2 (i2 fMod) (evVar 0) (evVar 1)) (mpure [])))))
    (evRet (evMove 0))))
noncomputable def m_common : Fn := fnSem b_common 2
noncomputable def b_need_integer : M Fl := (evIf (tNot' (tTruth (toD (evCall m_is_within 3 (fun as _ => as) (arCons (arV (evVar 0)) (arCons (arV (evVar 2)) (arCons (arV (evVar 3)) (mpure [])))) (mpure [])))))
    deadM
    (mpure .nx))
noncomputable def m_need_integer : Fn := fnSem b_need_integer 4
noncomputable def b_need_goods : M Fl := (evExpr (toD (evCall m_need_integer 4 (fun as _ => as) (arCons (arV (evVar 0)) (arCons (arV (mpure (.str "goods"))) (arCons (arV (mpure (.int 1))) (arCons (arV (mpure (.int 5))) (mpure []))))) (mpure []))))
noncomputable def m_need_goods : Fn := fnSem b_need_goods 1
noncomputable def b_need_days : M Fl := (evExpr (toD (evCall m_need_integer 4 (fun as _ => as) (arCons (arV (evVar 0)) (arCons (arV (mpure (.str "days"))) (arCons (arV (mpure (.int 0))) (arCons (arV (mpure (.int 1000))) (mpure []))))) (mpure []))))
noncomputable def m_need_days : Fn := fnSem b_need_days 1
noncomputable def b_need_counts : M Fl := (mseq (evIf (tOr' (tNot' (tTruth (toD (evCall m_is_list 1 (fun as _ => as) (arCons (arV (evVar 0)) (mpure [])) (mpure []))))) (tNot' (tTruth (toD (evCall m_is_within 3 (fun as _ => as) (arCons (arV (toD (evLenS 0))) (arCons (arV (mpure (.int 1))) (arCons (arV (mpure (.int 5))) (mpure [])))) (mpure []))))))
    deadM
    (mpure .nx))
    (mseq (evIf (tNot' (tTruth (toD (evC bAll (evCons (toD (mLc [2] (evSeq (evVar 0)) (fun d => setSlot 2 (.fz d)) (mpure true) (toD (evCall m_is_within 3 (fun as _ => as) (arCons (arV (evVar 2)) (arCons (arV (mpure (.int 0))) (arCons (arV (mpure .non)) (mpure [])))) (mpure []))))) (mpure []))))))
    deadM
    (mpure .nx))
    (evRet (evC bTuple (evCons (evVar 0) (mpure []))))))
noncomputable def m_need_counts : Fn := fnSem b_need_counts 3
noncomputable def b_lowest : M Fl := (mseq (evSet 2 (evCall m_common 2 (fun as _ => as) (arCons (arV (evVar 0)) (arCons (arV (evVar 1)) (mpure []))) (mpure [])))
    (mseq (evSet 2 (evIf (ev2T cLt (evVar 1) (mpure (.int 0))) (ev1 (u1 fun i => .int (-i)) (evVar 2)) (toV (evVar 2))))
    (mseq (evPar [0, 1] (vCons (ev2 (i2 fDiv) (evVar 0) (evVar 2)) (vCons (ev2 (i2 fDiv) (evVar 1) (evVar 2)) (mpure []))))
    (evRet (evIf (ev2T eqA (evVar 1) (mpure (.int 1))) (toV (evVar 0)) (evC mkTup (evCons (evVar 0) (evCons (evVar 1) (mpure [])))))))))
noncomputable def m_lowest : Fn := fnSem b_lowest 3
noncomputable def b_choose_in : M Fl := (mseq (evSet 2 (toV (mpure (.int 1))))
    (mseq (mFor (evL rng1 (evCons (evVar 1) (mpure []))) (fun d => setSlot 3 (.fz d))
    (evSet 2 (ev2 (i2 fDiv) (toD (ev2 opMul (evVar 2) (toD (ev2 (i2 fun i j => some (.int (i - j))) (evVar 0) (evVar 3))))) (toD (ev2 opAdd (evVar 3) (mpure (.int 1)))))))
    (evRet (evMove 2))))
noncomputable def m_choose_in : Fn := fnSem b_choose_in 4
noncomputable def b_factorial : M Fl := (mseq (evSet 1 (toV (mpure (.int 1))))
    (mseq (mFor (evL rng2 (evCons (mpure (.int 2)) (evCons (toD (ev2 opAdd (evVar 0) (mpure (.int 1)))) (mpure [])))) (fun d => setSlot 2 (.fz d))
    (evSet 1 (ev2 opMul (evVar 1) (evVar 2))))
    (evRet (evMove 1))))
noncomputable def m_factorial : Fn := fnSem b_factorial 3
noncomputable def b_weight_in : M Fl := (mseq (evSet 1 (evCall m_factorial 1 (fun as _ => as) (arCons (arV (toD (ev2 (i2 fun i j => some (.int (i - j))) (toD (evLenS 0)) (mpure (.int 1))))) (mpure [])) (mpure [])))
    (mseq (mFor (evSeq (evVar 0)) (fun d => setSlot 2 (.fz d))
    (evSet 1 (ev2 opMul (evVar 1) (toD (evCall m_factorial 1 (fun as _ => as) (arCons (arV (evVar 2)) (mpure [])) (mpure []))))))
    (evRet (evCall m_lowest 2 (fun as _ => as) (arCons (arV (evVar 1)) (arCons (arV (toD (evCall m_factorial 1 (fun as _ => as) (arCons (arV (toD (ev2 (i2 fun i j => some (.int (i - j))) (toD (ev2 opAdd (toD (evC bSumA (evCons (evVar 0) (mpure [])))) (toD (evLenS 0)))) (mpure (.int 1))))) (mpure [])) (mpure [])))) (mpure []))) (mpure [])))))
noncomputable def m_weight_in : Fn := fnSem b_weight_in 3
noncomputable def b_factor_in : M Fl := (evRet (evCall m_choose_in 2 (fun as _ => as) (arCons (arV (toD (ev2 (i2 fun i j => some (.int (i - j))) (toD (ev2 opAdd (evVar 1) (evVar 0))) (mpure (.int 1))))) (arCons (arV (toD (ev2 (i2 fun i j => some (.int (i - j))) (evVar 0) (mpure (.int 1))))) (mpure []))) (mpure [])))
noncomputable def m_factor_in : Fn := fnSem b_factor_in 2
noncomputable def b_even_weight : M Fl := (mseq (evSet 1 (evCall m_need_counts 2 (fun as _ => as) (arCons (arV (evVar 0)) (arCons (arV (mpure (.str "counts"))) (mpure []))) (mpure [])))
    (mseq (evIf (ev2T cGt (toD (evC bMax (evCons (evVar 1) (mpure [])))) (mpure (.int 1000)))
    deadM
    (mpure .nx))
    (evRet (evCall m_weight_in 1 (fun as _ => as) (arCons (arV (evVar 1)) (mpure [])) (mpure [])))))
noncomputable def m_even_weight : Fn := fnSem b_even_weight 2
noncomputable def b_even_factor : M Fl := (mseq (evExpr (toD (evCall m_need_goods 1 (fun as _ => as) (arCons (arV (evVar 0)) (mpure [])) (mpure []))))
    (mseq (evExpr (toD (evCall m_need_days 1 (fun as _ => as) (arCons (arV (evVar 1)) (mpure [])) (mpure []))))
    (evRet (evCall m_factor_in 2 (fun as _ => as) (arCons (arV (evVar 0)) (arCons (arV (evVar 1)) (mpure []))) (mpure [])))))
noncomputable def m_even_factor : Fn := fnSem b_even_factor 2
noncomputable def b_law_pen : M Fl := (evRet (evC mkLst (evCons (toD (mLc [1] (evSeq (toD (evSl (evVar 0) (mpure none) (evO (mpure (.int 62)))))) (fun d => setSlot 1 (.fz d)) (mpure true) (toD (evC bInt (evCons (evVar 1) (mpure [])))))) (evCons (mpure (.int 0)) (evCons (mpure (.int 0)) (mpure []))))))
noncomputable def m_law_pen : Fn := fnSem b_law_pen 2
noncomputable def b_law_draw : M Fl := (mseq (evSet 2 (evC bInt (evCons (toD (evIxS 0 (mpure (.int 2)))) (mpure []))))
    (mseq (evIf (ev2T cGt (evVar 2) (mpure (.int 0)))
    (mseq (evAsg (toD (ev2 (i2 fDiv) (evVar 2) (evVar 1))) (gIx 0 (mpure (.int 2))))
    (evRet (ev2 (i2 fMod) (evVar 2) (evVar 1))))
    (mpure .nx))
    (mseq (evIf (ev2T eqA (toD (evIxS 0 (mpure (.int 0)))) (toD (evC mkLst (mpure []))))
    (evRet (toV (mpure (.int 0))))
    (mpure .nx))
    (mseq (evSet 3 (evIxS 0 (mpure (.int 1))))
    (mseq (evAsg (toD (ev2 opAdd (evVar 3) (mpure (.int 1)))) (gIx 0 (mpure (.int 1))))
    (mseq (evSet 4 (ev2 item (toD (evIxS 0 (mpure (.int 0)))) (toD (ev2 (i2 fMod) (toD (evC bInt (evCons (evVar 3) (mpure [])))) (toD (evC bLen (evCons (toD (evIxS 0 (mpure (.int 0)))) (mpure []))))))))
    (mseq (evIf (tAnd' (ev2T cLt (evVar 3) (toD (evC bLen (evCons (toD (evIxS 0 (mpure (.int 0)))) (mpure []))))) (ev2T cGe (toD (evC bAbs (evCons (evVar 4) (mpure [])))) (toD (ev2 (i2 fPow) (mpure (.int 10)) (mpure (.int 18))))))
    (mseq (evSet 2 (ev2 opAdd (toD (ev2 opMul (mpure (.int 2)) (toD (ev2 (i2 fun i j => some (.int (i - j))) (toD (evC bAbs (evCons (evVar 4) (mpure [])))) (toD (ev2 (i2 fPow) (mpure (.int 10)) (mpure (.int 18)))))))) (toD (evC bInt (evCons (toD (ev2 cLt (evVar 4) (mpure (.int 0)))) (mpure []))))))
    (mseq (evAsg (toD (ev2 (i2 fDiv) (evVar 2) (evVar 1))) (gIx 0 (mpure (.int 2))))
    (evRet (ev2 (i2 fMod) (evVar 2) (evVar 1)))))
    (mpure .nx))
    (mseq (evSet 5 (ev2 (i2 fMod) (toD (evC bInt (evCons (toD (ev2 (i2 fPow) (toD (ev2 opAdd (toD (ev2 opAdd (toD (ev2 (i2 fMod) (toD (evC bInt (evCons (evVar 4) (mpure [])))) (mpure (.int 2147483563)))) (toD (ev2 opMul (mpure (.int 52081)) (evVar 3))))) (mpure (.int 7057)))) (mpure (.int 5)))) (mpure [])))) (mpure (.int 2147483543))))
    (mseq (evSet 5 (ev2 (i2 fMod) (toD (evC bInt (evCons (toD (ev2 (i2 fPow) (toD (ev2 opAdd (toD (ev2 opAdd (toD (ev2 opMul (evVar 5) (toD (ev2 opAdd (toD (ev2 opMul (mpure (.int 2)) (evVar 3))) (mpure (.int 6067)))))) (toD (ev2 opMul (toD (ev2 opMul (mpure (.int 52081)) (evVar 3))) (evVar 3))))) (mpure (.int 7057)))) (mpure (.int 3)))) (mpure [])))) (mpure (.int 2147483579))))
    (evRet (ev2 (i2 fMod) (toD (evC bInt (evCons (toD (ev2 (i2 fDiv) (evVar 5) (mpure (.int 64)))) (mpure [])))) (evVar 1))))))))))))
noncomputable def m_law_draw : Fn := fnSem b_law_draw 6
noncomputable def b_law_one_of : M Fl := (evRet (evIxS 1 (toD (evCall m_law_draw 2 (fun as _ => as) (arCons (arR 0) (arCons (arV (toD (evLenS 1))) (mpure []))) (mpure [])))))
noncomputable def m_law_one_of : Fn := fnSem b_law_one_of 2
noncomputable def b_law_low : M Fl := (mseq (evPar [2, 3] (vCons (evC bAbs (evCons (evVar 0) (mpure []))) (vCons (evC bAbs (evCons (evVar 1) (mpure []))) (mpure []))))
    (mseq (mWhile (ev2T cGt (evVar 3) (mpure (.int 0)))
    (evPar [2, 3] (vCons (toV (evVar 3)) (vCons (ev2 (i2 fMod) (toD (evC bInt (evCons (evVar 2) (mpure [])))) (evVar 3)) (mpure [])))))
    (mseq (evSet 2 (evIf (ev2T cGt (evVar 1) (mpure (.int 0))) (toV (evVar 2)) (ev1 (u1 fun i => .int (-i)) (evVar 2))))
    (evRet (evC mkTup (evCons (toD (ev2 (i2 fDiv) (toD (evC bInt (evCons (evVar 0) (mpure [])))) (evVar 2))) (evCons (toD (ev2 (i2 fDiv) (toD (evC bInt (evCons (evVar 1) (mpure [])))) (evVar 2))) (mpure []))))))))
noncomputable def m_law_low : Fn := fnSem b_law_low 4
noncomputable def b_law_plus : M Fl := (evRet (evCall m_law_low 2 (fun as _ => as) (arCons (arV (toD (ev2 opAdd (toD (ev2 opMul (toD (evIxS 0 (mpure (.int 0)))) (toD (evIxS 1 (mpure (.int 1)))))) (toD (ev2 opMul (toD (evIxS 1 (mpure (.int 0)))) (toD (evIxS 0 (mpure (.int 1))))))))) (arCons (arV (toD (ev2 opMul (toD (evIxS 0 (mpure (.int 1)))) (toD (evIxS 1 (mpure (.int 1))))))) (mpure []))) (mpure [])))
noncomputable def m_law_plus : Fn := fnSem b_law_plus 2
noncomputable def b_law_times : M Fl := (evRet (evCall m_law_low 2 (fun as _ => as) (arCons (arV (toD (ev2 opMul (toD (evIxS 0 (mpure (.int 0)))) (toD (evIxS 1 (mpure (.int 0))))))) (arCons (arV (toD (ev2 opMul (toD (evIxS 0 (mpure (.int 1)))) (toD (evIxS 1 (mpure (.int 1))))))) (mpure []))) (mpure [])))
noncomputable def m_law_times : Fn := fnSem b_law_times 2
noncomputable def b_law_sum : M Fl := (mseq (evSet 1 (evC mkTup (evCons (mpure (.int 0)) (evCons (mpure (.int 1)) (mpure [])))))
    (mseq (mFor (evSeq (evVar 0)) (fun d => setSlot 2 (.fz d))
    (evSet 1 (evCall m_law_plus 2 (fun as _ => as) (arCons (arV (evVar 1)) (arCons (arV (evVar 2)) (mpure []))) (mpure []))))
    (evRet (evMove 1))))
noncomputable def m_law_sum : Fn := fnSem b_law_sum 3
noncomputable def b_law_number : M Fl := (evRet (evIf (ev2T eqA (toD (evIxS 0 (mpure (.int 1)))) (mpure (.int 1))) (evIxS 0 (mpure (.int 0))) (toV (evVar 0))))
noncomputable def m_law_number : Fn := fnSem b_law_number 1
noncomputable def b_law_words : M Fl := (mseq (evSet 2 (evC mkLst (evCons (toD (evC mkTup (mpure []))) (mpure []))))
    (mseq (mFor (evL rng1 (evCons (evVar 1) (mpure []))) (fun d => setSlot 3 (.fz d))
    (mseq (evSet 4 (evC mkLst (mpure [])))
    (mseq (mFor (evSeq (evVar 2)) (fun d => setSlot 5 (.fz d))
    (evExpr (evMut 4 fExt (evCons (toD (mLc [6] (evL rng1 (evCons (evVar 0) (mpure []))) (fun d => setSlot 6 (.fz d)) (mpure true) (toD (ev2 opAdd (evVar 5) (toD (evC mkTup (evCons (evVar 6) (mpure [])))))))) (mpure [])))))
    (evSet 2 (toV (evVar 4))))))
    (evRet (evMove 2))))
noncomputable def m_law_words : Fn := fnSem b_law_words 7
noncomputable def b_law_even : M Fl := (mseq (evPar [1, 2] (vCons (evC mkTup (evCons (mpure (.int 1)) (evCons (mpure (.int 1)) (mpure [])))) (vCons (evLenS 0) (mpure []))))
    (mseq (mFor (evSeq (evVar 0)) (fun d => setSlot 3 (.fz d))
    (mFor (evL rng1 (evCons (evVar 3) (mpure []))) (fun d => setSlot 4 (.fz d))
    (mseq (evSet 1 (evCall m_law_times 2 (fun as _ => as) (arCons (arV (evVar 1)) (arCons (arV (toD (evC mkTup (evCons (toD (ev2 opAdd (evVar 4) (mpure (.int 1)))) (evCons (evVar 2) (mpure [])))))) (mpure []))) (mpure [])))
    (evSet 2 (ev2 opAdd (evVar 2) (mpure (.int 1)))))))
    (evRet (evMove 1))))
noncomputable def m_law_even : Fn := fnSem b_law_even 5
noncomputable def b_law_triangle : M Fl := (mseq (evSet 2 (ev2 opMul (toD (evC mkLst (evCons (mpure (.int 1)) (mpure [])))) (toD (ev2 opAdd (evVar 1) (mpure (.int 1))))))
    (mseq (mFor (evL rng1 (evCons (toD (ev2 (i2 fun i j => some (.int (i - j))) (evVar 0) (mpure (.int 1)))) (mpure []))) (fun d => setSlot 3 (.fz d))
    (mFor (evL rng2 (evCons (mpure (.int 1)) (evCons (toD (ev2 opAdd (evVar 1) (mpure (.int 1)))) (mpure [])))) (fun d => setSlot 4 (.fz d))
    (evAsg (toD (ev2 opAdd (toD (evIxS 2 (evVar 4))) (toD (evIxS 2 (toD (ev2 (i2 fun i j => some (.int (i - j))) (evVar 4) (mpure (.int 1)))))))) (gIx 2 (evVar 4)))))
    (evRet (evIxS 2 (evVar 1)))))
noncomputable def m_law_triangle : Fn := fnSem b_law_triangle 5
noncomputable def b_law : M Fl := (mseq (evSet 1 (evCall m_law_pen 1 (fun as _ => as) (arCons (arV (evVar 0)) (mpure [])) (mpure [])))
    (mseq (mFor (evL rng1 (evCons (mpure (.int 3)) (mpure []))) (fun d => setSlot 2 (.fz d))
    (mseq (evSet 3 (ev2 opAdd (mpure (.int 1)) (toD (evCall m_law_draw 2 (fun as _ => as) (arCons (arR 1) (arCons (arV (mpure (.int 5))) (mpure []))) (mpure [])))))
    (mseq (evSet 4 (mLc [11] (evL rng1 (evCons (evVar 3) (mpure []))) (fun d => setSlot 11 (.fz d)) (mpure true) (toD (evCall m_law_one_of 2 (fun as _ => as) (arCons (arR 1) (arCons (arV (toD (evC mkLst (evCons (mpure (.int 0)) (evCons (mpure (.int 1)) (evCons (mpure (.int 2)) (evCons (toD (evCall m_law_draw 2 (fun as _ => as) (arCons (arR 1) (arCons (arV (mpure (.int 9))) (mpure []))) (mpure []))) (evCons (toD (ev2 opMul (toD (evCall m_law_draw 2 (fun as _ => as) (arCons (arR 1) (arCons (arV (mpure (.int 9))) (mpure []))) (mpure []))) (toD (evCall m_law_draw 2 (fun as _ => as) (arCons (arR 1) (arCons (arV (mpure (.int 30))) (mpure []))) (mpure []))))) (mpure []))))))))) (mpure []))) (mpure [])))))
    (mseq (evSet 5 (evCall m_law_even 1 (fun as _ => as) (arCons (arV (evVar 4)) (mpure [])) (mpure [])))
    (mseq (evIf (ev2T neA (toD (evC bReprW (evCons (toD (evC mkLst (evCons (toD (evCall m_even_weight 1 (fun as _ => as) (arCons (arV (evVar 4)) (mpure [])) (mpure []))) (evCons (toD (evCall m_even_weight 1 (permN (.v .non) 0 1 [0]) (mpure []) (arCons (arV (toD (evC bTuple (evCons (evVar 4) (mpure []))))) (mpure [])))) (mpure []))))) (mpure [])))) (toD (evC bReprW (evCons (toD (ev2 opMul (toD (evC mkLst (evCons (toD (evCall m_law_number 1 (fun as _ => as) (arCons (arV (evVar 5)) (mpure [])) (mpure []))) (mpure [])))) (mpure (.int 2)))) (mpure [])))))
    (evRet (toV (mpure (.bl false))))
    (mpure .nx))
    (mseq (evSet 6 (mLc [11] (evL rng1 (evCons (evVar 3) (mpure []))) (fun d => setSlot 11 (.fz d)) (mpure true) (toD (evCall m_law_even 1 (fun as _ => as) (arCons (arV (toD (ev2 opAdd (toD (ev2 opAdd (toD (evSl (evVar 4) (mpure none) (evO (evVar 11)))) (toD (evC mkLst (evCons (toD (ev2 opAdd (toD (evIxS 4 (evVar 11))) (mpure (.int 1)))) (mpure [])))))) (toD (evSl (evVar 4) (evO (toD (ev2 opAdd (evVar 11) (mpure (.int 1))))) (mpure none)))))) (mpure [])) (mpure [])))))
    (mseq (evIf (tOr' (ev2T neA (toD (evCall m_law_sum 1 (fun as _ => as) (arCons (arV (evVar 6)) (mpure [])) (mpure []))) (evVar 5)) (ev2T neA (toD (evC bReprW (evCons (toD (evCall m_even_weight 1 (fun as _ => as) (arCons (arV (toD (ev2 opAdd (toD (evSl (evVar 4) (mpure none) (evO (toD (ev1 (u1 fun i => .int (-i)) (mpure (.int 1))))))) (toD (evC mkLst (evCons (toD (ev2 opAdd (toD (evIxS 4 (toD (ev1 (u1 fun i => .int (-i)) (mpure (.int 1)))))) (mpure (.int 1)))) (mpure []))))))) (mpure [])) (mpure []))) (mpure [])))) (toD (evC bReprW (evCons (toD (evCall m_law_number 1 (fun as _ => as) (arCons (arV (toD (evIxS 6 (toD (ev1 (u1 fun i => .int (-i)) (mpure (.int 1))))))) (mpure [])) (mpure []))) (mpure []))))))
    (evRet (toV (mpure (.bl false))))
    (mpure .nx))
    (mseq (evSet 7 (evCall m_law_one_of 2 (fun as _ => as) (arCons (arR 1) (arCons (arV (toD (evC mkLst (evCons (mpure (.int 3)) (evCons (mpure (.int 0)) (evCons (mpure (.int 1)) (evCons (mpure (.int 12)) (evCons (toD (evCall m_law_draw 2 (fun as _ => as) (arCons (arR 1) (arCons (arV (mpure (.int 60))) (mpure []))) (mpure []))) (evCons (toD (evIf (ev2T cLt (evVar 3) (mpure (.int 3))) (toV (mpure (.int 1000))) (toV (mpure (.int 200))))) (mpure [])))))))))) (mpure []))) (mpure [])))
    (evIf (ev2T neA (toD (evC bReprW (evCons (toD (evC mkLst (evCons (toD (evCall m_even_factor 2 (fun as _ => as) (arCons (arV (evVar 3)) (arCons (arV (evVar 7)) (mpure []))) (mpure []))) (evCons (toD (evCall m_even_factor 2 (permN (.v .non) 0 2 [1, 0]) (mpure []) (arCons (arV (evVar 7)) (arCons (arV (evVar 3)) (mpure []))))) (mpure []))))) (mpure [])))) (toD (evC bReprW (evCons (toD (ev2 opMul (toD (evC mkLst (evCons (toD (evCall m_law_triangle 2 (fun as _ => as) (arCons (arV (evVar 3)) (arCons (arV (evVar 7)) (mpure []))) (mpure []))) (mpure [])))) (mpure (.int 2)))) (mpure [])))))
    (evRet (toV (mpure (.bl false))))
    (mpure .nx))))))))))
    (mseq (evPar [3, 7] (vCons (evCall m_law_one_of 2 (fun as _ => as) (arCons (arR 1) (arCons (arV (toD (evC mkLst (evCons (mpure (.int 2)) (evCons (mpure (.int 3)) (evCons (mpure (.int 1)) (mpure []))))))) (mpure []))) (mpure [])) (vCons (evCall m_law_draw 2 (fun as _ => as) (arCons (arR 1) (arCons (arV (mpure (.int 5))) (mpure []))) (mpure [])) (mpure []))))
    (mseq (evSet 8 (evC mkLst (mpure [])))
    (mseq (mFor (evSeq (toD (evCall m_law_words 2 (fun as _ => as) (arCons (arV (evVar 3)) (arCons (arV (evVar 7)) (mpure []))) (mpure [])))) (fun d => setSlot 9 (.fz d))
    (mseq (evSet 10 (evCall m_even_weight 1 (fun as _ => as) (arCons (arV (toD (mLc [11] (evL rng1 (evCons (evVar 3) (mpure []))) (fun d => setSlot 11 (.fz d)) (mpure true) (toD (evC bLen (evCons (toD (mLc [12] (evSeq (evVar 9)) (fun d => setSlot 12 (.fz d)) (ev2T eqA (evVar 12) (evVar 11)) (mpure (.int 1)))) (mpure []))))))) (mpure [])) (mpure [])))
    (evExpr (evMut 8 fApp (evCons (toD (evIf (tTruth (toD (evC bIsi (evCons (evVar 10) (evCons (mpure (.ty .int)) (mpure [])))))) (evC mkTup (evCons (evVar 10) (evCons (mpure (.int 1)) (mpure [])))) (toV (evVar 10)))) (mpure []))))))
    (evRet (toV (evAnd (toD (ev2 eqA (toD (evCall m_law_sum 1 (fun as _ => as) (arCons (arR 8) (mpure [])) (mpure []))) (toD (evC mkTup (evCons (mpure (.int 1)) (evCons (mpure (.int 1)) (mpure []))))))) (evAnd (toD (ev2 eqA (toD (evCall m_even_weight 1 (fun as _ => as) (arCons (arV (toD (evC mkLst (evCons (mpure (.int 1000)) (mpure []))))) (mpure [])) (mpure []))) (mpure (.int 1)))) (toD (ev2 eqA (toD (evCall m_even_factor 2 (fun as _ => as) (arCons (arV (mpure (.int 5))) (arCons (arV (mpure (.int 1000))) (mpure []))) (mpure []))) (toD (ev2 (i2 fDiv) (toD (ev2 opMul (toD (ev2 opMul (toD (ev2 opMul (mpure (.int 1004)) (mpure (.int 1003)))) (mpure (.int 1002)))) (mpure (.int 1001)))) (mpure (.int 24)))))))))))))))
noncomputable def m_law : Fn := fnSem b_law 13
section
variable {P : Program} {w : World} {K : PySem.W.Frag} {mg : Str → Option Value} {base : Heap} {G : Gc}
theorem bd_is_integer (T : Tops K mg) : Binds K T.fd_is_integer ["value"] [] := T.F_is_integer.binds (ps := ["value"]) fun _ _ _ _ _ _ us hl => match us, hl with | [_], _ => rfl
theorem bd_is_within (T : Tops K mg) : Binds K T.fd_is_within ["value", "least", "most"] [] := T.F_is_within.binds (ps := ["value", "least", "most"]) fun _ _ _ _ _ _ us hl => match us, hl with | [_, _, _], _ => rfl
theorem bd_is_list (T : Tops K mg) : Binds K T.fd_is_list ["value"] [] := T.F_is_list.binds (ps := ["value"]) fun _ _ _ _ _ _ us hl => match us, hl with | [_], _ => rfl
theorem bd_common (T : Tops K mg) : Binds K T.fd_common ["one", "other"] [] := T.F_common.binds (ps := ["one", "other"]) fun _ _ _ _ _ _ us hl => match us, hl with | [_, _], _ => rfl
theorem bd_need_integer (T : Tops K mg) : Binds K T.fd_need_integer ["value", "part", "least", "most"] [] := T.F_need_integer.binds (ps := ["value", "part", "least", "most"]) fun _ _ _ _ _ _ us hl => match us, hl with | [_, _, _, _], _ => rfl
theorem bd_need_goods (T : Tops K mg) : Binds K T.fd_need_goods ["value"] [] := T.F_need_goods.binds (ps := ["value"]) fun _ _ _ _ _ _ us hl => match us, hl with | [_], _ => rfl
theorem bd_need_days (T : Tops K mg) : Binds K T.fd_need_days ["value"] [] := T.F_need_days.binds (ps := ["value"]) fun _ _ _ _ _ _ us hl => match us, hl with | [_], _ => rfl
theorem bd_need_counts (T : Tops K mg) : Binds K T.fd_need_counts ["value", "part"] [] := T.F_need_counts.binds (ps := ["value", "part"]) fun _ _ _ _ _ _ us hl => match us, hl with | [_, _], _ => rfl
theorem bd_lowest (T : Tops K mg) : Binds K T.fd_lowest ["above", "under"] [] := T.F_lowest.binds (ps := ["above", "under"]) fun _ _ _ _ _ _ us hl => match us, hl with | [_, _], _ => rfl
theorem bd_choose_in (T : Tops K mg) : Binds K T.fd_choose_in ["many", "some"] [] := T.F_choose_in.binds (ps := ["many", "some"]) fun _ _ _ _ _ _ us hl => match us, hl with | [_, _], _ => rfl
theorem bd_factorial (T : Tops K mg) : Binds K T.fd_factorial ["number"] [] := T.F_factorial.binds (ps := ["number"]) fun _ _ _ _ _ _ us hl => match us, hl with | [_], _ => rfl
theorem bd_weight_in (T : Tops K mg) : Binds K T.fd_weight_in ["counts"] [] := T.F_weight_in.binds (ps := ["counts"]) fun _ _ _ _ _ _ us hl => match us, hl with | [_], _ => rfl
theorem bd_factor_in (T : Tops K mg) : Binds K T.fd_factor_in ["goods", "days"] [] := T.F_factor_in.binds (ps := ["goods", "days"]) fun _ _ _ _ _ _ us hl => match us, hl with | [_, _], _ => rfl
theorem bd_even_weight (T : Tops K mg) : Binds K T.fd_even_weight ["counts"] [] := T.F_even_weight.binds (ps := ["counts"]) fun _ _ _ _ _ _ us hl => match us, hl with | [_], _ => rfl
theorem bd_even_factor (T : Tops K mg) : Binds K T.fd_even_factor ["goods", "days"] [] := T.F_even_factor.binds (ps := ["goods", "days"]) fun _ _ _ _ _ _ us hl => match us, hl with | [_, _], _ => rfl
theorem bd_law_pen (T : Tops K mg) : Binds K T.fd_law_pen ["_law_script"] [] := T.F_law_pen.binds (ps := ["_law_script"]) fun _ _ _ _ _ _ us hl => match us, hl with | [_], _ => rfl
theorem bd_law_draw (T : Tops K mg) : Binds K T.fd_law_draw ["_law_pen_here", "_law_many"] [] := T.F_law_draw.binds (ps := ["_law_pen_here", "_law_many"]) fun _ _ _ _ _ _ us hl => match us, hl with | [_, _], _ => rfl
theorem bd_law_one_of (T : Tops K mg) : Binds K T.fd_law_one_of ["_law_pen_here", "_law_some"] [] := T.F_law_one_of.binds (ps := ["_law_pen_here", "_law_some"]) fun _ _ _ _ _ _ us hl => match us, hl with | [_, _], _ => rfl
theorem bd_law_low (T : Tops K mg) : Binds K T.fd_law_low ["_law_above", "_law_below"] [] := T.F_law_low.binds (ps := ["_law_above", "_law_below"]) fun _ _ _ _ _ _ us hl => match us, hl with | [_, _], _ => rfl
theorem bd_law_plus (T : Tops K mg) : Binds K T.fd_law_plus ["_law_one", "_law_other"] [] := T.F_law_plus.binds (ps := ["_law_one", "_law_other"]) fun _ _ _ _ _ _ us hl => match us, hl with | [_, _], _ => rfl
theorem bd_law_times (T : Tops K mg) : Binds K T.fd_law_times ["_law_one", "_law_other"] [] := T.F_law_times.binds (ps := ["_law_one", "_law_other"]) fun _ _ _ _ _ _ us hl => match us, hl with | [_, _], _ => rfl
theorem bd_law_sum (T : Tops K mg) : Binds K T.fd_law_sum ["_law_some"] [] := T.F_law_sum.binds (ps := ["_law_some"]) fun _ _ _ _ _ _ us hl => match us, hl with | [_], _ => rfl
theorem bd_law_number (T : Tops K mg) : Binds K T.fd_law_number ["_law_one"] [] := T.F_law_number.binds (ps := ["_law_one"]) fun _ _ _ _ _ _ us hl => match us, hl with | [_], _ => rfl
theorem bd_law_words (T : Tops K mg) : Binds K T.fd_law_words ["_law_goods", "_law_days"] [] := T.F_law_words.binds (ps := ["_law_goods", "_law_days"]) fun _ _ _ _ _ _ us hl => match us, hl with | [_, _], _ => rfl
theorem bd_law_even (T : Tops K mg) : Binds K T.fd_law_even ["_law_counts"] [] := T.F_law_even.binds (ps := ["_law_counts"]) fun _ _ _ _ _ _ us hl => match us, hl with | [_], _ => rfl
theorem bd_law_triangle (T : Tops K mg) : Binds K T.fd_law_triangle ["_law_goods", "_law_days"] [] := T.F_law_triangle.binds (ps := ["_law_goods", "_law_days"]) fun _ _ _ _ _ _ us hl => match us, hl with | [_, _], _ => rfl
theorem bd_law (T : Tops K mg) : Binds K T.fd_law ["_law_script"] [] := T.F_law.binds (ps := ["_law_script"]) fun _ _ _ _ _ _ us hl => match us, hl with | [_], _ => rfl
theorem kb_even_factor_0_1_0 (T : Tops K mg) : KBinds K T.fd_even_factor ["goods", "days"] ["days", "goods"] (permN .none 0 2 [1, 0]) (permN .non 0 2 [1, 0]) := kbinds_mk T.F_even_factor 0 2 [1, 0] fun _ _ _ _ _ _ us ws h1 h2 => match us, ws, h1, h2 with | [], [_, _], _, _ => rfl
theorem kb_even_weight_0_0 (T : Tops K mg) : KBinds K T.fd_even_weight ["counts"] ["counts"] (permN .none 0 1 [0]) (permN .non 0 1 [0]) := kbinds_mk T.F_even_weight 0 1 [0] fun _ _ _ _ _ _ us ws h1 h2 => match us, ws, h1, h2 with | [], [_], _, _ => rfl
theorem ok_is_integer (T : Tops K mg) (hN : NOk G.N T) : FnG P w K mg base (L2.CX P w) 1 T.f_is_integer T.fd_is_integer ["value"] (spEv G m_is_integer 1) :=
  fn_sound T.F_is_integer sc_is_integer fun cdv A outer s H E L B => (SSs.one (SS.ret (SD.toE (SD.and (SE.toD (SE.isinst rfl T.z_isinstance (SA.cons (SD.var 0 rfl (.inl rfl)) (SA.cons (SD.bltn (n := .int) rfl T.z_int bt_int) SA.nil)))) (SD.one (SD.not (SE.toD (SE.isinst rfl T.z_isinstance (SA.cons (SD.var 0 rfl (.inl rfl)) (SA.cons (SD.bltn (n := .bool) rfl T.z_bool bt_bool) SA.nil))))))))))
theorem ok_is_within (T : Tops K mg) (hN : NOk G.N T) : FnG P w K mg base (L2.CX P w) 2 T.f_is_within T.fd_is_within ["value", "least", "most"] (spEv G m_is_within 3) :=
  fn_sound T.F_is_within sc_is_within fun cdv A outer s H E L B => (SSs.cons (SS.ite (ST.not (ST.truth (SE.toD (SE.call1 (ok_is_integer T hN) (B.room.mono (by decide)) B.tk rfl T.g_is_integer T.F_is_integer.kp (KBinds.ofPos (bd_is_integer T)) GRel.ofPos (SR.cons (SD.var 0 rfl (.inl rfl)) SR.nil)))))
    (SSs.one (SS.ret (SD.toE SD.bl)))
    SSs.nil)
    (SSs.one (SS.ret (SD.toE (SD.and (SD.or (SE.toD (SE.isN (SD.var 1 rfl (.inl rfl)) SD.non)) (SD.one (SE.toD (SE.le (SD.var 1 rfl (.inl rfl)) (SD.var 0 rfl (.inl rfl)))))) (SD.one (SD.or (SE.toD (SE.isN (SD.var 2 rfl (.inl rfl)) SD.non)) (SD.one (SE.toD (SE.le (SD.var 0 rfl (.inl rfl)) (SD.var 2 rfl (.inl rfl))))))))))))
theorem ok_is_list (T : Tops K mg) (hN : NOk G.N T) : FnG P w K mg base (L2.CX P w) 1 T.f_is_list T.fd_is_list ["value"] (spEv G m_is_list 1) :=
  fn_sound T.F_is_list sc_is_list fun cdv A outer s H E L B => (SSs.one (SS.ret (SE.isinst rfl T.z_isinstance (SA.cons (SD.var 0 rfl (.inl rfl)) (SA.cons (SE.toD (SE.tup (SA.cons (SD.bltn (n := .list) rfl T.z_list bt_list) (SA.cons (SD.bltn (n := .tuple) rfl T.z_tuple bt_tuple) SA.nil)))) SA.nil)))))
theorem ok_common (T : Tops K mg) (hN : NOk G.N T) : FnG P w K mg base (L2.CX P w) 1 T.f_common T.fd_common ["one", "other"] (spEv G m_common 2) :=
  fn_sound T.F_common sc_common fun cdv A outer s H E L B => (SSs.cons (SS.par2 0 1 B.calm sc_common.nd rfl rfl (by decide) rfl rfl (SV.cons (SE.abs rfl T.z_abs (SA.cons (SD.var 0 rfl (.inl rfl)) SA.nil)) (SV.cons (SE.abs rfl T.z_abs (SA.cons (SD.var 1 rfl (.inl rfl)) SA.nil)) SV.nil)) (by rfl))
    (SSs.cons (SS.while B.hp (ST.gt (SD.var 1 rfl (.inl rfl)) SD.int)
    (SSs.one (SS.par2 0 1 B.calm sc_common.nd rfl rfl (by decide) rfl rfl (SV.cons (SD.toE (SD.var 1 rfl (.inl rfl))) (SV.cons (SE.mod (SD.var 0 rfl (.inl rfl)) (SD.var 1 rfl (.inl rfl))) SV.nil)) (by rfl))))
    (SSs.one (SS.ret (SE.move 0 rfl (.inl rfl))))))
theorem ok_need_integer (T : Tops K mg) (hN : NOk G.N T) : FnG P w K mg base (L2.CX P w) 3 T.f_need_integer T.fd_need_integer ["value", "part", "least", "most"] (spEv G m_need_integer 4) :=
  fn_sound T.F_need_integer sc_need_integer fun cdv A outer s H E L B => (SSs.one (SS.ite (ST.not (ST.truth (SE.toD (SE.call1 (ok_is_within T hN) (B.room.mono (by decide)) B.tk rfl T.g_is_within T.F_is_within.kp (KBinds.ofPos (bd_is_within T)) GRel.ofPos (SR.cons (SD.var 0 rfl (.inl rfl)) (SR.cons (SD.var 2 rfl (.inl rfl)) (SR.cons (SD.var 3 rfl (.inl rfl)) SR.nil)))))))
    (SSs.one SS.dead)
    SSs.nil))
theorem ok_need_goods (T : Tops K mg) (hN : NOk G.N T) : FnG P w K mg base (L2.CX P w) 4 T.f_need_goods T.fd_need_goods ["value"] (spEv G m_need_goods 1) :=
  fn_sound T.F_need_goods sc_need_goods fun cdv A outer s H E L B => (SSs.one (SS.expr (SE.toD (SE.call1 (ok_need_integer T hN) (B.room.mono (by decide)) B.tk rfl T.g_need_integer T.F_need_integer.kp (KBinds.ofPos (bd_need_integer T)) GRel.ofPos (SR.cons (SD.var 0 rfl (.inl rfl)) (SR.cons SD.str (SR.cons SD.int (SR.cons (SD.globI rfl T.c_MOST_GOODS) SR.nil))))))))
theorem ok_need_days (T : Tops K mg) (hN : NOk G.N T) : FnG P w K mg base (L2.CX P w) 4 T.f_need_days T.fd_need_days ["value"] (spEv G m_need_days 1) :=
  fn_sound T.F_need_days sc_need_days fun cdv A outer s H E L B => (SSs.one (SS.expr (SE.toD (SE.call1 (ok_need_integer T hN) (B.room.mono (by decide)) B.tk rfl T.g_need_integer T.F_need_integer.kp (KBinds.ofPos (bd_need_integer T)) GRel.ofPos (SR.cons (SD.var 0 rfl (.inl rfl)) (SR.cons SD.str (SR.cons SD.int (SR.cons (SD.globI rfl T.c_MOST_DAYS) SR.nil))))))))
theorem ok_need_counts (T : Tops K mg) (hN : NOk G.N T) : FnG P w K mg base (L2.CX P w) 3 T.f_need_counts T.fd_need_counts ["value", "part"] (spEv G m_need_counts 2) :=
  fn_sound T.F_need_counts sc_need_counts fun cdv A outer s H E L B => (SSs.cons (SS.ite (SW.t (SW.or (ST.not (ST.truth (SE.toD (SE.call1 (ok_is_list T hN) (B.room.mono (by decide)) B.tk rfl T.g_is_list T.F_is_list.kp (KBinds.ofPos (bd_is_list T)) GRel.ofPos (SR.cons (SD.var 0 rfl (.inl rfl)) SR.nil))))) (SW.or1 (ST.not (ST.truth (SE.toD (SE.call1 (ok_is_within T hN) (B.room.mono (by decide)) B.tk rfl T.g_is_within T.F_is_within.kp (KBinds.ofPos (bd_is_within T)) GRel.ofPos (SR.cons (SE.toD (SE.lenS 0 rfl T.z_len rfl (.inl rfl))) (SR.cons SD.int (SR.cons (SD.globI rfl T.c_MOST_GOODS) SR.nil))))))))))
    (SSs.one SS.dead)
    SSs.nil)
    (SSs.cons (SS.ite (ST.not (ST.truth (SE.toD (SE.all B.calm rfl T.z_all (SA.cons (SE.toD (SE.lc (own := [("each", 2)]) B.calm sc_need_counts.nd (blkOk_by (N := ["value", "part", "each"]) (sc := defScope s_need_counts) (by decide +kernel)) (SI.seq (SD.var 0 rfl (.inl rfl))) (fun _ _ _ _ _ => (SGv.name 2 sc_need_counts.nd rfl (.inl rfl) (by decide) (.inr rfl))) (fun _ _ _ _ _ => SPT.nil) (fun _ _ _ _ _ => (SE.toD (SE.call1 (ok_is_within T hN) (B.room.mono (by decide)) tk0 rfl T.g_is_within T.F_is_within.kp (KBinds.ofPos (bd_is_within T)) GRel.ofPos (SR.cons (SD.var 2 rfl (.inl rfl)) (SR.cons SD.int (SR.cons SD.non SR.nil)))))))) SA.nil)))))
    (SSs.one SS.dead)
    SSs.nil)
    (SSs.one (SS.ret (SE.tuple rfl T.z_tuple (SA.cons (SD.var 0 rfl (.inl rfl)) SA.nil))))))
theorem ok_lowest (T : Tops K mg) (hN : NOk G.N T) : FnG P w K mg base (L2.CX P w) 2 T.f_lowest T.fd_lowest ["above", "under"] (spEv G m_lowest 2) :=
  fn_sound T.F_lowest sc_lowest fun cdv A outer s H E L B => (SSs.cons (SS.set 2 sc_lowest.nd rfl (.inl rfl) (SE.call1 (ok_common T hN) (B.room.mono (by decide)) B.tk rfl T.g_common T.F_common.kp (KBinds.ofPos (bd_common T)) GRel.ofPos (SR.cons (SD.var 0 rfl (.inl rfl)) (SR.cons (SD.var 1 rfl (.inl rfl)) SR.nil))))
    (SSs.cons (SS.set 2 sc_lowest.nd rfl (.inl rfl) (SE.ite (ST.lt (SD.var 1 rfl (.inl rfl)) SD.int) (SE.neg (SD.var 2 rfl (.inl rfl))) (SD.toE (SD.var 2 rfl (.inl rfl)))))
    (SSs.cons (SS.par2 0 1 B.calm sc_lowest.nd rfl rfl (by decide) rfl rfl (SV.cons (SE.fdiv (SD.var 0 rfl (.inl rfl)) (SD.var 2 rfl (.inl rfl))) (SV.cons (SE.fdiv (SD.var 1 rfl (.inl rfl)) (SD.var 2 rfl (.inl rfl))) SV.nil)) (by rfl))
    (SSs.one (SS.ret (SE.ite (ST.eq B.room (SD.var 1 rfl (.inl rfl)) SD.int) (SD.toE (SD.var 0 rfl (.inl rfl))) (SE.tup (SA.cons (SD.var 0 rfl (.inl rfl)) (SA.cons (SD.var 1 rfl (.inl rfl)) SA.nil)))))))))
theorem ok_choose_in (T : Tops K mg) (hN : NOk G.N T) : FnG P w K mg base (L2.CX P w) 1 T.f_choose_in T.fd_choose_in ["many", "some"] (spEv G m_choose_in 2) :=
  fn_sound T.F_choose_in sc_choose_in fun cdv A outer s H E L B => (SSs.cons (SS.set 2 sc_choose_in.nd rfl (.inl rfl) (SD.toE SD.int))
    (SSs.cons (SS.for B.hp B.calm (SI.range1 rfl T.z_range (SA.cons (SD.var 1 rfl (.inl rfl)) SA.nil)) (SG.name 3 sc_choose_in.nd rfl (.inl rfl))
    (SSs.one (SS.set 2 sc_choose_in.nd rfl (.inl rfl) (SE.fdiv (SE.toD (SE.mul (SD.var 2 rfl (.inl rfl)) (SE.toD (SE.sub (SD.var 0 rfl (.inl rfl)) (SD.var 3 rfl (.inl rfl)))))) (SE.toD (SE.add (SD.var 3 rfl (.inl rfl)) SD.int))))))
    (SSs.one (SS.ret (SE.move 2 rfl (.inl rfl))))))
theorem ok_factorial (T : Tops K mg) (hN : NOk G.N T) : FnG P w K mg base (L2.CX P w) 1 T.f_factorial T.fd_factorial ["number"] (spEv G m_factorial 1) :=
  fn_sound T.F_factorial sc_factorial fun cdv A outer s H E L B => (SSs.cons (SS.set 1 sc_factorial.nd rfl (.inl rfl) (SD.toE SD.int))
    (SSs.cons (SS.for B.hp B.calm (SI.range2 rfl T.z_range (SA.cons SD.int (SA.cons (SE.toD (SE.add (SD.var 0 rfl (.inl rfl)) SD.int)) SA.nil))) (SG.name 2 sc_factorial.nd rfl (.inl rfl))
    (SSs.one (SS.set 1 sc_factorial.nd rfl (.inl rfl) (SE.mul (SD.var 1 rfl (.inl rfl)) (SD.var 2 rfl (.inl rfl))))))
    (SSs.one (SS.ret (SE.move 1 rfl (.inl rfl))))))
theorem ok_weight_in (T : Tops K mg) (hN : NOk G.N T) : FnG P w K mg base (L2.CX P w) 3 T.f_weight_in T.fd_weight_in ["counts"] (spEv G m_weight_in 1) :=
  fn_sound T.F_weight_in sc_weight_in fun cdv A outer s H E L B => (SSs.cons (SS.set 1 sc_weight_in.nd rfl (.inl rfl) (SE.call1 (ok_factorial T hN) (B.room.mono (by decide)) B.tk rfl T.g_factorial T.F_factorial.kp (KBinds.ofPos (bd_factorial T)) GRel.ofPos (SR.cons (SE.toD (SE.sub (SE.toD (SE.lenS 0 rfl T.z_len rfl (.inl rfl))) SD.int)) SR.nil)))
    (SSs.cons (SS.for B.hp B.calm (SI.seq (SD.var 0 rfl (.inl rfl))) (SG.name 2 sc_weight_in.nd rfl (.inl rfl))
    (SSs.one (SS.set 1 sc_weight_in.nd rfl (.inl rfl) (SE.mul (SD.var 1 rfl (.inl rfl)) (SE.toD (SE.call1 (ok_factorial T hN) (B.room.mono (by decide)) B.tk rfl T.g_factorial T.F_factorial.kp (KBinds.ofPos (bd_factorial T)) GRel.ofPos (SR.cons (SD.var 2 rfl (.inl rfl)) SR.nil)))))))
    (SSs.one (SS.ret (SE.call1 (ok_lowest T hN) (B.room.mono (by decide)) B.tk rfl T.g_lowest T.F_lowest.kp (KBinds.ofPos (bd_lowest T)) GRel.ofPos (SR.cons (SD.var 1 rfl (.inl rfl)) (SR.cons (SE.toD (SE.call1 (ok_factorial T hN) (B.room.mono (by decide)) B.tk rfl T.g_factorial T.F_factorial.kp (KBinds.ofPos (bd_factorial T)) GRel.ofPos (SR.cons (SE.toD (SE.sub (SE.toD (SE.add (SE.toD (SE.sumA B.calm rfl T.z_sum (SA.cons (SD.var 0 rfl (.inl rfl)) SA.nil))) (SE.toD (SE.lenS 0 rfl T.z_len rfl (.inl rfl))))) SD.int)) SR.nil))) SR.nil)))))))
theorem ok_factor_in (T : Tops K mg) (hN : NOk G.N T) : FnG P w K mg base (L2.CX P w) 2 T.f_factor_in T.fd_factor_in ["goods", "days"] (spEv G m_factor_in 2) :=
  fn_sound T.F_factor_in sc_factor_in fun cdv A outer s H E L B => (SSs.one (SS.ret (SE.call1 (ok_choose_in T hN) (B.room.mono (by decide)) B.tk rfl T.g_choose_in T.F_choose_in.kp (KBinds.ofPos (bd_choose_in T)) GRel.ofPos (SR.cons (SE.toD (SE.sub (SE.toD (SE.add (SD.var 1 rfl (.inl rfl)) (SD.var 0 rfl (.inl rfl)))) SD.int)) (SR.cons (SE.toD (SE.sub (SD.var 0 rfl (.inl rfl)) SD.int)) SR.nil)))))
theorem ok_even_weight (T : Tops K mg) (hN : NOk G.N T) : FnG P w K mg base (L2.CX P w) 4 T.f_even_weight T.fd_even_weight ["counts"] (spEv G m_even_weight 1) :=
  fn_sound T.F_even_weight sc_even_weight fun cdv A outer s H E L B => (SSs.cons (SS.set 1 sc_even_weight.nd rfl (.inl rfl) (SE.call1 (ok_need_counts T hN) (B.room.mono (by decide)) B.tk rfl T.g_need_counts T.F_need_counts.kp (KBinds.ofPos (bd_need_counts T)) GRel.ofPos (SR.cons (SD.var 0 rfl (.inl rfl)) (SR.cons SD.str SR.nil))))
    (SSs.cons (SS.ite (ST.gt (SE.toD (SE.max B.calm rfl T.z_max (SA.cons (SD.var 1 rfl (.inl rfl)) SA.nil))) (SD.globI rfl T.c_MOST_COUNT))
    (SSs.one SS.dead)
    SSs.nil)
    (SSs.one (SS.ret (SE.call1 (ok_weight_in T hN) (B.room.mono (by decide)) B.tk rfl T.g_weight_in T.F_weight_in.kp (KBinds.ofPos (bd_weight_in T)) GRel.ofPos (SR.cons (SD.var 1 rfl (.inl rfl)) SR.nil))))))
theorem ok_even_factor (T : Tops K mg) (hN : NOk G.N T) : FnG P w K mg base (L2.CX P w) 5 T.f_even_factor T.fd_even_factor ["goods", "days"] (spEv G m_even_factor 2) :=
  fn_sound T.F_even_factor sc_even_factor fun cdv A outer s H E L B => (SSs.cons (SS.expr (SE.toD (SE.call1 (ok_need_goods T hN) (B.room.mono (by decide)) B.tk rfl T.g_need_goods T.F_need_goods.kp (KBinds.ofPos (bd_need_goods T)) GRel.ofPos (SR.cons (SD.var 0 rfl (.inl rfl)) SR.nil))))
    (SSs.cons (SS.expr (SE.toD (SE.call1 (ok_need_days T hN) (B.room.mono (by decide)) B.tk rfl T.g_need_days T.F_need_days.kp (KBinds.ofPos (bd_need_days T)) GRel.ofPos (SR.cons (SD.var 1 rfl (.inl rfl)) SR.nil))))
    (SSs.one (SS.ret (SE.call1 (ok_factor_in T hN) (B.room.mono (by decide)) B.tk rfl T.g_factor_in T.F_factor_in.kp (KBinds.ofPos (bd_factor_in T)) GRel.ofPos (SR.cons (SD.var 0 rfl (.inl rfl)) (SR.cons (SD.var 1 rfl (.inl rfl)) SR.nil)))))))
theorem ok_law_pen (T : Tops K mg) (hN : NOk G.N T) : FnG P w K mg base (L2.CX P w) 1 T.f_law_pen T.fd_law_pen ["_law_script"] (spEv G m_law_pen 1) :=
  fn_sound T.F_law_pen sc_law_pen fun cdv A outer s H E L B => (SSs.one (SS.ret (SE.lst (SA.cons (SE.toD (SE.lc (own := [("_law_cell", 1)]) B.calm sc_law_pen.nd (blkOk_by (N := ["_law_script", "_law_cell"]) (sc := defScope s_law_pen) (by decide +kernel)) (SI.seq (SE.toD (SE.slice (scr_sq hN.scr) (SD.var 0 rfl (.inl rfl)) SO.none (SO.some SD.int)))) (fun _ _ _ _ _ => (SGv.name 1 sc_law_pen.nd rfl (.inl rfl) (by decide) (.inr rfl))) (fun _ _ _ _ _ => SPT.nil) (fun _ _ _ _ _ => (SE.toD (SE.int rfl T.z_int (SA.cons (SD.var 1 rfl (.inl rfl)) SA.nil)))))) (SA.cons SD.int (SA.cons SD.int SA.nil))))))
theorem ok_law_draw (T : Tops K mg) (hN : NOk G.N T) : FnG P w K mg base (L2.CX P w) 1 T.f_law_draw T.fd_law_draw ["_law_pen_here", "_law_many"] (spEv G m_law_draw 2) :=
  fn_sound T.F_law_draw sc_law_draw fun cdv A outer s H E L B => (SSs.cons (SS.set 2 sc_law_draw.nd rfl (.inl rfl) (SE.int rfl T.z_int (SA.cons (SE.toD (SE.ixS 0 rfl (.inl rfl) SD.int)) SA.nil)))
    (SSs.cons (SS.ite (ST.gt (SD.var 2 rfl (.inl rfl)) SD.int)
    (SSs.cons (SS.asg (SE.toD (SE.fdiv (SD.var 2 rfl (.inl rfl)) (SD.var 1 rfl (.inl rfl)))) (SG.ix 0 rfl (.inl rfl) SD.int))
    (SSs.one (SS.ret (SE.mod (SD.var 2 rfl (.inl rfl)) (SD.var 1 rfl (.inl rfl))))))
    SSs.nil)
    (SSs.cons (SS.ite (ST.eq B.room (SE.toD (SE.ixS 0 rfl (.inl rfl) SD.int)) (SE.toD (SE.lst SA.nil)))
    (SSs.one (SS.ret (SD.toE SD.int)))
    SSs.nil)
    (SSs.cons (SS.set 3 sc_law_draw.nd rfl (.inl rfl) (SE.ixS 0 rfl (.inl rfl) SD.int))
    (SSs.cons (SS.asg (SE.toD (SE.add (SD.var 3 rfl (.inl rfl)) SD.int)) (SG.ix 0 rfl (.inl rfl) SD.int))
    (SSs.cons (SS.set 4 sc_law_draw.nd rfl (.inl rfl) (SE.ix (SE.toD (SE.ixS 0 rfl (.inl rfl) SD.int)) (SE.toD (SE.mod (SE.toD (SE.int rfl T.z_int (SA.cons (SD.var 3 rfl (.inl rfl)) SA.nil))) (SE.toD (SE.len rfl T.z_len (SA.cons (SE.toD (SE.ixS 0 rfl (.inl rfl) SD.int)) SA.nil)))))))
    (SSs.cons (SS.ite (SW.t (SW.and (ST.lt (SD.var 3 rfl (.inl rfl)) (SE.toD (SE.len rfl T.z_len (SA.cons (SE.toD (SE.ixS 0 rfl (.inl rfl) SD.int)) SA.nil)))) (SW.and1 (ST.ge (SE.toD (SE.abs rfl T.z_abs (SA.cons (SD.var 4 rfl (.inl rfl)) SA.nil))) (SE.toD (SE.pow SD.int SD.int))))))
    (SSs.cons (SS.set 2 sc_law_draw.nd rfl (.inl rfl) (SE.add (SE.toD (SE.mul SD.int (SE.toD (SE.sub (SE.toD (SE.abs rfl T.z_abs (SA.cons (SD.var 4 rfl (.inl rfl)) SA.nil))) (SE.toD (SE.pow SD.int SD.int)))))) (SE.toD (SE.int rfl T.z_int (SA.cons (SE.toD (SE.lt (SD.var 4 rfl (.inl rfl)) SD.int)) SA.nil)))))
    (SSs.cons (SS.asg (SE.toD (SE.fdiv (SD.var 2 rfl (.inl rfl)) (SD.var 1 rfl (.inl rfl)))) (SG.ix 0 rfl (.inl rfl) SD.int))
    (SSs.one (SS.ret (SE.mod (SD.var 2 rfl (.inl rfl)) (SD.var 1 rfl (.inl rfl)))))))
    SSs.nil)
    (SSs.cons (SS.set 5 sc_law_draw.nd rfl (.inl rfl) (SE.mod (SE.toD (SE.int rfl T.z_int (SA.cons (SE.toD (SE.pow (SE.toD (SE.add (SE.toD (SE.add (SE.toD (SE.mod (SE.toD (SE.int rfl T.z_int (SA.cons (SD.var 4 rfl (.inl rfl)) SA.nil))) SD.int)) (SE.toD (SE.mul SD.int (SD.var 3 rfl (.inl rfl)))))) SD.int)) SD.int)) SA.nil))) SD.int))
    (SSs.cons (SS.set 5 sc_law_draw.nd rfl (.inl rfl) (SE.mod (SE.toD (SE.int rfl T.z_int (SA.cons (SE.toD (SE.pow (SE.toD (SE.add (SE.toD (SE.add (SE.toD (SE.mul (SD.var 5 rfl (.inl rfl)) (SE.toD (SE.add (SE.toD (SE.mul SD.int (SD.var 3 rfl (.inl rfl)))) SD.int)))) (SE.toD (SE.mul (SE.toD (SE.mul SD.int (SD.var 3 rfl (.inl rfl)))) (SD.var 3 rfl (.inl rfl)))))) SD.int)) SD.int)) SA.nil))) SD.int))
    (SSs.one (SS.ret (SE.mod (SE.toD (SE.int rfl T.z_int (SA.cons (SE.toD (SE.fdiv (SD.var 5 rfl (.inl rfl)) SD.int)) SA.nil))) (SD.var 1 rfl (.inl rfl))))))))))))))
theorem ok_law_one_of (T : Tops K mg) (hN : NOk G.N T) : FnG P w K mg base (L2.CX P w) 2 T.f_law_one_of T.fd_law_one_of ["_law_pen_here", "_law_some"] (spEv G m_law_one_of 2) :=
  fn_sound T.F_law_one_of sc_law_one_of fun cdv A outer s H E L B => (SSs.one (SS.ret (SE.ixS 1 rfl (.inl rfl) (SE.toD (SE.call1 (ok_law_draw T hN) (B.room.mono (by decide)) B.tk rfl T.g_law_draw T.F_law_draw.kp (KBinds.ofPos (bd_law_draw T)) GRel.ofPos (SR.ref 0 rfl (.inl rfl) (SR.cons (SE.toD (SE.lenS 1 rfl T.z_len rfl (.inl rfl))) SR.nil)))))))
theorem ok_law_low (T : Tops K mg) (hN : NOk G.N T) : FnG P w K mg base (L2.CX P w) 1 T.f_law_low T.fd_law_low ["_law_above", "_law_below"] (spEv G m_law_low 2) :=
  fn_sound T.F_law_low sc_law_low fun cdv A outer s H E L B => (SSs.cons (SS.par2 2 3 B.calm sc_law_low.nd rfl rfl (by decide) rfl rfl (SV.cons (SE.abs rfl T.z_abs (SA.cons (SD.var 0 rfl (.inl rfl)) SA.nil)) (SV.cons (SE.abs rfl T.z_abs (SA.cons (SD.var 1 rfl (.inl rfl)) SA.nil)) SV.nil)) (by rfl))
    (SSs.cons (SS.while B.hp (ST.gt (SD.var 3 rfl (.inl rfl)) SD.int)
    (SSs.one (SS.par2 2 3 B.calm sc_law_low.nd rfl rfl (by decide) rfl rfl (SV.cons (SD.toE (SD.var 3 rfl (.inl rfl))) (SV.cons (SE.mod (SE.toD (SE.int rfl T.z_int (SA.cons (SD.var 2 rfl (.inl rfl)) SA.nil))) (SD.var 3 rfl (.inl rfl))) SV.nil)) (by rfl))))
    (SSs.cons (SS.set 2 sc_law_low.nd rfl (.inl rfl) (SE.ite (ST.gt (SD.var 1 rfl (.inl rfl)) SD.int) (SD.toE (SD.var 2 rfl (.inl rfl))) (SE.neg (SD.var 2 rfl (.inl rfl)))))
    (SSs.one (SS.ret (SE.tup (SA.cons (SE.toD (SE.fdiv (SE.toD (SE.int rfl T.z_int (SA.cons (SD.var 0 rfl (.inl rfl)) SA.nil))) (SD.var 2 rfl (.inl rfl)))) (SA.cons (SE.toD (SE.fdiv (SE.toD (SE.int rfl T.z_int (SA.cons (SD.var 1 rfl (.inl rfl)) SA.nil))) (SD.var 2 rfl (.inl rfl)))) SA.nil))))))))
theorem ok_law_plus (T : Tops K mg) (hN : NOk G.N T) : FnG P w K mg base (L2.CX P w) 2 T.f_law_plus T.fd_law_plus ["_law_one", "_law_other"] (spEv G m_law_plus 2) :=
  fn_sound T.F_law_plus sc_law_plus fun cdv A outer s H E L B => (SSs.one (SS.ret (SE.call1 (ok_law_low T hN) (B.room.mono (by decide)) B.tk rfl T.g_law_low T.F_law_low.kp (KBinds.ofPos (bd_law_low T)) GRel.ofPos (SR.cons (SE.toD (SE.add (SE.toD (SE.mul (SE.toD (SE.ixS 0 rfl (.inl rfl) SD.int)) (SE.toD (SE.ixS 1 rfl (.inl rfl) SD.int)))) (SE.toD (SE.mul (SE.toD (SE.ixS 1 rfl (.inl rfl) SD.int)) (SE.toD (SE.ixS 0 rfl (.inl rfl) SD.int)))))) (SR.cons (SE.toD (SE.mul (SE.toD (SE.ixS 0 rfl (.inl rfl) SD.int)) (SE.toD (SE.ixS 1 rfl (.inl rfl) SD.int)))) SR.nil)))))
theorem ok_law_times (T : Tops K mg) (hN : NOk G.N T) : FnG P w K mg base (L2.CX P w) 2 T.f_law_times T.fd_law_times ["_law_one", "_law_other"] (spEv G m_law_times 2) :=
  fn_sound T.F_law_times sc_law_times fun cdv A outer s H E L B => (SSs.one (SS.ret (SE.call1 (ok_law_low T hN) (B.room.mono (by decide)) B.tk rfl T.g_law_low T.F_law_low.kp (KBinds.ofPos (bd_law_low T)) GRel.ofPos (SR.cons (SE.toD (SE.mul (SE.toD (SE.ixS 0 rfl (.inl rfl) SD.int)) (SE.toD (SE.ixS 1 rfl (.inl rfl) SD.int)))) (SR.cons (SE.toD (SE.mul (SE.toD (SE.ixS 0 rfl (.inl rfl) SD.int)) (SE.toD (SE.ixS 1 rfl (.inl rfl) SD.int)))) SR.nil)))))
theorem ok_law_sum (T : Tops K mg) (hN : NOk G.N T) : FnG P w K mg base (L2.CX P w) 3 T.f_law_sum T.fd_law_sum ["_law_some"] (spEv G m_law_sum 1) :=
  fn_sound T.F_law_sum sc_law_sum fun cdv A outer s H E L B => (SSs.cons (SS.set 1 sc_law_sum.nd rfl (.inl rfl) (SE.tup (SA.cons SD.int (SA.cons SD.int SA.nil))))
    (SSs.cons (SS.for B.hp B.calm (SI.seq (SD.var 0 rfl (.inl rfl))) (SG.name 2 sc_law_sum.nd rfl (.inl rfl))
    (SSs.one (SS.set 1 sc_law_sum.nd rfl (.inl rfl) (SE.call1 (ok_law_plus T hN) (B.room.mono (by decide)) B.tk rfl T.g_law_plus T.F_law_plus.kp (KBinds.ofPos (bd_law_plus T)) GRel.ofPos (SR.cons (SD.var 1 rfl (.inl rfl)) (SR.cons (SD.var 2 rfl (.inl rfl)) SR.nil))))))
    (SSs.one (SS.ret (SE.move 1 rfl (.inl rfl))))))
theorem ok_law_number (T : Tops K mg) (hN : NOk G.N T) : FnG P w K mg base (L2.CX P w) 1 T.f_law_number T.fd_law_number ["_law_one"] (spEv G m_law_number 1) :=
  fn_sound T.F_law_number sc_law_number fun cdv A outer s H E L B => (SSs.one (SS.ret (SE.ite (ST.eq B.room (SE.toD (SE.ixS 0 rfl (.inl rfl) SD.int)) SD.int) (SE.ixS 0 rfl (.inl rfl) SD.int) (SD.toE (SD.var 0 rfl (.inl rfl))))))
theorem ok_law_words (T : Tops K mg) (hN : NOk G.N T) : FnG P w K mg base (L2.CX P w) 1 T.f_law_words T.fd_law_words ["_law_goods", "_law_days"] (spEv G m_law_words 2) :=
  fn_sound T.F_law_words sc_law_words fun cdv A outer s H E L B => (SSs.cons (SS.set 2 sc_law_words.nd rfl (.inl rfl) (SE.lst (SA.cons (SE.toD (SE.tup SA.nil)) SA.nil)))
    (SSs.cons (SS.for B.hp B.calm (SI.range1 rfl T.z_range (SA.cons (SD.var 1 rfl (.inl rfl)) SA.nil)) (SG.name 3 sc_law_words.nd rfl (.inl rfl))
    (SSs.cons (SS.set 4 sc_law_words.nd rfl (.inl rfl) (SE.lst SA.nil))
    (SSs.cons (SS.for B.hp B.calm (SI.seq (SD.var 2 rfl (.inl rfl))) (SG.name 5 sc_law_words.nd rfl (.inr rfl))
    (SSs.one (SS.expr (SD.ext 4 rfl (.inl rfl) (SA.cons (SE.toD (SE.lc (own := [("_law_good", 6)]) B.calm sc_law_words.nd (blkOk_by (N := ["_law_goods", "_law_days", "_law_found", "_law_turn", "_law_longer", "_law_word", "_law_good"]) (sc := defScope s_law_words) (by decide +kernel)) (SI.range1 rfl T.z_range (SA.cons (SD.var 0 rfl (.inl rfl)) SA.nil)) (fun _ _ _ _ _ => (SGv.name 6 sc_law_words.nd rfl (.inl rfl) (by decide) (.inr rfl))) (fun _ _ _ _ _ => SPT.nil) (fun _ _ _ _ _ => (SE.toD (SE.add (SD.var 5 rfl (.inr (.inl rfl))) (SE.toD (SE.tup (SA.cons (SD.var 6 rfl (.inl rfl)) SA.nil)))))))) SA.nil)))))
    (SSs.one (SS.set 2 sc_law_words.nd rfl (.inl rfl) (SD.toE (SD.var 4 rfl (.inl rfl))))))))
    (SSs.one (SS.ret (SE.move 2 rfl (.inl rfl))))))
theorem ok_law_even (T : Tops K mg) (hN : NOk G.N T) : FnG P w K mg base (L2.CX P w) 3 T.f_law_even T.fd_law_even ["_law_counts"] (spEv G m_law_even 1) :=
  fn_sound T.F_law_even sc_law_even fun cdv A outer s H E L B => (SSs.cons (SS.par2 1 2 B.calm sc_law_even.nd rfl rfl (by decide) rfl rfl (SV.cons (SE.tup (SA.cons SD.int (SA.cons SD.int SA.nil))) (SV.cons (SE.lenS 0 rfl T.z_len rfl (.inl rfl)) SV.nil)) (by rfl))
    (SSs.cons (SS.for B.hp B.calm (SI.seq (SD.var 0 rfl (.inl rfl))) (SG.name 3 sc_law_even.nd rfl (.inl rfl))
    (SSs.one (SS.for B.hp B.calm (SI.range1 rfl T.z_range (SA.cons (SD.var 3 rfl (.inl rfl)) SA.nil)) (SG.name 4 sc_law_even.nd rfl (.inl rfl))
    (SSs.cons (SS.set 1 sc_law_even.nd rfl (.inl rfl) (SE.call1 (ok_law_times T hN) (B.room.mono (by decide)) B.tk rfl T.g_law_times T.F_law_times.kp (KBinds.ofPos (bd_law_times T)) GRel.ofPos (SR.cons (SD.var 1 rfl (.inl rfl)) (SR.cons (SE.toD (SE.tup (SA.cons (SE.toD (SE.add (SD.var 4 rfl (.inl rfl)) SD.int)) (SA.cons (SD.var 2 rfl (.inl rfl)) SA.nil)))) SR.nil))))
    (SSs.one (SS.set 2 sc_law_even.nd rfl (.inl rfl) (SE.add (SD.var 2 rfl (.inl rfl)) SD.int)))))))
    (SSs.one (SS.ret (SE.move 1 rfl (.inl rfl))))))
theorem ok_law_triangle (T : Tops K mg) (hN : NOk G.N T) : FnG P w K mg base (L2.CX P w) 1 T.f_law_triangle T.fd_law_triangle ["_law_goods", "_law_days"] (spEv G m_law_triangle 2) :=
  fn_sound T.F_law_triangle sc_law_triangle fun cdv A outer s H E L B => (SSs.cons (SS.set 2 sc_law_triangle.nd rfl (.inl rfl) (SE.mul (SE.toD (SE.lst (SA.cons SD.int SA.nil))) (SE.toD (SE.add (SD.var 1 rfl (.inl rfl)) SD.int))))
    (SSs.cons (SS.for B.hp B.calm (SI.range1 rfl T.z_range (SA.cons (SE.toD (SE.sub (SD.var 0 rfl (.inl rfl)) SD.int)) SA.nil)) (SG.name 3 sc_law_triangle.nd rfl (.inl rfl))
    (SSs.one (SS.for B.hp B.calm (SI.range2 rfl T.z_range (SA.cons SD.int (SA.cons (SE.toD (SE.add (SD.var 1 rfl (.inl rfl)) SD.int)) SA.nil))) (SG.name 4 sc_law_triangle.nd rfl (.inl rfl))
    (SSs.one (SS.asg (SE.toD (SE.add (SE.toD (SE.ixS 2 rfl (.inl rfl) (SD.var 4 rfl (.inl rfl)))) (SE.toD (SE.ixS 2 rfl (.inl rfl) (SE.toD (SE.sub (SD.var 4 rfl (.inl rfl)) SD.int)))))) (SG.ix 2 rfl (.inl rfl) (SD.var 4 rfl (.inl rfl))))))))
    (SSs.one (SS.ret (SE.ixS 2 rfl (.inl rfl) (SD.var 1 rfl (.inl rfl)))))))
theorem ok_law (T : Tops K mg) (hN : NOk G.N T) : FnG P w K mg base (L2.CX P w) 6 T.f_law T.fd_law ["_law_script"] (spEv G m_law 1) :=
  fn_sound T.F_law sc_law fun cdv A outer s H E L B => (SSs.cons (SS.set 1 sc_law.nd rfl (.inr rfl) (SE.call1 (ok_law_pen T hN) (B.room.mono (by decide)) B.tk rfl T.g_law_pen T.F_law_pen.kp (KBinds.ofPos (bd_law_pen T)) GRel.ofPos (SR.cons (SD.var 0 rfl (.inl rfl)) SR.nil)))
    (SSs.cons (SS.for B.hp B.calm (SI.range1 rfl T.z_range (SA.cons SD.int SA.nil)) (SG.name 2 sc_law.nd rfl (.inl rfl))
    (SSs.cons (SS.set 3 sc_law.nd rfl (.inl rfl) (SE.add SD.int (SE.toD (SE.call1 (ok_law_draw T hN) (B.room.mono (by decide)) B.tk rfl T.g_law_draw T.F_law_draw.kp (KBinds.ofPos (bd_law_draw T)) GRel.ofPos (SR.ref 1 rfl (.inr (.inl rfl)) (SR.cons SD.int SR.nil))))))
    (SSs.cons (SS.set 4 sc_law.nd rfl (.inr rfl) (SE.lc (own := [("_law_good", 11)]) B.calm sc_law.nd (blkOk_by (N := ["_law_script", "_law_pen_here", "_law_turn", "_law_goods", "_law_counts", "_law_due", "_law_more", "_law_days", "_law_weights", "_law_word", "_law_told", "_law_good", "_law_its"]) (sc := defScope s_law) (by decide +kernel)) (SI.range1 rfl T.z_range (SA.cons (SD.var 3 rfl (.inl rfl)) SA.nil)) (fun _ _ _ _ _ => (SGv.name 11 sc_law.nd rfl (.inl rfl) (by decide) (.inr rfl))) (fun _ _ _ _ _ => SPT.nil) (fun _ _ _ _ _ => (SE.toD (SE.call1 (ok_law_one_of T hN) (B.room.mono (by decide)) tk0 rfl T.g_law_one_of T.F_law_one_of.kp (KBinds.ofPos (bd_law_one_of T)) GRel.ofPos (SR.ref 1 rfl (.inr (.inl rfl)) (SR.cons (SE.toD (SE.lst (SA.cons SD.int (SA.cons SD.int (SA.cons SD.int (SA.cons (SE.toD (SE.call1 (ok_law_draw T hN) (B.room.mono (by decide)) tk0 rfl T.g_law_draw T.F_law_draw.kp (KBinds.ofPos (bd_law_draw T)) GRel.ofPos (SR.ref 1 rfl (.inr (.inl rfl)) (SR.cons SD.int SR.nil)))) (SA.cons (SE.toD (SE.mul (SE.toD (SE.call1 (ok_law_draw T hN) (B.room.mono (by decide)) tk0 rfl T.g_law_draw T.F_law_draw.kp (KBinds.ofPos (bd_law_draw T)) GRel.ofPos (SR.ref 1 rfl (.inr (.inl rfl)) (SR.cons SD.int SR.nil)))) (SE.toD (SE.call1 (ok_law_draw T hN) (B.room.mono (by decide)) tk0 rfl T.g_law_draw T.F_law_draw.kp (KBinds.ofPos (bd_law_draw T)) GRel.ofPos (SR.ref 1 rfl (.inr (.inl rfl)) (SR.cons SD.int SR.nil)))))) SA.nil))))))) SR.nil)))))))
    (SSs.cons (SS.set 5 sc_law.nd rfl (.inl rfl) (SE.call1 (ok_law_even T hN) (B.room.mono (by decide)) B.tk rfl T.g_law_even T.F_law_even.kp (KBinds.ofPos (bd_law_even T)) GRel.ofPos (SR.cons (SD.var 4 rfl (.inr (.inl rfl))) SR.nil)))
    (SSs.cons (SS.ite (ST.ne B.room (SE.toD (SE.reprW B.room T.dg_ rfl T.z_repr (SA.cons (SE.toD (SE.lst (SA.cons (SE.toD (SE.call1 (ok_even_weight T hN) (B.room.mono (by decide)) B.tk rfl T.g_even_weight T.F_even_weight.kp (KBinds.ofPos (bd_even_weight T)) GRel.ofPos (SR.cons (SD.var 4 rfl (.inr (.inl rfl))) SR.nil))) (SA.cons (SE.toD (SE.callK0 (ok_even_weight T hN) (B.room.mono (by decide)) B.tk rfl T.g_even_weight T.F_even_weight.kp (kb_even_weight_0_0 T) (GRel.permN 0 1 [0]) (SK.cons (SE.toD (SE.tuple rfl T.z_tuple (SA.cons (SD.var 4 rfl (.inr (.inl rfl))) SA.nil))) SK.nil))) SA.nil)))) SA.nil))) (SE.toD (SE.reprW B.room T.dg_ rfl T.z_repr (SA.cons (SE.toD (SE.mul (SE.toD (SE.lst (SA.cons (SE.toD (SE.call1 (ok_law_number T hN) (B.room.mono (by decide)) B.tk rfl T.g_law_number T.F_law_number.kp (KBinds.ofPos (bd_law_number T)) GRel.ofPos (SR.cons (SD.var 5 rfl (.inl rfl)) SR.nil))) SA.nil))) SD.int)) SA.nil))))
    (SSs.one (SS.ret (SD.toE SD.bl)))
    SSs.nil)
    (SSs.cons (SS.setLc 6 (own := [("_law_good", 11)]) B.calm sc_law.nd rfl rfl (sw_true rfl rfl rfl (by decide +kernel)) (blkOk_by (N := ["_law_script", "_law_pen_here", "_law_turn", "_law_goods", "_law_counts", "_law_due", "_law_more", "_law_days", "_law_weights", "_law_word", "_law_told", "_law_good", "_law_its"]) (sc := defScope s_law) (by decide +kernel)) (SI.range1 rfl T.z_range (SA.cons (SD.var 3 rfl (.inl rfl)) SA.nil)) (fun _ _ _ _ _ => (SGv.name 11 sc_law.nd rfl (.inl rfl) (by decide) (.inr rfl))) (fun _ _ _ _ _ => SPT.nil) (fun _ _ _ _ _ => (SE.toD (SE.call1 (ok_law_even T hN) (B.room.mono (by decide)) tk0 rfl T.g_law_even T.F_law_even.kp (KBinds.ofPos (bd_law_even T)) GRel.ofPos (SR.cons (SE.toD (SE.add (SE.toD (SE.add (SE.toD (SE.slice (scr_sq hN.scr) (SD.var 4 rfl (.inr (.inl rfl))) SO.none (SO.some (SD.var 11 rfl (.inl rfl))))) (SE.toD (SE.lst (SA.cons (SE.toD (SE.add (SE.toD (SE.ixS 4 rfl (.inr (.inl rfl)) (SD.var 11 rfl (.inl rfl)))) SD.int)) SA.nil))))) (SE.toD (SE.slice (scr_sq hN.scr) (SD.var 4 rfl (.inr (.inl rfl))) (SO.some (SE.toD (SE.add (SD.var 11 rfl (.inl rfl)) SD.int))) SO.none)))) SR.nil)))))
    (SSs.cons (SS.ite (SW.t (SW.or (ST.ne B.room (SE.toD (SE.call1 (ok_law_sum T hN) (B.room.mono (by decide)) B.tk rfl T.g_law_sum T.F_law_sum.kp (KBinds.ofPos (bd_law_sum T)) GRel.ofPos (SR.cons (SD.var 6 rfl (.inl rfl)) SR.nil))) (SD.var 5 rfl (.inl rfl))) (SW.or1 (ST.ne B.room (SE.toD (SE.reprW B.room T.dg_ rfl T.z_repr (SA.cons (SE.toD (SE.call1 (ok_even_weight T hN) (B.room.mono (by decide)) B.tk rfl T.g_even_weight T.F_even_weight.kp (KBinds.ofPos (bd_even_weight T)) GRel.ofPos (SR.cons (SE.toD (SE.add (SE.toD (SE.slice (scr_sq hN.scr) (SD.var 4 rfl (.inr (.inl rfl))) SO.none (SO.some (SE.toD (SE.neg SD.int))))) (SE.toD (SE.lst (SA.cons (SE.toD (SE.add (SE.toD (SE.ixS 4 rfl (.inr (.inl rfl)) (SE.toD (SE.neg SD.int)))) SD.int)) SA.nil))))) SR.nil))) SA.nil))) (SE.toD (SE.reprW B.room T.dg_ rfl T.z_repr (SA.cons (SE.toD (SE.call1 (ok_law_number T hN) (B.room.mono (by decide)) B.tk rfl T.g_law_number T.F_law_number.kp (KBinds.ofPos (bd_law_number T)) GRel.ofPos (SR.cons (SE.toD (SE.ixS 6 rfl (.inl rfl) (SE.toD (SE.neg SD.int)))) SR.nil))) SA.nil)))))))
    (SSs.one (SS.ret (SD.toE SD.bl)))
    SSs.nil)
    (SSs.cons (SS.set 7 sc_law.nd rfl (.inl rfl) (SE.call1 (ok_law_one_of T hN) (B.room.mono (by decide)) B.tk rfl T.g_law_one_of T.F_law_one_of.kp (KBinds.ofPos (bd_law_one_of T)) GRel.ofPos (SR.ref 1 rfl (.inr (.inl rfl)) (SR.cons (SE.toD (SE.lst (SA.cons SD.int (SA.cons SD.int (SA.cons SD.int (SA.cons SD.int (SA.cons (SE.toD (SE.call1 (ok_law_draw T hN) (B.room.mono (by decide)) B.tk rfl T.g_law_draw T.F_law_draw.kp (KBinds.ofPos (bd_law_draw T)) GRel.ofPos (SR.ref 1 rfl (.inr (.inl rfl)) (SR.cons SD.int SR.nil)))) (SA.cons (SE.toD (SE.ite (ST.lt (SD.var 3 rfl (.inl rfl)) SD.int) (SD.toE SD.int) (SD.toE SD.int))) SA.nil)))))))) SR.nil))))
    (SSs.one (SS.ite (ST.ne B.room (SE.toD (SE.reprW B.room T.dg_ rfl T.z_repr (SA.cons (SE.toD (SE.lst (SA.cons (SE.toD (SE.call1 (ok_even_factor T hN) (B.room.mono (by decide)) B.tk rfl T.g_even_factor T.F_even_factor.kp (KBinds.ofPos (bd_even_factor T)) GRel.ofPos (SR.cons (SD.var 3 rfl (.inl rfl)) (SR.cons (SD.var 7 rfl (.inl rfl)) SR.nil)))) (SA.cons (SE.toD (SE.callK0 (ok_even_factor T hN) (B.room.mono (by decide)) B.tk rfl T.g_even_factor T.F_even_factor.kp (kb_even_factor_0_1_0 T) (GRel.permN 0 2 [1, 0]) (SK.cons (SD.var 7 rfl (.inl rfl)) (SK.cons (SD.var 3 rfl (.inl rfl)) SK.nil)))) SA.nil)))) SA.nil))) (SE.toD (SE.reprW B.room T.dg_ rfl T.z_repr (SA.cons (SE.toD (SE.mul (SE.toD (SE.lst (SA.cons (SE.toD (SE.call1 (ok_law_triangle T hN) (B.room.mono (by decide)) B.tk rfl T.g_law_triangle T.F_law_triangle.kp (KBinds.ofPos (bd_law_triangle T)) GRel.ofPos (SR.cons (SD.var 3 rfl (.inl rfl)) (SR.cons (SD.var 7 rfl (.inl rfl)) SR.nil)))) SA.nil))) SD.int)) SA.nil))))
    (SSs.one (SS.ret (SD.toE SD.bl)))
    SSs.nil))))))))))
    (SSs.cons (SS.par2 3 7 B.calm sc_law.nd rfl rfl (by decide) rfl rfl (SV.cons (SE.call1 (ok_law_one_of T hN) (B.room.mono (by decide)) B.tk rfl T.g_law_one_of T.F_law_one_of.kp (KBinds.ofPos (bd_law_one_of T)) GRel.ofPos (SR.ref 1 rfl (.inr (.inl rfl)) (SR.cons (SE.toD (SE.lst (SA.cons SD.int (SA.cons SD.int (SA.cons SD.int SA.nil))))) SR.nil))) (SV.cons (SE.call1 (ok_law_draw T hN) (B.room.mono (by decide)) B.tk rfl T.g_law_draw T.F_law_draw.kp (KBinds.ofPos (bd_law_draw T)) GRel.ofPos (SR.ref 1 rfl (.inr (.inl rfl)) (SR.cons SD.int SR.nil))) SV.nil)) (by rfl))
    (SSs.cons (SS.set 8 sc_law.nd rfl (.inl rfl) (SE.lst SA.nil))
    (SSs.cons (SS.for B.hp B.calm (SI.seq (SE.toD (SE.call1 (ok_law_words T hN) (B.room.mono (by decide)) B.tk rfl T.g_law_words T.F_law_words.kp (KBinds.ofPos (bd_law_words T)) GRel.ofPos (SR.cons (SD.var 3 rfl (.inl rfl)) (SR.cons (SD.var 7 rfl (.inl rfl)) SR.nil))))) (SG.name 9 sc_law.nd rfl (.inr rfl))
    (SSs.cons (SS.set 10 sc_law.nd rfl (.inl rfl) (SE.call1 (ok_even_weight T hN) (B.room.mono (by decide)) B.tk rfl T.g_even_weight T.F_even_weight.kp (KBinds.ofPos (bd_even_weight T)) GRel.ofPos (SR.cons (SE.toD (SE.lc (own := [("_law_good", 11)]) B.calm sc_law.nd (blkOk_by (N := ["_law_script", "_law_pen_here", "_law_turn", "_law_goods", "_law_counts", "_law_due", "_law_more", "_law_days", "_law_weights", "_law_word", "_law_told", "_law_good", "_law_its"]) (sc := defScope s_law) (by decide +kernel)) (SI.range1 rfl T.z_range (SA.cons (SD.var 3 rfl (.inl rfl)) SA.nil)) (fun _ _ _ _ _ => (SGv.name 11 sc_law.nd rfl (by first | exact .inl rfl | exact .inr rfl) (by decide) (by first | exact .inr rfl | exact .inl rfl))) (fun _ _ _ _ _ => SPT.nil) (fun _ _ _ _ _ => (SE.toD (SE.len rfl T.z_len (SA.cons (SE.toD (SE.lc (own := [("_law_its", 12)]) B.calm sc_law.nd (blkOk_by (by kernel_rfl)) (SI.seq (SD.var 9 rfl (by first | exact .inl rfl | exact .inr (.inl rfl) | exact .inr (.inr rfl)))) (fun _ _ _ _ _ => (SGv.name 12 sc_law.nd rfl (by first | exact .inl rfl | exact .inr rfl) (by decide) (by first | exact .inr rfl | exact .inl rfl))) (fun _ _ _ _ _ => (SPT.one (ST.eq B.room (SD.var 12 rfl (by first | exact .inl rfl | exact .inr (.inl rfl) | exact .inr (.inr rfl))) (SD.var 11 rfl (by first | exact .inl rfl | exact .inr (.inl rfl) | exact .inr (.inr rfl)))))) (fun _ _ _ _ _ => SD.int))) SA.nil)))))) SR.nil)))
    (SSs.one (SS.expr (SD.app 8 rfl (.inl rfl) (SA.cons (SE.toD (SE.ite (ST.truth (SE.toD (SE.isinst rfl T.z_isinstance (SA.cons (SD.var 10 rfl (.inl rfl)) (SA.cons (SD.bltn (n := .int) rfl T.z_int bt_int) SA.nil))))) (SE.tup (SA.cons (SD.var 10 rfl (.inl rfl)) (SA.cons SD.int SA.nil))) (SD.toE (SD.var 10 rfl (.inl rfl))))) SA.nil))))))
    (SSs.one (SS.ret (SD.toE (SD.and (SE.toD (SE.eq B.room (SE.toD (SE.call1 (ok_law_sum T hN) (B.room.mono (by decide)) B.tk rfl T.g_law_sum T.F_law_sum.kp (KBinds.ofPos (bd_law_sum T)) GRel.ofPos (SR.ref 8 rfl (.inl rfl) SR.nil))) (SE.toD (SE.tup (SA.cons SD.int (SA.cons SD.int SA.nil)))))) (SD.and (SE.toD (SE.eq B.room (SE.toD (SE.call1 (ok_even_weight T hN) (B.room.mono (by decide)) B.tk rfl T.g_even_weight T.F_even_weight.kp (KBinds.ofPos (bd_even_weight T)) GRel.ofPos (SR.cons (SE.toD (SE.lst (SA.cons SD.int SA.nil))) SR.nil))) SD.int)) (SD.one (SE.toD (SE.eq B.room (SE.toD (SE.call1 (ok_even_factor T hN) (B.room.mono (by decide)) B.tk rfl T.g_even_factor T.F_even_factor.kp (KBinds.ofPos (bd_even_factor T)) GRel.ofPos (SR.cons SD.int (SR.cons SD.int SR.nil)))) (SE.toD (SE.fdiv (SE.toD (SE.mul (SE.toD (SE.mul (SE.toD (SE.mul SD.int SD.int)) SD.int)) SD.int)) SD.int)))))))))))))))
end
end K70

namespace K70
open PySem PySem.Spec PyProof.Rows L2 Ev
local macro_rules | `(tactic| simp! [$xs,*]) => `(tactic| simp only [Ev.p_pure, Ev.p_ok, Ev.p_toD, Ev.p_kDf, Ev.p_kDn, Ev.p_toV, Ev.p_kV, Ev.p_some, Ev.p_var, Ev.p_varF, Ev.p_varL, Ev.p_varO, Ev.p_varN, Ev.p_mov, Ev.p_movF, Ev.p_movL, Ev.p_movO, Ev.p_movN, Ev.p_ev2, Ev.p_k2, Ev.p_k2', Ev.p_ev2T, Ev.p_kT, Ev.p_kT', Ev.p_vb, Ev.p_ev1, Ev.p_evC, Ev.p_evL, Ev.p_evO, Ev.p_evSeq, Ev.p_tTruth, Ev.p_kf, Ev.p_cons, Ev.p_vcons, Ev.p_acons, Ev.p_kC1, Ev.p_kC2, Ev.p_arV, Ev.p_kAr, Ev.p_arR, Ev.p_arF, Ev.p_arOw, Ev.p_arN, Ev.p_arL, Ev.p_call, Ev.p_kL1, Ev.p_kL2, Ev.p_if, Ev.p_kIt, Ev.p_kIf, Ev.p_tAnd, Ev.p_tOr, Ev.p_tNot, Ev.p_kN, Ev.p_and, Ev.p_kA, Ev.p_or, Ev.p_kO, Ev.p_not, Ev.p_kNt, Ev.p_ixS, Ev.p_ixO, Ev.p_kX, Ev.p_kXO, Ev.p_slotD, Ev.p_slF, Ev.p_slO, Ev.p_slN, Ev.p_slL, Ev.p_seq, Ev.p_kSn, Ev.p_kSr, Ev.p_kSb, Ev.p_kSc, Ev.p_slot, Ev.p_setU, Ev.p_setF, Ev.p_setO, Ev.p_ofF, Ev.p_ofN, Ev.p_kNx, Ev.p_set, Ev.p_kSet, Ev.p_ret, Ev.p_kRt, Ev.p_expr, Ev.p_kEx, Ev.p_par, Ev.p_kPar, Ev.p_kSs, Ev.p_ss0, Ev.p_ss, Ev.p_asg, Ev.p_kAsg, Ev.p_unp, Ev.p_gs, Ev.p_kG, Ev.p_gs0, Ev.p_gIx, Ev.p_gIO, Ev.p_kUp, Ev.p_upd, Ev.p_upO, Ev.p_upN, Ev.p_upDt, Ev.p_upDf, Ev.p_put, Ev.p_mut, Ev.p_mutO, Ev.p_kNon, Ev.p_kM1, Ev.p_app, Ev.p_sl, Ev.p_kSl1, Ev.p_kSl2, Ev.p_kSl3, Ev.p_add, Ev.p_addL, Ev.p_i2, Ev.p_u1, Ev.p_lt, Ev.p_le, Ev.p_gt, Ev.p_ge, Ev.p_eqI, Ev.p_neI, Ev.p_eqS, Ev.p_neS, Ev.p_isB, Ev.p_isN, Ev.p_notN, Ev.p_tup, Ev.p_lst, Ev.p_abs, Ev.p_intI, Ev.p_intB, Ev.p_len, Ev.p_dlL, Ev.p_dlT, Ev.p_itL, Ev.p_itT, Ev.p_d, Ev.p_dn, Ev.p_rng1, Ev.p_rng2, Ev.p_lo0, Ev.p_lo1, Ev.p_lo2, Ev.p_lo3, Ev.p_lo4, Ev.p_lo5, Ev.p_lo6, Ev.p_lo7, Ev.p_lo8, Ev.p_lo9, Ev.p_lo10, Ev.p_lo11, Ev.p_lo12, Ev.p_lo13, Ev.p_lo14, Ev.p_lo15, Ev.p_lo16, Ev.p_lo17, Ev.p_lo18, Ev.p_lo19, Ev.p_lo20, Ev.p_lo21, Ev.p_lo22, Ev.p_lo23, Ev.p_lo24, Ev.p_p18, Ev.p_p40, Ev.p_lpN, Ev.p_lpC, Ev.p_lpB, Ev.p_lpR, Ev.p_for, Ev.p_whT, Ev.p_whF, Ev.p_lc, Ev.p_callAr, Ev.p_callO1, Ev.p_callO2, Ev.p_refV, Ev.p_refR, Ev.p_ref0, Ev.p_ga, Ev.p_ga0, Ev.p_gaO, Ev.p_gaV, Ev.p_gaR, Ev.p_leF, Ev.p_leL, Ev.p_leO, Ev.p_leN, Ev.p_sc, Ev.p_sc0, Ev.p_scN, Ev.p_scFs, Ev.p_scLs, Ev.p_scOn, Ev.p_scOl, Ev.p_scNn, Ev.p_scNl, Ev.p_fiR, Ev.p_fiV, Ev.p_fi0, Ev.fin_rt, Ev.fin_nx, Ev.ou_ln, Ev.ou_fz, Ev.ou_0, Ev.at_0, Ev.at_1, Ev.at_2, Ev.at_3, Ev.p_lenS, Ev.p_lenO, Ev.p_ex, Ev.p_raise, Ev.p_kRz, Ev.p_try, Ev.p_tryok, Ev.p_tryex, Ev.p_tryT, Ev.p_kTr, Ev.p_wip1, Ev.p_wipU, Ev.p_wipF, Ev.p_wip0, Ev.p_wipR, Ev.p_lam, Ev.p_frz0, Ev.p_frz, Ev.p_gdF, Ev.p_gdLf, Ev.p_gdO, Ev.p_gdL, Ev.p_kFr, Ev.p_kLam, Ev.p_lamO, Ev.p_coOk, Ev.p_coOl, Ev.p_coEx, Ev.p_fsF, Ev.p_fsL, Ev.p_fsO, Ev.p_fsN, Ev.p_fsU, Ev.p_clo, Ev.p_cloO, Ev.p_coDk, Ev.p_coDx, Ev.ou_cl, Ev.p_setC, Ev.p_callO2x, Ev.p_callV, Ev.p_kCV, Ev.p_runV, Ev.p_kRV, Ev.p_isX, Ev.p_isoE, Ev.p_isoN, Ev.p_tst, Ev.p_fld, Ev.p_fl1, Ev.p_setK, Ev.p_kLp, Ev.p_maxL, Ev.p_maxT, Ev.p_max, Ev.p_min, Ev.p_bits, Ev.p_zipL, Ev.p_zipT, Ev.p_zipA, Ev.p_zipB, Ev.p_dnuT, Ev.p_dnum, Ev.p_join, Ev.p_kJ1, Ev.p_kJ2, Ev.p_slA, Ev.p_kSa1, Ev.p_kSa2, Ev.p_kSa3, Ev.p_raise2, Ev.p_kRz2, Ev.p_lk1, Ev.p_lk2, Ev.p_omap, Ev.p_fldO, Ev.p_fldS, Ev.p_ofld, Ev.p_gFld, Ev.p_fo0, Ev.p_fo1, Ev.p_fo2, Ev.p_fo3, Ev.p_fo4, Ev.p_fo5, Ev.p_fo6, Ev.p_fo7, Ev.p_fo8, Ev.p_fo9, Ev.p_fo10, Ev.p_fo11, Ev.p_putO, Ev.p_put0, Ev.p_put1, Ev.p_put2, Ev.p_make, Ev.p_kMk, Ev.p_mkO, Ev.p_mkEnd, Ev.p_mkEx, Ev.p_mkSl, Ev.p_mkSf, Ev.p_bisO, Ev.p_star, Ev.p_kSt1, Ev.p_kSt2, Ev.p_kSt3, Ev.p_ds2L, Ev.p_ds2T, Ev.p_ext, Ev.p_nn, Ev.p_nI, Ev.p_nO, Ev.p_nT, Ev.p_nL, Ev.p_nS, Ev.p_bn1, Ev.p_bn2, Ev.p_chT, Ev.p_kCh1, Ev.p_kCh2, Ev.p_kCh3t, Ev.p_kCh3f, Ev.p_kCh4, Ev.p_take0, Ev.p_takeS, Ev.p_dct, Ev.p_kDc1, Ev.p_kDc2, Ev.p_mkDct, Ev.p_dget, Ev.p_dgO, Ev.p_kDg1, Ev.p_getT, Ev.p_gtO, Ev.p_dput, Ev.p_dPut1, Ev.p_dpO, Ev.p_kDp2, Ev.p_putT, Ev.p_items, Ev.p_itemsT, Ev.p_lc2, Ev.p_evEx, Ev.p_ex1, Ev.p_ex2, Ev.p_ex2s, Ev.p_isVE, Ev.p_neW, Ev.p_sort, Ev.p_notB, Ev.p_rev, Ev.p_bind, Ev.q_ok, List.getElem?_cons_zero, List.getElem?_cons_succ, List.set_cons_zero, List.set_cons_succ, List.length_cons, List.length_nil, List.cons_append, List.nil_append, Option.map_some, ↓reduceIte, Bool.not_true, Bool.not_false, decide_true, decide_false, Ev.p_div, Ev.p_mod, Ev.p_pow, Ev.p_mul, Ev.dist, List.contains_cons, List.contains_nil, Bool.or_false, Bool.false_and, Bool.and_true, Bool.true_and, Nat.reduceAdd, Nat.reduceBEq, Ev.permN, Ev.perm, List.map_cons, List.map_nil, List.getD_cons_zero, List.getD_cons_succ, and_self, cond_true, cond_false, Int.cast_ofNat_Int, Int.natCast_one, Int.natCast_zero, Int.reduceEq, Int.reduceLE, Int.reduceLT, Int.reduceNeg, Int.reduceGT, Int.reduceAdd, Int.reduceMul, Int.reduceSub, Int.reduceToNat, Int.reducePow, Int.reduceNe, reduceCtorEq, eq_self, Nat.reduceBEq, $xs,*])
theorem gcd_step (x y : Int) (h0 : 0 ≤ x) (h : 0 < y) : Int.gcd y (x.fmod y) = Int.gcd x y := by
  rw [Int.fmod_eq_emod_of_nonneg x (by omega)]
  obtain ⟨n, rfl⟩ := Int.eq_ofNat_of_zero_le h0
  obtain ⟨m, rfl⟩ := Int.eq_ofNat_of_zero_le (Int.le_of_lt h)
  show Nat.gcd m (n % m) = Nat.gcd n m
  rw [Nat.gcd_comm m, Nat.gcd_comm n, Nat.gcd_rec m n]
theorem common_sp (a b : Int) : m_common [.fz (.int a), .fz (.int b)] = .ok (.fz (.int (Int.gcd a b))) [.fz (.int a), .fz (.int b)] := by
  have w : Fw (m_common [.fz (.int a), .fz (.int b)]) fun r os => r = .fz (.int (Int.gcd a b)) ∧ os = [.fz (.int a), .fz (.int b)] := by
    refine fw_fin ?_
    change Wq (b_common [.fz (.int a), .fz (.int b)]) _
    unfold b_common
    simp! []
    have ea : (if a < 0 then -a else a) = (a.natAbs : Int) := by split <;> omega
    have eb : (if b < 0 then -b else b) = (b.natAbs : Int) := by split <;> omega
    rw [ea, eb, q_bind]
    refine while_inv (I := fun n ρ => ∃ x y : Int, ρ = [.fz (.int x), .fz (.int y)] ∧ 0 ≤ x ∧ 0 ≤ y ∧ n = y.toNat ∧ Int.gcd x y = Int.gcd a b) (fun n ρ h => ?_) _ _ ⟨a.natAbs, b.natAbs, rfl, by omega, by omega, rfl, by simp [Int.gcd]⟩
    obtain ⟨x, y, rfl, hx, hy, rfl, hg⟩ := h
    simp! []
    by_cases h : 0 < y
    · simp! [decide_eq_true h]
      have hn : y ≠ 0 := by omega
      simp! [p_mod x y hn]
      refine ⟨(x.fmod y).toNat, ?_, _, _, rfl, hy, ?_, rfl, ?_⟩
      · rw [Int.fmod_eq_emod_of_nonneg x hy]
        have := Int.emod_lt_of_pos x h
        have := Int.emod_nonneg x hn
        omega
      · rw [Int.fmod_eq_emod_of_nonneg x hy]
        exact Int.emod_nonneg x hn
      · rw [gcd_step x y hx h, hg]
    · simp! [decide_eq_false h]
      have : y = 0 := by omega
      subst this
      refine ⟨by decide, ?_, trivial⟩
      rw [← hg]
      simp [Int.gcd]
      omega
  obtain ⟨_, _, e, rfl, rfl⟩ := w
  exact e
def isL : D → Bool
  | .lst _ => true
  | .tup _ => true
  | _ => false
theorem is_list_sp (d : D) (t : Tg) (h : tgOf d = some t) : m_is_list [.fz d] = .ok (.fz (.bl (isL d))) [.fz d] := by
  have e1 : bIsi [d, .tup [.ty .list, .ty .tuple]] = some (.fz (.bl (isL d))) := by
    cases d <;> cases h <;> rfl
  have w : Fw (m_is_list [.fz d]) fun r os => r = .fz (.bl (isL d)) ∧ os = [.fz d] := by
    refine fw_fin ?_
    change Wq (b_is_list [.fz d]) _
    unfold b_is_list
    have l2 : lenOk 2 = true := rfl
    simp! [e1, l2]
    trivial
  obtain ⟨_, _, e, rfl, rfl⟩ := w
  exact e
def isI : D → Bool
  | .int _ => true
  | _ => false
theorem is_integer_sp (d : D) (t : Tg) (h : tgOf d = some t) : m_is_integer [.fz d] = .ok (.fz (.bl (isI d))) [.fz d] := by
  have h1 : isOne d (.ty .int) = some (subTy t .int) := by
    show (tgOf d).map _ = _
    rw [h]
    rfl
  have h2 : isOne d (.ty .bool) = some (subTy t .bool) := by
    show (tgOf d).map _ = _
    rw [h]
    rfl
  have e1 : bIsi [d, .ty .int] = some (.fz (.bl (subTy t .int))) := by
    show (isOne d (.ty .int)).map _ = _
    rw [h1]
    rfl
  have e2 : bIsi [d, .ty .bool] = some (.fz (.bl (subTy t .bool))) := by
    show (isOne d (.ty .bool)).map _ = _
    rw [h2]
    rfl
  have w : Fw (m_is_integer [.fz d]) fun r os => r = .fz (.bl (isI d)) ∧ os = [.fz d] := by
    refine fw_fin ?_
    change Wq (b_is_integer [.fz d]) _
    unfold b_is_integer
    have x : (subTy t .int && !subTy t .bool) = isI d := by cases d <;> cases h <;> rfl
    rw [← x]
    clear x h1 h2
    generalize subTy t .int = a at *
    generalize subTy t .bool = b at *
    cases a <;> simp! [e1, e2] <;> trivial
  obtain ⟨_, _, e, rfl, rfl⟩ := w
  exact e
def oD : Option Int → D
  | none => .non
  | some i => .int i
def loB (lo : Option Int) (i : Int) : Bool := match lo with
  | none => true
  | some j => decide (j ≤ i)
def hiB (hi : Option Int) (i : Int) : Bool := match hi with
  | none => true
  | some j => decide (i ≤ j)
def inB (d : D) (lo hi : Option Int) : Bool := match d with
  | .int i => loB lo i && hiB hi i
  | _ => false
theorem non_t : Ev.isNon .non = true := rfl
theorem non_i (i : Int) : Ev.isNon (.int i) = false := rfl
theorem tr_b (b : Bool) : truth (.bl b) = some b := rfl
theorem is_within_sp (d : D) (t : Tg) (h : tgOf d = some t) (lo hi : Option Int) : m_is_within [.fz d, .fz (oD lo), .fz (oD hi)] = .ok (.fz (.bl (inB d lo hi))) [.fz d, .fz (oD lo), .fz (oD hi)] := by
  have e1 := is_integer_sp d t h
  have w : Fw (m_is_within [.fz d, .fz (oD lo), .fz (oD hi)]) fun r os => r = .fz (.bl (inB d lo hi)) ∧ os = [.fz d, .fz (oD lo), .fz (oD hi)] := by
    refine fw_fin ?_
    change Wq (b_is_within [.fz d, .fz (oD lo), .fz (oD hi)]) _
    unfold b_is_within
    cases hd : isI d with
    | false =>
      have e2 : inB d lo hi = false := by
        cases d <;> first | rfl | cases hd
      simp! [e1, hd, tr_b, e2]
      exact ⟨by decide, trivial⟩
    | true =>
      obtain ⟨i, rfl⟩ : ∃ i, d = .int i := by
        cases d with
        | int i => exact ⟨i, rfl⟩
        | _ => cases hd
      cases lo with
      | none =>
        cases hi with
        | none =>
          simp! [e1, hd, tr_b, oD, non_t]
          exact ⟨by decide, rfl, trivial⟩
        | some k =>
          simp! [e1, hd, tr_b, oD, non_t, non_i]
          exact ⟨by decide, rfl, trivial⟩
      | some j =>
        by_cases hj : j ≤ i
        · cases hi with
          | none =>
            simp! [e1, hd, tr_b, oD, non_t, non_i, decide_eq_true hj]
            exact ⟨by decide, by simp [inB, loB, hiB, hj], trivial⟩
          | some k =>
            simp! [e1, hd, tr_b, oD, non_t, non_i, decide_eq_true hj]
            exact ⟨by decide, by simp [inB, loB, hiB, hj], trivial⟩
        · simp! [e1, hd, tr_b, oD, non_t, non_i, decide_eq_false hj]
          exact ⟨by decide, by simp [inB, loB, hiB, hj], trivial⟩
  obtain ⟨_, _, e, rfl, rfl⟩ := w
  exact e
theorem allBl_map (f : D → Bool) : ∀ l : List D, allBl (l.filterMap fun d => some (.bl (f d))) = some (l.map f)
  | [] => rfl
  | d :: l => by
    show (allBl (l.filterMap fun d => some (.bl (f d)))).map _ = _
    rw [allBl_map f l]
    rfl
theorem lowest_sp (a b : Int) (hb : b ≠ 0) (hs : (Int.gcd a b).log2 < 9000) : m_lowest [.fz (.int a), .fz (.int b)] = .ok (.fz (num (Rat.divInt a b))) [.fz (.int a), .fz (.int b)] := by
  have w : Fw (m_lowest [.fz (.int a), .fz (.int b)]) fun r os => r = .fz (num (Rat.divInt a b)) ∧ os = [.fz (.int a), .fz (.int b)] := by
    refine fw_fin ?_
    change Wq (b_lowest [.fz (.int a), .fz (.int b), .un]) _
    unfold b_lowest
    have e1 := common_sp a b
    have g0 := gcd_pos (a := a) hb
    have d1 : divOk (Int.gcd a b) = true := by
      unfold divOk
      rw [decide_eq_true (show ((Int.gcd a b : Nat) : Int) ≠ 0 by omega), Int.natAbs_natCast, decide_eq_true hs]
      rfl
    have d2 : divOk (-(Int.gcd a b : Int)) = true := by
      unfold divOk
      rw [decide_eq_true (show (-(Int.gcd a b : Nat) : Int) ≠ 0 by omega), Int.natAbs_neg, Int.natAbs_natCast, decide_eq_true hs]
      rfl
    generalize hq : Rat.divInt a b = q
    have fin : ∀ n d : Int, n = q.num → d = q.den → ((d = 1 → Vl.fz (.int n) = .fz (num q)) ∧ (¬ d = 1 → Vl.fz (.tup [.int n, .int d]) = .fz (num q))) := fun n d e1 e2 => by
      subst e1 e2
      constructor
      · intro h
        rw [num_of1 (by omega)]
      · intro h
        rw [num_ofN (by omega)]
    by_cases hn : b < 0
    · obtain ⟨l1, l2⟩ := low_neg a b hn
      rw [hq] at l1 l2
      obtain ⟨f1, f2⟩ := fin _ _ l1 l2
      by_cases h1 : b.fdiv (-(Int.gcd a b : Int)) = 1
      · simp! [e1, decide_eq_true hn, d2, decide_eq_true h1]
        exact ⟨by decide, f1 h1, trivial⟩
      · simp! [e1, decide_eq_true hn, d2, decide_eq_false h1]
        exact ⟨by decide, f2 h1, trivial⟩
    · obtain ⟨l1, l2⟩ := low_pos a b (by omega)
      rw [hq] at l1 l2
      obtain ⟨f1, f2⟩ := fin _ _ l1 l2
      by_cases h1 : b.fdiv (Int.gcd a b : Int) = 1
      · simp! [e1, decide_eq_false hn, d1, decide_eq_true h1]
        exact ⟨by decide, f1 h1, trivial⟩
      · simp! [e1, decide_eq_false hn, d1, decide_eq_false h1]
        exact ⟨by decide, f2 h1, trivial⟩
  obtain ⟨_, _, e, rfl, rfl⟩ := w
  exact e
def iD (n : Nat) : D := .int n
theorem allI_nat : ∀ c : List Nat, allI (c.map iD) = some (c.map fun n : Nat => (n : Int))
  | [] => rfl
  | n :: c => by
    show (allI (c.map iD)).map _ = _
    rw [allI_nat c]
    rfl
theorem sum_nat : ∀ c : List Nat, (c.map fun n : Nat => (n : Int)).sum = (c.sum : Nat)
  | [] => rfl
  | n :: c => by
    rw [List.map_cons, List.sum_cons, sum_nat c, List.sum_cons]
    omega
theorem sumL_nat (c : List Nat) : bSumA [.lst (c.map iD)] = some (.fz (.int (c.sum : Nat))) := by
  show (allI (c.map iD)).map _ = _
  rw [allI_nat, Option.map_some, sum_nat]
theorem sumT_nat (c : List Nat) : bSumA [.tup (c.map iD)] = some (.fz (.int (c.sum : Nat))) := by
  show (allI (c.map iD)).map _ = _
  rw [allI_nat, Option.map_some, sum_nat]
theorem le_sum : ∀ (c : List Nat) (n : Nat), n ∈ c → n ≤ c.sum
  | [], n, h => by cases h
  | m :: c, n, h => by
    rw [List.sum_cons]
    rcases List.mem_cons.mp h with rfl | h
    · omega
    · have := le_sum c n h
      omega
theorem sum_le {k : Nat} : ∀ c : List Nat, (∀ n ∈ c, n ≤ k) → c.sum ≤ k * c.length
  | [], _ => Nat.zero_le _
  | m :: c, h => by
    have h1 := sum_le c fun n hn => h n (List.mem_cons_of_mem _ hn)
    have h2 := h m List.mem_cons_self
    rw [List.sum_cons, List.length_cons, Nat.mul_add, Nat.mul_one]
    omega
/-- so many ways to choose -/
def ch : Nat → Nat → Nat
  | _, 0 => 1
  | 0, _ + 1 => 0
  | n + 1, k + 1 => ch n k + ch n (k + 1)
theorem ch_0 (n : Nat) : ch n 0 = 1 := by cases n <;> rfl
theorem ch_s (n k : Nat) : ch (n + 1) (k + 1) = ch n k + ch n (k + 1) := rfl
theorem ch_no : ∀ n k : Nat, n < k → ch n k = 0
  | 0, k + 1, _ => rfl
  | n + 1, k + 1, h => by rw [ch_s, ch_no n k (by omega), ch_no n (k + 1) (by omega)]
theorem ch_mul : ∀ n k : Nat, ch n k * (n - k) = ch n (k + 1) * (k + 1)
  | 0, k => by rw [show ch 0 (k + 1) = 0 from rfl, Nat.zero_sub, Nat.mul_zero, Nat.zero_mul]
  | n + 1, 0 => by
    have := ch_mul n 0
    rw [ch_0] at this ⊢
    rw [ch_s, ch_0]
    omega
  | n + 1, k + 1 => by
    have h1 := ch_mul n k
    have h2 := ch_mul n (k + 1)
    rw [ch_s n (k + 1), ch_s, Nat.add_sub_add_right]
    by_cases h : k < n
    · have e : n - k = n - (k + 1) + 1 := by omega
      rw [Nat.add_mul, Nat.add_mul, ← h2, h1, e, Nat.mul_add (ch n (k + 1)) (n - (k + 1)) 1]
      have e2 : ch n (k + 1) * (k + 1 + 1) = ch n (k + 1) * (k + 1) + ch n (k + 1) := by rw [Nat.mul_add, Nat.mul_one]
      omega
    · rw [ch_no n (k + 1) (by omega), ch_no n (k + 1 + 1) (by omega), show n - k = 0 by omega]
      simp
theorem ch_le : ∀ n k : Nat, ch n k ≤ 2 ^ n
  | n, 0 => by rw [ch_0]; exact Nat.pow_pos (by decide)
  | 0, k + 1 => Nat.zero_le _
  | n + 1, k + 1 => by
    have h1 := ch_le n k
    have h2 := ch_le n (k + 1)
    rw [ch_s, Nat.pow_succ]
    omega
theorem ch_self : ∀ n : Nat, ch n n = 1
  | 0 => rfl
  | n + 1 => by rw [ch_s, ch_self n, ch_no n (n + 1) (by omega)]
theorem ch_sym : ∀ n k : Nat, k ≤ n → ch n (n - k) = ch n k
  | n, 0, _ => by rw [Nat.sub_zero, ch_self, ch_0]
  | n + 1, k + 1, h => by
    rw [Nat.add_sub_add_right]
    by_cases e : k = n
    · subst e
      rw [Nat.sub_self, ch_0, ch_self]
    · have h1 := ch_sym n k (by omega)
      have h2 := ch_sym n (k + 1) (by omega)
      rw [ch_s, ← h1, ← h2, show n - k = n - (k + 1) + 1 by omega, ch_s, Nat.add_comm]
theorem ch_lt {n : Nat} (h : n ≤ 1000) (k : Nat) : ((ch n k : Nat) : Int).natAbs < 2 ^ 1001 := by
  have h1 := ch_le n k
  have h2 : 2 ^ n < 2 ^ 1001 := Nat.pow_lt_pow_right (by omega) (by omega)
  rw [Int.natAbs_natCast]
  omega
theorem tt2 : truth (.bl true) = some true := rfl
theorem num_pos {a u : Int} (ha : 0 < a) (hu : 0 < u) : 0 < (Rat.divInt a u).num := by
  obtain ⟨l1, _⟩ := low_pos a u hu
  rw [← l1]
  have g0 := gcd_pos (a := a) (b := u) (by omega)
  rw [Int.fdiv_eq_ediv_of_nonneg _ (by omega)]
  have gd : ((Int.gcd a u : Nat) : Int) ∣ a := Int.gcd_dvd_left ..
  have := Int.le_of_dvd ha gd
  exact Int.ediv_pos_of_pos_of_dvd ha (by omega) gd
/-- the tray behind at most k lifts -/
def Tr (k : Nat) (t : D) : Prop := ∃ (cs : List Int) (u l : Int), t = .lst [.lst (cs.map .int), .int u, .int l] ∧ 0 ≤ u ∧ u ≤ k ∧ 0 ≤ l ∧ ∀ c ∈ cs, c.natAbs < 2 ^ 1048576
theorem Tr.le {k m : Nat} {t : D} (h : Tr k t) (l : k ≤ m) : Tr m t := by
  obtain ⟨cs, u, r, e, h0, h1, h2, h3⟩ := h
  exact ⟨cs, u, r, e, h0, by omega, h2, h3⟩
set_option exponentiation.threshold 100 in
theorem tray_sp (ns : List Int) (hb : ∀ z ∈ ns, Builtin.Int.intBits z ≤ 1048576) (hl : ns.length ≤ 63) : ∃ t, m_law_pen [.fz (.scr ns)] = .ok (.nw t) [.fz (.scr ns)] ∧ Tr 0 t := by
  have w : Fw (m_law_pen [.fz (.scr ns)]) fun r os => os = [.fz (.scr ns)] ∧ ∃ t, r = .nw t ∧ Tr 0 t := by
    refine fw_fin ?_
    change Wq (b_law_pen [.fz (.scr ns), .un]) _
    unfold b_law_pen
    have e1 : asInt (.int 62) = some (some 62) := rfl
    have e2 : cutOf none (some 62) (.scr ns) = some (.nw (.lst (Ev.cutD (ns.map .int) none (some 62)))) := rfl
    have e3 : dSeq (.lst (Ev.cutD (ns.map .int) none (some 62))) = some (Ev.cutD (ns.map .int) none (some 62)) := rfl
    obtain ⟨cs, ec, hc, hcl⟩ : ∃ cs : List Int, Ev.cutD (ns.map .int) none (some 62) = cs.map .int ∧ (∀ c ∈ cs, c ∈ ns) ∧ cs.length ≤ ns.length := by
      unfold Ev.cutD
      rw [← List.map_drop, ← List.map_take]
      exact ⟨_, rfl, fun c h => List.mem_of_mem_drop (List.mem_of_mem_take h), by rw [List.length_take, List.length_drop]; omega⟩
    have l3 : lenOk 3 = true := rfl
    simp! [e1, e2, e3]
    rw [ec, lc_eq (fun d => some d) rfl (by rw [List.length_map]; omega) (fun x hx => ?_)]
    · simp! [l3, List.filterMap_some]
      refine ⟨by decide, trivial, _, rfl, cs, 0, 0, rfl, by omega, by omega, by omega, fun c h => ?_⟩
      have hz := hb c (hc c h)
      have : c.natAbs < 2 ^ (Builtin.Int.intBits c) := by
        unfold Builtin.Int.intBits
        split
        · rename_i h0
          simp at h0
          subst h0
          simp
        · exact Nat.lt_log2_self
      exact Nat.lt_of_lt_of_le this (Nat.pow_le_pow_right (by omega) hz)
    · obtain ⟨c, _, rfl⟩ := List.mem_map.mp hx
      simp! [wipeR]
  obtain ⟨_, _, e, rfl, t, rfl, ht⟩ := w
  exact ⟨t, e, ht⟩
theorem len_cast_ne {cs : List Int} (h : cs ≠ []) : (((cs.map D.int).length : Nat) : Int) ≠ 0 := by
  cases cs with
  | nil => exact absurd rfl h
  | cons c cs =>
    rw [List.map_cons, List.length_cons]
    omega
theorem at_mod {cs : List Int} (h : cs ≠ []) (u : Int) : ∃ c ∈ cs, atI (cs.map D.int) (u.fmod (((cs.map D.int).length : Nat) : Int)) = some (.int c) := by
  have nl := len_cast_ne h
  have hp : (0 : Int) < (((cs.map D.int).length : Nat) : Int) := by omega
  rw [Int.fmod_eq_emod_of_nonneg u (by omega)]
  have a := Int.emod_nonneg u nl
  have b := Int.emod_lt_of_pos u hp
  generalize u % (((cs.map D.int).length : Nat) : Int) = i at a b
  obtain ⟨n, rfl⟩ := Int.eq_ofNat_of_zero_le a
  rw [List.length_map] at b
  have hn : n < cs.length := by omega
  refine ⟨cs[n], List.getElem_mem hn, atI_nat (j := n) ?_⟩
  rw [List.getElem?_map, List.getElem?_eq_getElem hn]
  rfl
theorem lift_sp {k : Nat} {t : D} (h : Tr k t) (hk : k ≤ 100000) (many : Int) (hm : 0 < many) (hm2 : many < 2 ^ 200) :
    ∃ r t', m_law_draw [.ln t, .fz (.int many)] = .ok (.fz (.int r)) [.ln t', .fz (.int many)] ∧ Tr (k + 1) t' ∧ 0 ≤ r ∧ r < many := by
  obtain ⟨cs, u, l, rfl, h0, h1, h2, h3⟩ := h
  have w : Fw (m_law_draw [.ln (.lst [.lst (cs.map .int), .int u, .int l]), .fz (.int many)]) fun a os => ∃ r t', a = .fz (.int r) ∧ os = [.ln t', .fz (.int many)] ∧ Tr (k + 1) t' ∧ 0 ≤ r ∧ r < many := by
    refine fw_fin ?_
    change Wq (b_law_draw [.ln (.lst [.lst (cs.map .int), .int u, .int l]), .fz (.int many), .un, .un, .un, .un]) _
    unfold b_law_draw
    have dm : divOk many = true := divOk_of (b := 200) (by omega) (by omega) (by omega) (by omega)
    have nm : many ≠ 0 := by omega
    have md : ∀ x : Int, 0 ≤ x.fmod many ∧ x.fmod many < many := fun x => by
      rw [Int.fmod_eq_emod_of_nonneg x (by omega)]
      exact ⟨Int.emod_nonneg x nm, Int.emod_lt_of_pos x hm⟩
    have dv : ∀ x : Int, 0 ≤ x → 0 ≤ x.fdiv many := fun x hx => by
      rw [Int.fdiv_eq_ediv_of_nonneg x (by omega)]
      exact Int.ediv_nonneg hx (by omega)
    have i2 : ixN 3 2 = some 2 := rfl
    have i1 : ixN 3 1 = some 1 := rfl
    have T0 : Tr (k + 1) (.lst [.lst (cs.map .int), .int u, .int l]) := ⟨cs, u, l, rfl, h0, by omega, h2, h3⟩
    have T1 : Tr (k + 1) (.lst [.lst (cs.map .int), .int (u + 1), .int l]) := ⟨cs, u + 1, l, rfl, by omega, by omega, h2, h3⟩
    have e0 : eqA (.lst []) (.lst []) = some (.fz (.bl true)) := p_eqNil []
    have n0 : neA (.lst []) (.lst []) = some (.fz (.bl false)) := p_neNil []
    have m1 : mulOk 52081 u = true := mulOk_of (a := 64) (b := 64) (by omega) (by omega) (by omega)
    have m2 : mulOk 52081 u = true := mulOk_of (a := 64) (b := 64) (by omega) (by omega) (by omega)
    have m3 : mulOk 2 u = true := mulOk_of (a := 64) (b := 64) (by omega) (by omega) (by omega)
    have m4 : mulOk (52081 * u) u = true := mulOk_of (a := 64) (b := 64) (by omega) (by omega) (by omega)
    have m6 : mulOk 0 u = true := mulOk_of (a := 64) (b := 64) (by omega) (by omega) (by omega)
    have d64 : divOk 64 = true := by decide +kernel
    have n1 : (2147483563 : Int) ≠ 0 := by decide
    have n2 : (2147483543 : Int) ≠ 0 := by decide
    have n3 : (2147483579 : Int) ≠ 0 := by decide
    have p18 : powOk 10 18 = true := by decide +kernel
    have uu : 52081 * u * u ≤ 5208100000 * 100000 := Int.mul_le_mul (by omega) (by omega) h0 (by omega)
    have uu0 : 0 ≤ 52081 * u * u := Int.mul_nonneg (by omega) h0
    -- the last mixing
    have mix : ∀ c : Int, powOk (c.fmod 2147483563 + 52081 * u + 7057) 5 = true ∧ (∀ m : Int, 0 ≤ m → m < 2147483543 → mulOk m (2 * u + 6067) = true ∧ powOk (m * (2 * u + 6067) + 52081 * u * u + 7057) 3 = true) := by
      intro c
      have b1 := Int.emod_nonneg c n1
      have b2 := Int.emod_lt_of_pos c (show (0 : Int) < 2147483563 by decide)
      have b3 : c.fmod 2147483563 = c % 2147483563 := Int.fmod_eq_emod_of_nonneg c (by decide)
      refine ⟨powOk_of (by decide) (by decide) (by omega), fun m hm0 hm1 => ?_⟩
      have q1 : m * (2 * u + 6067) ≤ 2147483543 * 206067 := Int.mul_le_mul (by omega) (by omega) (by omega) (by omega)
      have q2 : 0 ≤ m * (2 * u + 6067) := Int.mul_nonneg hm0 (by omega)
      exact ⟨mulOk_of (a := 64) (b := 64) (by omega) (by omega) (by omega), powOk_of (by decide) (by decide) (by omega)⟩
    have mm : ∀ x : Int, 0 ≤ x.fmod 2147483543 ∧ x.fmod 2147483543 < 2147483543 := fun x => by
      rw [Int.fmod_eq_emod_of_nonneg x (by decide)]
      exact ⟨Int.emod_nonneg x n2, Int.emod_lt_of_pos x (by decide)⟩
    by_cases hl : 0 < l
    · have TL : Tr (k + 1) (.lst [.lst (cs.map .int), .int u, .int (l.fdiv many)]) := ⟨cs, u, l.fdiv many, rfl, h0, by omega, dv l (by omega), h3⟩
      by_cases hc : cs = []
      · subst hc
        simp! [decide_eq_true hl, i2, i1, e0, n0, p_div _ _ dm, p_mod _ _ nm]
        first
          | exact ⟨by decide, _, _, rfl, rfl, TL, (md l).1, (md l).2⟩
          | exact ⟨by decide, _, _, rfl, rfl, T0, by omega, by omega⟩
      · simp! [decide_eq_true hl, i2, i1, p_eqNil, p_neNil, decide_eq_false hc, p_div _ _ dm, p_mod _ _ nm]
        exact ⟨by decide, _, _, rfl, rfl, TL, (md l).1, (md l).2⟩
    · by_cases hc : cs = []
      · subst hc
        simp! [decide_eq_false hl, i2, i1, e0, n0]
        first
          | exact ⟨by decide, _, _, rfl, rfl, T0, by omega, by omega⟩
          | exact ⟨by decide, _, _, rfl, rfl, T1, by omega, by omega⟩
      · have nl := len_cast_ne hc
        obtain ⟨c, hm, ec⟩ := at_mod hc u
        have hc2 : c.natAbs < 2 ^ 1048576 := h3 c hm
        have g1 := (mix c).1
        have g2 := (mix c).2 ((c.fmod 2147483563 + 52081 * u + 7057) ^ 5 |>.fmod 2147483543) (mm _).1 (mm _).2
        by_cases hu : u < (((cs.map D.int).length : Nat) : Int)
        · by_cases ha : 1000000000000000000 ≤ (if c < 0 then -c else c)
          · have m5 : mulOk 2 ((if c < 0 then -c else c) - 1000000000000000000) = true := by
              refine mulOk_of (a := 64) (b := 1048576) (by omega) (Nat.lt_of_le_of_lt ?_ hc2) (by omega)
              split <;> omega
            have nn : 0 ≤ 2 * ((if c < 0 then -c else c) - 1000000000000000000) + (if decide (c < 0) = true then 1 else 0) := by
              split <;> split <;> omega
            simp! [decide_eq_false hl, i2, i1, m1, m2, m3, m4, m6, p_eqNil, p_neNil, decide_eq_false hc, p_mod _ _ nl, ec, decide_eq_true hu, decide_eq_true ha, m5, p_div _ _ dm, p_mod _ _ nm]
            exact ⟨by decide, _, _, rfl, rfl, ⟨cs, u + 1, _, rfl, by omega, by omega, dv _ nn, h3⟩, (md _).1, (md _).2⟩
          · simp! [decide_eq_false hl, i2, i1, m1, m2, m3, m4, m6, p_eqNil, p_neNil, decide_eq_false hc, p_mod _ _ nl, ec, decide_eq_true hu, decide_eq_false ha, p_mod _ _ n1, p_mod _ _ n2, p_mod _ _ n3, g1, g2.1, g2.2, d64, p_mod _ _ nm]
            exact ⟨by decide, _, _, rfl, rfl, T1, (md _).1, (md _).2⟩
        · simp! [decide_eq_false hl, i2, i1, m1, m2, m3, m4, m6, p_eqNil, p_neNil, decide_eq_false hc, p_mod _ _ nl, ec, decide_eq_false hu, p_mod _ _ n1, p_mod _ _ n2, p_mod _ _ n3, g1, g2.1, g2.2, d64, p_mod _ _ nm]
          exact ⟨by decide, _, _, rfl, rfl, T1, (md _).1, (md _).2⟩
  obtain ⟨_, _, e, r, t', rfl, rfl, q⟩ := w
  exact ⟨r, t', e, q⟩
theorem pick_sp {k : Nat} {t : D} (h : Tr k t) (hk : k ≤ 100000) (l : List D) (h0 : l ≠ []) (h1 : l.length ≤ 1000) :
    ∃ d t', m_law_one_of [.ln t, .fz (.lst l)] = .ok (.fz d) [.ln t', .fz (.lst l)] ∧ Tr (k + 1) t' ∧ d ∈ l := by
  have hp : 0 < l.length := List.length_pos_iff.mpr h0
  obtain ⟨r, t', e, ht, r0, r1⟩ := lift_sp h hk (l.length : Nat) (by omega) (by omega)
  obtain ⟨n, rfl⟩ := Int.eq_ofNat_of_zero_le r0
  have hn : n < l.length := by omega
  have ea : atI l (n : Int) = some l[n] := atI_nat (List.getElem?_eq_getElem hn)
  have w : Fw (m_law_one_of [.ln t, .fz (.lst l)]) fun a os => a = .fz l[n] ∧ os = [.ln t', .fz (.lst l)] := by
    refine fw_fin ?_
    change Wq (b_law_one_of [.ln t, .fz (.lst l)]) _
    unfold b_law_one_of
    simp! [e, ea]
    exact ⟨by decide, trivial⟩
  obtain ⟨_, _, e, rfl, rfl⟩ := w
  exact ⟨_, t', e, ht, List.getElem_mem hn⟩
theorem niceW_int {i : Int} {k : Nat} (h : i.natAbs < 2 ^ k) (hk : k ≤ 12900) : niceW (.int i) = true := by
  show decide (i.natAbs.log2 < 12900) = true
  refine decide_eq_true ?_
  by_cases h0 : i.natAbs = 0
  · rw [h0]
    decide
  · have := (Nat.log2_lt h0).mpr h
    omega
theorem niceW_num {k : Nat} {q : Rat} (h : Bq k q) (hk : k ≤ 12900) : niceW (num q) = true := by
  unfold num
  split
  · exact niceW_int h.n hk
  · have e1 := niceW_int h.n hk
    have e2 : niceW (.int q.den) = true := niceW_int (i := q.den) (by rw [Int.natAbs_natCast]; exact h.d) hk
    show (niceW (.int q.num) && (niceW (.int q.den) && true)) = true
    rw [e1, e2]
    rfl
theorem rszW_num (q : Rat) : rszW (num q) ≤ 26000 := by
  unfold num
  split
  · show (12901 : Nat) ≤ 26000
    decide
  · show (12901 + 2 + (12901 + 2 + 0) + 4 : Nat) ≤ 26000
    decide
theorem two_reprW {q : Rat} {k : Nat} (h : Bq k q) (hk : k ≤ 12900) : bReprW [.lst [num q, num q]] = some (.fz (.str (shw (.lst [num q, num q])))) := by
  have n1 := niceW_num h hk
  have r1 := rszW_num q
  have d1 := num_dep q
  refine p_reprW ?_ ?_ ?_
  · show (niceW (num q) && (niceW (num q) && true)) = true
    rw [n1]
    rfl
  · simp only [dep, deps]
    omega
  · simp only [rszW, rszsW]
    omega
theorem twice (q : Rat) : opMul (.lst [num q]) (.int 2) = some (.nw (.lst [num q, num q])) := rfl
theorem num_ne (q : Rat) : neA (num q) (num q) = some (.fz (.bl false)) := by
  rw [p_neD (num_pl q) (num_pl q) (Nat.le_trans (num_dep q) (by decide)) (Nat.le_trans (num_dep q) (by decide)), deq_refl _ (num_pl q)]
  rfl
/-! ### factorials -/
def fac : Nat → Nat
  | 0 => 1
  | n + 1 => (n + 1) * fac n
theorem fac_pos : ∀ n : Nat, 0 < fac n
  | 0 => Nat.one_pos
  | n + 1 => Nat.mul_pos (Nat.succ_pos n) (fac_pos n)
theorem fac_mono {m n : Nat} (h : m ≤ n) : fac m ≤ fac n := by
  induction n with
  | zero => rw [show m = 0 by omega]; exact Nat.le_refl _
  | succ n ih =>
    by_cases e : m = n + 1
    · rw [e]; exact Nat.le_refl _
    · exact Nat.le_trans (ih (by omega)) (Nat.le_mul_of_pos_left _ (Nat.succ_pos n))
theorem fac_233 : fac 233 < 2 ^ 1510 := by decide +kernel
theorem fac_1000 : fac 1000 < 2 ^ 8600 := by decide +kernel
theorem fac_1300 : fac 1300 < 2 ^ 11700 := by decide +kernel
theorem fac_lt {n : Nat} (h : n ≤ 1300) : fac n < 2 ^ 11700 := Nat.lt_of_le_of_lt (fac_mono h) fac_1300
theorem factorial_sp (n : Nat) (hn : n ≤ 1300) : m_factorial [.fz (.int n)] = .ok (.fz (.int (fac n : Nat))) [.fz (.int n)] := by
  have w : Fw (m_factorial [.fz (.int n)]) fun r os => r = .fz (.int (fac n : Nat)) ∧ os = [.fz (.int n)] := by
    refine fw_fin ?_
    change Wq (b_factorial [.fz (.int n), .un, .un]) _
    unfold b_factorial
    have er : rng2 [.int 2, .int ((n : Int) + 1)] = some (rangeL 2 (n - 1)) := by
      rw [Ev.p_rng2 _ _ (inR_of (by omega) (by omega)) (inR_of (by omega) (by omega)), show ((n : Int) + 1 - 2).toNat = n - 1 by omega]
    simp! [er]
    rw [q_bind]
    refine for_idx (rangeL 2 (n - 1)) (I := fun j ρ => ∃ x2, ρ = [.fz (.int n), .fz (.int (fac (j + 1) : Nat)), x2] ∧ setOk x2 = true) (fun j d ρ hd hI => ?_) (fun ρ hI => ?_) _ ⟨.un, rfl, rfl⟩
    · obtain ⟨x2, rfl, z2⟩ := hI
      have hj : j < n - 1 := by
        have := (List.getElem?_eq_some_iff.mp hd).1
        rw [rangeL_len] at this
        exact this
      have ed : d = .int (2 + (j : Int)) := by
        unfold rangeL at hd
        rw [List.getElem?_map, List.getElem?_range hj] at hd
        exact (Option.some.inj hd).symm
      subst ed
      have mo : mulOk (fac (j + 1) : Nat) (2 + (j : Int)) = true := mulOk_of (a := 11700) (b := 64) (by rw [Int.natAbs_natCast]; exact fac_lt (by omega)) (by omega) (by decide)
      simp! [p_setK _ _ z2, mo]
      refine ⟨.fz (.int (2 + (j : Int))), ?_, rfl⟩
      have : ((fac (j + 1) : Nat) : Int) * (2 + (j : Int)) = ((fac (j + 1 + 1) : Nat) : Int) := by
        show _ = (((j + 1 + 1) * fac (j + 1) : Nat) : Int)
        rw [Int.natCast_mul, Int.mul_comm, show ((j + 1 + 1 : Nat) : Int) = 2 + (j : Int) by omega]
      rw [this]
    · obtain ⟨x2, rfl, z2⟩ := hI
      rw [rangeL_len]
      have e : fac (n - 1 + 1) = fac n := by
        by_cases h : n = 0
        · subst h; rfl
        · rw [show n - 1 + 1 = n by omega]
      rw [e]
      simp! []
      (refine ⟨by decide, ?_⟩; first | trivial | exact ⟨rfl, trivial⟩ | exact rfl)
  obtain ⟨_, _, e, rfl, rfl⟩ := w
  exact e
def pf : List Nat → Nat
  | [] => 1
  | n :: l => fac n * pf l
theorem pf_pos : ∀ l : List Nat, 0 < pf l
  | [] => Nat.one_pos
  | n :: l => Nat.mul_pos (fac_pos n) (pf_pos l)
theorem drop_cons {α : Type} {l : List α} {k : Nat} {x : α} (h : l[k]? = some x) : l.drop k = x :: l.drop (k + 1) := by
  have hk : k < l.length := by
    cases Nat.lt_or_ge k l.length with
    | inl z => exact z
    | inr z => rw [List.getElem?_eq_none z] at h; cases h
  rw [List.getElem?_eq_getElem hk] at h
  cases h
  exact List.drop_eq_getElem_cons hk
def inc (k : List Nat) (c : Nat) : List Nat := k.take c ++ (k.getD c 0 + 1) :: k.drop (c + 1)
theorem inc_len {k : List Nat} {c : Nat} (h : c < k.length) : (inc k c).length = k.length := by
  unfold inc
  rw [List.length_append, List.length_cons, List.length_take, List.length_drop]
  omega
theorem inc_sum {k : List Nat} {c : Nat} (h : c < k.length) : (inc k c).sum = k.sum + 1 := by
  unfold inc
  rw [List.sum_append, List.sum_cons]
  have e : k.sum = (k.take c).sum + (k.drop c).sum := by rw [← List.sum_append, List.take_append_drop]
  rw [e, drop_cons (List.getElem?_eq_getElem h), List.sum_cons, List.getD_eq_getElem?_getD, List.getElem?_eq_getElem h]
  show _ = (k.take c).sum + (k[c] + _) + 1
  simp only [Option.getD_some]
  omega
theorem pf_app : ∀ l r : List Nat, pf (l ++ r) = pf l * pf r
  | [], r => (Nat.one_mul _).symm
  | n :: l, r => by
    show fac n * pf (l ++ r) = fac n * pf l * pf r
    rw [pf_app l r, Nat.mul_assoc]
theorem pf_inc {k : List Nat} {c : Nat} (h : c < k.length) : pf (inc k c) = (k.getD c 0 + 1) * pf k := by
  have e : pf k = pf (k.take c) * pf (k.drop c) := by rw [← pf_app, List.take_append_drop]
  have e2 : pf (k.drop c) = fac (k.getD c 0) * pf (k.drop (c + 1)) := by
    rw [drop_cons (List.getElem?_eq_getElem h), List.getD_eq_getElem?_getD, List.getElem?_eq_getElem h]
    rfl
  rw [e, e2]
  unfold inc
  rw [pf_app]
  show pf (k.take c) * ((k.getD c 0 + 1) * fac (k.getD c 0) * pf (k.drop (c + 1))) = _
  generalize pf (k.take c) = a
  generalize fac (k.getD c 0) = b
  generalize pf (k.drop (c + 1)) = d
  generalize k.getD c 0 + 1 = n
  grind
theorem ch_fac : ∀ k n : Nat, k ≤ n → ch n k * fac k * fac (n - k) = fac n
  | 0, n, _ => by rw [ch_0, Nat.sub_zero]; show 1 * 1 * fac n = fac n; omega
  | k + 1, n, h => by
    have e := ch_mul n k
    have ih := ch_fac k n (by omega)
    have e2 : fac (n - k) = (n - k) * fac (n - (k + 1)) := by
      obtain ⟨m, hm⟩ : ∃ m, n - k = m + 1 := ⟨n - k - 1, by omega⟩
      rw [hm, show n - (k + 1) = m by omega]
      rfl
    rw [e2] at ih
    show ch n (k + 1) * ((k + 1) * fac k) * fac (n - (k + 1)) = fac n
    rw [← ih]
    generalize fac (n - (k + 1)) = y at *
    generalize fac k = z at *
    calc ch n (k + 1) * ((k + 1) * z) * y = (ch n (k + 1) * (k + 1)) * z * y := by grind
      _ = (ch n k * (n - k)) * z * y := by rw [e]
      _ = ch n k * z * ((n - k) * y) := by grind
def mu : Nat → List Nat → Nat
  | _, [] => 1
  | a, n :: l => ch (a + n) n * mu (a + n) l
theorem mu_fac : ∀ (l : List Nat) (a : Nat), fac a * pf l * mu a l = fac (a + l.sum)
  | [], a => by show fac a * 1 * 1 = fac (a + 0); simp
  | n :: l, a => by
    have e := ch_fac n (a + n) (by omega)
    rw [show a + n - n = a by omega] at e
    have ih := mu_fac l (a + n)
    rw [List.sum_cons, ← Nat.add_assoc, ← ih, ← e]
    show fac a * (fac n * pf l) * (ch (a + n) n * mu (a + n) l) = _
    generalize fac a = x
    generalize fac n = y
    generalize pf l = z
    generalize ch (a + n) n = c
    generalize mu (a + n) l = m
    grind
theorem mu_pos (a : Nat) (l : List Nat) : 0 < mu a l := by
  have h := mu_fac l a
  have := fac_pos (a + l.sum)
  exact Nat.pos_of_ne_zero fun z => by rw [z, Nat.mul_zero] at h; omega
theorem mu_le : ∀ (l : List Nat) (a : Nat), mu a l ≤ 2 ^ (l.length * (a + l.sum))
  | [], a => by show 1 ≤ 2 ^ (0 * _); simp
  | n :: l, a => by
    have h1 := ch_le (a + n) n
    have h2 := mu_le l (a + n)
    have h3 := Nat.mul_le_mul h1 h2
    rw [← Nat.pow_add] at h3
    refine Nat.le_trans h3 (Nat.pow_le_pow_right (by decide) ?_)
    rw [List.length_cons, List.sum_cons, Nat.add_mul, Nat.one_mul, show a + n + l.sum = a + (n + l.sum) by omega]
    omega
/-- the even weight of counts -/
def wG (g : Nat) (l : List Nat) : Rat := Rat.divInt (fac (g - 1) * pf l : Nat) (fac (l.sum + (g - 1)) : Nat)
theorem wG_one (g : Nat) (l : List Nat) : wG g l = Rat.divInt 1 (mu (g - 1) l : Nat) := by
  have h := mu_fac l (g - 1)
  have p := Nat.mul_pos (fac_pos (g - 1)) (pf_pos l)
  unfold wG
  rw [Nat.add_comm l.sum, ← h]
  generalize fac (g - 1) * pf l = x at *
  rw [Int.natCast_mul, show ((x : Nat) : Int) = 1 * (x : Int) by omega, Int.one_mul, Int.mul_comm, show Rat.divInt (x : Int) ((mu (g - 1) l : Nat) * (x : Int)) = Rat.divInt (1 * (x : Int)) ((mu (g - 1) l : Nat) * (x : Int)) by rw [Int.one_mul], Rat.divInt_mul_right (by omega)]
theorem wG_parts (g : Nat) (l : List Nat) : (wG g l).num = 1 ∧ (wG g l).den = mu (g - 1) l := by
  have h := mu_pos (g - 1) l
  have l1 := low_pos 1 (mu (g - 1) l : Nat) (by omega)
  rw [wG_one]
  have g1 : Int.gcd 1 (mu (g - 1) l : Nat) = 1 := by simp [Int.gcd]
  rw [g1] at l1
  obtain ⟨a, b⟩ := l1
  constructor
  · rw [← a]; rfl
  · have : ((mu (g - 1) l : Nat) : Int).fdiv ((1 : Nat) : Int) = (mu (g - 1) l : Nat) := by simp
    rw [this] at b
    omega
theorem wG_inc {g : Nat} {k : List Nat} (hg : k.length = g) (g1 : 1 ≤ g) {c : Nat} (h : c < g) : wG g (inc k c) = wG g k * Rat.divInt (1 + k.getD c 0 : Nat) (k.sum + g : Nat) := by
  have hp : c < k.length := by omega
  unfold wG
  rw [inc_sum hp, pf_inc hp, Rat.divInt_mul_divInt, ← Int.natCast_mul, ← Int.natCast_mul]
  congr 2
  · rw [Nat.add_comm 1, Nat.mul_comm (k.getD c 0 + 1), ← Nat.mul_assoc]
  · rw [show k.sum + 1 + (g - 1) = (k.sum + (g - 1)) + 1 by omega]
    show (k.sum + (g - 1) + 1) * fac (k.sum + (g - 1)) = _
    rw [show k.sum + (g - 1) + 1 = k.sum + g by omega, Nat.mul_comm]
theorem wG_zero (g : Nat) (l : List Nat) : wG g (l ++ [0]) = wG g l := by
  have e1 : pf (l ++ [0]) = pf l := by rw [pf_app]; show pf l * 1 = pf l; omega
  have e2 : (l ++ [0]).sum = l.sum := by simp
  unfold wG
  rw [e1, e2]
theorem wG_succ {g : Nat} (g1 : 1 ≤ g) (l : List Nat) (t : Nat) : wG g (l ++ [t + 1]) = wG g (l ++ [t]) * Rat.divInt (t + 1 : Nat) (l.sum + t + g : Nat) := by
  unfold wG
  rw [pf_app, pf_app, List.sum_append, List.sum_append, Rat.divInt_mul_divInt, ← Int.natCast_mul, ← Int.natCast_mul]
  show Rat.divInt (fac (g - 1) * (pf l * ((t + 1) * fac t * 1)) : Nat) (fac (l.sum + (t + 1 + 0) + (g - 1)) : Nat) = Rat.divInt (fac (g - 1) * (pf l * (fac t * 1)) * (t + 1) : Nat) (fac (l.sum + (t + 0) + (g - 1)) * (l.sum + t + g) : Nat)
  congr 2
  · generalize fac (g - 1) = x
    generalize pf l = y
    generalize fac t = z
    grind
  · rw [show l.sum + (t + 1 + 0) + (g - 1) = (l.sum + (t + 0) + (g - 1)) + 1 by omega]
    show (l.sum + (t + 0) + (g - 1) + 1) * fac (l.sum + (t + 0) + (g - 1)) = _
    rw [show l.sum + (t + 0) + (g - 1) + 1 = l.sum + t + g by omega, Nat.mul_comm]
end K70

namespace K70
open PySem PySem.Spec PyProof.Rows L2 Ev
local macro_rules | `(tactic| simp! [$xs,*]) => `(tactic| simp only [Ev.p_pure, Ev.p_ok, Ev.p_toD, Ev.p_kDf, Ev.p_kDn, Ev.p_toV, Ev.p_kV, Ev.p_some, Ev.p_var, Ev.p_varF, Ev.p_varL, Ev.p_varO, Ev.p_varN, Ev.p_mov, Ev.p_movF, Ev.p_movL, Ev.p_movO, Ev.p_movN, Ev.p_ev2, Ev.p_k2, Ev.p_k2', Ev.p_ev2T, Ev.p_kT, Ev.p_kT', Ev.p_vb, Ev.p_ev1, Ev.p_evC, Ev.p_evL, Ev.p_evO, Ev.p_evSeq, Ev.p_tTruth, Ev.p_kf, Ev.p_cons, Ev.p_vcons, Ev.p_acons, Ev.p_kC1, Ev.p_kC2, Ev.p_arV, Ev.p_kAr, Ev.p_arR, Ev.p_arF, Ev.p_arOw, Ev.p_arN, Ev.p_arL, Ev.p_call, Ev.p_kL1, Ev.p_kL2, Ev.p_if, Ev.p_kIt, Ev.p_kIf, Ev.p_tAnd, Ev.p_tOr, Ev.p_tNot, Ev.p_kN, Ev.p_and, Ev.p_kA, Ev.p_or, Ev.p_kO, Ev.p_not, Ev.p_kNt, Ev.p_ixS, Ev.p_ixO, Ev.p_kX, Ev.p_kXO, Ev.p_slotD, Ev.p_slF, Ev.p_slO, Ev.p_slN, Ev.p_slL, Ev.p_seq, Ev.p_kSn, Ev.p_kSr, Ev.p_kSb, Ev.p_kSc, Ev.p_slot, Ev.p_setU, Ev.p_setF, Ev.p_setO, Ev.p_ofF, Ev.p_ofN, Ev.p_kNx, Ev.p_set, Ev.p_kSet, Ev.p_ret, Ev.p_kRt, Ev.p_expr, Ev.p_kEx, Ev.p_par, Ev.p_kPar, Ev.p_kSs, Ev.p_ss0, Ev.p_ss, Ev.p_asg, Ev.p_kAsg, Ev.p_unp, Ev.p_gs, Ev.p_kG, Ev.p_gs0, Ev.p_gIx, Ev.p_gIO, Ev.p_kUp, Ev.p_upd, Ev.p_upO, Ev.p_upN, Ev.p_upDt, Ev.p_upDf, Ev.p_put, Ev.p_mut, Ev.p_mutO, Ev.p_kNon, Ev.p_kM1, Ev.p_app, Ev.p_sl, Ev.p_kSl1, Ev.p_kSl2, Ev.p_kSl3, Ev.p_add, Ev.p_addL, Ev.p_i2, Ev.p_u1, Ev.p_lt, Ev.p_le, Ev.p_gt, Ev.p_ge, Ev.p_eqI, Ev.p_neI, Ev.p_eqS, Ev.p_neS, Ev.p_isB, Ev.p_isN, Ev.p_notN, Ev.p_tup, Ev.p_lst, Ev.p_abs, Ev.p_intI, Ev.p_intB, Ev.p_len, Ev.p_dlL, Ev.p_dlT, Ev.p_itL, Ev.p_itT, Ev.p_d, Ev.p_dn, Ev.p_rng1, Ev.p_rng2, Ev.p_lo0, Ev.p_lo1, Ev.p_lo2, Ev.p_lo3, Ev.p_lo4, Ev.p_lo5, Ev.p_lo6, Ev.p_lo7, Ev.p_lo8, Ev.p_lo9, Ev.p_lo10, Ev.p_lo11, Ev.p_lo12, Ev.p_lo13, Ev.p_lo14, Ev.p_lo15, Ev.p_lo16, Ev.p_lo17, Ev.p_lo18, Ev.p_lo19, Ev.p_lo20, Ev.p_lo21, Ev.p_lo22, Ev.p_lo23, Ev.p_lo24, Ev.p_p18, Ev.p_p40, Ev.p_lpN, Ev.p_lpC, Ev.p_lpB, Ev.p_lpR, Ev.p_for, Ev.p_whT, Ev.p_whF, Ev.p_lc, Ev.p_callAr, Ev.p_callO1, Ev.p_callO2, Ev.p_refV, Ev.p_refR, Ev.p_ref0, Ev.p_ga, Ev.p_ga0, Ev.p_gaO, Ev.p_gaV, Ev.p_gaR, Ev.p_leF, Ev.p_leL, Ev.p_leO, Ev.p_leN, Ev.p_sc, Ev.p_sc0, Ev.p_scN, Ev.p_scFs, Ev.p_scLs, Ev.p_scOn, Ev.p_scOl, Ev.p_scNn, Ev.p_scNl, Ev.p_fiR, Ev.p_fiV, Ev.p_fi0, Ev.fin_rt, Ev.fin_nx, Ev.ou_ln, Ev.ou_fz, Ev.ou_0, Ev.at_0, Ev.at_1, Ev.at_2, Ev.at_3, Ev.p_lenS, Ev.p_lenO, Ev.p_ex, Ev.p_raise, Ev.p_kRz, Ev.p_try, Ev.p_tryok, Ev.p_tryex, Ev.p_tryT, Ev.p_kTr, Ev.p_wip1, Ev.p_wipU, Ev.p_wipF, Ev.p_wip0, Ev.p_wipR, Ev.p_lam, Ev.p_frz0, Ev.p_frz, Ev.p_gdF, Ev.p_gdLf, Ev.p_gdO, Ev.p_gdL, Ev.p_kFr, Ev.p_kLam, Ev.p_lamO, Ev.p_coOk, Ev.p_coOl, Ev.p_coEx, Ev.p_fsF, Ev.p_fsL, Ev.p_fsO, Ev.p_fsN, Ev.p_fsU, Ev.p_clo, Ev.p_cloO, Ev.p_coDk, Ev.p_coDx, Ev.ou_cl, Ev.p_setC, Ev.p_callO2x, Ev.p_callV, Ev.p_kCV, Ev.p_runV, Ev.p_kRV, Ev.p_isX, Ev.p_isoE, Ev.p_isoN, Ev.p_tst, Ev.p_fld, Ev.p_fl1, Ev.p_setK, Ev.p_kLp, Ev.p_maxL, Ev.p_maxT, Ev.p_max, Ev.p_min, Ev.p_bits, Ev.p_zipL, Ev.p_zipT, Ev.p_zipA, Ev.p_zipB, Ev.p_dnuT, Ev.p_dnum, Ev.p_join, Ev.p_kJ1, Ev.p_kJ2, Ev.p_slA, Ev.p_kSa1, Ev.p_kSa2, Ev.p_kSa3, Ev.p_raise2, Ev.p_kRz2, Ev.p_lk1, Ev.p_lk2, Ev.p_omap, Ev.p_fldO, Ev.p_fldS, Ev.p_ofld, Ev.p_gFld, Ev.p_fo0, Ev.p_fo1, Ev.p_fo2, Ev.p_fo3, Ev.p_fo4, Ev.p_fo5, Ev.p_fo6, Ev.p_fo7, Ev.p_fo8, Ev.p_fo9, Ev.p_fo10, Ev.p_fo11, Ev.p_putO, Ev.p_put0, Ev.p_put1, Ev.p_put2, Ev.p_make, Ev.p_kMk, Ev.p_mkO, Ev.p_mkEnd, Ev.p_mkEx, Ev.p_mkSl, Ev.p_mkSf, Ev.p_bisO, Ev.p_star, Ev.p_kSt1, Ev.p_kSt2, Ev.p_kSt3, Ev.p_ds2L, Ev.p_ds2T, Ev.p_ext, Ev.p_nn, Ev.p_nI, Ev.p_nO, Ev.p_nT, Ev.p_nL, Ev.p_nS, Ev.p_bn1, Ev.p_bn2, Ev.p_chT, Ev.p_kCh1, Ev.p_kCh2, Ev.p_kCh3t, Ev.p_kCh3f, Ev.p_kCh4, Ev.p_take0, Ev.p_takeS, Ev.p_dct, Ev.p_kDc1, Ev.p_kDc2, Ev.p_mkDct, Ev.p_dget, Ev.p_dgO, Ev.p_kDg1, Ev.p_getT, Ev.p_gtO, Ev.p_dput, Ev.p_dPut1, Ev.p_dpO, Ev.p_kDp2, Ev.p_putT, Ev.p_items, Ev.p_itemsT, Ev.p_lc2, Ev.p_evEx, Ev.p_ex1, Ev.p_ex2, Ev.p_ex2s, Ev.p_isVE, Ev.p_neW, Ev.p_sort, Ev.p_notB, Ev.p_rev, Ev.p_bind, Ev.q_ok, List.getElem?_cons_zero, List.getElem?_cons_succ, List.set_cons_zero, List.set_cons_succ, List.length_cons, List.length_nil, List.cons_append, List.nil_append, Option.map_some, ↓reduceIte, Bool.not_true, Bool.not_false, decide_true, decide_false, Ev.p_div, Ev.p_mod, Ev.p_pow, Ev.p_mul, Ev.dist, List.contains_cons, List.contains_nil, Bool.or_false, Bool.false_and, Bool.and_true, Bool.true_and, Nat.reduceAdd, Nat.reduceBEq, Ev.permN, Ev.perm, List.map_cons, List.map_nil, List.getD_cons_zero, List.getD_cons_succ, and_self, cond_true, cond_false, Int.cast_ofNat_Int, Int.natCast_one, Int.natCast_zero, Int.reduceEq, Int.reduceLE, Int.reduceLT, Int.reduceNeg, Int.reduceGT, Int.reduceAdd, Int.reduceMul, Int.reduceSub, Int.reduceToNat, Int.reducePow, Int.reduceNe, reduceCtorEq, eq_self, Nat.reduceBEq, $xs,*])
theorem iD_at {k : List Nat} {j : Nat} {d : D} (h : (k.map iD)[j]? = some d) : ∃ hj : j < k.length, d = .int (k[j] : Nat) := by
  rw [List.getElem?_map] at h
  obtain ⟨n, hn, rfl⟩ := Option.map_eq_some_iff.mp h
  obtain ⟨hj, rfl⟩ := List.getElem?_eq_some_iff.mp hn
  exact ⟨hj, rfl⟩
theorem pf_take {k : List Nat} {j : Nat} (h : j < k.length) : pf (k.take (j + 1)) = pf (k.take j) * fac k[j] := by
  rw [List.take_succ, pf_app, List.getElem?_eq_getElem h]
  show pf (k.take j) * (fac k[j] * 1) = _
  rw [Nat.mul_one]
theorem pf_take_le (k : List Nat) (j : Nat) : pf (k.take j) ≤ pf k := by
  have e : pf k = pf (k.take j) * pf (k.drop j) := by rw [← pf_app, List.take_append_drop]
  rw [e]
  exact Nat.le_mul_of_pos_right _ (pf_pos _)
theorem weight_in_sp (k : List Nat) (h1 : 1 ≤ k.length) (h5 : k.length ≤ 5) (hs : k.sum + (k.length - 1) ≤ 1300) (hb : fac (k.length - 1) * pf k < 2 ^ 8900) : m_weight_in [.fz (.tup (k.map iD))] = .ok (.fz (num (wG k.length k))) [.fz (.tup (k.map iD))] := by
  have e0 := factorial_sp (k.length - 1) (by omega)
  have e1 := factorial_sp (k.sum + (k.length - 1)) hs
  have ll : (k.map iD).length = k.length := List.length_map ..
  have c0 : (k.length : Int) - 1 = ((k.length - 1 : Nat) : Int) := by omega
  have c1 : ((k.sum : Nat) : Int) + (k.length : Int) - 1 = ((k.sum + (k.length - 1) : Nat) : Int) := by omega
  have w : Fw (m_weight_in [.fz (.tup (k.map iD))]) fun r os => r = .fz (num (wG k.length k)) ∧ os = [.fz (.tup (k.map iD))] := by
    refine fw_fin ?_
    change Wq (b_weight_in [.fz (.tup (k.map iD)), .un, .un]) _
    unfold b_weight_in
    simp! [ll, c0, e0, dSeq]
    rw [q_bind]
    refine for_idx (k.map iD) (I := fun j ρ => ∃ x2, ρ = [.fz (.tup (k.map iD)), .fz (.int (fac (k.length - 1) * pf (k.take j) : Nat)), x2] ∧ setOk x2 = true) (fun j d ρ hd hI => ?_) (fun ρ hI => ?_) _ ⟨.un, by show _ = [_, Sl.fz (D.int ((fac (k.length - 1) * 1 : Nat) : Int)), _]; rw [Nat.mul_one], rfl⟩
    · obtain ⟨x2, rfl, z2⟩ := hI
      obtain ⟨hj, rfl⟩ := iD_at hd
      have kj : k[j] ≤ k.sum := le_sum k k[j] (List.getElem_mem hj)
      have e2 := factorial_sp k[j] (by omega)
      have p1 := Nat.mul_le_mul_left (fac (k.length - 1)) (pf_take_le k j)
      have mo : mulOk ((fac (k.length - 1) * pf (k.take j) : Nat) : Int) (fac k[j] : Nat) = true := mulOk_of (a := 8900) (b := 11700) (by rw [Int.natAbs_natCast]; exact Nat.lt_of_le_of_lt p1 hb) (by rw [Int.natAbs_natCast]; exact fac_lt (by omega)) (by decide)
      simp! [p_setK _ _ z2, e2, mo]
      refine ⟨.fz (.int (k[j] : Nat)), ?_, rfl⟩
      rw [pf_take hj, ← Int.natCast_mul, Nat.mul_assoc]
    · obtain ⟨x2, rfl, z2⟩ := hI
      have p0 := Nat.mul_pos (fac_pos (k.length - 1)) (pf_pos k)
      have f0 := fac_pos (k.sum + (k.length - 1))
      have el := lowest_sp ((fac (k.length - 1) * pf k : Nat) : Int) (fac (k.sum + (k.length - 1)) : Nat) (by omega) (by
        rw [Int.gcd_comm]
        exact gcd_log2 (by omega) (by rw [Int.natAbs_natCast]; exact hb) (by decide))
      rw [ll, List.take_length]
      have st := sumT_nat k
      have el : m_lowest [.fz (.int ((fac (k.length - 1) * pf k : Nat) : Int)), .fz (.int (fac (k.sum + (k.length - 1)) : Nat))] = .ok (.fz (num (wG k.length k))) [.fz (.int ((fac (k.length - 1) * pf k : Nat) : Int)), .fz (.int (fac (k.sum + (k.length - 1)) : Nat))] := el
      simp! [st, ll, c1, e1, el]
      (refine ⟨by decide, ?_⟩; first | trivial | exact ⟨rfl, trivial⟩ | exact rfl)
  obtain ⟨_, _, e, rfl, rfl⟩ := w
  exact e
theorem inL_low (x : Int) (h : 0 ≤ x) : m_is_within [.fz (.int x), .fz (.int 0), .fz .non] = .ok (.fz (.bl true)) [.fz (.int x), .fz (.int 0), .fz .non] := by
  have := is_within_sp (.int x) .int rfl (some 0) none
  rw [show inB (.int x) (some 0) none = true by
    show (decide ((0 : Int) ≤ x) && true) = true
    rw [decide_eq_true h]
    rfl] at this
  exact this
/-- counts as they are handed in -/
def CntD (d : D) (k : List Nat) : Prop := d = .lst (k.map iD) ∨ d = .tup (k.map iD)
theorem counts_sp {d : D} {k : List Nat} (hd : CntD d k) (h1 : 1 ≤ k.length) (h5 : k.length ≤ 5) : m_need_counts [.fz d, .fz (.str "counts")] = .ok (.fz (.tup (k.map iD))) [.fz d, .fz (.str "counts")] := by
  have ll : (k.map iD).length = k.length := List.length_map ..
  have e1 : m_is_list [.fz d] = .ok (.fz (.bl true)) [.fz d] := by rcases hd with rfl | rfl <;> exact is_list_sp _ _ rfl
  have k1 : dLen d = some k.length := by rw [← ll]; rcases hd with rfl | rfl <;> rfl
  have k2 : dSeq d = some (k.map iD) := by rcases hd with rfl | rfl <;> rfl
  have k3 : bTuple [d] = some (.fz (.tup (k.map iD))) := by rcases hd with rfl | rfl <;> rfl
  have ew := is_within_sp (.int (k.length : Nat)) .int rfl (some 1) (some 5)
  rw [show inB (.int (k.length : Nat)) (some 1) (some 5) = true by
    show (decide ((1 : Int) ≤ (k.length : Nat)) && decide (((k.length : Nat) : Int) ≤ 5)) = true
    rw [decide_eq_true (by omega), decide_eq_true (by omega)]
    rfl] at ew
  have ew : m_is_within [.fz (.int (k.length : Nat)), .fz (.int 1), .fz (.int 5)] = .ok (.fz (.bl true)) [.fz (.int (k.length : Nat)), .fz (.int 1), .fz (.int 5)] := ew
  have tt : truth (.bl true) = some true := rfl
  have ea : bAll [.lst ((k.map iD).filterMap fun _ => some (.bl true))] = some (.fz (.bl true)) := by
    show (allBl _).map _ = _
    rw [allBl_map (fun _ => true), Option.map_some, List.all_map, List.all_eq_true.mpr]
    intro x _
    rfl
  refine fr_of (ρ := [.fz d, .fz (.str "counts"), .un]) ?_ (by simp)
  change b_need_counts [.fz d, .fz (.str "counts"), .un] = _
  unfold b_need_counts
  simp! [e1, tt, k1, ew, k2]
  rw [lc_eq (fun _ => some (.bl true)) rfl (by omega) (fun x hx => ?_)]
  · simp! [ea, tt, k3]
  · obtain ⟨n, _, rfl⟩ := List.mem_map.mp hx
    have e2 := inL_low (n : Int) (by omega)
    unfold iD
    simp! [wipeR, e2]
theorem lmax_le : ∀ (l : List Nat), l ≠ [] → ∃ m : Nat, lmax (l.map fun n : Nat => (n : Int)) = some (m : Int) ∧ m ∈ l
  | [], h => absurd rfl h
  | n :: l, _ => by
    obtain ⟨h, _, _⟩ := foldl_max (l.map fun n : Nat => (n : Int)) (n : Int)
    rcases h with h | h
    · exact ⟨n, by show some (List.foldl max (n : Int) (l.map fun n : Nat => (n : Int))) = _; rw [h], List.mem_cons_self⟩
    · obtain ⟨m, hm, e⟩ := List.mem_map.mp h
      exact ⟨m, by show some (List.foldl max (n : Int) (l.map fun n : Nat => (n : Int))) = _; rw [← e], List.mem_cons_of_mem _ hm⟩
theorem even_weight_sp {d : D} {k : List Nat} (hd : CntD d k) (h1 : 1 ≤ k.length) (h5 : k.length ≤ 5) (hs : k.sum + (k.length - 1) ≤ 1300) (hb : fac (k.length - 1) * pf k < 2 ^ 8900) (hm : ∀ n ∈ k, n ≤ 1000) :
    m_even_weight [.fz d] = .ok (.fz (num (wG k.length k))) [.fz d] := by
  have e1 := counts_sp hd h1 h5
  have e2 := weight_in_sp k h1 h5 hs hb
  obtain ⟨m, em, hmm⟩ := lmax_le k (by intro z; rw [z] at h1; simp at h1)
  have e3 : bMax [.tup (k.map iD)] = some (.fz (.int m)) := by
    rw [p_maxT, allI_nat]
    show (lmax (k.map fun n : Nat => (n : Int))).map _ = _
    rw [em]
    rfl
  have m0 : ¬ ((m : Int) > 1000) := by have := hm m hmm; omega
  refine fr_of (ρ := [.fz d, .fz (.tup (k.map iD))]) ?_ (by simp)
  change b_even_weight [.fz d, .un] = _
  unfold b_even_weight
  simp! [e1, e3, decide_eq_false m0, e2]
end K70

namespace K70
open PySem PySem.Spec PyProof.Rows L2 Ev
local macro_rules | `(tactic| simp! [$xs,*]) => `(tactic| simp only [Ev.p_pure, Ev.p_ok, Ev.p_toD, Ev.p_kDf, Ev.p_kDn, Ev.p_toV, Ev.p_kV, Ev.p_some, Ev.p_var, Ev.p_varF, Ev.p_varL, Ev.p_varO, Ev.p_varN, Ev.p_mov, Ev.p_movF, Ev.p_movL, Ev.p_movO, Ev.p_movN, Ev.p_ev2, Ev.p_k2, Ev.p_k2', Ev.p_ev2T, Ev.p_kT, Ev.p_kT', Ev.p_vb, Ev.p_ev1, Ev.p_evC, Ev.p_evL, Ev.p_evO, Ev.p_evSeq, Ev.p_tTruth, Ev.p_kf, Ev.p_cons, Ev.p_vcons, Ev.p_acons, Ev.p_kC1, Ev.p_kC2, Ev.p_arV, Ev.p_kAr, Ev.p_arR, Ev.p_arF, Ev.p_arOw, Ev.p_arN, Ev.p_arL, Ev.p_call, Ev.p_kL1, Ev.p_kL2, Ev.p_if, Ev.p_kIt, Ev.p_kIf, Ev.p_tAnd, Ev.p_tOr, Ev.p_tNot, Ev.p_kN, Ev.p_and, Ev.p_kA, Ev.p_or, Ev.p_kO, Ev.p_not, Ev.p_kNt, Ev.p_ixS, Ev.p_ixO, Ev.p_kX, Ev.p_kXO, Ev.p_slotD, Ev.p_slF, Ev.p_slO, Ev.p_slN, Ev.p_slL, Ev.p_seq, Ev.p_kSn, Ev.p_kSr, Ev.p_kSb, Ev.p_kSc, Ev.p_slot, Ev.p_setU, Ev.p_setF, Ev.p_setO, Ev.p_ofF, Ev.p_ofN, Ev.p_kNx, Ev.p_set, Ev.p_kSet, Ev.p_ret, Ev.p_kRt, Ev.p_expr, Ev.p_kEx, Ev.p_par, Ev.p_kPar, Ev.p_kSs, Ev.p_ss0, Ev.p_ss, Ev.p_asg, Ev.p_kAsg, Ev.p_unp, Ev.p_gs, Ev.p_kG, Ev.p_gs0, Ev.p_gIx, Ev.p_gIO, Ev.p_kUp, Ev.p_upd, Ev.p_upO, Ev.p_upN, Ev.p_upDt, Ev.p_upDf, Ev.p_put, Ev.p_mut, Ev.p_mutO, Ev.p_kNon, Ev.p_kM1, Ev.p_app, Ev.p_sl, Ev.p_kSl1, Ev.p_kSl2, Ev.p_kSl3, Ev.p_add, Ev.p_addL, Ev.p_i2, Ev.p_u1, Ev.p_lt, Ev.p_le, Ev.p_gt, Ev.p_ge, Ev.p_eqI, Ev.p_neI, Ev.p_eqS, Ev.p_neS, Ev.p_isB, Ev.p_isN, Ev.p_notN, Ev.p_tup, Ev.p_lst, Ev.p_abs, Ev.p_intI, Ev.p_intB, Ev.p_len, Ev.p_dlL, Ev.p_dlT, Ev.p_itL, Ev.p_itT, Ev.p_d, Ev.p_dn, Ev.p_rng1, Ev.p_rng2, Ev.p_lo0, Ev.p_lo1, Ev.p_lo2, Ev.p_lo3, Ev.p_lo4, Ev.p_lo5, Ev.p_lo6, Ev.p_lo7, Ev.p_lo8, Ev.p_lo9, Ev.p_lo10, Ev.p_lo11, Ev.p_lo12, Ev.p_lo13, Ev.p_lo14, Ev.p_lo15, Ev.p_lo16, Ev.p_lo17, Ev.p_lo18, Ev.p_lo19, Ev.p_lo20, Ev.p_lo21, Ev.p_lo22, Ev.p_lo23, Ev.p_lo24, Ev.p_p18, Ev.p_p40, Ev.p_lpN, Ev.p_lpC, Ev.p_lpB, Ev.p_lpR, Ev.p_for, Ev.p_whT, Ev.p_whF, Ev.p_lc, Ev.p_callAr, Ev.p_callO1, Ev.p_callO2, Ev.p_refV, Ev.p_refR, Ev.p_ref0, Ev.p_ga, Ev.p_ga0, Ev.p_gaO, Ev.p_gaV, Ev.p_gaR, Ev.p_leF, Ev.p_leL, Ev.p_leO, Ev.p_leN, Ev.p_sc, Ev.p_sc0, Ev.p_scN, Ev.p_scFs, Ev.p_scLs, Ev.p_scOn, Ev.p_scOl, Ev.p_scNn, Ev.p_scNl, Ev.p_fiR, Ev.p_fiV, Ev.p_fi0, Ev.fin_rt, Ev.fin_nx, Ev.ou_ln, Ev.ou_fz, Ev.ou_0, Ev.at_0, Ev.at_1, Ev.at_2, Ev.at_3, Ev.p_lenS, Ev.p_lenO, Ev.p_ex, Ev.p_raise, Ev.p_kRz, Ev.p_try, Ev.p_tryok, Ev.p_tryex, Ev.p_tryT, Ev.p_kTr, Ev.p_wip1, Ev.p_wipU, Ev.p_wipF, Ev.p_wip0, Ev.p_wipR, Ev.p_lam, Ev.p_frz0, Ev.p_frz, Ev.p_gdF, Ev.p_gdLf, Ev.p_gdO, Ev.p_gdL, Ev.p_kFr, Ev.p_kLam, Ev.p_lamO, Ev.p_coOk, Ev.p_coOl, Ev.p_coEx, Ev.p_fsF, Ev.p_fsL, Ev.p_fsO, Ev.p_fsN, Ev.p_fsU, Ev.p_clo, Ev.p_cloO, Ev.p_coDk, Ev.p_coDx, Ev.ou_cl, Ev.p_setC, Ev.p_callO2x, Ev.p_callV, Ev.p_kCV, Ev.p_runV, Ev.p_kRV, Ev.p_isX, Ev.p_isoE, Ev.p_isoN, Ev.p_tst, Ev.p_fld, Ev.p_fl1, Ev.p_setK, Ev.p_kLp, Ev.p_maxL, Ev.p_maxT, Ev.p_max, Ev.p_min, Ev.p_bits, Ev.p_zipL, Ev.p_zipT, Ev.p_zipA, Ev.p_zipB, Ev.p_dnuT, Ev.p_dnum, Ev.p_join, Ev.p_kJ1, Ev.p_kJ2, Ev.p_slA, Ev.p_kSa1, Ev.p_kSa2, Ev.p_kSa3, Ev.p_raise2, Ev.p_kRz2, Ev.p_lk1, Ev.p_lk2, Ev.p_omap, Ev.p_fldO, Ev.p_fldS, Ev.p_ofld, Ev.p_gFld, Ev.p_fo0, Ev.p_fo1, Ev.p_fo2, Ev.p_fo3, Ev.p_fo4, Ev.p_fo5, Ev.p_fo6, Ev.p_fo7, Ev.p_fo8, Ev.p_fo9, Ev.p_fo10, Ev.p_fo11, Ev.p_putO, Ev.p_put0, Ev.p_put1, Ev.p_put2, Ev.p_make, Ev.p_kMk, Ev.p_mkO, Ev.p_mkEnd, Ev.p_mkEx, Ev.p_mkSl, Ev.p_mkSf, Ev.p_bisO, Ev.p_star, Ev.p_kSt1, Ev.p_kSt2, Ev.p_kSt3, Ev.p_ds2L, Ev.p_ds2T, Ev.p_ext, Ev.p_nn, Ev.p_nI, Ev.p_nO, Ev.p_nT, Ev.p_nL, Ev.p_nS, Ev.p_bn1, Ev.p_bn2, Ev.p_chT, Ev.p_kCh1, Ev.p_kCh2, Ev.p_kCh3t, Ev.p_kCh3f, Ev.p_kCh4, Ev.p_take0, Ev.p_takeS, Ev.p_dct, Ev.p_kDc1, Ev.p_kDc2, Ev.p_mkDct, Ev.p_dget, Ev.p_dgO, Ev.p_kDg1, Ev.p_getT, Ev.p_gtO, Ev.p_dput, Ev.p_dPut1, Ev.p_dpO, Ev.p_kDp2, Ev.p_putT, Ev.p_items, Ev.p_itemsT, Ev.p_lc2, Ev.p_evEx, Ev.p_ex1, Ev.p_ex2, Ev.p_ex2s, Ev.p_isVE, Ev.p_neW, Ev.p_sort, Ev.p_notB, Ev.p_rev, Ev.p_bind, Ev.q_ok, List.getElem?_cons_zero, List.getElem?_cons_succ, List.set_cons_zero, List.set_cons_succ, List.length_cons, List.length_nil, List.cons_append, List.nil_append, Option.map_some, ↓reduceIte, Bool.not_true, Bool.not_false, decide_true, decide_false, Ev.p_div, Ev.p_mod, Ev.p_pow, Ev.p_mul, Ev.dist, List.contains_cons, List.contains_nil, Bool.or_false, Bool.false_and, Bool.and_true, Bool.true_and, Nat.reduceAdd, Nat.reduceBEq, Ev.permN, Ev.perm, List.map_cons, List.map_nil, List.getD_cons_zero, List.getD_cons_succ, and_self, cond_true, cond_false, Int.cast_ofNat_Int, Int.natCast_one, Int.natCast_zero, Int.reduceEq, Int.reduceLE, Int.reduceLT, Int.reduceNeg, Int.reduceGT, Int.reduceAdd, Int.reduceMul, Int.reduceSub, Int.reduceToNat, Int.reducePow, Int.reduceNe, reduceCtorEq, eq_self, Nat.reduceBEq, $xs,*])
def sumR (r : Rat) : List Rat → Rat
  | [] => r
  | q :: l => sumR (r + q) l
theorem sumR_div (S : Nat) (hS : 0 < S) : ∀ (c : List Nat) (a : Nat), sumR (Rat.divInt a S) (c.map fun n : Nat => Rat.divInt n S) = Rat.divInt (a + c.sum : Nat) S
  | [], a => rfl
  | n :: c, a => by
    show sumR (Rat.divInt a S + Rat.divInt n S) (c.map fun n : Nat => Rat.divInt n S) = _
    rw [show Rat.divInt (a : Int) S + Rat.divInt n S = Rat.divInt ((a + n : Nat) : Int) S by rw [Int.natCast_add, Rat.divInt_add_divInt _ _ (by omega) (by omega), ← Int.add_mul, Rat.divInt_mul_right (by omega)], sumR_div S hS c (a + n), List.sum_cons, Nat.add_assoc]
theorem sumR_from : ∀ (l : List Rat) (r : Rat), sumR r l = r + sumR 0 l
  | [], r => by show r = r + 0; grind
  | x :: l, r => by
    show sumR (r + x) l = r + sumR (0 + x) l
    rw [sumR_from l (r + x), sumR_from l (0 + x)]
    grind
theorem sumR_cons (x : Rat) (l : List Rat) : sumR 0 (x :: l) = x + sumR 0 l := by
  show sumR (0 + x) l = _
  rw [sumR_from]
  grind
theorem sumR_nil : sumR 0 [] = 0 := rfl
theorem sumR_app (l r : List Rat) : sumR 0 (l ++ r) = sumR 0 l + sumR 0 r := by
  induction l with
  | nil => rw [List.nil_append, sumR_nil]; grind
  | cons x l ih => rw [List.cons_append, sumR_cons, sumR_cons, ih]; grind
theorem sumR_flat {α : Type} (F : α → List Rat) (l : List α) : sumR 0 (l.flatMap F) = sumR 0 (l.map fun x => sumR 0 (F x)) := by
  induction l with
  | nil => rfl
  | cons x l ih => rw [List.flatMap_cons, sumR_app, List.map_cons, sumR_cons, ih]
theorem sumR_mul {α : Type} (k : Rat) (F : α → Rat) (l : List α) : sumR 0 (l.map fun x => k * F x) = k * sumR 0 (l.map F) := by
  induction l with
  | nil => rw [List.map_nil, List.map_nil, sumR_nil]; grind
  | cons x l ih => rw [List.map_cons, List.map_cons, sumR_cons, sumR_cons, ih]; grind
def wds (g : Nat) : Nat → List (List Nat)
  | 0 => [[]]
  | n + 1 => (wds g n).flatMap fun w => (List.range g).map fun c => w ++ [c]
theorem wds_mem {g : Nat} : ∀ {n : Nat} {w : List Nat}, w ∈ wds g n → w.length = n ∧ ∀ c ∈ w, c < g
  | 0, w, h => by
    rcases List.mem_cons.mp h with rfl | h
    · exact ⟨rfl, fun c hc => by cases hc⟩
    · cases h
  | n + 1, w, h => by
    obtain ⟨v, hv, h⟩ := List.mem_flatMap.mp h
    obtain ⟨c, hc, rfl⟩ := List.mem_map.mp h
    obtain ⟨h1, h2⟩ := wds_mem hv
    refine ⟨by rw [List.length_append, h1]; rfl, fun x hx => ?_⟩
    rcases List.mem_append.mp hx with hx | hx
    · exact h2 x hx
    · rw [List.mem_singleton.mp hx]
      exact List.mem_range.mp hc
theorem wds_len (g : Nat) : ∀ n : Nat, (wds g n).length = g ^ n
  | 0 => rfl
  | n + 1 => by
    have key : ∀ l : List (List Nat), (l.flatMap fun w => (List.range g).map fun c => w ++ [c]).length = l.length * g := fun l => by
      induction l with
      | nil => simp
      | cons x l ih => rw [List.flatMap_cons, List.length_append, ih, List.length_map, List.length_range, List.length_cons, Nat.add_mul]; omega
    show ((wds g n).flatMap _).length = _
    rw [key, wds_len g n, Nat.pow_succ]
/-! ### the law's fractions -/
def P (q : Rat) : D := .tup [.int q.num, .int q.den]
theorem gcd_low {a b : Int} {k : Nat} (h : (a ≠ 0 ∧ a.natAbs < 2 ^ k) ∨ (b ≠ 0 ∧ b.natAbs < 2 ^ k)) (hk : k < 9000) : (Int.gcd a b).log2 < 9000 := by
  rcases h with ⟨a0, ha⟩ | ⟨b0, hb⟩
  · rw [Int.gcd_comm]; exact gcd_log2 a0 ha hk
  · exact gcd_log2 b0 hb hk
theorem llow_sp (a b : Int) (hb : 0 < b) (hs : (Int.gcd a b).log2 < 9000) : m_law_low [.fz (.int a), .fz (.int b)] = .ok (.fz (P (Rat.divInt a b))) [.fz (.int a), .fz (.int b)] := by
  have w : Fw (m_law_low [.fz (.int a), .fz (.int b)]) fun r os => r = .fz (P (Rat.divInt a b)) ∧ os = [.fz (.int a), .fz (.int b)] := by
    refine fw_fin ?_
    change Wq (b_law_low [.fz (.int a), .fz (.int b), .un, .un]) _
    unfold b_law_low
    simp! []
    have ea : (if a < 0 then -a else a) = (a.natAbs : Int) := by split <;> omega
    have eb : (if b < 0 then -b else b) = (b.natAbs : Int) := by split <;> omega
    rw [ea, eb, q_bind]
    refine while_inv (I := fun n ρ => ∃ x y : Int, ρ = [.fz (.int a), .fz (.int b), .fz (.int x), .fz (.int y)] ∧ 0 ≤ x ∧ 0 ≤ y ∧ n = y.toNat ∧ Int.gcd x y = Int.gcd a b) (fun n ρ h => ?_) b.toNat _ ⟨_, _, rfl, Int.natCast_nonneg _, Int.natCast_nonneg _, by omega, by unfold Int.gcd; rw [Int.natAbs_natCast, Int.natAbs_natCast]⟩
    obtain ⟨x, y, rfl, hx, hy, rfl, hg⟩ := h
    by_cases h : y = 0
    · subst h
      have hx2 : x = (Int.gcd a b : Int) := by
        rw [← hg]
        simp [Int.gcd]
        omega
      subst hx2
      have g0 := gcd_pos (a := a) (b := b) (by omega)
      have dg : divOk (Int.gcd a b) = true := by
        unfold divOk
        rw [decide_eq_true (show ((Int.gcd a b : Nat) : Int) ≠ 0 by omega), Int.natAbs_natCast, decide_eq_true hs]
        rfl
      obtain ⟨l1, l2⟩ := low_pos a b hb
      simp! [dg, l1, l2, decide_eq_true hb]
      (refine ⟨by decide, ?_⟩; first | trivial | exact ⟨rfl, trivial⟩ | exact rfl)
    · simp! [decide_eq_true (show 0 < y by omega), p_mod x y h]
      refine ⟨(x.fmod y).toNat, ?_, _, _, rfl, hy, ?_, rfl, ?_⟩
      · rw [Int.fmod_eq_emod_of_nonneg x hy]
        have := Int.emod_lt_of_pos x (show 0 < y by omega)
        have := Int.emod_nonneg x h
        omega
      · rw [Int.fmod_eq_emod_of_nonneg x hy]
        exact Int.emod_nonneg x h
      · rw [gcd_step x y hx (by omega), hg]
  obtain ⟨_, _, e, rfl, rfl⟩ := w
  exact e
theorem ltimes_sp (a b c d : Int) (hb : 0 < b) (hd : 0 < d) {j k : Nat} (hj : j + k < 100000) (h1 : a.natAbs < 2 ^ j) (h2 : c.natAbs < 2 ^ k) (h3 : b.natAbs < 2 ^ j) (h4 : d.natAbs < 2 ^ k) (hs : (Int.gcd (a * c) (b * d)).log2 < 9000) :
    m_law_times [.fz (.tup [.int a, .int b]), .fz (.tup [.int c, .int d])] = .ok (.fz (P (Rat.divInt (a * c) (b * d)))) [.fz (.tup [.int a, .int b]), .fz (.tup [.int c, .int d])] := by
  have e := llow_sp (a * c) (b * d) (Int.mul_pos hb hd) hs
  have m1 : mulOk a c = true := mulOk_of h1 h2 (by omega)
  have m2 : mulOk b d = true := mulOk_of h3 h4 (by omega)
  refine fr_of (ρ := [.fz (.tup [.int a, .int b]), .fz (.tup [.int c, .int d])]) ?_ (by simp)
  change b_law_times [.fz (.tup [.int a, .int b]), .fz (.tup [.int c, .int d])] = _
  unfold b_law_times
  simp! [m1, m2, e]
theorem lplus_sp {k : Nat} {p q : Rat} (hk : k < 50000) (p1 : p.num.natAbs < 2 ^ k) (p2 : p.den < 2 ^ k) (q1 : q.num.natAbs < 2 ^ k) (q2 : q.den < 2 ^ k) (hs : (Int.gcd (p.num * q.den + q.num * p.den) (p.den * q.den)).log2 < 9000) :
    m_law_plus [.fz (P p), .fz (P q)] = .ok (.fz (P (p + q))) [.fz (P p), .fz (P q)] := by
  have pd := p.den_pos
  have qd := q.den_pos
  have e := llow_sp (p.num * q.den + q.num * p.den) (p.den * q.den) (Int.mul_pos (by omega) (by omega)) hs
  have e4 : Rat.divInt (p.num * q.den + q.num * p.den) (p.den * q.den) = p + q := by
    rw [Rat.add_def', ← Int.natCast_mul, Rat.divInt_ofNat]
  rw [e4] at e
  have dp : (p.den : Int).natAbs < 2 ^ k := by rw [Int.natAbs_natCast]; exact p2
  have dq : (q.den : Int).natAbs < 2 ^ k := by rw [Int.natAbs_natCast]; exact q2
  have m1 : mulOk p.num q.den = true := mulOk_of p1 dq (by omega)
  have m2 : mulOk q.num p.den = true := mulOk_of q1 dp (by omega)
  have m3 : mulOk p.den q.den = true := mulOk_of dp dq (by omega)
  refine fr_of (ρ := [.fz (P p), .fz (P q)]) ?_ (by simp)
  change b_law_plus [.fz (P p), .fz (P q)] = _
  unfold b_law_plus P
  simp! [m1, m2, m3, e]
  rfl
theorem lnumber_sp (q : Rat) : m_law_number [.fz (P q)] = .ok (.fz (num q)) [.fz (P q)] := by
  refine fr_of (ρ := [.fz (P q)]) ?_ (by simp)
  change b_law_number [.fz (P q)] = _
  unfold b_law_number P
  by_cases h : (q.den : Int) = 1
  · rw [num_of1 (show q.den = 1 by omega)]
    simp! [decide_eq_true h]
  · rw [num_ofN (show q.den ≠ 1 by omega)]
    simp! [decide_eq_false h]
/-- sizes of a fraction from 0 on -/
structure Sd (q : Rat) : Prop where
  p : 0 ≤ q.num
  n : q.num < 2 ^ 40
  d : q.den < 2 ^ 6000
theorem Sd.nn {q : Rat} (h : Sd q) : q.num.natAbs < 2 ^ 40 := by have := h.p; have := h.n; omega
theorem Sd.plus {p q : Rat} (hp : Sd p) (hq : Sd q) (q0 : 0 < q.num) : m_law_plus [.fz (P p), .fz (P q)] = .ok (.fz (P (p + q))) [.fz (P p), .fz (P q)] := by
  have h40 : 2 ^ 40 ≤ 2 ^ 6000 := Nat.pow_le_pow_right (by decide) (by decide)
  have pd := p.den_pos
  have qd := q.den_pos
  have a1 : (p.num * (q.den : Int)).natAbs < 2 ^ (40 + 6000) := by rw [Int.natAbs_mul]; exact mul_bits hp.nn (by rw [Int.natAbs_natCast]; exact hq.d)
  have a2 : (q.num * (p.den : Int)).natAbs < 2 ^ (40 + 6000) := by rw [Int.natAbs_mul]; exact mul_bits hq.nn (by rw [Int.natAbs_natCast]; exact hp.d)
  have n1 : 0 ≤ p.num * (q.den : Int) := Int.mul_nonneg hp.p (by omega)
  have n2 : 0 < q.num * (p.den : Int) := Int.mul_pos q0 (by omega)
  refine lplus_sp (k := 6000) (by decide) (Nat.lt_of_lt_of_le hp.nn h40) hp.d (Nat.lt_of_lt_of_le hq.nn h40) hq.d (gcd_low (k := 40 + 6000 + 1) (.inl ⟨by omega, ?_⟩) (by decide))
  rw [Nat.pow_succ]
  omega
theorem lsum_sp (l : List Rat) (hl : ∀ x ∈ l, Sd x ∧ 0 < x.num) (hp : ∀ j ≤ l.length, Sd (sumR 0 (l.take j))) (s s1 : Sl) (hs : (s = .fz (.lst (l.map P)) ∧ s1 = s) ∨ (s = .ln (.lst (l.map P)) ∧ s1 = .lf (.lst (l.map P)))) : m_law_sum [s] = .ok (.fz (P (sumR 0 l))) [s1] := by
  have w : Fw (m_law_sum [s]) fun r os => r = .fz (P (sumR 0 l)) ∧ os = [s1] := by
    refine fw_fin ?_
    change Wq (b_law_sum [s, .un, .un]) _
    unfold b_law_sum
    have p0 : D.tup [.int 0, .int 1] = P 0 := rfl
    have go : ∀ s' : Sl, (s' = s1) → Wq (loopD (fun d => setSlot 2 (.fz d)) (evSet 1 (evCall m_law_plus 2 (fun as _ => as) (arCons (arV (evVar 1)) (arCons (arV (evVar 2)) (mpure []))) (mpure []))) (l.map P) [s', .fz (P 0), .un]) fun f ρ => f = .nx ∧ ∃ x2, ρ = [s', .fz (P (sumR 0 l)), x2] := fun s' es => by
      refine for_idx (l.map P) (I := fun j ρ => ∃ x2, ρ = [s', .fz (P (sumR 0 (l.take j))), x2] ∧ setOk x2 = true) (fun j d ρ hd hI => ?_) (fun ρ hI => ?_) _ ⟨.un, rfl, rfl⟩
      · obtain ⟨x2, rfl, z2⟩ := hI
        rw [List.getElem?_map] at hd
        obtain ⟨q, hq, rfl⟩ := Option.map_eq_some_iff.mp hd
        obtain ⟨hj, rfl⟩ := List.getElem?_eq_some_iff.mp hq
        obtain ⟨s2, p2⟩ := hl _ (List.getElem_mem hj)
        have ep := (hp j (by omega)).plus s2 p2
        simp! [p_setK _ _ z2, ep]
        refine ⟨.fz (P l[j]), ?_, rfl⟩
        rw [List.take_succ, sumR_app, List.getElem?_eq_getElem hj]
        show _ = [s', Sl.fz (P (sumR 0 (l.take j) + sumR 0 [l[j]])), _]
        rw [show sumR 0 [l[j]] = 0 + l[j] from rfl, Rat.zero_add]
      · obtain ⟨x2, rfl, z2⟩ := hI
        rw [List.length_map, List.take_length]
        exact ⟨rfl, _, rfl⟩
    rcases hs with ⟨rfl, rfl⟩ | ⟨rfl, rfl⟩
    · simp! [p0, dSeq]
      rw [q_bind]
      refine Wq.mono (go _ rfl) ?_
      rintro f ρ ⟨rfl, x2, rfl⟩
      simp! []
      (refine ⟨by decide, ?_⟩; first | trivial | exact ⟨rfl, trivial⟩ | exact rfl)
    · simp! [p0, dSeq]
      rw [q_bind]
      refine Wq.mono (go _ rfl) ?_
      rintro f ρ ⟨rfl, x2, rfl⟩
      simp! []
      (refine ⟨by decide, ?_⟩; first | trivial | exact ⟨rfl, trivial⟩ | exact rfl)
  obtain ⟨_, _, e, rfl, rfl⟩ := w
  exact e
end K70

namespace K70
open PySem PySem.Spec PyProof.Rows L2 Ev
local macro_rules | `(tactic| simp! [$xs,*]) => `(tactic| simp only [Ev.p_pure, Ev.p_ok, Ev.p_toD, Ev.p_kDf, Ev.p_kDn, Ev.p_toV, Ev.p_kV, Ev.p_some, Ev.p_var, Ev.p_varF, Ev.p_varL, Ev.p_varO, Ev.p_varN, Ev.p_mov, Ev.p_movF, Ev.p_movL, Ev.p_movO, Ev.p_movN, Ev.p_ev2, Ev.p_k2, Ev.p_k2', Ev.p_ev2T, Ev.p_kT, Ev.p_kT', Ev.p_vb, Ev.p_ev1, Ev.p_evC, Ev.p_evL, Ev.p_evO, Ev.p_evSeq, Ev.p_tTruth, Ev.p_kf, Ev.p_cons, Ev.p_vcons, Ev.p_acons, Ev.p_kC1, Ev.p_kC2, Ev.p_arV, Ev.p_kAr, Ev.p_arR, Ev.p_arF, Ev.p_arOw, Ev.p_arN, Ev.p_arL, Ev.p_call, Ev.p_kL1, Ev.p_kL2, Ev.p_if, Ev.p_kIt, Ev.p_kIf, Ev.p_tAnd, Ev.p_tOr, Ev.p_tNot, Ev.p_kN, Ev.p_and, Ev.p_kA, Ev.p_or, Ev.p_kO, Ev.p_not, Ev.p_kNt, Ev.p_ixS, Ev.p_ixO, Ev.p_kX, Ev.p_kXO, Ev.p_slotD, Ev.p_slF, Ev.p_slO, Ev.p_slN, Ev.p_slL, Ev.p_seq, Ev.p_kSn, Ev.p_kSr, Ev.p_kSb, Ev.p_kSc, Ev.p_slot, Ev.p_setU, Ev.p_setF, Ev.p_setO, Ev.p_ofF, Ev.p_ofN, Ev.p_kNx, Ev.p_set, Ev.p_kSet, Ev.p_ret, Ev.p_kRt, Ev.p_expr, Ev.p_kEx, Ev.p_par, Ev.p_kPar, Ev.p_kSs, Ev.p_ss0, Ev.p_ss, Ev.p_asg, Ev.p_kAsg, Ev.p_unp, Ev.p_gs, Ev.p_kG, Ev.p_gs0, Ev.p_gIx, Ev.p_gIO, Ev.p_kUp, Ev.p_upd, Ev.p_upO, Ev.p_upN, Ev.p_upDt, Ev.p_upDf, Ev.p_put, Ev.p_mut, Ev.p_mutO, Ev.p_kNon, Ev.p_kM1, Ev.p_app, Ev.p_sl, Ev.p_kSl1, Ev.p_kSl2, Ev.p_kSl3, Ev.p_add, Ev.p_addL, Ev.p_i2, Ev.p_u1, Ev.p_lt, Ev.p_le, Ev.p_gt, Ev.p_ge, Ev.p_eqI, Ev.p_neI, Ev.p_eqS, Ev.p_neS, Ev.p_isB, Ev.p_isN, Ev.p_notN, Ev.p_tup, Ev.p_lst, Ev.p_abs, Ev.p_intI, Ev.p_intB, Ev.p_len, Ev.p_dlL, Ev.p_dlT, Ev.p_itL, Ev.p_itT, Ev.p_d, Ev.p_dn, Ev.p_rng1, Ev.p_rng2, Ev.p_lo0, Ev.p_lo1, Ev.p_lo2, Ev.p_lo3, Ev.p_lo4, Ev.p_lo5, Ev.p_lo6, Ev.p_lo7, Ev.p_lo8, Ev.p_lo9, Ev.p_lo10, Ev.p_lo11, Ev.p_lo12, Ev.p_lo13, Ev.p_lo14, Ev.p_lo15, Ev.p_lo16, Ev.p_lo17, Ev.p_lo18, Ev.p_lo19, Ev.p_lo20, Ev.p_lo21, Ev.p_lo22, Ev.p_lo23, Ev.p_lo24, Ev.p_p18, Ev.p_p40, Ev.p_lpN, Ev.p_lpC, Ev.p_lpB, Ev.p_lpR, Ev.p_for, Ev.p_whT, Ev.p_whF, Ev.p_lc, Ev.p_callAr, Ev.p_callO1, Ev.p_callO2, Ev.p_refV, Ev.p_refR, Ev.p_ref0, Ev.p_ga, Ev.p_ga0, Ev.p_gaO, Ev.p_gaV, Ev.p_gaR, Ev.p_leF, Ev.p_leL, Ev.p_leO, Ev.p_leN, Ev.p_sc, Ev.p_sc0, Ev.p_scN, Ev.p_scFs, Ev.p_scLs, Ev.p_scOn, Ev.p_scOl, Ev.p_scNn, Ev.p_scNl, Ev.p_fiR, Ev.p_fiV, Ev.p_fi0, Ev.fin_rt, Ev.fin_nx, Ev.ou_ln, Ev.ou_fz, Ev.ou_0, Ev.at_0, Ev.at_1, Ev.at_2, Ev.at_3, Ev.p_lenS, Ev.p_lenO, Ev.p_ex, Ev.p_raise, Ev.p_kRz, Ev.p_try, Ev.p_tryok, Ev.p_tryex, Ev.p_tryT, Ev.p_kTr, Ev.p_wip1, Ev.p_wipU, Ev.p_wipF, Ev.p_wip0, Ev.p_wipR, Ev.p_lam, Ev.p_frz0, Ev.p_frz, Ev.p_gdF, Ev.p_gdLf, Ev.p_gdO, Ev.p_gdL, Ev.p_kFr, Ev.p_kLam, Ev.p_lamO, Ev.p_coOk, Ev.p_coOl, Ev.p_coEx, Ev.p_fsF, Ev.p_fsL, Ev.p_fsO, Ev.p_fsN, Ev.p_fsU, Ev.p_clo, Ev.p_cloO, Ev.p_coDk, Ev.p_coDx, Ev.ou_cl, Ev.p_setC, Ev.p_callO2x, Ev.p_callV, Ev.p_kCV, Ev.p_runV, Ev.p_kRV, Ev.p_isX, Ev.p_isoE, Ev.p_isoN, Ev.p_tst, Ev.p_fld, Ev.p_fl1, Ev.p_setK, Ev.p_kLp, Ev.p_maxL, Ev.p_maxT, Ev.p_max, Ev.p_min, Ev.p_bits, Ev.p_zipL, Ev.p_zipT, Ev.p_zipA, Ev.p_zipB, Ev.p_dnuT, Ev.p_dnum, Ev.p_join, Ev.p_kJ1, Ev.p_kJ2, Ev.p_slA, Ev.p_kSa1, Ev.p_kSa2, Ev.p_kSa3, Ev.p_raise2, Ev.p_kRz2, Ev.p_lk1, Ev.p_lk2, Ev.p_omap, Ev.p_fldO, Ev.p_fldS, Ev.p_ofld, Ev.p_gFld, Ev.p_fo0, Ev.p_fo1, Ev.p_fo2, Ev.p_fo3, Ev.p_fo4, Ev.p_fo5, Ev.p_fo6, Ev.p_fo7, Ev.p_fo8, Ev.p_fo9, Ev.p_fo10, Ev.p_fo11, Ev.p_putO, Ev.p_put0, Ev.p_put1, Ev.p_put2, Ev.p_make, Ev.p_kMk, Ev.p_mkO, Ev.p_mkEnd, Ev.p_mkEx, Ev.p_mkSl, Ev.p_mkSf, Ev.p_bisO, Ev.p_star, Ev.p_kSt1, Ev.p_kSt2, Ev.p_kSt3, Ev.p_ds2L, Ev.p_ds2T, Ev.p_ext, Ev.p_nn, Ev.p_nI, Ev.p_nO, Ev.p_nT, Ev.p_nL, Ev.p_nS, Ev.p_bn1, Ev.p_bn2, Ev.p_chT, Ev.p_kCh1, Ev.p_kCh2, Ev.p_kCh3t, Ev.p_kCh3f, Ev.p_kCh4, Ev.p_take0, Ev.p_takeS, Ev.p_dct, Ev.p_kDc1, Ev.p_kDc2, Ev.p_mkDct, Ev.p_dget, Ev.p_dgO, Ev.p_kDg1, Ev.p_getT, Ev.p_gtO, Ev.p_dput, Ev.p_dPut1, Ev.p_dpO, Ev.p_kDp2, Ev.p_putT, Ev.p_items, Ev.p_itemsT, Ev.p_lc2, Ev.p_evEx, Ev.p_ex1, Ev.p_ex2, Ev.p_ex2s, Ev.p_isVE, Ev.p_neW, Ev.p_sort, Ev.p_notB, Ev.p_rev, Ev.p_bind, Ev.q_ok, List.getElem?_cons_zero, List.getElem?_cons_succ, List.set_cons_zero, List.set_cons_succ, List.length_cons, List.length_nil, List.cons_append, List.nil_append, Option.map_some, ↓reduceIte, Bool.not_true, Bool.not_false, decide_true, decide_false, Ev.p_div, Ev.p_mod, Ev.p_pow, Ev.p_mul, Ev.dist, List.contains_cons, List.contains_nil, Bool.or_false, Bool.false_and, Bool.and_true, Bool.true_and, Nat.reduceAdd, Nat.reduceBEq, Ev.permN, Ev.perm, List.map_cons, List.map_nil, List.getD_cons_zero, List.getD_cons_succ, and_self, cond_true, cond_false, Int.cast_ofNat_Int, Int.natCast_one, Int.natCast_zero, Int.reduceEq, Int.reduceLE, Int.reduceLT, Int.reduceNeg, Int.reduceGT, Int.reduceAdd, Int.reduceMul, Int.reduceSub, Int.reduceToNat, Int.reducePow, Int.reduceNe, reduceCtorEq, eq_self, Nat.reduceBEq, $xs,*])
theorem mu_lt {g : Nat} (g5 : g ≤ 5) {l : List Nat} (hl : l.length ≤ 5) (hs : l.sum ≤ 1180) : mu (g - 1) l < 2 ^ 5950 := by
  refine Nat.lt_of_le_of_lt (mu_le l (g - 1)) (Nat.pow_lt_pow_right (by decide) ?_)
  have h1 := Nat.mul_le_mul hl (show g - 1 + l.sum ≤ 1184 by omega)
  omega
theorem wG_P (g : Nat) (l : List Nat) : P (wG g l) = .tup [.int 1, .int (mu (g - 1) l : Nat)] := by
  obtain ⟨a, b⟩ := wG_parts g l
  unfold P
  rw [a, b]
theorem wG_Sd {g : Nat} (g5 : g ≤ 5) {l : List Nat} (hl : l.length ≤ 5) (hs : l.sum ≤ 1180) : Sd (wG g l) := by
  obtain ⟨a, b⟩ := wG_parts g l
  refine ⟨by rw [a]; decide, by rw [a]; decide, ?_⟩
  rw [b]
  exact Nat.lt_trans (mu_lt g5 hl hs) (Nat.pow_lt_pow_right (by decide) (by decide))
theorem wG_nil (g : Nat) : wG g [] = 1 := by
  unfold wG
  show Rat.divInt (fac (g - 1) * 1 : Nat) (fac (0 + (g - 1)) : Nat) = 1
  have := fac_pos (g - 1)
  rw [Nat.mul_one, Nat.zero_add]
  exact Rat.divInt_self' (by omega)
theorem take_len {k : List Nat} {j : Nat} (h : j < k.length) : (k.take j ++ [k[j]]) = k.take (j + 1) := by
  rw [List.take_succ, List.getElem?_eq_getElem h]
  rfl
theorem take_sum_le (k : List Nat) (j : Nat) : (k.take j).sum ≤ k.sum := by
  have : k.sum = (k.take j).sum + (k.drop j).sum := by rw [← List.sum_append, List.take_append_drop]
  omega
theorem even_sp {k : List Nat} (h1 : 1 ≤ k.length) (h5 : k.length ≤ 5) (hs : k.sum ≤ 1180) : m_law_even [.fz (.lst (k.map iD))] = .ok (.fz (P (wG k.length k))) [.fz (.lst (k.map iD))] := by
  have ll : (k.map iD).length = k.length := List.length_map ..
  have w : Fw (m_law_even [.fz (.lst (k.map iD))]) fun r os => r = .fz (P (wG k.length k)) ∧ os = [.fz (.lst (k.map iD))] := by
    refine fw_fin ?_
    change Wq (b_law_even [.fz (.lst (k.map iD)), .un, .un, .un, .un]) _
    unfold b_law_even
    simp! [ll, dSeq]
    rw [q_bind]
    refine for_idx (k.map iD) (I := fun j ρ => ∃ x3 x4, ρ = [.fz (.lst (k.map iD)), .fz (P (wG k.length (k.take j))), .fz (.int ((k.take j).sum + k.length : Nat)), x3, x4] ∧ setOk x3 = true ∧ setOk x4 = true) (fun j d ρ hd hI => ?_) (fun ρ hI => ?_) _
      ⟨.un, .un, by show _ = [_, Sl.fz (P (wG k.length [])), Sl.fz (.int (([] : List Nat).sum + k.length : Nat)), _, _]; rw [wG_nil, List.sum_nil, Nat.zero_add]; rfl, rfl, rfl⟩
    · obtain ⟨x3, x4, rfl, z3, z4⟩ := hI
      obtain ⟨hj, rfl⟩ := iD_at hd
      have kj : (k.take j).sum + k[j] ≤ k.sum := by
        have := take_sum_le k (j + 1)
        rw [← take_len hj, List.sum_append] at this
        simpa using this
      have er : rng1 [.int (k[j] : Nat)] = some (rangeL 0 k[j]) := by
        rw [Ev.p_rng1 _ (inR_of (by omega) (by omega)), Int.toNat_natCast]
      have lt : (k.take j ++ [0]).length ≤ 5 := by rw [List.length_append, List.length_take, List.length_singleton]; omega
      simp! [p_setK _ _ z3, er]
      refine for_range k[j] (I := fun t ρ => ∃ x4, ρ = [.fz (.lst (k.map iD)), .fz (P (wG k.length (k.take j ++ [t]))), .fz (.int ((k.take j).sum + t + k.length : Nat)), .fz (.int (k[j] : Nat)), x4] ∧ setOk x4 = true) (fun t ρ ht hJ => ?_) (fun ρ hJ => ?_) _ ⟨x4, by rw [wG_zero, Nat.add_zero], z4⟩
      · obtain ⟨x4, rfl, z4⟩ := hJ
        have ls : (k.take j ++ [t]).sum ≤ 1180 := by rw [List.sum_append]; simp; omega
        have l5 : (k.take j ++ [t]).length ≤ 5 := by rw [List.length_append, List.length_take, List.length_singleton]; omega
        have hm := mu_lt (g := k.length) h5 l5 ls
        have hp := mu_pos (k.length - 1) (k.take j ++ [t])
        have et := ltimes_sp 1 (mu (k.length - 1) (k.take j ++ [t]) : Nat) ((t : Int) + 1) ((k.take j).sum + t + k.length : Nat) (by omega) (by omega) (j := 5950) (k := 64) (by decide) (by decide) (by omega) (by rw [Int.natAbs_natCast]; exact hm) (by omega)
          (gcd_low (k := 64) (.inl ⟨by omega, by omega⟩) (by decide))
        have eq : Rat.divInt (1 * ((t : Int) + 1)) ((mu (k.length - 1) (k.take j ++ [t]) : Nat) * ((k.take j).sum + t + k.length : Nat)) = wG k.length (k.take j ++ [t + 1]) := by
          rw [wG_succ h1, wG_one, Rat.divInt_mul_divInt]
          rfl
        rw [eq] at et
        rw [wG_P]
        generalize mu (k.length - 1) (k.take j ++ [t]) = M at *
        simp! [p_setK _ _ z4, et]
        exact ⟨.fz (.int t), by rw [show ((k.take j).sum + (t + 1) + k.length : Nat) = ((k.take j).sum + t + k.length) + 1 by omega]; rfl, rfl⟩
      · obtain ⟨x4, rfl, z4⟩ := hJ
        simp! []
        refine ⟨.fz (.int (k[j] : Nat)), x4, ?_, rfl, z4⟩
        rw [take_len hj, show (k.take j).sum + k[j] = (k.take (j + 1)).sum by rw [← take_len hj, List.sum_append]; simp]
    · obtain ⟨x3, x4, rfl, z3, z4⟩ := hI
      rw [ll, List.take_length]
      simp! []
      (refine ⟨by decide, ?_⟩; first | trivial | exact ⟨rfl, trivial⟩ | exact rfl)
  obtain ⟨_, _, e, rfl, rfl⟩ := w
  exact e
/-! ### sums of weights -/
theorem div_le (a b : Nat) (hb : 0 < b) : 0 ≤ (Rat.divInt a b).num ∧ (Rat.divInt a b).num ≤ a ∧ (Rat.divInt a b).den ≤ b := by
  obtain ⟨l1, l2⟩ := low_pos a b (by omega)
  have g0 := gcd_pos (a := (a : Int)) (b := (b : Int)) (by omega)
  have f : ∀ x : Nat, (x : Int).fdiv (Int.gcd a b) = ((x / Int.gcd a b : Nat) : Int) := fun x => by
    rw [Int.fdiv_eq_ediv_of_nonneg _ (by omega)]
    rfl
  rw [f] at l1 l2
  have h1 := Nat.div_le_self a (Int.gcd a b)
  have h2 := Nat.div_le_self b (Int.gcd a b)
  generalize a / Int.gcd a b = x at *
  generalize b / Int.gcd a b = y at *
  omega
theorem div_Sd {a b : Nat} (hb : 0 < b) (ha : a < 2 ^ 40) (hb2 : b < 2 ^ 6000) : Sd (Rat.divInt a b) := by
  obtain ⟨h1, h2, h3⟩ := div_le a b hb
  exact ⟨h1, by omega, Nat.lt_of_le_of_lt h3 hb2⟩
/-- what counts with one more weigh -/
def moreL (k : List Nat) : List Rat := (List.range k.length).map fun c => wG k.length (inc k c)
theorem sum1 : ∀ l : List Nat, (l.map (1 + ·)).sum = l.length + l.sum
  | [] => rfl
  | x :: l => by rw [List.map_cons, List.sum_cons, sum1 l, List.sum_cons, List.length_cons]; omega
theorem range_getD (k : List Nat) {j : Nat} (hj : j ≤ k.length) : ((List.range j).map fun c => 1 + k.getD c 0) = (k.take j).map (1 + ·) := by
  refine List.ext_getElem (by rw [List.length_map, List.length_map, List.length_range, List.length_take]; omega) fun i h1 h2 => ?_
  have hi : i < j := by simpa using h1
  rw [List.getElem_map, List.getElem_map, List.getElem_range, List.getElem_take, List.getD_eq_getElem?_getD, List.getElem?_eq_getElem (by omega)]
  rfl
theorem more_part (k : List Nat) (h1 : 1 ≤ k.length) {j : Nat} (hj : j ≤ k.length) : sumR 0 ((moreL k).take j) = wG k.length k * Rat.divInt ((k.take j).length + (k.take j).sum : Nat) (k.sum + k.length : Nat) := by
  have e : (moreL k).take j = (List.range j).map fun c => wG k.length k * Rat.divInt (1 + k.getD c 0 : Nat) (k.sum + k.length : Nat) := by
    unfold moreL
    rw [← List.map_take, List.take_range, Nat.min_eq_left hj]
    exact List.map_congr_left fun c hc => wG_inc rfl h1 (by have := List.mem_range.mp hc; omega)
  rw [e, sumR_mul]
  have := sumR_div (k.sum + k.length) (by omega) ((List.range j).map fun c => 1 + k.getD c 0) 0
  rw [Int.natCast_zero, Rat.zero_divInt, List.map_map, Nat.zero_add, range_getD k hj, sum1] at this
  have h2 : sumR 0 ((List.range j).map fun c => Rat.divInt ((1 + k.getD c 0 : Nat) : Int) ((k.sum + k.length : Nat) : Int)) = _ := this
  rw [h2]
theorem more_sum (k : List Nat) (h1 : 1 ≤ k.length) : sumR 0 (moreL k) = wG k.length k := by
  have e := more_part k h1 (Nat.le_refl _)
  have ll : (moreL k).length = k.length := by unfold moreL; rw [List.length_map, List.length_range]
  rw [show (moreL k).take k.length = moreL k by rw [← ll, List.take_length], List.take_length, Nat.add_comm k.length, Rat.divInt_self' (by omega), Rat.mul_one] at e
  exact e
theorem more_Sd (k : List Nat) (h1 : 1 ≤ k.length) (h5 : k.length ≤ 5) (hs : k.sum ≤ 1170) : (∀ x ∈ moreL k, Sd x ∧ 0 < x.num) ∧ ∀ j ≤ (moreL k).length, Sd (sumR 0 ((moreL k).take j)) := by
  have ll : (moreL k).length = k.length := by unfold moreL; rw [List.length_map, List.length_range]
  refine ⟨fun x hx => ?_, fun j hj => ?_⟩
  · obtain ⟨c, hc, rfl⟩ := List.mem_map.mp hx
    have hc := List.mem_range.mp hc
    refine ⟨wG_Sd h5 (by rw [inc_len hc]; exact h5) (by rw [inc_sum hc]; omega), ?_⟩
    rw [(wG_parts k.length (inc k c)).1]
    decide
  · rw [ll] at hj
    rw [more_part k h1 hj, wG_one, Rat.divInt_mul_divInt, Int.one_mul, ← Int.natCast_mul]
    have hm := mu_lt (g := k.length) h5 h5 (show k.sum ≤ 1180 by omega)
    have hp := mu_pos (k.length - 1) k
    have ts := take_sum_le k j
    refine div_Sd (Nat.mul_pos hp (by omega)) (by rw [List.length_take]; omega) ?_
    exact Nat.lt_of_lt_of_le (Nat.mul_lt_mul_of_lt_of_le hm (show k.sum + k.length ≤ 2 ^ 40 by omega) (by omega)) (by rw [← Nat.pow_add]; exact Nat.pow_le_pow_right (by decide) (by decide))
/-! ### factors -/
theorem ch_lt2 {n : Nat} (h : n ≤ 1100) (k : Nat) : ((ch n k : Nat) : Int).natAbs < 2 ^ 1101 := by
  have h1 := ch_le n k
  have h2 : 2 ^ n < 2 ^ 1101 := Nat.pow_lt_pow_right (by omega) (by omega)
  rw [Int.natAbs_natCast]
  omega
theorem choose_in_sp (n k : Nat) (hk : k ≤ n) (hn : n ≤ 1100) : m_choose_in [.fz (.int n), .fz (.int k)] = .ok (.fz (.int (ch n k : Nat))) [.fz (.int n), .fz (.int k)] := by
  have w : Fw (m_choose_in [.fz (.int n), .fz (.int k)]) fun r os => r = .fz (.int (ch n k : Nat)) ∧ os = [.fz (.int n), .fz (.int k)] := by
    refine fw_fin ?_
    change Wq (b_choose_in [.fz (.int n), .fz (.int k), .un, .un]) _
    unfold b_choose_in
    have er : rng1 [.int (k : Int)] = some (rangeL 0 k) := by
      rw [Ev.p_rng1 _ (inR_of (by omega) (by omega)), Int.toNat_natCast]
    simp! [er]
    rw [q_bind]
    refine for_range k (I := fun t ρ => ∃ x, ρ = [.fz (.int n), .fz (.int k), .fz (.int (ch n t : Nat)), x] ∧ setOk x = true) (fun t ρ ht hI => ?_) (fun ρ hI => ?_) _ ⟨_, by rw [ch_0]; rfl, rfl⟩
    · obtain ⟨x, rfl, hx⟩ := hI
      have e1 : (n : Int) - t = ((n - t : Nat) : Int) := by omega
      have m1 : mulOk (ch n t : Nat) ((n - t : Nat) : Int) = true := mulOk_of (ch_lt2 hn t) (b := 64) (by omega) (by decide)
      have dk : divOk ((t : Int) + 1) = true := divOk_of (b := 64) (by omega) (by omega) (by decide) (by decide)
      have e2 : (((ch n t : Nat) : Int) * ((n - t : Nat) : Int)).fdiv ((t : Int) + 1) = (ch n (t + 1) : Nat) := by
        rw [← Int.natCast_mul, ch_mul, Int.natCast_mul, show ((t + 1 : Nat) : Int) = (t : Int) + 1 from rfl]
        exact Int.mul_fdiv_cancel _ (by omega)
      simp! [p_setK _ _ hx, e1, m1, Ev.p_div _ _ dk, e2]
      exact ⟨_, rfl, rfl⟩
    · obtain ⟨x, rfl, hx⟩ := hI
      simp! []
      (refine ⟨by decide, ?_⟩; first | trivial | exact ⟨rfl, trivial⟩ | exact rfl)
  obtain ⟨_, _, e, rfl, rfl⟩ := w
  exact e
theorem factor_in_sp (g n : Nat) (h1 : 1 ≤ g) (hn : n + g ≤ 1100) : m_factor_in [.fz (.int g), .fz (.int n)] = .ok (.fz (.int (ch (n + g - 1) (g - 1) : Nat))) [.fz (.int g), .fz (.int n)] := by
  have e := choose_in_sp (n + g - 1) (g - 1) (by omega) (by omega)
  have c1 : (n : Int) + (g : Int) - 1 = ((n + g - 1 : Nat) : Int) := by omega
  have c2 : (g : Int) - 1 = ((g - 1 : Nat) : Int) := by omega
  refine fr_of (ρ := [.fz (.int g), .fz (.int n)]) ?_ (by simp)
  change b_factor_in [.fz (.int g), .fz (.int n)] = _
  unfold b_factor_in
  simp! [c1, c2, e]
theorem within_ok (v lo hi : Int) (h1 : lo ≤ v) (h2 : v ≤ hi) : m_is_within [.fz (.int v), .fz (.int lo), .fz (.int hi)] = .ok (.fz (.bl true)) [.fz (.int v), .fz (.int lo), .fz (.int hi)] := by
  have := is_within_sp (.int v) .int rfl (some lo) (some hi)
  rw [show inB (.int v) (some lo) (some hi) = true by
    show (decide (lo ≤ v) && decide (v ≤ hi)) = true
    rw [decide_eq_true h1, decide_eq_true h2]
    rfl] at this
  exact this
theorem need_int_ok (v lo hi : Int) (x : Str) (h1 : lo ≤ v) (h2 : v ≤ hi) : m_need_integer [.fz (.int v), .fz (.str x), .fz (.int lo), .fz (.int hi)] = .ok (.fz .non) [.fz (.int v), .fz (.str x), .fz (.int lo), .fz (.int hi)] := by
  have e := within_ok v lo hi h1 h2
  have tt : truth (.bl true) = some true := rfl
  have w : Fw (m_need_integer [.fz (.int v), .fz (.str x), .fz (.int lo), .fz (.int hi)]) fun r os => r = .fz .non ∧ os = [.fz (.int v), .fz (.str x), .fz (.int lo), .fz (.int hi)] := by
    refine fw_fin ?_
    change Wq (b_need_integer [.fz (.int v), .fz (.str x), .fz (.int lo), .fz (.int hi)]) _
    unfold b_need_integer
    simp! [e, tt]
    (refine ⟨by decide, ?_⟩; first | trivial | exact ⟨rfl, trivial⟩ | exact rfl)
  obtain ⟨_, _, e, rfl, rfl⟩ := w
  exact e
theorem even_factor_sp (g n : Nat) (h1 : 1 ≤ g) (h5 : g ≤ 5) (hn : n ≤ 1000) : m_even_factor [.fz (.int g), .fz (.int n)] = .ok (.fz (.int (ch (n + g - 1) (g - 1) : Nat))) [.fz (.int g), .fz (.int n)] := by
  have e1 := need_int_ok g 1 5 "goods" (by omega) (by omega)
  have e2 := need_int_ok n 0 1000 "days" (by omega) (by omega)
  have e3 := factor_in_sp g n h1 (by omega)
  have g1 : m_need_goods [.fz (.int g)] = .ok (.fz .non) [.fz (.int g)] := by
    have w : Fw (m_need_goods [.fz (.int g)]) fun r os => r = .fz .non ∧ os = [.fz (.int g)] := by
      refine fw_fin ?_
      change Wq (b_need_goods [.fz (.int g)]) _
      unfold b_need_goods
      simp! [e1]
      (refine ⟨by decide, ?_⟩; first | trivial | exact ⟨rfl, trivial⟩ | exact rfl)
    obtain ⟨_, _, e, rfl, rfl⟩ := w
    exact e
  have g2 : m_need_days [.fz (.int n)] = .ok (.fz .non) [.fz (.int n)] := by
    have w : Fw (m_need_days [.fz (.int n)]) fun r os => r = .fz .non ∧ os = [.fz (.int n)] := by
      refine fw_fin ?_
      change Wq (b_need_days [.fz (.int n)]) _
      unfold b_need_days
      simp! [e2]
      (refine ⟨by decide, ?_⟩; first | trivial | exact ⟨rfl, trivial⟩ | exact rfl)
    obtain ⟨_, _, e, rfl, rfl⟩ := w
    exact e
  refine fr_of (ρ := [.fz (.int g), .fz (.int n)]) ?_ (by simp)
  change b_even_factor [.fz (.int g), .fz (.int n)] = _
  unfold b_even_factor
  simp! [g1, g2, e3]
/-- a row of the triangle -/
def rowT (n j : Nat) (d : Nat) : Nat → Nat := fun i => if i < d then ch (i + j + 1) (j + 1) else ch (i + j) j
def rowD (n : Nat) (f : Nat → Nat) : List D := (List.range (n + 1)).map fun i => .int (f i : Nat)
theorem rowD_len (n : Nat) (f : Nat → Nat) : (rowD n f).length = n + 1 := by unfold rowD; rw [List.length_map, List.length_range]
theorem rowD_at {n i : Nat} (f : Nat → Nat) (h : i ≤ n) : atI (rowD n f) ((i : Nat) : Int) = some (.int (f i : Nat)) := atI_nat (by
  unfold rowD
  rw [List.getElem?_map, List.getElem?_range (by omega)]
  rfl)
theorem rowD_set {n j : Nat} (f : Nat → Nat) (v : Nat) : (rowD n f).set j (.int (v : Nat)) = rowD n fun i => if i = j then v else f i := by
  refine List.ext_getElem? fun i => ?_
  unfold rowD
  by_cases h : i < n + 1
  · by_cases e : j = i
    · subst e
      rw [List.getElem?_set_self (by rw [List.length_map, List.length_range]; exact h), List.getElem?_map, List.getElem?_range h]
      show _ = some (D.int ((if j = j then v else f j : Nat) : Int))
      rw [if_pos rfl]
    · rw [List.getElem?_set_ne e, List.getElem?_map, List.getElem?_map, List.getElem?_range h]
      show some (D.int (f i : Nat)) = some (D.int ((if i = j then v else f i : Nat) : Int))
      rw [if_neg (fun z => e z.symm)]
  · rw [List.getElem?_eq_none (by rw [List.length_set, List.length_map, List.length_range]; omega), List.getElem?_eq_none (by rw [List.length_map, List.length_range]; omega)]
theorem rowD_congr {n : Nat} {f h : Nat → Nat} (e : ∀ i ≤ n, f i = h i) : rowD n f = rowD n h := List.map_congr_left fun i hi => by
  rw [e i (by have := List.mem_range.mp hi; omega)]
theorem triangle_sp (g n : Nat) (h1 : 1 ≤ g) (h5 : g ≤ 5) (hn : n ≤ 1000) : m_law_triangle [.fz (.int g), .fz (.int n)] = .ok (.fz (.int (ch (n + g - 1) (g - 1) : Nat))) [.fz (.int g), .fz (.int n)] := by
  have er1 : rng1 [.int ((g : Int) - 1)] = some (rangeL 0 (g - 1)) := by
    rw [show (g : Int) - 1 = ((g - 1 : Nat) : Int) by omega, Ev.p_rng1 _ (inR_of (by omega) (by omega)), Int.toNat_natCast]
  have er2 : rng2 [.int 1, .int ((n : Int) + 1)] = some (rangeL 1 n) := by
    rw [Ev.p_rng2 _ _ (inR_of (by omega) (by omega)) (inR_of (by omega) (by omega)), show ((n : Int) + 1 - 1).toNat = n by omega]
  have om : opMul (.lst [.int 1]) (.int ((n : Int) + 1)) = some (.nw (.lst (rowD n fun i => ch (i + 0) 0))) := by
    show (if Ev.inR ((n : Int) + 1) && lenOk (([.int 1] : List D).length * ((n : Int) + 1).toNat) then some (Vl.nw (D.lst (List.replicate ((n : Int) + 1).toNat [D.int 1]).flatten)) else none) = _
    rw [inR_of (by omega) (by omega), show ((n : Int) + 1).toNat = n + 1 by omega, if_pos (by
      rw [Bool.true_and]
      exact decide_eq_true (by simp; omega))]
    have fl : ∀ m : Nat, (List.replicate m [D.int 1]).flatten = List.replicate m (D.int 1) := fun m => by
      induction m with
      | zero => rfl
      | succ m ih => rw [List.replicate_succ, List.flatten_cons, ih, List.replicate_succ]; rfl
    refine congrArg (fun l => some (Vl.nw (D.lst l))) ?_
    rw [fl]
    unfold rowD
    rw [show (fun i : Nat => D.int (ch (i + 0) 0 : Nat)) = fun _ => D.int 1 from funext fun i => by rw [ch_0]; rfl, List.map_const', List.length_range]
  have w : Fw (m_law_triangle [.fz (.int g), .fz (.int n)]) fun r os => r = .fz (.int (ch (n + g - 1) (g - 1) : Nat)) ∧ os = [.fz (.int g), .fz (.int n)] := by
    refine fw_fin ?_
    change Wq (b_law_triangle [.fz (.int g), .fz (.int n), .un, .un, .un]) _
    unfold b_law_triangle
    simp! [om, er1]
    rw [q_bind]
    refine for_range (g - 1) (I := fun j ρ => ∃ x3 x4, ρ = [.fz (.int g), .fz (.int n), .ow (.lst (rowD n fun i => ch (i + j) j)), x3, x4] ∧ setOk x3 = true ∧ setOk x4 = true) (fun j ρ hj hI => ?_) (fun ρ hI => ?_) _ ⟨.un, .un, rfl, rfl, rfl⟩
    · obtain ⟨x3, x4, rfl, z3, z4⟩ := hI
      simp! [p_setK _ _ z3, er2]
      refine for_idx (rangeL 1 n) (I := fun d ρ => ∃ x4, ρ = [.fz (.int g), .fz (.int n), .ow (.lst (rowD n (rowT n j (d + 1)))), .fz (.int j), x4] ∧ setOk x4 = true) (fun d y ρ hd hJ => ?_) (fun ρ hJ => ?_) _ ⟨x4, by
        rw [rowD_congr (f := fun i => ch (i + j) j) (h := rowT n j (0 + 1)) fun i _ => by
          unfold rowT
          by_cases e : i < 0 + 1
          · rw [if_pos e, show i = 0 by omega, Nat.zero_add, ch_self, ch_self]
          · rw [if_neg e]], z4⟩
      · obtain ⟨x4, rfl, z4⟩ := hJ
        have hdn : d < n := by
          have := (List.getElem?_eq_some_iff.mp hd).1
          rw [rangeL_len] at this
          exact this
        have ey : y = .int ((d + 1 : Nat) : Int) := by
          unfold rangeL at hd
          rw [List.getElem?_map, List.getElem?_range hdn] at hd
          rw [← Option.some.inj hd]
          exact congrArg D.int (by omega)
        subst ey
        have a1 := rowD_at (n := n) (rowT n j (d + 1)) (show d + 1 ≤ n by omega)
        have a2 := rowD_at (n := n) (rowT n j (d + 1)) (show d ≤ n by omega)
        rw [show ((d : Nat) : Int) = ((d + 1 : Nat) : Int) - 1 by omega] at a2
        have ix : ixN (n + 1) ((d + 1 : Nat) : Int) = some (d + 1) := by rw [ixn (by omega) (by omega), Int.toNat_natCast]
        have st := rowD_set (n := n) (j := d + 1) (rowT n j (d + 1)) (rowT n j (d + 1) (d + 1) + rowT n j (d + 1) d)
        rw [Int.natCast_add] at st
        simp! [p_setK _ _ z4, a1, a2, rowD_len, ix, st]
        refine ⟨.fz (.int ((d + 1 : Nat) : Int)), ?_, rfl⟩
        rw [rowD_congr (f := fun i => if i = d + 1 then rowT n j (d + 1) (d + 1) + rowT n j (d + 1) d else rowT n j (d + 1) i) (h := rowT n j (d + 1 + 1)) fun i _ => by
          unfold rowT
          by_cases e : i = d + 1
          · subst e
            rw [if_pos rfl, if_neg (by omega), if_pos (by omega), if_pos (by omega), show d + 1 + j + 1 = (d + j + 1) + 1 by omega, show d + 1 + j = d + j + 1 by omega]
            exact (ch_s (d + j + 1) j).symm
          · rw [if_neg e]
            by_cases e2 : i < d + 1
            · rw [if_pos e2, if_pos (by omega)]
            · rw [if_neg e2, if_neg (by omega)]]
      · obtain ⟨x4, rfl, z4⟩ := hJ
        rw [rangeL_len]
        simp! []
        refine ⟨.fz (.int j), x4, ?_, rfl, z4⟩
        rw [rowD_congr (f := rowT n j (n + 1)) (h := fun i => ch (i + (j + 1)) (j + 1)) fun i hi => by
          unfold rowT
          rw [if_pos (by omega)]
          rfl]
    · obtain ⟨x3, x4, rfl, z3, z4⟩ := hI
      have a1 := rowD_at (n := n) (fun i => ch (i + (g - 1)) (g - 1)) (Nat.le_refl n)
      have en : n + (g - 1) = n + g - 1 := by omega
      rw [en] at a1
      simp! [a1]
      (refine ⟨by decide, ?_⟩; first | trivial | exact ⟨rfl, trivial⟩ | exact rfl)
  obtain ⟨_, _, e, rfl, rfl⟩ := w
  exact e
end K70

namespace K70
open PySem PySem.Spec PyProof.Rows L2 Ev
local macro_rules | `(tactic| simp! [$xs,*]) => `(tactic| simp only [Ev.p_pure, Ev.p_ok, Ev.p_toD, Ev.p_kDf, Ev.p_kDn, Ev.p_toV, Ev.p_kV, Ev.p_some, Ev.p_var, Ev.p_varF, Ev.p_varL, Ev.p_varO, Ev.p_varN, Ev.p_mov, Ev.p_movF, Ev.p_movL, Ev.p_movO, Ev.p_movN, Ev.p_ev2, Ev.p_k2, Ev.p_k2', Ev.p_ev2T, Ev.p_kT, Ev.p_kT', Ev.p_vb, Ev.p_ev1, Ev.p_evC, Ev.p_evL, Ev.p_evO, Ev.p_evSeq, Ev.p_tTruth, Ev.p_kf, Ev.p_cons, Ev.p_vcons, Ev.p_acons, Ev.p_kC1, Ev.p_kC2, Ev.p_arV, Ev.p_kAr, Ev.p_arR, Ev.p_arF, Ev.p_arOw, Ev.p_arN, Ev.p_arL, Ev.p_call, Ev.p_kL1, Ev.p_kL2, Ev.p_if, Ev.p_kIt, Ev.p_kIf, Ev.p_tAnd, Ev.p_tOr, Ev.p_tNot, Ev.p_kN, Ev.p_and, Ev.p_kA, Ev.p_or, Ev.p_kO, Ev.p_not, Ev.p_kNt, Ev.p_ixS, Ev.p_ixO, Ev.p_kX, Ev.p_kXO, Ev.p_slotD, Ev.p_slF, Ev.p_slO, Ev.p_slN, Ev.p_slL, Ev.p_seq, Ev.p_kSn, Ev.p_kSr, Ev.p_kSb, Ev.p_kSc, Ev.p_slot, Ev.p_setU, Ev.p_setF, Ev.p_setO, Ev.p_ofF, Ev.p_ofN, Ev.p_kNx, Ev.p_set, Ev.p_kSet, Ev.p_ret, Ev.p_kRt, Ev.p_expr, Ev.p_kEx, Ev.p_par, Ev.p_kPar, Ev.p_kSs, Ev.p_ss0, Ev.p_ss, Ev.p_asg, Ev.p_kAsg, Ev.p_unp, Ev.p_gs, Ev.p_kG, Ev.p_gs0, Ev.p_gIx, Ev.p_gIO, Ev.p_kUp, Ev.p_upd, Ev.p_upO, Ev.p_upN, Ev.p_upDt, Ev.p_upDf, Ev.p_put, Ev.p_mut, Ev.p_mutO, Ev.p_kNon, Ev.p_kM1, Ev.p_app, Ev.p_sl, Ev.p_kSl1, Ev.p_kSl2, Ev.p_kSl3, Ev.p_add, Ev.p_addL, Ev.p_i2, Ev.p_u1, Ev.p_lt, Ev.p_le, Ev.p_gt, Ev.p_ge, Ev.p_eqI, Ev.p_neI, Ev.p_eqS, Ev.p_neS, Ev.p_isB, Ev.p_isN, Ev.p_notN, Ev.p_tup, Ev.p_lst, Ev.p_abs, Ev.p_intI, Ev.p_intB, Ev.p_len, Ev.p_dlL, Ev.p_dlT, Ev.p_itL, Ev.p_itT, Ev.p_d, Ev.p_dn, Ev.p_rng1, Ev.p_rng2, Ev.p_lo0, Ev.p_lo1, Ev.p_lo2, Ev.p_lo3, Ev.p_lo4, Ev.p_lo5, Ev.p_lo6, Ev.p_lo7, Ev.p_lo8, Ev.p_lo9, Ev.p_lo10, Ev.p_lo11, Ev.p_lo12, Ev.p_lo13, Ev.p_lo14, Ev.p_lo15, Ev.p_lo16, Ev.p_lo17, Ev.p_lo18, Ev.p_lo19, Ev.p_lo20, Ev.p_lo21, Ev.p_lo22, Ev.p_lo23, Ev.p_lo24, Ev.p_p18, Ev.p_p40, Ev.p_lpN, Ev.p_lpC, Ev.p_lpB, Ev.p_lpR, Ev.p_for, Ev.p_whT, Ev.p_whF, Ev.p_lc, Ev.p_callAr, Ev.p_callO1, Ev.p_callO2, Ev.p_refV, Ev.p_refR, Ev.p_ref0, Ev.p_ga, Ev.p_ga0, Ev.p_gaO, Ev.p_gaV, Ev.p_gaR, Ev.p_leF, Ev.p_leL, Ev.p_leO, Ev.p_leN, Ev.p_sc, Ev.p_sc0, Ev.p_scN, Ev.p_scFs, Ev.p_scLs, Ev.p_scOn, Ev.p_scOl, Ev.p_scNn, Ev.p_scNl, Ev.p_fiR, Ev.p_fiV, Ev.p_fi0, Ev.fin_rt, Ev.fin_nx, Ev.ou_ln, Ev.ou_fz, Ev.ou_0, Ev.at_0, Ev.at_1, Ev.at_2, Ev.at_3, Ev.p_lenS, Ev.p_lenO, Ev.p_ex, Ev.p_raise, Ev.p_kRz, Ev.p_try, Ev.p_tryok, Ev.p_tryex, Ev.p_tryT, Ev.p_kTr, Ev.p_wip1, Ev.p_wipU, Ev.p_wipF, Ev.p_wip0, Ev.p_wipR, Ev.p_lam, Ev.p_frz0, Ev.p_frz, Ev.p_gdF, Ev.p_gdLf, Ev.p_gdO, Ev.p_gdL, Ev.p_kFr, Ev.p_kLam, Ev.p_lamO, Ev.p_coOk, Ev.p_coOl, Ev.p_coEx, Ev.p_fsF, Ev.p_fsL, Ev.p_fsO, Ev.p_fsN, Ev.p_fsU, Ev.p_clo, Ev.p_cloO, Ev.p_coDk, Ev.p_coDx, Ev.ou_cl, Ev.p_setC, Ev.p_callO2x, Ev.p_callV, Ev.p_kCV, Ev.p_runV, Ev.p_kRV, Ev.p_isX, Ev.p_isoE, Ev.p_isoN, Ev.p_tst, Ev.p_fld, Ev.p_fl1, Ev.p_setK, Ev.p_kLp, Ev.p_maxL, Ev.p_maxT, Ev.p_max, Ev.p_min, Ev.p_bits, Ev.p_zipL, Ev.p_zipT, Ev.p_zipA, Ev.p_zipB, Ev.p_dnuT, Ev.p_dnum, Ev.p_join, Ev.p_kJ1, Ev.p_kJ2, Ev.p_slA, Ev.p_kSa1, Ev.p_kSa2, Ev.p_kSa3, Ev.p_raise2, Ev.p_kRz2, Ev.p_lk1, Ev.p_lk2, Ev.p_omap, Ev.p_fldO, Ev.p_fldS, Ev.p_ofld, Ev.p_gFld, Ev.p_fo0, Ev.p_fo1, Ev.p_fo2, Ev.p_fo3, Ev.p_fo4, Ev.p_fo5, Ev.p_fo6, Ev.p_fo7, Ev.p_fo8, Ev.p_fo9, Ev.p_fo10, Ev.p_fo11, Ev.p_putO, Ev.p_put0, Ev.p_put1, Ev.p_put2, Ev.p_make, Ev.p_kMk, Ev.p_mkO, Ev.p_mkEnd, Ev.p_mkEx, Ev.p_mkSl, Ev.p_mkSf, Ev.p_bisO, Ev.p_star, Ev.p_kSt1, Ev.p_kSt2, Ev.p_kSt3, Ev.p_ds2L, Ev.p_ds2T, Ev.p_ext, Ev.p_nn, Ev.p_nI, Ev.p_nO, Ev.p_nT, Ev.p_nL, Ev.p_nS, Ev.p_bn1, Ev.p_bn2, Ev.p_chT, Ev.p_kCh1, Ev.p_kCh2, Ev.p_kCh3t, Ev.p_kCh3f, Ev.p_kCh4, Ev.p_take0, Ev.p_takeS, Ev.p_dct, Ev.p_kDc1, Ev.p_kDc2, Ev.p_mkDct, Ev.p_dget, Ev.p_dgO, Ev.p_kDg1, Ev.p_getT, Ev.p_gtO, Ev.p_dput, Ev.p_dPut1, Ev.p_dpO, Ev.p_kDp2, Ev.p_putT, Ev.p_items, Ev.p_itemsT, Ev.p_lc2, Ev.p_evEx, Ev.p_ex1, Ev.p_ex2, Ev.p_ex2s, Ev.p_isVE, Ev.p_neW, Ev.p_sort, Ev.p_notB, Ev.p_rev, Ev.p_bind, Ev.q_ok, List.getElem?_cons_zero, List.getElem?_cons_succ, List.set_cons_zero, List.set_cons_succ, List.length_cons, List.length_nil, List.cons_append, List.nil_append, Option.map_some, ↓reduceIte, Bool.not_true, Bool.not_false, decide_true, decide_false, Ev.p_div, Ev.p_mod, Ev.p_pow, Ev.p_mul, Ev.dist, List.contains_cons, List.contains_nil, Bool.or_false, Bool.false_and, Bool.and_true, Bool.true_and, Nat.reduceAdd, Nat.reduceBEq, Ev.permN, Ev.perm, List.map_cons, List.map_nil, List.getD_cons_zero, List.getD_cons_succ, and_self, cond_true, cond_false, Int.cast_ofNat_Int, Int.natCast_one, Int.natCast_zero, Int.reduceEq, Int.reduceLE, Int.reduceLT, Int.reduceNeg, Int.reduceGT, Int.reduceAdd, Int.reduceMul, Int.reduceSub, Int.reduceToNat, Int.reducePow, Int.reduceNe, reduceCtorEq, eq_self, Nat.reduceBEq, $xs,*])
theorem inc_getD {k : List Nat} {c j : Nat} (h : c < k.length) : (inc k c).getD j 0 = k.getD j 0 + if j = c then 1 else 0 := by
  have e : inc k c = k.set c (k.getD c 0 + 1) := by
    unfold inc
    rw [List.set_eq_take_append_cons_drop, if_pos h]
  rw [e, List.getD_eq_getElem?_getD, List.getD_eq_getElem?_getD, List.getElem?_set]
  by_cases hj : c = j
  · subst hj
    rw [if_pos rfl, if_pos h, if_pos rfl, List.getD_eq_getElem?_getD]
    rfl
  · rw [if_neg hj, if_neg (fun z => hj z.symm), Nat.add_zero, List.getD_eq_getElem?_getD]
theorem add_tup (a b : List D) (h : a.length + b.length ≤ 1000) : opAdd (.tup a) (.tup b) = some (.fz (.tup (a ++ b))) := by
  show (if lenOk (a.length + b.length) then _ else _) = _
  have e : lenOk (a.length + b.length) = true := decide_eq_true (by omega)
  rw [if_pos e]
theorem range_iD (g : Nat) : rangeL 0 g = (List.range g).map iD := by
  unfold rangeL
  exact List.map_congr_left fun j _ => by
    show D.int (0 + (j : Int)) = .int j
    rw [Int.zero_add]
def wordD (w : List Nat) : D := .tup (w.map iD)
def longer (g : Nat) (w : List Nat) : List (List Nat) := (List.range g).map fun c => w ++ [c]
def lonF (w : List Nat) : D → Option D
  | .int c => some (wordD (w ++ [c.toNat]))
  | _ => none
theorem lon_map (g : Nat) (w : List Nat) : (rangeL 0 g).filterMap (lonF w) = (longer g w).map wordD := by
  unfold rangeL longer
  rw [List.filterMap_map, List.map_map]
  rw [show (lonF w ∘ fun (j : Nat) => D.int (0 + (j : Int))) = fun j => some (wordD (w ++ [j])) from funext fun j => by
    show some (wordD (w ++ [(0 + (j : Int)).toNat])) = _
    rw [Int.zero_add, Int.toNat_natCast]]
  rw [List.filterMap_eq_map']
  rfl
theorem pow_le {g : Nat} (g5 : g ≤ 5) {k : Nat} (hk : k ≤ 5) : g ^ k ≤ 3125 := by
  refine Nat.le_trans (Nat.pow_le_pow_left g5 k) (Nat.le_trans (Nat.pow_le_pow_right (by decide) hk) (by decide))
theorem words_sp {g : Nat} (g5 : g ≤ 5) (n : Nat) (hn : n ≤ 5) : ∃ r, m_law_words [.fz (.int g), .fz (.int n)] = .ok r [.fz (.int g), .fz (.int n)] ∧ (r = .fz (.lst ((wds g n).map wordD)) ∨ r = .nw (.lst ((wds g n).map wordD))) := by
  have w' : Fw (m_law_words [.fz (.int g), .fz (.int n)]) fun r os => (r = .fz (.lst ((wds g n).map wordD)) ∨ r = .nw (.lst ((wds g n).map wordD))) ∧ os = [.fz (.int g), .fz (.int n)] := by
    refine fw_fin ?_
    change Wq (b_law_words [.fz (.int g), .fz (.int n), .un, .un, .un, .un, .un]) _
    unfold b_law_words
    have ir : ∀ k : Nat, k ≤ 5 → Ev.inR (k : Int) = true := fun k h => by
      unfold Ev.inR
      simp only [Bool.and_eq_true, decide_eq_true_eq]
      omega
    have t0 : lenOk 0 = true := rfl
    simp! [p_rng1 _ (ir n hn), Int.toNat_natCast, p_tup [] t0]
    rw [q_bind]
    refine for_range n (fun k ρ => ∃ x2 x3 x4 x5, ρ = [.fz (.int g), .fz (.int n), x2, x3, x4, x5, .un] ∧ (x2 = .ow (.lst ((wds g k).map wordD)) ∨ x2 = .fz (.lst ((wds g k).map wordD))) ∧ setOk x3 = true ∧ setOk x4 = true ∧ setOk x5 = true) ?_ ?_ _ ⟨_, .un, .un, .un, rfl, .inl rfl, rfl, rfl, rfl⟩
    · rintro k ρ hk ⟨x2, x3, x4, x5, rfl, h2, z3, z4, z5⟩
      have hb : ((wds g (k + 1)).length ≤ 3125) := by
        rw [wds_len]
        exact pow_le g5 (by omega)
      rcases h2 with rfl | rfl
      all_goals
        simp! [p_setK _ _ z3, p_setK _ _ z4, dSeq]
        rw [q_bind]
        refine for_inv (fun ds ρ => ∃ (e acc : List (List Nat)) (x3 x5 : Sl), ds = e.map wordD ∧ ρ = [.fz (.int g), .fz (.int n), .fz (.lst ((wds g k).map wordD)), x3, .ow (.lst (acc.map wordD)), x5, .un] ∧ setOk x3 = true ∧ setOk x5 = true ∧ acc ++ e.flatMap (longer g) = wds g (k + 1) ∧ ∀ w ∈ e, w.length = k) ?_ ?_ _ _
          ⟨wds g k, [], .fz (.int k), x5, rfl, rfl, rfl, z5, rfl, fun w hw => (wds_mem hw).1⟩
        · rintro d ds ρ ⟨e, acc, y3, y5, he, rfl, w3, w5, hq, hl⟩
          match e, he, hq, hl with
          | w :: e, he, hq, hl =>
            injection he with h1 h2
            subst h1 h2
            have hw := hl w List.mem_cons_self
            rw [List.flatMap_cons, ← List.append_assoc] at hq
            have ln : (acc ++ longer g w).length ≤ 3125 := by
              have := congrArg List.length hq
              rw [List.length_append] at this
              omega
            have lx : (acc.map wordD).length + ((longer g w).map wordD).length ≤ 16777216 := by
              rw [List.length_append] at ln
              rw [List.length_map, List.length_map]
              omega
            have hd : wordD w = .tup (w.map iD) := rfl
            simp! [p_setK _ _ w5, hd, p_rng1 _ (ir g g5), Int.toNat_natCast]
            rw [lc_eq (lonF w) rfl (by rw [rangeL_len]; omega) (fun x hx => ?_)]
            · rw [lon_map]
              simp! [p_ext _ _ lx]
              rw [← List.map_append]
              exact ⟨e, acc ++ longer g w, _, _, rfl, rfl, w3, rfl, hq, fun v hv => hl v (List.mem_cons_of_mem _ hv)⟩
            · rw [range_iD] at hx
              obtain ⟨c, _, rfl⟩ := List.mem_map.mp hx
              have hi : iD c = .int c := rfl
              have t1 : lenOk 1 = true := rfl
              have ea := add_tup (w.map iD) [.int (c : Int)] (by rw [List.length_map, List.length_singleton]; omega)
              have ef : lonF w (.int (c : Int)) = some (.tup (w.map iD ++ [.int (c : Int)])) := by
                show some (wordD (w ++ [(c : Int).toNat])) = _
                unfold wordD
                rw [Int.toNat_natCast, List.map_append]
                rfl
              simp! [wipeR, hi, ea, ef]
        · rintro ρ ⟨e, acc, y3, y5, he, rfl, w3, w5, hq, hl⟩
          have : e = [] := by
            cases e with
            | nil => rfl
            | cons a b => cases he
          subst this
          rw [List.flatMap_nil, List.append_nil] at hq
          subst hq
          simp! []
          exact ⟨_, _, _, _, rfl, .inr rfl, w3, rfl, w5⟩
    · rintro ρ ⟨x2, x3, x4, x5, rfl, h2, z3, z4, z5⟩
      rcases h2 with rfl | rfl
      · simp! []
        exact ⟨by decide, .inr trivial, trivial⟩
      · simp! []
        exact ⟨by decide, .inl trivial, trivial⟩
  obtain ⟨r, _, e, hr, rfl⟩ := w'
  exact ⟨r, e, hr⟩
/-! ### words -/
def cn (g : Nat) (w : List Nat) : List Nat := (List.range g).map fun c => w.count c
theorem cn_len (g : Nat) (w : List Nat) : (cn g w).length = g := by unfold cn; rw [List.length_map, List.length_range]
theorem cn_getD {g c : Nat} (w : List Nat) (h : c < g) : (cn g w).getD c 0 = w.count c := by
  unfold cn
  rw [List.getD_eq_getElem?_getD, List.getElem?_map, List.getElem?_range h]
  rfl
theorem cn_snoc {g c : Nat} (w : List Nat) (h : c < g) : cn g (w ++ [c]) = inc (cn g w) c := by
  have hl : c < (cn g w).length := by rw [cn_len]; exact h
  refine List.ext_getElem (by rw [cn_len, inc_len hl, cn_len]) fun i h1 h2 => ?_
  rw [cn_len] at h1
  have e := inc_getD (j := i) hl
  rw [cn_getD w h1, List.getD_eq_getElem?_getD, List.getElem?_eq_getElem h2] at e
  have e2 := cn_getD (w ++ [c]) h1
  rw [List.getD_eq_getElem?_getD, List.getElem?_eq_getElem (by rw [cn_len]; exact h1)] at e2
  show (cn g (w ++ [c]))[i] = (inc (cn g w) c)[i]
  have e : (inc (cn g w) c)[i] = w.count i + if i = c then 1 else 0 := e
  have e2 : (cn g (w ++ [c]))[i] = (w ++ [c]).count i := e2
  rw [e, e2, List.count_append]
  by_cases hic : i = c
  · subst hic
    simp
  · rw [if_neg hic, show [c].count i = 0 from List.count_eq_zero.mpr (by intro z; exact hic (List.mem_singleton.mp z))]
theorem cn_sum {g : Nat} : ∀ {n : Nat} {w : List Nat}, w ∈ wds g n → (cn g w).sum = n
  | 0, w, h => by
    cases List.mem_singleton.mp h
    unfold cn
    rw [show ((List.range g).map fun c => ([] : List Nat).count c) = List.replicate g 0 by rw [show (fun c : Nat => ([] : List Nat).count c) = fun _ => 0 from rfl, List.map_const', List.length_range]]
    simp
  | n + 1, w, h => by
    obtain ⟨v, hv, h2⟩ := List.mem_flatMap.mp h
    obtain ⟨c, hc, rfl⟩ := List.mem_map.mp h2
    have hc := List.mem_range.mp hc
    rw [cn_snoc v hc, inc_sum (by rw [cn_len]; exact hc), cn_sum hv]
def wsL (g n : Nat) : List Rat := (wds g n).map fun w => wG g (cn g w)
theorem ws_one {g : Nat} (g1 : 1 ≤ g) : ∀ n : Nat, sumR 0 (wsL g n) = 1
  | 0 => by
    show sumR 0 [wG g (cn g [])] = 1
    have e : wG g (cn g []) = 1 := by
      have es : cn g [] = List.replicate g 0 := by
        unfold cn
        rw [show (fun c : Nat => ([] : List Nat).count c) = fun _ => 0 from rfl, List.map_const', List.length_range]
      have ep : ∀ m : Nat, pf (List.replicate m 0) = 1 := fun m => by
        induction m with
        | zero => rfl
        | succ m ih => rw [List.replicate_succ]; show 1 * pf _ = 1; rw [ih]
      unfold wG
      rw [es, ep]
      have s0 : (List.replicate g 0).sum = 0 := by simp
      rw [s0, Nat.mul_one, Nat.zero_add]
      have := fac_pos (g - 1)
      exact Rat.divInt_self' (by omega)
    rw [e]
    show (0 : Rat) + 1 = 1
    rw [Rat.zero_add]
  | n + 1 => by
    rw [← ws_one g1 n]
    show sumR 0 (((wds g n).flatMap fun w => (List.range g).map fun c => w ++ [c]).map fun w => wG g (cn g w)) = sumR 0 ((wds g n).map fun w => wG g (cn g w))
    rw [List.map_flatMap, sumR_flat]
    refine congrArg (sumR 0) (List.map_congr_left fun w hw => ?_)
    rw [List.map_map]
    have e : ((List.range g).map ((fun w => wG g (cn g w)) ∘ fun c => w ++ [c])) = moreL (cn g w) := by
      unfold moreL
      rw [cn_len]
      exact List.map_congr_left fun c hc => by
        show wG g (cn g (w ++ [c])) = _
        rw [cn_snoc w (List.mem_range.mp hc)]
    rw [e, more_sum _ (by rw [cn_len]; exact g1), cn_len]
theorem ws_nat {g n : Nat} : wsL g n = ((wds g n).map fun w => fac (g - 1) * pf (cn g w)).map fun a : Nat => Rat.divInt a (fac (n + (g - 1)) : Nat) := by
  unfold wsL
  rw [List.map_map]
  refine List.map_congr_left fun w hw => ?_
  show wG g (cn g w) = Rat.divInt (fac (g - 1) * pf (cn g w) : Nat) (fac (n + (g - 1)) : Nat)
  unfold wG
  rw [cn_sum hw]
theorem ws_Sd {g n : Nat} (g1 : 1 ≤ g) (g3 : g ≤ 3) (hn : n ≤ 4) : (∀ x ∈ wsL g n, Sd x ∧ 0 < x.num) ∧ ∀ j ≤ (wsL g n).length, Sd (sumR 0 ((wsL g n).take j)) := by
  refine ⟨fun x hx => ?_, fun j hj => ?_⟩
  · obtain ⟨w, hw, rfl⟩ := List.mem_map.mp hx
    refine ⟨wG_Sd (by omega) (by rw [cn_len]; omega) (by rw [cn_sum hw]; omega), ?_⟩
    rw [(wG_parts g (cn g w)).1]
    decide
  · have f0 := fac_pos (n + (g - 1))
    have ll : (wds g n).length ≤ 81 := by
      rw [wds_len]
      exact Nat.le_trans (Nat.pow_le_pow_left g3 n) (Nat.le_trans (Nat.pow_le_pow_right (by decide) hn) (by decide))
    have fm : fac (n + (g - 1)) ≤ 720 := Nat.le_trans (fac_mono (show n + (g - 1) ≤ 6 by omega)) (by decide)
    have each : ∀ w ∈ wds g n, fac (g - 1) * pf (cn g w) ≤ 720 := fun w hw => by
      have := mu_fac (cn g w) (g - 1)
      rw [cn_sum hw, Nat.add_comm] at this
      have m0 := mu_pos (g - 1) (cn g w)
      have := Nat.le_mul_of_pos_right (fac (g - 1) * pf (cn g w)) m0
      omega
    rw [ws_nat, ← List.map_take, ← List.map_take]
    have := sumR_div (fac (n + (g - 1))) f0 (((wds g n).take j).map fun w => fac (g - 1) * pf (cn g w)) 0
    rw [Int.natCast_zero, Rat.zero_divInt, Nat.zero_add] at this
    rw [this]
    refine div_Sd f0 ?_ (Nat.lt_of_le_of_lt fm (Nat.lt_of_lt_of_le (show 720 < 2 ^ 10 by decide) (Nat.pow_le_pow_right (by decide) (by decide))))
    have sb := sum_le (k := 720) (((wds g n).take j).map fun w => fac (g - 1) * pf (cn g w)) fun x hx => by
      obtain ⟨w, hw, rfl⟩ := List.mem_map.mp hx
      exact each w (List.mem_of_mem_take hw)
    rw [List.length_map, List.length_take] at sb
    have := Nat.mul_le_mul_left 720 (show min j (wds g n).length ≤ 81 by omega)
    omega
theorem pf_small (k : List Nat) (h5 : k.length ≤ 5) (hk : ∀ n ∈ k, n ≤ 233) : fac (k.length - 1) * pf k < 2 ^ 8900 := by
  have e : ∀ l : List Nat, (∀ n ∈ l, n ≤ 233) → pf l ≤ (2 ^ 1510) ^ l.length := fun l => by
    induction l with
    | nil => intro _; exact Nat.le_refl _
    | cons n l ih =>
      intro h
      rw [List.length_cons, Nat.pow_succ, Nat.mul_comm]
      exact Nat.mul_le_mul (Nat.le_trans (fac_mono (h n List.mem_cons_self)) (Nat.le_of_lt fac_233)) (ih fun x hx => h x (List.mem_cons_of_mem _ hx))
  have h1 := e k hk
  rw [← Nat.pow_mul] at h1
  have h2 : fac (k.length - 1) ≤ 2 ^ 5 := Nat.le_trans (fac_mono (show k.length - 1 ≤ 4 by omega)) (by decide)
  have h3 := Nat.mul_le_mul h2 h1
  rw [← Nat.pow_add] at h3
  exact Nat.lt_of_le_of_lt h3 (Nat.pow_lt_pow_right (by decide) (by omega))
end K70

namespace K70
open PySem PySem.Spec PyProof.Rows L2 Ev
local macro_rules | `(tactic| simp! [$xs,*]) => `(tactic| simp only [Ev.p_pure, Ev.p_ok, Ev.p_toD, Ev.p_kDf, Ev.p_kDn, Ev.p_toV, Ev.p_kV, Ev.p_some, Ev.p_var, Ev.p_varF, Ev.p_varL, Ev.p_varO, Ev.p_varN, Ev.p_mov, Ev.p_movF, Ev.p_movL, Ev.p_movO, Ev.p_movN, Ev.p_ev2, Ev.p_k2, Ev.p_k2', Ev.p_ev2T, Ev.p_kT, Ev.p_kT', Ev.p_vb, Ev.p_ev1, Ev.p_evC, Ev.p_evL, Ev.p_evO, Ev.p_evSeq, Ev.p_tTruth, Ev.p_kf, Ev.p_cons, Ev.p_vcons, Ev.p_acons, Ev.p_kC1, Ev.p_kC2, Ev.p_arV, Ev.p_kAr, Ev.p_arR, Ev.p_arF, Ev.p_arOw, Ev.p_arN, Ev.p_arL, Ev.p_call, Ev.p_kL1, Ev.p_kL2, Ev.p_if, Ev.p_kIt, Ev.p_kIf, Ev.p_tAnd, Ev.p_tOr, Ev.p_tNot, Ev.p_kN, Ev.p_and, Ev.p_kA, Ev.p_or, Ev.p_kO, Ev.p_not, Ev.p_kNt, Ev.p_ixS, Ev.p_ixO, Ev.p_kX, Ev.p_kXO, Ev.p_slotD, Ev.p_slF, Ev.p_slO, Ev.p_slN, Ev.p_slL, Ev.p_seq, Ev.p_kSn, Ev.p_kSr, Ev.p_kSb, Ev.p_kSc, Ev.p_slot, Ev.p_setU, Ev.p_setF, Ev.p_setO, Ev.p_ofF, Ev.p_ofN, Ev.p_kNx, Ev.p_set, Ev.p_kSet, Ev.p_ret, Ev.p_kRt, Ev.p_expr, Ev.p_kEx, Ev.p_par, Ev.p_kPar, Ev.p_kSs, Ev.p_ss0, Ev.p_ss, Ev.p_asg, Ev.p_kAsg, Ev.p_unp, Ev.p_gs, Ev.p_kG, Ev.p_gs0, Ev.p_gIx, Ev.p_gIO, Ev.p_kUp, Ev.p_upd, Ev.p_upO, Ev.p_upN, Ev.p_upDt, Ev.p_upDf, Ev.p_put, Ev.p_mut, Ev.p_mutO, Ev.p_kNon, Ev.p_kM1, Ev.p_app, Ev.p_sl, Ev.p_kSl1, Ev.p_kSl2, Ev.p_kSl3, Ev.p_add, Ev.p_addL, Ev.p_i2, Ev.p_u1, Ev.p_lt, Ev.p_le, Ev.p_gt, Ev.p_ge, Ev.p_eqI, Ev.p_neI, Ev.p_eqS, Ev.p_neS, Ev.p_isB, Ev.p_isN, Ev.p_notN, Ev.p_tup, Ev.p_lst, Ev.p_abs, Ev.p_intI, Ev.p_intB, Ev.p_len, Ev.p_dlL, Ev.p_dlT, Ev.p_itL, Ev.p_itT, Ev.p_d, Ev.p_dn, Ev.p_rng1, Ev.p_rng2, Ev.p_lo0, Ev.p_lo1, Ev.p_lo2, Ev.p_lo3, Ev.p_lo4, Ev.p_lo5, Ev.p_lo6, Ev.p_lo7, Ev.p_lo8, Ev.p_lo9, Ev.p_lo10, Ev.p_lo11, Ev.p_lo12, Ev.p_lo13, Ev.p_lo14, Ev.p_lo15, Ev.p_lo16, Ev.p_lo17, Ev.p_lo18, Ev.p_lo19, Ev.p_lo20, Ev.p_lo21, Ev.p_lo22, Ev.p_lo23, Ev.p_lo24, Ev.p_p18, Ev.p_p40, Ev.p_lpN, Ev.p_lpC, Ev.p_lpB, Ev.p_lpR, Ev.p_for, Ev.p_whT, Ev.p_whF, Ev.p_lc, Ev.p_callAr, Ev.p_callO1, Ev.p_callO2, Ev.p_refV, Ev.p_refR, Ev.p_ref0, Ev.p_ga, Ev.p_ga0, Ev.p_gaO, Ev.p_gaV, Ev.p_gaR, Ev.p_leF, Ev.p_leL, Ev.p_leO, Ev.p_leN, Ev.p_sc, Ev.p_sc0, Ev.p_scN, Ev.p_scFs, Ev.p_scLs, Ev.p_scOn, Ev.p_scOl, Ev.p_scNn, Ev.p_scNl, Ev.p_fiR, Ev.p_fiV, Ev.p_fi0, Ev.fin_rt, Ev.fin_nx, Ev.ou_ln, Ev.ou_fz, Ev.ou_0, Ev.at_0, Ev.at_1, Ev.at_2, Ev.at_3, Ev.p_lenS, Ev.p_lenO, Ev.p_ex, Ev.p_raise, Ev.p_kRz, Ev.p_try, Ev.p_tryok, Ev.p_tryex, Ev.p_tryT, Ev.p_kTr, Ev.p_wip1, Ev.p_wipU, Ev.p_wipF, Ev.p_wip0, Ev.p_wipR, Ev.p_lam, Ev.p_frz0, Ev.p_frz, Ev.p_gdF, Ev.p_gdLf, Ev.p_gdO, Ev.p_gdL, Ev.p_kFr, Ev.p_kLam, Ev.p_lamO, Ev.p_coOk, Ev.p_coOl, Ev.p_coEx, Ev.p_fsF, Ev.p_fsL, Ev.p_fsO, Ev.p_fsN, Ev.p_fsU, Ev.p_clo, Ev.p_cloO, Ev.p_coDk, Ev.p_coDx, Ev.ou_cl, Ev.p_setC, Ev.p_callO2x, Ev.p_callV, Ev.p_kCV, Ev.p_runV, Ev.p_kRV, Ev.p_isX, Ev.p_isoE, Ev.p_isoN, Ev.p_tst, Ev.p_fld, Ev.p_fl1, Ev.p_setK, Ev.p_kLp, Ev.p_maxL, Ev.p_maxT, Ev.p_max, Ev.p_min, Ev.p_bits, Ev.p_zipL, Ev.p_zipT, Ev.p_zipA, Ev.p_zipB, Ev.p_dnuT, Ev.p_dnum, Ev.p_join, Ev.p_kJ1, Ev.p_kJ2, Ev.p_slA, Ev.p_kSa1, Ev.p_kSa2, Ev.p_kSa3, Ev.p_raise2, Ev.p_kRz2, Ev.p_lk1, Ev.p_lk2, Ev.p_omap, Ev.p_fldO, Ev.p_fldS, Ev.p_ofld, Ev.p_gFld, Ev.p_fo0, Ev.p_fo1, Ev.p_fo2, Ev.p_fo3, Ev.p_fo4, Ev.p_fo5, Ev.p_fo6, Ev.p_fo7, Ev.p_fo8, Ev.p_fo9, Ev.p_fo10, Ev.p_fo11, Ev.p_putO, Ev.p_put0, Ev.p_put1, Ev.p_put2, Ev.p_make, Ev.p_kMk, Ev.p_mkO, Ev.p_mkEnd, Ev.p_mkEx, Ev.p_mkSl, Ev.p_mkSf, Ev.p_bisO, Ev.p_star, Ev.p_kSt1, Ev.p_kSt2, Ev.p_kSt3, Ev.p_ds2L, Ev.p_ds2T, Ev.p_ext, Ev.p_nn, Ev.p_nI, Ev.p_nO, Ev.p_nT, Ev.p_nL, Ev.p_nS, Ev.p_bn1, Ev.p_bn2, Ev.p_chT, Ev.p_kCh1, Ev.p_kCh2, Ev.p_kCh3t, Ev.p_kCh3f, Ev.p_kCh4, Ev.p_take0, Ev.p_takeS, Ev.p_dct, Ev.p_kDc1, Ev.p_kDc2, Ev.p_mkDct, Ev.p_dget, Ev.p_dgO, Ev.p_kDg1, Ev.p_getT, Ev.p_gtO, Ev.p_dput, Ev.p_dPut1, Ev.p_dpO, Ev.p_kDp2, Ev.p_putT, Ev.p_items, Ev.p_itemsT, Ev.p_lc2, Ev.p_evEx, Ev.p_ex1, Ev.p_ex2, Ev.p_ex2s, Ev.p_isVE, Ev.p_neW, Ev.p_sort, Ev.p_notB, Ev.p_rev, Ev.p_bind, Ev.q_ok, List.getElem?_cons_zero, List.getElem?_cons_succ, List.set_cons_zero, List.set_cons_succ, List.length_cons, List.length_nil, List.cons_append, List.nil_append, Option.map_some, ↓reduceIte, Bool.not_true, Bool.not_false, decide_true, decide_false, Ev.p_div, Ev.p_mod, Ev.p_pow, Ev.p_mul, Ev.dist, List.contains_cons, List.contains_nil, Bool.or_false, Bool.false_and, Bool.and_true, Bool.true_and, Nat.reduceAdd, Nat.reduceBEq, Ev.permN, Ev.perm, List.map_cons, List.map_nil, List.getD_cons_zero, List.getD_cons_succ, and_self, cond_true, cond_false, Int.cast_ofNat_Int, Int.natCast_one, Int.natCast_zero, Int.reduceEq, Int.reduceLE, Int.reduceLT, Int.reduceNeg, Int.reduceGT, Int.reduceAdd, Int.reduceMul, Int.reduceSub, Int.reduceToNat, Int.reducePow, Int.reduceNe, reduceCtorEq, eq_self, Nat.reduceBEq, $xs,*])
theorem num_reprW {q : Rat} {k : Nat} (h : Bq k q) (hk : k ≤ 12900) : bReprW [num q] = some (.fz (.str (shw (num q)))) := by
  have d1 := num_dep q
  have r1 := rszW_num q
  exact p_reprW (niceW_num h hk) (by omega) (by omega)
theorem wG_Bq {g : Nat} (g5 : g ≤ 5) {l : List Nat} (hl : l.length ≤ 5) (hs : l.sum ≤ 1180) : Bq 6000 (wG g l) := by
  have h := wG_Sd g5 hl hs
  exact ⟨Nat.lt_trans h.nn (Nat.pow_lt_pow_right (by decide) (by decide)), h.d⟩
/-- counts drawn -/
theorem counts_lc {k g : Nat} {t : D} (h : Tr k t) (hk : k ≤ 60000) (g5 : g ≤ 5) (s0 s2 s3 s4 s5 s6 s7 : Sl) :
    Wq (kLc [11] (fun d => setSlot 11 (.fz d)) (mpure true) (toD (evCall m_law_one_of 2 (fun as _ => as) (arCons (arR 1) (arCons (arV (toD (evC mkLst (evCons (mpure (.int 0)) (evCons (mpure (.int 1)) (evCons (mpure (.int 2)) (evCons (toD (evCall m_law_draw 2 (fun as _ => as) (arCons (arR 1) (arCons (arV (mpure (.int 9))) (mpure []))) (mpure []))) (evCons (toD (ev2 opMul (toD (evCall m_law_draw 2 (fun as _ => as) (arCons (arR 1) (arCons (arV (mpure (.int 9))) (mpure []))) (mpure []))) (toD (evCall m_law_draw 2 (fun as _ => as) (arCons (arR 1) (arCons (arV (mpure (.int 30))) (mpure []))) (mpure []))))) (mpure []))))))))) (mpure []))) (mpure []))) (rangeL 0 g) [s0, .ow t, s2, s3, s4, s5, s6, s7, .un, .un, .un, .un, .un])
    fun r ρ => ∃ ys, r = .nw (.lst ys) ∧ ∃ (c : List Nat) (t' : D), ys = c.map iD ∧ ρ = [s0, .ow t', s2, s3, s4, s5, s6, s7, .un, .un, .un, .un, .un] ∧ Tr (k + 20) t' ∧ c.length = g ∧ ∀ n ∈ c, n ≤ 232 := by
  refine lc_inv (P := fun ys ρ => ∃ (c : List Nat) (t' : D), ys = c.map iD ∧ ρ = [s0, .ow t', s2, s3, s4, s5, s6, s7, .un, .un, .un, .un, .un] ∧ Tr (k + 20) t' ∧ c.length = g ∧ ∀ n ∈ c, n ≤ 232)
    (I := fun ds ys ρ => ∃ (c : List Nat) (t' : D) (k3 : Nat) (s : Sl), ys = c.map iD ∧ ρ = [s0, .ow t', s2, s3, s4, s5, s6, s7, .un, .un, .un, s, .un] ∧ Tr k3 t' ∧ k3 + 4 * ds.length ≤ k + 20 ∧ c.length + ds.length = g ∧ ∀ n ∈ c, n ≤ 232) rfl (by rw [rangeL_len]; omega) ?_ ?_ ?_
  · rintro d ds ys ρ ⟨c, t', k3, s, rfl, rfl, h3, hk3, hl3, hp⟩
    rw [List.length_cons] at hk3 hl3
    obtain ⟨r4, t4, e4, h4, a4, b4⟩ := lift_sp h3 (by omega) 9 (by decide) (by decide)
    obtain ⟨r5, t5, e5, h5, a5, b5⟩ := lift_sp h4 (by omega) 9 (by decide) (by decide)
    obtain ⟨r6, t6, e6, h6, a6, b6⟩ := lift_sp h5 (by omega) 30 (by decide) (by decide)
    have mo : mulOk r5 r6 = true := mulOk_of (a := 10) (b := 10) (by omega) (by omega) (by decide)
    obtain ⟨d, t7, e7, h7, m7⟩ := pick_sp h6 (by omega) [.int 0, .int 1, .int 2, .int r4, .int (r5 * r6)] (by simp) (by simp)
    obtain ⟨n, rfl, hn⟩ : ∃ n : Nat, d = .int (n : Nat) ∧ n ≤ 232 := by
      obtain ⟨n4, rfl⟩ := Int.eq_ofNat_of_zero_le a4
      obtain ⟨n5, rfl⟩ := Int.eq_ofNat_of_zero_le a5
      obtain ⟨n6, rfl⟩ := Int.eq_ofNat_of_zero_le a6
      simp only [List.mem_cons, List.not_mem_nil, or_false] at m7
      rcases m7 with rfl | rfl | rfl | rfl | rfl
      · exact ⟨0, rfl, by omega⟩
      · exact ⟨1, rfl, by omega⟩
      · exact ⟨2, rfl, by omega⟩
      · exact ⟨n4, rfl, by omega⟩
      · refine ⟨n5 * n6, by rw [Int.natCast_mul], ?_⟩
        have := Nat.mul_le_mul (show n5 ≤ 8 by omega) (show n6 ≤ 29 by omega)
        omega
    simp! [wipeR, e4, e5, e6, mo, e7]
    refine ⟨c ++ [n], t7, _, _, by rw [List.map_append]; rfl, rfl, h7, by omega, by rw [List.length_append, List.length_singleton]; omega, fun x hx => ?_⟩
    rcases List.mem_append.mp hx with hx | hx
    · exact hp x hx
    · cases List.mem_singleton.mp hx; exact hn
  · rintro ys ρ' ⟨c, t', k3, s, rfl, rfl, h3, hk3, hl3, hp⟩
    exact ⟨rfl, c, t', rfl, rfl, h3.le (by simpa using hk3), by simpa using hl3, hp⟩
  · exact ⟨[], t, k, .un, rfl, rfl, h, by rw [rangeL_len]; omega, by simp [rangeL_len], fun n hn => by cases hn⟩
theorem cut_lo (l : List D) (k : Nat) (h : k ≤ l.length) : cutOf none (some (k : Int)) (.lst l) = some (.nw (.lst (l.take k))) := by
  show some (Vl.nw (D.lst (Ev.cutD l none (some (k : Int))))) = _
  unfold Ev.cutD
  rw [HT.sIx_none, HT.sIx_nat, List.drop_zero, Nat.sub_zero, Nat.min_eq_left h]
theorem cut_hi (l : List D) (k : Nat) (h : k ≤ l.length) : cutOf (some (k : Int)) none (.lst l) = some (.nw (.lst (l.drop k))) := by
  show some (Vl.nw (D.lst (Ev.cutD l (some (k : Int)) none))) = _
  unfold Ev.cutD
  rw [HT.sIx_none, HT.sIx_nat, Nat.min_eq_left h, List.take_of_length_le (by rw [List.length_drop]; omega)]
def moreF (c : List Nat) : D → Option D
  | .int j => some (P (wG c.length (inc c j.toNat)))
  | _ => Option.none
theorem moreF_map (c : List Nat) : (rangeL 0 c.length).filterMap (moreF c) = (moreL c).map P := by
  unfold rangeL moreL
  rw [List.filterMap_map, List.map_map]
  have : ∀ l : List Nat, l.filterMap (moreF c ∘ fun (i : Nat) => D.int (0 + i)) = l.map (P ∘ fun j => wG c.length (inc c j)) := fun l => by
    induction l with
    | nil => rfl
    | cons x l ih =>
      rw [List.filterMap_cons_some (b := P (wG c.length (inc c x))) (by show some (P (wG c.length (inc c ((0 : Int) + x).toNat))) = _; rw [Int.zero_add, Int.toNat_natCast]), ih]
      rfl
  exact this _
theorem P_pl (q : Rat) : pl (P q) = true ∧ dep (P q) ≤ 1 := ⟨rfl, by unfold P; simp [dep, deps]⟩
theorem neP (q : Rat) : neA (P q) (P q) = some (.fz (.bl false)) := by
  rw [p_neD (P_pl q).1 (P_pl q).1 (by have := (P_pl q).2; omega) (by have := (P_pl q).2; omega), deq_refl _ (P_pl q).1]
  rfl
theorem inc_le {c : List Nat} {m j : Nat} (hc : ∀ n ∈ c, n ≤ m) (h : j < c.length) : ∀ n ∈ inc c j, n ≤ m + 1 := fun n hn => by
  unfold inc at hn
  rcases List.mem_append.mp hn with hn | hn
  · have := hc n (List.mem_of_mem_take hn); omega
  · rcases List.mem_cons.mp hn with rfl | hn
    · rw [List.getD_eq_getElem?_getD, List.getElem?_eq_getElem h]
      have := hc _ (List.getElem_mem h)
      show c[j] + 1 ≤ m + 1
      omega
    · have := hc n (List.mem_of_mem_drop hn); omega
noncomputable def turnB : M Fl := (mseq (evSet 3 (ev2 opAdd (mpure (.int 1)) (toD (evCall m_law_draw 2 (fun as _ => as) (arCons (arR 1) (arCons (arV (mpure (.int 5))) (mpure []))) (mpure [])))))
    (mseq (evSet 4 (mLc [11] (Ev.evL rng1 (evCons (evVar 3) (mpure []))) (fun d => setSlot 11 (.fz d)) (mpure true) (toD (evCall m_law_one_of 2 (fun as _ => as) (arCons (arR 1) (arCons (arV (toD (evC mkLst (evCons (mpure (.int 0)) (evCons (mpure (.int 1)) (evCons (mpure (.int 2)) (evCons (toD (evCall m_law_draw 2 (fun as _ => as) (arCons (arR 1) (arCons (arV (mpure (.int 9))) (mpure []))) (mpure []))) (evCons (toD (ev2 opMul (toD (evCall m_law_draw 2 (fun as _ => as) (arCons (arR 1) (arCons (arV (mpure (.int 9))) (mpure []))) (mpure []))) (toD (evCall m_law_draw 2 (fun as _ => as) (arCons (arR 1) (arCons (arV (mpure (.int 30))) (mpure []))) (mpure []))))) (mpure []))))))))) (mpure []))) (mpure [])))))
    (mseq (evSet 5 (evCall m_law_even 1 (fun as _ => as) (arCons (arV (evVar 4)) (mpure [])) (mpure [])))
    (mseq (evIf (ev2T neA (toD (evC bReprW (evCons (toD (evC mkLst (evCons (toD (evCall m_even_weight 1 (fun as _ => as) (arCons (arV (evVar 4)) (mpure [])) (mpure []))) (evCons (toD (evCall m_even_weight 1 (permN (.v .non) 0 1 [0]) (mpure []) (arCons (arV (toD (evC bTuple (evCons (evVar 4) (mpure []))))) (mpure [])))) (mpure []))))) (mpure [])))) (toD (evC bReprW (evCons (toD (ev2 opMul (toD (evC mkLst (evCons (toD (evCall m_law_number 1 (fun as _ => as) (arCons (arV (evVar 5)) (mpure [])) (mpure []))) (mpure [])))) (mpure (.int 2)))) (mpure [])))))
    (evRet (toV (mpure (.bl false))))
    (mpure .nx))
    (mseq (evSet 6 (mLc [11] (Ev.evL rng1 (evCons (evVar 3) (mpure []))) (fun d => setSlot 11 (.fz d)) (mpure true) (toD (evCall m_law_even 1 (fun as _ => as) (arCons (arV (toD (ev2 opAdd (toD (ev2 opAdd (toD (evSl (evVar 4) (mpure none) (evO (evVar 11)))) (toD (evC mkLst (evCons (toD (ev2 opAdd (toD (evIxS 4 (evVar 11))) (mpure (.int 1)))) (mpure [])))))) (toD (evSl (evVar 4) (evO (toD (ev2 opAdd (evVar 11) (mpure (.int 1))))) (mpure none)))))) (mpure [])) (mpure [])))))
    (mseq (evIf (tOr' (ev2T neA (toD (evCall m_law_sum 1 (fun as _ => as) (arCons (arV (evVar 6)) (mpure [])) (mpure []))) (evVar 5)) (ev2T neA (toD (evC bReprW (evCons (toD (evCall m_even_weight 1 (fun as _ => as) (arCons (arV (toD (ev2 opAdd (toD (evSl (evVar 4) (mpure none) (evO (toD (ev1 (u1 fun i => .int (-i)) (mpure (.int 1))))))) (toD (evC mkLst (evCons (toD (ev2 opAdd (toD (evIxS 4 (toD (ev1 (u1 fun i => .int (-i)) (mpure (.int 1)))))) (mpure (.int 1)))) (mpure []))))))) (mpure [])) (mpure []))) (mpure [])))) (toD (evC bReprW (evCons (toD (evCall m_law_number 1 (fun as _ => as) (arCons (arV (toD (evIxS 6 (toD (ev1 (u1 fun i => .int (-i)) (mpure (.int 1))))))) (mpure [])) (mpure []))) (mpure []))))))
    (evRet (toV (mpure (.bl false))))
    (mpure .nx))
    (mseq (evSet 7 (evCall m_law_one_of 2 (fun as _ => as) (arCons (arR 1) (arCons (arV (toD (evC mkLst (evCons (mpure (.int 3)) (evCons (mpure (.int 0)) (evCons (mpure (.int 1)) (evCons (mpure (.int 12)) (evCons (toD (evCall m_law_draw 2 (fun as _ => as) (arCons (arR 1) (arCons (arV (mpure (.int 60))) (mpure []))) (mpure []))) (evCons (toD (evIf (ev2T cLt (evVar 3) (mpure (.int 3))) (toV (mpure (.int 1000))) (toV (mpure (.int 200))))) (mpure [])))))))))) (mpure []))) (mpure [])))
    (evIf (ev2T neA (toD (evC bReprW (evCons (toD (evC mkLst (evCons (toD (evCall m_even_factor 2 (fun as _ => as) (arCons (arV (evVar 3)) (arCons (arV (evVar 7)) (mpure []))) (mpure []))) (evCons (toD (evCall m_even_factor 2 (permN (.v .non) 0 2 [1, 0]) (mpure []) (arCons (arV (evVar 7)) (arCons (arV (evVar 3)) (mpure []))))) (mpure []))))) (mpure [])))) (toD (evC bReprW (evCons (toD (ev2 opMul (toD (evC mkLst (evCons (toD (evCall m_law_triangle 2 (fun as _ => as) (arCons (arV (evVar 3)) (arCons (arV (evVar 7)) (mpure []))) (mpure []))) (mpure [])))) (mpure (.int 2)))) (mpure [])))))
    (evRet (toV (mpure (.bl false))))
    (mpure .nx)))))))))
theorem turnB_eq : (mseq (evSet 3 (ev2 opAdd (mpure (.int 1)) (toD (evCall m_law_draw 2 (fun as _ => as) (arCons (arR 1) (arCons (arV (mpure (.int 5))) (mpure []))) (mpure [])))))
    (mseq (evSet 4 (mLc [11] (Ev.evL rng1 (evCons (evVar 3) (mpure []))) (fun d => setSlot 11 (.fz d)) (mpure true) (toD (evCall m_law_one_of 2 (fun as _ => as) (arCons (arR 1) (arCons (arV (toD (evC mkLst (evCons (mpure (.int 0)) (evCons (mpure (.int 1)) (evCons (mpure (.int 2)) (evCons (toD (evCall m_law_draw 2 (fun as _ => as) (arCons (arR 1) (arCons (arV (mpure (.int 9))) (mpure []))) (mpure []))) (evCons (toD (ev2 opMul (toD (evCall m_law_draw 2 (fun as _ => as) (arCons (arR 1) (arCons (arV (mpure (.int 9))) (mpure []))) (mpure []))) (toD (evCall m_law_draw 2 (fun as _ => as) (arCons (arR 1) (arCons (arV (mpure (.int 30))) (mpure []))) (mpure []))))) (mpure []))))))))) (mpure []))) (mpure [])))))
    (mseq (evSet 5 (evCall m_law_even 1 (fun as _ => as) (arCons (arV (evVar 4)) (mpure [])) (mpure [])))
    (mseq (evIf (ev2T neA (toD (evC bReprW (evCons (toD (evC mkLst (evCons (toD (evCall m_even_weight 1 (fun as _ => as) (arCons (arV (evVar 4)) (mpure [])) (mpure []))) (evCons (toD (evCall m_even_weight 1 (permN (.v .non) 0 1 [0]) (mpure []) (arCons (arV (toD (evC bTuple (evCons (evVar 4) (mpure []))))) (mpure [])))) (mpure []))))) (mpure [])))) (toD (evC bReprW (evCons (toD (ev2 opMul (toD (evC mkLst (evCons (toD (evCall m_law_number 1 (fun as _ => as) (arCons (arV (evVar 5)) (mpure [])) (mpure []))) (mpure [])))) (mpure (.int 2)))) (mpure [])))))
    (evRet (toV (mpure (.bl false))))
    (mpure .nx))
    (mseq (evSet 6 (mLc [11] (Ev.evL rng1 (evCons (evVar 3) (mpure []))) (fun d => setSlot 11 (.fz d)) (mpure true) (toD (evCall m_law_even 1 (fun as _ => as) (arCons (arV (toD (ev2 opAdd (toD (ev2 opAdd (toD (evSl (evVar 4) (mpure none) (evO (evVar 11)))) (toD (evC mkLst (evCons (toD (ev2 opAdd (toD (evIxS 4 (evVar 11))) (mpure (.int 1)))) (mpure [])))))) (toD (evSl (evVar 4) (evO (toD (ev2 opAdd (evVar 11) (mpure (.int 1))))) (mpure none)))))) (mpure [])) (mpure [])))))
    (mseq (evIf (tOr' (ev2T neA (toD (evCall m_law_sum 1 (fun as _ => as) (arCons (arV (evVar 6)) (mpure [])) (mpure []))) (evVar 5)) (ev2T neA (toD (evC bReprW (evCons (toD (evCall m_even_weight 1 (fun as _ => as) (arCons (arV (toD (ev2 opAdd (toD (evSl (evVar 4) (mpure none) (evO (toD (ev1 (u1 fun i => .int (-i)) (mpure (.int 1))))))) (toD (evC mkLst (evCons (toD (ev2 opAdd (toD (evIxS 4 (toD (ev1 (u1 fun i => .int (-i)) (mpure (.int 1)))))) (mpure (.int 1)))) (mpure []))))))) (mpure [])) (mpure []))) (mpure [])))) (toD (evC bReprW (evCons (toD (evCall m_law_number 1 (fun as _ => as) (arCons (arV (toD (evIxS 6 (toD (ev1 (u1 fun i => .int (-i)) (mpure (.int 1))))))) (mpure [])) (mpure []))) (mpure []))))))
    (evRet (toV (mpure (.bl false))))
    (mpure .nx))
    (mseq (evSet 7 (evCall m_law_one_of 2 (fun as _ => as) (arCons (arR 1) (arCons (arV (toD (evC mkLst (evCons (mpure (.int 3)) (evCons (mpure (.int 0)) (evCons (mpure (.int 1)) (evCons (mpure (.int 12)) (evCons (toD (evCall m_law_draw 2 (fun as _ => as) (arCons (arR 1) (arCons (arV (mpure (.int 60))) (mpure []))) (mpure []))) (evCons (toD (evIf (ev2T cLt (evVar 3) (mpure (.int 3))) (toV (mpure (.int 1000))) (toV (mpure (.int 200))))) (mpure [])))))))))) (mpure []))) (mpure [])))
    (evIf (ev2T neA (toD (evC bReprW (evCons (toD (evC mkLst (evCons (toD (evCall m_even_factor 2 (fun as _ => as) (arCons (arV (evVar 3)) (arCons (arV (evVar 7)) (mpure []))) (mpure []))) (evCons (toD (evCall m_even_factor 2 (permN (.v .non) 0 2 [1, 0]) (mpure []) (arCons (arV (evVar 7)) (arCons (arV (evVar 3)) (mpure []))))) (mpure []))))) (mpure [])))) (toD (evC bReprW (evCons (toD (ev2 opMul (toD (evC mkLst (evCons (toD (evCall m_law_triangle 2 (fun as _ => as) (arCons (arV (evVar 3)) (arCons (arV (evVar 7)) (mpure []))) (mpure []))) (mpure [])))) (mpure (.int 2)))) (mpure [])))))
    (evRet (toV (mpure (.bl false))))
    (mpure .nx))))))))) = turnB := rfl
theorem turn_law {k m : Nat} {t : D} (h : Tr k t) (hk : k ≤ 30000) (s0 x3 x4 x5 x6 x7 : Sl) (z3 : setOk x3 = true) (z4 : setOk x4 = true) (z5 : setOk x5 = true) (z6 : setOk x6 = true) (z7 : setOk x7 = true) :
    Wq (turnB [s0, .ow t, .fz (.int m), x3, x4, x5, x6, x7, .un, .un, .un, .un, .un]) fun f ρ => f = .nx ∧ ∃ t' y3 y4 y5 y6 y7, ρ = [s0, .ow t', .fz (.int m), y3, y4, y5, y6, y7, .un, .un, .un, .un, .un] ∧ Tr (k + 100) t' ∧ setOk y3 = true ∧ setOk y4 = true ∧ setOk y5 = true ∧ setOk y6 = true ∧ setOk y7 = true := by
  obtain ⟨r1, t1, e1, h1, a1, b1⟩ := lift_sp h (by omega) 5 (by decide) (by decide)
  obtain ⟨r, rfl⟩ := Int.eq_ofNat_of_zero_le a1
  generalize hg : 1 + r = g
  have g1 : 1 ≤ g := by omega
  have g5 : g ≤ 5 := by omega
  have eg : (1 : Int) + (r : Int) = (g : Nat) := by omega
  have er : rng1 [.int (g : Nat)] = some (rangeL 0 g) := by
    rw [Ev.p_rng1 _ (inR_of (by omega) (by omega)), Int.toNat_natCast]
  unfold turnB
  simp! [p_setK _ _ z3, p_setK _ _ z4, e1, eg, er]
  repeat rw [q_bind]
  refine Wq.mono (counts_lc h1 (by omega) g5 _ _ _ _ _ _ _) ?_
  rintro r ρ ⟨ys, rfl, c, t2, rfl, rfl, h2, lc, hc⟩
  subst lc
  have cs : c.sum ≤ 1160 := by
    have := sum_le c hc
    have := Nat.mul_le_mul_left 232 g5
    omega
  have ee := even_sp g1 g5 (show c.sum ≤ 1180 by omega)
  have bt : bTuple [.lst (c.map iD)] = some (.fz (.tup (c.map iD))) := rfl
  have ps := pf_small c g5 fun n hn => by have := hc n hn; omega
  have w1 := even_weight_sp (d := .lst (c.map iD)) (.inl rfl) g1 g5 (by omega) ps fun n hn => by have := hc n hn; omega
  have w2 := even_weight_sp (d := .tup (c.map iD)) (.inr rfl) g1 g5 (by omega) ps fun n hn => by have := hc n hn; omega
  have bq := wG_Bq g5 g5 (show c.sum ≤ 1180 by omega)
  have rp := two_reprW bq (by decide)
  have ln := lnumber_sp (wG c.length c)
  have ll : (c.map iD).length = c.length := List.length_map ..
  simp! [p_setK _ _ z4, p_setK _ _ z5, p_setK _ _ z6, ee, w1, bt, w2, twice, ln, rp, p_neS, er]
  rw [lc_eq (moreF c) rfl (by rw [rangeL_len]; omega) (fun d hd => ?_)]
  · rw [moreF_map]
    obtain ⟨m1, m2⟩ := more_Sd c g1 g5 (by omega)
    have ls := lsum_sp (moreL c) m1 m2 (.fz (.lst ((moreL c).map P))) _ (.inl ⟨rfl, rfl⟩)
    rw [more_sum c g1] at ls
    have ne := neP (wG c.length c)
    have hlast : c.length - 1 < c.length := by omega
    have cu : cutOf none (some (-1)) (.lst (c.map iD)) = some (.nw (.lst ((c.take (c.length - 1)).map iD))) := by
      show some (Vl.nw (D.lst (Ev.cutD (c.map iD) none (some (-1))))) = _
      unfold Ev.cutD
      have e1 : HT.sIx (c.map iD).length 0 none = 0 := rfl
      have e2 : HT.sIx (c.map iD).length (c.map iD).length (some (-1)) = c.length - 1 := by
        rw [ll]
        unfold HT.sIx
        simp
        omega
      rw [e1, e2, List.drop_zero, Nat.sub_zero, List.map_take]
    have ai : ∀ i : Int, asInt (.int i) = some (some i) := fun _ => rfl
    have al : atI (c.map iD) (-1) = some (.int (c.getD (c.length - 1) 0 : Nat)) := by
      rw [Ev.at_neg (j := 1) (show (-1 : Int) = -((1 : Nat) : Int) from rfl) (by decide) (by omega), ll, List.getElem?_map, List.getElem?_eq_getElem hlast, List.getD_eq_getElem?_getD, List.getElem?_eq_getElem hlast]
      rfl
    have inc1 : (c.take (c.length - 1)).map iD ++ [.int ((c.getD (c.length - 1) 0 : Nat) + 1 : Int)] = (inc c (c.length - 1)).map iD := by
      unfold inc
      rw [List.map_append, List.map_cons, show c.length - 1 + 1 = c.length by omega, List.drop_length]
      rfl
    have ad : opAdd (.lst ((c.take (c.length - 1)).map iD)) (.lst [.int ((c.getD (c.length - 1) 0 : Nat) + 1 : Int)]) = some (.nw (.lst ((inc c (c.length - 1)).map iD))) := by
      rw [← inc1]
      exact p_addL _ _ (decide_eq_true (by rw [List.length_map, List.length_take, List.length_singleton]; omega))
    have li := inc_len hlast
    have si := inc_sum hlast
    have w3 := even_weight_sp (d := .lst ((inc c (c.length - 1)).map iD)) (.inl rfl) (by rw [li]; exact g1) (by rw [li]; exact g5) (by rw [li, si]; omega) (pf_small _ (by rw [li]; exact g5) fun n hn => by
      have := inc_le hc hlast n hn
      omega) fun n hn => by have := inc_le hc hlast n hn; omega
    rw [li] at w3
    have b3 := wG_Bq (l := inc c (c.length - 1)) g5 (by rw [li]; exact g5) (by rw [si]; omega)
    have r3 := num_reprW b3 (by decide)
    have lm : ((moreL c).map P).length = c.length := by unfold moreL; rw [List.length_map, List.length_map, List.length_range]
    have am : atI ((moreL c).map P) (-1) = some (P (wG c.length (inc c (c.length - 1)))) := by
      rw [Ev.at_neg (j := 1) (show (-1 : Int) = -((1 : Nat) : Int) from rfl) (by decide) (by omega), lm, List.getElem?_map]
      unfold moreL
      rw [List.getElem?_map, List.getElem?_range hlast]
      rfl
    have ln3 := lnumber_sp (wG c.length (inc c (c.length - 1)))
    obtain ⟨r4, t4, e4, h4, a4, b4⟩ := lift_sp h2 (by omega) 60 (by decide) (by decide)
    have pick : ∀ u : Int, u = 1000 ∨ u = 200 → ∃ (n : Nat) (t5 : D), m_law_one_of [.ln t4, .fz (.lst [.int 3, .int 0, .int 1, .int 12, .int r4, .int u])] = .ok (.fz (.int (n : Nat))) [.ln t5, .fz (.lst [.int 3, .int 0, .int 1, .int 12, .int r4, .int u])] ∧ Tr (k + 100) t5 ∧ n ≤ 1000 := fun u hu => by
      obtain ⟨d, t5, e5, h5, m5⟩ := pick_sp h4 (by omega) [.int 3, .int 0, .int 1, .int 12, .int r4, .int u] (by simp) (by simp)
      obtain ⟨n4, rfl⟩ := Int.eq_ofNat_of_zero_le a4
      simp only [List.mem_cons, List.not_mem_nil, or_false] at m5
      rcases m5 with rfl | rfl | rfl | rfl | rfl | rfl
      · exact ⟨3, t5, e5, h5.le (by omega), by omega⟩
      · exact ⟨0, t5, e5, h5.le (by omega), by omega⟩
      · exact ⟨1, t5, e5, h5.le (by omega), by omega⟩
      · exact ⟨12, t5, e5, h5.le (by omega), by omega⟩
      · exact ⟨n4, t5, e5, h5.le (by omega), by omega⟩
      · rcases hu with rfl | rfl
        · exact ⟨1000, t5, e5, h5.le (by omega), by omega⟩
        · exact ⟨200, t5, e5, h5.le (by omega), by omega⟩
    have last : ∀ n : Nat, n ≤ 1000 → m_even_factor [.fz (.int c.length), .fz (.int n)] = .ok (.fz (.int (ch (n + c.length - 1) (c.length - 1) : Nat))) [.fz (.int c.length), .fz (.int n)] ∧ m_law_triangle [.fz (.int c.length), .fz (.int n)] = .ok (.fz (.int (ch (n + c.length - 1) (c.length - 1) : Nat))) [.fz (.int c.length), .fz (.int n)] ∧
        bReprW [.lst [.int (ch (n + c.length - 1) (c.length - 1) : Nat), .int (ch (n + c.length - 1) (c.length - 1) : Nat)]] = some (.fz (.str (shw (.lst [.int (ch (n + c.length - 1) (c.length - 1) : Nat), .int (ch (n + c.length - 1) (c.length - 1) : Nat)])))) := fun n hn => by
      refine ⟨even_factor_sp _ n g1 g5 hn, triangle_sp _ n g1 g5 hn, ?_⟩
      have b := ch_lt2 (n := n + c.length - 1) (by omega) (c.length - 1)
      have := two_reprW (q := ((ch (n + c.length - 1) (c.length - 1) : Nat) : Int)) (k := 1101) ⟨by rw [Rat.num_intCast]; exact b, by rw [Rat.den_intCast]; exact Nat.one_lt_two_pow (by decide)⟩ (by decide)
      rw [num_int] at this
      exact this
    have tw : ∀ x : D, opMul (.lst [x]) (.int 2) = some (.nw (.lst [x, x])) := fun _ => rfl
    by_cases lt3 : (c.length : Int) < 3
    · obtain ⟨n, t5, e5, h5, hn⟩ := pick 1000 (.inl rfl)
      obtain ⟨f1, f2, f3⟩ := last n hn
      simp! [p_setK _ _ z6, p_setK _ _ z7, ls, ne, cu, ai, al, ad, w3, r3, am, ln3, p_neS, e4, decide_eq_true lt3, e5, f1, f2, f3, tw]
      exact ⟨trivial, t5, _, _, _, _, _, rfl, h5, rfl, rfl, rfl, rfl, rfl⟩
    · obtain ⟨n, t5, e5, h5, hn⟩ := pick 200 (.inr rfl)
      obtain ⟨f1, f2, f3⟩ := last n hn
      simp! [p_setK _ _ z6, p_setK _ _ z7, ls, ne, cu, ai, al, ad, w3, r3, am, ln3, p_neS, e4, decide_eq_false lt3, e5, f1, f2, f3, tw]
      exact ⟨trivial, t5, _, _, _, _, _, rfl, h5, rfl, rfl, rfl, rfl, rfl⟩
  · obtain ⟨j, hj0⟩ := List.mem_iff_getElem?.mp hd
    obtain ⟨rfl, hj⟩ := rangeL_at hj0
    have ai : ∀ i : Int, asInt (.int i) = some (some i) := fun _ => rfl
    have c1 := cut_lo (c.map iD) j (by omega)
    have c2 := cut_hi (c.map iD) (j + 1) (by omega)
    rw [show ((j + 1 : Nat) : Int) = (j : Int) + 1 by omega] at c2
    have at1 : atI (c.map iD) ((j : Nat) : Int) = some (.int (c.getD j 0 : Nat)) := by
      refine atI_nat ?_
      rw [List.getElem?_map, List.getElem?_eq_getElem hj, List.getD_eq_getElem?_getD, List.getElem?_eq_getElem hj]
      rfl
    have ad1 : opAdd (.lst ((c.map iD).take j)) (.lst [.int ((c.getD j 0 : Nat) + 1 : Int)]) = some (.nw (.lst ((c.map iD).take j ++ [.int ((c.getD j 0 : Nat) + 1 : Int)]))) := p_addL _ _ (decide_eq_true (by rw [List.length_take, List.length_singleton]; omega))
    have ad2 : opAdd (.lst ((c.map iD).take j ++ [.int ((c.getD j 0 : Nat) + 1 : Int)])) (.lst ((c.map iD).drop (j + 1))) = some (.nw (.lst ((inc c j).map iD))) := by
      rw [show (inc c j).map iD = ((c.map iD).take j ++ [.int ((c.getD j 0 : Nat) + 1 : Int)]) ++ (c.map iD).drop (j + 1) by
        unfold inc
        rw [List.map_append, List.map_cons, ← List.map_take, ← List.map_drop, List.append_assoc]
        rfl]
      exact p_addL _ _ (decide_eq_true (by rw [List.length_append, List.length_take, List.length_drop, List.length_singleton]; omega))
    have ei := even_sp (k := inc c j) (by rw [inc_len hj]; exact g1) (by rw [inc_len hj]; exact g5) (by rw [inc_sum hj]; omega)
    rw [inc_len hj] at ei
    simp! [wipeR, ai, c1, c2, at1, ad1, ad2, ei]
    exact ⟨by show some (P (wG c.length (inc c ((j : Int)).toNat))) = _; rw [Int.toNat_natCast], trivial⟩
/-! ### the words' weights -/
theorem told_P (q : Rat) : (bIsi [num q, .ty .int] = some (.fz (.bl true)) ∧ D.tup [num q, .int 1] = P q) ∨ (bIsi [num q, .ty .int] = some (.fz (.bl false)) ∧ num q = P q) := by
  by_cases h : q.den = 1
  · left
    rw [num_of1 h]
    refine ⟨rfl, ?_⟩
    unfold P
    rw [h]
    rfl
  · right
    rw [num_ofN h]
    exact ⟨rfl, rfl⟩
def cntF (c : Nat) : D → Option D
  | .int i => if i = (c : Int) then some (.int 1) else Option.none
  | _ => Option.none
theorem cntF_len (c : Nat) : ∀ w : List Nat, ((w.map iD).filterMap (cntF c)).length = w.count c
  | [] => rfl
  | n :: w => by
    rw [List.map_cons]
    by_cases h : n = c
    · subst h
      rw [List.filterMap_cons_some (b := .int 1) (by show (if (n : Int) = (n : Int) then some (D.int 1) else Option.none) = _; rw [if_pos rfl]), List.length_cons, cntF_len, List.count_cons_self]
    · rw [List.filterMap_cons_none (by show (if (n : Int) = (c : Int) then some (D.int 1) else Option.none) = _; rw [if_neg (by omega)]), cntF_len, List.count_cons_of_ne h]
def cnF (w : List Nat) : D → Option D
  | .int c => some (.int (w.count c.toNat : Nat))
  | _ => Option.none
theorem cnF_map (g : Nat) (w : List Nat) : (rangeL 0 g).filterMap (cnF w) = (cn g w).map iD := by
  unfold rangeL cn
  rw [List.filterMap_map, List.map_map]
  have : ∀ l : List Nat, l.filterMap (cnF w ∘ fun (i : Nat) => D.int (0 + i)) = l.map (iD ∘ fun c => w.count c) := fun l => by
    induction l with
    | nil => rfl
    | cons x l ih =>
      rw [List.filterMap_cons_some (b := iD (w.count x)) (by show some (D.int (w.count ((0 : Int) + x).toNat : Nat)) = _; rw [Int.zero_add, Int.toNat_natCast]; rfl), ih]
      rfl
  exact this _
theorem ch_nums (z a b c d n : Nat) (hn : n = 1004) (e0 : z = 1) (e1 : z * (n - 0) = a * (0 + 1)) (e2 : a * (n - 1) = b * (1 + 1)) (e3 : b * (n - 2) = c * (2 + 1)) (e4 : c * (n - 3) = d * (3 + 1)) : d = 42084793751 := by
  rw [hn, e0] at e1
  rw [hn] at e2 e3 e4
  have h1 : a = 1004 := by omega
  rw [h1] at e2
  have h2 : b = 503506 := by omega
  rw [h2] at e3
  have h3 : c = 168171004 := by omega
  rw [h3] at e4
  omega
theorem ch_1004 (n : Nat) (hn : n = 1004) : ch n 4 = 42084793751 :=
  ch_nums _ _ _ _ _ n hn (ch_0 n) (ch_mul n 0) (ch_mul n 1) (ch_mul n 2) (ch_mul n 3)
theorem f5_sp (n : Nat) (hn : n = 1000) : m_even_factor [.fz (.int 5), .fz (.int n)] = .ok (.fz (.int 42084793751)) [.fz (.int 5), .fz (.int n)] := by
  have h := even_factor_sp 5 n (by decide) (by decide) (by omega)
  rw [ch_1004 (n + 5 - 1) (by omega)] at h
  exact h
theorem law_true : ∀ ns : List Int, ns.length ≤ 63 → (∀ z ∈ ns, PySem.Builtin.Int.intBits z ≤ 1048576) → ∃ outs, m_law [.fz (.scr ns)] = .ok (.fz (.bl true)) outs := by
  intro ns hl hb
  obtain ⟨t, e0, h0⟩ := tray_sp ns hb hl
  have w : Fw (m_law [.fz (.scr ns)]) fun r os => r = .fz (.bl true) := by
    refine fw_fin ?_
    change Wq (b_law [.fz (.scr ns), .un, .un, .un, .un, .un, .un, .un, .un, .un, .un, .un, .un]) _
    unfold b_law
    rw [turnB_eq]
    have er : rng1 [.int 3] = some (rangeL 0 3) := rfl
    simp! [e0, er]
    rw [q_bind]
    refine for_range 3 (I := fun m ρ => ∃ t' x2 y3 y4 y5 y6 y7, ρ = [.fz (.scr ns), .ow t', x2, y3, y4, y5, y6, y7, .un, .un, .un, .un, .un] ∧ Tr (100 * m) t' ∧ setOk x2 = true ∧ setOk y3 = true ∧ setOk y4 = true ∧ setOk y5 = true ∧ setOk y6 = true ∧ setOk y7 = true)
      (fun m ρ hm hI => ?_) (fun ρ hI => ?_) _ ⟨t, .un, .un, .un, .un, .un, .un, rfl, h0, rfl, rfl, rfl, rfl, rfl, rfl⟩
    · obtain ⟨t', x2, y3, y4, y5, y6, y7, rfl, h', z2, z3, z4, z5, z6, z7⟩ := hI
      have tu := turn_law h' (by omega) (m := m) (.fz (.scr ns)) y3 y4 y5 y6 y7 z3 z4 z5 z6 z7
      simp! [p_setK _ _ z2]
      refine Wq.mono tu ?_
      rintro f ρ ⟨rfl, t2, y3, y4, y5, y6, y7, rfl, h2, z3, z4, z5, z6, z7⟩
      simp! []
      exact ⟨t2, _, y3, y4, y5, y6, y7, rfl, h2.le (by omega), rfl, z3, z4, z5, z6, z7⟩
    · obtain ⟨t', x2, y3, y4, y5, y6, y7, rfl, h', z2, z3, z4, z5, z6, z7⟩ := hI
      obtain ⟨d, t1, e1, h1, m1⟩ := pick_sp h' (by omega) [.int 2, .int 3, .int 1] (by simp) (by simp)
      obtain ⟨g, rfl, g1, g3⟩ : ∃ g : Nat, d = .int g ∧ 1 ≤ g ∧ g ≤ 3 := by
        simp only [List.mem_cons, List.not_mem_nil, or_false] at m1
        rcases m1 with rfl | rfl | rfl
        · exact ⟨2, rfl, by decide, by decide⟩
        · exact ⟨3, rfl, by decide, by decide⟩
        · exact ⟨1, rfl, by decide, by decide⟩
      obtain ⟨r2, t2, e2, h2, a2, b2⟩ := lift_sp h1 (by omega) 5 (by decide) (by decide)
      obtain ⟨n, rfl⟩ := Int.eq_ofNat_of_zero_le a2
      have hn : n ≤ 4 := by omega
      obtain ⟨rw_, ew, hr⟩ := words_sp (g := g) (by omega) n (by omega)
      have erg : rng1 [.int (g : Nat)] = some (rangeL 0 g) := by
        rw [Ev.p_rng1 _ (inR_of (by omega) (by omega)), Int.toNat_natCast]
      have wl : (wds g n).length ≤ 81 := by
        rw [wds_len]
        exact Nat.le_trans (Nat.pow_le_pow_left g3 n) (Nat.le_trans (Nat.pow_le_pow_right (by decide) hn) (by decide))
      have tt : truth (.bl true) = some true := rfl
      have tf : truth (.bl false) = some false := rfl
      -- the loop over the words
      have loop : Wq (loopD (fun d => setSlot 9 (.fz d)) (mseq (evSet 10 (evCall m_even_weight 1 (fun as _ => as) (arCons (arV (toD (mLc [11] (evL rng1 (evCons (evVar 3) (mpure []))) (fun d => setSlot 11 (.fz d)) (mpure true) (toD (evC bLen (evCons (toD (mLc [12] (evSeq (evVar 9)) (fun d => setSlot 12 (.fz d)) (ev2T eqA (evVar 12) (evVar 11)) (mpure (.int 1)))) (mpure []))))))) (mpure [])) (mpure [])))
          (evExpr (evMut 8 fApp (evCons (toD (evIf (tTruth (toD (evC bIsi (evCons (evVar 10) (evCons (mpure (.ty .int)) (mpure [])))))) (evC mkTup (evCons (evVar 10) (evCons (mpure (.int 1)) (mpure [])))) (toV (evVar 10)))) (mpure []))))) ((wds g n).map wordD) [.fz (.scr ns), .ow t2, x2, .fz (.int g), y4, y5, y6, .fz (.int n), .ow (.lst []), .un, .un, .un, .un])
          fun f ρ => f = .nx ∧ ∃ x9 x10, ρ = [.fz (.scr ns), .ow t2, x2, .fz (.int g), y4, y5, y6, .fz (.int n), .ow (.lst ((wsL g n).map P)), x9, x10, .un, .un] := by
        refine for_idx ((wds g n).map wordD) (I := fun j ρ => ∃ x9 x10, ρ = [.fz (.scr ns), .ow t2, x2, .fz (.int g), y4, y5, y6, .fz (.int n), .ow (.lst (((wsL g n).take j).map P)), x9, x10, .un, .un] ∧ setOk x9 = true ∧ setOk x10 = true) (fun j d ρ hd hI => ?_) (fun ρ hI => ?_) _ ⟨.un, .un, rfl, rfl, rfl⟩
        · obtain ⟨x9, x10, rfl, z9, z10⟩ := hI
          rw [List.getElem?_map] at hd
          obtain ⟨w, hw, rfl⟩ := Option.map_eq_some_iff.mp hd
          have hwm := List.mem_of_getElem? hw
          have hwd : wordD w = .tup (w.map iD) := rfl
          have hwl := (wds_mem hwm).1
          simp! [p_setK _ _ z9, erg]
          rw [lc_eq (cnF w) rfl (by rw [rangeL_len]; omega) (fun x hx => ?_)]
          · rw [cnF_map]
            have e3 := even_weight_sp (d := .lst ((cn g w).map iD)) (.inl rfl) (by rw [cn_len]; omega) (by rw [cn_len]; omega) (by rw [cn_sum hwm, cn_len]; omega) (pf_small _ (by rw [cn_len]; omega) fun x hx => by
              have := le_sum _ x hx
              rw [cn_sum hwm] at this
              omega) fun x hx => by
              have := le_sum _ x hx
              rw [cn_sum hwm] at this
              omega
            rw [cn_len] at e3
            have lt : ((wsL g n).take j).length ≤ 81 := by unfold wsL; rw [List.length_take, List.length_map]; omega
            have ap := p_app (((wsL g n).take j).map P) (P (wG g (cn g w))) (by rw [List.length_map]; omega)
            have tk : ((wsL g n).take j).map P ++ [P (wG g (cn g w))] = ((wsL g n).take (j + 1)).map P := by
              have hq : (wsL g n)[j]? = some (wG g (cn g w)) := by
                unfold wsL
                rw [List.getElem?_map, hw]
                rfl
              rw [List.take_succ, List.map_append, hq]
              rfl
            rw [tk] at ap
            rcases told_P (wG g (cn g w)) with ⟨i1, i2⟩ | ⟨i1, i2⟩
            · rw [← i2] at ap
              simp! [p_setK _ _ z10, e3, i1, tt, ap]
              exact ⟨_, _, rfl, rfl, rfl⟩
            · rw [← i2] at ap
              simp! [p_setK _ _ z10, e3, i1, tf, ap]
              exact ⟨_, _, rfl, rfl, rfl⟩
          · obtain ⟨c, hc0⟩ := List.mem_iff_getElem?.mp hx
            obtain ⟨rfl, hc⟩ := rangeL_at hc0
            simp! [wipeR, hwd, dSeq]
            rw [lc_eq (cntF c) rfl (by rw [List.length_map]; omega) (fun y hy => ?_)]
            · have hln := cntF_len c w
              simp! [hln]
              exact ⟨by show some (D.int (w.count ((c : Int)).toNat : Nat)) = _; rw [Int.toNat_natCast], trivial⟩
            · obtain ⟨i, _, rfl⟩ := List.mem_map.mp hy
              have hid : iD i = .int i := rfl
              by_cases hic : (i : Int) = (c : Int)
              · simp! [wipeR, hid, decide_eq_true hic]
                exact ⟨if_pos hic, trivial⟩
              · simp! [wipeR, hid, decide_eq_false hic]
                exact ⟨if_neg hic, trivial⟩
        · obtain ⟨x9, x10, rfl, z9, z10⟩ := hI
          rw [List.length_map, show (wsL g n).take (wds g n).length = wsL g n by
            have : (wsL g n).length = (wds g n).length := by unfold wsL; rw [List.length_map]
            rw [← this, List.take_length]]
          exact ⟨rfl, x9, x10, rfl⟩
      obtain ⟨s1, s2⟩ := ws_Sd (n := n) g1 g3 hn
      have ls := lsum_sp (wsL g n) s1 s2 (.ln (.lst ((wsL g n).map P))) _ (.inr ⟨rfl, rfl⟩)
      rw [ws_one g1 n] at ls
      have P1 : P 1 = .tup [.int 1, .int 1] := rfl
      rw [P1] at ls
      have q1 : eqA (.tup [.int 1, .int 1]) (.tup [.int 1, .int 1]) = some (.fz (.bl true)) := by
        rw [p_eqD (by decide +kernel) (by decide +kernel) (by decide) (by decide), deq_refl _ (by decide +kernel)]
      have w1000 : m_even_weight [.fz (.lst [.int 1000])] = .ok (.fz (.int 1)) [.fz (.lst [.int 1000])] := by
        have hb2 : fac (([1000] : List Nat).length - 1) * pf [1000] < 2 ^ 8900 := by
          show 1 * (fac 1000 * 1) < 2 ^ 8900
          rw [Nat.mul_one, Nat.one_mul]
          exact Nat.lt_trans fac_1000 (Nat.pow_lt_pow_right (by decide) (by decide))
        have := even_weight_sp (d := .lst ([1000].map iD)) (k := [1000]) (.inl rfl) (by decide) (by decide) (by decide) hb2 (fun n hn => by cases List.mem_singleton.mp hn; decide)
        have e1 : wG ([1000] : List Nat).length [1000] = ((1 : Int) : Rat) := by
          unfold wG
          show Rat.divInt (1 * (fac 1000 * 1) : Nat) (fac (1000 + 0 + (1 - 1)) : Nat) = _
          rw [Nat.mul_one, Nat.one_mul]
          have := fac_pos 1000
          exact Rat.divInt_self' (by omega)
        rw [e1, num_int] at this
        exact this
      have f5 := f5_sp 1000 rfl
      rw [show ((1000 : Nat) : Int) = 1000 from rfl] at f5
      have mu1 : opMul (.int 1004) (.int 1003) = some (.fz (.int 1007012)) := p_mul _ _ (by decide)
      have mu2 : opMul (.int 1007012) (.int 1002) = some (.fz (.int 1009026024)) := p_mul _ _ (by decide)
      have mu3 : opMul (.int 1009026024) (.int 1001) = some (.fz (.int 1010035050024)) := p_mul _ _ (by decide)
      have mu4 : fDiv 1010035050024 24 = some (.int 42084793751) := p_div _ _ (by decide)
      have q2 : eqA (.int 1) (.int 1) = some (.fz (.bl true)) := rfl
      have q3 : eqA (.int 42084793751) (.int 42084793751) = some (.fz (.bl true)) := rfl
      rcases hr with rfl | rfl
      · simp! [e1, e2, ew, dSeq, p_setK _ _ z3, p_setK _ _ z7]
        rw [q_bind]
        refine Wq.mono loop ?_
        rintro f ρ ⟨rfl, x9, x10, rfl⟩
        simp! [ls, q1, w1000, f5, tt, mu1, mu2, mu3, mu4, q2, q3]
        exact ⟨by decide, trivial⟩
      · simp! [e1, e2, ew, dSeq, p_setK _ _ z3, p_setK _ _ z7]
        rw [q_bind]
        refine Wq.mono loop ?_
        rintro f ρ ⟨rfl, x9, x10, rfl⟩
        simp! [ls, q1, w1000, f5, tt, mu1, mu2, mu3, mu4, q2, q3]
        exact ⟨by decide, trivial⟩
  obtain ⟨_, os, e, rfl⟩ := w
  exact ⟨os, e⟩
end K70

namespace K70
open PySem PySem.Spec PyProof.Rows L2 Ev
section
variable {K : PySem.W.Frag} {mg : Str → Option Value}
def GC (T : Tops K mg) : Gc where
  N := { gm := fun n => (gmL T)[n]?, fn := fnOfL [], inj := fnOfL_inj (by decide +kernel) (by decide +kernel), scrK := scrKof K }
  clo := fun _ _ _ _ => False
  tabs := LamX.Tabs (tabsL T)
  tb := fun a => ∃ p ∈ tabsL T, p.1 = a
  cloMono := fun _ _ h => h
  tabsUpd := tabs_upd
  tabsSet := tabs_set
  tbAt := tabs_at
end
theorem all_mk {l : PySem.W.OpenLaw} {w : World} {K : PySem.W.Frag} {h : Heap} {mg : Str → Option Value} {fa : Addr} (X : K.In h) (G : h.Ns mainGlobals mg) (hfa : mg "law" = some (.ref fa))
    {f_is_integer f_is_within f_is_list f_common f_need_integer f_need_goods f_need_days f_need_counts f_lowest f_choose_in f_factorial f_weight_in f_factor_in f_even_weight f_even_factor f_law_pen f_law_draw f_law_one_of f_law_low f_law_plus f_law_times f_law_sum f_law_number f_law_words f_law_even f_law_triangle f_law : Addr}
    {od_is_integer an_is_integer : Option Addr} {sl_is_integer : Array (Option Value)} {oc_is_integer kV_is_integer dc_is_integer pm_is_integer cd_is_integer ct_is_integer : Value}
    (a_is_integer : PySem.W.nsIn K mainGlobals "is_integer" = some (some (.ref f_is_integer))) (l_is_integer : K.lookup f_is_integer = some ⟨oc_is_integer, od_is_integer, .func (PySem.W.fnOf "is_integer" "is_integer" (defArgs s_is_integer) (defBody s_is_integer) (defScope s_is_integer) .none kV_is_integer dc_is_integer pm_is_integer an_is_integer cd_is_integer ct_is_integer), sl_is_integer⟩) (c_is_integer : PySem.W.codeIn K cd_is_integer "is_integer" = true) (k_is_integer : PySem.W.keepIn K (.ref f_is_integer) = true)
    {od_is_within an_is_within : Option Addr} {sl_is_within : Array (Option Value)} {oc_is_within kV_is_within dc_is_within pm_is_within cd_is_within ct_is_within : Value}
    (a_is_within : PySem.W.nsIn K mainGlobals "is_within" = some (some (.ref f_is_within))) (l_is_within : K.lookup f_is_within = some ⟨oc_is_within, od_is_within, .func (PySem.W.fnOf "is_within" "is_within" (defArgs s_is_within) (defBody s_is_within) (defScope s_is_within) .none kV_is_within dc_is_within pm_is_within an_is_within cd_is_within ct_is_within), sl_is_within⟩) (c_is_within : PySem.W.codeIn K cd_is_within "is_within" = true) (k_is_within : PySem.W.keepIn K (.ref f_is_within) = true)
    {od_is_list an_is_list : Option Addr} {sl_is_list : Array (Option Value)} {oc_is_list kV_is_list dc_is_list pm_is_list cd_is_list ct_is_list : Value}
    (a_is_list : PySem.W.nsIn K mainGlobals "is_list" = some (some (.ref f_is_list))) (l_is_list : K.lookup f_is_list = some ⟨oc_is_list, od_is_list, .func (PySem.W.fnOf "is_list" "is_list" (defArgs s_is_list) (defBody s_is_list) (defScope s_is_list) .none kV_is_list dc_is_list pm_is_list an_is_list cd_is_list ct_is_list), sl_is_list⟩) (c_is_list : PySem.W.codeIn K cd_is_list "is_list" = true) (k_is_list : PySem.W.keepIn K (.ref f_is_list) = true)
    {od_common an_common : Option Addr} {sl_common : Array (Option Value)} {oc_common kV_common dc_common pm_common cd_common ct_common : Value}
    (a_common : PySem.W.nsIn K mainGlobals "common" = some (some (.ref f_common))) (l_common : K.lookup f_common = some ⟨oc_common, od_common, .func (PySem.W.fnOf "common" "common" (defArgs s_common) (defBody s_common) (defScope s_common) .none kV_common dc_common pm_common an_common cd_common ct_common), sl_common⟩) (c_common : PySem.W.codeIn K cd_common "common" = true) (k_common : PySem.W.keepIn K (.ref f_common) = true)
    {od_need_integer an_need_integer : Option Addr} {sl_need_integer : Array (Option Value)} {oc_need_integer kV_need_integer dc_need_integer pm_need_integer cd_need_integer ct_need_integer : Value}
    (a_need_integer : PySem.W.nsIn K mainGlobals "need_integer" = some (some (.ref f_need_integer))) (l_need_integer : K.lookup f_need_integer = some ⟨oc_need_integer, od_need_integer, .func (PySem.W.fnOf "need_integer" "need_integer" (defArgs s_need_integer) (defBody s_need_integer) (defScope s_need_integer) .none kV_need_integer dc_need_integer pm_need_integer an_need_integer cd_need_integer ct_need_integer), sl_need_integer⟩) (c_need_integer : PySem.W.codeIn K cd_need_integer "need_integer" = true) (k_need_integer : PySem.W.keepIn K (.ref f_need_integer) = true)
    {od_need_goods an_need_goods : Option Addr} {sl_need_goods : Array (Option Value)} {oc_need_goods kV_need_goods dc_need_goods pm_need_goods cd_need_goods ct_need_goods : Value}
    (a_need_goods : PySem.W.nsIn K mainGlobals "need_goods" = some (some (.ref f_need_goods))) (l_need_goods : K.lookup f_need_goods = some ⟨oc_need_goods, od_need_goods, .func (PySem.W.fnOf "need_goods" "need_goods" (defArgs s_need_goods) (defBody s_need_goods) (defScope s_need_goods) .none kV_need_goods dc_need_goods pm_need_goods an_need_goods cd_need_goods ct_need_goods), sl_need_goods⟩) (c_need_goods : PySem.W.codeIn K cd_need_goods "need_goods" = true) (k_need_goods : PySem.W.keepIn K (.ref f_need_goods) = true)
    {od_need_days an_need_days : Option Addr} {sl_need_days : Array (Option Value)} {oc_need_days kV_need_days dc_need_days pm_need_days cd_need_days ct_need_days : Value}
    (a_need_days : PySem.W.nsIn K mainGlobals "need_days" = some (some (.ref f_need_days))) (l_need_days : K.lookup f_need_days = some ⟨oc_need_days, od_need_days, .func (PySem.W.fnOf "need_days" "need_days" (defArgs s_need_days) (defBody s_need_days) (defScope s_need_days) .none kV_need_days dc_need_days pm_need_days an_need_days cd_need_days ct_need_days), sl_need_days⟩) (c_need_days : PySem.W.codeIn K cd_need_days "need_days" = true) (k_need_days : PySem.W.keepIn K (.ref f_need_days) = true)
    {od_need_counts an_need_counts : Option Addr} {sl_need_counts : Array (Option Value)} {oc_need_counts kV_need_counts dc_need_counts pm_need_counts cd_need_counts ct_need_counts : Value}
    (a_need_counts : PySem.W.nsIn K mainGlobals "need_counts" = some (some (.ref f_need_counts))) (l_need_counts : K.lookup f_need_counts = some ⟨oc_need_counts, od_need_counts, .func (PySem.W.fnOf "need_counts" "need_counts" (defArgs s_need_counts) (defBody s_need_counts) (defScope s_need_counts) .none kV_need_counts dc_need_counts pm_need_counts an_need_counts cd_need_counts ct_need_counts), sl_need_counts⟩) (c_need_counts : PySem.W.codeIn K cd_need_counts "need_counts" = true) (k_need_counts : PySem.W.keepIn K (.ref f_need_counts) = true)
    {od_lowest an_lowest : Option Addr} {sl_lowest : Array (Option Value)} {oc_lowest kV_lowest dc_lowest pm_lowest cd_lowest ct_lowest : Value}
    (a_lowest : PySem.W.nsIn K mainGlobals "lowest" = some (some (.ref f_lowest))) (l_lowest : K.lookup f_lowest = some ⟨oc_lowest, od_lowest, .func (PySem.W.fnOf "lowest" "lowest" (defArgs s_lowest) (defBody s_lowest) (defScope s_lowest) .none kV_lowest dc_lowest pm_lowest an_lowest cd_lowest ct_lowest), sl_lowest⟩) (c_lowest : PySem.W.codeIn K cd_lowest "lowest" = true) (k_lowest : PySem.W.keepIn K (.ref f_lowest) = true)
    {od_choose_in an_choose_in : Option Addr} {sl_choose_in : Array (Option Value)} {oc_choose_in kV_choose_in dc_choose_in pm_choose_in cd_choose_in ct_choose_in : Value}
    (a_choose_in : PySem.W.nsIn K mainGlobals "choose_in" = some (some (.ref f_choose_in))) (l_choose_in : K.lookup f_choose_in = some ⟨oc_choose_in, od_choose_in, .func (PySem.W.fnOf "choose_in" "choose_in" (defArgs s_choose_in) (defBody s_choose_in) (defScope s_choose_in) .none kV_choose_in dc_choose_in pm_choose_in an_choose_in cd_choose_in ct_choose_in), sl_choose_in⟩) (c_choose_in : PySem.W.codeIn K cd_choose_in "choose_in" = true) (k_choose_in : PySem.W.keepIn K (.ref f_choose_in) = true)
    {od_factorial an_factorial : Option Addr} {sl_factorial : Array (Option Value)} {oc_factorial kV_factorial dc_factorial pm_factorial cd_factorial ct_factorial : Value}
    (a_factorial : PySem.W.nsIn K mainGlobals "factorial" = some (some (.ref f_factorial))) (l_factorial : K.lookup f_factorial = some ⟨oc_factorial, od_factorial, .func (PySem.W.fnOf "factorial" "factorial" (defArgs s_factorial) (defBody s_factorial) (defScope s_factorial) .none kV_factorial dc_factorial pm_factorial an_factorial cd_factorial ct_factorial), sl_factorial⟩) (c_factorial : PySem.W.codeIn K cd_factorial "factorial" = true) (k_factorial : PySem.W.keepIn K (.ref f_factorial) = true)
    {od_weight_in an_weight_in : Option Addr} {sl_weight_in : Array (Option Value)} {oc_weight_in kV_weight_in dc_weight_in pm_weight_in cd_weight_in ct_weight_in : Value}
    (a_weight_in : PySem.W.nsIn K mainGlobals "weight_in" = some (some (.ref f_weight_in))) (l_weight_in : K.lookup f_weight_in = some ⟨oc_weight_in, od_weight_in, .func (PySem.W.fnOf "weight_in" "weight_in" (defArgs s_weight_in) (defBody s_weight_in) (defScope s_weight_in) .none kV_weight_in dc_weight_in pm_weight_in an_weight_in cd_weight_in ct_weight_in), sl_weight_in⟩) (c_weight_in : PySem.W.codeIn K cd_weight_in "weight_in" = true) (k_weight_in : PySem.W.keepIn K (.ref f_weight_in) = true)
    {od_factor_in an_factor_in : Option Addr} {sl_factor_in : Array (Option Value)} {oc_factor_in kV_factor_in dc_factor_in pm_factor_in cd_factor_in ct_factor_in : Value}
    (a_factor_in : PySem.W.nsIn K mainGlobals "factor_in" = some (some (.ref f_factor_in))) (l_factor_in : K.lookup f_factor_in = some ⟨oc_factor_in, od_factor_in, .func (PySem.W.fnOf "factor_in" "factor_in" (defArgs s_factor_in) (defBody s_factor_in) (defScope s_factor_in) .none kV_factor_in dc_factor_in pm_factor_in an_factor_in cd_factor_in ct_factor_in), sl_factor_in⟩) (c_factor_in : PySem.W.codeIn K cd_factor_in "factor_in" = true) (k_factor_in : PySem.W.keepIn K (.ref f_factor_in) = true)
    {od_even_weight an_even_weight : Option Addr} {sl_even_weight : Array (Option Value)} {oc_even_weight kV_even_weight dc_even_weight pm_even_weight cd_even_weight ct_even_weight : Value}
    (a_even_weight : PySem.W.nsIn K mainGlobals "even_weight" = some (some (.ref f_even_weight))) (l_even_weight : K.lookup f_even_weight = some ⟨oc_even_weight, od_even_weight, .func (PySem.W.fnOf "even_weight" "even_weight" (defArgs s_even_weight) (defBody s_even_weight) (defScope s_even_weight) .none kV_even_weight dc_even_weight pm_even_weight an_even_weight cd_even_weight ct_even_weight), sl_even_weight⟩) (c_even_weight : PySem.W.codeIn K cd_even_weight "even_weight" = true) (k_even_weight : PySem.W.keepIn K (.ref f_even_weight) = true)
    {od_even_factor an_even_factor : Option Addr} {sl_even_factor : Array (Option Value)} {oc_even_factor kV_even_factor dc_even_factor pm_even_factor cd_even_factor ct_even_factor : Value}
    (a_even_factor : PySem.W.nsIn K mainGlobals "even_factor" = some (some (.ref f_even_factor))) (l_even_factor : K.lookup f_even_factor = some ⟨oc_even_factor, od_even_factor, .func (PySem.W.fnOf "even_factor" "even_factor" (defArgs s_even_factor) (defBody s_even_factor) (defScope s_even_factor) .none kV_even_factor dc_even_factor pm_even_factor an_even_factor cd_even_factor ct_even_factor), sl_even_factor⟩) (c_even_factor : PySem.W.codeIn K cd_even_factor "even_factor" = true) (k_even_factor : PySem.W.keepIn K (.ref f_even_factor) = true)
    {od_law_pen an_law_pen : Option Addr} {sl_law_pen : Array (Option Value)} {oc_law_pen kV_law_pen dc_law_pen pm_law_pen cd_law_pen ct_law_pen : Value}
    (a_law_pen : PySem.W.nsIn K mainGlobals "_law_pen" = some (some (.ref f_law_pen))) (l_law_pen : K.lookup f_law_pen = some ⟨oc_law_pen, od_law_pen, .func (PySem.W.fnOf "_law_pen" "_law_pen" (defArgs s_law_pen) (defBody s_law_pen) (defScope s_law_pen) .none kV_law_pen dc_law_pen pm_law_pen an_law_pen cd_law_pen ct_law_pen), sl_law_pen⟩) (c_law_pen : PySem.W.codeIn K cd_law_pen "_law_pen" = true) (k_law_pen : PySem.W.keepIn K (.ref f_law_pen) = true)
    {od_law_draw an_law_draw : Option Addr} {sl_law_draw : Array (Option Value)} {oc_law_draw kV_law_draw dc_law_draw pm_law_draw cd_law_draw ct_law_draw : Value}
    (a_law_draw : PySem.W.nsIn K mainGlobals "_law_draw" = some (some (.ref f_law_draw))) (l_law_draw : K.lookup f_law_draw = some ⟨oc_law_draw, od_law_draw, .func (PySem.W.fnOf "_law_draw" "_law_draw" (defArgs s_law_draw) (defBody s_law_draw) (defScope s_law_draw) .none kV_law_draw dc_law_draw pm_law_draw an_law_draw cd_law_draw ct_law_draw), sl_law_draw⟩) (c_law_draw : PySem.W.codeIn K cd_law_draw "_law_draw" = true) (k_law_draw : PySem.W.keepIn K (.ref f_law_draw) = true)
    {od_law_one_of an_law_one_of : Option Addr} {sl_law_one_of : Array (Option Value)} {oc_law_one_of kV_law_one_of dc_law_one_of pm_law_one_of cd_law_one_of ct_law_one_of : Value}
    (a_law_one_of : PySem.W.nsIn K mainGlobals "_law_one_of" = some (some (.ref f_law_one_of))) (l_law_one_of : K.lookup f_law_one_of = some ⟨oc_law_one_of, od_law_one_of, .func (PySem.W.fnOf "_law_one_of" "_law_one_of" (defArgs s_law_one_of) (defBody s_law_one_of) (defScope s_law_one_of) .none kV_law_one_of dc_law_one_of pm_law_one_of an_law_one_of cd_law_one_of ct_law_one_of), sl_law_one_of⟩) (c_law_one_of : PySem.W.codeIn K cd_law_one_of "_law_one_of" = true) (k_law_one_of : PySem.W.keepIn K (.ref f_law_one_of) = true)
    {od_law_low an_law_low : Option Addr} {sl_law_low : Array (Option Value)} {oc_law_low kV_law_low dc_law_low pm_law_low cd_law_low ct_law_low : Value}
    (a_law_low : PySem.W.nsIn K mainGlobals "_law_low" = some (some (.ref f_law_low))) (l_law_low : K.lookup f_law_low = some ⟨oc_law_low, od_law_low, .func (PySem.W.fnOf "_law_low" "_law_low" (defArgs s_law_low) (defBody s_law_low) (defScope s_law_low) .none kV_law_low dc_law_low pm_law_low an_law_low cd_law_low ct_law_low), sl_law_low⟩) (c_law_low : PySem.W.codeIn K cd_law_low "_law_low" = true) (k_law_low : PySem.W.keepIn K (.ref f_law_low) = true)
    {od_law_plus an_law_plus : Option Addr} {sl_law_plus : Array (Option Value)} {oc_law_plus kV_law_plus dc_law_plus pm_law_plus cd_law_plus ct_law_plus : Value}
    (a_law_plus : PySem.W.nsIn K mainGlobals "_law_plus" = some (some (.ref f_law_plus))) (l_law_plus : K.lookup f_law_plus = some ⟨oc_law_plus, od_law_plus, .func (PySem.W.fnOf "_law_plus" "_law_plus" (defArgs s_law_plus) (defBody s_law_plus) (defScope s_law_plus) .none kV_law_plus dc_law_plus pm_law_plus an_law_plus cd_law_plus ct_law_plus), sl_law_plus⟩) (c_law_plus : PySem.W.codeIn K cd_law_plus "_law_plus" = true) (k_law_plus : PySem.W.keepIn K (.ref f_law_plus) = true)
    {od_law_times an_law_times : Option Addr} {sl_law_times : Array (Option Value)} {oc_law_times kV_law_times dc_law_times pm_law_times cd_law_times ct_law_times : Value}
    (a_law_times : PySem.W.nsIn K mainGlobals "_law_times" = some (some (.ref f_law_times))) (l_law_times : K.lookup f_law_times = some ⟨oc_law_times, od_law_times, .func (PySem.W.fnOf "_law_times" "_law_times" (defArgs s_law_times) (defBody s_law_times) (defScope s_law_times) .none kV_law_times dc_law_times pm_law_times an_law_times cd_law_times ct_law_times), sl_law_times⟩) (c_law_times : PySem.W.codeIn K cd_law_times "_law_times" = true) (k_law_times : PySem.W.keepIn K (.ref f_law_times) = true)
    {od_law_sum an_law_sum : Option Addr} {sl_law_sum : Array (Option Value)} {oc_law_sum kV_law_sum dc_law_sum pm_law_sum cd_law_sum ct_law_sum : Value}
    (a_law_sum : PySem.W.nsIn K mainGlobals "_law_sum" = some (some (.ref f_law_sum))) (l_law_sum : K.lookup f_law_sum = some ⟨oc_law_sum, od_law_sum, .func (PySem.W.fnOf "_law_sum" "_law_sum" (defArgs s_law_sum) (defBody s_law_sum) (defScope s_law_sum) .none kV_law_sum dc_law_sum pm_law_sum an_law_sum cd_law_sum ct_law_sum), sl_law_sum⟩) (c_law_sum : PySem.W.codeIn K cd_law_sum "_law_sum" = true) (k_law_sum : PySem.W.keepIn K (.ref f_law_sum) = true)
    {od_law_number an_law_number : Option Addr} {sl_law_number : Array (Option Value)} {oc_law_number kV_law_number dc_law_number pm_law_number cd_law_number ct_law_number : Value}
    (a_law_number : PySem.W.nsIn K mainGlobals "_law_number" = some (some (.ref f_law_number))) (l_law_number : K.lookup f_law_number = some ⟨oc_law_number, od_law_number, .func (PySem.W.fnOf "_law_number" "_law_number" (defArgs s_law_number) (defBody s_law_number) (defScope s_law_number) .none kV_law_number dc_law_number pm_law_number an_law_number cd_law_number ct_law_number), sl_law_number⟩) (c_law_number : PySem.W.codeIn K cd_law_number "_law_number" = true) (k_law_number : PySem.W.keepIn K (.ref f_law_number) = true)
    {od_law_words an_law_words : Option Addr} {sl_law_words : Array (Option Value)} {oc_law_words kV_law_words dc_law_words pm_law_words cd_law_words ct_law_words : Value}
    (a_law_words : PySem.W.nsIn K mainGlobals "_law_words" = some (some (.ref f_law_words))) (l_law_words : K.lookup f_law_words = some ⟨oc_law_words, od_law_words, .func (PySem.W.fnOf "_law_words" "_law_words" (defArgs s_law_words) (defBody s_law_words) (defScope s_law_words) .none kV_law_words dc_law_words pm_law_words an_law_words cd_law_words ct_law_words), sl_law_words⟩) (c_law_words : PySem.W.codeIn K cd_law_words "_law_words" = true) (k_law_words : PySem.W.keepIn K (.ref f_law_words) = true)
    {od_law_even an_law_even : Option Addr} {sl_law_even : Array (Option Value)} {oc_law_even kV_law_even dc_law_even pm_law_even cd_law_even ct_law_even : Value}
    (a_law_even : PySem.W.nsIn K mainGlobals "_law_even" = some (some (.ref f_law_even))) (l_law_even : K.lookup f_law_even = some ⟨oc_law_even, od_law_even, .func (PySem.W.fnOf "_law_even" "_law_even" (defArgs s_law_even) (defBody s_law_even) (defScope s_law_even) .none kV_law_even dc_law_even pm_law_even an_law_even cd_law_even ct_law_even), sl_law_even⟩) (c_law_even : PySem.W.codeIn K cd_law_even "_law_even" = true) (k_law_even : PySem.W.keepIn K (.ref f_law_even) = true)
    {od_law_triangle an_law_triangle : Option Addr} {sl_law_triangle : Array (Option Value)} {oc_law_triangle kV_law_triangle dc_law_triangle pm_law_triangle cd_law_triangle ct_law_triangle : Value}
    (a_law_triangle : PySem.W.nsIn K mainGlobals "_law_triangle" = some (some (.ref f_law_triangle))) (l_law_triangle : K.lookup f_law_triangle = some ⟨oc_law_triangle, od_law_triangle, .func (PySem.W.fnOf "_law_triangle" "_law_triangle" (defArgs s_law_triangle) (defBody s_law_triangle) (defScope s_law_triangle) .none kV_law_triangle dc_law_triangle pm_law_triangle an_law_triangle cd_law_triangle ct_law_triangle), sl_law_triangle⟩) (c_law_triangle : PySem.W.codeIn K cd_law_triangle "_law_triangle" = true) (k_law_triangle : PySem.W.keepIn K (.ref f_law_triangle) = true)
    {od_law an_law : Option Addr} {sl_law : Array (Option Value)} {oc_law kV_law dc_law pm_law cd_law ct_law : Value}
    (a_law : PySem.W.nsIn K mainGlobals "law" = some (some (.ref f_law))) (l_law : K.lookup f_law = some ⟨oc_law, od_law, .func (PySem.W.fnOf "law" "law" (defArgs s_law) (defBody s_law) (defScope s_law) .none kV_law dc_law pm_law an_law cd_law ct_law), sl_law⟩) (c_law : PySem.W.codeIn K cd_law "law" = true) (k_law : PySem.W.keepIn K (.ref f_law) = true)
    (z_abs : PySem.W.nsIn K mainGlobals "abs" = some none)
    (z_all : PySem.W.nsIn K mainGlobals "all" = some none)
    (z_bool : PySem.W.nsIn K mainGlobals "bool" = some none)
    (z_int : PySem.W.nsIn K mainGlobals "int" = some none)
    (z_isinstance : PySem.W.nsIn K mainGlobals "isinstance" = some none)
    (z_len : PySem.W.nsIn K mainGlobals "len" = some none)
    (z_list : PySem.W.nsIn K mainGlobals "list" = some none)
    (z_max : PySem.W.nsIn K mainGlobals "max" = some none)
    (z_range : PySem.W.nsIn K mainGlobals "range" = some none)
    (z_repr : PySem.W.nsIn K mainGlobals "repr" = some none)
    (z_sum : PySem.W.nsIn K mainGlobals "sum" = some none)
    (z_tuple : PySem.W.nsIn K mainGlobals "tuple" = some none)
    (dg_ : PySem.W.nsIn K cStatics "sys.int_max_str_digits" = some none)
    {t_MOST_GOODS : Tok} (v_MOST_GOODS : PySem.W.nsIn K mainGlobals "MOST_GOODS" = some (some (.int 5 t_MOST_GOODS)))
    {t_MOST_DAYS : Tok} (v_MOST_DAYS : PySem.W.nsIn K mainGlobals "MOST_DAYS" = some (some (.int 1000 t_MOST_DAYS)))
    {t_MOST_COUNT : Tok} (v_MOST_COUNT : PySem.W.nsIn K mainGlobals "MOST_COUNT" = some (some (.int 1000 t_MOST_COUNT)))
    : LawT l w K 6 "_law_script" m_law mg fa h := by
  have e := hfa.symm.trans (PySem.W.mg_of X G a_law)
  cases e
  let T : Tops K mg := {
    f_is_integer := f_is_integer,
    fd_is_integer := _,
    F_is_integer := fun_mk (st := s_is_integer) l_is_integer c_is_integer k_is_integer,
    g_is_integer := PySem.W.mg_of X G a_is_integer,
    f_is_within := f_is_within,
    fd_is_within := _,
    F_is_within := fun_mk (st := s_is_within) l_is_within c_is_within k_is_within,
    g_is_within := PySem.W.mg_of X G a_is_within,
    f_is_list := f_is_list,
    fd_is_list := _,
    F_is_list := fun_mk (st := s_is_list) l_is_list c_is_list k_is_list,
    g_is_list := PySem.W.mg_of X G a_is_list,
    f_common := f_common,
    fd_common := _,
    F_common := fun_mk (st := s_common) l_common c_common k_common,
    g_common := PySem.W.mg_of X G a_common,
    f_need_integer := f_need_integer,
    fd_need_integer := _,
    F_need_integer := fun_mk (st := s_need_integer) l_need_integer c_need_integer k_need_integer,
    g_need_integer := PySem.W.mg_of X G a_need_integer,
    f_need_goods := f_need_goods,
    fd_need_goods := _,
    F_need_goods := fun_mk (st := s_need_goods) l_need_goods c_need_goods k_need_goods,
    g_need_goods := PySem.W.mg_of X G a_need_goods,
    f_need_days := f_need_days,
    fd_need_days := _,
    F_need_days := fun_mk (st := s_need_days) l_need_days c_need_days k_need_days,
    g_need_days := PySem.W.mg_of X G a_need_days,
    f_need_counts := f_need_counts,
    fd_need_counts := _,
    F_need_counts := fun_mk (st := s_need_counts) l_need_counts c_need_counts k_need_counts,
    g_need_counts := PySem.W.mg_of X G a_need_counts,
    f_lowest := f_lowest,
    fd_lowest := _,
    F_lowest := fun_mk (st := s_lowest) l_lowest c_lowest k_lowest,
    g_lowest := PySem.W.mg_of X G a_lowest,
    f_choose_in := f_choose_in,
    fd_choose_in := _,
    F_choose_in := fun_mk (st := s_choose_in) l_choose_in c_choose_in k_choose_in,
    g_choose_in := PySem.W.mg_of X G a_choose_in,
    f_factorial := f_factorial,
    fd_factorial := _,
    F_factorial := fun_mk (st := s_factorial) l_factorial c_factorial k_factorial,
    g_factorial := PySem.W.mg_of X G a_factorial,
    f_weight_in := f_weight_in,
    fd_weight_in := _,
    F_weight_in := fun_mk (st := s_weight_in) l_weight_in c_weight_in k_weight_in,
    g_weight_in := PySem.W.mg_of X G a_weight_in,
    f_factor_in := f_factor_in,
    fd_factor_in := _,
    F_factor_in := fun_mk (st := s_factor_in) l_factor_in c_factor_in k_factor_in,
    g_factor_in := PySem.W.mg_of X G a_factor_in,
    f_even_weight := f_even_weight,
    fd_even_weight := _,
    F_even_weight := fun_mk (st := s_even_weight) l_even_weight c_even_weight k_even_weight,
    g_even_weight := PySem.W.mg_of X G a_even_weight,
    f_even_factor := f_even_factor,
    fd_even_factor := _,
    F_even_factor := fun_mk (st := s_even_factor) l_even_factor c_even_factor k_even_factor,
    g_even_factor := PySem.W.mg_of X G a_even_factor,
    f_law_pen := f_law_pen,
    fd_law_pen := _,
    F_law_pen := fun_mk (st := s_law_pen) l_law_pen c_law_pen k_law_pen,
    g_law_pen := PySem.W.mg_of X G a_law_pen,
    f_law_draw := f_law_draw,
    fd_law_draw := _,
    F_law_draw := fun_mk (st := s_law_draw) l_law_draw c_law_draw k_law_draw,
    g_law_draw := PySem.W.mg_of X G a_law_draw,
    f_law_one_of := f_law_one_of,
    fd_law_one_of := _,
    F_law_one_of := fun_mk (st := s_law_one_of) l_law_one_of c_law_one_of k_law_one_of,
    g_law_one_of := PySem.W.mg_of X G a_law_one_of,
    f_law_low := f_law_low,
    fd_law_low := _,
    F_law_low := fun_mk (st := s_law_low) l_law_low c_law_low k_law_low,
    g_law_low := PySem.W.mg_of X G a_law_low,
    f_law_plus := f_law_plus,
    fd_law_plus := _,
    F_law_plus := fun_mk (st := s_law_plus) l_law_plus c_law_plus k_law_plus,
    g_law_plus := PySem.W.mg_of X G a_law_plus,
    f_law_times := f_law_times,
    fd_law_times := _,
    F_law_times := fun_mk (st := s_law_times) l_law_times c_law_times k_law_times,
    g_law_times := PySem.W.mg_of X G a_law_times,
    f_law_sum := f_law_sum,
    fd_law_sum := _,
    F_law_sum := fun_mk (st := s_law_sum) l_law_sum c_law_sum k_law_sum,
    g_law_sum := PySem.W.mg_of X G a_law_sum,
    f_law_number := f_law_number,
    fd_law_number := _,
    F_law_number := fun_mk (st := s_law_number) l_law_number c_law_number k_law_number,
    g_law_number := PySem.W.mg_of X G a_law_number,
    f_law_words := f_law_words,
    fd_law_words := _,
    F_law_words := fun_mk (st := s_law_words) l_law_words c_law_words k_law_words,
    g_law_words := PySem.W.mg_of X G a_law_words,
    f_law_even := f_law_even,
    fd_law_even := _,
    F_law_even := fun_mk (st := s_law_even) l_law_even c_law_even k_law_even,
    g_law_even := PySem.W.mg_of X G a_law_even,
    f_law_triangle := f_law_triangle,
    fd_law_triangle := _,
    F_law_triangle := fun_mk (st := s_law_triangle) l_law_triangle c_law_triangle k_law_triangle,
    g_law_triangle := PySem.W.mg_of X G a_law_triangle,
    f_law := fa,
    fd_law := _,
    F_law := fun_mk (st := s_law) l_law c_law k_law,
    g_law := PySem.W.mg_of X G a_law,
    z_abs := PySem.W.mg_none_of X G z_abs,
    z_all := PySem.W.mg_none_of X G z_all,
    z_bool := PySem.W.mg_none_of X G z_bool,
    z_int := PySem.W.mg_none_of X G z_int,
    z_isinstance := PySem.W.mg_none_of X G z_isinstance,
    z_len := PySem.W.mg_none_of X G z_len,
    z_list := PySem.W.mg_none_of X G z_list,
    z_max := PySem.W.mg_none_of X G z_max,
    z_range := PySem.W.mg_none_of X G z_range,
    z_repr := PySem.W.mg_none_of X G z_repr,
    z_sum := PySem.W.mg_none_of X G z_sum,
    z_tuple := PySem.W.mg_none_of X G z_tuple,
    dg_ := dg_,
    t_MOST_GOODS := t_MOST_GOODS,
    c_MOST_GOODS := PySem.W.mg_of X G v_MOST_GOODS,
    t_MOST_DAYS := t_MOST_DAYS,
    c_MOST_DAYS := PySem.W.mg_of X G v_MOST_DAYS,
    t_MOST_COUNT := t_MOST_COUNT,
    c_MOST_COUNT := PySem.W.mg_of X G v_MOST_COUNT }
  have hN : NOk (GC T).N T := ⟨rfl⟩
  refine ⟨T.fd_law, GC T, [], ?_, ?_, ?_, fun s v => .of_eq rfl, rfl, fun H ht p mp => ?_, fun b tb => ?_, fun base kin ns tb => ok_law (P := l.prog) T hN⟩
  · intro p mp; cases mp
  · intro p mp; cases mp
  · intro p mp; cases mp
  · cases mp
  · obtain ⟨p, mp, rfl⟩ := tb; cases mp
end K70
open PySem PySem.W PyProof.Rows
set_option maxHeartbeats 0 in
theorem PySem.Challenge.cw_hindprice_k70_even_weights_and_factors_holds : PySem.Challenge.rw_hindprice_k70_even_weights_and_factors.Holds := by
  w_on; o_law; k_head; (case hw => w_witness2)
  k_fill
  refine Ev.walk_evT (l := PySem.Challenge.rw_hindprice_k70_even_weights_and_factors) (n := 63) (k := 6) (x := "_law_script") (φ := K70.m_law) rfl (by decide) rfl ⟨rfl, by decide, by decide⟩ (fun w h Y => PySem.W.kIn_of Y) ?F K70.law_true
  case F =>
    intro w mg fa h Y KX G hmg
    refine' K70.all_mk KX G hmg ?a_is_integer ?l_is_integer ?c_is_integer ?k_is_integer ?a_is_within ?l_is_within ?c_is_within ?k_is_within ?a_is_list ?l_is_list ?c_is_list ?k_is_list ?a_common ?l_common ?c_common ?k_common ?a_need_integer ?l_need_integer ?c_need_integer ?k_need_integer ?a_need_goods ?l_need_goods ?c_need_goods ?k_need_goods ?a_need_days ?l_need_days ?c_need_days ?k_need_days ?a_need_counts ?l_need_counts ?c_need_counts ?k_need_counts ?a_lowest ?l_lowest ?c_lowest ?k_lowest ?a_choose_in ?l_choose_in ?c_choose_in ?k_choose_in ?a_factorial ?l_factorial ?c_factorial ?k_factorial ?a_weight_in ?l_weight_in ?c_weight_in ?k_weight_in ?a_factor_in ?l_factor_in ?c_factor_in ?k_factor_in ?a_even_weight ?l_even_weight ?c_even_weight ?k_even_weight ?a_even_factor ?l_even_factor ?c_even_factor ?k_even_factor ?a_law_pen ?l_law_pen ?c_law_pen ?k_law_pen ?a_law_draw ?l_law_draw ?c_law_draw ?k_law_draw ?a_law_one_of ?l_law_one_of ?c_law_one_of ?k_law_one_of ?a_law_low ?l_law_low ?c_law_low ?k_law_low ?a_law_plus ?l_law_plus ?c_law_plus ?k_law_plus ?a_law_times ?l_law_times ?c_law_times ?k_law_times ?a_law_sum ?l_law_sum ?c_law_sum ?k_law_sum ?a_law_number ?l_law_number ?c_law_number ?k_law_number ?a_law_words ?l_law_words ?c_law_words ?k_law_words ?a_law_even ?l_law_even ?c_law_even ?k_law_even ?a_law_triangle ?l_law_triangle ?c_law_triangle ?k_law_triangle ?a_law ?l_law ?c_law ?k_law ?z_abs ?z_all ?z_bool ?z_int ?z_isinstance ?z_len ?z_list ?z_max ?z_range ?z_repr ?z_sum ?z_tuple ?dg_ ?v_MOST_GOODS ?v_MOST_DAYS ?v_MOST_COUNT
    (case a_is_integer => k_is); (case l_is_integer => k_is); (case c_is_integer => k_is); (case k_is_integer => k_is); (case a_is_within => k_is); (case l_is_within => k_is); (case c_is_within => k_is); (case k_is_within => k_is); (case a_is_list => k_is); (case l_is_list => k_is); (case c_is_list => k_is); (case k_is_list => k_is); (case a_common => k_is); (case l_common => k_is); (case c_common => k_is); (case k_common => k_is); (case a_need_integer => k_is); (case l_need_integer => k_is); (case c_need_integer => k_is); (case k_need_integer => k_is); (case a_need_goods => k_is); (case l_need_goods => k_is); (case c_need_goods => k_is); (case k_need_goods => k_is); (case a_need_days => k_is); (case l_need_days => k_is); (case c_need_days => k_is); (case k_need_days => k_is); (case a_need_counts => k_is); (case l_need_counts => k_is); (case c_need_counts => k_is); (case k_need_counts => k_is); (case a_lowest => k_is); (case l_lowest => k_is); (case c_lowest => k_is); (case k_lowest => k_is); (case a_choose_in => k_is); (case l_choose_in => k_is); (case c_choose_in => k_is); (case k_choose_in => k_is); (case a_factorial => k_is); (case l_factorial => k_is); (case c_factorial => k_is); (case k_factorial => k_is); (case a_weight_in => k_is); (case l_weight_in => k_is); (case c_weight_in => k_is); (case k_weight_in => k_is); (case a_factor_in => k_is); (case l_factor_in => k_is); (case c_factor_in => k_is); (case k_factor_in => k_is); (case a_even_weight => k_is); (case l_even_weight => k_is); (case c_even_weight => k_is); (case k_even_weight => k_is); (case a_even_factor => k_is); (case l_even_factor => k_is); (case c_even_factor => k_is); (case k_even_factor => k_is); (case a_law_pen => k_is); (case l_law_pen => k_is); (case c_law_pen => k_is); (case k_law_pen => k_is); (case a_law_draw => k_is); (case l_law_draw => k_is); (case c_law_draw => k_is); (case k_law_draw => k_is); (case a_law_one_of => k_is); (case l_law_one_of => k_is); (case c_law_one_of => k_is); (case k_law_one_of => k_is); (case a_law_low => k_is); (case l_law_low => k_is); (case c_law_low => k_is); (case k_law_low => k_is); (case a_law_plus => k_is); (case l_law_plus => k_is); (case c_law_plus => k_is); (case k_law_plus => k_is); (case a_law_times => k_is); (case l_law_times => k_is); (case c_law_times => k_is); (case k_law_times => k_is); (case a_law_sum => k_is); (case l_law_sum => k_is); (case c_law_sum => k_is); (case k_law_sum => k_is); (case a_law_number => k_is); (case l_law_number => k_is); (case c_law_number => k_is); (case k_law_number => k_is); (case a_law_words => k_is); (case l_law_words => k_is); (case c_law_words => k_is); (case k_law_words => k_is); (case a_law_even => k_is); (case l_law_even => k_is); (case c_law_even => k_is); (case k_law_even => k_is); (case a_law_triangle => k_is); (case l_law_triangle => k_is); (case c_law_triangle => k_is); (case k_law_triangle => k_is); (case a_law => k_is); (case l_law => k_is); (case c_law => k_is); (case k_law => k_is); (case z_abs => k_is); (case z_all => k_is); (case z_bool => k_is); (case z_int => k_is); (case z_isinstance => k_is); (case z_len => k_is); (case z_list => k_is); (case z_max => k_is); (case z_range => k_is); (case z_repr => k_is); (case z_sum => k_is); (case z_tuple => k_is); (case dg_ => first | k_is | kernel_rfl | decide +kernel); (case v_MOST_GOODS => k_is); (case v_MOST_DAYS => k_is); (case v_MOST_COUNT => k_is)

